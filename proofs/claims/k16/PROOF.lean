import PyProof.Rows.All
import Wide.All
import OpenK.AllK
import Wide.FinOn
import HandS.ForMost
import HandS.ForExc
import HandS.CallSlots
import HandS.Walk
import HandS.Wide
import HandS.IsInst
import HandS.Style
import HandS.ExcInit
import KE.KExcIs
import HandS.Defaults
import HandS.Replace
import HandS.StrMore
import PyProof.ReprLen
import HandS.TryMany
import KE.KTryMore
import HandS.ExcField
import PyProof.ReprRoads
import HandS.TupAny
import HandS.TupMul
import KE.KUnpackStar
import PyProof.StrBlock2
import HandS.RaiseMore
import PyProof.EqAt
import PyProof.NeKinds
import HandS.Small
import HandS.Deep
import HandS.TupLen
import HandS.More
import HandS.DictTup
import KE.DataFind
import HandS.DictComp
import KE.KDictList
import HandS.Sort
import PyProof.Conv_int_bool
import HandS.OwnEq
import KE.KCallOwn
import HandS.TryOnly
import PyProof.FactsAll.dict
import PyProof.P3Eq
import PySem.Challenge.RW_drowsetree_k16_logs_kept
set_option Elab.async false
set_option linter.all false
set_option maxRecDepth 100000
set_option maxHeartbeats 2000000
namespace DL
open PySem L2

/-! ## data -/
inductive D where
  | non | bl (b : Bool) | int (i : Int) | str (x : Str) | ref (a : Addr) | ty (n : String)
  | lst (xs : List D) | sq (xs : List D) | tup (xs : List D) | dct (kvs : List (Key × D)) | ins (C : Addr) (fs : List (Str × D))

mutual
inductive Rep (K : PySem.W.Frag) (I : Hp) : V → D → Prop
  | non : Rep K I .non .non
  | bl (b : Bool) : Rep K I (.bl b) (.bl b)
  | int (i : Int) : Rep K I (.int i) (.int i)
  | str (x : Str) : Rep K I (.str x) (.str x)
  | ref (a : Addr) : Rep K I (.ref a) (.ref a)
  | ty (n : String) : Rep K I (.ty n) (.ty n)
  | lst {a : Addr} {vs : List V} {ds : List D} : I a = some (.lst vs) → Reps K I vs ds → Rep K I (.ref a) (.lst ds)
  | sq {a : Addr} {vs : List V} {ds : List D} : SqL K I a vs → Reps K I vs ds → Rep K I (.ref a) (.sq ds)
  | tup {a : Addr} {vs : List V} {ds : List D} : SqT K I a vs → Reps K I vs ds → Rep K I (.ref a) (.tup ds)
  | dct {a : Addr} {kvs : List (Key × V)} {kds : List (Key × D)} : I a = some (.dK kvs) → RepK K I kvs kds → Rep K I (.ref a) (.dct kds)
  | ins {a C dx : Addr} {fs : List (Str × V)} {fds : List (Str × D)} : I a = some (.ins C dx fs) → RepF K I fs fds → Rep K I (.ref a) (.ins C fds)
inductive Reps (K : PySem.W.Frag) (I : Hp) : List V → List D → Prop
  | nil : Reps K I [] []
  | cons {v : V} {d : D} {vs : List V} {ds : List D} : Rep K I v d → Reps K I vs ds → Reps K I (v :: vs) (d :: ds)
inductive RepK (K : PySem.W.Frag) (I : Hp) : List (Key × V) → List (Key × D) → Prop
  | nil : RepK K I [] []
  | cons {k : Key} {v : V} {d : D} {vs : List (Key × V)} {ds : List (Key × D)} : Rep K I v d → RepK K I vs ds → RepK K I ((k, v) :: vs) ((k, d) :: ds)
inductive RepF (K : PySem.W.Frag) (I : Hp) : List (Str × V) → List (Str × D) → Prop
  | nil : RepF K I [] []
  | cons {k : Str} {v : V} {d : D} {vs : List (Str × V)} {ds : List (Str × D)} : Rep K I v d → RepF K I vs ds → RepF K I ((k, v) :: vs) ((k, d) :: ds)
end

theorem sq_mono {K : PySem.W.Frag} {I I' : Hp} (e : Same I I') {a : Addr} {xs : List V} (h : SqL K I a xs) : SqL K I' a xs := e.seq h
theorem st_mono {K : PySem.W.Frag} {I I' : Hp} (e : Same I I') {a : Addr} {xs : List V} (h : SqT K I a xs) : SqT K I' a xs := by
  rcases h with (h | ⟨o, h⟩) | h
  · exact .inl (.inl (e _ _ h))
  · exact .inl (.inr ⟨o, e _ _ h⟩)
  · exact .inr h
mutual
theorem Rep.mono {K : PySem.W.Frag} {I I' : Hp} (e : Same I I') : ∀ {v : V} {d : D}, Rep K I v d → Rep K I' v d
  | _, _, .non => .non
  | _, _, .bl b => .bl b
  | _, _, .int i => .int i
  | _, _, .str x => .str x
  | _, _, .ref a => .ref a
  | _, _, .ty n => .ty n
  | _, _, .lst h r => .lst (e _ _ h) (Reps.mono e r)
  | _, _, .sq h r => .sq (sq_mono e h) (Reps.mono e r)
  | _, _, .tup h r => .tup (st_mono e h) (Reps.mono e r)
  | _, _, .dct h r => .dct (e _ _ h) (RepK.mono e r)
  | _, _, .ins h r => .ins (e _ _ h) (RepF.mono e r)
theorem Reps.mono {K : PySem.W.Frag} {I I' : Hp} (e : Same I I') : ∀ {vs : List V} {ds : List D}, Reps K I vs ds → Reps K I' vs ds
  | _, _, .nil => .nil
  | _, _, .cons h r => .cons (Rep.mono e h) (Reps.mono e r)
theorem RepK.mono {K : PySem.W.Frag} {I I' : Hp} (e : Same I I') : ∀ {vs : List (Key × V)} {ds : List (Key × D)}, RepK K I vs ds → RepK K I' vs ds
  | _, _, .nil => .nil
  | _, _, .cons h r => .cons (Rep.mono e h) (RepK.mono e r)
theorem RepF.mono {K : PySem.W.Frag} {I I' : Hp} (e : Same I I') : ∀ {vs : List (Str × V)} {ds : List (Str × D)}, RepF K I vs ds → RepF K I' vs ds
  | _, _, .nil => .nil
  | _, _, .cons h r => .cons (Rep.mono e h) (RepF.mono e r)
end

inductive RepT (K : PySem.W.Frag) (I : Hp) : List (List Key × V) → List (List Key × D) → Prop
  | nil : RepT K I [] []
  | cons {k : List Key} {v : V} {d : D} {vs : List (List Key × V)} {ds : List (List Key × D)} : Rep K I v d → RepT K I vs ds → RepT K I ((k, v) :: vs) ((k, d) :: ds)
theorem RepT.mono {K : PySem.W.Frag} {I I' : Hp} (e : Same I I') : ∀ {vs : List (List Key × V)} {ds : List (List Key × D)}, RepT K I vs ds → RepT K I' vs ds
  | _, _, .nil => .nil
  | _, _, .cons h r => .cons (Rep.mono e h) (RepT.mono e r)
/-! ## mutable objects, the heap's relation -/
inductive MO where
  | lst (xs : List D) | dct (kvs : List (Key × D)) | ins (C : Addr) (fs : List (Str × D)) | exc (C : Addr) (fs : List (Str × D)) | xd (fs : List (Str × D)) | dT (kvs : List (List Key × D)) | dctL (od : Obj) (us : List (Key × V)) (kvs : List (Key × D)) | dTL (od : Obj) (us : List (List Key × V)) (kvs : List (List Key × D))
abbrev Mp := Addr → Option MO
def updM (M : Mp) (a : Addr) (o : MO) : Mp := fun b => if b = a then some o else M b
/-- what the written part says of an own exception class whose instances are values -/
structure ExcCls (K : PySem.W.Frag) (C : Addr) : Prop where
  cl : (PySem.W.clsIn K C).isSome = true
  ga : PySem.W.findIn K (.ref C) "__getattribute__" = some (some (.builtin "BaseException.__getattribute__"))
  gt : PySem.W.findIn K (.ref C) "__getattr__" = some none
  sub : PySem.W.subIn K (.ref C) (.type "BaseException") = some true
  ca : PySem.W.findIn K (.ref C) "__class__" = some (some (.builtin "object.__class__"))
  sp : PySem.W.specialIn K (.builtin "object.__class__") "__get__" = some (some (.builtin "getset_descriptor.__get__"))
  tk : PySem.W.takesIn K (.builtin "object.__class__") = some true
  mr : PySem.W.mroIn K C (.type "object") = some true
  kit : ∀ n ∈ ["bool", "int", "str", "list", "tuple", "dict"], PySem.W.kitOne K (.ref C) (.type n) = some false
def RepO (K : PySem.W.Frag) (I H : Hp) (a : Addr) (o : HO) : MO → Prop
  | .lst ds => ∃ vs, o = .lst vs ∧ Reps K I vs ds
  | .dct ds => ∃ vs, o = .dK vs ∧ RepK K I vs ds
  | .ins C ds => ∃ dx fs, o = .ins C dx fs ∧ RepF K I fs ds
  | .xd ds => ∃ vs, o = .xd vs ∧ RepF K I vs ds
  | .dT ds => ∃ vs, o = .dT vs ∧ RepT K I vs ds
  | .dctL od us ds => o = .frz od (.dK us) ∧ RepK K I us ds
  | .dTL od us ds => o = .frz od (.dT us) ∧ RepT K I us ds
  | .exc C ds => ExcCls K C ∧ ∃ d vs, o = exo a C (some d) ∧ H d = some (exd d vs) ∧ RepF K I vs ds
theorem RepO.mono {K : PySem.W.Frag} {I I' H H' : Hp} {a : Addr} (e : Same I I') {o : HO} {m : MO} (h : RepO K I H a o m) (k : ∀ d φ, H d = some (.ext φ) → H' d = some (.ext φ)) : RepO K I' H' a o m := by
  cases m with
  | lst ds => obtain ⟨vs, e1, r⟩ := h; exact ⟨vs, e1, r.mono e⟩
  | dct ds => obtain ⟨vs, e1, r⟩ := h; exact ⟨vs, e1, r.mono e⟩
  | ins C ds => obtain ⟨dx, vs, e1, r⟩ := h; exact ⟨dx, vs, e1, r.mono e⟩
  | exc C ds => obtain ⟨c, d, vs, e1, e2, r⟩ := h; exact ⟨c, d, vs, e1, k _ _ e2, r.mono e⟩
  | xd ds => obtain ⟨vs, e1, r⟩ := h; exact ⟨vs, e1, r.mono e⟩
  | dT ds => obtain ⟨vs, e1, r⟩ := h; exact ⟨vs, e1, r.mono e⟩
  | dctL od us ds => exact ⟨h.1, h.2.mono e⟩
  | dTL od us ds => exact ⟨h.1, h.2.mono e⟩

structure HR (K : PySem.W.Frag) (I : Hp) (M : Mp) (F : Hp) (H : Hp) : Prop where
  imm : ∀ a o, I a = some o → H a = some o
  mu : ∀ a m, M a = some m → I a = none ∧ ∃ o, H a = some o ∧ RepO K I H a o m
  frm : ∀ a o, F a = some o → H a = some o ∧ I a = none ∧ M a = none
  ft : ∀ a vs, F a ≠ some (.tup vs)
theorem ft_upd {F : Hp} {p : Addr} {o : HO} (h : ∀ a vs, F a ≠ some (.tup vs)) (ho : ∀ vs, o ≠ .tup vs) : ∀ a vs, upd F p o a ≠ some (.tup vs) := fun a vs e => by
  by_cases q : a = p
  · subst q; rw [upd_same] at e; cases e; exact ho vs rfl
  · rw [upd_ne q] at e; exact h a vs e
theorem ft_off {F : Hp} {p : Addr} {o : HO} (h : ∀ a vs, upd F p o a ≠ some (.tup vs)) (hF : F p = none) : ∀ a vs, F a ≠ some (.tup vs) := fun a vs e => by
  have q : a ≠ p := fun z => by rw [z, hF] at e; cases e
  exact h a vs (by rw [upd_ne q]; exact e)

theorem HR.fresh {K : PySem.W.Frag} {I : Hp} {M : Mp} {F H : Hp} (h : HR K I M F H) {p : Addr} (hp : H p = none) : I p = none ∧ M p = none ∧ F p = none := by
  refine ⟨?_, ?_, ?_⟩
  · cases q : I p with
    | none => rfl
    | some o => rw [h.imm p o q] at hp; cases hp
  · cases q : M p with
    | none => rfl
    | some o => obtain ⟨_, u, e, _⟩ := h.mu p o q; rw [e] at hp; cases hp
  · cases q : F p with
    | none => rfl
    | some o => rw [(h.frm p o q).1] at hp; cases hp
theorem same_new {I : Hp} {p : Addr} {o : HO} (h : I p = none) : Same I (upd I p o) := fun a u e => by
  rw [upd_ne (ne_of_none e h)]; exact e
/-- a new frozen object -/
theorem HR.newI {K : PySem.W.Frag} {I : Hp} {M : Mp} {F H : Hp} (h : HR K I M F H) {p : Addr} (hp : H p = none) (o : HO) : HR K (upd I p o) M F (upd H p o) := by
  obtain ⟨h1, h2, h3⟩ := h.fresh hp
  refine ⟨fun a u e => ?_, fun a m e => ?_, fun a u e => ?_, h.ft⟩
  · by_cases q : a = p
    · subst q; rw [upd_same] at e; rw [upd_same]; exact e
    · rw [upd_ne q] at e; rw [upd_ne q]; exact h.imm a u e
  · have q : a ≠ p := fun z => by rw [z, h2] at e; cases e
    obtain ⟨x, u, y, z⟩ := h.mu a m e
    rw [upd_ne q, upd_ne q]
    exact ⟨x, u, y, z.mono (same_new h1) fun d φ e => by rw [upd_ne (ne_of_none e hp)]; exact e⟩
  · have q : a ≠ p := fun z => by rw [z, h3] at e; cases e
    obtain ⟨x, y, z⟩ := h.frm a u e
    rw [upd_ne q, upd_ne q]
    exact ⟨x, y, z⟩
theorem updM_same {M : Mp} {a : Addr} {o : MO} : updM M a o a = some o := if_pos rfl
theorem updM_ne {M : Mp} {a b : Addr} {o : MO} (h : b ≠ a) : updM M a o b = M b := if_neg h
/-- a new mutable object -/
theorem HR.newM {K : PySem.W.Frag} {I : Hp} {M : Mp} {F H : Hp} (h : HR K I M F H) {p : Addr} (hp : H p = none) {o : HO} {m : MO} (r : RepO K I H p o m) : HR K I (updM M p m) F (upd H p o) := by
  obtain ⟨h1, h2, h3⟩ := h.fresh hp
  have kp : ∀ d φ, H d = some (.ext φ) → upd H p o d = some (.ext φ) := fun d φ e => by rw [upd_ne (ne_of_none e hp)]; exact e
  refine ⟨fun a u e => ?_, fun a n e => ?_, fun a u e => ?_, h.ft⟩
  · have q : a ≠ p := fun z => by rw [z, h1] at e; cases e
    rw [upd_ne q]; exact h.imm a u e
  · by_cases q : a = p
    · subst q; rw [updM_same] at e; cases e; rw [upd_same]; exact ⟨h1, o, rfl, r.mono (Same.refl I) kp⟩
    · rw [updM_ne q] at e; rw [upd_ne q]
      obtain ⟨x, y, z, t⟩ := h.mu a n e
      exact ⟨x, y, z, t.mono (Same.refl I) kp⟩
  · have q : a ≠ p := fun z => by rw [z, h3] at e; cases e
    rw [upd_ne q, updM_ne q]; exact h.frm a u e
/-- a mutable object is written -/
theorem HR.write {K : PySem.W.Frag} {I : Hp} {M : Mp} {F H : Hp} (h : HR K I M F H) {p : Addr} {m0 : MO} (hp : M p = some m0) (nx : ∀ C fs, m0 ≠ .exc C fs) {o : HO} {m : MO} (r : RepO K I H p o m) : HR K I (updM M p m) F (upd H p o) := by
  obtain ⟨h1, o0, ho, r0⟩ := h.mu p m0 hp
  have kp : ∀ d φ, H d = some (.ext φ) → upd H p o d = some (.ext φ) := fun d φ e => by
    rw [upd_ne (ne_of e ho ?_)]
    · exact e
    · cases m0 with
      | lst ds => obtain ⟨vs, e1, _⟩ := r0; rw [e1]; exact fun z => nomatch z
      | dct ds => obtain ⟨vs, e1, _⟩ := r0; rw [e1]; exact fun z => nomatch z
      | ins C ds => obtain ⟨dx, vs, e1, _⟩ := r0; rw [e1]; exact fun z => nomatch z
      | exc C ds => exact absurd rfl (nx C ds)
      | xd ds => obtain ⟨vs, e1, _⟩ := r0; rw [e1]; exact fun z => nomatch z
      | dT ds => obtain ⟨vs, e1, _⟩ := r0; rw [e1]; exact fun z => nomatch z
      | dctL od us ds => rw [r0.1]; exact fun z => nomatch z
      | dTL od us ds => rw [r0.1]; exact fun z => nomatch z
  refine ⟨fun a u e => ?_, fun a n e => ?_, fun a u e => ?_, h.ft⟩
  · have q : a ≠ p := fun z => by rw [z, h1] at e; cases e
    rw [upd_ne q]; exact h.imm a u e
  · by_cases q : a = p
    · subst q; rw [updM_same] at e; cases e; rw [upd_same]; exact ⟨h1, o, rfl, r.mono (Same.refl I) kp⟩
    · rw [updM_ne q] at e; rw [upd_ne q]
      obtain ⟨x, y, z, t⟩ := h.mu a n e
      exact ⟨x, y, z, t.mono (Same.refl I) kp⟩
  · obtain ⟨x, y, z⟩ := h.frm a u e
    have q : a ≠ p := fun z' => by rw [z', hp] at z; cases z
    rw [upd_ne q, updM_ne q]; exact ⟨x, y, z⟩

/-! ## states, wishes -/
abbrev DS := List (Option D)
abbrev DK := D → Mp → Prop
abbrev DXK := Value → Option (List (Str × D)) → Mp → Prop
abbrev DTE := DS → Mp → DK → DXK → Prop
abbrev DTT := DS → Mp → (Bool → Mp → Prop) → DXK → Prop
abbrev DTA := DS → Mp → (List D → Mp → Prop) → DXK → Prop
structure RepS (K : PySem.W.Frag) (I : Hp) (σ : St) (δ : DS) : Prop where
  len : σ.length = δ.length
  get : ∀ (i : Nat) (d : D), δ[i]? = some (some d) → ∃ v, σ[i]? = some (some v) ∧ Rep K I v d
theorem RepS.mono {K : PySem.W.Frag} {I I' : Hp} (e : Same I I') {σ : St} {δ : DS} (h : RepS K I σ δ) : RepS K I' σ δ :=
  ⟨h.len, fun i d q => let ⟨v, a, b⟩ := h.get i d q; ⟨v, a, b.mono e⟩⟩
theorem RepS.set {K : PySem.W.Frag} {I : Hp} {σ : St} {δ : DS} {v : V} {d : D} (h : RepS K I σ δ) (i : Nat) (r : Rep K I v d) : RepS K I (σ.set i (some v)) (δ.set i (some d)) := by
  refine ⟨by rw [List.length_set, List.length_set]; exact h.len, fun j x e => ?_⟩
  by_cases q : i = j
  · subst q
    have hl : i < δ.length := by
      have := (List.getElem?_eq_some_iff.mp e).1
      rwa [List.length_set] at this
    rw [List.getElem?_set_self hl] at e
    cases e
    exact ⟨v, List.getElem?_set_self (by rw [h.len]; exact hl), r⟩
  · rw [List.getElem?_set_ne q] at e
    rw [List.getElem?_set_ne q]
    exact h.get j x e
theorem RepS.forget {K : PySem.W.Frag} {I : Hp} {σ : St} {δ : DS} {u : Option V} (h : RepS K I σ δ) (i : Nat) : RepS K I (σ.set i u) (δ.set i none) := by
  refine ⟨by rw [List.length_set, List.length_set]; exact h.len, fun j x e => ?_⟩
  by_cases q : i = j
  · subst q
    have hl : i < δ.length := by
      have := (List.getElem?_eq_some_iff.mp e).1
      rwa [List.length_set] at this
    rw [List.getElem?_set_self hl] at e
    cases e
  · rw [List.getElem?_set_ne q] at e
    rw [List.getElem?_set_ne q]
    exact h.get j x e
/-- an exception's own dict, told -/
def XD (K : PySem.W.Frag) (I : Hp) (M : Mp) (F H : Hp) : Option Addr → Option (List (Str × D)) → Prop
  | none, none => True
  | some d, some fs => (∃ vs, H d = some (.xd vs) ∧ RepF K I vs fs) ∧ I d = none ∧ M d = none ∧ F d = none
  | _, _ => False
theorem XD.offF {K : PySem.W.Frag} {I : Hp} {M : Mp} {F H : Hp} {p : Addr} {o : HO} : ∀ {dd : Option Addr} {fo : Option (List (Str × D))}, XD K I M (upd F p o) H dd fo → XD K I M F H dd fo
  | none, none, _ => trivial
  | some d, some fs, ⟨h, a, b, c⟩ => ⟨h, a, b, by
    by_cases e : d = p
    · subst e; rw [upd_same] at c; cases c
    · rw [upd_ne e] at c; exact c⟩
  | none, some _, h => h.elim
  | some _, none, h => h.elim
def Fin (K : PySem.W.Frag) (I F : Hp) (Qd : DK) (Q : VK) : Prop := ∀ d M' I' H' v, Qd d M' → Same I I' → HR K I' M' F H' → Rep K I' v d → Q v H'
def FinT (K : PySem.W.Frag) (I F : Hp) (Qd : Bool → Mp → Prop) (Q : Bool → Hp → Prop) : Prop := ∀ b M' I' H', Qd b M' → Same I I' → HR K I' M' F H' → Q b H'
def FinA (K : PySem.W.Frag) (I F : Hp) (Qd : List D → Mp → Prop) (Q : List V → Hp → Prop) : Prop := ∀ ds M' I' H' vs, Qd ds M' → Same I I' → HR K I' M' F H' → Reps K I' vs ds → Q vs H'
def FinX (K : PySem.W.Frag) (I F : Hp) (Ed : DXK) (E : XK) : Prop := ∀ cls fo M' I' H' dd, Ed cls fo M' → Same I I' → HR K I' M' F H' → XD K I' M' F H' dd fo → E cls dd H'
theorem FinX.mono {K : PySem.W.Frag} {I I' F : Hp} {Ed : DXK} {E : XK} (h : FinX K I F Ed E) (e : Same I I') : FinX K I' F Ed E := fun c fo M' I2 H' dd a b r x => h c fo M' I2 H' dd a (e.trans b) r x
theorem Fin.mono {K : PySem.W.Frag} {I I' F : Hp} {Qd : DK} {Q : VK} (h : Fin K I F Qd Q) (e : Same I I') : Fin K I' F Qd Q := fun d M' I2 H' v a b r x => h d M' I2 H' v a (e.trans b) r x
structure DEnds where
  nx : DS → Mp → Prop
  rt : DK
  ex : Value → Option (List (Str × D)) → DS → Mp → Prop
  bk : DS → Mp → Prop := fun _ _ => False
  ct : DS → Mp → Prop := fun _ _ => False
abbrev DTS := DEnds → DS → Mp → Prop
structure FinS (K : PySem.W.Frag) (W : WX) (I F : Hp) (Dd : DEnds) (Dn : Ends) : Prop where
  nx : ∀ δ' M' I' H' σ', Dd.nx δ' M' → Same I I' → HR K I' M' F H' → RepS K I' σ' δ' → Dn.nx σ' H'
  rt : Fin K I F Dd.rt Dn.rt
  ex : ∀ cls fo δ' M' I' H' σ' dd, Dd.ex cls fo δ' M' → Same I I' → HR K I' M' F H' → RepS K I' σ' δ' → XD K I' M' F H' dd fo → W cls dd σ' H'
  bk : ∀ δ' M' I' H' σ', Dd.bk δ' M' → Same I I' → HR K I' M' F H' → RepS K I' σ' δ' → Dn.bk σ' H'
  ct : ∀ δ' M' I' H' σ', Dd.ct δ' M' → Same I I' → HR K I' M' F H' → RepS K I' σ' δ' → Dn.ct σ' H'
theorem FinS.mono {K : PySem.W.Frag} {W : WX} {I I' F : Hp} {Dd : DEnds} {Dn : Ends} (h : FinS K W I F Dd Dn) (e : Same I I') : FinS K W I' F Dd Dn :=
  ⟨fun a b c d f q s => h.nx a b c d f q (e.trans s), h.rt.mono e, fun a b c d f g x y q s => h.ex a b c d f g x y q (e.trans s), fun a b c d f q s => h.bk a b c d f q (e.trans s), fun a b c d f q s => h.ct a b c d f q (e.trans s)⟩

/-! ## the judgements -/
def lE (K : PySem.W.Frag) (W : WX) (t : DTE) : TE := fun σ H Q => ∃ I M F δ Qd Ed, HR K I M F H ∧ RepS K I σ δ ∧ t δ M Qd Ed ∧ Fin K I F Qd Q ∧ FinX K I F Ed (WE W σ)
def lT (K : PySem.W.Frag) (W : WX) (t : DTT) : TT := fun σ H Q => ∃ I M F δ Qd Ed, HR K I M F H ∧ RepS K I σ δ ∧ t δ M Qd Ed ∧ FinT K I F Qd Q ∧ FinX K I F Ed (WE W σ)
def lA (K : PySem.W.Frag) (W : WX) (t : DTA) : TA := fun σ H Q => ∃ I M F δ Qd Ed, HR K I M F H ∧ RepS K I σ δ ∧ t δ M Qd Ed ∧ FinA K I F Qd Q ∧ FinX K I F Ed (WE W σ)
def lS (K : PySem.W.Frag) (W : WX) (t : DTS) : TS := fun Dn σ H => ∃ I M F δ Dd, HR K I M F H ∧ RepS K I σ δ ∧ t Dd δ M ∧ FinS K W I F Dd Dn
def DE (X : Cx) (W : WX) (e : Expr) (t : DTE) : Prop := PE X e (lE X.K W t)
def DT (X : Cx) (W : WX) (e : Expr) (t : DTT) : Prop := PT X e (lT X.K W t)
def DW (X : Cx) (W : WX) (e : Expr) (t : DTT) : Prop := PW X e (lT X.K W t)
def DA (X : Cx) (W : WX) (es : List Expr) (t : DTA) : Prop := PA X es (lA X.K W t)
def DSt (X : Cx) (W : WX) (s : Stmt) (t : DTS) : Prop := PS X s (lS X.K W t)
def DSs (X : Cx) (W : WX) (s : List Stmt) (t : DTS) : Prop := PSs X s (lS X.K W t)
theorem pe_imp {X : Cx} {e : Expr} {t t' : TE} (h : PE X e t) (i : ∀ σ H Q, t' σ H Q → t σ H Q) : PE X e t' := ⟨fun pins s σ H Q I q => h.run pins s σ H Q I (i σ H Q q)⟩
theorem pt_imp {X : Cx} {e : Expr} {t t' : TT} (h : PT X e t) (i : ∀ σ H Q, t' σ H Q → t σ H Q) : PT X e t' := ⟨fun pins s σ H Q I q => h.run pins s σ H Q I (i σ H Q q)⟩
theorem pw_imp {X : Cx} {e : Expr} {t t' : TT} (h : PW X e t) (i : ∀ σ H Q, t' σ H Q → t σ H Q) : PW X e t' := ⟨fun wh pins s σ H Q I q => h.run wh pins s σ H Q I (i σ H Q q)⟩
theorem pa_imp {X : Cx} {e : List Expr} {t t' : TA} (h : PA X e t) (i : ∀ σ H Q, t' σ H Q → t σ H Q) : PA X e t' := ⟨fun ps pins s σ H Q I q => h.run ps pins s σ H Q I (i σ H Q q)⟩
theorem ps_imp {X : Cx} {e : Stmt} {t t' : TS} (h : PS X e t) (i : ∀ Dn σ H, t' Dn σ H → t Dn σ H) : PS X e t' := ⟨fun pins s σ H D I q => h.run pins s σ H D I (i D σ H q)⟩
theorem pss_imp {X : Cx} {e : List Stmt} {t t' : TS} (h : PSs X e t) (i : ∀ Dn σ H, t' Dn σ H → t Dn σ H) : PSs X e t' := ⟨fun pins s σ H D I q => h.run pins s σ H D I (i D σ H q)⟩

/-! ## names, constants -/
section
variable {X : Cx} {W : WX} {e a b : Expr} {ta tb te : DTE} {pos : Pos}
def dVar (i : Nat) : DTE := fun δ M Q _ => ∃ d, δ[i]? = some (some d) ∧ Q d M
def dC (d : D) : DTE := fun _ M Q _ => Q d M
theorem d_var (i : Nat) {x : Str} (hN : X.N[i]? = some x := by rfl) (hv : Vis X.env.scope x := by first | exact Or.inl rfl | exact Or.inr (Or.inl rfl) | exact Or.inr (Or.inr rfl)) (hd : (x == ("__debug__" : Str)) = false := by decide)
    (hcd : (x == ("__classdict__" : Str)) = false := by decide) : DE X W (.Name x pos) (dVar i) := by
  refine pe_imp (pe_var hN hv hd hcd) fun σ H Q h => ?_
  obtain ⟨I, M, F, δ, Qd, Ed, hr, rs, ⟨d, e1, q⟩, fq, fx⟩ := h
  obtain ⟨v, e2, r⟩ := rs.get i d e1
  exact ⟨v, e2, fq d M I H v q (Same.refl I) hr r⟩
theorem d_const {u : V} {d : D} (h : PE X e (tC u)) (r : ∀ I, Rep X.K I u d) : DE X W e (dC d) := by
  refine pe_imp h fun σ H Q h => ?_
  obtain ⟨I, M, F, δ, Qd, Ed, hr, rs, q, fq, fx⟩ := h
  exact fq d M I H u q (Same.refl I) hr (r I)
theorem d_int {i j} : DE X W (.Constant (.int i) j pos) (dC (.int i)) := d_const pe_int fun _ => .int i
theorem d_bl {b j} : DE X W (.Constant (.bool b) j pos) (dC (.bl b)) := d_const pe_bl fun _ => .bl b
theorem d_non {j} : DE X W (.Constant .none j pos) (dC .non) := d_const pe_non fun _ => .non
theorem d_str {x j} : DE X W (.Constant (.str x) j pos) (dC (.str x)) := d_const pe_str fun _ => .str x
theorem d_glob {x : Str} {v : V} {u : Value} {d : D} (hg : Gl X x) (hm : X.mg x = some u) (r : RelV v u) (rr : ∀ I, Rep X.K I v d) (hd : (x == ("__debug__" : Str)) = false := by decide) : DE X W (.Name x pos) (dC d) := d_const (pe_glob hg hm r hd) rr
theorem d_bltn {x : Str} {v : V} {u : Value} {d : D} (hg : Gl X x) (hm : X.mg x = none) (hv : bootBuiltins x = some u) (r : RelV v u) (rr : ∀ I, Rep X.K I v d) (hn : x ≠ "__name__" := by decide) (hd : (x == ("__debug__" : Str)) = false := by decide) : DE X W (.Name x pos) (dC d) :=
  d_const (pe_bltn hg hm hv r hn hd) rr

/-! ## operations by values -/
abbrev DR2 := D → D → Mp → DK → Prop
def LR (K : PySem.W.Frag) (r' : R2) (r : DR2) : Prop := ∀ I M F H x y dx dy Qd Q, HR K I M F H → Rep K I x dx → Rep K I y dy → r dx dy M Qd → Fin K I F Qd Q → r' x y H Q
def dOp (r : DR2) (ta tb : DTE) : DTE := fun δ M Q E => ta δ M (fun x M1 => tb δ M1 (fun y M2 => r x y M2 Q) E) E
/-- two in a row -/
theorem op_lift {ta tb : DTE} {r : DR2} {r' : R2} {K : PySem.W.Frag} (hl : LR K r' r) : ∀ σ H Q, lE K W (dOp r ta tb) σ H Q → tOp r' (lE K W ta) (lE K W tb) σ H Q := by
  intro σ H Q h
  obtain ⟨I, M, F, δ, Qd, Ed, hr, rs, q, fq, fx⟩ := h
  refine ⟨I, M, F, δ, _, Ed, hr, rs, q, fun x M1 I1 H1 v q1 s1 hr1 r1 => ?_, fx⟩
  refine ⟨I1, M1, F, δ, _, Ed, hr1, rs.mono s1, q1, fun y M2 I2 H2 w q2 s2 hr2 r2 => ?_, fx.mono s1⟩
  exact hl I2 M2 F H2 v w x y Qd Q hr2 (r1.mono s2) r2 q2 (fq.mono (s1.trans s2))
theorem d_op {op : Operator} {r : DR2} {r' : R2} (ho : OpR X (binaryOp op) r') (hl : LR X.K r' r) (ha : DE X W a ta) (hb : DE X W b tb) : DE X W (.BinOp a op b pos) (dOp r ta tb) :=
  pe_imp (pe_op ho ha hb) (op_lift hl)
theorem d_cmp {op : CmpOp} {r : DR2} {r' : R2} (ho : OpR X (compareOp op) r') (hl : LR X.K r' r) (ha : DE X W a ta) (hb : DE X W b tb) (hm : behindInMarks op b = false) : DE X W (.Compare a [op] [b] pos) (dOp r ta tb) :=
  pe_imp (pe_cmpR ho ha hb hm) (op_lift hl)
theorem d_ix {r : DR2} {r' : R2} (hr : IxR X r') (hl : LR X.K r' r) (ha : DE X W a ta) (hb : DE X W b tb) (hs : PlainIx b) : DE X W (.Subscript a b pos) (dOp r ta tb) :=
  pe_imp (pe_ix hr ha hb hs) (op_lift hl)
end
end DL

set_option Elab.async false
set_option linter.all false
set_option maxRecDepth 100000
set_option maxHeartbeats 2000000
namespace DL
open PySem PySem.Spec PyProof.Rows L2

/-! ## defs whose surroundings are under no repr guard -/
abbrev NoGd (A : Around) : Prop := A.guards = some []
theorem nogd_deeper {A : Around} (h : NoGd A) (env : Env) : NoGd (A.deeper env) := by
  have e : (A.deeper env).guards = A.guards := by first | rfl | simp [Around.deeper]
  exact e.trans h
structure FnG (P : Program) (w : World) (K : PySem.W.Frag) (mg : Str → Option Value) (base : Heap) (C : CXT) (k : Nat) (f : Addr) (fd : FuncData) (ps : List Str) (sp : Sp) : Prop where
  len : ∀ vs H Q E, sp vs H Q E → vs.length = ps.length
  run : ∀ (A : Around) (l : List Env) (s : Shared) (H : Hp) (g : Args) (us : List Value) (vs : List V) (Q : VK) (E : XK),
    NoGd A → Room k A → Env0 P w K mg base A l s H → BindsTo s fd g (ps.zip us) → Vals vs us → sp vs H Q E → codeAny (model P w) A (.call (.ref f) g) (CR C l P w H s Q E) s
section
variable {P : Program} {w : World} {K : PySem.W.Frag} {mg : Str → Option Value} {base : Heap} {C : CXT} {k : Nat} {f : Addr}
theorem FnG.up {j : Nat} {fd : FuncData} {ps : List Str} {sp : Sp} (F : FnG P w K mg base C j f fd ps sp) (h : j ≤ k) : FnG P w K mg base C k f fd ps sp :=
  ⟨F.len, fun A l s H g us vs Q E n r => F.run A l s H g us vs Q E n (r.mono h)⟩
/-- a def by its body -/
theorem fng_of {nm qn : Str} {pa : Arguments} {bd : List Stmt} {sc : Scope} {dV kV dc pm cv ct oc : Value} {an od : Option Addr} {sl : Array (Option Value)} {N ps : List Str} {sp : Sp}
    (lk : K.lookup f = some ⟨oc, od, .func (PySem.W.fnOf nm qn pa bd sc dV kV dc pm an cv ct), sl⟩) (hc : PySem.W.codeIn K cv qn = true) (S : FnScope N ps sc) (len : ∀ vs H Q E, sp vs H Q E → vs.length = ps.length)
    (hbd : ∀ (A : Around) (l : List Env) (s : Shared) (H : Hp) (vs : List V) (Q : VK) (E : XK), NoGd A → Room k (A.deeper (envOfC qn sc s.heap.objs.size f cv)) → sp vs H Q E →
      ∃ t, PSs (cxOf C P w K mg base N qn sc f cv A l s H E) bd t ∧ t { nx := fun _ H' => Q .non H', rt := Q } (start N vs) H) :
    FnG P w K mg base C (k + 1) f (PySem.W.fnOf nm qn pa bd sc dV kV dc pm an cv ct) ps sp := by
  constructor
  · exact len
  intro A l s H g us vs Q E ng rm en bt rv pr
  have inK : K.In s.heap := en.mod.kin.keeps (fun b o z => (en.bs b o z).1)
  have kinds : ∀ y ∈ ps.zip us, sc.names.lookup y.1 = some .local ∨ (sc.names.lookup y.1 = some .cell ∧ ((cellsFrom (s.heap.objs.size + 1) sc.names []).lookup y.1).isSome = true) := by
    intro y hy
    cases S.par y.1 (List.of_mem_zip (a := y.1) (b := y.2) hy).1 with
    | inl q => exact Or.inl q
    | inr q => exact Or.inr ⟨q, PySem.W.cellsFrom_some _ _ _ (Or.inl q)⟩
  refine codeAny_call_function rm.depth (inK _ _ lk) rfl S.co S.gen rfl (PySem.W.codeRec_of inK hc) (bt _ _ _ _ ?_)
  refine wpAny_newFunctionEnv_cells S.kind kinds (fun env ev s1 ic => ?_)
  subst ev
  refine ⟨(en.mod.nolimit.keeps (fun b o z => (en.bs b o z).1)).keeps ic.toInCall.keep, codeAny_func ?_⟩
  obtain ⟨t, pt, tq⟩ := hbd A l s H vs Q E ng (rm.deeper _) pr
  have iv : Inv (cxOf C P w K mg base N qn sc f cv A l s H E) [] (start N vs) H s1 := inv_start S rm.hd en (len _ _ _ _ pr) rv ic
  refine wpAny_mono (pt.run [] s1 (start N vs) H _ iv tq) ?_ (fun _ _ z => z)
  intro fl s' z
  cases fl with
  | ret u => obtain ⟨v, σ', H', J, a, b⟩ := z; exact ⟨v, H', J.os, J.bare, J.base, J.hok, a, b⟩
  | next => obtain ⟨σ', H', J, b⟩ := z; exact ⟨V.non, H', J.os, J.bare, J.base, J.hok, rfl, b⟩
  | brk => obtain ⟨_, _, _, b⟩ := z; cases b
  | cont => obtain ⟨_, _, _, b⟩ := z; cases b
end
section
variable {X : Cx} {C : CXT} {k : Nat} {f : Addr} {fd : FuncData} {ps : List Str} {sp : Sp} {dvs : List V} {ds : List Value} {E : L2.St → XK}
/-- the call's own run -/
theorem goG {pins : List (Addr × Obj)} {σ : L2.St} {H : Hp} {s : Shared} {Q : VK} {g : Args} {bs : List Value} {xs : List V} (F : FnG X.prog X.w X.K X.mg X.base C k f fd ps sp) (ng : NoGd X.A) (rm : Room k X.A)
    (hx : PassesAt C X σ (E σ)) (I : Inv X pins σ H s) (bt : BindsTo s fd g (ps.zip bs)) (rv : Vals xs bs) (h : sp xs H Q (E σ)) : codeAny (model X.prog X.w) X.A (.call (.ref f) g) (fun r s' => match r with | .ok (.ret u) => EP X pins σ Q u s' | .ok _ => False | .error e => X.xe e s') s := by
  refine codeAny_mono (F.run X.A X.stack s H g bs xs Q (E σ) ng rm I.env0 bt rv h) (fun r s' z => ?_)
  cases r with
  | error e => exact hx pins H s e s' I z
  | ok fl => cases fl with
    | ret u => exact I.after z
    | next => cases z
    | brk => cases z
    | cont => cases z
end
/-! ## the law's end -/
theorem law_callG {P : Program} {w : World} {K : PySem.W.Frag} {mg mb : Str → Option Value} {C : CXT} {k : Nat} {fa a : Addr} {fd : FuncData} {x : Str} {sp : Sp} {s1 : Shared} {vs : List Value} {ns : List Int}
    (KX : K.In s1.heap) (n1 : s1.heap.Ns mainGlobals mg) (n2 : s1.heap.Ns builtinsNs mb) (n3 : ∀ x : Str, x ≠ "__name__" → mb x = bootBuiltins x) (nl : s1.heap.NoLimit) (ge : s1.gens = #[])
    (ha : s1.heap.get? a = some { cls := .type "list", data := .seq vs.toArray }) (hi : IntsAre vs ns) (hl : ns.length ≤ sizeLine) (rm : Room k callerA)
    (F : ∀ b : Heap, K.In b → b.Ns mainGlobals mg → FnG P w K mg b C k fa fd [x] sp) (bt : ∀ (s : Shared) (u : Value), BindsTo s fd ⟨[u], []⟩ [(x, u)])
    (pr : ∀ H : Hp, Only H → SqL K H a (ns.map V.int) → sp [.ref a] H (fun v _ => v = .bl true) fun _ _ _ => False) (noX : ∀ H e s', C [] H s1 (fun _ _ _ => False) e s' → False) :
    codeAny (model P w) callerA (.call (.ref fa) ⟨[.ref a], []⟩) (fun r s' => r = .ok (.ret (.bool true)) ∧ OldK s1.heap s'.heap ∧ s'.os = s1.os ∧ AllBare s'.gens) s1 := by
  have main : ∀ H : Hp, Only H → SqL K H a (ns.map V.int) → HOk P w H s1.heap → (∀ b u, H b = some u → b = a ∧ K.lookup a = none) →
      codeAny (model P w) callerA (.call (.ref fa) ⟨[.ref a], []⟩) (fun r s' => r = .ok (.ret (.bool true)) ∧ OldK s1.heap s'.heap ∧ s'.os = s1.os ∧ AllBare s'.gens) s1 := by
    intro H only sq ok one
    have ndict : ∀ {b : Addr} {o : Obj} {es : Array DictEntry} {ep : Nat}, s1.heap.get? b = some o → o.data = .dict es ep → H b = none := by
      intro b o es ep g d
      cases z : H b with
      | none => rfl
      | some u =>
        cases (one b u z).1
        rw [ha] at g
        cases g
        exact nomatch (show Data.seq vs.toArray _ = Data.dict es ep from d)
    have toB : ∀ {b : Addr} {m : Str → Option Value}, s1.heap.Ns b m → (hidT s1.heap H).Ns b m := by
      intro b m z
      obtain ⟨o, es, ep, g, d, r⟩ := z
      exact ⟨o, es, ep, hidT_get g (ndict g d), d, r⟩
    have inB : K.In (hidT s1.heap H) := by
      intro b o g
      refine hidT_get (KX b o g) ?_
      cases z : H b with
      | none => rfl
      | some u =>
        obtain ⟨e1, e2⟩ := one b u z
        cases e1
        rw [e2] at g
        cases g
    obtain ⟨mc, c1, c2⟩ := nl
    have en : Env0 P w K mg (hidT s1.heap H) callerA [] s1 H :=
      { frames := rfl, mod := ⟨inB, toB n1, ⟨mb, toB n2, n3⟩, ⟨mc, toB c1, c2⟩⟩, bs := fun b o g => of_hidT g, bsz := Nat.le_of_eq (hidT_size _ _), funs := trivial, frf := fun b z => (nomatch (show b ∈ ([] : List Addr) from z)), hok := ok, bare := .of_eq ge }
    refine codeAny_mono ((F _ inB (toB n1)).run callerA [] s1 H ⟨[.ref a], []⟩ [.ref a] [.ref a] _ _ rfl rm en (bt s1 (.ref a)) (.cons rfl .nil) (pr H only sq)) ?_
    intro r s' z
    cases r with
    | error e => exact (noX H e s' z).elim
    | ok fl => cases fl with
      | next => cases z
      | brk => cases z
      | cont => cases z
      | ret u =>
        obtain ⟨v, H', o1, o2, un, ok2, rr, vv⟩ := z
        cases (show v = .bl true from vv)
        cases (show u = Value.bool true from rr)
        refine ⟨rfl, OldK.of_keep (fun b o g => ?_), o1, o2⟩
        rcases only b with y | ⟨ob, xs, y⟩
        · exact un.keep b o g y (fun q => nomatch (show b ∈ ([] : List Addr) from q)) (fun q => nomatch q)
        · have g1 := (ok b _ y).1
          have g2 := (ok2 b _ (un.frzs b ob _ y)).1
          rw [g] at g1
          cases g1
          exact g2
  have rv := vals_ints hi
  cases hk : K.lookup a with
  | some o =>
    have g := KX a o hk
    rw [ha] at g
    cases g
    exact main (fun _ => none) (fun _ => Or.inl rfl) (Or.inr ⟨_, vs.toArray, _, hk, rfl, rfl, rfl, by rw [List.size_toArray, hi.length]; exact hl, by simpa using rv⟩) (fun b u z => nomatch z) (fun b u z => nomatch z)
  | none =>
    have at1 : (upd (fun _ => none) a (.frz { cls := .type "list", data := .seq vs.toArray } (.lst (ns.map V.int))) : Hp) a = some (.frz { cls := .type "list", data := .seq vs.toArray } (.lst (ns.map V.int))) := upd_same
    have off : ∀ b u, (upd (fun _ => none) a (.frz { cls := .type "list", data := .seq vs.toArray } (.lst (ns.map V.int))) : Hp) b = some u → b = a := by
      intro b u z
      by_cases q : b = a
      · exact q
      · rw [upd_ne q] at z; cases z
    refine main (upd (fun _ => none) a (.frz { cls := .type "list", data := .seq vs.toArray } (.lst (ns.map V.int)))) (fun b => ?_) (Or.inl (Or.inr ⟨_, at1⟩)) (fun b u z => ?_) (fun b u z => ⟨off b u z, hk⟩)
    · by_cases q : b = a
      · subst q; exact Or.inr ⟨_, _, at1⟩
      · exact Or.inl (upd_ne q)
    · cases off b u z
      rw [at1] at z
      cases z
      exact ⟨ha, by rw [List.length_map]; exact hl, vs, _, rv, ha⟩
theorem walk_ofG {l : PySem.W.OpenLaw} {n k : Nat} {q : Program} {loose : List Str} {XP : (Str → Option Value) → Heap → Prop} {YP : World → Heap → Prop} {d : DefRec} {K : Params → PySem.W.Frag} {C : World → CXT} {sp : World → Sp} {x : Str}
    (hn : l.most = some n) (hn2 : n ≤ sizeLine) (hdf : d.params.defaults = []) (rm : Room k callerA) (hY : ∀ (w : World) (h : Heap), YP w h → (K w.params).In h)
    (F : ∀ (w : World) (mg : Str → Option Value) (fa : Addr) (h : Heap), (K w.params).In h → h.Ns mainGlobals mg → mg d.name = some (.ref fa) →
      ∃ fd : FuncData, (∀ (s : Shared) (u : Value), BindsTo s fd ⟨[u], []⟩ [(x, u)]) ∧ ∀ b : Heap, (K w.params).In b → b.Ns mainGlobals mg → FnG l.prog w (K w.params) mg b (C w) k fa fd [x] (sp w))
    (pr : ∀ (w : World) (H : Hp) (a : Addr) (ns : List Int), ns.length ≤ n → Only H → SqL (K w.params) H a (ns.map V.int) → sp w [.ref a] H (fun v _ => v = .bl true) fun _ _ _ => False)
    (noX : ∀ (w : World) (H : Hp) (s : Shared) (e : Value) (s' : Shared), C w [] H s (fun _ _ _ => False) e s' → False) : PySem.W.WalkO q loose XP YP l.row.toRowW d [] (fun f vs => PySem.call f vs) := by
  refine Att.attach_call hn hdf ?_
  intro w s0 s1 mg mb fa o pm cd doc a vs ns G Y h1 h2 h3 hmg hobj hints hlen hg
  obtain ⟨fd, b1, b2⟩ := F w mg fa _ (hY w _ Y) G.T.g hmg
  exact law_callG (hY w _ Y) G.T.g G.T.b G.T.builtins G.T.nolimit hg hobj hints (Nat.le_trans hlen hn2) rm b2 b1 (fun H o s => pr w H a ns hlen o s) (fun H e s' => noX w H s1 e s')
end DL

set_option Elab.async false
set_option linter.all false
set_option maxRecDepth 100000
set_option maxHeartbeats 2000000
namespace DL
open PySem L2

/-! ## truth, branches -/
def br (b : Bool) (A B : Prop) : Prop := match b with | true => A | false => B
theorem br2 {b : Bool} {A B : Prop} (h1 : b = true → A) (h2 : b = false → B) : br b A B := by
  cases b with
  | true => exact h1 rfl
  | false => exact h2 rfl
theorem brT {A B : Prop} {b : Bool} (e : b = true) (h : A) : br b A B := by subst e; exact h
theorem brF {A B : Prop} {b : Bool} (e : b = false) (h : B) : br b A B := by subst e; exact h
theorem br_ite {b : Bool} {A B : Prop} (h : br b A B) : if b = true then A else B := by
  cases b with
  | true => exact (if_pos rfl).mpr h
  | false => exact (if_neg Bool.false_ne_true).mpr h
def dB (d : D) (k : Bool → Prop) : Prop := match d with | .bl b => k b | _ => False
theorem dB_out {K : PySem.W.Frag} {I : Hp} {v : V} {d : D} {k : Bool → Prop} (r : Rep K I v d) (h : dB d k) : ∃ b, v = .bl b ∧ k b := by
  cases r <;> first | exact ⟨_, rfl, h⟩ | exact h.elim
def dTru (d : D) (M : Mp) (k : Bool → Prop) : Prop := match d with
  | .non => k false
  | .bl b => k b
  | .int i => k (i != 0)
  | .str y => y.length ≤ sizeLine ∧ k ((y.length : Int) != 0)
  | .lst xs => k (!xs.isEmpty)
  | .sq xs => k (!xs.isEmpty)
  | .tup xs => k (!xs.isEmpty)
  | .dct xs => k (!xs.isEmpty)
  | .ref a => ∃ m, M a = some m ∧ (match m with | .lst xs => k (!xs.isEmpty) | .dct xs => k (!xs.isEmpty) | _ => False)
  | _ => False
theorem Reps.len {K : PySem.W.Frag} {I : Hp} : ∀ {vs : List V} {ds : List D}, Reps K I vs ds → vs.length = ds.length
  | _, _, .nil => rfl
  | _, _, .cons _ r => congrArg (· + 1) r.len
theorem Reps.isE {K : PySem.W.Frag} {I : Hp} {vs : List V} {ds : List D} (r : Reps K I vs ds) : vs.isEmpty = ds.isEmpty := by cases r <;> rfl
theorem RepK.isE {K : PySem.W.Frag} {I : Hp} {vs : List (Key × V)} {ds : List (Key × D)} (r : RepK K I vs ds) : vs.isEmpty = ds.isEmpty := by cases r <;> rfl
theorem HR.sq {K : PySem.W.Frag} {I : Hp} {M : Mp} {F H : Hp} (h : HR K I M F H) {a : Addr} {vs : List V} (q : SqL K I a vs) : SqL K H a vs := sq_mono h.imm q
theorem HR.st {K : PySem.W.Frag} {I : Hp} {M : Mp} {F H : Hp} (h : HR K I M F H) {a : Addr} {vs : List V} (q : SqT K I a vs) : SqT K H a vs := st_mono h.imm q
theorem HR.lst {K : PySem.W.Frag} {I : Hp} {M : Mp} {F H : Hp} (h : HR K I M F H) {a : Addr} {ds : List D} (q : M a = some (.lst ds)) : ∃ vs, H a = some (.lst vs) ∧ Reps K I vs ds := by
  obtain ⟨_, o, e, vs, rfl, r⟩ := h.mu a _ q
  exact ⟨vs, e, r⟩
theorem HR.dct {K : PySem.W.Frag} {I : Hp} {M : Mp} {F H : Hp} (h : HR K I M F H) {a : Addr} {ds : List (Key × D)} (q : M a = some (.dct ds)) : ∃ vs, H a = some (.dK vs) ∧ RepK K I vs ds := by
  obtain ⟨_, o, e, vs, rfl, r⟩ := h.mu a _ q
  exact ⟨vs, e, r⟩
theorem HR.ins {K : PySem.W.Frag} {I : Hp} {M : Mp} {F H : Hp} (h : HR K I M F H) {a C : Addr} {ds : List (Str × D)} (q : M a = some (.ins C ds)) : ∃ dx fs, H a = some (.ins C dx fs) ∧ RepF K I fs ds := by
  obtain ⟨_, o, e, dx, vs, rfl, r⟩ := h.mu a _ q
  exact ⟨dx, vs, e, r⟩
theorem dTru_out {K : PySem.W.Frag} {I : Hp} {M : Mp} {F H : Hp} (h : HR K I M F H) {v : V} {d : D} {k : Bool → Prop} (r : Rep K I v d) (q : dTru d M k) : ∃ b, TruV K v H b ∧ k b := by
  cases r with
  | non => exact ⟨false, rfl, q⟩
  | bl b => exact ⟨b, rfl, q⟩
  | int i => exact ⟨_, rfl, q⟩
  | str x => exact ⟨_, ⟨q.1, rfl⟩, q.2⟩
  | ty n => exact q.elim
  | lst s rs => exact ⟨_, .inl ⟨_, SqL.of (h.imm _ _ s), rfl⟩, by rw [rs.isE]; exact q⟩
  | sq s rs => exact ⟨_, .inl ⟨_, h.sq s, rfl⟩, by rw [rs.isE]; exact q⟩
  | tup s rs => exact ⟨_, .inr (.inl ⟨_, h.st s, rfl⟩), by rw [rs.isE]; exact q⟩
  | dct s rs => exact ⟨_, .inr (.inr ⟨_, h.imm _ _ s, rfl⟩), by rw [rs.isE]; exact q⟩
  | ins s rs => exact q.elim
  | ref a =>
    obtain ⟨m, e, q⟩ := q
    cases m with
    | lst xs => obtain ⟨vs, e1, rs⟩ := h.lst e; exact ⟨_, .inl ⟨_, SqL.of e1, rfl⟩, by rw [rs.isE]; exact q⟩
    | dct xs => obtain ⟨vs, e1, rs⟩ := h.dct e; exact ⟨_, .inr (.inr ⟨_, e1, rfl⟩), by rw [rs.isE]; exact q⟩
    | ins C fs => exact q.elim
    | exc C fs => exact q.elim
    | xd fs => exact q.elim
    | dT fs => exact q.elim
    | dctL od us fs => exact q.elim
    | dTL od us fs => exact q.elim

section
variable {X : Cx} {W : WX} {e a b c : Expr} {ta tb tc te : DTE} {pos : Pos} {tA tB' : DTT} {rest : List Expr}
def dTest (t : DTE) : DTT := fun δ M Q E => t δ M (fun d M1 => dB d fun b => Q b M1) E
def dTruth (t : DTE) : DTT := fun δ M Q E => t δ M (fun d M1 => dTru d M1 fun b => Q b M1) E
theorem test_lift {K : PySem.W.Frag} {t : DTE} {σ : L2.St} {H : Hp} {Q : Bool → Hp → Prop} (h : lT K W (dTest t) σ H Q) : lE K W t σ H (fun x H' => ∃ k, x = .bl k ∧ Q k H') := by
  obtain ⟨I, M, F, δ, Qd, Ed, hr, rs, q, fq, fx⟩ := h
  refine ⟨I, M, F, δ, _, Ed, hr, rs, q, fun d M' I' H' v q' s' hr' r' => ?_, fx⟩
  obtain ⟨b, e1, e2⟩ := dB_out r' q'
  exact ⟨b, e1, fq b M' I' H' e2 s' hr'⟩
theorem t_val (h : DE X W e te) (he : ∀ whole, isTrue e X.env whole = (do let v ← whole; standAt e.pos; holding [v] (truthy v)) := by intro _; rfl) : DT X W e (dTest te) := pt_imp (pt_val h he) fun _ _ _ q => test_lift q
theorem t_truth (h : DE X W e te) (he : ∀ whole, isTrue e X.env whole = (do let v ← whole; standAt e.pos; holding [v] (truthy v)) := by intro _; rfl) : DT X W e (dTruth te) := by
  refine pt_imp (pt_truth h he) fun σ H Q q => ?_
  obtain ⟨I, M, F, δ, Qd, Ed, hr, rs, q, fq, fx⟩ := q
  refine ⟨I, M, F, δ, _, Ed, hr, rs, q, fun d M' I' H' v q' s' hr' r' => ?_, fx⟩
  obtain ⟨b, e1, e2⟩ := dTru_out hr' r' q'
  exact ⟨b, e1, fq b M' I' H' e2 s' hr'⟩
theorem t_cmp {op : CmpOp} {r : DR2} {r' : R2} (ho : OpR X (compareOp op) r') (hl : LR X.K r' r) (ha : DE X W a ta) (hb : DE X W b tb) (hm : behindInMarks op b = false) : DT X W (.Compare a [op] [b] pos) (dTest (dOp r ta tb)) :=
  pt_imp (pt_cmpR ho ha hb hm) fun _ _ _ q => op_lift hl _ _ _ (test_lift q)
def dChain (r r' : DR2) (ta tb tc : DTE) : DTE := fun δ M Q E => ta δ M (fun x M1 => tb δ M1 (fun y M2 => r x y M2 fun z M3 => dB z fun k => br k (tc δ M3 (fun w M4 => r' y w M4 Q) E) (Q (.bl false) M3)) E) E
theorem chain_lift {K : PySem.W.Frag} {r1 r2 : R2} {d1 d2 : DR2} (h1 : LR K r1 d1) (h2 : LR K r2 d2) : ∀ σ H Q, lE K W (dChain d1 d2 ta tb tc) σ H Q → tChain r1 r2 (lE K W ta) (lE K W tb) (lE K W tc) σ H Q := by
  intro σ H Q h
  obtain ⟨I, M, F, δ, Qd, Ed, hr, rs, q, fq, fx⟩ := h
  refine ⟨I, M, F, δ, _, Ed, hr, rs, q, fun x M1 I1 H1 v q1 s1 hr1 e1 => ?_, fx⟩
  refine ⟨I1, M1, F, δ, _, Ed, hr1, rs.mono s1, q1, fun y M2 I2 H2 w q2 s2 hr2 e2 => ?_, fx.mono s1⟩
  refine h1 I2 M2 F H2 v w x y _ _ hr2 (e1.mono s2) e2 q2 fun z M3 I3 H3 u q3 s3 hr3 e3 => ?_
  obtain ⟨k, ek, q4⟩ := dB_out e3 q3
  refine ⟨k, ek, ?_⟩
  have s13 := (s1.trans s2).trans s3
  cases k with
  | false => exact (if_neg Bool.false_ne_true).mpr (fq _ _ _ _ _ q4 s13 hr3 (.bl false))
  | true =>
    refine (if_pos rfl).mpr ⟨I3, M3, F, δ, _, Ed, hr3, rs.mono s13, q4, fun y' M4 I4 H4 w' q5 s4 hr4 e4 => ?_, fx.mono s13⟩
    exact h2 I4 M4 F H4 w w' y y' Qd Q hr4 ((e2.mono s3).mono s4) e4 q5 (fq.mono (s13.trans s4))
theorem d_chain {op op' : CmpOp} {r r' : DR2} {q q' : R2} (ho : OpR X (compareOp op) q) (ho' : OpR X (compareOp op') q') (hl : LR X.K q r) (hl' : LR X.K q' r') (ha : DE X W a ta) (hb : DE X W b tb) (hc : DE X W c tc)
    (hm : lastMarks [op, op'] [b, c] = false := by with_unfolding_all rfl) : DE X W (.Compare a [op, op'] [b, c] pos) (dChain r r' ta tb tc) := pe_imp (pe_chain ho ho' ha hb hc hm) (chain_lift hl hl')
theorem t_chain {op op' : CmpOp} {r r' : DR2} {q q' : R2} (ho : OpR X (compareOp op) q) (ho' : OpR X (compareOp op') q') (hl : LR X.K q r) (hl' : LR X.K q' r') (ha : DE X W a ta) (hb : DE X W b tb) (hc : DE X W c tc)
    (hm : lastMarks [op, op'] [b, c] = false := by with_unfolding_all rfl) : DT X W (.Compare a [op, op'] [b, c] pos) (dTest (dChain r r' ta tb tc)) := pt_imp (pt_chain ho ho' ha hb hc hm) fun _ _ _ q => chain_lift hl hl' _ _ _ (test_lift q)

def dAnd (t u : DTT) : DTT := fun δ M Q E => t δ M (fun b M1 => br b (u δ M1 Q E) (Q false M1)) E
def dOr (t u : DTT) : DTT := fun δ M Q E => t δ M (fun b M1 => br b (Q true M1) (u δ M1 Q E)) E
def dNot (t : DTT) : DTT := fun δ M Q E => t δ M (fun b M1 => Q (!b) M1) E
theorem w_and1 (h : DT X W a tA) : DW X W (.BoolOp .And [a] pos) tA := pw_and1 h
theorem w_or1 (h : DT X W a tA) : DW X W (.BoolOp .Or [a] pos) tA := pw_or1 h
theorem w_and (h : DT X W a tA) (h2 : DW X W (.BoolOp .And (b :: rest) pos) tB') : DW X W (.BoolOp .And (a :: b :: rest) pos) (dAnd tA tB') := by
  refine pw_imp (pw_and h h2) fun σ H Q q => ?_
  obtain ⟨I, M, F, δ, Qd, Ed, hr, rs, q, fq, fx⟩ := q
  refine ⟨I, M, F, δ, _, Ed, hr, rs, q, fun b M1 I1 H1 q1 s1 hr1 => ?_, fx⟩
  cases b with
  | true => exact (if_pos rfl).mpr ⟨I1, M1, F, δ, Qd, Ed, hr1, rs.mono s1, q1, fun b M2 I2 H2 q2 s2 hr2 => fq b M2 I2 H2 q2 (s1.trans s2) hr2, fx.mono s1⟩
  | false => exact (if_neg Bool.false_ne_true).mpr (fq false M1 I1 H1 q1 s1 hr1)
theorem w_or (h : DT X W a tA) (h2 : DW X W (.BoolOp .Or (b :: rest) pos) tB') : DW X W (.BoolOp .Or (a :: b :: rest) pos) (dOr tA tB') := by
  refine pw_imp (pw_or h h2) fun σ H Q q => ?_
  obtain ⟨I, M, F, δ, Qd, Ed, hr, rs, q, fq, fx⟩ := q
  refine ⟨I, M, F, δ, _, Ed, hr, rs, q, fun b M1 I1 H1 q1 s1 hr1 => ?_, fx⟩
  cases b with
  | true => exact (if_pos rfl).mpr (fq true M1 I1 H1 q1 s1 hr1)
  | false => exact (if_neg Bool.false_ne_true).mpr ⟨I1, M1, F, δ, Qd, Ed, hr1, rs.mono s1, q1, fun b M2 I2 H2 q2 s2 hr2 => fq b M2 I2 H2 q2 (s1.trans s2) hr2, fx.mono s1⟩
theorem t_w (h : DW X W e tA) : DT X W e tA := PW.pt h
theorem t_not (h : DT X W a tA) : DT X W (.UnaryOp .Not a pos) (dNot tA) := by
  refine pt_imp (pt_not h) fun σ H Q q => ?_
  obtain ⟨I, M, F, δ, Qd, Ed, hr, rs, q, fq, fx⟩ := q
  exact ⟨I, M, F, δ, _, Ed, hr, rs, q, fun b M1 I1 H1 q1 s1 hr1 => fq _ M1 I1 H1 q1 s1 hr1, fx⟩
/-! values of and, or, not: bools but the last -/
def dAndV (ta tb : DTE) : DTE := fun δ M Q E => ta δ M (fun x M1 => dB x fun c => br c (tb δ M1 Q E) (Q (.bl false) M1)) E
def dOrV (ta tb : DTE) : DTE := fun δ M Q E => ta δ M (fun x M1 => dB x fun c => br c (Q (.bl true) M1) (tb δ M1 Q E)) E
def dNotV (ta : DTE) : DTE := fun δ M Q E => ta δ M (fun x M1 => dB x fun c => Q (.bl (!c)) M1) E
theorem d_one {op} (h : DE X W a ta) : DE X W (.BoolOp op [a] pos) ta := pe_one h
theorem d_and (h : DE X W a ta) (h2 : DE X W (.BoolOp .And (b :: rest) pos) tb) : DE X W (.BoolOp .And (a :: b :: rest) pos) (dAndV ta tb) := by
  refine pe_imp (pe_and h h2) fun σ H Q q => ?_
  obtain ⟨I, M, F, δ, Qd, Ed, hr, rs, q, fq, fx⟩ := q
  refine ⟨I, M, F, δ, _, Ed, hr, rs, q, fun x M1 I1 H1 v q1 s1 hr1 r1 => ?_, fx⟩
  obtain ⟨c, e1, e2⟩ := dB_out r1 q1
  refine ⟨c, e1, ?_⟩
  cases c with
  | true => exact (if_pos rfl).mpr ⟨I1, M1, F, δ, Qd, Ed, hr1, rs.mono s1, e2, fq.mono s1, fx.mono s1⟩
  | false => exact (if_neg Bool.false_ne_true).mpr (fq _ M1 I1 H1 _ e2 s1 hr1 (.bl false))
theorem d_or (h : DE X W a ta) (h2 : DE X W (.BoolOp .Or (b :: rest) pos) tb) : DE X W (.BoolOp .Or (a :: b :: rest) pos) (dOrV ta tb) := by
  refine pe_imp (pe_or h h2) fun σ H Q q => ?_
  obtain ⟨I, M, F, δ, Qd, Ed, hr, rs, q, fq, fx⟩ := q
  refine ⟨I, M, F, δ, _, Ed, hr, rs, q, fun x M1 I1 H1 v q1 s1 hr1 r1 => ?_, fx⟩
  obtain ⟨c, e1, e2⟩ := dB_out r1 q1
  refine ⟨c, e1, ?_⟩
  cases c with
  | true => exact (if_pos rfl).mpr (fq _ M1 I1 H1 _ e2 s1 hr1 (.bl true))
  | false => exact (if_neg Bool.false_ne_true).mpr ⟨I1, M1, F, δ, Qd, Ed, hr1, rs.mono s1, e2, fq.mono s1, fx.mono s1⟩
theorem d_not (h : DE X W a ta) : DE X W (.UnaryOp .Not a pos) (dNotV ta) := by
  refine pe_imp (pe_not h) fun σ H Q q => ?_
  obtain ⟨I, M, F, δ, Qd, Ed, hr, rs, q, fq, fx⟩ := q
  refine ⟨I, M, F, δ, _, Ed, hr, rs, q, fun x M1 I1 H1 v q1 s1 hr1 r1 => ?_, fx⟩
  obtain ⟨c, e1, e2⟩ := dB_out r1 q1
  exact ⟨c, e1, fq _ M1 I1 H1 _ e2 s1 hr1 (.bl _)⟩
def dIfE (t : DTT) (ta tb : DTE) : DTE := fun δ M Q E => t δ M (fun b M1 => br b (ta δ M1 Q E) (tb δ M1 Q E)) E
theorem d_ifExp (h : DT X W c tA) (ha : DE X W a ta) (hb : DE X W b tb) : DE X W (.IfExp c a b pos) (dIfE tA ta tb) := by
  refine pe_imp (pe_ifExp h ha hb) fun σ H Q q => ?_
  obtain ⟨I, M, F, δ, Qd, Ed, hr, rs, q, fq, fx⟩ := q
  refine ⟨I, M, F, δ, _, Ed, hr, rs, q, fun c M1 I1 H1 q1 s1 hr1 => ?_, fx⟩
  cases c with
  | true => exact (if_pos rfl).mpr ⟨I1, M1, F, δ, Qd, Ed, hr1, rs.mono s1, q1, fq.mono s1, fx.mono s1⟩
  | false => exact (if_neg Bool.false_ne_true).mpr ⟨I1, M1, F, δ, Qd, Ed, hr1, rs.mono s1, q1, fq.mono s1, fx.mono s1⟩
end

/-! ## statements -/
section
variable {X : Cx} {W : WX} {st : Stmt} {rest : List Stmt} {t u : DTS} {e : Expr} {te : DTE} {pos : Pos}
def dNext : DTS := fun Dd δ M => Dd.nx δ M
def dSeq (t u : DTS) : DTS := fun Dd δ M => t { Dd with nx := u Dd } δ M
theorem s_nil : DSs X W [] dNext := pss_imp pss_nil fun Dn σ H h => by
  obtain ⟨I, M, F, δ, Dd, hr, rs, q, f⟩ := h
  exact f.nx δ M I H σ q (Same.refl I) hr rs
theorem s_cons (h1 : DSt X W st t) (h2 : DSs X W rest u) : DSs X W (st :: rest) (dSeq t u) := pss_imp (pss_cons h1 h2) fun Dn σ H h => by
  obtain ⟨I, M, F, δ, Dd, hr, rs, q, f⟩ := h
  refine ⟨I, M, F, δ, _, hr, rs, q, ⟨fun δ' M' I' H' σ' q' s' hr' rs' => ⟨I', M', F, δ', Dd, hr', rs', q', f.mono s'⟩, f.rt, f.ex, f.bk, f.ct⟩⟩
theorem s_one (h1 : DSt X W st t) : DSs X W [st] t := pss_one h1
def dBreak : DTS := fun Dd δ M => Dd.bk δ M
def dCont : DTS := fun Dd δ M => Dd.ct δ M
theorem s_pass : DSt X W (.Pass pos) dNext := ps_imp ps_pass fun Dn σ H h => by
  obtain ⟨I, M, F, δ, Dd, hr, rs, q, f⟩ := h
  exact f.nx δ M I H σ q (Same.refl I) hr rs
theorem s_break : DSt X W (.Break pos) dBreak := ps_imp ps_break fun Dn σ H h => by
  obtain ⟨I, M, F, δ, Dd, hr, rs, q, f⟩ := h
  exact f.bk δ M I H σ q (Same.refl I) hr rs
theorem s_continue : DSt X W (.Continue pos) dCont := ps_imp ps_continue fun Dn σ H h => by
  obtain ⟨I, M, F, δ, Dd, hr, rs, q, f⟩ := h
  exact f.ct δ M I H σ q (Same.refl I) hr rs
theorem FinS.x {K : PySem.W.Frag} {I F : Hp} {Dd : DEnds} {Dn : Ends} (f : FinS K W I F Dd Dn) {σ : L2.St} {δ : DS} (rs : RepS K I σ δ) : FinX K I F (fun c fo M => Dd.ex c fo δ M) (WE W σ) :=
  fun c fo M' I' H' dd q s hr x => f.ex c fo δ M' I' H' σ dd q s hr (rs.mono s) x
def dDrop (te : DTE) : DTS := fun Dd δ M => te δ M (fun _ M1 => Dd.nx δ M1) (fun c fo M' => Dd.ex c fo δ M')
theorem s_expr (he : DE X W e te) (hs : swapsWith e none pos.line X.env = pure false := by rfl) : DSt X W (.Expr e pos) (dDrop te) := ps_imp (ps_expr he hs) fun Dn σ H h => by
  obtain ⟨I, M, F, δ, Dd, hr, rs, q, f⟩ := h
  exact ⟨I, M, F, δ, _, _, hr, rs, q, fun d M' I' H' v q' s' hr' r' => f.nx δ M' I' H' σ q' s' hr' (rs.mono s'), f.x rs⟩
def dRet (te : DTE) : DTS := fun Dd δ M => te δ M Dd.rt (fun c fo M' => Dd.ex c fo δ M')
theorem s_ret (he : DE X W e te) : DSt X W (.Return (some e) pos) (dRet te) := ps_imp (ps_ret he) fun Dn σ H h => by
  obtain ⟨I, M, F, δ, Dd, hr, rs, q, f⟩ := h
  exact ⟨I, M, F, δ, _, _, hr, rs, q, f.rt, f.x rs⟩
def dRetN : DTS := fun Dd _ M => Dd.rt .non M
theorem s_retN : DSt X W (.Return none pos) dRetN := ps_imp ps_retN fun Dn σ H h => by
  obtain ⟨I, M, F, δ, Dd, hr, rs, q, f⟩ := h
  exact f.rt _ _ _ _ _ q (Same.refl I) hr .non
def dIf (c : DTT) (t u : DTS) : DTS := fun Dd δ M => c δ M (fun b M1 => br b (t Dd δ M1) (u Dd δ M1)) (fun c fo M' => Dd.ex c fo δ M')
theorem s_if {c : Expr} {a b : List Stmt} {tc : DTT} (hc : DT X W c tc) (ha : DSs X W a t) (hb : DSs X W b u) : DSt X W (.If c a b pos) (dIf tc t u) := ps_imp (ps_if hc ha hb) fun Dn σ H h => by
  obtain ⟨I, M, F, δ, Dd, hr, rs, q, f⟩ := h
  refine ⟨I, M, F, δ, _, _, hr, rs, q, fun c M1 I1 H1 q1 s1 hr1 => ?_, f.x rs⟩
  cases c with
  | true => exact (if_pos rfl).mpr ⟨I1, M1, F, δ, Dd, hr1, rs.mono s1, q1, f.mono s1⟩
  | false => exact (if_neg Bool.false_ne_true).mpr ⟨I1, M1, F, δ, Dd, hr1, rs.mono s1, q1, f.mono s1⟩
theorem s_never : DSt X W st (fun _ _ _ => False) := ps_imp ps_never fun Dn σ H h => by
  obtain ⟨I, M, F, δ, Dd, hr, rs, q, f⟩ := h
  exact q.elim
theorem ss_never {sts : List Stmt} : DSs X W sts (fun _ _ _ => False) := pss_imp pss_never fun Dn σ H h => by
  obtain ⟨I, M, F, δ, Dd, hr, rs, q, f⟩ := h
  exact q.elim
end

/-! ## targets -/
abbrev DTG := D → DS → Mp → (DS → Mp → Prop) → DXK → Prop
abbrev DTGs := List D → DS → Mp → (DS → Mp → Prop) → DXK → Prop
def FinG (K : PySem.W.Frag) (I F : Hp) (Qd : DS → Mp → Prop) (Q : L2.St → Hp → Prop) : Prop := ∀ δ' M' I' H' σ', Qd δ' M' → Same I I' → HR K I' M' F H' → RepS K I' σ' δ' → Q σ' H'
def lG (K : PySem.W.Frag) (W : WX) (g : DTG) : TG := fun v σ H Q => ∃ I M F δ d Qd Ed, HR K I M F H ∧ RepS K I σ δ ∧ Rep K I v d ∧ g d δ M Qd Ed ∧ FinG K I F Qd Q ∧ FinX K I F Ed (WE W σ)
def lGs (K : PySem.W.Frag) (W : WX) (g : DTGs) : TGs := fun vs σ H Q => ∃ I M F δ ds Qd Ed, HR K I M F H ∧ RepS K I σ δ ∧ Reps K I vs ds ∧ g ds δ M Qd Ed ∧ FinG K I F Qd Q ∧ FinX K I F Ed (WE W σ)
def DG (X : Cx) (W : WX) (tg : Expr) (g : DTG) : Prop := PG X tg (lG X.K W g)
def DGs (X : Cx) (W : WX) (tg : List Expr) (g : DTGs) : Prop := PGs X tg (lGs X.K W g)
theorem pg_imp {X : Cx} {e : Expr} {t t' : TG} (h : PG X e t) (i : ∀ v σ H Q, t' v σ H Q → t v σ H Q) : PG X e t' := ⟨fun pins s σ H v u Q I r q => h.run pins s σ H v u Q I r (i v σ H Q q)⟩
theorem pgs_imp {X : Cx} {e : List Expr} {t t' : TGs} (h : PGs X e t) (i : ∀ v σ H Q, t' v σ H Q → t v σ H Q) : PGs X e t' := ⟨fun pins s σ H v u Q I r q => h.run pins s σ H v u Q I r (i v σ H Q q)⟩
section
variable {X : Cx} {W : WX} {pos : Pos} {e : Expr} {te : DTE}
def gdName (i : Nat) : DTG := fun d δ M Q _ => Q (δ.set i (some d)) M
theorem g_name (i : Nat) {x : Str} (hN : X.N.Nodup) (hi : X.N[i]? = some x := by rfl) (hx : Loc X.env.scope x := by first | exact Or.inl rfl | exact Or.inr rfl) (hf : X.fn x = true ∨ X.env.scope.names.lookup x = some .local := by first | exact .inl rfl | exact .inr rfl | assumption) : DG X W (.Name x pos) (gdName i) :=
  pg_imp (pg_name hN hi hx hf) fun v σ H Q h => by
    obtain ⟨I, M, F, δ, d, Qd, Ed, hr, rs, r, q, fq, fx⟩ := h
    exact fq _ M I H _ q (Same.refl I) hr (rs.set i r)
/-- (a, b, ..) = a tuple or a frozen list of that length -/
def gdTup (n : Nat) (t : DTGs) : DTG := fun d δ M Q E => match d with
  | .tup ds => ds.length = n ∧ t ds δ M Q E
  | _ => False
/-- names alone, from the left -/
def gdNames : List Nat → DTGs
  | [] => fun ds δ M Q _ => ds = [] ∧ Q δ M
  | i :: is => fun ds δ M Q E => match ds with
    | d :: r => gdNames is r (δ.set i (some d)) M Q E
    | [] => False
theorem gdNames_E : ∀ (is : List Nat) (ds : List D) (δ : DS) (M : Mp) (Q : DS → Mp → Prop) (E E' : DXK), gdNames is ds δ M Q E → gdNames is ds δ M Q E'
  | [], _, _, _, _, _, _, h => h
  | i :: is, [], _, _, _, _, _, h => h.elim
  | i :: is, d :: r, δ, M, Q, E, E', h => gdNames_E is r (δ.set i (some d)) M Q E E' h
theorem gs_nil : DGs X W [] (gdNames []) := pgs_imp pgs_nil fun v σ H Q h => by
  obtain ⟨I, M, F, δ, ds, Qd, Ed, hr, rs, r, ⟨e, q⟩, fq, fx⟩ := h
  subst e
  cases r
  exact ⟨rfl, fq _ M I H _ q (Same.refl I) hr rs⟩
theorem gs_cons (i : Nat) {x : Str} {es : List Expr} {is : List Nat} (hN : X.N.Nodup) (h2 : DGs X W es (gdNames is)) (hi : X.N[i]? = some x := by rfl) (hx : Loc X.env.scope x := by first | exact Or.inl rfl | exact Or.inr rfl) (hf : X.fn x = true ∨ X.env.scope.names.lookup x = some .local := by first | exact .inl rfl | exact .inr rfl | assumption)
    (hs : (assignEach (.Name x pos :: es) X.env).map (·.2) = assign (.Name x pos) X.env :: (assignEach es X.env).map (·.2) := by rfl) : DGs X W (.Name x pos :: es) (gdNames (i :: is)) :=
  pgs_imp (pgs_cons (pg_name hN hi hx hf) h2 hs) fun v σ H Q h => by
    obtain ⟨I, M, F, δ, ds, Qd, Ed, hr, rs, r, q, fq, fx⟩ := h
    cases r with
    | nil => exact q.elim
    | @cons v1 d1 vr dr r1 rr => exact ⟨v1, vr, rfl, I, M, F, _, dr, Qd, fun _ _ _ => False, hr, rs.set i r1, rr, gdNames_E is dr _ M Qd Ed _ q, fq, fun _ _ _ _ _ _ z => z.elim⟩
theorem g_tup {es : List Expr} {k : Nat} {t : List Nat} {n : Nat} (hc : X.calm = true) (h : DGs X W es (gdNames t))
    (hn : (assignEach es X.env).length = n := by rfl) (hst : (assignEach es X.env).findIdx? (·.1) = none := by rfl) : DG X W (.Tuple es k pos) (gdTup n (gdNames t)) :=
  pg_imp (pg_tup hc h hn hst) fun v σ H Q h => by
    obtain ⟨I, M, F, δ, d, Qd, Ed, hr, rs, r, q, fq, fx⟩ := h
    cases r with
    | @tup a vs ds s rr => exact ⟨a, vs, rfl, hr.st s, by rw [rr.len]; exact q.1, I, M, F, δ, ds, Qd, Ed, hr, rs, rr, q.2, fq, fx⟩
    | _ => exact q.elim
def dAsg (te : DTE) (g : DTG) : DTS := fun Dd δ M => te δ M (fun d M1 => g d δ M1 Dd.nx (fun c fo M' => Dd.ex c fo δ M')) (fun c fo M' => Dd.ex c fo δ M')
theorem s_asg {tg : Expr} {g : DTG} (he : DE X W e te) (hg : DG X W tg g) (hs : swapsWithSole [tg] e pos.line X.env = pure false := by rfl) (hw : swappedStores [tg] e X.env = pure none := by rfl) (h1 : (assignEach [tg] X.env).map (·.2) = [assign tg X.env] := by rfl) : DSt X W (.Assign [tg] e pos) (dAsg te g) :=
  ps_imp (ps_asg he hg hs hw (h1 := h1)) fun Dn σ H h => by
    obtain ⟨I, M, F, δ, Dd, hr, rs, q, f⟩ := h
    refine ⟨I, M, F, δ, _, _, hr, rs, q, fun d M1 I1 H1 v q1 s1 hr1 r1 => ?_, f.x rs⟩
    exact ⟨I1, M1, F, δ, d, _, _, hr1, rs.mono s1, r1, q1, fun δ' M' I' H' σ' q' s' hr' rs' => f.nx δ' M' I' H' σ' q' (s1.trans s') hr' rs', (f.x rs).mono s1⟩
theorem s_set (i : Nat) {x : Str} {pos' : Pos} (hN : X.N.Nodup) (he : DE X W e te) (hi : X.N[i]? = some x := by rfl) (hx : Loc X.env.scope x := by first | exact Or.inl rfl | exact Or.inr rfl) (hs : swapsWith e (some (.Name x pos')) pos.line X.env = pure false := by rfl)
    (hf : X.fn x = true ∨ X.env.scope.names.lookup x = some .local := by first | exact .inl rfl | exact .inr rfl | assumption) : DSt X W (.Assign [.Name x pos'] e pos) (dAsg te (gdName i)) :=
  ps_imp (ps_set (i := i) hN hi hx he hs hf) fun Dn σ H h => by
    obtain ⟨I, M, F, δ, Dd, hr, rs, q, f⟩ := h
    refine ⟨I, M, F, δ, _, _, hr, rs, q, fun d M1 I1 H1 v q1 s1 hr1 r1 => ?_, f.x rs⟩
    exact f.nx _ M1 I1 H1 _ q1 s1 hr1 ((rs.mono s1).set i r1)
end
end DL

set_option Elab.async false
set_option linter.all false
set_option maxRecDepth 100000
set_option maxHeartbeats 2000000
namespace DL
open PySem PySem.Spec PyProof.Rows L2

/-! ## arguments, displays -/
section
variable {X : Cx} {W : WX} {e : Expr} {es : List Expr} {te : DTE} {ta : DTA} {pos : Pos}
def dNil : DTA := fun _ M Q _ => Q [] M
def dCons (te : DTE) (ta : DTA) : DTA := fun δ M Q E => te δ M (fun d M1 => ta δ M1 (fun ds M2 => Q (d :: ds) M2) E) E
theorem a_nil : DA X W [] dNil := pa_imp pa_nil fun σ H Q h => by
  obtain ⟨I, M, F, δ, Qd, Ed, hr, rs, q, fq, fx⟩ := h
  exact fq [] M I H [] q (Same.refl I) hr .nil
theorem a_cons (he : DE X W e te) (ha : DA X W es ta) (hs : starEach (e :: es) X.env = (false, eval e X.env) :: starEach es X.env := by rfl) : DA X W (e :: es) (dCons te ta) := pa_imp (pa_cons he ha hs) fun σ H Q h => by
  obtain ⟨I, M, F, δ, Qd, Ed, hr, rs, q, fq, fx⟩ := h
  refine ⟨I, M, F, δ, _, Ed, hr, rs, q, fun d M1 I1 H1 v q1 s1 hr1 r1 => ?_, fx⟩
  refine ⟨I1, M1, F, δ, _, Ed, hr1, rs.mono s1, q1, fun ds M2 I2 H2 vs q2 s2 hr2 r2 => ?_, fx.mono s1⟩
  exact fq _ M2 I2 H2 _ q2 (s1.trans s2) hr2 (.cons (r1.mono s2) r2)
def dLst (ta : DTA) : DTE := fun δ M Q E => ta δ M (fun ds M1 => ds.length ≤ sizeLine ∧ Q (.lst ds) M1) E
def dLstM (ta : DTA) : DTE := fun δ M Q E => ta δ M (fun ds M1 => ds.length ≤ sizeLine ∧ ∀ p, M1 p = none → Q (.ref p) (updM M1 p (.lst ds))) E
def dTup (ta : DTA) : DTE := fun δ M Q E => ta δ M (fun ds M1 => ds.length ≤ sizeLine ∧ Q (.tup ds) M1) E
theorem fin_lst {K : PySem.W.Frag} {I F : Hp} {M : Mp} {H : Hp} {Qd : DK} {Q : VK} (fq : Fin K I F Qd Q) (hr : HR K I M F H) {vs : List V} {ds : List D} (r : Reps K I vs ds) (q : Qd (.lst ds) M) : ∀ p, H p = none → Q (.ref p) (upd H p (.lst vs)) := fun p hp => by
  have s := same_new (o := .lst vs) (hr.fresh hp).1
  exact fq _ M _ _ _ q s (hr.newI hp _) (.lst upd_same (r.mono s))
theorem fin_tup {K : PySem.W.Frag} {I F : Hp} {M : Mp} {H : Hp} {Qd : DK} {Q : VK} (fq : Fin K I F Qd Q) (hr : HR K I M F H) {vs : List V} {ds : List D} (r : Reps K I vs ds) (q : Qd (.tup ds) M) : ∀ p, H p = none → Q (.ref p) (upd H p (.tup vs)) := fun p hp => by
  have s := same_new (o := .tup vs) (hr.fresh hp).1
  exact fq _ M _ _ _ q s (hr.newI hp _) (.tup (SqT.of upd_same) (r.mono s))
theorem fin_lstM {K : PySem.W.Frag} {I F : Hp} {M : Mp} {H : Hp} {Qd : DK} {Q : VK} (fq : Fin K I F Qd Q) (hr : HR K I M F H) {vs : List V} {ds : List D} (r : Reps K I vs ds) (q : ∀ p, M p = none → Qd (.ref p) (updM M p (.lst ds))) : ∀ p, H p = none → Q (.ref p) (upd H p (.lst vs)) := fun p hp =>
  fq _ _ _ _ _ (q p (hr.fresh hp).2.1) (Same.refl I) (hr.newM hp (o := .lst vs) (m := .lst ds) ⟨vs, rfl, r⟩) (.ref p)
theorem d_lst (ha : DA X W es ta) : DE X W (.List es pos) (dLst ta) := pe_imp (pe_lst ha) fun σ H Q h => by
  obtain ⟨I, M, F, δ, Qd, Ed, hr, rs, q, fq, fx⟩ := h
  refine ⟨I, M, F, δ, _, Ed, hr, rs, q, fun ds M1 I1 H1 vs q1 s1 hr1 r1 => ⟨by rw [r1.len]; exact q1.1, fin_lst (fq.mono s1) hr1 r1 q1.2⟩, fx⟩
theorem d_lstM (ha : DA X W es ta) : DE X W (.List es pos) (dLstM ta) := pe_imp (pe_lst ha) fun σ H Q h => by
  obtain ⟨I, M, F, δ, Qd, Ed, hr, rs, q, fq, fx⟩ := h
  refine ⟨I, M, F, δ, _, Ed, hr, rs, q, fun ds M1 I1 H1 vs q1 s1 hr1 r1 => ⟨by rw [r1.len]; exact q1.1, fin_lstM (fq.mono s1) hr1 r1 q1.2⟩, fx⟩
theorem d_tup {x1} (ha : DA X W es ta) : DE X W (.Tuple es x1 pos) (dTup ta) := pe_imp (pe_tup ha) fun σ H Q h => by
  obtain ⟨I, M, F, δ, Qd, Ed, hr, rs, q, fq, fx⟩ := h
  refine ⟨I, M, F, δ, _, Ed, hr, rs, q, fun ds M1 I1 H1 vs q1 s1 hr1 r1 => ⟨by rw [r1.len]; exact q1.1, fin_tup (fq.mono s1) hr1 r1 q1.2⟩, fx⟩
end

/-! ## defs and their calls -/
abbrev DSp := List D → Mp → DK → DXK → Prop
def lSp (K : PySem.W.Frag) (sp : DSp) : Sp := fun vs H Q E => ∃ I M F ds Qd Ed, HR K I M F H ∧ Reps K I vs ds ∧ sp ds M Qd Ed ∧ Fin K I F Qd Q ∧ FinX K I F Ed E
structure Fn (P : Program) (w : World) (K : PySem.W.Frag) (mg : Str → Option Value) (base : Heap) (k : Nat) (x : Str) (ps : List Str) (sp : DSp) : Prop where
  ex : ∃ (f : Addr) (fd : FuncData), mg x = some (.ref f) ∧ PySem.W.keepIn K (.ref f) = true ∧ ((∀ us : List Value, us.length = ps.length → bindArgs fd ⟨us, []⟩ = pure (ps.zip us)) ∧ ∃ o, K.lookup f = some o ∧ o.data = .func fd) ∧ FnG P w K mg base (L2.CX P w) k f fd ps (lSp K sp)
theorem Fn.up {P : Program} {w : World} {K : PySem.W.Frag} {mg : Str → Option Value} {base : Heap} {j k : Nat} {x : Str} {ps : List Str} {sp : DSp} (h : Fn P w K mg base j x ps sp) (l : j ≤ k) : Fn P w K mg base k x ps sp :=
  let ⟨f, fd, a, b, c, d⟩ := h.ex
  ⟨f, fd, a, b, c, d.up l⟩
/-- the context of a body -/
structure Good (X : Cx) (W : WX) : Prop where
  calm : X.calm = true
  tk : Takes X W
  own : PassesOwn (model X.prog X.w) X.A X.env X.xe
  ng : NoGd X.A
section
variable {X : Cx} {W : WX} {e : Expr} {es : List Expr} {te : DTE} {ta : DTA} {pos p : Pos} {k : Nat} {x : Str} {ps : List Str} {sp : DSp}
def dCall (sp : DSp) (ta : DTA) : DTE := fun δ M Q E => ta δ M (fun ds M1 => sp ds M1 Q E) E
theorem d_call (Fx : Fn X.prog X.w X.K X.mg X.base k x ps sp) (g : Good X W) (rm : Room k X.A) (ha : DA X W (e :: es) ta) (hg : Gl X x := by rfl) (hdb : (x == ("__debug__" : Str)) = false := by decide) (he : starEach (e :: es) X.env = (false, eval e X.env) :: starEach es X.env := by rfl)
    (hpl : (backTo pos (starEach es X.env)).any (·.1) = false := by rfl) : DE X W (.Call (.Name x p) (e :: es) [] pos) (dCall sp ta) := by
  obtain ⟨f, fd, hm, hk, hb, F⟩ := Fx.ex
  refine ⟨fun pins s σ H Q I h => ?_⟩
  obtain ⟨Im, M, Fr, δ, Qd, Ed, hr, rs, q, fq, fx⟩ := h
  refine wpAny_Call_Name_kw (ld_glob I hg hm ?_ hdb)
  refine PySem.W.callWith_K (h₀ := X.base) I.ok.mod.kin hk (thn (PA.run ha pos pins s σ H (fun vs H1 => lSp X.K sp vs H1 Q (WE W σ)) I
    ⟨Im, M, Fr, δ, _, Ed, hr, rs, q, fun ds M1 I1 H1 vs q1 s1 hr1 r1 => ⟨I1, M1, Fr, ds, Qd, Ed, hr1, r1, q1, fq.mono s1, fx.mono s1⟩, fx⟩) fun us s1 z => ?_) he hpl
  obtain ⟨vs, H1, J, rv, q1⟩ := z
  refine ⟨J.kIn, wpAny_call ?_⟩
  have hl : (us ++ []).length = ps.length := by rw [List.append_nil, ← rv.length]; exact F.len _ _ _ _ q1
  have bt := (Binds.all (K := X.K) hb.1) s1 us J.kIn hl
  rw [List.append_nil] at bt
  refine codeAny_mono (goG (E := WE W) F g.ng rm (passAt g.tk σ) J bt rv q1) fun r s2 y => ?_
  cases r with
  | error e => exact y
  | ok fl => cases fl <;> exact y
theorem d_call0 (Fx : Fn X.prog X.w X.K X.mg X.base k x ps sp) (g : Good X W) (rm : Room k X.A) (hg : Gl X x := by rfl) (hdb : (x == ("__debug__" : Str)) = false := by decide) : DE X W (.Call (.Name x p) [] [] pos) (dCall sp dNil) := by
  obtain ⟨f, fd, hm, hk, hb, F⟩ := Fx.ex
  refine ⟨fun pins s σ H Q I h => ?_⟩
  obtain ⟨Im, M, Fr, δ, Qd, Ed, hr, rs, q, fq, fx⟩ := h
  refine wpAny_Call_Name_kw (ld_glob I hg hm ?_ hdb)
  refine PySem.W.callWith_K0 I.kIn hk (wpAny_call ?_)
  have q1 : lSp X.K sp [] H Q (WE W σ) := ⟨Im, M, Fr, [], Qd, Ed, hr, .nil, q, fq, fx⟩
  have hl : (([] : List Value) ++ []).length = ps.length := F.len _ _ _ _ q1
  have bt := (Binds.all (K := X.K) hb.1) s [] I.kIn hl
  refine codeAny_mono (goG (E := WE W) F g.ng rm (passAt g.tk σ) I bt .nil q1) fun r s2 y => ?_
  cases r with
  | error e => exact y
  | ok fl => cases fl <;> exact y
end
def dstart (N : List Str) (ds : List D) : DS := ds.map some ++ List.replicate (N.length - ds.length) none
theorem reps_get {K : PySem.W.Frag} {I : Hp} : ∀ {vs : List V} {ds : List D}, Reps K I vs ds → ∀ (i : Nat) (d : D), ds[i]? = some d → ∃ v, vs[i]? = some v ∧ Rep K I v d
  | _, _, .nil, i, d, h => by simp at h
  | _, _, .cons r _, 0, d, h => by simp at h; subst h; exact ⟨_, rfl, r⟩
  | _, _, .cons _ rr, i + 1, d, h => by
    obtain ⟨v, a, b⟩ := reps_get rr i d (by simpa using h)
    exact ⟨v, by simpa using a, b⟩
theorem reps_start {K : PySem.W.Frag} {I : Hp} {N : List Str} {vs : List V} {ds : List D} (r : Reps K I vs ds) : RepS K I (L2.start N vs) (dstart N ds) := by
  refine ⟨by simp [L2.start, dstart, r.len], fun i d h => ?_⟩
  unfold dstart at h
  by_cases hi : i < ds.length
  · rw [List.getElem?_append_left (by simpa using hi), List.getElem?_map] at h
    cases e : ds[i]? with
    | none => rw [e] at h; cases h
    | some d' =>
      rw [e] at h
      cases h
      obtain ⟨v, a, b⟩ := reps_get r i _ e
      refine ⟨v, ?_, b⟩
      unfold L2.start
      rw [List.getElem?_append_left (by simpa [r.len] using hi), List.getElem?_map, a]
      rfl
  · rw [List.getElem?_append_right (by simpa using hi), List.getElem?_replicate] at h
    split at h <;> cases h
section
variable {P : Program} {w : World} {K : PySem.W.Frag} {mg : Str → Option Value} {base : Heap}
theorem good_of {N : List Str} {qual : Str} {sc : Scope} {f : Addr} {cdv : Value} {A : Around} {l : List Env} {s : Shared} {H : Hp} {E : XK} (ng : NoGd A) : Good (cxOf (L2.CX P w) P w K mg base N qual sc f cdv A l s H E) (fun cls d _ H => E cls d H) :=
  ⟨rfl, takes_of rfl rfl rfl rfl, passes_of rfl, nogd_deeper ng _⟩
theorem dfun {x qual : Str} {st : Stmt} {f : Addr} {fd : FuncData} {N ps : List Str} {k : Nat} {sp : DSp} (F : L2.Fun K x qual st f fd) (hm : mg x = some (.ref f)) (hb : ∀ (kV doc pm : Value) (an : Option Addr) (cdv ct : Value) (us : List Value), us.length = ps.length → bindArgs (PySem.W.fnOf x qual (defArgs st) (defBody st) (defScope st) .none kV doc pm an cdv ct) ⟨us, []⟩ = pure (ps.zip us)) (S : FnScope N ps (defScope st)) (len : ∀ ds M Q E, sp ds M Q E → ds.length = ps.length)
    (body : ∀ (cdv : Value) (A : Around) (l : List Env) (s : Shared) (H : Hp) (E : XK), Good (cxOf (L2.CX P w) P w K mg base N qual (defScope st) f cdv A l s H E) (fun cls d _ H => E cls d H) → Room k (A.deeper (envOfC qual (defScope st) s.heap.objs.size f cdv)) →
      ∃ t, DSs (cxOf (L2.CX P w) P w K mg base N qual (defScope st) f cdv A l s H E) (fun cls d _ H => E cls d H) (defBody st) t ∧ ∀ ds M Qd Ed, sp ds M Qd Ed → t { nx := fun _ M' => Qd .non M', rt := Qd, ex := fun c fo _ M' => Ed c fo M' } (dstart N ds) M) :
    Fn P w K mg base (k + 1) x ps sp := by
  have kp := F.kp
  obtain ⟨oc, od, kV, doc, pm, an, cdv, ct, osl, rfl, lk, hcd⟩ := F.ex
  refine ⟨f, _, hm, kp, ⟨hb kV doc pm an cdv ct, _, lk, rfl⟩, fng_of lk hcd S (fun vs H Q E h => ?_) fun A l s H vs Q E ng rm h => ?_⟩
  · obtain ⟨I, M, Fr, ds, Qd, Ed, hr, rs, q, _, _⟩ := h
    rw [rs.len]
    exact len _ _ _ _ q
  · obtain ⟨t, ht, hq⟩ := body cdv A l s H E (good_of ng) rm
    refine ⟨_, ht, ?_⟩
    obtain ⟨I, M, Fr, ds, Qd, Ed, hr, rs, q, fq, fx⟩ := h
    refine ⟨I, M, Fr, _, _, hr, reps_start rs, hq ds M Qd Ed q, ⟨fun δ' M' I' H' σ' q' s' hr' rs' => fq _ M' I' H' _ q' s' hr' .non, fq, fun c fo δ' M' I' H' σ' dd q' s' hr' rs' xd => fx c fo M' I' H' dd q' s' hr' xd, fun _ _ _ _ _ z => z.elim, fun _ _ _ _ _ z => z.elim⟩⟩
end

/-! ## what is walked -/
inductive Src where
  | data | at (a : Addr) (xs : List D) | lk (a : Addr) (m : MO) | two (a : Addr) (xs : List D) (b : Addr) (ys : List D)
def Src.ok : Src → Mp → Prop → Prop
  | .data, _, P => P
  | .at a xs, M, P => M a = some (.lst xs) ∧ P
  | .lk a m, M, P => M a = some m ∧ P
  | .two a xs b ys, M, P => (M a = some (.lst xs) ∧ M b = some (.lst ys)) ∧ P
def Src.holds : Src → Mp → Prop
  | .data, _ => True
  | .at a xs, M => M a = some (.lst xs)
  | .lk a m, M => M a = some m
  | .two a xs b ys, M => M a = some (.lst xs) ∧ M b = some (.lst ys)
theorem Src.ok_iff {s : Src} {M : Mp} {P : Prop} (h : s.ok M P) : s.holds M ∧ P := by
  cases s with
  | data => exact ⟨trivial, h⟩
  | «at» a xs => exact h
  | lk a m => exact h
  | two a xs b ys => exact h
abbrev DTI := DS → Mp → (List D → Src → Mp → Prop) → DXK → Prop
structure DWalk (K : PySem.W.Frag) (I : Hp) (J : It) (xs : List D) (src : Src) : Prop where
  goes : ∀ i I' M' F H, i < xs.length → Same I I' → HR K I' M' F H → src.holds M' → J.go i H
  stops : ∀ I' M' F H, Same I I' → HR K I' M' F H → src.holds M' → J.stop xs.length H
  yields : ∀ i x I' M' F H H', i < xs.length → Same I I' → HR K I' M' F H → src.holds M' → J.yld i H x H' → ∃ I2 d, Same I' I2 ∧ HR K I2 M' F H' ∧ xs[i]? = some d ∧ Rep K I2 x d
def lI (K : PySem.W.Frag) (W : WX) (di : DTI) : TI := fun σ H R => ∃ I M F δ Rd Ed, HR K I M F H ∧ RepS K I σ δ ∧ di δ M Rd Ed ∧ (∀ xs src M' I' H' J, Rd xs src M' → src.holds M' → Same I I' → HR K I' M' F H' → DWalk K I' J xs src → R J H') ∧ FinX K I F Ed (WE W σ)
def DI (X : Cx) (W : WX) (tg iter : Expr) (di : DTI) : Prop := PI X tg iter (lI X.K W di)
theorem pi_imp {X : Cx} {tg iter : Expr} {t t' : TI} (h : PI X tg iter t) (i : ∀ σ H R, t' σ H R → t σ H R) : PI X tg iter t' := ⟨fun pins s σ H R I q => h.run pins s σ H R I (i σ H R q)⟩
def dLoop (g : DTG) (tb : DTS) (src : Src) : List D → DTS
  | [] => fun Dd δ M => src.ok M (Dd.nx δ M)
  | x :: r => fun Dd δ M => src.ok M (g x δ M (fun δ1 M1 => tb { Dd with nx := dLoop g tb src r Dd, ct := dLoop g tb src r Dd, bk := Dd.nx } δ1 M1) (fun c fo M' => Dd.ex c fo δ M'))
def dFor (di : DTI) (g : DTG) (tb : DTS) : DTS := fun Dd δ M => di δ M (fun xs src M1 => dLoop g tb src xs Dd δ M1) (fun c fo M' => Dd.ex c fo δ M')
section
variable {X : Cx} {W : WX} {tg iter : Expr} {body : List Stmt} {di : DTI} {g : DTG} {tb : DTS} {pos : Pos}
theorem s_for (gd : Good X W) (hi : DI X W tg iter di) (hg : DG X W tg g) (hb : DSs X W body tb) (hs : ∀ x, foldedSetIterable iter X.env x = pure x := by intro _; rfl) : DSt X W (.For tg iter body [] pos) (dFor di g tb) := by
  refine ps_imp (ps_for gd.own gd.calm hi hg hb hs) fun Dn σ H h => ?_
  obtain ⟨I, M, F, δ, Dd, hr, rs, q, f⟩ := h
  refine ⟨I, M, F, δ, _, _, hr, rs, q, fun xs src M1 I1 H1 J q1 ho s1 hr1 wk => ?_, f.x rs⟩
  refine ⟨fun i m σ' H' => m = xs.length - i ∧ i ≤ xs.length ∧ ∃ I' M' δ', Same I1 I' ∧ HR X.K I' M' F H' ∧ RepS X.K I' σ' δ' ∧ dLoop g tb src (xs.drop i) Dd δ' M', ⟨xs.length, by simp, Nat.zero_le _, I1, M1, δ, Same.refl I1, hr1, rs.mono s1, q1⟩, ?_⟩
  rintro i m σ' H' ⟨rfl, hi, I', M', δ', s', hr', rs', q'⟩
  by_cases hlt : i < xs.length
  · right
    rw [List.drop_eq_getElem_cons hlt] at q'
    obtain ⟨ho', q'⟩ := Src.ok_iff q'
    refine ⟨wk.goes i I' M' F H' hlt s' hr' ho', fun σ2 H2 => ∃ I2 M2 δ2, Same I1 I2 ∧ HR X.K I2 M2 F H2 ∧ RepS X.K I2 σ2 δ2 ∧ dLoop g tb src (xs.drop (i + 1)) Dd δ2 M2, fun σ2 H2 z => ⟨xs.length - (i + 1), by omega, rfl, hlt, z⟩, fun x H2 y => ?_⟩
    obtain ⟨I2, d, s2, hr2, e, r⟩ := wk.yields i x I' M' F H' H2 hlt s' hr' ho' y
    rw [List.getElem?_eq_getElem hlt] at e
    cases e
    have s12 := s'.trans s2
    refine ⟨I2, M', F, δ', _, _, _, hr2, rs'.mono s2, r, q', fun δ3 M3 I3 H3 σ3 q3 s3 hr3 rs3 => ?_, fun c fo M3 I3 H3 dd z s3 hr3 xd => f.ex c fo δ' M3 I3 H3 σ' dd z ((s1.trans s12).trans s3) hr3 ((rs'.mono s2).mono s3) xd⟩
    have f3 := f.mono ((s1.trans s12).trans s3)
    exact ⟨I3, M3, F, δ3, _, hr3, rs3, q3, ⟨fun δ4 M4 I4 H4 σ4 q4 s4 hr4 rs4 => ⟨I4, M4, δ4, (s12.trans s3).trans s4, hr4, rs4, q4⟩, f3.rt, f3.ex, f3.nx, fun δ4 M4 I4 H4 σ4 q4 s4 hr4 rs4 => ⟨I4, M4, δ4, (s12.trans s3).trans s4, hr4, rs4, q4⟩⟩⟩
  · left
    have e : i = xs.length := by omega
    subst e
    rw [List.drop_length] at q'
    obtain ⟨ho', q'⟩ := Src.ok_iff q'
    exact ⟨wk.stops I' M' F H' s' hr' ho', f.nx δ' M' I' H' σ' q' (s1.trans s') hr' rs'⟩
end
end DL

set_option Elab.async false
set_option linter.all false
set_option maxRecDepth 100000
set_option maxHeartbeats 2000000
namespace DL
open PySem PySem.Spec PyProof.Rows L2

/-! ## an object in the frame while it is made -/
section
variable {K : PySem.W.Frag} {I : Hp} {M : Mp} {F H : Hp} {p : Addr} {o o' : HO}
theorem HR.newF (h : HR K I M F H) (hp : H p = none) (o : HO) (ho : ∀ vs, o ≠ .tup vs := by intro _ z; cases z) : HR K I M (upd F p o) (upd H p o) := by
  obtain ⟨h1, h2, h3⟩ := h.fresh hp
  have kp : ∀ d φ, H d = some (.ext φ) → upd H p o d = some (.ext φ) := fun d φ e => by rw [upd_ne (ne_of_none e hp)]; exact e
  refine ⟨fun a u e => ?_, fun a m e => ?_, fun a u e => ?_, ft_upd h.ft ho⟩
  · have q : a ≠ p := fun z => by rw [z, h1] at e; cases e
    rw [upd_ne q]; exact h.imm a u e
  · have q : a ≠ p := fun z => by rw [z, h2] at e; cases e
    rw [upd_ne q]
    obtain ⟨x, y, z, t⟩ := h.mu a m e
    exact ⟨x, y, z, t.mono (Same.refl I) kp⟩
  · by_cases q : a = p
    · subst q; rw [upd_same] at e; rw [upd_same]; exact ⟨e, h1, h2⟩
    · rw [upd_ne q] at e; rw [upd_ne q]; exact h.frm a u e
theorem HR.atF (h : HR K I M (upd F p o) H) : H p = some o ∧ I p = none ∧ M p = none := h.frm p o upd_same
theorem HR.reF (h : HR K I M (upd F p o) H) (nx : ∀ φ, o ≠ .ext φ) (o' : HO) (ho : ∀ vs, o' ≠ .tup vs := by intro _ z; cases z) : HR K I M (upd F p o') (upd H p o') := by
  obtain ⟨h0, h1, h2⟩ := h.atF
  have kp : ∀ d φ, H d = some (.ext φ) → upd H p o' d = some (.ext φ) := fun d φ e => by rw [upd_ne (ne_of e h0 (fun z => nx φ z.symm))]; exact e
  refine ⟨fun a u e => ?_, fun a m e => ?_, fun a u e => ?_, fun a vs e => ?_⟩
  · have q : a ≠ p := fun z => by rw [z, h1] at e; cases e
    rw [upd_ne q]; exact h.imm a u e
  · have q : a ≠ p := fun z => by rw [z, h2] at e; cases e
    rw [upd_ne q]
    obtain ⟨x, y, z, t⟩ := h.mu a m e
    exact ⟨x, y, z, t.mono (Same.refl I) kp⟩
  · by_cases q : a = p
    · subst q; rw [upd_same] at e; rw [upd_same]; exact ⟨e, h1, h2⟩
    · rw [upd_ne q] at e; rw [upd_ne q]; exact h.frm a u (by rw [upd_ne q]; exact e)
  · by_cases q : a = p
    · subst q; rw [upd_same] at e; cases e; exact ho vs rfl
    · rw [upd_ne q] at e; exact h.ft a vs (by rw [upd_ne q]; exact e)
theorem HR.frzF (h : HR K I M (upd F p o) H) (hF : F p = none) : Same I (upd I p o) ∧ HR K (upd I p o) M F H := by
  obtain ⟨h0, h1, h2⟩ := h.atF
  have s := same_new (o := o) h1
  refine ⟨s, fun a u e => ?_, fun a m e => ?_, fun a u e => ?_, ft_off h.ft hF⟩
  · by_cases q : a = p
    · subst q; rw [upd_same] at e; rw [← e]; exact h0
    · rw [upd_ne q] at e; exact h.imm a u e
  · have q : a ≠ p := fun z => by rw [z, h2] at e; cases e
    obtain ⟨x, u, y, z⟩ := h.mu a m e
    rw [upd_ne q]
    exact ⟨x, u, y, z.mono s fun _ _ e => e⟩
  · have q : a ≠ p := fun z => by rw [z, hF] at e; cases e
    rw [upd_ne q]; exact h.frm a u (by rw [upd_ne q]; exact e)
theorem HR.mutF (h : HR K I M (upd F p o) H) (hF : F p = none) {m : MO} (r : RepO K I H p o m) : HR K I (updM M p m) F H := by
  obtain ⟨h0, h1, h2⟩ := h.atF
  refine ⟨h.imm, fun a n e => ?_, fun a u e => ?_, ft_off h.ft hF⟩
  · by_cases q : a = p
    · subst q; rw [updM_same] at e; cases e; exact ⟨h1, o, h0, r⟩
    · rw [updM_ne q] at e; exact h.mu a n e
  · have q : a ≠ p := fun z => by rw [z, hF] at e; cases e
    rw [updM_ne q]; exact h.frm a u (by rw [upd_ne q]; exact e)
end
theorem Reps.snoc {K : PySem.W.Frag} {I : Hp} {v : V} {d : D} (r : Rep K I v d) : ∀ {vs : List V} {ds : List D}, Reps K I vs ds → Reps K I (vs ++ [v]) (ds ++ [d])
  | _, _, .nil => .cons r .nil
  | _, _, .cons a b => .cons a (Reps.snoc r b)

/-! ## comprehensions -/
theorem wipe_get (σ : L2.St) (j : Nat) : ∀ vs : List Nat, (wipe σ vs)[j]? = if j ∈ vs then σ[j]?.map (fun _ => none) else σ[j]?
  | [] => by simp [wipe]
  | v :: vs => by
    show ((wipe σ vs).set v none)[j]? = _
    rw [List.getElem?_set]
    by_cases h : v = j
    · subst h
      by_cases hl : v < σ.length
      · simp [wipe_length, hl]
      · simp [wipe_length, hl]
    · rw [if_neg h, wipe_get σ j vs]
      have h' : ¬ j = v := fun z => h z.symm
      simp [h']
theorem wipe_set {σ : L2.St} {i : Nat} {u : Option V} {vs : List Nat} (h : i ∈ vs) : wipe (σ.set i u) vs = wipe σ vs := by
  apply List.ext_getElem?
  intro j
  rw [wipe_get, wipe_get, List.getElem?_set]
  by_cases q : j ∈ vs
  · rw [if_pos q, if_pos q]
    by_cases z : i = j
    · subst z
      by_cases hl : i < σ.length <;> simp [hl]
    · rw [if_neg z]
  · have z : i ≠ j := fun e => q (e ▸ h)
    rw [if_neg q, if_neg q, if_neg z]
theorem wipe_wipe (σ : L2.St) (vs : List Nat) : wipe (wipe σ vs) vs = wipe σ vs := by
  apply List.ext_getElem?
  intro j
  rw [wipe_get, wipe_get]
  by_cases q : j ∈ vs
  · rw [if_pos q, if_pos q]
    cases σ[j]? <;> rfl
  · rw [if_neg q, if_neg q]
def dwipe (δ : DS) : List Nat → DS
  | [] => δ
  | v :: vs => (dwipe δ vs).set v none
theorem RepS.wipe {K : PySem.W.Frag} {I : Hp} {σ : L2.St} {δ : DS} (h : RepS K I σ δ) : ∀ vs : List Nat, RepS K I (L2.wipe σ vs) (dwipe δ vs)
  | [] => h
  | v :: vs => (RepS.wipe h vs).forget v
/-- the places of a target: one name, or a tuple of names -/
inductive TgI where
  | one (i : Nat) | tup (is : List Nat)
def gNV : List Nat → TGs
  | [] => gNil
  | i :: is => gCons (gName i) (gNV is)
def setAll : DS → List Nat → List D → DS
  | δ, i :: is, d :: ds => setAll (δ.set i (some d)) is ds
  | δ, _, _ => δ
def setAllV : L2.St → List Nat → List V → L2.St
  | σ, i :: is, v :: vs => setAllV (σ.set i (some v)) is vs
  | σ, _, _ => σ
theorem gNV_of : ∀ (is : List Nat) (vs : List V) (σ : L2.St) (H : Hp) (Q : L2.St → Hp → Prop), vs.length = is.length → Q (setAllV σ is vs) H → gNV is vs σ H Q
  | [], [], σ, H, Q, _, q => ⟨rfl, q⟩
  | i :: is, v :: vs, σ, H, Q, l, q => ⟨v, vs, rfl, gNV_of is vs _ H Q (by simpa using l) q⟩
  | [], _ :: _, _, _, _, l, _ => by simp at l
  | _ :: _, [], _, _, _, l, _ => by simp at l
theorem RepS.setAll {K : PySem.W.Frag} {I : Hp} : ∀ {is : List Nat} {vs : List V} {ds : List D} {σ : L2.St} {δ : DS}, RepS K I σ δ → Reps K I vs ds → RepS K I (setAllV σ is vs) (DL.setAll δ is ds)
  | [], _, _, _, _, h, _ => h
  | i :: is, _, _, _, _, h, .nil => h
  | i :: is, _, _, _, _, h, .cons r rr => by
    have z := RepS.setAll (is := is) (h.set i r) rr
    exact z
theorem wipe_setAll {vs : List Nat} : ∀ {is : List Nat} {xs : List V} {σ : L2.St}, (∀ i ∈ is, i ∈ vs) → wipe (setAllV σ is xs) vs = wipe σ vs
  | [], _, _, _ => rfl
  | i :: is, [], _, _ => rfl
  | i :: is, x :: xs, σ, h => by
    show wipe (setAllV (σ.set i (some x)) is xs) vs = _
    rw [wipe_setAll fun j hj => h j (List.mem_cons_of_mem _ hj), wipe_set (h i List.mem_cons_self)]
def TgI.v (K : PySem.W.Frag) : TgI → TG
  | .one i => gName i
  | .tup is => gTup K is.length (gNV is)
def TgI.in (vs : List Nat) : TgI → Bool
  | .one i => decide (i ∈ vs)
  | .tup is => decide (∀ i ∈ is, i ∈ vs)
def TgI.d (t : TgI) (d : D) (δ : DS) (k : DS → Prop) : Prop := match t with
  | .one i => k (δ.set i (some d))
  | .tup is => match d with | .tup ds => ds.length = is.length ∧ k (setAll δ is ds) | _ => False
theorem TgI.run {K : PySem.W.Frag} {I : Hp} {M : Mp} {F H : Hp} {vs : List Nat} {t : TgI} (hin : t.in vs = true) (hr : HR K I M F H) {x : V} {d : D} (r : Rep K I x d) {σ : L2.St} {δ : DS} (rs : RepS K I σ δ) {k : DS → Prop} (h : t.d d (dwipe δ vs) k) {Q : L2.St → Hp → Prop}
    (hQ : ∀ σ2 δ2, RepS K I σ2 δ2 → wipe σ2 vs = wipe σ vs → k δ2 → Q σ2 H) : t.v K x (wipe σ vs) H Q := by
  cases t with
  | one i =>
    have hi : i ∈ vs := of_decide_eq_true hin
    exact hQ _ _ ((rs.wipe vs).set i r) (by rw [wipe_set hi, wipe_wipe]) h
  | tup is =>
    have hi : ∀ i ∈ is, i ∈ vs := of_decide_eq_true hin
    cases r with
    | @tup a xs ds s rr =>
      refine ⟨a, xs, rfl, hr.st s, by rw [rr.len]; exact h.1, gNV_of is xs _ H Q (by rw [rr.len]; exact h.1) (hQ _ _ ((rs.wipe vs).setAll rr) (by rw [wipe_setAll hi, wipe_wipe]) h.2)⟩
    | _ => exact h.elim
section
variable {X : Cx}
theorem vn_nil : PGs X [] (gNV []) := pgs_nil
theorem vn_cons (i : Nat) {x : Str} {pos : Pos} {es : List Expr} {is : List Nat} (hN : X.N.Nodup) (h : PGs X es (gNV is)) (hi : X.N[i]? = some x := by rfl) (hx : Loc X.env.scope x := by first | exact Or.inl rfl | exact Or.inr rfl)
    (hf : X.fn x = true ∨ X.env.scope.names.lookup x = some .local := by first | exact .inl rfl | exact .inr rfl | assumption) (hs : (assignEach (.Name x pos :: es) X.env).map (·.2) = assign (.Name x pos) X.env :: (assignEach es X.env).map (·.2) := by rfl) : PGs X (.Name x pos :: es) (gNV (i :: is)) :=
  pgs_cons (pg_name hN hi hx hf) h hs
theorem v_one (i : Nat) {x : Str} {pos : Pos} (hN : X.N.Nodup) (hi : X.N[i]? = some x := by rfl) (hx : Loc X.env.scope x := by first | exact Or.inl rfl | exact Or.inr rfl)
    (hf : X.fn x = true ∨ X.env.scope.names.lookup x = some .local := by first | exact .inl rfl | exact .inr rfl | assumption) : PG X (.Name x pos) ((TgI.one i).v X.K) := pg_name hN hi hx hf
theorem v_tup {es : List Expr} {k : Nat} {pos : Pos} {is : List Nat} (hc : X.calm = true) (h : PGs X es (gNV is)) (hn : (assignEach es X.env).length = is.length := by rfl) (hst : (assignEach es X.env).findIdx? (·.1) = none := by rfl) : PG X (.Tuple es k pos) ((TgI.tup is).v X.K) := pg_tup hc h hn hst
end
abbrev W0 : WX := fun _ _ _ _ => False
abbrev E0d : DXK := fun _ _ _ => False
def dYes : DTT := fun _ M Q _ => Q true M
def dComp (t : TgI) (tt : DTT) (te : DTE) (src : Src) (vs : List Nat) (δ : DS) (k : List D → Mp → Prop) : List D → List D → Mp → Prop
  | [], acc, M => src.ok M (acc.length ≤ sizeLine ∧ k acc M)
  | x :: r, acc, M => src.ok M (t.d x (dwipe δ vs) fun δ2 => tt δ2 M (fun b M3 => br b (te δ2 M3 (fun y M4 => dComp t tt te src vs δ k r (acc ++ [y]) M4) E0d) (dComp t tt te src vs δ k r acc M3)) E0d)
def dLc (di : DTI) (t : TgI) (tt : DTT) (te : DTE) (vs : List Nat) : DTE := fun δ M Q E => di δ M (fun xs src M1 => xs.length < sizeLine ∧ dComp t tt te src vs δ (fun acc M2 => Q (.lst acc) M2) xs [] M1) E
def dLcM (di : DTI) (t : TgI) (tt : DTT) (te : DTE) (vs : List Nat) : DTE := fun δ M Q E => di δ M (fun xs src M1 => xs.length < sizeLine ∧ dComp t tt te src vs δ (fun acc M2 => ∀ p, M2 p = none → Q (.ref p) (updM M2 p (.lst acc))) xs [] M1) E
section
variable {X : Cx} {W : WX}
/-- what a comprehension's reading is at V -/
theorem lc_lift {K : PySem.W.Frag} {t : TgI} {tt : DTT} {te : DTE} {src : Src} {vs : List Nat} {δ : DS} {k : List D → Mp → Prop} {xs : List D} {J : It} {I1 F H1 : Hp} {M1 : Mp} {σ : L2.St} {Qd : Addr → Hp → Prop}
    (hin : t.in vs = true) (hl : xs.length < sizeLine) (hr1 : HR K I1 M1 F H1) (rs : RepS K I1 σ δ) (wk : DWalk K I1 J xs src) (q : dComp t tt te src vs δ k xs [] M1)
    (fin : ∀ p I' M' H' accV acc, F p = none → Same I1 I' → HR K I' M' (upd F p (.lst accV)) H' → Reps K I' accV acc → k acc M' → Qd p H') (D : Addr) (hD : H1 D = none) :
    ∃ Wv : Nat → Nat → Hp → Prop, (∃ m, Wv 0 m (upd H1 D (.lst []))) ∧ ∀ i m H, Wv i m H →
      (J.stop i H ∧ Qd D H) ∨ (J.go i H ∧ ∃ Nx : Hp → Prop, (∀ H', Nx H' → ∃ m', m' < m ∧ Wv (i + 1) m' H') ∧ ∀ x H', J.yld i H x H' → t.v K x (wipe σ vs) H' fun σ2 H2 => wipe σ2 vs = wipe σ vs ∧ lT K W0 tt σ2 H2 fun b H3 =>
        if b = true then lE K W0 te σ2 H3 fun y H4 => ∃ acc, H4 D = some (.lst acc) ∧ acc.length < sizeLine ∧ Nx (upd H4 D (.lst (acc ++ [y]))) else Nx H3) := by
  have hF := (hr1.fresh hD).2.2
  refine ⟨fun i m H => m = xs.length - i ∧ i ≤ xs.length ∧ ∃ I' M' accV acc, Same I1 I' ∧ HR K I' M' (upd F D (.lst accV)) H ∧ Reps K I' accV acc ∧ acc.length ≤ i ∧ dComp t tt te src vs δ k (xs.drop i) acc M',
    ⟨xs.length, by simp, Nat.zero_le _, I1, M1, [], [], Same.refl I1, hr1.newF hD _, .nil, Nat.le_refl _, q⟩, ?_⟩
  rintro i m H ⟨rfl, hi, I', M', accV, acc, s', hr', ra, la, q'⟩
  by_cases hlt : i < xs.length
  · right
    rw [List.drop_eq_getElem_cons hlt] at q'
    obtain ⟨ho, q'⟩ := Src.ok_iff q'
    refine ⟨wk.goes i I' M' _ H hlt s' hr' ho, fun H2 => ∃ I2 M2 aV a, Same I1 I2 ∧ HR K I2 M2 (upd F D (.lst aV)) H2 ∧ Reps K I2 aV a ∧ a.length ≤ i + 1 ∧ dComp t tt te src vs δ k (xs.drop (i + 1)) a M2, fun H2 z => ⟨xs.length - (i + 1), by omega, rfl, hlt, z⟩, fun x H2 y => ?_⟩
    obtain ⟨I2, d, s2, hr2, e, r⟩ := wk.yields i x I' M' _ H H2 hlt s' hr' ho y
    rw [List.getElem?_eq_getElem hlt] at e
    cases e
    have s12 := s'.trans s2
    refine TgI.run hin hr2 r (rs.mono s12) q' fun σ2 δ2 rs2 ew q2 => ⟨ew, I2, M', upd F D (.lst accV), δ2, _, _, hr2, rs2, q2, fun b M3 I3 H3 q3 s3 hr3 => ?_, fun _ _ _ _ _ _ z => z.elim⟩
    cases b with
    | false => exact (if_neg Bool.false_ne_true).mpr ⟨I3, M3, accV, acc, s12.trans s3, hr3, (ra.mono s2).mono s3, Nat.le_succ_of_le la, q3⟩
    | true =>
      refine (if_pos rfl).mpr ⟨I3, M3, upd F D (.lst accV), δ2, _, _, hr3, rs2.mono s3, q3, fun y4 M4 I4 H4 v4 q4 s4 hr4 r4 => ?_, fun _ _ _ _ _ _ z => z.elim⟩
      have ra4 := ((ra.mono s2).mono s3).mono s4
      refine ⟨accV, hr4.atF.1, by rw [ra4.len]; omega, I4, M4, accV ++ [v4], acc ++ [y4], (s12.trans s3).trans s4, hr4.reF (fun _ z => nomatch z) _, ra4.snoc r4, by rw [List.length_append]; simpa using la, q4⟩
  · left
    have e : i = xs.length := by omega
    subst e
    rw [List.drop_length] at q'
    obtain ⟨ho, q'⟩ := Src.ok_iff q'
    exact ⟨wk.stops I' M' _ H s' hr' ho, fin D I' M' H accV acc hF s' hr' ra q'.2⟩
variable {elt tg iter : Expr} {ifs : List Expr} {scope : Scope} {own : List (Str × Nat)} {pos : Pos} {di : DTI} {t : TgI} {tt : DTT} {te : DTE}
theorem good_blk (g : Good X W) (s : Shared) (H : Hp) (sc : Scope) (ev : Env) (fp : List Addr) : Good (X.blk s H sc ev fp) W0 := ⟨g.calm, takes0, PassesOwn.never, g.ng⟩
def DTs (X : Cx) (ifs : List Expr) (tt : DTT) : Prop := PTs X ifs (lT X.K W0 tt)
theorem ts_nil : DTs X [] dYes := ⟨fun pins s σ H Q I h => pts_nil.run pins s σ H Q I (by
  obtain ⟨I, M, F, δ, Qd, Ed, hr, rs, q, fq, fx⟩ := h
  exact fq true M I H q (Same.refl I) hr)⟩
theorem ts_one {c : Expr} (h : DT X W0 c tt) : DTs X [c] tt := pts_one h
theorem d_lc (N : List Str) (sc : Scope) (own : List (Str × Nat)) (g : Good X W) (hN : X.N.Nodup) (hi : DI X W tg iter di) (ok : blkC N sc scope own = true) (hin : t.in (own.map (·.2)) = true)
    (hg : ∀ (s : Shared) (H : Hp) (C : Addr) (cl : List (Str × Addr)) (fp : List Addr), Good (X.blk s H scope (compEnvC scope cl C X.env) fp) W0 → PG (X.blk s H scope (compEnvC scope cl C X.env) fp) tg (t.v X.K))
    (ht : ∀ (s : Shared) (H : Hp) (C : Addr) (cl : List (Str × Addr)) (fp : List Addr), Good (X.blk s H scope (compEnvC scope cl C X.env) fp) W0 → DTs (X.blk s H scope (compEnvC scope cl C X.env) fp) ifs tt)
    (he : ∀ (s : Shared) (H : Hp) (C : Addr) (cl : List (Str × Addr)) (fp : List Addr), Good (X.blk s H scope (compEnvC scope cl C X.env) fp) W0 → DE (X.blk s H scope (compEnvC scope cl C X.env) fp) W0 elt te) (hs : ∀ x, foldedSetIterable iter X.env x = pure x := by intro _; rfl) (eN : X.N = N := by rfl) (es : X.env.scope = sc := by rfl) :
    DE X W (.ListComp elt [⟨tg, iter, ifs, 0⟩] scope pos) (dLc di t tt te (own.map (·.2))) := by
  refine pe_imp (pe_lc (own := own) (g := t.v X.K) (tt := lT X.K W0 tt) (te := lE X.K W0 te) g.calm hN hi (by rw [eN, es]; exact blkOk_by ok) (fun s H C cl fp => hg s H C cl fp (good_blk g ..)) (fun s H C cl fp => ht s H C cl fp (good_blk g ..)) (fun s H C cl fp => he s H C cl fp (good_blk g ..)) hs) fun σ H Q h => ?_
  obtain ⟨I, M, F, δ, Qd, Ed, hr, rs, q, fq, fx⟩ := h
  refine ⟨I, M, F, δ, _, Ed, hr, rs, q, fun xs src M1 I1 H1 J q1 ho s1 hr1 wk D hD => ?_, fx⟩
  refine lc_lift hin q1.1 hr1 (rs.mono s1) wk q1.2 (Qd := fun p H' => Q (.ref p) H') (fun p I' M' H' aV a hF s' hr' ra q' => ?_) D hD
  obtain ⟨z1, z2⟩ := hr'.frzF hF
  exact fq _ M' _ H' _ q' ((s1.trans s').trans z1) z2 (.lst upd_same (ra.mono z1))
theorem d_lcM (N : List Str) (sc : Scope) (own : List (Str × Nat)) (g : Good X W) (hN : X.N.Nodup) (hi : DI X W tg iter di) (ok : blkC N sc scope own = true) (hin : t.in (own.map (·.2)) = true)
    (hg : ∀ (s : Shared) (H : Hp) (C : Addr) (cl : List (Str × Addr)) (fp : List Addr), Good (X.blk s H scope (compEnvC scope cl C X.env) fp) W0 → PG (X.blk s H scope (compEnvC scope cl C X.env) fp) tg (t.v X.K))
    (ht : ∀ (s : Shared) (H : Hp) (C : Addr) (cl : List (Str × Addr)) (fp : List Addr), Good (X.blk s H scope (compEnvC scope cl C X.env) fp) W0 → DTs (X.blk s H scope (compEnvC scope cl C X.env) fp) ifs tt)
    (he : ∀ (s : Shared) (H : Hp) (C : Addr) (cl : List (Str × Addr)) (fp : List Addr), Good (X.blk s H scope (compEnvC scope cl C X.env) fp) W0 → DE (X.blk s H scope (compEnvC scope cl C X.env) fp) W0 elt te) (hs : ∀ x, foldedSetIterable iter X.env x = pure x := by intro _; rfl) (eN : X.N = N := by rfl) (es : X.env.scope = sc := by rfl) :
    DE X W (.ListComp elt [⟨tg, iter, ifs, 0⟩] scope pos) (dLcM di t tt te (own.map (·.2))) := by
  refine pe_imp (pe_lc (own := own) (g := t.v X.K) (tt := lT X.K W0 tt) (te := lE X.K W0 te) g.calm hN hi (by rw [eN, es]; exact blkOk_by ok) (fun s H C cl fp => hg s H C cl fp (good_blk g ..)) (fun s H C cl fp => ht s H C cl fp (good_blk g ..)) (fun s H C cl fp => he s H C cl fp (good_blk g ..)) hs) fun σ H Q h => ?_
  obtain ⟨I, M, F, δ, Qd, Ed, hr, rs, q, fq, fx⟩ := h
  refine ⟨I, M, F, δ, _, Ed, hr, rs, q, fun xs src M1 I1 H1 J q1 ho s1 hr1 wk D hD => ?_, fx⟩
  refine lc_lift hin q1.1 hr1 (rs.mono s1) wk q1.2 (Qd := fun p H' => Q (.ref p) H') (fun p I' M' H' aV a hF s' hr' ra q' => ?_) D hD
  exact fq _ _ _ H' _ (q' p hr'.atF.2.2) (s1.trans s') (hr'.mutF hF (m := .lst a) ⟨aV, rfl, ra⟩) (.ref p)
/-- name = [..] -/
theorem s_setLc (i : Nat) (N : List Str) (sc : Scope) (own : List (Str × Nat)) {y : Str} {py spos : Pos} (g : Good X W) (hN : X.N.Nodup) (hi : DI X W tg iter di) (ok : blkC N sc scope own = true) (hin : t.in (own.map (·.2)) = true)
    (hg : ∀ (s : Shared) (H : Hp) (C : Addr) (cl : List (Str × Addr)) (fp : List Addr), Good (X.blk s H scope (compEnvC scope cl C X.env) fp) W0 → PG (X.blk s H scope (compEnvC scope cl C X.env) fp) tg (t.v X.K))
    (ht : ∀ (s : Shared) (H : Hp) (C : Addr) (cl : List (Str × Addr)) (fp : List Addr), Good (X.blk s H scope (compEnvC scope cl C X.env) fp) W0 → DTs (X.blk s H scope (compEnvC scope cl C X.env) fp) ifs tt)
    (he : ∀ (s : Shared) (H : Hp) (C : Addr) (cl : List (Str × Addr)) (fp : List Addr), Good (X.blk s H scope (compEnvC scope cl C X.env) fp) W0 → DE (X.blk s H scope (compEnvC scope cl C X.env) fp) W0 elt te)
    (hsw : swapsWith (.ListComp elt [⟨tg, iter, ifs, 0⟩] scope pos) (some (.Name y py)) spos.line X.env = pure true) (hy : X.N[i]? = some y := by rfl) (hyl : X.env.scope.names.lookup y = some .local := by rfl) (hs : ∀ x, foldedSetIterable iter X.env x = pure x := by intro _; rfl) (eN : X.N = N := by rfl) (es : X.env.scope = sc := by rfl) :
    DSt X W (.Assign [.Name y py] (.ListComp elt [⟨tg, iter, ifs, 0⟩] scope pos) spos) (dAsg (dLc di t tt te (own.map (·.2))) (gdName i)) := by
  refine ps_imp (ps_setLc (i := i) (own := own) (g := t.v X.K) (tt := lT X.K W0 tt) (te := lE X.K W0 te) g.calm hN hy hyl hsw hi (by rw [eN, es]; exact blkOk_by ok) (fun s H C cl fp => hg s H C cl fp (good_blk g ..)) (fun s H C cl fp => ht s H C cl fp (good_blk g ..)) (fun s H C cl fp => he s H C cl fp (good_blk g ..)) hs) fun Dn σ H h => ?_
  obtain ⟨I, M, F, δ, Dd, hr, rs, q, f⟩ := h
  refine ⟨I, M, F, δ, _, _, hr, rs, q, fun xs src M1 I1 H1 J q1 ho s1 hr1 wk D hD => ?_, f.x rs⟩
  refine lc_lift hin q1.1 hr1 (rs.mono s1) wk q1.2 (Qd := fun p H' => Dn.nx (σ.set i (some (.ref p))) H') (fun p I' M' H' aV a hF s' hr' ra q' => ?_) D hD
  obtain ⟨z1, z2⟩ := hr'.frzF hF
  have sA := (s1.trans s').trans z1
  exact f.nx _ M' _ H' _ q' sA z2 ((rs.mono sA).set i (.lst upd_same (ra.mono z1)))
theorem s_setLcM (i : Nat) (N : List Str) (sc : Scope) (own : List (Str × Nat)) {y : Str} {py spos : Pos} (g : Good X W) (hN : X.N.Nodup) (hi : DI X W tg iter di) (ok : blkC N sc scope own = true) (hin : t.in (own.map (·.2)) = true)
    (hg : ∀ (s : Shared) (H : Hp) (C : Addr) (cl : List (Str × Addr)) (fp : List Addr), Good (X.blk s H scope (compEnvC scope cl C X.env) fp) W0 → PG (X.blk s H scope (compEnvC scope cl C X.env) fp) tg (t.v X.K))
    (ht : ∀ (s : Shared) (H : Hp) (C : Addr) (cl : List (Str × Addr)) (fp : List Addr), Good (X.blk s H scope (compEnvC scope cl C X.env) fp) W0 → DTs (X.blk s H scope (compEnvC scope cl C X.env) fp) ifs tt)
    (he : ∀ (s : Shared) (H : Hp) (C : Addr) (cl : List (Str × Addr)) (fp : List Addr), Good (X.blk s H scope (compEnvC scope cl C X.env) fp) W0 → DE (X.blk s H scope (compEnvC scope cl C X.env) fp) W0 elt te)
    (hsw : swapsWith (.ListComp elt [⟨tg, iter, ifs, 0⟩] scope pos) (some (.Name y py)) spos.line X.env = pure true) (hy : X.N[i]? = some y := by rfl) (hyl : X.env.scope.names.lookup y = some .local := by rfl) (hs : ∀ x, foldedSetIterable iter X.env x = pure x := by intro _; rfl) (eN : X.N = N := by rfl) (es : X.env.scope = sc := by rfl) :
    DSt X W (.Assign [.Name y py] (.ListComp elt [⟨tg, iter, ifs, 0⟩] scope pos) spos) (dAsg (dLcM di t tt te (own.map (·.2))) (gdName i)) := by
  refine ps_imp (ps_setLc (i := i) (own := own) (g := t.v X.K) (tt := lT X.K W0 tt) (te := lE X.K W0 te) g.calm hN hy hyl hsw hi (by rw [eN, es]; exact blkOk_by ok) (fun s H C cl fp => hg s H C cl fp (good_blk g ..)) (fun s H C cl fp => ht s H C cl fp (good_blk g ..)) (fun s H C cl fp => he s H C cl fp (good_blk g ..)) hs) fun Dn σ H h => ?_
  obtain ⟨I, M, F, δ, Dd, hr, rs, q, f⟩ := h
  refine ⟨I, M, F, δ, _, _, hr, rs, q, fun xs src M1 I1 H1 J q1 ho s1 hr1 wk D hD => ?_, f.x rs⟩
  refine lc_lift hin q1.1 hr1 (rs.mono s1) wk q1.2 (Qd := fun p H' => Dn.nx (σ.set i (some (.ref p))) H') (fun p I' M' H' aV a hF s' hr' ra q' => ?_) D hD
  exact f.nx _ _ _ H' _ (q' p hr'.atF.2.2) (s1.trans s') (hr'.mutF hF (m := .lst a) ⟨aV, rfl, ra⟩) ((rs.mono (s1.trans s')).set i (.ref p))
end

/-! ## iterables -/
def asL (M : Mp) (d : D) (k : List D → Src → Prop) : Prop := match d with
  | .lst xs => k xs .data
  | .sq xs => k xs .data
  | .ref a => ∃ xs, M a = some (.lst xs) ∧ k xs (.at a xs)
  | _ => False
def iL (te : DTE) : DTI := fun δ M R E => te δ M (fun d M1 => asL M1 d fun xs src => R xs src M1) E
def iT (te : DTE) : DTI := fun δ M R E => te δ M (fun d M1 => match d with | .tup xs => R xs .data M1 | _ => False) E
section
variable {X : Cx} {W : WX} {tg e : Expr} {te : DTE} {ta : DTA} {pos p : Pos}
theorem Reps.get {K : PySem.W.Frag} {I : Hp} {vs : List V} {ds : List D} (r : Reps K I vs ds) {i : Nat} {v : V} (h : vs[i]? = some v) : ∃ d, ds[i]? = some d ∧ Rep K I v d := by
  have hl : i < ds.length := by rw [← r.len]; exact (List.getElem?_eq_some_iff.mp h).1
  obtain ⟨v', a, b⟩ := reps_get r i ds[i] (List.getElem?_eq_getElem hl)
  rw [h] at a
  cases a
  exact ⟨_, List.getElem?_eq_getElem hl, b⟩
theorem dwalk_list {K : PySem.W.Frag} {I : Hp} {a : Addr} {vs : List V} {ds : List D} {src : Src} (r : Reps K I vs ds) (h : ∀ I' M' F H, Same I I' → HR K I' M' F H → src.holds M' → ∃ vs', SqL K H a vs' ∧ Reps K I' vs' ds) : DWalk K I (Itl K a) ds src := by
  refine ⟨fun i I' M' F H hi s hr ho => ?_, fun I' M' F H s hr ho => ?_, fun i x I' M' F H H' hi s hr ho y => ?_⟩
  · obtain ⟨vs', q, r'⟩ := h I' M' F H s hr ho
    have hi' : i < vs'.length := by rw [r'.len]; exact hi
    exact walk_list.goes i H hi' q
  · obtain ⟨vs', q, r'⟩ := h I' M' F H s hr ho
    rw [← r'.len]
    exact walk_list.stops H q
  · obtain ⟨vs', q, r'⟩ := h I' M' F H s hr ho
    have hi' : i < vs'.length := by rw [r'.len]; exact hi
    obtain ⟨e1, e2⟩ := walk_list.yields i H x H' hi' q y
    subst e1
    obtain ⟨d, e3, e4⟩ := r'.get e2
    exact ⟨I', d, Same.refl I', hr, e3, e4⟩
theorem i_list (h : DE X W e te) : DI X W tg e (iL te) := pi_imp (pi_list h) fun σ H R q => by
  obtain ⟨I, M, F, δ, Rd, Ed, hr, rs, q, fq, fx⟩ := q
  refine ⟨I, M, F, δ, _, Ed, hr, rs, q, fun d M1 I1 H1 v q1 s1 hr1 r1 => ?_, fx⟩
  cases r1 with
  | @lst a vs ds s rr => exact ⟨a, rfl, ⟨vs, SqL.of (hr1.imm _ _ s)⟩, fq ds .data M1 I1 H1 _ q1 trivial s1 hr1 (dwalk_list rr fun I' M' F' H' s' hr' _ => ⟨vs, SqL.of (hr'.imm _ _ (s' _ _ s)), rr.mono s'⟩)⟩
  | @sq a vs ds s rr => exact ⟨a, rfl, ⟨vs, hr1.sq s⟩, fq ds .data M1 I1 H1 _ q1 trivial s1 hr1 (dwalk_list rr fun I' M' F' H' s' hr' _ => ⟨vs, hr'.sq (sq_mono s' s), rr.mono s'⟩)⟩
  | ref a =>
    obtain ⟨ds, e1, q1⟩ := q1
    obtain ⟨vs, e2, rr⟩ := hr1.lst e1
    exact ⟨a, rfl, ⟨vs, SqL.of e2⟩, fq ds (.at a ds) M1 I1 H1 _ q1 e1 s1 hr1 (dwalk_list rr fun I' M' F' H' s' hr' ho => by
      obtain ⟨vs', e3, r3⟩ := hr'.lst ho
      exact ⟨vs', SqL.of e3, r3⟩)⟩
  | _ => exact q1.elim
theorem i_tup (h : DE X W e te) : DI X W tg e (iT te) := pi_imp (pi_tup h) fun σ H R q => by
  obtain ⟨I, M, F, δ, Rd, Ed, hr, rs, q, fq, fx⟩ := q
  refine ⟨I, M, F, δ, _, Ed, hr, rs, q, fun d M1 I1 H1 v q1 s1 hr1 r1 => ?_, fx⟩
  cases r1 with
  | @tup a vs ds s rr =>
    refine ⟨a, rfl, ⟨vs, hr1.st s⟩, fq ds .data M1 I1 H1 _ q1 trivial s1 hr1 ⟨fun i I' M' F H hi s' hr' ho => walk_tup.goes i H (by rw [rr.len]; exact hi) (hr'.st (st_mono s' s)), fun I' M' F H s' hr' ho => by rw [← rr.len]; exact walk_tup.stops H (hr'.st (st_mono s' s)), fun i x I' M' F H H' hi s' hr' ho y => ?_⟩⟩
    obtain ⟨e1, e2⟩ := walk_tup.yields i H x H' (by rw [rr.len]; exact hi) (hr'.st (st_mono s' s)) y
    subst e1
    obtain ⟨d, e3, e4⟩ := rr.get e2
    exact ⟨I', d, Same.refl I', hr', e3, e4.mono s'⟩
  | _ => exact q1.elim
def rngD (lo : Int) (n : Nat) : List D := (List.range n).map fun i => D.int (lo + (i : Nat))
theorem dwalk_range {K : PySem.W.Frag} {I : Hp} {lo : Int} {n : Nat} : DWalk K I (Itr lo n) (rngD lo n) .data := by
  have hl : (rngD lo n).length = n := by simp [rngD]
  refine ⟨fun i I' M' F H hi _ _ _ => walk_range.goes i H (hl ▸ hi) trivial, fun I' M' F H _ _ _ => by rw [hl]; exact walk_range.stops H trivial, fun i x I' M' F H H' hi s hr _ y => ?_⟩
  obtain ⟨e1, e2⟩ := walk_range.yields i H x H' (hl ▸ hi) trivial y
  subst e1
  subst e2
  refine ⟨I', .int (lo + (i : Nat)), Same.refl I', hr, ?_, .int _⟩
  rw [hl] at hi
  simp [rngD, hi]
def iR1 (ta : DTA) : DTI := fun δ M R E => ta δ M (fun ds M1 => match ds with
  | [.int j] => (-(2 ^ 62) ≤ j ∧ j < 2 ^ 62) ∧ R (rngD 0 j.toNat) .data M1
  | _ => False) E
def iR2 (ta : DTA) : DTI := fun δ M R E => ta δ M (fun ds M1 => match ds with
  | [.int i, .int j] => (-(2 ^ 62) ≤ i ∧ i < 2 ^ 62 ∧ -(2 ^ 62) ≤ j ∧ j < 2 ^ 62) ∧ R (rngD i (j - i).toNat) .data M1
  | _ => False) E
theorem i_range1 {a : Expr} (hm : X.mg "range" = none) (ha : DA X W [a] ta) (hg : Gl X "range" := by rfl) (hs : starEach [a] X.env = [(false, eval a X.env)] := by rfl) : DI X W tg (.Call (.Name "range" p) [a] [] pos) (iR1 ta) := pi_imp (pi_range1 hg hm ha hs) fun σ H R q => by
  obtain ⟨I, M, F, δ, Rd, Ed, hr, rs, q, fq, fx⟩ := q
  refine ⟨I, M, F, δ, _, Ed, hr, rs, q, fun ds M1 I1 H1 vs q1 s1 hr1 r1 => ?_, fx⟩
  dsimp only at q1
  split at q1
  · cases r1 with
    | cons r rr =>
      cases rr
      cases r
      exact ⟨_, rfl, q1.1.1, q1.1.2, fq _ .data M1 I1 H1 _ q1.2 trivial s1 hr1 dwalk_range⟩
  · exact q1.elim
theorem i_range2 {a b : Expr} (hm : X.mg "range" = none) (ha : DA X W [a, b] ta) (hg : Gl X "range" := by rfl) (hs : starEach [a, b] X.env = [(false, eval a X.env), (false, eval b X.env)] := by rfl) (hs2 : starEach [b] X.env = [(false, eval b X.env)] := by rfl) : DI X W tg (.Call (.Name "range" p) [a, b] [] pos) (iR2 ta) := pi_imp (pi_range2 hg hm ha hs hs2) fun σ H R q => by
  obtain ⟨I, M, F, δ, Rd, Ed, hr, rs, q, fq, fx⟩ := q
  refine ⟨I, M, F, δ, _, Ed, hr, rs, q, fun ds M1 I1 H1 vs q1 s1 hr1 r1 => ?_, fx⟩
  dsimp only at q1
  split at q1
  · cases r1 with
    | cons r rr =>
      cases rr with
      | cons r2 rr =>
        cases rr
        cases r
        cases r2
        exact ⟨_, _, rfl, q1.1, fq _ .data M1 I1 H1 _ q1.2 trivial s1 hr1 dwalk_range⟩
  · exact q1.elim
/-- a text, sign by sign -/
def sgn (z : Str) : List D := z.cps.toList.map fun c => D.str ⟨#[c]⟩
def iS (te : DTE) : DTI := fun δ M R E => te δ M (fun d M1 => match d with | .str z => R (sgn z) .data M1 | _ => False) E
theorem i_str (h : DE X W e te) : DI X W tg e (iS te) := pi_imp (pi_str h) fun σ H R q => by
  obtain ⟨I, M, F, δ, Rd, Ed, hr, rs, q, fq, fx⟩ := q
  refine ⟨I, M, F, δ, _, Ed, hr, rs, q, fun d M1 I1 H1 v q1 s1 hr1 r1 => ?_, fx⟩
  cases r1 with
  | str z =>
    have hl : (sgn z).length = z.cps.size := by simp [sgn]
    refine ⟨z, rfl, fq _ .data M1 I1 H1 _ q1 trivial s1 hr1 ⟨fun i I' M' F H hi _ _ _ => walk_str.goes i H (hl ▸ hi) trivial, fun I' M' F H _ _ _ => by rw [hl]; exact walk_str.stops H trivial, fun i x I' M' F H H' hi s hr _ y => ?_⟩⟩
    obtain ⟨e1, c, e2, e3⟩ := walk_str.yields i H x H' (hl ▸ hi) trivial y
    subst e1
    subst e3
    refine ⟨I', .str ⟨#[c]⟩, Same.refl I', hr, ?_, .str _⟩
    simp [sgn, e2]
  | _ => exact q1.elim
end
end DL

set_option Elab.async false
set_option linter.all false
set_option maxRecDepth 100000
set_option maxHeartbeats 2000000
namespace DL
open PySem PySem.Spec PyProof.Rows L2

/-! ## arithmetic -/
def i2 (x y : D) (k : Int → Int → Prop) : Prop := match x, y with | .int i, .int j => k i j | _, _ => False
theorem i2_out {K : PySem.W.Frag} {I : Hp} {v w : V} {x y : D} {k : Int → Int → Prop} (rx : Rep K I v x) (ry : Rep K I w y) (h : i2 x y k) : ∃ i j, v = .int i ∧ w = .int j ∧ k i j := by
  cases rx <;> first | exact h.elim | (cases ry <;> first | exact h.elim | exact ⟨_, _, rfl, rfl, h⟩)
def dI (C : Int → Int → Prop) (g : Int → Int → D) : DR2 := fun x y M Q => i2 x y fun i j => C i j ∧ Q (g i j) M
def dI0 (g : Int → Int → D) : DR2 := fun x y M Q => i2 x y fun i j => Q (g i j) M
theorem lr_I {K : PySem.W.Frag} {C : Int → Int → Prop} {g : Int → Int → V} {g' : Int → Int → D} (h : ∀ I i j, Rep K I (g i j) (g' i j)) : LR K (rI C g) (dI C g') := fun I M F H x y dx dy Qd Q hr rx ry q fq => by
  obtain ⟨i, j, e1, e2, c, q⟩ := i2_out rx ry q
  exact ⟨i, j, e1, e2, c, fq _ M I H _ q (Same.refl I) hr (h I i j)⟩
theorem lr_I0 {K : PySem.W.Frag} {g : Int → Int → V} {g' : Int → Int → D} (h : ∀ I i j, Rep K I (g i j) (g' i j)) : LR K (rI0 g) (dI0 g') := fun I M F H x y dx dy Qd Q hr rx ry q fq => by
  obtain ⟨i, j, e1, e2, q⟩ := i2_out rx ry q
  exact ⟨i, j, e1, e2, fq _ M I H _ q (Same.refl I) hr (h I i j)⟩
/-- a list that can be joined: its items -/
def asX (M : Mp) (d : D) (k : List D → Prop) : Prop := match d with
  | .lst xs => k xs
  | .ref a => ∃ xs, M a = some (.lst xs) ∧ k xs
  | _ => False
theorem asX_out {K : PySem.W.Frag} {I : Hp} {M : Mp} {F H : Hp} (hr : HR K I M F H) {v : V} {d : D} {k : List D → Prop} (r : Rep K I v d) (h : asX M d k) : ∃ a vs ds, v = .ref a ∧ H a = some (.lst vs) ∧ Reps K I vs ds ∧ k ds := by
  cases r with
  | lst s rr => exact ⟨_, _, _, rfl, hr.imm _ _ s, rr, h⟩
  | ref a =>
    obtain ⟨xs, e, q⟩ := h
    obtain ⟨vs, e1, r1⟩ := hr.lst e
    exact ⟨_, _, _, rfl, e1, r1, q⟩
  | _ => exact h.elim
/-- any list: read -/
def asR (M : Mp) (d : D) (k : List D → Prop) : Prop := match d with
  | .lst xs => k xs
  | .sq xs => k xs
  | .ref a => ∃ xs, M a = some (.lst xs) ∧ k xs
  | _ => False
theorem asR_out {K : PySem.W.Frag} {I : Hp} {M : Mp} {F H : Hp} (hr : HR K I M F H) {v : V} {d : D} {k : List D → Prop} (r : Rep K I v d) (h : asR M d k) : ∃ a vs ds, v = .ref a ∧ SqL K H a vs ∧ Reps K I vs ds ∧ k ds := by
  cases r with
  | lst s rr => exact ⟨_, _, _, rfl, SqL.of (hr.imm _ _ s), rr, h⟩
  | sq s rr => exact ⟨_, _, _, rfl, hr.sq s, rr, h⟩
  | ref a =>
    obtain ⟨xs, e, q⟩ := h
    obtain ⟨vs, e1, r1⟩ := hr.lst e
    exact ⟨_, _, _, rfl, SqL.of e1, r1, q⟩
  | _ => exact h.elim
theorem Reps.app {K : PySem.W.Frag} {I : Hp} : ∀ {vs ws : List V} {ds es : List D}, Reps K I vs ds → Reps K I ws es → Reps K I (vs ++ ws) (ds ++ es)
  | _, _, _, _, .nil, s => s
  | _, _, _, _, .cons r t, s => .cons r (Reps.app t s)
def dAdd : DR2 := fun x y M Q => match x, y with
  | .int i, .int j => Q (.int (i + j)) M
  | .str a, .str b => a.length + b.length ≤ sizeLine ∧ Q (.str (a ++ b)) M
  | x, y => asX M x fun xs => asX M y fun ys => xs.length + ys.length ≤ sizeLine ∧ Q (.lst (xs ++ ys)) M
abbrev rAdd4 (K : PySem.W.Frag) : R2 := fun x y H Q => (rI0 fun i j => .int (i + j)) x y H Q ∨ ((∃ i j, x = .str i ∧ y = .str j ∧ i.length + j.length ≤ sizeLine ∧ Q (.str (i ++ j)) H) ∨ rCat x y H Q)
theorem op_add4 {X : Cx} : OpR X (binaryOp .Add) (rAdd4 X.K) := op_add.or (op_add_str.or op_cat)
theorem lr_add {K : PySem.W.Frag} : LR K (rAdd4 K) dAdd := fun I M F H x y dx dy Qd Q hr rx ry q fq => by
  unfold dAdd at q
  split at q
  · cases rx; cases ry
    exact .inl ⟨_, _, rfl, rfl, fq _ M I H _ q (Same.refl I) hr (.int _)⟩
  · cases rx; cases ry
    exact .inr (.inl ⟨_, _, rfl, rfl, q.1, fq _ M I H _ q.2 (Same.refl I) hr (.str _)⟩)
  · obtain ⟨a, vs, ds, e1, h1, r1, q⟩ := asX_out hr rx q
    obtain ⟨b, ws, es, e2, h2, r2, q⟩ := asX_out hr ry q
    refine .inr (.inr ⟨a, b, vs, ws, e1, e2, h1, h2, by rw [r1.len, r2.len]; exact q.1, ?_⟩)
    exact fin_lst fq hr (r1.app r2) q.2
def dSub : DR2 := dI0 fun i j => .int (i - j)
def dMul : DR2 := dI CMulW fun i j => .int (i * j)
def dDiv : DR2 := dI CDivW fun i j => .int (i / j)
def dMod : DR2 := dI (fun _ j => 0 < j) fun i j => .int (i % j)
def dPow : DR2 := dI CPow fun i j => .int (i ^ j.toNat)
section
variable {X : Cx} {W : WX} {e a b c : Expr} {es : List Expr} {ta tb te tc : DTE} {tr : DTA} {pos p : Pos}
theorem d_add (ha : DE X W a ta) (hb : DE X W b tb) : DE X W (.BinOp a .Add b pos) (dOp dAdd ta tb) := d_op op_add4 lr_add ha hb
theorem d_sub (ha : DE X W a ta) (hb : DE X W b tb) : DE X W (.BinOp a .Sub b pos) (dOp dSub ta tb) := d_op op_sub (lr_I0 fun _ _ _ => .int _) ha hb
theorem d_mul (ha : DE X W a ta) (hb : DE X W b tb) : DE X W (.BinOp a .Mult b pos) (dOp dMul ta tb) := d_op op_mulW (lr_I fun _ _ _ => .int _) ha hb
theorem d_div (ha : DE X W a ta) (hb : DE X W b tb) : DE X W (.BinOp a .FloorDiv b pos) (dOp dDiv ta tb) := d_op op_fdivW (lr_I fun _ _ _ => .int _) ha hb
theorem d_mod (ha : DE X W a ta) (hb : DE X W b tb) : DE X W (.BinOp a .Mod b pos) (dOp dMod ta tb) := d_op op_mod (lr_I fun _ _ _ => .int _) ha hb
theorem d_pow (ha : DE X W a ta) (hb : DE X W b tb) : DE X W (.BinOp a .Pow b pos) (dOp dPow ta tb) := d_op op_pow (lr_I fun _ _ _ => .int _) ha hb
def dNeg (ta : DTE) : DTE := fun δ M Q E => ta δ M (fun x M1 => match x with | .int i => Q (.int (-i)) M1 | _ => False) E
theorem d_neg (ha : DE X W a ta) : DE X W (.UnaryOp .USub a pos) (dNeg ta) := pe_imp (pe_un un_neg ha) fun σ H Q h => by
  obtain ⟨I, M, F, δ, Qd, Ed, hr, rs, q, fq, fx⟩ := h
  refine ⟨I, M, F, δ, _, Ed, hr, rs, q, fun d M1 I1 H1 v q1 s1 hr1 r1 => ?_, fx⟩
  cases r1 with
  | int i => exact ⟨i, rfl, fq _ M1 I1 H1 _ q1 s1 hr1 (.int _)⟩
  | _ => exact q1.elim
/-! ## comparisons -/
def dLt : DR2 := dI0 fun i j => .bl (decide (i < j))
def dLe : DR2 := dI0 fun i j => .bl (decide (i ≤ j))
def dGt : DR2 := dI0 fun i j => .bl (decide (j < i))
def dGe : DR2 := dI0 fun i j => .bl (decide (j ≤ i))
theorem lr_lt {K : PySem.W.Frag} : LR K (rI0 fun i j => .bl (decide (i < j))) dLt := lr_I0 fun _ _ _ => .bl _
theorem lr_le {K : PySem.W.Frag} : LR K (rI0 fun i j => .bl (decide (i ≤ j))) dLe := lr_I0 fun _ _ _ => .bl _
theorem lr_gt {K : PySem.W.Frag} : LR K (rI0 fun i j => .bl (decide (j < i))) dGt := lr_I0 fun _ _ _ => .bl _
theorem lr_ge {K : PySem.W.Frag} : LR K (rI0 fun i j => .bl (decide (j ≤ i))) dGe := lr_I0 fun _ _ _ => .bl _
/-- data by the heap -/
inductive PyOf (M : Mp) : D → PyData → Prop
  | non : PyOf M .non .none
  | bl (b : Bool) : PyOf M (.bl b) (.bool b)
  | int (i : Int) : PyOf M (.int i) (.int i)
  | str (x : Str) : PyOf M (.str x) (.str x)
  | lst {ds : List D} {ps : List PyData} : Paired (PyOf M) ds ps → PyOf M (.lst ds) (.list ps)
  | sq {ds : List D} {ps : List PyData} : Paired (PyOf M) ds ps → PyOf M (.sq ds) (.list ps)
  | tup {ds : List D} {ps : List PyData} : Paired (PyOf M) ds ps → PyOf M (.tup ds) (.tuple ps)
  | ref {a : Addr} {ds : List D} {ps : List PyData} : M a = some (.lst ds) → Paired (PyOf M) ds ps → PyOf M (.ref a) (.list ps)
theorem dp_of {K : PySem.W.Frag} {I : Hp} {M : Mp} {F H : Hp} (hr : HR K I M F H) : ∀ (p : PyData) {v : V} {d : D}, Rep K I v d → PyOf M d p → Dp K H v p := by
  intro p
  refine PyData.rec (motive_1 := fun p => ∀ {v : V} {d : D}, Rep K I v d → PyOf M d p → Dp K H v p) (motive_2 := fun ps => ∀ {vs : List V} {ds : List D}, Reps K I vs ds → Paired (PyOf M) ds ps → DpAll K H vs ps) (motive_3 := fun _ => True) (motive_4 := fun _ => True) ?_ ?_ ?_ ?_ ?_ ?_ ?_ ?_ ?_ ?_ ?_ ?_ p
  · intro v d r h; cases h; cases r; exact .non
  · intro b v d r h; cases h; cases r; exact .bl b
  · intro i v d r h; cases h; cases r; exact .int i
  · intro x v d r h; cases h; cases r; exact .str x
  · intro ps ih v d r h
    cases h with
    | lst z => cases r with | lst s rr => exact .lst (SqL.of (hr.imm _ _ s)) (ih rr z)
    | sq z => cases r with | sq s rr => exact .lst (hr.sq s) (ih rr z)
    | ref e z =>
      cases r
      obtain ⟨vs, e1, rr⟩ := hr.lst e
      exact .lst (SqL.of e1) (ih rr z)
  · intro ps ih v d r h
    cases h with
    | tup z => cases r with | tup s rr => exact .tup (hr.st s) (ih rr z)
  · intro kvs _ v d r h; cases h
  · intro vs ds r z; cases z; cases r; exact .nil
  · intro p ps ih1 ih2 vs ds r z
    cases z with
    | cons a b => cases r with | cons r1 r2 => exact .cons (ih1 r1 a) (ih2 r2 b)
  all_goals intros; trivial
def deq (M : Mp) (x y : D) (k : Bool → Prop) : Prop := match x, y with
  | .int i, .int j => k (decide (i = j))
  | .str i, .str j => k (decide (i = j))
  | .bl i, .bl j => k (decide (i = j))
  | .non, .non => k true
  | x, y => ∃ p q, PyOf M x p ∧ PyOf M y q ∧ SeqAt.shaped p = true ∧ SeqAt.shaped q = true ∧ k (PyData.eqv p q)
def dEq : DR2 := fun x y M Q => deq M x y fun b => Q (.bl b) M
def dNe : DR2 := fun x y M Q => deq M x y fun b => Q (.bl (!b)) M
theorem deq_out {K : PySem.W.Frag} {I : Hp} {M : Mp} {F H : Hp} (hr : HR K I M F H) {v w : V} {x y : D} {k : Bool → Prop} (rx : Rep K I v x) (ry : Rep K I w y) (h : deq M x y k) : (scal v w = true ∧ k (decide (v = w))) ∨ ∃ d e, Dp K H v d ∧ Dp K H w e ∧ SeqAt.shaped d = true ∧ SeqAt.shaped e = true ∧ k (PyData.eqv d e) := by
  unfold deq at h
  split at h
  · cases rx; cases ry; exact .inl ⟨rfl, by rw [dec_int]; rw [← Bool.beq_eq_decide_eq] at h; exact h⟩
  · cases rx; cases ry; exact .inl ⟨rfl, by rw [dec_str]; rw [← Bool.beq_eq_decide_eq] at h; exact h⟩
  · cases rx; cases ry; exact .inl ⟨rfl, by rw [dec_bl]; rw [← Bool.beq_eq_decide_eq] at h; exact h⟩
  · cases rx; cases ry; exact .inl ⟨rfl, by rw [decide_eq_true rfl]; exact h⟩
  · obtain ⟨p, q, h1, h2, h3, h4, h5⟩ := h
    exact .inr ⟨p, q, dp_of hr p rx h1, dp_of hr q ry h2, h3, h4, h5⟩
abbrev rEq2 (K : PySem.W.Frag) : R2 := fun x y H Q => rEq x y H Q ∨ rEqD K x y H Q
abbrev rNe2 (K : PySem.W.Frag) : R2 := fun x y H Q => rNe x y H Q ∨ rNeD K x y H Q
theorem op_eq2 {k : Nat} (rm : Room k X.A) : OpR X (compareOp .Eq) (rEq2 X.K) := op_eq.or (op_eqD rm.units)
theorem op_ne2 {k : Nat} (rm : Room k X.A) : OpR X (compareOp .NotEq) (rNe2 X.K) := op_ne.or (op_neD rm.units)
theorem lr_eq {K : PySem.W.Frag} : LR K (rEq2 K) dEq := fun I M F H x y dx dy Qd Q hr rx ry q fq => by
  rcases deq_out hr rx ry q with ⟨h1, h2⟩ | ⟨d, e, h1, h2, h3, h4, h5⟩
  · exact .inl ⟨h1, fq _ M I H _ h2 (Same.refl I) hr (.bl _)⟩
  · exact .inr ⟨d, e, h1, h2, h3, h4, fq _ M I H _ h5 (Same.refl I) hr (.bl _)⟩
theorem lr_ne {K : PySem.W.Frag} : LR K (rNe2 K) dNe := fun I M F H x y dx dy Qd Q hr rx ry q fq => by
  rcases deq_out hr rx ry q with ⟨h1, h2⟩ | ⟨d, e, h1, h2, h3, h4, h5⟩
  · exact .inl ⟨h1, fq _ M I H _ h2 (Same.refl I) hr (.bl _)⟩
  · exact .inr ⟨d, e, h1, h2, h3, h4, fq _ M I H _ h5 (Same.refl I) hr (.bl _)⟩
/-- one sign in a text -/
def dInS : DR2 := fun x y M Q => match x, y with | .str u, .str z => ∃ c, u = ⟨#[c]⟩ ∧ Q (.bl (decide (c ∈ z.cps.toList))) M | _, _ => False
def dNotInS : DR2 := fun x y M Q => match x, y with | .str u, .str z => ∃ c, u = ⟨#[c]⟩ ∧ Q (.bl (!decide (c ∈ z.cps.toList))) M | _, _ => False
theorem lr_inS {K : PySem.W.Frag} : LR K (fun x y H Q => ∃ (c : Nat) (z : Str), x = .str ⟨#[c]⟩ ∧ y = .str z ∧ Q (.bl (decide (c ∈ z.cps.toList))) H) dInS := fun I M F H x y dx dy Qd Q hr rx ry q fq => by
  unfold dInS at q
  split at q
  · cases rx; cases ry
    obtain ⟨c, e, q⟩ := q
    exact ⟨c, _, by rw [e], rfl, fq _ M I H _ q (Same.refl I) hr (.bl _)⟩
  · exact q.elim
theorem lr_notInS {K : PySem.W.Frag} : LR K (fun x y H Q => ∃ (c : Nat) (z : Str), x = .str ⟨#[c]⟩ ∧ y = .str z ∧ Q (.bl (!decide (c ∈ z.cps.toList))) H) dNotInS := fun I M F H x y dx dy Qd Q hr rx ry q fq => by
  unfold dNotInS at q
  split at q
  · cases rx; cases ry
    obtain ⟨c, e, q⟩ := q
    exact ⟨c, _, by rw [e], rfl, fq _ M I H _ q (Same.refl I) hr (.bl _)⟩
  · exact q.elim
/-! ## subscripts -/
def dIx : DR2 := fun x y M Q => match y with
  | .int i => match x with
    | .lst xs => ∃ d, atI xs i = some d ∧ Q d M
    | .sq xs => ∃ d, atI xs i = some d ∧ Q d M
    | .tup xs => ∃ d, atI xs i = some d ∧ Q d M
    | .str z => z.length ≤ sizeLine ∧ ∃ c, atI z.cps.toList i = some c ∧ Q (.str ⟨#[c]⟩) M
    | .ref a => ∃ xs, M a = some (.lst xs) ∧ ∃ d, atI xs i = some d ∧ Q d M
    | _ => False
  | _ => False
theorem atI_reps {K : PySem.W.Frag} {I : Hp} {vs : List V} {ds : List D} (r : Reps K I vs ds) {i : Int} {d : D} (h : atI ds i = some d) : ∃ v, atI vs i = some v ∧ Rep K I v d := by
  unfold atI at h ⊢
  rw [r.len]
  cases e : ixN ds.length i with
  | none => rw [e] at h; cases h
  | some j =>
    rw [e] at h
    exact reps_get r j d h
theorem lr_ix {K : PySem.W.Frag} : LR K (rIx K) dIx := fun I M F H x y dx dy Qd Q hr rx ry q fq => by
  unfold dIx at q
  split at q
  · cases ry
    split at q
    · obtain ⟨d, e, q⟩ := q
      cases rx with
      | lst s rr => obtain ⟨v, e1, r1⟩ := atI_reps rr e; exact .inl ⟨_, _, _, v, rfl, rfl, SqL.of (hr.imm _ _ s), e1, fq _ M I H _ q (Same.refl I) hr r1⟩
    · obtain ⟨d, e, q⟩ := q
      cases rx with
      | sq s rr => obtain ⟨v, e1, r1⟩ := atI_reps rr e; exact .inl ⟨_, _, _, v, rfl, rfl, hr.sq s, e1, fq _ M I H _ q (Same.refl I) hr r1⟩
    · obtain ⟨d, e, q⟩ := q
      cases rx with
      | tup s rr => obtain ⟨v, e1, r1⟩ := atI_reps rr e; exact .inr (.inl ⟨_, _, _, v, rfl, rfl, hr.st s, e1, fq _ M I H _ q (Same.refl I) hr r1⟩)
    · obtain ⟨z, c, e, q⟩ := q
      cases rx
      exact .inr (.inr ⟨_, _, c, rfl, rfl, z, e, fq _ M I H _ q (Same.refl I) hr (.str _)⟩)
    · obtain ⟨xs, e0, d, e, q⟩ := q
      cases rx
      obtain ⟨vs, e1, rr⟩ := hr.lst e0
      obtain ⟨v, e2, r1⟩ := atI_reps rr e
      exact .inl ⟨_, _, _, v, rfl, rfl, SqL.of e1, e2, fq _ M I H _ q (Same.refl I) hr r1⟩
    · exact q.elim
  · exact q.elim
theorem d_sub_ix (ha : DE X W a ta) (hb : DE X W b tb) (hs : PlainIx b := by intro _ _; rfl) : DE X W (.Subscript a b pos) (dOp dIx ta tb) := d_ix ix_seq lr_ix ha hb hs
/-- slices -/
abbrev DTO := DS → Mp → (Option Int → Mp → Prop) → DXK → Prop
def lO (K : PySem.W.Frag) (W : WX) (t : DTO) : TO := fun σ H Q => ∃ I M F δ Qd Ed, HR K I M F H ∧ RepS K I σ δ ∧ t δ M Qd Ed ∧ (∀ o M' I' H', Qd o M' → Same I I' → HR K I' M' F H' → Q o H') ∧ FinX K I F Ed (WE W σ)
def DO (X : Cx) (W : WX) (e : Option Expr) (t : DTO) : Prop := PO X e (lO X.K W t)
def oNone : DTO := fun _ M Q _ => Q none M
def oSome (te : DTE) : DTO := fun δ M Q E => te δ M (fun d M1 => match d with | .int i => Q (some i) M1 | _ => False) E
theorem o_none : DO X W none oNone := ⟨fun pins s σ H Q I h => po_none.run pins s σ H Q I (by
  obtain ⟨I, M, F, δ, Qd, Ed, hr, rs, q, fq, fx⟩ := h
  exact fq none M I H q (Same.refl I) hr)⟩
theorem o_some (h : DE X W e te) : DO X W (some e) (oSome te) := ⟨fun pins s σ H Q I q => (po_some h).run pins s σ H Q I (by
  obtain ⟨I, M, F, δ, Qd, Ed, hr, rs, q, fq, fx⟩ := q
  refine ⟨I, M, F, δ, _, Ed, hr, rs, q, fun d M1 I1 H1 v q1 s1 hr1 r1 => ?_, fx⟩
  cases r1 with
  | int i => exact ⟨i, rfl, fq _ M1 I1 H1 q1 s1 hr1⟩
  | _ => exact q1.elim)⟩
def cutD (xs : List D) (lo hi : Option Int) : List D := (xs.drop (HT.sIx xs.length 0 lo)).take (HT.sIx xs.length xs.length hi - HT.sIx xs.length 0 lo)
theorem Reps.drop {K : PySem.W.Frag} {I : Hp} : ∀ {vs : List V} {ds : List D} (n : Nat), Reps K I vs ds → Reps K I (vs.drop n) (ds.drop n)
  | _, _, 0, r => r
  | _, _, _ + 1, .nil => .nil
  | _, _, n + 1, .cons _ t => Reps.drop n t
theorem Reps.take {K : PySem.W.Frag} {I : Hp} : ∀ {vs : List V} {ds : List D} (n : Nat), Reps K I vs ds → Reps K I (vs.take n) (ds.take n)
  | _, _, 0, _ => .nil
  | _, _, _ + 1, .nil => .nil
  | _, _, n + 1, .cons r t => .cons r (Reps.take n t)
theorem Reps.rev {K : PySem.W.Frag} {I : Hp} : ∀ {vs : List V} {ds : List D}, Reps K I vs ds → Reps K I vs.reverse ds.reverse
  | _, _, .nil => .nil
  | _, _, .cons r t => by
    rw [List.reverse_cons, List.reverse_cons]
    exact (Reps.rev t).app (.cons r .nil)
theorem Reps.cut {K : PySem.W.Frag} {I : Hp} {vs : List V} {ds : List D} (r : Reps K I vs ds) (lo hi : Option Int) : Reps K I (cutV vs lo hi) (cutD ds lo hi) := by
  unfold cutV cutD
  rw [r.len]
  exact (r.drop _).take _
def dSl3 (x : D) (lo hi : Option Int) (M : Mp) (Q : DK) : Prop := match x with
  | .str z => z.length ≤ sizeLine ∧ Q (.str (cutS z lo hi)) M
  | x => asR M x fun xs => Q (.lst (cutD xs lo hi)) M
def dSl (te : DTE) (tl th : DTO) : DTE := fun δ M Q E => te δ M (fun x M1 => tl δ M1 (fun l M2 => th δ M2 (fun u M3 => dSl3 x l u M3 Q) E) E) E
theorem d_slice {lo hi : Option Expr} {tl th : DTO} {p2 : Pos} (he : DE X W e te) (hl : DO X W lo tl) (hu : DO X W hi th) : DE X W (.Subscript e (.Slice lo hi none p2) pos) (dSl te tl th) := pe_imp (pe_slice (sl_list.or sl_str) he hl hu) fun σ H Q h => by
  obtain ⟨I, M, F, δ, Qd, Ed, hr, rs, q, fq, fx⟩ := h
  refine ⟨I, M, F, δ, _, Ed, hr, rs, q, fun x M1 I1 H1 v q1 s1 hr1 r1 => ?_, fx⟩
  refine ⟨I1, M1, F, δ, _, Ed, hr1, rs.mono s1, q1, fun l M2 I2 H2 q2 s2 hr2 => ?_, fx.mono s1⟩
  refine ⟨I2, M2, F, δ, _, Ed, hr2, (rs.mono s1).mono s2, q2, fun u M3 I3 H3 q3 s3 hr3 => ?_, (fx.mono s1).mono s2⟩
  have r3 := (r1.mono s2).mono s3
  have f3 := fq.mono ((s1.trans s2).trans s3)
  unfold dSl3 at q3
  split at q3
  · cases r3
    exact .inr ⟨_, rfl, q3.1, f3 _ M3 I3 H3 _ q3.2 (Same.refl _) hr3 (.str _)⟩
  · obtain ⟨a, vs, ds, e1, sq, rr, q⟩ := asR_out hr3 r3 q3
    exact .inl ⟨a, vs, e1, sq, fin_lst f3 hr3 (rr.cut l u) q⟩
def dRev (te : DTE) : DTE := fun δ M Q E => te δ M (fun x M1 => asR M1 x fun xs => Q (.lst xs.reverse) M1) E
theorem d_rev {k : Nat} {p1 p2 p3 : Pos} (he : DE X W e te) : DE X W (.Subscript e (.Slice none none (some (.UnaryOp .USub (.Constant (.int 1) k p1) p2)) p3) pos) (dRev te) := pe_imp (pe_revL he) fun σ H Q h => by
  obtain ⟨I, M, F, δ, Qd, Ed, hr, rs, q, fq, fx⟩ := h
  refine ⟨I, M, F, δ, _, Ed, hr, rs, q, fun x M1 I1 H1 v q1 s1 hr1 r1 => ?_, fx⟩
  obtain ⟨a, vs, ds, e1, sq, rr, q⟩ := asR_out hr1 r1 q1
  exact ⟨a, vs, e1, sq, fin_lst (fq.mono s1) hr1 rr.rev q⟩
/-! ## stores into a list -/
def gdSubL (to ti : DTE) : DTG := fun d δ M Q E => to δ M (fun o M1 => ti δ M1 (fun i M2 => match o, i with
  | .ref a, .int i => ∃ xs, M2 a = some (.lst xs) ∧ ∃ j, ixN xs.length i = some j ∧ Q δ (updM M2 a (.lst (xs.set j d)))
  | _, _ => False) E) E
theorem Reps.setN {K : PySem.W.Frag} {I : Hp} {v : V} {d : D} (r : Rep K I v d) : ∀ {vs : List V} {ds : List D} (j : Nat), Reps K I vs ds → Reps K I (vs.set j v) (ds.set j d)
  | _, _, _, .nil => .nil
  | _, _, 0, .cons _ t => .cons r t
  | _, _, j + 1, .cons q t => .cons q (Reps.setN r j t)
theorem g_subL {o i : Expr} {to ti : DTE} (ho : DE X W o to) (hi : DE X W i ti)
    (hq : ∀ z, assign (.Subscript o i pos) X.env z = (do let x1 ← holding [z] (eval o X.env); let x2 ← holding [z, x1] (eval i X.env); standAt pos; holding [z, x1, x2] (setItem x1 x2 z); release [z, x1, x2] []) := by intro _; rfl) : DG X W (.Subscript o i pos) (gdSubL to ti) := pg_imp (pg_sub ho hi set_list hq) fun v σ H Q h => by
  obtain ⟨I, M, F, δ, d, Qd, Ed, hr, rs, r, q, fq, fx⟩ := h
  refine ⟨I, M, F, δ, _, Ed, hr, rs, q, fun o M1 I1 H1 vo q1 s1 hr1 r1 => ?_, fx⟩
  refine ⟨I1, M1, F, δ, _, Ed, hr1, rs.mono s1, q1, fun i M2 I2 H2 vi q2 s2 hr2 r2 => ?_, fx.mono s1⟩
  dsimp only at q2
  split at q2
  · cases r1; cases r2
    obtain ⟨xs, e1, j, e2, q⟩ := q2
    obtain ⟨vs, e3, rr⟩ := hr2.lst e1
    refine ⟨_, vs, _, j, rfl, rfl, e3, by rw [rr.len]; exact e2, ?_⟩
    have r' := (r.mono s1).mono s2
    exact fq _ _ I2 _ _ q (s1.trans s2) (hr2.write e1 (fun _ _ z => nomatch z) (o := .lst (vs.set j v)) (m := .lst (xs.set j d)) ⟨_, rfl, rr.setN r' j⟩) ((rs.mono s1).mono s2)
  · exact q2.elim
end
end DL

set_option Elab.async false
set_option linter.all false
set_option maxRecDepth 100000
set_option maxHeartbeats 2000000
namespace DL
open PySem PySem.Spec PyProof.Rows L2

/-! ## built-ins by their names -/
abbrev DRC := List D → Mp → DK → Prop
def LC (K : PySem.W.Frag) (r' : List V → Hp → VK → Prop) (r : DRC) : Prop := ∀ I M F H vs ds Qd Q, HR K I M F H → Reps K I vs ds → r ds M Qd → Fin K I F Qd Q → r' vs H Q
def dCB (r : DRC) (ta : DTA) : DTE := fun δ M Q E => ta δ M (fun ds M1 => r ds M1 Q) E
theorem CallR.or {X : Cx} {f : Value} {r r' : List V → Hp → VK → Prop} (h : CallR X f r) (h' : CallR X f r') : CallR X f (fun xs H Q => r xs H Q ∨ r' xs H Q) := by
  intro pins s σ H xs us Q I rv z
  rcases z with z | z
  · exact h pins s σ H xs us Q I rv z
  · exact h' pins s σ H xs us Q I rv z
section
variable {X : Cx} {W : WX} {e a b c : Expr} {es : List Expr} {ta tb te tc : DTE} {tr : DTA} {pos p : Pos} {x : Str} {bid T : String} {r : DRC} {r' : List V → Hp → VK → Prop}
theorem cb_lift {K : PySem.W.Frag} (hl : LC K r' r) : ∀ σ H Q, lE K W (dCB r tr) σ H Q → tCB r' (lA K W tr) σ H Q := by
  intro σ H Q h
  obtain ⟨I, M, F, δ, Qd, Ed, hr, rs, q, fq, fx⟩ := h
  exact ⟨I, M, F, δ, _, Ed, hr, rs, q, fun ds M1 I1 H1 vs q1 s1 hr1 r1 => hl I1 M1 F H1 vs ds Qd Q hr1 r1 q1 (fq.mono s1), fx⟩
theorem d_callB (hc : CallR X (.builtin bid) r') (hl : LC X.K r' r) (hm : X.mg x = none) (hv : bootBuiltins x = some (.builtin bid)) (ha : DA X W (e :: es) tr) (hg : Gl X x := by rfl) (hn : x ≠ "__name__" := by decide) (hdb : (x == ("__debug__" : Str)) = false := by decide)
    (he : starEach (e :: es) X.env = (false, eval e X.env) :: starEach es X.env := by rfl) (hpl : (backTo pos (starEach es X.env)).any (·.1) = false := by rfl) : DE X W (.Call (.Name x p) (e :: es) [] pos) (dCB r tr) :=
  pe_imp (pe_callB hc hg hm hv ha hn hdb he hpl) (cb_lift hl)
theorem d_callTy (hc : CallR X (.type T) r') (hl : LC X.K r' r) (hm : X.mg x = none) (hv : bootBuiltins x = some (.type T)) (ha : DA X W (e :: es) tr) (hg : Gl X x := by rfl) (hn : x ≠ "__name__" := by decide) (hdb : (x == ("__debug__" : Str)) = false := by decide)
    (he : starEach (e :: es) X.env = (false, eval e X.env) :: starEach es X.env := by rfl) (hpl : (backTo pos (starEach es X.env)).any (·.1) = false := by rfl) : DE X W (.Call (.Name x p) (e :: es) [] pos) (dCB r tr) :=
  pe_imp (pe_callTy hc hg hm hv ha hn hdb he hpl) (cb_lift hl)
/-! len -/
def dLen1 (d : D) (M : Mp) (Q : DK) : Prop := match d with
  | .str z => z.length ≤ sizeLine ∧ Q (.int (z.length : Nat)) M
  | .lst xs => Q (.int (xs.length : Nat)) M
  | .sq xs => Q (.int (xs.length : Nat)) M
  | .tup xs => Q (.int (xs.length : Nat)) M
  | .dct xs => Q (.int (xs.length : Nat)) M
  | .ref a => ∃ m, M a = some m ∧ (match m with | .lst xs => Q (.int (xs.length : Nat)) M | .dct xs => Q (.int (xs.length : Nat)) M | _ => False)
  | _ => False
def one (ds : List D) (k : D → Prop) : Prop := match ds with | [d] => k d | _ => False
def two (ds : List D) (k : D → D → Prop) : Prop := match ds with | [d, e] => k d e | _ => False
theorem one_out {K : PySem.W.Frag} {I : Hp} {vs : List V} {ds : List D} {k : D → Prop} (r : Reps K I vs ds) (h : one ds k) : ∃ v d, vs = [v] ∧ Rep K I v d ∧ k d := by
  unfold one at h
  split at h
  · cases r with | cons a b => cases b; exact ⟨_, _, rfl, a, h⟩
  · exact h.elim
theorem two_out {K : PySem.W.Frag} {I : Hp} {vs : List V} {ds : List D} {k : D → D → Prop} (r : Reps K I vs ds) (h : two ds k) : ∃ v w d e, vs = [v, w] ∧ Rep K I v d ∧ Rep K I w e ∧ k d e := by
  unfold two at h
  split at h
  · cases r with | cons a b => cases b with | cons b c => cases c; exact ⟨_, _, _, _, rfl, a, b, h⟩
  · exact h.elim
def dLen : DRC := fun ds M Q => one ds fun d => dLen1 d M Q
theorem RepK.len {K : PySem.W.Frag} {I : Hp} : ∀ {vs : List (Key × V)} {ds : List (Key × D)}, RepK K I vs ds → vs.length = ds.length
  | _, _, .nil => rfl
  | _, _, .cons _ r => congrArg (· + 1) r.len
theorem lc_len {K : PySem.W.Frag} : LC K (fun xs H Q => (∃ x n, xs = [x] ∧ LenV K x H n ∧ Q (.int n) H) ∨ ∃ d kvs, xs = [.ref d] ∧ H d = some (.dK kvs) ∧ Q (.int kvs.length) H) dLen := fun I M F H vs ds Qd Q hr rs q fq => by
  obtain ⟨v, d, rfl, r, q⟩ := one_out rs q
  have fin : ∀ n : Nat, Qd (.int n) M → Q (.int n) H := fun n z => fq _ M I H _ z (Same.refl I) hr (.int _)
  cases r with
  | str z => exact .inl ⟨_, _, rfl, ⟨q.1, rfl⟩, fin _ q.2⟩
  | lst s rr => exact .inl ⟨_, _, rfl, .inl ⟨_, SqL.of (hr.imm _ _ s), rfl⟩, by rw [rr.len]; exact fin _ q⟩
  | sq s rr => exact .inl ⟨_, _, rfl, .inl ⟨_, hr.sq s, rfl⟩, by rw [rr.len]; exact fin _ q⟩
  | tup s rr => exact .inl ⟨_, _, rfl, .inr ⟨_, hr.st s, rfl⟩, by rw [rr.len]; exact fin _ q⟩
  | dct s rr => exact .inr ⟨_, _, rfl, hr.imm _ _ s, by rw [rr.len]; exact fin _ q⟩
  | ref a =>
    obtain ⟨m, e, q⟩ := q
    cases m with
    | lst xs => obtain ⟨vs, e1, rr⟩ := hr.lst e; exact .inl ⟨_, _, rfl, .inl ⟨_, SqL.of e1, rfl⟩, by rw [rr.len]; exact fin _ q⟩
    | dct xs => obtain ⟨vs, e1, rr⟩ := hr.dct e; exact .inr ⟨_, _, rfl, e1, by rw [rr.len]; exact fin _ q⟩
    | ins C fs => exact q.elim
    | exc C fs => exact q.elim
    | xd fs => exact q.elim
    | dT fs => exact q.elim
    | dctL od us fs => exact q.elim
    | dTL od us fs => exact q.elim
  | _ => exact q.elim
theorem d_len (hm : X.mg "len" = none) (ha : DA X W [e] tr) (he : starEach [e] X.env = (false, eval e X.env) :: starEach [] X.env := by rfl) (hg : Gl X "len" := by rfl) : DE X W (.Call (.Name "len" p) [e] [] pos) (dCB dLen tr) :=
  d_callB (CallR.or call_len call_lenD) lc_len hm PySem.boot_len ha hg (he := he)
/-! max, min, sum, all, any -/
def dMax : DRC := fun ds M Q => two ds fun x y => i2 x y fun i j => Q (.int (if j > i then j else i)) M
def dMin : DRC := fun ds M Q => two ds fun x y => i2 x y fun i j => Q (.int (if j < i then j else i)) M
theorem lc_max {K : PySem.W.Frag} : LC K (fun xs H Q => ∃ i j, xs = [.int i, .int j] ∧ Q (.int (if j > i then j else i)) H) dMax := fun I M F H vs ds Qd Q hr rs q fq => by
  obtain ⟨v, w, d, e, rfl, r1, r2, q⟩ := two_out rs q
  obtain ⟨i, j, rfl, rfl, q⟩ := i2_out r1 r2 q
  exact ⟨i, j, rfl, fq _ M I H _ q (Same.refl I) hr (.int _)⟩
theorem lc_min {K : PySem.W.Frag} : LC K (fun xs H Q => ∃ i j, xs = [.int i, .int j] ∧ Q (.int (if j < i then j else i)) H) dMin := fun I M F H vs ds Qd Q hr rs q fq => by
  obtain ⟨v, w, d, e, rfl, r1, r2, q⟩ := two_out rs q
  obtain ⟨i, j, rfl, rfl, q⟩ := i2_out r1 r2 q
  exact ⟨i, j, rfl, fq _ M I H _ q (Same.refl I) hr (.int _)⟩
theorem d_max (g : Good X W) (hm : X.mg "max" = none) (ha : DA X W [a, b] tr) (he : starEach [a, b] X.env = (false, eval a X.env) :: starEach [b] X.env := by rfl) (hpl : (backTo pos (starEach [b] X.env)).any (·.1) = false := by rfl) (hg : Gl X "max" := by rfl) : DE X W (.Call (.Name "max" p) [a, b] [] pos) (dCB dMax tr) :=
  d_callB (call_max2 g.calm) lc_max hm (by decide +kernel) ha hg (he := he) (hpl := hpl)
theorem d_min (g : Good X W) (hm : X.mg "min" = none) (ha : DA X W [a, b] tr) (he : starEach [a, b] X.env = (false, eval a X.env) :: starEach [b] X.env := by rfl) (hpl : (backTo pos (starEach [b] X.env)).any (·.1) = false := by rfl) (hg : Gl X "min" := by rfl) : DE X W (.Call (.Name "min" p) [a, b] [] pos) (dCB dMin tr) :=
  d_callB (call_min2 g.calm) lc_min hm (by decide +kernel) ha hg (he := he) (hpl := hpl)
theorem reps_ints {K : PySem.W.Frag} {I : Hp} : ∀ {ns : List Int} {vs : List V}, Reps K I vs (ns.map D.int) → vs = ns.map V.int
  | [], _, .nil => rfl
  | n :: ns, _, .cons r rr => by
    cases r
    rw [reps_ints rr]
    rfl
theorem reps_bls {K : PySem.W.Frag} {I : Hp} : ∀ {ns : List Bool} {vs : List V}, Reps K I vs (ns.map D.bl) → vs = ns.map V.bl
  | [], _, .nil => rfl
  | n :: ns, _, .cons r rr => by
    cases r
    rw [reps_bls rr]
    rfl
theorem reps_strs {K : PySem.W.Frag} {I : Hp} : ∀ {ns : List Str} {vs : List V}, Reps K I vs (ns.map D.str) → vs = ns.map V.str
  | [], _, .nil => rfl
  | n :: ns, _, .cons r rr => by
    cases r
    rw [reps_strs rr]
    rfl
def dSum : DRC := fun ds M Q => one ds fun d => asR M d fun xs => ∃ ns : List Int, xs = ns.map D.int ∧ Q (.int ns.sum) M
def dAll : DRC := fun ds M Q => one ds fun d => asR M d fun xs => ∃ ns : List Bool, xs = ns.map D.bl ∧ Q (.bl (ns.all id)) M
def dAny : DRC := fun ds M Q => one ds fun d => asR M d fun xs => ∃ ns : List Bool, xs = ns.map D.bl ∧ Q (.bl (ns.any id)) M
theorem lc_sum {K : PySem.W.Frag} : LC K (rSum K) dSum := fun I M F H vs ds Qd Q hr rs q fq => by
  obtain ⟨v, d, rfl, r, q⟩ := one_out rs q
  obtain ⟨a, ws, es, rfl, s, rr, ns, rfl, q⟩ := asR_out hr r q
  cases reps_ints rr
  exact ⟨a, ns, rfl, s, fq _ M I H _ q (Same.refl I) hr (.int _)⟩
theorem lc_all {K : PySem.W.Frag} : LC K (rAll K) dAll := fun I M F H vs ds Qd Q hr rs q fq => by
  obtain ⟨v, d, rfl, r, q⟩ := one_out rs q
  obtain ⟨a, ws, es, rfl, s, rr, ns, rfl, q⟩ := asR_out hr r q
  cases reps_bls rr
  exact ⟨a, ns, rfl, s, fq _ M I H _ q (Same.refl I) hr (.bl _)⟩
theorem lc_any {K : PySem.W.Frag} : LC K (rAny K) dAny := fun I M F H vs ds Qd Q hr rs q fq => by
  obtain ⟨v, d, rfl, r, q⟩ := one_out rs q
  obtain ⟨a, ws, es, rfl, s, rr, ns, rfl, q⟩ := asR_out hr r q
  cases reps_bls rr
  exact ⟨a, ns, rfl, s, fq _ M I H _ q (Same.refl I) hr (.bl _)⟩
theorem d_sum (g : Good X W) (hm : X.mg "sum" = none) (ha : DA X W [e] tr) (he : starEach [e] X.env = (false, eval e X.env) :: starEach [] X.env := by rfl) (hg : Gl X "sum" := by rfl) : DE X W (.Call (.Name "sum" p) [e] [] pos) (dCB dSum tr) :=
  d_callB (cr_sum g.calm) lc_sum hm (by decide +kernel) ha hg (he := he)
theorem d_all (g : Good X W) (hm : X.mg "all" = none) (ha : DA X W [e] tr) (he : starEach [e] X.env = (false, eval e X.env) :: starEach [] X.env := by rfl) (hg : Gl X "all" := by rfl) : DE X W (.Call (.Name "all" p) [e] [] pos) (dCB dAll tr) :=
  d_callB (cr_all g.calm) lc_all hm (by decide +kernel) ha hg (he := he)
theorem d_any (g : Good X W) (hm : X.mg "any" = none) (ha : DA X W [e] tr) (he : starEach [e] X.env = (false, eval e X.env) :: starEach [] X.env := by rfl) (hg : Gl X "any" := by rfl) : DE X W (.Call (.Name "any" p) [e] [] pos) (dCB dAny tr) :=
  d_callB (cr_any g.calm) lc_any hm (by decide +kernel) ha hg (he := he)
/-! str(n), int(text), list(..), tuple(..) -/
def dStr : DRC := fun ds M Q => one ds fun d => match d with | .int i => i.natAbs.log2 < 1920 ∧ Q (.str (toString i)) M | _ => False
theorem lc_str {K : PySem.W.Frag} : LC K (fun xs H Q => ∃ i, xs = [.int i] ∧ i.natAbs.log2 < 1920 ∧ Q (.str (toString i)) H) dStr := fun I M F H vs ds Qd Q hr rs q fq => by
  obtain ⟨v, d, rfl, r, q⟩ := one_out rs q
  cases r with
  | int i => exact ⟨i, rfl, q.1, fq _ M I H _ q.2 (Same.refl I) hr (.str _)⟩
  | _ => exact q.elim
theorem d_strI (hm : X.mg "str" = none) (ha : DA X W [e] tr) (he : starEach [e] X.env = (false, eval e X.env) :: starEach [] X.env := by rfl) (hg : Gl X "str" := by rfl) : DE X W (.Call (.Name "str" p) [e] [] pos) (dCB dStr tr) :=
  d_callTy call_str_int lc_str hm (by decide +kernel) ha hg (he := he)
def dIntS : DRC := fun ds M Q => one ds fun d => match d with | .str a => ∃ n, PySem.intText? a = some n ∧ a.length ≤ 640 ∧ Q (.int n) M | _ => False
theorem lc_intS {K : PySem.W.Frag} : LC K (fun xs H Q => ∃ a n, xs = [.str a] ∧ PySem.intText? a = some n ∧ a.length ≤ 640 ∧ Q (.int n) H) dIntS := fun I M F H vs ds Qd Q hr rs q fq => by
  obtain ⟨v, d, rfl, r, q⟩ := one_out rs q
  cases r with
  | str a => obtain ⟨n, e1, e2, q⟩ := q; exact ⟨a, n, rfl, e1, e2, fq _ M I H _ q (Same.refl I) hr (.int _)⟩
  | _ => exact q.elim
theorem d_intS (hm : X.mg "int" = none) (ha : DA X W [e] tr) (he : starEach [e] X.env = (false, eval e X.env) :: starEach [] X.env := by rfl) (hg : Gl X "int" := by rfl) : DE X W (.Call (.Name "int" p) [e] [] pos) (dCB dIntS tr) :=
  d_callTy call_int_str lc_intS hm (by decide +kernel) ha hg (he := he)
/-! isinstance -/
inductive Ty where
  | non | bl | int | str | lst | tup | dct | own
def Ty.nm : Ty → String
  | .non => "NoneType" | .bl => "bool" | .int => "int" | .str => "str" | .lst => "list" | .tup => "tuple" | .dct => "dict" | .own => ""
def isT : Ty → Ty → Bool
  | .bl, .bl => true | .bl, .int => true | .int, .int => true | .str, .str => true | .lst, .lst => true | .tup, .tup => true | .dct, .dct => true | _, _ => false
theorem kit_all (K : PySem.W.Frag) : ∀ t u : Ty, t ≠ .own → u ≠ .non → u ≠ .own → PySem.W.kitOne K (.type t.nm) (.type u.nm) = some (isT t u) := by
  intro t u h1 h h2
  cases u <;> first | exact absurd rfl h | exact absurd rfl h2 | (cases t <;> first | exact absurd rfl h1 | exact kit_ty (by decide +kernel))
def tyD (d : D) (M : Mp) (k : Ty → Prop) : Prop := match d with
  | .non => k .non | .bl _ => k .bl | .int _ => k .int | .str _ => k .str | .lst _ => k .lst | .sq _ => k .lst | .tup _ => k .tup | .dct _ => k .dct
  | .ref a => ∃ m, M a = some m ∧ (match m with | .lst _ => k .lst | .dct _ => k .dct | .exc _ _ => k .own | _ => False)
  | _ => False
theorem call_isiE {X : Cx} : CallR X (.builtin "isinstance") (fun xs H Q => ∃ (a C d : Addr) (vs : List (Str × V)) (n : String), xs = [.ref a, .ty n] ∧ ExcCls X.K C ∧ H a = some (exo a C (some d)) ∧ H d = some (exd d vs) ∧ PySem.W.kitOne X.K (.ref C) (.type n) = some false ∧ Q (.bl false) H) := by
  intro pins s σ H xs us Q I r h
  obtain ⟨a, C, d, vs, n, rfl, c, ha, hd, hk, q⟩ := h
  obtain ⟨u1, u2, rfl, r1, r2⟩ := vals2 r
  cases (show u1 = Value.ref a from r1)
  cases (show u2 = Value.type n from r2)
  obtain ⟨t1, g1⟩ := exo_at I.hok ha
  obtain ⟨mA, ⟨od, es, ep, g2, _⟩, _⟩ := exd_at I.hok hd
  refine PySem.W.kia_one (PySem.W.kitx_exc (od := some od) c.cl c.ga c.gt c.sub c.ca c.sp c.tk c.mr) I.kIn ⟨g1, rfl, rfl, ?_⟩ hk (fun z => nomatch z) fun tk => ⟨.bl false, H, I.tok tk, rfl, q⟩
  exact g2
theorem tyD_out {K : PySem.W.Frag} {I : Hp} {M : Mp} {F H : Hp} (hr : HR K I M F H) {v : V} {d : D} {k : Ty → Prop} (r : Rep K I v d) (h : tyD d M k) : (∃ t : Ty, t ≠ .own ∧ TyX K H v (.type t.nm) ∧ k t) ∨ ∃ a C ds d vs, v = .ref a ∧ RepO K I H a (exo a C (some d)) (.exc C ds) ∧ H a = some (exo a C (some d)) ∧ H d = some (exd d vs) ∧ k .own := by
  cases r with
  | non => exact .inl ⟨.non, (fun z => nomatch z), .base .non, h⟩
  | bl b => exact .inl ⟨.bl, (fun z => nomatch z), .base (.bl b), h⟩
  | int i => exact .inl ⟨.int, (fun z => nomatch z), .base (.int i), h⟩
  | str x => exact .inl ⟨.str, (fun z => nomatch z), .base (.str x), h⟩
  | lst s rr => exact .inl ⟨.lst, (fun z => nomatch z), .base (.lst (hr.imm _ _ s)), h⟩
  | sq s rr =>
    rcases hr.sq s with (z | ⟨o, z⟩) | ⟨o, _, _, z, c, _⟩
    · exact .inl ⟨.lst, (fun z => nomatch z), .base (.lst z), h⟩
    · exact .inl ⟨.lst, (fun z => nomatch z), .base (.frz z), h⟩
    · exact .inl ⟨.lst, (fun z => nomatch z), .kList z c, h⟩
  | tup s rr =>
    rcases hr.st s with (z | ⟨o, z⟩) | ⟨o, _, _, z, c, _⟩
    · exact .inl ⟨.tup, (fun z => nomatch z), .base (.tup z), h⟩
    · exact .inl ⟨.tup, (fun z => nomatch z), .fTuple z, h⟩
    · exact .inl ⟨.tup, (fun z => nomatch z), .kTuple z c, h⟩
  | dct s rr => exact .inl ⟨.dct, (fun z => nomatch z), .base (.dK (hr.imm _ _ s)), h⟩
  | ins s rr => exact h.elim
  | ty n => exact h.elim
  | ref a =>
    obtain ⟨m, e, q⟩ := h
    cases m with
    | lst xs => obtain ⟨vs, e1, rr⟩ := hr.lst e; exact .inl ⟨.lst, (fun z => nomatch z), .base (.lst e1), q⟩
    | dct xs => obtain ⟨vs, e1, rr⟩ := hr.dct e; exact .inl ⟨.dct, (fun z => nomatch z), .base (.dK e1), q⟩
    | ins C fs => exact q.elim
    | xd fs => exact q.elim
    | dT fs => exact q.elim
    | dctL od us fs => exact q.elim
    | dTL od us fs => exact q.elim
    | exc C fs =>
      obtain ⟨_, o, e1, c, d, vs, rfl, e2, rr⟩ := hr.mu a _ e
      exact .inr ⟨a, C, fs, d, vs, rfl, ⟨c, d, vs, rfl, e2, rr⟩, e1, e2, q⟩
def dIsi (u : Ty) (te : DTE) : DTE := fun δ M Q E => te δ M (fun d M1 => tyD d M1 fun t => Q (.bl (isT t u)) M1) E
theorem d_isi (u : Ty) {y : Str} {p' : Pos} (hu : u ≠ .non) (hu2 : u ≠ .own) (hm : X.mg "isinstance" = none) (hmy : X.mg y = none) (hy : bootBuiltins y = some (.type u.nm)) (he : DE X W e te) (hs : starEach [e, .Name y p'] X.env = (false, eval e X.env) :: starEach [.Name y p'] X.env := by rfl) (hgy : Gl X y := by rfl) (hny : y ≠ "__name__" := by decide) (hdy : (y == ("__debug__" : Str)) = false := by decide)
    (hs2 : starEach [.Name y p'] X.env = (false, eval (.Name y p') X.env) :: starEach [] X.env := by rfl) (hpl : (backTo pos (starEach [.Name y p'] X.env)).any (·.1) = false := by rfl) (hg : Gl X "isinstance" := by rfl) : DE X W (.Call (.Name "isinstance" p) [e, .Name y p'] [] pos) (dIsi u te) := by
  refine pe_imp (pe_callB (CallR.or call_isi call_isiE) hg hm (by decide +kernel) (pa_cons he (pa_cons (pe_bltn hgy hmy hy (v := .ty u.nm) rfl hny hdy) pa_nil hs2) hs) (by decide) (by decide) hs hpl) fun σ H Q h => ?_
  obtain ⟨I, M, F, δ, Qd, Ed, hr, rs, q, fq, fx⟩ := h
  refine ⟨I, M, F, δ, _, Ed, hr, rs, q, fun d M1 I1 H1 v q1 s1 hr1 r1 => ?_, fx⟩
  rcases tyD_out hr1 r1 q1 with ⟨t, ht, ty, q⟩ | ⟨a, C, ds, dd, vs, rfl, ro, e1, e2, q⟩
  · exact .inl ⟨v, .ty u.nm, _, _, _, rfl, .ty _, ty, kit_all X.K t u ht hu hu2, fq _ M1 I1 H1 _ q s1 hr1 (.bl _)⟩
  · refine .inr ⟨a, C, dd, vs, u.nm, rfl, ro.1, e1, e2, ro.1.kit u.nm ?_, ?_⟩
    · cases u <;> first | exact absurd rfl hu | exact absurd rfl hu2 | exact (by decide)
    · have e0 : isT .own u = false := by cases u <;> rfl
      rw [e0] at q
      exact fq _ M1 I1 H1 _ q s1 hr1 (.bl _)
/-! repr of data -/
theorem nodict {K : PySem.W.Frag} {H : Hp} : ∀ (p : PyData) {v : V}, Dp K H v p → p.hasDict = false := by
  intro p
  refine PyData.rec (motive_1 := fun p => ∀ {v : V}, Dp K H v p → p.hasDict = false) (motive_2 := fun ps => ∀ {vs : List V}, DpAll K H vs ps → PyData.hasDictAll ps = false) (motive_3 := fun _ => True) (motive_4 := fun _ => True) ?_ ?_ ?_ ?_ ?_ ?_ ?_ ?_ ?_ ?_ ?_ ?_ p
  · intro v h; rfl
  · intro b v h; rfl
  · intro i v h; rfl
  · intro x v h; rfl
  · intro ps ih v h; cases h with | lst s z => unfold PyData.hasDict; exact ih z
  · intro ps ih v h; cases h with | tup s z => unfold PyData.hasDict; exact ih z
  · intro kvs _ v h; cases h
  · intro vs h; rfl
  · intro p ps ih1 ih2 vs h
    cases h with
    | cons a b => unfold PyData.hasDictAll; rw [ih1 a, ih2 b]; rfl
  all_goals intros; trivial
theorem call_reprD {k : Nat} (ng : NoGd X.A) (rm : Room k X.A) : CallR X (.builtin "repr") (fun xs H Q => ∃ (x : Addr) (d : PyData), xs = [.ref x] ∧ Dp X.K H (.ref x) d ∧ d.showable = true ∧ d.depth ≤ 60 ∧ d.shown.length ≤ sizeLine ∧ Q (.str d.shown) H) := by
  intro pins s σ H xs us Q I rv h
  obtain ⟨x, d, rfl, hd, h1, h2, h3, q⟩ := h
  obtain ⟨u, rfl, rx⟩ := vals1 rv
  cases (show u = Value.ref x from rx)
  obtain ⟨as, rd⟩ := Dp.reads I d (.ref x) (.ref x) hd rfl
  have hu := rm.un
  refine repr_of_reads' rd h1 (fun z => ?_) ng (by omega) (fun _ _ e => e) (fun h' u tk hk => ⟨.str _, H, I.kept (t' := tk) hk, ⟨u, rfl⟩, q⟩) h3
  rw [nodict d hd] at z
  cases z
def dRepr : DRC := fun ds M Q => one ds fun d => ∃ p, PyOf M d p ∧ (match d with | .lst _ => True | .sq _ => True | .tup _ => True | .ref _ => True | _ => False) ∧ p.showable = true ∧ p.depth ≤ 60 ∧ p.shown.length ≤ sizeLine ∧ Q (.str p.shown) M
theorem lc_repr {K : PySem.W.Frag} : LC K (fun xs H Q => ∃ (x : Addr) (d : PyData), xs = [.ref x] ∧ Dp K H (.ref x) d ∧ d.showable = true ∧ d.depth ≤ 60 ∧ d.shown.length ≤ sizeLine ∧ Q (.str d.shown) H) dRepr := fun I M F H vs ds Qd Q hr rs q fq => by
  obtain ⟨v, d, rfl, r, p, h1, h2, h3, h4, h5, q⟩ := one_out rs q
  have dp := dp_of hr p r h1
  have fin := fq _ M I H _ q (Same.refl I) hr (.str _)
  cases r with
  | lst s rr => exact ⟨_, p, rfl, dp, h3, h4, h5, fin⟩
  | sq s rr => exact ⟨_, p, rfl, dp, h3, h4, h5, fin⟩
  | tup s rr => exact ⟨_, p, rfl, dp, h3, h4, h5, fin⟩
  | ref a => exact ⟨_, p, rfl, dp, h3, h4, h5, fin⟩
  | _ => exact h2.elim
theorem d_repr {k : Nat} (g : Good X W) (rm : Room k X.A) (hm : X.mg "repr" = none) (ha : DA X W [e] tr) (he : starEach [e] X.env = (false, eval e X.env) :: starEach [] X.env := by rfl) (hg : Gl X "repr" := by rfl) : DE X W (.Call (.Name "repr" p) [e] [] pos) (dCB dRepr tr) :=
  d_callB (call_reprD g.ng rm) lc_repr hm (by decide +kernel) ha hg (he := he)
/-! sep.join(..) -/
def dJoin (to te : DTE) : DTE := fun δ M Q E => to δ M (fun x M1 => match x with
  | .str z => te δ M1 (fun d M2 => asR M2 d fun xs => ∃ ys : List Str, xs = ys.map D.str ∧ (ys.map (·.length)).sum + ys.length * z.length ≤ 16777216 ∧ Q (.str (Txt.join z ys)) M2) E
  | _ => False) E
theorem d_join {o : Expr} {to : DTE} {apos : Pos} (ho : DE X W o to) (he : DE X W e te) (hs : starEach [e] X.env = [(false, eval e X.env)] := by rfl) (hbase : attributeBase o "join" X.env (eval o X.env) = eval o X.env := by rfl) (hline : (apos.endLine == pos.line) = true := by rfl) :
    DE X W (.Call (.Attribute o "join" apos) [e] [] pos) (dJoin to te) := pe_imp (pe_join ho he hs hbase hline) fun σ H Q h => by
  obtain ⟨I, M, F, δ, Qd, Ed, hr, rs, q, fq, fx⟩ := h
  refine ⟨I, M, F, δ, _, Ed, hr, rs, q, fun d M1 I1 H1 v q1 s1 hr1 r1 => ?_, fx⟩
  cases r1 with
  | str z =>
    refine ⟨⟨z, rfl⟩, I1, M1, F, δ, _, Ed, hr1, rs.mono s1, q1, fun y M2 I2 H2 w q2 s2 hr2 r2 => ?_, fx.mono s1⟩
    obtain ⟨a, vs, es, rfl, s, rr, ys, rfl, hz, q⟩ := asR_out hr2 r2 q2
    cases reps_strs rr
    exact ⟨z, a, ys, rfl, rfl, .inl s, hz, fq _ M2 I2 H2 _ q (s1.trans s2) hr2 (.str _)⟩
  | _ => exact q1.elim
/-! xs.append(e) -/
def dAppend (to te : DTE) : DTE := fun δ M Q E => to δ M (fun x M1 => match x with
  | .ref a => (∃ ys, M1 a = some (.lst ys)) ∧ te δ M1 (fun d M2 => ∃ xs, M2 a = some (.lst xs) ∧ xs.length < sizeLine ∧ Q .non (updM M2 a (.lst (xs ++ [d])))) E
  | _ => False) E
theorem d_append {o : Expr} {to : DTE} {apos : Pos} (ho : DE X W o to) (he : DE X W e te) (hs : starEach [e] X.env = (false, eval e X.env) :: starEach [] X.env := by rfl) (hbase : attributeBase o "append" X.env (eval o X.env) = eval o X.env := by rfl) (hline : (apos.endLine == pos.line) = true := by rfl)
    (hfew : ((backTo pos (starEach [e] X.env)).all (fun x => !x.1) && (backToKw pos (keywordEach [] X.env)).all (fun x => x.1.isSome) && decide ([e].length + ([] : List Keyword).length + (if ([] : List Keyword).isEmpty then 0 else 1) < 30)) = true := by rfl) :
    DE X W (.Call (.Attribute o "append" apos) [e] [] pos) (dAppend to te) := by
  refine pe_imp (pe_bm PySem.F.plainAttrs_list PySem.F.slot_list_append PySem.F.type_list_append mt_append ho (pa_cons he pa_nil hs) hbase hfew hline hs) fun σ H Q h => ?_
  obtain ⟨I, M, F, δ, Qd, Ed, hr, rs, q, fq, fx⟩ := h
  refine ⟨I, M, F, δ, _, Ed, hr, rs, q, fun d M1 I1 H1 v q1 s1 hr1 r1 => ?_, fx⟩
  cases r1 with
  | ref a =>
    obtain ⟨⟨ys, e0⟩, q1⟩ := q1
    obtain ⟨vs0, e1, rr0⟩ := hr1.lst e0
    refine ⟨.inl ⟨rfl, vs0, SqL.of e1⟩, I1, M1, F, δ, _, Ed, hr1, rs.mono s1, q1, fun y M2 I2 H2 w q2 s2 hr2 r2 => ?_, fx.mono s1⟩
    obtain ⟨xs, e2, hl, q⟩ := q2
    obtain ⟨vs, e3, rr⟩ := hr2.lst e2
    exact ⟨a, vs, w, rfl, rfl, e3, by rw [rr.len]; exact hl, fq _ _ I2 _ _ q (s1.trans s2) (hr2.write e2 (fun _ _ z => nomatch z) (o := .lst (vs ++ [w])) (m := .lst (xs ++ [y])) ⟨_, rfl, rr.snoc r2⟩) .non⟩
  | _ => exact q1.elim
end
end DL

set_option Elab.async false
set_option linter.all false
set_option maxRecDepth 100000
set_option maxHeartbeats 2000000
namespace DL
open PySem PySem.Spec PyProof.Rows L2
/-! ## is, is not of None, True, False -/
def rIsC : R2 := fun x y H Q => (y = .non ∨ ∃ b, y = .bl b) ∧ Q (.bl (decide (x = y))) H
def rNotC : R2 := fun x y H Q => (y = .non ∨ ∃ b, y = .bl b) ∧ Q (.bl (!decide (x = y))) H
section
variable {X : Cx}
theorem op_isC : OpR X (compareOp .Is) rIsC := by
  intro pins s σ H x y v u Q I rx ry h
  obtain ⟨h | ⟨b, h⟩, q⟩ := h
  · subst h
    exact op_isN pins s σ H x .non v u Q I rx ry ⟨rfl, q⟩
  · subst h
    cases (show u = Value.bool b from ry)
    by_cases e : x = .bl b
    · subst e
      cases (show v = Value.bool b from rx)
      exact wpAny_is_self rfl ⟨.bl true, H, I, rfl, by simpa using q⟩
    · refine wpAny_is_other ?_ ?_ ⟨.bl false, H, I, rfl, by simpa [e] using q⟩
      · cases x <;> first | (cases rx; rfl) | (obtain ⟨t, rfl⟩ := rx; rfl)
      · intro z
        subst z
        exact e (Option.some.inj (rx.abs.symm.trans rfl))
theorem op_notC : OpR X (compareOp .IsNot) rNotC := by
  intro pins s σ H x y v u Q I rx ry h
  obtain ⟨h | ⟨b, h⟩, q⟩ := h
  · subst h
    exact op_notN pins s σ H x .non v u Q I rx ry ⟨rfl, q⟩
  · subst h
    cases (show u = Value.bool b from ry)
    by_cases e : x = .bl b
    · subst e
      cases (show v = Value.bool b from rx)
      exact wpAny_isNot_self rfl ⟨.bl false, H, I, rfl, by simpa using q⟩
    · refine wpAny_isNot_other ?_ ?_ ⟨.bl true, H, I, rfl, by simpa [e] using q⟩
      · cases x <;> first | (cases rx; rfl) | (obtain ⟨t, rfl⟩ := rx; rfl)
      · intro z
        subst z
        exact e (Option.some.inj (rx.abs.symm.trans rfl))
end
def isN : D → Bool
  | .non => true
  | _ => false
def isB (b : Bool) : D → Bool
  | .bl a => decide (a = b)
  | _ => false
def isc (x y : D) (k : Bool → Prop) : Prop := match y with
  | .non => k (isN x)
  | .bl b => k (isB b x)
  | _ => False
def dIs : DR2 := fun x y M Q => isc x y fun b => Q (.bl b) M
def dIsNot : DR2 := fun x y M Q => isc x y fun b => Q (.bl (!b)) M
theorem isc_out {K : PySem.W.Frag} {I : Hp} {v w : V} {x y : D} {k : Bool → Prop} (rx : Rep K I v x) (ry : Rep K I w y) (h : isc x y k) : (w = .non ∨ ∃ b, w = .bl b) ∧ k (decide (v = w)) := by
  cases ry <;> first | exact h.elim | skip
  · refine ⟨.inl rfl, ?_⟩
    cases rx <;> first | exact h | (rw [decide_eq_false (fun z => nomatch z)]; exact h)
  · rename_i b
    refine ⟨.inr ⟨b, rfl⟩, ?_⟩
    cases rx <;> first
      | (rw [decide_eq_false (fun z => nomatch z)]; exact h)
      | (rename_i a
         have e : decide (V.bl a = V.bl b) = decide (a = b) := by
           rw [dec_bl, Bool.beq_eq_decide_eq]
         rw [e]; exact h)
theorem lr_is {K : PySem.W.Frag} : LR K rIsC dIs := fun I M F H x y dx dy Qd Q hr rx ry q fq => by
  obtain ⟨h1, h2⟩ := isc_out rx ry q
  exact ⟨h1, fq _ M I H _ h2 (Same.refl I) hr (.bl _)⟩
theorem lr_isNot {K : PySem.W.Frag} : LR K rNotC dIsNot := fun I M F H x y dx dy Qd Q hr rx ry q fq => by
  obtain ⟨h1, h2⟩ := isc_out rx ry q
  exact ⟨h1, fq _ M I H _ h2 (Same.refl I) hr (.bl _)⟩
end DL

set_option Elab.async false
set_option linter.all false
set_option maxRecDepth 100000
set_option maxHeartbeats 2000000
namespace DL
open PySem PySem.Spec PyProof.Rows L2
/-- something untracked comes beside -/
theorem HR.bump {K : PySem.W.Frag} {I : Hp} {M : Mp} {F H : Hp} (h : HR K I M F H) {p : Addr} (hp : H p = none) (o : HO) : HR K I M F (upd H p o) := by
  obtain ⟨h1, h2, h3⟩ := h.fresh hp
  have kp : ∀ d φ, H d = some (.ext φ) → upd H p o d = some (.ext φ) := fun d φ e => by rw [upd_ne (ne_of_none e hp)]; exact e
  refine ⟨fun a u e => ?_, fun a m e => ?_, fun a u e => ?_, h.ft⟩
  · have q : a ≠ p := fun z => by rw [z, h1] at e; cases e
    rw [upd_ne q]; exact h.imm a u e
  · have q : a ≠ p := fun z => by rw [z, h2] at e; cases e
    rw [upd_ne q]
    obtain ⟨x, y, z, t⟩ := h.mu a m e
    exact ⟨x, y, z, t.mono (Same.refl I) kp⟩
  · have q : a ≠ p := fun z => by rw [z, h3] at e; cases e
    rw [upd_ne q]; exact h.frm a u e
theorem kit_sub {K : PySem.W.Frag} {C : Addr} {n : String} {b : Bool} (h : PySem.W.kitMeta n = true) (e : PySem.W.subIn K (.ref C) (.type n) = some b) : PySem.W.kitOne K (.ref C) (.type n) = some b := by
  unfold PySem.W.kitOne
  rw [if_neg (show ¬ ((Value.ref C == Value.type n) = true) from fun z => nomatch (beq_iff_eq.mp z))]
  show (if PySem.W.kitMeta n = true then PySem.W.subIn K (.ref C) (.type n) else none) = some b
  rw [if_pos h]
  exact e
/-! ## an own exception of one field, as a value -/
def spI (C : Addr) (f : Str) : Sp := fun vs H Q _ => ∃ (a : Addr) (v : V), vs = [.ref a, v] ∧ H a = some (exo a C none) ∧ ∀ dx, H dx = none → dx ≠ a → Q .non (upd (upd H dx (exd dx [(f, v)])) a (exo a C (some dx)))
structure ExcT (P : Program) (w : World) (K : PySem.W.Frag) (mg : Str → Option Value) (base : Heap) (k : Nat) (x f : Str) (C : Addr) : Prop where
  mgC : mg x = some (.ref C)
  oex : OexC K C
  cls : ExcCls K C
  ini : ∃ (fI : Addr) (fd : FuncData), PySem.W.findIn K (.ref C) "__init__" = some (some (.ref fI)) ∧ PySem.W.typeIn K (.ref fI) = some (.type "function") ∧ Binds K fd ["self", f] [] ∧ FnG P w K mg base (L2.CX P w) k fI fd ["self", f] (spI C f)
theorem nogd_make {A : Around} (h : NoGd A) (C : Addr) (us : List Value) (kw : List (Str × Value)) : NoGd (A.under (.builtin "type.__call__" ⟨.ref C :: us, kw⟩)) := by
  have e : (A.under (.builtin "type.__call__" ⟨.ref C :: us, kw⟩)).guards = A.guards := by
    first | rfl | simp [Around.under, Code.guards, Code.isGuard, guardIds, pushGuards]
  exact e.trans h
section
variable {X : Cx} {W : WX} {e : Expr} {te : TE} {td : DTE} {p pos : Pos} {x f : Str} {C : Addr} {k : Nat}
theorem pe_excV (T : ExcT X.prog X.w X.K X.mg X.base k x f C) (ng : NoGd X.A) (rm : Room (k + 1) X.A) (he : PE X e te) (hg : Gl X x := by rfl) (hdb : (x == ("__debug__" : Str)) = false := by decide) (hs : starEach [e] X.env = (false, eval e X.env) :: starEach [] X.env := by rfl)
    (hpl : (backTo pos (starEach [] X.env)).any (·.1) = false := by rfl) : PE X (.Call (.Name x p) [e] [] pos) (fun σ H Q => te σ H fun v H1 => ∀ a d, H1 a = none → H1 d = none → d ≠ a → Q (.ref a) (upd (upd H1 d (exd d [(f, v)])) a (exo a C (some d)))) := by
  obtain ⟨fI, fd, i1, i2, hb, F1⟩ := T.ini
  refine ⟨fun pins s σ H Q I h => ?_⟩
  obtain ⟨nm, q, N, bs, bm, sn, sub, ab, col, dd, k0, k1, k2, k3, k5, hC, hbm⟩ := T.oex.cls
  refine wpAny_Call_Name_kw (ld_glob I hg T.mgC ?_ hdb)
  refine PySem.W.callWith_K (h₀ := X.base) I.ok.mod.kin T.oex.kC (thn (PA.run (pa_cons he pa_nil hs) pos pins s σ H (fun vs H1 => ∃ v, vs = [v] ∧ ∀ a d, H1 a = none → H1 d = none → d ≠ a → Q (.ref a) (upd (upd H1 d (exd d [(f, v)])) a (exo a C (some d)))) I ?_) fun us s1 z => ?_) hs hpl
  · have mono : ∀ {Q1 Q2 : VK}, (∀ v H1, Q1 v H1 → Q2 v H1) → te σ H Q1 → te σ H Q1 := fun _ z => z
    exact (show tCons te tNil σ H _ from by
      show te σ H _
      exact (by simpa [tCons, tNil] using h))
  obtain ⟨vs, H1, J, rv, v, ev, q1⟩ := z
  subst ev
  refine ⟨J.kIn, ?_⟩
  obtain ⟨u, rfl, ru⟩ := vals1 rv
  obtain ⟨hp, g, dr, tk, os⟩ := s1
  show wpAny _ _ (call (.ref C) [u]) _ _ _
  generalize ha : hp.objs.size + 1 = a
  have hsz : hp.objs.size ≤ a := by omega
  have hn : H1 a = none := J.hok.fresh hsz
  have kk : ∀ b o, hp.get? b = some o → ((hp.push (PySem.W.kdv_tup [u])).push (PySem.HandSPX.excO C hp.objs.size)).get? b = some o := fun b o e => Heap.get?_push_of_some _ (Heap.get?_push_of_some _ e)
  have hget : ((hp.push (PySem.W.kdv_tup [u])).push (PySem.HandSPX.excO C hp.objs.size)).get? a = some (PySem.HandSPX.excO C hp.objs.size) := by rw [← ha]; heap_get
  have I2 : L2.Inv X pins σ (upd H1 a (exo a C none)) ⟨(hp.push (PySem.W.kdv_tup [u])).push (PySem.HandSPX.excO C hp.objs.size), g, dr, tk, os⟩ :=
    J.laid (t' := tk) (a := a) (o := exo a C none) (h' := (hp.push (PySem.W.kdv_tup [u])).push (PySem.HandSPX.excO C hp.objs.size)) kk hsz (exo_ok hget)
  have r2 : Vals [V.ref a, v] [Value.ref a, u] := .cons rfl (.cons ru .nil)
  have pr : spI C f [.ref a, v] (upd H1 a (exo a C none)) (fun r H2 => r = .non ∧ Q (.ref a) H2) (fun _ _ _ => False) := by
    refine ⟨a, v, rfl, upd_same, fun dx hd ne => ⟨rfl, ?_⟩⟩
    have hd1 : H1 dx = none := by rw [upd_ne ne] at hd; exact hd
    have eH : upd (upd (upd H1 a (exo a C none)) dx (exd dx [(f, v)])) a (exo a C (some dx)) = upd (upd H1 dx (exd dx [(f, v)])) a (exo a C (some dx)) := by
      funext b
      by_cases e1 : b = a
      · subst e1; rw [upd_same, upd_same]
      · rw [upd_ne e1, upd_ne e1]
        by_cases e2 : b = dx
        · subst e2; rw [upd_same, upd_same]
        · rw [upd_ne e2, upd_ne e2, upd_ne e1]
    rw [eH]
    exact q1 a dx hn hd1 ne
  have bt := hb ⟨(hp.push (PySem.W.kdv_tup [u])).push (PySem.HandSPX.excO C hp.objs.size), g, dr, tk, os⟩ [Value.ref a, u] I2.kIn rfl
  rw [List.append_nil] at bt
  refine wpAny_call (PySem.HandSPX.call_own F.excBase_ValueError (fun Y => PySem.HandSPX.refsVE_contains Y bm hbm) (J.kIn _ _ hC) (PySem.W.looks_findIn J.kIn i1) (fun self => PySem.W.bind_fn J.kIn self i2) (by show 1 ≤ sizeLine; decide)
    (codeAny_mono (F1.run _ X.stack _ _ ⟨[Value.ref _, u], []⟩ [Value.ref _, u] _ _ (fun _ _ _ => False) (nogd_make ng C [u] []) (rm.make C [u] []) (I2.env0.make C [u] []) (by first | exact bt | (rw [ha]; exact bt)) (by first | exact r2 | (rw [ha]; exact r2)) (by first | exact pr | (rw [ha]; exact pr))) fun r s' hq' => ?_))
  cases r with
  | error er => exact passL pins σ _ _ er s' I2 hq'
  | ok fl => cases fl with
    | ret u =>
      obtain ⟨v', H2, o1, o2, un, ok2, rr, e1, qq⟩ := hq'
      subst e1
      refine ⟨rr, ?_⟩
      exact ⟨.ref a, H2, I2.call' (ch := []) o1 un ok2 o2 (fun b z => absurd z (by simp)), by first | rfl | (rw [← ha]; rfl), qq⟩
    | next => cases hq'
    | brk => cases hq'
    | cont => cases hq'
def dExcV (C : Addr) (f : Str) (td : DTE) : DTE := fun δ M Q E => td δ M (fun d M1 => ∀ a, M1 a = none → Q (.ref a) (updM M1 a (.exc C [(f, d)]))) E
theorem d_excV (T : ExcT X.prog X.w X.K X.mg X.base k x f C) (g : Good X W) (rm : Room (k + 1) X.A) (he : DE X W e td) (hg : Gl X x := by rfl) (hdb : (x == ("__debug__" : Str)) = false := by decide) (hs : starEach [e] X.env = (false, eval e X.env) :: starEach [] X.env := by rfl)
    (hpl : (backTo pos (starEach [] X.env)).any (·.1) = false := by rfl) : DE X W (.Call (.Name x p) [e] [] pos) (dExcV C f td) := pe_imp (pe_excV T g.ng rm he hg hdb hs hpl) fun σ H Q h => by
  obtain ⟨I, M, F, δ, Qd, Ed, hr, rs, q, fq, fx⟩ := h
  refine ⟨I, M, F, δ, _, Ed, hr, rs, q, fun d M1 I1 H1 v q1 s1 hr1 r1 a dd ha hd ne => ?_, fx⟩
  have h2 := hr1.bump hd (exd dd [(f, v)])
  have ha2 : upd H1 dd (exd dd [(f, v)]) a = none := by rw [upd_ne (Ne.symm ne)]; exact ha
  exact fq _ _ I1 _ _ (q1 a (hr1.fresh ha).2.1) s1 (h2.newM ha2 (o := exo a C (some dd)) (m := .exc C [(f, d)]) ⟨T.cls, dd, _, rfl, upd_same, .cons r1 .nil⟩) (.ref a)
end
end DL

set_option Elab.async false
set_option linter.all false
set_option maxRecDepth 100000
set_option maxHeartbeats 2000000
namespace DL
open PySem PySem.Spec PyProof.Rows L2
/-! ## dict displays -/
def putD (kvs : List (Key × D)) (k : Key) (v : D) : List (Key × D) :=
  if (kvs.any fun kv => decide (kv.1 = k)) = true then kvs.map (fun kv => if kv.1 = k then (kv.1, v) else kv) else kvs ++ [(k, v)]
def mergeD (kvs more : List (Key × D)) : List (Key × D) := more.foldl (fun acc kv => putD acc kv.1 kv.2) kvs
theorem RepK.anyK {K : PySem.W.Frag} {I : Hp} (k : Key) : ∀ {vs : List (Key × V)} {ds : List (Key × D)}, RepK K I vs ds → (vs.any fun kv => decide (kv.1 = k)) = (ds.any fun kv => decide (kv.1 = k))
  | _, _, .nil => rfl
  | _, _, .cons _ r => by rw [List.any_cons, List.any_cons, RepK.anyK k r]
theorem RepK.mapP {K : PySem.W.Frag} {I : Hp} {k : Key} {v : V} {d : D} (r : Rep K I v d) : ∀ {vs : List (Key × V)} {ds : List (Key × D)}, RepK K I vs ds → RepK K I (vs.map fun kv => if kv.1 = k then (kv.1, v) else kv) (ds.map fun kv => if kv.1 = k then (kv.1, d) else kv)
  | _, _, .nil => .nil
  | _, _, .cons (k := k1) a b => by
    rw [List.map_cons, List.map_cons]
    by_cases e : k1 = k
    · rw [if_pos e, if_pos e]; exact .cons r (RepK.mapP r b)
    · rw [if_neg e, if_neg e]; exact .cons a (RepK.mapP r b)
theorem RepK.snoc {K : PySem.W.Frag} {I : Hp} {k : Key} {v : V} {d : D} (r : Rep K I v d) : ∀ {vs : List (Key × V)} {ds : List (Key × D)}, RepK K I vs ds → RepK K I (vs ++ [(k, v)]) (ds ++ [(k, d)])
  | _, _, .nil => .cons r .nil
  | _, _, .cons a b => .cons a (RepK.snoc r b)
theorem RepK.put {K : PySem.W.Frag} {I : Hp} {k : Key} {v : V} {d : D} (r : Rep K I v d) {vs : List (Key × V)} {ds : List (Key × D)} (h : RepK K I vs ds) : RepK K I (putK vs k v) (putD ds k d) := by
  unfold putK putD
  rw [h.anyK k]
  split
  · exact h.mapP r
  · exact h.snoc r
theorem RepK.merge {K : PySem.W.Frag} {I : Hp} : ∀ {ms : List (Key × V)} {ns : List (Key × D)} {vs : List (Key × V)} {ds : List (Key × D)}, RepK K I ms ns → RepK K I vs ds → RepK K I (mergeK vs ms) (mergeD ds ns)
  | _, _, _, _, .nil, h => h
  | _, _, _, _, .cons (k := k1) r rr, h => by
    have z := RepK.merge rr (h.put (k := k1) r)
    exact z
def kD : Key → D
  | .inl i => .int i
  | .inr x => .str x
def dPairs : List (DTE × DTE) → DS → Mp → (List (D × D) → Mp → Prop) → DXK → Prop
  | [], _, M, Q, _ => Q [] M
  | (tk, tv) :: r, δ, M, Q, E => tk δ M (fun x M1 => tv δ M1 (fun y M2 => dPairs r δ M2 (fun ps M3 => Q ((x, y) :: ps) M3) E) E) E
inductive RepP (K : PySem.W.Frag) (I : Hp) : List (V × V) → List (D × D) → Prop
  | nil : RepP K I [] []
  | cons {x y : V} {d e : D} {ps : List (V × V)} {qs : List (D × D)} : Rep K I x d → Rep K I y e → RepP K I ps qs → RepP K I ((x, y) :: ps) ((d, e) :: qs)
theorem RepP.mono {K : PySem.W.Frag} {I I' : Hp} (e : Same I I') : ∀ {ps : List (V × V)} {qs : List (D × D)}, RepP K I ps qs → RepP K I' ps qs
  | _, _, .nil => .nil
  | _, _, .cons a b c => .cons (a.mono e) (b.mono e) (RepP.mono e c)
theorem pairs_lift {K : PySem.W.Frag} {W : WX} {σ : L2.St} {δ : DS} {Ed : DXK} : ∀ {trs : List (DTE × DTE)} {I F H : Hp} {M : Mp} {Qd : List (D × D) → Mp → Prop} {Q : List (V × V) → Hp → Prop}, HR K I M F H → RepS K I σ δ → dPairs trs δ M Qd Ed →
    (∀ qs M' I' H' ps, Qd qs M' → Same I I' → HR K I' M' F H' → RepP K I' ps qs → Q ps H') → FinX K I F Ed (WE W σ) → tPairs (trs.map fun t => (lE K W t.1, lE K W t.2)) σ H Q
  | [], I, F, H, M, Qd, Q, hr, rs, q, fq, fx => fq [] M I H [] q (Same.refl I) hr .nil
  | (tk, tv) :: r, I, F, H, M, Qd, Q, hr, rs, q, fq, fx => by
    refine ⟨I, M, F, δ, _, Ed, hr, rs, q, fun x M1 I1 H1 v q1 s1 hr1 r1 => ?_, fx⟩
    refine ⟨I1, M1, F, δ, _, Ed, hr1, rs.mono s1, q1, fun y M2 I2 H2 w q2 s2 hr2 r2 => ?_, fx.mono s1⟩
    exact pairs_lift (trs := r) hr2 ((rs.mono s1).mono s2) q2 (fun qs M3 I3 H3 ps q3 s3 hr3 r3 => fq _ M3 I3 H3 _ q3 ((s1.trans s2).trans s3) hr3 (.cons ((r1.mono s2).mono s3) (r2.mono s3) r3)) ((fx.mono s1).mono s2)
section
variable {X : Cx} {W : WX} {pos : Pos}
def DPs (X : Cx) (W : WX) (pos : Pos) (keys : List (Option Expr)) (values : List Expr) (trs : List (DTE × DTE)) : Prop := PPs X pos keys values (trs.map fun t => (lE X.K W t.1, lE X.K W t.2))
theorem ps_nil : DPs X W pos [] [] [] := pps_nil
theorem ps_cons {k v : Expr} {ks : List (Option Expr)} {vs : List Expr} {tk tv : DTE} {trs : List (DTE × DTE)} (hk : DE X W k tk) (hv : DE X W v tv) (hr : DPs X W pos ks vs trs) : DPs X W pos (some k :: ks) (v :: vs) ((tk, tv) :: trs) := pps_cons hk hv hr
def dDict0 : DTE := fun _ M Q _ => Q (.dct []) M
theorem d_dict0 : DE X W (.Dict [] [] pos) dDict0 := pe_imp pe_dnewK fun σ H Q h => by
  obtain ⟨I, M, F, δ, Qd, Ed, hr, rs, q, fq, fx⟩ := h
  intro p hp
  have s := same_new (o := .dK []) (hr.fresh hp).1
  exact fq _ M _ _ _ q s (hr.newI hp _) (.dct upd_same .nil)
def dDict0M : DTE := fun _ M Q _ => ∀ p, M p = none → Q (.ref p) (updM M p (.dct []))
theorem d_dict0M : DE X W (.Dict [] [] pos) dDict0M := pe_imp pe_dnewK fun σ H Q h => by
  obtain ⟨I, M, F, δ, Qd, Ed, hr, rs, q, fq, fx⟩ := h
  intro p hp
  exact fq _ _ I _ _ (q p (hr.fresh hp).2.1) (Same.refl I) (hr.newM hp (o := .dK []) (m := .dct []) ⟨_, rfl, .nil⟩) (.ref p)
def dDisp (trs : List (DTE × DTE)) : DTE := fun δ M Q E => dPairs trs δ M (fun qs M1 => ∃ kvs : List (Key × D), qs = kvs.map (fun kv => (kD kv.1, kv.2)) ∧ kvs.length ≤ 15 ∧ Q (.dct (mergeD [] kvs)) M1) E
theorem keys_out {K : PySem.W.Frag} {I : Hp} : ∀ {kvs : List (Key × D)} {ps : List (V × V)}, RepP K I ps (kvs.map fun kv => (kD kv.1, kv.2)) → ∃ vs : List (Key × V), ps = vs.map (fun kv => (kV kv.1, kv.2)) ∧ RepK K I vs kvs
  | [], _, .nil => ⟨[], rfl, .nil⟩
  | (k, d) :: r, _, .cons a b c => by
    obtain ⟨vs, e, z⟩ := keys_out c
    cases k with
    | inl i => cases a; exact ⟨(.inl i, _) :: vs, by rw [e]; rfl, .cons b z⟩
    | inr i => cases a; exact ⟨(.inr i, _) :: vs, by rw [e]; rfl, .cons b z⟩
theorem d_disp {keys : List (Option Expr)} {values : List Expr} {trs : List (DTE × DTE)} (h : DPs X W pos keys values trs) (hall : keys.all (·.isSome) = true := by rfl) (hl : keys.length = values.length := by rfl) (h0 : keys ≠ [] := by intro z; cases z) (h15 : keys.length ≤ 15 := by decide) :
    DE X W (.Dict keys values pos) (dDisp trs) := pe_imp (pe_disp h hall hl h0 h15) fun σ H Q q => by
  obtain ⟨I, M, F, δ, Qd, Ed, hr, rs, q, fq, fx⟩ := q
  intro p hp
  have hF := (hr.fresh hp).2.2
  refine pairs_lift (hr.newF hp (.dK [])) rs q (fun qs M' I' H' ps q' s' hr' r' => ?_) (fun c fo M' I' H' dd z s' hr' xd => fx c fo M' I' H' dd z s' ?_ xd.offF)
  · obtain ⟨kvs, e, hl, q'⟩ := q'
    subst e
    obtain ⟨vs, e2, rk⟩ := keys_out r'
    have lk : vs.length ≤ 15 := by rw [rk.len]; exact hl
    refine ⟨hr'.atF.1, vs, e2, lk, ?_⟩
    obtain ⟨z1, z2⟩ := (hr'.reF (fun _ z => nomatch z) (.dK (mergeK [] vs))).frzF hF
    exact fq _ M' _ _ _ q' (s'.trans z1) z2 (.dct upd_same ((RepK.merge rk .nil).mono z1))
  · refine ⟨hr'.imm, hr'.mu, fun a u e => ?_, ft_off hr'.ft hF⟩
    have ne : a ≠ p := fun z => by rw [z, hF] at e; cases e
    exact hr'.frm a u (by rw [upd_ne ne]; exact e)
/-! constants of the module -/
theorem d_gInt {x : Str} {i : Int} (hm : ∃ t, X.mg x = some (.int i t)) (hg : Gl X x := by rfl) (hd : (x == ("__debug__" : Str)) = false := by decide) : DE X W (.Name x pos) (dC (.int i)) := by
  obtain ⟨t, hm⟩ := hm
  exact d_glob hg hm (v := .int i) ⟨t, rfl⟩ (fun _ => .int i) hd
theorem d_gStr {x z : Str} (hm : ∃ t, X.mg x = some (.str z t)) (hg : Gl X x := by rfl) (hd : (x == ("__debug__" : Str)) = false := by decide) : DE X W (.Name x pos) (dC (.str z)) := by
  obtain ⟨t, hm⟩ := hm
  exact d_glob hg hm (v := .str z) ⟨t, rfl⟩ (fun _ => .str z) hd
end
theorem rep_ints {K : PySem.W.Frag} {I : Hp} : ∀ ns : List Int, Reps K I (ns.map V.int) (ns.map D.int)
  | [] => .nil
  | n :: ns => .cons (.int n) (rep_ints ns)
/-! ## the law's end, of its def -/
theorem walk_fn {l : PySem.W.OpenLaw} {q : Program} {loose : List Str} {XP : (Str → Option Value) → Heap → Prop} {YP : World → Heap → Prop} {d : DefRec} {K : Params → PySem.W.Frag} {k : Nat} {x : Str} {sp : DSp} (hn : l.most = some 63) (hdf : d.params.defaults = []) (rm : Room k callerA)
    (hY : ∀ (w : World) (h : Heap), YP w h → (K w.params).In h)
    (F : ∀ (w : World) (mg : Str → Option Value) (fa : Addr) (h : Heap), (K w.params).In h → h.Ns mainGlobals mg → mg d.name = some (.ref fa) → mg "law" = some (.ref fa) ∧ ∀ base : Heap, Fn l.prog w (K w.params) mg base k "law" [x] sp)
    (pr : ∀ {K : PySem.W.Frag} {H : Hp} {a : Addr} {ns : List Int}, ns.length ≤ 63 → SqL K H a (ns.map V.int) → lSp K sp [.ref a] H (fun v _ => v = .bl true) (fun _ _ _ => False)) : PySem.W.WalkO q loose XP YP l.row.toRowW d [] (fun f vs => PySem.call f vs) := by
  refine walk_ofG (n := 63) (k := k) (x := x) (C := fun w => L2.CX l.prog w) (sp := fun w => lSp (K w.params) sp) hn (by decide) hdf rm hY (fun w mg fa h h1 h2 h3 => ?_) (fun _ _ a ns hl _ hS => pr hl hS) fun w H s e s' z => ?_
  · obtain ⟨e1, f1⟩ := F w mg fa h h1 h2 h3
    obtain ⟨f, fd, m1, _, ⟨hb, o, lk, od⟩, _⟩ := (f1 h).ex
    rw [e1] at m1
    cases m1
    refine ⟨fd, fun s u => .of_eq (hb [u] rfl), fun b _ _ => ?_⟩
    obtain ⟨f', fd', m2, _, ⟨_, o', lk', od'⟩, G⟩ := (f1 b).ex
    rw [e1] at m2
    cases m2
    rw [lk] at lk'
    cases lk'
    rw [od] at od'
    cases od'
    exact G
  · obtain ⟨_, _, _, _, _, _, _, _, _, _, _, _, z⟩ := z
    exact z
end DL

set_option Elab.async false
set_option linter.all false
set_option maxRecDepth 100000
set_option maxHeartbeats 2000000
namespace DL
open PySem PySem.Spec PyProof.Rows L2
/-! ## calls by keywords, defaults -/
/-- how n positional things and those of the keywords ks come to the parameters ps -/
def KBd (K : PySem.W.Frag) (fd : FuncData) (ps : List Str) (n : Nat) (ks : List Str) (gD : List D → List D → List D) : Prop :=
  ∀ (s : Shared) (I : Hp) (us ws : List Value) (vs zs : List V) (ds es : List D), K.In s.heap → us.length = n → ws.length = ks.length → Vals vs us → Vals zs ws → Reps K I vs ds → Reps K I zs es →
    ∃ (bs : List Value) (xs : List V), BindsTo s fd ⟨us, ks.zip ws⟩ (ps.zip bs) ∧ Vals xs bs ∧ Reps K I xs (gD ds es)
structure Pat where
  n : Nat
  ks : List Str
  g : List D → List D → List D
structure FnK (P : Program) (w : World) (K : PySem.W.Frag) (mg : Str → Option Value) (base : Heap) (k : Nat) (x : Str) (ps : List Str) (sp : DSp) (pats : List Pat) : Prop where
  ex : ∃ (f : Addr) (fd : FuncData), mg x = some (.ref f) ∧ PySem.W.keepIn K (.ref f) = true ∧ (∀ (i : Nat) (p : Pat), pats[i]? = some p → KBd K fd ps p.n p.ks p.g) ∧ FnG P w K mg base (L2.CX P w) k f fd ps (lSp K sp)
def DKw (X : Cx) (W : WX) (kws : List Keyword) (t : DTA) : Prop := PK X kws (lA X.K W t)
section
variable {X : Cx} {W : WX} {e : Expr} {es : List Expr} {te : DTE} {ta tk : DTA} {pos p kpos : Pos} {k : Nat} {x : Str} {ps : List Str} {sp : DSp} {kws : List Keyword} {nm : Option Str}
theorem k_nil : DKw X W [] dNil := ⟨fun pos pins s σ H Q I h => pk_nil.run pos pins s σ H Q I (by
  obtain ⟨I, M, F, δ, Qd, Ed, hr, rs, q, fq, fx⟩ := h
  exact fq [] M I H [] q (Same.refl I) hr .nil)⟩
theorem k_cons (he : DE X W e te) (ha : DKw X W kws tk) : DKw X W (⟨nm, e, kpos⟩ :: kws) (dCons te tk) := ⟨fun pos pins s σ H Q I h => (pk_cons he ha).run pos pins s σ H Q I (by
  obtain ⟨I, M, F, δ, Qd, Ed, hr, rs, q, fq, fx⟩ := h
  refine ⟨I, M, F, δ, _, Ed, hr, rs, q, fun d M1 I1 H1 v q1 s1 hr1 r1 => ?_, fx⟩
  refine ⟨I1, M1, F, δ, _, Ed, hr1, rs.mono s1, q1, fun ds M2 I2 H2 vs q2 s2 hr2 r2 => ?_, fx.mono s1⟩
  exact fq _ M2 I2 H2 _ q2 (s1.trans s2) hr2 (.cons (r1.mono s2) r2))⟩
def dCallK (n m : Nat) (sp : DSp) (g : List D → List D → List D) (ta tk : DTA) : DTE := fun δ M Q E => ta δ M (fun ds M1 => tk δ M1 (fun es M2 => ds.length = n ∧ es.length = m ∧ sp (g ds es) M2 Q E) E) E
theorem run_k {pats : List Pat} {pt : Pat} {pins : List (Addr × Obj)} {σ : L2.St} {H : Hp} {s : Shared} {Q : VK} {us ws : List Value} {vs zs : List V} {ds es : List D} {Im F : Hp} {M : Mp} {Qd : DK} {Ed : DXK} {f : Addr} {fd : FuncData} (g : Good X W) (rm : Room k X.A)
    (kb : KBd X.K fd ps pt.n pt.ks pt.g) (G : FnG X.prog X.w X.K X.mg X.base (L2.CX X.prog X.w) k f fd ps (lSp X.K sp)) (J : L2.Inv X pins σ H s) (rv : Vals vs us) (rz : Vals zs ws) (hr : HR X.K Im M F H) (rd : Reps X.K Im vs ds) (re : Reps X.K Im zs es)
    (h1 : ds.length = pt.n) (h2 : es.length = pt.ks.length) (q : sp (pt.g ds es) M Qd Ed) (fq : Fin X.K Im F Qd Q) (fx : FinX X.K Im F Ed (WE W σ)) : wpAny (model X.prog X.w) X.A (call (.ref f) us (pt.ks.zip ws)) (EP X pins σ Q) X.xe s := by
  obtain ⟨bs, xs, bt, rb, rr⟩ := kb s Im us ws vs zs ds es J.kIn (by rw [← rv.length, rd.len]; exact h1) (by rw [← rz.length, re.len]; exact h2) rv rz rd re
  have pr : lSp X.K sp xs H Q (WE W σ) := ⟨Im, M, F, _, Qd, Ed, hr, rr, q, fq, fx⟩
  refine wpAny_call (codeAny_mono (goG (E := WE W) G g.ng rm (passAt g.tk σ) J bt rb pr) fun r s2 y => ?_)
  cases r with
  | error e => exact y
  | ok fl => cases fl <;> exact y
theorem d_callK (i : Nat) {pats : List Pat} {pt : Pat} (Fx : FnK X.prog X.w X.K X.mg X.base k x ps sp pats) (g : Good X W) (rm : Room k X.A) (ha : DA X W (e :: es) ta) (hkw : DKw X W kws tk) (hi : pats[i]? = some pt := by rfl) (hg : Gl X x := by rfl)
    (hall : (backToKw pos (keywordEach kws X.env)).all (·.1.isSome) = true := by rfl) (hks : (backToKw pos (keywordEach kws X.env)).filterMap (·.1) = pt.ks := by rfl)
    (hdb : (x == ("__debug__" : Str)) = false := by decide) (he : starEach (e :: es) X.env = (false, eval e X.env) :: starEach es X.env := by rfl)
    (hpl : ((backTo pos (starEach (e :: es) X.env)).any (·.1) || (backToKw pos (keywordEach kws X.env)).any (·.1.isNone)) = false := by rfl) : DE X W (.Call (.Name x p) (e :: es) kws pos) (dCallK pt.n pt.ks.length sp pt.g ta tk) := by
  obtain ⟨f, fd, hm, hk, kb, G⟩ := Fx.ex
  refine ⟨fun pins s σ H Q I h => ?_⟩
  obtain ⟨Im, M, Fr, δ, Qd, Ed, hr, rs, q, fq, fx⟩ := h
  refine wpAny_Call_Name_kw (ld_glob I hg hm ?_ hdb)
  refine PySem.W.callWith_KW (h₀ := X.base) I.ok.mod.kin hk hall (thn (PA.run ha pos pins s σ H (fun vs H1 => ∃ I1 M1 ds, Same Im I1 ∧ HR X.K I1 M1 Fr H1 ∧ Reps X.K I1 vs ds ∧ tk δ M1 (fun es M2 => ds.length = pt.n ∧ es.length = pt.ks.length ∧ sp (pt.g ds es) M2 Qd Ed) Ed) I
    ⟨Im, M, Fr, δ, _, Ed, hr, rs, q, fun ds M1 I1 H1 vs q1 s1 hr1 r1 => ⟨I1, M1, ds, s1, hr1, r1, q1⟩, fx⟩) fun us s1 z => ?_) hpl he
  obtain ⟨vs, H1, J1, rv, I1, M1, ds, e1, hr1, rd, q1⟩ := z
  refine thn (PK.run hkw pos pins s1 σ H1 (fun zs H2 => ∃ I2 M2 es, Same I1 I2 ∧ HR X.K I2 M2 Fr H2 ∧ Reps X.K I2 zs es ∧ ds.length = pt.n ∧ es.length = pt.ks.length ∧ sp (pt.g ds es) M2 Qd Ed) J1
    ⟨I1, M1, Fr, δ, _, Ed, hr1, rs.mono e1, q1, fun es M2 I2 H2 zs q2 s2 hr2 r2 => ⟨I2, M2, es, s2, hr2, r2, q2⟩, fx.mono e1⟩) fun ws s2 z => ?_
  obtain ⟨zs, H2, J2, rz, I2, M2, es, e2, hr2, re, l1, l2, q2⟩ := z
  refine ⟨J2.kIn, ?_⟩
  rw [hks]
  exact run_k (pats := pats) g rm (kb i pt hi) G J2 rv rz hr2 (rd.mono e2) re l1 l2 q2 (fq.mono (e1.trans e2)) (fx.mono (e1.trans e2))
theorem d_callK0 (i : Nat) {pats : List Pat} {pt : Pat} (Fx : FnK X.prog X.w X.K X.mg X.base k x ps sp pats) (g : Good X W) (rm : Room k X.A) (hkw : DKw X W kws tk) (hi : pats[i]? = some pt := by rfl) (hg : Gl X x := by rfl)
    (hall : (backToKw pos (keywordEach kws X.env)).all (·.1.isSome) = true := by rfl) (hks : (backToKw pos (keywordEach kws X.env)).filterMap (·.1) = pt.ks := by rfl)
    (hdb : (x == ("__debug__" : Str)) = false := by decide) (hpl : ((backTo pos (starEach [] X.env)).any (·.1) || (backToKw pos (keywordEach kws X.env)).any (·.1.isNone)) = false := by rfl) : DE X W (.Call (.Name x p) [] kws pos) (dCallK pt.n pt.ks.length sp pt.g dNil tk) := by
  obtain ⟨f, fd, hm, hk, kb, G⟩ := Fx.ex
  refine ⟨fun pins s σ H Q I h => ?_⟩
  obtain ⟨Im, M, Fr, δ, Qd, Ed, hr, rs, q, fq, fx⟩ := h
  refine wpAny_Call_Name_kw (ld_glob I hg hm ?_ hdb)
  refine PySem.W.callWith_KW0 (h₀ := X.base) I.ok.mod.kin hk hall (thn (PK.run hkw pos pins s σ H (fun zs H2 => ∃ I2 M2 es, Same Im I2 ∧ HR X.K I2 M2 Fr H2 ∧ Reps X.K I2 zs es ∧ ([] : List D).length = pt.n ∧ es.length = pt.ks.length ∧ sp (pt.g [] es) M2 Qd Ed) I
    ⟨Im, M, Fr, δ, _, Ed, hr, rs, q, fun es M2 I2 H2 zs q2 s2 hr2 r2 => ⟨I2, M2, es, s2, hr2, r2, q2⟩, fx⟩) fun ws s2 z => ?_) hpl
  obtain ⟨zs, H2, J2, rz, I2, M2, es, e2, hr2, re, l1, l2, q2⟩ := z
  refine ⟨J2.kIn, ?_⟩
  rw [hks]
  exact run_k (pats := pats) g rm (kb i pt hi) G J2 (us := []) (vs := []) .nil rz hr2 .nil re l1 l2 q2 (fq.mono e2) (fx.mono e2)
end
section
variable {P : Program} {w : World} {K : PySem.W.Frag} {mg : Str → Option Value} {base : Heap}
/-- a def with defaults, by its body -/
theorem dfunK {x qual : Str} {st : Stmt} {f : Addr} {fd : FuncData} {N ps : List Str} {k : Nat} {sp : DSp} {dvs : List V} {kws : List (Str × V)} {pats : List Pat} (F : FunD K x qual (defArgs st) (defBody st) (defScope st) dvs kws f fd) (hm : mg x = some (.ref f))
    (hb : ∀ (i : Nat) (p : Pat), pats[i]? = some p → KBd K fd ps p.n p.ks p.g) (S : FnScope N ps (defScope st)) (len : ∀ ds M Q E, sp ds M Q E → ds.length = ps.length)
    (body : ∀ (cdv : Value) (A : Around) (l : List Env) (s : Shared) (H : Hp) (E : XK), Good (cxOf (L2.CX P w) P w K mg base N qual (defScope st) f cdv A l s H E) (fun cls d _ H => E cls d H) → Room k (A.deeper (envOfC qual (defScope st) s.heap.objs.size f cdv)) →
      ∃ t, DSs (cxOf (L2.CX P w) P w K mg base N qual (defScope st) f cdv A l s H E) (fun cls d _ H => E cls d H) (defBody st) t ∧ ∀ ds M Qd Ed, sp ds M Qd Ed → t { nx := fun _ M' => Qd .non M', rt := Qd, ex := fun c fo _ M' => Ed c fo M' } (dstart N ds) M) :
    FnK P w K mg base (k + 1) x ps sp pats := by
  have kp := F.kp
  obtain ⟨oc, od, dV, kV, doc, pm, an, cdv, ct, osl, rfl, lk, hcd, _, _⟩ := F.ex
  refine ⟨f, _, hm, kp, hb, fng_of lk hcd S (fun vs H Q E h => ?_) fun A l s H vs Q E ng rm h => ?_⟩
  · obtain ⟨I, M, Fr, ds, Qd, Ed, hr, rs, q, _, _⟩ := h
    rw [rs.len]
    exact len _ _ _ _ q
  · obtain ⟨t, ht, hq⟩ := body cdv A l s H E (good_of ng) rm
    refine ⟨_, ht, ?_⟩
    obtain ⟨I, M, Fr, ds, Qd, Ed, hr, rs, q, fq, fx⟩ := h
    refine ⟨I, M, Fr, _, _, hr, reps_start rs, hq ds M Qd Ed q, ⟨fun δ' M' I' H' σ' q' s' hr' rs' => fq _ M' I' H' _ q' s' hr' .non, fq, fun c fo δ' M' I' H' σ' dd q' s' hr' rs' xd => fx c fo M' I' H' dd q' s' hr' xd, fun _ _ _ _ _ z => z.elim, fun _ _ _ _ _ z => z.elim⟩⟩
/-- patterns are shown one by one -/
theorem pats_nil {Φ : Pat → Prop} : ∀ (i : Nat) (p : Pat), ([] : List Pat)[i]? = some p → Φ p := fun i p e => by simp at e
theorem pats_cons {Φ : Pat → Prop} {q : Pat} {r : List Pat} (h : Φ q) (hr : ∀ (i : Nat) (p : Pat), r[i]? = some p → Φ p) : ∀ (i : Nat) (p : Pat), (q :: r)[i]? = some p → Φ p
  | 0, p, e => by simp at e; exact e ▸ h
  | i + 1, p, e => hr i p (by simpa using e)
end
end DL
namespace DL
open PySem L2
theorem len_cons {α : Type} {n : Nat} {l : List α} (h : l.length = n + 1) : ∃ a r, l = a :: r ∧ r.length = n := by
  cases l with
  | nil => cases h
  | cons a r => exact ⟨a, r, rfl, by simpa using h⟩
theorem len_nil {α : Type} {l : List α} (h : l.length = 0) : l = [] := List.eq_nil_of_length_eq_zero h
theorem vals_cons {x : V} {xs : List V} {us : List Value} (r : Vals (x :: xs) us) : ∃ u us', us = u :: us' ∧ RelV x u ∧ Vals xs us' := by
  cases r with
  | cons a b => exact ⟨_, _, rfl, a, b⟩
theorem vals_consR {xs : List V} {u : Value} {us : List Value} (r : Vals xs (u :: us)) : ∃ x xs', xs = x :: xs' ∧ RelV x u ∧ Vals xs' us := by
  cases r with
  | cons a b => exact ⟨_, _, rfl, a, b⟩
theorem reps_consL {K : PySem.W.Frag} {I : Hp} {x : V} {xs : List V} {ds : List D} (r : Reps K I (x :: xs) ds) : ∃ d ds', ds = d :: ds' ∧ Rep K I x d ∧ Reps K I xs ds' := by
  cases r with
  | cons a b => exact ⟨_, _, rfl, a, b⟩
end DL

set_option Elab.async false
set_option linter.all false
set_option maxRecDepth 100000
set_option maxHeartbeats 2000000
namespace DL
open PySem PySem.Spec PyProof.Rows L2
/-! ## methods of texts -/
abbrev DM1 := Str → D → Mp → DK → Prop
def LM1 (K : PySem.W.Frag) (r' : V → List V → Hp → VK → Prop) (r : DM1) : Prop := ∀ I M F H a y dy Qd Q, HR K I M F H → Rep K I y dy → r a dy M Qd → Fin K I F Qd Q → r' (.str a) [y] H Q
def LM0 (K : PySem.W.Frag) (r' : V → List V → Hp → VK → Prop) (r : Str → Mp → DK → Prop) : Prop := ∀ I M F H a Qd Q, HR K I M F H → r a M Qd → Fin K I F Qd Q → r' (.str a) [] H Q
def dM1 (r : DM1) (to te : DTE) : DTE := fun δ M Q E => to δ M (fun x M1 => match x with | .str a => te δ M1 (fun y M2 => r a y M2 Q) E | _ => False) E
def dM0 (r : Str → Mp → DK → Prop) (to : DTE) : DTE := fun δ M Q E => to δ M (fun x M1 => match x with | .str a => r a M1 Q | _ => False) E
section
variable {X : Cx} {W : WX} {o e : Expr} {to te : DTE} {pos apos : Pos} {name : Str} {bid : String} {r' : V → List V → Hp → VK → Prop}
theorem d_m1 {r : DM1} (slot : Slot "str" name bid) (ty : typeOf (.builtin bid) = pure (.type "method_descriptor")) (rule : MtR X bid r') (hl : LM1 X.K r' r) (ho : DE X W o to) (he : DE X W e te) (hs : starEach [e] X.env = [(false, eval e X.env)] := by rfl)
    (hbase : attributeBase o name X.env (eval o X.env) = eval o X.env := by rfl) (hline : (apos.endLine == pos.line) = true := by rfl) : DE X W (.Call (.Attribute o name apos) [e] [] pos) (dM1 r to te) := pe_imp (pe_m1 slot ty rule ho he hs hbase hline) fun σ H Q h => by
  obtain ⟨I, M, F, δ, Qd, Ed, hr, rs, q, fq, fx⟩ := h
  refine ⟨I, M, F, δ, _, Ed, hr, rs, q, fun d M1 I1 H1 v q1 s1 hr1 r1 => ?_, fx⟩
  cases r1 with
  | str a => exact ⟨⟨a, rfl⟩, I1, M1, F, δ, _, Ed, hr1, rs.mono s1, q1, fun y M2 I2 H2 w q2 s2 hr2 r2 => hl I2 M2 F H2 a w y Qd Q hr2 r2 q2 (fq.mono (s1.trans s2)), fx.mono s1⟩
  | _ => exact q1.elim
theorem d_m0 {r : Str → Mp → DK → Prop} (slot : Slot "str" name bid) (ty : typeOf (.builtin bid) = pure (.type "method_descriptor")) (rule : MtR X bid r') (hl : LM0 X.K r' r) (ho : DE X W o to)
    (hbase : attributeBase o name X.env (eval o X.env) = eval o X.env := by rfl) (hline : (apos.endLine == pos.line) = true := by rfl) : DE X W (.Call (.Attribute o name apos) [] [] pos) (dM0 r to) := pe_imp (pe_m0 slot ty rule ho hbase hline) fun σ H Q h => by
  obtain ⟨I, M, F, δ, Qd, Ed, hr, rs, q, fq, fx⟩ := h
  refine ⟨I, M, F, δ, _, Ed, hr, rs, q, fun d M1 I1 H1 v q1 s1 hr1 r1 => ?_, fx⟩
  cases r1 with
  | str a => exact ⟨⟨a, rfl⟩, hl I1 M1 F H1 a Qd Q hr1 q1 (fq.mono s1)⟩
  | _ => exact q1.elim
def s1 (y : D) (k : Str → Prop) : Prop := match y with | .str b => k b | _ => False
theorem s1_out {K : PySem.W.Frag} {I : Hp} {v : V} {y : D} {k : Str → Prop} (r : Rep K I v y) (h : s1 y k) : ∃ b, v = .str b ∧ k b := by
  cases r <;> first | exact ⟨_, rfl, h⟩ | exact h.elim
def rdIndex : DM1 := fun a y M Q => s1 y fun b => ∃ (i : Nat) (rest : List Nat), Builtin.Str.occurrences a b 0 a.length 1 = i :: rest ∧ Q (.int (i : Nat)) M
def rdLstrip : DM1 := fun a y M Q => s1 y fun b => a.length ≤ sizeLine ∧ Q (.str (Txt.lstripChars a b)) M
def rdSplit : DM1 := fun a y M Q => s1 y fun b => (b.length == 0) = false ∧ a.length + 2 ≤ sizeLine ∧ Q (.lst ((Txt.split a b).map D.str)) M
def rdSplitM : DM1 := fun a y M Q => s1 y fun b => (b.length == 0) = false ∧ a.length + 2 ≤ sizeLine ∧ ∀ p, M p = none → Q (.ref p) (updM M p (.lst ((Txt.split a b).map D.str)))
theorem d_index (ho : DE X W o to) (he : DE X W e te) (hs : starEach [e] X.env = [(false, eval e X.env)] := by rfl) (hbase : attributeBase o "index" X.env (eval o X.env) = eval o X.env := by rfl) (hline : (apos.endLine == pos.line) = true := by rfl) : DE X W (.Call (.Attribute o "index" apos) [e] [] pos) (dM1 rdIndex to te) :=
  d_m1 PySem.F.slot_str_index PySem.F.type_str_index mt_sindex (fun I M F H a y dy Qd Q hr r q fq => by
    obtain ⟨b, rfl, i, rest, e, q⟩ := s1_out r q
    exact ⟨a, b, i, rest, rfl, rfl, e, fq _ M I H _ q (Same.refl I) hr (.int _)⟩) ho he hs hbase hline
theorem d_lstrip (ho : DE X W o to) (he : DE X W e te) (hs : starEach [e] X.env = [(false, eval e X.env)] := by rfl) (hbase : attributeBase o "lstrip" X.env (eval o X.env) = eval o X.env := by rfl) (hline : (apos.endLine == pos.line) = true := by rfl) : DE X W (.Call (.Attribute o "lstrip" apos) [e] [] pos) (dM1 rdLstrip to te) :=
  d_m1 PySem.F.slot_str_lstrip PySem.F.type_str_lstrip mt_lstripChars (fun I M F H a y dy Qd Q hr r q fq => by
    obtain ⟨b, rfl, e, q⟩ := s1_out r q
    exact ⟨a, b, rfl, rfl, e, fq _ M I H _ q (Same.refl I) hr (.str _)⟩) ho he hs hbase hline
theorem rep_strs {K : PySem.W.Frag} {I : Hp} : ∀ ns : List Str, Reps K I (ns.map V.str) (ns.map D.str)
  | [] => .nil
  | n :: ns => .cons (.str n) (rep_strs ns)
theorem d_split (ho : DE X W o to) (he : DE X W e te) (hs : starEach [e] X.env = [(false, eval e X.env)] := by rfl) (hbase : attributeBase o "split" X.env (eval o X.env) = eval o X.env := by rfl) (hline : (apos.endLine == pos.line) = true := by rfl) : DE X W (.Call (.Attribute o "split" apos) [e] [] pos) (dM1 rdSplit to te) :=
  d_m1 PySem.F.slot_str_split PySem.F.type_str_split mt_split (fun I M F H a y dy Qd Q hr r q fq => by
    obtain ⟨b, rfl, e1, e2, q⟩ := s1_out r q
    exact ⟨a, b, rfl, rfl, e1, e2, fin_lst fq hr (rep_strs _) q⟩) ho he hs hbase hline
theorem d_splitM (ho : DE X W o to) (he : DE X W e te) (hs : starEach [e] X.env = [(false, eval e X.env)] := by rfl) (hbase : attributeBase o "split" X.env (eval o X.env) = eval o X.env := by rfl) (hline : (apos.endLine == pos.line) = true := by rfl) : DE X W (.Call (.Attribute o "split" apos) [e] [] pos) (dM1 rdSplitM to te) :=
  d_m1 PySem.F.slot_str_split PySem.F.type_str_split mt_split (fun I M F H a y dy Qd Q hr r q fq => by
    obtain ⟨b, rfl, e1, e2, q⟩ := s1_out r q
    exact ⟨a, b, rfl, rfl, e1, e2, fin_lstM fq hr (rep_strs _) q⟩) ho he hs hbase hline
end
end DL

set_option Elab.async false
set_option linter.all false
set_option maxRecDepth 100000
set_option maxHeartbeats 2000000
namespace DL
open PySem PySem.Spec PyProof.Rows L2
/-! ## a, b = x, y; a, b, c = x, y, z (plain locals) -/
def dPar2 (i j : Nat) (ta : DTA) : DTS := fun Dd δ M => ta δ M (fun ds M1 => match ds with | [v, w] => Dd.nx ((δ.set i (some v)).set j (some w)) M1 | _ => False) (fun c fo M' => Dd.ex c fo δ M')
def dPar3 (i j l : Nat) (ta : DTA) : DTS := fun Dd δ M => ta δ M (fun ds M1 => match ds with | [u, v, w] => Dd.nx (((δ.set i (some u)).set j (some v)).set l (some w)) M1 | _ => False) (fun c fo M' => Dd.ex c fo δ M')
section
variable {X : Cx} {W : WX} {a b c : Expr} {ta : DTA} {pos px py pz pt : Pos} {kt k2 pt2} {x y z : Str}
theorem s_par2 (i j : Nat) (g : Good X W) (hN : X.N.Nodup) (ha : DA X W [a, b] ta) (hi : X.N[i]? = some x := by rfl) (hj : X.N[j]? = some y := by rfl) (hij : i ≠ j := by decide) (hx : X.env.scope.names.lookup x = some .local := by rfl) (hy : X.env.scope.names.lookup y = some .local := by rfl)
    (hw : swappedStores [.Tuple [.Name x px, .Name y py] kt pt] (.Tuple [a, b] k2 pt2) X.env = pure (some [x, y]) := by rfl) (hs : swapsWithSole [.Tuple [.Name x px, .Name y py] kt pt] (.Tuple [a, b] k2 pt2) pos.line X.env = pure false := by rfl) :
    DSt X W (.Assign [.Tuple [.Name x px, .Name y py] kt pt] (.Tuple [a, b] k2 pt2) pos) (dPar2 i j ta) := ps_imp (ps_par g.calm hN hi hj hij hx hy ha hw hs) fun Dn σ H h => by
  obtain ⟨I, M, F, δ, Dd, hr, rs, q, f⟩ := h
  refine ⟨I, M, F, δ, _, _, hr, rs, q, fun ds M1 I1 H1 vs q1 s1 hr1 r1 => ?_, f.x rs⟩
  dsimp only at q1
  split at q1
  · obtain ⟨v1, vs1, rfl, ra, r1⟩ := (by cases r1 with | cons p q => exact ⟨_, _, rfl, p, q⟩ : ∃ v vs', vs = v :: vs' ∧ Rep X.K I1 v _ ∧ Reps X.K I1 vs' _)
    cases r1 with
    | cons rb r1 =>
      cases r1
      exact ⟨_, _, rfl, f.nx _ M1 I1 H1 _ q1 s1 hr1 (((rs.mono s1).set i ra).set j rb)⟩
  · exact q1.elim
theorem s_par3 (i j l : Nat) (g : Good X W) (hN : X.N.Nodup) (ha : DA X W [a, b, c] ta) (hi : X.N[i]? = some x := by rfl) (hj : X.N[j]? = some y := by rfl) (hl : X.N[l]? = some z := by rfl) (hij : i ≠ j := by decide) (hil : i ≠ l := by decide) (hjl : j ≠ l := by decide)
    (hx : X.env.scope.names.lookup x = some .local := by rfl) (hy : X.env.scope.names.lookup y = some .local := by rfl) (hz : X.env.scope.names.lookup z = some .local := by rfl)
    (hw : swappedStores [.Tuple [.Name x px, .Name y py, .Name z pz] kt pt] (.Tuple [a, b, c] k2 pt2) X.env = pure (some [x, y, z]) := by rfl) (hs : swapsWithSole [.Tuple [.Name x px, .Name y py, .Name z pz] kt pt] (.Tuple [a, b, c] k2 pt2) pos.line X.env = pure false := by rfl) :
    DSt X W (.Assign [.Tuple [.Name x px, .Name y py, .Name z pz] kt pt] (.Tuple [a, b, c] k2 pt2) pos) (dPar3 i j l ta) := ps_imp (ps_par3 g.calm hN hi hj hl hij hil hjl hx hy hz ha hw hs) fun Dn σ H h => by
  obtain ⟨I, M, F, δ, Dd, hr, rs, q, f⟩ := h
  refine ⟨I, M, F, δ, _, _, hr, rs, q, fun ds M1 I1 H1 vs q1 s1 hr1 r1 => ?_, f.x rs⟩
  dsimp only at q1
  split at q1
  · cases r1 with
    | cons ra r1 =>
      cases r1 with
      | cons rb r1 =>
        cases r1 with
        | cons rc r1 =>
          cases r1
          exact ⟨_, _, _, rfl, f.nx _ M1 I1 H1 _ q1 s1 hr1 ((((rs.mono s1).set i ra).set j rb).set l rc)⟩
  · exact q1.elim
end
end DL

set_option Elab.async false
set_option linter.all false
set_option maxRecDepth 100000
set_option maxHeartbeats 2000000
namespace DL
open PySem PySem.Spec L2
/-! ## how long a repr may be -/
mutual
def cst : PyData → Nat
  | .none => 4
  | .bool _ => 5
  | .int _ => 1921
  | .str x => 10 * x.length + 2
  | .list xs => csts xs + 3
  | .tuple xs => csts xs + 3
  | .dict _ => 0
def csts : List PyData → Nat
  | [] => 0
  | x :: r => cst x + 2 + csts r
end
mutual
def strsOk : PyData → Prop
  | .str x => ∀ c ∈ x.cps.toList, c < 0x110000
  | .list xs => strssOk xs
  | .tuple xs => strssOk xs
  | .dict _ => False
  | _ => True
def strssOk : List PyData → Prop
  | [] => True
  | x :: r => strsOk x ∧ strssOk r
end
theorem shown_cst (p : PyData) : p.showable = true → strsOk p → p.shown.length ≤ cst p := by
  refine PyData.rec (motive_1 := fun p => p.showable = true → strsOk p → p.shown.length ≤ cst p)
    (motive_2 := fun ps => PyData.showableAll ps = true → strssOk ps → ((PyData.shownAll ps).map (·.length)).sum + 2 * (PyData.shownAll ps).length ≤ csts ps) (motive_3 := fun _ => True) (motive_4 := fun _ => True) ?_ ?_ ?_ ?_ ?_ ?_ ?_ ?_ ?_ ?_ ?_ ?_ p
  · intro _ _; decide
  · intro b _ _; cases b <;> decide
  · intro i h _
    have h : i.natAbs.log2 < 1920 := by simpa [PyData.showable] using h
    exact PyProof.Rows.int_text_len_1921 h
  · intro x _ h
    have := StrLaws.reprText_len x (fun c hc => Nat.lt_trans (h c hc) (by decide))
    show (reprText x).length ≤ 10 * x.length + 2
    omega
  · intro xs ih h ok
    have h' : PyData.showableAll xs = true := by simpa [PyData.showable] using h
    have z := listText_len_le (PyData.shownAll xs)
    have y := ih h' ok
    show (listText (PyData.shownAll xs)).length ≤ csts xs + 3
    omega
  · intro xs ih h ok
    have h' : PyData.showableAll xs = true := by simpa [PyData.showable] using h
    have z := tupleText_len_le (PyData.shownAll xs)
    have y := ih h' ok
    show (tupleText (PyData.shownAll xs)).length ≤ csts xs + 3
    omega
  · intro kvs _ _ h; exact h.elim
  · intro _ _; exact Nat.le_refl 0
  · intro x r ih1 ih2 h ok
    have h' : x.showable = true ∧ PyData.showableAll r = true := by simpa [PyData.showableAll] using h
    have y1 := ih1 h'.1 ok.1
    have y2 := ih2 h'.2 ok.2
    show ((x.shown :: PyData.shownAll r).map (·.length)).sum + 2 * (x.shown :: PyData.shownAll r).length ≤ cst x + 2 + csts r
    simp only [List.map_cons, List.sum_cons, List.length_cons]
    omega
  all_goals intros; trivial
end DL

set_option Elab.async false
set_option linter.all false
set_option maxRecDepth 100000
set_option maxHeartbeats 2000000
namespace DL
open PySem PySem.Spec PyProof.Rows L2
section
variable {X : Cx} {W : WX} {e : Expr} {es : List Expr} {kws : List Keyword} {ta tk : DTA} {pos p : Pos} {x : Str} {ps : List Str} {sp : DSp} {k : Nat}
/-! ## keyword calls, the pattern by its parts -/
theorem d_kw (i : Nat) {pats : List Pat} {n m : Nat} {ks : List Str} {gg : List D → List D → List D} (Fx : FnK X.prog X.w X.K X.mg X.base k x ps sp pats) (g : Good X W) (rm : Room k X.A) (ha : DA X W (e :: es) ta) (hkw : DKw X W kws tk) (hi : pats[i]? = some ⟨n, ks, gg⟩ := by rfl) (hl : ks.length = m := by rfl) (hg : Gl X x := by rfl)
    (hall : (backToKw pos (keywordEach kws X.env)).all (·.1.isSome) = true := by rfl) (hks : (backToKw pos (keywordEach kws X.env)).filterMap (·.1) = ks := by rfl)
    (hdb : (x == ("__debug__" : Str)) = false := by decide) (he : starEach (e :: es) X.env = (false, eval e X.env) :: starEach es X.env := by rfl)
    (hpl : ((backTo pos (starEach (e :: es) X.env)).any (·.1) || (backToKw pos (keywordEach kws X.env)).any (·.1.isNone)) = false := by rfl) : DE X W (.Call (.Name x p) (e :: es) kws pos) (dCallK n m sp gg ta tk) := by
  subst hl
  exact d_callK (pt := ⟨n, ks, gg⟩) i Fx g rm ha hkw hi hg hall hks hdb he hpl
theorem d_kw0 (i : Nat) {pats : List Pat} {n m : Nat} {ks : List Str} {gg : List D → List D → List D} (Fx : FnK X.prog X.w X.K X.mg X.base k x ps sp pats) (g : Good X W) (rm : Room k X.A) (hkw : DKw X W kws tk) (hi : pats[i]? = some ⟨n, ks, gg⟩ := by rfl) (hl : ks.length = m := by rfl) (hg : Gl X x := by rfl)
    (hall : (backToKw pos (keywordEach kws X.env)).all (·.1.isSome) = true := by rfl) (hks : (backToKw pos (keywordEach kws X.env)).filterMap (·.1) = ks := by rfl)
    (hdb : (x == ("__debug__" : Str)) = false := by decide) (hpl : ((backTo pos (starEach [] X.env)).any (·.1) || (backToKw pos (keywordEach kws X.env)).any (·.1.isNone)) = false := by rfl) : DE X W (.Call (.Name x p) [] kws pos) (dCallK n m sp gg dNil tk) := by
  subst hl
  exact d_callK0 (pt := ⟨n, ks, gg⟩) i Fx g rm hkw hi hg hall hks hdb hpl
end
end DL

set_option Elab.async false
set_option linter.all false
set_option maxRecDepth 100000
set_option maxHeartbeats 2000000
namespace DL
open PySem PySem.Spec PyProof.Rows L2
/-! ## try with several clauses, each of one class or of a tuple of classes, with a name or none -/
inductive NmsOk (X : Cx) : List Expr → List Value → Prop
  | nil : NmsOk X [] []
  | cons {x : Str} {c : Value} {np : Pos} {es : List Expr} {cs : List Value} : Names X x c → NmsOk X es cs → NmsOk X (.Name x np :: es) (c :: cs)
theorem exm_any1 {K : PySem.W.Frag} {cls c : Value} {b : Bool} (h : PySem.W.exmAny K cls [c] = some b) : PySem.W.exmOne K cls c = some b := by
  obtain ⟨b1, d1, h1, h2, rfl⟩ := PySem.W.exmAny_cons h
  have w : some false = some d1 := h2
  cases w
  rw [Bool.or_false]
  exact h1
theorem all_exc {M : Model} {K : PySem.W.Frag} {h : Heap} {cls : Value} (X : K.In h) : ∀ (cs : List Value) (b : Bool), PySem.W.exmAny K cls cs = some b →
    (∀ c ∈ cs, PySem.W.Looks M h (isExcClass c) true ∧ ∃ v, PySem.W.exmOne K cls c = some v ∧ PySem.W.Looks M h (isSubtype cls c) v)
  | [], _, _ => fun _ z => nomatch z
  | c :: r, b, e => by
    obtain ⟨b1, d1, h1, h2, _⟩ := PySem.W.exmAny_cons e
    intro x hx
    rcases List.mem_cons.mp hx with rfl | hx
    · obtain ⟨p, q⟩ := PySem.W.exm_cls (M := M) X h1
      exact ⟨p, b1, h1, q⟩
    · exact all_exc X r d1 h2 x hx
theorem any_exm {K : PySem.W.Frag} {cls : Value} : ∀ (cs : List Value) (b : Bool), PySem.W.exmAny K cls cs = some b → cs.any (fun c => PySem.W.exmOne K cls c == some true) = b
  | [], b, h => by
    have w : some false = some b := h
    cases w
    rfl
  | c :: r, b, h => by
    obtain ⟨b1, d1, h1, h2, rfl⟩ := PySem.W.exmAny_cons h
    rw [List.any_cons, any_exm r d1 h2, h1]
    cases b1 <;> rfl
section
variable {M : Model} {A : Around} {E : Value → Shared → Prop} {s : Shared}
theorem forIn_find {β : Type} {f : Value → β → Sem (ForInStep β)} {b x : β} {v : Value → Bool} {Q : β → Shared → Prop} : ∀ cs : List Value, (∀ c ∈ cs, ∀ R : ForInStep β → Shared → Prop, R (if v c = true then .done x else .yield b) s → wpAny M A (f c b) R E s) →
    Q (if cs.any v = true then x else b) s → wpAny M A (forIn cs b f) Q E s
  | [], _, q => by
    rw [List.forIn_nil]
    exact wpAny_pure q
  | c :: r, h, q => by
    rw [List.forIn_cons]
    refine wpAny_bind (h c List.mem_cons_self _ ?_)
    rw [List.any_cons] at q
    cases hv : v c with
    | true =>
      rw [hv, Bool.true_or, if_pos rfl] at q
      rw [if_pos rfl]
      exact wpAny_pure q
    | false =>
      rw [hv, Bool.false_or] at q
      rw [if_neg Bool.false_ne_true]
      exact forIn_find r (fun y hy => h y (List.mem_cons_of_mem _ hy)) q
end
theorem exm_tupN {M : Model} {K : PySem.W.Frag} {cs : List Value} {cls : Value} {tp e : Addr} {b : Bool} {h : Heap} (X : K.In h) (LT : PySem.W.Looks M h (typeOf (.ref e)) cls) (hp : h.get? tp = some { cls := .type "tuple", data := .seq cs.toArray }) (hx : PySem.W.exmAny K cls cs = some b) :
    PySem.W.Looks M h (excMatches (.ref e) (.ref tp)) b := by
  intro A Q E s k₀ q
  obtain ⟨hh, g, d, tk, os⟩ := s
  have k : ∀ b o, h.get? b = some o → hh.get? b = some o := k₀
  have LT0 : PySem.W.Looks M h (isInstance (.ref tp) (.type "tuple")) true := ((PySem.W.Looks.ld hp).andThen .now).andThen (PySem.W.Looks.of_pure isSubtype_tuple_tuple)
  have LT := LT.keeps k
  have LT0 := LT0.keeps k
  have hp' := k _ _ hp
  have al := all_exc (M := M) X cs b hx
  have an := any_exm cs b hx
  unfold excMatches
  refine wpAny_bind (LT0.at ?_)
  dsimp only
  rw [if_pos rfl]
  first
    | refine wpAny_bind (wpAny_seqItems hp' rfl ?_)
    | refine wpAny_bind (wpAny_bind (wpAny_seqItems hp' rfl (wpAny_pure ?_)))
  dsimp only [Option.getD_some, Option.getD]
  refine wpAny_bind (wpAny_pure ?_)
  refine wpAny_bind (forIn_find (v := fun _ => false) (x := PUnit.unit) cs (fun c hc R r => ?_) ?_)
  · refine wpAny_bind (((al c hc).1.keeps k).here ?_)
    exact wpAny_pure r
  · refine wpAny_bind (LT.here ?_)
    refine wpAny_bind (forIn_find (v := fun c => PySem.W.exmOne K cls c == some true) (x := ((some true, ()) : Option Bool × Unit)) cs (fun c hc R r => ?_) ?_)
    · obtain ⟨_, v, hv, L⟩ := al c hc
      refine wpAny_bind ((L.keeps k).here ?_)
      rw [hv] at r
      cases v
      · exact wpAny_pure r
      · exact wpAny_pure r
    · rw [an]
      cases b
      · exact wpAny_pure q
      · exact wpAny_pure q
end DL

set_option Elab.async false
set_option linter.all false
set_option maxRecDepth 100000
set_option maxHeartbeats 2000000
namespace DL
open PySem PySem.Spec PyProof.Rows L2
/-! ## an exception of the body that has come down in our frame: it stands at a, of the class cls, its dict at d -/
structure Down (X : Cx) (pins : List (Addr × Obj)) (σ : L2.St) (H : Hp) (cls : Value) (d : Option Addr) (a : Addr) (s : Shared) : Prop where
  ex : ∃ (G : Heap) (s0 : Shared), Inv X pins σ H s0 ∧ (∀ b o, s0.heap.get? b = some o → b ∉ frs X.stack → G.get? b = some o) ∧ s0.heap.UpToSlots s.heap ∧ HandSPX.FlyingZ G (X.env :: X.outer) a (Zc cls d) s.heap ∧ s.os = s0.os ∧ AllBare s.gens
  no : H a = none
section
variable {X : Cx} {pins : List (Addr × Obj)} {σ : L2.St} {H : Hp} {cls : Value} {d : Option Addr} {a : Addr} {s : Shared}
theorem Down.inv (D : Down X pins σ H cls d a s) : Inv X pins σ H s := by
  obtain ⟨G, s0, J, nb, up, fl, os, ag⟩ := D.ex
  exact J.landed nb fl.1 up os ag
theorem Down.keeps {h' : Heap} (D : Down X pins σ H cls d a s) (k : ∀ b o, s.heap.get? b = some o → h'.get? b = some o) : Down X pins σ H cls d a { s with heap := h' } := by
  obtain ⟨G, s0, J, nb, up, ⟨f1, f2, f3, oe, ws, T, oT, ts, he, hz, hd, g1, hn, hne, hT, hdT, g3⟩, os, ag⟩ := D.ex
  exact ⟨⟨G, s0, J, nb, up.trans (Heap.UpToSlots.of_keeps k), ⟨fun b o q => k b o (f1 b o q), f2, f3.of_keeps fun b o q _ => ⟨o, k b o q, rfl⟩, oe, ws, T, oT, ts, k _ _ he, hz, hd, g1, hn, hne, k _ _ hT, hdT, g3⟩, os, ag⟩, D.no⟩
theorem Down.again {M : Model} {A : Around} {E : Value → Shared → Prop} {Q : Unit → Shared → Prop} (D : Down X pins σ H cls d a s) (q : ∀ h', Down X pins σ H cls d a { s with heap := h' } → Q () { s with heap := h' }) : wpAny M A (setFlight (.ref a) none) Q E s := by
  obtain ⟨G, s0, J, nb, up, fl, os, ag⟩ := D.ex
  exact HandSPX.lands_againZ fl fun h' fl' up' => q h' ⟨⟨G, s0, J, nb, up.trans up', fl', os, ag⟩, D.no⟩
theorem Down.there (D : Down X pins σ H cls d a s) : ∃ oe vs, s.heap.get? a = some oe ∧ Zc cls d oe ∧ oe.data = .fields vs := by
  obtain ⟨_, _, _, _, _, fl, _, _⟩ := D.ex
  exact fl.there
theorem Down.suite (hf : X.env.frame = some X.env.locals) (D : Down X pins σ H cls d a s) : ∃ oe, Zc cls d oe ∧ (∃ vs, oe.data = .fields vs) ∧ s.heap.get? a = some oe ∧ Inv (X.suite a ((a, oe) :: (X.pn ++ pins))) [] σ H s := by
  obtain ⟨oe, vs, he, hz, hd⟩ := D.there
  obtain ⟨G, s0, _, _, _, fl, _, _⟩ := D.ex
  have off : a ∉ frs (X.env :: X.outer) := fun m => by
    obtain ⟨_, o2, e2, n2⟩ := fl.2.2.1.mem m
    exact n2 vs (by rw [← Option.some.inj (he.symm.trans e2)]; exact hd)
  exact ⟨oe, hz, ⟨vs, hd⟩, he, D.inv.suite he hd D.no (fun z => off (List.mem_filterMap.mpr ⟨X.env, List.mem_cons_self, z ▸ hf⟩)) fun m => by
    obtain ⟨en, h1, h2⟩ := List.mem_filterMap.mp m
    exact off (List.mem_filterMap.mpr ⟨en, List.mem_cons_of_mem _ h1, h2⟩)⟩
/-- no clause took it: it goes on -/
theorem Down.pass {W : WX} {D : Ends} (hs : X.stack = X.env :: X.outer) (hf : X.env.frame = some X.env.locals) (tk : Takes X W) (Dn : Down X pins σ H cls d a s) (w : W cls d σ H) : wpAny (model X.prog X.w) X.A (handleBy (.ref a) X.env []) (SP X pins D) X.xe s := by
  obtain ⟨G, s0, J, nb, up, fl, os, ag⟩ := Dn.ex
  have go : wpAny (model X.prog X.w) X.A (setFlight (.ref a) X.env.frame) (fun _ s1 => wpAny (model X.prog X.w) X.A (throw (.ref a) : Sem Flow) (SP X pins D) X.xe s1) X.xe s := hf ▸ HandSPX.setFlight_upZ fl fun h1 held up1 =>
    wpAny_throw (tk _ _ ⟨a, G, s0, pins, σ, H, cls, d, rfl, J, nb, up.trans up1, .inr (.inr (hs ▸ held)), Dn.no, os, ag, w⟩)
  obtain ⟨_, _, _, oe, vs, T, _, _, he, _, hd, h1, _⟩ := fl
  refine wpAny_handleBy_nil ?_
  unfold PySem.passOn
  refine wpAny_bind (wpAny_field he hd h1 ?_)
  rw [if_neg (show ¬ ((Value.ref T == Value.none) = true) from fun z => nomatch beq_iff_eq.mp z)]
  first | exact wpAny_bind go | exact wpAny_bind (wpAny_pure (wpAny_bind go))
/-- the frame notes it -/
theorem Down.first {W : WX} {u : Value} {xe : Value → Shared → Prop} {Q : Unit → Shared → Prop} (ok : X.Ok) (hs : X.stack = X.env :: X.outer) (hf : X.env.frame = some X.env.locals) (x : XE (X.tr (X.pn ++ pins) xe) W u s)
    (q : ∀ σ H cls d a s', u = .ref a → Down X pins σ H cls d a s' → W cls d σ H → Q () s') : wpAny (model X.prog X.w) X.A (noteFrame u X.env) (fun _ s2 => wpAny (model X.prog X.w) X.A (setFlight u none) Q X.xe s2) X.xe s := by
  obtain ⟨a, G, s0, p0, σ, H, cls, d, rfl, J, nb, up, sky, na, os, ag, w⟩ := x
  have sk : Sky G (X.env :: X.outer) a (Zc cls d) X.env.locals s.heap := hs ▸ sky
  exact Sky.land Zc.steady (ok.frames.trans (congrArg some hs)) hf sk fun h' fl up' => q σ H cls d a _ rfl ⟨⟨G, s0, J.ofTry ok, nb, up.trans up', fl, os, ag⟩, na⟩ w
end
/-! ## what a clause names: one class, or a tuple of classes -/
inductive TstOk (X : Cx) : Expr → List Value → Prop
  | one {x : Str} {c : Value} {np : Pos} : Names X x c → TstOk X (.Name x np) [c]
  | tup {es : List Expr} {cs : List Value} {kk : Nat} {tp : Pos} : NmsOk X es cs → cs.length ≤ sizeLine → TstOk X (.Tuple es kk tp) cs
theorem NmsOk.suite {X : Cx} {a : Addr} {pn : List (Addr × Obj)} : ∀ {es : List Expr} {cs : List Value}, NmsOk X es cs → NmsOk (X.suite a pn) es cs
  | _, _, .nil => .nil
  | _, _, .cons h r => .cons h r.suite
theorem TstOk.suite {X : Cx} {a : Addr} {pn : List (Addr × Obj)} {t : Expr} {cs : List Value} (h : TstOk X t cs) : TstOk (X.suite a pn) t cs := by
  cases h with
  | one h => exact .one h
  | tup h hl => exact .tup h.suite hl
section
variable {X : Cx} {pins : List (Addr × Obj)} {σ : L2.St} {H : Hp} {s : Shared}
theorem nm_eval {x : Str} {c : Value} {np : Pos} {Q : Value → Shared → Prop} {E : Value → Shared → Prop} (I : Inv X pins σ H s) (hc : Names X x c) (q : Q c s) : wpAny (model X.prog X.w) X.A (eval (.Name x np) X.env) Q E s := by
  obtain ⟨g, db, m | ⟨m, v, n⟩⟩ := hc
  · exact ld_glob I g m q db
  · exact ld_blt I g m v q n db
theorem nms_eval {E : Value → Shared → Prop} {pos : Pos} (I : Inv X pins σ H s) : ∀ {es : List Expr} {cs : List Value}, NmsOk X es cs → ∀ {Q : List Value → Shared → Prop}, Q cs s → wpAny (model X.prog X.w) X.A (spliced (backTo pos (starEach es X.env))) Q E s
  | _, _, .nil, _, q => wpAny_items_nil q
  | _, _, .cons hc r, _, q => wpAny_items_cons (nm_eval I hc (nms_eval I r q))
theorem tst_run {t : Expr} {cs : List Value} {a : Addr} {cls : Value} {b : Bool} {Q : Bool → Shared → Prop} {E : Value → Shared → Prop} (I : Inv X pins σ H s) (hc : TstOk X t cs) (LT : PySem.W.Looks (model X.prog X.w) s.heap (typeOf (.ref a)) cls) (hx : PySem.W.exmAny X.K cls cs = some b)
    (q : ∀ h', (∀ c o, s.heap.get? c = some o → h'.get? c = some o) → Q b { s with heap := h' }) : wpAny (model X.prog X.w) X.A (eval t X.env) (fun c s₁ => wpAny (model X.prog X.w) X.A (excMatches (.ref a) c) Q E s₁) E s := by
  cases hc with
  | one hc => exact nm_eval I hc ((PySem.W.exm_one I.kIn LT (exm_any1 hx)).here (q s.heap fun _ _ z => z))
  | tup hn hl =>
    refine wpAny_Tuple (nms_eval I hn ⟨hl, ?_⟩)
    have kp : ∀ c o, s.heap.get? c = some o → (s.heap.push { cls := .type "tuple", data := .seq cs.toArray }).get? c = some o := fun _ _ z => Heap.get?_push_of_some _ z
    exact (exm_tupN (I.kIn.keeps kp) (LT.keeps kp) (Heap.get?_push_size s.heap rfl) hx).here (q _ kp)
end
/-! ## clauses -/
structure Hd where
  cs : List Value
  nm : Option Nat
  ts : Addr → Value → Option Addr → TS
def Hd.put (h : Hd) (a : Addr) (σ : L2.St) : L2.St := match h.nm with | some i => σ.set i (some (.ref a)) | none => σ
def Hd.clr (h : Hd) (σ : L2.St) : L2.St := match h.nm with | some i => σ.set i none | none => σ
def Hd.ends (h : Hd) (D : Ends) : Ends := { nx := fun σ' H' => D.nx (h.clr σ') H', rt := D.rt, bk := fun σ' H' => D.bk (h.clr σ') H', ct := fun σ' H' => D.ct (h.clr σ') H' }
def wHs (K : PySem.W.Frag) (Wout : WX) (D : Ends) : List Hd → WX
  | [] => Wout
  | h :: r => fun cls d σ H => ∃ b, PySem.W.exmAny K cls h.cs = some b ∧ (b = true → ∀ a, H a = none → h.ts a cls d (h.ends D) (h.put a σ) H) ∧ (b = false → wHs K Wout D r cls d σ H)
def NmOk (X : Cx) : Option Str → Option Nat → Prop
  | none, none => True
  | some n, some i => X.N.Nodup ∧ X.N[i]? = some n ∧ X.env.kindOf n = some .local
  | _, _ => False
inductive HdsG (X : Cx) : List ExceptHandler → List Hd → Prop
  | nil : HdsG X [] []
  | cons {t : Expr} {h : Hd} {nm : Option Str} {b0 : Stmt} {suite : List Stmt} {pos' : Pos} {hds : List ExceptHandler} {l : List Hd} (hc : TstOk X t h.cs) (hn : NmOk X nm h.nm)
      (hsu : ∀ (a : Addr) (oe : Obj) (cls : Value) (d : Option Addr) (pn : List (Addr × Obj)), Zc cls d oe → (∃ vs, oe.data = .fields vs) → PSs (X.suite a ((a, oe) :: pn)) (b0 :: suite) (h.ts a cls d)) (r : HdsG X hds l) :
      HdsG X (.ExceptHandler (some t) nm (b0 :: suite) pos' :: hds) (h :: l)
section
variable {X : Cx} {pins pn' : List (Addr × Obj)} {s : Shared} {a : Addr} {D : Ends} {f : Flow}
theorem sp_try {xe : Value → Shared → Prop} (ok : X.Ok) (h : SP (X.tr (X.pn ++ pins) xe) pn' D f s) : SP X pins D f s := by
  cases f with
  | ret u => obtain ⟨v, σ, H, J, z⟩ := h; exact ⟨v, σ, H, J.ofTry ok, z⟩
  | _ => obtain ⟨σ, H, J, z⟩ := h; exact ⟨σ, H, J.ofTry ok, z⟩
theorem sp_out {q : Addr × Obj} (ok : X.Ok) (h : SP (X.suite a (q :: (X.pn ++ pins))) pn' D f s) : SP X pins D f s := by
  cases f with
  | ret u => obtain ⟨v, σ, H, J, z⟩ := h; exact ⟨v, σ, H, J.unsuite ok, z⟩
  | _ => obtain ⟨σ, H, J, z⟩ := h; exact ⟨σ, H, J.unsuite ok, z⟩
theorem sp_gone {q : Addr × Obj} {hd : Hd} {i : Nat} {n : Str} {pos : Pos} (ok : X.Ok) (hi : hd.nm = some i) (hn : NmOk X (some n) hd.nm) (h : SP (X.suite a (q :: (X.pn ++ pins))) pn' (hd.ends D) f s) :
    wpAny (model X.prog X.w) X.A (do bindName X.env n .none; unbindBehindTheSuite X.env n pos) (fun _ s2 => SP X pins D f s2) X.xe s := by
  rw [hi] at hn
  obtain ⟨h1, h2, h3⟩ := hn
  have cl : ∀ σ, hd.clr σ = σ.set i none := fun σ => by unfold Hd.clr; rw [hi]
  cases f with
  | ret u => obtain ⟨v, σ, H, J, r, z⟩ := h; exact gone_ok (J.unsuite ok) h1 h2 h3 fun s2 J2 => ⟨v, _, H, J2, r, z⟩
  | _ => obtain ⟨σ, H, J, z⟩ := h; exact gone_ok (J.unsuite ok) h1 h2 h3 fun s2 J2 => ⟨_, H, J2, cl σ ▸ z⟩
theorem clauses {W : WX} {σ : L2.St} {H : Hp} {cls : Value} {d : Option Addr} (ok : X.Ok) (hs : X.stack = X.env :: X.outer) (hf : X.env.frame = some X.env.locals) (tk : Takes X W) : ∀ {hds : List ExceptHandler} {l : List Hd}, HdsG X hds l → ∀ {s : Shared}, Down X pins σ H cls d a s →
    wHs X.K W D l cls d σ H → wpAny (model X.prog X.w) X.A (handleBy (.ref a) X.env hds) (SP X pins D) X.xe s
  | _, _, .nil, s, dn, w => dn.pass hs hf tk w
  | _, _, .cons (h := hd) (nm := nm) hc hn hsu r, s, dn, ⟨b, hb, yes, no⟩ => by
    obtain ⟨oe, z1, _, e1, S⟩ := dn.suite hf
    refine wpAny_handleBy_cons (codeAny_handlers_test (tst_run (X := X.suite a ((a, oe) :: (X.pn ++ pins))) S hc.suite (fun A Q E s' k q => wpAny_typeOf_ref (k _ _ e1) (z1.1.symm ▸ q)) hb fun h1 kp => ?_)) (fun z => nomatch z)
    have dn1 := dn.keeps kp
    cases b with
    | false => exact clauses ok hs hf tk r dn1 (no rfl)
    | true =>
      cases nm with
      | none =>
        refine codeAny_handlers_suite (dn1.again fun h2 dn2 => ?_)
        obtain ⟨o2, z2, d2, _, S2⟩ := dn2.suite hf
        have hnm : hd.nm = none := by cases q : hd.nm with
          | none => rfl
          | some i => rw [q] at hn; exact hn.elim
        have y := yes rfl a dn.no
        rw [show hd.put a σ = σ from by unfold Hd.put; rw [hnm]] at y
        rw [show hd.ends D = D from by unfold Hd.ends Hd.clr; rw [hnm]] at y
        exact wpAny_mono ((hsu a o2 cls d (X.pn ++ pins) z2 d2).run [] _ σ H D S2 y) (fun f s3 z => sp_out ok z) fun _ _ z => z.elim
      | some n =>
        cases hi : hd.nm with
        | none => rw [hi] at hn; exact hn.elim
        | some i =>
          have hn' := hn
          rw [hi] at hn'
          obtain ⟨g1, g2, g3⟩ := hn'
          refine codeAny_handlers_suite_as (dn1.again fun h2 dn2 => ?_)
          obtain ⟨o2, z2, d2, _, S2⟩ := dn2.suite hf
          have y := yes rfl a dn.no
          rw [show hd.put a σ = σ.set i (some (.ref a)) from by unfold Hd.put; rw [hi]] at y
          refine store_ok (X := X.suite a ((a, o2) :: (X.pn ++ pins))) (v := .ref a) S2 g1 g2 (.inl g3) rfl (fun s3 S3 => ?_) (.inr g3)
          exact wpAny_mono ((hsu a o2 cls d (X.pn ++ pins) z2 d2).run [] s3 _ H _ S3 y) (fun f s4 z => sp_gone ok hi hn z) fun _ _ z => z.elim
end
theorem ps_tryG {X : Cx} {body : List Stmt} {h0 : ExceptHandler} {hds : List ExceptHandler} {l : List Hd} {pos : Pos} {tb : WX → TS} {W : WX} (hs : X.stack = X.env :: X.outer) (hf : X.env.frame = some X.env.locals) (tk : Takes X W)
    (hb : ∀ (V : WX) (pn : List (Addr × Obj)) (xe : Value → Shared → Prop), Takes (X.tr pn xe) V → PassesOwn (model X.prog X.w) X.A X.env xe → PSs (X.tr pn xe) body (tb V)) (hh : HdsG X (h0 :: hds) l) : PS X (.Try body (h0 :: hds) [] [] pos) (fun D σ H => tb (wHs X.K W D l) D σ H) :=
  ⟨fun pins s σ H D I h => wpAny_Try_except (wpAny_mono ((hb (wHs X.K W D l) (X.pn ++ pins) (fun e s1 => wpAny (model X.prog X.w) X.A (noteFrame e X.env) (fun _ s2 => wpAny (model X.prog X.w) X.A (setFlight e none) (fun _ s3 => wpAny (model X.prog X.w) X.A (handleBy e X.env (h0 :: hds)) (SP X pins D) X.xe s3) X.xe s2) X.xe s1)
    (fun u s' x => Down.first I.ok hs hf x fun σ1 H1 cls d a s1 e dn w => e ▸ clauses I.ok hs hf tk hh dn w) PassesOwn.looking).run [] s σ H D (I.toTry _) h)
    (fun f s1 z => by
      have z := sp_try I.ok z
      cases f with
      | next => exact wpAny_execs_nil z
      | _ => exact z) fun e s1 z => z)⟩
end DL

set_option Elab.async false
set_option linter.all false
set_option maxRecDepth 100000
set_option maxHeartbeats 2000000
namespace DL
open PySem PySem.Spec PyProof.Rows L2
/-! ## raise X(e) -/
section
variable {X : Cx} {W : WX} {e : Expr} {te : TE} {td : DTE} {p pos pos' : Pos} {x f : Str} {C : Addr} {k : Nat}
theorem pmk_one (T : ExcT X.prog X.w X.K X.mg X.base k x f C) (ng : NoGd X.A) (rm : Room (k + 1) X.A) (he : PE X e te) (hg : Gl X x := by rfl) (hdb : (x == ("__debug__" : Str)) = false := by decide) (hs : starEach [e] X.env = (false, eval e X.env) :: starEach [] X.env := by rfl)
    (hpl : (backTo pos (starEach [] X.env)).any (·.1) = false := by rfl) : PMk X (.Call (.Name x p) [e] [] pos) (fun σ H Q => te σ H fun v H1 => ∀ d, H1 d = none → Q (.ref C) (some d) (upd H1 d (.xd [(f, v)]))) := by
  obtain ⟨fI, fd, i1, i2, hb, F1⟩ := T.ini
  intro pins s σ H Q I h
  obtain ⟨nm, q, N, bs, bm, sn, sub, ab, col, dd, k0, k1, k2, k3, k5, hC, hbm⟩ := T.oex.cls
  refine wpAny_Call_Name_kw (ld_glob I hg T.mgC ?_ hdb)
  refine PySem.W.callWith_K (h₀ := X.base) I.ok.mod.kin T.oex.kC (thn (PA.run (pa_cons he pa_nil hs) pos pins s σ H (fun vs H1 => ∃ v, vs = [v] ∧ ∀ d, H1 d = none → Q (.ref C) (some d) (upd H1 d (.xd [(f, v)]))) I (show tCons te tNil σ H _ from (show te σ H _ from by simpa [tCons, tNil] using h))) fun us s1 z => ?_) hs hpl
  obtain ⟨vs, H1, J, rv, v, ev, q1⟩ := z
  subst ev
  refine ⟨J.kIn, ?_⟩
  obtain ⟨u, rfl, ru⟩ := vals1 rv
  obtain ⟨hp, g, dr, tk, os⟩ := s1
  show wpAny _ _ (call (.ref C) [u]) _ _ _
  generalize ha : hp.objs.size + 1 = a
  have hsz : hp.objs.size ≤ a := by omega
  have hn : H1 a = none := J.hok.fresh hsz
  have kk : ∀ b o, hp.get? b = some o → ((hp.push (PySem.W.kdv_tup [u])).push (PySem.HandSPX.excO C hp.objs.size)).get? b = some o := fun b o z => Heap.get?_push_of_some _ (Heap.get?_push_of_some _ z)
  have hget : ((hp.push (PySem.W.kdv_tup [u])).push (PySem.HandSPX.excO C hp.objs.size)).get? a = some (PySem.HandSPX.excO C hp.objs.size) := by rw [← ha]; heap_get
  have I2 : L2.Inv X pins σ (upd H1 a (exo a C none)) ⟨(hp.push (PySem.W.kdv_tup [u])).push (PySem.HandSPX.excO C hp.objs.size), g, dr, tk, os⟩ := J.laid (t' := tk) (a := a) (o := exo a C none) (h' := (hp.push (PySem.W.kdv_tup [u])).push (PySem.HandSPX.excO C hp.objs.size)) kk hsz (exo_ok hget)
  have r2 : Vals [V.ref a, v] [Value.ref a, u] := .cons rfl (.cons ru .nil)
  have pr : spI C f [.ref a, v] (upd H1 a (exo a C none)) (fun r H2 => r = .non ∧ ∃ d, H1 d = none ∧ H2 a = some (exo a C (some d)) ∧ H2 d = some (exd d [(f, v)]) ∧ upd (del H2 a) d (.xd [(f, v)]) = upd H1 d (.xd [(f, v)])) (fun _ _ _ => False) := by
    refine ⟨a, v, rfl, upd_same, fun dx hd ne => ⟨rfl, dx, ?_, upd_same, ?_, ?_⟩⟩
    · rw [upd_ne ne] at hd; exact hd
    · rw [upd_ne ne, upd_same]
    · funext b
      by_cases e2 : b = dx
      · subst e2; rw [upd_same, upd_same]
      · rw [upd_ne e2, upd_ne e2]
        by_cases e1 : b = a
        · subst e1; rw [del_same, hn]
        · rw [del_ne e1, upd_ne e1, upd_ne e2, upd_ne e1]
  have bt := hb ⟨(hp.push (PySem.W.kdv_tup [u])).push (PySem.HandSPX.excO C hp.objs.size), g, dr, tk, os⟩ [Value.ref a, u] I2.kIn rfl
  rw [List.append_nil] at bt
  refine wpAny_call (PySem.HandSPX.call_own F.excBase_ValueError (fun Y => PySem.HandSPX.refsVE_contains Y bm hbm) (J.kIn _ _ hC) (PySem.W.looks_findIn J.kIn i1) (fun self => PySem.W.bind_fn J.kIn self i2) (by show 1 ≤ sizeLine; decide)
    (codeAny_mono (F1.run _ X.stack _ _ ⟨[Value.ref _, u], []⟩ [Value.ref _, u] _ _ (fun _ _ _ => False) (nogd_make ng C [u] []) (rm.make C [u] []) (I2.env0.make C [u] []) (by first | exact bt | (rw [ha]; exact bt)) (by first | exact r2 | (rw [ha]; exact r2)) (by first | exact pr | (rw [ha]; exact pr))) fun r s' hq' => ?_))
  cases r with
  | error er => exact passL pins σ _ _ er s' I2 hq'
  | ok fl => cases fl with
    | ret w =>
      obtain ⟨v', H2, o1, o2, un, ok2, rr, e1, d, hd1, ea, ed, eH⟩ := hq'
      subst e1
      obtain ⟨h2, g2, d2, t2, os'⟩ := s'
      refine ⟨rr, ?_⟩
      have qq := q1 d hd1
      rw [← eH] at qq
      have fin := mk_end (d2 := d2) (t2 := t2) (raises_own T.oex.exC T.oex.tyC) J hsz kk un ok2 o1 o2 ea ed hd1 qq
      first | exact fin | (rw [ha]; exact fin)
    | next => cases hq'
    | brk => cases hq'
    | cont => cases hq'
theorem HR.xdN {K : PySem.W.Frag} {I : Hp} {M : Mp} {F H : Hp} (h : HR K I M F H) {d : Addr} {vs : List (Str × V)} {fs : List (Str × D)} (hd : H d = none) (r : RepF K I vs fs) : XD K I M F (upd H d (.xd vs)) (some d) (some fs) := by
  obtain ⟨a, b, c⟩ := h.fresh hd
  exact ⟨⟨vs, upd_same, r⟩, a, b, c⟩
def dRaise (C : Addr) (f : Str) (td : DTE) : DTS := fun Dd δ M => td δ M (fun d M1 => Dd.ex (.ref C) (some [(f, d)]) δ M1) (fun c fo M' => Dd.ex c fo δ M')
theorem s_raise (T : ExcT X.prog X.w X.K X.mg X.base k x f C) (g : Good X W) (rm : Room (k + 1) X.A) (he : DE X W e td) (hg : Gl X x := by rfl) (hdb : (x == ("__debug__" : Str)) = false := by decide) (hs : starEach [e] X.env = (false, eval e X.env) :: starEach [] X.env := by rfl)
    (hpl : (backTo pos (starEach [] X.env)).any (·.1) = false := by rfl) : DSt X W (.Raise (some (.Call (.Name x p) [e] [] pos)) none pos') (dRaise C f td) := ps_imp (ps_raise g.calm g.tk (pmk_one T g.ng rm he hg hdb hs hpl)) fun Dn σ H h => by
  obtain ⟨I, M, F, δ, Dd, hr, rs, q, fs⟩ := h
  refine ⟨I, M, F, δ, _, _, hr, rs, q, fun d M1 I1 H1 v q1 s1 hr1 r1 dx hd => ?_, fs.x rs⟩
  exact fs.ex _ _ δ M1 I1 _ σ (some dx) q1 s1 (hr1.bump hd _) (rs.mono s1) (hr1.xdN hd (.cons r1 .nil))
end
/-! ## try, at data level -/
structure DHd where
  cs : List Value
  nm : Option Nat
  ts : Addr → Value → Option Addr → DTS
def DHd.put (h : DHd) (a : Addr) (δ : DS) : DS := match h.nm with | some i => δ.set i (some (.ref a)) | none => δ
def DHd.clr (h : DHd) (δ : DS) : DS := match h.nm with | some i => δ.set i none | none => δ
def DHd.ends (h : DHd) (D : DEnds) : DEnds := { nx := fun δ M => D.nx (h.clr δ) M, rt := D.rt, ex := fun _ _ _ _ => False, bk := fun δ M => D.bk (h.clr δ) M, ct := fun δ M => D.ct (h.clr δ) M }
def DHd.hit (h : DHd) (Dd : DEnds) (cls : Value) (fo : Option (List (Str × D))) (δ : DS) (M : Mp) : Prop := match fo with
  | none => ∀ a, M a = none → h.ts a cls none (h.ends Dd) (h.put a δ) M
  | some fs => ∀ a d, M a = none → M d = none → a ≠ d → h.ts a cls (some d) (h.ends Dd) (h.put a δ) (updM M d (.xd fs))
def dClauses (xm : Value → List Value → Option Bool) (Dd : DEnds) : List DHd → Value → Option (List (Str × D)) → DS → Mp → Prop
  | [] => Dd.ex
  | h :: r => fun cls fo δ M => ∃ b, xm cls h.cs = some b ∧ br b (h.hit Dd cls fo δ M) (dClauses xm Dd r cls fo δ M)
def dTry (xm : Value → List Value → Option Bool) (hs : List DHd) (tb : DTS) : DTS := fun Dd δ M => tb { Dd with ex := dClauses xm Dd hs } δ M
def noW : WX := fun _ _ _ _ => False
def DHd.lift (K : PySem.W.Frag) (h : DHd) : Hd := ⟨h.cs, h.nm, fun a cls d => lS K noW (h.ts a cls d)⟩
theorem HR.adopt {K : PySem.W.Frag} {I : Hp} {M : Mp} {F H : Hp} (h : HR K I M F H) {d : Addr} {fs : List (Str × D)} (x : XD K I M F H (some d) (some fs)) : HR K I (updM M d (.xd fs)) F H := by
  obtain ⟨⟨vs, e, r⟩, a1, a2, a3⟩ := x
  refine ⟨h.imm, fun a m q => ?_, fun a u q => ?_, h.ft⟩
  · by_cases z : a = d
    · subst z; rw [updM_same] at q; cases q; exact ⟨a1, _, e, vs, rfl, r⟩
    · rw [updM_ne z] at q; exact h.mu a m q
  · have z : a ≠ d := fun z => by rw [z, a3] at q; cases q
    rw [updM_ne z]; exact h.frm a u q
theorem put_rep {K : PySem.W.Frag} {I : Hp} {σ : L2.St} {δ : DS} (h : DHd) (a : Addr) (r : RepS K I σ δ) : RepS K I ((h.lift K).put a σ) (h.put a δ) := by
  unfold Hd.put DHd.put DHd.lift
  cases h.nm with
  | none => exact r
  | some i => exact r.set i (.ref a)
theorem clr_rep {K : PySem.W.Frag} {I : Hp} {σ : L2.St} {δ : DS} (h : DHd) (r : RepS K I σ δ) : RepS K I ((h.lift K).clr σ) (h.clr δ) := by
  unfold Hd.clr DHd.clr DHd.lift
  cases h.nm with
  | none => exact r
  | some i => exact r.forget i
theorem hit_fin {K : PySem.W.Frag} {W : WX} {I F : Hp} {Dd : DEnds} {Dn : Ends} (h : DHd) (f : FinS K W I F Dd Dn) : FinS K noW I F (h.ends Dd) ((h.lift K).ends Dn) :=
  ⟨fun δ' M' I' H' σ' q s hr rs => f.nx _ M' I' H' _ q s hr (clr_rep h rs), f.rt, fun _ _ _ _ _ _ _ _ z => z.elim, fun δ' M' I' H' σ' q s hr rs => f.bk _ M' I' H' _ q s hr (clr_rep h rs), fun δ' M' I' H' σ' q s hr rs => f.ct _ M' I' H' _ q s hr (clr_rep h rs)⟩
theorem clauses_lift {K : PySem.W.Frag} {W : WX} {I F H : Hp} {M : Mp} {Dd : DEnds} {Dn : Ends} {σ : L2.St} {δ : DS} {cls : Value} {dd : Option Addr} {fo : Option (List (Str × D))} (f : FinS K W I F Dd Dn) (hr : HR K I M F H) (rs : RepS K I σ δ) (x : XD K I M F H dd fo) :
    ∀ hs : List DHd, dClauses (PySem.W.exmAny K) Dd hs cls fo δ M → wHs K W Dn (hs.map (DHd.lift K)) cls dd σ H
  | [], q => f.ex cls fo δ M I H σ dd q (Same.refl I) hr rs x
  | h :: r, ⟨b, e, q⟩ => by
    refine ⟨b, e, fun eb a ha => ?_, fun eb => ?_⟩
    · subst eb
      have na := (hr.fresh ha).2.1
      match dd, fo, x with
      | none, none, _ => exact ⟨I, M, F, _, _, hr, put_rep h a rs, q a na, hit_fin h f⟩
      | some d, some fs, x =>
        have ne : a ≠ d := fun z => by
          obtain ⟨⟨vs, e, _⟩, _⟩ := x
          rw [z, e] at ha; cases ha
        exact ⟨I, _, F, _, _, hr.adopt x, put_rep h a rs, q a d na x.2.2.1 ne, hit_fin h f⟩
    · subst eb
      exact clauses_lift f hr rs x r q
inductive DHds (X : Cx) : List ExceptHandler → List DHd → Prop
  | nil : DHds X [] []
  | cons {t : Expr} {h : DHd} {nm : Option Str} {b0 : Stmt} {suite : List Stmt} {pos' : Pos} {hds : List ExceptHandler} {l : List DHd} (hc : TstOk X t h.cs) (hn : NmOk X nm h.nm)
      (hsu : ∀ (a : Addr) (oe : Obj) (cls : Value) (d : Option Addr) (pn : List (Addr × Obj)), Zc cls d oe → (∃ vs, oe.data = .fields vs) → DSs (X.suite a ((a, oe) :: pn)) noW (b0 :: suite) (h.ts a cls d)) (r : DHds X hds l) :
      DHds X (.ExceptHandler (some t) nm (b0 :: suite) pos' :: hds) (h :: l)
theorem DHds.lift {X : Cx} : ∀ {hds : List ExceptHandler} {l : List DHd}, DHds X hds l → HdsG X hds (l.map (DHd.lift X.K))
  | _, _, .nil => .nil
  | _, _, .cons hc hn hsu r => .cons (h := DHd.lift X.K _) hc hn hsu r.lift
theorem s_try {X : Cx} {W : WX} {body : List Stmt} {h0 : ExceptHandler} {hds : List ExceptHandler} {l : List DHd} {pos : Pos} {tb : DTS} (g : Good X W) (hb : ∀ (V : WX) (pn : List (Addr × Obj)) (xe : Value → Shared → Prop), Good (X.tr pn xe) V → DSs (X.tr pn xe) V body tb) (hh : DHds X (h0 :: hds) l)
    (hs : X.stack = X.env :: X.outer := by rfl) (hf : X.env.frame = some X.env.locals := by rfl) : DSt X W (.Try body (h0 :: hds) [] [] pos) (dTry (PySem.W.exmAny X.K) l tb) :=
  ps_imp (ps_tryG (tb := fun V => lS X.K V tb) hs hf g.tk (fun V pn xe tk own => hb V pn xe ⟨g.calm, tk, own, g.ng⟩) hh.lift) fun Dn σ H h => by
    obtain ⟨I, M, F, δ, Dd, hr, rs, q, f⟩ := h
    exact ⟨I, M, F, δ, _, hr, rs, q, ⟨f.nx, f.rt, fun cls fo δ' M' I' H' σ' dd z s hr' rs' x => clauses_lift (f.mono s) hr' rs' x l z, f.bk, f.ct⟩⟩
/-! e.f in a suite -/
def dXF (a : Addr) (cls : Value) (d : Option Addr) (C : Addr) (f : Str) (te : DTE) : DTE := fun δ M Q E => te δ M (fun x M1 => x = .ref a ∧ cls = .ref C ∧ ∃ dd fs v, d = some dd ∧ M1 dd = some (.xd fs) ∧ fs.lookup f = some v ∧ Q v M1) E
theorem RepF.get {K : PySem.W.Frag} {I : Hp} {f : Str} {d : D} : ∀ {vs : List (Str × V)} {fs : List (Str × D)}, RepF K I vs fs → fs.lookup f = some d → ∃ v, vs.lookup f = some v ∧ Rep K I v d
  | _, _, .nil, h => nomatch h
  | _, _, .cons (k := k) r rr, h => by
    rw [List.lookup_cons] at h ⊢
    cases e : f == k with
    | true => rw [e] at h; cases h; exact ⟨_, rfl, r⟩
    | false => rw [e] at h; exact RepF.get rr h
theorem d_xf {X : Cx} {W : WX} {a C : Addr} {oe : Obj} {cls : Value} {d : Option Addr} {pn : List (Addr × Obj)} {e : Expr} {te : DTE} {pos : Pos} {n : Str} (T : XfC X.K C) (hno : PySem.W.findIn X.K (.ref C) n = some none)
    (hz : Zc cls d oe) (hf : ∃ vs, oe.data = .fields vs) (he : DE (X.suite a ((a, oe) :: pn)) W e te) (hb : attributeBase e n X.env (eval e X.env) = eval e X.env := by rfl) : DE (X.suite a ((a, oe) :: pn)) W (.Attribute e n pos) (dXF a cls d C n te) :=
  pe_imp (pe_xf T hno hz hf he hb) fun σ H Q h => by
    obtain ⟨I, M, F, δ, Qd, Ed, hr, rs, q, fq, fx⟩ := h
    refine ⟨I, M, F, δ, _, Ed, hr, rs, q, fun x M1 I1 H1 v q1 s1 hr1 r1 => ?_, fx⟩
    obtain ⟨e1, e2, dd, fs, w, e3, e4, e5, q2⟩ := q1
    subst e1
    cases r1
    obtain ⟨_, o, e6, vs, rfl, rf⟩ := hr1.mu dd _ e4
    obtain ⟨u, e7, ru⟩ := rf.get e5
    exact ⟨rfl, e2, dd, vs, u, e3, e6, e7, fq _ M1 I1 H1 _ q2 s1 hr1 ru⟩
end DL

set_option Elab.async false
set_option linter.all false
set_option maxRecDepth 100000
set_option maxHeartbeats 2000000
namespace DL
open PySem PySem.Spec PyProof.Rows L2
/-! ## arguments of any form, ahead of a call -/
def ArgsOk (X : Cx) (W : WX) (pos : Pos) (es : List Expr) (kws : List Keyword) (ks : List Str) (ta tk : DTA) : Prop :=
  ∀ (pins : List (Addr × Obj)) (s : Shared) (σ : L2.St) (H : Hp) (f : Value) (first : List Value) (Q : Value → Shared → Prop) (R : List D → List D → Mp → Prop) (I : Hp) (M : Mp) (F : Hp) (δ : DS) (Ed : DXK), PySem.W.keepIn X.K f = true → L2.Inv X pins σ H s → HR X.K I M F H → RepS X.K I σ δ →
    ta δ M (fun ds M1 => tk δ M1 (fun es M2 => R ds es M2) Ed) Ed → FinX X.K I F Ed (WE W σ) →
    (∀ us ws vs zs ds es I2 M2 H2 s2, L2.Inv X pins σ H2 s2 → Vals vs us → Vals zs ws → Same I I2 → HR X.K I2 M2 F H2 → Reps X.K I2 vs ds → Reps X.K I2 zs es → R ds es M2 → wpAny (model X.prog X.w) X.A (call f (first ++ us) (ks.zip ws)) Q X.xe s2) →
    wpAny (model X.prog X.w) X.A (callWith pos f first (backTo pos (starEach es X.env)) (backToKw pos (keywordEach kws X.env))) Q X.xe s
section
variable {X : Cx} {W : WX} {e : Expr} {es : List Expr} {te : DTE} {ta tk : DTA} {pos p : Pos} {kws : List Keyword} {ks : List Str}
theorem args_0 : ArgsOk X W pos [] [] [] dNil dNil := fun pins s σ H f first Q R I M F δ Ed hk J hr rs q fx h =>
  PySem.W.callWith_K0 J.kIn hk (h [] [] [] [] [] [] I M H s J .nil .nil (Same.refl I) hr .nil .nil q)
theorem args_p (ha : DA X W (e :: es) ta) (he : starEach (e :: es) X.env = (false, eval e X.env) :: starEach es X.env := by rfl) (hpl : (backTo pos (starEach es X.env)).any (·.1) = false := by rfl) : ArgsOk X W pos (e :: es) [] [] ta dNil := fun pins s σ H f first Q R I M F δ Ed hk J hr rs q fx h => by
  refine PySem.W.callWith_K (h₀ := X.base) J.ok.mod.kin hk (thn (PA.run ha pos pins s σ H (fun vs H1 => ∃ I1 M1 ds, Same I I1 ∧ HR X.K I1 M1 F H1 ∧ Reps X.K I1 vs ds ∧ R ds [] M1) J ⟨I, M, F, δ, _, Ed, hr, rs, q, fun ds M1 I1 H1 vs q1 s1 hr1 r1 => ⟨I1, M1, ds, s1, hr1, r1, q1⟩, fx⟩) fun us s1 z => ?_) he hpl
  obtain ⟨vs, H1, J1, rv, I1, M1, ds, e1, hr1, rd, q1⟩ := z
  exact ⟨J1.kIn, h us [] vs [] ds [] I1 M1 H1 s1 J1 rv .nil e1 hr1 rd .nil q1⟩
theorem args_k (hkw : DKw X W kws tk) (hall : (backToKw pos (keywordEach kws X.env)).all (·.1.isSome) = true := by rfl) (hks : (backToKw pos (keywordEach kws X.env)).filterMap (·.1) = ks := by rfl)
    (hpl : ((backTo pos (starEach [] X.env)).any (·.1) || (backToKw pos (keywordEach kws X.env)).any (·.1.isNone)) = false := by rfl) : ArgsOk X W pos [] kws ks dNil tk := fun pins s σ H f first Q R I M F δ Ed hk J hr rs q fx h => by
  refine PySem.W.callWith_KW0 (h₀ := X.base) J.ok.mod.kin hk hall (thn (PK.run hkw pos pins s σ H (fun zs H2 => ∃ I2 M2 es, Same I I2 ∧ HR X.K I2 M2 F H2 ∧ Reps X.K I2 zs es ∧ R [] es M2) J ⟨I, M, F, δ, _, Ed, hr, rs, q, fun es M2 I2 H2 zs q2 s2 hr2 r2 => ⟨I2, M2, es, s2, hr2, r2, q2⟩, fx⟩) fun ws s2 z => ?_) hpl
  obtain ⟨zs, H2, J2, rz, I2, M2, es, e2, hr2, re, q2⟩ := z
  rw [hks]
  exact ⟨J2.kIn, h [] ws [] zs [] es I2 M2 H2 s2 J2 .nil rz e2 hr2 .nil re q2⟩
theorem args_pk (ha : DA X W (e :: es) ta) (hkw : DKw X W kws tk) (hall : (backToKw pos (keywordEach kws X.env)).all (·.1.isSome) = true := by rfl) (hks : (backToKw pos (keywordEach kws X.env)).filterMap (·.1) = ks := by rfl) (he : starEach (e :: es) X.env = (false, eval e X.env) :: starEach es X.env := by rfl)
    (hpl : ((backTo pos (starEach (e :: es) X.env)).any (·.1) || (backToKw pos (keywordEach kws X.env)).any (·.1.isNone)) = false := by rfl) : ArgsOk X W pos (e :: es) kws ks ta tk := fun pins s σ H f first Q R I M F δ Ed hk J hr rs q fx h => by
  refine PySem.W.callWith_KW (h₀ := X.base) J.ok.mod.kin hk hall (thn (PA.run ha pos pins s σ H (fun vs H1 => ∃ I1 M1 ds, Same I I1 ∧ HR X.K I1 M1 F H1 ∧ Reps X.K I1 vs ds ∧ tk δ M1 (fun es M2 => R ds es M2) Ed) J ⟨I, M, F, δ, _, Ed, hr, rs, q, fun ds M1 I1 H1 vs q1 s1 hr1 r1 => ⟨I1, M1, ds, s1, hr1, r1, q1⟩, fx⟩) fun us s1 z => ?_) hpl he
  obtain ⟨vs, H1, J1, rv, I1, M1, ds, e1, hr1, rd, q1⟩ := z
  refine thn (PK.run hkw pos pins s1 σ H1 (fun zs H2 => ∃ I2 M2 es, Same I1 I2 ∧ HR X.K I2 M2 F H2 ∧ Reps X.K I2 zs es ∧ R ds es M2) J1 ⟨I1, M1, F, δ, _, Ed, hr1, rs.mono e1, q1, fun es M2 I2 H2 zs q2 s2 hr2 r2 => ⟨I2, M2, es, s2, hr2, r2, q2⟩, fx.mono e1⟩) fun ws s2 z => ?_
  obtain ⟨zs, H2, J2, rz, I2, M2, es, e2, hr2, re, q2⟩ := z
  rw [hks]
  exact ⟨J2.kIn, h us ws vs zs ds es I2 M2 H2 s2 J2 rv rz (e1.trans e2) hr2 (rd.mono e2) re q2⟩
end
/-! ## a def at its address -/
structure FnA (P : Program) (w : World) (K : PySem.W.Frag) (mg : Str → Option Value) (base : Heap) (k : Nat) (f : Addr) (ps : List Str) (sp : DSp) (pats : List Pat) : Prop where
  ex : ∃ fd : FuncData, (∀ (i : Nat) (p : Pat), pats[i]? = some p → KBd K fd ps p.n p.ks p.g) ∧ FnG P w K mg base (L2.CX P w) k f fd ps (lSp K sp)
theorem dfunA {P : Program} {w : World} {K : PySem.W.Frag} {mg : Str → Option Value} {base : Heap} {x qual : Str} {st : Stmt} {f : Addr} {fd : FuncData} {N ps : List Str} {k : Nat} {sp : DSp} {dvs : List V} {kws : List (Str × V)} {pats : List Pat} (F : FunD K x qual (defArgs st) (defBody st) (defScope st) dvs kws f fd)
    (hb : ∀ (i : Nat) (p : Pat), pats[i]? = some p → KBd K fd ps p.n p.ks p.g) (S : FnScope N ps (defScope st)) (len : ∀ ds M Q E, sp ds M Q E → ds.length = ps.length)
    (body : ∀ (cdv : Value) (A : Around) (l : List Env) (s : Shared) (H : Hp) (E : XK), Good (cxOf (L2.CX P w) P w K mg base N qual (defScope st) f cdv A l s H E) (fun cls d _ H => E cls d H) → Room k (A.deeper (envOfC qual (defScope st) s.heap.objs.size f cdv)) →
      ∃ t, DSs (cxOf (L2.CX P w) P w K mg base N qual (defScope st) f cdv A l s H E) (fun cls d _ H => E cls d H) (defBody st) t ∧ ∀ ds M Qd Ed, sp ds M Qd Ed → t { nx := fun _ M' => Qd .non M', rt := Qd, ex := fun c fo _ M' => Ed c fo M' } (dstart N ds) M) :
    FnA P w K mg base (k + 1) f ps sp pats := by
  obtain ⟨oc, od, dV, kV, doc, pm, an, cdv, ct, osl, rfl, lk, hcd, _, _⟩ := F.ex
  refine ⟨_, hb, fng_of lk hcd S (fun vs H Q E h => ?_) fun A l s H vs Q E ng rm h => ?_⟩
  · obtain ⟨I, M, Fr, ds, Qd, Ed, hr, rs, q, _, _⟩ := h
    exact rs.len.trans (len _ _ _ _ q)
  · obtain ⟨t, ht, hq⟩ := body cdv A l s H E (good_of ng) rm
    obtain ⟨I, M, Fr, ds, Qd, Ed, hr, rs, q, fq, fx⟩ := h
    exact ⟨_, ht, I, M, Fr, _, _, hr, reps_start rs, hq ds M Qd Ed q, ⟨fun δ' M' I' H' σ' q' s' hr' rs' => fq _ M' I' H' _ q' s' hr' .non, fq, fun c fo δ' M' I' H' σ' dd q' s' hr' rs' xd => fx c fo M' I' H' dd q' s' hr' xd, fun _ _ _ _ _ z => z.elim, fun _ _ _ _ _ z => z.elim⟩⟩
/-- all parameters by their places -/
theorem kb_plain {K : PySem.W.Frag} {fd : FuncData} {ps : List Str} {n : Nat} (hn : ps.length = n) (h : ∀ us : List Value, us.length = ps.length → bindArgs fd ⟨us, []⟩ = pure (ps.zip us)) : KBd K fd ps n [] (fun ds _ => ds) := fun s I us ws vs zs ds es hK l1 l2 rv rz rd re => by
  have e : ws = [] := len_nil l2
  subst e
  exact ⟨us, vs, .of_eq (h us (l1.trans hn.symm)), rv, rd⟩
structure FnN (P : Program) (w : World) (K : PySem.W.Frag) (mg : Str → Option Value) (base : Heap) (k : Nat) (x : Str) (ps : List Str) (sp : DSp) (pats : List Pat) : Prop where
  ex : ∃ f : Addr, mg x = some (.ref f) ∧ PySem.W.keepIn K (.ref f) = true ∧ FnA P w K mg base k f ps sp pats
section
variable {X : Cx} {W : WX} {es : List Expr} {kws : List Keyword} {ks ps : List Str} {ta tk : DTA} {pos p apos : Pos} {x m : Str} {k n j : Nat} {sp : DSp} {pats : List Pat} {gg : List D → List D → List D} {C : Addr} {o : Expr} {to : DTE}
theorem run_a {pins : List (Addr × Obj)} {σ : L2.St} {H : Hp} {s : Shared} {Q : VK} {us ws : List Value} {vs zs : List V} {ds es : List D} {I F : Hp} {M : Mp} {Qd : DK} {Ed : DXK} {f : Addr} (i : Nat) (g : Good X W) (rm : Room k X.A) (Fa : FnA X.prog X.w X.K X.mg X.base k f ps sp pats) (hi : pats[i]? = some ⟨n, ks, gg⟩)
    (J : L2.Inv X pins σ H s) (rv : Vals vs us) (rz : Vals zs ws) (hr : HR X.K I M F H) (rd : Reps X.K I vs ds) (re : Reps X.K I zs es) (h1 : ds.length = n) (h2 : es.length = ks.length) (q : sp (gg ds es) M Qd Ed) (fq : Fin X.K I F Qd Q) (fx : FinX X.K I F Ed (WE W σ)) :
    wpAny (model X.prog X.w) X.A (call (.ref f) us (ks.zip ws)) (EP X pins σ Q) X.xe s := by
  obtain ⟨fd, kb, G⟩ := Fa.ex
  exact run_k (pats := pats) (pt := ⟨n, ks, gg⟩) g rm (kb i _ hi) G J rv rz hr rd re h1 h2 q fq fx
theorem d_fn (i : Nat) (Fx : FnN X.prog X.w X.K X.mg X.base k x ps sp pats) (g : Good X W) (rm : Room k X.A) (ha : ArgsOk X W pos es kws ks ta tk) (hi : pats[i]? = some ⟨n, ks, gg⟩ := by rfl) (hj : ks.length = j := by rfl) (hg : Gl X x := by rfl) (hdb : (x == ("__debug__" : Str)) = false := by decide) :
    DE X W (.Call (.Name x p) es kws pos) (dCallK n j sp gg ta tk) := by
  subst hj
  obtain ⟨f, hm, hk, Fa⟩ := Fx.ex
  refine ⟨fun pins s σ H Q J h => wpAny_Call_Name_kw (ld_glob J hg hm ?_ hdb)⟩
  obtain ⟨I, M, F, δ, Qd, Ed, hr, rs, q, fq, fx⟩ := h
  exact ha pins s σ H _ [] _ _ I M F δ Ed hk J hr rs q fx fun us ws vs zs ds es I2 M2 H2 s2 J2 rv rz e2 hr2 rd re q2 => run_a i g rm Fa hi J2 rv rz hr2 rd re q2.1 q2.2.1 q2.2.2 (fq.mono e2) (fx.mono e2)
/-! ## o.m(..) -/
structure MtOk (P : Program) (w : World) (K : PySem.W.Frag) (mg : Str → Option Value) (base : Heap) (k : Nat) (C : Addr) (m : Str) (ps : List Str) (sp : DSp) (pats : List Pat) : Prop where
  cls : Cls K C
  ex : ∃ f, Meth K C m f ∧ FnA P w K mg base k f ps sp pats
/-- the class and the fields of an instance, frozen or not -/
def insD (d : D) (M : Mp) (k : Addr → List (Str × D) → Prop) : Prop := match d with
  | .ins C fs => k C fs
  | .ref a => ∃ C fs, M a = some (.ins C fs) ∧ k C fs
  | _ => False
theorem insD_out {K : PySem.W.Frag} {I : Hp} {M : Mp} {F H : Hp} (hr : HR K I M F H) {v : V} {d : D} {k : Addr → List (Str × D) → Prop} (r : Rep K I v d) (h : insD d M k) : ∃ a C dx vs fs, v = .ref a ∧ H a = some (.ins C dx vs) ∧ RepF K I vs fs ∧ k C fs := by
  cases r with
  | ins s rr => exact ⟨_, _, _, _, _, rfl, hr.imm _ _ s, rr, h⟩
  | ref a =>
    obtain ⟨C, fs, e, h⟩ := h
    obtain ⟨dx, vs, e1, rr⟩ := hr.ins e
    exact ⟨a, C, dx, vs, fs, rfl, e1, rr, h⟩
  | _ => exact h.elim
theorem RepF.no {K : PySem.W.Frag} {I : Hp} {f : Str} : ∀ {vs : List (Str × V)} {fs : List (Str × D)}, RepF K I vs fs → fs.lookup f = none → vs.lookup f = none
  | _, _, .nil, _ => rfl
  | _, _, .cons (k := k) r rr, h => by
    rw [List.lookup_cons] at h ⊢
    cases e : f == k with
    | true => rw [e] at h; cases h
    | false => rw [e] at h; exact RepF.no rr h
abbrev Ent := Addr × DSp × (List D → List D → List D)
/-- the method by the class -/
def dTab : List Ent → Addr → (DSp → (List D → List D → List D) → Prop) → Prop
  | [], _, _ => False
  | [(c, sp, gg)], C, k => C = c ∧ k sp gg
  | (c, sp, gg) :: r, C, k => (C = c ∧ k sp gg) ∨ dTab r C k
inductive Tab (X : Cx) (m : Str) (n : Nat) (ks : List Str) : List Ent → Prop
  | nil : Tab X m n ks []
  | cons {k : Nat} {C : Addr} {ps : List Str} {sp : DSp} {pats : List Pat} {gg : List D → List D → List D} {r : List Ent} (i : Nat) (h : MtOk X.prog X.w X.K X.mg X.base k C m ps sp pats) (rm : Room k X.A) (hi : pats[i]? = some ⟨n, ks, gg⟩) (hr : Tab X m n ks r) : Tab X m n ks ((C, sp, gg) :: r)
theorem Tab.get {ks : List Str} : ∀ {tab : List Ent}, Tab X m n ks tab → ∀ {C : Addr} {Φ : DSp → (List D → List D → List D) → Prop}, dTab tab C Φ → ∃ (k : Nat) (ps : List Str) (sp : DSp) (pats : List Pat) (i : Nat) (gg : List D → List D → List D), MtOk X.prog X.w X.K X.mg X.base k C m ps sp pats ∧ Room k X.A ∧ pats[i]? = some ⟨n, ks, gg⟩ ∧ Φ sp gg
  | _, .nil, _, _, h => h.elim
  | _, .cons i h rm hi .nil, _, _, ⟨e, q⟩ => ⟨_, _, _, _, i, _, e ▸ h, rm, hi, q⟩
  | _, .cons i h rm hi (.cons i2 h2 rm2 hi2 r), _, _, q => by
    rcases q with ⟨e, q⟩ | q
    · exact ⟨_, _, _, _, i, _, e ▸ h, rm, hi, q⟩
    · exact Tab.get (.cons i2 h2 rm2 hi2 r) q
def dMeth (m : Str) (n j : Nat) (tab : List Ent) (to : DTE) (ta tk : DTA) : DTE := fun δ M Q E => to δ M (fun d M1 => insD d M1 fun C fs => fs.lookup m = none ∧ dTab tab C fun sp gg => ta δ M1 (fun ds M2 => tk δ M2 (fun es M3 => ds.length + 1 = n ∧ es.length = j ∧ sp (gg (d :: ds) es) M3 Q E) E) E) E
theorem d_meth {tab : List Ent} {pl : Sem Bool} (ho : DE X W o to) (ht : Tab X m n ks tab) (g : Good X W) (ha : ArgsOk X W pos es kws ks ta tk) (hj : ks.length = j := by rfl)
    (hc : eval (.Call (.Attribute o m apos) es kws pos) X.env = (do
      let ov ← eval o X.env
      standAt apos.atName
      let (f, first) ← holding [ov] (getMethod ov m pl)
      callWith pos f first (backTo pos (starEach es X.env)) (backToKw pos (keywordEach kws X.env))) := by rfl) : DE X W (.Call (.Attribute o m apos) es kws pos) (dMeth m n j tab to ta tk) := by
  subst hj
  refine ⟨fun pins s σ H Q J h => ?_⟩
  obtain ⟨I, M, F, δ, Qd, Ed, hr, rs, q, fq, fx⟩ := h
  refine PySem.W.methodCall_KW (pl := pl) (thn (PE.run ho pins s σ H (fun v H1 => ∃ I1 M1 d, Same I I1 ∧ HR X.K I1 M1 F H1 ∧ Rep X.K I1 v d ∧ insD d M1 fun C fs => fs.lookup m = none ∧ dTab tab C fun sp gg => ta δ M1 (fun ds M2 => tk δ M2 (fun es M3 => ds.length + 1 = n ∧ es.length = ks.length ∧ sp (gg (d :: ds) es) M3 Qd Ed) Ed) Ed) J
    ⟨I, M, F, δ, _, Ed, hr, rs, q, fun d M1 I1 H1 v q1 s1 hr1 r1 => ⟨I1, M1, d, s1, hr1, r1, q1⟩, fx⟩) fun u s1 z => ?_) hc
  obtain ⟨v, H1, J1, rv, I1, M1, d, e1, hr1, r1, q1⟩ := z
  obtain ⟨a, C, dx, vs0, fs, rfl, hH, rf, hno, q1⟩ := insD_out hr1 r1 q1
  obtain rfl : u = Value.ref a := rv
  obtain ⟨k, ps, sp, pats, i, gg, mt, rm, hi, q1⟩ := ht.get q1
  obtain ⟨f, me, Fa⟩ := mt.ex
  refine getmeth_ok J1 hH mt.cls me (rf.no hno) ?_
  refine ha pins s1 σ H1 (.ref f) [.ref a] _ _ I1 M1 F δ Ed me.kp J1 hr1 (rs.mono e1) q1 (fx.mono e1) fun us ws vs zs ds es' I2 M2 H2 s2 J2 rv rz e2 hr2 rd re q2 => ?_
  exact run_a i g rm Fa hi (us := .ref a :: us) (vs := .ref a :: vs) J2 (.cons rfl rv) rz hr2 (.cons (r1.mono e2) rd) re (by rw [List.length_cons]; exact q2.1) q2.2.1 q2.2.2 (fq.mono (e1.trans e2)) (fx.mono (e1.trans e2))
/-! ## C(..) -/
structure MkOk (P : Program) (w : World) (K : PySem.W.Frag) (mg : Str → Option Value) (base : Heap) (k : Nat) (x : Str) (C : Addr) (ps : List Str) (sp : DSp) (pats : List Pat) : Prop where
  mgC : mg x = some (.ref C)
  ex : ∃ f, Mk K C f ∧ FnA P w K mg base k f ps sp pats
def delM (M : Mp) (a : Addr) : Mp := fun b => if b = a then none else M b
theorem delM_same {M : Mp} {a : Addr} : delM M a a = none := if_pos rfl
theorem delM_ne {M : Mp} {a b : Addr} (h : b ≠ a) : delM M a b = M b := if_neg h
/-- an instance that is never written any more -/
theorem HR.freeze {K : PySem.W.Frag} {I : Hp} {M : Mp} {F H : Hp} (h : HR K I M F H) {a C : Addr} {fs : List (Str × D)} (e : M a = some (.ins C fs)) : ∃ I', Same I I' ∧ HR K I' (delM M a) F H ∧ Rep K I' (.ref a) (.ins C fs) := by
  obtain ⟨h1, o, h2, dx, vs, rfl, rf⟩ := h.mu a _ e
  have sm : Same I (upd I a (.ins C dx vs)) := same_new h1
  refine ⟨upd I a (.ins C dx vs), sm, ⟨fun b u q => ?_, fun b m q => ?_, fun b u q => ?_, h.ft⟩, .ins upd_same (rf.mono sm)⟩
  · by_cases z : b = a
    · subst z; rw [upd_same] at q; cases q; exact h2
    · rw [upd_ne z] at q; exact h.imm b u q
  · have z : b ≠ a := fun z => by rw [z, delM_same] at q; cases q
    rw [delM_ne z] at q
    obtain ⟨x, y, w, r⟩ := h.mu b m q
    exact ⟨by rw [upd_ne z]; exact x, y, w, r.mono sm fun _ _ e => e⟩
  · obtain ⟨x, y, z⟩ := h.frm b u q
    have ne : b ≠ a := fun w => by rw [w, e] at z; cases z
    exact ⟨x, by rw [upd_ne ne]; exact y, by rw [delM_ne ne]; exact z⟩
def dMake (C : Addr) (n j : Nat) (sp : DSp) (gg : List D → List D → List D) (ta tk : DTA) : DTE := fun δ M Q E => ta δ M (fun ds M1 => tk δ M1 (fun es M2 => ds.length + 1 = n ∧ es.length = j ∧ ∀ x, M2 x = none → sp (gg (.ref x :: ds) es) (updM M2 x (.ins C [])) (fun v M3 => v = .non ∧ Q (.ref x) M3) E) E) E
def dMakeF (C : Addr) (n j : Nat) (sp : DSp) (gg : List D → List D → List D) (ta tk : DTA) : DTE := fun δ M Q E => ta δ M (fun ds M1 => tk δ M1 (fun es M2 => ds.length + 1 = n ∧ es.length = j ∧ ∀ x, M2 x = none → sp (gg (.ref x :: ds) es) (updM M2 x (.ins C [])) (fun v M3 => v = .non ∧ ∃ fs, M3 x = some (.ins C fs) ∧ Q (.ins C fs) (delM M3 x)) E) E) E
theorem run_mk {pins : List (Addr × Obj)} {σ : L2.St} {H : Hp} {s : Shared} {Q : VK} {us ws : List Value} {vs zs : List V} {ds es : List D} {I F : Hp} {M : Mp} {Ed : DXK} {R : Addr → Mp → Prop} {f : Addr} (i : Nat) (g : Good X W) (rm : Room (k + 1) X.A) (mk : Mk X.K C f) (Fa : FnA X.prog X.w X.K X.mg X.base k f ps sp pats) (hi : pats[i]? = some ⟨n, ks, gg⟩)
    (J : L2.Inv X pins σ H s) (rv : Vals vs us) (rz : Vals zs ws) (hr : HR X.K I M F H) (rd : Reps X.K I vs ds) (re : Reps X.K I zs es) (h1 : ds.length + 1 = n) (h2 : es.length = ks.length) (q : ∀ x, M x = none → sp (gg (.ref x :: ds) es) (updM M x (.ins C [])) (fun v M3 => v = .non ∧ R x M3) Ed)
    (fq : ∀ x M' I' H', R x M' → Same I I' → HR X.K I' M' F H' → Q (.ref x) H') (fx : FinX X.K I F Ed (WE W σ)) : wpAny (model X.prog X.w) X.A (call (.ref C) us (ks.zip ws)) (EP X pins σ Q) X.xe s := by
  obtain ⟨fd, kb, G⟩ := Fa.ex
  generalize hx : s.heap.objs.size + 1 = x at *
  have hfx : H x = none := J.hok.fresh (by omega)
  have hfd : H s.heap.objs.size = none := J.hok.fresh (Nat.le_refl _)
  have ne : s.heap.objs.size ≠ x := by omega
  have J2 := L2.Inv.made (C := C) J
  rw [hx] at J2
  have hr1 := hr.bump hfd (.own x)
  have hfx1 : upd H s.heap.objs.size (HO.own x) x = none := by rw [upd_ne (Ne.symm ne)]; exact hfx
  have hr2 : HR X.K I (updM M x (.ins C [])) F (upd (upd H s.heap.objs.size (.own x)) x (.ins C s.heap.objs.size [])) := hr1.newM hfx1 (o := .ins C s.heap.objs.size []) (m := .ins C []) ⟨_, [], rfl, .nil⟩
  obtain ⟨bs, xs, bt, rb, rr⟩ := kb i _ hi { s with heap := (s.heap.push PySem.W.emptyDict).push (PySem.W.instObj C s.heap.objs.size) } I (.ref x :: us) ws (.ref x :: vs) zs (.ref x :: ds) es J2.kIn (by rw [List.length_cons, ← rv.length, rd.len]; exact h1) (by rw [← rz.length, re.len]; exact h2) (.cons rfl rv) rz (.cons (.ref x) rd) re
  have pr : lSp X.K sp xs (upd (upd H s.heap.objs.size (.own x)) x (.ins C s.heap.objs.size [])) (fun v H2 => v = .non ∧ Q (.ref x) H2) (WE W σ) :=
    ⟨I, _, F, _, _, Ed, hr2, rr, q x (hr.fresh hfx).2.1, fun d M' I' H' v z s' hr' r' => by
      obtain ⟨e, z⟩ := z
      subst e
      cases r'
      exact ⟨rfl, fq x M' I' H' z s' hr'⟩, fx⟩
  refine wpAny_call (make_map (f := f) J.kIn mk.makes mk.init (beq_iff_eq.mp mk.fn) ?_)
  rw [hx]
  refine codeAny_mono (G.run _ X.stack _ _ ⟨.ref x :: us, ks.zip ws⟩ bs xs _ (WE W σ) (nogd_make g.ng C us (ks.zip ws)) (rm.make C us (ks.zip ws)) (J2.env0.make C us (ks.zip ws)) bt rb pr) fun r s' z => ?_
  cases r with
  | error er => exact passAt g.tk σ pins _ _ er s' J2 z
  | ok fl => cases fl with
    | ret u =>
      obtain ⟨v, H', J3, rv', ev, q3⟩ := J2.after z
      subst ev
      exact ⟨rv', ⟨V.ref x, H', J3, rfl, q3⟩⟩
    | next => cases z
    | brk => cases z
    | cont => cases z
theorem d_make (i : Nat) (mk : MkOk X.prog X.w X.K X.mg X.base k x C ps sp pats) (g : Good X W) (rm : Room (k + 1) X.A) (ha : ArgsOk X W pos es kws ks ta tk) (hi : pats[i]? = some ⟨n, ks, gg⟩ := by rfl) (hj : ks.length = j := by rfl) (hg : Gl X x := by rfl) (hdb : (x == ("__debug__" : Str)) = false := by decide) :
    DE X W (.Call (.Name x p) es kws pos) (dMake C n j sp gg ta tk) := by
  subst hj
  obtain ⟨f, m1, Fa⟩ := mk.ex
  refine ⟨fun pins s σ H Q J h => wpAny_Call_Name_kw (ld_glob J hg mk.mgC ?_ hdb)⟩
  obtain ⟨I, M, F, δ, Qd, Ed, hr, rs, q, fq, fx⟩ := h
  exact ha pins s σ H _ [] _ _ I M F δ Ed m1.kp J hr rs q fx fun us ws vs zs ds es I2 M2 H2 s2 J2 rv rz e2 hr2 rd re q2 => run_mk (R := fun x M => Qd (.ref x) M) i g rm m1 Fa hi J2 rv rz hr2 rd re q2.1 q2.2.1 q2.2.2 (fun x M' I' H' z s' hr' => fq _ M' I' H' _ z (e2.trans s') hr' (.ref x)) (fx.mono e2)
theorem d_makeF (i : Nat) (mk : MkOk X.prog X.w X.K X.mg X.base k x C ps sp pats) (g : Good X W) (rm : Room (k + 1) X.A) (ha : ArgsOk X W pos es kws ks ta tk) (hi : pats[i]? = some ⟨n, ks, gg⟩ := by rfl) (hj : ks.length = j := by rfl) (hg : Gl X x := by rfl) (hdb : (x == ("__debug__" : Str)) = false := by decide) :
    DE X W (.Call (.Name x p) es kws pos) (dMakeF C n j sp gg ta tk) := by
  subst hj
  obtain ⟨f, m1, Fa⟩ := mk.ex
  refine ⟨fun pins s σ H Q J h => wpAny_Call_Name_kw (ld_glob J hg mk.mgC ?_ hdb)⟩
  obtain ⟨I, M, F, δ, Qd, Ed, hr, rs, q, fq, fx⟩ := h
  refine ha pins s σ H _ [] _ _ I M F δ Ed m1.kp J hr rs q fx fun us ws vs zs ds es I2 M2 H2 s2 J2 rv rz e2 hr2 rd re q2 => run_mk (R := fun x M => ∃ fs, M x = some (.ins C fs) ∧ Qd (.ins C fs) (delM M x)) i g rm m1 Fa hi J2 rv rz hr2 rd re q2.1 q2.2.1 q2.2.2 (fun x M' I' H' z s' hr' => ?_) (fx.mono e2)
  obtain ⟨fs, e, z⟩ := z
  obtain ⟨I3, s3, hr3, r3⟩ := hr'.freeze e
  exact fq _ _ I3 H' _ z ((e2.trans s').trans s3) hr3 r3
/-! ## o.f, o.f = e -/
def dFld (Cs : List Addr) (f : Str) (to : DTE) : DTE := fun δ M Q E => to δ M (fun d M1 => insD d M1 fun C fs => C ∈ Cs ∧ ∃ v, fs.lookup f = some v ∧ Q v M1) E
theorem d_fld {Cs : List Addr} {f : Str} (hC : ∀ C ∈ Cs, Cls X.K C ∧ NoAttr X.K C f) (ho : DE X W o to) (hb : attributeBase o f X.env (eval o X.env) = eval o X.env := by rfl) : DE X W (.Attribute o f pos) (dFld Cs f to) := pe_imp (pe_fld ho hb) fun σ H Q h => by
  obtain ⟨I, M, F, δ, Qd, Ed, hr, rs, q, fq, fx⟩ := h
  refine ⟨I, M, F, δ, _, Ed, hr, rs, q, fun d M1 I1 H1 v q1 s1 hr1 r1 => ?_, fx⟩
  obtain ⟨a, C, dx, vs, fs, e, hH, rf, hm, w, hw, q2⟩ := insD_out hr1 r1 q1
  obtain ⟨u, hu, ru⟩ := rf.get hw
  obtain ⟨c1, c2⟩ := hC C hm
  exact ⟨a, C, dx, vs, u, e, hH, c1, c2, hu, fq _ M1 I1 H1 _ q2 s1 hr1 ru⟩
def putFD (f : Str) (d : D) : List (Str × D) → List (Str × D)
  | [] => [(f, d)]
  | (g, x) :: r => if g = f then (g, d) :: r else (g, x) :: putFD f d r
theorem RepF.put {K : PySem.W.Frag} {I : Hp} {f : Str} {v : V} {d : D} (r : Rep K I v d) : ∀ {vs : List (Str × V)} {fs : List (Str × D)}, RepF K I vs fs → RepF K I (putF f v vs) (putFD f d fs)
  | _, _, .nil => .cons r .nil
  | _, _, .cons (k := g) a b => by
    unfold putF putFD
    by_cases e : g = f
    · rw [if_pos e, if_pos e]; exact .cons r b
    · rw [if_neg e, if_neg e]; exact .cons a (RepF.put r b)
theorem RepF.len {K : PySem.W.Frag} {I : Hp} : ∀ {vs : List (Str × V)} {fs : List (Str × D)}, RepF K I vs fs → vs.length = fs.length
  | _, _, .nil => rfl
  | _, _, .cons _ r => congrArg (· + 1) r.len
def dSetF (Cs : List Addr) (f : Str) (to te : DTE) : DTS := fun Dd δ M => te δ M (fun y M1 => to δ M1 (fun d M2 => match d with
  | .ref a => ∃ C fs, M2 a = some (.ins C fs) ∧ C ∈ Cs ∧ fs.length < 1000 ∧ Dd.nx δ (updM M2 a (.ins C (putFD f y fs)))
  | _ => False) (fun c fo M' => Dd.ex c fo δ M')) (fun c fo M' => Dd.ex c fo δ M')
theorem s_fld {Cs : List Addr} {f : Str} {v : Expr} {tv : DTE} {pos' : Pos} (hC : ∀ C ∈ Cs, Cls X.K C ∧ NoAttr X.K C f) (ho : DE X W o to) (hv : DE X W v tv) (hs : swapsWith v (some (.Attribute o f pos')) pos.line X.env = pure false := by rfl) : DSt X W (.Assign [.Attribute o f pos'] v pos) (dSetF Cs f to tv) := ps_imp (ps_fld ho hv hs) fun Dn σ H h => by
  obtain ⟨I, M, F, δ, Dd, hr, rs, q, fs⟩ := h
  refine ⟨I, M, F, δ, _, _, hr, rs, q, fun y M1 I1 H1 vy q1 s1 hr1 r1 => ?_, fs.x rs⟩
  refine ⟨I1, M1, F, δ, _, _, hr1, rs.mono s1, q1, fun d M2 I2 H2 vd q2 s2 hr2 r2 => ?_, (fs.x rs).mono s1⟩
  cases r2 with
  | ref a =>
    obtain ⟨C, ff, e, hm, hl, q3⟩ := q2
    obtain ⟨dx, vs, e1, rf⟩ := hr2.ins e
    obtain ⟨c1, c2⟩ := hC C hm
    exact ⟨a, C, dx, vs, rfl, e1, c1, c2, by rw [rf.len]; exact hl, fs.nx δ _ I2 _ σ q3 (s1.trans s2) (hr2.write e (fun _ _ z => nomatch z) (o := .ins C dx (putF f vy vs)) ⟨dx, _, rfl, rf.put (r1.mono s2)⟩) (rs.mono (s1.trans s2))⟩
  | _ => exact q2.elim
end
end DL

set_option Elab.async false
set_option linter.all false
set_option maxRecDepth 100000
set_option maxHeartbeats 2000000
namespace DL
open PySem PySem.Spec PyProof.Rows L2
/-! ## what is shown of a thing: a tree of texts -/
inductive Sh where
  | leaf (t : Str) | lst (xs : List Sh) | tup (xs : List Sh) | dct (ks vs : List Sh)
mutual
def Sh.text : Sh → Str
  | .leaf t => t
  | .lst xs => listText (Sh.texts xs)
  | .tup xs => tupleText (Sh.texts xs)
  | .dct ks vs => dictText (List.zipWith (fun k v : Str => k ++ ": " ++ v) (Sh.texts ks) (Sh.texts vs))
def Sh.texts : List Sh → List Str
  | [] => []
  | x :: r => x.text :: Sh.texts r
end
mutual
def Sh.dep : Sh → Nat
  | .leaf _ => 0
  | .lst xs => Sh.deps xs + 1
  | .tup xs => Sh.deps xs + 1
  | .dct ks vs => max (Sh.deps ks) (Sh.deps vs) + 1
def Sh.deps : List Sh → Nat
  | [] => 0
  | x :: r => max x.dep (Sh.deps r)
end
mutual
def Sh.w : Sh → Nat
  | .leaf t => t.length
  | .lst xs => Sh.ws xs + 3
  | .tup xs => Sh.ws xs + 3
  | .dct ks vs => Sh.ws ks + Sh.ws vs + 3
def Sh.ws : List Sh → Nat
  | [] => 0
  | x :: r => x.w + 2 + Sh.ws r
end
theorem zip_len : ∀ (a b : List Str), ((List.zipWith (fun k v : Str => k ++ ": " ++ v) a b).map (·.length)).sum + 2 * (List.zipWith (fun k v : Str => k ++ ": " ++ v) a b).length ≤ (a.map (·.length)).sum + 2 * a.length + ((b.map (·.length)).sum + 2 * b.length)
  | [], b => by simp
  | a :: r, [] => by simp
  | a :: r, b :: s => by
    have ih := zip_len r s
    simp only [List.zipWith_cons_cons, List.map_cons, List.sum_cons, List.length_cons]
    have e : (a ++ Str.ofString ": " ++ b).length = a.length + 2 + b.length := by rw [Str.length_append, Str.length_append]; rfl
    omega
mutual
theorem Sh.text_le : ∀ s : Sh, s.text.length ≤ s.w
  | .leaf t => by unfold Sh.text Sh.w; exact Nat.le_refl _
  | .lst xs => by
    have a := listText_len_le (Sh.texts xs)
    have b := Sh.texts_le xs
    unfold Sh.text Sh.w
    omega
  | .tup xs => by
    have a := tupleText_len_le (Sh.texts xs)
    have b := Sh.texts_le xs
    unfold Sh.text Sh.w
    omega
  | .dct ks vs => by
    have a := dictText_len_le (List.zipWith (fun k v : Str => k ++ ": " ++ v) (Sh.texts ks) (Sh.texts vs))
    have b := Sh.texts_le ks
    have c := Sh.texts_le vs
    have d := zip_len (Sh.texts ks) (Sh.texts vs)
    unfold Sh.text Sh.w
    omega
theorem Sh.texts_le : ∀ xs : List Sh, ((Sh.texts xs).map (·.length)).sum + 2 * (Sh.texts xs).length ≤ Sh.ws xs
  | [] => by simp [Sh.texts, Sh.ws]
  | x :: r => by
    have a := Sh.text_le x
    have b := Sh.texts_le r
    simp only [Sh.texts, Sh.ws, List.map_cons, List.sum_cons, List.length_cons]
    omega
end
/-! in a heap -/
def RepB (P : Program) (w : World) (h : Heap) (v : Value) (t : Str) : Prop := ∀ (A : Around) (E : Value → Shared → Prop) (s : Shared) (Q : Value → Shared → Prop), A.guards = some [] → A.units + 2 < cLine → (∀ b o, h.get? b = some o → s.heap.get? b = some o) →
  (∀ h' u tk, (∀ b o, s.heap.get? b = some o → h'.get? b = some o) → Q (.str t u) { s with heap := h', toks := tk }) → wpAny (model P w) A (call (.builtin "repr") [v]) Q E s
mutual
inductive Rsh (P : Program) (w : World) (h : Heap) : Value → Sh → Prop
  | leaf {v : Value} {t : Str} : (∀ b, v ≠ .ref b) → ReprIs P w v t → RepB P w h v t → Rsh P w h v (.leaf t)
  | opq {a : Addr} {o : Obj} {t : Str} : h.get? a = some o → (∀ vs n, o.data ≠ .seq vs n) → (∀ es n, o.data ≠ .dict es n) → ReprK P w [] h 0 (.ref a) t → RepB P w h (.ref a) t → Rsh P w h (.ref a) (.leaf t)
  | lst {a : Addr} {o : Obj} {vs : Array Value} {n : Nat} {xs : List Sh} : h.get? a = some o → o.cls = .type "list" → o.data = .seq vs n → Rshs P w h vs.toList xs → Rsh P w h (.ref a) (.lst xs)
  | tup {a : Addr} {o : Obj} {vs : Array Value} {n : Nat} {xs : List Sh} : h.get? a = some o → o.cls = .type "tuple" → o.data = .seq vs n → Rshs P w h vs.toList xs → Rsh P w h (.ref a) (.tup xs)
  | dct {a : Addr} {o : Obj} {es : Array DictEntry} {n : Nat} {ks vs : List Sh} : h.get? a = some o → o.cls = .type "dict" → o.data = .dict es n → (a == sysModules) = false → Rshs P w h (es.toList.map (·.key)) ks → Rshs P w h (es.toList.map (·.val)) vs → Rsh P w h (.ref a) (.dct ks vs)
inductive Rshs (P : Program) (w : World) (h : Heap) : List Value → List Sh → Prop
  | nil : Rshs P w h [] []
  | cons {v : Value} {s : Sh} {vs : List Value} {ss : List Sh} : Rsh P w h v s → Rshs P w h vs ss → Rshs P w h (v :: vs) (s :: ss)
end
section
variable {P : Program} {w : World} {h : Heap}
mutual
theorem Rsh.same : ∀ {v : Value} {s s' : Sh}, Rsh P w h v s → Rsh P w h v s' → s.dep = s'.dep
  | _, _, _, .leaf n _ _, r => by
    cases r with
    | leaf _ _ _ => rfl
    | _ => exact absurd rfl (n _)
  | _, _, _, .opq e n1 n2 _ _, r => by
    cases r with
    | leaf n _ _ => exact absurd rfl (n _)
    | opq _ _ _ _ _ => rfl
    | lst e' _ d _ => rw [e] at e'; cases e'; exact absurd d (n1 _ _)
    | tup e' _ d _ => rw [e] at e'; cases e'; exact absurd d (n1 _ _)
    | dct e' _ d _ _ _ => rw [e] at e'; cases e'; exact absurd d (n2 _ _)
  | _, _, _, .lst e c d rs, r => by
    cases r with
    | leaf n _ _ => exact absurd rfl (n _)
    | opq e' n1 _ _ _ => rw [e] at e'; cases e'; exact absurd d (n1 _ _)
    | lst e' _ d' rs' =>
      rw [e] at e'; cases e'
      rw [d] at d'; cases d'
      simp only [Sh.dep, Rshs.same rs rs']
    | tup e' c' _ _ => rw [e] at e'; cases e'; rw [c] at c'; exact absurd (Value.type.inj c') (by decide)
    | dct e' _ d' _ _ _ => rw [e] at e'; cases e'; rw [d] at d'; cases d'
  | _, _, _, .tup e c d rs, r => by
    cases r with
    | leaf n _ _ => exact absurd rfl (n _)
    | opq e' n1 _ _ _ => rw [e] at e'; cases e'; exact absurd d (n1 _ _)
    | tup e' _ d' rs' =>
      rw [e] at e'; cases e'
      rw [d] at d'; cases d'
      simp only [Sh.dep, Rshs.same rs rs']
    | lst e' c' _ _ => rw [e] at e'; cases e'; rw [c] at c'; exact absurd (Value.type.inj c') (by decide)
    | dct e' _ d' _ _ _ => rw [e] at e'; cases e'; rw [d] at d'; cases d'
  | _, _, _, .dct e c d _ r1 r2, r => by
    cases r with
    | leaf n _ _ => exact absurd rfl (n _)
    | opq e' _ n2 _ _ => rw [e] at e'; cases e'; exact absurd d (n2 _ _)
    | lst e' _ d' _ => rw [e] at e'; cases e'; rw [d] at d'; cases d'
    | tup e' _ d' _ => rw [e] at e'; cases e'; rw [d] at d'; cases d'
    | dct e' _ d' _ q1 q2 =>
      rw [e] at e'; cases e'
      rw [d] at d'; cases d'
      simp only [Sh.dep, Rshs.same r1 q1, Rshs.same r2 q2]
theorem Rshs.same : ∀ {vs : List Value} {ss ss' : List Sh}, Rshs P w h vs ss → Rshs P w h vs ss' → Sh.deps ss = Sh.deps ss'
  | _, _, _, .nil, r => by cases r; rfl
  | _, _, _, .cons a b, r => by
    cases r with
    | cons a' b' => simp only [Sh.deps, Rsh.same a a', Rshs.same b b']
end
def Below (P : Program) (w : World) (h : Heap) (n : Nat) (bs : List Addr) : Prop := ∀ b ∈ bs, ∃ s, Rsh P w h (.ref b) s ∧ s.dep ≤ n
theorem Below.off {n : Nat} {bs : List Addr} {a : Addr} {s : Sh} (b : Below P w h n bs) (r : Rsh P w h (.ref a) s) (l : n < s.dep) : a ∉ bs := fun m => by
  obtain ⟨s', r', l'⟩ := b a m
  rw [Rsh.same r r'] at l
  omega
theorem Below.up {n m : Nat} {bs : List Addr} (b : Below P w h n bs) (l : n ≤ m) : Below P w h m bs := fun a ha => let ⟨s, r, q⟩ := b a ha; ⟨s, r, Nat.le_trans q l⟩
theorem Below.app {n : Nat} {bs cs : List Addr} (b : Below P w h n bs) (c : Below P w h n cs) : Below P w h n (bs ++ cs) := fun a ha => (List.mem_append.mp ha).elim (b a) (c a)
theorem Below.add {n : Nat} {bs : List Addr} {a : Addr} {s : Sh} (b : Below P w h n bs) (r : Rsh P w h (.ref a) s) (l : n ≤ s.dep) : Below P w h s.dep (a :: bs) := fun c hc => by
  rcases List.mem_cons.mp hc with e | hc
  · exact ⟨s, e ▸ r, Nat.le_refl _⟩
  · exact b.up l c hc
theorem texts_len : ∀ xs : List Sh, (Sh.texts xs).length = xs.length
  | [] => rfl
  | _ :: r => congrArg (· + 1) (texts_len r)
theorem Rshs.len : ∀ {vs : List Value} {ss : List Sh}, Rshs P w h vs ss → vs.length = ss.length
  | _, _, .nil => rfl
  | _, _, .cons _ r => congrArg (· + 1) r.len
theorem zip_mem : ∀ {a b : List Str}, a.length = b.length → (∀ t ∈ a, ∃ p ∈ List.zipWith (fun k v : Str => k ++ ": " ++ v) a b, t.length ≤ p.length) ∧ (∀ t ∈ b, ∃ p ∈ List.zipWith (fun k v : Str => k ++ ": " ++ v) a b, t.length ≤ p.length)
  | [], [], _ => ⟨(fun _ z => nomatch z), fun _ z => nomatch z⟩
  | x :: r, y :: s, l => by
    obtain ⟨i1, i2⟩ := zip_mem (a := r) (b := s) (by simpa using l)
    have e : (x ++ Str.ofString ": " ++ y).length = x.length + 2 + y.length := by rw [Str.length_append, Str.length_append]; rfl
    rw [List.zipWith_cons_cons]
    refine ⟨fun t ht => ?_, fun t ht => ?_⟩
    · rcases List.mem_cons.mp ht with rfl | ht
      · exact ⟨_, List.mem_cons_self, by omega⟩
      · obtain ⟨p, hp, q⟩ := i1 t ht; exact ⟨p, List.mem_cons_of_mem _ hp, q⟩
    · rcases List.mem_cons.mp ht with rfl | ht
      · exact ⟨_, List.mem_cons_self, by omega⟩
      · obtain ⟨p, hp, q⟩ := i2 t ht; exact ⟨p, List.mem_cons_of_mem _ hp, q⟩
mutual
theorem Rsh.reprK : ∀ {v : Value} {s : Sh}, Rsh P w h v s → s.text.length ≤ sizeLine → ∃ bs, Below P w h s.dep bs ∧ ReprK P w bs h s.dep v s.text
  | _, _, .leaf _ i _, _ => ⟨[], (fun _ z => nomatch z), by unfold Sh.text; exact .of_is i _ _ _⟩
  | _, _, .opq _ _ _ k _, _ => ⟨[], (fun _ z => nomatch z), by unfold Sh.text; exact k⟩
  | _, _, .lst (a := a) (vs := vs) (xs := xs) e c d rs, z => by
    have z' : (listText (Sh.texts xs)).length ≤ sizeLine := by unfold Sh.text at z; exact z
    obtain ⟨bs, b, k⟩ := Rshs.reprK rs fun t ht => Nat.le_trans (listText_mem_le ht) z'
    have r : Rsh P w h (.ref a) (.lst xs) := .lst e c d rs
    refine ⟨a :: bs, b.add r (by unfold Sh.dep; omega), ?_⟩
    have off := b.off r (by unfold Sh.dep; omega)
    unfold Sh.dep Sh.text
    obtain ⟨l⟩ := vs
    cases l with
    | nil =>
      have rs' : Rshs P w h [] xs := rs
      cases rs'
      rw [show listText (Sh.texts []) = (Str.ofString "[]") from listText_nil]
      exact ReprK.listEmpty e c d
    | cons x l => exact ReprK.list e c d off (by simpa using k.length_eq) fun i y q => k.item i y (by simpa using q)
  | _, _, .tup (a := a) (xs := xs) e c d rs, z => by
    have z' : (tupleText (Sh.texts xs)).length ≤ sizeLine := by unfold Sh.text at z; exact z
    obtain ⟨bs, b, k⟩ := Rshs.reprK rs fun t ht => Nat.le_trans (tupleText_mem_le ht) z'
    have r : Rsh P w h (.ref a) (.tup xs) := .tup e c d rs
    refine ⟨a :: bs, b.add r (by unfold Sh.dep; omega), ?_⟩
    have off := b.off r (by unfold Sh.dep; omega)
    unfold Sh.dep Sh.text
    exact ReprK.tuple e c d off k
  | _, _, .dct (a := a) (es := es) (ks := ks) (vs := vs) e c d sy r1 r2, z => by
    have z' : (dictText (List.zipWith (fun k v : Str => k ++ ": " ++ v) (Sh.texts ks) (Sh.texts vs))).length ≤ sizeLine := by unfold Sh.text at z; exact z
    have ll : (Sh.texts ks).length = (Sh.texts vs).length := by
      have := r1.len; have := r2.len
      rw [texts_len, texts_len]
      simp only [List.length_map] at *
      omega
    obtain ⟨m1, m2⟩ := zip_mem ll
    obtain ⟨b1, c1, k1⟩ := Rshs.reprK r1 fun t ht => let ⟨p, hp, q⟩ := m1 t ht; Nat.le_trans q (Nat.le_trans (dictText_mem_le hp) z')
    obtain ⟨b2, c2, k2⟩ := Rshs.reprK r2 fun t ht => let ⟨p, hp, q⟩ := m2 t ht; Nat.le_trans q (Nat.le_trans (dictText_mem_le hp) z')
    have r : Rsh P w h (.ref a) (.dct ks vs) := .dct e c d sy r1 r2
    have b := (c1.up (Nat.le_max_left (Sh.deps ks) (Sh.deps vs))).app (c2.up (Nat.le_max_right (Sh.deps ks) (Sh.deps vs)))
    refine ⟨a :: (b1 ++ b2), b.add r (by unfold Sh.dep; omega), ?_⟩
    have off := b.off r (by unfold Sh.dep; omega)
    unfold Sh.dep Sh.text
    exact ReprK.dict e c d sy off (ReprEntriesK.of_two es.toList _ _ (k1.more_le (fun _ m => List.mem_append_left _ m) (Nat.le_max_left _ _)) (k2.more_le (fun _ m => List.mem_append_right _ m) (Nat.le_max_right _ _)))
theorem Rshs.reprK : ∀ {vs : List Value} {ss : List Sh}, Rshs P w h vs ss → (∀ t ∈ Sh.texts ss, t.length ≤ sizeLine) → ∃ bs, Below P w h (Sh.deps ss) bs ∧ ReprAllK P w bs h (Sh.deps ss) vs (Sh.texts ss)
  | _, _, .nil, _ => ⟨[], (fun _ z => nomatch z), .nil⟩
  | _, _, .cons (s := s) (ss := ss) r rs, z => by
    obtain ⟨b1, c1, k1⟩ := Rsh.reprK r (z _ (by unfold Sh.texts; exact List.mem_cons_self))
    obtain ⟨b2, c2, k2⟩ := Rshs.reprK rs fun t ht => z t (by unfold Sh.texts; exact List.mem_cons_of_mem _ ht)
    unfold Sh.deps Sh.texts
    exact ⟨b1 ++ b2, (c1.up (Nat.le_max_left _ _)).app (c2.up (Nat.le_max_right _ _)), .cons ((k1.more fun _ m => List.mem_append_left _ m).level_le (Nat.le_max_left _ _)) (k2.more_le (fun _ m => List.mem_append_right _ m) (Nat.le_max_right _ _))⟩
end
/-- the built-in repr -/
theorem Rsh.call {v : Value} {t : Sh} (r : Rsh P w h v t) (z : t.text.length ≤ sizeLine) {A : Around} {E : Value → Shared → Prop} {s : Shared} {Q : Value → Shared → Prop} (hg : A.guards = some []) (hu : A.units + (t.dep + 2) < cLine) (k0 : ∀ b o, h.get? b = some o → s.heap.get? b = some o)
    (q : ∀ h' u tk, (∀ b o, s.heap.get? b = some o → h'.get? b = some o) → Q (.str t.text u) { s with heap := h', toks := tk }) : wpAny (model P w) A (PySem.call (.builtin "repr") [v]) Q E s := by
  have go : ∀ {a : Addr} {o : Obj} {T idr : String}, h.get? a = some o → o.cls = .type T → SlotG T "__repr__" idr → wpAny (model P w) A.in1 (PySem.call (.builtin idr) [.ref a]) (fun r s₁ => ∃ x t, r = .str x t ∧ Q r s₁) E s → wpAny (model P w) A (PySem.call (.builtin "repr") [.ref a]) Q E s :=
    fun e c sl hc => call_repr_slot (by omega) ⟨_, k0 _ _ e, c⟩ sl hc
  have qq : ∀ h' u tk, (∀ b o, s.heap.get? b = some o → h'.get? b = some o) → ∃ x y, Value.str t.text u = .str x y ∧ Q (.str t.text u) { s with heap := h', toks := tk } := fun h' u tk k => ⟨_, _, rfl, q h' u tk k⟩
  cases r with
  | leaf _ _ b => unfold Sh.text at q; exact b A E s Q hg (by omega) k0 q
  | opq _ _ _ _ b => unfold Sh.text at q; exact b A E s Q hg (by omega) k0 q
  | @lst a o vs n xs e c d rs =>
    have z' : (listText (Sh.texts xs)).length ≤ sizeLine := by unfold Sh.text at z; exact z
    have u' : A.units + (Sh.deps xs + 1 + 2) < cLine := by unfold Sh.dep at hu; exact hu
    obtain ⟨bs, b, k⟩ := Rshs.reprK rs fun t ht => Nat.le_trans (listText_mem_le ht) z'
    have off := b.off (.lst e c d rs) (by unfold Sh.dep; omega)
    refine go e c F.slot_list_repr.toG ?_
    obtain ⟨l⟩ := vs
    cases l with
    | nil =>
      have rs' : Rshs P w h [] xs := rs
      cases rs'
      exact call_list_repr_empty ⟨o, k0 _ _ e, c⟩ (k0 _ _ e) d (by
        have y := qq s.heap s.toks (s.toks + 1) fun _ _ e => e
        rw [show (Sh.lst []).text = (Str.ofString "[]") from by unfold Sh.text; exact listText_nil] at y
        exact y)
    | cons x l => exact call_list_reprK e c d off (by simpa using k.length_eq) (fun i y q => k.item i y (by simpa using q)) hg (fun b _ => Clear.nil b) (by show A.units + 1 + (Sh.deps xs + 1) < cLine; omega) k0 (by unfold Sh.text at qq; exact qq) z'
  | @tup a o vs n xs e c d rs =>
    have z' : (tupleText (Sh.texts xs)).length ≤ sizeLine := by unfold Sh.text at z; exact z
    have u' : A.units + (Sh.deps xs + 1 + 2) < cLine := by unfold Sh.dep at hu; exact hu
    obtain ⟨bs, b, k⟩ := Rshs.reprK rs fun t ht => Nat.le_trans (tupleText_mem_le ht) z'
    have off := b.off (.tup e c d rs) (by unfold Sh.dep; omega)
    refine go e c F.slot_tuple_repr ?_
    exact call_tuple_reprK e c d off k hg (fun b _ => Clear.nil b) (by show A.units + 1 + (Sh.deps xs + 1) < cLine; omega) k0 (by unfold Sh.text at qq; exact qq) z'
  | @dct a o es n ks vs e c d sy r1 r2 =>
    have z' : (dictText (List.zipWith (fun k v : Str => k ++ ": " ++ v) (Sh.texts ks) (Sh.texts vs))).length ≤ sizeLine := by unfold Sh.text at z; exact z
    have u' : A.units + (max (Sh.deps ks) (Sh.deps vs) + 1 + 2) < cLine := by unfold Sh.dep at hu; exact hu
    have ll : (Sh.texts ks).length = (Sh.texts vs).length := by
      have := r1.len; have := r2.len
      rw [texts_len, texts_len]
      simp only [List.length_map] at *
      omega
    obtain ⟨m1, m2⟩ := zip_mem ll
    obtain ⟨b1, c1, k1⟩ := Rshs.reprK r1 fun t ht => let ⟨p, hp, q⟩ := m1 t ht; Nat.le_trans q (Nat.le_trans (dictText_mem_le hp) z')
    obtain ⟨b2, c2, k2⟩ := Rshs.reprK r2 fun t ht => let ⟨p, hp, q⟩ := m2 t ht; Nat.le_trans q (Nat.le_trans (dictText_mem_le hp) z')
    have b := (c1.up (Nat.le_max_left (Sh.deps ks) (Sh.deps vs))).app (c2.up (Nat.le_max_right (Sh.deps ks) (Sh.deps vs)))
    have off := b.off (.dct e c d sy r1 r2) (by unfold Sh.dep; omega)
    refine go e c F.slot_dict_repr ?_
    exact call_dict_reprK e c d sy off (ReprEntriesK.of_two es.toList _ _ (k1.more_le (fun _ m => List.mem_append_left _ m) (Nat.le_max_left _ _)) (k2.more_le (fun _ m => List.mem_append_right _ m) (Nat.le_max_right _ _))) hg (fun b _ => Clear.nil b) (by show A.units + 1 + (max (Sh.deps ks) (Sh.deps vs) + 1) < cLine; omega) k0 (by unfold Sh.text at qq; exact qq) z'
end
end DL

set_option Elab.async false
set_option linter.all false
set_option maxRecDepth 100000
set_option maxHeartbeats 2000000
namespace DL
open PySem PySem.Spec PyProof.Rows L2
/-! ## what is shown of data -/
def blText (b : Bool) : Str := if b then "True" else "False"
mutual
inductive ShOf (M : Mp) : D → Sh → Prop
  | non : ShOf M .non (.leaf "None")
  | bl (b : Bool) : ShOf M (.bl b) (.leaf (blText b))
  | int {i : Int} : i.natAbs.log2 < 1920 → ShOf M (.int i) (.leaf (toString i))
  | str {x : Str} : (reprText x).length ≤ sizeLine → ShOf M (.str x) (.leaf (reprText x))
  | lst {ds : List D} {ss : List Sh} : ShOfs M ds ss → ShOf M (.lst ds) (.lst ss)
  | sq {ds : List D} {ss : List Sh} : ShOfs M ds ss → ShOf M (.sq ds) (.lst ss)
  | tup {ds : List D} {ss : List Sh} : ShOfs M ds ss → ShOf M (.tup ds) (.tup ss)
  | dct {kvs : List (Key × D)} {ks vs : List Sh} : ShOfs M (kvs.map fun kv => kD kv.1) ks → ShOfs M (kvs.map (·.2)) vs → ShOf M (.dct kvs) (.dct ks vs)
  | lstM {a : Addr} {ds : List D} {ss : List Sh} : M a = some (.lst ds) → ShOfs M ds ss → ShOf M (.ref a) (.lst ss)
  | dctM {a : Addr} {kvs : List (Key × D)} {ks vs : List Sh} : M a = some (.dct kvs) → ShOfs M (kvs.map fun kv => kD kv.1) ks → ShOfs M (kvs.map (·.2)) vs → ShOf M (.ref a) (.dct ks vs)
inductive ShOfs (M : Mp) : List D → List Sh → Prop
  | nil : ShOfs M [] []
  | cons {d : D} {s : Sh} {ds : List D} {ss : List Sh} : ShOf M d s → ShOfs M ds ss → ShOfs M (d :: ds) (s :: ss)
end
theorem RepK.vals {K : PySem.W.Frag} {I : Hp} : ∀ {vs : List (Key × V)} {ds : List (Key × D)}, RepK K I vs ds → Reps K I (vs.map (·.2)) (ds.map (·.2)) ∧ Reps K I (vs.map fun kv => kV kv.1) (ds.map fun kv => kD kv.1)
  | _, _, .nil => ⟨.nil, .nil⟩
  | _, _, .cons (k := k) r rr => ⟨.cons r (RepK.vals rr).1, .cons (by cases k with | inl i => exact .int i | inr x => exact .str x) (RepK.vals rr).2⟩
theorem pairs_vals {P : Program} {w : World} : ∀ {es : List DictEntry} {vs : List (Key × Value)} {kvs : List (Key × V)}, KV kvs vs → Pairs (mixKind P w) es vs → Vals (kvs.map (·.2)) (es.map (·.val)) ∧ Vals (kvs.map fun kv => kV kv.1) (es.map (·.key))
  | _, _, _, .nil, .nil => ⟨.nil, .nil⟩
  | _, _, _, .cons a r, .cons h1 h2 t => by
    obtain ⟨i1, i2⟩ := pairs_vals r t
    refine ⟨.cons (by dsimp only; rw [h2]; exact a.2) i1, .cons ?_ i2⟩
    dsimp only
    rw [a.1]
    rcases keyIs_shape h1 with ⟨i, t, e1, e2⟩ | ⟨x, t, e1, e2⟩
    · rw [e1]; exact ⟨t, e2⟩
    · rw [e1]; exact ⟨t, e2⟩
section
variable {X : Cx} {pins : List (Addr × Obj)} {σ : L2.St} {H I F : Hp} {M : Mp} {s : Shared} {Pg : Program} {wd : World}
theorem dct_sh (J : L2.Inv X pins σ H s) {a : Addr} {kvs : List (Key × V)} (e : H a = some (.dK kvs)) : ∃ o es n, s.heap.get? a = some o ∧ o.cls = .type "dict" ∧ o.data = .dict es n ∧ (a == sysModules) = false ∧ Vals (kvs.map (·.2)) (es.toList.map (·.val)) ∧ Vals (kvs.map fun kv => kV kv.1) (es.toList.map (·.key)) := by
  obtain ⟨_, sy, vs, rel, o, es, ep, eo, ex, hd, _, pr, _⟩ := dk_of J.hok e
  obtain ⟨i1, i2⟩ := pairs_vals rel pr
  exact ⟨o, es, ep, eo, ex.1, hd, sy, i1, i2⟩
mutual
theorem ShOf.rsh (J : L2.Inv X pins σ H s) (hr : HR X.K I M F H) : ∀ {d : D} {t : Sh}, ShOf M d t → ∀ {v : V} {u : Value}, Rep X.K I v d → RelV v u → Rsh Pg wd s.heap u t
  | _, _, .non, _, _, r, q => by
    cases r; cases (show _ = Value.none from q)
    exact .leaf (fun _ z => nomatch z) ReprIs.none fun A E s Q hg hu k0 h => P.repr_of_none (h s.heap _ _ fun _ _ e => e)
  | _, _, .bl b, _, _, r, q => by
    cases r; cases (show _ = Value.bool b from q)
    have e : blText b = (if b then Str.ofString "True" else Str.ofString "False") := by cases b <;> rfl
    rw [e]
    exact .leaf (fun _ z => nomatch z) (ReprIs.bool b) fun A E s Q hg hu k0 h => P.repr_of_bool (h s.heap _ _ fun _ _ e => e)
  | _, _, .int l, _, _, r, q => by
    cases r
    obtain ⟨tk, rfl⟩ := q
    exact .leaf (fun _ z => nomatch z) (ReprIs.int tk l) fun A E s Q hg hu k0 h => P.repr_of_int l (h s.heap _ _ fun _ _ e => e)
  | _, _, .str l, _, _, r, q => by
    cases r
    obtain ⟨tk, rfl⟩ := q
    exact .leaf (fun _ z => nomatch z) (ReprIs.str _ tk l) fun A E s Q hg hu k0 h => P.repr_of_str (h s.heap _ _ fun _ _ e => e) l
  | _, _, .lst ss, _, _, r, q => by
    cases r with
    | lst e rr =>
      cases (show _ = Value.ref _ from q)
      obtain ⟨its, rv, ⟨o, n, ho, hc, _, hd⟩, _⟩ := J.list (SqL.of (hr.imm _ _ e))
      exact .lst ho hc hd (ShOfs.rsh J hr ss rr (by simpa using rv))
  | _, _, .sq ss, _, _, r, q => by
    cases r with
    | sq e rr =>
      cases (show _ = Value.ref _ from q)
      obtain ⟨its, rv, ⟨o, n, ho, hc, _, hd⟩, _⟩ := J.list (hr.sq e)
      exact .lst ho hc hd (ShOfs.rsh J hr ss rr (by simpa using rv))
  | _, _, .tup ss, _, _, r, q => by
    cases r with
    | tup e rr =>
      cases (show _ = Value.ref _ from q)
      obtain ⟨its, rv, ⟨o, ho, hc, n, hd⟩, _⟩ := J.tuple (hr.st e)
      exact .tup ho hc hd (ShOfs.rsh J hr ss rr (by simpa using rv))
  | _, _, .dct s1 s2, _, _, r, q => by
    cases r with
    | dct e rr =>
      cases (show _ = Value.ref _ from q)
      obtain ⟨o, es, n, ho, hc, hd, sy, i1, i2⟩ := dct_sh J (hr.imm _ _ e)
      exact .dct ho hc hd sy (ShOfs.rsh J hr s1 rr.vals.2 i2) (ShOfs.rsh J hr s2 rr.vals.1 i1)
  | _, _, .lstM e ss, _, _, r, q => by
    cases r
    cases (show _ = Value.ref _ from q)
    obtain ⟨vs, e1, rr⟩ := hr.lst e
    obtain ⟨its, rv, ⟨o, n, ho, hc, _, hd⟩, _⟩ := J.list (SqL.of e1)
    exact .lst ho hc hd (ShOfs.rsh J hr ss rr (by simpa using rv))
  | _, _, .dctM e s1 s2, _, _, r, q => by
    cases r
    cases (show _ = Value.ref _ from q)
    obtain ⟨vs, e1, rr⟩ := hr.dct e
    obtain ⟨o, es, n, ho, hc, hd, sy, i1, i2⟩ := dct_sh J e1
    exact .dct ho hc hd sy (ShOfs.rsh J hr s1 rr.vals.2 i2) (ShOfs.rsh J hr s2 rr.vals.1 i1)
theorem ShOfs.rsh (J : L2.Inv X pins σ H s) (hr : HR X.K I M F H) : ∀ {ds : List D} {ts : List Sh}, ShOfs M ds ts → ∀ {vs : List V} {us : List Value}, Reps X.K I vs ds → Vals vs us → Rshs Pg wd s.heap us ts
  | _, _, .nil, _, _, r, q => by cases r; cases q; exact .nil
  | _, _, .cons a b, _, _, r, q => by
    cases r with
    | cons r1 r2 => cases q with
      | cons q1 q2 => exact .cons (ShOf.rsh J hr a r1 q1) (ShOfs.rsh J hr b r2 q2)
end
end
section
variable {X : Cx} {W : WX} {e : Expr} {te : DTE} {p pos : Pos}
def dShow (te : DTE) : DTE := fun δ M Q E => te δ M (fun d M1 => ∃ t, ShOf M1 d t ∧ t.dep ≤ 60 ∧ t.text.length ≤ sizeLine ∧ Q (.str t.text) M1) E
theorem d_show {k : Nat} (ng : NoGd X.A) (rm : Room k X.A) (hm : X.mg "repr" = none) (he : DE X W e te) (hs : starEach [e] X.env = (false, eval e X.env) :: starEach [] X.env := by rfl) (hg : Gl X "repr" := by rfl) (hpl : (backTo pos (starEach [] X.env)).any (·.1) = false := by rfl) : DE X W (.Call (.Name "repr" p) [e] [] pos) (dShow te) := by
  refine ⟨fun pins s σ H Q J h => ?_⟩
  obtain ⟨I, M, F, δ, Qd, Ed, hr, rs, q, fq, fx⟩ := h
  have key : CallR X (.builtin "repr") (fun xs H1 Q1 => ∃ x I1 M1 F1 d t, xs = [x] ∧ HR X.K I1 M1 F1 H1 ∧ Rep X.K I1 x d ∧ ShOf M1 d t ∧ t.dep ≤ 60 ∧ t.text.length ≤ sizeLine ∧ Q1 (.str t.text) H1) := by
    intro pins s σ H xs us Q J rv h
    obtain ⟨x, I1, M1, F1, d, t, rfl, hr, r, sh, h1, h2, q⟩ := h
    obtain ⟨u, rfl, ru⟩ := vals1 rv
    have hu := rm.un
    exact (sh.rsh J hr r ru).call h2 ng (by omega) (fun _ _ e => e) fun h' u tk hk => ⟨.str _, H, J.kept (t' := tk) hk, ⟨u, rfl⟩, q⟩
  refine (pe_callB key hg hm (by decide +kernel) (pa_cons he pa_nil hs) (by decide) (by decide) hs hpl).run pins s σ H Q J ?_
  refine ⟨I, M, F, δ, _, Ed, hr, rs, q, fun d M1 I1 H1 v q1 s1 hr1 r1 => ?_, fx⟩
  obtain ⟨t, sh, h1, h2, q2⟩ := q1
  exact ⟨v, I1, M1, F, d, t, rfl, hr1, r1, sh, h1, h2, fq _ M1 I1 H1 _ q2 s1 hr1 (.str _)⟩
end
end DL

set_option Elab.async false
set_option linter.all false
set_option maxRecDepth 100000
set_option maxHeartbeats 2000000
namespace DL
open PySem PySem.Spec PyProof.Rows L2
abbrev plainG : List D → List D → List D := fun ds _ => ds
section
variable {X : Cx} {W : WX} {e : Expr} {es : List Expr} {ta : DTA} {te to : DTE} {pos p : Pos} {x : Str} {k n : Nat} {ps : List Str} {sp : DSp} {pats : List Pat}
/-- f(..) by places, all of them -/
theorem d_fnP (i : Nat) (Fx : FnN X.prog X.w X.K X.mg X.base k x ps sp pats) (g : Good X W) (rm : Room k X.A) (ha : DA X W (e :: es) ta) (hi : pats[i]? = some ⟨ps.length, [], plainG⟩ := by rfl) (hg : Gl X x := by rfl) (hdb : (x == ("__debug__" : Str)) = false := by decide) (he : starEach (e :: es) X.env = (false, eval e X.env) :: starEach es X.env := by rfl)
    (hpl : (backTo pos (starEach es X.env)).any (·.1) = false := by rfl) : DE X W (.Call (.Name x p) (e :: es) [] pos) (dCall sp ta) := by
  obtain ⟨f, hm, hk, Fa⟩ := Fx.ex
  refine ⟨fun pins s σ H Q J h => wpAny_Call_Name_kw (ld_glob J hg hm ?_ hdb)⟩
  obtain ⟨I, M, F, δ, Qd, Ed, hr, rs, q, fq, fx⟩ := h
  refine args_p ha he hpl pins s σ H _ [] _ (fun ds _ M2 => sp ds M2 Qd Ed) I M F δ Ed hk J hr rs q fx fun us ws vs zs ds es I2 M2 H2 s2 J2 rv rz e2 hr2 rd re q2 => ?_
  obtain ⟨fd, kb, G⟩ := Fa.ex
  have ln := G.len vs H2 Q (WE W σ) ⟨I2, M2, F, ds, Qd, Ed, hr2, rd, q2, fq.mono e2, fx.mono e2⟩
  exact run_a i g rm Fa hi (ws := []) (zs := []) (es := []) J2 rv .nil hr2 rd .nil (rd.len.symm.trans ln) rfl q2 (fq.mono e2) (fx.mono e2)
theorem d_fnP0 (i : Nat) (Fx : FnN X.prog X.w X.K X.mg X.base k x ps sp pats) (g : Good X W) (rm : Room k X.A) (hi : pats[i]? = some ⟨0, [], plainG⟩ := by rfl) (hg : Gl X x := by rfl) (hdb : (x == ("__debug__" : Str)) = false := by decide) : DE X W (.Call (.Name x p) [] [] pos) (dCall sp dNil) := by
  obtain ⟨f, hm, hk, Fa⟩ := Fx.ex
  refine ⟨fun pins s σ H Q J h => wpAny_Call_Name_kw (ld_glob J hg hm ?_ hdb)⟩
  obtain ⟨I, M, F, δ, Qd, Ed, hr, rs, q, fq, fx⟩ := h
  exact PySem.W.callWith_K0 J.kIn hk (run_a i g rm Fa hi (us := []) (vs := []) (ws := []) (zs := []) J .nil .nil hr .nil .nil rfl rfl q fq fx)
/-! ## list(x), tuple(x) -/
def asQ (M : Mp) (d : D) (k : List D → Prop) : Prop := match d with
  | .lst xs => k xs
  | .sq xs => k xs
  | .tup xs => k xs
  | .ref a => ∃ xs, M a = some (.lst xs) ∧ k xs
  | _ => False
theorem asQ_out {K : PySem.W.Frag} {I : Hp} {M : Mp} {F H : Hp} (hr : HR K I M F H) {v : V} {d : D} {k : List D → Prop} (r : Rep K I v d) (h : asQ M d k) : ∃ a vs ds, v = .ref a ∧ (SqL K H a vs ∨ (SqT K H a vs ∧ d = .tup ds)) ∧ Reps K I vs ds ∧ k ds := by
  cases r with
  | lst s rr => exact ⟨_, _, _, rfl, .inl (SqL.of (hr.imm _ _ s)), rr, h⟩
  | sq s rr => exact ⟨_, _, _, rfl, .inl (hr.sq s), rr, h⟩
  | tup s rr => exact ⟨_, _, _, rfl, .inr ⟨hr.st s, rfl⟩, rr, h⟩
  | ref a =>
    obtain ⟨xs, e, q⟩ := h
    obtain ⟨vs, e1, r1⟩ := hr.lst e
    exact ⟨_, _, _, rfl, .inl (SqL.of e1), r1, q⟩
  | _ => exact h.elim
def dList : DRC := fun ds M Q => one ds fun d => asQ M d fun xs => Q (.lst xs) M
def dListM : DRC := fun ds M Q => one ds fun d => asQ M d fun xs => ∀ p, M p = none → Q (.ref p) (updM M p (.lst xs))
def dTuple : DRC := fun ds M Q => one ds fun d => asQ M d fun xs => Q (.tup xs) M
abbrev rListOf (K : PySem.W.Frag) : List V → Hp → VK → Prop := fun xs H Q => ∃ p ys, xs = [.ref p] ∧ (SqL K H p ys ∨ SqT K H p ys) ∧ ∀ l, H l = none → Q (.ref l) (upd H l (.lst ys))
theorem lc_list {K : PySem.W.Frag} : LC K (rListOf K) dList := fun I M F H vs ds Qd Q hr rs q fq => by
  obtain ⟨v, d, rfl, r, q⟩ := one_out rs q
  obtain ⟨a, vs, xs, rfl, h, rr, q⟩ := asQ_out hr r q
  exact ⟨a, vs, rfl, h.imp id And.left, fin_lst fq hr rr q⟩
theorem lc_listM {K : PySem.W.Frag} : LC K (rListOf K) dListM := fun I M F H vs ds Qd Q hr rs q fq => by
  obtain ⟨v, d, rfl, r, q⟩ := one_out rs q
  obtain ⟨a, vs, xs, rfl, h, rr, q⟩ := asQ_out hr r q
  exact ⟨a, vs, rfl, h.imp id And.left, fin_lstM fq hr rr q⟩
theorem lc_tuple {K : PySem.W.Frag} : LC K (fun xs H Q => ∃ p ys, xs = [.ref p] ∧ ((SqL K H p ys ∧ ∀ l, H l = none → Q (.ref l) (upd H l (.tup ys))) ∨ (SqT K H p ys ∧ Q (.ref p) H))) dTuple := fun I M F H vs ds Qd Q hr rs q fq => by
  obtain ⟨v, d, rfl, r, q⟩ := one_out rs q
  obtain ⟨a, vs, xs, rfl, h, rr, q⟩ := asQ_out hr r q
  rcases h with h | ⟨h, e⟩
  · exact ⟨a, vs, rfl, .inl ⟨h, fin_tup fq hr rr q⟩⟩
  · subst e
    exact ⟨a, vs, rfl, .inr ⟨h, fq _ M I H _ q (Same.refl I) hr r⟩⟩
theorem d_list (hm : X.mg "list" = none) (ha : DA X W [e] ta) (he : starEach [e] X.env = (false, eval e X.env) :: starEach [] X.env := by rfl) (hg : Gl X "list" := by rfl) : DE X W (.Call (.Name "list" p) [e] [] pos) (dCB dList ta) := d_callTy call_list_of lc_list hm (by decide +kernel) ha hg (he := he)
theorem d_listM (hm : X.mg "list" = none) (ha : DA X W [e] ta) (he : starEach [e] X.env = (false, eval e X.env) :: starEach [] X.env := by rfl) (hg : Gl X "list" := by rfl) : DE X W (.Call (.Name "list" p) [e] [] pos) (dCB dListM ta) := d_callTy call_list_of lc_listM hm (by decide +kernel) ha hg (he := he)
theorem d_tuple (hm : X.mg "tuple" = none) (ha : DA X W [e] ta) (he : starEach [e] X.env = (false, eval e X.env) :: starEach [] X.env := by rfl) (hg : Gl X "tuple" := by rfl) : DE X W (.Call (.Name "tuple" p) [e] [] pos) (dCB dTuple ta) := d_callTy call_tuple_of lc_tuple hm (by decide +kernel) ha hg (he := he)
/-! ## t + u, t[lo:hi] of tuples -/
def dAdd2 : DR2 := fun x y M Q => match x, y with
  | .tup xs, .tup ys => xs.length + ys.length ≤ sizeLine ∧ Q (.tup (xs ++ ys)) M
  | x, y => dAdd x y M Q
def dAddM : DR2 := fun x y M Q => asX M x fun xs => asX M y fun ys => xs.length + ys.length ≤ sizeLine ∧ ∀ p, M p = none → Q (.ref p) (updM M p (.lst (xs ++ ys)))
theorem op_add5 : OpR X (binaryOp .Add) (fun x y H Q => rAdd4 X.K x y H Q ∨ rCatA X.K x y H Q) := op_add4.or op_catA
theorem lr_add5 {K : PySem.W.Frag} : LR K (fun x y H Q => rAdd4 K x y H Q ∨ rCatA K x y H Q) dAdd2 := fun I M F H x y dx dy Qd Q hr rx ry q fq => by
  unfold dAdd2 at q
  split at q
  · rename_i xs ys
    cases rx with
    | @tup a vs _ s1 r1 => cases ry with
      | @tup b ws _ s2 r2 =>
        refine .inr ⟨a, b, vs, ws, rfl, rfl, hr.st s1, hr.st s2, by rw [r1.len, r2.len]; exact q.1, fun e => ?_, fun n e => ?_, fun _ _ => fin_tup fq hr (r1.app r2) q.2⟩
        · subst e; cases r1; exact fq _ M I H _ q.2 (Same.refl I) hr (.tup s2 r2)
        · subst e; cases r2; exact fq _ M I H _ (by rw [List.append_nil] at q; exact q.2) (Same.refl I) hr (.tup s1 r1)
  · exact .inl (lr_add I M F H x y _ _ Qd Q hr rx ry q fq)
theorem d_add5 {a b : Expr} {ta tb : DTE} (ha : DE X W a ta) (hb : DE X W b tb) : DE X W (.BinOp a .Add b pos) (dOp dAdd2 ta tb) := d_op op_add5 lr_add5 ha hb
theorem lr_addM {K : PySem.W.Frag} : LR K (rAdd4 K) dAddM := fun I M F H x y dx dy Qd Q hr rx ry q fq => by
  obtain ⟨a, vs, ds, e1, h1, r1, q⟩ := asX_out hr rx q
  obtain ⟨b, ws, es, e2, h2, r2, q⟩ := asX_out hr ry q
  exact .inr (.inr ⟨a, b, vs, ws, e1, e2, h1, h2, by rw [r1.len, r2.len]; exact q.1, fin_lstM fq hr (r1.app r2) q.2⟩)
theorem d_addM {a b : Expr} {ta tb : DTE} (ha : DE X W a ta) (hb : DE X W b tb) : DE X W (.BinOp a .Add b pos) (dOp dAddM ta tb) := d_op op_add4 lr_addM ha hb
def dSl4 (x : D) (lo hi : Option Int) (M : Mp) (Q : DK) : Prop := match x with
  | .tup xs => Q (.tup (cutD xs lo hi)) M
  | x => dSl3 x lo hi M Q
def dSl4M (x : D) (lo hi : Option Int) (M : Mp) (Q : DK) : Prop := asR M x fun xs => ∀ p, M p = none → Q (.ref p) (updM M p (.lst (cutD xs lo hi)))
def dSlA (r : D → Option Int → Option Int → Mp → DK → Prop) (te : DTE) (tl th : DTO) : DTE := fun δ M Q E => te δ M (fun x M1 => tl δ M1 (fun l M2 => th δ M2 (fun u M3 => r x l u M3 Q) E) E) E
theorem cutD_all {xs : List D} {lo hi : Option Int} (h : HT.sIx xs.length 0 lo = 0 ∧ HT.sIx xs.length xs.length hi = xs.length) : cutD xs lo hi = xs := by
  unfold cutD
  rw [h.1, h.2]
  simp
def LSl (K : PySem.W.Frag) (r' : V → Option Int → Option Int → Hp → VK → Prop) (r : D → Option Int → Option Int → Mp → DK → Prop) : Prop := ∀ I M F H v d lo hi Qd Q, HR K I M F H → Rep K I v d → r d lo hi M Qd → Fin K I F Qd Q → r' v lo hi H Q
theorem d_slA {lo hi : Option Expr} {tl th : DTO} {p2 : Pos} {r : D → Option Int → Option Int → Mp → DK → Prop} {r' : V → Option Int → Option Int → Hp → VK → Prop} (hs : SlR X r') (hL : LSl X.K r' r) (he : DE X W e te) (hl : DO X W lo tl) (hu : DO X W hi th) : DE X W (.Subscript e (.Slice lo hi none p2) pos) (dSlA r te tl th) := pe_imp (pe_slice hs he hl hu) fun σ H Q h => by
  obtain ⟨I, M, F, δ, Qd, Ed, hr, rs, q, fq, fx⟩ := h
  refine ⟨I, M, F, δ, _, Ed, hr, rs, q, fun x M1 I1 H1 v q1 s1 hr1 r1 => ?_, fx⟩
  refine ⟨I1, M1, F, δ, _, Ed, hr1, rs.mono s1, q1, fun l M2 I2 H2 q2 s2 hr2 => ?_, fx.mono s1⟩
  refine ⟨I2, M2, F, δ, _, Ed, hr2, (rs.mono s1).mono s2, q2, fun u M3 I3 H3 q3 s3 hr3 => ?_, (fx.mono s1).mono s2⟩
  exact hL I3 M3 F H3 v x l u Qd Q hr3 ((r1.mono s2).mono s3) q3 (fq.mono ((s1.trans s2).trans s3))
theorem SlR.or {r r' : V → Option Int → Option Int → Hp → VK → Prop} (h : SlR X r) (h' : SlR X r') : SlR X (fun x lo hi H Q => r x lo hi H Q ∨ r' x lo hi H Q) := by
  intro pins s σ H x v vl vu lo hi sl Q I rx hs pl pu z
  rcases z with z | z
  · exact h pins s σ H x v vl vu lo hi sl Q I rx hs pl pu z
  · exact h' pins s σ H x v vl vu lo hi sl Q I rx hs pl pu z
theorem d_sl4 {lo hi : Option Expr} {tl th : DTO} {p2 : Pos} (he : DE X W e te) (hl : DO X W lo tl) (hu : DO X W hi th) : DE X W (.Subscript e (.Slice lo hi none p2) pos) (dSlA dSl4 te tl th) := d_slA (SlR.or sl_list (SlR.or sl_str sl_tupA)) (fun I M F H v d lo hi Qd Q hr r q fq => by
  unfold dSl4 at q
  split at q
  · cases r with
    | @tup a vs ds s rr =>
      refine .inr (.inr ⟨a, vs, rfl, hr.st s, fun z => ?_, fun _ => fin_tup fq hr (rr.cut lo hi) q⟩)
      rw [cutD_all (by rw [← rr.len]; exact z)] at q
      exact fq _ M I H _ q (Same.refl I) hr (.tup s rr)
  · unfold dSl3 at q
    split at q
    · cases r
      exact .inr (.inl ⟨_, rfl, q.1, fq _ M I H _ q.2 (Same.refl _) hr (.str _)⟩)
    · obtain ⟨a, vs, ds, e1, sq, rr, q⟩ := asR_out hr r q
      exact .inl ⟨a, vs, e1, sq, fin_lst fq hr (rr.cut lo hi) q⟩) he hl hu
theorem d_sl4M {lo hi : Option Expr} {tl th : DTO} {p2 : Pos} (he : DE X W e te) (hl : DO X W lo tl) (hu : DO X W hi th) : DE X W (.Subscript e (.Slice lo hi none p2) pos) (dSlA dSl4M te tl th) := d_slA sl_list (fun I M F H v d lo hi Qd Q hr r q fq => by
  obtain ⟨a, vs, ds, e1, sq, rr, q⟩ := asR_out hr r q
  exact ⟨a, vs, e1, sq, fin_lstM fq hr (rr.cut lo hi) q⟩) he hl hu
/-! ## isinstance(x, (T, U)) -/
def dIsi2 (u v : Ty) (te : DTE) : DTE := fun δ M Q E => te δ M (fun d M1 => tyD d M1 fun t => t ≠ .own ∧ Q (.bl (isT t u || isT t v)) M1) E
theorem kit_two (K : PySem.W.Frag) (t u v : Ty) (h : t ≠ .own) (hu : u ≠ .non) (hu2 : u ≠ .own) (hv : v ≠ .non) (hv2 : v ≠ .own) : PySem.W.kitAny K (.type t.nm) [.type u.nm, .type v.nm] = some (isT t u || isT t v) := by
  refine kitAny_cons (kit_all K t u h hu hu2) (fun e => ?_) (fun e => by rw [e]; rfl)
  refine kitAny_cons (kit_all K t v h hv hv2) (fun e2 => ?_) (fun e2 => by rw [e2, Bool.or_true])
  rw [e, e2]
  exact kitAny_nil
theorem d_isi2 (u v : Ty) {y z : Str} {p1 p2 p3 : Pos} {x1 : Nat} (hu : u ≠ .non) (hu2 : u ≠ .own) (hv : v ≠ .non) (hv2 : v ≠ .own) (hm : X.mg "isinstance" = none) (hmy : X.mg y = none) (hmz : X.mg z = none) (hy : bootBuiltins y = some (.type u.nm)) (hz : bootBuiltins z = some (.type v.nm)) (he : DE X W e te)
    (hs : starEach [e, .Tuple [.Name y p1, .Name z p2] x1 p3] X.env = (false, eval e X.env) :: starEach [.Tuple [.Name y p1, .Name z p2] x1 p3] X.env := by rfl) (hgy : Gl X y := by rfl) (hny : y ≠ "__name__" := by decide) (hdy : (y == ("__debug__" : Str)) = false := by decide) (hgz : Gl X z := by rfl) (hnz : z ≠ "__name__" := by decide) (hdz : (z == ("__debug__" : Str)) = false := by decide)
    (hs2 : starEach [.Tuple [.Name y p1, .Name z p2] x1 p3] X.env = (false, eval (.Tuple [.Name y p1, .Name z p2] x1 p3) X.env) :: starEach [] X.env := by rfl) (hs3 : starEach [.Name y p1, .Name z p2] X.env = (false, eval (.Name y p1) X.env) :: starEach [.Name z p2] X.env := by rfl) (hs4 : starEach [.Name z p2] X.env = (false, eval (.Name z p2) X.env) :: starEach [] X.env := by rfl)
    (hpl : (backTo pos (starEach [.Tuple [.Name y p1, .Name z p2] x1 p3] X.env)).any (·.1) = false := by rfl) (hg : Gl X "isinstance" := by rfl) : DE X W (.Call (.Name "isinstance" p) [e, .Tuple [.Name y p1, .Name z p2] x1 p3] [] pos) (dIsi2 u v te) := by
  refine pe_imp (pe_callB call_isiT hg hm (by decide +kernel) (pa_cons he (pa_cons (pe_tup (pa_cons (pe_bltn hgy hmy hy (v := .ty u.nm) rfl hny hdy) (pa_cons (pe_bltn hgz hmz hz (v := .ty v.nm) rfl hnz hdz) pa_nil hs4) hs3)) pa_nil hs2) hs) (by decide) (by decide) hs hpl) fun σ H Q h => ?_
  obtain ⟨I, M, F, δ, Qd, Ed, hr, rs, q, fq, fx⟩ := h
  refine ⟨I, M, F, δ, _, Ed, hr, rs, q, fun d M1 I1 H1 x q1 s1 hr1 r1 => ?_, fx⟩
  refine ⟨by show 2 ≤ sizeLine; decide, fun tp htp => ?_⟩
  have hr2 := hr1.bump htp (.tup [.ty u.nm, .ty v.nm])
  rcases tyD_out hr2 r1 q1 with ⟨t, ht, ty, q⟩ | ⟨_, _, _, _, _, _, _, _, _, q⟩
  · exact ⟨x, tp, _, _, _, _, rfl, upd_same, .cons (.ty _) (.cons (.ty _) .nil), ty, kit_two X.K t u v ht hu hu2 hv hv2, fq _ M1 I1 _ _ q.2 s1 hr2 (.bl _)⟩
  · exact absurd rfl q.1
end
end DL

set_option Elab.async false
set_option linter.all false
set_option maxRecDepth 100000
set_option maxHeartbeats 2000000
namespace DL
open PySem PySem.Spec PyProof.Rows L2
def ends (Qd : DK) (Ed : DXK) : DEnds := { nx := fun _ M' => Qd .non M', rt := Qd, ex := fun c fo _ M' => Ed c fo M' }
theorem s_tryA {X : Cx} {W : WX} {body : List Stmt} {h0 : ExceptHandler} {hds : List ExceptHandler} {l : List DHd} {pos : Pos} {tb : DTS} {xm : Value → List Value → Option Bool} (hx : xm = PySem.W.exmAny X.K) (g : Good X W) (hb : ∀ (V : WX) (pn : List (Addr × Obj)) (xe : Value → Shared → Prop), Good (X.tr pn xe) V → DSs (X.tr pn xe) V body tb) (hh : DHds X (h0 :: hds) l)
    (hs : X.stack = X.env :: X.outer := by rfl) (hf : X.env.frame = some X.env.locals := by rfl) : DSt X W (.Try body (h0 :: hds) [] [] pos) (dTry xm l tb) := by
  subst hx
  exact s_try g hb hh hs hf
theorem exm_nil {K : PySem.W.Frag} {t : Value} : PySem.W.exmAny K t [] = some false := rfl
theorem exm_cons {K : PySem.W.Frag} {t c : Value} {cs : List Value} {a b : Bool} (h : PySem.W.exmOne K t c = some a) (hr : PySem.W.exmAny K t cs = some b) : PySem.W.exmAny K t (c :: cs) = some (a || b) := by
  unfold PySem.W.exmAny
  rw [h, hr]
theorem fc_nil {K : PySem.W.Frag} {f : Str} : ∀ C ∈ ([] : List Addr), Cls K C ∧ NoAttr K C f := fun _ z => nomatch z
theorem fc_cons {K : PySem.W.Frag} {f : Str} {C : Addr} {Cs : List Addr} (h1 : Cls K C) (h2 : NoAttr K C f) (r : ∀ C ∈ Cs, Cls K C ∧ NoAttr K C f) : ∀ D ∈ C :: Cs, Cls K D ∧ NoAttr K D f := fun D hD => by
  rcases List.mem_cons.mp hD with e | hD
  · subst e; exact ⟨h1, h2⟩
  · exact r D hD
end DL

set_option Elab.async false
set_option linter.all false
set_option maxRecDepth 100000
namespace DL
open PySem L2
/-! ## the law's end, the drawing of numbers -/
def spLaw : DSp := fun ds M Q _ => ∃ (ns : List Int), ds = [.sq (ns.map D.int)] ∧ ns.length ≤ 63 ∧ ∀ M', Q (.bl true) M'
theorem law_pr {K : PySem.W.Frag} {H : Hp} {a : Addr} {ns : List Int} (hl : ns.length ≤ 63) (hS : SqL K H a (ns.map V.int)) : lSp K spLaw [.ref a] H (fun v _ => v = .bl true) (fun _ _ _ => False) := by
  refine ⟨H, fun _ => none, fun _ => none, [.sq (ns.map D.int)], fun d _ => d = .bl true, fun _ _ _ => False, ⟨fun _ _ e => e, fun _ _ e => (nomatch e), fun _ _ e => (nomatch e), fun _ _ e => (nomatch e)⟩, .cons (.sq hS (rep_ints ns)) .nil, ⟨ns, rfl, hl, fun _ => rfl⟩, fun d M' I' H' v e _ _ r => ?_, fun _ _ _ _ _ _ z => z.elim⟩
  subst e
  cases r
  rfl
def Bag (M : Mp) (b : Addr) (n : Nat) : Prop := ∃ x y z : Int, M b = some (.lst [.int x, .int y, .int z]) ∧ 0 ≤ y ∧ y < 2147483629 ∧ 0 ≤ z ∧ z ≤ n
def But (b : Addr) (M M' : Mp) : Prop := ∀ a o, a ≠ b → M a = some o → M' a = some o
def spTake : DSp := fun ds M Q _ => ∃ (b : Addr) (w : Int) (n : Nat), ds = [.ref b, .int w] ∧ Bag M b n ∧ n < 1000000 ∧ 0 < w ∧ w ≤ 10 ^ 30 ∧ ∀ M' d, But b M M' → Bag M' b (n + 1) → 0 ≤ d → d < w → Q (.int d) M'
def spBag : DSp := fun ds M Q _ => ∃ (c : Int), ds = [.int c] ∧ ∀ b M', M b = none → But b M M' → Bag M' b 0 → Q (.ref b) M'
def spCell : DSp := fun ds M Q _ => ∃ (ns : List Int) (k : Int), ds = [.sq (ns.map D.int), .int k] ∧ 0 ≤ k ∧ k < 100 ∧ ns.length ≤ 63 ∧ ∀ i, Q (.int i) M
theorem len_spTake : ∀ ds M Q E, spTake ds M Q E → ds.length = 2 := fun _ _ _ _ h => by obtain ⟨_, _, _, rfl, _⟩ := h; rfl
theorem len_spBag : ∀ ds M Q E, spBag ds M Q E → ds.length = 1 := fun _ _ _ _ h => by obtain ⟨_, rfl, _⟩ := h; rfl
theorem len_spCell : ∀ ds M Q E, spCell ds M Q E → ds.length = 2 := fun _ _ _ _ h => by obtain ⟨_, _, rfl, _⟩ := h; rfl
theorem len_spLaw : ∀ ds M Q E, spLaw ds M Q E → ds.length = 1 := fun _ _ _ _ h => by obtain ⟨_, rfl, _⟩ := h; rfl
abbrev sg1 (c : Nat) : Str := ⟨#[c]⟩
theorem But.refl (b : Addr) (M : Mp) : But b M M := fun _ _ _ e => e
theorem But.trans {b : Addr} {M M1 M2 : Mp} (h : But b M M1) (k : But b M1 M2) : But b M M2 := fun a o n e => k a o n (h a o n e)
theorem Bag.mono {M : Mp} {b : Addr} {n m : Nat} (h : Bag M b n) (l : n ≤ m) : Bag M b m := by
  obtain ⟨x, y, z, a, b, c, d, e⟩ := h
  exact ⟨x, y, z, a, b, c, d, by omega⟩
theorem at_some {α : Type} {xs : List α} {i : Int} (h0 : 0 ≤ i) (h1 : i < xs.length) : ∃ d, atI xs i = some d ∧ d ∈ xs := by
  obtain ⟨j, rfl⟩ := Int.eq_ofNat_of_zero_le h0
  have hj : j < xs.length := by omega
  exact ⟨xs[j], atI_nat (List.getElem?_eq_getElem hj), List.getElem_mem hj⟩
theorem cut_map {ns : List Int} {lo hi : Option Int} : ∃ ms : List Int, cutD (ns.map D.int) lo hi = ms.map D.int := by
  unfold cutD
  exact ⟨_, by rw [← List.map_drop, ← List.map_take]⟩
theorem cdiv {i w : Int} (h0 : 0 < w) (h1 : w ≤ 10 ^ 30) : CDivW i w := wide_div (b := 100) h0 (by
  have e : w.natAbs ≤ 10 ^ 30 := by omega
  exact Nat.lt_of_le_of_lt e (by decide)) (by decide) (by decide)
theorem cpow {i : Int} {k : Int} (h0 : 0 ≤ i) (h1 : i < 2 ^ 60) (h2 : 0 ≤ k) (h3 : k ≤ 10) : CPow i k := ⟨h2, by omega, by omega⟩
theorem cmul {i j : Int} (h0 : 0 ≤ i) (h1 : i < 2 ^ 30) (h2 : -(2 ^ 120) < j) (h3 : j < 2 ^ 120) : CMulW i j := wide_mul (a := 30) (b := 120) (by omega) (by omega) (by decide) (by decide) (by decide)
theorem Bag.upd {M : Mp} {b r : Addr} {n : Nat} {o : MO} (h : Bag M b n) (ne : b ≠ r) : Bag (updM M r o) b n := by
  obtain ⟨x, y, z, a, t⟩ := h
  exact ⟨x, y, z, by rw [updM_ne ne]; exact a, t⟩
theorem But.new {b r : Addr} {M : Mp} {o : MO} (h : M r = none) : But b M (updM M r o) := fun a u _ e => by
  rw [updM_ne (fun z => by rw [z, h] at e; cases e)]; exact e
theorem Bag.at {M : Mp} {b r : Addr} {n : Nat} (h : Bag M b n) (hr : M r = none) : b ≠ r := fun z => by
  obtain ⟨x, y, w, a, t⟩ := h
  rw [z, hr] at a
  cases a
theorem ix_nn {n : Nat} {i : Int} (h0 : 0 ≤ i) (h1 : i < n) : ixN n i = some i.toNat := by
  unfold ixN
  rw [if_pos h0, if_pos h1]
theorem num_log {i : Int} (h0 : -(10 ^ 30) ≤ i) (h1 : i ≤ 10 ^ 30) : i.natAbs.log2 < 1920 := by
  have h : i.natAbs < 2 ^ 1920 := Nat.lt_of_le_of_lt (by omega : i.natAbs ≤ 10 ^ 30) (by decide +kernel)
  by_cases z : i.natAbs = 0
  · rw [z]; decide
  · exact (Nat.log2_lt z).mpr h
end DL

set_option Elab.async false
set_option linter.all false
set_option maxRecDepth 100000
namespace DL
open PySem L2
/-! ## names and whole numbers -/
def Ok (s : Str) : Prop := ∀ c ∈ s.cps.toList, c < 0x110000
def letters : Str := "abcdefghijklmnopqrstuvwxyz"
def okM : MO → Prop
  | .lst _ => True | .dct _ => True | .exc _ _ => True | _ => False
/-- a thing that may be asked about -/
def Th (M : Mp) : D → Prop
  | .non => True | .bl _ => True | .int _ => True | .str s => s.length ≤ 2000 ∧ Ok s | .lst _ => True | .tup _ => True | .dct _ => True
  | .ref a => ∃ m, M a = some m ∧ okM m
  | _ => False
def wholeD (d : D) (l h : Int) : Bool := match d with | .int i => decide (l ≤ i) && decide (i ≤ h) | _ => false
def nameD (d : D) : Bool := match d with | .str s => decide (1 ≤ s.length) && decide (s.length ≤ 8) && s.cps.toList.all (fun c => decide (c ∈ letters.cps.toList)) | _ => false
def spW : DSp := fun ds M Q _ => ∃ (d : D) (l h : Int), ds = [d, .int l, .int h] ∧ Th M d ∧ Q (.bl (wholeD d l h)) M
def spW2 : DSp := fun ds M Q _ => ∃ (d : D) (h : Int), ds = [d, .int h] ∧ Th M d ∧ Q (.bl (wholeD d 0 h)) M
def spN : DSp := fun ds M Q _ => ∃ (d : D), ds = [d] ∧ Th M d ∧ Q (.bl (nameD d)) M
theorem len_spW : ∀ ds M Q E, spW ds M Q E → ds.length = 3 := fun _ _ _ _ h => by obtain ⟨_, _, _, rfl, _⟩ := h; rfl
theorem len_spW2 : ∀ ds M Q E, spW2 ds M Q E → ds.length = 2 := fun _ _ _ _ h => by obtain ⟨_, _, rfl, _⟩ := h; rfl
theorem len_spN : ∀ ds M Q E, spN ds M Q E → ds.length = 1 := fun _ _ _ _ h => by obtain ⟨_, rfl, _⟩ := h; rfl
def rIsName : DTS := dRet (dAndV (dIsi .str (dVar 0)) (dAndV (dChain dLe dLe (dC (.int 1)) (dCB dLen (dCons (dVar 0) (dNil))) (dC (.int 8))) (dCB dAll (dCons (dLc (iS (dVar 0)) (.one 1) dYes (dOp dInS (dVar 1) (dC (.str letters))) [1]) (dNil)))))
def rIsWhole : DTS := dRet (dAndV (dIsi .int (dVar 0)) (dAndV (dNotV (dIsi .bl (dVar 0))) (dChain dLe dLe (dVar 1) (dVar 0) (dVar 2))))
def rLawName : DTS := dSeq (dIf (dOr (dNot (dTruth (dIsi .str (dVar 0)))) (dNot (dTest (dChain dLe dLe (dC (.int 1)) (dCB dLen (dCons (dVar 0) (dNil))) (dC (.int 8)))))) (dRet (dC (.bl false))) (dNext)) (dRet (dOp dEq (dLc (iS (dVar 0)) (.one 1) (dTest (dOp dNotInS (dVar 1) (dC (.str letters)))) (dVar 1) [1]) (dLst (dNil))))
def rLawWhole2 : DTS := dRet (dAndV (dIsi .int (dVar 0)) (dAndV (dNotV (dIsi .bl (dVar 0))) (dChain dLe dLe (dC (.int 0)) (dVar 0) (dVar 1))))
theorem join_len : ∀ cs : List Nat, (Txt.join "" (cs.map sg1)).length = cs.length := by
  intro cs
  rw [TL.join_eq]
  induction cs with
  | nil => rfl
  | cons c r ih =>
    cases r with
    | nil => rfl
    | cons d r =>
      show (sg1 c ++ ("" : Str) ++ Str.join "" ((d :: r).map sg1)).length = _
      rw [Str.length_append, Str.length_append, ih]
      show 1 + 0 + (d :: r).length = (c :: d :: r).length
      simp only [List.length_cons]
      omega
theorem sum_len : ∀ cs : List Nat, ((cs.map sg1).map (·.length)).sum = cs.length
  | [] => rfl
  | c :: r => by
    show 1 + ((r.map sg1).map (·.length)).sum = _
    rw [sum_len r, List.length_cons]
    omega
theorem join_cps : ∀ cs : List Nat, (Txt.join "" (cs.map sg1)).cps.toList = cs := by
  intro cs
  rw [TL.join_eq]
  have h := TL.tl_join "" (cs.map sg1)
  refine Eq.trans h ?_
  induction cs with
  | nil => rfl
  | cons c r ih =>
    cases r with
    | nil => rfl
    | cons d r =>
      have h2 := TL.tl_join "" ((d :: r).map sg1)
      show [c] ++ ([] ++ TL.joinL [] (((d :: r).map sg1).map TL.tl)) = _
      rw [List.nil_append]
      show c :: TL.joinL [] (((d :: r).map sg1).map TL.tl) = _
      rw [show TL.joinL [] (((d :: r).map sg1).map TL.tl) = d :: r from ih h2]
theorem letters_ok : ∀ c ∈ letters.cps.toList, c < 0x110000 := by decide +kernel
def pyS (cs : List Nat) : List PyData := cs.map fun c => .str (sg1 c)
theorem pyOf_row {M : Mp} : ∀ cs : List Nat, Paired (PyOf M) (cs.map fun c => D.str (sg1 c)) (pyS cs)
  | [] => .nil
  | c :: r => .cons (.str _) (pyOf_row r)
theorem row_lay : ∀ cs : List Nat, (∀ c ∈ cs, c < 0x110000) → PyData.canLayAll0 (pyS cs) = true ∧ PyData.depthAll (pyS cs) = 0
  | [], _ => ⟨rfl, rfl⟩
  | c :: r, h => by
    obtain ⟨a, b⟩ := row_lay r fun x hx => h x (List.mem_cons_of_mem _ hx)
    have hc := h c List.mem_cons_self
    constructor
    · show (PyData.canLay0 (.str (sg1 c)) && PyData.canLayAll0 (pyS r)) = true
      rw [a]
      have e : PyData.canLay0 (.str (sg1 c)) = true := by
        unfold PyData.canLay0
        simp [PyData.strOk, hc]
      rw [e]; rfl
    · show max (PyData.depth (.str (sg1 c))) (PyData.depthAll (pyS r)) = 0
      rw [b]; rfl
theorem row_shaped {cs : List Nat} (h : ∀ c ∈ cs, c < 0x110000) : SeqAt.shaped (.list (pyS cs)) = true := by
  obtain ⟨a, b⟩ := row_lay cs h
  unfold SeqAt.shaped PyData.canLay0 PyData.depth
  rw [a, b]
  rfl
theorem ok_of (t : String) : Ok (Str.ofString t) := by
  intro c hc
  rw [Str.ofString_eq_toList] at hc
  have hc : c ∈ (t.toList.map Char.toNat) := by simpa using hc
  obtain ⟨ch, _, rfl⟩ := List.mem_map.mp hc
  have h : ch.toNat.isValidChar := ch.valid
  rcases h with h | ⟨_, h⟩ <;> omega
theorem comp_in {δ0 : Option D} {k : List D → Mp → Prop} {M : Mp} : ∀ (cs : List Nat) (bs : List Bool), bs.length + cs.length ≤ 5000 → k ((bs ++ cs.map fun c => decide (c ∈ letters.cps.toList)).map D.bl) M →
    dComp (.one 1) dYes (dOp dInS (dVar 1) (dC (.str letters))) .data [1] [δ0, none] k (cs.map fun c => D.str (sg1 c)) (bs.map D.bl) M
  | [], bs, hl, q => by
    refine ⟨?_, ?_⟩
    · rw [List.length_map]; exact Nat.le_trans hl (by decide)
    · rw [List.map_nil, List.append_nil] at q; exact q
  | c :: r, bs, hl, q => by
    simp only [List.length_cons] at hl
    refine ⟨_, rfl, c, rfl, ?_⟩
    have e : (bs.map D.bl) ++ [D.bl (decide (c ∈ letters.cps.toList))] = (bs ++ [decide (c ∈ letters.cps.toList)]).map D.bl := by rw [List.map_append]; rfl
    show dComp _ _ _ _ _ _ _ (r.map fun c => D.str (sg1 c)) ((bs.map D.bl) ++ [D.bl (decide (c ∈ letters.cps.toList))]) M
    rw [e]
    refine comp_in r _ (by rw [List.length_append, List.length_singleton]; omega) ?_
    rw [List.append_assoc]
    exact q
theorem comp_out {δ0 : Option D} {k : List D → Mp → Prop} {M : Mp} : ∀ (cs bs : List Nat), bs.length + cs.length ≤ 5000 → k ((bs ++ cs.filter fun c => !decide (c ∈ letters.cps.toList)).map fun c => D.str (sg1 c)) M →
    dComp (.one 1) (dTest (dOp dNotInS (dVar 1) (dC (.str letters)))) (dVar 1) .data [1] [δ0, none] k (cs.map fun c => D.str (sg1 c)) (bs.map fun c => D.str (sg1 c)) M
  | [], bs, hl, q => by
    refine ⟨?_, ?_⟩
    · rw [List.length_map]; exact Nat.le_trans hl (by decide)
    · rw [List.filter_nil, List.append_nil] at q; exact q
  | c :: r, bs, hl, q => by
    simp only [List.length_cons] at hl
    refine ⟨_, rfl, c, rfl, ?_⟩
    refine br2 (fun e => ?_) (fun e => ?_)
    · refine ⟨_, rfl, ?_⟩
      have e2 : (bs.map fun c => D.str (sg1 c)) ++ [D.str (sg1 c)] = (bs ++ [c]).map fun c => D.str (sg1 c) := by rw [List.map_append]; rfl
      show dComp _ _ _ _ _ _ _ (r.map fun c => D.str (sg1 c)) ((bs.map fun c => D.str (sg1 c)) ++ [D.str (sg1 c)]) M
      rw [e2]
      refine comp_out r _ (by rw [List.length_append, List.length_singleton]; omega) ?_
      rw [List.filter_cons, if_pos e] at q
      rw [List.append_assoc]
      exact q
    · refine comp_out r bs (by omega) ?_
      rw [List.filter_cons, if_neg (by rw [e]; exact Bool.false_ne_true)] at q
      exact q
theorem sl_of {s : Str} (h : s.length ≤ 2000) : s.length ≤ sizeLine := Nat.le_trans h (by decide)
theorem cl_of {s : Str} (h : s.length ≤ 2000) : s.cps.toList.length ≤ 2000 := by simpa [Str.length] using h
theorem is_whole_ok : ∀ ds M Qd Ed, spW ds M Qd Ed → rIsWhole (ends Qd Ed) (dstart ["thing", "low", "high"] ds) M := by
  intro ds M Qd Ed h
  obtain ⟨d, l, h, rfl, th, q⟩ := h
  cases d with
  | non => exact ⟨_, rfl, q⟩
  | bl b => exact ⟨_, rfl, _, rfl, q⟩
  | int i =>
    refine ⟨_, rfl, _, rfl, _, rfl, _, rfl, ?_⟩
    refine br2 (fun e => ?_) (fun e => ?_)
    · refine ⟨_, rfl, ?_⟩
      have e2 : wholeD (.int i) l h = decide (i ≤ h) := by simp [wholeD, of_decide_eq_true e]
      rw [e2] at q
      exact q
    · have e2 : wholeD (.int i) l h = false := by simp [wholeD, of_decide_eq_false e]
      rw [e2] at q
      exact q
  | str s => exact ⟨_, rfl, q⟩
  | lst s => exact ⟨_, rfl, q⟩
  | tup s => exact ⟨_, rfl, q⟩
  | dct s => exact ⟨_, rfl, q⟩
  | ref a =>
    obtain ⟨m, e, th⟩ := th
    cases m <;> first | exact th.elim | exact ⟨_, rfl, _, e, q⟩
  | sq s => exact th.elim
  | ty n => exact th.elim
  | ins C fs => exact th.elim
theorem is_name_ok : ∀ ds M Qd Ed, spN ds M Qd Ed → rIsName (ends Qd Ed) (dstart ["thing", "sign"] ds) M := by
  intro ds M Qd Ed h
  obtain ⟨d, rfl, th, q⟩ := h
  cases d with
  | str s =>
    have hs := cl_of th.1
    refine ⟨_, rfl, _, rfl, sl_of th.1, ?_⟩
    refine br2 (fun e => ?_) (fun e => ?_)
    · have e := of_decide_eq_true e
      refine br2 (fun e2 => ?_) (fun e2 => ?_)
      · have e2 := of_decide_eq_true e2
        refine ⟨_, rfl, ?_, ?_⟩
        · show (sgn s).length < sizeLine
          unfold sgn
          rw [List.length_map]
          exact Nat.lt_of_le_of_lt hs (by decide)
        · refine comp_in s.cps.toList [] (by rw [List.length_nil]; omega) ⟨_, rfl, ?_⟩
          have e3 : nameD (.str s) = (([] ++ s.cps.toList.map fun c => decide (c ∈ letters.cps.toList)).all id) := by
            dsimp only [nameD]
            rw [List.nil_append, List.all_map, decide_eq_true (by omega : 1 ≤ s.length), decide_eq_true (by omega : s.length ≤ 8)]
            rfl
          rw [e3] at q
          exact q
      · have e2 := of_decide_eq_false e2
        have e3 : nameD (.str s) = false := by
          dsimp only [nameD]
          rw [decide_eq_false (by omega : ¬ s.length ≤ 8), Bool.and_false, Bool.false_and]
        rw [e3] at q
        exact q
    · have e := of_decide_eq_false e
      have e3 : nameD (.str s) = false := by
        dsimp only [nameD]
        rw [decide_eq_false (by omega : ¬ 1 ≤ s.length), Bool.false_and, Bool.false_and]
      rw [e3] at q
      exact q
  | non => exact ⟨_, rfl, q⟩
  | bl b => exact ⟨_, rfl, q⟩
  | int i => exact ⟨_, rfl, q⟩
  | lst s => exact ⟨_, rfl, q⟩
  | tup s => exact ⟨_, rfl, q⟩
  | dct s => exact ⟨_, rfl, q⟩
  | ref a =>
    obtain ⟨m, e, th⟩ := th
    cases m <;> first | exact th.elim | exact ⟨_, rfl, _, e, q⟩
  | sq s => exact th.elim
  | ty n => exact th.elim
  | ins C fs => exact th.elim
theorem law_whole2_ok : ∀ ds M Qd Ed, spW2 ds M Qd Ed → rLawWhole2 (ends Qd Ed) (dstart ["thing", "high"] ds) M := by
  intro ds M Qd Ed h
  obtain ⟨d, h, rfl, th, q⟩ := h
  cases d with
  | int i =>
    refine ⟨_, rfl, _, rfl, _, rfl, ?_⟩
    refine br2 (fun e => ?_) (fun e => ?_)
    · refine ⟨_, rfl, ?_⟩
      rw [show wholeD (.int i) 0 h = decide (i ≤ h) from by simp [wholeD, of_decide_eq_true e]] at q
      exact q
    · rw [show wholeD (.int i) 0 h = false from by simp [wholeD, of_decide_eq_false e]] at q
      exact q
  | bl b => exact ⟨_, rfl, _, rfl, q⟩
  | ref a =>
    obtain ⟨m, e, th⟩ := th
    cases m <;> first | exact th.elim | exact ⟨_, rfl, _, e, q⟩
  | sq s => exact th.elim
  | ty n => exact th.elim
  | ins C fs => exact th.elim
  | _ => exact ⟨_, rfl, q⟩
theorem name_filter : ∀ cs : List Nat, (cs.all fun c => decide (c ∈ letters.cps.toList)) = PyData.eqvAll (pyS (cs.filter fun c => !decide (c ∈ letters.cps.toList))) []
  | [] => rfl
  | c :: r => by
    rw [List.all_cons]
    cases hc : decide (c ∈ letters.cps.toList) with
    | true => rw [List.filter_cons, if_neg (by rw [hc]; exact Bool.false_ne_true), Bool.true_and]; exact name_filter r
    | false => rw [List.filter_cons, if_pos (by rw [hc]; rfl), Bool.false_and]; rfl
theorem law_name_ok : ∀ ds M Qd Ed, spN ds M Qd Ed → rLawName (ends Qd Ed) (dstart ["thing", "sign"] ds) M := by
  intro ds M Qd Ed h
  obtain ⟨d, rfl, th, q⟩ := h
  cases d with
  | str s =>
    have hs := cl_of th.1
    refine ⟨_, rfl, ?_⟩
    refine ⟨_, rfl, sl_of th.1, ?_⟩
    have no : ¬ (1 ≤ s.length ∧ s.length ≤ 8) → Qd (.bl false) M := fun n => by
      rw [show nameD (.str s) = false from by
        dsimp only [nameD]
        by_cases h1 : 1 ≤ s.length
        · rw [decide_eq_false (by omega : ¬ s.length ≤ 8), Bool.and_false, Bool.false_and]
        · rw [decide_eq_false h1, Bool.false_and, Bool.false_and]] at q
      exact q
    refine br2 (fun e => ?_) (fun e => ?_)
    · have e := of_decide_eq_true e
      refine br2 (fun e2 => no (by have : ¬ ((s.length : Int) ≤ 8) := by simpa using e2
                                   omega)) (fun e2 => ?_)
      · have e2 : (s.length : Int) ≤ 8 := by simpa using e2
        refine ⟨_, rfl, ?_, ?_⟩
        · show (sgn s).length < sizeLine
          unfold sgn
          rw [List.length_map]
          exact Nat.lt_of_le_of_lt hs (by decide)
        · refine comp_out s.cps.toList [] (by rw [List.length_nil]; omega) ⟨(by show 0 ≤ sizeLine; decide), ?_⟩
          refine ⟨.list (pyS _), .list [], .lst (pyOf_row _), .lst .nil, row_shaped fun c hc => th.2 c ?_, by decide, ?_⟩
          · rw [List.nil_append] at hc
            exact (List.mem_filter.mp hc).1
          · have e3 : nameD (.str s) = PyData.eqv (.list (pyS ([] ++ s.cps.toList.filter fun c => !decide (c ∈ letters.cps.toList)))) (.list []) := by
              dsimp only [nameD]
              rw [List.nil_append, decide_eq_true (by omega : 1 ≤ s.length), decide_eq_true (by omega : s.length ≤ 8)]
              exact name_filter s.cps.toList
            rw [e3] at q
            exact q
    · have e := of_decide_eq_false e
      exact no (by omega)
  | non => exact ⟨_, rfl, q⟩
  | bl b => exact ⟨_, rfl, q⟩
  | int i => exact ⟨_, rfl, q⟩
  | lst s => exact ⟨_, rfl, q⟩
  | tup s => exact ⟨_, rfl, q⟩
  | dct s => exact ⟨_, rfl, q⟩
  | ref a =>
    obtain ⟨m, e, th⟩ := th
    cases m <;> first | exact th.elim | exact ⟨_, rfl, _, e, q⟩
  | sq s => exact th.elim
  | ty n => exact th.elim
  | ins C fs => exact th.elim
/-! ## the drawing defs -/
def rBag : DTS := dRet (dLstM (dCons (dCB dMax (dCons (dC (.int 0)) (dCons (dOp dSub (dVar 0) (dOp dPow (dC (.int 10)) (dC (.int 18)))) (dNil)))) (dCons (dOp dMod (dVar 0) (dC (.int 2147483629))) (dCons (dC (.int 0)) (dNil)))))
theorem bag_ok : ∀ ds M Qd Ed, spBag ds M Qd Ed → rBag (ends Qd Ed) (dstart ["_law_cell_here"] ds) M := by
  intro ds M Qd Ed h
  obtain ⟨c, rfl, q⟩ := h
  refine ⟨_, rfl, ⟨by decide, by decide, by decide⟩, _, rfl, (by show (0 : Int) < 2147483629; decide), (by show 3 ≤ sizeLine; decide), fun p hp => ?_⟩
  refine q p _ hp (fun a o ne e => by rw [updM_ne ne]; exact e) ⟨_, _, _, updM_same, ?_, ?_, by decide, by decide⟩
  · exact Int.emod_nonneg _ (by decide)
  · exact Int.emod_lt_of_pos _ (by decide)
def rCell (x y : Int) : DTS := dSeq (dIf (dTest (dOp dLt (dVar 1) (dCB dLen (dCons (dVar 0) (dNil))))) (dRet (dOp dIx (dVar 0) (dVar 1))) (dNext))
  (dRet (dOp dAdd2 (dOp dAdd2 (dOp dMul (dC (.int x)) (dVar 1)) (dC (.int y))) (dOp dMod (dCB dSum (dCons (dSlA dSl4 (dVar 0) (oNone) (oSome (dC (.int 1)))) (dNil))) (dC (.int 1000003)))))
theorem cell_ok (x y : Int) (hx : 0 ≤ x) (hx1 : x < 2 ^ 30) : ∀ ds M Qd Ed, spCell ds M Qd Ed → rCell x y (ends Qd Ed) (dstart ["_law_script", "_law_k"] ds) M := by
  intro ds M Qd Ed h
  obtain ⟨ns, k, rfl, k0, k1, hl, q⟩ := h
  refine ⟨_, rfl, _, rfl, ?_⟩
  refine br2 (fun e => ?_) (fun e => ?_)
  · have e := of_decide_eq_true e
    obtain ⟨d, h1, h2⟩ := at_some k0 e
    obtain ⟨i, _, rfl⟩ := List.mem_map.mp h2
    exact ⟨_, rfl, _, rfl, _, h1, q i⟩
  · refine ⟨_, rfl, cmul hx hx1 (by omega) (by omega), _, rfl, ?_⟩
    obtain ⟨ms, hm⟩ := cut_map (ns := ns) (lo := none) (hi := some 1)
    exact ⟨ms, hm, (by show (0 : Int) < 1000003; decide), q _⟩
def rTake (x y z : Int) : DTS := dSeq (dIf (dTest (dOp dGt (dOp dIx (dVar 0) (dC (.int 0))) (dC (.int 0)))) (dSeq (dAsg (dOp dMod (dOp dIx (dVar 0) (dC (.int 0))) (dVar 1)) (gdName 2))
  (dSeq (dAsg (dOp dDiv (dOp dIx (dVar 0) (dC (.int 0))) (dVar 1)) (gdSubL (dVar 0) (dC (.int 0))))
  (dRet (dVar 2)))) (dNext))
  (dSeq (dAsg (dOp dAdd2 (dOp dIx (dVar 0) (dC (.int 2))) (dC (.int 1))) (gdSubL (dVar 0) (dC (.int 2))))
  (dSeq (dAsg (dOp dMod (dOp dPow (dOp dAdd2 (dOp dAdd2 (dOp dIx (dVar 0) (dC (.int 1))) (dOp dMul (dC (.int x)) (dOp dIx (dVar 0) (dC (.int 2))))) (dC (.int y))) (dC (.int 5))) (dC (.int 2147483647))) (gdName 3))
  (dSeq (dAsg (dOp dMod (dOp dPow (dOp dAdd2 (dVar 3) (dOp dMul (dC (.int z)) (dOp dIx (dVar 0) (dC (.int 2))))) (dC (.int 3))) (dC (.int 2147483587))) (gdName 3))
  (dRet (dOp dMod (dOp dDiv (dVar 3) (dC (.int 16))) (dVar 1))))))
theorem mul_bd {x z : Int} {n : Nat} (hx : 0 ≤ x) (hx1 : x < 2 ^ 30) (z0 : 0 ≤ z) (z1 : z ≤ 2 ^ 20) : 0 ≤ x * z ∧ x * z < 2 ^ 51 := by
  refine ⟨Int.mul_nonneg hx z0, ?_⟩
  have h1 : x * z ≤ 2 ^ 30 * z := Int.mul_le_mul_of_nonneg_right (by omega) z0
  omega
theorem take_ok (x y z : Int) (hx : 0 ≤ x) (hx1 : x < 2 ^ 30) (hy : 0 ≤ y) (hy1 : y < 2 ^ 30) (hz : 0 ≤ z) (hz1 : z < 2 ^ 30) : ∀ ds M Qd Ed, spTake ds M Qd Ed → rTake x y z (ends Qd Ed) (dstart ["_law_bag_here", "_law_below", "_law_digit", "_law_number"] ds) M := by
  intro ds M Qd Ed h
  obtain ⟨b, w, n, rfl, ⟨x0, y0, z0, hb, y00, y01, z00, z01⟩, hn, w0, w1, q⟩ := h
  refine ⟨_, rfl, _, hb, _, rfl, ?_⟩
  refine br2 (fun e => ?_) (fun e => ?_)
  · refine ⟨_, rfl, _, hb, _, rfl, _, rfl, w0, ?_⟩
    refine ⟨_, rfl, _, hb, _, rfl, _, rfl, cdiv w0 w1, ?_⟩
    refine ⟨_, rfl, _, hb, _, rfl, _, rfl, ?_⟩
    exact q _ _ (fun a o ne e => by rw [updM_ne ne]; exact e) ⟨_, _, _, updM_same, y00, y01, z00, by omega⟩ (Int.emod_nonneg _ (by omega)) (Int.emod_lt_of_pos _ w0)
  · refine ⟨_, rfl, _, hb, _, rfl, ?_⟩
    refine ⟨_, rfl, _, hb, _, rfl, ?_⟩
    have hb2 : updM M b (.lst [.int x0, .int y0, .int (z0 + 1)]) b = some (.lst [.int x0, .int y0, .int (z0 + 1)]) := updM_same
    have m1 := mul_bd (n := 0) hx hx1 (by omega : 0 ≤ z0 + 1) (by omega)
    have m2 := mul_bd (n := 0) hz hz1 (by omega : 0 ≤ z0 + 1) (by omega)
    refine ⟨_, rfl, _, hb2, _, rfl, _, rfl, _, hb2, _, rfl, cmul hx hx1 (by omega) (by omega), ?_⟩
    refine ⟨cpow (by omega) (by omega) (by decide) (by decide), (by show (0 : Int) < 2147483647; decide), ?_⟩
    have r1 : ∀ t : Int, 0 ≤ t % 2147483647 ∧ t % 2147483647 < 2147483647 := fun t => ⟨Int.emod_nonneg _ (by decide), Int.emod_lt_of_pos _ (by decide)⟩
    generalize hm : (y0 + x * (z0 + 1) + y) ^ (5 : Int).toNat % 2147483647 = m
    have hm2 : 0 ≤ m ∧ m < 2147483647 := by rw [← hm]; exact r1 _
    refine ⟨_, rfl, _, rfl, _, hb2, _, rfl, cmul hz hz1 (by omega) (by omega), ?_⟩
    refine ⟨cpow (by omega) (by omega) (by decide) (by decide), (by show (0 : Int) < 2147483587; decide), ?_⟩
    refine ⟨_, rfl, cdiv (by decide) (by decide), _, rfl, w0, ?_⟩
    exact q _ _ (fun a o ne e => by rw [updM_ne ne]; exact e) ⟨_, _, _, updM_same, y00, y01, by omega, by omega⟩ (Int.emod_nonneg _ (by omega)) (Int.emod_lt_of_pos _ w0)
end DL

set_option Elab.async false
set_option linter.all false
set_option maxRecDepth 100000
namespace DL
open PySem L2
/-! ## texts as lists of signs; drawn names -/
theorem str_len (s : Str) : s.length = s.cps.toList.length := by simp [Str.length]
theorem str_app (s t : Str) : (s ++ t).cps.toList = s.cps.toList ++ t.cps.toList := TL.tl_append s t
theorem cut_to {z : Str} {a : Int} (h : 0 ≤ a) : (cutS z none (some a)).cps.toList = z.cps.toList.take a.toNat := by
  obtain ⟨k, rfl⟩ := Int.eq_ofNat_of_zero_le h
  have e : (cutS z none (some (k : Int))).cps.toList = (z.cps.toList.drop (HT.sIx z.length 0 none)).take (HT.sIx z.length z.length (some (k : Int)) - HT.sIx z.length 0 none) := by simp [cutS]
  rw [e, HT.sIx_nat, HT.sIx_none, List.drop_zero, Nat.sub_zero, str_len]
  rw [List.take_eq_take_iff]
  omega
theorem cut_from {z : Str} {a : Int} (h : 0 ≤ a) : (cutS z (some a) none).cps.toList = z.cps.toList.drop a.toNat := by
  obtain ⟨k, rfl⟩ := Int.eq_ofNat_of_zero_le h
  have e : (cutS z (some (k : Int)) none).cps.toList = (z.cps.toList.drop (HT.sIx z.length 0 (some (k : Int)))).take (HT.sIx z.length z.length none - HT.sIx z.length 0 (some (k : Int))) := by simp [cutS]
  rw [e, HT.sIx_nat, HT.sIx_none, str_len]
  show _ = z.cps.toList.drop k
  by_cases hk : k ≤ z.cps.toList.length
  · rw [Nat.min_eq_left hk]
    rw [List.take_of_length_le (by rw [List.length_drop]; exact Nat.le_refl _)]
  · rw [Nat.min_eq_right (by omega), List.drop_eq_nil_of_le (Nat.le_refl _), List.drop_eq_nil_of_le (by omega), List.take_nil]
def Lt (s : Str) : Prop := ∀ c ∈ s.cps.toList, c ∈ letters.cps.toList
def Nm (s : Str) : Prop := 1 ≤ s.length ∧ s.length ≤ 8 ∧ Lt s
theorem Nm.name {s : Str} (h : Nm s) : nameD (.str s) = true := by
  obtain ⟨a, b, c⟩ := h
  show (decide (1 ≤ s.length) && decide (s.length ≤ 8) && s.cps.toList.all (fun c => decide (c ∈ letters.cps.toList))) = true
  rw [decide_eq_true a, decide_eq_true b, Bool.true_and, Bool.true_and, List.all_eq_true]
  exact fun x hx => decide_eq_true (c x hx)
theorem Lt.ok {s : Str} (h : Lt s) : Ok s := fun c hc => letters_ok c (h c hc)
theorem Nm.th {s : Str} (h : Nm s) {M : Mp} : Th M (.str s) := ⟨by have := h.2.1; omega, h.2.2.ok⟩
theorem Lt.to {s : Str} (h : Lt s) {a : Int} (ha : 0 ≤ a) : Lt (cutS s none (some a)) := fun c hc => by rw [cut_to ha] at hc; exact h c (List.mem_of_mem_take hc)
theorem Lt.from {s : Str} (h : Lt s) {a : Int} (ha : 0 ≤ a) : Lt (cutS s (some a) none) := fun c hc => by rw [cut_from ha] at hc; exact h c (List.mem_of_mem_drop hc)
theorem Lt.app {s t : Str} (h : Lt s) (k : Lt t) : Lt (s ++ t) := fun c hc => by rw [str_app] at hc; exact (List.mem_append.mp hc).elim (h c) (k c)
theorem Lt.one {c : Nat} (h : c ∈ letters.cps.toList) : Lt (sg1 c) := fun x hx => by
  have : x = c := by simpa using hx
  rw [this]; exact h
theorem to_len {s : Str} {a : Int} (ha : 0 ≤ a) : (cutS s none (some a)).length = min a.toNat s.length := by rw [str_len, cut_to ha, List.length_take, str_len]
theorem from_len {s : Str} {a : Int} (ha : 0 ≤ a) : (cutS s (some a) none).length = s.length - a.toNat := by rw [str_len, cut_from ha, List.length_drop, str_len]
theorem big_line {m : Nat} (h : m ≤ 10000) : m ≤ sizeLine := Nat.le_trans h (by decide)
theorem letters_len : letters.cps.toList.length = 26 := by decide +kernel
theorem letters_size : letters.length ≤ sizeLine := by decide +kernel
def spNames (cost : Nat) : DSp := fun ds M Q _ => ∃ (b : Addr) (sz : Int) (n : Nat), ds = [.ref b, .int sz] ∧ Bag M b n ∧ n < 900000 ∧ 0 ≤ sz ∧ sz ≤ 100 ∧ ∀ (M' : Mp) (ss : List Str), But b M M' → Bag M' b (n + cost) → (ss.length : Int) = sz → (∀ s ∈ ss, Nm s) → Q (.lst (ss.map D.str)) M'
theorem len_spNames {c : Nat} : ∀ ds M Q E, spNames c ds M Q E → ds.length = 2 := fun _ _ _ _ h => by obtain ⟨_, _, _, rfl, _⟩ := h; rfl
/-- letters drawn one by one: the element is letters at a take of 26, letters in slot j, the bag in slot 0 -/
theorem comp_draw {b : Addr} {i j : Nat} {δ : DS} {k : List D → Mp → Prop} (h0 : (dwipe δ [i])[0]? = some (some (.ref b))) (hj : (dwipe δ [i])[j]? = some (some (.str letters))) (hi0 : i ≠ 0) (hij : i ≠ j) : ∀ (xs : List D) (cs : List Nat) (M : Mp) (n : Nat), Bag M b n → n + xs.length < 950000 → (∀ c ∈ cs, c ∈ letters.cps.toList) → cs.length + xs.length ≤ 100 →
    (∀ M' (cs' : List Nat), But b M M' → Bag M' b (n + xs.length) → cs'.length = cs.length + xs.length → (∀ c ∈ cs', c ∈ letters.cps.toList) → k (cs'.map fun c => D.str (sg1 c)) M') →
    dComp (.one i) dYes (dOp dIx (dVar j) (dCall spTake (dCons (dVar 0) (dCons (dC (.int 26)) dNil)))) .data [i] δ k xs (cs.map fun c => D.str (sg1 c)) M
  | [], cs, M, n, hb, hn, hc, hl, q => by
    refine ⟨?_, q M cs (But.refl b M) hb rfl hc⟩
    rw [List.length_map]
    exact big_line (by simp only [List.length_nil] at hl; omega)
  | x :: r, cs, M, n, hb, hn, hc, hl, q => by
    simp only [List.length_cons] at hn hl q
    have g0 : ((dwipe δ [i]).set i (some x))[0]? = some (some (.ref b)) := by rw [List.getElem?_set_ne hi0]; exact h0
    have gj : ((dwipe δ [i]).set i (some x))[j]? = some (some (.str letters)) := by rw [List.getElem?_set_ne hij]; exact hj
    refine ⟨_, gj, _, g0, b, 26, n, rfl, hb, by omega, by decide, by decide, fun M1 d s1 hb1 d0 d26 => ?_⟩
    obtain ⟨c, h1, h2⟩ := at_some (xs := letters.cps.toList) d0 (by rw [letters_len]; exact d26)
    refine ⟨letters_size, c, h1, ?_⟩
    have e : (cs.map fun c => D.str (sg1 c)) ++ [D.str (sg1 c)] = (cs ++ [c]).map fun c => D.str (sg1 c) := by rw [List.map_append]; rfl
    show dComp _ _ _ _ _ _ _ r ((cs.map fun c => D.str (sg1 c)) ++ [D.str (sg1 c)]) M1
    rw [e]
    refine comp_draw h0 hj hi0 hij r (cs ++ [c]) M1 (n + 1) hb1 (by omega) (fun y hy => ?_) (by rw [List.length_append, List.length_singleton]; omega) fun M' cs' t1 t2 t3 t4 => ?_
    · rcases List.mem_append.mp hy with hy | hy
      · exact hc y hy
      · rw [List.mem_singleton.mp hy]; exact h2
    · refine q M' cs' (s1.trans t1) (t2.mono (by omega)) ?_ t4
      rw [t3, List.length_append, List.length_singleton]
      omega
theorem comp_rec {i : Nat} {te : DTE} {δ : DS} {k : List D → Mp → Prop} (J : List D → List D → Mp → Prop) (fin : ∀ acc M, J [] acc M → acc.length ≤ sizeLine ∧ k acc M)
    (step : ∀ x r acc M (R : DK), J (x :: r) acc M → (∀ y M', J r (acc ++ [y]) M' → R y M') → te ((dwipe δ [i]).set i (some x)) M R E0d) : ∀ xs acc M, J xs acc M → dComp (.one i) dYes te .data [i] δ k xs acc M
  | [], acc, M, j => fin acc M j
  | x :: r, acc, M, j => step x r acc M _ j fun y M' j' => comp_rec J fin step r (acc ++ [y]) M' j'
theorem loop_rec {g : DTG} {tb : DTS} {Dd : DEnds} (J : List D → DS → Mp → Prop) (fin : ∀ δ M, J [] δ M → Dd.nx δ M)
    (step : ∀ x r δ M (N : DS → Mp → Prop), J (x :: r) δ M → (∀ δ' M', J r δ' M' → N δ' M') → g x δ M (fun δ1 M1 => tb { Dd with nx := N, ct := N, bk := Dd.nx } δ1 M1) (fun c fo M' => Dd.ex c fo δ M')) : ∀ xs δ M, J xs δ M → dLoop g tb .data xs Dd δ M
  | [], δ, M, j => fin δ M j
  | x :: r, δ, M, j => step x r δ M _ j fun δ' M' j' => loop_rec J fin step r δ' M' j'
theorem rng_len (lo : Int) (n : Nat) : (rngD lo n).length = n := by simp [rngD]
theorem rng_mem {lo : Int} {n : Nat} {d : D} (h : d ∈ rngD lo n) : ∃ k : Int, d = .int k ∧ lo ≤ k ∧ k < lo + n := by
  obtain ⟨i, hi, rfl⟩ := List.mem_map.mp h
  have := List.mem_range.mp hi
  exact ⟨_, rfl, by omega, by omega⟩
theorem map_snoc {α : Type} (f : α → D) (xs : List α) (x : α) : xs.map f ++ [f x] = (xs ++ [x]).map f := by rw [List.map_append]; rfl
/-- names made one by one, without drawing -/
theorem comp_names {i : Nat} {te : DTE} {δ : DS} {k : List D → Mp → Prop} {M : Mp} {N : Nat} (hN : N ≤ 100) (el : ∀ (j : Int) (R : DK), 0 ≤ j → j < 100 → (∀ s, Nm s → R (.str s) M) → te ((dwipe δ [i]).set i (some (.int j))) M R E0d)
    (q : ∀ ss : List Str, ss.length = N → (∀ s ∈ ss, Nm s) → k (ss.map D.str) M) : dComp (.one i) dYes te .data [i] δ k (rngD 0 N) [] M := by
  refine comp_rec (fun r acc M' => M' = M ∧ (∀ d ∈ r, ∃ j : Int, d = .int j ∧ 0 ≤ j ∧ j < 100) ∧ ∃ ss : List Str, acc = ss.map D.str ∧ (∀ s ∈ ss, Nm s) ∧ ss.length + r.length = N) (fun acc M' j => ?_) (fun x r acc M' R j h => ?_) _ _ _ ⟨rfl, fun d hd => ?_, [], rfl, (fun _ z => nomatch z), by rw [List.length_nil, rng_len]; omega⟩
  · obtain ⟨rfl, _, ss, rfl, h1, h2⟩ := j
    rw [List.length_nil] at h2
    exact ⟨by rw [List.length_map]; exact big_line (by omega), q ss (by omega) h1⟩
  · obtain ⟨rfl, hr, ss, rfl, h1, h2⟩ := j
    obtain ⟨j, rfl, j0, j1⟩ := hr x List.mem_cons_self
    refine el j R j0 j1 fun s hs => h _ _ ⟨rfl, fun d hd => hr d (List.mem_cons_of_mem _ hd), ss ++ [s], map_snoc D.str ss s, fun y hy => ?_, ?_⟩
    · rcases List.mem_append.mp hy with hy | hy
      · exact h1 y hy
      · rw [List.mem_singleton.mp hy]; exact hs
    · rw [List.length_append, List.length_singleton]
      rw [List.length_cons] at h2
      omega
  · obtain ⟨j, rfl, j0, j1⟩ := rng_mem hd
    exact ⟨j, rfl, by omega, by omega⟩
end DL

set_option Elab.async false
set_option linter.all false
set_option maxRecDepth 100000
set_option maxHeartbeats 4000000
namespace DL
open PySem L2
/-! ## names drawn, the first way -/
def rNamesA : DTS :=
  dSeq (dAsg (dC (.str letters)) (gdName 2))
  (dSeq (dAsg (dCall spTake (dCons (dVar 0) (dCons (dC (.int 3)) (dNil)))) (gdName 3))
  (dSeq (dAsg (dCall spTake (dCons (dVar 0) (dCons (dC (.int 26)) (dNil)))) (gdName 4))
  (dSeq (dAsg (dOp dIx (dLst (dCons (dC (.int 1)) (dCons (dC (.int 5)) (dCons (dC (.int 7)) (dCons (dC (.int 11)) (dNil)))))) (dCall spTake (dCons (dVar 0) (dCons (dC (.int 4)) (dNil))))) (gdName 5))
  (dSeq (dAsg (dJoin (dC (.str "")) (dLc (iR1 (dCons (dC (.int 7)) (dNil))) (.one 10) dYes (dOp dIx (dVar 2) (dCall spTake (dCons (dVar 0) (dCons (dC (.int 26)) (dNil))))) [10])) (gdName 6))
  (dSeq (dAsg (dCall spTake (dCons (dVar 0) (dCons (dC (.int 8)) (dNil)))) (gdName 7))
  (dSeq (dIf (dTest (dOp dEq (dVar 3) (dC (.int 0)))) (dRet (dLc (iR1 (dCons (dVar 1) (dNil))) (.one 10) dYes (dOp dAdd2 (dOp dIx (dVar 2) (dVar 4)) (dSlA dSl4 (dVar 6) (oNone) (oSome (dOp dMod (dOp dAdd2 (dVar 7) (dOp dMul (dC (.int 3)) (dVar 10))) (dC (.int 8)))))) [10])) (dNext))
  (dSeq (dAsg (dSlA dSl4 (dVar 6) (oNone) (oSome (dCall spTake (dCons (dVar 0) (dCons (dC (.int 8)) (dNil)))))) (gdName 6))
  (dSeq (dAsg (dTup (dCons (dSlA dSl4 (dVar 6) (oNone) (oSome (dVar 7))) (dCons (dSlA dSl4 (dVar 6) (oSome (dVar 7)) (oNone)) (dNil)))) (gdTup 2 (gdNames [8, 9])))
  (dRet (dLc (iR1 (dCons (dVar 1) (dNil))) (.one 10) dYes (dOp dAdd2 (dOp dAdd2 (dVar 8) (dOp dIx (dVar 2) (dOp dMod (dOp dAdd2 (dVar 4) (dOp dMul (dVar 5) (dVar 10))) (dC (.int 26))))) (dVar 9)) [10]))))))))))
theorem sg_len (c : Nat) : (sg1 c).length = 1 := rfl
theorem letter_at {i : Int} (h0 : 0 ≤ i) (h1 : i < 26) : ∃ c, atI letters.cps.toList i = some c ∧ c ∈ letters.cps.toList := at_some h0 (by rw [letters_len]; exact h1)
theorem names_a : ∀ ds M Qd Ed, spNames 14 ds M Qd Ed → rNamesA (ends Qd Ed) (dstart ["_law_bag_here", "_law_size", "_law_letters", "_law_way", "_law_first", "_law_step", "_law_stem", "_law_at", "_law_head", "_law_tail", "_law_k"] ds) M := by
  intro ds M Qd Ed h
  obtain ⟨b, sz, n, rfl, hb, hn, s0, s8, q⟩ := h
  refine ⟨_, rfl, b, 3, n, rfl, hb, by omega, by decide, by decide, fun M1 way s1 hb1 w0 w1 => ?_⟩
  refine ⟨_, rfl, b, 26, n + 1, rfl, hb1, by omega, by decide, by decide, fun M2 fi s2 hb2 f0 f1 => ?_⟩
  refine ⟨(by show 4 ≤ sizeLine; decide), _, rfl, b, 4, n + 2, rfl, hb2, by omega, by decide, by decide, fun M3 v s3 hb3 v0 v1 => ?_⟩
  obtain ⟨st, e1, st0, st1⟩ : ∃ s : Int, atI [D.int 1, .int 5, .int 7, .int 11] v = some (.int s) ∧ 0 ≤ s ∧ s ≤ 11 := by
    rcases (by omega : v = 0 ∨ v = 1 ∨ v = 2 ∨ v = 3) with rfl | rfl | rfl | rfl <;> exact ⟨_, rfl, by decide, by decide⟩
  refine ⟨_, e1, ?_⟩
  refine ⟨⟨by decide, by decide⟩, (by show (rngD 0 7).length < sizeLine; decide +kernel), ?_⟩
  refine comp_draw (b := b) (i := 10) (j := 2) rfl rfl (by decide) (by decide) (rngD 0 7) [] M3 (n + 3) hb3 (by rw [rng_len]; omega) (fun _ z => nomatch z) (by rw [rng_len]; decide) fun M4 cs s4 hb4 l4 hc => ?_
  rw [rng_len] at hb4 l4
  simp only [List.length_nil, Nat.zero_add] at l4
  refine ⟨cs.map sg1, by rw [List.map_map]; rfl, ?_, ?_⟩
  · rw [sum_len, List.length_map, l4]; decide
  have lt : Lt (Txt.join "" (cs.map sg1)) := fun c h => by rw [join_cps] at h; exact hc c h
  have ll : (Txt.join "" (cs.map sg1)).length = 7 := by rw [join_len, l4]
  generalize Txt.join "" (cs.map sg1) = stem at *
  refine ⟨_, rfl, b, 8, n + 10, rfl, hb4, by omega, by decide, by decide, fun M5 at5 s5 hb5 a0 a1 => ?_⟩
  have s5 := (((s1.trans s2).trans s3).trans s4).trans s5
  have e100 : sz.toNat ≤ 100 := by omega
  have rl : ∀ k : Nat, k ≤ 100 → (rngD 0 k).length < sizeLine := fun k hk => by rw [rng_len]; exact Nat.lt_of_le_of_lt hk (by decide)
  have m8 : ∀ t : Int, 0 ≤ t % 8 ∧ t % 8 < 8 := fun t => ⟨Int.emod_nonneg _ (by decide), Int.emod_lt_of_pos _ (by decide)⟩
  have m26 : ∀ t : Int, 0 ≤ t % 26 ∧ t % 26 < 26 := fun t => ⟨Int.emod_nonneg _ (by decide), Int.emod_lt_of_pos _ (by decide)⟩
  refine ⟨_, rfl, ?_⟩
  refine br2 (fun e => ?_) (fun e => ?_)
  · refine ⟨_, rfl, ⟨by omega, by omega⟩, rl _ e100, ?_⟩
    refine comp_names e100 (fun j R j0 j1 h => ?_) (fun ss hl hs => q M5 ss s5 (hb5.mono (by omega)) (by omega) hs)
    obtain ⟨c, c1, c2⟩ := letter_at f0 f1
    refine ⟨_, rfl, _, rfl, letters_size, c, c1, _, rfl, _, rfl, _, rfl, cmul (by decide) (by decide) (by omega) (by omega), (by show (0 : Int) < 8; decide), big_line (by omega), ?_, h _ ?_⟩
    · rw [sg_len, to_len (m8 _).1]; exact big_line (by omega)
    · refine ⟨?_, ?_, (Lt.one c2).app (lt.to (m8 _).1)⟩
      · rw [Str.length_append, sg_len]; omega
      · rw [Str.length_append, sg_len, to_len (m8 _).1]; omega
  · refine ⟨_, rfl, _, rfl, b, 8, n + 11, rfl, hb5, by omega, by decide, by decide, fun M6 c6 s6 hb6 c0 c1 => ?_⟩
    refine ⟨big_line (by omega), ?_⟩
    have lt2 := lt.to c0
    have ll2 : (cutS stem none (some c6)).length ≤ 7 := by rw [to_len c0]; omega
    generalize cutS stem none (some c6) = stm at *
    refine ⟨_, rfl, _, rfl, big_line (by omega), _, rfl, _, rfl, big_line (by omega), (by show 2 ≤ sizeLine; decide), rfl, rfl, ?_⟩
    have hd := to_len (s := stm) a0
    have tl := from_len (s := stm) a0
    refine ⟨_, rfl, ⟨by omega, by omega⟩, rl _ e100, ?_⟩
    refine comp_names e100 (fun j R j0 j1 h => ?_) (fun ss hl hs => q M6 ss (s5.trans s6) (hb6.mono (by omega)) (by omega) hs)
    have mb : 0 ≤ st * j ∧ st * j < 2000 := ⟨Int.mul_nonneg st0 j0, by
      have h1 : st * j ≤ 11 * j := Int.mul_le_mul_of_nonneg_right st1 j0
      omega⟩
    obtain ⟨c, c1, c2⟩ := letter_at (m26 (fi + st * j)).1 (m26 (fi + st * j)).2
    refine ⟨_, rfl, _, rfl, _, rfl, _, rfl, _, rfl, cmul st0 (by omega) (by omega) (by omega), (by show (0 : Int) < 26; decide), letters_size, c, c1, ?_, _, rfl, ?_, h _ ?_⟩
    · rw [sg_len]; exact big_line (by omega)
    · rw [Str.length_append, sg_len]; exact big_line (by omega)
    · refine ⟨?_, ?_, ((lt2.to a0).app (Lt.one c2)).app (lt2.from a0)⟩
      · rw [Str.length_append, Str.length_append, sg_len]; omega
      · rw [Str.length_append, Str.length_append, sg_len]; omega
end DL

set_option Elab.async false
set_option linter.all false
set_option maxRecDepth 100000
namespace DL
open PySem L2
/-! ## what is shown: more of it -/
def Ext (M M' : Mp) : Prop := ∀ a o, M a = some o → M' a = some o
theorem Ext.refl (M : Mp) : Ext M M := fun _ _ e => e
theorem Ext.trans {M M1 M2 : Mp} (h : Ext M M1) (k : Ext M1 M2) : Ext M M2 := fun a o e => k a o (h a o e)
theorem Ext.new {M : Mp} {p : Addr} {o : MO} (h : M p = none) : Ext M (updM M p o) := fun a u e => by
  rw [updM_ne (fun z => by rw [z, h] at e; cases e)]; exact e
theorem Ext.del {M M1 : Mp} {p : Addr} (h : M p = none) (k : Ext M M1) : Ext M (delM M1 p) := fun a u e => by
  rw [delM_ne (fun z => by rw [z, h] at e; cases e)]; exact k a u e
mutual
theorem ShOf.ext {M M' : Mp} (h : Ext M M') : ∀ {d : D} {t : Sh}, ShOf M d t → ShOf M' d t
  | _, _, .non => .non
  | _, _, .bl b => .bl b
  | _, _, .int l => .int l
  | _, _, .str l => .str l
  | _, _, .lst s => .lst (ShOfs.ext h s)
  | _, _, .sq s => .sq (ShOfs.ext h s)
  | _, _, .tup s => .tup (ShOfs.ext h s)
  | _, _, .dct a b => .dct (ShOfs.ext h a) (ShOfs.ext h b)
  | _, _, .lstM e s => .lstM (h _ _ e) (ShOfs.ext h s)
  | _, _, .dctM e a b => .dctM (h _ _ e) (ShOfs.ext h a) (ShOfs.ext h b)
theorem ShOfs.ext {M M' : Mp} (h : Ext M M') : ∀ {ds : List D} {ts : List Sh}, ShOfs M ds ts → ShOfs M' ds ts
  | _, _, .nil => .nil
  | _, _, .cons a b => .cons (ShOf.ext h a) (ShOfs.ext h b)
end
/-- d is shown by some tree of depth n at most, c signs at most -/
def Shw (M : Mp) (d : D) (n c : Nat) : Prop := ∃ t, ShOf M d t ∧ t.dep ≤ n ∧ t.w ≤ c
theorem Shw.mono {M : Mp} {d : D} {n m c e : Nat} (h : Shw M d n c) (h1 : n ≤ m) (h2 : c ≤ e) : Shw M d m e := let ⟨t, a, b, k⟩ := h; ⟨t, a, Nat.le_trans b h1, Nat.le_trans k h2⟩
theorem Shw.ext {M M' : Mp} {d : D} {n c : Nat} (x : Ext M M') (h : Shw M d n c) : Shw M' d n c := let ⟨t, a, b, k⟩ := h; ⟨t, a.ext x, b, k⟩
theorem shw_non {M : Mp} : Shw M .non 0 4 := ⟨_, .non, Nat.le_refl _, by decide +kernel⟩
theorem shw_bl {M : Mp} (b : Bool) : Shw M (.bl b) 0 5 := ⟨_, .bl b, Nat.le_refl _, by cases b <;> decide +kernel⟩
theorem shw_int {M : Mp} {i : Int} (h0 : -(10 ^ 30) ≤ i) (h1 : i ≤ 10 ^ 30) : Shw M (.int i) 0 1921 := ⟨_, .int (num_log h0 h1), Nat.le_refl _, by unfold Sh.w; exact PyProof.Rows.int_text_len_1921 (num_log h0 h1)⟩
theorem shw_str {M : Mp} {s : Str} {n : Nat} (h : Ok s) (l : s.length ≤ n) (l2 : n ≤ 100000) : Shw M (.str s) 0 (10 * n + 2) := by
  have z : (reprText s).length ≤ 10 * s.length + 2 := by
    have := StrLaws.reprText_len s (fun c hc => Nat.lt_trans (h c hc) (by decide))
    omega
  exact ⟨_, .str (Nat.le_trans z (Nat.le_trans (by omega : _ ≤ 1000002) (by decide))), Nat.le_refl _, by unfold Sh.w; omega⟩
theorem shw_list {M : Mp} {n c : Nat} : ∀ {ds : List D}, (∀ d ∈ ds, Shw M d n c) → ∃ ts, ShOfs M ds ts ∧ Sh.deps ts ≤ n ∧ Sh.ws ts ≤ ds.length * (c + 2)
  | [], _ => ⟨[], .nil, Nat.zero_le _, by simp [Sh.ws]⟩
  | d :: r, h => by
    obtain ⟨t, a, b, k⟩ := h d List.mem_cons_self
    obtain ⟨ts, a2, b2, k2⟩ := shw_list fun x hx => h x (List.mem_cons_of_mem _ hx)
    refine ⟨t :: ts, .cons a a2, ?_, ?_⟩
    · unfold Sh.deps; omega
    · unfold Sh.ws
      rw [List.length_cons, Nat.add_mul, Nat.one_mul]
      omega
theorem shw_lst {M : Mp} {n c : Nat} {ds : List D} (h : ∀ d ∈ ds, Shw M d n c) : Shw M (.lst ds) (n + 1) (ds.length * (c + 2) + 3) := by
  obtain ⟨ts, a, b, k⟩ := shw_list h
  exact ⟨_, .lst a, by unfold Sh.dep; omega, by unfold Sh.w; omega⟩
theorem shw_tup {M : Mp} {n c : Nat} {ds : List D} (h : ∀ d ∈ ds, Shw M d n c) : Shw M (.tup ds) (n + 1) (ds.length * (c + 2) + 3) := by
  obtain ⟨ts, a, b, k⟩ := shw_list h
  exact ⟨_, .tup a, by unfold Sh.dep; omega, by unfold Sh.w; omega⟩
theorem shw_ref {M : Mp} {n c : Nat} {p : Addr} {ds : List D} (e : M p = some (.lst ds)) (h : ∀ d ∈ ds, Shw M d n c) : Shw M (.ref p) (n + 1) (ds.length * (c + 2) + 3) := by
  obtain ⟨ts, a, b, k⟩ := shw_list h
  exact ⟨_, .lstM e a, by unfold Sh.dep; omega, by unfold Sh.w; omega⟩
theorem shw_dct0 {M : Mp} : Shw M (.dct []) 1 3 := ⟨_, .dct .nil .nil, by decide +kernel, by decide +kernel⟩
/-- repr, as a step -/
theorem show_step {M : Mp} {d : D} {n c : Nat} {Q : DK} (h : Shw M d n c) (hn : n ≤ 60) (hc : c ≤ 1000000) (q : ∀ t, ShOf M d t → Q (.str t.text) M) : ∃ t, ShOf M d t ∧ t.dep ≤ 60 ∧ t.text.length ≤ sizeLine ∧ Q (.str t.text) M := by
  obtain ⟨t, a, b, k⟩ := h
  exact ⟨t, a, Nat.le_trans b hn, Nat.le_trans (Sh.text_le t) (Nat.le_trans k (Nat.le_trans hc (by decide))), q t a⟩
/-- repr(x) != repr(y) of things that are shown alike -/
theorem show_same {M : Mp} {t : Sh} {k : Bool → Prop} (h : k false) : dB (.bl (!decide (t.text = t.text))) k := by
  rw [decide_eq_true rfl]
  exact h
end DL

set_option Elab.async false
set_option linter.all false
set_option maxRecDepth 100000
namespace DL
open PySem L2
theorem exm_ref {K : PySem.W.Frag} {t : Value} {C : Addr} {b : Bool} (h1 : PySem.W.subIn K (.ref C) (.type "BaseException") = some true) (h2 : PySem.W.isClsIn K C = true) (h3 : PySem.W.typeIn K (.ref C) = some (.type "type")) (h4 : PySem.W.subIn K t (.ref C) = some b) : PySem.W.exmOne K t (.ref C) = some b := by
  unfold PySem.W.exmOne
  rw [h1, if_pos (by simp)]
  unfold PySem.W.kitCls
  dsimp only
  rw [h3]
  have : (PySem.W.clsIn K C).isSome = true := h2
  rw [this, if_pos (by simp)]
  exact h4
end DL

set_option Elab.async false
set_option linter.all false
set_option maxRecDepth 100000
set_option maxHeartbeats 2000000
namespace DL
open PySem PySem.Spec PyProof.Rows L2
/-! ## star targets: a, b, *c = .. (plain names; the star anywhere) -/
/-- what the star draws of the items -/
def stF {α : Type} (i : Nat) (xs : List α) : List α := xs.take i
def stM {α : Type} (n i : Nat) (xs : List α) : List α := (xs.drop i).take (xs.length + 1 - n)
def stL {α : Type} (n i : Nat) (xs : List α) : List α := (xs.drop i).drop (xs.length + 1 - n)
section
variable {prog : Program} {w : World} {A : Around} {E : Value → Shared → Prop} {s : Shared} {a : Addr} {its : List Value} {n i : Nat} {Q : List Value → Shared → Prop}
/-- behind the draw of the first ones: the rest is drawn, the new list laid -/
theorem st_end {it : Addr} {T : String} {St : Nat → Heap → Prop} {g : Heap} {bad : List Value → Sem (List Value)} (hT : T = "str_ascii_iterator" ∨ T = "str_iterator" ∨ T = "list_iterator" ∨ T = "tuple_iterator") (Wk : Walks prog w A.in1 it [it, a] [it] its.toArray.size (fun j v => its.toArray[j]? = some v) St) (ty : ∀ j (u : Shared), St j u.heap → u.TypeIs (.ref it) T)
    (st : St i g) (l1 : it < g.objs.size) (l2 : a < g.objs.size) (hi : i < n) (hn : n ≤ its.length + 1) (hz : its.length ≤ 16384) (kp : ∀ b o, b ≠ it → s.heap.get? b = some o → g.get? b = some o)
    (hQ : ∀ (h2 : Heap) (tk : Nat), (∀ b o, b ≠ it → s.heap.get? b = some o → h2.get? b = some o) → Q (stF i its ++ [.ref h2.objs.size] ++ stL n i its) { s with heap := h2.push { cls := .type "list", data := .seq (stM n i its).toArray }, toks := tk }) :
    wpAny (model prog w) A (holding (stF i its) (collect (.ref it)) >>= fun rest => if rest.length < n - 1 - i then bad rest else (do return stF i its ++ [← newList (rest.take (rest.length - (n - 1 - i)))] ++ rest.drop (rest.length - (n - 1 - i)))) Q E { s with heap := g } := by
  have sz : its.toArray.size = its.length := by simp
  refine wpAny_bind (wpAny_holding (PySem.W.kun_collect (k := i) hT Wk ty (by rw [sz]; omega) st l1 l2 (fun h2 tk k2 => ?_) (by rw [sizeLine_eq, sz]; omega)))
  have ln : (its.drop i).length = its.length - i := List.length_drop
  have e : (its.drop i).length - (n - 1 - i) = its.length + 1 - n := by omega
  rw [if_neg (by omega : ¬ (its.drop i).length < n - 1 - i), e]
  exact wpAny_bind (wpAny_newList (wpAny_pure (hQ h2 tk fun b o nb q => k2 b o nb (kp b o nb q))) (by rw [List.length_take, sizeLine_eq]; omega))
theorem st_lst (hh : A.handled = none) (pl : s.heap.IsList a its.toArray) (hi : i < n) (hn : n ≤ its.length + 1) (hz : its.length ≤ 16384)
    (hQ : ∀ (h2 : Heap) (tk : Nat), (∀ b o, s.heap.get? b = some o → h2.get? b = some o) → Q (stF i its ++ [.ref h2.objs.size] ++ stL n i its) { s with heap := h2.push { cls := .type "list", data := .seq (stM n i its).toArray }, toks := tk }) : wpAny (model prog w) A (unpackItems (.ref a) n (some i)) Q E s := by
  have la : a < s.heap.objs.size := let ⟨_, e, _⟩ := pl; Heap.lt_size e
  have sz : its.toArray.size = its.length := by simp
  unfold unpackItems notIterableAtAll
  refine wpAny_bind (wpAny_bind (wpAny_specialOf pl.typeIs slot_list_iter.lookup (wpAny_pure ?_)))
  rw [if_neg Bool.false_ne_true]
  refine wpAny_bind (wpAny_holding (wpAny_pyIter_list pl (wpAny_bind (wpAny_holding (PySem.W.kun_draw (Nat.ne_of_lt la) i 0 _ _ ⟨_, Heap.get?_push_size _ rfl, rfl, rfl⟩ (pl.push _) (by rw [sz]; omega) fun g gi gs => ?_)))))
  have gl : g.IsList a its.toArray := (pl.push _).extBut gs.extBut (Nat.ne_of_lt la)
  rw [Nat.zero_add] at gi
  have lg : s.heap.objs.size < g.objs.size := let ⟨_, e, _⟩ := gi; Heap.lt_size e
  have e0 : (its.toArray.toList.drop 0).take i = stF i its := rfl
  rw [e0, if_neg (by show ¬ (its.take i).length < i; rw [List.length_take]; omega)]
  dsimp only
  refine st_end (T := "list_iterator") (.inr (.inr (.inl rfl))) (Walks.list (A := A.in1) hh s.heap.objs.size a (Nat.ne_of_lt la) its.toArray) (fun j u st => st.1.typeIs) ⟨gi, gl⟩ lg (Nat.lt_trans la lg) hi hn hz (fun b o nb q => gs.extBut b o nb (Heap.get?_push_of_some _ q)) fun h2 tk kp => hQ h2 tk fun b o q => kp b o (Nat.ne_of_lt (Heap.lt_size q)) q
theorem st_tup (hh : A.handled = none) (pl : IsTup s.heap a its.toArray) (hi : i < n) (hn : n ≤ its.length + 1) (hz : its.length ≤ 16384)
    (hQ : ∀ (h2 : Heap) (tk : Nat), (∀ b o, s.heap.get? b = some o → h2.get? b = some o) → Q (stF i its ++ [.ref h2.objs.size] ++ stL n i its) { s with heap := h2.push { cls := .type "list", data := .seq (stM n i its).toArray }, toks := tk }) : wpAny (model prog w) A (unpackItems (.ref a) n (some i)) Q E s := by
  have la : a < s.heap.objs.size := let ⟨_, e, _⟩ := pl; Heap.lt_size e
  have sz : its.toArray.size = its.length := by simp
  unfold unpackItems notIterableAtAll
  refine wpAny_bind (wpAny_bind (wpAny_specialOf pl.typeIs slot_tuple_iter.lookup (wpAny_pure ?_)))
  rw [if_neg Bool.false_ne_true]
  refine wpAny_bind (wpAny_holding (iter_tuple pl (wpAny_bind (wpAny_holding (draw_tuple (Nat.ne_of_lt la) i 0 _ _ ⟨_, Heap.get?_push_size _ rfl, rfl, rfl⟩ (pl.push _) (by rw [sz]; omega) fun g gi gs => ?_)))))
  have gl : IsTup g a its.toArray := (pl.push _).extBut gs.extBut (Nat.ne_of_lt la)
  rw [Nat.zero_add] at gi
  have lg : s.heap.objs.size < g.objs.size := let ⟨_, e, _⟩ := gi; Heap.lt_size e
  have e0 : (its.toArray.toList.drop 0).take i = stF i its := rfl
  rw [e0, if_neg (by show ¬ (its.take i).length < i; rw [List.length_take]; omega)]
  dsimp only
  refine st_end (T := "tuple_iterator") (.inr (.inr (.inr rfl))) (Walks.tuple (A := A.in1) hh s.heap.objs.size a (Nat.ne_of_lt la) its.toArray) (fun j u st => st.1.typeIs) ⟨gi, gl⟩ lg (Nat.lt_trans la lg) hi hn hz (fun b o nb q => gs.extBut b o nb (Heap.get?_push_of_some _ q)) fun h2 tk kp => hQ h2 tk fun b o q => kp b o (Nat.ne_of_lt (Heap.lt_size q)) q
end
theorem vals_take : ∀ {xs : List V} {us : List Value} (i : Nat), Vals xs us → Vals (xs.take i) (us.take i)
  | _, _, 0, _ => .nil
  | _, _, _ + 1, .nil => .nil
  | _, _, i + 1, .cons a r => .cons a (vals_take i r)
theorem vals_drop : ∀ {xs : List V} {us : List Value} (i : Nat), Vals xs us → Vals (xs.drop i) (us.drop i)
  | _, _, 0, r => r
  | _, _, _ + 1, .nil => .nil
  | _, _, i + 1, .cons _ r => vals_drop i r
theorem vals_app : ∀ {xs ys : List V} {us ws : List Value}, Vals xs us → Vals ys ws → Vals (xs ++ ys) (us ++ ws)
  | _, _, _, _, .nil, r => r
  | _, _, _, _, .cons a q, r => .cons a (vals_app q r)
theorem reps_take {K : PySem.W.Frag} {I : Hp} : ∀ {xs : List V} {us : List D} (i : Nat), Reps K I xs us → Reps K I (xs.take i) (us.take i)
  | _, _, 0, _ => .nil
  | _, _, _ + 1, .nil => .nil
  | _, _, i + 1, .cons a r => .cons a (reps_take i r)
theorem reps_drop {K : PySem.W.Frag} {I : Hp} : ∀ {xs : List V} {us : List D} (i : Nat), Reps K I xs us → Reps K I (xs.drop i) (us.drop i)
  | _, _, 0, r => r
  | _, _, _ + 1, .nil => .nil
  | _, _, i + 1, .cons _ r => reps_drop i r
section
variable {X : Cx} {W : WX} {pos : Pos} {e : Expr} {te : DTE}
def gStar (K : PySem.W.Frag) (n i : Nat) (t : TGs) : TG := fun v σ H Q => ∃ a xs, v = .ref a ∧ (SqL K H a xs ∨ SqT K H a xs) ∧ n ≤ xs.length + 1 ∧ xs.length ≤ 16384 ∧ ∀ l, H l = none → t (stF i xs ++ [.ref l] ++ stL n i xs) σ (upd H l (.lst (stM n i xs))) Q
theorem pg_star {es : List Expr} {k n i : Nat} {t : TGs} (hc : X.calm = true) (h : PGs X es t) (hi : i < n) (hn : (assignEach es X.env).length = n := by rfl) (hst : (assignEach es X.env).findIdx? (·.1) = some i := by rfl) : PG X (.Tuple es k pos) (gStar X.K n i t) := by
  refine ⟨fun pins s σ H v u Q I r hw => ?_⟩
  obtain ⟨a, xs, rfl, hq, h1, h2, hw⟩ := hw
  cases r
  rw [assign_Tuple]
  refine wpAny_bind (wpAny_standAt ?_)
  unfold unpack
  rw [hn, hst]
  have fin : ∀ its : List Value, Vals xs its → ∀ (g : Heap) (tk : Nat), (∀ b o, s.heap.get? b = some o → g.get? b = some o) → wpAny (model X.prog X.w) X.A (assignInOrder ((assignEach es X.env).map (·.2)) (stF i its ++ [.ref g.objs.size] ++ stL n i its)) (fun _ s' => ∃ σ' H', Inv X pins σ' H' s' ∧ Q σ' H') X.xe { s with heap := g.push { cls := .type "list", data := .seq (stM n i its).toArray }, toks := tk } := fun its rv g tk kp => by
    have J : Inv X pins σ H { s with heap := g, toks := tk } := I.kept kp
    have ln := rv.length
    have rm : Vals (stM n i xs) (stM n i its) := by
      have := vals_take (xs.length + 1 - n) (vals_drop i rv)
      unfold stM
      rw [← ln]
      exact this
    have rl : Vals (stL n i xs) (stL n i its) := by
      have := vals_drop (xs.length + 1 - n) (vals_drop i rv)
      unfold stL
      rw [← ln]
      exact this
    have zz : (stM n i xs).length ≤ sizeLine := by
      unfold stM
      rw [List.length_take, List.length_drop, sizeLine_eq]
      omega
    refine h.run pins _ σ _ _ _ Q (J.laid (a := g.objs.size) (o := .lst (stM n i xs)) (t' := tk) (fun b u q => Heap.get?_push_of_some _ q) (Nat.le_refl _) (show ObjOk X.prog X.w _ _ _ (.lst _) from ⟨zz, _, 0, rm, Heap.get?_push_size _ rfl⟩)) (vals_app (vals_app (vals_take i rv) (.cons (show RelV (.ref g.objs.size) (.ref g.objs.size) from rfl) .nil)) rl) (hw _ (J.hok.fresh (Nat.le_refl _)))
  rcases hq with hq | hq
  · obtain ⟨its, rv, pl, _⟩ := I.list hq
    have ln := rv.length
    exact wpAny_bind (wpAny_holding (st_lst (I.ok.hd hc) pl.isList hi (by omega) (by omega) fun g tk kp => fin its rv g tk kp))
  · obtain ⟨its, rv, pl, _⟩ := I.tuple hq
    have ln := rv.length
    exact wpAny_bind (wpAny_holding (st_tup (I.ok.hd hc) pl hi (by omega) (by omega) fun g tk kp => fin its rv g tk kp))
theorem pgs_cons2 {t : Expr} {es : List Expr} {g : TG} {u : TGs} {p : Pos} (h1 : PG X t g) (h2 : PGs X es u) (hs : (assignEach (.Starred t p :: es) X.env).map (·.2) = assign t X.env :: (assignEach es X.env).map (·.2) := by rfl) : PGs X (.Starred t p :: es) (gCons g u) := ⟨fun pins s σ H vs us Q I r h => by
  obtain ⟨v, vr, rfl, h⟩ := h
  cases r with
  | cons r rr =>
    rw [hs]
    exact assignInOrder_cons (thn (h1.run pins s σ H _ _ _ I r h) fun _ s1 ⟨σ1, H1, I1, q1⟩ => h2.run pins s1 σ1 H1 _ _ Q I1 rr q1)⟩
theorem gs_consS (i : Nat) {x : Str} {es : List Expr} {is : List Nat} {p : Pos} (hN : X.N.Nodup) (h2 : DGs X W es (gdNames is)) (hi : X.N[i]? = some x := by rfl) (hx : Loc X.env.scope x := by first | exact Or.inl rfl | exact Or.inr rfl) (hf : X.fn x = true ∨ X.env.scope.names.lookup x = some .local := by first | exact .inl rfl | exact .inr rfl | assumption)
    (hs : (assignEach (.Starred (.Name x pos) p :: es) X.env).map (·.2) = assign (.Name x pos) X.env :: (assignEach es X.env).map (·.2) := by rfl) : DGs X W (.Starred (.Name x pos) p :: es) (gdNames (i :: is)) :=
  pgs_imp (pgs_cons2 (pg_name hN hi hx hf) h2 hs) fun v σ H Q h => by
    obtain ⟨I, M, F, δ, ds, Qd, Ed, hr, rs, r, q, fq, fx⟩ := h
    cases r with
    | nil => exact q.elim
    | @cons v1 d1 vr dr r1 rr => exact ⟨v1, vr, rfl, I, M, F, _, dr, Qd, fun _ _ _ => False, hr, rs.set i r1, rr, gdNames_E is dr _ M Qd Ed _ q, fq, fun _ _ _ _ _ _ z => z.elim⟩
/-- the middle list frozen; or to be changed -/
def gdStar (n i : Nat) (t : DTGs) : DTG := fun d δ M Q E => asQ M d fun xs => n ≤ xs.length + 1 ∧ xs.length ≤ 16384 ∧ t (stF i xs ++ [.lst (stM n i xs)] ++ stL n i xs) δ M Q E
def gdStarM (n i : Nat) (t : DTGs) : DTG := fun d δ M Q E => asQ M d fun xs => n ≤ xs.length + 1 ∧ xs.length ≤ 16384 ∧ ∀ p, M p = none → t (stF i xs ++ [.ref p] ++ stL n i xs) δ (updM M p (.lst (stM n i xs))) Q E
theorem reps_st {K : PySem.W.Frag} {I : Hp} {vs : List V} {ds : List D} {n i : Nat} (r : Reps K I vs ds) : Reps K I (stF i vs) (stF i ds) ∧ Reps K I (stM n i vs) (stM n i ds) ∧ Reps K I (stL n i vs) (stL n i ds) := by
  unfold stF stM stL
  rw [r.len]
  exact ⟨reps_take i r, reps_take _ (reps_drop i r), reps_drop _ (reps_drop i r)⟩
theorem g_star {es : List Expr} {k n i : Nat} {t : List Nat} (hc : X.calm = true) (h : DGs X W es (gdNames t)) (hi : i < n := by decide) (hn : (assignEach es X.env).length = n := by rfl) (hst : (assignEach es X.env).findIdx? (·.1) = some i := by rfl) : DG X W (.Tuple es k pos) (gdStar n i (gdNames t)) :=
  pg_imp (pg_star hc h hi hn hst) fun v σ H Q h => by
    obtain ⟨I, M, F, δ, d, Qd, Ed, hr, rs, r, q, fq, fx⟩ := h
    obtain ⟨a, vs, ds, rfl, hs, rr, q1, q2, q⟩ := asQ_out hr r q
    obtain ⟨r1, r2, r3⟩ := reps_st (n := n) (i := i) rr
    refine ⟨a, vs, rfl, hs.imp id And.left, by rw [rr.len]; exact q1, by rw [rr.len]; exact q2, fun l hl => ?_⟩
    have s := same_new (o := .lst (stM n i vs)) (hr.fresh hl).1
    exact ⟨_, M, F, δ, _, Qd, Ed, hr.newI hl _, rs.mono s, ((r1.mono s).app (.cons (.lst upd_same (r2.mono s)) .nil)).app (r3.mono s), q, fun δ' M' I' H' σ' q' s' => fq δ' M' I' H' σ' q' (s.trans s'), fx.mono s⟩
theorem g_starM {es : List Expr} {k n i : Nat} {t : List Nat} (hc : X.calm = true) (h : DGs X W es (gdNames t)) (hi : i < n := by decide) (hn : (assignEach es X.env).length = n := by rfl) (hst : (assignEach es X.env).findIdx? (·.1) = some i := by rfl) : DG X W (.Tuple es k pos) (gdStarM n i (gdNames t)) :=
  pg_imp (pg_star hc h hi hn hst) fun v σ H Q h => by
    obtain ⟨I, M, F, δ, d, Qd, Ed, hr, rs, r, q, fq, fx⟩ := h
    obtain ⟨a, vs, ds, rfl, hs, rr, q1, q2, q⟩ := asQ_out hr r q
    obtain ⟨r1, r2, r3⟩ := reps_st (n := n) (i := i) rr
    refine ⟨a, vs, rfl, hs.imp id And.left, by rw [rr.len]; exact q1, by rw [rr.len]; exact q2, fun l hl => ?_⟩
    exact ⟨I, _, F, δ, _, Qd, Ed, hr.newM hl (o := .lst _) (m := .lst _) ⟨_, rfl, r2⟩, rs, (r1.app (.cons (.ref l) .nil)).app r3, q l (hr.fresh hl).2.1, fq, fx⟩
end
end DL

set_option Elab.async false
set_option linter.all false
set_option maxRecDepth 100000
set_option maxHeartbeats 2000000
namespace DL
open PySem PySem.Spec PyProof.Rows L2
/-! ## x * n, for numbers, texts, frozen lists, tuples -/
def dMul2 : DR2 := fun x y M Q => match x, y with
  | .str a, .int n => MulOk a n ∧ Q (.str (Txt.mul a n)) M
  | .lst xs, .int n => -(2 ^ 63) ≤ n ∧ n < 2 ^ 63 ∧ xs.length * n.toNat ≤ sizeLine ∧ Q (.lst (List.replicate n.toNat xs).flatten) M
  | .tup xs, .int n => xs ≠ [] ∧ 2 ≤ n ∧ n ≤ 1000 ∧ xs.length ≤ 1000 ∧ Q (.tup (List.replicate n.toNat xs).flatten) M
  | x, y => dMul x y M Q
def rMulS : R2 := fun x y H Q => ∃ a n, x = .str a ∧ y = .int n ∧ MulOk a n ∧ Q (.str (Txt.mul a n)) H
section
variable {X : Cx} {W : WX} {a b e o : Expr} {ta tb te to : DTE} {pos apos p : Pos}
theorem op_mulS : OpR X (binaryOp .Mult) rMulS := fun pins s σ H x y v u Q J rx ry h => by
  obtain ⟨a, n, rfl, rfl, ok, q⟩ := h
  obtain ⟨t, rfl⟩ := rx
  obtain ⟨t', rfl⟩ := ry
  exact SB.mul ok fun tk k => ⟨.str _, H, J.tok _, ⟨tk, rfl⟩, q⟩
theorem Reps.reps {K : PySem.W.Frag} {I : Hp} {vs : List V} {ds : List D} (r : Reps K I vs ds) : ∀ m : Nat, Reps K I (List.replicate m vs).flatten (List.replicate m ds).flatten
  | 0 => .nil
  | m + 1 => by
    rw [List.replicate_succ, List.replicate_succ, List.flatten_cons, List.flatten_cons]
    exact r.app (Reps.reps r m)
theorem d_mul2 (ha : DE X W a ta) (hb : DE X W b tb) : DE X W (.BinOp a .Mult b pos) (dOp dMul2 ta tb) := d_op (op_mulW.or (op_mulS.or (op_rep.or op_repT))) (fun I M F H x y dx dy Qd Q hr rx ry q fq => by
  unfold dMul2 at q
  split at q
  · cases rx; cases ry
    exact .inr (.inl ⟨_, _, rfl, rfl, q.1, fq _ M I H _ q.2 (Same.refl I) hr (.str _)⟩)
  · cases ry
    cases rx with
    | lst s rr => exact .inr (.inr (.inl ⟨_, _, _, rfl, rfl, hr.imm _ _ s, q.1, q.2.1, by rw [rr.len]; exact q.2.2.1, fin_lst fq hr (rr.reps _) q.2.2.2⟩))
  · cases ry
    cases rx with
    | @tup a vs ds s rr =>
      refine .inr (.inr (.inr ⟨_, _, _, rfl, rfl, hr.st s, fun z => q.1 ?_, q.2.1, q.2.2.1, by rw [rr.len]; exact q.2.2.2.1, fin_tup fq hr (rr.reps _) q.2.2.2.2⟩))
      subst z
      cases rr
      rfl
  · exact .inl (lr_I (fun _ _ _ => .int _) I M F H x y _ _ Qd Q hr rx ry q fq)) ha hb
def dMulM : DR2 := fun x y M Q => match x, y with
  | .lst xs, .int n => -(2 ^ 63) ≤ n ∧ n < 2 ^ 63 ∧ xs.length * n.toNat ≤ sizeLine ∧ ∀ p, M p = none → Q (.ref p) (updM M p (.lst (List.replicate n.toNat xs).flatten))
  | _, _ => False
theorem d_mulM (ha : DE X W a ta) (hb : DE X W b tb) : DE X W (.BinOp a .Mult b pos) (dOp dMulM ta tb) := d_op op_rep (fun I M F H x y dx dy Qd Q hr rx ry q fq => by
  unfold dMulM at q
  split at q
  · cases ry
    cases rx with
    | lst s rr => exact ⟨_, _, _, rfl, rfl, hr.imm _ _ s, q.1, q.2.1, by rw [rr.len]; exact q.2.2.1, fin_lstM fq hr (rr.reps _) q.2.2.2⟩
  · exact q.elim) ha hb
/-! ## s.upper() -/
def rdUpper : Str → Mp → DK → Prop := fun a M Q => a.length ≤ 5592405 ∧ Q (.str (Txt.upper a)) M
theorem d_upper (ho : DE X W o to) (hbase : attributeBase o "upper" X.env (eval o X.env) = eval o X.env := by rfl) (hline : (apos.endLine == pos.line) = true := by rfl) : DE X W (.Call (.Attribute o "upper" apos) [] [] pos) (dM0 rdUpper to) :=
  d_m0 F.slot_str_upper F.type_str_upper mt_upper (fun I M F H a Qd Q hr q fq => ⟨a, rfl, rfl, q.1, fq _ M I H _ q.2 (Same.refl I) hr (.str _)⟩) ho hbase hline
/-! ## for x in a list or a tuple -/
def asS (M : Mp) (d : D) (R : List D → Src → Prop) : Prop := match d with | .tup xs => R xs .data | d => asL M d R
def iQ (te : DTE) : DTI := fun δ M R E => te δ M (fun d M1 => asS M1 d fun xs src => R xs src M1) E
theorem pi_seq {l tg : Expr} {tl : TE} (hl : PE X l tl) : PI X tg l (fun σ H R => tl σ H fun x H1 => ∃ a, x = .ref a ∧ (((∃ xs, SqL X.K H1 a xs) ∧ R (Itl X.K a) H1) ∨ ((∃ xs, SqT X.K H1 a xs) ∧ R (Itt X.K a) H1))) := ⟨fun pins s σ H R I h => by
  refine thn (hl.run pins s σ H _ I h) fun v s1 ⟨x, H1, J, r1, a, e1, q1⟩ => ?_
  subst e1
  cases r1
  have fp : ∀ b ∈ [s1.heap.objs.size], _ := fun b hb => (List.mem_singleton.mp hb) ▸ J.fpOk (Nat.le_refl _) (J.hok.fresh (Nat.le_refl _))
  rcases q1 with ⟨⟨xs, hq⟩, q⟩ | ⟨⟨xs, hq⟩, q⟩
  · obtain ⟨its, rv, pl, hz⟩ := J.list hq
    exact wpAny_pyIter_list pl.isList ⟨_, [s1.heap.objs.size], _, _, H1, rfl, J.kept (t' := s1.toks) fun b o q => Heap.get?_push_of_some _ q, turn_list a _, ⟨_, Heap.get?_push_size _ rfl, rfl, rfl⟩, fp, q⟩
  · obtain ⟨its, rv, pl, hz⟩ := J.tuple hq
    exact wpAny_pyIter_tuple (show s1.heap.IsTuple a its.toArray from pl) ⟨_, [s1.heap.objs.size], _, _, H1, rfl, J.kept (t' := s1.toks) fun b o q => Heap.get?_push_of_some _ q, turn_tuple a _, ⟨_, Heap.get?_push_size _ rfl, rfl, rfl⟩, fp, q⟩⟩
theorem i_seq {tg : Expr} (h : DE X W e te) : DI X W tg e (iQ te) := pi_imp (pi_seq h) fun σ H R q => by
  obtain ⟨I, M, F, δ, Rd, Ed, hr, rs, q, fq, fx⟩ := q
  refine ⟨I, M, F, δ, _, Ed, hr, rs, q, fun d M1 I1 H1 v q1 s1 hr1 r1 => ?_, fx⟩
  cases r1 with
  | @lst a vs ds s rr => exact ⟨a, rfl, .inl ⟨⟨vs, SqL.of (hr1.imm _ _ s)⟩, fq ds .data M1 I1 H1 _ q1 trivial s1 hr1 (dwalk_list rr fun I' M' F' H' s' hr' _ => ⟨vs, SqL.of (hr'.imm _ _ (s' _ _ s)), rr.mono s'⟩)⟩⟩
  | @sq a vs ds s rr => exact ⟨a, rfl, .inl ⟨⟨vs, hr1.sq s⟩, fq ds .data M1 I1 H1 _ q1 trivial s1 hr1 (dwalk_list rr fun I' M' F' H' s' hr' _ => ⟨vs, hr'.sq (sq_mono s' s), rr.mono s'⟩)⟩⟩
  | ref a =>
    obtain ⟨ds, e1, q1⟩ := q1
    obtain ⟨vs, e2, rr⟩ := hr1.lst e1
    exact ⟨a, rfl, .inl ⟨⟨vs, SqL.of e2⟩, fq ds (.at a ds) M1 I1 H1 _ q1 e1 s1 hr1 (dwalk_list rr fun I' M' F' H' s' hr' ho => by
      obtain ⟨vs', e3, r3⟩ := hr'.lst ho
      exact ⟨vs', SqL.of e3, r3⟩)⟩⟩
  | @tup a vs ds s rr =>
    refine ⟨a, rfl, .inr ⟨⟨vs, hr1.st s⟩, fq ds .data M1 I1 H1 _ q1 trivial s1 hr1 ⟨fun i I' M' F H hi s' hr' ho => walk_tup.goes i H (by rw [rr.len]; exact hi) (hr'.st (st_mono s' s)), fun I' M' F H s' hr' ho => by rw [← rr.len]; exact walk_tup.stops H (hr'.st (st_mono s' s)), fun i x I' M' F H H' hi s' hr' ho y => ?_⟩⟩⟩
    obtain ⟨e1, e2⟩ := walk_tup.yields i H x H' (by rw [rr.len]; exact hi) (hr'.st (st_mono s' s)) y
    subst e1
    obtain ⟨d, e3, e4⟩ := rr.get e2
    exact ⟨I', d, Same.refl I', hr', e3, e4.mono s'⟩
  | _ => exact q1.elim
end
/-! ## str(x) of anything -/
section
variable {P : Program} {w : World} {h : Heap}
/-- the way to the slot's own __repr__ of a list, a tuple, a dict -/
theorem Rsh.road {v : Value} {t : Sh} (r : Rsh P w h v t) (nl : ∀ x, t ≠ .leaf x) (z : t.text.length ≤ sizeLine) {A : Around} {E : Value → Shared → Prop} {s : Shared} {Q : Value → Shared → Prop} {G : Prop} (hg : A.guards = some []) (hu : A.units + (t.dep + 2) < cLine) (k0 : ∀ b o, h.get? b = some o → s.heap.get? b = some o)
    (q : ∀ h' u tk, (∀ b o, s.heap.get? b = some o → h'.get? b = some o) → Q (.str t.text u) { s with heap := h', toks := tk })
    (go : ∀ {a : Addr} {o : Obj} {T idr : String}, h.get? a = some o → o.cls = .type T → SlotG T "__repr__" idr → Slot T "__str__" "object.__str__" → wpAny (model P w) A.in1 (PySem.call (.builtin idr) [.ref a]) (fun r s₁ => ∃ x t, r = .str x t ∧ Q r s₁) E s → v = .ref a → G) : G := by
  have qq : ∀ h' u tk, (∀ b o, s.heap.get? b = some o → h'.get? b = some o) → ∃ x y, Value.str t.text u = .str x y ∧ Q (.str t.text u) { s with heap := h', toks := tk } := fun h' u tk k => ⟨_, _, rfl, q h' u tk k⟩
  cases r with
  | leaf _ _ b => exact absurd rfl (nl _)
  | opq _ _ _ _ b => exact absurd rfl (nl _)
  | @lst a o vs n xs e c d rs =>
    have z' : (listText (Sh.texts xs)).length ≤ sizeLine := by unfold Sh.text at z; exact z
    have u' : A.units + (Sh.deps xs + 1 + 2) < cLine := by unfold Sh.dep at hu; exact hu
    obtain ⟨bs, b, k⟩ := Rshs.reprK rs fun t ht => Nat.le_trans (listText_mem_le ht) z'
    have off := b.off (.lst e c d rs) (by unfold Sh.dep; omega)
    refine go e c F.slot_list_repr.toG F.slot_list_str ?_ rfl
    obtain ⟨l⟩ := vs
    cases l with
    | nil =>
      have rs' : Rshs P w h [] xs := rs
      cases rs'
      exact call_list_repr_empty ⟨o, k0 _ _ e, c⟩ (k0 _ _ e) d (by
        have y := qq s.heap s.toks (s.toks + 1) fun _ _ e => e
        rw [show (Sh.lst []).text = (Str.ofString "[]") from by unfold Sh.text; exact listText_nil] at y
        exact y)
    | cons x l => exact call_list_reprK e c d off (by simpa using k.length_eq) (fun i y q => k.item i y (by simpa using q)) hg (fun b _ => Clear.nil b) (by show A.units + 1 + (Sh.deps xs + 1) < cLine; omega) k0 (by unfold Sh.text at qq; exact qq) z'
  | @tup a o vs n xs e c d rs =>
    have z' : (tupleText (Sh.texts xs)).length ≤ sizeLine := by unfold Sh.text at z; exact z
    have u' : A.units + (Sh.deps xs + 1 + 2) < cLine := by unfold Sh.dep at hu; exact hu
    obtain ⟨bs, b, k⟩ := Rshs.reprK rs fun t ht => Nat.le_trans (tupleText_mem_le ht) z'
    have off := b.off (.tup e c d rs) (by unfold Sh.dep; omega)
    refine go e c F.slot_tuple_repr F.slot_tuple_str ?_ rfl
    exact call_tuple_reprK e c d off k hg (fun b _ => Clear.nil b) (by show A.units + 1 + (Sh.deps xs + 1) < cLine; omega) k0 (by unfold Sh.text at qq; exact qq) z'
  | @dct a o es n ks vs e c d sy r1 r2 =>
    have z' : (dictText (List.zipWith (fun k v : Str => k ++ ": " ++ v) (Sh.texts ks) (Sh.texts vs))).length ≤ sizeLine := by unfold Sh.text at z; exact z
    have u' : A.units + (max (Sh.deps ks) (Sh.deps vs) + 1 + 2) < cLine := by unfold Sh.dep at hu; exact hu
    have ll : (Sh.texts ks).length = (Sh.texts vs).length := by
      have := r1.len; have := r2.len
      rw [texts_len, texts_len]
      simp only [List.length_map] at *
      omega
    obtain ⟨m1, m2⟩ := zip_mem ll
    obtain ⟨b1, c1, k1⟩ := Rshs.reprK r1 fun t ht => let ⟨p, hp, q⟩ := m1 t ht; Nat.le_trans q (Nat.le_trans (dictText_mem_le hp) z')
    obtain ⟨b2, c2, k2⟩ := Rshs.reprK r2 fun t ht => let ⟨p, hp, q⟩ := m2 t ht; Nat.le_trans q (Nat.le_trans (dictText_mem_le hp) z')
    have b := (c1.up (Nat.le_max_left (Sh.deps ks) (Sh.deps vs))).app (c2.up (Nat.le_max_right (Sh.deps ks) (Sh.deps vs)))
    have off := b.off (.dct e c d sy r1 r2) (by unfold Sh.dep; omega)
    refine go e c F.slot_dict_repr F.slot_dict_str ?_ rfl
    exact call_dict_reprK e c d sy off (ReprEntriesK.of_two es.toList _ _ (k1.more_le (fun _ m => List.mem_append_left _ m) (Nat.le_max_left _ _)) (k2.more_le (fun _ m => List.mem_append_right _ m) (Nat.le_max_right _ _))) hg (fun b _ => Clear.nil b) (by show A.units + 1 + (max (Sh.deps ks) (Sh.deps vs) + 1) < cLine; omega) k0 (by unfold Sh.text at qq; exact qq) z'
end
theorem strCall {h : Heap} {v : Value} {t : Sh} (r : ∀ P w, Rsh P w h v t) (nl : ∀ x, t ≠ .leaf x) (z : t.text.length ≤ sizeLine) {P : Program} {w : World} {A : Around} {E : Value → Shared → Prop} {s : Shared} {Q : Value → Shared → Prop} (hg : A.guards = some []) (hu : A.units + (t.dep + 5) < cLine) (k0 : ∀ b o, h.get? b = some o → s.heap.get? b = some o)
    (q : ∀ h' u tk, (∀ b o, s.heap.get? b = some o → h'.get? b = some o) → Q (.str t.text u) { s with heap := h', toks := tk }) : wpAny (model P w) A (PySem.call (.type "str") [v]) Q E s := by
  have spec : Meets (Builtin.«str.__new__» ⟨[.type "str", v], []⟩) (fun A' R s' => A'.guards = some [] ∧ A'.units + (t.dep + 4) < cLine ∧ (∀ b o, h.get? b = some o → s'.heap.get? b = some o) ∧ ∀ h' u tk, (∀ b o, s'.heap.get? b = some o → h'.get? b = some o) → R (.ok (.ret (.str t.text u))) { s' with heap := h', toks := tk }) := by
    refine meets_str_new fun P' w' A' R s' hh => ?_
    have lt : A'.in1.units + (t.dep + 2) < cLine := by have := hh.2.1; show A'.units + 1 + (t.dep + 2) < cLine; omega
    refine (r P' w').road nl z (A := A'.in1) (s := s') (Q := fun x s2 => R (.ok (.ret x)) s2) (E := fun e s2 => R (.error e) s2) hh.1 lt hh.2.2.1 hh.2.2.2 fun e c sl st hc ev => ?_
    subst ev
    exact wpAny_strOf_slot rfl (by have := lt; omega) ⟨_, hh.2.2.1 _ _ e, c⟩ st sl hc
  exact callType_new F.called_str (by decide) (F.typeCall_str_1 _) (F.newCall_str_1 _) (fun obj => F.args_object_init_2 obj _) F.entry_str_new spec ⟨hg, by show A.units + 1 + (t.dep + 4) < cLine; omega, k0, fun h' u tk k => ⟨typeIs_str _ _ _, q h' u tk k⟩⟩
section
variable {X : Cx} {W : WX} {e : Expr} {te : DTE} {p pos : Pos}
def dStr2 (te : DTE) : DTE := fun δ M Q E => te δ M (fun d M1 => match d with
  | .str a => Q (.str a) M1
  | d => ∃ t, ShOf M1 d t ∧ t.dep ≤ 60 ∧ t.text.length ≤ sizeLine ∧ Q (.str t.text) M1) E
theorem call_strA {k : Nat} (ng : NoGd X.A) (rm : Room k X.A) : CallR X (.type "str") (fun xs H1 Q1 => ∃ x I1 M1 F1 d, xs = [x] ∧ HR X.K I1 M1 F1 H1 ∧ Rep X.K I1 x d ∧ ((∃ a, d = .str a ∧ Q1 (.str a) H1) ∨ ((∀ a, d ≠ .str a) ∧ ∃ t, ShOf M1 d t ∧ t.dep ≤ 60 ∧ t.text.length ≤ sizeLine ∧ Q1 (.str t.text) H1))) := by
  intro pins s σ H xs us Q J rv h
  obtain ⟨x, I1, M1, F1, d, rfl, hr, r, h⟩ := h
  obtain ⟨u, rfl, ru⟩ := vals1 rv
  have hu := rm.un
  rcases h with ⟨a, rfl, q⟩ | ⟨ns, t, sh, h1, h2, q⟩
  · cases r
    obtain ⟨tk, rfl⟩ := ru
    exact PySem.P.str_of_str ⟨.str a, H, J, ⟨tk, rfl⟩, q⟩
  · have big : (∀ x, t ≠ .leaf x) → wpAny (model X.prog X.w) X.A (PySem.call (.type "str") [u]) (EP X pins σ Q) X.xe s := fun nl =>
      strCall (fun P w => sh.rsh J hr r ru) nl h2 ng (by omega) (fun _ _ e => e) fun h' u tk hk => ⟨.str _, H, J.kept (t' := tk) hk, ⟨u, rfl⟩, q⟩
    cases sh with
    | non => cases r; cases (show _ = Value.none from ru); exact PySem.P.str_of_none ⟨.str _, H, J.tok _, ⟨_, rfl⟩, q⟩
    | bl b => cases r; cases (show _ = Value.bool b from ru); exact PySem.P.str_of_bool ⟨.str _, H, J.tok _, ⟨_, by cases b <;> rfl⟩, q⟩
    | int l => cases r; obtain ⟨tk, rfl⟩ := ru; exact PySem.P.str_of_int l ⟨.str _, H, J.tok _, ⟨_, rfl⟩, q⟩
    | str l => exact absurd rfl (ns _)
    | _ => exact big fun x z => nomatch z
theorem d_strA {k : Nat} (ng : NoGd X.A) (rm : Room k X.A) (hm : X.mg "str" = none) (he : DE X W e te) (hs : starEach [e] X.env = (false, eval e X.env) :: starEach [] X.env := by rfl) (hg : Gl X "str" := by rfl) (hpl : (backTo pos (starEach [] X.env)).any (·.1) = false := by rfl) : DE X W (.Call (.Name "str" p) [e] [] pos) (dStr2 te) := by
  refine ⟨fun pins s σ H Q J h => ?_⟩
  obtain ⟨I, M, F, δ, Qd, Ed, hr, rs, q, fq, fx⟩ := h
  refine (pe_callTy (call_strA ng rm) hg hm (by decide +kernel) (pa_cons he pa_nil hs) (by decide) (by decide) hs hpl).run pins s σ H Q J ?_
  refine ⟨I, M, F, δ, _, Ed, hr, rs, q, fun d M1 I1 H1 v q1 s1 hr1 r1 => ?_, fx⟩
  refine ⟨v, I1, M1, F, d, rfl, hr1, r1, ?_⟩
  dsimp only at q1
  split at q1
  · exact .inl ⟨_, rfl, fq _ M1 I1 H1 _ q1 s1 hr1 (.str _)⟩
  · rename_i ns
    obtain ⟨t, sh, h1, h2, q2⟩ := q1
    exact .inr ⟨fun a z => ns a z, t, sh, h1, h2, fq _ M1 I1 H1 _ q2 s1 hr1 (.str _)⟩
end
end DL

set_option Elab.async false
set_option linter.all false
set_option maxRecDepth 100000
set_option maxHeartbeats 2000000
namespace DL
open PySem PySem.Spec PyProof.Rows L2
/-! ## xs == [], xs != [] whatever stands in the list -/
def dE0 (g : Bool → Bool) : DR2 := fun x y M Q => y = .lst [] ∧ asX M x fun xs => Q (.bl (g xs.isEmpty)) M
def rE0 (K : PySem.W.Frag) (g : Bool → Bool) : R2 := fun x y H Q => ∃ a b xs, x = .ref a ∧ y = .ref b ∧ SqL K H a xs ∧ SqL K H b [] ∧ Q (.bl (g xs.isEmpty)) H
section
variable {X : Cx}
theorem op_e0 {k : Nat} (rm : Room k X.A) : OpR X (compareOp .Eq) (rE0 X.K id) := fun pins s σ H x y v u Q J rx ry h => by
  obtain ⟨a, b, xs, rfl, rfl, h1, h2, q⟩ := h
  cases rx; cases ry
  obtain ⟨i1, r1, p1, _⟩ := J.list h1
  obtain ⟨i2, r2, p2, _⟩ := J.list h2
  cases r2
  have hu := rm.un
  have l1 := r1.length
  show wpAny _ _ (richCompare .Eq _ _) _ _ _
  cases xs with
  | nil =>
    cases r1
    refine PySem.SeqAt.RcAt.lists (e := fun _ => true) p1.isList p2.isList rfl (by omega) (fun j h1 _ => absurd h1 (Nat.not_lt_zero j)) _ _ _ _ ⟨.bl true, H, J, ?_, q⟩
    rfl
  | cons c r =>
    refine PySem.SeqAt.RcAt.lists_lengths p1.isList p2.isList ?_ (by omega) _ _ _ _ ⟨.bl false, H, J, rfl, q⟩
    rw [List.length_cons] at l1
    simp only [List.size_toArray, bne_iff_ne, ne_eq]
    show ¬ i1.length = 0
    omega
theorem op_n0 {k : Nat} (rm : Room k X.A) : OpR X (compareOp .NotEq) (rE0 X.K not) := fun pins s σ H x y v u Q J rx ry h => by
  obtain ⟨a, b, xs, rfl, rfl, h1, h2, q⟩ := h
  cases rx; cases ry
  obtain ⟨i1, r1, p1, _⟩ := J.list h1
  obtain ⟨i2, r2, p2, _⟩ := J.list h2
  cases r2
  have hu := rm.un
  have l1 := r1.length
  show wpAny _ _ (richCompare .NotEq _ _) _ _ _
  cases xs with
  | nil =>
    cases r1
    refine PySem.SeqAt.RcNeAt.lists (e := fun _ => true) p1.isList p2.isList rfl (by omega) (fun j h1 _ => absurd h1 (Nat.not_lt_zero j)) _ _ _ _ ⟨.bl false, H, J, ?_, q⟩
    rfl
  | cons c r =>
    refine PySem.SeqAt.RcNeAt.lists_lengths p1.isList p2.isList ?_ (by omega) _ _ _ _ ⟨.bl true, H, J, rfl, q⟩
    rw [List.length_cons] at l1
    simp only [List.size_toArray, bne_iff_ne, ne_eq]
    show ¬ i1.length = 0
    omega
theorem lr_e0 {K : PySem.W.Frag} {g : Bool → Bool} : LR K (rE0 K g) (dE0 g) := fun I M F H x y dx dy Qd Q hr rx ry q fq => by
  obtain ⟨e, q⟩ := q
  subst e
  obtain ⟨a, vs, ds, e1, h1, r1, q⟩ := asX_out hr rx q
  cases ry with
  | lst s rr =>
    cases rr
    refine ⟨a, _, vs, e1, rfl, SqL.of h1, SqL.of (hr.imm _ _ s), ?_⟩
    have e2 : vs.isEmpty = ds.isEmpty := by cases r1 <;> rfl
    rw [e2]
    exact fq _ M I H _ q (Same.refl I) hr (.bl _)
end
end DL

set_option Elab.async false
set_option linter.all false
set_option maxRecDepth 100000
set_option maxHeartbeats 2000000
namespace DL
open PySem L2
/-! ## general laws of comprehensions and loops; lists and tuples alike -/
theorem Src.okI {src : Src} {M : Mp} {P : Prop} (h : src.holds M) (p : P) : src.ok M P := by
  cases src with
  | data => exact p
  | «at» a xs => exact ⟨h, p⟩
  | lk a m => exact ⟨h, p⟩
  | two a xs b ys => exact ⟨h, p⟩
/-- the items of a list or a tuple -/
def seqD (M : Mp) : D → Option (List D)
  | .lst xs => some xs
  | .tup xs => some xs
  | .ref a => match M a with | some (.lst xs) => some xs | _ => none
  | _ => none
theorem seq_len {M : Mp} {d : D} {xs : List D} {Q : DK} (h : seqD M d = some xs) (q : Q (.int (xs.length : Nat)) M) : dLen1 d M Q := by
  cases d with
  | ref a =>
    unfold seqD at h
    dsimp only at h
    split at h
    · rename_i ys e
      cases h
      exact ⟨_, e, q⟩
    · cases h
  | lst s => cases h; exact q
  | tup s => cases h; exact q
  | _ => cases h
theorem seq_it {M : Mp} {d : D} {xs : List D} {R : List D → Src → Prop} (h : seqD M d = some xs) (q : ∀ src : Src, src.holds M → R xs src) : asS M d R := by
  cases d with
  | ref a =>
    unfold seqD at h
    dsimp only at h
    split at h
    · rename_i ys e
      cases h
      exact ⟨_, e, q (.at a xs) e⟩
    · cases h
  | lst s => cases h; exact q .data trivial
  | tup s => cases h; exact q .data trivial
  | _ => cases h
theorem seq_q {M : Mp} {d : D} {xs : List D} {k : List D → Prop} (h : seqD M d = some xs) (q : k xs) : asQ M d k := by
  cases d with
  | ref a =>
    unfold seqD at h
    dsimp only at h
    split at h
    · rename_i ys e
      cases h
      exact ⟨_, e, q⟩
    · cases h
  | lst s => cases h; exact q
  | tup s => cases h; exact q
  | _ => cases h
/-- a comprehension whose items change nothing -/
theorem comp_pure {t : TgI} {tt : DTT} {te : DTE} {src : Src} {vs : List Nat} {δ : DS} {k : List D → Mp → Prop} {M : Mp} (g : D → DS) (p : D → Bool) (f : D → D) (hs : src.holds M) : ∀ (xs acc : List D),
    (∀ x ∈ xs, ∀ k' : DS → Prop, k' (g x) → t.d x (dwipe δ vs) k') →
    (∀ x ∈ xs, ∀ Q : Bool → Mp → Prop, Q (p x) M → tt (g x) M Q E0d) →
    (∀ x ∈ xs, p x = true → ∀ Q : DK, Q (f x) M → te (g x) M Q E0d) →
    acc.length + xs.length ≤ sizeLine → k (acc ++ (xs.filter p).map f) M → dComp t tt te src vs δ k xs acc M
  | [], acc, ht, hp, hf, hl, q => by
    refine Src.okI hs ⟨by simpa using hl, ?_⟩
    rw [List.filter_nil, List.map_nil, List.append_nil] at q
    exact q
  | x :: r, acc, ht, hp, hf, hl, q => by
    simp only [List.length_cons] at hl
    have ht' := fun y hy => ht y (List.mem_cons_of_mem x hy)
    have hp' := fun y hy => hp y (List.mem_cons_of_mem x hy)
    have hf' := fun y hy => hf y (List.mem_cons_of_mem x hy)
    refine Src.okI hs (ht x List.mem_cons_self _ (hp x List.mem_cons_self _ (br2 (fun e => ?_) (fun e => ?_))))
    · refine hf x List.mem_cons_self e _ (comp_pure g p f hs r _ ht' hp' hf' (by rw [List.length_append, List.length_singleton]; omega) ?_)
      rw [List.filter_cons, if_pos e, List.map_cons] at q
      rw [List.append_assoc]
      exact q
    · refine comp_pure g p f hs r _ ht' hp' hf' (by omega) ?_
      rw [List.filter_cons, if_neg (by rw [e]; exact Bool.false_ne_true)] at q
      exact q
theorem comp_map {t : TgI} {te : DTE} {src : Src} {vs : List Nat} {δ : DS} {k : List D → Mp → Prop} {M : Mp} (g : D → DS) (f : D → D) (hs : src.holds M) (xs : List D)
    (ht : ∀ x ∈ xs, ∀ k' : DS → Prop, k' (g x) → t.d x (dwipe δ vs) k') (hf : ∀ x ∈ xs, ∀ Q : DK, Q (f x) M → te (g x) M Q E0d) (hl : xs.length ≤ sizeLine) (q : k (xs.map f) M) : dComp t dYes te src vs δ k xs [] M := by
  refine comp_pure g (fun _ => true) f hs xs [] ht (fun _ _ _ h => h) (fun x hx _ => hf x hx) (by rw [List.length_nil]; omega) ?_
  rw [List.nil_append, List.filter_eq_self.mpr (fun _ _ => rfl)]
  exact q
/-- one name, one comprehension -/
theorem comp_map1 {i : Nat} {te : DTE} {src : Src} {vs : List Nat} {δ : DS} {k : List D → Mp → Prop} {M : Mp} (f : D → D) (hs : src.holds M) (xs : List D)
    (hf : ∀ x ∈ xs, ∀ Q : DK, Q (f x) M → te ((dwipe δ vs).set i (some x)) M Q E0d) (hl : xs.length ≤ sizeLine) (q : k (xs.map f) M) : dComp (.one i) dYes te src vs δ k xs [] M :=
  comp_map (fun x => (dwipe δ vs).set i (some x)) f hs xs (fun _ _ _ h => h) hf hl q
theorem comp_filt1 {i : Nat} {tt : DTT} {te : DTE} {src : Src} {vs : List Nat} {δ : DS} {k : List D → Mp → Prop} {M : Mp} (p : D → Bool) (f : D → D) (hs : src.holds M) (xs : List D)
    (hp : ∀ x ∈ xs, ∀ Q : Bool → Mp → Prop, Q (p x) M → tt ((dwipe δ vs).set i (some x)) M Q E0d)
    (hf : ∀ x ∈ xs, p x = true → ∀ Q : DK, Q (f x) M → te ((dwipe δ vs).set i (some x)) M Q E0d) (hl : xs.length ≤ sizeLine) (q : k ((xs.filter p).map f) M) : dComp (.one i) tt te src vs δ k xs [] M :=
  comp_pure (fun x => (dwipe δ vs).set i (some x)) p f hs xs [] (fun _ _ _ h => h) hp hf (by rw [List.length_nil]; omega) (by rw [List.nil_append]; exact q)
/-- a comprehension without a test whose items may draw: an invariant of what is gathered, and what is left -/
theorem comp_inv {t : TgI} {te : DTE} {src : Src} {vs : List Nat} {δ : DS} {k : List D → Mp → Prop} (J : List D → List D → Mp → Prop)
    (step : ∀ x r acc M (R : DK), J (x :: r) acc M → (∀ y M', J r (acc ++ [y]) M' → R y M') → src.ok M (t.d x (dwipe δ vs) fun δ2 => te δ2 M R E0d))
    (fin : ∀ acc M, J [] acc M → src.ok M (acc.length ≤ sizeLine ∧ k acc M)) : ∀ (xs acc : List D) (M : Mp), J xs acc M → dComp t dYes te src vs δ k xs acc M
  | [], acc, M, h => fin acc M h
  | x :: r, acc, M, h => step x r acc M _ h fun y M' h' => comp_inv J step fin r (acc ++ [y]) M' h'
/-- a loop by its invariant; what is left comes first -/
theorem loop_inv {g : DTG} {tb : DTS} {src : Src} {Dd : DEnds} (J : List D → DS → Mp → Prop)
    (step : ∀ x r δ M (N : DS → Mp → Prop), J (x :: r) δ M → (∀ δ' M', J r δ' M' → N δ' M') → src.ok M (g x δ M (fun δ1 M1 => tb { Dd with nx := N, ct := N, bk := Dd.nx } δ1 M1) (fun c fo M' => Dd.ex c fo δ M')))
    (fin : ∀ δ M, J [] δ M → src.ok M (Dd.nx δ M)) : ∀ (xs : List D) (δ : DS) (M : Mp), J xs δ M → dLoop g tb src xs Dd δ M
  | [], δ, M, h => fin δ M h
  | x :: r, δ, M, h => step x r δ M _ h fun δ' M' h' => loop_inv J step fin r δ' M' h'
/-! ## lists behind -/
theorem ixN_last {n : Nat} : ixN (n + 1) (-1) = some n := by
  unfold ixN
  rw [if_neg (by decide), if_pos (by omega)]
  congr 1
  omega
theorem atI_last {α : Type} {xs : List α} {x : α} : atI (xs ++ [x]) (-1) = some x := by
  unfold atI
  rw [List.length_append, List.length_singleton, ixN_last]
  show (xs ++ [x])[xs.length]? = _
  simp
theorem set_last {α : Type} {xs : List α} {x y : α} : (xs ++ [x]).set xs.length y = xs ++ [y] := by simp
theorem cutD_from {xs : List D} {k : Nat} : cutD xs (some (k : Int)) none = xs.drop k := by
  unfold cutD
  rw [HT.sIx_nat, HT.sIx_none]
  rcases Nat.le_total k xs.length with h | h
  · rw [Nat.min_eq_left h]
    exact List.take_of_length_le (by rw [List.length_drop]; exact Nat.le_refl _)
  · rw [Nat.min_eq_right h, List.drop_of_length_le (Nat.le_refl _), List.drop_of_length_le h, List.take_nil]
theorem cutD_to {xs : List D} {k : Nat} : cutD xs none (some (k : Int)) = xs.take k := by
  unfold cutD
  rw [HT.sIx_nat, HT.sIx_none, List.drop_zero, Nat.sub_zero]
  rcases Nat.le_total k xs.length with h | h
  · rw [Nat.min_eq_left h]
  · rw [Nat.min_eq_right h, List.take_of_length_le (Nat.le_refl _), List.take_of_length_le h]
theorem But.upd {b p : Addr} {M M' : Mp} {o : MO} (h : But b M M') (hp : p = b) : But b M (updM M' p o) := fun a u ne e => by
  rw [updM_ne (fun z => ne (z.trans hp))]
  exact h a u ne e
theorem Ext.upd {p : Addr} {M M' : Mp} {o : MO} (h : Ext M M') (hp : M p = none) : Ext M (updM M' p o) := fun a u e => by
  rw [updM_ne (fun z => by rw [z, hp] at e; cases e)]
  exact h a u e
theorem Ext.none {p : Addr} {M M' : Mp} (h : Ext M M') (hp : M' p = none) : M p = none := by
  cases e : M p with
  | none => rfl
  | some o => rw [h p o e] at hp; cases hp
theorem Ext.but {b : Addr} {M M' : Mp} (h : Ext M M') : But b M M' := fun a o _ e => h a o e
theorem But.none {b p : Addr} {M M' : Mp} (h : But b M M') (n : p ≠ b) (hp : M' p = none) : M p = none := by
  cases e : M p with
  | none => rfl
  | some o => rw [h p o n e] at hp; cases hp
end DL

set_option Elab.async false
set_option linter.all false
set_option maxRecDepth 100000
set_option maxHeartbeats 2000000
namespace DL
open PySem PySem.Spec PyProof.Rows L2
/-! ## what is shown is made of signs -/
theorem Ok.app {s t : Str} (h : Ok s) (k : Ok t) : Ok (s ++ t) := fun c hc => by rw [str_app] at hc; exact (List.mem_append.mp hc).elim (h c) (k c)
theorem ok_textFrom : ∀ (ts : List Str) (k : Nat) (acc : Str), Ok acc → (∀ t ∈ ts, Ok t) → Ok (textFrom k acc ts)
  | [], k, acc, h, _ => h
  | t :: r, k, acc, h, ht => by
    unfold textFrom
    refine ok_textFrom r _ _ ((h.app ?_).app (ht t List.mem_cons_self)) fun x hx => ht x (List.mem_cons_of_mem _ hx)
    split
    · exact ok_of ", "
    · exact ok_of ""
theorem ok_listText {ts : List Str} (h : ∀ t ∈ ts, Ok t) : Ok (listText ts) := (ok_textFrom ts 0 "[" (ok_of "[") h).app (ok_of "]")
theorem ok_strJoin {z : Str} (hz : Ok z) : ∀ {ts : List Str}, (∀ t ∈ ts, Ok t) → Ok (Str.join z ts)
  | [], _ => ok_of ""
  | [a], h => h a List.mem_cons_self
  | a :: b :: r, h => ((h a List.mem_cons_self).app hz).app (ok_strJoin hz fun t ht => h t (List.mem_cons_of_mem _ ht))
theorem ok_join {z : Str} {ts : List Str} (hz : Ok z) (h : ∀ t ∈ ts, Ok t) : Ok (Txt.join z ts) := by
  rw [TL.join_eq]
  exact ok_strJoin hz h
theorem ok_tupleText {ts : List Str} (h : ∀ t ∈ ts, Ok t) : Ok (tupleText ts) := by
  unfold tupleText
  refine ((ok_of "(").app (ok_strJoin (ok_of ", ") h)).app ?_
  split
  · exact ok_of ",)"
  · exact ok_of ")"
theorem char_lt (c : Char) : c.toNat < 0x110000 := by
  have h : c.toNat.isValidChar := c.valid
  rcases h with h | ⟨_, h⟩ <;> omega
theorem ok_reprChar {q c : Nat} (hq : q < 0x110000) (hc : c < 0x110000) : ∀ d ∈ Builtin.Str.reprChar q c, d < 0x110000 := by
  have hx : ∀ (w d : Nat), d ∈ (List.replicate (w - ((Nat.toDigits 16 c).map Char.toNat).length) 48 ++ (Nat.toDigits 16 c).map Char.toNat) → d < 0x110000 := fun w d h => by
    rcases List.mem_append.mp h with h | h
    · rw [(List.mem_replicate.mp h).2]; decide
    · obtain ⟨x, _, rfl⟩ := List.mem_map.mp h
      exact char_lt x
  intro d hd
  unfold PySem.Builtin.Str.reprChar at hd
  dsimp only at hd
  have k2 : ∀ {a b : Nat} {l : List Nat}, a < 0x110000 → b < 0x110000 → (∀ x ∈ l, x < 0x110000) → ∀ x ∈ [a, b] ++ l, x < 0x110000 := fun ha hb hl x h => by
    rcases List.mem_append.mp h with h | h
    · rcases List.mem_cons.mp h with rfl | h
      · exact ha
      · rw [List.mem_singleton.mp h]; exact hb
    · exact hl x h
  repeat' split at hd
  · exact k2 (l := []) (by decide) hc (fun _ z => nomatch z) d hd
  · exact k2 (l := []) (by decide) (by decide) (fun _ z => nomatch z) d hd
  · exact k2 (l := []) (by decide) (by decide) (fun _ z => nomatch z) d hd
  · exact k2 (l := []) (by decide) (by decide) (fun _ z => nomatch z) d hd
  · rw [List.mem_singleton.mp hd]; exact hc
  · exact k2 (by decide) (by decide) (hx 2) d hd
  · exact k2 (by decide) (by decide) (hx 4) d hd
  · exact k2 (by decide) (by decide) (hx 8) d hd
theorem ok_fold {q : Nat} (hq : q < 0x110000) : ∀ (l : List Nat) (acc : Array Nat), (∀ c ∈ acc.toList, c < 0x110000) → (∀ c ∈ l, c < 0x110000) → ∀ c ∈ (l.foldl (fun out c => out ++ (Builtin.Str.reprChar q c).toArray) acc).toList, c < 0x110000
  | [], acc, h, _ => h
  | d :: r, acc, h, hl => by
    refine ok_fold hq r _ (fun c hc => ?_) fun c hc => hl c (List.mem_cons_of_mem _ hc)
    rw [Array.toList_append] at hc
    rcases List.mem_append.mp hc with hc | hc
    · exact h c hc
    · exact ok_reprChar hq (hl d List.mem_cons_self) c hc
theorem ok_reprText {s : Str} (h : Ok s) : Ok (reprText s) := by
  have hq : reprQuote s < 0x110000 := by
    unfold reprQuote
    split <;> decide
  intro c hc
  unfold reprText at hc
  have hc : c ∈ ((s.cps.foldl (fun out c => out ++ (Builtin.Str.reprChar (reprQuote s) c).toArray) #[reprQuote s]).push (reprQuote s)).toList := hc
  rw [Array.toList_push, ← Array.foldl_toList] at hc
  rcases List.mem_append.mp hc with hc | hc
  · refine ok_fold hq _ _ (fun d hd => ?_) h c hc
    rw [show d = _ from List.mem_singleton.mp hd]; exact hq
  · rw [List.mem_singleton.mp hc]; exact hq
/-! ## repr, of larger things -/
theorem show_big {M : Mp} {d : D} {n c : Nat} {Q : DK} (h : Shw M d n c) (hn : n ≤ 60) (hc : c ≤ 16000000) (q : ∀ t, ShOf M d t → t.dep ≤ 60 → t.text.length ≤ sizeLine → Q (.str t.text) M) : ∃ t, ShOf M d t ∧ t.dep ≤ 60 ∧ t.text.length ≤ sizeLine ∧ Q (.str t.text) M := by
  obtain ⟨t, a, b, k⟩ := h
  have h1 := Nat.le_trans b hn
  have h2 : t.text.length ≤ sizeLine := Nat.le_trans (Sh.text_le t) (Nat.le_trans k (Nat.le_trans hc (by decide)))
  exact ⟨t, a, h1, h2, q t a h1 h2⟩
theorem shw_strT {M : Mp} {s : Str} {n : Nat} (h : Ok s) (l : s.length ≤ n) (l2 : n ≤ 1000000) : Shw M (.str s) 0 (10 * n + 2) := by
  have z : (reprText s).length ≤ 10 * s.length + 2 := by
    have := StrLaws.reprText_len s (fun c hc => Nat.lt_trans (h c hc) (by decide))
    omega
  exact ⟨_, .str (Nat.le_trans z (Nat.le_trans (by omega : _ ≤ 10000002) (by decide))), Nat.le_refl _, by unfold Sh.w; omega⟩
theorem Bag.ext {M M' : Mp} {b : Addr} {n : Nat} (h : Bag M b n) (x : Ext M M') : Bag M' b n := by
  obtain ⟨i, j, k, e, r⟩ := h
  exact ⟨i, j, k, x b _ e, r⟩
theorem ne_same {x : Str} {M : Mp} {Q : DK} (h : Q (.bl false) M) : dNe (.str x) (.str x) M Q := by
  show Q (.bl (!decide (x = x))) M
  rw [decide_eq_true rfl]
  exact h
/-! ## texts many times -/
theorem mul_mem {x : Str} {n : Int} {c : Nat} (h : c ∈ (Txt.mul x n).cps.toList) : c ∈ x.cps.toList := by
  have f : ∀ (k : Nat) (acc : Array Nat), c ∈ ((List.replicate k x.cps).foldl (· ++ ·) acc).toList → c ∈ acc.toList ∨ c ∈ x.cps.toList := by
    intro k
    induction k with
    | zero => intro acc h; exact .inl h
    | succ k ih =>
      intro acc h
      rw [List.replicate_succ, List.foldl_cons] at h
      rcases ih _ h with h | h
      · rw [Array.toList_append] at h
        exact List.mem_append.mp h
      · exact .inr h
  unfold Txt.mul at h
  split at h
  · cases h
  · split at h
    · exact h
    · rcases f _ _ h with h | h
      · cases h
      · exact h
theorem mul_ne {x : Str} {n : Int} (hn : 1 ≤ n) (hx : x.cps.toList ≠ []) : (Txt.mul x n).cps.toList ≠ [] := by
  have f : ∀ (k : Nat) (acc : Array Nat), acc.size ≤ ((List.replicate k x.cps).foldl (· ++ ·) acc).size := by
    intro k
    induction k with
    | zero => intro acc; exact Nat.le_refl _
    | succ k ih =>
      intro acc
      rw [List.replicate_succ, List.foldl_cons]
      refine Nat.le_trans ?_ (ih _)
      rw [Array.size_append]; omega
  unfold Txt.mul
  rw [if_neg (by omega)]
  split
  · exact hx
  · obtain ⟨k, hk⟩ : ∃ k, n.toNat = k + 1 := ⟨n.toNat - 1, by omega⟩
    rw [hk, List.replicate_succ, List.foldl_cons]
    intro z
    have a := f k (#[] ++ x.cps)
    rw [Array.size_append] at a
    have b : (List.foldl (· ++ ·) (#[] ++ x.cps) (List.replicate k x.cps)).size = 0 := by
      rw [← Array.length_toList, z]; rfl
    have c : x.cps.toList.length = 0 := by
      rw [Array.length_toList]
      have : (#[] : Array Nat).size = 0 := rfl
      omega
    exact hx (List.length_eq_zero_iff.mp c)
/-- a text by its signs -/
abbrev sL (l : List Nat) : Str := ⟨l.toArray⟩
theorem map_sL (ls : List (List Nat)) : (ls.map sL).map TL.tl = ls := by
  rw [List.map_map]
  refine Eq.trans (List.map_congr_left fun x _ => ?_) (List.map_id ls)
  simp [TL.tl]
end DL

set_option Elab.async false
set_option linter.all false
set_option maxRecDepth 100000
set_option maxHeartbeats 2000000
namespace DL
open PySem PySem.Spec PyProof.Rows L2
section
variable {X : Cx} {W : WX} {pos : Pos} {a b o e : Expr} {ta tb to te : DTE}
/-! ## a word in a list or tuple of texts -/
theorem seqD_out {K : PySem.W.Frag} {I : Hp} {M : Mp} {F H : Hp} (hr : HR K I M F H) {v : V} {d : D} {xs : List D} (r : Rep K I v d) (h : seqD M d = some xs) : ∃ p vs, v = .ref p ∧ (SqL K H p vs ∨ SqT K H p vs) ∧ Reps K I vs xs := by
  cases r with
  | lst s rr => cases h; exact ⟨_, _, rfl, .inl (SqL.of (hr.imm _ _ s)), rr⟩
  | tup s rr => cases h; exact ⟨_, _, rfl, .inr (hr.st s), rr⟩
  | ref p =>
    unfold seqD at h
    dsimp only at h
    split at h
    · rename_i ys e
      cases h
      obtain ⟨vs, e1, rr⟩ := hr.lst e
      exact ⟨_, vs, rfl, .inl (SqL.of e1), rr⟩
    · cases h
  | _ => cases h
def flatD : D → Bool
  | .non => true | .bl _ => true | .int _ => true | .str _ => true | _ => false
def wordIn : D → List Str → Bool
  | .str s, ss => decide (s ∈ ss)
  | _, _ => false
def dInW (g : Bool → Bool) : DR2 := fun x y M Q => ∃ ss : List Str, seqD M y = some (ss.map D.str) ∧ flatD x = true ∧ Q (.bl (g (wordIn x ss))) M
theorem flatD_out {K : PySem.W.Frag} {I : Hp} {v : V} {d : D} (r : Rep K I v d) (h : flatD d = true) : flatV v = true := by
  cases r <;> first | rfl | cases h
theorem reps_words {K : PySem.W.Frag} {I : Hp} : ∀ {ss : List Str} {vs : List V}, Reps K I vs (ss.map D.str) → vs = ss.map V.str
  | [], _, .nil => rfl
  | s :: r, _, .cons h t => by cases h; rw [reps_words t]; rfl
theorem all_flat : ∀ ss : List Str, (ss.map V.str).all flatV = true
  | [] => rfl
  | s :: r => by rw [List.map_cons, List.all_cons, all_flat r]; rfl
theorem inV_words {K : PySem.W.Frag} {I : Hp} {v : V} {d : D} (r : Rep K I v d) (h : flatD d = true) : ∀ ss : List Str, inV v (ss.map V.str) = wordIn d ss := by
  intro ss
  have no : (∀ s : Str, eqV (.str s) v = false) → inV v (ss.map V.str) = false := fun hn => by
    unfold inV
    rw [List.any_map, List.any_eq_false]
    exact fun s _ => by rw [Function.comp_apply, hn s]; exact Bool.false_ne_true
  cases r with
  | str x =>
    clear no
    unfold inV
    induction ss with
    | nil => rfl
    | cons s r ih =>
      rw [List.map_cons, List.any_cons, ih]
      show ((s == x) || decide (x ∈ r)) = decide (x ∈ s :: r)
      by_cases q : x = s
      · subst q; simp
      · rw [show (s == x) = false from by simpa using fun z => q z.symm, Bool.false_or]
        simp [q]
  | non => exact no fun _ => rfl
  | bl x => exact no fun _ => rfl
  | int x => exact no fun _ => rfl
  | _ => cases h
theorem lr_inW {K : PySem.W.Frag} {neg : Bool} {g : Bool → Bool} (hg : ∀ c, g c = if neg = true then !c else c) : LR K (rIn K neg) (dInW g) := fun I M F H x y dx dy Qd Q hr rx ry q fq => by
  obtain ⟨ss, e, fl, q⟩ := q
  obtain ⟨p, vs, rfl, hs, rr⟩ := seqD_out hr ry e
  cases reps_words rr
  refine ⟨p, _, rfl, hs, flatD_out rx fl, all_flat ss, ?_⟩
  have e2 : (if neg then !inV x (ss.map V.str) else inV x (ss.map V.str)) = g (wordIn dx ss) := by
    rw [hg, inV_words rx fl]
  rw [e2]
  exact fq _ M I H _ q (Same.refl I) hr (.bl _)
theorem lr_inW1 {K : PySem.W.Frag} : LR K (rIn K false) (dInW id) := lr_inW fun c => rfl
theorem lr_inW2 {K : PySem.W.Frag} : LR K (rIn K true) (dInW not) := lr_inW fun c => rfl
/-! ## data in a list of data -/
def dInD (g : Bool → Bool) : DR2 := fun x y M Q => ∃ p ps, PyOf M x p ∧ PyOf M y (.list ps) ∧ SeqAt.shaped p = true ∧ SeqAt.shaped (.list ps) = true ∧ Q (.bl (g (ps.any fun z => PyData.eqv z p))) M
theorem lr_inD1 {K : PySem.W.Frag} : LR K (rInD K) (dInD id) := fun I M F H x y dx dy Qd Q hr rx ry q fq => by
  obtain ⟨p, ps, h1, h2, h3, h4, q⟩ := q
  exact ⟨p, ps, dp_of hr p rx h1, dp_of hr _ ry h2, h3, h4, fq _ M I H _ q (Same.refl I) hr (.bl _)⟩
theorem lr_inD2 {K : PySem.W.Frag} : LR K (rNotInD K) (dInD not) := fun I M F H x y dx dy Qd Q hr rx ry q fq => by
  obtain ⟨p, ps, h1, h2, h3, h4, q⟩ := q
  exact ⟨p, ps, dp_of hr p rx h1, dp_of hr _ ry h2, h3, h4, fq _ M I H _ q (Same.refl I) hr (.bl _)⟩
theorem op_inDk {k : Nat} (rm : Room k X.A) : OpR X (compareOp .In) (rInD X.K) := op_inD (by have := rm.un; omega)
theorem op_ninDk {k : Nat} (rm : Room k X.A) : OpR X (compareOp .NotIn) (rNotInD X.K) := op_notInD (by have := rm.un; omega)
end
end DL

set_option Elab.async false
set_option linter.all false
set_option maxRecDepth 100000
set_option maxHeartbeats 2000000
namespace DL
open PySem PySem.Spec PyProof.Rows L2
/-! ## methods of a list that is changed -/
/-- the answer and the list behind, by the list and the arguments -/
abbrev LOp := List D → List D → (D → List D → Prop) → Prop
def dML (r : LOp) (to : DTE) (ta : DTA) : DTE := fun δ M Q E => to δ M (fun x M1 => match x with
  | .ref a => (∃ ys, M1 a = some (.lst ys)) ∧ ta δ M1 (fun ds M2 => ∃ xs, M2 a = some (.lst xs) ∧ r xs ds fun y zs => Q y (updM M2 a (.lst zs))) E
  | _ => False) E
def LLift (K : PySem.W.Frag) (r' : V → List V → Hp → VK → Prop) (r : LOp) : Prop := ∀ (I H : Hp) (a : Addr) (vs : List V) (xs : List D) (us : List V) (ds : List D) (k : D → List D → Prop) (Q : VK), H a = some (.lst vs) → Reps K I vs xs → Reps K I us ds → r xs ds k →
  (∀ y zs v ws, k y zs → Rep K I v y → Reps K I ws zs → Q v (upd H a (.lst ws))) → r' (.ref a) us H Q
section
variable {X : Cx} {W : WX} {pos apos : Pos} {o e : Expr} {es : List Expr} {to : DTE} {ta : DTA} {name : Str} {bid : String} {r' : V → List V → Hp → VK → Prop} {r : LOp}
theorem d_ml (slot : Slot "list" name bid) (ty : typeOf (.builtin bid) = pure (.type "method_descriptor")) (rule : MtR X bid r') (hl : LLift X.K r' r) (ho : DE X W o to) (ha : DA X W (e :: es) ta) (hs : starEach (e :: es) X.env = (false, eval e X.env) :: starEach es X.env := by rfl)
    (hplain : (backTo pos (starEach es X.env)).any (·.1) = false := by rfl) (hbase : attributeBase o name X.env (eval o X.env) = eval o X.env := by rfl) (hline : (apos.endLine == pos.line) = true := by rfl)
    (hfew : ((backTo pos (starEach (e :: es) X.env)).all (fun x => !x.1) && (backToKw pos (keywordEach [] X.env)).all (fun x => x.1.isSome) && decide ((e :: es).length + ([] : List Keyword).length + (if ([] : List Keyword).isEmpty then 0 else 1) < 30)) = true := by rfl) :
    DE X W (.Call (.Attribute o name apos) (e :: es) [] pos) (dML r to ta) := by
  refine pe_imp (pe_bm PySem.F.plainAttrs_list slot ty rule ho ha hbase hfew hline hs hplain) fun σ H Q h => ?_
  obtain ⟨I, M, F, δ, Qd, Ed, hr, rs, q, fq, fx⟩ := h
  refine ⟨I, M, F, δ, _, Ed, hr, rs, q, fun d M1 I1 H1 v q1 s1 hr1 r1 => ?_, fx⟩
  cases r1 with
  | ref a =>
    obtain ⟨⟨ys, e0⟩, q1⟩ := q1
    obtain ⟨vs0, e1, rr0⟩ := hr1.lst e0
    refine ⟨.inl ⟨rfl, vs0, SqL.of e1⟩, I1, M1, F, δ, _, Ed, hr1, rs.mono s1, q1, fun ds M2 I2 H2 us q2 s2 hr2 r2 => ?_, fx.mono s1⟩
    obtain ⟨xs, e2, q⟩ := q2
    obtain ⟨vs, e3, rr⟩ := hr2.lst e2
    refine hl I2 H2 a vs xs us ds _ _ e3 rr r2 q fun y zs w ws q ry rz => ?_
    exact fq _ _ I2 _ _ q (s1.trans s2) (hr2.write e2 (fun _ _ z => nomatch z) (o := .lst ws) (m := .lst zs) ⟨_, rfl, rz⟩) ry
  | _ => exact q1.elim
theorem d_ml0 (slot : Slot "list" name bid) (ty : typeOf (.builtin bid) = pure (.type "method_descriptor")) (rule : MtR X bid r') (hl : LLift X.K r' r) (ho : DE X W o to)
    (hbase : attributeBase o name X.env (eval o X.env) = eval o X.env := by rfl) (hline : (apos.endLine == pos.line) = true := by rfl) : DE X W (.Call (.Attribute o name apos) [] [] pos) (dML r to dNil) := by
  refine pe_imp (pe_bm0 PySem.F.plainAttrs_list slot ty rule ho hbase hline) fun σ H Q h => ?_
  obtain ⟨I, M, F, δ, Qd, Ed, hr, rs, q, fq, fx⟩ := h
  refine ⟨I, M, F, δ, _, Ed, hr, rs, q, fun d M1 I1 H1 v q1 s1 hr1 r1 => ?_, fx⟩
  cases r1 with
  | ref a =>
    obtain ⟨⟨ys, e0⟩, xs, e2, q⟩ := q1
    obtain ⟨vs0, e1, rr0⟩ := hr1.lst e0
    obtain ⟨vs, e3, rr⟩ := hr1.lst e2
    refine ⟨.inl ⟨rfl, vs0, SqL.of e1⟩, hl I1 H1 a vs xs [] [] _ _ e3 rr .nil q fun y zs w ws q ry rz => ?_⟩
    exact fq _ _ I1 _ _ q s1 (hr1.write e2 (fun _ _ z => nomatch z) (o := .lst ws) (m := .lst zs) ⟨_, rfl, rz⟩) ry
  | _ => exact q1.elim
theorem Reps.eraseN {K : PySem.W.Frag} {I : Hp} : ∀ {vs : List V} {ds : List D} (n : Nat), Reps K I vs ds → Reps K I (vs.eraseIdx n) (ds.eraseIdx n)
  | _, _, _, .nil => .nil
  | _, _, 0, .cons _ t => t
  | _, _, n + 1, .cons h t => .cons h (Reps.eraseN n t)
theorem Reps.init {K : PySem.W.Frag} {I : Hp} : ∀ {vs : List V} {ds : List D}, Reps K I vs ds → Reps K I vs.dropLast ds.dropLast
  | _, _, .nil => .nil
  | _, _, .cons _ .nil => .nil
  | _, _, .cons h (.cons h2 t) => .cons h (Reps.init (.cons h2 t))
/-! insert(i, x), reverse(), clear(), extend(list), pop(i), pop() -/
def opInsert : LOp := fun xs ds k => match ds with
  | [.int i, y] => xs.length < sizeLine ∧ 0 ≤ i ∧ i < 2 ^ 63 ∧ k .non (xs.take i.toNat ++ [y] ++ xs.drop i.toNat)
  | _ => False
def opReverse : LOp := fun xs ds k => ds = [] ∧ k .non xs.reverse
def opClear : LOp := fun xs ds k => ds = [] ∧ k .non []
def opPopAt : LOp := fun xs ds k => match ds with
  | [.int i] => 0 ≤ i ∧ i < 2 ^ 63 ∧ ∃ y, xs[i.toNat]? = some y ∧ k y (xs.eraseIdx i.toNat)
  | _ => False
def opPop : LOp := fun xs ds k => ds = [] ∧ ∃ y, xs[xs.length - 1]? = some y ∧ k y xs.dropLast
theorem d_insert {e2 : Expr} (ho : DE X W o to) (ha : DA X W [e, e2] ta) (hs : starEach [e, e2] X.env = (false, eval e X.env) :: starEach [e2] X.env := by rfl) (hplain : (backTo pos (starEach [e2] X.env)).any (·.1) = false := by rfl)
    (hbase : attributeBase o "insert" X.env (eval o X.env) = eval o X.env := by rfl) (hline : (apos.endLine == pos.line) = true := by rfl)
    (hfew : ((backTo pos (starEach [e, e2] X.env)).all (fun x => !x.1) && (backToKw pos (keywordEach [] X.env)).all (fun x => x.1.isSome) && decide ([e, e2].length + ([] : List Keyword).length + (if ([] : List Keyword).isEmpty then 0 else 1) < 30)) = true := by rfl) :
    DE X W (.Call (.Attribute o "insert" apos) [e, e2] [] pos) (dML opInsert to ta) :=
  d_ml PySem.F.slot_list_insert PySem.F.type_list_insert mt_insert (fun I H a vs xs us ds k Q ha rr ru q fq => by
    unfold opInsert at q
    split at q
    · cases ru with
      | cons h1 t => cases h1; cases t with
        | cons h2 t => cases t; exact ⟨_, _, _, _, rfl, rfl, ha, by rw [rr.len]; exact q.1, q.2.1, q.2.2.1, fq _ _ _ _ q.2.2.2 .non (((rr.take _).app (.cons h2 .nil)).app (rr.drop _))⟩
    · exact q.elim) ho ha hs hplain hbase hline hfew
theorem d_reverse (ho : DE X W o to) (hbase : attributeBase o "reverse" X.env (eval o X.env) = eval o X.env := by rfl) (hline : (apos.endLine == pos.line) = true := by rfl) : DE X W (.Call (.Attribute o "reverse" apos) [] [] pos) (dML opReverse to dNil) :=
  d_ml0 PySem.F.slot_list_reverse PySem.F.type_list_reverse mt_reverse (fun I H a vs xs us ds k Q ha rr ru q fq => by
    obtain ⟨rfl, q⟩ := q
    cases ru
    exact ⟨_, _, rfl, rfl, ha, fq _ _ _ _ q .non rr.rev⟩) ho hbase hline
theorem d_clear (ho : DE X W o to) (hbase : attributeBase o "clear" X.env (eval o X.env) = eval o X.env := by rfl) (hline : (apos.endLine == pos.line) = true := by rfl) : DE X W (.Call (.Attribute o "clear" apos) [] [] pos) (dML opClear to dNil) :=
  d_ml0 PySem.F.slot_list_clear PySem.F.type_list_clear mt_clear (fun I H a vs xs us ds k Q ha rr ru q fq => by
    obtain ⟨rfl, q⟩ := q
    cases ru
    exact ⟨_, _, rfl, rfl, ha, fq _ _ _ _ q .non .nil⟩) ho hbase hline
theorem d_pop (ho : DE X W o to) (hbase : attributeBase o "pop" X.env (eval o X.env) = eval o X.env := by rfl) (hline : (apos.endLine == pos.line) = true := by rfl) : DE X W (.Call (.Attribute o "pop" apos) [] [] pos) (dML opPop to dNil) :=
  d_ml0 PySem.F.slot_list_pop PySem.F.type_list_pop mt_pop (fun I H a vs xs us ds k Q ha rr ru q fq => by
    obtain ⟨rfl, y, e, q⟩ := q
    cases ru
    obtain ⟨v, e1, r1⟩ := reps_get rr _ _ e
    exact ⟨_, _, v, rfl, rfl, ha, by rw [rr.len]; exact e1, fq _ _ _ _ q r1 rr.init⟩) ho hbase hline
theorem d_popAt (ho : DE X W o to) (ha : DA X W [e] ta) (hs : starEach [e] X.env = (false, eval e X.env) :: starEach [] X.env := by rfl) (hplain : (backTo pos (starEach [] X.env)).any (·.1) = false := by rfl)
    (hbase : attributeBase o "pop" X.env (eval o X.env) = eval o X.env := by rfl) (hline : (apos.endLine == pos.line) = true := by rfl)
    (hfew : ((backTo pos (starEach [e] X.env)).all (fun x => !x.1) && (backToKw pos (keywordEach [] X.env)).all (fun x => x.1.isSome) && decide ([e].length + ([] : List Keyword).length + (if ([] : List Keyword).isEmpty then 0 else 1) < 30)) = true := by rfl) :
    DE X W (.Call (.Attribute o "pop" apos) [e] [] pos) (dML opPopAt to ta) :=
  d_ml PySem.F.slot_list_pop PySem.F.type_list_pop mt_popAt (fun I H a vs xs us ds k Q ha rr ru q fq => by
    unfold opPopAt at q
    split at q
    · rename_i i
      obtain ⟨q0, q1, y, e, q⟩ := q
      cases ru with
      | cons h1 t => cases h1; cases t; 
                     obtain ⟨v, e1, r1⟩ := reps_get rr _ _ e
                     have hl : i.toNat < vs.length := (List.getElem?_eq_some_iff.mp e1).1
                     refine ⟨_, _, i, i.toNat, v, rfl, rfl, ha, by omega, q1, ?_, e1, fq _ _ _ _ q r1 (rr.eraseN _)⟩
                     have hi : (i.toNat : Int) = i := Int.toNat_of_nonneg q0
                     show (if 0 ≤ (if i < 0 then i + (vs.length : Int) else i) && (if i < 0 then i + (vs.length : Int) else i) < vs.length then some (if i < 0 then i + (vs.length : Int) else i).toNat else none) = some i.toNat
                     rw [if_neg (by omega : ¬ i < 0), if_pos (by simp only [Bool.and_eq_true, decide_eq_true_eq]; omega)]
    · exact q.elim) ho ha hs hplain hbase hline hfew
end
end DL

set_option Elab.async false
set_option linter.all false
set_option maxRecDepth 100000
set_option maxHeartbeats 2000000
namespace DL
open PySem PySem.Spec PyProof.Rows L2
/-! ## dicts that are changed: by numbers and texts, by tuples of these -/
def keyD : D → Option Key
  | .int i => some (.inl i)
  | .str s => some (.inr s)
  | _ => none
def keysD : List D → Option (List Key)
  | [] => some []
  | d :: r => (keyD d).bind fun k => (keysD r).map (k :: ·)
def valD {κ : Type} [DecidableEq κ] (kvs : List (κ × D)) (k : κ) : Option D := (kvs.find? fun kv => decide (kv.1 = k)).map (·.2)
def putT (kvs : List (List Key × D)) (k : List Key) (v : D) : List (List Key × D) :=
  if (kvs.any fun kv => decide (kv.1 = k)) = true then kvs.map (fun kv => if kv.1 = k then (kv.1, v) else kv) else kvs ++ [(k, v)]
section
variable {K : PySem.W.Frag} {I : Hp} {M : Mp} {F H : Hp}
theorem keyD_out {v : V} {d : D} {k : Key} (r : Rep K I v d) (h : keyD d = some k) : v = kV k := by
  cases r <;> first | cases h | skip
  · rfl
  · rfl
theorem keysD_out : ∀ {vs : List V} {ds : List D} {ks : List Key}, Reps K I vs ds → keysD ds = some ks → vs = ks.map kV
  | _, _, _, .nil, h => by cases h; rfl
  | _, _, _, .cons (d := d) (ds := ds) a b, h => by
    unfold keysD at h
    cases e : keyD d with
    | none => rw [e] at h; cases h
    | some k =>
      rw [e] at h
      have h : (keysD ds).map (k :: ·) = some _ := h
      cases e2 : keysD ds with
      | none => rw [e2] at h; cases h
      | some ks =>
        rw [e2] at h
        cases h
        rw [keyD_out a e, keysD_out b e2]
        rfl
theorem RepK.val (k : Key) : ∀ {vs : List (Key × V)} {ds : List (Key × D)}, RepK K I vs ds → (valD ds k = none ∧ valV vs k = none) ∨ ∃ v d, valD ds k = some d ∧ valV vs k = some v ∧ Rep K I v d
  | _, _, .nil => .inl ⟨rfl, rfl⟩
  | _, _, .cons (k := k1) (v := v) (d := d) a b => by
    unfold valD valV
    rw [List.find?_cons, List.find?_cons]
    by_cases e : k1 = k
    · rw [decide_eq_true e]; exact .inr ⟨v, d, rfl, rfl, a⟩
    · rw [decide_eq_false e]; exact RepK.val k b
theorem RepT.len : ∀ {vs : List (List Key × V)} {ds : List (List Key × D)}, RepT K I vs ds → vs.length = ds.length
  | _, _, .nil => rfl
  | _, _, .cons _ t => congrArg (· + 1) (RepT.len t)
theorem RepT.val (k : List Key) : ∀ {vs : List (List Key × V)} {ds : List (List Key × D)}, RepT K I vs ds → (valD ds k = none ∧ valV vs k = none) ∨ ∃ v d, valD ds k = some d ∧ valV vs k = some v ∧ Rep K I v d
  | _, _, .nil => .inl ⟨rfl, rfl⟩
  | _, _, .cons (k := k1) (v := v) (d := d) a b => by
    unfold valD valV
    rw [List.find?_cons, List.find?_cons]
    by_cases e : k1 = k
    · rw [decide_eq_true e]; exact .inr ⟨v, d, rfl, rfl, a⟩
    · rw [decide_eq_false e]; exact RepT.val k b
theorem RepT.anyK (k : List Key) : ∀ {vs : List (List Key × V)} {ds : List (List Key × D)}, RepT K I vs ds → (vs.any fun kv => decide (kv.1 = k)) = (ds.any fun kv => decide (kv.1 = k))
  | _, _, .nil => rfl
  | _, _, .cons _ r => by rw [List.any_cons, List.any_cons, RepT.anyK k r]
theorem RepT.mapP {k : List Key} {v : V} {d : D} (r : Rep K I v d) : ∀ {vs : List (List Key × V)} {ds : List (List Key × D)}, RepT K I vs ds → RepT K I (vs.map fun kv => if kv.1 = k then (kv.1, v) else kv) (ds.map fun kv => if kv.1 = k then (kv.1, d) else kv)
  | _, _, .nil => .nil
  | _, _, .cons (k := k1) a b => by
    simp only [List.map_cons]
    by_cases e : k1 = k
    · simp only [if_pos e]; exact .cons r (RepT.mapP r b)
    · simp only [if_neg e]; exact .cons a (RepT.mapP r b)
theorem RepT.snoc {k : List Key} {v : V} {d : D} (r : Rep K I v d) : ∀ {vs : List (List Key × V)} {ds : List (List Key × D)}, RepT K I vs ds → RepT K I (vs ++ [(k, v)]) (ds ++ [(k, d)])
  | _, _, .nil => .cons r .nil
  | _, _, .cons a b => .cons a (RepT.snoc r b)
theorem RepT.put {k : List Key} {v : V} {d : D} (r : Rep K I v d) {vs : List (List Key × V)} {ds : List (List Key × D)} (h : RepT K I vs ds) : RepT K I (putK vs k v) (putT ds k d) := by
  unfold putK putT
  rw [h.anyK k]
  split
  · exact h.mapP r
  · exact h.snoc r
/-- a dict that is read: frozen, to be changed, or locked -/
def asD (M : Mp) (d : D) (k : List (Key × D) → Prop) : Prop := match d with
  | .dct kvs => k kvs
  | .ref a => (∃ kvs, M a = some (.dct kvs) ∧ k kvs) ∨ ∃ od us kvs, M a = some (.dctL od us kvs) ∧ k kvs
  | _ => False
theorem asD_out (hr : HR K I M F H) {v : V} {d : D} {k : List (Key × D) → Prop} (r : Rep K I v d) (h : asD M d k) : ∃ a vs kvs, v = .ref a ∧ Rd H a (.dK vs) ∧ RepK K I vs kvs ∧ k kvs := by
  cases r with
  | dct s rr => exact ⟨_, _, _, rfl, .inl (hr.imm _ _ s), rr, h⟩
  | ref a =>
    rcases h with ⟨kvs, e, q⟩ | ⟨od, us, kvs, e, q⟩
    · obtain ⟨vs, e1, rr⟩ := hr.dct e
      exact ⟨a, vs, kvs, rfl, .inl e1, rr, q⟩
    · obtain ⟨_, o, e1, rfl, rr⟩ := hr.mu a _ e
      exact ⟨a, us, kvs, rfl, .inr ⟨od, e1⟩, rr, q⟩
  | _ => exact h.elim
/-- .. by tuples -/
def asT (M : Mp) (d : D) (k : List (List Key × D) → Prop) : Prop := match d with
  | .ref a => (∃ kvs, M a = some (.dT kvs) ∧ k kvs) ∨ ∃ od us kvs, M a = some (.dTL od us kvs) ∧ k kvs
  | _ => False
theorem asT_out (hr : HR K I M F H) {v : V} {d : D} {k : List (List Key × D) → Prop} (r : Rep K I v d) (h : asT M d k) : ∃ a vs kvs, v = .ref a ∧ Rd H a (.dT vs) ∧ RepT K I vs kvs ∧ k kvs := by
  cases r with
  | ref a =>
    rcases h with ⟨kvs, e, q⟩ | ⟨od, us, kvs, e, q⟩
    · obtain ⟨_, o, e1, vs, rfl, rr⟩ := hr.mu a _ e
      exact ⟨a, vs, kvs, rfl, .inl e1, rr, q⟩
    · obtain ⟨_, o, e1, rfl, rr⟩ := hr.mu a _ e
      exact ⟨a, us, kvs, rfl, .inr ⟨od, e1⟩, rr, q⟩
  | _ => exact h.elim
end
/-! d[k], k in d, d.get(k, x), d[k] = v: keys that are numbers or texts -/
def dGetK : DR2 := fun x y M Q => asD M x fun kvs => ∃ k v, keyD y = some k ∧ valD kvs k = some v ∧ Q v M
def dInK (g : Bool → Bool) : DR2 := fun x y M Q => asD M y fun kvs => ∃ k, keyD x = some k ∧ Q (.bl (g (valD kvs k).isSome)) M
section
variable {X : Cx} {W : WX} {pos apos tpos : Pos} {a b o e f i : Expr} {ta tb to te tf ti : DTE}
theorem d_dget {k : Nat} (rm : Room k X.A) (ho : DE X W o to) (hi : DE X W i ti) (hs : NoSl i := by intro _ _; rfl) : DE X W (.Subscript o i pos) (dOp dGetK to ti) := by
  refine pe_imp (pe_dget (by have := rm.un; omega) ho hi hs) fun σ H Q h => ?_
  obtain ⟨I, M, F, δ, Qd, Ed, hr, rs, q, fq, fx⟩ := h
  refine ⟨I, M, F, δ, _, Ed, hr, rs, q, fun x M1 I1 H1 v q1 s1 hr1 r1 => ?_, fx⟩
  refine ⟨I1, M1, F, δ, _, Ed, hr1, rs.mono s1, q1, fun y M2 I2 H2 w q2 s2 hr2 r2 => ?_, fx.mono s1⟩
  obtain ⟨p, vs, kvs, rfl, rd, rr, kk, u, e1, e2, q⟩ := asD_out hr2 (r1.mono s2) q2
  cases keyD_out r2 e1
  rcases rr.val kk with ⟨z, _⟩ | ⟨v, d, z1, z2, z3⟩
  · rw [z] at e2; cases e2
  · rw [z1] at e2
    cases e2
    exact ⟨p, v, rfl, .inl ⟨vs, kk, rd, rfl, z2.symm⟩, fq _ M2 I2 H2 v q (s1.trans s2) hr2 z3⟩
theorem op_inK {k : Nat} (rm : Room k X.A) : OpR X (compareOp .In) (fun x y H Q => ∃ p o, y = .ref p ∧ DGet H p x o ∧ Q (.bl o.isSome) H) := fun pins s σ H x y v u Q J rx ry h => by
  obtain ⟨p, o, rfl, g, q⟩ := h
  cases ry
  exact d_in (by have := rm.un; omega) J g rx fun s' J' => ⟨.bl _, H, J', rfl, q⟩
theorem op_ninK {k : Nat} (rm : Room k X.A) : OpR X (compareOp .NotIn) (fun x y H Q => ∃ p o, y = .ref p ∧ DGet H p x o ∧ Q (.bl (!o.isSome)) H) := fun pins s σ H x y v u Q J rx ry h => by
  obtain ⟨p, o, rfl, g, q⟩ := h
  cases ry
  exact d_notIn (by have := rm.un; omega) J g rx fun s' J' => ⟨.bl _, H, J', rfl, q⟩
theorem lr_inK {K : PySem.W.Frag} {g : Bool → Bool} : LR K (fun x y H Q => ∃ p o, y = .ref p ∧ DGet H p x o ∧ Q (.bl (g o.isSome)) H) (dInK g) := fun I M F H x y dx dy Qd Q hr rx ry q fq => by
  obtain ⟨p, vs, kvs, rfl, rd, rr, kk, e1, q⟩ := asD_out hr ry q
  cases keyD_out rx e1
  refine ⟨p, valV vs kk, rfl, .inl ⟨vs, kk, rd, rfl, rfl⟩, ?_⟩
  have e2 : (valV vs kk).isSome = (valD kvs kk).isSome := by
    rcases rr.val kk with ⟨z1, z2⟩ | ⟨v, d, z1, z2, _⟩ <;> rw [z1, z2] <;> rfl
  rw [e2]
  exact fq _ M I H _ q (Same.refl I) hr (.bl _)
theorem lr_inK1 {K : PySem.W.Frag} : LR K (fun x y H Q => ∃ p o, y = .ref p ∧ DGet H p x o ∧ Q (.bl o.isSome) H) (dInK id) := lr_inK (g := id)
theorem lr_inK2 {K : PySem.W.Frag} : LR K (fun x y H Q => ∃ p o, y = .ref p ∧ DGet H p x o ∧ Q (.bl (!o.isSome)) H) (dInK not) := lr_inK (g := not)
/-- the dict is known as one ahead of the key -/
def dictIs (M : Mp) (d : D) : Prop := (∃ kvs, d = .dct kvs) ∨ ∃ p, d = .ref p ∧ ((∃ kvs, M p = some (.dct kvs)) ∨ (∃ od us kvs, M p = some (.dctL od us kvs)) ∨ (∃ kvs, M p = some (.dT kvs)) ∨ ∃ od us kvs, M p = some (.dTL od us kvs))
theorem dictIs_out {K : PySem.W.Frag} {I : Hp} {M : Mp} {F H : Hp} (hr : HR K I M F H) {v : V} {d : D} (r : Rep K I v d) (h : dictIs M d) : ∃ p, v = .ref p ∧ IsD H p := by
  rcases h with ⟨kvs, rfl⟩ | ⟨p, rfl, h | h | h | h⟩
  · cases r with | dct s rr => exact ⟨_, rfl, .inl ⟨_, .inl (hr.imm _ _ s)⟩⟩
  · obtain ⟨kvs, e⟩ := h
    cases r
    obtain ⟨_, o, e1, vs, rfl, rr⟩ := hr.mu p _ e
    exact ⟨p, rfl, .inl ⟨vs, .inl e1⟩⟩
  · obtain ⟨od, us, kvs, e⟩ := h
    cases r
    obtain ⟨_, o, e1, rfl, rr⟩ := hr.mu p _ e
    exact ⟨p, rfl, .inl ⟨us, .inr ⟨od, e1⟩⟩⟩
  · obtain ⟨kvs, e⟩ := h
    cases r
    obtain ⟨_, o, e1, vs, rfl, rr⟩ := hr.mu p _ e
    exact ⟨p, rfl, .inr ⟨vs, .inl e1⟩⟩
  · obtain ⟨od, us, kvs, e⟩ := h
    cases r
    obtain ⟨_, o, e1, rfl, rr⟩ := hr.mu p _ e
    exact ⟨p, rfl, .inr ⟨us, .inr ⟨od, e1⟩⟩⟩
def dGet2 (to ti tf : DTE) : DTE := fun δ M Q E => to δ M (fun x M1 => dictIs M1 x ∧ ti δ M1 (fun y M2 => tf δ M2 (fun z M3 => asD M3 x fun kvs => ∃ k, keyD y = some k ∧ Q ((valD kvs k).getD z) M3) E) E) E
theorem d_get2 {k : Nat} (rm : Room k X.A) (ho : DE X W o to) (hi : DE X W i ti) (hf : DE X W f tf) (hbase : attributeBase o "get" X.env (eval o X.env) = eval o X.env := by rfl)
    (hfew : ((backTo pos (starEach [i, f] X.env)).all (fun x => !x.1) && (backToKw pos (keywordEach [] X.env)).all (fun x => x.1.isSome) && decide (([i, f] : List Expr).length + ([] : List Keyword).length + (if ([] : List Keyword).isEmpty then 0 else 1) < 30)) = true := by rfl)
    (hline : (apos.endLine == pos.line) = true := by rfl) (htr : backTo pos (starEach [i, f] X.env) = [(false, eval i X.env), (false, eval f X.env)] := by rfl) : DE X W (.Call (.Attribute o "get" apos) [i, f] [] pos) (dGet2 to ti tf) := by
  refine pe_imp (pe_dget2 (by have := rm.un; omega) ho hi hf ⟨hbase, hfew, hline, htr⟩) fun σ H Q h => ?_
  obtain ⟨I, M, F, δ, Qd, Ed, hr, rs, q, fq, fx⟩ := h
  refine ⟨I, M, F, δ, _, Ed, hr, rs, q, fun x M1 I1 H1 v q1 s1 hr1 r1 => ?_, fx⟩
  obtain ⟨p, rfl, isd⟩ := dictIs_out hr1 r1 q1.1
  refine ⟨p, rfl, isd, I1, M1, F, δ, _, Ed, hr1, rs.mono s1, q1.2, fun y M2 I2 H2 w q2 s2 hr2 r2 => ?_, fx.mono s1⟩
  refine ⟨I2, M2, F, δ, _, Ed, hr2, (rs.mono s1).mono s2, q2, fun z M3 I3 H3 u q3 s3 hr3 r3 => ?_, (fx.mono s1).mono s2⟩
  obtain ⟨p', vs, kvs, e, rd, rr, kk, e1, q⟩ := asD_out hr3 ((r1.mono s2).mono s3) q3
  cases e
  cases keyD_out (r2.mono s3) e1
  refine ⟨valV vs kk, .inl ⟨vs, kk, rd, rfl, rfl⟩, ?_⟩
  have s123 := (s1.trans s2).trans s3
  rcases rr.val kk with ⟨z1, z2⟩ | ⟨v, d, z1, z2, z3⟩
  · rw [z1] at q; rw [z2]; exact fq _ M3 I3 H3 _ q s123 hr3 r3
  · rw [z1] at q; rw [z2]; exact fq _ M3 I3 H3 _ q s123 hr3 z3
/-- d[k] = v -/
def gdSubD (to ti : DTE) : DTG := fun d δ M Q E => to δ M (fun x M1 => ti δ M1 (fun y M2 => ∃ p kvs k, x = .ref p ∧ M2 p = some (.dct kvs) ∧ keyD y = some k ∧ kvs.length < sizeLine ∧ Q δ (updM M2 p (.dct (putD kvs k d)))) E) E
theorem g_subD {k : Nat} (rm : Room k X.A) (ho : DE X W o to) (hi : DE X W i ti)
    (hq : ∀ z, assign (.Subscript o i pos) X.env z = (do let x1 ← holding [z] (eval o X.env); let x2 ← holding [z, x1] (eval i X.env); standAt pos; holding [z, x1, x2] (setItem x1 x2 z); release [z, x1, x2] []) := by intro _; rfl) : DG X W (.Subscript o i pos) (gdSubD to ti) := pg_imp (pg_sub ho hi (set_dict (by have := rm.un; omega)) hq) fun v σ H Q h => by
  obtain ⟨I, M, F, δ, d, Qd, Ed, hr, rs, r, q, fq, fx⟩ := h
  refine ⟨I, M, F, δ, _, Ed, hr, rs, q, fun x M1 I1 H1 vo q1 s1 hr1 r1 => ?_, fx⟩
  refine ⟨I1, M1, F, δ, _, Ed, hr1, rs.mono s1, q1, fun y M2 I2 H2 vi q2 s2 hr2 r2 => ?_, fx.mono s1⟩
  obtain ⟨p, kvs, kk, rfl, e, e1, hl, q⟩ := q2
  cases r1
  cases keyD_out r2 e1
  obtain ⟨vs, e2, rr⟩ := hr2.dct e
  have s12 := s1.trans s2
  exact ⟨p, _, rfl, .inl ⟨vs, kk, e2, rfl, by rw [rr.len]; exact hl, rfl⟩, fq _ _ I2 _ _ q s12 (hr2.write e (fun _ _ z => nomatch z) (o := .dK (putK vs kk v)) (m := .dct (putD kvs kk d)) ⟨_, rfl, rr.put (r.mono s12)⟩) (rs.mono s12)⟩
end
end DL

set_option Elab.async false
set_option linter.all false
set_option maxRecDepth 100000
set_option maxHeartbeats 2000000
namespace DL
open PySem PySem.Spec PyProof.Rows L2
/-! ## dicts by tuples: the key's tuple is made on the way -/
def lKx (K : PySem.W.Frag) (W : WX) (t : DTA) : TE := fun σ H Q => ∃ I M F δ Qd Ed, HR K I M F H ∧ RepS K I σ δ ∧ t δ M Qd Ed ∧ (∀ ds M' I' H' b vs, Qd ds M' → Same I I' → HR K I' M' F H' → I' b = some (.tup vs) → Reps K I' vs ds → Q (.ref b) H') ∧ FinX K I F Ed (WE W σ)
def DKx (X : Cx) (W : WX) (e : Expr) (t : DTA) : Prop := PE X e (lKx X.K W t)
def kTup (ta : DTA) : DTA := fun δ M Q E => ta δ M (fun ds M1 => ds.length ≤ sizeLine ∧ Q ds M1) E
def kTuple (te : DTE) : DTA := fun δ M Q E => te δ M (fun d M1 => asX M1 d fun xs => Q xs M1) E
section
variable {X : Cx} {W : WX} {pos apos tpos p : Pos} {a b o e f i : Expr} {es : List Expr} {ta tk : DTA} {tb to te tf ti tv : DTE}
theorem kx_tup {x1} (ha : DA X W es ta) : DKx X W (.Tuple es x1 pos) (kTup ta) := pe_imp (pe_tup ha) fun σ H Q h => by
  obtain ⟨I, M, F, δ, Qd, Ed, hr, rs, q, fq, fx⟩ := h
  refine ⟨I, M, F, δ, _, Ed, hr, rs, q, fun ds M1 I1 H1 vs q1 s1 hr1 r1 => ⟨by rw [r1.len]; exact q1.1, fun t ht => ?_⟩, fx⟩
  have s2 := same_new (o := .tup vs) (hr1.fresh ht).1
  exact fq ds M1 _ _ t vs q1.2 (s1.trans s2) (hr1.newI ht _) upd_same (r1.mono s2)
theorem kx_tuple (hm : X.mg "tuple" = none) (he : DE X W e te) (hs : starEach [e] X.env = (false, eval e X.env) :: starEach [] X.env := by rfl) (hg : Gl X "tuple" := by rfl) (hpl : (backTo pos (starEach [] X.env)).any (·.1) = false := by rfl) : DKx X W (.Call (.Name "tuple" p) [e] [] pos) (kTuple te) := by
  refine ⟨fun pins s σ H Q J h => ?_⟩
  obtain ⟨I, M, F, δ, Qd, Ed, hr, rs, q, fq, fx⟩ := h
  refine (pe_callTy call_tuple_of hg hm (by decide +kernel) (pa_cons he pa_nil hs) (by decide) (by decide) hs hpl).run pins s σ H Q J ?_
  refine ⟨I, M, F, δ, _, Ed, hr, rs, q, fun d M1 I1 H1 v q1 s1 hr1 r1 => ?_, fx⟩
  obtain ⟨t, vs, ds, rfl, e1, r2, q2⟩ := asX_out hr1 r1 q1
  refine ⟨t, vs, rfl, .inl ⟨SqL.of e1, fun l hl => ?_⟩⟩
  have s2 := same_new (o := .tup vs) (hr1.fresh hl).1
  exact fq ds M1 _ _ l vs q2 (s1.trans s2) (hr1.newI hl _) upd_same (r2.mono s2)
/-! (..) in d, d.get((..), x), d[(..)], d[(..)] = v, {}, len(d) -/
def dInT (g : Bool → Bool) (tk : DTA) (to : DTE) : DTE := fun δ M Q E => tk δ M (fun ks M1 => to δ M1 (fun x M2 => asT M2 x fun kvs => ∃ kk, keysD ks = some kk ∧ Q (.bl (g (valD kvs kk).isSome)) M2) E) E
theorem inT_lift {K : PySem.W.Frag} {g : Bool → Bool} : ∀ σ H Q, lE K W (dInT g tk to) σ H Q → (lKx K W tk) σ H fun y H1 => (lE K W to) σ H1 fun x H2 => ∃ a o, x = .ref a ∧ DGet H2 a y o ∧ Q (.bl (g o.isSome)) H2 := by
  intro σ H Q h
  obtain ⟨I, M, F, δ, Qd, Ed, hr, rs, q, fq, fx⟩ := h
  refine ⟨I, M, F, δ, _, Ed, hr, rs, q, fun ks M1 I1 H1 t vs q1 s1 hr1 ht r1 => ?_, fx⟩
  refine ⟨I1, M1, F, δ, _, Ed, hr1, rs.mono s1, q1, fun x M2 I2 H2 w q2 s2 hr2 r2 => ?_, fx.mono s1⟩
  obtain ⟨d, us, kvs, rfl, rd, rt, kk, e1, q3⟩ := asT_out hr2 r2 q2
  cases keysD_out r1 e1
  refine ⟨d, valV us kk, rfl, .inr ⟨us, kk, t, rd, rfl, hr2.imm _ _ (s2 _ _ ht), rfl⟩, ?_⟩
  have e2 : (valV us kk).isSome = (valD kvs kk).isSome := by
    rcases rt.val kk with ⟨z1, z2⟩ | ⟨v, d, z1, z2, _⟩ <;> rw [z1, z2] <;> rfl
  rw [e2]
  exact fq _ M2 I2 H2 _ q3 (s1.trans s2) hr2 (.bl _)
theorem d_inT {k : Nat} (rm : Room k X.A) (hk : DKx X W e tk) (ho : DE X W o to) (hm : behindInMarks .In o = false := by rfl) : DE X W (.Compare e [.In] [o] pos) (dInT id tk to) :=
  pe_imp (pe_cmp (pc_din (by have := rm.un; omega) hk ho) hm) inT_lift
theorem d_ninT {k : Nat} (rm : Room k X.A) (hk : DKx X W e tk) (ho : DE X W o to) (hm : behindInMarks .NotIn o = false := by rfl) : DE X W (.Compare e [.NotIn] [o] pos) (dInT not tk to) :=
  pe_imp (pe_cmp (pc_dnotin (by have := rm.un; omega) hk ho) hm) inT_lift
theorem t_inT {k : Nat} (rm : Room k X.A) (hk : DKx X W e tk) (ho : DE X W o to) (hm : behindInMarks .In o = false := by rfl) : DT X W (.Compare e [.In] [o] pos) (dTest (dInT id tk to)) :=
  pt_imp (pt_cmp (pc_din (by have := rm.un; omega) hk ho) hm) fun _ _ _ q => inT_lift (g := id) _ _ _ (test_lift q)
theorem t_ninT {k : Nat} (rm : Room k X.A) (hk : DKx X W e tk) (ho : DE X W o to) (hm : behindInMarks .NotIn o = false := by rfl) : DT X W (.Compare e [.NotIn] [o] pos) (dTest (dInT not tk to)) :=
  pt_imp (pt_cmp (pc_dnotin (by have := rm.un; omega) hk ho) hm) fun _ _ _ q => inT_lift (g := not) _ _ _ (test_lift q)
def dGetT2 (to : DTE) (tk : DTA) (tf : DTE) : DTE := fun δ M Q E => to δ M (fun x M1 => dictIs M1 x ∧ tk δ M1 (fun ks M2 => tf δ M2 (fun z M3 => asT M3 x fun kvs => ∃ kk, keysD ks = some kk ∧ Q ((valD kvs kk).getD z) M3) E) E) E
theorem d_getT2 {k : Nat} (rm : Room k X.A) (ho : DE X W o to) (hi : DKx X W i tk) (hf : DE X W f tf) (hbase : attributeBase o "get" X.env (eval o X.env) = eval o X.env := by rfl)
    (hfew : ((backTo pos (starEach [i, f] X.env)).all (fun x => !x.1) && (backToKw pos (keywordEach [] X.env)).all (fun x => x.1.isSome) && decide (([i, f] : List Expr).length + ([] : List Keyword).length + (if ([] : List Keyword).isEmpty then 0 else 1) < 30)) = true := by rfl)
    (hline : (apos.endLine == pos.line) = true := by rfl) (htr : backTo pos (starEach [i, f] X.env) = [(false, eval i X.env), (false, eval f X.env)] := by rfl) : DE X W (.Call (.Attribute o "get" apos) [i, f] [] pos) (dGetT2 to tk tf) := by
  refine pe_imp (pe_dget2 (by have := rm.un; omega) ho hi hf ⟨hbase, hfew, hline, htr⟩) fun σ H Q h => ?_
  obtain ⟨I, M, F, δ, Qd, Ed, hr, rs, q, fq, fx⟩ := h
  refine ⟨I, M, F, δ, _, Ed, hr, rs, q, fun x M1 I1 H1 v q1 s1 hr1 r1 => ?_, fx⟩
  obtain ⟨d, rfl, isd⟩ := dictIs_out hr1 r1 q1.1
  refine ⟨d, rfl, isd, I1, M1, F, δ, _, Ed, hr1, rs.mono s1, q1.2, fun ks M2 I2 H2 t vs q2 s2 hr2 ht r2 => ?_, fx.mono s1⟩
  refine ⟨I2, M2, F, δ, _, Ed, hr2, (rs.mono s1).mono s2, q2, fun z M3 I3 H3 u q3 s3 hr3 r3 => ?_, (fx.mono s1).mono s2⟩
  obtain ⟨d', us, kvs, e, rd, rt, kk, e1, q4⟩ := asT_out hr3 ((r1.mono s2).mono s3) q3
  cases e
  cases keysD_out r2 e1
  refine ⟨valV us kk, .inr ⟨us, kk, t, rd, rfl, hr3.imm _ _ (s3 _ _ ht), rfl⟩, ?_⟩
  have s123 := (s1.trans s2).trans s3
  rcases rt.val kk with ⟨z1, z2⟩ | ⟨v, d, z1, z2, z3⟩
  · rw [z1] at q4; rw [z2]; exact fq _ M3 I3 H3 _ q4 s123 hr3 r3
  · rw [z1] at q4; rw [z2]; exact fq _ M3 I3 H3 _ q4 s123 hr3 z3
def dGetT (to : DTE) (tk : DTA) : DTE := fun δ M Q E => to δ M (fun x M1 => tk δ M1 (fun ks M2 => asT M2 x fun kvs => ∃ kk v, keysD ks = some kk ∧ valD kvs kk = some v ∧ Q v M2) E) E
theorem d_getT {k : Nat} (rm : Room k X.A) (ho : DE X W o to) (hi : DKx X W i tk) (hs : NoSl i := by intro _ _; rfl) : DE X W (.Subscript o i pos) (dGetT to tk) := by
  refine pe_imp (pe_dget (by have := rm.un; omega) ho hi hs) fun σ H Q h => ?_
  obtain ⟨I, M, F, δ, Qd, Ed, hr, rs, q, fq, fx⟩ := h
  refine ⟨I, M, F, δ, _, Ed, hr, rs, q, fun x M1 I1 H1 v q1 s1 hr1 r1 => ?_, fx⟩
  refine ⟨I1, M1, F, δ, _, Ed, hr1, rs.mono s1, q1, fun ks M2 I2 H2 t vs q2 s2 hr2 ht r2 => ?_, fx.mono s1⟩
  obtain ⟨d, us, kvs, rfl, rd, rt, kk, u, e1, e2, q3⟩ := asT_out hr2 (r1.mono s2) q2
  cases keysD_out r2 e1
  rcases rt.val kk with ⟨z, _⟩ | ⟨v, d', z1, z2, z3⟩
  · rw [z] at e2; cases e2
  · rw [z1] at e2
    cases e2
    exact ⟨d, v, rfl, .inr ⟨us, kk, t, rd, rfl, hr2.imm _ _ ht, z2.symm⟩, fq _ M2 I2 H2 v q3 (s1.trans s2) hr2 z3⟩
def dPutT (to : DTE) (tk : DTA) (tv : DTE) : DTS := fun Dd δ M => tv δ M (fun v M1 => to δ M1 (fun x M2 => tk δ M2 (fun ks M3 => ∃ d kvs kk, x = .ref d ∧ M3 d = some (.dT kvs) ∧ keysD ks = some kk ∧ kvs.length < sizeLine ∧ Dd.nx δ (updM M3 d (.dT (putT kvs kk v)))) (fun c fo M' => Dd.ex c fo δ M')) (fun c fo M' => Dd.ex c fo δ M')) (fun c fo M' => Dd.ex c fo δ M')
theorem s_putT {k : Nat} (rm : Room k X.A) (ho : DE X W o to) (hi : DKx X W i tk) (hv : DE X W e tv) (hs : swapsWith e (some (.Subscript o i apos)) pos.line X.env = pure false := by rfl) : DSt X W (.Assign [.Subscript o i apos] e pos) (dPutT to tk tv) := by
  refine ps_imp (ps_dput (by have := rm.un; omega) ho hi hv hs) fun Dn σ H h => ?_
  obtain ⟨I, M, F, δ, Dd, hr, rs, q, f⟩ := h
  refine ⟨I, M, F, δ, _, _, hr, rs, q, fun v M1 I1 H1 u q1 s1 hr1 r1 => ?_, f.x rs⟩
  refine ⟨I1, M1, F, δ, _, _, hr1, rs.mono s1, q1, fun x M2 I2 H2 w q2 s2 hr2 r2 => ?_, (f.mono s1).x (rs.mono s1)⟩
  have rs2 := (rs.mono s1).mono s2
  refine ⟨I2, M2, F, δ, _, _, hr2, rs2, q2, fun ks M3 I3 H3 t vs q3 s3 hr3 ht r3 => ?_, ((f.mono s1).mono s2).x rs2⟩
  obtain ⟨d, kvs, kk, rfl, em, e1, hl, q4⟩ := q3
  cases r2
  cases keysD_out r3 e1
  obtain ⟨_, o, e3, us, rfl, rt⟩ := hr3.mu d _ em
  have s123 := (s1.trans s2).trans s3
  exact ⟨d, _, rfl, .inr ⟨us, kk, t, e3, rfl, hr3.imm _ _ ht, by rw [rt.len]; exact hl, rfl⟩, f.nx _ _ I3 _ _ q4 s123 (hr3.write em (fun _ _ z => nomatch z) (o := .dT (putK us kk u)) (m := .dT (putT kvs kk v)) ⟨_, rfl, rt.put ((r1.mono s2).mono s3)⟩) (rs.mono s123)⟩
def dDict0T : DTE := fun _ M Q _ => ∀ p, M p = none → Q (.ref p) (updM M p (.dT []))
theorem d_dict0T : DE X W (.Dict [] [] pos) dDict0T := pe_imp pe_dnewT fun σ H Q h => by
  obtain ⟨I, M, F, δ, Qd, Ed, hr, rs, q, fq, fx⟩ := h
  intro d hd
  exact fq _ _ I _ _ (q d (hr.fresh hd).2.1) (Same.refl I) (hr.newM hd (o := .dT []) (m := .dT []) ⟨_, rfl, .nil⟩) (.ref d)
def dLenT : DRC := fun ds M Q => one ds fun x => match x with | .ref d => ∃ kvs, M d = some (.dT kvs) ∧ Q (.int (kvs.length : Nat)) M | _ => False
theorem d_lenT (hm : X.mg "len" = none) (ha : DA X W [e] ta) (he : starEach [e] X.env = (false, eval e X.env) :: starEach [] X.env := by rfl) (hg : Gl X "len" := by rfl) : DE X W (.Call (.Name "len" p) [e] [] pos) (dCB dLenT ta) :=
  d_callB call_len_dT (fun I M F H vs ds Qd Q hr rs q fq => by
    obtain ⟨v, d, rfl, r, q⟩ := one_out rs q
    cases r with
    | ref d =>
      obtain ⟨kvs, em, q⟩ := q
      obtain ⟨_, o, e3, us, rfl, rt⟩ := hr.mu d _ em
      refine ⟨d, us, rfl, e3, ?_⟩
      rw [rt.len]
      exact fq _ M I H _ q (Same.refl I) hr (.int _)
    | _ => exact q.elim) hm (by decide +kernel) ha hg (he := he)
end
/-! ## a dict locked while a statement runs -/
def DEnds.lk (Dd : DEnds) (a : Addr) (mL m : MO) : DEnds := { nx := fun δ M => M a = some mL ∧ Dd.nx δ (updM M a m), rt := fun v M => M a = some mL ∧ Dd.rt v (updM M a m), ex := Dd.ex, bk := fun δ M => M a = some mL ∧ Dd.bk δ (updM M a m), ct := fun δ M => M a = some mL ∧ Dd.ct δ (updM M a m) }
def dLockK (t : DTS) : DTS := fun Dd δ M => ∃ a kvs, M a = some (.dct kvs) ∧ ∀ od us, t (Dd.lk a (.dctL od us kvs) (.dct kvs)) δ (updM M a (.dctL od us kvs))
def dLockT (t : DTS) : DTS := fun Dd δ M => ∃ a kvs, M a = some (.dT kvs) ∧ ∀ od us, t (Dd.lk a (.dTL od us kvs) (.dT kvs)) δ (updM M a (.dTL od us kvs))
theorem lk_fin {K : PySem.W.Frag} {W : WX} {I F : Hp} {Dd : DEnds} {Dn : Ends} {a : Addr} {u : HO} {od : Obj} {mL m : MO} (f : FinS K W I F Dd Dn) (hL : ∀ I' H' o, RepO K I' H' a o mL → o = .frz od u ∧ RepO K I' H' a u m) (nx : ∀ C fs, mL ≠ .exc C fs) :
    FinS K W I F (Dd.lk a mL m) ⟨fun σ' H' => H' a = some (.frz od u) ∧ Dn.nx σ' (upd H' a u), fun v H' => H' a = some (.frz od u) ∧ Dn.rt v (upd H' a u), fun σ' H' => H' a = some (.frz od u) ∧ Dn.bk σ' (upd H' a u), fun σ' H' => H' a = some (.frz od u) ∧ Dn.ct σ' (upd H' a u)⟩ := by
  have key : ∀ {M' I' H'}, HR K I' M' F H' → M' a = some mL → H' a = some (.frz od u) ∧ HR K I' (updM M' a m) F (upd H' a u) := fun hr e => by
    obtain ⟨_, o, e1, r⟩ := hr.mu a _ e
    obtain ⟨rfl, r2⟩ := hL _ _ _ r
    exact ⟨e1, hr.write e nx r2⟩
  refine ⟨fun δ' M' I' H' σ' q s hr rs => ?_, fun d M' I' H' v q s hr r => ?_, f.ex, fun δ' M' I' H' σ' q s hr rs => ?_, fun δ' M' I' H' σ' q s hr rs => ?_⟩
  · obtain ⟨k1, k2⟩ := key hr q.1
    exact ⟨k1, f.nx _ _ _ _ _ q.2 s k2 rs⟩
  · obtain ⟨k1, k2⟩ := key hr q.1
    exact ⟨k1, f.rt _ _ _ _ _ q.2 s k2 r⟩
  · obtain ⟨k1, k2⟩ := key hr q.1
    exact ⟨k1, f.bk _ _ _ _ _ q.2 s k2 rs⟩
  · obtain ⟨k1, k2⟩ := key hr q.1
    exact ⟨k1, f.ct _ _ _ _ _ q.2 s k2 rs⟩
section
variable {X : Cx} {W : WX} {st : Stmt} {t : DTS}
theorem s_lockK (h : DSt X W st t) : DSt X W st (dLockK t) := ps_imp (ps_lock h) fun Dn σ H q => by
  obtain ⟨I, M, F, δ, Dd, hr, rs, ⟨a, kvs, em, q⟩, f⟩ := q
  obtain ⟨_, o, e1, us, rfl, rr⟩ := hr.mu a _ em
  refine ⟨a, _, e1, trivial, fun od => ⟨I, _, F, δ, _, hr.write em (fun _ _ z => nomatch z) (m := .dctL od us kvs) ⟨rfl, rr⟩, rs, q od us, lk_fin f (fun I' H' o r => ⟨r.1, us, rfl, r.2⟩) fun _ _ z => nomatch z⟩⟩
theorem s_lockT (h : DSt X W st t) : DSt X W st (dLockT t) := ps_imp (ps_lock h) fun Dn σ H q => by
  obtain ⟨I, M, F, δ, Dd, hr, rs, ⟨a, kvs, em, q⟩, f⟩ := q
  obtain ⟨_, o, e1, us, rfl, rr⟩ := hr.mu a _ em
  refine ⟨a, _, e1, trivial, fun od => ⟨I, _, F, δ, _, hr.write em (fun _ _ z => nomatch z) (m := .dTL od us kvs) ⟨rfl, rr⟩, rs, q od us, lk_fin f (fun I' H' o r => ⟨r.1, us, rfl, r.2⟩) fun _ _ z => nomatch z⟩⟩
end
end DL

set_option Elab.async false
set_option linter.all false
set_option maxRecDepth 100000
set_option maxHeartbeats 2000000
namespace DL
open PySem PySem.Spec PyProof.Rows L2
/-! ## walks over locked dicts -/
theorem HR.learn {K : PySem.W.Frag} {I : Hp} {M : Mp} {F H : Hp} (h : HR K I M F H) {q : Addr} {vs : List V} (e : H q = some (.tup vs)) : ∃ I1, Same I I1 ∧ HR K I1 M F H ∧ I1 q = some (.tup vs) := by
  cases ei : I q with
  | some o =>
    have := h.imm q o ei
    rw [e] at this
    cases this
    exact ⟨I, Same.refl I, h, ei⟩
  | none =>
    have eM : M q = none := by
      cases em : M q with
      | none => rfl
      | some m =>
        obtain ⟨_, o, e1, r⟩ := h.mu q m em
        rw [e] at e1
        cases e1
        cases m with
        | lst ds => obtain ⟨_, z, _⟩ := r; cases z
        | dct ds => obtain ⟨_, z, _⟩ := r; cases z
        | ins C ds => obtain ⟨_, _, z, _⟩ := r; cases z
        | exc C ds => obtain ⟨_, _, _, z, _⟩ := r; cases z
        | xd ds => obtain ⟨_, z, _⟩ := r; cases z
        | dT ds => obtain ⟨_, z, _⟩ := r; cases z
        | dctL od us ds => cases r.1
        | dTL od us ds => cases r.1
    have sm : Same I (upd I q (.tup vs)) := same_new ei
    refine ⟨upd I q (.tup vs), sm, ⟨fun a u z => ?_, fun a m z => ?_, fun a u z => ?_, h.ft⟩, upd_same⟩
    · by_cases n : a = q
      · subst n; rw [upd_same] at z; cases z; exact e
      · rw [upd_ne n] at z; exact h.imm a u z
    · have n : a ≠ q := fun n => by rw [n, eM] at z; cases z
      obtain ⟨x, o, y, r⟩ := h.mu a m z
      exact ⟨by rw [upd_ne n]; exact x, o, y, r.mono sm fun _ _ t => t⟩
    · obtain ⟨x, y, w⟩ := h.frm a u z
      have n : a ≠ q := fun n => by
        rw [n, e] at x
        cases x
        rw [n] at z
        exact h.ft q vs z
      exact ⟨x, by rw [upd_ne n]; exact y, w⟩
theorem rep_key {K : PySem.W.Frag} {I : Hp} (k : Key) : Rep K I (kV k) (kD k) := by
  cases k with
  | inl i => exact .int i
  | inr s => exact .str s
theorem reps_key {K : PySem.W.Frag} {I : Hp} : ∀ ks : List Key, Reps K I (ks.map kV) (ks.map kD)
  | [] => .nil
  | k :: r => .cons (rep_key k) (reps_key r)
/-- the pairs of a dict by tuples, each a new pair of the key's own tuple and the value -/
def ItT (d : Addr) (od : Obj) (us : List (List Key × V)) : It :=
  ⟨fun i H => H d = some (.frz od (.dT us)) ∧ i < us.length, fun i H x H' => ∃ (T q : Addr) (k : List Key) (v : V), us[i]? = some (k, v) ∧ x = .ref T ∧ H T = none ∧ H q = some (.tup (k.map kV)) ∧ H' = upd H T (.tup [.ref q, v]), fun i H => H d = some (.frz od (.dT us)) ∧ us.length ≤ i⟩
section
variable {X : Cx} {pins : List (Addr × Obj)} {σ : L2.St} {H : Hp} {s : Shared} {d : Addr} {od : Obj} {us : List (List Key × V)}
theorem frzT_all (J : L2.Inv X pins σ H s) (h : H d = some (.frz od (.dT us))) : (d == sysModules) = false ∧ ∃ (es : Array DictEntry) (ep : Nat), od.data = .dict es ep ∧ DT.Raw s.heap d es ep ∧ es.size = us.length ∧
    ∀ (i : Nat) (k : List Key) (v : V), us[i]? = some (k, v) → ∃ (en : DictEntry) (q : Addr), es[i]? = some en ∧ en.key = .ref q ∧ H q = some (.tup (k.map kV)) ∧ RelV v en.val := by
  obtain ⟨e0, _, low, ks, kt, o2, es, ep, g, ex, dat, ents, _⟩ := J.hok d _ h
  rw [e0] at g
  cases g
  refine ⟨low, es, ep, dat, ⟨od, e0, ex, dat⟩, ?_, fun i k v e => ?_⟩
  · have z1 : es.size = ks.length := size_of_entries ents
    have z2 : us.length = ks.length := Paired.length kt
    omega
  · obtain ⟨y, ey, y1, y2, y3⟩ := L2.paired_get kt e
    have z := entry_at ents i
    rw [ey] at z
    exact ⟨_, y.2.1, z, rfl, y2, y3⟩
theorem turn_itT {P : Program} {w : World} {K : PySem.W.Frag} {elts : List Expr} {kk : Nat} {tpos : Pos} {es : Array DictEntry} {ep : Nat} (it : Addr) (hod : od.data = .dict es ep) :
    Turn P w K (.Tuple elts kk tpos) (ItT d od us) [it] it (fun i h => ∃ ok ov, IsItemIter h it d i es.size ep ok ov) where
  mem := List.mem_singleton.mpr rfl
  obj := fun i h ⟨ok, ov, e⟩ b hb => by
    cases List.mem_singleton.mp hb
    exact ⟨_, e, fun v z => nomatch z⟩
  keep := fun i h h' ⟨ok, ov, e⟩ k => ⟨ok, ov, k it (List.mem_singleton.mpr rfl) _ e⟩
  item := by
    intro X rfl rfl rfl hc i pins s σ H E J fp ⟨ok, ov, he⟩ ⟨hd, hi⟩
    obtain ⟨low, es2, ep2, dat, raw, size, ent⟩ := frzT_all J hd
    obtain ⟨rfl, rfl⟩ := L2.dict_ep hod dat
    obtain ⟨⟨k, v⟩, hkv⟩ : ∃ z, us[i]? = some z := ⟨us[i], List.getElem?_eq_getElem hi⟩
    obtain ⟨en, q, een, ekey, hq, rv⟩ := ent i k v hkv
    have lt : i < es2.size := by omega
    have een2 : es2[i] = en := by
      rw [Array.getElem?_eq_getElem lt] at een
      exact Option.some.inj een
    have small : it < s.heap.objs.size := Heap.lt_size he
    refine DT.nextI he raw lt fun h1 out tup _ same => ⟨_, rfl, wpAny_letOwnedTupleGo_items (s := { s with heap := h1 }) out fun h2 back but => ?_⟩
    rw [een2, ekey] at tup
    have tup2 : h2.get? s.heap.objs.size = some { cls := .type "tuple", data := .seq #[.ref q, en.val] } := (but.2 _ (Nat.ne_of_gt small)).trans tup
    have obj : ObjOk X.prog X.w (upd H s.heap.objs.size (.tup [.ref q, v])) h2 s.heap.objs.size (.tup [.ref q, v]) := ⟨(by show 2 ≤ sizeLine; decide), [.ref q, en.val], .cons rfl (.cons rv .nil), ⟨_, tup2, rfl, _, rfl⟩⟩
    have J2 : L2.Inv X pins σ (upd H s.heap.objs.size (.tup [.ref q, v])) { s with heap := h2 } :=
      J.turnedNew (t' := s.toks) (ch := [it]) (fun b ob nb e => (but.2 b (fun z => nb (List.mem_singleton.mpr z))).trans (same b ob (fun z => nb (List.mem_singleton.mpr z)) e)) fp (Nat.le_refl _) obj
    refine ⟨.ref s.heap.objs.size, _, J2, rfl, ⟨_, q, k, v, hkv, rfl, J.hok.fresh (Nat.le_refl _), hq, rfl⟩, ⟨_, _, back⟩, fun b hb => ?_⟩
    cases List.mem_singleton.mp hb
    rw [upd_ne (Nat.ne_of_lt small)]
    exact (fp it hb).1
  done := by
    intro X rfl rfl rfl hc i pins s σ H E J fp ⟨ok, ov, he⟩ ⟨hd, hi⟩
    obtain ⟨f0, f1, f2, f3, f4, f5⟩ := fp it (List.mem_singleton.mpr rfl)
    obtain ⟨low, es2, ep2, dat, raw, size, ent⟩ := frzT_all J hd
    obtain ⟨rfl, rfl⟩ := L2.dict_ep hod dat
    exact DT.endI (J.ok.hd hc) he raw (by omega) fun h1 but => ⟨rfl, J.turned (t' := s.toks) (fun b ob nb e => but b ob nb e) f0 f1 f3 f4 f5⟩
  self := fun A i s Q E ⟨_, _, e⟩ h => PySem.W.kcp_self e h
def iItTV (td : TE) : TI := fun σ H R => td σ H fun x H1 => ∃ d od us, x = .ref d ∧ H1 d = some (.frz od (.dT us)) ∧ R (ItT d od us) H1
theorem pi_itT {e : Expr} {td : TE} {apos cpos tpos : Pos} {elts : List Expr} {kk : Nat} (he : PE X e td) (hbase : attributeBase e "items" X.env (eval e X.env) = eval e X.env := by rfl) (hline : (apos.endLine == cpos.line) = true := by rfl) :
    PI X (.Tuple elts kk tpos) (.Call (.Attribute e "items" apos) [] [] cpos) (iItTV td) := by
  refine ⟨fun pins s σ H R J h => ?_⟩
  refine wpAny_Call_method (T := "dict") (id := "dict.items") hbase rfl hline F.plainAttrs_dict F.slot_dict_items F.type_dict_items (thn (he.run pins s σ H _ J h) fun u s1 ⟨x, H1, J1, rx, d, od, us, ex, hd, q⟩ => ?_)
  subst ex
  cases (show u = Value.ref d from rx)
  obtain ⟨low, es, ep, dat, raw, size, ent⟩ := frzT_all J1 hd
  have nod : ∀ a, Value.ref d = .ref a → ∃ ob, s1.heap.get? a = some ob ∧ ob.dict = none := fun a z => by
    cases z
    obtain ⟨o, g, ex, _⟩ := raw
    exact ⟨o, g, ex.2.1⟩
  refine ⟨raw.typeIs, nod, ?_⟩
  have J2 : L2.Inv X pins σ H1 { s1 with heap := s1.heap.push { cls := .type "dict_items", data := .fields #[.ref d] } } := J1.kept (t' := s1.toks) fun b ob z => Heap.get?_push_of_some _ z
  have fin : wpAny (model X.prog X.w) X.A (pyIter (.ref s1.heap.objs.size)) (PIE X pins σ (.Tuple elts kk tpos) R) X.xe { s1 with heap := s1.heap.push { cls := .type "dict_items", data := .fields #[.ref d] } } :=
    DT.iterI (d := d) (es := es) (ep := ep) ⟨_, Heap.get?_push_size _ rfl, rfl, rfl⟩ (raw.push _) (pi_one (tk := s1.toks) J2 _ (turn_itT _ dat) ⟨.none, .none, Heap.get?_push_size _ rfl⟩ q)
  show wpAny _ _ (callWith cpos (.builtin "dict.items") [.ref d] [] []) _ X.xe s1
  exact method_meetsIn F.slot_dict_items F.entry_dict_items rfl (PySem.evalArgs_none ⟨rfl, raw.typeIs, F.args_dict_items_1 _, _, DT.meetsItems (es := es) (ep := ep) low, raw, fin⟩)
end
/-! at data level -/
section
variable {X : Cx} {W : WX} {apos cpos tpos : Pos} {e : Expr} {te : DTE} {elts : List Expr} {kk : Nat}
def iItT (te : DTE) : DTI := fun δ M R E => te δ M (fun d M1 => match d with
  | .ref a => ∃ od us kvs, M1 a = some (.dTL od us kvs) ∧ R (kvs.map fun kv => .tup [.tup (kv.1.map kD), kv.2]) (.lk a (.dTL od us kvs)) M1
  | _ => False) E
theorem i_itemsT (he : DE X W e te) (hbase : attributeBase e "items" X.env (eval e X.env) = eval e X.env := by rfl) (hline : (apos.endLine == cpos.line) = true := by rfl) :
    DI X W (.Tuple elts kk tpos) (.Call (.Attribute e "items" apos) [] [] cpos) (iItT te) := pi_imp (pi_itT he hbase hline) fun σ H R q => by
  obtain ⟨I, M, F, δ, Rd, Ed, hr, rs, q, fq, fx⟩ := q
  refine ⟨I, M, F, δ, _, Ed, hr, rs, q, fun d M1 I1 H1 v q1 s1 hr1 r1 => ?_, fx⟩
  cases r1 with
  | ref a =>
    obtain ⟨od, us, kvs, em, q1⟩ := q1
    have at_ : ∀ {I' M' F' H'}, HR X.K I' M' F' H' → M' a = some (.dTL od us kvs) → H' a = some (.frz od (.dT us)) ∧ RepT X.K I' us kvs := fun hr em => by
      obtain ⟨_, o, e1, rfl, rt⟩ := hr.mu a _ em
      exact ⟨e1, rt⟩
    obtain ⟨e1, rt⟩ := at_ hr1 em
    have hl := rt.len
    refine ⟨a, od, us, rfl, e1, fq _ (.lk a _) M1 I1 H1 _ q1 em s1 hr1 ⟨fun i I' M' F' H' hi s' hr' ho => ⟨(at_ hr' ho).1, by rw [hl]; rw [List.length_map] at hi; exact hi⟩, fun I' M' F' H' s' hr' ho => ⟨(at_ hr' ho).1, by rw [List.length_map, hl]; exact Nat.le_refl _⟩, fun i x I' M' F' H' H2 hi s' hr' ho y => ?_⟩⟩
    obtain ⟨T, q, k, v, hkv, rfl, hT, hq, rfl⟩ := y
    obtain ⟨I2, s2, hr2, eq⟩ := hr'.learn hq
    obtain ⟨_, rt2⟩ := at_ hr2 ho
    have get : ∀ {us : List (List Key × V)} {kvs : List (List Key × D)} {i : Nat}, RepT X.K I2 us kvs → us[i]? = some (k, v) → ∃ d, kvs[i]? = some (k, d) ∧ Rep X.K I2 v d := by
      intro us kvs i r
      induction r generalizing i with
      | nil => intro z; cases z
      | cons a b ih =>
        intro z
        cases i with
        | zero => cases z; exact ⟨_, rfl, a⟩
        | succ i => exact ih z
    obtain ⟨dv, e3, rv⟩ := get rt2 hkv
    have s3 := same_new (o := .tup [.ref q, v]) (hr2.fresh hT).1
    refine ⟨_, .tup [.tup (k.map kD), dv], s2.trans s3, hr2.newI hT _, ?_, .tup (.inl (.inl upd_same)) (.cons (.tup (.inl (.inl (s3 _ _ eq))) (reps_key k)) (.cons (rv.mono s3) .nil))⟩
    rw [List.getElem?_map, e3]
    rfl
  | _ => exact q1.elim
end
end DL

set_option Elab.async false
set_option linter.all false
set_option maxRecDepth 100000
set_option maxHeartbeats 2000000
namespace DL
open PySem PySem.Spec PyProof.Rows L2
/-! ## len(o) by an own __len__ -/
theorem nogd_in1 {A : Around} (h : NoGd A) : NoGd A.in1 := by
  have e : A.in1.guards = A.guards := by first | rfl | simp [Around.in1]
  exact e.trans h
def dLenO (C : Addr) (sp : DSp) (gg : List D → List D → List D) (te : DTE) : DTE := fun δ M Q E => te δ M (fun d M1 => insD d M1 fun C' _ => C' = C ∧ sp (gg [d] []) M1 (fun r M2 => ∃ n : Nat, r = .int (n : Nat) ∧ (n : Int) < 2 ^ 63 ∧ Q (.int (n : Nat)) M2) fun _ _ _ => False) E
section
variable {X : Cx} {W : WX} {pos p : Pos} {e : Expr} {te : DTE} {k : Nat} {C : Addr} {ps : List Str} {sp : DSp} {pats : List Pat} {gg : List D → List D → List D}
theorem d_lenO (i : Nat) (mt : MtOk X.prog X.w X.K X.mg X.base k C "__len__" ps sp pats) (hm : X.mg "len" = none) (g : Good X W) (rm : Room (k + 1) X.A) (he : DE X W e te) (hi : pats[i]? = some ⟨1, [], gg⟩ := by rfl) (hs : starEach [e] X.env = (false, eval e X.env) :: starEach [] X.env := by rfl) (hg : Gl X "len" := by rfl) (hpl : (backTo pos (starEach [] X.env)).any (·.1) = false := by rfl) :
    DE X W (.Call (.Name "len" p) [e] [] pos) (dLenO C sp gg te) := by
  refine ⟨fun pins s σ H Q J h => ?_⟩
  obtain ⟨I, M, F, δ, Qd, Ed, hr, rs, q, fq, fx⟩ := h
  let R : List V → Hp → VK → Prop := fun xs H1 Q1 => ∃ x I1 M1 d, xs = [x] ∧ HR X.K I1 M1 F H1 ∧ Rep X.K I1 x d ∧ Fin X.K I1 F Qd Q1 ∧ insD d M1 fun C' _ => C' = C ∧ sp (gg [d] []) M1 (fun r M2 => ∃ n : Nat, r = .int (n : Nat) ∧ (n : Int) < 2 ^ 63 ∧ Qd (.int (n : Nat)) M2) fun _ _ _ => False
  have rule : CallR X (.builtin "len") R := by
    intro pins s σ H xs us Q J rv h
    obtain ⟨x, I1, M1, d, rfl, hr1, r1, fq, q1⟩ := h
    obtain ⟨u, rfl, ru⟩ := vals1 rv
    obtain ⟨a, C', dx, vs0, fs, rfl, hH, rf, rfl, q2⟩ := insD_out hr1 r1 q1
    cases (show u = Value.ref a from ru)
    obtain ⟨f, me, fd, kb, G⟩ := mt.ex
    obtain ⟨mA, ins, _⟩ := ins_get J.hok hH
    obtain ⟨od, lk, _⟩ := ins.look
    obtain ⟨m, fr⟩ := J.fr
    refine PySem.W.len_K fr J.ok.mod.kin lk me.at_ me.fn ?_
    obtain ⟨bs, ys, bt, rb, rr⟩ := kb i _ hi s I1 [.ref a] [] [.ref a] [] [d] [] J.kIn (by rfl) (by rfl) (.cons rfl .nil) .nil (.cons r1 .nil) .nil
    have pr : lSp X.K sp ys H (fun v H2 => ∃ n : Nat, v = .int (n : Nat) ∧ (n : Int) < 2 ^ 63 ∧ Q (.int (n : Nat)) H2) (fun _ _ _ => False) :=
      ⟨I1, M1, F, _, _, _, hr1, rr, q2, fun v M2 I2 H2 w ⟨n, e1, e2, q⟩ s2 hr2 r2 => by subst e1; cases r2; exact ⟨n, rfl, e2, fq _ M2 I2 H2 _ q s2 hr2 (.int _)⟩, fun _ _ _ _ _ _ z => False.elim z⟩
    have en := J.env0
    have en1 : Env0 X.prog X.w X.K X.mg X.base X.A.in1 X.stack s H := ⟨en.frames, en.mod, en.bs, en.bsz, en.funs, en.frf, en.hok, en.bare⟩
    refine wpAny_call (codeAny_mono (G.run X.A.in1 X.stack s H ⟨[.ref a], []⟩ bs ys _ (fun _ _ _ => False) (nogd_in1 g.ng) rm.in1 en1 bt rb pr) fun r s' z => ?_)
    cases r with
    | error er => exact passL pins σ _ _ er s' J z
    | ok fl =>
      cases fl with
      | ret w =>
        obtain ⟨v, H2, J2, rv2, n, rfl, hn, q⟩ := J.after z
        obtain ⟨t, rfl⟩ := (show ∃ t, w = Value.int _ t from rv2)
        exact ⟨⟨by omega, hn⟩, .int _, H2, J2.tok _, ⟨_, rfl⟩, q⟩
      | next => exact False.elim z
      | brk => exact False.elim z
      | cont => exact False.elim z
  refine (pe_callB rule hg hm (by decide +kernel) (pa_cons he pa_nil hs) (by decide) (by decide) hs hpl).run pins s σ H Q J ?_
  exact ⟨I, M, F, δ, _, Ed, hr, rs, q, fun d M1 I1 H1 v q1 s1 hr1 r1 => ⟨v, I1, M1, d, rfl, hr1, r1, fq.mono s1, q1⟩, fx⟩
end
/-! ## targets within targets; a constant tuple of texts -/
def gdList : List DTG → DTGs
  | [] => fun ds δ M Q _ => ds = [] ∧ Q δ M
  | g :: gs => fun ds δ M Q E => match ds with
    | d :: r => g d δ M (fun δ1 M1 => gdList gs r δ1 M1 Q E) (fun _ _ _ => False)
    | [] => False
section
variable {X : Cx} {W : WX} {pos : Pos} {e : Expr} {es : List Expr} {g : DTG} {gs : List DTG} {t : DTGs}
theorem gl_nil : DGs X W [] (gdList []) := pgs_imp pgs_nil fun v σ H Q h => by
  obtain ⟨I, M, F, δ, ds, Qd, Ed, hr, rs, r, ⟨e, q⟩, fq, fx⟩ := h
  subst e
  cases r
  exact ⟨rfl, fq _ M I H _ q (Same.refl I) hr rs⟩
theorem gl_E : ∀ (gs : List DTG) (ds : List D) (δ : DS) (M : Mp) (Q : DS → Mp → Prop) (E E' : DXK), (∀ g ∈ gs, ∀ d δ M (Q Q' : DS → Mp → Prop), (∀ δ M, Q δ M → Q' δ M) → g d δ M Q (fun _ _ _ => False) → g d δ M Q' (fun _ _ _ => False)) → gdList gs ds δ M Q E → gdList gs ds δ M Q E'
  | [], _, _, _, _, _, _, _, h => h
  | g :: gs, [], _, _, _, _, _, _, h => False.elim h
  | g :: gs, d :: r, δ, M, Q, E, E', hm, h => hm g List.mem_cons_self _ _ _ _ _ (fun δ1 M1 h1 => gl_E gs r δ1 M1 Q E E' (fun g hg => hm g (List.mem_cons_of_mem _ hg)) h1) h
theorem gl_cons (h1 : DG X W e g) (h2 : DGs X W es (gdList gs)) (mo : ∀ g ∈ gs, ∀ d δ M (Q Q' : DS → Mp → Prop), (∀ δ M, Q δ M → Q' δ M) → g d δ M Q (fun _ _ _ => False) → g d δ M Q' (fun _ _ _ => False))
    (hs : (assignEach (e :: es) X.env).map (·.2) = assign e X.env :: (assignEach es X.env).map (·.2) := by rfl) : DGs X W (e :: es) (gdList (g :: gs)) :=
  pgs_imp (pgs_cons h1 h2 hs) fun v σ H Q h => by
    obtain ⟨I, M, F, δ, ds, Qd, Ed, hr, rs, r, q, fq, fx⟩ := h
    cases r with
    | nil => exact False.elim q
    | @cons v1 d1 vr dr r1 rr => exact ⟨v1, vr, rfl, I, M, F, δ, d1, _, fun _ _ _ => False, hr, rs, r1, q, fun δ' M' I' H' σ' q' s' hr' rs' => ⟨I', M', F, δ', dr, Qd, fun _ _ _ => False, hr', rs', rr.mono s', gl_E gs dr _ _ _ _ _ mo q', fun a b c d e f g h i => fq a b c d e f (s'.trans g) h i, fun _ _ _ _ _ _ z => False.elim z⟩, fun _ _ _ _ _ _ z => False.elim z⟩
/-- a target that is no name: it goes on with what holds behind -/
def MonoG (g : DTG) : Prop := ∀ d δ M (Q Q' : DS → Mp → Prop), (∀ δ M, Q δ M → Q' δ M) → g d δ M Q (fun _ _ _ => False) → g d δ M Q' (fun _ _ _ => False)
theorem mono_name (i : Nat) : MonoG (gdName i) := fun d δ M Q Q' h q => h _ _ q
theorem mono_names : ∀ (is : List Nat) (ds : List D) (δ : DS) (M : Mp) (Q Q' : DS → Mp → Prop), (∀ δ M, Q δ M → Q' δ M) → gdNames is ds δ M Q (fun _ _ _ => False) → gdNames is ds δ M Q' (fun _ _ _ => False)
  | [], _, _, _, _, _, h, q => ⟨q.1, h _ _ q.2⟩
  | i :: is, [], _, _, _, _, h, q => q
  | i :: is, d :: r, δ, M, Q, Q', h, q => mono_names is r _ M Q Q' h q
theorem mono_tup (n : Nat) (is : List Nat) : MonoG (gdTup n (gdNames is)) := fun d δ M Q Q' h q => by
  cases d with
  | tup ds => exact ⟨q.1, mono_names is ds δ M Q Q' h q.2⟩
  | _ => exact False.elim q
theorem mono_nil : ∀ g ∈ ([] : List DTG), MonoG g := fun _ z => nomatch z
theorem mono_cons {g : DTG} {gs : List DTG} (h : MonoG g) (r : ∀ g ∈ gs, MonoG g) : ∀ k ∈ g :: gs, MonoG k := fun k hk => by
  rcases List.mem_cons.mp hk with rfl | hk
  · exact h
  · exact r k hk
theorem g_tupG {k n : Nat} (hc : X.calm = true) (h : DGs X W es t) (hn : (assignEach es X.env).length = n := by rfl) (hst : (assignEach es X.env).findIdx? (·.1) = none := by rfl) : DG X W (.Tuple es k pos) (gdTup n t) :=
  pg_imp (pg_tup hc h hn hst) fun v σ H Q h => by
    obtain ⟨I, M, F, δ, d, Qd, Ed, hr, rs, r, q, fq, fx⟩ := h
    cases r with
    | @tup a vs ds s rr => exact ⟨a, vs, rfl, hr.st s, by rw [rr.len]; exact q.1, I, M, F, δ, ds, Qd, Ed, hr, rs, rr, q.2, fq, fx⟩
    | _ => exact False.elim q
theorem d_gTupS {x : Str} {ss : List Str} (hm : ∃ p, X.mg x = some (.ref p) ∧ ∀ I, SqT X.K I p (ss.map V.str)) (hg : Gl X x := by rfl) (hd : (x == ("__debug__" : Str)) = false := by decide) : DE X W (.Name x pos) (dC (.tup (ss.map D.str))) := by
  obtain ⟨p, e, h⟩ := hm
  exact d_glob hg e (v := .ref p) rfl (fun I => .tup (h I) (rep_strs ss)) hd
end
end DL

set_option Elab.async false
set_option linter.all false
set_option maxRecDepth 100000
set_option maxHeartbeats 4000000
namespace DL
open PySem L2
/-! ## names drawn, the second way -/
def wordsB : List Str := ["wake", "doze", "ready", "sleep", "late", "still", "bell", "tick", "gain", "off", "bus", "disk"]
def rNamesB : DTS :=
  dSeq (dAsg (dC (.str letters)) (gdName 2))
  (dSeq (dAsg (dCall spTake (dCons (dVar 0) (dCons (dC (.int 3)) (dNil)))) (gdName 3))
  (dSeq (dAsg (dCall spTake (dCons (dVar 0) (dCons (dC (.int 26)) (dNil)))) (gdName 4))
  (dSeq (dAsg (dJoin (dC (.str "")) (dLc (iR1 (dCons (dC (.int 8)) (dNil))) (.one 8) dYes (dOp dIx (dVar 2) (dCall spTake (dCons (dVar 0) (dCons (dC (.int 26)) (dNil))))) [8])) (gdName 5))
  (dSeq (dIf (dAnd (dTest (dOp dEq (dVar 3) (dC (.int 0)))) (dTest (dOp dLt (dVar 1) (dC (.int 9))))) (dRet (dLc (iR1 (dCons (dVar 1) (dNil))) (.one 8) dYes (dSlA dSl4 (dVar 5) (oNone) (oSome (dOp dAdd2 (dC (.int 1)) (dOp dMod (dOp dAdd2 (dVar 4) (dOp dMul (dC (.int 3)) (dVar 8))) (dC (.int 8)))))) [8])) (dNext))
  (dSeq (dIf (dAnd (dTest (dOp dEq (dVar 3) (dC (.int 1)))) (dTest (dOp dLt (dVar 1) (dC (.int 13))))) (dSeq (dAsg (dM1 rdSplit (dC (.str "wake doze ready sleep late still bell tick gain off bus disk")) (dC (.str " "))) (gdName 6))
  (dRet (dLc (iR1 (dCons (dVar 1) (dNil))) (.one 8) dYes (dOp dIx (dVar 6) (dOp dMod (dOp dAdd2 (dVar 4) (dOp dMul (dC (.int 5)) (dVar 8))) (dC (.int 12)))) [8]))) (dNext))
  (dSeq (dAsg (dCall spTake (dCons (dVar 0) (dCons (dC (.int 8)) (dNil)))) (gdName 7))
  (dSeq (dAsg (dSlA dSl4 (dVar 5) (oNone) (oSome (dCall spTake (dCons (dVar 0) (dCons (dC (.int 8)) (dNil)))))) (gdName 5))
  (dRet (dLc (iR1 (dCons (dVar 1) (dNil))) (.one 8) dYes (dOp dAdd2 (dOp dAdd2 (dSlA dSl4 (dVar 5) (oNone) (oSome (dVar 7))) (dOp dIx (dVar 2) (dOp dMod (dOp dAdd2 (dVar 4) (dOp dMul (dC (.int 7)) (dVar 8))) (dC (.int 26))))) (dSlA dSl4 (dVar 5) (oSome (dVar 7)) (oNone))) [8])))))))))
theorem splitB : Txt.split "wake doze ready sleep late still bell tick gain off bus disk" " " = wordsB := by decide +kernel
theorem nmB : ∀ s ∈ wordsB, Nm s := by
  intro s hs
  have h : (decide (1 ≤ s.length) && decide (s.length ≤ 8) && s.cps.toList.all (fun c => decide (c ∈ letters.cps.toList))) = true := by
    revert s
    decide +kernel
  simp only [Bool.and_eq_true, decide_eq_true_eq, List.all_eq_true] at h
  exact ⟨h.1.1, h.1.2, h.2⟩
theorem names_b : ∀ ds M Qd Ed, spNames 12 ds M Qd Ed → rNamesB (ends Qd Ed) (dstart ["b", "n", "letters", "way", "first", "stem", "words", "at", "k"] ds) M := by
  intro ds M Qd Ed h
  obtain ⟨b, sz, n, rfl, hb, hn, s0, s8, q⟩ := h
  refine ⟨_, rfl, b, 3, n, rfl, hb, by omega, by decide, by decide, fun M1 way s1 hb1 w0 w1 => ?_⟩
  refine ⟨_, rfl, b, 26, n + 1, rfl, hb1, by omega, by decide, by decide, fun M2 fi s2 hb2 f0 f1 => ?_⟩
  refine ⟨⟨by decide, by decide⟩, (by show (rngD 0 8).length < sizeLine; decide +kernel), ?_⟩
  refine comp_draw (b := b) (i := 8) (j := 2) rfl rfl (by decide) (by decide) (rngD 0 8) [] M2 (n + 2) hb2 (by rw [rng_len]; omega) (fun _ z => nomatch z) (by rw [rng_len]; decide) fun M4 cs s4 hb4 l4 hc => ?_
  rw [rng_len] at hb4 l4
  simp only [List.length_nil, Nat.zero_add] at l4
  refine ⟨cs.map sg1, by rw [List.map_map]; rfl, ?_, ?_⟩
  · rw [sum_len, List.length_map, l4]; decide
  have lt : Lt (Txt.join "" (cs.map sg1)) := fun c h => by rw [join_cps] at h; exact hc c h
  have ll : (Txt.join "" (cs.map sg1)).length = 8 := by rw [join_len, l4]
  generalize Txt.join "" (cs.map sg1) = stem at *
  have s5 := (s1.trans s2).trans s4
  have e100 : sz.toNat ≤ 100 := by omega
  have rl : ∀ k : Nat, k ≤ 100 → (rngD 0 k).length < sizeLine := fun k hk => by rw [rng_len]; exact Nat.lt_of_le_of_lt hk (by decide)
  have m8 : ∀ t : Int, 0 ≤ t % 8 ∧ t % 8 < 8 := fun t => ⟨Int.emod_nonneg _ (by decide), Int.emod_lt_of_pos _ (by decide)⟩
  have m12 : ∀ t : Int, 0 ≤ t % 12 ∧ t % 12 < 12 := fun t => ⟨Int.emod_nonneg _ (by decide), Int.emod_lt_of_pos _ (by decide)⟩
  have m26 : ∀ t : Int, 0 ≤ t % 26 ∧ t % 26 < 26 := fun t => ⟨Int.emod_nonneg _ (by decide), Int.emod_lt_of_pos _ (by decide)⟩
  let Tail : DTS := dSeq (dIf (dAnd (dTest (dOp dEq (dVar 3) (dC (.int 1)))) (dTest (dOp dLt (dVar 1) (dC (.int 13))))) (dSeq (dAsg (dM1 rdSplit (dC (.str "wake doze ready sleep late still bell tick gain off bus disk")) (dC (.str " "))) (gdName 6))
    (dRet (dLc (iR1 (dCons (dVar 1) (dNil))) (.one 8) dYes (dOp dIx (dVar 6) (dOp dMod (dOp dAdd2 (dVar 4) (dOp dMul (dC (.int 5)) (dVar 8))) (dC (.int 12)))) [8]))) (dNext))
    (dSeq (dAsg (dCall spTake (dCons (dVar 0) (dCons (dC (.int 8)) (dNil)))) (gdName 7))
    (dSeq (dAsg (dSlA dSl4 (dVar 5) (oNone) (oSome (dCall spTake (dCons (dVar 0) (dCons (dC (.int 8)) (dNil)))))) (gdName 5))
    (dRet (dLc (iR1 (dCons (dVar 1) (dNil))) (.one 8) dYes (dOp dAdd2 (dOp dAdd2 (dSlA dSl4 (dVar 5) (oNone) (oSome (dVar 7))) (dOp dIx (dVar 2) (dOp dMod (dOp dAdd2 (dVar 4) (dOp dMul (dC (.int 7)) (dVar 8))) (dC (.int 26))))) (dSlA dSl4 (dVar 5) (oSome (dVar 7)) (oNone))) [8]))))
  let Tail2 : DTS := (dSeq (dAsg (dCall spTake (dCons (dVar 0) (dCons (dC (.int 8)) (dNil)))) (gdName 7))
    (dSeq (dAsg (dSlA dSl4 (dVar 5) (oNone) (oSome (dCall spTake (dCons (dVar 0) (dCons (dC (.int 8)) (dNil)))))) (gdName 5))
    (dRet (dLc (iR1 (dCons (dVar 1) (dNil))) (.one 8) dYes (dOp dAdd2 (dOp dAdd2 (dSlA dSl4 (dVar 5) (oNone) (oSome (dVar 7))) (dOp dIx (dVar 2) (dOp dMod (dOp dAdd2 (dVar 4) (dOp dMul (dC (.int 7)) (dVar 8))) (dC (.int 26))))) (dSlA dSl4 (dVar 5) (oSome (dVar 7)) (oNone))) [8]))))
  have tail2 : Tail2 (ends Qd Ed) [some (.ref b), some (.int sz), some (.str letters), some (.int way), some (.int fi), some (.str stem), none, none, none] M4 := by
    refine ⟨_, rfl, b, 8, n + 10, rfl, hb4, by omega, by decide, by decide, fun M5 at5 s5' hb5 a0 a1 => ?_⟩
    refine ⟨_, rfl, _, rfl, b, 8, n + 11, rfl, hb5, by omega, by decide, by decide, fun M6 c6 s6 hb6 c0 c1 => ?_⟩
    refine ⟨big_line (by omega), ?_⟩
    have lt2 := lt.to c0
    have ll2 : (cutS stem none (some c6)).length ≤ 7 := by rw [to_len c0]; omega
    generalize cutS stem none (some c6) = stm at *
    have hd := to_len (s := stm) a0
    have tl := from_len (s := stm) a0
    refine ⟨_, rfl, ⟨by omega, by omega⟩, rl _ e100, ?_⟩
    refine comp_names e100 (fun j R j0 j1 h => ?_) (fun ss hl hs => q M6 ss ((s5.trans s5').trans s6) (hb6.mono (by omega)) (by omega) hs)
    obtain ⟨c, c1, c2⟩ := letter_at (m26 (fi + 7 * j)).1 (m26 (fi + 7 * j)).2
    refine ⟨_, rfl, _, rfl, big_line (by omega), _, rfl, _, rfl, _, rfl, cmul (by decide) (by decide) (by omega) (by omega), (by show (0 : Int) < 26; decide), letters_size, c, c1, ?_, _, rfl, _, rfl, big_line (by omega), ?_, h _ ?_⟩
    · rw [sg_len]; exact big_line (by omega)
    · rw [Str.length_append, sg_len]; exact big_line (by omega)
    · refine ⟨?_, ?_, ((lt2.to a0).app (Lt.one c2)).app (lt2.from a0)⟩
      · rw [Str.length_append, Str.length_append, sg_len]; omega
      · rw [Str.length_append, Str.length_append, sg_len]; omega
  have tail : Tail (ends Qd Ed) [some (.ref b), some (.int sz), some (.str letters), some (.int way), some (.int fi), some (.str stem), none, none, none] M4 := by
    refine ⟨_, rfl, ?_⟩
    refine br2 (fun e => ?_) (fun e => tail2)
    refine ⟨_, rfl, ?_⟩
    refine br2 (fun e => ?_) (fun e => tail2)
    refine ⟨by decide +kernel, by decide +kernel, ?_⟩
    rw [splitB]
    refine ⟨_, rfl, ⟨by omega, by omega⟩, rl _ e100, ?_⟩
    refine comp_names e100 (fun j R j0 j1 h => ?_) (fun ss hl hs => q M4 ss s5 (hb4.mono (by omega)) (by omega) hs)
    obtain ⟨d, d1, d2⟩ := at_some (xs := wordsB.map D.str) (m12 (fi + 5 * j)).1 (by show _ < 12; exact (m12 (fi + 5 * j)).2)
    obtain ⟨s, hs, rfl⟩ := List.mem_map.mp d2
    exact ⟨_, rfl, _, rfl, _, rfl, cmul (by decide) (by decide) (by omega) (by omega), (by show (0 : Int) < 12; decide), _, d1, h s (nmB s hs)⟩
  refine ⟨_, rfl, ?_⟩
  refine br2 (fun e => ?_) (fun e => tail)
  refine ⟨_, rfl, ?_⟩
  refine br2 (fun e => ?_) (fun e => tail)
  refine ⟨_, rfl, ⟨by omega, by omega⟩, rl _ e100, ?_⟩
  refine comp_names e100 (fun j R j0 j1 h => ?_) (fun ss hl hs => q M4 ss s5 (hb4.mono (by omega)) (by omega) hs)
  have a0 : 0 ≤ 1 + (fi + 3 * j) % 8 := by have := (m8 (fi + 3 * j)).1; omega
  refine ⟨_, rfl, _, rfl, _, rfl, cmul (by decide) (by decide) (by omega) (by omega), (by show (0 : Int) < 8; decide), big_line (by omega), h _ ?_⟩
  refine ⟨?_, ?_, lt.to a0⟩
  · rw [to_len a0]; omega
  · rw [to_len a0]; omega
end DL

set_option Elab.async false
set_option linter.all false
set_option maxRecDepth 100000
set_option maxHeartbeats 4000000
namespace DL
open PySem L2
/-! ## drivers -/
def deedsW : List Str := ["wake", "doze", "ready", "sleep", "late", "still"]
def endsW : List Str := ["busy", "broken"]
def isF : D → Bool
  | .tup [a, b, c, e] => nameD a && (wordIn b deedsW && (wholeD c 1 30 && wordIn e endsW))
  | _ => false
def fD (n d : Str) (k : Int) (w : Str) : D := .tup [.str n, .str d, .int k, .str w]
theorem isF_out {d : D} (h : isF d = true) : ∃ n dd k w, d = fD n dd k w ∧ nameD (.str n) = true ∧ dd ∈ deedsW ∧ 1 ≤ k ∧ k ≤ 30 ∧ w ∈ endsW := by
  unfold isF at h
  split at h
  · rename_i a b c e
    simp only [Bool.and_eq_true] at h
    obtain ⟨h1, h2, h3, h4⟩ := h
    cases a with
    | str n => cases b with
      | str dd => cases c with
        | int k => cases e with
          | str w =>
            have h3 : (decide (1 ≤ k) && decide (k ≤ 30)) = true := h3
            simp only [Bool.and_eq_true, decide_eq_true_eq] at h3
            exact ⟨n, dd, k, w, rfl, h1, of_decide_eq_true h2, h3.1, h3.2, of_decide_eq_true h4⟩
          | _ => cases h4
        | _ => cases h3
      | _ => cases h2
    | _ => cases h1
  · cases h
def k3 : D → List Key
  | .tup [.str n, .str d, .int k, _] => [.inr n, .inr d, .inl k]
  | _ => []
def w4 : D → D
  | .tup [_, _, _, w] => w
  | _ => .non
/-- a part, a thing that may be asked about -/
def FsP : D → Prop
  | .str s => s.length ≤ 2000 ∧ Ok s
  | .non => True | .bl _ => True | .int _ => True | .lst _ => True | .tup _ => True | .dct _ => True
  | _ => False
def Fs (M : Mp) : D → Prop
  | .tup xs => xs.length ≤ 16000 ∧ ∀ x ∈ xs, FsP x
  | .ref a => ∃ m, M a = some m ∧ okM m
  | .str s => s.length ≤ 2000 ∧ Ok s
  | .non => True | .bl _ => True | .int _ => True | .lst _ => True | .dct _ => True
  | _ => False
theorem FsP.th {M : Mp} {d : D} (h : FsP d) : Th M d := by
  cases d <;> first | exact h | trivial
theorem Fs.ext {M M' : Mp} (x : Ext M M') {d : D} (h : Fs M d) : Fs M' d := by
  cases d with
  | ref a => obtain ⟨m, e, t⟩ := h; exact ⟨m, x a m e, t⟩
  | _ => exact h
def spDeed : DSp := fun ds M Q _ => ∃ d, ds = [d] ∧ FsP d ∧ Q (.bl (wordIn d deedsW)) M
theorem len_spDeed : ∀ ds M Q E, spDeed ds M Q E → ds.length = 1 := fun _ _ _ _ h => by obtain ⟨_, rfl, _⟩ := h; rfl
def rIsDeed : DTS := dRet (dAndV (dIsi .str (dVar 0)) (dOp (dInW id) (dVar 0) (dC (.tup [.str "wake", .str "doze", .str "ready", .str "sleep", .str "late", .str "still"]))))
theorem is_deed_ok : ∀ ds M Qd Ed, spDeed ds M Qd Ed → rIsDeed (ends Qd Ed) (dstart ["thing"] ds) M := by
  intro ds M Qd Ed h
  obtain ⟨d, rfl, th, q⟩ := h
  cases d with
  | str s => exact ⟨_, rfl, _, rfl, deedsW, rfl, rfl, q⟩
  | ref a => exact th.elim
  | sq s => exact th.elim
  | ty n => exact th.elim
  | ins C fs => exact th.elim
  | _ => exact ⟨_, rfl, q⟩
def spIsFault : DSp := fun ds M Q _ => ∃ d, ds = [d] ∧ Fs M d ∧ Q (.bl (isF d)) M
theorem len_spIsFault : ∀ ds M Q E, spIsFault ds M Q E → ds.length = 1 := fun _ _ _ _ h => by obtain ⟨_, rfl, _⟩ := h; rfl
def rIsFault : DTS :=
  dSeq (dIf (dOr (dNot (dTruth (dIsi .tup (dVar 0)))) (dTest (dOp dNe (dCB dLen (dCons (dVar 0) (dNil))) (dC (.int 4))))) (dRet (dC (.bl false))) (dNext))
  (dSeq (dAsg (dVar 0) (gdStar 3 0 (gdNames [1, 2, 3])))
  (dSeq (dIf (dOr (dNot (dTruth (dCall spN (dCons (dOp dIx (dVar 1) (dC (.int 0))) (dNil))))) (dOr (dNot (dTruth (dCall spDeed (dCons (dOp dIx (dVar 1) (dC (.int 1))) (dNil))))) (dNot (dTruth (dCall spW (dCons (dVar 2) (dCons (dC (.int 1)) (dCons (dC (.int 30)) (dNil))))))))) (dRet (dC (.bl false))) (dNext))
  (dRet (dAndV (dIsi .str (dVar 3)) (dOp (dInW id) (dVar 3) (dC (.tup [.str "busy", .str "broken"])))))))
theorem len4 {α : Type} {xs : List α} (h : xs.length = 4) : ∃ a b c e, xs = [a, b, c, e] := by
  match xs, h with
  | [a, b, c, e], _ => exact ⟨a, b, c, e, rfl⟩
theorem isF_len {xs : List D} (h : ¬ xs.length = 4) : isF (.tup xs) = false := by
  match xs, h with
  | [], _ => rfl
  | [_], _ => rfl
  | [_, _], _ => rfl
  | [_, _, _], _ => rfl
  | [_, _, _, _], h => exact absurd rfl h
  | _ :: _ :: _ :: _ :: _ :: _, _ => rfl
theorem is_fault_ok : ∀ ds M Qd Ed, spIsFault ds M Qd Ed → rIsFault (ends Qd Ed) (dstart ["thing", "asked", "number", "word"] ds) M := by
  intro ds M Qd Ed h
  obtain ⟨d, rfl, th, q⟩ := h
  cases d with
  | tup xs =>
    refine ⟨_, rfl, _, rfl, ?_⟩
    refine br2 (fun e => ?_) (fun e => ?_)
    · have e : ¬ xs.length = 4 := by
        simp only [Bool.not_eq_true', decide_eq_false_iff_not] at e
        omega
      rw [isF_len e] at q
      exact q
    have e : xs.length = 4 := by
      simp only [Bool.not_eq_false', decide_eq_true_eq] at e
      omega
    obtain ⟨a, b, c, w, rfl⟩ := len4 e
    have ha := th.2 a (by simp)
    have hb := th.2 b (by simp)
    have hc := th.2 c (by simp)
    have hw := th.2 w (by simp)
    have q : Qd (.bl (nameD a && (wordIn b deedsW && (wholeD c 1 30 && wordIn w endsW)))) M := q
    refine ⟨_, rfl, (by show 3 ≤ 4 + 1; decide), (by show 4 ≤ 16384; decide), rfl, ?_⟩
    refine ⟨_, rfl, _, rfl, a, rfl, ha.th, ?_⟩
    refine br2 (fun e => ?_) (fun e1 => ?_)
    · rw [show nameD a = false from by simpa using e] at q
      exact q
    refine ⟨_, rfl, _, rfl, b, rfl, hb, ?_⟩
    rw [show nameD a = true from by simpa using e1, Bool.true_and] at q
    refine br2 (fun e => ?_) (fun e2 => ?_)
    · rw [show wordIn b deedsW = false from by simpa using e] at q
      exact q
    refine ⟨_, rfl, c, 1, 30, rfl, hc.th, ?_⟩
    rw [show wordIn b deedsW = true from by simpa using e2, Bool.true_and] at q
    refine br2 (fun e => ?_) (fun e3 => ?_)
    · rw [show wholeD c 1 30 = false from by simpa using e] at q
      exact q
    rw [show wholeD c 1 30 = true from by simpa using e3, Bool.true_and] at q
    cases w with
    | str s => exact ⟨_, rfl, _, rfl, endsW, rfl, rfl, q⟩
    | ref a => exact hw.elim
    | sq s => exact hw.elim
    | ty n => exact hw.elim
    | ins C fs => exact hw.elim
    | _ => exact ⟨_, rfl, q⟩
  | ref a =>
    obtain ⟨m, e, t⟩ := th
    cases m <;> first | exact t.elim | exact ⟨_, rfl, _, e, q⟩
  | sq s => exact th.elim
  | ty n => exact th.elim
  | ins C fs => exact th.elim
  | _ => exact ⟨_, rfl, q⟩
/-- the drivers at x: faults and times -/
structure Drv (C : Addr) (M : Mp) (x d1 d2 : Addr) (kvs tms : List (List Key × D)) : Prop where
  ins : M x = some (.ins C [("fault_words", .ref d1), ("times", .ref d2)])
  fw : M d1 = some (.dT kvs)
  tm : M d2 = some (.dT tms)
  n1 : d1 ≠ x
  n2 : d2 ≠ x
  n12 : d1 ≠ d2
def hasK (k : List Key) (ks : List (List Key)) : Bool := ks.any fun z => decide (z = k)
def spTakeF (C cF cD : Addr) : DSp := fun ds M Q E => ∃ x d1 d2 kvs tms d, ds = [.ref x, d] ∧ Drv C M x d1 d2 kvs tms ∧ Fs M d ∧ kvs.length ≤ 1000 ∧
  (if isF d = true then (if hasK (k3 d) (kvs.map (·.1)) = true then E (.ref cD) (some [("found", .tup ((k3 d).map kD))]) M else Q .non (updM M d1 (.dT (kvs ++ [(k3 d, w4 d)])))) else E (.ref cF) (some [("found", d)]) M)
theorem len_spTakeF {C cF cD : Addr} : ∀ ds M Q E, spTakeF C cF cD ds M Q E → ds.length = 2 := fun _ _ _ _ h => by obtain ⟨_, _, _, _, _, _, rfl, _⟩ := h; rfl
def rTakeF (C cF cD : Addr) : DTS :=
  dSeq (dIf (dNot (dTruth (dCall spIsFault (dCons (dVar 1) (dNil))))) (dRaise cF "found" (dVar 1)) (dNext))
  (dSeq (dAsg (dVar 1) (gdStar 2 0 (gdNames [2, 3])))
  (dSeq (dIf (dTest (dInT id (kTuple (dVar 2)) (dFld [C] "fault_words" (dVar 0)))) (dRaise cD "found" (dCB dTuple (dCons (dVar 2) (dNil)))) (dNext))
  (dPutT (dFld [C] "fault_words" (dVar 0)) (kTuple (dVar 2)) (dVar 3))))
theorem valD_has (k : List Key) : ∀ kvs : List (List Key × D), (valD kvs k).isSome = hasK k (kvs.map (·.1))
  | [] => rfl
  | (k1, v) :: r => by
    have ih := valD_has k r
    unfold valD hasK at ih ⊢
    rw [List.find?_cons, List.map_cons, List.any_cons]
    by_cases e : k1 = k
    · subst e; simp
    · rw [decide_eq_false e, Bool.false_or]
      exact ih
theorem putT_new {kvs : List (List Key × D)} {k : List Key} {v : D} (h : hasK k (kvs.map (·.1)) = false) : putT kvs k v = kvs ++ [(k, v)] := by
  unfold putT
  rw [if_neg]
  intro z
  obtain ⟨x, hx, e⟩ := List.any_eq_true.mp z
  have : hasK k (kvs.map (·.1)) = true := List.any_eq_true.mpr ⟨x.1, List.mem_map.mpr ⟨x, hx, rfl⟩, e⟩
  rw [h] at this
  cases this
theorem take_fault_ok {C cF cD : Addr} : ∀ ds M Qd Ed, spTakeF C cF cD ds M Qd Ed → rTakeF C cF cD (ends Qd Ed) (dstart ["self", "fault", "first", "word"] ds) M := by
  intro ds M Qd Ed h
  obtain ⟨x, d1, d2, kvs, tms, d, rfl, dv, fs, hl, q⟩ := h
  refine ⟨_, rfl, d, rfl, fs, ?_⟩
  refine br2 (fun e => ?_) (fun e => ?_)
  · rw [if_neg (by intro z; rw [z] at e; cases e)] at q
    exact ⟨_, rfl, q⟩
  have e : isF d = true := by simpa using e
  rw [if_pos e] at q
  obtain ⟨n, dd, k, w, rfl, _⟩ := isF_out e
  have q : if hasK [.inr n, .inr dd, .inl k] (kvs.map (·.1)) = true then Ed (.ref cD) (some [("found", .tup [.str n, .str dd, .int k])]) M else Qd .non (updM M d1 (.dT (kvs ++ [([.inr n, .inr dd, .inl k], .str w)]))) := q
  refine ⟨_, rfl, (by show 2 ≤ 4 + 1; decide), (by show 4 ≤ 16384; decide), rfl, ?_⟩
  refine ⟨_, rfl, _, rfl, C, _, dv.ins, by simp, _, rfl, .inl ⟨kvs, dv.fw, [.inr n, .inr dd, .inl k], rfl, ?_⟩⟩
  have ev := valD_has [.inr n, .inr dd, .inl k] kvs
  refine br2 (fun e2 => ?_) (fun e2 => ?_)
  · have e2 : (valD kvs [.inr n, .inr dd, .inl k]).isSome = true := e2
    rw [ev] at e2
    rw [if_pos e2] at q
    exact ⟨_, rfl, q⟩
  · have e2 : (valD kvs [.inr n, .inr dd, .inl k]).isSome = false := e2
    rw [ev] at e2
    rw [if_neg (by rw [e2]; exact Bool.false_ne_true)] at q
    refine ⟨_, rfl, _, rfl, C, _, dv.ins, by simp, _, rfl, _, rfl, d1, kvs, [.inr n, .inr dd, .inl k], rfl, dv.fw, rfl, Nat.lt_of_le_of_lt hl (by decide), ?_⟩
    rw [putT_new e2]
    exact q
end DL

set_option Elab.async false
set_option linter.all false
set_option maxRecDepth 100000
set_option maxHeartbeats 4000000
namespace DL
open PySem L2
/-! ## drivers: made, told -/
inductive Dv where
  | list | fault (d : D) | doubled (ks : List Key) | told
def goF : List (List Key) → List D → Dv
  | _, [] => .told
  | ahead, x :: r => if isF x = true then (if hasK (k3 x) ahead = true then .doubled (k3 x) else goF (ahead ++ [k3 x]) r) else .fault x
def dueV (xs : Option (List D)) : Dv := match xs with
  | some xs => if 40 < xs.length then .list else goF [] xs
  | none => .list
/-- lists, tuples, and what is neither -/
def Bk (M : Mp) : D → Prop
  | .non => True | .bl _ => True | .int _ => True | .str _ => True | .lst _ => True | .tup _ => True | .dct _ => True
  | .ref a => ∃ xs, M a = some (.lst xs)
  | _ => False
def Fg (M : Mp) (d : D) : Prop := Bk M d ∧ ∀ xs, seqD M d = some xs → xs.length ≤ 1000 ∧ ∀ x ∈ xs, Fs M x
theorem isi2_bk {M : Mp} {d : D} {k : Ty → Prop} (h : Bk M d) (q : ∀ t, t ≠ .own → (isT t .lst || isT t .tup) = (seqD M d).isSome → k t) : tyD d M k := by
  cases d with
  | ref a =>
    obtain ⟨xs, e⟩ := h
    exact ⟨_, e, q .lst (fun z => nomatch z) (by simp only [seqD, e]; rfl)⟩
  | non => exact q _ (fun z => nomatch z) rfl
  | bl b => exact q _ (fun z => nomatch z) rfl
  | int i => exact q _ (fun z => nomatch z) rfl
  | str s => exact q _ (fun z => nomatch z) rfl
  | lst s => exact q _ (fun z => nomatch z) rfl
  | tup s => exact q _ (fun z => nomatch z) rfl
  | dct s => exact q _ (fun z => nomatch z) rfl
  | sq s => exact h.elim
  | ty n => exact h.elim
  | ins C fs => exact h.elim
theorem Bk.ext {M M' : Mp} (x : Ext M M') {d : D} (h : Bk M d) : Bk M' d := by
  cases d with
  | ref a => obtain ⟨ys, e⟩ := h; exact ⟨ys, x a _ e⟩
  | _ => exact h
theorem seqD_bk {M M' : Mp} (x : Ext M M') {d : D} (h : Bk M d) : seqD M' d = seqD M d := by
  cases d with
  | ref a => obtain ⟨xs, e⟩ := h; simp only [seqD, e, x a _ e]
  | _ => rfl
theorem Fg.ext {M M' : Mp} (x : Ext M M') {d : D} (h : Fg M d) : Fg M' d := ⟨h.1.ext x, fun xs e => by
  rw [seqD_bk x h.1] at e
  obtain ⟨a, b⟩ := h.2 xs e
  exact ⟨a, fun y hy => (b y hy).ext x⟩⟩
def kvF (x : D) : List Key × D := (k3 x, w4 x)
theorem kvF_fst (xs : List D) : (xs.map kvF).map (·.1) = xs.map k3 := by rw [List.map_map]; rfl
def spInit (C cL cF cD : Addr) : DSp := fun ds M Q E => ∃ x d, ds = [.ref x, d] ∧ M x = some (.ins C []) ∧ Fg M d ∧ (match dueV (seqD M d) with
  | .list => E (.ref cL) (some [("found", d)]) M
  | .fault y => ∀ M', But x M M' → E (.ref cF) (some [("found", y)]) M'
  | .doubled ks => ∀ M', But x M M' → E (.ref cD) (some [("found", .tup (ks.map kD))]) M'
  | .told => ∀ M' d1 d2 xs, seqD M d = some xs → But x M M' → M d1 = none → M d2 = none → Drv C M' x d1 d2 (xs.map kvF) [] → Q .non M')
theorem len_spInit {C cL cF cD : Addr} : ∀ ds M Q E, spInit C cL cF cD ds M Q E → ds.length = 2 := fun _ _ _ _ h => by obtain ⟨_, _, rfl, _⟩ := h; rfl
def bInit (C cF cD : Addr) : DTS := dDrop (dMeth "take_fault" 2 0 [(C, spTakeF C cF cD, plainG)] (dVar 0) (dCons (dVar 2) (dNil)) (dNil))
def rInit (C cL cF cD : Addr) : DTS :=
  dSeq (dIf (dOr (dNot (dTruth (dIsi2 .lst .tup (dVar 1)))) (dTest (dOp dGt (dCB dLen (dCons (dVar 1) (dNil))) (dC (.int 40))))) (dRaise cL "found" (dVar 1)) (dNext))
  (dSeq (dSetF [C] "fault_words" (dVar 0) (dDict0T))
  (dSeq (dSetF [C] "times" (dVar 0) (dDict0T))
  (dFor (iQ (dVar 1)) (gdName 2) (bInit C cF cD))))
/-- what stands is as it was, but at x, and what is new -/
theorem but_dt {x d : Addr} {M M' : Mp} {o o' : MO} (h : But x M M') (hd : M d = none) : But x M (updM M' d o) := fun a u ne e => by
  rw [updM_ne (fun z => by rw [z, hd] at e; cases e)]
  exact h a u ne e
theorem src_keep {src : Src} {M M' : Mp} (h : src.holds M) (k : ∀ a o, M a = some o → (∃ xs, o = .lst xs) → M' a = some o) (hs : ∀ a m, src = .lk a m → ∃ xs, m = .lst xs) : src.holds M' := by
  cases src with
  | data => trivial
  | «at» a xs => exact k a _ h ⟨xs, rfl⟩
  | lk a m => exact k a _ h (hs a m rfl)
  | two a xs b ys => exact ⟨k a _ h.1 ⟨xs, rfl⟩, k b _ h.2 ⟨ys, rfl⟩⟩
theorem seq_it2 {M : Mp} {d : D} {xs : List D} {R : List D → Src → Prop} (h : seqD M d = some xs) (q : ∀ src : Src, src.holds M → (∀ a m, src ≠ .lk a m) → R xs src) : asS M d R := by
  cases d with
  | ref a =>
    unfold seqD at h
    dsimp only at h
    split at h
    · rename_i ys e
      cases h
      exact ⟨_, e, q (.at a xs) e fun _ _ z => nomatch z⟩
    · cases h
  | lst s => cases h; exact q .data trivial fun _ _ z => nomatch z
  | tup s => cases h; exact q .data trivial fun _ _ z => nomatch z
  | _ => cases h
theorem init_ok {C cL cF cD : Addr} : ∀ ds M Qd Ed, spInit C cL cF cD ds M Qd Ed → rInit C cL cF cD (ends Qd Ed) (dstart ["self", "faults", "fault"] ds) M := by
  intro ds M Qd Ed h
  obtain ⟨x, d, rfl, hx, ⟨bk, fg⟩, q⟩ := h
  refine ⟨_, rfl, isi2_bk bk fun t ht et => ⟨ht, ?_⟩⟩
  refine br2 (fun e1 => ?_) (fun e1 => ?_)
  · have e1 : (seqD M d).isSome = false := by rw [← et]; simpa using e1
    rw [show seqD M d = none from by cases h : seqD M d with | none => rfl | some z => rw [h] at e1; cases e1] at q
    exact ⟨_, rfl, q⟩
  have e1 : (seqD M d).isSome = true := by
    rw [← et]
    cases h : (isT t .lst || isT t .tup) with
    | true => rfl
    | false => rw [h] at e1; cases e1
  obtain ⟨xs, e2⟩ := Option.isSome_iff_exists.mp e1
  rw [e2] at q
  obtain ⟨xl, xf⟩ := fg xs e2
  refine ⟨_, rfl, ?_⟩
  dsimp only [dNil, dLen, one]
  refine seq_len e2 ?_
  refine br2 (fun e3 => ?_) (fun e3 => ?_)
  · have e3 : 40 < xs.length := by have := of_decide_eq_true e3; omega
    rw [show dueV (some xs) = .list from by unfold dueV; dsimp only; rw [if_pos e3]] at q
    exact ⟨_, rfl, q⟩
  have e3 : ¬ 40 < xs.length := by have := of_decide_eq_false e3; omega
  rw [show dueV (some xs) = goF [] xs from by unfold dueV; dsimp only; rw [if_neg e3]] at q
  intro d1 h1
  have n1 : d1 ≠ x := fun z => by rw [z, hx] at h1; cases h1
  have hx1 : updM M d1 (.dT []) x = some (.ins C []) := by rw [updM_ne (Ne.symm n1)]; exact hx
  refine ⟨_, rfl, C, [], hx1, by simp, by decide, ?_⟩
  intro d2 h2
  have n2 : d2 ≠ x := fun z => by rw [z, updM_same] at h2; cases h2
  have n12 : d1 ≠ d2 := fun z => by rw [← z, updM_ne n1, updM_same] at h2; cases h2
  have h2' : M d2 = none := by rw [updM_ne n2, updM_ne (Ne.symm n12)] at h2; exact h2
  refine ⟨_, rfl, C, [("fault_words", .ref d1)], by rw [updM_ne (Ne.symm n2), updM_same]; rfl, by simp, (by show 1 < 1000; decide), ?_⟩
  have dv0 : Drv C (updM (updM (updM (updM M d1 (.dT [])) x (.ins C (putFD "fault_words" (.ref d1) []))) d2 (.dT [])) x (.ins C (putFD "times" (.ref d2) [("fault_words", .ref d1)]))) x d1 d2 [] [] :=
    ⟨updM_same, by rw [updM_ne n1, updM_ne n12, updM_ne n1, updM_same], by rw [updM_ne n2, updM_same], n1, n2, n12⟩
  have but0 : But x M (updM (updM (updM (updM M d1 (.dT [])) x (.ins C (putFD "fault_words" (.ref d1) []))) d2 (.dT [])) x (.ins C (putFD "times" (.ref d2) [("fault_words", .ref d1)]))) := fun a u ne e => by
    have a1 : a ≠ d1 := fun z => by rw [z, h1] at e; cases e
    have a2 : a ≠ d2 := fun z => by rw [z, h2'] at e; cases e
    rw [updM_ne ne, updM_ne a2, updM_ne ne, updM_ne a1]
    exact e
  generalize updM (updM (updM (updM M d1 (.dT [])) x (.ins C (putFD "fault_words" (.ref d1) []))) d2 (.dT [])) x (.ins C (putFD "times" (.ref d2) [("fault_words", .ref d1)])) = M0 at *
  have sq0 : ∀ M', But x M M' → seqD M' d = some xs := fun M' b => by
    cases d with
    | ref a =>
      obtain ⟨ys, e⟩ := bk
      have ne : a ≠ x := fun z => by rw [z, hx] at e; cases e
      rw [← e2]
      simp only [seqD, e, b a _ ne e]
    | _ => exact e2
  refine ⟨_, rfl, ?_⟩
  obtain ⟨G, hG⟩ : ∃ G, goF [] xs = G := ⟨_, rfl⟩
  rw [hG] at q
  refine seq_it2 (sq0 M0 but0) fun src hs nlk => ?_
  refine loop_inv (fun rem δ M1 => ∃ dn w, dn ++ rem = xs ∧ δ = [some (.ref x), some d, w] ∧ But x M M1 ∧ src.holds M1 ∧ Drv C M1 x d1 d2 (dn.map kvF) [] ∧ goF (dn.map k3) rem = G) (fun y r δ M1 N h next => ?_) (fun δ M1 h => ?_) _ _ _ ⟨[], none, rfl, rfl, but0, hs, dv0, hG⟩
  · obtain ⟨dn, w, er, rfl, but, hsr, dv, eg⟩ := h
    have hy : y ∈ xs := by rw [← er]; exact List.mem_append_right _ List.mem_cons_self
    have ll : dn.length + r.length + 1 = xs.length := by rw [← er]; simp; omega
    refine Src.okI hsr ?_
    have fs : Fs M1 y := by
      have f0 := xf y hy
      cases y with
      | ref a =>
        obtain ⟨m, e, t⟩ := f0
        have ne : a ≠ x := fun z => by rw [z, hx] at e; cases e; exact t.elim
        exact ⟨m, but a _ ne e, t⟩
      | _ => exact f0
    refine ⟨_, rfl, C, _, dv.ins, rfl, rfl, _, rfl, rfl, rfl, ?_⟩
    refine ⟨x, d1, d2, dn.map kvF, [], y, rfl, dv, fs, by rw [List.length_map]; omega, ?_⟩
    rw [kvF_fst]
    unfold goF at eg
    by_cases hF : isF y = true
    · rw [if_pos hF] at eg ⊢
      by_cases hK : hasK (k3 y) (dn.map k3) = true
      · rw [if_pos hK] at eg ⊢
        rw [← eg] at q
        exact q M1 but
      · rw [if_neg hK] at eg ⊢
        refine next _ _ ⟨dn ++ [y], _, by rw [List.append_assoc]; exact er, rfl, fun a u ne e => ?_, ?_, ⟨?_, ?_, ?_, n1, n2, n12⟩, ?_⟩
        · rw [updM_ne (fun z => by rw [z, h1] at e; cases e)]
          exact but a u ne e
        · refine src_keep hsr (fun a o e ⟨ys, eo⟩ => ?_) (fun a m z => absurd z (nlk a m))
          rw [updM_ne (fun z => by rw [z, dv.fw] at e; cases e; cases eo)]
          exact e
        · rw [updM_ne (Ne.symm n1)]; exact dv.ins
        · rw [updM_same, List.map_append]; rfl
        · rw [updM_ne (Ne.symm n12)]; exact dv.tm
        · rw [List.map_append]; exact eg
    · rw [if_neg hF] at eg ⊢
      rw [← eg] at q
      exact q M1 but
  · obtain ⟨dn, w, er, rfl, but, hsr, dv, eg⟩ := h
    refine Src.okI hsr ?_
    rw [List.append_nil] at er
    subst er
    have eg : Dv.told = G := by rw [← eg]; rfl
    rw [← eg] at q
    exact q M1 d1 d2 dn rfl but h1 h2' dv
/-! ### faults(), len -/
def timesOf (tms : List (List Key × D)) (ks : List Key) : Int := match valD tms ks with | some (.int i) => i | _ => 0
def comes (tms : List (List Key × D)) (kv : List Key × D) : Bool := match kv.1 with | [n, dd, .inl k] => decide (timesOf tms [n, dd] < k) | _ => false
def toldF (kvs tms : List (List Key × D)) (c : Bool) : List D := (kvs.filter fun kv => !c || comes tms kv).map fun kv => .tup (kv.1.map kD ++ [kv.2])
def KvOk (kvs : List (List Key × D)) : Prop := ∀ kv ∈ kvs, ∃ n dd k w, kv = ([.inr n, .inr dd, .inl k], .str w)
def TmOk (tms : List (List Key × D)) : Prop := ∀ kv ∈ tms, ∃ i, kv.2 = .int i
def spFaults (C cN : Addr) : DSp := fun ds M Q E => ∃ x d1 d2 kvs tms c, ds = [.ref x, c] ∧ Drv C M x d1 d2 kvs tms ∧ KvOk kvs ∧ TmOk tms ∧ kvs.length ≤ 1000 ∧ (match c with
  | .bl c => ∀ M' p, Ext M M' → M p = none → M' p = some (.lst (toldF kvs tms c)) → Q (.ref p) M'
  | c => E (.ref cN) (some [("found", c)]) M)
theorem len_spFaults {C cN : Addr} : ∀ ds M Q E, spFaults C cN ds M Q E → ds.length = 2 := fun _ _ _ _ h => by obtain ⟨_, _, _, _, _, _, rfl, _⟩ := h; rfl
def bFaults (C : Addr) : DTS := dIf (dOr (dNot (dTruth (dVar 1))) (dTest (dOp dLt (dGetT2 (dFld [C] "times" (dVar 0)) (kTup (dCons (dVar 3) (dCons (dVar 4) (dNil)))) (dC (.int 0))) (dVar 5)))) (dDrop (dAppend (dVar 2) (dTup (dCons (dVar 3) (dCons (dVar 4) (dCons (dVar 5) (dCons (dVar 6) (dNil)))))))) (dNext)
def rFaults (C cN : Addr) : DTS :=
  dSeq (dIf (dAnd (dTest (dOp dIsNot (dVar 1) (dC (.bl true)))) (dTest (dOp dIsNot (dVar 1) (dC (.bl false))))) (dRaise cN "found" (dVar 1)) (dNext))
  (dSeq (dAsg (dLstM (dNil)) (gdName 2))
  (dSeq (dLockT (dFor (iItT (dFld [C] "fault_words" (dVar 0))) (gdTup 2 (gdList [(gdTup 3 (gdNames [3, 4, 5])), (gdName 6)])) (bFaults C)))
  (dRet (dVar 2))))
theorem valD_of {κ : Type} [DecidableEq κ] {kvs : List (κ × D)} {k : κ} {d : D} (h : valD kvs k = some d) : ∃ kv ∈ kvs, kv.2 = d := by
  unfold valD at h
  cases e : kvs.find? (fun kv => decide (kv.1 = k)) with
  | none => rw [e] at h; cases h
  | some kv =>
    rw [e] at h
    cases h
    exact ⟨kv, List.mem_of_find?_eq_some e, rfl⟩
theorem times_get {tms : List (List Key × D)} (h : TmOk tms) (ks : List Key) : (valD tms ks).getD (.int 0) = .int (timesOf tms ks) := by
  unfold timesOf
  cases e : valD tms ks with
  | none => rfl
  | some d =>
    obtain ⟨kv, h1, h2⟩ := valD_of e
    obtain ⟨i, hi⟩ := h kv h1
    rw [hi] at h2
    subst h2
    rfl
theorem faults_ok {C cN : Addr} : ∀ ds M Qd Ed, spFaults C cN ds M Qd Ed → rFaults C cN (ends Qd Ed) (dstart ["self", "coming", "told", "device", "deed", "number", "word"] ds) M := by
  intro ds M Qd Ed h
  obtain ⟨x, d1, d2, kvs, tms, c, rfl, dv, kok, tok, hl, q⟩ := h
  have bad : (∀ b, c ≠ .bl b) → Ed (.ref cN) (some [("found", c)]) M → rFaults C cN (ends Qd Ed) (dstart ["self", "coming", "told", "device", "deed", "number", "word"] [.ref x, c]) M := fun nb q => by
    have e : ∀ b, isB b c = false := fun b => by
      cases c with
      | bl a => exact absurd rfl (nb a)
      | _ => rfl
    refine ⟨_, rfl, brT (by rw [e]; rfl) ⟨_, rfl, brT (by rw [e]; rfl) ⟨_, rfl, q⟩⟩⟩
  cases c with
  | bl c =>
    have q : ∀ M' p, Ext M M' → M p = none → M' p = some (.lst (toldF kvs tms c)) → Qd (.ref p) M' := q
    have go : ∀ p, M p = none → (dSeq (dLockT (dFor (iItT (dFld [C] "fault_words" (dVar 0))) (gdTup 2 (gdList [(gdTup 3 (gdNames [3, 4, 5])), (gdName 6)])) (bFaults C))) (dRet (dVar 2))) (ends Qd Ed) [some (.ref x), some (.bl c), some (.ref p), none, none, none, none] (updM M p (.lst [])) := by
      intro p hp
      have px : p ≠ x := fun z => by rw [z, dv.ins] at hp; cases hp
      have p1 : p ≠ d1 := fun z => by rw [z, dv.fw] at hp; cases hp
      have p2 : p ≠ d2 := fun z => by rw [z, dv.tm] at hp; cases hp
      refine ⟨d1, kvs, by rw [updM_ne (Ne.symm p1)]; exact dv.fw, fun od us => ?_⟩
      have at_ : ∀ acc, ∃ M0, M0 = updM (updM M p (.lst acc)) d1 (.dTL od us kvs) ∧ M0 x = some (.ins C [("fault_words", .ref d1), ("times", .ref d2)]) ∧ M0 d1 = some (.dTL od us kvs) ∧ M0 d2 = some (.dT tms) ∧ M0 p = some (.lst acc) := fun acc =>
        ⟨_, rfl, by rw [updM_ne (Ne.symm dv.n1), updM_ne (Ne.symm px)]; exact dv.ins, updM_same, by rw [updM_ne (Ne.symm dv.n12), updM_ne (Ne.symm p2)]; exact dv.tm, by rw [updM_ne p1, updM_same]⟩
      obtain ⟨M0, e0, a1, a2, a3, a4⟩ := at_ []
      rw [← e0]
      refine ⟨_, rfl, C, _, a1, by simp, _, rfl, od, us, kvs, a2, ?_⟩
      refine loop_inv (fun rem δ M1 => ∃ dn rm w3 w4 w5 w6, dn ++ rm = kvs ∧ rem = rm.map (fun kv => .tup [.tup (kv.1.map kD), kv.2]) ∧ δ = [some (.ref x), some (.bl c), some (.ref p), w3, w4, w5, w6] ∧ M1 = updM (updM M p (.lst (toldF dn tms c))) d1 (.dTL od us kvs)) (fun y r δ M1 N h next => ?_) (fun δ M1 h => ?_) _ _ _ ⟨[], kvs, none, none, none, none, rfl, rfl, rfl, e0⟩
      · obtain ⟨dn, rm, w3, w4, w5, w6, ek, er, rfl, em⟩ := h
        cases rm with
        | nil => cases er
        | cons kv rm =>
          cases er
          obtain ⟨n, dd, k, w, rfl⟩ := kok kv (by rw [← ek]; exact List.mem_append_right _ List.mem_cons_self)
          obtain ⟨M0, e1, b1, b2, b3, b4⟩ := at_ (toldF dn tms c)
          rw [← em] at e1
          subst e1
          refine ⟨b2, ?_⟩
          refine ⟨rfl, rfl, rfl, rfl, ?_⟩
          have lt : (toldF dn tms c).length ≤ 1000 := by
            unfold toldF
            rw [List.length_map]
            refine Nat.le_trans (List.length_filter_le _ _) ?_
            have : dn.length + (rm.length + 1) = kvs.length := by rw [← ek]; simp
            omega
          have nx : ∀ M2, (M2 = updM (updM M p (.lst (toldF (dn ++ [([.inr n, .inr dd, .inl k], .str w)]) tms c))) d1 (.dTL od us kvs)) → N [some (.ref x), some (.bl c), some (.ref p), some (.str n), some (.str dd), some (.int k), some (.str w)] M2 := fun M2 e2 =>
            next _ _ ⟨dn ++ [([.inr n, .inr dd, .inl k], .str w)], rm, _, _, _, _, by rw [List.append_assoc]; exact ek, rfl, rfl, e2⟩
          have yes : (!c || comes tms ([.inr n, .inr dd, .inl k], .str w)) = true → updM M0 p (.lst (toldF dn tms c ++ [.tup [.str n, .str dd, .int k, .str w]])) = updM (updM M p (.lst (toldF (dn ++ [([.inr n, .inr dd, .inl k], .str w)]) tms c))) d1 (.dTL od us kvs) := fun hc => by
            have et : toldF (dn ++ [([.inr n, .inr dd, .inl k], .str w)]) tms c = toldF dn tms c ++ [.tup [.str n, .str dd, .int k, .str w]] := by
              unfold toldF
              rw [List.filter_append, List.map_append, List.filter_cons, if_pos hc]
              rfl
            rw [et, em]
            funext a
            by_cases h1 : a = p
            · subst h1; rw [updM_same, updM_ne p1, updM_same]
            · rw [updM_ne h1]
              by_cases h2 : a = d1
              · subst h2; rw [updM_same, updM_same]
              · rw [updM_ne h2, updM_ne h2, updM_ne h1, updM_ne h1]
          have no : (!c || comes tms ([.inr n, .inr dd, .inl k], .str w)) = false → M0 = updM (updM M p (.lst (toldF (dn ++ [([.inr n, .inr dd, .inl k], .str w)]) tms c))) d1 (.dTL od us kvs) := fun hc => by
            have et : toldF (dn ++ [([.inr n, .inr dd, .inl k], .str w)]) tms c = toldF dn tms c := by
              unfold toldF
              rw [List.filter_append, List.map_append, List.filter_cons, if_neg (by rw [hc]; exact Bool.false_ne_true)]
              simp
            rw [et, em]
          refine ⟨_, rfl, ?_⟩
          refine br2 (fun e => ?_) (fun e => ?_)
          · have hc : c = false := by simpa using e
            exact ⟨_, rfl, ⟨_, b4⟩, _, rfl, _, rfl, _, rfl, _, rfl, (by show 4 ≤ sizeLine; decide), _, b4, Nat.lt_of_le_of_lt lt (by decide), nx _ (yes (by rw [hc]; rfl))⟩
          · have hc : c = true := by simpa using e
            subst hc
            refine ⟨_, rfl, C, _, b1, by simp, _, rfl, .inr ⟨d2, rfl, .inr (.inr (.inl ⟨_, b3⟩))⟩, ?_⟩
            refine ⟨_, rfl, _, rfl, (by show 2 ≤ sizeLine; decide), .inl ⟨tms, b3, [.inr n, .inr dd], rfl, ?_⟩⟩
            rw [times_get tok]
            refine ⟨_, rfl, ?_⟩
            refine br2 (fun e => ?_) (fun e => ?_)
            · exact ⟨_, rfl, ⟨_, b4⟩, _, rfl, _, rfl, _, rfl, _, rfl, (by show 4 ≤ sizeLine; decide), _, b4, Nat.lt_of_le_of_lt lt (by decide), nx _ (yes e)⟩
            · exact nx _ (no e)
      · obtain ⟨dn, rm, w3, w4, w5, w6, ek, er, rfl, em⟩ := h
        cases rm with
        | cons a b => cases er
        | nil =>
          rw [List.append_nil] at ek
          subst ek
          refine ⟨by rw [em]; exact updM_same, by rw [em]; exact updM_same, ?_⟩
          refine ⟨_, rfl, q _ p (fun a u e => ?_) hp ?_⟩
          · by_cases h1 : a = d1
            · subst h1; rw [updM_same, ← e, dv.fw]
            · have h2 : a ≠ p := fun z => by rw [z, hp] at e; cases e
              rw [updM_ne h1, em, updM_ne h1, updM_ne h2]
              exact e
          · rw [updM_ne p1, em, updM_ne p1, updM_same]
    cases c with
    | true => exact ⟨_, rfl, (by show 0 ≤ sizeLine; decide), go⟩
    | false => exact ⟨_, rfl, _, rfl, (by show 0 ≤ sizeLine; decide), go⟩
  | _ => exact bad (fun _ z => nomatch z) q
def spLenD (C : Addr) : DSp := fun ds M Q _ => ∃ x d1 d2 kvs tms, ds = [.ref x] ∧ Drv C M x d1 d2 kvs tms ∧ Q (.int (kvs.length : Nat)) M
theorem len_spLenD {C : Addr} : ∀ ds M Q E, spLenD C ds M Q E → ds.length = 1 := fun _ _ _ _ h => by obtain ⟨_, _, _, _, _, rfl, _⟩ := h; rfl
def rLenD (C : Addr) : DTS := dRet (dCB dLenT (dCons (dFld [C] "fault_words" (dVar 0)) (dNil)))
theorem lenD_ok {C : Addr} : ∀ ds M Qd Ed, spLenD C ds M Qd Ed → rLenD C (ends Qd Ed) (dstart ["self"] ds) M := by
  intro ds M Qd Ed h
  obtain ⟨x, d1, d2, kvs, tms, rfl, dv, q⟩ := h
  exact ⟨_, rfl, C, _, dv.ins, by simp, _, rfl, kvs, dv.fw, q⟩
end DL

set_option Elab.async false
set_option linter.all false
set_option maxRecDepth 100000
set_option maxHeartbeats 4000000
namespace DL
open PySem L2
/-! ## tuples of numbers and texts as data -/
def pk : Key → PyData
  | .inl i => .int i
  | .inr s => .str s
def PyK (ks : List Key) : PyData := .tuple (ks.map pk)
theorem pyOf_keys {M : Mp} : ∀ ks : List Key, Paired (PyOf M) (ks.map kD) (ks.map pk)
  | [] => .nil
  | .inl i :: r => .cons (.int i) (pyOf_keys r)
  | .inr s :: r => .cons (.str s) (pyOf_keys r)
theorem pyOf_k {M : Mp} (ks : List Key) : PyOf M (.tup (ks.map kD)) (PyK ks) := .tup (pyOf_keys ks)
theorem pyOf_ks {M : Mp} : ∀ l : List (List Key), Paired (PyOf M) (l.map fun ks => .tup (ks.map kD)) (l.map PyK)
  | [] => .nil
  | ks :: r => .cons (pyOf_k ks) (pyOf_ks r)
theorem pk_eqv (a b : Key) : PyData.eqv (pk a) (pk b) = decide (a = b) := by
  cases a with
  | inl i => cases b with
    | inl j =>
      simp only [pk, PyData.eqv]
      by_cases h : i = j
      · subst h; simp
      · simp [h]
    | inr s => simp [pk, PyData.eqv]
  | inr s => cases b with
    | inl j => simp [pk, PyData.eqv]
    | inr t =>
      simp only [pk, PyData.eqv]
      by_cases h : s = t
      · subst h; simp
      · simp [h]
theorem pks_eqv : ∀ a b : List Key, PyData.eqvAll (a.map pk) (b.map pk) = decide (a = b)
  | [], [] => by simp [PyData.eqvAll]
  | [], _ :: _ => by simp [PyData.eqvAll]
  | _ :: _, [] => by simp [PyData.eqvAll]
  | x :: a, y :: b => by
    simp only [List.map_cons, PyData.eqvAll, pk_eqv, pks_eqv a b]
    by_cases h : x = y
    · by_cases k : a = b
      · simp [h, k]
      · simp [h, k]
    · simp [h]
theorem PyK_eqv (a b : List Key) : PyData.eqv (PyK a) (PyK b) = decide (a = b) := by
  unfold PyK
  rw [show PyData.eqv (.tuple (a.map pk)) (.tuple (b.map pk)) = PyData.eqvAll (a.map pk) (b.map pk) from by simp [PyData.eqv]]
  exact pks_eqv a b
def OkK : Key → Prop
  | .inl _ => True
  | .inr s => Ok s
theorem pks_lay : ∀ ks : List Key, (∀ k ∈ ks, OkK k) → PyData.canLayAll0 (ks.map pk) = true ∧ PyData.depthAll (ks.map pk) = 0
  | [], _ => ⟨by simp [PyData.canLayAll0], by simp [PyData.depthAll]⟩
  | k :: r, h => by
    obtain ⟨a, b⟩ := pks_lay r fun x hx => h x (List.mem_cons_of_mem _ hx)
    have hk := h k List.mem_cons_self
    cases k with
    | inl i => exact ⟨by simp [PyData.canLayAll0, PyData.canLay0, pk, a], by simp [PyData.depthAll, PyData.depth, pk, b]⟩
    | inr s =>
      have e : PyData.strOk s = true := by
        unfold PyData.strOk
        rw [← Array.all_toList, List.all_eq_true]
        exact fun c hc => decide_eq_true (hk c hc)
      exact ⟨by simp [PyData.canLayAll0, PyData.canLay0, e, pk, a], by simp [PyData.depthAll, PyData.depth, pk, b]⟩
theorem PyK_lay {ks : List Key} (h : ∀ k ∈ ks, OkK k) : PyData.canLay0 (PyK ks) = true ∧ PyData.depth (PyK ks) = 1 := by
  obtain ⟨a, b⟩ := pks_lay ks h
  unfold PyK
  exact ⟨by simp [PyData.canLay0, a], by simp [PyData.depth, b]⟩
theorem PyK_shaped {ks : List Key} (h : ∀ k ∈ ks, OkK k) : SeqAt.shaped (PyK ks) = true := by
  obtain ⟨a, b⟩ := PyK_lay h
  unfold SeqAt.shaped
  rw [a, b]
  rfl
theorem PyKs_lay : ∀ l : List (List Key), (∀ ks ∈ l, ∀ k ∈ ks, OkK k) → PyData.canLayAll0 (l.map PyK) = true ∧ PyData.depthAll (l.map PyK) ≤ 1
  | [], _ => ⟨by simp [PyData.canLayAll0], by simp [PyData.depthAll]⟩
  | ks :: r, h => by
    obtain ⟨a, b⟩ := PyKs_lay r fun x hx => h x (List.mem_cons_of_mem _ hx)
    obtain ⟨c, d⟩ := PyK_lay (h ks List.mem_cons_self)
    refine ⟨by simp [PyData.canLayAll0, a, c], ?_⟩
    simp only [List.map_cons, PyData.depthAll, d]
    omega
theorem PyKs_shaped {l : List (List Key)} (h : ∀ ks ∈ l, ∀ k ∈ ks, OkK k) : SeqAt.shaped (.list (l.map PyK)) = true := by
  obtain ⟨a, b⟩ := PyKs_lay l h
  unfold SeqAt.shaped
  rw [show PyData.canLay0 (.list (l.map PyK)) = true from by simp [PyData.canLay0, a], Bool.true_and]
  refine decide_eq_true ?_
  simp only [PyData.depth]
  omega
theorem any_keys (k : List Key) : ∀ l : List (List Key), ((l.map PyK).any fun z => PyData.eqv z (PyK k)) = hasK k l
  | [] => rfl
  | a :: r => by
    have ih := any_keys k r
    unfold hasK at ih ⊢
    rw [List.map_cons, List.any_cons, List.any_cons, ih, PyK_eqv]
/-! ## good faults, drawn -/
def GF (d : D) : Prop := ∃ n dd k w, d = fD n dd k w ∧ Nm n ∧ dd ∈ deedsW ∧ 1 ≤ k ∧ k ≤ 30 ∧ w ∈ endsW
theorem GF.isF {d : D} (h : GF d) : DL.isF d = true := by
  obtain ⟨n, dd, k, w, rfl, h1, h2, h3, h4, h5⟩ := h
  show (nameD (.str n) && (decide (dd ∈ deedsW) && ((decide (1 ≤ k) && decide (k ≤ 30)) && decide (w ∈ endsW)))) = true
  rw [h1.name, decide_eq_true h2, decide_eq_true h3, decide_eq_true h4, decide_eq_true h5]
  rfl
theorem deeds_ok : ∀ s ∈ deedsW, Ok s ∧ s.length ≤ 5 := by
  intro s hs
  simp only [deedsW, List.mem_cons, List.mem_nil_iff, or_false] at hs
  rcases hs with rfl | rfl | rfl | rfl | rfl | rfl <;> exact ⟨ok_of _, by decide⟩
theorem ends_ok : ∀ s ∈ endsW, Ok s ∧ s.length ≤ 6 := by
  intro s hs
  simp only [endsW, List.mem_cons, List.mem_nil_iff, or_false] at hs
  rcases hs with rfl | rfl <;> exact ⟨ok_of _, by decide⟩
theorem GF.k3ok {d : D} (h : GF d) : ∀ k ∈ k3 d, OkK k := by
  obtain ⟨n, dd, k, w, rfl, h1, h2, _⟩ := h
  intro x hx
  simp only [fD, k3, List.mem_cons, List.mem_nil_iff, or_false] at hx
  rcases hx with rfl | rfl | rfl
  · exact h1.2.2.ok
  · exact (deeds_ok _ h2).1
  · trivial
theorem GF.first {d : D} (h : GF d) : ∃ xs, d = .tup xs ∧ cutD xs none (some 3) = (k3 d).map kD := by
  obtain ⟨n, dd, k, w, rfl, _⟩ := h
  exact ⟨_, rfl, rfl⟩
theorem goF_told : ∀ (xs : List D) (ahead : List (List Key)), (∀ x ∈ xs, isF x = true) → (xs.map k3).Nodup → (∀ x ∈ xs, hasK (k3 x) ahead = false) → goF ahead xs = .told
  | [], _, _, _, _ => rfl
  | x :: r, ahead, h1, h2, h3 => by
    rw [List.map_cons, List.nodup_cons] at h2
    unfold goF
    rw [if_pos (h1 x List.mem_cons_self), if_neg (by rw [h3 x List.mem_cons_self]; exact Bool.false_ne_true)]
    refine goF_told r _ (fun y hy => h1 y (List.mem_cons_of_mem _ hy)) h2.2 fun y hy => ?_
    unfold hasK
    rw [List.any_append]
    have e := h3 y (List.mem_cons_of_mem _ hy)
    unfold hasK at e
    rw [e, Bool.false_or]
    simp only [List.any_cons, List.any_nil, Bool.or_false]
    refine decide_eq_false fun z => h2.1 ?_
    rw [z]
    exact List.mem_map.mpr ⟨y, hy, rfl⟩
def spLawFault : DSp := fun ds M Q _ => ∃ (b : Addr) (ss : List Str) (n : Nat), ds = [.ref b, .lst (ss.map D.str)] ∧ Bag M b n ∧ n < 900000 ∧ ss ≠ [] ∧ ss.length ≤ 100 ∧ (∀ s ∈ ss, Nm s) ∧ ∀ M' d, But b M M' → Bag M' b (n + 5) → GF d → Q d M'
theorem len_spLawFault : ∀ ds M Q E, spLawFault ds M Q E → ds.length = 2 := fun _ _ _ _ h => by obtain ⟨_, _, _, rfl, _⟩ := h; rfl
def rLawFault : DTS :=
  dSeq (dAsg (dLst (dCons (dC (.str "wake")) (dCons (dC (.str "doze")) (dCons (dC (.str "ready")) (dCons (dC (.str "sleep")) (dCons (dC (.str "late")) (dCons (dC (.str "still")) (dNil)))))))) (gdName 2))
  (dSeq (dAsg (dOp dIx (dLst (dCons (dC (.int 1)) (dCons (dC (.int 2)) (dCons (dC (.int 30)) (dCons (dOp dAdd2 (dC (.int 1)) (dCall spTake (dCons (dVar 0) (dCons (dC (.int 30)) (dNil))))) (dNil)))))) (dCall spTake (dCons (dVar 0) (dCons (dC (.int 4)) (dNil))))) (gdName 3))
  (dSeq (dPar2 4 5 (dCons (dOp dIx (dVar 1) (dCall spTake (dCons (dVar 0) (dCons (dCB dLen (dCons (dVar 1) (dNil))) (dNil))))) (dCons (dOp dIx (dVar 2) (dCall spTake (dCons (dVar 0) (dCons (dC (.int 6)) (dNil))))) (dNil))))
  (dRet (dTup (dCons (dVar 4) (dCons (dVar 5) (dCons (dVar 3) (dCons (dOp dIx (dLst (dCons (dC (.str "busy")) (dCons (dC (.str "broken")) (dNil)))) (dCall spTake (dCons (dVar 0) (dCons (dC (.int 2)) (dNil))))) (dNil)))))))))
theorem law_fault_ok : ∀ ds M Qd Ed, spLawFault ds M Qd Ed → rLawFault (ends Qd Ed) (dstart ["b", "names", "deeds", "number", "name", "deed"] ds) M := by
  intro ds M Qd Ed h
  obtain ⟨b, ss, n, rfl, hb, hn, ne, sl, nm, q⟩ := h
  have pos : 0 < ss.length := by cases ss with | nil => exact absurd rfl ne | cons a r => simp
  refine ⟨(by show 6 ≤ sizeLine; decide), ?_⟩
  refine ⟨_, rfl, b, 30, n, rfl, hb, by omega, by decide, by decide, fun M1 x s1 hb1 x0 x1 => ?_⟩
  refine ⟨(by show 4 ≤ sizeLine; decide), _, rfl, b, 4, n + 1, rfl, hb1, by omega, by decide, by decide, fun M2 y s2 hb2 y0 y1 => ?_⟩
  obtain ⟨k, e1, k0, k1⟩ : ∃ k : Int, atI [D.int 1, .int 2, .int 30, .int (1 + x)] y = some (.int k) ∧ 1 ≤ k ∧ k ≤ 30 := by
    rcases (by omega : y = 0 ∨ y = 1 ∨ y = 2 ∨ y = 3) with rfl | rfl | rfl | rfl
    · exact ⟨_, rfl, by decide, by decide⟩
    · exact ⟨_, rfl, by decide, by decide⟩
    · exact ⟨_, rfl, by decide, by decide⟩
    · exact ⟨_, rfl, by omega, by omega⟩
  refine ⟨_, e1, ?_⟩
  refine ⟨_, rfl, _, rfl, _, rfl, b, ((ss.map D.str).length : Nat), n + 2, rfl, hb2, by omega, by rw [List.length_map]; omega, by rw [List.length_map]; omega, fun M3 z s3 hb3 z0 z1 => ?_⟩
  obtain ⟨d, d1, d2⟩ := at_some (xs := ss.map D.str) z0 z1
  obtain ⟨nn, hn2, rfl⟩ := List.mem_map.mp d2
  refine ⟨_, d1, _, rfl, _, rfl, b, 6, n + 3, rfl, hb3, by omega, by decide, by decide, fun M4 u s4 hb4 u0 u1 => ?_⟩
  obtain ⟨d, d3, d4⟩ := at_some (xs := deedsW.map D.str) u0 (by show _ < 6; exact u1)
  obtain ⟨dd, hd2, rfl⟩ := List.mem_map.mp d4
  refine ⟨_, d3, ?_⟩
  refine ⟨_, rfl, _, rfl, _, rfl, (by show 2 ≤ sizeLine; decide), _, rfl, b, 2, n + 4, rfl, hb4, by omega, by decide, by decide, fun M5 v s5 hb5 v0 v1 => ?_⟩
  obtain ⟨d, d5, d6⟩ := at_some (xs := endsW.map D.str) v0 (by show _ < 2; exact v1)
  obtain ⟨w, hw2, rfl⟩ := List.mem_map.mp d6
  exact ⟨_, d5, (by show 4 ≤ sizeLine; decide), q M5 _ ((((s1.trans s2).trans s3).trans s4).trans s5) hb5 ⟨nn, dd, k, w, rfl, nm nn hn2, hd2, k0, k1, hw2⟩⟩
def spLawFaults : DSp := fun ds M Q _ => ∃ (b : Addr) (ss : List Str) (n : Nat) (many : Int), ds = [.ref b, .lst (ss.map D.str), .int many] ∧ Bag M b n ∧ n < 800000 ∧ ss ≠ [] ∧ ss.length ≤ 100 ∧ (∀ s ∈ ss, Nm s) ∧ 0 ≤ many ∧ many ≤ 100 ∧
  ∀ M' p xs, But b M M' → Bag M' b (n + 600) → M p = none → M' p = some (.lst xs) → p ≠ b → (xs.length : Int) ≤ many → (∀ x ∈ xs, GF x) → (xs.map k3).Nodup → Q (.ref p) M'
theorem len_spLawFaults : ∀ ds M Q E, spLawFaults ds M Q E → ds.length = 3 := fun _ _ _ _ h => by obtain ⟨_, _, _, _, rfl, _⟩ := h; rfl
def bLawFaults : DTS :=
  dSeq (dAsg (dCall spLawFault (dCons (dVar 0) (dCons (dVar 1) (dNil)))) (gdName 5))
  (dIf (dTest (dOp (dInD not) (dSlA dSl4 (dVar 5) (oNone) (oSome (dC (.int 3)))) (dLc (iL (dVar 3)) (.one 6) dYes (dSlA dSl4 (dVar 6) (oNone) (oSome (dC (.int 3)))) [6]))) (dDrop (dML opInsert (dVar 3) (dCons (dCall spTake (dCons (dVar 0) (dCons (dOp dAdd2 (dCB dLen (dCons (dVar 3) (dNil))) (dC (.int 1))) (dNil)))) (dCons (dVar 5) (dNil))))) (dNext))
def rLawFaults : DTS :=
  dSeq (dAsg (dLstM (dNil)) (gdName 3))
  (dSeq (dFor (iR1 (dCons (dVar 2) (dNil))) (gdName 4) bLawFaults)
  (dRet (dVar 3)))
theorem nodup_insert {α : Type} {l : List α} {x : α} (h : l.Nodup) (hx : x ∉ l) (i : Nat) : (l.take i ++ [x] ++ l.drop i).Nodup := by
  have p : (l.take i ++ [x] ++ l.drop i).Perm (x :: l) := by
    rw [List.append_assoc]
    refine List.Perm.trans (List.perm_middle (l₁ := l.take i) (a := x) (l₂ := l.drop i)) ?_
    rw [List.take_append_drop]
  exact p.nodup_iff.mpr (List.nodup_cons.mpr ⟨hx, h⟩)
theorem law_faults_ok : ∀ ds M Qd Ed, spLawFaults ds M Qd Ed → rLawFaults (ends Qd Ed) (dstart ["b", "names", "many", "found", "k", "fault", "one"] ds) M := by
  intro ds M Qd Ed h
  obtain ⟨b, ss, n, many, rfl, hb, hn, ne, sl, nm, m0, m1, q⟩ := h
  refine ⟨(by show 0 ≤ sizeLine; decide), fun p hp => ?_⟩
  have nb := hb.at hp
  refine ⟨_, rfl, ⟨by omega, by omega⟩, ?_⟩
  refine loop_inv (fun rem δ M1 => ∃ xs w4 w5 m, δ = [some (.ref b), some (.lst (ss.map D.str)), some (.int many), some (.ref p), w4, w5, none] ∧ But b M M1 ∧ Bag M1 b m ∧ m + 6 * rem.length ≤ n + 600 ∧ M1 p = some (.lst xs) ∧ xs.length + rem.length ≤ many.toNat ∧ (∀ x ∈ xs, GF x) ∧ (xs.map k3).Nodup) (fun x r δ M1 N h next => ?_) (fun δ M1 h => ?_) _ _ _
    ⟨[], none, none, n, rfl, But.new hp, hb.upd nb, by rw [rng_len]; omega, updM_same, by rw [rng_len]; simp, (fun _ z => nomatch z), List.nodup_nil⟩
  · obtain ⟨xs, w4, w5, m, rfl, but, hb1, hm, hxs, hl, gf, nd⟩ := h
    simp only [List.length_cons] at hm hl
    refine ⟨_, rfl, _, rfl, b, ss, m, rfl, hb1, by omega, ne, sl, nm, fun M2 d s2 hb2 gd => ?_⟩
    have hx2 := s2 p _ (Ne.symm nb) hxs
    obtain ⟨fs, rfl, e3⟩ := gd.first
    refine ⟨_, rfl, _, rfl, _, hx2, Nat.lt_of_le_of_lt (by omega : xs.length ≤ 1000) (by decide), ?_⟩
    refine comp_map1 (fun x => .tup ((k3 x).map kD)) (src := .at p xs) hx2 xs (fun y hy Q q => ?_) (Nat.le_trans (by omega : xs.length ≤ 1000) (by decide)) ?_
    · obtain ⟨ys, rfl, e4⟩ := (gf y hy).first
      refine ⟨_, rfl, ?_⟩
      show Q (.tup (cutD ys none (some 3))) M2
      rw [e4]
      exact q
    have em : (xs.map fun x => D.tup ((k3 x).map kD)) = (xs.map k3).map fun ks => D.tup (ks.map kD) := by rw [List.map_map]; rfl
    rw [em, e3]
    have okl : ∀ ks ∈ xs.map k3, ∀ k ∈ ks, OkK k := fun ks hks => by
      obtain ⟨y, hy, rfl⟩ := List.mem_map.mp hks
      exact (gf y hy).k3ok
    refine ⟨_, _, pyOf_k _, .lst (pyOf_ks (xs.map k3)), PyK_shaped gd.k3ok, PyKs_shaped okl, ?_⟩
    rw [any_keys]
    refine br2 (fun e => ?_) (fun e => ?_)
    · have e : hasK (k3 (.tup fs)) (xs.map k3) = false := by simpa using e
      have nin : k3 (.tup fs) ∉ xs.map k3 := fun z => by
        have : hasK (k3 (.tup fs)) (xs.map k3) = true := List.any_eq_true.mpr ⟨_, z, decide_eq_true rfl⟩
        rw [e] at this
        cases this
      refine ⟨_, rfl, ⟨_, hx2⟩, _, rfl, _, rfl, _, hx2, b, (xs.length : Nat) + 1, m + 5, rfl, hb2, by omega, by omega, by omega, fun M3 z s3 hb3 z0 z1 => ?_⟩
      have hx3 := s3 p _ (Ne.symm nb) hx2
      refine ⟨_, rfl, xs, hx3, Nat.lt_of_le_of_lt (by omega : xs.length ≤ 1000) (by decide), z0, by omega, ?_⟩
      refine next _ _ ⟨xs.take z.toNat ++ [.tup fs] ++ xs.drop z.toNat, _, _, m + 6, rfl, fun a u na e => ?_, hb3.upd nb, by omega, updM_same, ?_, fun y hy => ?_, ?_⟩
      · rw [updM_ne (fun z => by rw [z, hp] at e; cases e)]
        exact s3 a u na (s2 a u na (but a u na e))
      · simp only [List.length_append, List.length_take, List.length_drop, List.length_singleton]
        omega
      · rcases List.mem_append.mp hy with hy | hy
        · rcases List.mem_append.mp hy with hy | hy
          · exact gf y (List.mem_of_mem_take hy)
          · rw [List.mem_singleton.mp hy]; exact gd
        · exact gf y (List.mem_of_mem_drop hy)
      · simp only [List.map_append, List.map_take, List.map_drop, List.map_cons, List.map_nil]
        exact nodup_insert nd nin _
    · exact next _ _ ⟨xs, _, _, m + 5, rfl, but.trans s2, hb2, by omega, hx2, by omega, gf, nd⟩
  · obtain ⟨xs, w4, w5, m, rfl, but, hb1, hm, hxs, hl, gf, nd⟩ := h
    simp only [List.length_nil] at hm hl
    exact ⟨_, rfl, q M1 p xs but (hb1.mono (by omega)) hp hxs (Ne.symm nb) (by omega) gf nd⟩
end DL

set_option Elab.async false
set_option linter.all false
set_option maxRecDepth 100000
set_option maxHeartbeats 4000000
namespace DL
open PySem L2
/-! ## signs of a text, filtered; what is shown -/
def sgOf : D → Nat
  | .str s => s.cps.toList.headD 0
  | _ => 0
theorem comp_sgn {i : Nat} {tt : DTT} {te : DTE} {vs : List Nat} {δ : DS} {k : List D → Mp → Prop} {M : Mp} (p : Nat → Bool) (cs : List Nat) (hp : ∀ c ∈ cs, ∀ Q : Bool → Mp → Prop, Q (p c) M → tt ((dwipe δ vs).set i (some (.str (sg1 c)))) M Q E0d)
    (hf : ∀ c ∈ cs, ∀ Q : DK, Q (.str (sg1 c)) M → te ((dwipe δ vs).set i (some (.str (sg1 c)))) M Q E0d) (hl : cs.length ≤ sizeLine) (q : k ((cs.filter p).map fun c => D.str (sg1 c)) M) : dComp (.one i) tt te .data vs δ k (cs.map fun c => D.str (sg1 c)) [] M := by
  refine comp_filt1 (src := .data) (fun d => p (sgOf d)) (fun d => d) trivial _ (fun x hx Q q => ?_) (fun x hx _ Q q => ?_) (by rw [List.length_map]; exact hl) ?_
  · obtain ⟨c, hc, rfl⟩ := List.mem_map.mp hx
    exact hp c hc Q q
  · obtain ⟨c, hc, rfl⟩ := List.mem_map.mp hx
    exact hf c hc Q q
  · rw [List.map_id', List.filter_map]
    exact q
theorem shown1 {M : Mp} {d : D} {n c : Nat} (h : Shw M d n c) (hn : n ≤ 60) (hc : c ≤ 16000000) : ∃ t, ShOf M d t ∧ t.dep ≤ 60 ∧ t.text.length ≤ sizeLine := by
  obtain ⟨t, a, b, k⟩ := h
  exact ⟨t, a, Nat.le_trans b hn, Nat.le_trans (Sh.text_le t) (Nat.le_trans k (Nat.le_trans hc (by decide)))⟩
theorem tyD_ext2 {M M' : Mp} (x : Ext M M') {d : D} {k : Ty → Prop} (h : tyD d M k) : tyD d M' k := by
  cases d with
  | ref a =>
    obtain ⟨m, e, t⟩ := h
    exact ⟨m, x a m e, t⟩
  | _ => exact h
/-! ## faults once more -/
theorem nameD_ok {s : Str} (h : nameD (.str s) = true) : Ok s := by
  have h : (decide (1 ≤ s.length) && decide (s.length ≤ 8) && s.cps.toList.all (fun c => decide (c ∈ letters.cps.toList))) = true := h
  simp only [Bool.and_eq_true, List.all_eq_true, decide_eq_true_eq] at h
  exact fun c hc => letters_ok c (h.2 c hc)
theorem isF_k3ok {d : D} (h : isF d = true) : ∀ k ∈ k3 d, OkK k := by
  obtain ⟨n, dd, k, w, rfl, h1, h2, _⟩ := isF_out h
  intro x hx
  simp only [fD, k3, List.mem_cons, List.mem_nil_iff, or_false] at hx
  rcases hx with rfl | rfl | rfl
  · exact nameD_ok h1
  · exact (deeds_ok _ h2).1
  · trivial
theorem isF_first {d : D} (h : isF d = true) : ∃ xs, d = .tup xs ∧ cutD xs none (some 3) = (k3 d).map kD := by
  obtain ⟨n, dd, k, w, rfl, _⟩ := isF_out h
  exact ⟨_, rfl, rfl⟩
theorem goF_all : ∀ (xs : List D) (ahead : List (List Key)), goF ahead xs = .told → ∀ x ∈ xs, isF x = true
  | [], _, _ => fun _ z => nomatch z
  | x :: r, ahead, h => by
    unfold goF at h
    by_cases hF : isF x = true
    · rw [if_pos hF] at h
      by_cases hK : hasK (k3 x) ahead = true
      · rw [if_pos hK] at h; cases h
      · rw [if_neg hK] at h
        intro y hy
        rcases List.mem_cons.mp hy with rfl | hy
        · exact hF
        · exact goF_all r _ h y hy
    · rw [if_neg hF] at h; cases h
theorem told_back {xs : List D} (h : ∀ x ∈ xs, isF x = true) : toldF (xs.map kvF) [] false = xs := by
  unfold toldF
  rw [show (fun kv : List Key × D => !false || comes [] kv) = fun _ => true from by funext _; rfl, List.filter_eq_self.mpr (fun _ _ => rfl), List.map_map]
  refine Eq.trans (List.map_congr_left fun x hx => ?_) (List.map_id xs)
  obtain ⟨n, dd, k, w, rfl, _⟩ := isF_out (h x hx)
  rfl
theorem kvF_ok {xs : List D} (h : ∀ x ∈ xs, isF x = true) : KvOk (xs.map kvF) := fun kv hkv => by
  obtain ⟨x, hx, rfl⟩ := List.mem_map.mp hkv
  obtain ⟨n, dd, k, w, rfl, _⟩ := isF_out (h x hx)
  exact ⟨n, dd, k, w, rfl⟩
end DL

set_option Elab.async false
set_option linter.all false
set_option maxRecDepth 100000
set_option maxHeartbeats 2000000
namespace DL
open PySem PySem.Spec PyProof.Rows L2
/-! ## a dict of the module: texts by texts -/
def mdRow (e : DictEntry) : Option (Str × Int × Str) := match e.key, e.val with
  | .str x _, .str y _ => some (x, e.hash, y)
  | _, _ => none
def mdOf (P : Params) (kvs : List (Str × Str)) : List (Option (Str × Int × Str)) := kvs.map fun p => some (p.1, PyData.keyHash P p.1, p.2)
def mdW (K : PySem.W.Frag) (a : Addr) : Option (List (Option (Str × Int × Str))) := match K.lookup a with
  | some o => (match o.cls, o.dict, o.data, o.slots.isEmpty && !(a == sysModules) with
    | .type "dict", none, .dict es _, true => some (es.toList.map mdRow)
    | _, _, _, _ => none)
  | none => none
def getMd (kvs : List (Str × Str)) (z : Str) : Option Str := (kvs.find? fun p => decide (p.1 = z)).map (·.2)
structure MDict (K : PySem.W.Frag) (w : World) (a : Addr) (kvs : List (Str × Str)) : Prop where
  kd : ∃ es n, KDict K w a es n
  has : ∀ z y, getMd kvs z = some y → ∃ t, PySem.W.nsIn K a z = some (some (.str y t))
  no : ∀ z, getMd kvs z = none → PySem.W.nsIn K a z = some none
theorem md_lit {P : Params} : ∀ {l : List DictEntry} {kvs : List (Str × Str)}, l.map mdRow = mdOf P kvs → PySem.W.KeysLit P l
  | [], _, _ => trivial
  | e :: r, [], h => by cases h
  | e :: r, (k, y) :: kvs, h => by
    obtain ⟨h1, h2⟩ := List.cons.inj (show mdRow e :: r.map mdRow = some (k, PyData.keyHash P k, y) :: mdOf P kvs from h)
    refine ⟨?_, md_lit h2⟩
    unfold mdRow at h1
    split at h1
    · rename_i x t y' t' e1 e2
      have h3 := Option.some.inj h1
      simp only [Prod.mk.injEq] at h3
      exact ⟨x, t, e1, by rw [h3.1, h3.2.1]⟩
    · cases h1
theorem md_find {P : Params} (z : Str) : ∀ {l : List DictEntry} {kvs : List (Str × Str)}, l.map mdRow = mdOf P kvs → (getMd kvs z = none ∧ l.find? (·.key.isStr z) = none ∧ l.any (·.refKey) = false) ∨ ∃ y t e, getMd kvs z = some y ∧ l.find? (·.key.isStr z) = some e ∧ e.val = .str y t
  | [], [], _ => .inl ⟨rfl, rfl, rfl⟩
  | [], _ :: _, h => by cases h
  | e :: r, [], h => by cases h
  | e :: r, (k, y) :: kvs, h => by
    obtain ⟨h1, h2⟩ := List.cons.inj (show mdRow e :: r.map mdRow = some (k, PyData.keyHash P k, y) :: mdOf P kvs from h)
    unfold mdRow at h1
    split at h1
    · rename_i x t y' t' e1 e2
      have h3 := Option.some.inj h1
      simp only [Prod.mk.injEq] at h3
      obtain ⟨rfl, _, rfl⟩ := h3
      have ek : e.key.isStr z = decide (x = z) := by
        rw [e1]
        show (x == z) = decide (x = z)
        exact Bool.beq_eq_decide_eq x z
      unfold getMd
      rw [List.find?_cons, List.find?_cons, ek]
      dsimp only
      by_cases hx : x = z
      · rw [decide_eq_true hx]
        exact .inr ⟨y', t', e, rfl, rfl, e2⟩
      · rw [decide_eq_false hx]
        rcases md_find z h2 with ⟨a, b, c⟩ | ⟨a, b, c, d⟩
        · refine .inl ⟨a, b, ?_⟩
          rw [List.any_cons, c, Bool.or_false]
          unfold DictEntry.refKey
          rw [e1]
        · exact .inr ⟨a, b, c, d⟩
    · cases h1
theorem md_ok {K : PySem.W.Frag} {w : World} {a : Addr} {kvs : List (Str × Str)} (h : mdW K a = some (mdOf w.params kvs)) : MDict K w a kvs := by
  unfold mdW at h
  cases q : K.lookup a with
  | none => rw [q] at h; cases h
  | some o =>
    rw [q] at h
    dsimp only at h
    split at h
    · rename_i es n e1 e2 e3 e4
      have h := Option.some.inj h
      obtain ⟨oc, od, dt, osl⟩ := o
      cases e1; cases e2; cases e3
      simp only [Bool.and_eq_true] at e4
      have e5 : osl = #[] := Array.isEmpty_iff.mp e4.1
      subst e5
      have low : (a == sysModules) = false := by simpa using e4.2
      refine ⟨⟨es, n, q, md_lit h, low⟩, fun z y hz => ?_, fun z hz => ?_⟩
      · rcases md_find z h with ⟨g, _⟩ | ⟨y', t, e, g, f, v⟩
        · rw [g] at hz; cases hz
        · rw [g] at hz
          cases hz
          refine ⟨t, ?_⟩
          unfold PySem.W.nsIn
          rw [q]
          dsimp only
          rw [f]
          dsimp only
          rw [v]
      · rcases md_find z h with ⟨g, f, c⟩ | ⟨y', t, e, g, f, v⟩
        · unfold PySem.W.nsIn
          rw [q]
          dsimp only
          rw [f]
          dsimp only
          rw [if_neg (by rw [c]; exact Bool.false_ne_true)]
        · rw [g] at hz; cases hz
    · cases h
def dMd (te : DTE) (r : Str → Mp → DK → Prop) : DTE := fun δ M Q E => te δ M (fun x M1 => match x with | .str z => r z M1 Q | _ => False) E
def inMd (g : Bool → Bool) (kvs : List (Str × Str)) : Str → Mp → DK → Prop := fun z M Q => Q (.bl (g (getMd kvs z).isSome)) M
def ixMd (kvs : List (Str × Str)) : Str → Mp → DK → Prop := fun z M Q => ∃ y, getMd kvs z = some y ∧ Q (.str y) M
section
variable {X : Cx} {W : WX} {pos p apos : Pos} {a e o : Expr} {ta te to : DTE} {x : Str} {kvs : List (Str × Str)}
theorem d_inMd (hm : ∃ q, X.mg x = some (.ref q) ∧ MDict X.K X.w q kvs) (ha : DE X W a ta) (hg : Gl X x := by rfl) (hd : (x == ("__debug__" : Str)) = false := by decide) (hb : behindInMarks .In (.Name x p) = false := by rfl) : DE X W (.Compare a [.In] [.Name x p] pos) (dMd ta (inMd id kvs)) := by
  obtain ⟨q, hq, md⟩ := hm
  obtain ⟨es, n, kd⟩ := md.kd
  refine pe_imp (pe_cmpR (op_in_kd kd) ha (pe_glob (v := .ref q) hg hq rfl hd) hb) fun σ H Q h => ?_
  obtain ⟨I, M, F, δ, Qd, Ed, hr, rs, q0, fq, fx⟩ := h
  refine ⟨I, M, F, δ, _, Ed, hr, rs, q0, fun d M1 I1 H1 v q1 s1 hr1 r1 => ?_, fx⟩
  cases r1 with
  | str z =>
    have fin := fq _ M1 I1 H1 (.bl (getMd kvs z).isSome) q1 s1 hr1 (.bl _)
    cases e : getMd kvs z with
    | none => rw [e] at fin; exact ⟨z, none, rfl, rfl, md.no z e, fin⟩
    | some y =>
      rw [e] at fin
      obtain ⟨t, h⟩ := md.has z y e
      exact ⟨z, some _, rfl, rfl, h, fin⟩
  | _ => exact q1.elim
theorem d_ninMd (hm : ∃ q, X.mg x = some (.ref q) ∧ MDict X.K X.w q kvs) (ha : DE X W a ta) (hg : Gl X x := by rfl) (hd : (x == ("__debug__" : Str)) = false := by decide) (hb : behindInMarks .NotIn (.Name x p) = false := by rfl) : DE X W (.Compare a [.NotIn] [.Name x p] pos) (dMd ta (inMd not kvs)) := by
  obtain ⟨q, hq, md⟩ := hm
  obtain ⟨es, n, kd⟩ := md.kd
  refine pe_imp (pe_cmpR (op_notIn_kd kd) ha (pe_glob (v := .ref q) hg hq rfl hd) hb) fun σ H Q h => ?_
  obtain ⟨I, M, F, δ, Qd, Ed, hr, rs, q0, fq, fx⟩ := h
  refine ⟨I, M, F, δ, _, Ed, hr, rs, q0, fun d M1 I1 H1 v q1 s1 hr1 r1 => ?_, fx⟩
  cases r1 with
  | str z =>
    have fin := fq _ M1 I1 H1 (.bl (!(getMd kvs z).isSome)) q1 s1 hr1 (.bl _)
    cases e : getMd kvs z with
    | none => rw [e] at fin; exact ⟨z, none, rfl, rfl, md.no z e, fin⟩
    | some y =>
      rw [e] at fin
      obtain ⟨t, h⟩ := md.has z y e
      exact ⟨z, some _, rfl, rfl, h, fin⟩
  | _ => exact q1.elim
theorem d_ixMd (hm : ∃ q, X.mg x = some (.ref q) ∧ MDict X.K X.w q kvs) (ha : DE X W a ta) (hg : Gl X x := by rfl) (hd : (x == ("__debug__" : Str)) = false := by decide) (hs : PlainIx a := by intro _ _; rfl) : DE X W (.Subscript (.Name x p) a pos) (dMd ta (ixMd kvs)) := by
  obtain ⟨q, hq, md⟩ := hm
  obtain ⟨es, n, kd⟩ := md.kd
  refine pe_imp (pe_ix ix_kdict (pe_glob (v := .ref q) hg hq rfl hd) ha hs) fun σ H Q h => ?_
  obtain ⟨I, M, F, δ, Qd, Ed, hr, rs, q0, fq, fx⟩ := h
  refine ⟨I, M, F, δ, _, Ed, hr, rs, q0, fun d M1 I1 H1 v q1 s1 hr1 r1 => ?_, fx⟩
  cases r1 with
  | str z =>
    obtain ⟨y, e, q1⟩ := q1
    obtain ⟨t, h⟩ := md.has z y e
    exact ⟨q, z, .str y, rfl, rfl, ⟨es, n, _, kd.at_, kd.lit, h, ⟨t, rfl⟩⟩, fq _ M1 I1 H1 _ q1 s1 hr1 (.str _)⟩
  | _ => exact q1.elim
/-! ## xs.count(x), of data -/
theorem mt_count {k : Nat} (rm : Room k X.A) : MtR X "list.count" (fun x xs H Q => ∃ (l : Addr) (y : V) (d : PyData) (ds : List PyData), x = V.ref l ∧ xs = [y] ∧ Dp X.K H (.ref l) (.list ds) ∧ Dp X.K H y d ∧ PyData.plainAll ds = true ∧ d.plain = true ∧ PyData.depthAll ds ≤ 60 ∧ Q (.int (ds.countP fun z => PyData.eqv z d : Nat)) H) := by
  intro pins s σ H x xs v us Q J rx rv h
  obtain ⟨l, y, d, ds, rfl, rfl, hl, hy, pl, pd, dp, q⟩ := h
  cases rx
  obtain ⟨u, rfl, ru⟩ := vals1 rv
  obtain ⟨bs, r2⟩ := Dp.reads J d y u hy ru
  obtain ⟨as, r1⟩ := Dp.reads J (.list ds) (.ref l) (.ref l) hl rfl
  cases r1 with
  | list e1 e2 e3 ra =>
    rename_i o vs n as'
    have rm := rm.un
    refine SeqAt.count_list_data ⟨o, e1, e2, n, e3⟩ ra r2 pl pd (Nat.lt_of_le_of_lt (Nat.add_le_add_left (Nat.min_le_left _ _) _) (by omega)) ⟨.int _, H, J.tok _, ⟨_, rfl⟩, q⟩
def dCount : DR2 := fun x y M Q => ∃ p ps, PyOf M x (.list ps) ∧ PyOf M y p ∧ PyData.plainAll ps = true ∧ p.plain = true ∧ PyData.depthAll ps ≤ 60 ∧ Q (.int (ps.countP fun z => PyData.eqv z p : Nat)) M
def dCountE (to ta : DTE) : DTE := fun δ M Q E => to δ M (fun x M1 => asX M1 x (fun _ => True) ∧ ta δ M1 (fun y M2 => dCount x y M2 Q) E) E
theorem d_count {k : Nat} (rm : Room k X.A) (ho : DE X W o to) (ha : DE X W e te) (hs : starEach [e] X.env = (false, eval e X.env) :: starEach [] X.env := by rfl) (hplain : (backTo pos (starEach [] X.env)).any (·.1) = false := by rfl)
    (hbase : attributeBase o "count" X.env (eval o X.env) = eval o X.env := by rfl) (hline : (apos.endLine == pos.line) = true := by rfl)
    (hfew : ((backTo pos (starEach [e] X.env)).all (fun x => !x.1) && (backToKw pos (keywordEach [] X.env)).all (fun x => x.1.isSome) && decide ([e].length + ([] : List Keyword).length + (if ([] : List Keyword).isEmpty then 0 else 1) < 30)) = true := by rfl) :
    DE X W (.Call (.Attribute o "count" apos) [e] [] pos) (dCountE to te) := by
  refine pe_imp (pe_bm PySem.F.plainAttrs_list PySem.F.slot_list_count PySem.F.type_list_count (mt_count rm) ho (pa_cons ha pa_nil hs) hbase hfew hline hs hplain) fun σ H Q h => ?_
  obtain ⟨I, M, F, δ, Qd, Ed, hr, rs, q, fq, fx⟩ := h
  refine ⟨I, M, F, δ, _, Ed, hr, rs, q, fun d M1 I1 H1 v q1 s1 hr1 r1 => ?_, fx⟩
  obtain ⟨h1, q1⟩ := q1
  obtain ⟨l, vs, ds, rfl, hl, rr, _⟩ := asX_out hr1 r1 h1
  refine ⟨.inl ⟨rfl, vs, SqL.of hl⟩, I1, M1, F, δ, _, Ed, hr1, rs.mono s1, q1, fun y M2 I2 H2 u q2 s2 hr2 r2 => ?_, fx.mono s1⟩
  obtain ⟨p, ps, p1, p2, pl, pd, dp, q⟩ := q2
  exact ⟨l, u, p, ps, rfl, rfl, dp_of hr2 _ (r1.mono s2) p1, dp_of hr2 _ r2 p2, pl, pd, dp, fq _ M2 I2 H2 _ q (s1.trans s2) hr2 (.int _)⟩
end
end DL

set_option Elab.async false
set_option linter.all false
set_option maxRecDepth 100000
set_option maxHeartbeats 2000000
namespace DL
open PySem PySem.Spec PyProof.Rows L2
/-! ## {k: v for target in ..} -/
def dDcL (t : TgI) (tk tv : DTE) (src : Src) (vs : List Nat) (δ : DS) (k : List (Key × D) → Mp → Prop) : List D → List (Key × D) → Mp → Prop
  | [], acc, M => src.ok M (k acc M)
  | x :: r, acc, M => src.ok M (t.d x (dwipe δ vs) fun δ2 => tk δ2 M (fun y M3 => tv δ2 M3 (fun z M4 => ∃ kk, keyD y = some kk ∧ dDcL t tk tv src vs δ k r (putD acc kk z) M4) E0d) E0d)
def dDc (di : DTI) (t : TgI) (tk tv : DTE) (vs : List Nat) : DTE := fun δ M Q E => di δ M (fun xs src M1 => xs.length < sizeLine ∧ dDcL t tk tv src vs δ (fun acc M2 => ∀ p, M2 p = none → Q (.ref p) (updM M2 p (.dct acc))) xs [] M1) E
section
variable {X : Cx} {W : WX} {kx vx tg iter : Expr} {scope : Scope} {own : List (Str × Nat)} {pos : Pos} {di : DTI} {t : TgI} {tk tv : DTE}
theorem d_dc (N : List Str) (sc : Scope) (own : List (Str × Nat)) (g : Good X W) (hN : X.N.Nodup) (hi : DI X W tg iter di) (ok : blkC N sc scope own = true) (hin : t.in (own.map (·.2)) = true)
    (hg : ∀ (s : Shared) (H : Hp) (C : Addr) (cl : List (Str × Addr)) (fp : List Addr), Good (X.blk s H scope (compEnvC scope cl C X.env) fp) W0 → PG (X.blk s H scope (compEnvC scope cl C X.env) fp) tg (t.v X.K))
    (hk : ∀ (s : Shared) (H : Hp) (C : Addr) (cl : List (Str × Addr)) (fp : List Addr), Good (X.blk s H scope (compEnvC scope cl C X.env) fp) W0 → DE (X.blk s H scope (compEnvC scope cl C X.env) fp) W0 kx tk)
    (hv : ∀ (s : Shared) (H : Hp) (C : Addr) (cl : List (Str × Addr)) (fp : List Addr), Good (X.blk s H scope (compEnvC scope cl C X.env) fp) W0 → DE (X.blk s H scope (compEnvC scope cl C X.env) fp) W0 vx tv) (hs : ∀ x, foldedSetIterable iter X.env x = pure x := by intro _; rfl) (eN : X.N = N := by rfl) (es : X.env.scope = sc := by rfl) :
    DE X W (.DictComp kx vx [⟨tg, iter, [], 0⟩] scope pos) (dDc di t tk tv (own.map (·.2))) := by
  refine pe_imp (pe_dc (own := own) (g := t.v X.K) (tt := lT X.K W0 dYes) (tk := lE X.K W0 tk) (tv := lE X.K W0 tv) g.calm hN hi (by rw [eN, es]; exact blkOk_by ok) (fun s H C cl fp => hg s H C cl fp (good_blk g ..)) (fun s H C cl fp => ts_nil) (fun s H C cl fp => hk s H C cl fp (good_blk g ..)) (fun s H C cl fp => hv s H C cl fp (good_blk g ..)) hs) fun σ H Q h => ?_
  obtain ⟨I, M, F, δ, Qd, Ed, hr, rs, q, fq, fx⟩ := h
  refine ⟨I, M, F, δ, _, Ed, hr, rs, q, fun xs src M1 I1 H1 J q1 ho s1 hr1 wk P hP => ?_, fx⟩
  obtain ⟨hl, q1⟩ := q1
  have hF := (hr1.fresh hP).2.2
  refine ⟨fun i m H => m = xs.length - i ∧ i ≤ xs.length ∧ ∃ I' M' aV acc, Same I1 I' ∧ HR X.K I' M' (upd F P (.dK aV)) H ∧ RepK X.K I' aV acc ∧ acc.length ≤ i ∧ dDcL t tk tv src (own.map (·.2)) δ (fun acc M2 => ∀ p, M2 p = none → Qd (.ref p) (updM M2 p (.dct acc))) (xs.drop i) acc M',
    ⟨xs.length, by simp, Nat.zero_le _, I1, M1, [], [], Same.refl I1, hr1.newF hP _, .nil, Nat.le_refl _, q1⟩, ?_⟩
  rintro i m H ⟨rfl, hi, I', M', aV, acc, s', hr', ra, la, q'⟩
  by_cases hlt : i < xs.length
  · right
    rw [List.drop_eq_getElem_cons hlt] at q'
    obtain ⟨ho, q'⟩ := Src.ok_iff q'
    refine ⟨wk.goes i I' M' _ H hlt s' hr' ho, fun H2 => ∃ I2 M2 bV b, Same I1 I2 ∧ HR X.K I2 M2 (upd F P (.dK bV)) H2 ∧ RepK X.K I2 bV b ∧ b.length ≤ i + 1 ∧ dDcL t tk tv src (own.map (·.2)) δ (fun acc M2 => ∀ p, M2 p = none → Qd (.ref p) (updM M2 p (.dct acc))) (xs.drop (i + 1)) b M2, fun H2 z => ⟨xs.length - (i + 1), by omega, rfl, hlt, z⟩, fun x H2 y => ?_⟩
    obtain ⟨I2, d, s2, hr2, e, r⟩ := wk.yields i x I' M' _ H H2 hlt s' hr' ho y
    rw [List.getElem?_eq_getElem hlt] at e
    cases e
    have s12 := s'.trans s2
    refine TgI.run hin hr2 r ((rs.mono s1).mono s12) q' fun σ2 δ2 rs2 ew q2 => ⟨ew, I2, M', upd F P (.dK aV), δ2, (fun b M3 => b = true ∧ M3 = M'), _, hr2, rs2, ⟨rfl, rfl⟩, fun b M3 I3 H3 q3 s3 hr3 => ?_, fun _ _ _ _ _ _ z => False.elim z⟩
    obtain ⟨rfl, rfl⟩ := q3
    refine (if_pos rfl).mpr ⟨I3, M3, upd F P (.dK aV), δ2, _, _, hr3, rs2.mono s3, q2, fun y4 M4 I4 H4 v4 q4 s4 hr4 r4 => ?_, fun _ _ _ _ _ _ z => False.elim z⟩
    refine ⟨I4, M4, upd F P (.dK aV), δ2, _, _, hr4, (rs2.mono s3).mono s4, q4, fun z5 M5 I5 H5 v5 q5 s5 hr5 r5 => ?_, fun _ _ _ _ _ _ z => False.elim z⟩
    obtain ⟨kk, ek, q5⟩ := q5
    have ra5 := (((ra.mono s2).mono s3).mono s4).mono s5
    cases keyD_out (r4.mono s5) ek
    refine ⟨aV, kk, rfl, hr5.atF.1, by rw [ra5.len]; omega, I5, M5, putK aV kk v5, putD acc kk z5, ((s12.trans s3).trans s4).trans s5, hr5.reF (fun _ z => nomatch z) _, ra5.put r5, ?_, q5⟩
    have l1 := length_putK aV kk v5
    have l2 := (ra5.put (k := kk) r5).len
    rw [← l2]
    have l3 := ra5.len
    omega
  · left
    have e : i = xs.length := by omega
    subst e
    rw [List.drop_length] at q'
    obtain ⟨ho, q'⟩ := Src.ok_iff q'
    exact ⟨wk.stops I' M' _ H s' hr' ho, fq _ _ _ H _ (q' P hr'.atF.2.2) (s1.trans s') (hr'.mutF hF (m := .dct acc) ⟨aV, rfl, ra⟩) (.ref P)⟩
end
/-! ## d[k] += x -/
def dAugD (to ti tv : DTE) (r : DR2) : DTS := fun Dd δ M => to δ M (fun x M1 => ti δ M1 (fun y M2 => asD M2 x fun kvs => ∃ k v, keyD y = some k ∧ valD kvs k = some v ∧ tv δ M2 (fun z M3 => r v z M3 fun u M4 => ∃ p ws, x = .ref p ∧ M4 p = some (.dct ws) ∧ ws.length < sizeLine ∧ Dd.nx δ (updM M4 p (.dct (putD ws k u)))) (fun c fo M' => Dd.ex c fo δ M')) (fun c fo M' => Dd.ex c fo δ M')) (fun c fo M' => Dd.ex c fo δ M')
section
variable {X : Cx} {W : WX} {o i value : Expr} {to ti tv : DTE} {pos tpos : Pos} {op : Operator} {r : DR2} {r' : R2}
theorem s_augD {k : Nat} (rm : Room k X.A) (ho : DE X W o to) (hi : DE X W i ti) (hv : DE X W value tv) (hop : InOp X op r') (hl : LR X.K r' r)
    (ha : ∀ ov iv new, augStore i ov iv new = (do holding [new, ov, iv] (setItem ov iv new); release [new, ov, iv] []; pure .next) := by intros; rfl) : DSt X W (.AugAssign (.Subscript o i tpos) op value pos) (dAugD to ti tv r) := by
  refine ps_imp (ps_daug (by have := rm.un; omega) ho hi hv hop ha) fun Dn σ H h => ?_
  obtain ⟨I, M, F, δ, Dd, hr, rs, q, f⟩ := h
  refine ⟨I, M, F, δ, _, _, hr, rs, q, fun x M1 I1 H1 vx q1 s1 hr1 r1 => ?_, f.x rs⟩
  refine ⟨I1, M1, F, δ, _, _, hr1, rs.mono s1, q1, fun y M2 I2 H2 vy q2 s2 hr2 r2 => ?_, (f.mono s1).x (rs.mono s1)⟩
  obtain ⟨p, vs, kvs, rfl, rd, rr, kk, u, e1, e2, q3⟩ := asD_out hr2 (r1.mono s2) q2
  cases keyD_out r2 e1
  rcases rr.val kk with ⟨z, _⟩ | ⟨v, d, z1, z2, z3⟩
  · rw [z] at e2; cases e2
  rw [z1] at e2
  cases e2
  have s12 := s1.trans s2
  refine ⟨p, v, rfl, .inl ⟨vs, kk, rd, rfl, z2.symm⟩, I2, M2, F, δ, _, _, hr2, rs.mono s12, q3, fun z M3 I3 H3 vz q4 s3 hr3 r3 => ?_, (f.mono s12).x (rs.mono s12)⟩
  have s123 := s12.trans s3
  refine hl I3 M3 F H3 v vz u z _ _ hr3 (z3.mono s3) r3 q4 fun w M4 I4 H4 vw q5 s4 hr4 r4 => ?_
  obtain ⟨p', ws, e5, e6, hz, q6⟩ := q5
  subst e5
  cases r1
  obtain ⟨us, e7, rr7⟩ := hr4.dct e6
  exact ⟨_, .inl ⟨us, kk, e7, rfl, by rw [rr7.len]; exact hz, rfl⟩, f.nx _ _ I4 _ _ q6 (s123.trans s4) (hr4.write e6 (fun _ _ z => nomatch z) (o := .dK (putK us kk vw)) (m := .dct (putD ws kk w)) ⟨_, rfl, rr7.put r4⟩) (rs.mono (s123.trans s4))⟩
end
end DL

set_option Elab.async false
set_option linter.all false
set_option maxRecDepth 100000
set_option maxHeartbeats 2000000
namespace DL
open PySem PySem.Spec PyProof.Rows L2
/-! ## list(d.values()) -/
theorem kv_back {kvs : List (Key × V)} {vs : List (Key × Value)} (h : KV kvs vs) : ∀ {j : Nat} {k : Key} {u : Value}, vs[j]? = some (k, u) → ∃ x, kvs[j]? = some (k, x) ∧ RelV x u := by
  unfold KV at h
  induction h with
  | nil => intro j k u e; simp at e
  | cons a b ih =>
    intro j k u e
    cases j with
    | zero =>
      have e2 := Option.some.inj (show some _ = some (k, u) from e)
      subst e2
      exact ⟨_, congrArg some (Prod.ext a.1 rfl), a.2⟩
    | succ j => exact ih (j := j) (by simpa using e)
def tListV (td : TE) : TE := fun σ H Q => td σ H fun x H1 => ∃ a kvs, x = V.ref a ∧ H1 a = some (.dK kvs) ∧ ∀ l, H1 l = none → Q (.ref l) (upd H1 l (.lst (kvs.map (·.2))))
section
variable {X : Cx} {W : WX} {o : Expr} {p pos apos mpos : Pos} {td : TE} {to : DTE}
theorem pe_listV (cm : X.calm = true) (ho : PE X o td) (gl : Gl X "list") (nm : X.mg "list" = none) (hbt : bootBuiltins "list" = some (.type "list")) (hba : attributeBase o "values" X.env (eval o X.env) = eval o X.env := by rfl) (hli : (apos.endLine == mpos.line) = true := by rfl)
    (hst : starEach [Expr.Call (.Attribute o "values" apos) [] [] mpos] X.env = (false, eval (Expr.Call (.Attribute o "values" apos) [] [] mpos) X.env) :: starEach [] X.env := by rfl) :
    PE X (.Call (.Name "list" p) [.Call (.Attribute o "values" apos) [] [] mpos] [] pos) (tListV td) := by
  refine ⟨fun pins s σ H Q J hq => wpAny_Call_Name_kw (ld_blt J gl nm hbt (PyProof.Rows.callWith_type1 ?_ hst rfl))⟩
  rw [hst]
  show wpAny _ _ (spliced ((false, eval (Expr.Call (.Attribute o "values" apos) [] [] mpos) X.env) :: backTo pos (starEach [] X.env))) _ _ s
  refine Calls.spliced_cons (wpAny_Call_method (T := "dict") (id := "dict.values") hba rfl hli F.plainAttrs_dict F.slot_dict_values F.type_dict_values (thn (ho.run pins s σ H _ J hq) fun u s1 ⟨x, H1, J1, rx, a, kvs, ex, ha, q⟩ => ?_))
  subst ex
  cases rx
  obtain ⟨hz, low, vs, kv, dof⟩ := J1.hok a _ ha
  obtain ⟨ep, dat⟩ := dof.dictAt
  have ln : kvs.length = vs.length := Paired.length kv
  have J2 : L2.Inv X pins σ H1 { s1 with heap := s1.heap.push { cls := .type "dict_values", data := .fields #[.ref a] } } := J1.kept (t' := s1.toks) fun c ob e => Heap.get?_push_of_some _ e
  refine ⟨dof.typeIs, dof.mapOf.noDict, ?_⟩
  show wpAny _ _ (callWith mpos (.builtin "dict.values") [.ref a] [] []) _ X.xe s1
  refine method_meetsIn F.slot_dict_values F.entry_dict_values rfl (PySem.evalArgs_none ⟨rfl, dof.typeIs, F.args_dict_values_1 _, _, meets_dict_values (mixKind X.prog X.w) a low, ⟨vs, dof⟩, Calls.spliced_nil ?_⟩)
  refine PySem.W.kdl_call (PySem.W.kdl_values (knd := mixKind X.prog X.w) (kvs := vs) (ep := ep) (d := a)) (J1.ok.hd cm) ⟨⟨_, Heap.get?_push_size _ rfl, rfl, rfl⟩, dat.push _⟩ (by omega) fun h' tk acc c hk hS hacc => ?_
  obtain ⟨e1, e2⟩ := hacc
  have va : Vals (kvs.map (·.2)) acc.toList := vals_of_idx _ _ (by rw [Array.length_toList, List.length_map, e1, ln]) fun j u e => by
    obtain ⟨k, hk2⟩ := e2 j u (by rw [← Array.getElem?_toList]; exact e)
    obtain ⟨x, f1, f2⟩ := kv_back kv hk2
    exact ⟨x, by rw [List.getElem?_map, f1]; rfl, f2⟩
  have new := J2.hok.fresh (a := (s1.heap.push { cls := .type "dict_values", data := .fields #[.ref a] }).objs.size) (Nat.le_refl _)
  refine ⟨.ref _, _, J2.laid (t' := tk) hk (Nat.le_refl _) ?_, rfl, q _ new⟩
  refine ⟨by rw [List.length_map]; exact hz, acc.toList, c, va, ?_⟩
  rw [Array.toArray_toList]
  exact hS
def dListV (to : DTE) : DTE := fun δ M Q E => to δ M (fun x M1 => ∃ a kvs, x = .ref a ∧ M1 a = some (.dct kvs) ∧ Q (.lst (kvs.map (·.2))) M1) E
theorem reps_snd {K : PySem.W.Frag} {I : Hp} : ∀ {vs : List (Key × V)} {ds : List (Key × D)}, RepK K I vs ds → Reps K I (vs.map (·.2)) (ds.map (·.2))
  | _, _, .nil => .nil
  | _, _, .cons r t => .cons r (reps_snd t)
theorem d_listV (g : Good X W) (nm : X.mg "list" = none) (ho : DE X W o to) (gl : Gl X "list" := by rfl) (hba : attributeBase o "values" X.env (eval o X.env) = eval o X.env := by rfl) (hli : (apos.endLine == mpos.line) = true := by rfl)
    (hst : starEach [Expr.Call (.Attribute o "values" apos) [] [] mpos] X.env = (false, eval (Expr.Call (.Attribute o "values" apos) [] [] mpos) X.env) :: starEach [] X.env := by rfl) :
    DE X W (.Call (.Name "list" p) [.Call (.Attribute o "values" apos) [] [] mpos] [] pos) (dListV to) := by
  refine pe_imp (pe_listV g.calm ho gl nm (by decide +kernel) hba hli hst) fun σ H Q h => ?_
  obtain ⟨I, M, F, δ, Qd, Ed, hr, rs, q, fq, fx⟩ := h
  refine ⟨I, M, F, δ, _, Ed, hr, rs, q, fun x M1 I1 H1 v q1 s1 hr1 r1 => ?_, fx⟩
  obtain ⟨a, kvs, rfl, e, q1⟩ := q1
  cases r1
  obtain ⟨vs, e1, rr⟩ := hr1.dct e
  exact ⟨a, vs, rfl, e1, fun l hl => fin_lst (fq.mono s1) hr1 (reps_snd rr) q1 l hl⟩
/-! ## any(xs) of whole numbers -/
theorem truth_ints {prog : Program} {w : World} {A : Around} {ns : List Int} {its : List Value} (r : Vals (ns.map V.int) its) : TruthOf prog w A (fun i v => its.toArray[i]? = some v) (fun i => decide (ns.getD i 0 ≠ 0)) := fun i v s Q E hv hq => by
  have hv : its[i]? = some v := by simpa using hv
  have hl := r.length
  have hi : i < (ns.map V.int).length := by
    have := (List.getElem?_eq_some_iff.mp hv).1
    omega
  obtain ⟨u, h1, h2⟩ := r.get (List.getElem?_eq_getElem hi)
  rw [hv] at h1
  cases h1
  rw [List.getElem_map] at h2
  obtain ⟨t, rfl⟩ := (show ∃ t, v = Value.int _ t from h2)
  have hn : ns.getD i 0 = ns[i]'(by simpa using hi) := by
    rw [List.getD_eq_getElem?_getD, List.getElem?_eq_getElem (by simpa using hi)]
    rfl
  have hq : Q (decide (ns.getD i 0 ≠ 0)) s := hq
  rw [hn] at hq
  refine truthy_int ?_
  have e : (ns[i]'(by simpa using hi) != 0) = decide (ns[i]'(by simpa using hi) ≠ 0) := by
    by_cases z : ns[i]'(by simpa using hi) = 0
    · simp [z]
    · simp [z]
  rw [e]
  exact hq
theorem any_ints : ∀ ns : List Int, (List.range ns.length).any (fun i => decide (ns.getD i 0 ≠ 0)) = ns.any fun i => decide (i ≠ 0)
  | [] => rfl
  | n :: ns => by
    rw [List.length_cons, List.range_succ_eq_map, List.any_cons, List.any_map, List.any_cons]
    exact congrArg (_ || ·) (any_ints ns)
def rAnyI (K : PySem.W.Frag) : List V → Hp → VK → Prop := fun vs H Q => ∃ (a : Addr) (ns : List Int), vs = [V.ref a] ∧ SqL K H a (ns.map V.int) ∧ Q (.bl (ns.any fun i => decide (i ≠ 0))) H
theorem cr_anyI (cm : X.calm = true) : CallR X (.builtin "any") (rAnyI X.K) := by
  intro pins s σ H vs us Q J r h
  obtain ⟨a, ns, rfl, hs, q⟩ := h
  obtain ⟨its, rv, pl, _⟩ := J.list hs
  rw [Vals.ref1 r]
  refine call_any_walk (iter_any pl.isList fun s2 e2 st ne => ?_)
  subst e2
  refine ⟨_, _, _, _, _, _, _, rfl, Walks.list (A := X.A.in1) (J.ok.hd cm) _ a ne its.toArray, st, truth_ints rv, fun h' tk hk => ?_⟩
  refine ⟨.bl _, H, J.kept fun c o eo => hk c o (fun hm => ?_) (Heap.get?_push_of_some _ eo), ?_, q⟩
  · simp only [List.mem_cons, List.mem_nil_iff, or_false] at hm
    exact absurd (hm ▸ Heap.lt_size eo) (Nat.lt_irrefl _)
  · have hl := rv.length
    rw [List.length_map] at hl
    show Value.bool _ = Value.bool _
    rw [← any_ints, List.size_toArray, hl]
def dAnyI : DRC := fun ds M Q => one ds fun d => asR M d fun xs => ∃ ns : List Int, xs = ns.map D.int ∧ Q (.bl (ns.any fun i => decide (i ≠ 0))) M
theorem lc_anyI {K : PySem.W.Frag} : LC K (rAnyI K) dAnyI := fun I M F H vs ds Qd Q hr rs q fq => by
  obtain ⟨v, d, rfl, r, q⟩ := one_out rs q
  obtain ⟨a, ws, es, rfl, s, rr, ns, rfl, q⟩ := asR_out hr r q
  cases reps_ints rr
  exact ⟨a, ns, rfl, s, fq _ M I H _ q (Same.refl I) hr (.bl _)⟩
theorem d_anyI {e : Expr} {tr : DTA} (g : Good X W) (hm : X.mg "any" = none) (ha : DA X W [e] tr) (he : starEach [e] X.env = (false, eval e X.env) :: starEach [] X.env := by rfl) (hg : Gl X "any" := by rfl) : DE X W (.Call (.Name "any" p) [e] [] pos) (dCB dAnyI tr) :=
  d_callB (cr_anyI g.calm) lc_anyI hm (by decide +kernel) ha hg (he := he)
end
/-! ## targets xs[i] in a row -/
theorem mono_subV (i j : Nat) : MonoG (gdSubL (dVar i) (dVar j)) := fun d δ M Q Q' h q => by
  obtain ⟨x, e1, y, e2, q⟩ := q
  refine ⟨x, e1, y, e2, ?_⟩
  cases x with
  | ref a => cases y with
    | int k => obtain ⟨xs, f1, l, f2, q⟩ := q; exact ⟨xs, f1, l, f2, h _ _ q⟩
    | _ => exact False.elim q
  | _ => exact False.elim q
/-! ## whole numbers put on -/
def dIAdd : DR2 := fun x y M Q => match x, y with | .int i, .int j => Q (.int (i + j)) M | _, _ => False
theorem lr_iadd {K : PySem.W.Frag} : LR K rAdd dIAdd := fun I M F H x y dx dy Qd Q hr rx ry q fq => by
  unfold dIAdd at q
  split at q
  · cases rx; cases ry
    exact ⟨_, _, rfl, rfl, fq _ M I H _ q (Same.refl I) hr (.int _)⟩
  · exact False.elim q
end DL

set_option Elab.async false
set_option linter.all false
set_option maxRecDepth 100000
set_option maxHeartbeats 2000000
namespace DL
open PySem PySem.Spec PyProof.Rows L2
/-! ## int(b) of a truth value -/
def boolI (b : Bool) : Int := if b then 1 else 0
section
variable {X : Cx} {W : WX} {e : Expr} {tr : DTA} {pos p : Pos}
theorem call_intB : CallR X (.type "int") (fun xs H Q => ∃ b, xs = [.bl b] ∧ Q (.int (boolI b)) H) := by
  intro pins s σ H xs us Q J r h
  obtain ⟨b, rfl, q⟩ := h
  obtain ⟨u, rfl, ru⟩ := vals1 r
  cases (show u = Value.bool b from ru)
  exact call_int_bool ⟨.int (boolI b), H, J.tok _, ⟨_, rfl⟩, q⟩
def dIntB : DRC := fun ds M Q => one ds fun d => match d with | .bl b => Q (.int (boolI b)) M | _ => False
theorem lc_intB {K : PySem.W.Frag} : LC K (fun xs H Q => ∃ b, xs = [.bl b] ∧ Q (.int (boolI b)) H) dIntB := fun I M F H vs ds Qd Q hr rs q fq => by
  obtain ⟨v, d, rfl, r, q⟩ := one_out rs q
  cases r with
  | bl b => exact ⟨b, rfl, fq _ M I H _ q (Same.refl I) hr (.int _)⟩
  | _ => exact False.elim q
theorem d_intB (hm : X.mg "int" = none) (ha : DA X W [e] tr) (he : starEach [e] X.env = (false, eval e X.env) :: starEach [] X.env := by rfl) (hg : Gl X "int" := by rfl) : DE X W (.Call (.Name "int" p) [e] [] pos) (dCB dIntB tr) :=
  d_callTy call_intB lc_intB hm (by decide +kernel) ha hg (he := he)
end
end DL

set_option Elab.async false
set_option linter.all false
set_option maxRecDepth 100000
set_option maxHeartbeats 2000000
namespace DL
open PySem PySem.Spec PyProof.Rows L2
/-! ## name = {k: v for target in ..} -/
section
variable {X : Cx} {W : WX} {kx vx tg iter : Expr} {scope : Scope} {own : List (Str × Nat)} {pos : Pos} {di : DTI} {t : TgI} {tk tv : DTE}
theorem dc_lift {K : PySem.W.Frag} {src : Src} {vs : List Nat} {δ : DS} {k : List (Key × D) → Mp → Prop} {xs : List D} {J : It} {I1 F H1 : Hp} {M1 : Mp} {σ : L2.St} {Qd : Addr → Hp → Prop}
    (hin : t.in vs = true) (hl : xs.length < sizeLine) (hr1 : HR K I1 M1 F H1) (rs : RepS K I1 σ δ) (wk : DWalk K I1 J xs src) (q1 : dDcL t tk tv src vs δ k xs [] M1)
    (fin : ∀ p I' M' H' aV acc, F p = none → Same I1 I' → HR K I' M' (upd F p (.dK aV)) H' → RepK K I' aV acc → k acc M' → Qd p H') (P : Addr) (hP : H1 P = none) :
    ∃ Wv : Nat → Nat → Hp → Prop, (∃ m, Wv 0 m (upd H1 P (.dK []))) ∧ ∀ i m H, Wv i m H →
      (J.stop i H ∧ Qd P H) ∨ (J.go i H ∧ ∃ Nx : Hp → Prop, (∀ H', Nx H' → ∃ m', m' < m ∧ Wv (i + 1) m' H') ∧ ∀ x H', J.yld i H x H' → t.v K x (wipe σ vs) H' fun σ2 H2 => wipe σ2 vs = wipe σ vs ∧ lT K W0 dYes σ2 H2 fun b H3 =>
        if b = true then lE K W0 tk σ2 H3 fun y H4 => lE K W0 tv σ2 H4 fun z H5 => ∃ kvs k, y = kV k ∧ H5 P = some (.dK kvs) ∧ kvs.length < sizeLine ∧ Nx (upd H5 P (.dK (putK kvs k z))) else Nx H3) := by
  have hF := (hr1.fresh hP).2.2
  refine ⟨fun i m H => m = xs.length - i ∧ i ≤ xs.length ∧ ∃ I' M' aV acc, Same I1 I' ∧ HR K I' M' (upd F P (.dK aV)) H ∧ RepK K I' aV acc ∧ acc.length ≤ i ∧ dDcL t tk tv src vs δ k (xs.drop i) acc M',
    ⟨xs.length, by simp, Nat.zero_le _, I1, M1, [], [], Same.refl I1, hr1.newF hP _, .nil, Nat.le_refl _, q1⟩, ?_⟩
  rintro i m H ⟨rfl, hi, I', M', aV, acc, s', hr', ra, la, q'⟩
  by_cases hlt : i < xs.length
  · right
    rw [List.drop_eq_getElem_cons hlt] at q'
    obtain ⟨ho, q'⟩ := Src.ok_iff q'
    refine ⟨wk.goes i I' M' _ H hlt s' hr' ho, fun H2 => ∃ I2 M2 bV b, Same I1 I2 ∧ HR K I2 M2 (upd F P (.dK bV)) H2 ∧ RepK K I2 bV b ∧ b.length ≤ i + 1 ∧ dDcL t tk tv src vs δ k (xs.drop (i + 1)) b M2, fun H2 z => ⟨xs.length - (i + 1), by omega, rfl, hlt, z⟩, fun x H2 y => ?_⟩
    obtain ⟨I2, d, s2, hr2, e, r⟩ := wk.yields i x I' M' _ H H2 hlt s' hr' ho y
    rw [List.getElem?_eq_getElem hlt] at e
    cases e
    have s12 := s'.trans s2
    refine TgI.run hin hr2 r (rs.mono s12) q' fun σ2 δ2 rs2 ew q2 => ⟨ew, I2, M', upd F P (.dK aV), δ2, (fun b M3 => b = true ∧ M3 = M'), _, hr2, rs2, ⟨rfl, rfl⟩, fun b M3 I3 H3 q3 s3 hr3 => ?_, fun _ _ _ _ _ _ z => False.elim z⟩
    obtain ⟨rfl, rfl⟩ := q3
    refine (if_pos rfl).mpr ⟨I3, M3, upd F P (.dK aV), δ2, _, _, hr3, rs2.mono s3, q2, fun y4 M4 I4 H4 v4 q4 s4 hr4 r4 => ?_, fun _ _ _ _ _ _ z => False.elim z⟩
    refine ⟨I4, M4, upd F P (.dK aV), δ2, _, _, hr4, (rs2.mono s3).mono s4, q4, fun z5 M5 I5 H5 v5 q5 s5 hr5 r5 => ?_, fun _ _ _ _ _ _ z => False.elim z⟩
    obtain ⟨kk, ek, q5⟩ := q5
    have ra5 := (((ra.mono s2).mono s3).mono s4).mono s5
    cases keyD_out (r4.mono s5) ek
    refine ⟨aV, kk, rfl, hr5.atF.1, by rw [ra5.len]; omega, I5, M5, putK aV kk v5, putD acc kk z5, ((s12.trans s3).trans s4).trans s5, hr5.reF (fun _ z => nomatch z) _, ra5.put r5, ?_, q5⟩
    have l1 := length_putK aV kk v5
    have l2 := (ra5.put (k := kk) r5).len
    rw [← l2]
    have l3 := ra5.len
    omega
  · left
    have e : i = xs.length := by omega
    subst e
    rw [List.drop_length] at q'
    obtain ⟨ho, q'⟩ := Src.ok_iff q'
    exact ⟨wk.stops I' M' _ H s' hr' ho, fin P I' M' H aV acc hF s' hr' ra q'⟩
theorem sw_dc {kx vx : Expr} {gs : List Comprehension} {y : Str} {py : Pos} {l : Nat} {env : Env} (fk : env.scope.kind = .function) (ly : env.scope.names.lookup y = some .local) (same : (py.line == pos.line) = true)
    (no : (scope.names.any fun (n, k) => n == y && (k == .local || k == .cell)) = false) : swapsWith (.DictComp kx vx gs scope pos) (some (.Name y py)) l env = pure true := by
  have k1 : env.blockKind = .function := by unfold Env.blockKind; rw [fk]; rfl
  have k2 : env.kindOf y = some .local := ly
  unfold swapsWith
  simp only [k1, k2, no, Expr.pos, same]
  rfl
theorem ps_setDc {i : Nat} {y : Str} {py spos : Pos} {wi : TI} {g : TG} {tk tv : TE} (cm : X.calm = true) (nd : X.N.Nodup) (hy : X.N[i]? = some y) (ly : X.env.scope.names.lookup y = some .local)
    (sw : swapsWith (.DictComp kx vx [⟨tg, iter, [], 0⟩] scope pos) (some (.Name y py)) spos.line X.env = pure true) (hi : PI X tg iter wi) (ok : BlkOk X.N X.env.scope scope own)
    (pg : ∀ (s : Shared) (H : Hp) (C : Addr) (cl : List (Str × Addr)) (fp : List Addr), PG (X.blk s H scope (compEnvC scope cl C X.env) fp) tg g)
    (pk : ∀ (s : Shared) (H : Hp) (C : Addr) (cl : List (Str × Addr)) (fp : List Addr), PE (X.blk s H scope (compEnvC scope cl C X.env) fp) kx tk)
    (pv : ∀ (s : Shared) (H : Hp) (C : Addr) (cl : List (Str × Addr)) (fp : List Addr), PE (X.blk s H scope (compEnvC scope cl C X.env) fp) vx tv) (fo : ∀ x, foldedSetIterable iter X.env x = pure x) :
    PS X (.Assign [.Name y py] (.DictComp kx vx [⟨tg, iter, [], 0⟩] scope pos) spos) (tAsg (tDc wi g (lT X.K W0 dYes) tk tv (own.map (·.2))) (gName i)) := by
  refine ⟨fun pins s σ H D J q => ?_⟩
  rw [exec_Assign_Name_used _ _ _ _ sw]
  refine wpAny_bind (wpAny_standAt (wpAny_bind ?_))
  show wpAny _ X.A (do let _ ← comprehension (.DictComp kx vx [⟨tg, iter, [], 0⟩] scope pos) scope X.env (firstIterPos [⟨tg, iter, [], 0⟩] pos) newDict false (eval iter X.env) (some (assign (.Name y py) X.env))) _ _ s
  have q : tDc wi g (lT X.K W0 dYes) tk tv (own.map (·.2)) σ H (fun x H1 => gName i x σ H1 D.nx) := q
  have pt : ∀ (s : Shared) (H : Hp) (C : Addr) (cl : List (Str × Addr)) (fp : List Addr), PTs (X.blk s H scope (compEnvC scope cl C X.env) fp) [] (lT X.K W0 dYes) := fun s H C cl fp => (ts_nil : DTs (X.blk s H scope (compEnvC scope cl C X.env) fp) [] dYes)
  refine wpAny_bind (thn (dc_core (Qf := fun _ s' => SP X pins D .next s') (tt := lT X.K W0 dYes) cm nd J hi ok pg pt pk pv fo q fun P C s' m H' J' z hm f => ?_) fun _ s' hq => wpAny_pure (wpAny_pure hq))
  show wpAny _ _ (assign (.Name y py) X.env (.ref P)) _ _ _
  refine wpAny_assign_Name (store_ok2 (v := V.ref P) J' nd hy (.inl ly) rfl (fun s2 J2 ⟨a, sb, ha⟩ => ?_) (.inr ly))
  obtain ⟨f0, f1, f2, f3, f4, f5⟩ := f
  have ne : C ≠ a := by
    rcases ha with e | e
    · rw [e]; exact f1
    · exact fun e2 => f4 y a e e2.symm
  exact ⟨m, hm.sameBut sb ne, fun h3 sb3 => ⟨_, H', J2.turned (t' := s2.toks) (fun b o hb e => (sb3.2 b hb).trans e) f0 f1 f3 f4 f5, z⟩⟩
theorem s_setDc (i : Nat) (N : List Str) (sc : Scope) (own : List (Str × Nat)) {y : Str} {py spos : Pos} (g : Good X W) (hN : X.N.Nodup) (hi : DI X W tg iter di) (ok : blkC N sc scope own = true) (hin : t.in (own.map (·.2)) = true)
    (hg : ∀ (s : Shared) (H : Hp) (C : Addr) (cl : List (Str × Addr)) (fp : List Addr), Good (X.blk s H scope (compEnvC scope cl C X.env) fp) W0 → PG (X.blk s H scope (compEnvC scope cl C X.env) fp) tg (t.v X.K))
    (hk : ∀ (s : Shared) (H : Hp) (C : Addr) (cl : List (Str × Addr)) (fp : List Addr), Good (X.blk s H scope (compEnvC scope cl C X.env) fp) W0 → DE (X.blk s H scope (compEnvC scope cl C X.env) fp) W0 kx tk)
    (hv : ∀ (s : Shared) (H : Hp) (C : Addr) (cl : List (Str × Addr)) (fp : List Addr), Good (X.blk s H scope (compEnvC scope cl C X.env) fp) W0 → DE (X.blk s H scope (compEnvC scope cl C X.env) fp) W0 vx tv)
    (hsw : swapsWith (.DictComp kx vx [⟨tg, iter, [], 0⟩] scope pos) (some (.Name y py)) spos.line X.env = pure true) (hy : X.N[i]? = some y := by rfl) (hyl : X.env.scope.names.lookup y = some .local := by rfl) (hs : ∀ x, foldedSetIterable iter X.env x = pure x := by intro _; rfl) (eN : X.N = N := by rfl) (es : X.env.scope = sc := by rfl) :
    DSt X W (.Assign [.Name y py] (.DictComp kx vx [⟨tg, iter, [], 0⟩] scope pos) spos) (dAsg (dDc di t tk tv (own.map (·.2))) (gdName i)) := by
  refine ps_imp (ps_setDc (i := i) (own := own) (g := t.v X.K) (tk := lE X.K W0 tk) (tv := lE X.K W0 tv) g.calm hN hy hyl hsw hi (by rw [eN, es]; exact blkOk_by ok) (fun s H C cl fp => hg s H C cl fp (good_blk g ..)) (fun s H C cl fp => hk s H C cl fp (good_blk g ..)) (fun s H C cl fp => hv s H C cl fp (good_blk g ..)) hs) fun Dn σ H h => ?_
  obtain ⟨I, M, F, δ, Dd, hr, rs, q, f⟩ := h
  refine ⟨I, M, F, δ, _, _, hr, rs, q, fun xs src M1 I1 H1 J q1 ho s1 hr1 wk P hP => ?_, f.x rs⟩
  refine dc_lift hin q1.1 hr1 (rs.mono s1) wk q1.2 (Qd := fun p H' => Dn.nx (σ.set i (some (.ref p))) H') (fun p I' M' H' aV a hF s' hr' ra q' => ?_) P hP
  exact f.nx _ _ _ H' _ (q' p hr'.atF.2.2) (s1.trans s') (hr'.mutF hF (m := .dct a) ⟨aV, rfl, ra⟩) ((rs.mono (s1.trans s')).set i (.ref p))
end
/-! ## a dict of the module, as it is written out -/
theorem md_ok2 {K : PySem.W.Frag} {w : World} {a : Addr} {kvs : List (Str × Str)} {es : Array DictEntry} {n : Nat} (h : K.lookup a = some ⟨.type "dict", none, .dict es n, #[]⟩) (low : (a == sysModules) = false) (he : es.toList.map mdRow = mdOf w.params kvs) : MDict K w a kvs := by
  refine md_ok ?_
  unfold mdW
  rw [h]
  dsimp only
  rw [show ((#[] : Array (Option Value)).isEmpty && !(a == sysModules)) = true from by rw [low]; rfl]
  exact congrArg some he
end DL

set_option Elab.async false
set_option linter.all false
set_option maxRecDepth 100000
set_option maxHeartbeats 4000000
namespace DL
open PySem L2
/-! ## drawing, the third way -/
def rTakeC (x y z u v : Int) : DTS :=
  dSeq (dIf (dTest (dOp dGt (dOp dIx (dVar 0) (dC (.int 0))) (dC (.int 0)))) (dSeq (dAsg (dOp dMod (dOp dIx (dVar 0) (dC (.int 0))) (dVar 1)) (gdName 2))
  (dSeq (dAsg (dOp dDiv (dOp dIx (dVar 0) (dC (.int 0))) (dVar 1)) (gdSubL (dVar 0) (dC (.int 0))))
  (dRet (dVar 2)))) (dNext))
  (dSeq (dAsg (dOp dAdd2 (dOp dIx (dVar 0) (dC (.int 2))) (dC (.int 1))) (gdSubL (dVar 0) (dC (.int 2))))
  (dSeq (dAsg (dOp dMod (dOp dPow (dOp dAdd2 (dOp dAdd2 (dOp dIx (dVar 0) (dC (.int 1))) (dOp dMul (dC (.int x)) (dOp dIx (dVar 0) (dC (.int 2))))) (dC (.int y))) (dC (.int 5))) (dC (.int 2147483647))) (gdName 3))
  (dSeq (dAsg (dOp dMod (dOp dPow (dOp dAdd2 (dOp dAdd2 (dOp dDiv (dVar 3) (dC (.int 8))) (dOp dMul (dOp dMul (dC (.int z)) (dOp dIx (dVar 0) (dC (.int 2)))) (dOp dIx (dVar 0) (dC (.int 2))))) (dC (.int u))) (dC (.int 3))) (dC (.int 2147483629))) (gdName 4))
  (dRet (dOp dMod (dOp dAdd2 (dOp dDiv (dVar 3) (dC (.int 4))) (dOp dMul (dC (.int v)) (dOp dDiv (dVar 4) (dC (.int 4))))) (dVar 1))))))
theorem cmul2 {i j : Int} (h0 : 0 ≤ i) (h1 : i < 2 ^ 60) (h2 : -(2 ^ 60) < j) (h3 : j < 2 ^ 60) : CMulW i j := wide_mul (a := 60) (b := 60) (by omega) (by omega) (by decide) (by decide) (by decide)
theorem take_c (x y z u v : Int) (hx : 0 ≤ x) (hx1 : x < 2 ^ 30) (hy : 0 ≤ y) (hy1 : y < 2 ^ 30) (hz : 0 ≤ z) (hz1 : z < 2 ^ 17) (hu : 0 ≤ u) (hu1 : u < 2 ^ 30) (hv : 0 ≤ v) (hv1 : v < 2 ^ 30) : ∀ ds M Qd Ed, spTake ds M Qd Ed → rTakeC x y z u v (ends Qd Ed) (dstart ["b", "w", "digit", "one", "other"] ds) M := by
  intro ds M Qd Ed h
  obtain ⟨b, w, n, rfl, ⟨x0, y0, z0, hb, y00, y01, z00, z01⟩, hn, w0, w1, q⟩ := h
  refine ⟨_, rfl, _, hb, _, rfl, ?_⟩
  refine br2 (fun e => ?_) (fun e => ?_)
  · refine ⟨_, rfl, _, hb, _, rfl, _, rfl, w0, ?_⟩
    refine ⟨_, rfl, _, hb, _, rfl, _, rfl, cdiv w0 w1, ?_⟩
    refine ⟨_, rfl, _, hb, _, rfl, _, rfl, ?_⟩
    exact q _ _ (fun a o ne e => by rw [updM_ne ne]; exact e) ⟨_, _, _, updM_same, y00, y01, z00, by omega⟩ (Int.emod_nonneg _ (by omega)) (Int.emod_lt_of_pos _ w0)
  · refine ⟨_, rfl, _, hb, _, rfl, ?_⟩
    refine ⟨_, rfl, _, hb, _, rfl, ?_⟩
    have hb2 : updM M b (.lst [.int x0, .int y0, .int (z0 + 1)]) b = some (.lst [.int x0, .int y0, .int (z0 + 1)]) := updM_same
    have t0 : 0 ≤ z0 + 1 := by omega
    have t1 : z0 + 1 ≤ 2 ^ 20 := by omega
    have m1 := mul_bd (n := 0) hx hx1 t0 t1
    have m2 : 0 ≤ z * (z0 + 1) ∧ z * (z0 + 1) ≤ 2 ^ 37 := ⟨Int.mul_nonneg hz t0, by
      have h1 : z * (z0 + 1) ≤ 2 ^ 17 * (z0 + 1) := Int.mul_le_mul_of_nonneg_right (by omega) t0
      omega⟩
    have m3 : 0 ≤ z * (z0 + 1) * (z0 + 1) ∧ z * (z0 + 1) * (z0 + 1) ≤ 2 ^ 57 := ⟨Int.mul_nonneg m2.1 t0, by
      have h1 : z * (z0 + 1) * (z0 + 1) ≤ 2 ^ 37 * (z0 + 1) := Int.mul_le_mul_of_nonneg_right m2.2 t0
      omega⟩
    refine ⟨_, rfl, _, hb2, _, rfl, _, rfl, _, hb2, _, rfl, cmul hx hx1 (by omega) (by omega), ?_⟩
    refine ⟨cpow (by omega) (by omega) (by decide) (by decide), (by show (0 : Int) < 2147483647; decide), ?_⟩
    have r1 : ∀ t : Int, 0 ≤ t % 2147483647 ∧ t % 2147483647 < 2147483647 := fun t => ⟨Int.emod_nonneg _ (by decide), Int.emod_lt_of_pos _ (by decide)⟩
    generalize hm : (y0 + x * (z0 + 1) + y) ^ (5 : Int).toNat % 2147483647 = m
    have hm2 : 0 ≤ m ∧ m < 2147483647 := by rw [← hm]; exact r1 _
    refine ⟨_, rfl, cdiv (by decide) (by decide), _, rfl, _, hb2, _, rfl, cmul hz (by omega) (by omega) (by omega), _, rfl, _, hb2, _, rfl, cmul2 m2.1 (by omega) (by omega) (by omega), ?_⟩
    have d8 : 0 ≤ m / 8 ∧ m / 8 ≤ m := by omega
    generalize hs : z * (z0 + 1) * (z0 + 1) = sq at *
    refine ⟨cpow (by omega) (by omega) (by decide) (by decide), (by show (0 : Int) < 2147483629; decide), ?_⟩
    have r2 : ∀ t : Int, 0 ≤ t % 2147483629 ∧ t % 2147483629 < 2147483629 := fun t => ⟨Int.emod_nonneg _ (by decide), Int.emod_lt_of_pos _ (by decide)⟩
    generalize hk : (m / 8 + sq + u) ^ (3 : Int).toNat % 2147483629 = k
    have hk2 : 0 ≤ k ∧ k < 2147483629 := by rw [← hk]; exact r2 _
    refine ⟨_, rfl, cdiv (by decide) (by decide), _, rfl, cdiv (by decide) (by decide), cmul hv hv1 (by omega) (by omega), _, rfl, w0, ?_⟩
    exact q _ _ (fun a o ne e => by rw [updM_ne ne]; exact e) ⟨_, _, _, updM_same, y00, y01, by omega, by omega⟩ (Int.emod_nonneg _ (by omega)) (Int.emod_lt_of_pos _ w0)
/-! names -/
def wordsC : List Str := ["on", "doze", "asleep", "off", "gain", "release", "use", "bell", "tick", "look", "sleep", "rise", "wake", "done", "busy", "broken"]
theorem splitC : Txt.split "on doze asleep off gain release use bell tick look sleep rise wake done busy broken" " " = wordsC := by decide +kernel
theorem nmC : ∀ s ∈ wordsC, Nm s := by
  intro s hs
  have h : (decide (1 ≤ s.length) && decide (s.length ≤ 8) && s.cps.toList.all (fun c => decide (c ∈ letters.cps.toList))) = true := by
    revert s
    decide +kernel
  simp only [Bool.and_eq_true, decide_eq_true_eq, List.all_eq_true] at h
  exact ⟨h.1.1, h.1.2, h.2⟩
theorem comp_strs {P Q : Str → Prop} {i : Nat} {te : DTE} {δ : DS} {k : List D → Mp → Prop} {M : Mp} {vs : List Nat} (ss : List Str) (hl : ss.length ≤ 100) (hP : ∀ s ∈ ss, P s) (el : ∀ (s : Str) (R : DK), P s → (∀ u, Q u → R (.str u) M) → te ((dwipe δ vs).set i (some (.str s))) M R E0d)
    (q : ∀ us : List Str, us.length = ss.length → (∀ u ∈ us, Q u) → k (us.map D.str) M) : dComp (.one i) dYes te .data vs δ k (ss.map D.str) [] M := by
  refine comp_inv (fun r acc M' => M' = M ∧ ∃ rs us, r = rs.map D.str ∧ acc = us.map D.str ∧ (∀ s ∈ rs, P s) ∧ (∀ u ∈ us, Q u) ∧ us.length + rs.length = ss.length) (fun x r acc M' R j h => ?_) (fun acc M' j => ?_) _ _ _ ⟨rfl, ss, [], rfl, rfl, hP, (fun _ z => nomatch z), by simp⟩
  · obtain ⟨rfl, rs, us, e, rfl, h1, h2, h3⟩ := j
    cases rs with
    | nil => cases e
    | cons s rs =>
      cases e
      refine el s R (h1 s List.mem_cons_self) fun u hu => h _ _ ⟨rfl, rs, us ++ [u], rfl, map_snoc D.str us u, fun y hy => h1 y (List.mem_cons_of_mem _ hy), fun y hy => ?_, ?_⟩
      · rcases List.mem_append.mp hy with hy | hy
        · exact h2 y hy
        · rw [List.mem_singleton.mp hy]; exact hu
      · simp only [List.length_append, List.length_cons, List.length_nil] at h3 ⊢; omega
  · obtain ⟨rfl, rs, us, e, rfl, h1, h2, h3⟩ := j
    cases rs with
    | cons s rs => cases e
    | nil =>
      rw [List.length_nil] at h3
      exact ⟨by rw [List.length_map]; exact big_line (by omega), q us (by omega) h2⟩
theorem comp_nums {Q : Str → Prop} {i : Nat} {te : DTE} {δ : DS} {k : List D → Mp → Prop} {M : Mp} {vs : List Nat} {N : Nat} (hN : N ≤ 100) (el : ∀ (j : Int) (R : DK), 0 ≤ j → j < 100 → (∀ s, Q s → R (.str s) M) → te ((dwipe δ vs).set i (some (.int j))) M R E0d)
    (q : ∀ ss : List Str, ss.length = N → (∀ s ∈ ss, Q s) → k (ss.map D.str) M) : dComp (.one i) dYes te .data vs δ k (rngD 0 N) [] M := by
  refine comp_inv (fun r acc M' => M' = M ∧ (∀ d ∈ r, ∃ j : Int, d = .int j ∧ 0 ≤ j ∧ j < 100) ∧ ∃ ss : List Str, acc = ss.map D.str ∧ (∀ s ∈ ss, Q s) ∧ ss.length + r.length = N) (fun x r acc M' R j h => ?_) (fun acc M' j => ?_) _ _ _ ⟨rfl, fun d hd => ?_, [], rfl, (fun _ z => nomatch z), by rw [List.length_nil, rng_len]; omega⟩
  · obtain ⟨rfl, hr, ss, rfl, h1, h2⟩ := j
    obtain ⟨j, rfl, j0, j1⟩ := hr x List.mem_cons_self
    refine el j R j0 j1 fun s hs => h _ _ ⟨rfl, fun d hd => hr d (List.mem_cons_of_mem _ hd), ss ++ [s], map_snoc D.str ss s, fun y hy => ?_, ?_⟩
    · rcases List.mem_append.mp hy with hy | hy
      · exact h1 y hy
      · rw [List.mem_singleton.mp hy]; exact hs
    · rw [List.length_append, List.length_singleton]
      rw [List.length_cons] at h2
      omega
  · obtain ⟨rfl, _, ss, rfl, h1, h2⟩ := j
    rw [List.length_nil] at h2
    exact ⟨by rw [List.length_map]; exact big_line (by omega), q ss (by omega) h1⟩
  · obtain ⟨j, rfl, j0, j1⟩ := rng_mem hd
    exact ⟨j, rfl, by omega, by omega⟩
theorem cut_mid_len {s : Str} {a c : Int} (ha : 0 ≤ a) (hc : 0 ≤ c) : (cutS s (some a) (some c)).length ≤ (c - a).toNat := by
  obtain ⟨i, rfl⟩ := Int.eq_ofNat_of_zero_le ha
  obtain ⟨j, rfl⟩ := Int.eq_ofNat_of_zero_le hc
  rw [str_len]
  have e : (cutS s (some (i : Int)) (some (j : Int))).cps.toList = (s.cps.toList.drop (HT.sIx s.length 0 (some (i : Int)))).take (HT.sIx s.length s.length (some (j : Int)) - HT.sIx s.length 0 (some (i : Int))) := by simp [cutS]
  rw [e, HT.sIx_nat, HT.sIx_nat, List.length_take, List.length_drop, ← str_len]
  omega
theorem Lt.cut {s : Str} (h : Lt s) {lo hi : Option Int} : Lt (cutS s lo hi) := fun c hc => by
  have e : (cutS s lo hi).cps.toList = (s.cps.toList.drop (HT.sIx s.length 0 lo)).take (HT.sIx s.length s.length hi - HT.sIx s.length 0 lo) := by simp [cutS]
  rw [e] at hc
  exact h c (List.mem_of_mem_drop (List.mem_of_mem_take hc))
def rNamesC : DTS :=
  dSeq (dAsg (dC (.str letters)) (gdName 2))
  (dSeq (dAsg (dTup (dCons (dCall spTake (dCons (dVar 0) (dCons (dC (.int 3)) (dNil)))) (dCons (dCall spTake (dCons (dVar 0) (dCons (dC (.int 26)) (dNil)))) (dNil)))) (gdTup 2 (gdNames [3, 4])))
  (dSeq (dAsg (dTup (dCons (dOp dAdd2 (dC (.int 1)) (dCall spTake (dCons (dVar 0) (dCons (dC (.int 8)) (dNil))))) (dCons (dOp dIx (dLst (dCons (dC (.int 1)) (dCons (dC (.int 3)) (dCons (dC (.int 5)) (dCons (dC (.int 7)) (dCons (dC (.int 9)) (dCons (dC (.int 11)) (dCons (dC (.int 15)) (dNil))))))))) (dCall spTake (dCons (dVar 0) (dCons (dC (.int 7)) (dNil))))) (dNil)))) (gdTup 2 (gdNames [5, 6])))
  (dSeq (dAsg (dCall spTake (dCons (dVar 0) (dCons (dVar 5) (dNil)))) (gdName 7))
  (dSeq (dAsg (dJoin (dC (.str "")) (dLc (iR1 (dCons (dC (.int 7)) (dNil))) (.one 12) dYes (dOp dIx (dVar 2) (dCall spTake (dCons (dVar 0) (dCons (dC (.int 26)) (dNil))))) [12])) (gdName 8))
  (dSeq (dIf (dTest (dOp dEq (dVar 3) (dC (.int 0)))) (dSeq (dAsg (dM1 rdSplit (dC (.str "on doze asleep off gain release use bell tick look sleep rise wake done busy broken")) (dC (.str " "))) (gdName 9))
  (dSeq (dAsg (dOp dIx (dLst (dCons (dC (.int 1)) (dCons (dC (.int 3)) (dCons (dC (.int 5)) (dCons (dC (.int 7)) (dCons (dC (.int 9)) (dCons (dC (.int 11)) (dCons (dC (.int 13)) (dNil))))))))) (dOp dMod (dVar 6) (dC (.int 7)))) (gdName 6))
  (dRet (dLc (iR1 (dCons (dVar 1) (dNil))) (.one 12) dYes (dOp dIx (dVar 9) (dOp dMod (dOp dAdd2 (dVar 4) (dOp dMul (dVar 6) (dVar 12))) (dC (.int 16)))) [12])))) (dNext))
  (dSeq (dIf (dTest (dOp dEq (dVar 3) (dC (.int 1)))) (dSeq (dAsg (dOp dAdd2 (dVar 8) (dOp dIx (dVar 2) (dVar 4))) (gdName 8))
  (dRet (dLc (iR1 (dCons (dVar 1) (dNil))) (.one 12) dYes (dSlA dSl4 (dVar 8) (oNone) (oSome (dOp dAdd2 (dC (.int 1)) (dOp dMod (dOp dAdd2 (dVar 7) (dVar 12)) (dC (.int 8)))))) [12]))) (dNext))
  (dSeq (dAsg (dLc (iR1 (dCons (dVar 1) (dNil))) (.one 12) dYes (dOp dIx (dVar 2) (dOp dMod (dOp dAdd2 (dVar 4) (dOp dMul (dVar 6) (dVar 12))) (dC (.int 26)))) [12]) (gdName 10))
  (dSeq (dAsg (dSlA dSl4 (dVar 8) (oSome (dVar 7)) (oSome (dOp dSub (dVar 5) (dC (.int 1))))) (gdName 11))
  (dRet (dLc (iL (dVar 10)) (.one 13) dYes (dOp dAdd2 (dOp dAdd2 (dSlA dSl4 (dVar 8) (oNone) (oSome (dVar 7))) (dVar 13)) (dVar 11)) [13]))))))))))
theorem names_c : ∀ ds M Qd Ed, spNames 12 ds M Qd Ed → rNamesC (ends Qd Ed) (dstart ["b", "n", "letters", "way", "first", "size", "step", "at", "stem", "words", "signs", "ends", "k", "sign"] ds) M := by
  intro ds M Qd Ed h
  obtain ⟨b, sz, n, rfl, hb, hn, s0, s8, q⟩ := h
  refine ⟨_, rfl, b, 3, n, rfl, hb, by omega, by decide, by decide, fun M1 way s1 hb1 w0 w1 => ?_⟩
  refine ⟨_, rfl, b, 26, n + 1, rfl, hb1, by omega, by decide, by decide, fun M2 fi s2 hb2 f0 f1 => ?_⟩
  refine ⟨(by show 2 ≤ sizeLine; decide), rfl, rfl, ?_⟩
  refine ⟨_, rfl, b, 8, n + 2, rfl, hb2, by omega, by decide, by decide, fun M3 s' s3 hb3 z0 z1 => ?_⟩
  refine ⟨(by show 7 ≤ sizeLine; decide), _, rfl, b, 7, n + 3, rfl, hb3, by omega, by decide, by decide, fun M4 j' s4 hb4 j0 j1 => ?_⟩
  obtain ⟨st, est, st0, st1⟩ : ∃ st : Int, atI [D.int 1, .int 3, .int 5, .int 7, .int 9, .int 11, .int 15] j' = some (.int st) ∧ 1 ≤ st ∧ st ≤ 15 := by
    rcases (by omega : j' = 0 ∨ j' = 1 ∨ j' = 2 ∨ j' = 3 ∨ j' = 4 ∨ j' = 5 ∨ j' = 6) with rfl | rfl | rfl | rfl | rfl | rfl | rfl <;> exact ⟨_, rfl, by decide, by decide⟩
  refine ⟨_, est, (by show 2 ≤ sizeLine; decide), rfl, rfl, ?_⟩
  refine ⟨_, rfl, _, rfl, b, 1 + s', n + 4, rfl, hb4, by omega, by omega, by omega, fun M5 at5 s5 hb5 a0 a1 => ?_⟩
  refine ⟨⟨by decide, by decide⟩, (by show (rngD 0 7).length < sizeLine; decide +kernel), ?_⟩
  refine comp_draw (b := b) (i := 12) (j := 2) rfl rfl (by decide) (by decide) (rngD 0 7) [] M5 (n + 5) hb5 (by rw [rng_len]; omega) (fun _ z => nomatch z) (by rw [rng_len]; decide) fun M6 cs s6 hb6 l6 hc => ?_
  rw [rng_len] at hb6 l6
  simp only [List.length_nil, Nat.zero_add] at l6
  refine ⟨cs.map sg1, by rw [List.map_map]; rfl, ?_, ?_⟩
  · rw [sum_len, List.length_map, l6]; decide
  have lt : Lt (Txt.join "" (cs.map sg1)) := fun c h => by rw [join_cps] at h; exact hc c h
  have ll : (Txt.join "" (cs.map sg1)).length = 7 := by rw [join_len, l6]
  generalize Txt.join "" (cs.map sg1) = stem at *
  have sA := ((((s1.trans s2).trans s3).trans s4).trans s5).trans s6
  have e100 : sz.toNat ≤ 100 := by omega
  have rl : ∀ k : Nat, k ≤ 100 → (rngD 0 k).length < sizeLine := fun k hk => by rw [rng_len]; exact Nat.lt_of_le_of_lt hk (by decide)
  have m8 : ∀ t : Int, 0 ≤ t % 8 ∧ t % 8 < 8 := fun t => ⟨Int.emod_nonneg _ (by decide), Int.emod_lt_of_pos _ (by decide)⟩
  have m16 : ∀ t : Int, 0 ≤ t % 16 ∧ t % 16 < 16 := fun t => ⟨Int.emod_nonneg _ (by decide), Int.emod_lt_of_pos _ (by decide)⟩
  have m26 : ∀ t : Int, 0 ≤ t % 26 ∧ t % 26 < 26 := fun t => ⟨Int.emod_nonneg _ (by decide), Int.emod_lt_of_pos _ (by decide)⟩
  have fin : ∀ ss : List Str, ss.length = sz.toNat → (∀ s ∈ ss, Nm s) → Qd (.lst (ss.map D.str)) M6 := fun ss hl hs => q M6 ss sA (hb6.mono (by omega)) (by omega) hs
  refine ⟨_, rfl, ?_⟩
  refine br2 (fun e => ?_) (fun e => ?_)
  · refine ⟨by decide +kernel, by decide +kernel, ?_⟩
    rw [splitC]
    refine ⟨(by show 7 ≤ sizeLine; decide), _, rfl, (by show (0 : Int) < 7; decide), ?_⟩
    have m7 : 0 ≤ st % 7 ∧ st % 7 < 7 := ⟨Int.emod_nonneg _ (by decide), Int.emod_lt_of_pos _ (by decide)⟩
    obtain ⟨st2, e2, t0, t1⟩ : ∃ st2 : Int, atI [D.int 1, .int 3, .int 5, .int 7, .int 9, .int 11, .int 13] (st % 7) = some (.int st2) ∧ 1 ≤ st2 ∧ st2 ≤ 15 := by
      rcases (by omega : st % 7 = 0 ∨ st % 7 = 1 ∨ st % 7 = 2 ∨ st % 7 = 3 ∨ st % 7 = 4 ∨ st % 7 = 5 ∨ st % 7 = 6) with h | h | h | h | h | h | h <;> (rw [h]; exact ⟨_, rfl, by decide, by decide⟩)
    refine ⟨_, e2, ?_⟩
    refine ⟨_, rfl, ⟨by omega, by omega⟩, rl _ e100, ?_⟩
    refine comp_nums e100 (fun j R j0 j1 h => ?_) fin
    obtain ⟨d, d1, d2⟩ := at_some (xs := wordsC.map D.str) (m16 (fi + st2 * j)).1 (by show _ < 16; exact (m16 (fi + st2 * j)).2)
    obtain ⟨s, hs, rfl⟩ := List.mem_map.mp d2
    exact ⟨_, rfl, _, rfl, _, rfl, _, rfl, cmul (by omega) (by omega) (by omega) (by omega), (by show (0 : Int) < 16; decide), _, d1, h s (nmC s hs)⟩
  refine ⟨_, rfl, ?_⟩
  refine br2 (fun e => ?_) (fun e => ?_)
  · obtain ⟨c, c1, c2⟩ := letter_at f0 f1
    refine ⟨_, rfl, _, rfl, _, rfl, letters_size, c, c1, ?_, ?_⟩
    · rw [sg_len]; exact big_line (by omega)
    refine ⟨_, rfl, ⟨by omega, by omega⟩, rl _ e100, ?_⟩
    have lt2 : Lt (stem ++ sg1 c) := lt.app (Lt.one c2)
    have ll2 : (stem ++ sg1 c).length = 8 := by rw [Str.length_append, sg_len]; omega
    refine comp_nums e100 (fun j R j0 j1 h => ?_) fin
    have b0 : 0 ≤ 1 + (at5 + j) % 8 := by have := (m8 (at5 + j)).1; omega
    refine ⟨_, rfl, _, rfl, _, rfl, (by show (0 : Int) < 8; decide), big_line (by show (stem ++ sg1 c).length ≤ _; omega), h _ ⟨?_, ?_, lt2.to b0⟩⟩
    · show 1 ≤ (cutS (stem ++ sg1 c) none (some (1 + (at5 + j) % 8))).length
      rw [to_len b0]; omega
    · show (cutS (stem ++ sg1 c) none (some (1 + (at5 + j) % 8))).length ≤ 8
      rw [to_len b0]; omega
  refine ⟨_, rfl, ⟨by omega, by omega⟩, rl _ e100, ?_⟩
  refine comp_nums (Q := fun s => ∃ c, s = sg1 c ∧ c ∈ letters.cps.toList) e100 (fun j R j0 j1 h => ?_) fun ss hl hs => ?_
  · obtain ⟨c, c1, c2⟩ := letter_at (m26 (fi + st * j)).1 (m26 (fi + st * j)).2
    exact ⟨_, rfl, _, rfl, _, rfl, _, rfl, cmul (by omega) (by omega) (by omega) (by omega), (by show (0 : Int) < 26; decide), letters_size, c, c1, h _ ⟨c, rfl, c2⟩⟩
  refine ⟨_, rfl, _, rfl, _, rfl, big_line (by omega), ?_⟩
  have hd := to_len (s := stem) a0
  have tl := cut_mid_len (s := stem) a0 (c := 1 + s' - 1) (by omega)
  have tlt : Lt (cutS stem (some at5) (some (1 + s' - 1))) := lt.cut
  generalize cutS stem (some at5) (some (1 + s' - 1)) = ends2 at *
  refine ⟨_, rfl, Nat.lt_of_le_of_lt (by rw [List.length_map]; omega : _ ≤ 100) (by decide), ?_⟩
  refine comp_strs (P := fun s => ∃ c, s = sg1 c ∧ c ∈ letters.cps.toList) ss (by omega) hs (fun s R hs h => ?_) fun us hu h => fin us (by omega) h
  obtain ⟨c, rfl, c2⟩ := hs
  refine ⟨_, rfl, _, rfl, big_line (by omega), _, rfl, ?_, _, rfl, ?_, h _ ⟨?_, ?_, ((lt.to a0).app (Lt.one c2)).app tlt⟩⟩
  · rw [sg_len]; exact big_line (by omega)
  · rw [Str.length_append, sg_len]; exact big_line (by omega)
  · rw [Str.length_append, Str.length_append, sg_len]; omega
  · rw [Str.length_append, Str.length_append, sg_len]; omega
end DL

set_option Elab.async false
set_option linter.all false
set_option maxRecDepth 100000
set_option maxHeartbeats 2000000
namespace DL
open PySem PySem.Spec PyProof.Rows L2
/-! ## isinstance(x, C), C an own class -/
structure ClsI (K : PySem.W.Frag) (C : Addr) : Prop where
  cls : Cls K C
  oc : PySem.W.findIn K (.ref C) "__class__" = some (some (.builtin "object.__class__"))
  gt : PySem.W.specialIn K (.builtin "object.__class__") "__get__" = some (some (.builtin "getset_descriptor.__get__"))
  tk : PySem.W.takesIn K (.builtin "object.__class__") = some true
  mro : PySem.W.mroIn K C (.type "object") = some true
  isC : PySem.W.isClsIn K C = true
  ty : PySem.W.typeIn K (.ref C) = some (.type "type")
  sub : ∀ t : Ty, t ≠ .own → PySem.W.subIn K (.type t.nm) (.ref C) = some false
theorem kit_no {K : PySem.W.Frag} {C : Addr} (c : ClsI K C) (t : Ty) (ht : t ≠ .own) : PySem.W.kitOne K (.type t.nm) (.ref C) = some false := by
  unfold PySem.W.kitOne
  rw [if_neg (by simp)]
  unfold PySem.W.kitCls
  dsimp only
  have h : (PySem.W.clsIn K C).isSome = true := c.isC
  rw [h, c.ty, if_pos (by simp)]
  exact c.sub t ht
theorem kit_self {K : PySem.W.Frag} {C : Addr} : PySem.W.kitOne K (.ref C) (.ref C) = some true := by
  unfold PySem.W.kitOne
  rw [if_pos (by simp)]
def isiC (C : Addr) (d : D) (M : Mp) (k : Bool → Prop) : Prop := match d with
  | .ins C' _ => C' = C ∧ k true
  | .ref a => (∃ fs, M a = some (.ins C fs) ∧ k true) ∨ tyD (.ref a) M (fun t => t ≠ .own ∧ k false)
  | d => tyD d M (fun t => t ≠ .own ∧ k false)
theorem isiC_out {K : PySem.W.Frag} {I : Hp} {M : Mp} {F H : Hp} {C : Addr} (c : ClsI K C) (hr : HR K I M F H) {v : V} {d : D} {k : Bool → Prop} (r : Rep K I v d) (h : isiC C d M k) : ∃ t b, TyX K H v t ∧ PySem.W.kitOne K t (.ref C) = some b ∧ k b ∧ (t = .ref C ∧ b = true ∨ ∃ u : Ty, u ≠ .own ∧ t = .type u.nm ∧ b = false) := by
  have base : tyD d M (fun t => t ≠ .own ∧ k false) → ∃ t b, TyX K H v t ∧ PySem.W.kitOne K t (.ref C) = some b ∧ k b ∧ (t = .ref C ∧ b = true ∨ ∃ u : Ty, u ≠ .own ∧ t = .type u.nm ∧ b = false) := fun q => by
    rcases tyD_out hr r q with ⟨t, ht, ty, _, q⟩ | ⟨a, C', ds, dd, vs, _, _, _, _, q, _⟩
    · exact ⟨_, false, ty, kit_no c t ht, q, .inr ⟨t, ht, rfl, rfl⟩⟩
    · exact absurd rfl q
  have own : ∀ {a dx : Addr} {vs : List (Str × V)}, H a = some (.ins C dx vs) → TyX K H (.ref a) (.ref C) := fun e => .base (.ins e c.cls c.oc c.gt c.tk c.mro)
  cases d with
  | ins C' fs =>
    obtain ⟨rfl, q⟩ := h
    cases r with
    | ins s rr => exact ⟨_, true, own (hr.imm _ _ s), kit_self, q, .inl ⟨rfl, rfl⟩⟩
  | ref a =>
    rcases h with ⟨fs, e, q⟩ | h
    · cases r
      obtain ⟨dx, vs, e1, rr⟩ := hr.ins e
      exact ⟨_, true, own e1, kit_self, q, .inl ⟨rfl, rfl⟩⟩
    · exact base h
  | non => exact base h
  | bl b => exact base h
  | int i => exact base h
  | str s => exact base h
  | lst xs => exact base h
  | sq xs => exact base h
  | tup xs => exact base h
  | dct xs => exact base h
  | ty n => exact base h
def dIsiC (C : Addr) (te : DTE) : DTE := fun δ M Q E => te δ M (fun d M1 => isiC C d M1 fun b => Q (.bl b) M1) E
section
variable {X : Cx} {W : WX} {pos p : Pos} {e a b : Expr} {te ta tb : DTE} {C : Addr}
theorem d_isiC {y : Str} {p' : Pos} (c : ClsI X.K C) (hmy : X.mg y = some (.ref C)) (hm : X.mg "isinstance" = none) (he : DE X W e te) (hs : starEach [e, .Name y p'] X.env = (false, eval e X.env) :: starEach [.Name y p'] X.env := by rfl) (hgy : Gl X y := by rfl) (hdy : (y == ("__debug__" : Str)) = false := by decide)
    (hs2 : starEach [.Name y p'] X.env = (false, eval (.Name y p') X.env) :: starEach [] X.env := by rfl) (hpl : (backTo pos (starEach [.Name y p'] X.env)).any (·.1) = false := by rfl) (hg : Gl X "isinstance" := by rfl) : DE X W (.Call (.Name "isinstance" p) [e, .Name y p'] [] pos) (dIsiC C te) := by
  refine pe_imp (pe_callB call_isi hg hm (by decide +kernel) (pa_cons he (pa_cons (pe_glob (v := .ref C) hgy hmy rfl hdy) pa_nil hs2) hs) (by decide) (by decide) hs hpl) fun σ H Q h => ?_
  obtain ⟨I, M, F, δ, Qd, Ed, hr, rs, q, fq, fx⟩ := h
  refine ⟨I, M, F, δ, _, Ed, hr, rs, q, fun d M1 I1 H1 v q1 s1 hr1 r1 => ?_, fx⟩
  obtain ⟨t, b, ty, k, q, _⟩ := isiC_out c hr1 r1 q1
  exact ⟨v, .ref C, t, .ref C, b, rfl, .own C, ty, k, fq _ M1 I1 H1 _ q s1 hr1 (.bl _)⟩
end
end DL

set_option Elab.async false
set_option linter.all false
set_option maxRecDepth 100000
set_option maxHeartbeats 2000000
namespace DL
open PySem PySem.Spec PyProof.Rows L2
/-! ## o == x by an own __eq__, o an instance -/
def dOwnEq (C : Addr) (sp : DSp) (gg : List D → List D → List D) (ta tb : DTE) : DTE := fun δ M Q E => ta δ M (fun x M1 => tb δ M1 (fun y M2 => insD x M2 (fun C' _ => C' = C) ∧ isiC C y M2 (fun _ => True) ∧ sp (gg [x, y] []) M2 (fun r M3 => ∃ b, r = .bl b ∧ Q (.bl b) M3) fun _ _ _ => False) E) E
section
variable {X : Cx} {W : WX} {pos : Pos} {a b : Expr} {ta tb : DTE} {k : Nat} {C : Addr} {ps : List Str} {sp : DSp} {pats : List Pat} {gg : List D → List D → List D}
theorem finT {K : PySem.W.Frag} {I F : Hp} {Qb : Bool → Mp → Prop} {Q : Bool → Hp → Prop} (fq : ∀ b M' I' H', Qb b M' → Same I I' → HR K I' M' F H' → Q b H') : Fin K I F (fun d M => dB d fun b => Qb b M) (fun x H' => ∃ k, x = .bl k ∧ Q k H') := fun d M' I' H' v q s hr r => by
  cases r <;> first | exact ⟨_, rfl, fq _ M' I' H' q s hr⟩ | exact False.elim q
def rOwnEq (K : PySem.W.Frag) (F : Hp) (Qd : DK) (C : Addr) (sp : DSp) (gg : List D → List D → List D) : R2 := fun x y H1 Q1 => ∃ I1 M1 dx dy, HR K I1 M1 F H1 ∧ Rep K I1 x dx ∧ Rep K I1 y dy ∧ Fin K I1 F Qd Q1 ∧ insD dx M1 (fun C' _ => C' = C) ∧ isiC C dy M1 (fun _ => True) ∧ sp (gg [dx, dy] []) M1 (fun r M3 => ∃ b, r = .bl b ∧ Qd (.bl b) M3) fun _ _ _ => False
theorem op_ownEq {F : Hp} {Qd : DK} (i : Nat) (mt : MtOk X.prog X.w X.K X.mg X.base k C "__eq__" ps sp pats) (c : ClsI X.K C) (ng : NoGd X.A) (rm : Room k X.A) (rm0 : Room 0 X.A) (hi : pats[i]? = some ⟨2, [], gg⟩) : OpR X (compareOp .Eq) (rOwnEq X.K F Qd C sp gg) := by
  intro pins s σ H x y v u Q J rx ry h
  obtain ⟨I1, M1, dx, dy, hr1, r1, r2, fq, q1, q2, q3⟩ := h
  obtain ⟨p, C', dd, vs0, fs, rfl, hH, rf, rfl⟩ := insD_out hr1 r1 q1
  cases (show v = Value.ref p from rx)
  obtain ⟨f, me, fd, kb, G⟩ := mt.ex
  obtain ⟨mA, ins, _⟩ := ins_get J.hok hH
  obtain ⟨od, lk, _⟩ := ins.look
  obtain ⟨m, fr⟩ := J.fr
  obtain ⟨t, tb', ty, _, _, tt⟩ := isiC_out c hr1 r2 q2
  obtain ⟨P, Z, hP, _⟩ := kit_of J ry ty
  have nf : PySem.W.notFirst X.K C' t = true := by
    unfold PySem.W.notFirst
    rcases tt with ⟨e, _⟩ | ⟨w, hw, e, _⟩
    · rw [e]; simp
    · rw [e, c.sub w hw]; simp
  show wpAny _ _ (richCompare .Eq (.ref p) u) _ _ _
  refine PySem.W.cmp_K (op := .Eq) (by have := rm0.un; omega) fr J.ok.mod.kin lk (Z.ty _ _ J.kIn hP) nf me.at_ me.fn ?_
  obtain ⟨bs, ys, bt, rb, rr⟩ := kb i _ hi s I1 [.ref p, u] [] [.ref p, y] [] [dx, dy] [] J.kIn (by rfl) (by rfl) (.cons rfl (.cons ry .nil)) .nil (.cons r1 (.cons r2 .nil)) .nil
  have pr : lSp X.K sp ys H (fun v H2 => ∃ b : Bool, v = .bl b ∧ Q (.bl b) H2) (fun _ _ _ => False) :=
    ⟨I1, M1, F, _, _, _, hr1, rr, q3, fun v M2 I2 H2 w ⟨b, e1, q⟩ s2 hr2 r2 => by subst e1; cases r2; exact ⟨b, rfl, fq _ M2 I2 H2 _ q s2 hr2 (.bl _)⟩, fun _ _ _ _ _ _ z => False.elim z⟩
  refine wpAny_call (codeAny_mono (G.run X.A X.stack s H ⟨[.ref p, u], []⟩ bs ys _ (fun _ _ _ => False) ng rm J.env0 bt rb pr) fun r s' z => ?_)
  cases r with
  | error er => exact passL pins σ _ _ er s' J z
  | ok fl =>
    cases fl with
    | ret w =>
      obtain ⟨v, H2, J2, rv2, b, rfl, q⟩ := J.after z
      cases (show w = Value.bool b from rv2)
      exact ⟨.bl b, H2, J2, rfl, q⟩
    | next => exact False.elim z
    | brk => exact False.elim z
    | cont => exact False.elim z
theorem d_ownEq (i : Nat) (mt : MtOk X.prog X.w X.K X.mg X.base k C "__eq__" ps sp pats) (c : ClsI X.K C) (g : Good X W) (rm : Room k X.A) (rm0 : Room 0 X.A) (ha : DE X W a ta) (hb : DE X W b tb) (hi : pats[i]? = some ⟨2, [], gg⟩ := by rfl) (hm : behindInMarks .Eq b = false := by rfl) : DE X W (.Compare a [.Eq] [b] pos) (dOwnEq C sp gg ta tb) := by
  refine ⟨fun pins s σ H Q J h => ?_⟩
  obtain ⟨I, M, F, δ, Qd, Ed, hr, rs, q, fq, fx⟩ := h
  refine (pe_cmpR (op_ownEq (F := F) (Qd := Qd) i mt c g.ng rm rm0 hi) ha hb hm).run pins s σ H Q J ?_
  exact ⟨I, M, F, δ, _, Ed, hr, rs, q, fun x M1 I1 H1 v q1 s1 hr1 r1 => ⟨I1, M1, F, δ, _, Ed, hr1, rs.mono s1, q1, fun y M2 I2 H2 u q2 s2 hr2 r2 => ⟨I2, M2, x, y, hr2, r1.mono s2, r2, fq.mono (s1.trans s2), q2.1, q2.2.1, q2.2.2⟩, fx.mono s1⟩, fx⟩
theorem t_ownEq (i : Nat) (mt : MtOk X.prog X.w X.K X.mg X.base k C "__eq__" ps sp pats) (c : ClsI X.K C) (g : Good X W) (rm : Room k X.A) (rm0 : Room 0 X.A) (ha : DE X W a ta) (hb : DE X W b tb) (hi : pats[i]? = some ⟨2, [], gg⟩ := by rfl) (hm : behindInMarks .Eq b = false := by rfl) : DT X W (.Compare a [.Eq] [b] pos) (dTest (dOwnEq C sp gg ta tb)) := by
  refine ⟨fun pins s σ H Q J h => ?_⟩
  obtain ⟨I, M, F, δ, Qd, Ed, hr, rs, q, fq, fx⟩ := h
  refine (pt_cmpR (op_ownEq (F := F) (Qd := fun d M => dB d fun b => Qd b M) i mt c g.ng rm rm0 hi) ha hb hm).run pins s σ H Q J ?_
  exact ⟨I, M, F, δ, _, Ed, hr, rs, q, fun x M1 I1 H1 v q1 s1 hr1 r1 => ⟨I1, M1, F, δ, _, Ed, hr1, rs.mono s1, q1, fun y M2 I2 H2 u q2 s2 hr2 r2 => ⟨I2, M2, x, y, hr2, r1.mono s2, r2, (finT fq).mono (s1.trans s2), q2.1, q2.2.1, q2.2.2⟩, fx.mono s1⟩, fx⟩
end
end DL

set_option Elab.async false
set_option linter.all false
set_option maxRecDepth 100000
set_option maxHeartbeats 2000000
namespace DL
open PySem PySem.Spec PyProof.Rows L2
open PySem.SeqAt
open PySem.MeetsSeq PySem.MeetsSeq2 PySem.MeetsSeq3
section
variable {prog : Program} {w : World} {A : Around} {E : Value → Shared → Prop} {s : Shared} {K : PySem.W.Frag} {C a dx l : Addr}
theorem ins_isi {n : String} {Q : Bool → Shared → Prop} (X : K.In s.heap) (ha : s.heap.get? a = some (PySem.W.instObj C dx)) (e : PySem.W.subIn K (.ref C) (.type n) = some false) (h : Q false s) : wpAny (model prog w) A (isInstance (.ref a) (.type n)) Q E s := by
  unfold isInstance
  refine wpAny_bind (wpAny_typeOf_ref ha ?_)
  exact (PySem.W.looks_subIn X e).here h
theorem tc_list {items : Array Value} {Q : Option Value → Shared → Prop} (X : K.In s.heap) (hl : s.heap.IsList l items) (ha : s.heap.get? a = some (PySem.W.instObj C dx)) (e : PySem.W.subIn K (.ref C) (.type "list") = some false) (h : Q none s) :
    wpAny (model prog w) A (tryCompare (.ref l) "__eq__" (.ref a)) Q E s := by
  obtain ⟨o, ho, hc, n, hd⟩ := hl
  refine wpAny_tryCompare_declines (T := "list") ⟨o, ho, hc⟩ F.slot_list_eq_refl (GQ.call_here F.slot_list_eq_refl ⟨o, ho, hc⟩ F.entry_list_eq (F.args_list_eq_2 _ _) ?_)
  have hi : ∀ {A : Around} {E : Value → Shared → Prop} {Q : Bool → Shared → Prop}, Q false s → wpAny (model prog w) A (isInstance (.ref a) (.type "list")) Q E s := fun h => ins_isi X ha e h
  obtain ⟨hp, g, d, tk, os⟩ := s
  wp_walk using hi
  exact ⟨rfl, h⟩
theorem tc_tup {items : Array Value} {Q : Option Value → Shared → Prop} (X : K.In s.heap) (hl : s.heap.IsTuple l items) (ha : s.heap.get? a = some (PySem.W.instObj C dx)) (e : PySem.W.subIn K (.ref C) (.type "tuple") = some false) (h : Q none s) :
    wpAny (model prog w) A (tryCompare (.ref l) "__eq__" (.ref a)) Q E s := by
  obtain ⟨o, ho, hc, n, hd⟩ := hl
  refine wpAny_tryCompare_declines (T := "tuple") ⟨o, ho, hc⟩ F.slot_tuple_eq_refl (GQ.call_here F.slot_tuple_eq_refl ⟨o, ho, hc⟩ F.entry_tuple_eq (F.args_tuple_eq_2 _ _) ?_)
  have hi : ∀ {A : Around} {E : Value → Shared → Prop} {Q : Bool → Shared → Prop}, Q false s → wpAny (model prog w) A (isInstance (.ref a) (.type "tuple")) Q E s := fun h => ins_isi X ha e h
  obtain ⟨hp, g, d, tk, os⟩ := s
  wp_walk using hi
  exact ⟨rfl, h⟩
theorem tc_dict {o : Obj} {es : Array DictEntry} {n : Nat} {Q : Option Value → Shared → Prop} (X : K.In s.heap) (ho : s.heap.get? l = some o) (hc : o.cls = .type "dict") (hd : o.data = .dict es n) (ha : s.heap.get? a = some (PySem.W.instObj C dx)) (e : PySem.W.subIn K (.ref C) (.type "dict") = some false) (h : Q none s) :
    wpAny (model prog w) A (tryCompare (.ref l) "__eq__" (.ref a)) Q E s := by
  refine wpAny_tryCompare_declines (T := "dict") ⟨o, ho, hc⟩ F.slot_dict_eq_refl (GQ.call_here F.slot_dict_eq_refl ⟨o, ho, hc⟩ F.entry_dict_eq (F.args_dict_eq_2 _ _) ?_)
  have hi : ∀ {A : Around} {E : Value → Shared → Prop} {Q : Bool → Shared → Prop}, Q false s → wpAny (model prog w) A (isInstance (.ref a) (.type "dict")) Q E s := fun h => ins_isi X ha e h
  obtain ⟨hp, g, d, tk, os⟩ := s
  wp_walk using hi, wpAny_load ho, AutoSeq1.wpAny_loadPart' ho
  exact ⟨rfl, h⟩
theorem tc_none {Q : Option Value → Shared → Prop} (h : Q none s) : wpAny (model prog w) A (tryCompare .none "__eq__" (.ref a)) Q E s :=
  wpAny_tryCompare_declines (show s.TypeIs .none "NoneType" from rfl) F.slot_NoneType_eq_refl (GQ.call_here F.slot_NoneType_eq_refl rfl F.entry_NoneType_eq (F.args_NoneType_eq_2 _ _) (by
    obtain ⟨hp, g, d, tk, os⟩ := s
    wp_walk
    exact ⟨rfl, h⟩))
theorem tc_int {i : Int} {t : Tok} {Q : Option Value → Shared → Prop} (ha : s.heap.get? a = some (PySem.W.instObj C dx)) (h : Q none s) : wpAny (model prog w) A (tryCompare (.int i t) "__eq__" (.ref a)) Q E s :=
  wpAny_tryCompare_declines (typeIs_int s i t) F.slot_int_eq_refl (GQ.call_here F.slot_int_eq_refl (typeIs_int s i t) F.entry_int_eq (F.args_int_eq_2 _ _) (by
    obtain ⟨hp, g, d, tk, os⟩ := s
    unfold PySem.W.instObj at ha
    wp_walk using AutoSeq1.wpAny_loadPart' ha, wpAny_load ha
    exact ⟨rfl, h⟩))
theorem tc_bool {b : Bool} {Q : Option Value → Shared → Prop} (ha : s.heap.get? a = some (PySem.W.instObj C dx)) (h : Q none s) : wpAny (model prog w) A (tryCompare (.bool b) "__eq__" (.ref a)) Q E s :=
  wpAny_tryCompare_declines (T := "bool") rfl F.slot_bool_eq_refl (GQ.call_here F.slot_bool_eq_refl rfl F.entry_int_eq (F.args_int_eq_2 _ _) (by
    obtain ⟨hp, g, d, tk, os⟩ := s
    unfold PySem.W.instObj at ha
    wp_walk using AutoSeq1.wpAny_loadPart' ha, wpAny_load ha
    exact ⟨rfl, h⟩))
theorem tc_str {b : Str} {t : Tok} {Q : Option Value → Shared → Prop} (ha : s.heap.get? a = some (PySem.W.instObj C dx)) (h : Q none s) : wpAny (model prog w) A (tryCompare (.str b t) "__eq__" (.ref a)) Q E s :=
  wpAny_tryCompare_declines (typeIs_str s b t) F.slot_str_eq_refl (GQ.call_here F.slot_str_eq_refl (typeIs_str s b t) F.entry_str_eq (F.args_str_eq_2 _ _) (by
    obtain ⟨hp, g, d, tk, os⟩ := s
    unfold PySem.W.instObj at ha
    wp_walk using AutoSeq1.wpAny_loadPart' ha, wpAny_load ha
    exact ⟨rfl, h⟩))
/-- x == o, x of a built-in kind that declines -/
theorem rc_back {T : String} {x : Value} {f L : Addr} {h0 : Heap} {m : Str → Option Value} {od : Option Obj} {Q : Value → Shared → Prop} (hu : A.units < cLine) (F : Fr h0 L s.heap m) (X0 : K.In h0) (I : PySem.W.InstAt s.heap a (PySem.W.instObj C dx) C od) (one : oneThing? .Eq x (.ref a) = none) (hx : s.TypeIs x T) (sb : PySem.W.subIn K (.ref C) (.type T) = some false)
    (dec : ∀ {Q : Option Value → Shared → Prop}, Q none s → wpAny (model prog w) A (tryCompare x "__eq__" (.ref a)) Q E s) (at_ : PySem.W.findIn K (.ref C) "__eq__" = some (some (.ref f))) (fn : PySem.W.isFn K (.ref f) = true)
    (h : wpAny (model prog w) A (call (.ref f) [.ref a, x]) (PySem.W.CmpBack Q) E s) : wpAny (model prog w) A (richCompare .Eq x (.ref a)) Q E s := by
  have X := X0.keeps F.keep
  have two : wpAny (model prog w) A (tryCompare (.ref a) "__eq__" x) (fun r s' => ∃ v, r = some v ∧ Q v s') E s := by
    unfold tryCompare
    refine wpAny_bind (PySem.W.ifBound_K X I at_ fn (wpAny_mono h (fun v s' hv => ?_) fun _ _ e => e))
    cases v <;> first | exact False.elim hv | exact wpAny_pure ⟨_, rfl, hv⟩
  simp only [richCompare, cmpInfo_Eq, one]
  refine wpAny_holding (wpAny_bind (wpAny_cRoomFor hu (wpAny_bind (wpAny_typeOf hx (wpAny_bind (I.type.here ?_))))))
  split
  · refine wpAny_bind ((PySem.W.looks_subIn X sb).here ?_)
    simp only [Bool.false_eq_true, if_false, Bool.not_false, if_true]
    refine wpAny_bind (m := tryCompare x _ (.ref a)) (dec ?_)
    refine wpAny_bind (m := tryCompare (.ref a) _ x) (wpAny_mono two (fun r s' z => ?_) fun _ _ e => e)
    obtain ⟨v, rfl, hq⟩ := z
    exact wpAny_pure hq
  · rename_i q
    exact absurd (by simp) q
end
/-- C is below no built-in kind -/
def ClsR (K : PySem.W.Frag) (C : Addr) : Prop := ∀ t : Ty, t ≠ .own → PySem.W.subIn K (.ref C) (.type t.nm) = some false
def dOwnEqR (C : Addr) (sp : DSp) (gg : List D → List D → List D) (ta tb : DTE) : DTE := fun δ M Q E => ta δ M (fun x M1 => tb δ M1 (fun y M2 => insD y M2 (fun C' _ => C' = C) ∧ tyD x M2 (fun t => t ≠ .own) ∧ sp (gg [y, x] []) M2 (fun r M3 => ∃ b, r = .bl b ∧ Q (.bl b) M3) fun _ _ _ => False) E) E
section
variable {X : Cx} {W : WX} {pos : Pos} {a b : Expr} {ta tb : DTE} {k : Nat} {C : Addr} {ps : List Str} {sp : DSp} {pats : List Pat} {gg : List D → List D → List D}
def rOwnEqR (K : PySem.W.Frag) (F : Hp) (Qd : DK) (C : Addr) (sp : DSp) (gg : List D → List D → List D) : R2 := fun x y H1 Q1 => ∃ I1 M1 dx dy, HR K I1 M1 F H1 ∧ Rep K I1 x dx ∧ Rep K I1 y dy ∧ Fin K I1 F Qd Q1 ∧ insD dy M1 (fun C' _ => C' = C) ∧ tyD dx M1 (fun t => t ≠ .own) ∧ sp (gg [dy, dx] []) M1 (fun r M3 => ∃ b, r = .bl b ∧ Qd (.bl b) M3) fun _ _ _ => False
theorem op_ownEqR {F : Hp} {Qd : DK} (i : Nat) (mt : MtOk X.prog X.w X.K X.mg X.base k C "__eq__" ps sp pats) (c : ClsR X.K C) (ng : NoGd X.A) (rm : Room k X.A) (rm0 : Room 0 X.A) (hi : pats[i]? = some ⟨2, [], gg⟩) : OpR X (compareOp .Eq) (rOwnEqR X.K F Qd C sp gg) := by
  intro pins s σ H x y v u Q J rx ry h
  obtain ⟨I1, M1, dx, dy, hr1, r1, r2, fq, q1, q2, q3⟩ := h
  obtain ⟨p, C', dd, vs0, fs, rfl, hH, rf, rfl⟩ := insD_out hr1 r2 q1
  cases (show u = Value.ref p from ry)
  obtain ⟨f, me, fd, kb, G⟩ := mt.ex
  obtain ⟨mA, ins, _⟩ := ins_get J.hok hH
  obtain ⟨od, lk, _⟩ := ins.look
  obtain ⟨m, fr⟩ := J.fr
  have XX := J.kIn
  have at_ := lk.at_
  obtain ⟨bs, ys, bt, rb, rr⟩ := kb i _ hi s I1 [.ref p, v] [] [.ref p, x] [] [dy, dx] [] J.kIn (by rfl) (by rfl) (.cons rfl (.cons rx .nil)) .nil (.cons r2 (.cons r1 .nil)) .nil
  have pr : lSp X.K sp ys H (fun v H2 => ∃ b : Bool, v = .bl b ∧ Q (.bl b) H2) (fun _ _ _ => False) :=
    ⟨I1, M1, F, _, _, _, hr1, rr, q3, fun v M2 I2 H2 w ⟨b, e1, q⟩ s2 hr2 r2 => by subst e1; cases r2; exact ⟨b, rfl, fq _ M2 I2 H2 _ q s2 hr2 (.bl _)⟩, fun _ _ _ _ _ _ z => False.elim z⟩
  have fin : wpAny (model X.prog X.w) X.A (call (.ref f) [.ref p, v]) (PySem.W.CmpBack fun r s' => EP X pins σ Q r s') X.xe s := by
    refine wpAny_call (codeAny_mono (G.run X.A X.stack s H ⟨[.ref p, v], []⟩ bs ys _ (fun _ _ _ => False) ng rm J.env0 bt rb pr) fun r s' z => ?_)
    cases r with
    | error er => exact passL pins σ _ _ er s' J z
    | ok fl =>
      cases fl with
      | ret w =>
        obtain ⟨v, H2, J2, rv2, b, rfl, q⟩ := J.after z
        cases (show w = Value.bool b from rv2)
        exact ⟨.bl b, H2, J2, rfl, q⟩
      | next => exact False.elim z
      | brk => exact False.elim z
      | cont => exact False.elim z
  have hu : X.A.units < cLine := by have := rm0.un; omega
  have go : ∀ {t : Ty}, t ≠ .own → oneThing? .Eq v (.ref p) = none → s.TypeIs v t.nm → (∀ {Q : Option Value → Shared → Prop}, Q none s → wpAny (model X.prog X.w) X.A (tryCompare v "__eq__" (.ref p)) Q X.xe s) → wpAny (model X.prog X.w) X.A (richCompare .Eq v (.ref p)) (EP X pins σ Q) X.xe s := fun {t} ht one hx dec =>
    rc_back (a := p) hu fr J.ok.mod.kin lk one hx (c t ht) dec me.at_ me.fn fin
  show wpAny _ _ (richCompare .Eq v (.ref p)) _ _ _
  cases r1 with
  | non => cases (show v = Value.none from rx); exact go (t := .non) (fun z => nomatch z) rfl rfl fun h => tc_none h
  | bl b => cases (show v = Value.bool b from rx); exact go (t := .bl) (fun z => nomatch z) rfl rfl fun h => tc_bool at_ h
  | int i => obtain ⟨t, rfl⟩ := (show ∃ t, v = Value.int i t from rx); exact go (t := .int) (fun z => nomatch z) rfl (typeIs_int s i t) fun h => tc_int at_ h
  | str y => obtain ⟨t, rfl⟩ := (show ∃ t, v = Value.str y t from rx); exact go (t := .str) (fun z => nomatch z) rfl (typeIs_str s y t) fun h => tc_str at_ h
  | @lst l vs ds s1 rr1 =>
    cases (show v = Value.ref l from rx)
    obtain ⟨its, _, pl, _⟩ := J.list (SqL.of (hr1.imm _ _ s1))
    exact go (t := .lst) (fun z => nomatch z) rfl (by obtain ⟨o, e1, e2, _⟩ := pl.isList; exact ⟨o, e1, e2⟩) fun h => tc_list XX pl.isList at_ (c .lst fun z => nomatch z) h
  | @sq l vs ds s1 rr1 =>
    cases (show v = Value.ref l from rx)
    obtain ⟨its, _, pl, _⟩ := J.list (hr1.sq s1)
    exact go (t := .lst) (fun z => nomatch z) rfl (by obtain ⟨o, e1, e2, _⟩ := pl.isList; exact ⟨o, e1, e2⟩) fun h => tc_list XX pl.isList at_ (c .lst fun z => nomatch z) h
  | @tup l vs ds s1 rr1 =>
    cases (show v = Value.ref l from rx)
    obtain ⟨its, _, pl, _⟩ := J.tuple (hr1.st s1)
    exact go (t := .tup) (fun z => nomatch z) rfl (by obtain ⟨o, e1, e2, _⟩ := pl; exact ⟨o, e1, e2⟩) fun h => tc_tup XX pl at_ (c .tup fun z => nomatch z) h
  | @dct l vs ds s1 rr1 =>
    cases (show v = Value.ref l from rx)
    obtain ⟨o, es, n, e1, e2, e3, _⟩ := dct_sh J (hr1.imm _ _ s1)
    exact go (t := .dct) (fun z => nomatch z) rfl ⟨o, e1, e2⟩ fun h => tc_dict XX e1 e2 e3 at_ (c .dct fun z => nomatch z) h
  | ins s1 rr1 => exact False.elim q2
  | ty n => exact False.elim q2
  | ref l =>
    cases (show v = Value.ref l from rx)
    obtain ⟨m0, e0, q2⟩ := q2
    cases m0 with
    | lst xs =>
      obtain ⟨vs, e1, rr1⟩ := hr1.lst e0
      obtain ⟨its, _, pl, _⟩ := J.list (SqL.of e1)
      exact go (t := .lst) (fun z => nomatch z) rfl (by obtain ⟨o, e1, e2, _⟩ := pl.isList; exact ⟨o, e1, e2⟩) fun h => tc_list XX pl.isList at_ (c .lst fun z => nomatch z) h
    | dct xs =>
      obtain ⟨vs, e1, rr1⟩ := hr1.dct e0
      obtain ⟨o, es, n, e1, e2, e3, _⟩ := dct_sh J e1
      exact go (t := .dct) (fun z => nomatch z) rfl ⟨o, e1, e2⟩ fun h => tc_dict XX e1 e2 e3 at_ (c .dct fun z => nomatch z) h
    | exc C fs => exact absurd rfl q2
    | _ => exact False.elim q2
theorem d_ownEqR (i : Nat) (mt : MtOk X.prog X.w X.K X.mg X.base k C "__eq__" ps sp pats) (c : ClsR X.K C) (g : Good X W) (rm : Room k X.A) (rm0 : Room 0 X.A) (ha : DE X W a ta) (hb : DE X W b tb) (hi : pats[i]? = some ⟨2, [], gg⟩ := by rfl) (hm : behindInMarks .Eq b = false := by rfl) : DE X W (.Compare a [.Eq] [b] pos) (dOwnEqR C sp gg ta tb) := by
  refine ⟨fun pins s σ H Q J h => ?_⟩
  obtain ⟨I, M, F, δ, Qd, Ed, hr, rs, q, fq, fx⟩ := h
  refine (pe_cmpR (op_ownEqR (F := F) (Qd := Qd) i mt c g.ng rm rm0 hi) ha hb hm).run pins s σ H Q J ?_
  exact ⟨I, M, F, δ, _, Ed, hr, rs, q, fun x M1 I1 H1 v q1 s1 hr1 r1 => ⟨I1, M1, F, δ, _, Ed, hr1, rs.mono s1, q1, fun y M2 I2 H2 u q2 s2 hr2 r2 => ⟨I2, M2, x, y, hr2, r1.mono s2, r2, fq.mono (s1.trans s2), q2.1, q2.2.1, q2.2.2⟩, fx.mono s1⟩, fx⟩
theorem t_ownEqR (i : Nat) (mt : MtOk X.prog X.w X.K X.mg X.base k C "__eq__" ps sp pats) (c : ClsR X.K C) (g : Good X W) (rm : Room k X.A) (rm0 : Room 0 X.A) (ha : DE X W a ta) (hb : DE X W b tb) (hi : pats[i]? = some ⟨2, [], gg⟩ := by rfl) (hm : behindInMarks .Eq b = false := by rfl) : DT X W (.Compare a [.Eq] [b] pos) (dTest (dOwnEqR C sp gg ta tb)) := by
  refine ⟨fun pins s σ H Q J h => ?_⟩
  obtain ⟨I, M, F, δ, Qd, Ed, hr, rs, q, fq, fx⟩ := h
  refine (pt_cmpR (op_ownEqR (F := F) (Qd := fun d M => dB d fun b => Qd b M) i mt c g.ng rm rm0 hi) ha hb hm).run pins s σ H Q J ?_
  exact ⟨I, M, F, δ, _, Ed, hr, rs, q, fun x M1 I1 H1 v q1 s1 hr1 r1 => ⟨I1, M1, F, δ, _, Ed, hr1, rs.mono s1, q1, fun y M2 I2 H2 u q2 s2 hr2 r2 => ⟨I2, M2, x, y, hr2, r1.mono s2, r2, (finT fq).mono (s1.trans s2), q2.1, q2.2.1, q2.2.2⟩, fx.mono s1⟩, fx⟩
end
end DL

set_option Elab.async false
set_option linter.all false
set_option maxRecDepth 100000
set_option maxHeartbeats 2000000
namespace DL
open PySem PySem.Spec PyProof.Rows L2
/-! ## str(o) by an own __str__ -/
def dStrO (C : Addr) (sp : DSp) (gg : List D → List D → List D) (te : DTE) : DTE := fun δ M Q E => te δ M (fun d M1 => insD d M1 fun C' _ => C' = C ∧ sp (gg [d] []) M1 (fun r M2 => ∃ z : Str, r = .str z ∧ Q (.str z) M2) fun _ _ _ => False) E
section
variable {X : Cx} {W : WX} {pos p : Pos} {e : Expr} {te : DTE} {k : Nat} {C : Addr} {ps : List Str} {sp : DSp} {pats : List Pat} {gg : List D → List D → List D}
theorem d_strO (i : Nat) (mt : MtOk X.prog X.w X.K X.mg X.base k C "__str__" ps sp pats) (hm : X.mg "str" = none) (g : Good X W) (rm : Room (k + 2) X.A) (rm0 : Room 4 X.A) (he : DE X W e te) (hi : pats[i]? = some ⟨1, [], gg⟩ := by rfl) (hs : starEach [e] X.env = (false, eval e X.env) :: starEach [] X.env := by rfl) (hg : Gl X "str" := by rfl) (hpl : (backTo pos (starEach [] X.env)).any (·.1) = false := by rfl) :
    DE X W (.Call (.Name "str" p) [e] [] pos) (dStrO C sp gg te) := by
  refine ⟨fun pins s σ H Q J h => ?_⟩
  obtain ⟨I, M, F, δ, Qd, Ed, hr, rs, q, fq, fx⟩ := h
  let R : List V → Hp → VK → Prop := fun xs H1 Q1 => ∃ x I1 M1 d, xs = [x] ∧ HR X.K I1 M1 F H1 ∧ Rep X.K I1 x d ∧ Fin X.K I1 F Qd Q1 ∧ insD d M1 fun C' _ => C' = C ∧ sp (gg [d] []) M1 (fun r M2 => ∃ z : Str, r = .str z ∧ Qd (.str z) M2) fun _ _ _ => False
  have rule : CallR X (.type "str") R := by
    intro pins s σ H xs us Q J rv h
    obtain ⟨x, I1, M1, d, rfl, hr1, r1, fq, q1⟩ := h
    obtain ⟨u, rfl, ru⟩ := vals1 rv
    obtain ⟨a, C', dx, vs0, fs, rfl, hH, rf, rfl, q2⟩ := insD_out hr1 r1 q1
    cases (show u = Value.ref a from ru)
    obtain ⟨f, me, fd, kb, G⟩ := mt.ex
    obtain ⟨mA, ins, _⟩ := ins_get J.hok hH
    obtain ⟨od, lk, _⟩ := ins.look
    refine PySem.W.kso_call (by have := rm0.in1.in1.un; omega) J.kIn lk me.at_ me.fn ?_
    obtain ⟨bs, ys, bt, rb, rr⟩ := kb i _ hi s I1 [.ref a] [] [.ref a] [] [d] [] J.kIn (by rfl) (by rfl) (.cons rfl .nil) .nil (.cons r1 .nil) .nil
    have pr : lSp X.K sp ys H (fun v H2 => ∃ z : Str, v = .str z ∧ Q (.str z) H2) (fun _ _ _ => False) :=
      ⟨I1, M1, F, _, _, _, hr1, rr, q2, fun v M2 I2 H2 w ⟨z, e1, q⟩ s2 hr2 r2 => by subst e1; cases r2; exact ⟨z, rfl, fq _ M2 I2 H2 _ q s2 hr2 (.str _)⟩, fun _ _ _ _ _ _ z => False.elim z⟩
    have en := J.env0
    have en1 : Env0 X.prog X.w X.K X.mg X.base X.A.in1.in1 X.stack s H := ⟨en.frames, en.mod, en.bs, en.bsz, en.funs, en.frf, en.hok, en.bare⟩
    refine wpAny_call (codeAny_mono (G.run X.A.in1.in1 X.stack s H ⟨[.ref a], []⟩ bs ys _ (fun _ _ _ => False) (nogd_in1 (nogd_in1 g.ng)) rm.in1.in1 en1 bt rb pr) fun r s' z => ?_)
    cases r with
    | error er => exact passL pins σ _ _ er s' J z
    | ok fl =>
      cases fl with
      | ret w =>
        obtain ⟨v, H2, J2, rv2, zz, rfl, q⟩ := J.after z
        obtain ⟨t, rfl⟩ := (show ∃ t, w = Value.str _ t from rv2)
        exact ⟨.str zz, H2, J2, ⟨_, rfl⟩, q⟩
      | next => exact False.elim z
      | brk => exact False.elim z
      | cont => exact False.elim z
  refine (pe_callTy rule hg hm (by decide +kernel) (pa_cons he pa_nil hs) (by decide) (by decide) hs hpl).run pins s σ H Q J ?_
  exact ⟨I, M, F, δ, _, Ed, hr, rs, q, fun d M1 I1 H1 v q1 s1 hr1 r1 => ⟨v, I1, M1, d, rfl, hr1, r1, fq.mono s1, q1⟩, fx⟩
end
end DL

set_option Elab.async false
set_option linter.all false
set_option maxRecDepth 100000
set_option maxHeartbeats 2000000
namespace DL
open PySem PySem.Spec PyProof.Rows L2
open PySem.SeqAt
open PySem.MeetsSeq PySem.MeetsSeq2 PySem.MeetsSeq3
/-! ## o in xs, by an own __eq__ -/
section
variable {prog : Program} {w : World} {A : Around} {E : Value → Shared → Prop}
theorem cont_loop (l : Addr) (x : Value) (N : Nat) (I : Nat → Shared → Prop) (Yes : Shared → Prop) {R : Result → Shared → Prop}
    (turn : ∀ i s, I i s → ∃ (items : Array Value) (n : Nat), s.heap.get? l = some { cls := .type "list", data := .seq items n } ∧ items.size = N ∧ ∀ h : i < items.size, wpAny (model prog w) A.in1 (eqBool items[i] x) (fun r s' => if r = true then Yes s' else I (i + 1) s') (fun e s' => R (.error e) s') s)
    (no : ∀ s, I N s → R (.ok (.ret (.bool false))) s) (yes : ∀ s, Yes s → R (.ok (.ret (.bool true))) s) (k : Nat) :
    ∀ i : Nat, N - i = k → i ≤ N → ∀ s, I i s → wpAny (model prog w) A.in1 (Builtin.«list.__contains__.loop» ⟨[.ref l, x, rawInt i], []⟩) (GQ.FinOf prog w A R) (fun e s' => R (.error e) s') s := by
  induction k with
  | zero =>
    intro i hk hi s h
    obtain ⟨items, n, hl, hN, _⟩ := turn i s h
    have e : i = N := by omega
    have hR := no s (e ▸ h)
    obtain ⟨hp, g, d, tk, os⟩ := s
    wp_walk using AutoSeq1.wpAny_loadPart' hl
    rw [show items[((i : Nat) : Int).toNat]? = none from by simp; omega]
    wp_walk
    exact hR
  | succ k ih =>
    intro i hk hi s h
    obtain ⟨items, n, hl, hN, t⟩ := turn i s h
    have lt : i < items.size := by omega
    have t := t lt
    obtain ⟨hp, g, d, tk, os⟩ := s
    wp_walk using AutoSeq1.wpAny_loadPart' hl
    rw [show items[((i : Nat) : Int).toNat]? = some items[i] from by simp [lt]]
    refine wpAny_bind (wpAny_mono t (fun r s2 h2 => ?_) fun _ _ z => z)
    cases r with
    | true =>
      have h2 := yes s2 ((if_pos rfl).mp h2)
      obtain ⟨hp2, g2, d2, tk2, os2⟩ := s2
      wp_walk
      exact h2
    | false =>
      have h2 : I (i + 1) s2 := (if_neg Bool.false_ne_true).mp h2
      have hrc := ih (i + 1) (by omega) (by omega) s2 h2
      have ec : ((i : Int) + 1) = ((i + 1 : Nat) : Int) := by omega
      obtain ⟨hp2, g2, d2, tk2, os2⟩ := s2
      wp_walk
      rw [ec]
      exact ⟨plainId_quiet plain_contains_loop _, codeAny_builtin entry_contains_loop (by
        rw [Around.under_plainId plain_contains_loop _]
        exact hrc)⟩
theorem cont_list {s : Shared} (l : Addr) (x : Value) (N : Nat) (I : Nat → Shared → Prop) (Yes : Shared → Prop) {Q : Bool → Shared → Prop}
    (turn : ∀ i s, I i s → ∃ (items : Array Value) (n : Nat), s.heap.get? l = some { cls := .type "list", data := .seq items n } ∧ items.size = N ∧ ∀ h : i < items.size, wpAny (model prog w) A.in1 (eqBool items[i] x) (fun r s' => if r = true then Yes s' else I (i + 1) s') E s)
    (no : ∀ s, I N s → Q false s) (yes : ∀ s, Yes s → Q true s) (h : I 0 s) : wpAny (model prog w) A (contains (.ref l) x) Q E s := by
  obtain ⟨items, n, hl, hN, _⟩ := turn 0 s h
  refine wpAny_contains_slot (T := "list") ⟨_, hl, rfl⟩ F.slot_list_contains (wpAny_mono (GQ.call_here (Q := fun v s' => ∃ b, v = Value.bool b ∧ Q b s') F.slot_list_contains ⟨_, hl, rfl⟩ F.entry_list_contains (F.args_list_contains_2 _ _) ?_) (fun v s' hv => ?_) fun _ _ e => e)
  · have hrc := cont_loop (A := A) (R := wants (fun v s' => ∃ b, v = Value.bool b ∧ Q b s') E) l x N I Yes turn (fun s h => ⟨false, rfl, no s h⟩) (fun s h => ⟨true, rfl, yes s h⟩) N 0 (by omega) (Nat.zero_le _) s h
    obtain ⟨hp, g, d, tk, os⟩ := s
    wp_walk
    exact ⟨plainId_quiet plain_contains_loop _, codeAny_builtin entry_contains_loop (by
      rw [Around.under_plainId plain_contains_loop _]
      exact hrc)⟩
  · obtain ⟨b, rfl, hq⟩ := hv
    exact wpAny_truthy_bool hq
end
end DL

set_option Elab.async false
set_option linter.all false
set_option maxRecDepth 100000
set_option maxHeartbeats 2000000
namespace DL
open PySem PySem.Spec PyProof.Rows L2
def inOwn (C : Addr) (sp : DSp) (gg : List D → List D → List D) (x : D) (K : Bool → Mp → Prop) : List D → Mp → Prop
  | [], M => K false M
  | y :: r, M => K true M ∧ insD y M (fun C' _ => C' = C) ∧ sp (gg [y, x] []) M (fun v M2 => ∃ b, v = .bl b ∧ (b = true → K true M2) ∧ (b = false → inOwn C sp gg x K r M2)) fun _ _ _ => False
def dInOwn (g : Bool → Bool) (C : Addr) (sp : DSp) (gg : List D → List D → List D) (ta tb : DTE) : DTE := fun δ M Q E => ta δ M (fun x M1 => tb δ M1 (fun y M2 => ∃ fs ys, x = .ins C fs ∧ y = .lst ys ∧ inOwn C sp gg x (fun b M3 => Q (.bl (g b)) M3) ys M2) E) E
section
variable {X : Cx} {W : WX} {pos : Pos} {a b : Expr} {ta tb : DTE} {k : Nat} {C : Addr} {ps : List Str} {sp : DSp} {pats : List Pat} {gg : List D → List D → List D}
theorem own_contains (i0 : Nat) (mt : MtOk X.prog X.w X.K X.mg X.base k C "__eq__" ps sp pats) (ng : NoGd X.A) (rm : Room (k + 1) X.A) (rm0 : Room 2 X.A) (hi : pats[i0]? = some ⟨2, [], gg⟩) {pins : List (Addr × Obj)} {σ : L2.St} {s : Shared} {H F I1 : Hp} {M1 : Mp} {px l : Addr} {vs : List V} {ys : List D} {fs : List (Str × D)} {K : Bool → Mp → Prop} {Q : Bool → Shared → Prop}
    (J : L2.Inv X pins σ H s) (hr1 : HR X.K I1 M1 F H) (rx : Rep X.K I1 (.ref px) (.ins C fs)) (hl : I1 l = some (.lst vs)) (rr : Reps X.K I1 vs ys) (q : inOwn C sp gg (.ins C fs) K ys M1)
    (fin : ∀ b I' M' H' s', L2.Inv X pins σ H' s' → Same I1 I' → HR X.K I' M' F H' → K b M' → Q b s') : wpAny (model X.prog X.w) X.A (contains (.ref l) (.ref px)) Q X.xe s := by
  refine cont_list l (.ref px) ys.length (fun i s' => ∃ I' M' H', L2.Inv X pins σ H' s' ∧ Same I1 I' ∧ HR X.K I' M' F H' ∧ inOwn C sp gg (.ins C fs) K (ys.drop i) M') (fun s' => ∃ I' M' H', L2.Inv X pins σ H' s' ∧ Same I1 I' ∧ HR X.K I' M' F H' ∧ K true M') (fun i s' h => ?_) (fun s' h => ?_) (fun s' h => ?_) ⟨I1, M1, H, J, Same.refl I1, hr1, q⟩
  · obtain ⟨I', M', H', J', s1, hr', q'⟩ := h
    have hH := hr'.imm l _ (s1 _ _ hl)
    obtain ⟨z, its, n, rv, hpl, e⟩ := J'.lstM hH
    have ln : its.length = ys.length := by rw [← rr.len]; exact rv.length.symm
    refine ⟨its.toArray, n, e, by rw [List.size_toArray]; exact ln, fun h => ?_⟩
    have lt : i < ys.length := by rw [List.size_toArray] at h; omega
    rw [List.drop_eq_getElem_cons lt] at q'
    obtain ⟨kt, hins, hsp⟩ := q'
    obtain ⟨v, ev, ry⟩ := reps_get (rr.mono s1) i ys[i] (List.getElem?_eq_getElem lt)
    obtain ⟨u, eu, rvu⟩ := rv.get ev
    obtain ⟨p, C', dd, vs0, fs0, rfl, hHp, rf, rfl⟩ := insD_out hr' ry hins
    cases (show u = Value.ref p from rvu)
    have eit : its.toArray[i] = Value.ref p := by
      have : its[i]? = some (Value.ref p) := eu
      rw [List.getElem?_eq_getElem (by omega)] at this
      simpa using this
    rw [eit]
    by_cases hpp : p = px
    · subst hpp
      exact SeqAt.EqAt.same (A := X.A.in1) (s := s') (.ref p) X.prog X.w X.xe _ ((if_pos rfl).mpr ⟨I', M', H', J', s1, hr', kt⟩)
    · refine GQ.eqBool_refG hpp ?_
      obtain ⟨f, me, fd, kb, G⟩ := mt.ex
      obtain ⟨mA, ins, _⟩ := ins_get J'.hok hHp
      obtain ⟨od, lk, _⟩ := ins.look
      obtain ⟨m, fr⟩ := J'.fr
      have rx' := rx.mono s1
      obtain ⟨ox, odx, lkx⟩ : ∃ ox od, PySem.W.InstAt s'.heap px ox C' od := by
        cases rx' with
        | ins s2 rr2 =>
          obtain ⟨_, insx, _⟩ := ins_get J'.hok (hr'.imm _ _ s2)
          obtain ⟨odx, lkx, _⟩ := insx.look
          exact ⟨_, _, lkx⟩
      refine PySem.W.cmp_K (op := .Eq) (tb := .ref C') (by have := rm0.in1.un; omega) fr J'.ok.mod.kin lk lkx.type (by simp [PySem.W.notFirst]) me.at_ me.fn ?_
      obtain ⟨bs, ysV, bt, rb, rrb⟩ := kb i0 _ hi s' I' [.ref p, .ref px] [] [.ref p, .ref px] [] [ys[i], .ins C' fs] [] J'.kIn (by rfl) (by rfl) (.cons rfl (.cons rfl .nil)) .nil (.cons ry (.cons rx' .nil)) .nil
      have pr : lSp X.K sp ysV H' (fun v H2 => ∃ b : Bool, v = .bl b ∧ ∃ I2 M2, Same I' I2 ∧ HR X.K I2 M2 F H2 ∧ (b = true → K true M2) ∧ (b = false → inOwn C' sp gg (.ins C' fs) K (ys.drop (i + 1)) M2)) (fun _ _ _ => False) :=
        ⟨I', M', F, _, _, _, hr', rrb, hsp, fun v M2 I2 H2 w ⟨b, e1, k1, k2⟩ s2 hr2 r2 => by subst e1; cases r2; exact ⟨b, rfl, I2, M2, s2, hr2, k1, k2⟩, fun _ _ _ _ _ _ z => False.elim z⟩
      have en := J'.env0
      have en1 : Env0 X.prog X.w X.K X.mg X.base X.A.in1 X.stack s' H' := ⟨en.frames, en.mod, en.bs, en.bsz, en.funs, en.frf, en.hok, en.bare⟩
      refine wpAny_call (codeAny_mono (G.run X.A.in1 X.stack s' H' ⟨[.ref p, .ref px], []⟩ bs ysV _ (fun _ _ _ => False) (nogd_in1 ng) rm.in1 en1 bt rb pr) fun r s3 z => ?_)
      cases r with
      | error er => exact passL pins σ _ _ er s3 J' z
      | ok fl =>
        cases fl with
        | ret w =>
          obtain ⟨v, H2, J2, rv2, b, rfl, I2, M2, s2, hr2, k1, k2⟩ := J'.after z
          cases (show w = Value.bool b from rv2)
          refine ⟨b, rfl, ?_⟩
          cases b with
          | true => exact (if_pos rfl).mpr ⟨I2, M2, H2, J2, s1.trans s2, hr2, k1 rfl⟩
          | false => exact (if_neg Bool.false_ne_true).mpr ⟨I2, M2, H2, J2, s1.trans s2, hr2, k2 rfl⟩
        | next => exact False.elim z
        | brk => exact False.elim z
        | cont => exact False.elim z
  · obtain ⟨I', M', H', J', s1, hr', q'⟩ := h
    rw [List.drop_length] at q'
    exact fin false I' M' H' s' J' s1 hr' q'
  · obtain ⟨I', M', H', J', s1, hr', q'⟩ := h
    exact fin true I' M' H' s' J' s1 hr' q'
def rInOwn (K : PySem.W.Frag) (g : Bool → Bool) (F : Hp) (Qd : DK) (C : Addr) (sp : DSp) (gg : List D → List D → List D) : R2 := fun x y H1 Q1 => ∃ I1 M1 px l vs fs ys, x = .ref px ∧ y = .ref l ∧ HR K I1 M1 F H1 ∧ Rep K I1 (.ref px) (.ins C fs) ∧ I1 l = some (.lst vs) ∧ Reps K I1 vs ys ∧ Fin K I1 F Qd Q1 ∧ inOwn C sp gg (.ins C fs) (fun b M3 => Qd (.bl (g b)) M3) ys M1
theorem op_inOwn {F : Hp} {Qd : DK} (i : Nat) (mt : MtOk X.prog X.w X.K X.mg X.base k C "__eq__" ps sp pats) (ng : NoGd X.A) (rm : Room (k + 1) X.A) (rm0 : Room 2 X.A) (hi : pats[i]? = some ⟨2, [], gg⟩) : OpR X (compareOp .In) (rInOwn X.K id F Qd C sp gg) := by
  intro pins s σ H x y v u Q J rx ry h
  obtain ⟨I1, M1, px, l, vs, fs, ys, rfl, rfl, hr1, r1, hl, rr, fq, q⟩ := h
  cases (show v = Value.ref px from rx)
  cases (show u = Value.ref l from ry)
  show wpAny _ X.A (do return Value.bool (← contains (.ref l) (.ref px)) : Sem Value) _ _ s
  refine wpAny_bind (own_contains i mt ng rm rm0 hi J hr1 r1 hl rr q fun b I' M' H' s' J' s1 hr' kq => wpAny_pure ?_)
  exact ⟨.bl b, H', J', rfl, fq _ M' I' H' _ kq s1 hr' (.bl _)⟩
theorem d_inOwn (i : Nat) (mt : MtOk X.prog X.w X.K X.mg X.base k C "__eq__" ps sp pats) (g : Good X W) (rm : Room (k + 1) X.A) (rm0 : Room 2 X.A) (ha : DE X W a ta) (hb : DE X W b tb) (hi : pats[i]? = some ⟨2, [], gg⟩ := by rfl) (hm : behindInMarks .In b = false := by rfl) : DE X W (.Compare a [.In] [b] pos) (dInOwn id C sp gg ta tb) := by
  refine ⟨fun pins s σ H Q J h => ?_⟩
  obtain ⟨I, M, F, δ, Qd, Ed, hr, rs, q, fq, fx⟩ := h
  refine (pe_cmpR (op_inOwn (F := F) (Qd := Qd) i mt g.ng rm rm0 hi) ha hb hm).run pins s σ H Q J ?_
  refine ⟨I, M, F, δ, _, Ed, hr, rs, q, fun x M1 I1 H1 v q1 s1 hr1 r1 => ⟨I1, M1, F, δ, _, Ed, hr1, rs.mono s1, q1, fun y M2 I2 H2 u q2 s2 hr2 r2 => ?_, fx.mono s1⟩, fx⟩
  obtain ⟨fs, ys, rfl, rfl, q2⟩ := q2
  have r1 := r1.mono s2
  cases r2 with
  | lst s3 rr => cases r1 with
    | ins s4 rr4 => exact ⟨I2, M2, _, _, _, fs, ys, rfl, rfl, hr2, .ins s4 rr4, s3, rr, fq.mono (s1.trans s2), q2⟩
theorem t_inOwn (i : Nat) (mt : MtOk X.prog X.w X.K X.mg X.base k C "__eq__" ps sp pats) (g : Good X W) (rm : Room (k + 1) X.A) (rm0 : Room 2 X.A) (ha : DE X W a ta) (hb : DE X W b tb) (hi : pats[i]? = some ⟨2, [], gg⟩ := by rfl) (hm : behindInMarks .In b = false := by rfl) : DT X W (.Compare a [.In] [b] pos) (dTest (dInOwn id C sp gg ta tb)) := by
  refine ⟨fun pins s σ H Q J h => ?_⟩
  obtain ⟨I, M, F, δ, Qd, Ed, hr, rs, q, fq, fx⟩ := h
  refine (pt_cmpR (op_inOwn (F := F) (Qd := fun d M => dB d fun b => Qd b M) i mt g.ng rm rm0 hi) ha hb hm).run pins s σ H Q J ?_
  refine ⟨I, M, F, δ, _, Ed, hr, rs, q, fun x M1 I1 H1 v q1 s1 hr1 r1 => ⟨I1, M1, F, δ, _, Ed, hr1, rs.mono s1, q1, fun y M2 I2 H2 u q2 s2 hr2 r2 => ?_, fx.mono s1⟩, fx⟩
  obtain ⟨fs, ys, rfl, rfl, q2⟩ := q2
  have r1 := r1.mono s2
  cases r2 with
  | lst s3 rr => cases r1 with
    | ins s4 rr4 => exact ⟨I2, M2, _, _, _, fs, ys, rfl, rfl, hr2, .ins s4 rr4, s3, rr, (finT fq).mono (s1.trans s2), q2⟩
theorem op_ninOwn {F : Hp} {Qd : DK} (i : Nat) (mt : MtOk X.prog X.w X.K X.mg X.base k C "__eq__" ps sp pats) (ng : NoGd X.A) (rm : Room (k + 1) X.A) (rm0 : Room 2 X.A) (hi : pats[i]? = some ⟨2, [], gg⟩) : OpR X (compareOp .NotIn) (rInOwn X.K not F Qd C sp gg) := by
  intro pins s σ H x y v u Q J rx ry h
  obtain ⟨I1, M1, px, l, vs, fs, ys, rfl, rfl, hr1, r1, hl, rr, fq, q⟩ := h
  cases (show v = Value.ref px from rx)
  cases (show u = Value.ref l from ry)
  show wpAny _ X.A (do return Value.bool (!(← contains (.ref l) (.ref px))) : Sem Value) _ _ s
  refine wpAny_bind (own_contains i mt ng rm rm0 hi J hr1 r1 hl rr q fun b I' M' H' s' J' s1 hr' kq => wpAny_pure ?_)
  exact ⟨.bl (!b), H', J', rfl, fq _ M' I' H' _ kq s1 hr' (.bl _)⟩
theorem d_ninOwn (i : Nat) (mt : MtOk X.prog X.w X.K X.mg X.base k C "__eq__" ps sp pats) (g : Good X W) (rm : Room (k + 1) X.A) (rm0 : Room 2 X.A) (ha : DE X W a ta) (hb : DE X W b tb) (hi : pats[i]? = some ⟨2, [], gg⟩ := by rfl) (hm : behindInMarks .NotIn b = false := by rfl) : DE X W (.Compare a [.NotIn] [b] pos) (dInOwn not C sp gg ta tb) := by
  refine ⟨fun pins s σ H Q J h => ?_⟩
  obtain ⟨I, M, F, δ, Qd, Ed, hr, rs, q, fq, fx⟩ := h
  refine (pe_cmpR (op_ninOwn (F := F) (Qd := Qd) i mt g.ng rm rm0 hi) ha hb hm).run pins s σ H Q J ?_
  refine ⟨I, M, F, δ, _, Ed, hr, rs, q, fun x M1 I1 H1 v q1 s1 hr1 r1 => ⟨I1, M1, F, δ, _, Ed, hr1, rs.mono s1, q1, fun y M2 I2 H2 u q2 s2 hr2 r2 => ?_, fx.mono s1⟩, fx⟩
  obtain ⟨fs, ys, rfl, rfl, q2⟩ := q2
  have r1 := r1.mono s2
  cases r2 with
  | lst s3 rr => cases r1 with
    | ins s4 rr4 => exact ⟨I2, M2, _, _, _, fs, ys, rfl, rfl, hr2, .ins s4 rr4, s3, rr, fq.mono (s1.trans s2), q2⟩
theorem t_ninOwn (i : Nat) (mt : MtOk X.prog X.w X.K X.mg X.base k C "__eq__" ps sp pats) (g : Good X W) (rm : Room (k + 1) X.A) (rm0 : Room 2 X.A) (ha : DE X W a ta) (hb : DE X W b tb) (hi : pats[i]? = some ⟨2, [], gg⟩ := by rfl) (hm : behindInMarks .NotIn b = false := by rfl) : DT X W (.Compare a [.NotIn] [b] pos) (dTest (dInOwn not C sp gg ta tb)) := by
  refine ⟨fun pins s σ H Q J h => ?_⟩
  obtain ⟨I, M, F, δ, Qd, Ed, hr, rs, q, fq, fx⟩ := h
  refine (pt_cmpR (op_ninOwn (F := F) (Qd := fun d M => dB d fun b => Qd b M) i mt g.ng rm rm0 hi) ha hb hm).run pins s σ H Q J ?_
  refine ⟨I, M, F, δ, _, Ed, hr, rs, q, fun x M1 I1 H1 v q1 s1 hr1 r1 => ⟨I1, M1, F, δ, _, Ed, hr1, rs.mono s1, q1, fun y M2 I2 H2 u q2 s2 hr2 r2 => ?_, fx.mono s1⟩, fx⟩
  obtain ⟨fs, ys, rfl, rfl, q2⟩ := q2
  have r1 := r1.mono s2
  cases r2 with
  | lst s3 rr => cases r1 with
    | ins s4 rr4 => exact ⟨I2, M2, _, _, _, fs, ys, rfl, rfl, hr2, .ins s4 rr4, s3, rr, (finT fq).mono (s1.trans s2), q2⟩
end
end DL

set_option Elab.async false
set_option linter.all false
set_option maxRecDepth 100000
set_option maxHeartbeats 2000000
namespace DL
open PySem PySem.Spec PyProof.Rows L2
/-! ## plain things in a list or tuple of plain things -/
def eqF : D → D → Bool
  | .int i, .int j => i == j
  | .str s, .str t => s == t
  | .non, .non => true
  | .bl a, .bl b => a == b
  | .bl a, .int j => boolI a == j
  | .int i, .bl b => i == boolI b
  | _, _ => false
def inF (x : D) (ys : List D) : Bool := ys.any fun y => eqF y x
def dInF (g : Bool → Bool) : DR2 := fun x y M Q => ∃ ys, seqD M y = some ys ∧ flatD x = true ∧ ys.all flatD = true ∧ Q (.bl (g (inF x ys))) M
theorem eqF_V {K : PySem.W.Frag} {I : Hp} {v w : V} {x y : D} (r : Rep K I v x) (s : Rep K I w y) (hx : flatD x = true) (hy : flatD y = true) : eqV w v = eqF y x := by
  cases r <;> cases s <;> first | rfl | cases hx | cases hy
theorem reps_flat {K : PySem.W.Frag} {I : Hp} : ∀ {vs : List V} {ys : List D}, Reps K I vs ys → ys.all flatD = true → vs.all flatV = true
  | _, _, .nil, _ => rfl
  | _, _, .cons h t, e => by
    rw [List.all_cons, Bool.and_eq_true] at e
    rw [List.all_cons, flatD_out h e.1, reps_flat t e.2]; rfl
theorem inF_V {K : PySem.W.Frag} {I : Hp} {v : V} {x : D} (r : Rep K I v x) (hx : flatD x = true) : ∀ {vs : List V} {ys : List D}, Reps K I vs ys → ys.all flatD = true → inV v vs = inF x ys
  | _, _, .nil, _ => rfl
  | _, _, .cons h t, e => by
    rw [List.all_cons, Bool.and_eq_true] at e
    have ih := inF_V r hx t e.2
    unfold inV inF at ih ⊢
    rw [List.any_cons, List.any_cons, eqF_V r h hx e.1, ih]
theorem lr_inF {K : PySem.W.Frag} {neg : Bool} {g : Bool → Bool} (hg : ∀ c, g c = if neg = true then !c else c) : LR K (rIn K neg) (dInF g) := fun I M F H x y dx dy Qd Q hr rx ry q fq => by
  obtain ⟨ys, e, fl, fy, q⟩ := q
  obtain ⟨p, vs, rfl, hs, rr⟩ := seqD_out hr ry e
  refine ⟨p, vs, rfl, hs, flatD_out rx fl, reps_flat rr fy, ?_⟩
  have e2 : (if neg then !inV x vs else inV x vs) = g (inF dx ys) := by
    rw [hg, inF_V rx fl rr fy]
  rw [e2]
  exact fq _ M I H _ q (Same.refl I) hr (.bl _)
theorem lr_inF1 {K : PySem.W.Frag} : LR K (rIn K false) (dInF id) := lr_inF fun _ => rfl
theorem lr_inF2 {K : PySem.W.Frag} : LR K (rIn K true) (dInF not) := lr_inF fun _ => rfl
/-! ## a, b = a tuple or a list -/
def gdU (n : Nat) (t : DTGs) : DTG := fun d δ M Q E => asQ M d fun xs => xs.length = n ∧ t xs δ M Q E
theorem g_tupU {X : Cx} {W : WX} {es : List Expr} {t : DTGs} {pos : Pos} {k n : Nat} (hc : X.calm = true) (h : DGs X W es t) (hn : (assignEach es X.env).length = n := by rfl) (hst : (assignEach es X.env).findIdx? (·.1) = none := by rfl) : DG X W (.Tuple es k pos) (gdU n t) := by
  have one := pg_tup (k := k) (pos := pos) hc h hn hst
  have two := pg_lst (k := k) (pos := pos) hc h hn hst
  have both : PG X (.Tuple es k pos) (fun v σ H Q => gTup X.K n (lGs X.K W t) v σ H Q ∨ gLst X.K n (lGs X.K W t) v σ H Q) := ⟨fun pins s σ H v u Q I r q => q.elim (one.run pins s σ H v u Q I r) (two.run pins s σ H v u Q I r)⟩
  refine pg_imp both fun v σ H Q h => ?_
  obtain ⟨I, M, F, δ, d, Qd, Ed, hr, rs, r, q, fq, fx⟩ := h
  obtain ⟨a, vs, ds, rfl, hs, rr, hl, q⟩ := asQ_out hr r q
  rcases hs with hs | ⟨hs, _⟩
  · exact .inr ⟨a, vs, rfl, hs, by rw [rr.len]; exact hl, I, M, F, δ, ds, Qd, Ed, hr, rs, rr, q, fq, fx⟩
  · exact .inl ⟨a, vs, rfl, hs, by rw [rr.len]; exact hl, I, M, F, δ, ds, Qd, Ed, hr, rs, rr, q, fq, fx⟩
end DL

set_option Elab.async false
set_option linter.all false
set_option maxRecDepth 100000
set_option maxHeartbeats 4000000
namespace DL
open PySem L2
/-! ## names drawn, the first way: unlike ones -/
theorem But.put {b p : Addr} {M M1 : Mp} {o : MO} (h : But b M M1) (hp : M p = Option.none) : But b M (updM M1 p o) := fun a u n e => by
  rw [updM_ne (fun z => by rw [z, hp] at e; cases e)]; exact h a u n e
/-- a statement that stands there -/
theorem asm {p : Prop} (h : p) : p := h
theorem at0 {x : D} {r : List D} : atI (x :: r) 0 = some x := atI_nat (show (x :: r)[0]? = _ from rfl)
theorem at1 {x y : D} {r : List D} : atI (x :: y :: r) 1 = some y := atI_nat (show (x :: y :: r)[1]? = _ from rfl)
theorem at2 {x y z : D} {r : List D} : atI (x :: y :: z :: r) 2 = some z := atI_nat (show (x :: y :: z :: r)[2]? = _ from rfl)
theorem at3 {x y z u : D} {r : List D} : atI (x :: y :: z :: u :: r) 3 = some u := atI_nat (show (x :: y :: z :: u :: r)[3]? = _ from rfl)
theorem rng_from (n : Nat) : rngD 0 n = (List.range' 0 n).map fun i : Nat => D.int (i : Nat) := by
  unfold rngD
  rw [List.range_eq_range']
  exact List.map_congr_left fun i _ => by rw [Int.zero_add]
/-- texts made one by one, without drawing, each by its number -/
theorem comp_namesP {i : Nat} {te : DTE} {δ : DS} {k : List D → Mp → Prop} {M : Mp} {N : Nat} {P : Nat → Str → Prop} (hN : N ≤ 100) (el : ∀ (j : Nat) (R : DK), j < N → (∀ s, P j s → R (.str s) M) → te ((dwipe δ [i]).set i (some (.int (j : Nat)))) M R E0d)
    (q : ∀ ss : List Str, ss.length = N → (∀ (j : Nat) (s : Str), ss[j]? = some s → P j s) → k (ss.map D.str) M) : dComp (.one i) dYes te .data [i] δ k (rngD 0 N) [] M := by
  refine comp_rec (fun r acc M' => M' = M ∧ ∃ ss : List Str, acc = ss.map D.str ∧ ss.length + r.length = N ∧ r = (List.range' ss.length r.length).map (fun i : Nat => D.int (i : Nat)) ∧ ∀ (j : Nat) (s : Str), ss[j]? = some s → P j s) (fun acc M' j => ?_) (fun x r acc M' R j h => ?_) _ _ _ ⟨rfl, [], rfl, by rw [List.length_nil, rng_len]; omega, ?_, fun j s z => by simp at z⟩
  · obtain ⟨rfl, ss, rfl, h2, _, h1⟩ := j
    rw [List.length_nil] at h2
    exact ⟨by rw [List.length_map]; exact big_line (by omega), q ss (by omega) h1⟩
  · obtain ⟨rfl, ss, rfl, h2, h3, h1⟩ := j
    rw [List.length_cons, List.range'_succ, List.map_cons] at h3
    rw [List.length_cons] at h2
    injection h3 with e1 e2
    subst e1
    refine el ss.length R (by omega) fun s hs => h _ _ ⟨rfl, ss ++ [s], map_snoc D.str ss s, ?_, ?_, fun j t z => ?_⟩
    · rw [List.length_append, List.length_singleton]; omega
    · rw [List.length_append, List.length_singleton]; exact e2
    · rcases Nat.lt_trichotomy j ss.length with l | l | l
      · rw [List.getElem?_append_left l] at z; exact h1 j t z
      · subst l
        rw [List.getElem?_append_right (Nat.le_refl _), Nat.sub_self] at z
        cases z; exact hs
      · rw [List.getElem?_append_right (by omega)] at z
        have : ([s] : List Str)[j - ss.length]? = none := List.getElem?_eq_none (by rw [List.length_singleton]; omega)
        rw [this] at z; cases z
  · rw [List.length_nil, rng_len]; exact rng_from N
theorem nodup_of {P : Nat → Str → Prop} {ss : List Str} (h : ∀ (j : Nat) (s : Str), ss[j]? = some s → P j s) (d : ∀ i j s, i < j → j < ss.length → P i s → P j s → False) : ss.Nodup := by
  rw [List.nodup_iff_pairwise_ne, List.pairwise_iff_getElem]
  intro i j hi hj l e
  refine d i j _ l hj (h i _ (List.getElem?_eq_getElem hi)) ?_
  rw [e]
  exact h j _ (List.getElem?_eq_getElem hj)
theorem letter_code : ∀ i : _root_.Fin 26, atI letters.cps.toList ((i : Nat) : Int) = some (97 + (i : Nat)) := by decide +kernel
theorem letter_num {i : Int} {c : Nat} (h0 : 0 ≤ i) (h1 : i < 26) (h : atI letters.cps.toList i = some c) : c = 97 + i.toNat := by
  have z := letter_code ⟨i.toNat, by omega⟩
  rw [show ((i.toNat : Nat) : Int) = i by omega, h] at z
  cases z; rfl
theorem mid_inj {u t : Str} {c d : Nat} (h : u ++ sg1 c ++ t = u ++ sg1 d ++ t) : c = d := by
  have e := congrArg (fun s : Str => s.cps.toList) h
  simp only [str_app] at e
  have e := List.append_cancel_right e
  have e := List.append_cancel_left e
  simpa using e
theorem head_inj {t : Str} {c d : Nat} (h : sg1 c ++ t = sg1 d ++ t) : c = d := by
  have e := congrArg (fun s : Str => s.cps.toList) h
  simp only [str_app] at e
  have e := List.append_cancel_right e
  simpa using e
def spNamesD (cost : Nat) : DSp := fun ds M Q _ => ∃ (b : Addr) (sz : Int) (n : Nat), ds = [.ref b, .int sz] ∧ Bag M b n ∧ n < 900000 ∧ 0 ≤ sz ∧ sz ≤ 100 ∧ ∀ (M' : Mp) (ss : List Str), But b M M' → Bag M' b (n + cost) → (ss.length : Int) = sz → (∀ s ∈ ss, Nm s) → (sz ≤ 8 → ss.Nodup) → Q (.lst (ss.map D.str)) M'
theorem len_spNamesD {c : Nat} : ∀ ds M Q E, spNamesD c ds M Q E → ds.length = 2 := fun _ _ _ _ h => by obtain ⟨_, _, _, rfl, _⟩ := h; rfl
theorem mem_get {P : Str → Prop} {Q : Nat → Str → Prop} {ss : List Str} (h : ∀ (j : Nat) (s : Str), ss[j]? = some s → Q j s) (k : ∀ j s, Q j s → P s) : ∀ s ∈ ss, P s := fun s hs => by
  obtain ⟨j, hj⟩ := List.getElem?_of_mem hs
  exact k j s (h j s hj)
theorem names_aD : ∀ ds M Qd Ed, spNamesD 14 ds M Qd Ed → rNamesA (ends Qd Ed) (dstart ["_law_bag_here", "_law_size", "_law_letters", "_law_way", "_law_first", "_law_step", "_law_stem", "_law_at", "_law_head", "_law_tail", "_law_k"] ds) M := by
  intro ds M Qd Ed h
  obtain ⟨b, sz, n, rfl, hb, hn, s0, s8, q⟩ := h
  refine ⟨_, rfl, b, 3, n, rfl, hb, by omega, by decide, by decide, fun M1 way s1 hb1 w0 w1 => ?_⟩
  refine ⟨_, rfl, b, 26, n + 1, rfl, hb1, by omega, by decide, by decide, fun M2 fi s2 hb2 f0 f1 => ?_⟩
  refine ⟨(by show 4 ≤ sizeLine; decide), _, rfl, b, 4, n + 2, rfl, hb2, by omega, by decide, by decide, fun M3 v s3 hb3 v0 v1 => ?_⟩
  obtain ⟨st, e1, st0⟩ : ∃ s : Int, atI [D.int 1, .int 5, .int 7, .int 11] v = some (.int s) ∧ (s = 1 ∨ s = 5 ∨ s = 7 ∨ s = 11) := by
    rcases (by omega : v = 0 ∨ v = 1 ∨ v = 2 ∨ v = 3) with rfl | rfl | rfl | rfl <;> exact ⟨_, rfl, by decide⟩
  refine ⟨_, e1, ?_⟩
  refine ⟨⟨by decide, by decide⟩, (by show (rngD 0 7).length < sizeLine; decide +kernel), ?_⟩
  refine comp_draw (b := b) (i := 10) (j := 2) rfl rfl (by decide) (by decide) (rngD 0 7) [] M3 (n + 3) hb3 (by rw [rng_len]; omega) (fun _ z => nomatch z) (by rw [rng_len]; decide) fun M4 cs s4 hb4 l4 hc => ?_
  rw [rng_len] at hb4 l4
  simp only [List.length_nil, Nat.zero_add] at l4
  refine ⟨cs.map sg1, by rw [List.map_map]; rfl, ?_, ?_⟩
  · rw [sum_len, List.length_map, l4]; decide
  have lt : Lt (Txt.join "" (cs.map sg1)) := fun c h => by rw [join_cps] at h; exact hc c h
  have ll : (Txt.join "" (cs.map sg1)).length = 7 := by rw [join_len, l4]
  generalize Txt.join "" (cs.map sg1) = stem at *
  refine ⟨_, rfl, b, 8, n + 10, rfl, hb4, by omega, by decide, by decide, fun M5 at5 s5 hb5 a0 a1 => ?_⟩
  have s5 := (((s1.trans s2).trans s3).trans s4).trans s5
  have e100 : sz.toNat ≤ 100 := by omega
  have rl : ∀ k : Nat, k ≤ 100 → (rngD 0 k).length < sizeLine := fun k hk => by rw [rng_len]; exact Nat.lt_of_le_of_lt hk (by decide)
  have m8 : ∀ t : Int, 0 ≤ t % 8 ∧ t % 8 < 8 := fun t => ⟨Int.emod_nonneg _ (by decide), Int.emod_lt_of_pos _ (by decide)⟩
  have m26 : ∀ t : Int, 0 ≤ t % 26 ∧ t % 26 < 26 := fun t => ⟨Int.emod_nonneg _ (by decide), Int.emod_lt_of_pos _ (by decide)⟩
  refine ⟨_, rfl, ?_⟩
  refine br2 (fun e => ?_) (fun e => ?_)
  · refine ⟨_, rfl, ⟨by omega, by omega⟩, rl _ e100, ?_⟩
    obtain ⟨c, c1, c2⟩ := letter_at f0 f1
    refine comp_namesP (P := fun j s => Nm s ∧ s.length = 1 + ((at5 + 3 * (j : Nat)) % 8).toNat) e100 (fun j R j1 h => ?_) (fun ss hl hs => q M5 ss s5 (hb5.mono (by omega)) (by omega) (mem_get hs fun _ _ z => z.1) fun l8 => nodup_of hs fun i j s l1 l2 p1 p2 => ?_)
    · refine ⟨_, rfl, _, rfl, letters_size, c, c1, _, rfl, _, rfl, _, rfl, cmul (by decide) (by decide) (by omega) (by omega), (by show (0 : Int) < 8; decide), big_line (by omega), ?_, h _ ?_⟩
      · rw [sg_len, to_len (m8 _).1]; exact big_line (by omega)
      · have ln : (sg1 c ++ cutS stem none (some ((at5 + 3 * (j : Nat)) % 8))).length = 1 + ((at5 + 3 * (j : Nat)) % 8).toNat := by
          have := m8 (at5 + 3 * (j : Nat))
          rw [Str.length_append, sg_len, to_len (m8 _).1]; omega
        refine ⟨⟨?_, ?_, (Lt.one c2).app (lt.to (m8 _).1)⟩, ln⟩
        · rw [ln]; omega
        · have := m8 (at5 + 3 * (j : Nat))
          rw [ln]; omega
    · have := p1.2.symm.trans p2.2
      omega
  · refine ⟨_, rfl, _, rfl, b, 8, n + 11, rfl, hb5, by omega, by decide, by decide, fun M6 c6 s6 hb6 c0 c1 => ?_⟩
    refine ⟨big_line (by omega), ?_⟩
    have lt2 := lt.to c0
    have ll2 : (cutS stem none (some c6)).length ≤ 7 := by rw [to_len c0]; omega
    generalize cutS stem none (some c6) = stm at *
    refine ⟨_, rfl, _, rfl, big_line (by omega), _, rfl, _, rfl, big_line (by omega), (by show 2 ≤ sizeLine; decide), rfl, rfl, ?_⟩
    have hd := to_len (s := stm) a0
    have tl := from_len (s := stm) a0
    refine ⟨_, rfl, ⟨by omega, by omega⟩, rl _ e100, ?_⟩
    refine comp_namesP (P := fun j s => Nm s ∧ ∃ c, atI letters.cps.toList ((fi + st * (j : Nat)) % 26) = some c ∧ s = cutS stm none (some at5) ++ sg1 c ++ cutS stm (some at5) none) e100 (fun j R j1 h => ?_) (fun ss hl hs => q M6 ss (s5.trans s6) (hb6.mono (by omega)) (by omega) (mem_get hs fun _ _ z => z.1) fun l8 => nodup_of hs fun i j s l1 l2 p1 p2 => ?_)
    · have mb : 0 ≤ st * j ∧ st * j < 2000 := by
        rcases st0 with rfl | rfl | rfl | rfl <;> omega
      obtain ⟨c, c1, c2⟩ := letter_at (m26 (fi + st * j)).1 (m26 (fi + st * j)).2
      refine ⟨_, rfl, _, rfl, _, rfl, _, rfl, _, rfl, cmul (by omega) (by omega) (by omega) (by omega), (by show (0 : Int) < 26; decide), letters_size, c, c1, ?_, _, rfl, ?_, h _ ⟨?_, c, c1, rfl⟩⟩
      · rw [sg_len]; exact big_line (by omega)
      · rw [Str.length_append, sg_len]; exact big_line (by omega)
      · refine ⟨?_, ?_, ((lt2.to a0).app (Lt.one c2)).app (lt2.from a0)⟩
        · rw [Str.length_append, Str.length_append, sg_len]; omega
        · rw [Str.length_append, Str.length_append, sg_len]; omega
    · obtain ⟨_, c, h1, h2⟩ := p1
      obtain ⟨_, d, h3, h4⟩ := p2
      have e := mid_inj (h2.symm.trans h4)
      rw [letter_num (m26 _).1 (m26 _).2 h1, letter_num (m26 _).1 (m26 _).2 h3] at e
      have k1 := m26 (fi + st * (i : Nat))
      have k2 := m26 (fi + st * (j : Nat))
      rcases st0 with rfl | rfl | rfl | rfl <;> omega
end DL

set_option Elab.async false
set_option linter.all false
set_option maxRecDepth 100000
set_option maxHeartbeats 4000000
namespace DL
open PySem L2
/-! ## the law's outer loop -/
theorem law_for {lo hi : Int} {tb : DTS} {Dd : DEnds} {ns : List Int} {m : Nat} (h0 : 0 ≤ lo) (h1 : lo ≤ 64) (h2 : hi ≤ 64) (hn : ns.length ≤ 63)
    (body : ∀ (k : Int) (cs : List (Option D)) (M : Mp) (N : DS → Mp → Prop), 0 ≤ k → k < 100 → cs.length = m → (∀ c1 cs' M', cs'.length = m → N (some (.sq (ns.map D.int)) :: c1 :: cs') M') → tb { Dd with nx := N, ct := N, bk := Dd.nx } (some (.sq (ns.map D.int)) :: some (.int k) :: cs) M)
    (fin : ∀ c1 cs M, Dd.nx (some (.sq (ns.map D.int)) :: c1 :: cs) M) {cs : List (Option D)} (hc : cs.length = m) {c1 : Option D} {M : Mp} :
    dFor (iR1 (dCons (dCB dMax (dCons (dC (.int lo)) (dCons (dCB dMin (dCons (dC (.int hi)) (dCons (dCB dLen (dCons (dVar 0) (dNil))) (dNil)))) (dNil)))) (dNil))) (gdName 1) tb Dd (some (.sq (ns.map D.int)) :: c1 :: cs) M := by
  refine ⟨_, rfl, ?_⟩
  have bd : ∀ j : Int, 0 ≤ j → j ≤ 64 → (-(2 ^ 62) ≤ j ∧ j < 2 ^ 62) ∧ dLoop (gdName 1) tb .data (rngD 0 j.toNat) Dd (some (.sq (ns.map D.int)) :: c1 :: cs) M := by
    intro j j0 j1
    refine ⟨by omega, ?_⟩
    refine loop_rec (fun xs δ M => (∀ d ∈ xs, ∃ k : Int, d = .int k ∧ 0 ≤ k ∧ k < 100) ∧ ∃ c1 cs, δ = some (.sq (ns.map D.int)) :: c1 :: cs ∧ cs.length = m) ?_ ?_ _ _ _ ⟨fun d hd => ?_, _, _, rfl, hc⟩
    · rintro δ M ⟨_, c1, cs, rfl, _⟩
      exact fin c1 cs M
    · rintro x rs δ M' N ⟨hx, c1, cs, rfl, hl⟩ h
      obtain ⟨k, rfl, k0, k1⟩ := hx x List.mem_cons_self
      exact body k cs M' N k0 k1 hl fun c1 cs' M2 hl' => h _ _ ⟨fun d hd => hx d (List.mem_cons_of_mem _ hd), c1, cs', rfl, hl'⟩
    · obtain ⟨k, rfl, k0, k1⟩ := rng_mem hd
      exact ⟨k, rfl, by omega, by omega⟩
  have hl : (ns.map D.int).length ≤ 63 := by rw [List.length_map]; exact hn
  refine bd _ ?_ ?_
  all_goals (split <;> (try split) <;> omega)
end DL

set_option Elab.async false
set_option linter.all false
set_option maxRecDepth 100000
set_option maxHeartbeats 2000000
namespace DL
open PySem PySem.Spec PyProof.Rows L2
/-! ## a dict of the module: defs by texts -/
def mfRow (e : DictEntry) : Option (Str × Int × Addr) := match e.key, e.val with
  | .str x _, .ref y => some (x, e.hash, y)
  | _, _ => none
def mfOf (P : Params) (kvs : List (Str × Addr)) : List (Option (Str × Int × Addr)) := kvs.map fun p => some (p.1, PyData.keyHash P p.1, p.2)
def mfW (K : PySem.W.Frag) (a : Addr) : Option (List (Option (Str × Int × Addr))) := match K.lookup a with
  | some o => (match o.cls, o.dict, o.data, o.slots.isEmpty && !(a == sysModules) with
    | .type "dict", none, .dict es _, true => some (es.toList.map mfRow)
    | _, _, _, _ => none)
  | none => none
def getMf (kvs : List (Str × Addr)) (z : Str) : Option Addr := (kvs.find? fun p => decide (p.1 = z)).map (·.2)
structure MFun (K : PySem.W.Frag) (w : World) (a : Addr) (kvs : List (Str × Addr)) : Prop where
  kd : ∃ es n, KDict K w a es n
  has : ∀ z y, getMf kvs z = some y → PySem.W.nsIn K a z = some (some (.ref y))
  no : ∀ z, getMf kvs z = none → PySem.W.nsIn K a z = some none
theorem mf_lit {P : Params} : ∀ {l : List DictEntry} {kvs : List (Str × Addr)}, l.map mfRow = mfOf P kvs → PySem.W.KeysLit P l
  | [], _, _ => trivial
  | e :: r, [], h => by cases h
  | e :: r, (k, y) :: kvs, h => by
    obtain ⟨h1, h2⟩ := List.cons.inj (show mfRow e :: r.map mfRow = some (k, PyData.keyHash P k, y) :: mfOf P kvs from h)
    refine ⟨?_, mf_lit h2⟩
    unfold mfRow at h1
    split at h1
    · rename_i x t y' e1 e2
      have h3 := Option.some.inj h1
      simp only [Prod.mk.injEq] at h3
      exact ⟨x, t, e1, by rw [h3.1, h3.2.1]⟩
    · cases h1
theorem mf_find {P : Params} (z : Str) : ∀ {l : List DictEntry} {kvs : List (Str × Addr)}, l.map mfRow = mfOf P kvs → (getMf kvs z = none ∧ l.find? (·.key.isStr z) = none ∧ l.any (·.refKey) = false) ∨ ∃ y e, getMf kvs z = some y ∧ l.find? (·.key.isStr z) = some e ∧ e.val = .ref y
  | [], [], _ => .inl ⟨rfl, rfl, rfl⟩
  | [], _ :: _, h => by cases h
  | e :: r, [], h => by cases h
  | e :: r, (k, y) :: kvs, h => by
    obtain ⟨h1, h2⟩ := List.cons.inj (show mfRow e :: r.map mfRow = some (k, PyData.keyHash P k, y) :: mfOf P kvs from h)
    unfold mfRow at h1
    split at h1
    · rename_i x t y' e1 e2
      have h3 := Option.some.inj h1
      simp only [Prod.mk.injEq] at h3
      obtain ⟨rfl, _, rfl⟩ := h3
      have ek : e.key.isStr z = decide (x = z) := by
        rw [e1]
        show (x == z) = decide (x = z)
        exact Bool.beq_eq_decide_eq x z
      unfold getMf
      rw [List.find?_cons, List.find?_cons, ek]
      dsimp only
      by_cases hx : x = z
      · rw [decide_eq_true hx]
        exact .inr ⟨y', e, rfl, rfl, e2⟩
      · rw [decide_eq_false hx]
        rcases mf_find z h2 with ⟨a, b, c⟩ | ⟨a, b, c⟩
        · refine .inl ⟨a, b, ?_⟩
          rw [List.any_cons, c, Bool.or_false]
          unfold DictEntry.refKey
          rw [e1]
        · exact .inr ⟨a, b, c⟩
    · cases h1
theorem mf_ok {K : PySem.W.Frag} {w : World} {a : Addr} {kvs : List (Str × Addr)} (h : mfW K a = some (mfOf w.params kvs)) : MFun K w a kvs := by
  unfold mfW at h
  cases q : K.lookup a with
  | none => rw [q] at h; cases h
  | some o =>
    rw [q] at h
    dsimp only at h
    split at h
    · rename_i es n e1 e2 e3 e4
      have h := Option.some.inj h
      obtain ⟨oc, od, dt, osl⟩ := o
      cases e1; cases e2; cases e3
      simp only [Bool.and_eq_true] at e4
      have e5 : osl = #[] := Array.isEmpty_iff.mp e4.1
      subst e5
      have low : (a == sysModules) = false := by simpa using e4.2
      refine ⟨⟨es, n, q, mf_lit h, low⟩, fun z y hz => ?_, fun z hz => ?_⟩
      · rcases mf_find z h with ⟨g, _⟩ | ⟨y', e, g, f, v⟩
        · rw [g] at hz; cases hz
        · rw [g] at hz
          cases hz
          unfold PySem.W.nsIn
          rw [q]
          dsimp only
          rw [f]
          dsimp only
          rw [v]
      · rcases mf_find z h with ⟨g, f, c⟩ | ⟨y', e, g, f, v⟩
        · unfold PySem.W.nsIn
          rw [q]
          dsimp only
          rw [f]
          dsimp only
          rw [if_neg (by rw [c]; exact Bool.false_ne_true)]
        · rw [g] at hz; cases hz
    · cases h
def inMf (g : Bool → Bool) (kvs : List (Str × Addr)) : Str → Mp → DK → Prop := fun z M Q => Q (.bl (g (getMf kvs z).isSome)) M
def ixMf (kvs : List (Str × Addr)) : Str → Mp → DK → Prop := fun z M Q => ∃ y, getMf kvs z = some y ∧ Q (.ref y) M
section
variable {X : Cx} {W : WX} {pos p apos : Pos} {a e o : Expr} {ta te to : DTE} {x : Str} {kvs : List (Str × Addr)}
theorem d_inMf (hm : ∃ q, X.mg x = some (.ref q) ∧ MFun X.K X.w q kvs) (ha : DE X W a ta) (hg : Gl X x := by rfl) (hd : (x == ("__debug__" : Str)) = false := by decide) (hb : behindInMarks .In (.Name x p) = false := by rfl) : DE X W (.Compare a [.In] [.Name x p] pos) (dMd ta (inMf id kvs)) := by
  obtain ⟨q, hq, md⟩ := hm
  obtain ⟨es, n, kd⟩ := md.kd
  refine pe_imp (pe_cmpR (op_in_kd kd) ha (pe_glob (v := .ref q) hg hq rfl hd) hb) fun σ H Q h => ?_
  obtain ⟨I, M, F, δ, Qd, Ed, hr, rs, q0, fq, fx⟩ := h
  refine ⟨I, M, F, δ, _, Ed, hr, rs, q0, fun d M1 I1 H1 v q1 s1 hr1 r1 => ?_, fx⟩
  cases r1 with
  | str z =>
    have fin := fq _ M1 I1 H1 (.bl (getMf kvs z).isSome) q1 s1 hr1 (.bl _)
    cases e : getMf kvs z with
    | none => rw [e] at fin; exact ⟨z, none, rfl, rfl, md.no z e, fin⟩
    | some y =>
      rw [e] at fin
      have h := md.has z y e
      exact ⟨z, some _, rfl, rfl, h, fin⟩
  | _ => exact q1.elim
theorem t_inMf (hm : ∃ q, X.mg x = some (.ref q) ∧ MFun X.K X.w q kvs) (ha : DE X W a ta) (hg : Gl X x := by rfl) (hd : (x == ("__debug__" : Str)) = false := by decide) (hb : behindInMarks .In (.Name x p) = false := by rfl) : DT X W (.Compare a [.In] [.Name x p] pos) (dTest (dMd ta (inMf id kvs))) := by
  obtain ⟨q, hq, md⟩ := hm
  obtain ⟨es, n, kd⟩ := md.kd
  refine pt_imp (pt_cmpR (op_in_kd kd) ha (pe_glob (v := .ref q) hg hq rfl hd) hb) fun σ H Q h => ?_
  have h := test_lift h
  obtain ⟨I, M, F, δ, Qd, Ed, hr, rs, q0, fq, fx⟩ := h
  refine ⟨I, M, F, δ, _, Ed, hr, rs, q0, fun d M1 I1 H1 v q1 s1 hr1 r1 => ?_, fx⟩
  cases r1 with
  | str z =>
    have fin := fq _ M1 I1 H1 (.bl (getMf kvs z).isSome) q1 s1 hr1 (.bl _)
    cases e : getMf kvs z with
    | none => rw [e] at fin; exact ⟨z, none, rfl, rfl, md.no z e, fin⟩
    | some y =>
      rw [e] at fin
      have h := md.has z y e
      exact ⟨z, some _, rfl, rfl, h, fin⟩
  | _ => exact q1.elim
theorem d_ninMf (hm : ∃ q, X.mg x = some (.ref q) ∧ MFun X.K X.w q kvs) (ha : DE X W a ta) (hg : Gl X x := by rfl) (hd : (x == ("__debug__" : Str)) = false := by decide) (hb : behindInMarks .NotIn (.Name x p) = false := by rfl) : DE X W (.Compare a [.NotIn] [.Name x p] pos) (dMd ta (inMf not kvs)) := by
  obtain ⟨q, hq, md⟩ := hm
  obtain ⟨es, n, kd⟩ := md.kd
  refine pe_imp (pe_cmpR (op_notIn_kd kd) ha (pe_glob (v := .ref q) hg hq rfl hd) hb) fun σ H Q h => ?_
  obtain ⟨I, M, F, δ, Qd, Ed, hr, rs, q0, fq, fx⟩ := h
  refine ⟨I, M, F, δ, _, Ed, hr, rs, q0, fun d M1 I1 H1 v q1 s1 hr1 r1 => ?_, fx⟩
  cases r1 with
  | str z =>
    have fin := fq _ M1 I1 H1 (.bl (!(getMf kvs z).isSome)) q1 s1 hr1 (.bl _)
    cases e : getMf kvs z with
    | none => rw [e] at fin; exact ⟨z, none, rfl, rfl, md.no z e, fin⟩
    | some y =>
      rw [e] at fin
      have h := md.has z y e
      exact ⟨z, some _, rfl, rfl, h, fin⟩
  | _ => exact q1.elim
theorem t_ninMf (hm : ∃ q, X.mg x = some (.ref q) ∧ MFun X.K X.w q kvs) (ha : DE X W a ta) (hg : Gl X x := by rfl) (hd : (x == ("__debug__" : Str)) = false := by decide) (hb : behindInMarks .NotIn (.Name x p) = false := by rfl) : DT X W (.Compare a [.NotIn] [.Name x p] pos) (dTest (dMd ta (inMf not kvs))) := by
  obtain ⟨q, hq, md⟩ := hm
  obtain ⟨es, n, kd⟩ := md.kd
  refine pt_imp (pt_cmpR (op_notIn_kd kd) ha (pe_glob (v := .ref q) hg hq rfl hd) hb) fun σ H Q h => ?_
  have h := test_lift h
  obtain ⟨I, M, F, δ, Qd, Ed, hr, rs, q0, fq, fx⟩ := h
  refine ⟨I, M, F, δ, _, Ed, hr, rs, q0, fun d M1 I1 H1 v q1 s1 hr1 r1 => ?_, fx⟩
  cases r1 with
  | str z =>
    have fin := fq _ M1 I1 H1 (.bl (!(getMf kvs z).isSome)) q1 s1 hr1 (.bl _)
    cases e : getMf kvs z with
    | none => rw [e] at fin; exact ⟨z, none, rfl, rfl, md.no z e, fin⟩
    | some y =>
      rw [e] at fin
      have h := md.has z y e
      exact ⟨z, some _, rfl, rfl, h, fin⟩
  | _ => exact q1.elim
theorem d_ixMf (hm : ∃ q, X.mg x = some (.ref q) ∧ MFun X.K X.w q kvs) (ha : DE X W a ta) (hg : Gl X x := by rfl) (hd : (x == ("__debug__" : Str)) = false := by decide) (hs : PlainIx a := by intro _ _; rfl) : DE X W (.Subscript (.Name x p) a pos) (dMd ta (ixMf kvs)) := by
  obtain ⟨q, hq, md⟩ := hm
  obtain ⟨es, n, kd⟩ := md.kd
  refine pe_imp (pe_ix ix_kdict (pe_glob (v := .ref q) hg hq rfl hd) ha hs) fun σ H Q h => ?_
  obtain ⟨I, M, F, δ, Qd, Ed, hr, rs, q0, fq, fx⟩ := h
  refine ⟨I, M, F, δ, _, Ed, hr, rs, q0, fun d M1 I1 H1 v q1 s1 hr1 r1 => ?_, fx⟩
  cases r1 with
  | str z =>
    obtain ⟨y, e, q1⟩ := q1
    have h := md.has z y e
    exact ⟨q, z, .ref y, rfl, rfl, ⟨es, n, _, kd.at_, kd.lit, h, rfl⟩, fq _ M1 I1 H1 _ q1 s1 hr1 (.ref _)⟩
  | _ => exact q1.elim
end
theorem mf_ok2 {K : PySem.W.Frag} {w : World} {a : Addr} {kvs : List (Str × Addr)} {es : Array DictEntry} {n : Nat} (h : K.lookup a = some ⟨.type "dict", none, .dict es n, #[]⟩) (low : (a == sysModules) = false) (he : es.toList.map mfRow = mfOf w.params kvs) : MFun K w a kvs := by
  refine mf_ok ?_
  unfold mfW
  rw [h]
  dsimp only
  rw [show ((#[] : Array (Option Value)).isEmpty && !(a == sysModules)) = true from by rw [low]; rfl]
  exact congrArg some he
/-! ## a def as a value, called -/
structure FvOk (P : Program) (w : World) (K : PySem.W.Frag) (mg : Str → Option Value) (base : Heap) (k : Nat) (x : Str) (f : Addr) (ps : List Str) (sp : DSp) (pats : List Pat) : Prop where
  at_ : mg x = some (.ref f)
  kp : PySem.W.keepIn K (.ref f) = true
  ok : FnA P w K mg base k f ps sp pats
inductive TabV (X : Cx) (n : Nat) (ks : List Str) : List Ent → Prop
  | nil : TabV X n ks []
  | cons {k : Nat} {x : Str} {f : Addr} {ps : List Str} {sp : DSp} {pats : List Pat} {gg : List D → List D → List D} {r : List Ent} (i : Nat) (h : FvOk X.prog X.w X.K X.mg X.base k x f ps sp pats) (rm : Room k X.A) (hi : pats[i]? = some ⟨n, ks, gg⟩) (hr : TabV X n ks r) : TabV X n ks ((f, sp, gg) :: r)
section
variable {X : Cx} {W : WX} {es : List Expr} {kws : List Keyword} {ks ps : List Str} {ta tk : DTA} {pos p : Pos} {x : Str} {k n j : Nat} {to : DTE}
theorem TabV.get : ∀ {tab : List Ent}, TabV X n ks tab → ∀ {f : Addr} {Φ : DSp → (List D → List D → List D) → Prop}, dTab tab f Φ → ∃ (k : Nat) (x : Str) (ps : List Str) (sp : DSp) (pats : List Pat) (i : Nat) (gg : List D → List D → List D), FvOk X.prog X.w X.K X.mg X.base k x f ps sp pats ∧ Room k X.A ∧ pats[i]? = some ⟨n, ks, gg⟩ ∧ Φ sp gg
  | _, .nil, _, _, h => h.elim
  | _, .cons i h rm hi .nil, _, _, ⟨e, q⟩ => ⟨_, _, _, _, _, i, _, e ▸ h, rm, hi, q⟩
  | _, .cons i h rm hi (.cons i2 h2 rm2 hi2 r), _, _, q => by
    rcases q with ⟨e, q⟩ | q
    · exact ⟨_, _, _, _, _, i, _, e ▸ h, rm, hi, q⟩
    · exact TabV.get (.cons i2 h2 rm2 hi2 r) q
def dCallV (n j : Nat) (tab : List Ent) (to : DTE) (ta tk : DTA) : DTE := fun δ M Q E => to δ M (fun d M1 => ∃ f, d = .ref f ∧ dTab tab f fun sp gg => ta δ M1 (fun ds M2 => tk δ M2 (fun es M3 => ds.length = n ∧ es.length = j ∧ sp (gg ds es) M3 Q E) E) E) E
theorem d_callV {tab : List Ent} (ho : DE X W (.Name x p) to) (ht : TabV X n ks tab) (g : Good X W) (ha : ArgsOk X W pos es kws ks ta tk) (hj : ks.length = j := by rfl) : DE X W (.Call (.Name x p) es kws pos) (dCallV n j tab to ta tk) := by
  subst hj
  refine ⟨fun pins s σ H Q J h => ?_⟩
  obtain ⟨I, M, F, δ, Qd, Ed, hr, rs, q, fq, fx⟩ := h
  refine wpAny_Call_Name_kw (thn (PE.run ho pins s σ H (fun v H1 => ∃ I1 M1 d, Same I I1 ∧ HR X.K I1 M1 F H1 ∧ Rep X.K I1 v d ∧ ∃ f, d = .ref f ∧ dTab tab f fun sp gg => ta δ M1 (fun ds M2 => tk δ M2 (fun es M3 => ds.length = n ∧ es.length = ks.length ∧ sp (gg ds es) M3 Qd Ed) Ed) Ed) J
    ⟨I, M, F, δ, _, Ed, hr, rs, q, fun d M1 I1 H1 v q1 s1 hr1 r1 => ⟨I1, M1, d, s1, hr1, r1, q1⟩, fx⟩) fun u s1 z => ?_)
  obtain ⟨v, H1, J1, rv, I1, M1, d, e1, hr1, r1, f, rfl, q1⟩ := z
  cases r1
  cases (show u = Value.ref f from rv)
  obtain ⟨k, x, ps, sp, pats, i, gg, fv, rm, hi, q1⟩ := ht.get q1
  refine ha pins s1 σ H1 (.ref f) [] _ _ I1 M1 F δ Ed fv.kp J1 hr1 (rs.mono e1) q1 (fx.mono e1) fun us ws vs zs ds es' I2 M2 H2 s2 J2 rv rz e2 hr2 rd re q2 => ?_
  exact run_a i g rm fv.ok hi J2 rv rz hr2 rd re q2.1 q2.2.1 q2.2.2 (fq.mono (e1.trans e2)) (fx.mono (e1.trans e2))
theorem d_fv {f : Addr} {sp : DSp} {pats : List Pat} (h : FvOk X.prog X.w X.K X.mg X.base k x f ps sp pats) (hg : Gl X x := by rfl) (hd : (x == ("__debug__" : Str)) = false := by decide) : DE X W (.Name x p) (dC (.ref f)) := d_glob hg h.at_ (v := .ref f) rfl (fun _ => .ref f) hd
end
end DL

set_option Elab.async false
set_option linter.all false
set_option maxRecDepth 100000
set_option maxHeartbeats 2000000
namespace DL
open PySem PySem.Spec PyProof.Rows L2
/-! ## zip(xs, ys) of two lists, enumerate(xs) of a list -/
def zipD (xs ys : List D) : List D := List.zipWith (fun x y => D.tup [x, y]) xs ys
def asL2 (M : Mp) (x y : D) (k : List D → List D → Src → Prop) : Prop := match x, y with
  | .lst xs, .lst ys => k xs ys .data
  | .ref a, .ref b => ∃ xs ys, (M a = some (.lst xs) ∧ M b = some (.lst ys)) ∧ k xs ys (.two a xs b ys)
  | .ref a, .lst ys => ∃ xs, M a = some (.lst xs) ∧ k xs ys (.at a xs)
  | .lst xs, .ref b => ∃ ys, M b = some (.lst ys) ∧ k xs ys (.at b ys)
  | _, _ => False
def iZ (ta : DTA) : DTI := fun δ M R E => ta δ M (fun ds M1 => two ds fun x y => asL2 M1 x y fun xs ys src => R (zipD xs ys) src M1) E
def enumD (xs : List D) : List D := xs.zipIdx.map fun p => D.tup [.int (p.2 : Nat), p.1]
def iE (ta : DTA) : DTI := fun δ M R E => ta δ M (fun ds M1 => one ds fun x => asL M1 x fun xs src => R (enumD xs) src M1) E
section
variable {K : PySem.W.Frag} {I : Hp}
theorem zip_len2 {xs ys : List D} : (zipD xs ys).length = min xs.length ys.length := by unfold zipD; rw [List.length_zipWith]
theorem enum_len {xs : List D} : (enumD xs).length = xs.length := by unfold enumD; rw [List.length_map, List.length_zipIdx]
theorem get_of {α : Type} {xs : List α} {i : Nat} (h : i < xs.length) : ∃ x, xs[i]? = some x := ⟨xs[i], List.getElem?_eq_getElem h⟩
theorem dwalk_zip {a b : Addr} {ds es : List D} {src : Src} (h : ∀ I' M' F H, Same I I' → HR K I' M' F H → src.holds M' → ∃ vs ws, SqL K H a vs ∧ SqL K H b ws ∧ Reps K I' vs ds ∧ Reps K I' ws es) : DWalk K I (Itz K a b) (zipD ds es) src := by
  refine ⟨fun i I' M' F H hi s hr ho => ?_, fun I' M' F H s hr ho => ?_, fun i x I' M' F H H' hi s hr ho y => ?_⟩
  · obtain ⟨vs, ws, q1, q2, r1, r2⟩ := h I' M' F H s hr ho
    rw [zip_len2] at hi
    obtain ⟨v, hv⟩ := get_of (xs := vs) (i := i) (by rw [r1.len]; omega)
    obtain ⟨w, hw⟩ := get_of (xs := ws) (i := i) (by rw [r2.len]; omega)
    exact ⟨vs, ws, v, w, q1, q2, hv, hw⟩
  · obtain ⟨vs, ws, q1, q2, r1, r2⟩ := h I' M' F H s hr ho
    rw [zip_len2]
    exact ⟨vs, ws, q1, q2, by rw [r1.len, r2.len]; omega⟩
  · obtain ⟨vs, ws, q1, q2, r1, r2⟩ := h I' M' F H s hr ho
    obtain ⟨T, v, w, rfl, hT, rfl, k1, k2⟩ := y
    obtain ⟨d, e3, e4⟩ := r1.get (k1 vs q1)
    obtain ⟨e, e5, e6⟩ := r2.get (k2 ws q2)
    have s3 := same_new (o := .tup [v, w]) (hr.fresh hT).1
    refine ⟨_, .tup [d, e], s3, hr.newI hT _, ?_, .tup (.inl (.inl upd_same)) (.cons (e4.mono s3) (.cons (e6.mono s3) .nil))⟩
    unfold zipD
    rw [List.getElem?_zipWith, e3, e5]
theorem dwalk_enum {a : Addr} {ds : List D} {src : Src} (h : ∀ I' M' F H, Same I I' → HR K I' M' F H → src.holds M' → ∃ vs, SqL K H a vs ∧ Reps K I' vs ds) : DWalk K I (Ite K a) (enumD ds) src := by
  refine ⟨fun i I' M' F H hi s hr ho => ?_, fun I' M' F H s hr ho => ?_, fun i x I' M' F H H' hi s hr ho y => ?_⟩
  · obtain ⟨vs, q1, r1⟩ := h I' M' F H s hr ho
    rw [enum_len] at hi
    obtain ⟨v, hv⟩ := get_of (xs := vs) (i := i) (by rw [r1.len]; omega)
    exact ⟨vs, v, q1, hv⟩
  · obtain ⟨vs, q1, r1⟩ := h I' M' F H s hr ho
    rw [enum_len]
    exact ⟨vs, q1, by rw [r1.len]; omega⟩
  · obtain ⟨vs, q1, r1⟩ := h I' M' F H s hr ho
    obtain ⟨T, v, rfl, hT, rfl, k1⟩ := y
    obtain ⟨d, e3, e4⟩ := r1.get (k1 vs q1)
    have s3 := same_new (o := .tup [.int (i : Nat), v]) (hr.fresh hT).1
    refine ⟨_, .tup [.int (i : Nat), d], s3, hr.newI hT _, ?_, .tup (.inl (.inl upd_same)) (.cons (.int _) (.cons (e4.mono s3) .nil))⟩
    unfold enumD
    rw [List.getElem?_map, List.getElem?_zipIdx, e3]
    simp
end
section
variable {X : Cx} {W : WX} {e e2 : Expr} {ta : DTA} {p pos tpos : Pos} {elts : List Expr} {kk : Nat}
theorem i_zip (hm : X.mg "zip" = none) (ha : DA X W [e, e2] ta) (hg : Gl X "zip" := by rfl) (hs : starEach [e, e2] X.env = (false, eval e X.env) :: starEach [e2] X.env := by rfl) (hpl : (backTo pos (starEach [e2] X.env)).any (·.1) = false := by rfl) :
    DI X W (.Tuple elts kk tpos) (.Call (.Name "zip" p) [e, e2] [] pos) (iZ ta) := pi_imp (pi_zip hg hm ha hs hpl) fun σ H R q => by
  obtain ⟨I, M, F, δ, Rd, Ed, hr, rs, q, fq, fx⟩ := q
  refine ⟨I, M, F, δ, _, Ed, hr, rs, q, fun ds M1 I1 H1 vs q1 s1 hr1 r1 => ?_, fx⟩
  obtain ⟨v, w, d, e, rfl, rv, rw_, q1⟩ := two_out r1 q1
  cases rv with
  | @lst a us xs s rr => cases rw_ with
    | @lst b ws ys t tt => exact ⟨a, b, us, ws, rfl, SqL.of (hr1.imm _ _ s), SqL.of (hr1.imm _ _ t), fq _ .data M1 I1 H1 _ q1 trivial s1 hr1 (dwalk_zip fun I' M' F' H' s' hr' _ => ⟨us, ws, SqL.of (hr'.imm _ _ (s' _ _ s)), SqL.of (hr'.imm _ _ (s' _ _ t)), rr.mono s', tt.mono s'⟩)⟩
    | ref b =>
      obtain ⟨ys, e1, q1⟩ := q1
      obtain ⟨ws, e2, tt⟩ := hr1.lst e1
      exact ⟨a, b, us, ws, rfl, SqL.of (hr1.imm _ _ s), SqL.of e2, fq _ (.at b ys) M1 I1 H1 _ q1 e1 s1 hr1 (dwalk_zip fun I' M' F' H' s' hr' ho => by
        obtain ⟨ws', e3, t3⟩ := hr'.lst ho
        exact ⟨us, ws', SqL.of (hr'.imm _ _ (s' _ _ s)), SqL.of e3, rr.mono s', t3⟩)⟩
    | _ => exact False.elim q1
  | ref a => cases rw_ with
    | @lst b ws ys t tt =>
      obtain ⟨xs, e1, q1⟩ := q1
      obtain ⟨us, e2, rr⟩ := hr1.lst e1
      exact ⟨a, b, us, ws, rfl, SqL.of e2, SqL.of (hr1.imm _ _ t), fq _ (.at a xs) M1 I1 H1 _ q1 e1 s1 hr1 (dwalk_zip fun I' M' F' H' s' hr' ho => by
        obtain ⟨us', e3, r3⟩ := hr'.lst ho
        exact ⟨us', ws, SqL.of e3, SqL.of (hr'.imm _ _ (s' _ _ t)), r3, tt.mono s'⟩)⟩
    | ref b =>
      obtain ⟨xs, ys, ⟨e1, f1⟩, q1⟩ := q1
      obtain ⟨us, e2, rr⟩ := hr1.lst e1
      obtain ⟨ws, f2, tt⟩ := hr1.lst f1
      exact ⟨a, b, us, ws, rfl, SqL.of e2, SqL.of f2, fq _ (.two a xs b ys) M1 I1 H1 _ q1 ⟨e1, f1⟩ s1 hr1 (dwalk_zip fun I' M' F' H' s' hr' ho => by
        obtain ⟨us', e3, r3⟩ := hr'.lst ho.1
        obtain ⟨ws', f3, t3⟩ := hr'.lst ho.2
        exact ⟨us', ws', SqL.of e3, SqL.of f3, r3, t3⟩)⟩
    | _ => exact False.elim q1
  | _ => exact False.elim q1
theorem i_enum (hm : X.mg "enumerate" = none) (ha : DA X W [e] ta) (hg : Gl X "enumerate" := by rfl) (hs : starEach [e] X.env = [(false, eval e X.env)] := by rfl) :
    DI X W (.Tuple elts kk tpos) (.Call (.Name "enumerate" p) [e] [] pos) (iE ta) := pi_imp (pi_enum hg hm ha hs) fun σ H R q => by
  obtain ⟨I, M, F, δ, Rd, Ed, hr, rs, q, fq, fx⟩ := q
  refine ⟨I, M, F, δ, _, Ed, hr, rs, q, fun ds M1 I1 H1 vs q1 s1 hr1 r1 => ?_, fx⟩
  obtain ⟨v, d, rfl, rv, q1⟩ := one_out r1 q1
  cases rv with
  | @lst a us xs s rr => exact ⟨a, us, rfl, SqL.of (hr1.imm _ _ s), fq _ .data M1 I1 H1 _ q1 trivial s1 hr1 (dwalk_enum fun I' M' F' H' s' hr' _ => ⟨us, SqL.of (hr'.imm _ _ (s' _ _ s)), rr.mono s'⟩)⟩
  | @sq a us xs s rr => exact ⟨a, us, rfl, hr1.sq s, fq _ .data M1 I1 H1 _ q1 trivial s1 hr1 (dwalk_enum fun I' M' F' H' s' hr' _ => ⟨us, hr'.sq (sq_mono s' s), rr.mono s'⟩)⟩
  | ref a =>
    obtain ⟨xs, e1, q1⟩ := q1
    obtain ⟨us, e2, rr⟩ := hr1.lst e1
    exact ⟨a, us, rfl, SqL.of e2, fq _ (.at a xs) M1 I1 H1 _ q1 e1 s1 hr1 (dwalk_enum fun I' M' F' H' s' hr' ho => by
      obtain ⟨us', e3, r3⟩ := hr'.lst ho
      exact ⟨us', SqL.of e3, r3⟩)⟩
  | _ => exact False.elim q1
end
end DL

set_option Elab.async false
set_option linter.all false
set_option maxRecDepth 100000
set_option maxHeartbeats 4000000
namespace DL
open PySem PySem.Spec PyProof.Rows L2
theorem mono_subE (i : Nat) (c : Int) (j : Nat) : MonoG (gdSubL (dVar i) (dOp dSub (dC (.int c)) (dVar j))) := fun d δ M Q Q' h q => by
  obtain ⟨x, e1, y, e2, q⟩ := q
  refine ⟨x, e1, y, e2, ?_⟩
  cases y with
  | int k => cases x with
    | ref a => obtain ⟨xs, f1, l, f2, q⟩ := q; exact ⟨xs, f1, l, f2, h _ _ q⟩
    | _ => exact False.elim q
  | _ => exact False.elim q
/-! ## x == a text, x in [texts]: x of any kind -/
section
open AutoSeq1 (wpAny_loadPart')
open MeetsSeq SeqAt
variable {A : Around} {s : Shared}
theorem strEq_no_dict (z : Str) (tk : Tok) (d : Addr) (es : Array DictEntry) (ep : Nat) (od : Option Addr) (sl : Array (Option Value)) :
    Meets (Builtin.«str.__eq__» ⟨[.str z tk, .ref d], []⟩) (fun _ R sh => sh.heap.get? d = some { cls := .type "dict", dict := od, data := .dict es ep, slots := sl } ∧ R (.ok (.ret .notImplemented)) sh) := by
  refine .of_wp fun prog w Ar R sh q => ?_
  obtain ⟨hp, gs, dp, ts, os⟩ := sh
  obtain ⟨at_, q⟩ := q
  wp_walk using wpAny_loadPart' at_, wpAny_load at_
  exact ⟨_, rfl, q⟩
theorem dictEq_no_str (d : Addr) (es : Array DictEntry) (ep : Nat) (od : Option Addr) (sl : Array (Option Value)) (z : Str) (tk : Tok) :
    Meets (Builtin.«dict.__eq__» ⟨[.ref d, .str z tk], []⟩) (fun _ R sh => sh.heap.get? d = some { cls := .type "dict", dict := od, data := .dict es ep, slots := sl } ∧ R (.ok (.ret .notImplemented)) sh) := by
  refine .of_wp fun prog w Ar R sh q => ?_
  obtain ⟨hp, gs, dp, ts, os⟩ := sh
  obtain ⟨at_, q⟩ := q
  have sub := F.sub_str_dict
  wp_walk using wpAny_loadPart' at_, wpAny_load at_
  exact ⟨_, rfl, q⟩
theorem rc_dict_str {d : Addr} {es : Array DictEntry} {ep : Nat} {od : Option Addr} {sl : Array (Option Value)} (z : Str) (tk : Tok) (at_ : s.heap.get? d = some { cls := .type "dict", dict := od, data := .dict es ep, slots := sl }) (room : A.units < cLine) : RcAt A s (.ref d) (.str z tk) false := fun prog w E Q q =>
  rc_eq_decline_or (k := false) ⟨_, at_, rfl⟩ (typeIs_str s z tk) (by decide) F.sub_str_dict F.slot_dict_eq F.slot_str_eq_refl
    (fun _ r => call_meets F.slot_dict_eq ⟨_, at_, rfl⟩ F.entry_dict_eq (F.args_dict_eq_2 _ _) (dictEq_no_str d es ep od sl z tk) ⟨at_, r⟩)
    (fun _ r => call_meets F.slot_str_eq_refl (typeIs_str s z tk) F.entry_str_eq (F.args_str_eq_2 _ _) (strEq_no_dict z tk d es ep od sl) ⟨at_, r⟩)
    (fun _ r => wpAny_of_eq (rfl : isSame (.ref d) (.str z tk) = pure false) r) (.inr room) q
theorem rc_str_dict {d : Addr} {es : Array DictEntry} {ep : Nat} {od : Option Addr} {sl : Array (Option Value)} (z : Str) (tk : Tok) (at_ : s.heap.get? d = some { cls := .type "dict", dict := od, data := .dict es ep, slots := sl }) (room : A.units < cLine) : RcAt A s (.str z tk) (.ref d) false := fun prog w E Q q =>
  rc_eq_decline_or (k := false) (typeIs_str s z tk) ⟨_, at_, rfl⟩ (by decide) F.sub_dict_str F.slot_str_eq F.slot_dict_eq_refl
    (fun _ r => call_meets F.slot_str_eq (typeIs_str s z tk) F.entry_str_eq (F.args_str_eq_2 _ _) (strEq_no_dict z tk d es ep od sl) ⟨at_, r⟩)
    (fun _ r => call_meets F.slot_dict_eq_refl ⟨_, at_, rfl⟩ F.entry_dict_eq (F.args_dict_eq_2 _ _) (dictEq_no_str d es ep od sl z tk) ⟨at_, r⟩)
    (fun _ r => wpAny_of_eq (rfl : isSame (.str z tk) (.ref d) = pure false) r) (.inr room) q
theorem eq_str_dict {d : Addr} {es : Array DictEntry} {ep : Nat} {od : Option Addr} {sl : Array (Option Value)} (z : Str) (tk : Tok) (at_ : s.heap.get? d = some { cls := .type "dict", dict := od, data := .dict es ep, slots := sl }) (room : A.units < cLine) : EqAt A s (.str z tk) (.ref d) false := fun prog w E Q q => by
  unfold eqBool
  refine wpAny_holding (wpAny_ite_split (fun same => absurd (eq_of_beq same) nofun) fun _ => ?_)
  exact wpAny_bind (rc_str_dict z tk at_ room prog w E _ (wpAny_truthy_bool q))
end
/-- kinds whose == with a text is plain -/
def kindV (K : PySem.W.Frag) (H : Hp) (v : V) : Prop := flatV v = true ∨ ∃ a, v = .ref a ∧ ((∃ xs, SqL K H a xs) ∨ (∃ xs, SqT K H a xs) ∨ ∃ kvs, H a = some (.dK kvs))
def isSV (z : Str) : V → Bool
  | .str t => t == z
  | _ => false
section
variable {X : Cx} {pins : List (Addr × Obj)} {σ : L2.St} {H : Hp} {s : Shared} {A : Around}
theorem dk_at (J : L2.Inv X pins σ H s) {a : Addr} {kvs : List (Key × V)} (h : H a = some (.dK kvs)) : ∃ es ep od sl, s.heap.get? a = some { cls := .type "dict", dict := od, data := .dict es ep, slots := sl } := by
  obtain ⟨_, _, vs, _, o, es, ep, eo, ex, hd, _⟩ := dk_of J.hok h
  obtain ⟨oc, od, dt, sl⟩ := o
  cases ex.1; cases hd
  exact ⟨es, ep, od, sl, eo⟩
theorem in_eq (J : L2.Inv X pins σ H s) {v : V} {u : Value} (r : RelV v u) (k : kindV X.K H v) (z : Str) (tk : Tok) (room : A.units < cLine) : SeqAt.EqAt A s (.str z tk) u (isSV z v) := by
  rcases k with f | ⟨a, rfl, k⟩
  · have h := eqAt_V (A := A) (s := s) (y := .str z) (u := .str z tk) ⟨tk, rfl⟩ r rfl f
    have e : eqV (.str z) v = isSV z v := by
      cases v <;> first | rfl | exact BEq.comm
    rw [← e]; exact h
  · cases (show u = Value.ref a from r)
    rcases k with ⟨xs, h⟩ | ⟨xs, h⟩ | ⟨kvs, h⟩
    · obtain ⟨its, _, p, _⟩ := J.list h
      exact SeqAt.EqAt.str_list z tk p.isList room
    · obtain ⟨its, _, p, _⟩ := J.tuple h
      exact SeqAt.EqAt.str_tuple z tk p room
    · obtain ⟨es, ep, od, sl, e⟩ := dk_at J h
      exact eq_str_dict z tk e room
end
/-- x == z -/
def rEqS (K : PySem.W.Frag) : R2 := fun x y H Q => ∃ z, y = .str z ∧ kindV K H x ∧ Q (.bl (isSV z x)) H
/-- x in [texts] -/
def rInS2 (K : PySem.W.Frag) (g : Bool → Bool) : R2 := fun x y H Q => ∃ (a : Addr) (zs : List Str), y = .ref a ∧ (SqL K H a (zs.map V.str) ∨ SqT K H a (zs.map V.str)) ∧ kindV K H x ∧ Q (.bl (g (zs.any fun z => isSV z x))) H
section
variable {X : Cx}
theorem op_eqS {k : Nat} (rm : Room k X.A) : OpR X (compareOp .Eq) (rEqS X.K) := fun pins s σ H x y v u Q J rx ry h => by
  obtain ⟨z, rfl, kx, q⟩ := h
  rcases kx with f | ⟨a, rfl, kx⟩
  · cases x with
    | str t =>
      refine op_eq2 rm pins s σ H (.str t) (.str z) v u Q J rx ry (.inl ⟨rfl, ?_⟩)
      have e : decide (V.str t = V.str z) = isSV z (.str t) := by rw [dec_str]; rfl
      rw [e]; exact q
    | non =>
      cases (show v = Value.none from rx)
      obtain ⟨tk, rfl⟩ := ry
      exact SeqAt.RcAt.none_str z tk _ _ _ _ ⟨.bl false, H, J, rfl, q⟩
    | bl b =>
      cases (show v = Value.bool b from rx)
      obtain ⟨tk, rfl⟩ := ry
      exact SeqAt.RcAt.bool_str b z tk _ _ _ _ ⟨.bl false, H, J, rfl, q⟩
    | int i =>
      obtain ⟨t, rfl⟩ := rx
      obtain ⟨tk, rfl⟩ := ry
      exact SeqAt.RcAt.int_str i t z tk _ _ _ _ ⟨.bl false, H, J, rfl, q⟩
    | _ => cases f
  · cases (show v = Value.ref a from rx)
    obtain ⟨tk, rfl⟩ := ry
    have hu : X.A.units < cLine := by have := rm.un; omega
    rcases kx with ⟨xs, h⟩ | ⟨xs, h⟩ | ⟨kvs, h⟩
    · obtain ⟨its, _, p, _⟩ := J.list h
      exact SeqAt.RcAt.list_str z tk p.isList hu _ _ _ _ ⟨.bl false, H, J, rfl, q⟩
    · obtain ⟨its, _, p, _⟩ := J.tuple h
      exact SeqAt.RcAt.tuple_str z tk p hu _ _ _ _ ⟨.bl false, H, J, rfl, q⟩
    · obtain ⟨es, ep, od, sl, e⟩ := dk_at J h
      exact rc_dict_str z tk e hu _ _ _ _ ⟨.bl false, H, J, rfl, q⟩
theorem any_of (x : V) : ∀ {zs : List Str} {its : List Value}, Vals (zs.map V.str) its → (its.any fun w => match w with | .str t _ => isSV t x | _ => false) = zs.any fun z => isSV z x
  | [], _, .nil => rfl
  | z :: r, _, .cons h t => by
    obtain ⟨tk, rfl⟩ := h
    rw [List.any_cons, List.any_cons, any_of x t]
theorem item_str {zs : List Str} {its : List Value} (h : Vals (zs.map V.str) its) : ∀ w ∈ its, ∃ z tk, w = .str z tk := by
  induction zs generalizing its with
  | nil => cases h; exact fun _ z => nomatch z
  | cons z r ih =>
    cases h with
    | cons h t =>
      obtain ⟨tk, rfl⟩ := h
      intro w hw
      rcases List.mem_cons.mp hw with rfl | hw
      · exact ⟨z, tk, rfl⟩
      · exact ih t w hw
theorem op_inS2 {k : Nat} (rm : Room k X.A) : OpR X (compareOp .In) (rInS2 X.K id) := fun pins s σ H x y v u Q J rx ry h => by
  obtain ⟨a, zs, rfl, hs, kx, q⟩ := h
  cases (show u = Value.ref a from ry)
  have hu : X.A.in1.units < cLine := by have := rm.un; show X.A.units + 1 < cLine; omega
  have fin : ∀ {its : List Value}, Vals (zs.map V.str) its → Q (.bl (its.toArray.any fun w => match w with | .str t _ => isSV t x | _ => false)) H := fun r => by
    rw [List.any_toArray, any_of x r]; exact q
  have each : ∀ {its : List Value}, Vals (zs.map V.str) its → ∀ w ∈ its.toArray, SeqAt.EqAt X.A.in1 s w v (match w with | .str t _ => isSV t x | _ => false) := fun r w hw => by
    obtain ⟨z, tk, rfl⟩ := item_str r w (by simpa using hw)
    exact in_eq J rx kx z tk hu
  rcases hs with hs | hs
  · obtain ⟨its, r, p, _⟩ := J.list hs
    exact SeqAt.in_listAt _ p.isList (each r) ⟨.bl _, H, J, rfl, fin r⟩
  · obtain ⟨its, r, p, _⟩ := J.tuple hs
    exact SeqAt.in_tupleAt _ p (each r) ⟨.bl _, H, J, rfl, fin r⟩
theorem op_ninS2 {k : Nat} (rm : Room k X.A) : OpR X (compareOp .NotIn) (rInS2 X.K not) := fun pins s σ H x y v u Q J rx ry h => by
  obtain ⟨a, zs, rfl, hs, kx, q⟩ := h
  cases (show u = Value.ref a from ry)
  have hu : X.A.in1.units < cLine := by have := rm.un; show X.A.units + 1 < cLine; omega
  have fin : ∀ {its : List Value}, Vals (zs.map V.str) its → Q (.bl (!its.toArray.any fun w => match w with | .str t _ => isSV t x | _ => false)) H := fun r => by
    rw [List.any_toArray, any_of x r]; exact q
  have each : ∀ {its : List Value}, Vals (zs.map V.str) its → ∀ w ∈ its.toArray, SeqAt.EqAt X.A.in1 s w v (match w with | .str t _ => isSV t x | _ => false) := fun r w hw => by
    obtain ⟨z, tk, rfl⟩ := item_str r w (by simpa using hw)
    exact in_eq J rx kx z tk hu
  rcases hs with hs | hs
  · obtain ⟨its, r, p, _⟩ := J.list hs
    exact SeqAt.notIn_listAt _ p.isList (each r) ⟨.bl _, H, J, rfl, fin r⟩
  · obtain ⟨its, r, p, _⟩ := J.tuple hs
    exact SeqAt.notIn_tupleAt _ p (each r) ⟨.bl _, H, J, rfl, fin r⟩
end
/-! at data level -/
def kindD (M : Mp) : D → Prop
  | .ref a => ∃ m, M a = some m ∧ (match m with | .lst _ => True | .dct _ => True | _ => False)
  | .ty _ => False
  | .ins _ _ => False
  | _ => True
def isSD (z : Str) : D → Bool
  | .str t => t == z
  | _ => false
def dEqS : DR2 := fun x y M Q => match y with | .str z => kindD M x ∧ Q (.bl (isSD z x)) M | _ => False
def dInS2 (g : Bool → Bool) : DR2 := fun x y M Q => ∃ zs : List Str, seqD M y = some (zs.map D.str) ∧ kindD M x ∧ Q (.bl (g (wordIn x zs))) M
section
variable {K : PySem.W.Frag} {I F H : Hp} {M : Mp}
theorem kindD_out (hr : HR K I M F H) {v : V} {d : D} (r : Rep K I v d) (h : kindD M d) : kindV K H v ∧ ∀ z, isSV z v = isSD z d := by
  cases r with
  | non => exact ⟨.inl rfl, fun _ => rfl⟩
  | bl b => exact ⟨.inl rfl, fun _ => rfl⟩
  | int i => exact ⟨.inl rfl, fun _ => rfl⟩
  | str x => exact ⟨.inl rfl, fun _ => rfl⟩
  | lst s rr => exact ⟨.inr ⟨_, rfl, .inl ⟨_, SqL.of (hr.imm _ _ s)⟩⟩, fun _ => rfl⟩
  | sq s rr => exact ⟨.inr ⟨_, rfl, .inl ⟨_, hr.sq s⟩⟩, fun _ => rfl⟩
  | tup s rr => exact ⟨.inr ⟨_, rfl, .inr (.inl ⟨_, hr.st s⟩)⟩, fun _ => rfl⟩
  | dct s rr => exact ⟨.inr ⟨_, rfl, .inr (.inr ⟨_, hr.imm _ _ s⟩)⟩, fun _ => rfl⟩
  | ref a =>
    obtain ⟨m, e, h⟩ := h
    refine ⟨.inr ⟨_, rfl, ?_⟩, fun _ => rfl⟩
    obtain ⟨_, o, e1, ro⟩ := hr.mu a m e
    cases m with
    | lst ds => obtain ⟨vs, rfl, _⟩ := ro; exact .inl ⟨vs, SqL.of e1⟩
    | dct ds => obtain ⟨vs, rfl, _⟩ := ro; exact .inr (.inr ⟨vs, e1⟩)
    | _ => exact h.elim
  | ty n => exact h.elim
  | ins s rr => exact h.elim
theorem lr_eqS : LR K (rEqS K) dEqS := fun I M F H x y dx dy Qd Q hr rx ry q fq => by
  cases ry with
  | str z =>
    obtain ⟨k, q⟩ := q
    obtain ⟨k1, k2⟩ := kindD_out hr rx k
    exact ⟨z, rfl, k1, by rw [k2]; exact fq _ M I H _ q (Same.refl I) hr (.bl _)⟩
  | _ => exact False.elim q
theorem any_word (d : D) : ∀ zs : List Str, (zs.any fun z => isSD z d) = wordIn d zs
  | [] => by cases d <;> rfl
  | z :: r => by
    rw [List.any_cons, any_word d r]
    cases d with
    | str t =>
      show ((t == z) || decide (t ∈ r)) = decide (t ∈ z :: r)
      rw [Bool.beq_eq_decide_eq]
      by_cases e : t = z <;> simp [e]
    | _ => rfl
theorem lr_inS2 {g : Bool → Bool} : LR K (rInS2 K g) (dInS2 g) := fun I M F H x y dx dy Qd Q hr rx ry q fq => by
  obtain ⟨zs, e, k, q⟩ := q
  obtain ⟨p, vs, rfl, hs, rr⟩ := seqD_out hr ry e
  cases reps_words rr
  obtain ⟨k1, k2⟩ := kindD_out hr rx k
  refine ⟨p, zs, rfl, hs, k1, ?_⟩
  rw [show (zs.any fun z => isSV z x) = wordIn dx zs from by rw [← any_word]; congr 1; funext z; exact k2 z]
  exact fq _ M I H _ q (Same.refl I) hr (.bl _)
end
end DL

set_option Elab.async false
set_option linter.all false
set_option maxRecDepth 100000
set_option maxHeartbeats 4000000
namespace DL
open PySem PySem.Spec PyProof.Rows L2
/-! ## devices: what is due of the seven things -/
inductive Du where
  | nm (d : D) | num (d : D) | ok
def intO : D → Int
  | .int i => i
  | _ => 0
def due (d0 d1 d2 d3 d4 d5 d6 : D) : Du :=
  bif !nameD d0 then .nm d0 else bif !isN d1 && !nameD d1 then .nm d1 else bif !wholeD d2 0 100 then .num d2 else bif !wholeD d3 0 (intO d2) then .num d3 else
  bif !wholeD d4 0 5 then .num d4 else bif !wholeD d5 0 5 then .num d5 else bif !wholeD d6 0 9 then .num d6 else .ok
def spNeed (cNum : Addr) : DSp := fun ds M Q E => ∃ d h, ds = [d, .int h] ∧ Th M d ∧ br (wholeD d 0 h) (Q .non M) (E (.ref cNum) (some [("found", d)]) M)
def spDev (C cNm cNum : Addr) : DSp := fun ds M Q E => ∃ x d0 d1 d2 d3 d4 d5 d6, ds = [.ref x, d0, d1, d2, d3, d4, d5, d6] ∧ M x = some (.ins C []) ∧ (∀ d ∈ [d0, d1, d2, d3, d4, d5, d6], Th M d) ∧
  (match due d0 d1 d2 d3 d4 d5 d6 with
    | .nm d => E (.ref cNm) (some [("found", d)]) M
    | .num d => E (.ref cNum) (some [("found", d)]) M
    | .ok => Q .non (updM M x (.ins C [("whole", .tup [d0, d1, d2, d3, d4, d5, d6])])))
theorem len_spNeed {c : Addr} : ∀ ds M Q E, spNeed c ds M Q E → ds.length = 2 := fun _ _ _ _ h => by obtain ⟨_, _, rfl, _⟩ := h; rfl
theorem len_spDev {a b c : Addr} : ∀ ds M Q E, spDev a b c ds M Q E → ds.length = 8 := fun _ _ _ _ h => by obtain ⟨_, _, _, _, _, _, _, _, rfl, _⟩ := h; rfl
def rNeed (cNum : Addr) : DTS := dIf (dNot (dTruth (dCall spW (dCons (dVar 0) (dCons (dC (.int 0)) (dCons (dVar 1) (dNil))))))) (dRaise cNum "found" (dVar 0)) (dNext)
def rDev2 (C cNum : Addr) : DTS :=
  (dSeq (dDrop (dCall (spNeed cNum) (dCons (dVar 3) (dCons (dC (.int 100)) (dNil)))))
  (dSeq (dDrop (dCall (spNeed cNum) (dCons (dVar 4) (dCons (dVar 3) (dNil)))))
  (dSeq (dDrop (dCall (spNeed cNum) (dCons (dVar 5) (dCons (dC (.int 5)) (dNil)))))
  (dSeq (dDrop (dCall (spNeed cNum) (dCons (dVar 6) (dCons (dC (.int 5)) (dNil)))))
  (dSeq (dDrop (dCall (spNeed cNum) (dCons (dVar 7) (dCons (dC (.int 9)) (dNil)))))
  (dSetF [C] "whole" (dVar 0) (dTup (dCons (dVar 1) (dCons (dVar 2) (dCons (dVar 3) (dCons (dVar 4) (dCons (dVar 5) (dCons (dVar 6) (dCons (dVar 7) (dNil)))))))))))))))
def rDev (C cNm cNum : Addr) : DTS :=
  dSeq (dIf (dNot (dTruth (dCall spN (dCons (dVar 1) (dNil))))) (dRaise cNm "found" (dVar 1)) (dNext))
  (dSeq (dIf (dAnd (dTest (dOp dIsNot (dVar 2) (dC .non))) (dNot (dTruth (dCall spN (dCons (dVar 2) (dNil)))))) (dRaise cNm "found" (dVar 2)) (dNext))
  (rDev2 C cNum))
theorem need_ok {c : Addr} : ∀ ds M Qd Ed, spNeed c ds M Qd Ed → rNeed c (ends Qd Ed) (dstart ["thing", "high"] ds) M := by
  intro ds M Qd Ed h
  obtain ⟨d, h, rfl, th, q⟩ := h
  refine ⟨_, rfl, _, rfl, d, 0, h, rfl, th, ?_⟩
  cases hw : wholeD d 0 h with
  | true => rw [hw] at q; exact q
  | false => rw [hw] at q; exact ⟨_, rfl, q⟩
theorem mem7 {P : D → Prop} {d0 d1 d2 d3 d4 d5 d6 : D} (h : ∀ d ∈ [d0, d1, d2, d3, d4, d5, d6], P d) : P d0 ∧ P d1 ∧ P d2 ∧ P d3 ∧ P d4 ∧ P d5 ∧ P d6 :=
  ⟨h _ (by simp), h _ (by simp), h _ (by simp), h _ (by simp), h _ (by simp), h _ (by simp), h _ (by simp)⟩
theorem whole_int {d : D} {l h : Int} (e : wholeD d l h = true) : ∃ i, d = .int i ∧ l ≤ i ∧ i ≤ h := by
  cases d with
  | int i =>
    have e : (decide (l ≤ i) && decide (i ≤ h)) = true := e
    rw [Bool.and_eq_true, decide_eq_true_eq, decide_eq_true_eq] at e
    exact ⟨i, rfl, e.1, e.2⟩
  | _ => cases e
theorem dev_ok {C cNm cNum : Addr} : ∀ ds M Qd Ed, spDev C cNm cNum ds M Qd Ed → rDev C cNm cNum (ends Qd Ed) (dstart ["self", "name", "parent", "burn", "sip", "wake", "fall", "rest"] ds) M := by
  intro ds M Qd Ed h
  obtain ⟨x, d0, d1, d2, d3, d4, d5, d6, rfl, hx, th, q⟩ := h
  obtain ⟨h0, h1, h2, h3, h4, h5, h6⟩ := mem7 th
  unfold due at q
  refine ⟨_, rfl, d0, rfl, h0, ?_⟩
  cases c0 : nameD d0 with
  | false => rw [c0] at q; exact ⟨_, rfl, q⟩
  | true =>
  rw [c0] at q
  have rest : (match (bif !wholeD d2 0 100 then Du.num d2 else bif !wholeD d3 0 (intO d2) then .num d3 else bif !wholeD d4 0 5 then .num d4 else bif !wholeD d5 0 5 then .num d5 else bif !wholeD d6 0 9 then .num d6 else .ok) with
    | .nm d => Ed (.ref cNm) (some [("found", d)]) M
    | .num d => Ed (.ref cNum) (some [("found", d)]) M
    | .ok => Qd .non (updM M x (.ins C [("whole", .tup [d0, d1, d2, d3, d4, d5, d6])]))) → rDev2 C cNum (ends Qd Ed) [some (.ref x), some d0, some d1, some d2, some d3, some d4, some d5, some d6] M := by
    intro q
    refine ⟨_, rfl, d2, 100, rfl, h2, ?_⟩
    cases c2 : wholeD d2 0 100 with
    | false => rw [c2] at q; exact q
    | true =>
    rw [c2] at q
    obtain ⟨i2, rfl, i20, i21⟩ := whole_int c2
    refine ⟨_, rfl, _, rfl, d3, i2, rfl, h3, ?_⟩
    cases c3 : wholeD d3 0 i2 with
    | false => rw [show intO (.int i2) = i2 from rfl, c3] at q; exact q
    | true =>
    rw [show intO (.int i2) = i2 from rfl, c3] at q
    refine ⟨_, rfl, d4, 5, rfl, h4, ?_⟩
    cases c4 : wholeD d4 0 5 with
    | false => rw [c4] at q; exact q
    | true =>
    rw [c4] at q
    refine ⟨_, rfl, d5, 5, rfl, h5, ?_⟩
    cases c5 : wholeD d5 0 5 with
    | false => rw [c5] at q; exact q
    | true =>
    rw [c5] at q
    refine ⟨_, rfl, d6, 9, rfl, h6, ?_⟩
    cases c6 : wholeD d6 0 9 with
    | false => rw [c6] at q; exact q
    | true =>
    rw [c6] at q
    exact ⟨_, rfl, _, rfl, _, rfl, _, rfl, _, rfl, _, rfl, _, rfl, (Nat.le_of_ble_eq_true rfl), _, rfl, _, _, hx, List.mem_cons_self, (Nat.le_of_ble_eq_true rfl), q⟩
  refine ⟨_, rfl, ?_⟩
  refine br2 (fun e => ?_) (fun e => ?_)
  · have c1 : isN d1 = false := by simpa using e
    rw [c1] at q
    refine ⟨_, rfl, d1, rfl, h1, ?_⟩
    cases c1' : nameD d1 with
    | false => rw [c1'] at q; exact ⟨_, rfl, q⟩
    | true => rw [c1'] at q; exact rest q
  · have c1 : isN d1 = true := by simpa using e
    rw [c1] at q
    exact rest q
/-! ## rows of logs: what their words are -/
def Tk (M : Mp) (d : D) : Prop := Th M d ∧ kindD M d
def Dq : Nat → Mp → D → Prop
  | 0, M, d => Tk M d
  | n + 1, M, d => Tk M d ∧ ∀ xs, d = .tup xs → xs.length ≤ 1000 ∧ ∀ x ∈ xs, Dq n M x
theorem Dq.tk {n : Nat} {M : Mp} {d : D} (h : Dq n M d) : Tk M d := by
  cases n with
  | zero => exact h
  | succ n => exact h.1
theorem Dq.th {n : Nat} {M : Mp} {d : D} (h : Dq n M d) : Th M d := h.tk.1
theorem Dq.in {n : Nat} {M : Mp} {xs : List D} (h : Dq (n + 1) M (.tup xs)) {x : D} (m : x ∈ xs) : Dq n M x := (h.2 xs rfl).2 x m
theorem Dq.down {n : Nat} {M : Mp} : ∀ {d : D}, Dq (n + 1) M d → Dq n M d := by
  induction n with
  | zero => exact fun h => h.1
  | succ n ih => exact fun h => ⟨h.1, fun xs e => ⟨(h.2 xs e).1, fun x hx => ih ((h.2 xs e).2 x hx)⟩⟩
theorem Dq.tup {n : Nat} {M : Mp} {xs : List D} (l : xs.length ≤ 1000) (h : ∀ x ∈ xs, Dq n M x) : Dq (n + 1) M (.tup xs) := ⟨⟨trivial, trivial⟩, fun ys e => by cases e; exact ⟨l, h⟩⟩
theorem Dq.flat {n : Nat} {M : Mp} {d : D} (h : Tk M d) (t : ∀ xs, d ≠ .tup xs) : Dq n M d := by
  cases n with
  | zero => exact h
  | succ n => exact ⟨h, fun xs e => absurd e (t xs)⟩
theorem Th.ext {M M' : Mp} (x : Ext M M') {d : D} (h : Th M d) : Th M' d := by
  cases d with
  | ref a => obtain ⟨m, e, k⟩ := h; exact ⟨m, x _ _ e, k⟩
  | _ => exact h
theorem Tk.ext {M M' : Mp} (x : Ext M M') {d : D} (h : Tk M d) : Tk M' d := by
  refine ⟨h.1.ext x, ?_⟩
  have k := h.2
  cases d with
  | ref a => obtain ⟨m, e, k⟩ := k; exact ⟨m, x _ _ e, k⟩
  | _ => exact k
theorem Dq.ext {M M' : Mp} (x : Ext M M') : ∀ {n : Nat} {d : D}, Dq n M d → Dq n M' d
  | 0, _, h => Tk.ext x h
  | n + 1, _, h => ⟨Tk.ext x h.1, fun xs e => ⟨(h.2 xs e).1, fun y hy => ((h.2 xs e).2 y hy).ext x⟩⟩
def turnD : D → Bool
  | .int i => decide (0 ≤ i)
  | _ => false
def deedOf (d n : D) : Bool := if isN n then wordIn d ["tick", "sleep", "rise"] else nameD n && wordIn d ["gain", "release"]
def areBegin : List D → Bool
  | [_, d, n] => deedOf d n
  | _ => false
def areEnd : List D → Bool
  | [_, d, n, e] => deedOf d n && (if isSD "bell" e then isSD "sleep" d else wordIn e ["done", "busy", "broken"])
  | _ => false
def areMissed : List D → Bool
  | [_, a, b] => nameD a && nameD b
  | _ => false
def areBell : List D → Bool
  | [_, a, b] => nameD a && wordIn b ["unheard", "noted", "broke", "woke"]
  | _ => false
def difD (a b : D) : Bool := match a with
  | .str s => !isSD s b
  | _ => true
def pairOk : D → Bool
  | .tup [a, b] => nameD a && nameD b && difD a b
  | _ => false
def linksD : D → Bool
  | .tup xs => decide (xs.length ≤ 16) && xs.all pairOk
  | _ => false
def isOk : Du → Bool
  | .ok => true
  | _ => false
def devD : D → Bool
  | .tup [d0, d1, d2, d3, d4, d5, d6] => isOk (due d0 d1 d2 d3 d4 d5 d6)
  | _ => false
def arePlug : List D → Bool
  | [_, a, b] => devD a && linksD b
  | _ => false
def named : List Str := ["waking", "wake", "falling", "doze", "stays", "off", "use", "reset", "unplug", "ready", "sleep", "late", "still", "unready", "unsleep", "unlate", "unstill"]
def areWords : D → Bool
  | .tup (.str s :: r) =>
    if s = "begin" then areBegin (.str s :: r) else if s = "end" then areEnd (.str s :: r) else if s = "missed" then areMissed (.str s :: r) else if s = "bell" then areBell (.str s :: r) else if s = "plug" then arePlug (.str s :: r) else
    (match r with | [n] => wordIn (.str s) named && nameD n | _ => false)
  | _ => false
def isRow : D → Bool
  | .tup (t :: r) => decide (2 ≤ r.length) && turnD t && areWords (.tup r)
  | _ => false
def spTurn : DSp := fun ds M Q _ => ∃ d, ds = [d] ∧ Th M d ∧ Q (.bl (turnD d)) M
def spWordOf : DSp := fun ds M Q _ => ∃ (d : D) (ss : List Str), ds = [d, .tup (ss.map D.str)] ∧ Th M d ∧ Q (.bl (wordIn d ss)) M
def spDeedOf : DSp := fun ds M Q _ => ∃ d n, ds = [d, n] ∧ Th M d ∧ Th M n ∧ Q (.bl (deedOf d n)) M
def spForm (g : List D → Bool) : DSp := fun ds M Q _ => ∃ ws, ds = [.tup ws] ∧ Dq 3 M (.tup ws) ∧ Q (.bl (g ws)) M
def spLinks : DSp := fun ds M Q _ => ∃ d, ds = [d] ∧ Dq 2 M d ∧ Q (.bl (linksD d)) M
def spToldDev : DSp := fun ds M Q _ => ∃ d, ds = [d] ∧ Dq 2 M d ∧ ∀ M', Ext M M' → Q (.bl (devD d)) M'
def spPlug : DSp := fun ds M Q _ => ∃ ws, ds = [.tup ws] ∧ Dq 3 M (.tup ws) ∧ ∀ M', Ext M M' → Q (.bl (arePlug ws)) M'
def spWords : DSp := fun ds M Q _ => ∃ d, ds = [d] ∧ Dq 3 M d ∧ ∀ M', Ext M M' → Q (.bl (areWords d)) M'
def spRow : DSp := fun ds M Q _ => ∃ d, ds = [d] ∧ Dq 4 M d ∧ ∀ M', Ext M M' → Q (.bl (isRow d)) M'
theorem len_spTurn : ∀ ds M Q E, spTurn ds M Q E → ds.length = 1 := fun _ _ _ _ h => by obtain ⟨_, rfl, _⟩ := h; rfl
theorem len_spWordOf : ∀ ds M Q E, spWordOf ds M Q E → ds.length = 2 := fun _ _ _ _ h => by obtain ⟨_, _, rfl, _⟩ := h; rfl
theorem len_spDeedOf : ∀ ds M Q E, spDeedOf ds M Q E → ds.length = 2 := fun _ _ _ _ h => by obtain ⟨_, _, rfl, _⟩ := h; rfl
theorem len_spForm {g : List D → Bool} : ∀ ds M Q E, spForm g ds M Q E → ds.length = 1 := fun _ _ _ _ h => by obtain ⟨_, rfl, _⟩ := h; rfl
theorem len_spLinks : ∀ ds M Q E, spLinks ds M Q E → ds.length = 1 := fun _ _ _ _ h => by obtain ⟨_, rfl, _⟩ := h; rfl
theorem len_spToldDev : ∀ ds M Q E, spToldDev ds M Q E → ds.length = 1 := fun _ _ _ _ h => by obtain ⟨_, rfl, _⟩ := h; rfl
theorem len_spPlug : ∀ ds M Q E, spPlug ds M Q E → ds.length = 1 := fun _ _ _ _ h => by obtain ⟨_, rfl, _⟩ := h; rfl
theorem len_spWords : ∀ ds M Q E, spWords ds M Q E → ds.length = 1 := fun _ _ _ _ h => by obtain ⟨_, rfl, _⟩ := h; rfl
theorem len_spRow : ∀ ds M Q E, spRow ds M Q E → ds.length = 1 := fun _ _ _ _ h => by obtain ⟨_, rfl, _⟩ := h; rfl
/-! the readings -/
def rTurn : DTS := dRet (dAndV (dIsi .int (dVar 0)) (dAndV (dNotV (dIsi .bl (dVar 0))) (dOp dGe (dVar 0) (dC (.int 0)))))
theorem turn_ok : ∀ ds M Qd Ed, spTurn ds M Qd Ed → rTurn (ends Qd Ed) (dstart ["thing"] ds) M := by
  intro ds M Qd Ed h
  obtain ⟨d, rfl, th, q⟩ := h
  cases d with
  | int i => exact ⟨_, rfl, _, rfl, _, rfl, q⟩
  | bl b => exact ⟨_, rfl, _, rfl, q⟩
  | ref a =>
    obtain ⟨m, e, th⟩ := th
    cases m <;> first | exact th.elim | exact ⟨_, rfl, _, e, q⟩
  | sq xs => exact th.elim
  | ty n => exact th.elim
  | ins C fs => exact th.elim
  | _ => exact ⟨_, rfl, q⟩
def rWordOf : DTS := dRet (dAndV (dIsi .str (dVar 0)) (dOp (dInW id) (dVar 0) (dVar 1)))
theorem wordOf_ok : ∀ ds M Qd Ed, spWordOf ds M Qd Ed → rWordOf (ends Qd Ed) (dstart ["thing", "words"] ds) M := by
  intro ds M Qd Ed h
  obtain ⟨d, ss, rfl, th, q⟩ := h
  cases d with
  | str s => exact ⟨_, rfl, _, rfl, _, rfl, ss, rfl, rfl, q⟩
  | ref a =>
    obtain ⟨m, e, th⟩ := th
    cases m <;> first | exact th.elim | exact ⟨_, rfl, _, e, q⟩
  | sq xs => exact th.elim
  | ty n => exact th.elim
  | ins C fs => exact th.elim
  | _ => exact ⟨_, rfl, q⟩
def rDeedOf : DTS := dSeq (dIf (dTest (dOp dIs (dVar 1) (dC .non))) (dRet (dCall spWordOf (dCons (dVar 0) (dCons (dC (.tup [.str "tick", .str "sleep", .str "rise"])) (dNil))))) (dNext))
  (dRet (dAndV (dCall spN (dCons (dVar 1) (dNil))) (dCall spWordOf (dCons (dVar 0) (dCons (dC (.tup [.str "gain", .str "release"])) (dNil))))))
theorem deedOf_ok : ∀ ds M Qd Ed, spDeedOf ds M Qd Ed → rDeedOf (ends Qd Ed) (dstart ["deed", "name"] ds) M := by
  intro ds M Qd Ed h
  obtain ⟨d, n, rfl, th, tn, q⟩ := h
  refine ⟨_, rfl, ?_⟩
  unfold deedOf at q
  refine br2 (fun e => ?_) (fun e => ?_)
  · rw [if_pos e] at q
    exact ⟨_, rfl, d, _, rfl, th, q⟩
  · rw [if_neg (by rw [e]; exact Bool.false_ne_true)] at q
    refine ⟨_, rfl, n, rfl, tn, ?_⟩
    refine br2 (fun e => ?_) (fun e => ?_)
    · rw [e] at q
      exact ⟨_, rfl, d, _, rfl, th, q⟩
    · rw [e] at q; exact q
theorem three_of {ws : List D} (h : ((ws.length : Nat) : Int) = 3) : ∃ a b c, ws = [a, b, c] := by
  match ws, h with
  | [a, b, c], _ => exact ⟨a, b, c, rfl⟩
  | [], h => simp at h
  | [_], h => simp at h
  | [_, _], h => simp at h
  | _ :: _ :: _ :: _ :: r, h => simp only [List.length_cons] at h; omega
theorem four_of {ws : List D} (h : ((ws.length : Nat) : Int) = 4) : ∃ a b c d, ws = [a, b, c, d] := by
  match ws, h with
  | [a, b, c, d], _ => exact ⟨a, b, c, d, rfl⟩
  | [], h => simp at h
  | [_], h => simp at h
  | [_, _], h => simp at h
  | [_, _, _], h => simp at h
  | _ :: _ :: _ :: _ :: _ :: r, h => simp only [List.length_cons] at h; omega
theorem not3 {g : List D → Bool} (hg : ∀ ws, (∀ a b c, ws ≠ [a, b, c]) → g ws = false) {ws : List D} (h : ¬ ((ws.length : Nat) : Int) = 3) : g ws = false := hg ws fun a b c e => h (by rw [e]; rfl)
theorem begin3 : ∀ ws, (∀ a b c, ws ≠ [a, b, c]) → areBegin ws = false := fun ws h => by
  unfold areBegin; split
  · exact absurd rfl (h _ _ _)
  · rfl
theorem missed3 : ∀ ws, (∀ a b c, ws ≠ [a, b, c]) → areMissed ws = false := fun ws h => by
  unfold areMissed; split
  · exact absurd rfl (h _ _ _)
  · rfl
theorem bell3 : ∀ ws, (∀ a b c, ws ≠ [a, b, c]) → areBell ws = false := fun ws h => by
  unfold areBell; split
  · exact absurd rfl (h _ _ _)
  · rfl
theorem plug3 : ∀ ws, (∀ a b c, ws ≠ [a, b, c]) → arePlug ws = false := fun ws h => by
  unfold arePlug; split
  · exact absurd rfl (h _ _ _)
  · rfl
def rBegin : DTS := dRet (dAndV (dOp dEq (dCB dLen (dCons (dVar 0) (dNil))) (dC (.int 3))) (dCall spDeedOf (dCons (dOp dIx (dVar 0) (dC (.int 1))) (dCons (dOp dIx (dVar 0) (dC (.int 2))) (dNil)))))
theorem begin_ok : ∀ ds M Qd Ed, spForm areBegin ds M Qd Ed → rBegin (ends Qd Ed) (dstart ["words"] ds) M := by
  intro ds M Qd Ed h
  obtain ⟨ws, rfl, dq, q⟩ := h
  refine ⟨_, rfl, ?_⟩
  refine br2 (fun e => ?_) (fun e => ?_)
  · obtain ⟨a, b, c, rfl⟩ := three_of (of_decide_eq_true e)
    exact ⟨_, rfl, _, rfl, _, rfl, _, rfl, _, _, rfl, (dq.in (by simp)).th, (dq.in (by simp)).th, q⟩
  · rw [not3 begin3 (of_decide_eq_false e)] at q; exact q
def rMissed : DTS := dRet (dAndV (dOp dEq (dCB dLen (dCons (dVar 0) (dNil))) (dC (.int 3))) (dAndV (dCall spN (dCons (dOp dIx (dVar 0) (dC (.int 1))) (dNil))) (dCall spN (dCons (dOp dIx (dVar 0) (dC (.int 2))) (dNil)))))
theorem missed_ok : ∀ ds M Qd Ed, spForm areMissed ds M Qd Ed → rMissed (ends Qd Ed) (dstart ["words"] ds) M := by
  intro ds M Qd Ed h
  obtain ⟨ws, rfl, dq, q⟩ := h
  refine ⟨_, rfl, ?_⟩
  refine br2 (fun e => ?_) (fun e => ?_)
  · obtain ⟨a, b, c, rfl⟩ := three_of (of_decide_eq_true e)
    have q : Qd (.bl (nameD b && nameD c)) M := q
    refine ⟨_, rfl, _, rfl, _, rfl, (dq.in (by simp)).th, ?_⟩
    refine br2 (fun e => ?_) (fun e => ?_)
    · rw [e] at q
      exact ⟨_, rfl, _, rfl, _, rfl, (dq.in (by simp)).th, q⟩
    · rw [e] at q; exact q
  · rw [not3 missed3 (of_decide_eq_false e)] at q; exact q
def rBell : DTS := dRet (dAndV (dOp dEq (dCB dLen (dCons (dVar 0) (dNil))) (dC (.int 3))) (dAndV (dCall spN (dCons (dOp dIx (dVar 0) (dC (.int 1))) (dNil))) (dCall spWordOf (dCons (dOp dIx (dVar 0) (dC (.int 2))) (dCons (dC (.tup [.str "unheard", .str "noted", .str "broke", .str "woke"])) (dNil))))))
theorem bell_ok : ∀ ds M Qd Ed, spForm areBell ds M Qd Ed → rBell (ends Qd Ed) (dstart ["words"] ds) M := by
  intro ds M Qd Ed h
  obtain ⟨ws, rfl, dq, q⟩ := h
  refine ⟨_, rfl, ?_⟩
  refine br2 (fun e => ?_) (fun e => ?_)
  · obtain ⟨a, b, c, rfl⟩ := three_of (of_decide_eq_true e)
    have q : Qd (.bl (nameD b && wordIn c ["unheard", "noted", "broke", "woke"])) M := q
    refine ⟨_, rfl, _, rfl, _, rfl, (dq.in (by simp)).th, ?_⟩
    refine br2 (fun e => ?_) (fun e => ?_)
    · rw [e] at q
      exact ⟨_, rfl, _, rfl, _, _, rfl, (dq.in (by simp)).th, q⟩
    · rw [e] at q; exact q
  · rw [not3 bell3 (of_decide_eq_false e)] at q; exact q
def rEnd : DTS :=
  dSeq (dIf (dOr (dTest (dOp dNe (dCB dLen (dCons (dVar 0) (dNil))) (dC (.int 4)))) (dNot (dTruth (dCall spDeedOf (dCons (dOp dIx (dVar 0) (dC (.int 1))) (dCons (dOp dIx (dVar 0) (dC (.int 2))) (dNil))))))) (dRet (dC (.bl false))) (dNext))
  (dSeq (dIf (dTest (dOp dEqS (dOp dIx (dVar 0) (dC (.int 3))) (dC (.str "bell")))) (dRet (dOp dEqS (dOp dIx (dVar 0) (dC (.int 1))) (dC (.str "sleep")))) (dNext))
  (dRet (dCall spWordOf (dCons (dOp dIx (dVar 0) (dC (.int 3))) (dCons (dC (.tup [.str "done", .str "busy", .str "broken"])) (dNil))))))
theorem end_ok : ∀ ds M Qd Ed, spForm areEnd ds M Qd Ed → rEnd (ends Qd Ed) (dstart ["words"] ds) M := by
  intro ds M Qd Ed h
  obtain ⟨ws, rfl, dq, q⟩ := h
  refine ⟨_, rfl, ?_⟩
  refine br2 (fun e => ?_) (fun e => ?_)
  · have e : ¬ ((ws.length : Nat) : Int) = 4 := by simpa using e
    have z : areEnd ws = false := by
      unfold areEnd; split
      · exact absurd rfl e
      · rfl
    rw [z] at q; exact q
  · have e : ((ws.length : Nat) : Int) = 4 := by simpa using e
    obtain ⟨a, b, c, d, rfl⟩ := four_of e
    have q : Qd (.bl (deedOf b c && (if isSD "bell" d then isSD "sleep" b else wordIn d ["done", "busy", "broken"]))) M := q
    refine ⟨_, rfl, _, rfl, _, rfl, _, rfl, _, _, rfl, (dq.in (by simp)).th, (dq.in (by simp)).th, ?_⟩
    cases e1 : deedOf b c with
    | false => rw [e1] at q; exact q
    | true =>
      rw [e1] at q
      refine ⟨_, rfl, _, rfl, (dq.in (by simp)).tk.2, ?_⟩
      refine br2 (fun e => ?_) (fun e => ?_)
      · rw [if_pos e] at q
        exact ⟨_, rfl, _, rfl, (dq.in (by simp)).tk.2, q⟩
      · rw [if_neg (by rw [e]; exact Bool.false_ne_true)] at q
        exact ⟨_, rfl, _, rfl, _, _, rfl, (dq.in (by simp)).th, q⟩
end DL

set_option Elab.async false
set_option linter.all false
set_option maxRecDepth 100000
set_option maxHeartbeats 4000000
set_option pp.maxSteps 1500
namespace DL
open PySem PySem.Spec PyProof.Rows L2
/-! ## links, told devices, rows -/
def rLinks : DTS :=
  dSeq (dIf (dOr (dNot (dTruth (dIsi .tup (dVar 0)))) (dTest (dOp dGt (dCB dLen (dCons (dVar 0) (dNil))) (dC (.int 16))))) (dRet (dC (.bl false))) (dNext))
  (dSeq (dAsg (dLc (iT (dVar 0)) (.one 2) (dAnd (dTruth (dIsi .tup (dVar 2))) (dTest (dOp dEq (dCB dLen (dCons (dVar 2) (dNil))) (dC (.int 2))))) (dVar 2) [2]) (gdName 1))
  (dSeq (dIf (dTest (dOp dLt (dCB dLen (dCons (dVar 1) (dNil))) (dCB dLen (dCons (dVar 0) (dNil))))) (dRet (dC (.bl false))) (dNext))
  (dRet (dCB dAll (dCons (dLc (iL (dVar 1)) (.tup [3, 4]) dYes (dAndV (dCall spN (dCons (dVar 3) (dNil))) (dAndV (dCall spN (dCons (dVar 4) (dNil))) (dOp dNe (dVar 3) (dVar 4)))) [3, 4]) (dNil))))))
def two? : D → Bool
  | .tup ys => decide (((ys.length : Nat) : Int) = 2)
  | _ => false
theorem two_of {ws : List D} (h : ((ws.length : Nat) : Int) = 2) : ∃ a b, ws = [a, b] := by
  match ws, h with
  | [a, b], _ => exact ⟨a, b, rfl⟩
  | [], h => simp at h
  | [_], h => simp at h
  | _ :: _ :: _ :: r, h => simp only [List.length_cons] at h; omega
theorem two_not {x : D} (h : two? x = false) : pairOk x = false := by
  unfold pairOk
  split
  · have e : ∀ a b, two? (.tup [a, b]) = true := fun _ _ => rfl
    rw [e] at h; cases h
  · rfl
theorem name_str {d : D} (h : nameD d = true) : ∃ s, d = .str s := by
  cases d <;> first | exact ⟨_, rfl⟩ | cases h
theorem filt_all {p : D → Bool} : ∀ {xs : List D}, ¬ (xs.filter p).length < xs.length → xs.filter p = xs ∧ ∀ x ∈ xs, p x = true
  | [], _ => ⟨rfl, fun _ z => nomatch z⟩
  | x :: r, h => by
    have l := List.length_filter_le p r
    rw [List.filter_cons] at h ⊢
    by_cases e : p x = true
    · rw [if_pos e] at h ⊢
      simp only [List.length_cons] at h
      obtain ⟨h1, h2⟩ := filt_all (p := p) (xs := r) (by omega)
      refine ⟨by rw [h1], fun y hy => ?_⟩
      rcases List.mem_cons.mp hy with rfl | hy
      · exact e
      · exact h2 y hy
    · rw [if_neg e] at h
      simp only [List.length_cons] at h
      omega
theorem filt_less {p q : D → Bool} (pq : ∀ x, p x = false → q x = false) : ∀ {xs : List D}, (xs.filter p).length < xs.length → xs.all q = false
  | [], h => by simp at h
  | x :: r, h => by
    rw [List.filter_cons] at h
    by_cases e : p x = true
    · rw [if_pos e] at h
      simp only [List.length_cons] at h
      rw [List.all_cons, filt_less pq (xs := r) (by omega), Bool.and_false]
    · rw [List.all_cons, pq x (by simpa using e), Bool.false_and]
theorem links_ok : ∀ ds M Qd Ed, spLinks ds M Qd Ed → rLinks (ends Qd Ed) (dstart ["thing", "pairs", "pair", "user", "supplier"] ds) M := by
  intro ds M Qd Ed h
  obtain ⟨d, rfl, dq, q⟩ := h
  cases d with
  | tup xs =>
    obtain ⟨l1, el⟩ := dq.2 xs rfl
    have q : Qd (.bl (decide (xs.length ≤ 16) && xs.all pairOk)) M := q
    refine ⟨_, rfl, _, rfl, ?_⟩
    refine br2 (fun e => ?_) (fun e => ?_)
    · have e := of_decide_eq_true e
      rw [decide_eq_false (by omega), Bool.false_and] at q
      exact q
    · have e := of_decide_eq_false e
      rw [decide_eq_true (by omega), Bool.true_and] at q
      refine ⟨_, rfl, Nat.lt_of_le_of_lt l1 (by decide), ?_⟩
      refine comp_filt1 (src := .data) two? id trivial xs (fun x hx Q z => ?_) (fun x hx _ Q z => ⟨_, rfl, z⟩) (Nat.le_trans l1 (by decide)) ?_
      · have tk := (el x hx).tk
        cases x with
        | tup ys => exact ⟨_, rfl, _, rfl, z⟩
        | ref a =>
          obtain ⟨m, e, th⟩ := tk.1
          cases m <;> first | exact th.elim | exact ⟨_, rfl, _, e, z⟩
        | sq xs => exact tk.1.elim
        | ty n => exact tk.1.elim
        | ins C fs => exact tk.1.elim
        | _ => exact ⟨_, rfl, z⟩
      rw [List.map_id]
      refine ⟨_, rfl, _, rfl, ?_⟩
      refine br2 (fun e => ?_) (fun e => ?_)
      · have e : (((xs.filter two?).length : Nat) : Int) < ((xs.length : Nat) : Int) := of_decide_eq_true e
        rw [filt_less (fun x => two_not) (by omega : (xs.filter two?).length < xs.length)] at q
        exact q
      · have e : ¬ (((xs.filter two?).length : Nat) : Int) < ((xs.length : Nat) : Int) := of_decide_eq_false e
        obtain ⟨f1, f2⟩ := filt_all (p := two?) (xs := xs) (by omega)
        rw [f1]
        refine ⟨_, rfl, Nat.lt_of_le_of_lt l1 (by decide), ?_⟩
        refine comp_map (src := .data) (fun x => match x with | .tup ds => setAll [some (.tup xs), some (.lst xs), none, none, none] [3, 4] ds | _ => []) (fun x => .bl (pairOk x)) trivial xs (fun x hx k z => ?_) (fun x hx Q z => ?_) (Nat.le_trans l1 (by decide)) ?_
        · have h2 := f2 x hx
          cases x with
          | tup ys =>
            obtain ⟨a, b, rfl⟩ := two_of (of_decide_eq_true h2)
            exact ⟨rfl, z⟩
          | _ => cases h2
        · have h2 := f2 x hx
          have hq := el x hx
          cases x with
          | tup ys =>
            obtain ⟨a, b, rfl⟩ := two_of (of_decide_eq_true h2)
            have z : Q (.bl (nameD a && nameD b && difD a b)) M := z
            refine ⟨_, rfl, a, rfl, (hq.in (by simp)).th, ?_⟩
            refine br2 (fun e => ?_) (fun e => ?_)
            · rw [e] at z
              refine ⟨_, rfl, b, rfl, (hq.in (by simp)).th, ?_⟩
              refine br2 (fun e => ?_) (fun e => ?_)
              · rw [e] at z
                rename_i e1
                obtain ⟨s, rfl⟩ := name_str e1
                obtain ⟨t, rfl⟩ := name_str e
                refine ⟨_, rfl, _, rfl, ?_⟩
                have z : Q (.bl (true && true && !(t == s))) M := z
                rw [Bool.beq_eq_decide_eq] at z
                show Q (.bl (!decide (s = t))) M
                rw [show decide (s = t) = decide (t = s) from decide_eq_decide.mpr eq_comm]
                exact z
              · rw [e] at z; exact z
            · rw [e] at z; exact z
          | _ => cases h2
        · refine ⟨xs.map pairOk, by rw [List.map_map]; rfl, ?_⟩
          rw [List.all_map]
          exact q
  | ref a =>
    obtain ⟨m, e, th⟩ := dq.th
    cases m <;> first | exact th.elim | exact ⟨_, rfl, _, e, q⟩
  | sq xs => exact dq.th.elim
  | ty n => exact dq.th.elim
  | ins C fs => exact dq.th.elim
  | _ => exact ⟨_, rfl, q⟩
theorem del_upd {M : Mp} {x : Addr} {a b : MO} (h : M x = none) : delM (updM (updM M x a) x b) x = M := by
  funext c
  by_cases e : c = x
  · subst e; rw [h]; unfold delM; rw [if_pos rfl]
  · rw [delM_ne e, updM_ne e, updM_ne e]
def pgDev : List D → List D → List D := fun ds es => match ds, es with
  | [a0, a1], [b0, b1, b2, b3, b4, b5] => [a0, a1, b0, b1, b2, b3, b4, b5]
  | _, _ => []
def rToldDev (C cNm cNum : Addr) (xm : Value → List Value → Option Bool) : DTS :=
  dSeq (dIf (dOr (dNot (dTruth (dIsi .tup (dVar 0)))) (dTest (dOp dNe (dCB dLen (dCons (dVar 0) (dNil))) (dC (.int 7))))) (dRet (dC (.bl false))) (dNext))
  (dSeq (dAsg (dVar 0) (gdStar 3 2 (gdNames [1, 2, 3])))
  (dSeq (dAsg (dVar 3) (gdU 5 (gdNames [4, 5, 6, 7, 8])))
  (dSeq (dTry xm [⟨[.ref cNm, .ref cNum], none, fun a cls d => dRet (dC (.bl false))⟩] (dDrop (dMakeF C 2 6 (spDev C cNm cNum) pgDev (dCons (dVar 1) (dNil)) (dCons (dVar 2) (dCons (dVar 4) (dCons (dVar 5) (dCons (dVar 6) (dCons (dVar 7) (dCons (dVar 8) (dNil))))))))))
  (dRet (dC (.bl true))))))
theorem seven_of {ws : List D} (h : ((ws.length : Nat) : Int) = 7) : ∃ a b c d e f g, ws = [a, b, c, d, e, f, g] := by
  match ws, h with
  | [a, b, c, d, e, f, g], _ => exact ⟨a, b, c, d, e, f, g, rfl⟩
  | [], h => simp at h
  | [_], h => simp at h
  | [_, _], h => simp at h
  | [_, _, _], h => simp at h
  | [_, _, _, _], h => simp at h
  | [_, _, _, _, _], h => simp at h
  | [_, _, _, _, _, _], h => simp at h
  | _ :: _ :: _ :: _ :: _ :: _ :: _ :: _ :: r, h => simp only [List.length_cons] at h; omega
theorem told_ok {C cNm cNum : Addr} {xm : Value → List Value → Option Bool} (h1 : xm (.ref cNm) [.ref cNm, .ref cNum] = some true) (h2 : xm (.ref cNum) [.ref cNm, .ref cNum] = some true) : ∀ ds M Qd Ed, spToldDev ds M Qd Ed → rToldDev C cNm cNum xm (ends Qd Ed) (dstart ["thing", "name", "parent", "numbers", "burn", "sip", "wake", "fall", "rest"] ds) M := by
  intro ds M Qd Ed h
  obtain ⟨d, rfl, dq, q⟩ := h
  have q0 := q M (Ext.refl M)
  cases d with
  | tup xs =>
    refine ⟨_, rfl, _, rfl, ?_⟩
    refine br2 (fun e => ?_) (fun e => ?_)
    · have e : ¬ ((xs.length : Nat) : Int) = 7 := by simpa using e
      have z : devD (.tup xs) = false := by
        unfold devD; split
        · rename_i h; cases h; exact absurd rfl e
        · rfl
      rw [z] at q0; exact q0
    · have e : ((xs.length : Nat) : Int) = 7 := by simpa using e
      obtain ⟨d0, d1, d2, d3, d4, d5, d6, rfl⟩ := seven_of e
      have q : ∀ M', Ext M M' → Qd (.bl (isOk (due d0 d1 d2 d3 d4 d5 d6))) M' := q
      have th : ∀ d ∈ [d0, d1, d2, d3, d4, d5, d6], Th M d := fun d hd => (dq.in hd).th
      (repeat (first | refine ⟨_, rfl, ?_⟩ | refine ⟨Nat.le_of_ble_eq_true rfl, ?_⟩ | refine ⟨rfl, ?_⟩ | refine ⟨_, asm (by assumption), ?_⟩ | refine ⟨asm (by assumption), ?_⟩ | refine ⟨List.mem_cons_self, ?_⟩ | refine ⟨_, updM_same, ?_⟩ | refine ⟨(by decide), ?_⟩ | refine ⟨(by show (0 : Int) < _; decide), ?_⟩))
      intro x hx
      have ex : Ext M (updM M x (.ins C [])) := Ext.new hx
      refine ⟨x, d0, d1, d2, d3, d4, d5, d6, rfl, updM_same, fun d hd => (th d hd).ext ex, ?_⟩
      cases hd : due d0 d1 d2 d3 d4 d5 d6 with
      | nm d =>
        rw [hd] at q
        refine ⟨true, h1, fun a b ha hb hab => ?_⟩
        exact q _ (ex.trans (Ext.new hb))
      | num d =>
        rw [hd] at q
        refine ⟨true, h2, fun a b ha hb hab => ?_⟩
        exact q _ (ex.trans (Ext.new hb))
      | ok =>
        rw [hd] at q
        refine ⟨rfl, _, updM_same, ?_⟩
        rw [del_upd hx]
        exact q M (Ext.refl M)
  | ref a =>
    obtain ⟨m, e, th⟩ := dq.th
    cases m <;> first | exact th.elim | exact ⟨_, rfl, _, e, q0⟩
  | sq xs => exact dq.th.elim
  | ty n => exact dq.th.elim
  | ins C fs => exact dq.th.elim
  | _ => exact ⟨_, rfl, q0⟩
def rPlug : DTS := dRet (dAndV (dOp dEq (dCB dLen (dCons (dVar 0) (dNil))) (dC (.int 3))) (dAndV (dCall spToldDev (dCons (dOp dIx (dVar 0) (dC (.int 1))) (dNil))) (dCall spLinks (dCons (dOp dIx (dVar 0) (dC (.int 2))) (dNil)))))
theorem plug_ok : ∀ ds M Qd Ed, spPlug ds M Qd Ed → rPlug (ends Qd Ed) (dstart ["words"] ds) M := by
  intro ds M Qd Ed h
  obtain ⟨ws, rfl, dq, q⟩ := h
  refine ⟨_, rfl, ?_⟩
  refine br2 (fun e => ?_) (fun e => ?_)
  · obtain ⟨a, b, c, rfl⟩ := three_of (of_decide_eq_true e)
    have q : ∀ M', Ext M M' → Qd (.bl (devD b && linksD c)) M' := q
    refine ⟨_, rfl, _, rfl, b, rfl, dq.in (by simp), fun M' x => ?_⟩
    refine br2 (fun e => ?_) (fun e => ?_)
    · have q := q M' x
      rw [e] at q
      exact ⟨_, rfl, _, rfl, c, rfl, (dq.in (by simp)).ext x, q⟩
    · have q := q M' x
      rw [e] at q; exact q
  · have q := q M (Ext.refl M)
    rw [not3 plug3 (of_decide_eq_false e)] at q; exact q
def rWords (fb fe fm fl fp : Addr) : DTS :=
  dSeq (dIf (dOr (dNot (dTruth (dIsi .tup (dVar 0)))) (dOr (dTest (dOp dLt (dCB dLen (dCons (dVar 0) (dNil))) (dC (.int 2)))) (dNot (dTruth (dIsi .str (dOp dIx (dVar 0) (dC (.int 0)))))))) (dRet (dC (.bl false))) (dNext))
  (dSeq (dIf (dTest (dMd (dOp dIx (dVar 0) (dC (.int 0))) (inMf id [("begin", fb), ("end", fe), ("missed", fm), ("bell", fl), ("plug", fp)]))) (dSeq (dAsg (dMd (dOp dIx (dVar 0) (dC (.int 0))) (ixMf [("begin", fb), ("end", fe), ("missed", fm), ("bell", fl), ("plug", fp)])) (gdName 1))
  (dRet (dCallV 1 0 [(fb, spForm areBegin, plainG), (fe, spForm areEnd, plainG), (fm, spForm areMissed, plainG), (fl, spForm areBell, plainG), (fp, spPlug, plainG)] (dVar 1) (dCons (dVar 0) (dNil)) (dNil)))) (dNext))
  (dRet (dAndV (dOp dEq (dCB dLen (dCons (dVar 0) (dNil))) (dC (.int 2))) (dAndV (dOp (dInW id) (dOp dIx (dVar 0) (dC (.int 0))) (dC (.tup [.str "waking", .str "wake", .str "falling", .str "doze", .str "stays", .str "off", .str "use", .str "reset", .str "unplug", .str "ready", .str "sleep", .str "late", .str "still", .str "unready", .str "unsleep", .str "unlate", .str "unstill"]))) (dCall spN (dCons (dOp dIx (dVar 0) (dC (.int 1))) (dNil)))))))
theorem words_ok (fb fe fm fl fp : Addr) : ∀ ds M Qd Ed, spWords ds M Qd Ed → rWords fb fe fm fl fp (ends Qd Ed) (dstart ["words", "form"] ds) M := by
  intro ds M Qd Ed h
  obtain ⟨d, rfl, dq, q⟩ := h
  have q0 := q M (Ext.refl M)
  cases d with
  | tup xs =>
    refine ⟨_, rfl, _, rfl, ?_⟩
    refine br2 (fun e => ?_) (fun e => ?_)
    · have e := of_decide_eq_true e
      have z : areWords (.tup xs) = false := by
        match xs, e with
        | [], _ => rfl
        | [x], _ =>
          cases x with
          | str s =>
            show (if s = "begin" then areBegin [.str s] else if s = "end" then areEnd [.str s] else if s = "missed" then areMissed [.str s] else if s = "bell" then areBell [.str s] else if s = "plug" then arePlug [.str s] else false) = false
            repeat' split
            all_goals rfl
          | _ => rfl
        | _ :: _ :: r, e => simp only [List.length_cons] at e; omega
      rw [z] at q0; exact q0
    · have e := of_decide_eq_false e
      obtain ⟨x, y, r, rfl⟩ : ∃ x y r, xs = x :: y :: r := by
        match xs, e with
        | x :: y :: r, _ => exact ⟨x, y, r, rfl⟩
        | [], e => simp at e
        | [_], e => simp at e
      have i0 : atI (x :: y :: r) 0 = some x := at0
      have i1 : atI (x :: y :: r) 1 = some y := at1
      have tx := (dq.in (x := x) (by simp)).th
      cases x with
      | str s =>
        refine ⟨_, rfl, _, i0, ?_⟩
        have has : ∀ (f : Addr), getMf [("begin", fb), ("end", fe), ("missed", fm), ("bell", fl), ("plug", fp)] s = some f → (f = fb ∧ s = "begin") ∨ (f = fe ∧ s = "end") ∨ (f = fm ∧ s = "missed") ∨ (f = fl ∧ s = "bell") ∨ (f = fp ∧ s = "plug") := by
          intro f hf
          unfold getMf at hf
          simp only [List.find?_cons] at hf
          repeat' split at hf
          all_goals first | (simp at hf; rename_i h; have h := of_decide_eq_true h; subst hf; simp [h]) | (simp at hf)
        refine ⟨_, rfl, _, i0, ?_⟩
        cases hg : getMf [("begin", fb), ("end", fe), ("missed", fm), ("bell", fl), ("plug", fp)] s with
        | some f =>
          refine brT (by rw [hg]; rfl) ?_
          refine ⟨_, rfl, _, i0, f, hg, _, rfl, f, rfl, ?_⟩
          rcases has f hg with ⟨rfl, rfl⟩ | ⟨rfl, rfl⟩ | ⟨rfl, rfl⟩ | ⟨rfl, rfl⟩ | ⟨rfl, rfl⟩
          · exact .inl ⟨rfl, _, rfl, rfl, rfl, _, rfl, dq, q0⟩
          · exact .inr (.inl ⟨rfl, _, rfl, rfl, rfl, _, rfl, dq, q0⟩)
          · exact .inr (.inr (.inl ⟨rfl, _, rfl, rfl, rfl, _, rfl, dq, q0⟩))
          · exact .inr (.inr (.inr (.inl ⟨rfl, _, rfl, rfl, rfl, _, rfl, dq, q0⟩)))
          · exact .inr (.inr (.inr (.inr ⟨rfl, _, rfl, rfl, rfl, _, rfl, dq, q⟩)))
        | none =>
          have no : s ≠ "begin" ∧ s ≠ "end" ∧ s ≠ "missed" ∧ s ≠ "bell" ∧ s ≠ "plug" := by
            unfold getMf at hg
            refine ⟨?_, ?_, ?_, ?_, ?_⟩ <;> (intro e; subst e; revert hg; exact fun z => by cases z)
          have q0 : Qd (.bl (if s = "begin" then areBegin (.str s :: y :: r) else if s = "end" then areEnd (.str s :: y :: r) else if s = "missed" then areMissed (.str s :: y :: r) else if s = "bell" then areBell (.str s :: y :: r) else if s = "plug" then arePlug (.str s :: y :: r) else
            (match y :: r with | [n] => wordIn (.str s) named && nameD n | _ => false))) M := q0
          rw [if_neg no.1, if_neg no.2.1, if_neg no.2.2.1, if_neg no.2.2.2.1, if_neg no.2.2.2.2] at q0
          refine brF (by rw [hg]; rfl) ?_
          refine ⟨_, rfl, ?_⟩
          refine br2 (fun e => ?_) (fun e => ?_)
          · have e := of_decide_eq_true e
            obtain ⟨_, _, e2⟩ := two_of e
            cases e2
            refine ⟨_, rfl, _, rfl, named, rfl, rfl, ?_⟩
            have q0 : Qd (.bl (wordIn (.str s) named && nameD y)) M := q0
            show br (wordIn (.str s) named) _ _
            refine br2 (fun e => ?_) (fun e => ?_)
            · rw [e] at q0
              exact ⟨_, rfl, _, rfl, y, rfl, (dq.in (by simp)).th, q0⟩
            · rw [e] at q0; exact q0
          · have e := of_decide_eq_false e
            cases r with
            | nil => exact absurd rfl e
            | cons z r => exact q0
      | ref a =>
        obtain ⟨m, e, th⟩ := tx
        cases m <;> first | exact th.elim | exact ⟨_, rfl, _, i0, _, e, q0⟩
      | sq xs => exact tx.elim
      | ty n => exact tx.elim
      | ins C fs => exact tx.elim
      | _ => exact ⟨_, rfl, _, i0, q0⟩
  | ref a =>
    obtain ⟨m, e, th⟩ := dq.th
    cases m <;> first | exact th.elim | exact ⟨_, rfl, _, e, q0⟩
  | sq xs => exact dq.th.elim
  | ty n => exact dq.th.elim
  | ins C fs => exact dq.th.elim
  | _ => exact ⟨_, rfl, q0⟩
end DL

set_option Elab.async false
set_option linter.all false
set_option maxRecDepth 100000
set_option maxHeartbeats 4000000
set_option pp.maxSteps 1500
namespace DL
open PySem PySem.Spec PyProof.Rows L2
/-! ## plain data without handles: leaves of so many signs, tuples of so many things at each depth -/
def leafD (m : Nat) : D → Prop
  | .non => True | .bl _ => True | .int i => -(10 ^ 30) ≤ i ∧ i ≤ 10 ^ 30 | .str s => s.length ≤ m ∧ Ok s | _ => False
def Pl (m : Nat) : List Nat → D → Prop
  | [], d => leafD m d
  | l :: ls, d => leafD m d ∨ ∃ xs, (d = .tup xs ∨ d = .lst xs) ∧ xs.length ≤ l ∧ ∀ x ∈ xs, Pl m ls x
def wid (m : Nat) : List Nat → Nat
  | [] => 10 * m + 32
  | l :: ls => max l 1 * (wid m ls + 2) + 3
theorem shw_int32 {M : Mp} {i : Int} (h0 : -(10 ^ 30) ≤ i) (h1 : i ≤ 10 ^ 30) : Shw M (.int i) 0 32 := ⟨_, .int (num_log h0 h1), Nat.le_refl _, by
  unfold Sh.w
  rw [PySem.ofString_length]
  exact PySem.int_text_length_le10 (k := 31) (by decide) (by
    have : i.natAbs ≤ 10 ^ 30 := by omega
    exact Nat.lt_of_le_of_lt this (by decide))⟩
theorem leaf_shw {m : Nat} (hm : m ≤ 100000) {M : Mp} {d : D} (h : leafD m d) : Shw M d 0 (10 * m + 32) := by
  cases d with
  | non => exact shw_non.mono (Nat.le_refl _) (by omega)
  | bl b => exact (shw_bl b).mono (Nat.le_refl _) (by omega)
  | int i => exact (shw_int32 h.1 h.2).mono (Nat.le_refl _) (by omega)
  | str s => exact (shw_str h.2 h.1 hm).mono (Nat.le_refl _) (by omega)
  | _ => exact h.elim
theorem wid_leaf (m : Nat) : ∀ ls, 10 * m + 32 ≤ wid m ls
  | [] => Nat.le_refl _
  | l :: ls => by
    have h := wid_leaf m ls
    have k := Nat.mul_le_mul_right (wid m ls + 2) (Nat.le_max_right l 1)
    unfold wid
    omega
theorem Pl.leaf {m : Nat} {ls : List Nat} {d : D} (h : leafD m d) : Pl m ls d := by
  cases ls with
  | nil => exact h
  | cons l ls => exact .inl h
theorem Pl.tup {m l : Nat} {ls : List Nat} {xs : List D} (hl : xs.length ≤ l) (h : ∀ x ∈ xs, Pl m ls x) : Pl m (l :: ls) (.tup xs) := .inr ⟨xs, .inl rfl, hl, h⟩
theorem Pl.lst {m l : Nat} {ls : List Nat} {xs : List D} (hl : xs.length ≤ l) (h : ∀ x ∈ xs, Pl m ls x) : Pl m (l :: ls) (.lst xs) := .inr ⟨xs, .inr rfl, hl, h⟩
theorem Pl.shw {m : Nat} (hm : m ≤ 100000) {M : Mp} : ∀ {ls : List Nat} {d : D}, Pl m ls d → Shw M d ls.length (wid m ls)
  | [], _, h => leaf_shw hm h
  | l :: ls, d, h => by
    rcases h with h | ⟨xs, e, hl, h⟩
    · exact (leaf_shw hm h).mono (Nat.zero_le _) (wid_leaf m _)
    · have b : xs.length * (wid m ls + 2) + 3 ≤ wid m (l :: ls) := by
        have := Nat.mul_le_mul_right (wid m ls + 2) (Nat.le_trans hl (Nat.le_max_left l 1))
        show _ ≤ max l 1 * (wid m ls + 2) + 3
        omega
      rcases e with rfl | rfl
      · exact (shw_tup fun x hx => (h x hx).shw hm).mono (Nat.le_refl _) b
      · exact (shw_lst fun x hx => (h x hx).shw hm).mono (Nat.le_refl _) b
theorem leaf_tk {m : Nat} (hm : m ≤ 2000) {M : Mp} {d : D} (h : leafD m d) : Tk M d := by
  cases d with
  | str s => exact ⟨⟨Nat.le_trans h.1 hm, h.2⟩, trivial⟩
  | non => exact ⟨trivial, trivial⟩
  | bl b => exact ⟨trivial, trivial⟩
  | int i => exact ⟨trivial, trivial⟩
  | _ => exact h.elim
theorem leaf_no {m : Nat} {d : D} (h : leafD m d) : ∀ xs, d ≠ .tup xs := fun xs e => by subst e; exact h
theorem Pl.dq {m : Nat} (hm : m ≤ 2000) {M : Mp} : ∀ (n : Nat) {ls : List Nat} {d : D}, (∀ l ∈ ls, l ≤ 1000) → Pl m ls d → Dq n M d
  | n, [], _, _, h => .flat (leaf_tk hm h) (leaf_no h)
  | n, l :: ls, d, hl, h => by
    rcases h with h | ⟨xs, e, l1, h⟩
    · exact .flat (leaf_tk hm h) (leaf_no h)
    · rcases e with rfl | rfl
      · cases n with
        | zero => exact ⟨trivial, trivial⟩
        | succ n => exact .tup (Nat.le_trans l1 (hl l List.mem_cons_self)) fun x hx => (h x hx).dq hm n fun y hy => hl y (List.mem_cons_of_mem _ hy)
      · exact .flat ⟨trivial, trivial⟩ fun ys e => by cases e
theorem strOk_of {s : Str} (h : Ok s) : PyData.strOk s = true := by
  unfold PyData.strOk
  rw [← Array.all_toList, List.all_eq_true]
  exact fun c hc => decide_eq_true (h c hc)
theorem leaf_py {m : Nat} {d : D} (h : leafD m d) : ∃ p, (∀ M, PyOf M d p) ∧ p.canLay0 = true ∧ p.depth = 0 := by
  cases d with
  | non => exact ⟨.none, fun _ => .non, rfl, rfl⟩
  | bl b => exact ⟨.bool b, fun _ => .bl b, rfl, rfl⟩
  | int i => exact ⟨.int i, fun _ => .int i, rfl, rfl⟩
  | str s => exact ⟨.str s, fun _ => .str s, by unfold PyData.canLay0; exact strOk_of h.2, rfl⟩
  | _ => exact h.elim
theorem py_all {n : Nat} : ∀ {xs : List D}, (∀ x ∈ xs, ∃ p, (∀ M, PyOf M x p) ∧ p.canLay0 = true ∧ p.depth ≤ n) → ∃ ps, (∀ M, Paired (PyOf M) xs ps) ∧ PyData.canLayAll0 ps = true ∧ PyData.depthAll ps ≤ n
  | [], _ => ⟨[], fun _ => .nil, rfl, by unfold PyData.depthAll; exact Nat.zero_le _⟩
  | x :: r, h => by
    obtain ⟨p, a, b, c⟩ := h x List.mem_cons_self
    obtain ⟨ps, a2, b2, c2⟩ := py_all fun y hy => h y (List.mem_cons_of_mem _ hy)
    refine ⟨p :: ps, fun M => .cons (a M) (a2 M), ?_, ?_⟩
    · unfold PyData.canLayAll0; rw [b, b2]; rfl
    · unfold PyData.depthAll; omega
theorem Pl.py {m : Nat} : ∀ {ls : List Nat} {d : D}, Pl m ls d → ∃ p, (∀ M, PyOf M d p) ∧ p.canLay0 = true ∧ p.depth ≤ ls.length
  | [], _, h => by obtain ⟨p, a, b, c⟩ := leaf_py h; exact ⟨p, a, b, by rw [c]; exact Nat.zero_le _⟩
  | l :: ls, d, h => by
    rcases h with h | ⟨xs, e, l1, h⟩
    · obtain ⟨p, a, b, c⟩ := leaf_py h; exact ⟨p, a, b, by rw [c]; exact Nat.zero_le _⟩
    · obtain ⟨ps, a, b, c⟩ := py_all (n := ls.length) fun x hx => (h x hx).py
      rcases e with rfl | rfl
      · exact ⟨.tuple ps, fun M => .tup (a M), by unfold PyData.canLay0; exact b, by unfold PyData.depth; simp only [List.length_cons]; omega⟩
      · exact ⟨.list ps, fun M => .lst (a M), by unfold PyData.canLay0; exact b, by unfold PyData.depth; simp only [List.length_cons]; omega⟩
/-- a list of plain things equals itself, wherever it stands -/
theorem rows_py {m : Nat} {ls : List Nat} (hls : ls.length ≤ 60) {xs : List D} (h : ∀ x ∈ xs, Pl m ls x) : ∃ p, (∀ M, PyOf M (.lst xs) p) ∧ (∀ M a, M a = some (.lst xs) → PyOf M (.ref a) p) ∧ SeqAt.shaped p = true ∧ PyData.eqv p p = true := by
  obtain ⟨ps, a, b, c⟩ := py_all (n := ls.length) fun x hx => (h x hx).py
  have lay : PyData.canLay0 (.list ps) = true := by unfold PyData.canLay0; exact b
  refine ⟨.list ps, fun M => .lst (a M), fun M r e => .ref e (a M), ?_, SeqAt.eqv_refl _ lay⟩
  unfold SeqAt.shaped
  rw [lay, Bool.true_and]
  refine decide_eq_true ?_
  unfold PyData.depth
  omega
/-! ## another cell, names of the second way: unlike ones -/
def rCell2 (x y : Int) : DTS := dSeq (dIf (dTest (dOp dLt (dVar 1) (dCB dLen (dCons (dVar 0) (dNil))))) (dRet (dOp dIx (dVar 0) (dVar 1))) (dNext))
  (dRet (dOp dAdd2 (dOp dMul (dC (.int x)) (dVar 1)) (dC (.int y))))
theorem cell2_ok (x y : Int) (h0 : 0 ≤ x) (h1 : x < 2 ^ 30) : ∀ ds M Qd Ed, spCell ds M Qd Ed → rCell2 x y (ends Qd Ed) (dstart ["script", "k"] ds) M := by
  intro ds M Qd Ed h
  obtain ⟨ns, k, rfl, k0, k1, hl, q⟩ := h
  refine ⟨_, rfl, _, rfl, ?_⟩
  refine br2 (fun e => ?_) (fun e => ?_)
  · have e := of_decide_eq_true e
    obtain ⟨d, h1, h2⟩ := at_some (xs := ns.map D.int) k0 e
    obtain ⟨i, _, rfl⟩ := List.mem_map.mp h2
    exact ⟨_, rfl, _, rfl, _, h1, q i⟩
  · exact ⟨_, rfl, cmul h0 h1 (by omega) (by omega), q _⟩
theorem wordsB_nodup : wordsB.Nodup := by decide +kernel
theorem tail_inj {u t : Str} {c d : Nat} (h : u ++ sg1 c ++ t = u ++ sg1 d ++ t) : c = d := mid_inj h
theorem names_bD : ∀ ds M Qd Ed, spNamesD 12 ds M Qd Ed → rNamesB (ends Qd Ed) (dstart ["b", "n", "letters", "way", "first", "stem", "words", "at", "k"] ds) M := by
  intro ds M Qd Ed h
  obtain ⟨b, sz, n, rfl, hb, hn, s0, s8, q⟩ := h
  refine ⟨_, rfl, b, 3, n, rfl, hb, by omega, by decide, by decide, fun M1 way s1 hb1 w0 w1 => ?_⟩
  refine ⟨_, rfl, b, 26, n + 1, rfl, hb1, by omega, by decide, by decide, fun M2 fi s2 hb2 f0 f1 => ?_⟩
  refine ⟨⟨by decide, by decide⟩, (by show (rngD 0 8).length < sizeLine; decide +kernel), ?_⟩
  refine comp_draw (b := b) (i := 8) (j := 2) rfl rfl (by decide) (by decide) (rngD 0 8) [] M2 (n + 2) hb2 (by rw [rng_len]; omega) (fun _ z => nomatch z) (by rw [rng_len]; decide) fun M4 cs s4 hb4 l4 hc => ?_
  rw [rng_len] at hb4 l4
  simp only [List.length_nil, Nat.zero_add] at l4
  refine ⟨cs.map sg1, by rw [List.map_map]; rfl, ?_, ?_⟩
  · rw [sum_len, List.length_map, l4]; decide
  have lt : Lt (Txt.join "" (cs.map sg1)) := fun c h => by rw [join_cps] at h; exact hc c h
  have ll : (Txt.join "" (cs.map sg1)).length = 8 := by rw [join_len, l4]
  generalize Txt.join "" (cs.map sg1) = stem at *
  have s5 := (s1.trans s2).trans s4
  have e100 : sz.toNat ≤ 100 := by omega
  have rl : ∀ k : Nat, k ≤ 100 → (rngD 0 k).length < sizeLine := fun k hk => by rw [rng_len]; exact Nat.lt_of_le_of_lt hk (by decide)
  have m8 : ∀ t : Int, 0 ≤ t % 8 ∧ t % 8 < 8 := fun t => ⟨Int.emod_nonneg _ (by decide), Int.emod_lt_of_pos _ (by decide)⟩
  have m12 : ∀ t : Int, 0 ≤ t % 12 ∧ t % 12 < 12 := fun t => ⟨Int.emod_nonneg _ (by decide), Int.emod_lt_of_pos _ (by decide)⟩
  have m26 : ∀ t : Int, 0 ≤ t % 26 ∧ t % 26 < 26 := fun t => ⟨Int.emod_nonneg _ (by decide), Int.emod_lt_of_pos _ (by decide)⟩
  let Tail2 : DTS := (dSeq (dAsg (dCall spTake (dCons (dVar 0) (dCons (dC (.int 8)) (dNil)))) (gdName 7))
    (dSeq (dAsg (dSlA dSl4 (dVar 5) (oNone) (oSome (dCall spTake (dCons (dVar 0) (dCons (dC (.int 8)) (dNil)))))) (gdName 5))
    (dRet (dLc (iR1 (dCons (dVar 1) (dNil))) (.one 8) dYes (dOp dAdd2 (dOp dAdd2 (dSlA dSl4 (dVar 5) (oNone) (oSome (dVar 7))) (dOp dIx (dVar 2) (dOp dMod (dOp dAdd2 (dVar 4) (dOp dMul (dC (.int 7)) (dVar 8))) (dC (.int 26))))) (dSlA dSl4 (dVar 5) (oSome (dVar 7)) (oNone))) [8]))))
  let Tail : DTS := dSeq (dIf (dAnd (dTest (dOp dEq (dVar 3) (dC (.int 1)))) (dTest (dOp dLt (dVar 1) (dC (.int 13))))) (dSeq (dAsg (dM1 rdSplit (dC (.str "wake doze ready sleep late still bell tick gain off bus disk")) (dC (.str " "))) (gdName 6))
    (dRet (dLc (iR1 (dCons (dVar 1) (dNil))) (.one 8) dYes (dOp dIx (dVar 6) (dOp dMod (dOp dAdd2 (dVar 4) (dOp dMul (dC (.int 5)) (dVar 8))) (dC (.int 12)))) [8]))) (dNext)) Tail2
  have tail2 : Tail2 (ends Qd Ed) [some (.ref b), some (.int sz), some (.str letters), some (.int way), some (.int fi), some (.str stem), none, none, none] M4 := by
    refine ⟨_, rfl, b, 8, n + 10, rfl, hb4, by omega, by decide, by decide, fun M5 at5 s5' hb5 a0 a1 => ?_⟩
    refine ⟨_, rfl, _, rfl, b, 8, n + 11, rfl, hb5, by omega, by decide, by decide, fun M6 c6 s6 hb6 c0 c1 => ?_⟩
    refine ⟨big_line (by omega), ?_⟩
    have lt2 := lt.to c0
    have ll2 : (cutS stem none (some c6)).length ≤ 7 := by rw [to_len c0]; omega
    generalize cutS stem none (some c6) = stm at *
    have hd := to_len (s := stm) a0
    have tl := from_len (s := stm) a0
    refine ⟨_, rfl, ⟨by omega, by omega⟩, rl _ e100, ?_⟩
    refine comp_namesP (P := fun j s => Nm s ∧ ∃ c, atI letters.cps.toList ((fi + 7 * (j : Nat)) % 26) = some c ∧ s = cutS stm none (some at5) ++ sg1 c ++ cutS stm (some at5) none) e100 (fun j R j1 h => ?_) (fun ss hl hs => q M6 ss ((s5.trans s5').trans s6) (hb6.mono (by omega)) (by omega) (mem_get hs fun _ _ z => z.1) fun l8 => nodup_of hs fun i j s l1 l2 p1 p2 => ?_)
    · obtain ⟨c, c1, c2⟩ := letter_at (m26 (fi + 7 * j)).1 (m26 (fi + 7 * j)).2
      refine ⟨_, rfl, _, rfl, big_line (by omega), _, rfl, _, rfl, _, rfl, cmul (by decide) (by decide) (by omega) (by omega), (by show (0 : Int) < 26; decide), letters_size, c, c1, ?_, _, rfl, _, rfl, big_line (by omega), ?_, h _ ⟨?_, c, c1, rfl⟩⟩
      · rw [sg_len]; exact big_line (by omega)
      · rw [Str.length_append, sg_len]; exact big_line (by omega)
      · refine ⟨?_, ?_, ((lt2.to a0).app (Lt.one c2)).app (lt2.from a0)⟩
        · rw [Str.length_append, Str.length_append, sg_len]; omega
        · rw [Str.length_append, Str.length_append, sg_len]; omega
    · obtain ⟨_, c, h1, h2⟩ := p1
      obtain ⟨_, d, h3, h4⟩ := p2
      have e := mid_inj (h2.symm.trans h4)
      rw [letter_num (m26 _).1 (m26 _).2 h1, letter_num (m26 _).1 (m26 _).2 h3] at e
      have k1 := m26 (fi + 7 * (i : Nat))
      have k2 := m26 (fi + 7 * (j : Nat))
      omega
  have tail : Tail (ends Qd Ed) [some (.ref b), some (.int sz), some (.str letters), some (.int way), some (.int fi), some (.str stem), none, none, none] M4 := by
    refine ⟨_, rfl, ?_⟩
    refine br2 (fun e => ?_) (fun e => tail2)
    refine ⟨_, rfl, ?_⟩
    refine br2 (fun e => ?_) (fun e => tail2)
    refine ⟨by decide +kernel, by decide +kernel, ?_⟩
    rw [splitB]
    refine ⟨_, rfl, ⟨by omega, by omega⟩, rl _ e100, ?_⟩
    refine comp_namesP (P := fun j s => Nm s ∧ wordsB[((fi + 5 * (j : Nat)) % 12).toNat]? = some s) e100 (fun j R j1 h => ?_) (fun ss hl hs => q M4 ss s5 (hb4.mono (by omega)) (by omega) (mem_get hs fun _ _ z => z.1) fun l8 => nodup_of hs fun i j s l1 l2 p1 p2 => ?_)
    · have k1 := m12 (fi + 5 * (j : Nat))
      obtain ⟨s, hs⟩ : ∃ s, wordsB[((fi + 5 * (j : Nat)) % 12).toNat]? = some s := ⟨_, List.getElem?_eq_getElem (by show _ < 12; omega)⟩
      have e : atI (wordsB.map D.str) ((fi + 5 * (j : Nat)) % 12) = some (.str s) := by
        have z := atI_nat (show (wordsB.map D.str)[((fi + 5 * (j : Nat)) % 12).toNat]? = some (.str s) by rw [List.getElem?_map, hs]; rfl)
        rw [show (((fi + 5 * (j : Nat)) % 12).toNat : Int) = (fi + 5 * (j : Nat)) % 12 by omega] at z
        exact z
      exact ⟨_, rfl, _, rfl, _, rfl, cmul (by decide) (by decide) (by omega) (by omega), (by show (0 : Int) < 12; decide), _, e, h s ⟨nmB s (List.mem_of_getElem? hs), hs⟩⟩
    · have k1 := m12 (fi + 5 * (i : Nat))
      have k2 := m12 (fi + 5 * (j : Nat))
      have z := (List.getElem?_inj (by show _ < 12; omega) wordsB_nodup).mp (p1.2.trans p2.2.symm)
      omega
  refine ⟨_, rfl, ?_⟩
  refine br2 (fun e => ?_) (fun e => tail)
  refine ⟨_, rfl, ?_⟩
  refine br2 (fun e => ?_) (fun e => tail)
  refine ⟨_, rfl, ⟨by omega, by omega⟩, rl _ e100, ?_⟩
  refine comp_namesP (P := fun j s => Nm s ∧ s.length = 1 + ((fi + 3 * (j : Nat)) % 8).toNat) e100 (fun j R j1 h => ?_) (fun ss hl hs => q M4 ss s5 (hb4.mono (by omega)) (by omega) (mem_get hs fun _ _ z => z.1) fun l8 => nodup_of hs fun i j s l1 l2 p1 p2 => ?_)
  · have k1 := m8 (fi + 3 * (j : Nat))
    have a0 : 0 ≤ 1 + (fi + 3 * (j : Nat)) % 8 := by omega
    refine ⟨_, rfl, _, rfl, _, rfl, cmul (by decide) (by decide) (by omega) (by omega), (by show (0 : Int) < 8; decide), big_line (by omega), h _ ⟨⟨?_, ?_, lt.to a0⟩, ?_⟩⟩
    · rw [to_len a0]; omega
    · rw [to_len a0]; omega
    · rw [to_len a0]; omega
  · have := p1.2.symm.trans p2.2
    have k1 := m8 (fi + 3 * (i : Nat))
    have k2 := m8 (fi + 3 * (j : Nat))
    omega
end DL

set_option Elab.async false
set_option linter.all false
set_option maxRecDepth 100000
set_option maxHeartbeats 4000000
set_option pp.maxSteps 1500
namespace DL
open PySem PySem.Spec PyProof.Rows L2
/-! ## the law's outer loop, with a state -/
theorem law_forJ {lo hi : Int} {tb : DTS} {Dd : DEnds} {ns : List Int} {s : Nat} (top : Nat) (J : Nat → DS → Mp → Prop) (h0 : 0 ≤ lo) (h1 : lo ≤ top) (h2 : hi ≤ top) (ht : top ≤ 64) (hn : ns.length ≤ 63)
    (body : ∀ (j : Nat) (δ : DS) (M : Mp) (N : DS → Mp → Prop), J j δ M → j < top → (∀ δ' M', J (j + 1) δ' M' → N δ' M') → tb { Dd with nx := N, ct := N, bk := Dd.nx } (δ.set s (some (.int (j : Nat)))) M)
    (fin : ∀ j δ M, J j δ M → Dd.nx δ M) {δ : DS} {M : Mp} (hs : δ[0]? = some (some (.sq (ns.map D.int)))) (h : J 0 δ M) :
    dFor (iR1 (dCons (dCB dMax (dCons (dC (.int lo)) (dCons (dCB dMin (dCons (dC (.int hi)) (dCons (dCB dLen (dCons (dVar 0) (dNil))) (dNil)))) (dNil)))) (dNil))) (gdName s) tb Dd δ M := by
  refine ⟨_, hs, ?_⟩
  have bd : ∀ j : Int, 0 ≤ j → j ≤ top → (-(2 ^ 62) ≤ j ∧ j < 2 ^ 62) ∧ dLoop (gdName s) tb .data (rngD 0 j.toNat) Dd δ M := by
    intro j j0 j1
    refine ⟨by omega, ?_⟩
    rw [rng_from]
    refine loop_rec (fun xs δ M => ∃ i n, xs = (List.range' i n).map (fun i : Nat => D.int (i : Nat)) ∧ i + n ≤ top ∧ J i δ M) ?_ ?_ _ _ _ ⟨0, j.toNat, rfl, by omega, h⟩
    · rintro δ M ⟨i, n, _, _, h⟩
      exact fin i δ M h
    · rintro x rs δ M' N ⟨i, n, e, l, hJ⟩ nx
      cases n with
      | zero => cases e
      | succ n =>
        rw [List.range'_succ, List.map_cons] at e
        injection e with e1 e2
        subst e1
        exact body i δ M' N hJ (by omega) fun δ' M2 h' => nx δ' M2 ⟨i + 1, n, e2, by omega, h'⟩
  have hl : (ns.map D.int).length ≤ 63 := by rw [List.length_map]; exact hn
  refine bd _ ?_ ?_
  all_goals (split <;> (try split) <;> omega)
/-! ## logs -/
structure Lg (C : Addr) (M : Mp) (x l : Addr) (rows : List D) : Prop where
  obj : M x = some (.ins C [("kept_rows", .ref l)])
  rw_ : M l = some (.lst rows)
theorem Lg.ext {C : Addr} {M M' : Mp} {x l : Addr} {rows : List D} (h : Lg C M x l rows) (e : Ext M M') : Lg C M' x l rows := ⟨e _ _ h.obj, e _ _ h.rw_⟩
def spLogInit (C : Addr) : DSp := fun ds M Q _ => ∃ x, ds = [.ref x] ∧ M x = some (.ins C []) ∧ ∀ l, M l = none → Q .non (updM (updM M l (.lst [])) x (.ins C [("kept_rows", .ref l)]))
def spLogRows (C : Addr) : DSp := fun ds M Q _ => ∃ x l rows, ds = [.ref x] ∧ Lg C M x l rows ∧ ∀ p, M p = none → Q (.ref p) (updM M p (.lst rows))
def spLogLen (C : Addr) : DSp := fun ds M Q _ => ∃ x l rows, ds = [.ref x] ∧ Lg C M x l rows ∧ Q (.int (rows.length : Nat)) M
def spLogLast (C cNum : Addr) : DSp := fun ds M Q E => ∃ x l rows d, ds = [.ref x, d] ∧ Lg C M x l rows ∧ Th M d ∧ br (wholeD d 1 1000) (∀ i, d = .int i → ∀ p, M p = none → Q (.ref p) (updM M p (.lst (cutD rows (some (-i)) none)))) (E (.ref cNum) (some [("found", d)]) M)
def spLogCop (C : Addr) : DSp := fun ds M Q _ => ∃ x l rows, ds = [.ref x] ∧ Lg C M x l rows ∧ ∀ M' y k, Ext M M' → M y = none → M k = none → y ≠ k → Lg C M' y k rows → Q (.ref y) M'
inductive Au where | num | log | ok
def lateD (rows : List D) (t : D) : Bool := match t, rows.getLast? with
  | .int i, some (.tup (.int j :: _)) => decide (i < j)
  | _, _ => false
def addOut (rows : List D) (t w : D) : Au := bif !turnD t then .num else bif !areWords w then .log else bif lateD rows t then .num else .ok
def rowD (t w : D) : D := match w with
  | .tup ws => .tup (t :: ws)
  | _ => .non
def RowsT (rows : List D) : Prop := ∀ r ∈ rows, ∃ i ws, r = .tup (.int i :: ws)
def spLogAdd (C cNum cLog : Addr) : DSp := fun ds M Q E => ∃ x l rows t w, ds = [.ref x, t, w] ∧ Lg C M x l rows ∧ RowsT rows ∧ rows.length ≤ 10000 ∧ Th M t ∧ Dq 3 M w ∧ ∀ M', Ext M M' →
  (match addOut rows t w with
    | .num => E (.ref cNum) (some [("found", t)]) M'
    | .log => E (.ref cLog) (some [("found", w)]) M'
    | .ok => Q .non (updM M' l (.lst (rows ++ [rowD t w]))))
theorem len_spLogInit {C : Addr} : ∀ ds M Q E, spLogInit C ds M Q E → ds.length = 1 := fun _ _ _ _ h => by obtain ⟨_, rfl, _⟩ := h; rfl
theorem len_spLogRows {C : Addr} : ∀ ds M Q E, spLogRows C ds M Q E → ds.length = 1 := fun _ _ _ _ h => by obtain ⟨_, _, _, rfl, _⟩ := h; rfl
theorem len_spLogLen {C : Addr} : ∀ ds M Q E, spLogLen C ds M Q E → ds.length = 1 := fun _ _ _ _ h => by obtain ⟨_, _, _, rfl, _⟩ := h; rfl
theorem len_spLogLast {C c : Addr} : ∀ ds M Q E, spLogLast C c ds M Q E → ds.length = 2 := fun _ _ _ _ h => by obtain ⟨_, _, _, _, rfl, _⟩ := h; rfl
theorem len_spLogCop {C : Addr} : ∀ ds M Q E, spLogCop C ds M Q E → ds.length = 1 := fun _ _ _ _ h => by obtain ⟨_, _, _, rfl, _⟩ := h; rfl
theorem len_spLogAdd {C c d : Addr} : ∀ ds M Q E, spLogAdd C c d ds M Q E → ds.length = 3 := fun _ _ _ _ h => by obtain ⟨_, _, _, _, _, rfl, _⟩ := h; rfl
def rLogInit (C : Addr) : DTS := dSetF [C] "kept_rows" (dVar 0) (dLstM (dNil))
theorem logInit_ok {C : Addr} : ∀ ds M Qd Ed, spLogInit C ds M Qd Ed → rLogInit C (ends Qd Ed) (dstart ["self"] ds) M := by
  intro ds M Qd Ed h
  obtain ⟨x, rfl, hx, q⟩ := h
  refine ⟨(Nat.le_of_ble_eq_true rfl), fun l hl => ?_⟩
  have ne : x ≠ l := fun e => by rw [e, hl] at hx; cases hx
  exact ⟨_, rfl, C, [], (by rw [updM_ne ne]; exact hx), List.mem_cons_self, (Nat.le_of_ble_eq_true rfl), q l hl⟩
def rLogRows (C : Addr) : DTS := dRet (dCB dListM (dCons (dFld [C] "kept_rows" (dVar 0)) (dNil)))
theorem logRows_ok {C : Addr} : ∀ ds M Qd Ed, spLogRows C ds M Qd Ed → rLogRows C (ends Qd Ed) (dstart ["self"] ds) M := by
  intro ds M Qd Ed h
  obtain ⟨x, l, rows, rfl, lg, q⟩ := h
  exact ⟨_, rfl, _, _, lg.obj, List.mem_cons_self, _, rfl, _, lg.rw_, fun p hp => q p hp⟩
def rLogLen (C : Addr) : DTS := dRet (dCB dLen (dCons (dFld [C] "kept_rows" (dVar 0)) (dNil)))
theorem logLen_ok {C : Addr} : ∀ ds M Qd Ed, spLogLen C ds M Qd Ed → rLogLen C (ends Qd Ed) (dstart ["self"] ds) M := by
  intro ds M Qd Ed h
  obtain ⟨x, l, rows, rfl, lg, q⟩ := h
  exact ⟨_, rfl, _, _, lg.obj, List.mem_cons_self, _, rfl, _, lg.rw_, q⟩
def rLogLast (C cNum : Addr) : DTS :=
  dSeq (dIf (dNot (dTruth (dCall spW (dCons (dVar 1) (dCons (dC (.int 1)) (dCons (dC (.int 1000)) (dNil))))))) (dRaise cNum "found" (dVar 1)) (dNext))
  (dRet (dSlA dSl4M (dFld [C] "kept_rows" (dVar 0)) (oSome (dNeg (dVar 1))) (oNone)))
theorem logLast_ok {C cNum : Addr} : ∀ ds M Qd Ed, spLogLast C cNum ds M Qd Ed → rLogLast C cNum (ends Qd Ed) (dstart ["self", "many"] ds) M := by
  intro ds M Qd Ed h
  obtain ⟨x, l, rows, d, rfl, lg, th, q⟩ := h
  refine ⟨_, rfl, d, 1, 1000, rfl, th, ?_⟩
  cases e : wholeD d 1 1000 with
  | false => rw [e] at q; exact ⟨_, rfl, q⟩
  | true =>
    rw [e] at q
    obtain ⟨i, rfl, _, _⟩ := whole_int e
    exact ⟨_, rfl, _, _, lg.obj, List.mem_cons_self, _, rfl, _, rfl, _, lg.rw_, fun p hp => q i rfl p hp⟩
def rLogCop (C : Addr) : DTS :=
  dSeq (dAsg (dMake C 1 0 (spLogInit C) plainG (dNil) (dNil)) (gdName 1))
  (dSeq (dSetF [C] "kept_rows" (dVar 1) (dCB dListM (dCons (dFld [C] "kept_rows" (dVar 0)) (dNil))))
  (dRet (dVar 1)))
theorem logCop_ok {C : Addr} : ∀ ds M Qd Ed, spLogCop C ds M Qd Ed → rLogCop C (ends Qd Ed) (dstart ["self", "other"] ds) M := by
  intro ds M Qd Ed h
  obtain ⟨x, l, rows, rfl, lg, q⟩ := h
  refine ⟨rfl, rfl, fun y hy => ⟨y, rfl, updM_same, fun k hk => ⟨rfl, ?_⟩⟩⟩
  have nk : k ≠ y := fun e => by rw [e, updM_same] at hk; cases hk
  have hk0 : M k = none := by rw [updM_ne nk] at hk; exact hk
  have e1 : Ext M (updM (updM (updM M y (.ins C [])) k (.lst [])) y (.ins C [("kept_rows", .ref k)])) := ((Ext.new hy).upd hk0).upd hy
  generalize hM : updM (updM (updM M y (.ins C [])) k (.lst [])) y (.ins C [("kept_rows", .ref k)]) = M1 at *
  have hy1 : M1 y = some (.ins C [("kept_rows", .ref k)]) := by rw [← hM]; exact updM_same
  refine ⟨_, rfl, _, _, e1 _ _ lg.obj, List.mem_cons_self, _, rfl, _, e1 _ _ lg.rw_, fun p hp => ?_⟩
  have np : y ≠ p := fun e => by rw [← e, hy1] at hp; cases hp
  have hp0 : M p = none := e1.none hp
  refine ⟨_, rfl, _, _, by rw [updM_ne np]; exact hy1, List.mem_cons_self, (Nat.le_of_ble_eq_true rfl), _, rfl, ?_⟩
  refine q _ y p ((e1.upd hp0).upd hy) hy hp0 np ⟨updM_same, ?_⟩
  rw [updM_ne np.symm]; exact updM_same
def rLogAdd (C cNum cLog : Addr) : DTS :=
  dSeq (dIf (dNot (dTruth (dCall spTurn (dCons (dVar 1) (dNil))))) (dRaise cNum "found" (dVar 1)) (dNext))
  (dSeq (dIf (dNot (dTruth (dCall spWords (dCons (dVar 2) (dNil))))) (dRaise cLog "found" (dVar 2)) (dNext))
  (dSeq (dIf (dAnd (dTest (dOp (dE0 not) (dFld [C] "kept_rows" (dVar 0)) (dLst (dNil)))) (dTest (dOp dLt (dVar 1) (dOp dIx (dOp dIx (dFld [C] "kept_rows" (dVar 0)) (dNeg (dC (.int 1)))) (dC (.int 0)))))) (dRaise cNum "found" (dVar 1)) (dNext))
  (dDrop (dAppend (dFld [C] "kept_rows" (dVar 0)) (dOp dAdd2 (dTup (dCons (dVar 1) (dNil))) (dVar 2))))))
theorem turn_int {t : D} (h : turnD t = true) : ∃ i, t = .int i ∧ 0 ≤ i := by
  cases t with
  | int i => exact ⟨i, rfl, of_decide_eq_true h⟩
  | _ => cases h
theorem words_tup {w : D} (h : areWords w = true) : ∃ s r, w = .tup (.str s :: r) := by
  unfold areWords at h
  split at h
  · exact ⟨_, _, rfl⟩
  · cases h
theorem logAdd_ok {C cNum cLog : Addr} : ∀ ds M Qd Ed, spLogAdd C cNum cLog ds M Qd Ed → rLogAdd C cNum cLog (ends Qd Ed) (dstart ["self", "turn", "words"] ds) M := by
  intro ds M Qd Ed h
  obtain ⟨x, l, rows, t, w, rfl, lg, rt, hl, th, dw, q⟩ := h
  unfold addOut at q
  refine ⟨_, rfl, t, rfl, th, ?_⟩
  cases c1 : turnD t with
  | false => rw [c1] at q; exact ⟨_, rfl, q M (Ext.refl M)⟩
  | true =>
  rw [c1] at q
  refine ⟨_, rfl, w, rfl, dw, fun M' ex => ?_⟩
  have q := q M' ex
  cases c2 : areWords w with
  | false => rw [c2] at q; exact ⟨_, rfl, q⟩
  | true =>
  rw [c2] at q
  obtain ⟨i, rfl, i0⟩ := turn_int c1
  obtain ⟨s, r, rfl⟩ := words_tup c2
  have lg := lg.ext ex
  have len : (.str s :: r).length ≤ 1000 := (dw.2 _ rfl).1
  have last : lateD rows (.int i) = false → (dDrop (dAppend (dFld [C] "kept_rows" (dVar 0)) (dOp dAdd2 (dTup (dCons (dVar 1) (dNil))) (dVar 2)))) (ends Qd Ed) [some (.ref x), some (.int i), some (.tup (.str s :: r))] M' := by
    intro e
    rw [e] at q
    refine ⟨_, rfl, _, _, lg.obj, List.mem_cons_self, _, rfl, ⟨_, lg.rw_⟩, _, rfl, (Nat.le_of_ble_eq_true rfl), _, rfl, ?_, rows, lg.rw_, Nat.lt_of_le_of_lt hl (by decide), q⟩
    show 1 + (D.str s :: r).length ≤ sizeLine
    exact Nat.le_trans (by omega : _ ≤ 1001) (by decide)
  refine ⟨_, rfl, _, _, lg.obj, List.mem_cons_self, _, rfl, (Nat.le_of_ble_eq_true rfl), rfl, _, lg.rw_, ?_⟩
  rcases List.eq_nil_or_concat rows with rfl | ⟨ys, y, rfl⟩
  · exact last rfl
  · refine brT (by simp) ?_
    obtain ⟨j, ws, rfl⟩ := rt y (by simp)
    rw [List.concat_eq_append] at *
    have la : lateD (ys ++ [.tup (.int j :: ws)]) (.int i) = decide (i < j) := by
      unfold lateD
      rw [List.getLast?_append]
      rfl
    refine ⟨_, rfl, _, rfl, _, _, lg.obj, List.mem_cons_self, _, rfl, _, lg.rw_, _, atI_last, _, at0, ?_⟩
    rw [la] at q last
    refine br2 (fun e => ?_) (fun e => ?_)
    · rw [e] at q
      exact ⟨_, rfl, q⟩
    · exact last e
end DL

set_option Elab.async false
set_option linter.all false
set_option maxRecDepth 100000
namespace K16
open PySem L2 DL
structure Ad where
  xm : Value → List Value → Option Bool
  c_Log : Addr
  c_NoNumber : Addr
  c_NoName : Addr
  c_Device : Addr
  c_NoLog : Addr
  c_WakeError : Addr
  c_StateError : Addr
  f_are_begin : Addr
  f_are_end : Addr
  f_are_missed : Addr
  f_are_bell : Addr
  f_are_plug : Addr
def mf_FORMS (A : Ad) : List (Str × Addr) := [("begin", A.f_are_begin), ("end", A.f_are_end), ("missed", A.f_are_missed), ("bell", A.f_are_bell), ("plug", A.f_are_plug)]
structure AdOk (A : Ad) : Prop where
  tt : True
  xm_NoNumber_WakeError_StateError : A.xm (.ref A.c_NoNumber) [.ref A.c_WakeError, .ref A.c_StateError] = some true
  xm_NoNumber_NoLog : A.xm (.ref A.c_NoNumber) [.ref A.c_NoLog] = some false
  xm_NoNumber_NoNumber : A.xm (.ref A.c_NoNumber) [.ref A.c_NoNumber] = some true
  xm_NoNumber_NoName_NoNumber : A.xm (.ref A.c_NoNumber) [.ref A.c_NoName, .ref A.c_NoNumber] = some true
  xm_NoLog_WakeError_StateError : A.xm (.ref A.c_NoLog) [.ref A.c_WakeError, .ref A.c_StateError] = some true
  xm_NoLog_NoLog : A.xm (.ref A.c_NoLog) [.ref A.c_NoLog] = some true
  xm_NoLog_NoNumber : A.xm (.ref A.c_NoLog) [.ref A.c_NoNumber] = some false
  xm_NoLog_NoName_NoNumber : A.xm (.ref A.c_NoLog) [.ref A.c_NoName, .ref A.c_NoNumber] = some false
  xm_NoName_WakeError_StateError : A.xm (.ref A.c_NoName) [.ref A.c_WakeError, .ref A.c_StateError] = some true
  xm_NoName_NoLog : A.xm (.ref A.c_NoName) [.ref A.c_NoLog] = some false
  xm_NoName_NoNumber : A.xm (.ref A.c_NoName) [.ref A.c_NoNumber] = some false
  xm_NoName_NoName_NoNumber : A.xm (.ref A.c_NoName) [.ref A.c_NoName, .ref A.c_NoNumber] = some true
end K16

set_option Elab.async false
set_option linter.all false
set_option maxRecDepth 100000
namespace K16
open PySem L2 DL
def sp__law_box (_ : Ad) : DSp := spBag
def sp__law_cell (_ : Ad) : DSp := spCell
def sp__law_take (_ : Ad) : DSp := spTake
def sp__law_names (_ : Ad) : DSp := spNamesD 12
def sp_is_name (_ : Ad) : DSp := spN
def sp_is_whole (_ : Ad) : DSp := spW
def sp_is_turn (_ : Ad) : DSp := spTurn
def sp_need_number (A : Ad) : DSp := spNeed A.c_NoNumber
def sp_m_Device_init (A : Ad) : DSp := spDev A.c_Device A.c_NoName A.c_NoNumber
def sp_is_told_device (_ : Ad) : DSp := spToldDev
def sp_are_links (_ : Ad) : DSp := spLinks
def sp_are_plug (_ : Ad) : DSp := spPlug
def sp_is_word_of (_ : Ad) : DSp := spWordOf
def sp_are_bell (_ : Ad) : DSp := spForm areBell
def sp_are_missed (_ : Ad) : DSp := spForm areMissed
def sp_is_deed_of (_ : Ad) : DSp := spDeedOf
def sp_are_end (_ : Ad) : DSp := spForm areEnd
def sp_are_begin (_ : Ad) : DSp := spForm areBegin
def sp_are_words (_ : Ad) : DSp := spWords
def sp_m_Log_init (A : Ad) : DSp := spLogInit A.c_Log
def sp_m_Log_add (A : Ad) : DSp := spLogAdd A.c_Log A.c_NoNumber A.c_NoLog
def sp_m_Log_rows (A : Ad) : DSp := spLogRows A.c_Log
def sp_m_Log_len (A : Ad) : DSp := spLogLen A.c_Log
def sp_m_Log_copied (A : Ad) : DSp := spLogCop A.c_Log
def sp_m_Log_last (A : Ad) : DSp := spLogLast A.c_Log A.c_NoNumber
/-! what is drawn -/
def NmsD (ss : List Str) : Prop := 2 ≤ ss.length ∧ ss.length ≤ 8 ∧ (∀ s ∈ ss, Nm s) ∧ ss.Nodup
def Lnk (x : D) : Prop := ∃ u v, x = .tup [.str u, .str v] ∧ Nm u ∧ Nm v ∧ u ≠ v
def sp__law_links (_ : Ad) : DSp := fun ds M Q _ => ∃ (b : Addr) (ss : List Str) (n : Nat), ds = [.ref b, .lst (ss.map D.str)] ∧ Bag M b n ∧ n < 900000 ∧ NmsD ss ∧ ∀ M' xs, But b M M' → Bag M' b (n + 34) → xs.length ≤ 16 → (∀ x ∈ xs, Lnk x) → Q (.tup xs) M'
structure Dvc (d : D) : Prop where
  ok : devD d = true
  pl : Pl 8 [16] d
def sp__law_told_device (_ : Ad) : DSp := fun ds M Q _ => ∃ (b : Addr) (ss : List Str) (n : Nat), ds = [.ref b, .lst (ss.map D.str)] ∧ Bag M b n ∧ n < 900000 ∧ NmsD ss ∧ ∀ M' d, But b M M' → Bag M' b (n + 9) → Dvc d → Q d M'
structure GW (d : D) : Prop where
  ok : areWords d = true
  pl : Pl 8 [4, 16, 2] d
def sp__law_words (_ : Ad) : DSp := fun ds M Q _ => ∃ (b : Addr) (ss : List Str) (n : Nat), ds = [.ref b, .lst (ss.map D.str)] ∧ Bag M b n ∧ n < 800000 ∧ NmsD ss ∧ ∀ M' d, But b M M' → Bag M' b (n + 60) → GW d → Q d M'
/-! what is told -/
def toldA (o : Au) (t w : D) : D := match o with
  | .num => .lst [.str "number", t]
  | .log => .lst [.str "log", w]
  | .ok => .lst [.str "told", .non]
def toldM (o : Au) (M : Mp) (l : Addr) (ds : List D) : Mp := match o with
  | .ok => updM M l (.lst ds)
  | _ => M
def sp__law_told (A : Ad) : DSp := fun ds M Q _ => ∃ x l rows t w, ds = [.ref x, t, w] ∧ Lg A.c_Log M x l rows ∧ RowsT rows ∧ rows.length ≤ 10000 ∧ Th M t ∧ Dq 3 M w ∧ ∀ M', Ext M M' →
  Q (toldA (addOut rows t w) t w) (toldM (addOut rows t w) M' l (rows ++ [rowD t w]))
def sp__law_last (A : Ad) : DSp := fun ds M Q _ => ∃ x l rows d, ds = [.ref x, d] ∧ Lg A.c_Log M x l rows ∧ Th M d ∧ wholeD d 1 1000 = false ∧ ∀ M', Ext M M' → Q (.lst [.str "number", d]) M'
/-! rows kept -/
def Row1 (n : Nat) (r : D) : Prop := ∃ i ws, r = .tup (.int i :: ws) ∧ 0 ≤ i ∧ i ≤ 90 * (n : Nat) ∧ Pl 8 [5, 16, 2] r
def Rows (rows : List D) : Prop := ∀ r ∈ rows, Row1 rows.length r
def sp__law_refused (A : Ad) : DSp := fun ds M Q _ => ∃ (b x l r : Addr) (rows : List D) (w : D) (n : Nat), ds = [.ref b, .ref x, .ref r, w] ∧ Bag M b n ∧ n < 900000 ∧ Lg A.c_Log M x l rows ∧ M r = some (.lst rows) ∧ Rows rows ∧ rows.length ≤ 1000 ∧ GW w ∧ ∀ M', But b M M' → Bag M' b (n + 2) → Q (.bl true) M'
def sp__law_stands (A : Ad) : DSp := fun ds M Q _ => ∃ (b x l r : Addr) (rows : List D) (n : Nat), ds = [.ref b, .ref x, .ref r] ∧ Bag M b n ∧ n < 900000 ∧ Lg A.c_Log M x l rows ∧ M r = some (.lst rows) ∧ Rows rows ∧ rows.length ≤ 160 ∧ ∀ M', But b M M' → Bag M' b (n + 3) → Q (.bl true) M'
theorem len__law_box (A : Ad) : ∀ ds M Q E, sp__law_box A ds M Q E → ds.length = 1 := len_spBag
theorem len__law_cell (A : Ad) : ∀ ds M Q E, sp__law_cell A ds M Q E → ds.length = 2 := len_spCell
theorem len__law_take (A : Ad) : ∀ ds M Q E, sp__law_take A ds M Q E → ds.length = 2 := len_spTake
theorem len__law_names (A : Ad) : ∀ ds M Q E, sp__law_names A ds M Q E → ds.length = 2 := len_spNamesD
theorem len_is_name (A : Ad) : ∀ ds M Q E, sp_is_name A ds M Q E → ds.length = 1 := len_spN
theorem len_is_whole (A : Ad) : ∀ ds M Q E, sp_is_whole A ds M Q E → ds.length = 3 := len_spW
theorem len_is_turn (A : Ad) : ∀ ds M Q E, sp_is_turn A ds M Q E → ds.length = 1 := len_spTurn
theorem len_need_number (A : Ad) : ∀ ds M Q E, sp_need_number A ds M Q E → ds.length = 2 := len_spNeed
theorem len_m_Device_init (A : Ad) : ∀ ds M Q E, sp_m_Device_init A ds M Q E → ds.length = 8 := len_spDev
theorem len_is_told_device (A : Ad) : ∀ ds M Q E, sp_is_told_device A ds M Q E → ds.length = 1 := len_spToldDev
theorem len_are_links (A : Ad) : ∀ ds M Q E, sp_are_links A ds M Q E → ds.length = 1 := len_spLinks
theorem len_are_plug (A : Ad) : ∀ ds M Q E, sp_are_plug A ds M Q E → ds.length = 1 := len_spPlug
theorem len_is_word_of (A : Ad) : ∀ ds M Q E, sp_is_word_of A ds M Q E → ds.length = 2 := len_spWordOf
theorem len_are_bell (A : Ad) : ∀ ds M Q E, sp_are_bell A ds M Q E → ds.length = 1 := len_spForm
theorem len_are_missed (A : Ad) : ∀ ds M Q E, sp_are_missed A ds M Q E → ds.length = 1 := len_spForm
theorem len_is_deed_of (A : Ad) : ∀ ds M Q E, sp_is_deed_of A ds M Q E → ds.length = 2 := len_spDeedOf
theorem len_are_end (A : Ad) : ∀ ds M Q E, sp_are_end A ds M Q E → ds.length = 1 := len_spForm
theorem len_are_begin (A : Ad) : ∀ ds M Q E, sp_are_begin A ds M Q E → ds.length = 1 := len_spForm
theorem len_are_words (A : Ad) : ∀ ds M Q E, sp_are_words A ds M Q E → ds.length = 1 := len_spWords
theorem len_m_Log_init (A : Ad) : ∀ ds M Q E, sp_m_Log_init A ds M Q E → ds.length = 1 := len_spLogInit
theorem len_m_Log_add (A : Ad) : ∀ ds M Q E, sp_m_Log_add A ds M Q E → ds.length = 3 := len_spLogAdd
theorem len_m_Log_rows (A : Ad) : ∀ ds M Q E, sp_m_Log_rows A ds M Q E → ds.length = 1 := len_spLogRows
theorem len_m_Log_len (A : Ad) : ∀ ds M Q E, sp_m_Log_len A ds M Q E → ds.length = 1 := len_spLogLen
theorem len_m_Log_copied (A : Ad) : ∀ ds M Q E, sp_m_Log_copied A ds M Q E → ds.length = 1 := len_spLogCop
theorem len_m_Log_last (A : Ad) : ∀ ds M Q E, sp_m_Log_last A ds M Q E → ds.length = 2 := len_spLogLast
theorem len__law_links (A : Ad) : ∀ ds M Q E, sp__law_links A ds M Q E → ds.length = 2 := fun _ _ _ _ h => by obtain ⟨_, _, _, rfl, _⟩ := h; rfl
theorem len__law_told_device (A : Ad) : ∀ ds M Q E, sp__law_told_device A ds M Q E → ds.length = 2 := fun _ _ _ _ h => by obtain ⟨_, _, _, rfl, _⟩ := h; rfl
theorem len__law_words (A : Ad) : ∀ ds M Q E, sp__law_words A ds M Q E → ds.length = 2 := fun _ _ _ _ h => by obtain ⟨_, _, _, rfl, _⟩ := h; rfl
theorem len__law_told (A : Ad) : ∀ ds M Q E, sp__law_told A ds M Q E → ds.length = 3 := fun _ _ _ _ h => by obtain ⟨_, _, _, _, _, rfl, _⟩ := h; rfl
theorem len__law_last (A : Ad) : ∀ ds M Q E, sp__law_last A ds M Q E → ds.length = 2 := fun _ _ _ _ h => by obtain ⟨_, _, _, _, rfl, _⟩ := h; rfl
theorem len__law_refused (A : Ad) : ∀ ds M Q E, sp__law_refused A ds M Q E → ds.length = 4 := fun _ _ _ _ h => by obtain ⟨_, _, _, _, _, _, _, rfl, _⟩ := h; rfl
theorem len__law_stands (A : Ad) : ∀ ds M Q E, sp__law_stands A ds M Q E → ds.length = 3 := fun _ _ _ _ h => by obtain ⟨_, _, _, _, _, _, rfl, _⟩ := h; rfl
theorem len_law (A : Ad) : ∀ ds M Q E, spLaw ds M Q E → ds.length = 1 := len_spLaw
end K16

set_option Elab.async false
set_option linter.all false
set_option maxRecDepth 100000
namespace K16
open PySem L2 DL
def t_m_Log_init (A : Ad) : DTS :=
  dSetF [A.c_Log] "kept_rows" (dVar 0) (dLstM (dNil))
abbrev N_m_Log_init : List Str := ["self"]
def t__law_box (A : Ad) : DTS :=
  dRet (dLstM (dCons (dCB dMax (dCons (dC (.int 0)) (dCons (dOp dSub (dVar 0) (dOp dPow (dC (.int 10)) (dC (.int 18)))) (dNil)))) (dCons (dOp dMod (dVar 0) (dC (.int 2147483629))) (dCons (dC (.int 0)) (dNil)))))
abbrev N__law_box : List Str := ["_law_cell_here"]
def t__law_cell (A : Ad) : DTS :=
  dSeq (dIf (dTest (dOp dLt (dVar 1) (dCB dLen (dCons (dVar 0) (dNil))))) (dRet (dOp dIx (dVar 0) (dVar 1))) (dNext))
  (dRet (dOp dAdd2 (dOp dMul (dC (.int 6091)) (dVar 1)) (dC (.int 37))))
abbrev N__law_cell : List Str := ["_law_script", "_law_k"]
def t__law_take (A : Ad) : DTS :=
  dSeq (dIf (dTest (dOp dGt (dOp dIx (dVar 0) (dC (.int 0))) (dC (.int 0)))) (dSeq (dAsg (dOp dMod (dOp dIx (dVar 0) (dC (.int 0))) (dVar 1)) (gdName 2))
  (dSeq (dAsg (dOp dDiv (dOp dIx (dVar 0) (dC (.int 0))) (dVar 1)) (gdSubL (dVar 0) (dC (.int 0))))
  (dRet (dVar 2)))) (dNext))
  (dSeq (dAsg (dOp dAdd2 (dOp dIx (dVar 0) (dC (.int 2))) (dC (.int 1))) (gdSubL (dVar 0) (dC (.int 2))))
  (dSeq (dAsg (dOp dMod (dOp dPow (dOp dAdd2 (dOp dAdd2 (dOp dIx (dVar 0) (dC (.int 1))) (dOp dMul (dC (.int 27179)) (dOp dIx (dVar 0) (dC (.int 2))))) (dC (.int 11))) (dC (.int 5))) (dC (.int 2147483647))) (gdName 3))
  (dSeq (dAsg (dOp dMod (dOp dPow (dOp dAdd2 (dVar 3) (dOp dMul (dC (.int 99991)) (dOp dIx (dVar 0) (dC (.int 2))))) (dC (.int 3))) (dC (.int 2147483587))) (gdName 3))
  (dRet (dOp dMod (dOp dDiv (dVar 3) (dC (.int 16))) (dVar 1))))))
abbrev N__law_take : List Str := ["_law_box_here", "_law_wide", "_law_digit", "_law_number"]
def t__law_names (A : Ad) : DTS :=
  dSeq (dAsg (dC (.str "abcdefghijklmnopqrstuvwxyz")) (gdName 2))
  (dSeq (dAsg (dCall (sp__law_take A) (dCons (dVar 0) (dCons (dC (.int 3)) (dNil)))) (gdName 3))
  (dSeq (dAsg (dCall (sp__law_take A) (dCons (dVar 0) (dCons (dC (.int 26)) (dNil)))) (gdName 4))
  (dSeq (dAsg (dJoin (dC (.str "")) (dLc (iR1 (dCons (dC (.int 8)) (dNil))) (.one 8) dYes (dOp dIx (dVar 2) (dCall (sp__law_take A) (dCons (dVar 0) (dCons (dC (.int 26)) (dNil))))) [8])) (gdName 5))
  (dSeq (dIf (dAnd (dTest (dOp dEq (dVar 3) (dC (.int 0)))) (dTest (dOp dLt (dVar 1) (dC (.int 9))))) (dRet (dLc (iR1 (dCons (dVar 1) (dNil))) (.one 8) dYes (dSlA dSl4 (dVar 5) (oNone) (oSome (dOp dAdd2 (dC (.int 1)) (dOp dMod (dOp dAdd2 (dVar 4) (dOp dMul (dC (.int 3)) (dVar 8))) (dC (.int 8)))))) [8])) (dNext))
  (dSeq (dIf (dAnd (dTest (dOp dEq (dVar 3) (dC (.int 1)))) (dTest (dOp dLt (dVar 1) (dC (.int 13))))) (dSeq (dAsg (dM1 rdSplit (dC (.str "wake doze ready sleep late still bell tick gain off bus disk")) (dC (.str " "))) (gdName 6))
  (dRet (dLc (iR1 (dCons (dVar 1) (dNil))) (.one 8) dYes (dOp dIx (dVar 6) (dOp dMod (dOp dAdd2 (dVar 4) (dOp dMul (dC (.int 5)) (dVar 8))) (dC (.int 12)))) [8]))) (dNext))
  (dSeq (dAsg (dCall (sp__law_take A) (dCons (dVar 0) (dCons (dC (.int 8)) (dNil)))) (gdName 7))
  (dSeq (dAsg (dSlA dSl4 (dVar 5) (oNone) (oSome (dCall (sp__law_take A) (dCons (dVar 0) (dCons (dC (.int 8)) (dNil)))))) (gdName 5))
  (dRet (dLc (iR1 (dCons (dVar 1) (dNil))) (.one 8) dYes (dOp dAdd2 (dOp dAdd2 (dSlA dSl4 (dVar 5) (oNone) (oSome (dVar 7))) (dOp dIx (dVar 2) (dOp dMod (dOp dAdd2 (dVar 4) (dOp dMul (dC (.int 7)) (dVar 8))) (dC (.int 26))))) (dSlA dSl4 (dVar 5) (oSome (dVar 7)) (oNone))) [8])))))))))
abbrev N__law_names : List Str := ["_law_box_here", "_law_wide", "_law_letters", "_law_way", "_law_first", "_law_stem", "_law_words_here", "_law_at", "_law_k"]
def b1__law_links (A : Ad) : DTS :=
  dSeq (dAsg (dCall (sp__law_take A) (dCons (dVar 0) (dCons (dCB dLen (dCons (dVar 1) (dNil))) (dNil)))) (gdName 4))
  (dDrop (dAppend (dVar 2) (dTup (dCons (dOp dIx (dVar 1) (dVar 4)) (dCons (dOp dIx (dVar 1) (dOp dSub (dOp dSub (dVar 4) (dC (.int 1))) (dCall (sp__law_take A) (dCons (dVar 0) (dCons (dOp dSub (dCB dLen (dCons (dVar 1) (dNil))) (dC (.int 1))) (dNil)))))) (dNil))))))
def t__law_links (A : Ad) : DTS :=
  dSeq (dAsg (dLstM (dNil)) (gdName 2))
  (dSeq (dFor (iR1 (dCons (dOp dIx (dLst (dCons (dC (.int 0)) (dCons (dC (.int 1)) (dCons (dC (.int 16)) (dCons (dCall (sp__law_take A) (dCons (dVar 0) (dCons (dC (.int 5)) (dNil)))) (dNil)))))) (dCall (sp__law_take A) (dCons (dVar 0) (dCons (dC (.int 4)) (dNil))))) (dNil))) (gdName 3) (b1__law_links A))
  (dRet (dCB dTuple (dCons (dVar 2) (dNil)))))
abbrev N__law_links : List Str := ["_law_box_here", "_law_names_here", "_law_found", "_law_k", "_law_at"]
def t__law_told_device (A : Ad) : DTS :=
  dSeq (dAsg (dOp dIx (dLst (dCons (dC .non) (dCons (dOp dIx (dVar 1) (dCall (sp__law_take A) (dCons (dVar 0) (dCons (dCB dLen (dCons (dVar 1) (dNil))) (dNil))))) (dNil)))) (dCall (sp__law_take A) (dCons (dVar 0) (dCons (dC (.int 2)) (dNil))))) (gdName 2))
  (dSeq (dAsg (dOp dIx (dLst (dCons (dC (.int 0)) (dCons (dC (.int 100)) (dCons (dCall (sp__law_take A) (dCons (dVar 0) (dCons (dC (.int 101)) (dNil)))) (dNil))))) (dCall (sp__law_take A) (dCons (dVar 0) (dCons (dC (.int 3)) (dNil))))) (gdName 3))
  (dSeq (dAsg (dOp dIx (dLst (dCons (dC (.int 0)) (dCons (dVar 3) (dCons (dCall (sp__law_take A) (dCons (dVar 0) (dCons (dOp dAdd2 (dVar 3) (dC (.int 1))) (dNil)))) (dNil))))) (dCall (sp__law_take A) (dCons (dVar 0) (dCons (dC (.int 3)) (dNil))))) (gdName 4))
  (dRet (dTup (dCons (dOp dIx (dVar 1) (dC (.int 0))) (dCons (dVar 2) (dCons (dVar 3) (dCons (dVar 4) (dCons (dCall (sp__law_take A) (dCons (dVar 0) (dCons (dC (.int 6)) (dNil)))) (dCons (dCall (sp__law_take A) (dCons (dVar 0) (dCons (dC (.int 6)) (dNil)))) (dCons (dCall (sp__law_take A) (dCons (dVar 0) (dCons (dC (.int 10)) (dNil)))) (dNil))))))))))))
abbrev N__law_told_device : List Str := ["_law_box_here", "_law_names_here", "_law_parent", "_law_burn", "_law_sip"]
def t__law_words (A : Ad) : DTS :=
  dSeq (dAsg (dM1 rdSplit (dC (.str "waking wake falling doze stays off use reset unplug ready sleep late still")) (dC (.str " "))) (gdName 2))
  (dSeq (dAsg (dOp dAdd2 (dVar 2) (dM1 rdSplit (dC (.str "unready unsleep unlate unstill")) (dC (.str " ")))) (gdName 2))
  (dSeq (dPar2 3 4 (dCons (dOp dIx (dVar 1) (dCall (sp__law_take A) (dCons (dVar 0) (dCons (dCB dLen (dCons (dVar 1) (dNil))) (dNil))))) (dCons (dOp dIx (dVar 1) (dCall (sp__law_take A) (dCons (dVar 0) (dCons (dCB dLen (dCons (dVar 1) (dNil))) (dNil))))) (dNil))))
  (dSeq (dAsg (dCall (sp__law_take A) (dCons (dVar 0) (dCons (dC (.int 8)) (dNil)))) (gdName 5))
  (dSeq (dPar2 6 7 (dCons (dOp dIx (dLst (dCons (dC (.str "gain")) (dCons (dC (.str "release")) (dNil)))) (dCall (sp__law_take A) (dCons (dVar 0) (dCons (dC (.int 2)) (dNil))))) (dCons (dOp dIx (dLst (dCons (dC (.str "tick")) (dCons (dC (.str "sleep")) (dCons (dC (.str "rise")) (dNil))))) (dCall (sp__law_take A) (dCons (dVar 0) (dCons (dC (.int 3)) (dNil))))) (dNil))))
  (dSeq (dAsg (dOp dIx (dLst (dCons (dC (.str "done")) (dCons (dC (.str "busy")) (dCons (dC (.str "broken")) (dCons (dC (.str "bell")) (dNil)))))) (dCall (sp__law_take A) (dCons (dVar 0) (dCons (dOp dAdd2 (dC (.int 3)) (dCB dIntB (dCons (dOp dEq (dVar 7) (dC (.str "sleep"))) (dNil)))) (dNil))))) (gdName 8))
  (dSeq (dIf (dTest (dOp dEq (dVar 5) (dC (.int 0)))) (dRet (dOp dIx (dLst (dCons (dTup (dCons (dC (.str "begin")) (dCons (dVar 6) (dCons (dVar 3) (dNil))))) (dCons (dTup (dCons (dC (.str "begin")) (dCons (dVar 7) (dCons (dC .non) (dNil))))) (dNil)))) (dCall (sp__law_take A) (dCons (dVar 0) (dCons (dC (.int 2)) (dNil)))))) (dNext))
  (dSeq (dIf (dTest (dOp dEq (dVar 5) (dC (.int 1)))) (dRet (dOp dIx (dLst (dCons (dTup (dCons (dC (.str "end")) (dCons (dVar 6) (dCons (dVar 3) (dCons (dIfE (dTest (dOp dNe (dVar 8) (dC (.str "bell")))) (dVar 8) (dC (.str "done"))) (dNil)))))) (dCons (dTup (dCons (dC (.str "end")) (dCons (dVar 7) (dCons (dC .non) (dCons (dVar 8) (dNil)))))) (dNil)))) (dCall (sp__law_take A) (dCons (dVar 0) (dCons (dC (.int 2)) (dNil)))))) (dNext))
  (dSeq (dIf (dTest (dOp dEq (dVar 5) (dC (.int 2)))) (dRet (dTup (dCons (dC (.str "missed")) (dCons (dVar 3) (dCons (dVar 4) (dNil)))))) (dNext))
  (dSeq (dIf (dTest (dOp dEq (dVar 5) (dC (.int 3)))) (dRet (dTup (dCons (dC (.str "bell")) (dCons (dVar 3) (dCons (dOp dIx (dLst (dCons (dC (.str "unheard")) (dCons (dC (.str "noted")) (dCons (dC (.str "broke")) (dCons (dC (.str "woke")) (dNil)))))) (dCall (sp__law_take A) (dCons (dVar 0) (dCons (dC (.int 4)) (dNil))))) (dNil)))))) (dNext))
  (dSeq (dIf (dTest (dOp dEq (dVar 5) (dC (.int 4)))) (dRet (dTup (dCons (dC (.str "plug")) (dCons (dCall (sp__law_told_device A) (dCons (dVar 0) (dCons (dVar 1) (dNil)))) (dCons (dCall (sp__law_links A) (dCons (dVar 0) (dCons (dVar 1) (dNil)))) (dNil)))))) (dNext))
  (dRet (dTup (dCons (dOp dIx (dVar 2) (dCall (sp__law_take A) (dCons (dVar 0) (dCons (dC (.int 17)) (dNil))))) (dCons (dVar 3) (dNil)))))))))))))))
abbrev N__law_words : List Str := ["_law_box_here", "_law_names_here", "_law_states", "_law_name", "_law_other", "_law_way", "_law_own", "_law_whole", "_law_ends"]
def t_is_turn (A : Ad) : DTS :=
  dRet (dAndV (dIsi .int (dVar 0)) (dAndV (dNotV (dIsi .bl (dVar 0))) (dOp dGe (dVar 0) (dC (.int 0)))))
abbrev N_is_turn : List Str := ["thing"]
def t_is_name (A : Ad) : DTS :=
  dRet (dAndV (dIsi .str (dVar 0)) (dAndV (dChain dLe dLe (dC (.int 1)) (dCB dLen (dCons (dVar 0) (dNil))) (dC (.int 8))) (dCB dAll (dCons (dLc (iS (dVar 0)) (.one 1) dYes (dOp dInS (dVar 1) (dC (.str "abcdefghijklmnopqrstuvwxyz"))) [1]) (dNil)))))
abbrev N_is_name : List Str := ["thing", "sign"]
def t_is_whole (A : Ad) : DTS :=
  dRet (dAndV (dIsi .int (dVar 0)) (dAndV (dNotV (dIsi .bl (dVar 0))) (dChain dLe dLe (dVar 1) (dVar 0) (dVar 2))))
abbrev N_is_whole : List Str := ["thing", "low", "high"]
def t_need_number (A : Ad) : DTS :=
  dIf (dNot (dTruth (dCall (sp_is_whole A) (dCons (dVar 0) (dCons (dC (.int 0)) (dCons (dVar 1) (dNil))))))) (dRaise A.c_NoNumber "found" (dVar 0)) (dNext)
abbrev N_need_number : List Str := ["thing", "high"]
def pg_m_Device_init_0 : List D → List D → List D := fun ds es => match ds, es with
  | [a0, a1], [b0, b1, b2, b3, b4, b5] => [a0, a1, b0, b1, b2, b3, b4, b5]
  | _, _ => []
def t_m_Device_init (A : Ad) : DTS :=
  dSeq (dIf (dNot (dTruth (dCall (sp_is_name A) (dCons (dVar 1) (dNil))))) (dRaise A.c_NoName "found" (dVar 1)) (dNext))
  (dSeq (dIf (dAnd (dTest (dOp dIsNot (dVar 2) (dC .non))) (dNot (dTruth (dCall (sp_is_name A) (dCons (dVar 2) (dNil)))))) (dRaise A.c_NoName "found" (dVar 2)) (dNext))
  (dSeq (dDrop (dCall (sp_need_number A) (dCons (dVar 3) (dCons (dC (.int 100)) (dNil)))))
  (dSeq (dDrop (dCall (sp_need_number A) (dCons (dVar 4) (dCons (dVar 3) (dNil)))))
  (dSeq (dDrop (dCall (sp_need_number A) (dCons (dVar 5) (dCons (dC (.int 5)) (dNil)))))
  (dSeq (dDrop (dCall (sp_need_number A) (dCons (dVar 6) (dCons (dC (.int 5)) (dNil)))))
  (dSeq (dDrop (dCall (sp_need_number A) (dCons (dVar 7) (dCons (dC (.int 9)) (dNil)))))
  (dSetF [A.c_Device] "whole" (dVar 0) (dTup (dCons (dVar 1) (dCons (dVar 2) (dCons (dVar 3) (dCons (dVar 4) (dCons (dVar 5) (dCons (dVar 6) (dCons (dVar 7) (dNil))))))))))))))))
abbrev N_m_Device_init : List Str := ["self", "name", "parent", "burn", "sip", "wake", "fall", "rest"]
def b1_is_told_device (A : Ad) : DTS :=
  dDrop (dMakeF A.c_Device 2 6 (sp_m_Device_init A) pg_m_Device_init_0 (dCons (dVar 1) (dNil)) (dCons (dVar 2) (dCons (dVar 4) (dCons (dVar 5) (dCons (dVar 6) (dCons (dVar 7) (dCons (dVar 8) (dNil))))))))
def t_is_told_device (A : Ad) : DTS :=
  dSeq (dIf (dOr (dNot (dTruth (dIsi .tup (dVar 0)))) (dTest (dOp dNe (dCB dLen (dCons (dVar 0) (dNil))) (dC (.int 7))))) (dRet (dC (.bl false))) (dNext))
  (dSeq (dAsg (dVar 0) (gdStar 3 2 (gdNames [1, 2, 3])))
  (dSeq (dAsg (dVar 3) (gdU 5 (gdNames [4, 5, 6, 7, 8])))
  (dSeq (dTry A.xm [⟨[.ref A.c_NoName, .ref A.c_NoNumber], none, fun a cls d => dRet (dC (.bl false))⟩] (b1_is_told_device A))
  (dRet (dC (.bl true))))))
abbrev N_is_told_device : List Str := ["thing", "name", "parent", "numbers", "burn", "sip", "wake", "fall", "rest"]
def t_are_links (A : Ad) : DTS :=
  dSeq (dIf (dOr (dNot (dTruth (dIsi .tup (dVar 0)))) (dTest (dOp dGt (dCB dLen (dCons (dVar 0) (dNil))) (dC (.int 16))))) (dRet (dC (.bl false))) (dNext))
  (dSeq (dAsg (dLc (iT (dVar 0)) (.one 2) (dAnd (dTruth (dIsi .tup (dVar 2))) (dTest (dOp dEq (dCB dLen (dCons (dVar 2) (dNil))) (dC (.int 2))))) (dVar 2) [2]) (gdName 1))
  (dSeq (dIf (dTest (dOp dLt (dCB dLen (dCons (dVar 1) (dNil))) (dCB dLen (dCons (dVar 0) (dNil))))) (dRet (dC (.bl false))) (dNext))
  (dRet (dCB dAll (dCons (dLc (iL (dVar 1)) (.tup [3, 4]) dYes (dAndV (dCall (sp_is_name A) (dCons (dVar 3) (dNil))) (dAndV (dCall (sp_is_name A) (dCons (dVar 4) (dNil))) (dOp dNe (dVar 3) (dVar 4)))) [3, 4]) (dNil))))))
abbrev N_are_links : List Str := ["thing", "pairs", "pair", "user", "supplier"]
def t_are_plug (A : Ad) : DTS :=
  dRet (dAndV (dOp dEq (dCB dLen (dCons (dVar 0) (dNil))) (dC (.int 3))) (dAndV (dCall (sp_is_told_device A) (dCons (dOp dIx (dVar 0) (dC (.int 1))) (dNil))) (dCall (sp_are_links A) (dCons (dOp dIx (dVar 0) (dC (.int 2))) (dNil)))))
abbrev N_are_plug : List Str := ["words"]
def t_is_word_of (A : Ad) : DTS :=
  dRet (dAndV (dIsi .str (dVar 0)) (dOp (dInW id) (dVar 0) (dVar 1)))
abbrev N_is_word_of : List Str := ["thing", "words"]
def t_are_bell (A : Ad) : DTS :=
  dRet (dAndV (dOp dEq (dCB dLen (dCons (dVar 0) (dNil))) (dC (.int 3))) (dAndV (dCall (sp_is_name A) (dCons (dOp dIx (dVar 0) (dC (.int 1))) (dNil))) (dCall (sp_is_word_of A) (dCons (dOp dIx (dVar 0) (dC (.int 2))) (dCons (dC (.tup [.str "unheard", .str "noted", .str "broke", .str "woke"])) (dNil))))))
abbrev N_are_bell : List Str := ["words"]
def t_are_missed (A : Ad) : DTS :=
  dRet (dAndV (dOp dEq (dCB dLen (dCons (dVar 0) (dNil))) (dC (.int 3))) (dAndV (dCall (sp_is_name A) (dCons (dOp dIx (dVar 0) (dC (.int 1))) (dNil))) (dCall (sp_is_name A) (dCons (dOp dIx (dVar 0) (dC (.int 2))) (dNil)))))
abbrev N_are_missed : List Str := ["words"]
def t_is_deed_of (A : Ad) : DTS :=
  dSeq (dIf (dTest (dOp dIs (dVar 1) (dC .non))) (dRet (dCall (sp_is_word_of A) (dCons (dVar 0) (dCons (dC (.tup [.str "tick", .str "sleep", .str "rise"])) (dNil))))) (dNext))
  (dRet (dAndV (dCall (sp_is_name A) (dCons (dVar 1) (dNil))) (dCall (sp_is_word_of A) (dCons (dVar 0) (dCons (dC (.tup [.str "gain", .str "release"])) (dNil))))))
abbrev N_is_deed_of : List Str := ["deed", "name"]
def t_are_end (A : Ad) : DTS :=
  dSeq (dIf (dOr (dTest (dOp dNe (dCB dLen (dCons (dVar 0) (dNil))) (dC (.int 4)))) (dNot (dTruth (dCall (sp_is_deed_of A) (dCons (dOp dIx (dVar 0) (dC (.int 1))) (dCons (dOp dIx (dVar 0) (dC (.int 2))) (dNil))))))) (dRet (dC (.bl false))) (dNext))
  (dSeq (dIf (dTest (dOp dEqS (dOp dIx (dVar 0) (dC (.int 3))) (dC (.str "bell")))) (dRet (dOp dEqS (dOp dIx (dVar 0) (dC (.int 1))) (dC (.str "sleep")))) (dNext))
  (dRet (dCall (sp_is_word_of A) (dCons (dOp dIx (dVar 0) (dC (.int 3))) (dCons (dC (.tup [.str "done", .str "busy", .str "broken"])) (dNil))))))
abbrev N_are_end : List Str := ["words"]
def t_are_begin (A : Ad) : DTS :=
  dRet (dAndV (dOp dEq (dCB dLen (dCons (dVar 0) (dNil))) (dC (.int 3))) (dCall (sp_is_deed_of A) (dCons (dOp dIx (dVar 0) (dC (.int 1))) (dCons (dOp dIx (dVar 0) (dC (.int 2))) (dNil)))))
abbrev N_are_begin : List Str := ["words"]
def t_are_words (A : Ad) : DTS :=
  dSeq (dIf (dOr (dNot (dTruth (dIsi .tup (dVar 0)))) (dOr (dTest (dOp dLt (dCB dLen (dCons (dVar 0) (dNil))) (dC (.int 2)))) (dNot (dTruth (dIsi .str (dOp dIx (dVar 0) (dC (.int 0)))))))) (dRet (dC (.bl false))) (dNext))
  (dSeq (dIf (dTest (dMd (dOp dIx (dVar 0) (dC (.int 0))) (inMf id (mf_FORMS A)))) (dSeq (dAsg (dMd (dOp dIx (dVar 0) (dC (.int 0))) (ixMf (mf_FORMS A))) (gdName 1))
  (dRet (dCallV 1 0 [(A.f_are_begin, sp_are_begin A, plainG), (A.f_are_end, sp_are_end A, plainG), (A.f_are_missed, sp_are_missed A, plainG), (A.f_are_bell, sp_are_bell A, plainG), (A.f_are_plug, sp_are_plug A, plainG)] (dVar 1) (dCons (dVar 0) (dNil)) (dNil)))) (dNext))
  (dRet (dAndV (dOp dEq (dCB dLen (dCons (dVar 0) (dNil))) (dC (.int 2))) (dAndV (dOp (dInW id) (dOp dIx (dVar 0) (dC (.int 0))) (dC (.tup [.str "waking", .str "wake", .str "falling", .str "doze", .str "stays", .str "off", .str "use", .str "reset", .str "unplug", .str "ready", .str "sleep", .str "late", .str "still", .str "unready", .str "unsleep", .str "unlate", .str "unstill"]))) (dCall (sp_is_name A) (dCons (dOp dIx (dVar 0) (dC (.int 1))) (dNil)))))))
abbrev N_are_words : List Str := ["words", "form"]
def t_m_Log_add (A : Ad) : DTS :=
  dSeq (dIf (dNot (dTruth (dCall (sp_is_turn A) (dCons (dVar 1) (dNil))))) (dRaise A.c_NoNumber "found" (dVar 1)) (dNext))
  (dSeq (dIf (dNot (dTruth (dCall (sp_are_words A) (dCons (dVar 2) (dNil))))) (dRaise A.c_NoLog "found" (dVar 2)) (dNext))
  (dSeq (dIf (dAnd (dTest (dOp (dE0 not) (dFld [A.c_Log] "kept_rows" (dVar 0)) (dLst (dNil)))) (dTest (dOp dLt (dVar 1) (dOp dIx (dOp dIx (dFld [A.c_Log] "kept_rows" (dVar 0)) (dNeg (dC (.int 1)))) (dC (.int 0)))))) (dRaise A.c_NoNumber "found" (dVar 1)) (dNext))
  (dDrop (dAppend (dFld [A.c_Log] "kept_rows" (dVar 0)) (dOp dAdd2 (dTup (dCons (dVar 1) (dNil))) (dVar 2))))))
abbrev N_m_Log_add : List Str := ["self", "turn", "words"]
def t__law_told (A : Ad) : DTS :=
  dSeq (dAsg (dC .non) (gdName 3))
  (dSeq (dTry A.xm [⟨[.ref A.c_NoNumber], some 4, fun a cls d => dAsg (dLst (dCons (dC (.str "number")) (dCons (dXF a cls d A.c_NoNumber "found" (dVar 4)) (dNil)))) (gdName 3)⟩, ⟨[.ref A.c_NoLog], some 4, fun a cls d => dAsg (dLst (dCons (dC (.str "log")) (dCons (dXF a cls d A.c_NoLog "found" (dVar 4)) (dNil)))) (gdName 3)⟩, ⟨[.ref A.c_WakeError, .ref A.c_StateError], none, fun a cls d => dAsg (dLst (dCons (dC (.str "other")) (dNil))) (gdName 3)⟩] (dAsg (dLst (dCons (dC (.str "told")) (dCons (dMeth "add" 3 0 [(A.c_Log, sp_m_Log_add A, plainG)] (dVar 0) (dCons (dVar 1) (dCons (dVar 2) (dNil))) (dNil)) (dNil)))) (gdName 3)))
  (dRet (dVar 3)))
abbrev N__law_told : List Str := ["_law_log", "_law_turn", "_law_words_here", "_law_found", "e"]
def t_m_Log_rows (A : Ad) : DTS :=
  dRet (dCB dListM (dCons (dFld [A.c_Log] "kept_rows" (dVar 0)) (dNil)))
abbrev N_m_Log_rows : List Str := ["self"]
def b1__law_refused (A : Ad) : DTS :=
  dSeq (dAsg (dCall (sp__law_told A) (dCons (dVar 1) (dCons (dVar 8) (dCons (dVar 9) (dNil))))) (gdName 11))
  (dSeq (dIf (dOr (dTest (dOp dNe (dShow (dVar 11)) (dShow (dVar 10)))) (dTest (dOp dNe (dMeth "rows" 1 0 [(A.c_Log, sp_m_Log_rows A, plainG)] (dVar 1) (dNil) (dNil)) (dVar 2)))) (dRet (dC (.bl false))) (dNext))
  (dSeq (dIf (dTruth (dIsi .lst (dOp dIx (dVar 10) (dC (.int 1))))) (dDrop (dAppend (dOp dIx (dVar 10) (dC (.int 1))) (dC (.str "more")))) (dNext))
  (dIf (dTest (dOp dNe (dShow (dVar 11)) (dShow (dVar 10)))) (dRet (dC (.bl false))) (dNext))))
def t__law_refused (A : Ad) : DTS :=
  dSeq (dAsg (dOp dIx (dLst (dCons (dC .non) (dCons (dC (.bl true)) (dCons (dNeg (dC (.int 1))) (dCons (dC (.str "0")) (dCons (dLstM (dCons (dC (.int 3)) (dNil))) (dCons (dTup (dNil)) (dCons (dDict0) (dNil))))))))) (dCall (sp__law_take A) (dCons (dVar 0) (dCons (dC (.int 7)) (dNil))))) (gdName 4))
  (dSeq (dAsg (dOp dIx (dLst (dCons (dC .non) (dCons (dCB dListM (dCons (dVar 3) (dNil))) (dCons (dSlA dSl4 (dVar 3) (oNone) (oSome (dC (.int 1)))) (dCons (dOp dAdd2 (dVar 3) (dTup (dCons (dC (.str "wake")) (dNil)))) (dCons (dTup (dNil)) (dCons (dTup (dCons (dC (.str "wakes")) (dCons (dC (.str "a")) (dNil)))) (dCons (dC (.int 7)) (dCons (dDict0) (dCons (dLstM (dCons (dVar 3) (dNil))) (dNil))))))))))) (dCall (sp__law_take A) (dCons (dVar 0) (dCons (dC (.int 9)) (dNil))))) (gdName 5))
  (dSeq (dAsg (dIfE (dTest (dOp (dE0 not) (dVar 2) (dLst (dNil)))) (dOp dIx (dOp dIx (dVar 2) (dNeg (dC (.int 1)))) (dC (.int 0))) (dC (.int 0))) (gdName 6))
  (dSeq (dAsg (dLst (dCons (dTup (dCons (dVar 4) (dCons (dVar 3) (dCons (dLst (dCons (dC (.str "number")) (dCons (dVar 4) (dNil)))) (dNil))))) (dCons (dTup (dCons (dVar 4) (dCons (dVar 5) (dCons (dLst (dCons (dC (.str "number")) (dCons (dVar 4) (dNil)))) (dNil))))) (dCons (dTup (dCons (dVar 6) (dCons (dVar 5) (dCons (dLst (dCons (dC (.str "log")) (dCons (dVar 5) (dNil)))) (dNil))))) (dNil))))) (gdName 7))
  (dSeq (dIf (dTest (dOp dGt (dVar 6) (dC (.int 0)))) (dAsg (dOp dAdd2 (dVar 7) (dLst (dCons (dTup (dCons (dOp dSub (dVar 6) (dC (.int 1))) (dCons (dVar 3) (dCons (dLst (dCons (dC (.str "number")) (dCons (dOp dSub (dVar 6) (dC (.int 1))) (dNil)))) (dNil))))) (dCons (dTup (dCons (dOp dSub (dVar 6) (dC (.int 1))) (dCons (dVar 5) (dCons (dLst (dCons (dC (.str "log")) (dCons (dVar 5) (dNil)))) (dNil))))) (dNil))))) (gdName 7)) (dNext))
  (dSeq (dFor (iL (dVar 7)) (gdTup 3 (gdNames [8, 9, 10])) (b1__law_refused A))
  (dRet (dC (.bl true))))))))
abbrev N__law_refused : List Str := ["_law_box_here", "_law_log", "_law_rows", "_law_words_here", "_law_turns", "_law_strange", "_law_good", "_law_asks", "_law_turn", "_law_some", "_law_due", "_law_found"]
def t_m_Log_copied (A : Ad) : DTS :=
  dSeq (dAsg (dMake A.c_Log 1 0 (sp_m_Log_init A) plainG (dNil) (dNil)) (gdName 1))
  (dSeq (dSetF [A.c_Log] "kept_rows" (dVar 1) (dCB dListM (dCons (dFld [A.c_Log] "kept_rows" (dVar 0)) (dNil))))
  (dRet (dVar 1)))
abbrev N_m_Log_copied : List Str := ["self", "other"]
def pg_m_Log_last_0 : List D → List D → List D := fun ds es => match ds, es with
  | [a0], [b0] => [a0, b0]
  | _, _ => []
def pg_m_Log_last_1 : List D → List D → List D := fun ds es => match ds, es with
  | [a0, a1], [] => [a0, a1]
  | _, _ => []
def pg_m_Log_last_2 : List D → List D → List D := fun ds es => match ds, es with
  | [a0], [] => [a0, (.int 1)]
  | _, _ => []
def t_m_Log_last (A : Ad) : DTS :=
  dSeq (dIf (dNot (dTruth (dCall (sp_is_whole A) (dCons (dVar 1) (dCons (dC (.int 1)) (dCons (dC (.int 1000)) (dNil))))))) (dRaise A.c_NoNumber "found" (dVar 1)) (dNext))
  (dRet (dSlA dSl4M (dFld [A.c_Log] "kept_rows" (dVar 0)) (oSome (dNeg (dVar 1))) (oNone)))
abbrev N_m_Log_last : List Str := ["self", "many"]
def t_m_Log_len (A : Ad) : DTS :=
  dRet (dCB dLen (dCons (dFld [A.c_Log] "kept_rows" (dVar 0)) (dNil)))
abbrev N_m_Log_len : List Str := ["self"]
def t__law_last (A : Ad) : DTS :=
  dSeq (dAsg (dC .non) (gdName 2))
  (dSeq (dTry A.xm [⟨[.ref A.c_NoNumber], some 3, fun a cls d => dAsg (dLst (dCons (dC (.str "number")) (dCons (dXF a cls d A.c_NoNumber "found" (dVar 3)) (dNil)))) (gdName 2)⟩, ⟨[.ref A.c_WakeError, .ref A.c_StateError], none, fun a cls d => dAsg (dLst (dCons (dC (.str "other")) (dNil))) (gdName 2)⟩] (dAsg (dMeth "last" 2 0 [(A.c_Log, sp_m_Log_last A, pg_m_Log_last_1)] (dVar 0) (dCons (dVar 1) (dNil)) (dNil)) (gdName 2)))
  (dRet (dVar 2)))
abbrev N__law_last : List Str := ["_law_log", "_law_wide", "_law_found", "e"]
def b1__law_stands (A : Ad) : DTS :=
  dDrop (dAppend (dVar 6) (dC .non))
def t__law_stands (A : Ad) : DTS :=
  dSeq (dAsg (dOp dIx (dLst (dCons (dC (.int 1)) (dCons (dC (.int 2)) (dCons (dC (.int 1000)) (dCons (dOp dAdd2 (dC (.int 1)) (dCall (sp__law_take A) (dCons (dVar 0) (dCons (dC (.int 20)) (dNil))))) (dNil)))))) (dCall (sp__law_take A) (dCons (dVar 0) (dCons (dC (.int 4)) (dNil))))) (gdName 3))
  (dSeq (dAsg (dOp dIx (dLst (dCons (dC (.int 0)) (dCons (dC (.int 1001)) (dCons (dC .non) (dCons (dC (.bl true)) (dCons (dC (.str "1")) (dCons (dLst (dCons (dC (.int 1)) (dNil))) (dCons (dNeg (dC (.int 1))) (dCons (dOp dPow (dC (.int 10)) (dC (.int 29))) (dNil)))))))))) (dCall (sp__law_take A) (dCons (dVar 0) (dCons (dC (.int 8)) (dNil))))) (gdName 4))
  (dSeq (dAsg (dLst (dCons (dMeth "rows" 1 0 [(A.c_Log, sp_m_Log_rows A, plainG)] (dVar 1) (dNil) (dNil)) (dCons (dMeth "last" 1 0 [(A.c_Log, sp_m_Log_last A, pg_m_Log_last_2)] (dVar 1) (dNil) (dNil)) (dCons (dMeth "last" 2 0 [(A.c_Log, sp_m_Log_last A, pg_m_Log_last_1)] (dVar 1) (dCons (dVar 3) (dNil)) (dNil)) (dCons (dLenO A.c_Log (sp_m_Log_len A) plainG (dVar 1)) (dCons (dMeth "last" 1 1 [(A.c_Log, sp_m_Log_last A, pg_m_Log_last_0)] (dVar 1) (dNil) (dCons (dVar 3) (dNil))) (dNil))))))) (gdName 5))
  (dSeq (dIf (dTest (dOp dNe (dShow (dVar 5)) (dShow (dLst (dCons (dVar 2) (dCons (dSlA dSl4 (dVar 2) (oSome (dNeg (dC (.int 1)))) (oNone)) (dCons (dSlA dSl4 (dVar 2) (oSome (dNeg (dVar 3))) (oNone)) (dCons (dCB dLen (dCons (dVar 2) (dNil))) (dCons (dSlA dSl4 (dVar 2) (oSome (dNeg (dVar 3))) (oNone)) (dNil)))))))))) (dRet (dC (.bl false))) (dNext))
  (dSeq (dFor (iL (dSlA dSl4 (dVar 5) (oNone) (oSome (dC (.int 3))))) (gdName 6) (b1__law_stands A))
  (dRet (dOp dEq (dShow (dCall (sp__law_last A) (dCons (dVar 1) (dCons (dVar 4) (dNil))))) (dShow (dLst (dCons (dC (.str "number")) (dCons (dVar 4) (dNil)))))))))))
abbrev N__law_stands : List Str := ["_law_box_here", "_law_log", "_law_rows", "_law_wide", "_law_odd", "_law_found", "_law_told_here"]
def k1_law (A : Ad) : DTS :=
  dDrop (dAppend (dOp dIx (dVar 2) (dVar 6)) (dOp dAdd2 (dTup (dCons (dVar 10) (dNil))) (dVar 9)))
def k2_law (A : Ad) : DTS :=
  dSeq (dIf (dTest (dOp dNe (dShow (dCall (sp__law_told A) (dCons (dOp dIx (dVar 1) (dVar 6)) (dCons (dVar 10) (dCons (dVar 9) (dNil)))))) (dShow (dLst (dCons (dC (.str "told")) (dCons (dC .non) (dNil))))))) (dRet (dC (.bl false))) (dNext))
  (k1_law A)
def k3_law (A : Ad) : DTS :=
  dSeq (dAsg (dOp dAdd2 (dIfE (dTest (dOp (dE0 not) (dOp dIx (dVar 2) (dVar 6)) (dLst (dNil)))) (dOp dIx (dOp dIx (dOp dIx (dVar 2) (dVar 6)) (dNeg (dC (.int 1)))) (dC (.int 0))) (dC (.int 0))) (dOp dIx (dLst (dCons (dC (.int 0)) (dCons (dC (.int 1)) (dCons (dCall (sp__law_take A) (dCons (dVar 4) (dCons (dC (.int 90)) (dNil)))) (dNil))))) (dCall (sp__law_take A) (dCons (dVar 4) (dCons (dC (.int 3)) (dNil)))))) (gdName 10))
  (k2_law A)
def b2_law (A : Ad) : DTS :=
  dSeq (dAsg (dCall (sp__law_words A) (dCons (dVar 4) (dCons (dVar 7) (dNil)))) (gdName 9))
  (k3_law A)
def b3_law (A : Ad) : DTS :=
  dIf (dNot (dTruth (dCall (sp__law_stands A) (dCons (dVar 4) (dCons (dVar 11) (dCons (dVar 12) (dNil))))))) (dRet (dC (.bl false))) (dNext)
def k4_law (A : Ad) : DTS :=
  dFor (iZ (dCons (dVar 1) (dCons (dVar 2) (dNil)))) (gdTup 2 (gdNames [11, 12])) (b3_law A)
def k5_law (A : Ad) : DTS :=
  dSeq (dIf (dTruth (dVar 5)) (dAsg (dTup (dCons (dMeth "copied" 1 0 [(A.c_Log, sp_m_Log_copied A, plainG)] (dOp dIx (dVar 1) (dVar 6)) (dNil) (dNil)) (dCons (dCB dListM (dCons (dOp dIx (dVar 2) (dVar 6)) (dNil))) (dNil)))) (gdTup 2 (gdList [(gdSubL (dVar 1) (dOp dSub (dC (.int 1)) (dVar 6))), (gdSubL (dVar 2) (dOp dSub (dC (.int 1)) (dVar 6)))]))) (dNext))
  (k4_law A)
def k6_law (A : Ad) : DTS :=
  dSeq (dIf (dNot (dTruth (dCall (sp__law_refused A) (dCons (dVar 4) (dCons (dOp dIx (dVar 1) (dVar 6)) (dCons (dOp dIx (dVar 2) (dVar 6)) (dCons (dCall (sp__law_words A) (dCons (dVar 4) (dCons (dVar 7) (dNil)))) (dNil)))))))) (dRet (dC (.bl false))) (dNext))
  (k5_law A)
def k7_law (A : Ad) : DTS :=
  dSeq (dFor (iR1 (dCons (dOp dAdd2 (dC (.int 1)) (dCall (sp__law_take A) (dCons (dVar 4) (dCons (dC (.int 4)) (dNil))))) (dNil))) (gdName 8) (b2_law A))
  (k6_law A)
def k8_law (A : Ad) : DTS :=
  dSeq (dAsg (dCall (sp__law_names A) (dCons (dVar 4) (dCons (dOp dAdd2 (dC (.int 2)) (dCall (sp__law_take A) (dCons (dVar 4) (dCons (dC (.int 5)) (dNil))))) (dNil)))) (gdName 7))
  (k7_law A)
def k9_law (A : Ad) : DTS :=
  dSeq (dPar2 5 6 (dCons (dOp dEq (dCall (sp__law_take A) (dCons (dVar 4) (dCons (dC (.int 8)) (dNil)))) (dC (.int 0))) (dCons (dCall (sp__law_take A) (dCons (dVar 4) (dCons (dC (.int 2)) (dNil)))) (dNil))))
  (k8_law A)
def b1_law (A : Ad) : DTS :=
  dSeq (dAsg (dCall (sp__law_box A) (dCons (dCall (sp__law_cell A) (dCons (dVar 0) (dCons (dVar 3) (dNil)))) (dNil))) (gdName 4))
  (k9_law A)
def t_law (A : Ad) : DTS :=
  dSeq (dPar2 1 2 (dCons (dLstM (dCons (dMake A.c_Log 1 0 (sp_m_Log_init A) plainG (dNil) (dNil)) (dCons (dMake A.c_Log 1 0 (sp_m_Log_init A) plainG (dNil) (dNil)) (dNil)))) (dCons (dLstM (dCons (dLstM (dNil)) (dCons (dLstM (dNil)) (dNil)))) (dNil))))
  (dSeq (dFor (iR1 (dCons (dCB dMax (dCons (dC (.int 12)) (dCons (dCB dMin (dCons (dC (.int 40)) (dCons (dCB dLen (dCons (dVar 0) (dNil))) (dNil)))) (dNil)))) (dNil))) (gdName 3) (b1_law A))
  (dRet (dC (.bl true))))
abbrev N_law : List Str := ["_law_script", "_law_logs", "_law_rows", "_law_k", "_law_box_here", "_law_copies", "_law_at", "_law_names_here", "_law_turn", "_law_words_here", "_law_clock", "_law_log", "_law_some"]
end K16

set_option Elab.async false
set_option linter.all false
set_option maxRecDepth 100000
set_option maxHeartbeats 4000000
set_option pp.maxSteps 1500
namespace K16
open PySem L2 DL
theorem rd__law_box (A : Ad) (hA : AdOk A) : ∀ ds M Qd Ed, sp__law_box A ds M Qd Ed → t__law_box A (ends Qd Ed) (dstart N__law_box ds) M := bag_ok
theorem rd__law_cell (A : Ad) (hA : AdOk A) : ∀ ds M Qd Ed, sp__law_cell A ds M Qd Ed → t__law_cell A (ends Qd Ed) (dstart N__law_cell ds) M := (cell2_ok 6091 37 (by decide) (by decide))
theorem rd__law_take (A : Ad) (hA : AdOk A) : ∀ ds M Qd Ed, sp__law_take A ds M Qd Ed → t__law_take A (ends Qd Ed) (dstart N__law_take ds) M := (take_ok 27179 11 99991 (by decide) (by decide) (by decide) (by decide) (by decide) (by decide))
theorem rd__law_names (A : Ad) (hA : AdOk A) : ∀ ds M Qd Ed, sp__law_names A ds M Qd Ed → t__law_names A (ends Qd Ed) (dstart N__law_names ds) M := names_bD
theorem rd_is_name (A : Ad) (hA : AdOk A) : ∀ ds M Qd Ed, sp_is_name A ds M Qd Ed → t_is_name A (ends Qd Ed) (dstart N_is_name ds) M := is_name_ok
theorem rd_is_whole (A : Ad) (hA : AdOk A) : ∀ ds M Qd Ed, sp_is_whole A ds M Qd Ed → t_is_whole A (ends Qd Ed) (dstart N_is_whole ds) M := is_whole_ok
theorem rd_is_turn (A : Ad) (hA : AdOk A) : ∀ ds M Qd Ed, sp_is_turn A ds M Qd Ed → t_is_turn A (ends Qd Ed) (dstart N_is_turn ds) M := turn_ok
theorem rd_need_number (A : Ad) (hA : AdOk A) : ∀ ds M Qd Ed, sp_need_number A ds M Qd Ed → t_need_number A (ends Qd Ed) (dstart N_need_number ds) M := need_ok
theorem rd_m_Device_init (A : Ad) (hA : AdOk A) : ∀ ds M Qd Ed, sp_m_Device_init A ds M Qd Ed → t_m_Device_init A (ends Qd Ed) (dstart N_m_Device_init ds) M := dev_ok
theorem rd_is_told_device (A : Ad) (hA : AdOk A) : ∀ ds M Qd Ed, sp_is_told_device A ds M Qd Ed → t_is_told_device A (ends Qd Ed) (dstart N_is_told_device ds) M := (told_ok hA.xm_NoName_NoName_NoNumber hA.xm_NoNumber_NoName_NoNumber)
theorem rd_are_links (A : Ad) (hA : AdOk A) : ∀ ds M Qd Ed, sp_are_links A ds M Qd Ed → t_are_links A (ends Qd Ed) (dstart N_are_links ds) M := links_ok
theorem rd_are_plug (A : Ad) (hA : AdOk A) : ∀ ds M Qd Ed, sp_are_plug A ds M Qd Ed → t_are_plug A (ends Qd Ed) (dstart N_are_plug ds) M := plug_ok
theorem rd_is_word_of (A : Ad) (hA : AdOk A) : ∀ ds M Qd Ed, sp_is_word_of A ds M Qd Ed → t_is_word_of A (ends Qd Ed) (dstart N_is_word_of ds) M := wordOf_ok
theorem rd_are_bell (A : Ad) (hA : AdOk A) : ∀ ds M Qd Ed, sp_are_bell A ds M Qd Ed → t_are_bell A (ends Qd Ed) (dstart N_are_bell ds) M := bell_ok
theorem rd_are_missed (A : Ad) (hA : AdOk A) : ∀ ds M Qd Ed, sp_are_missed A ds M Qd Ed → t_are_missed A (ends Qd Ed) (dstart N_are_missed ds) M := missed_ok
theorem rd_is_deed_of (A : Ad) (hA : AdOk A) : ∀ ds M Qd Ed, sp_is_deed_of A ds M Qd Ed → t_is_deed_of A (ends Qd Ed) (dstart N_is_deed_of ds) M := deedOf_ok
theorem rd_are_end (A : Ad) (hA : AdOk A) : ∀ ds M Qd Ed, sp_are_end A ds M Qd Ed → t_are_end A (ends Qd Ed) (dstart N_are_end ds) M := end_ok
theorem rd_are_begin (A : Ad) (hA : AdOk A) : ∀ ds M Qd Ed, sp_are_begin A ds M Qd Ed → t_are_begin A (ends Qd Ed) (dstart N_are_begin ds) M := begin_ok
theorem rd_are_words (A : Ad) (hA : AdOk A) : ∀ ds M Qd Ed, sp_are_words A ds M Qd Ed → t_are_words A (ends Qd Ed) (dstart N_are_words ds) M := (words_ok A.f_are_begin A.f_are_end A.f_are_missed A.f_are_bell A.f_are_plug)
theorem rd_m_Log_init (A : Ad) (hA : AdOk A) : ∀ ds M Qd Ed, sp_m_Log_init A ds M Qd Ed → t_m_Log_init A (ends Qd Ed) (dstart N_m_Log_init ds) M := logInit_ok
theorem rd_m_Log_add (A : Ad) (hA : AdOk A) : ∀ ds M Qd Ed, sp_m_Log_add A ds M Qd Ed → t_m_Log_add A (ends Qd Ed) (dstart N_m_Log_add ds) M := logAdd_ok
theorem rd_m_Log_rows (A : Ad) (hA : AdOk A) : ∀ ds M Qd Ed, sp_m_Log_rows A ds M Qd Ed → t_m_Log_rows A (ends Qd Ed) (dstart N_m_Log_rows ds) M := logRows_ok
theorem rd_m_Log_len (A : Ad) (hA : AdOk A) : ∀ ds M Qd Ed, sp_m_Log_len A ds M Qd Ed → t_m_Log_len A (ends Qd Ed) (dstart N_m_Log_len ds) M := logLen_ok
theorem rd_m_Log_copied (A : Ad) (hA : AdOk A) : ∀ ds M Qd Ed, sp_m_Log_copied A ds M Qd Ed → t_m_Log_copied A (ends Qd Ed) (dstart N_m_Log_copied ds) M := logCop_ok
theorem rd_m_Log_last (A : Ad) (hA : AdOk A) : ∀ ds M Qd Ed, sp_m_Log_last A ds M Qd Ed → t_m_Log_last A (ends Qd Ed) (dstart N_m_Log_last ds) M := logLast_ok
end K16

set_option Elab.async false
set_option linter.all false
set_option maxRecDepth 100000
set_option maxHeartbeats 4000000
set_option pp.maxSteps 1500
namespace K16
open PySem L2 DL
theorem name_at {ss : List Str} {i : Int} (h0 : 0 ≤ i) (h1 : i < ss.length) : ∃ s, atI (ss.map D.str) i = some (.str s) ∧ ss[i.toNat]? = some s ∧ s ∈ ss := by
  have hi : i.toNat < ss.length := by omega
  refine ⟨ss[i.toNat], ?_, List.getElem?_eq_getElem hi, List.getElem_mem hi⟩
  have z : atI (ss.map D.str) ((i.toNat : Nat) : Int) = some (.str ss[i.toNat]) := atI_nat (by rw [List.getElem?_map, List.getElem?_eq_getElem hi]; rfl)
  rw [show ((i.toNat : Nat) : Int) = i by omega] at z
  exact z
theorem name_atN {ss : List Str} {i : Int} (h0 : i < 0) (h1 : -(ss.length : Int) ≤ i) : ∃ s, atI (ss.map D.str) i = some (.str s) ∧ ss[(i + ss.length).toNat]? = some s ∧ s ∈ ss := by
  have hi : (i + ss.length).toNat < ss.length := by omega
  refine ⟨ss[(i + ss.length).toNat], ?_, List.getElem?_eq_getElem hi, List.getElem_mem hi⟩
  unfold atI ixN
  rw [if_neg (by omega), List.length_map, if_pos (by omega)]
  show (ss.map D.str)[(i + ((ss.length : Nat) : Int)).toNat]? = _
  rw [List.getElem?_map, List.getElem?_eq_getElem hi]; rfl
/-- the name ahead by so many, from behind where the list begins -/
theorem name_two {ss : List Str} (nd : ss.Nodup) {i j : Int} (h0 : 0 ≤ i) (h1 : i < ss.length) (g0 : 0 ≤ j) (g1 : j < (ss.length : Int) - 1) : ∃ s t, atI (ss.map D.str) i = some (.str s) ∧ atI (ss.map D.str) (i - 1 - j) = some (.str t) ∧ s ∈ ss ∧ t ∈ ss ∧ s ≠ t := by
  obtain ⟨s, a1, a2, a3⟩ := name_at h0 h1
  by_cases e : 0 ≤ i - 1 - j
  · obtain ⟨t, b1, b2, b3⟩ := name_at (ss := ss) e (by omega)
    refine ⟨s, t, a1, b1, a3, b3, fun z => ?_⟩
    have := (List.getElem?_inj (by omega) nd).mp (a2.trans ((congrArg some z).trans b2.symm))
    omega
  · obtain ⟨t, b1, b2, b3⟩ := name_atN (ss := ss) (i := i - 1 - j) (by omega) (by omega)
    refine ⟨s, t, a1, b1, a3, b3, fun z => ?_⟩
    have := (List.getElem?_inj (by omega) nd).mp (a2.trans ((congrArg some z).trans b2.symm))
    omega
theorem rd__law_links (A : Ad) (hA : AdOk A) : ∀ ds M Qd Ed, sp__law_links A ds M Qd Ed → t__law_links A (ends Qd Ed) (dstart N__law_links ds) M := by
  intro ds M Qd Ed h
  obtain ⟨b, ss, n, rfl, hb, hn, ⟨l2, l8, nm, nd⟩, q⟩ := h
  have hlen : (((ss.map D.str).length : Nat) : Int) = (ss.length : Nat) := by rw [List.length_map]
  refine ⟨(Nat.le_of_ble_eq_true rfl), fun p hp => ?_⟩
  have nb := hb.at hp
  have hb0 : Bag (updM M p (.lst [])) b n := hb.upd nb
  have e0 : But b M (updM M p (.lst [])) := But.new hp
  have hp0 : updM M p (.lst []) p = some (.lst []) := updM_same
  generalize updM M p (.lst []) = M0 at *
  clear hb
  (repeat (first | refine ⟨_, rfl, ?_⟩ | refine ⟨Nat.le_of_ble_eq_true rfl, ?_⟩ | refine ⟨rfl, ?_⟩ | refine ⟨_, asm (by assumption), ?_⟩ | refine ⟨asm (by assumption), ?_⟩ | refine ⟨List.mem_cons_self, ?_⟩ | refine ⟨_, updM_same, ?_⟩ | refine ⟨(by decide), ?_⟩ | refine ⟨(by show (0 : Int) < _; decide), ?_⟩)); refine ⟨_, _, _, rfl, (by assumption), (by omega), (by decide), (by decide), fun M1 t1 e1 hb1 a1 c1 => ?_⟩
  (repeat (first | refine ⟨_, rfl, ?_⟩ | refine ⟨Nat.le_of_ble_eq_true rfl, ?_⟩ | refine ⟨rfl, ?_⟩ | refine ⟨_, asm (by assumption), ?_⟩ | refine ⟨asm (by assumption), ?_⟩ | refine ⟨List.mem_cons_self, ?_⟩ | refine ⟨_, updM_same, ?_⟩ | refine ⟨(by decide), ?_⟩ | refine ⟨(by show (0 : Int) < _; decide), ?_⟩)); refine ⟨_, _, _, rfl, (by assumption), (by omega), (by decide), (by decide), fun M2 t2 e2 hb2 a2 c2 => ?_⟩
  obtain ⟨c, g1, g2, g3⟩ : ∃ c : Int, atI [D.int 0, .int 1, .int 16, .int t1] t2 = some (.int c) ∧ 0 ≤ c ∧ c ≤ 16 := by
    rcases (by omega : t2 = 0 ∨ t2 = 1 ∨ t2 = 2 ∨ t2 = 3) with rfl | rfl | rfl | rfl <;> exact ⟨_, rfl, by omega, by omega⟩
  refine ⟨_, g1, ⟨by omega, by omega⟩, ?_⟩
  have hp2 := e2 p _ nb.symm (e1 p _ nb.symm hp0)
  have e3 := (e0.trans e1).trans e2
  refine loop_rec (fun r δ M' => ∃ xs c3 c4, δ = [some (.ref b), some (.lst (ss.map D.str)), some (.ref p), c3, c4] ∧ M' p = some (.lst xs) ∧ xs.length + r.length ≤ 16 ∧ (∀ x ∈ xs, Lnk x) ∧ Bag M' b (n + 2 + 2 * xs.length) ∧ But b M M') ?_ ?_ _ _ _ ⟨[], none, none, rfl, hp2, by rw [rng_len, List.length_nil]; omega, (fun _ z => nomatch z), hb2, e3⟩
  · rintro δ M' ⟨xs, c3, c4, rfl, h1, h2, h3, h4, h5⟩
    exact ⟨_, rfl, _, h1, q M' xs h5 (h4.mono (by rw [List.length_nil] at h2; omega)) (by omega) h3⟩
  · rintro x r δ M' N ⟨xs, c3, c4, rfl, h1, h2, h3, h4, h5⟩ nx
    rw [List.length_cons] at h2
    refine ⟨_, rfl, _, rfl, b, _, _, rfl, h4, by omega, by omega, by omega, fun M3 t3 e3 hb3 a3 c3 => ?_⟩
    rw [hlen] at c3
    have hp3 := e3 p _ nb.symm h1
    refine ⟨_, rfl, ⟨_, hp3⟩, ?_⟩
    refine ⟨_, rfl, _, rfl, ?_⟩
    obtain ⟨s0, z0, _, _⟩ := name_at (ss := ss) a3 c3
    refine ⟨_, z0, _, rfl, _, rfl, _, rfl, _, rfl, b, _, _, rfl, hb3, by omega, by omega, by omega, fun M4 t4 e4 hb4 a4 c4 => ?_⟩
    rw [hlen] at c4
    have hp4 := e4 p _ nb.symm hp3
    obtain ⟨s, t, z1, z2, ms, mt, hne⟩ := name_two nd a3 c3 a4 c4
    rw [z0] at z1
    cases z1
    refine ⟨_, z2, (Nat.le_of_ble_eq_true rfl), _, hp4, Nat.lt_of_le_of_lt (by omega : xs.length ≤ 16) (by decide), ?_⟩
    refine nx _ _ ⟨xs ++ [.tup [.str s0, .str t]], _, _, rfl, updM_same, by rw [List.length_append, List.length_singleton]; omega, fun y hy => ?_, ?_, ((h5.trans e3).trans e4).put hp⟩
    · rcases List.mem_append.mp hy with hy | hy
      · exact h3 y hy
      · rw [List.mem_singleton.mp hy]; exact ⟨s0, t, rfl, nm _ ms, nm _ mt, hne⟩
    · refine (hb4.upd nb).mono ?_
      rw [List.length_append, List.length_singleton]
      omega
theorem whole_in {i l u : Int} (h : l ≤ i ∧ i ≤ u) : wholeD (.int i) l u = true := by
  show (decide (l ≤ i) && decide (i ≤ u)) = true
  rw [decide_eq_true h.1, decide_eq_true h.2]; rfl
theorem due_ok {n : Str} {ab : D} {a c w f r : Int} (hn : Nm n) (hab : ab = .non ∨ ∃ s, Nm s ∧ ab = .str s) (ha : 0 ≤ a ∧ a ≤ 100) (hc : 0 ≤ c ∧ c ≤ a) (hw : 0 ≤ w ∧ w ≤ 5) (hf : 0 ≤ f ∧ f ≤ 5) (hr : 0 ≤ r ∧ r ≤ 9) : due (.str n) ab (.int a) (.int c) (.int w) (.int f) (.int r) = .ok := by
  have p : (!isN ab && !nameD ab) = false := by
    rcases hab with rfl | ⟨s, hs, rfl⟩
    · rfl
    · show (true && !nameD (.str s)) = false
      rw [hs.name]; rfl
  unfold due
  rw [hn.name, p, whole_in ha, show intO (.int a) = a from rfl, whole_in hc, whole_in hw, whole_in hf, whole_in hr]
  rfl
theorem leaf_nm {m : Nat} (hm : 8 ≤ m) {s : Str} (h : Nm s) : leafD m (.str s) := ⟨Nat.le_trans h.2.1 hm, h.2.2.ok⟩
theorem leaf_int {m : Nat} {i : Int} (h0 : 0 ≤ i) (h1 : i ≤ 1000000000) : leafD m (.int i) := ⟨by omega, by omega⟩
theorem rd__law_told_device (A : Ad) (hA : AdOk A) : ∀ ds M Qd Ed, sp__law_told_device A ds M Qd Ed → t__law_told_device A (ends Qd Ed) (dstart N__law_told_device ds) M := by
  intro ds M Qd Ed h
  obtain ⟨b, ss, n, rfl, hb, hn, ⟨l2, l8, nm, nd⟩, q⟩ := h
  have hlen : (((ss.map D.str).length : Nat) : Int) = (ss.length : Nat) := by rw [List.length_map]
  refine ⟨_, rfl, _, rfl, _, rfl, b, _, _, rfl, hb, by omega, by omega, by omega, fun M1 t1 e1 hb1 a1 c1 => ?_⟩
  rw [hlen] at c1
  obtain ⟨s1, z1, _, m1⟩ := name_at (ss := ss) a1 c1
  refine ⟨_, z1, ?_⟩
  (repeat (first | refine ⟨_, rfl, ?_⟩ | refine ⟨Nat.le_of_ble_eq_true rfl, ?_⟩ | refine ⟨rfl, ?_⟩ | refine ⟨_, asm (by assumption), ?_⟩ | refine ⟨asm (by assumption), ?_⟩ | refine ⟨List.mem_cons_self, ?_⟩ | refine ⟨_, updM_same, ?_⟩ | refine ⟨(by decide), ?_⟩ | refine ⟨(by show (0 : Int) < _; decide), ?_⟩)); refine ⟨_, _, _, rfl, (by assumption), (by omega), (by decide), (by decide), fun M2 t2 e2 hb2 a2 c2 => ?_⟩
  obtain ⟨ab, g1, g2⟩ : ∃ ab : D, atI [D.non, .str s1] t2 = some ab ∧ (ab = .non ∨ ∃ s, Nm s ∧ ab = .str s) := by
    rcases (by omega : t2 = 0 ∨ t2 = 1) with rfl | rfl
    · exact ⟨_, rfl, .inl rfl⟩
    · exact ⟨_, rfl, .inr ⟨s1, nm _ m1, rfl⟩⟩
  refine ⟨_, g1, ?_⟩
  (repeat (first | refine ⟨_, rfl, ?_⟩ | refine ⟨Nat.le_of_ble_eq_true rfl, ?_⟩ | refine ⟨rfl, ?_⟩ | refine ⟨_, asm (by assumption), ?_⟩ | refine ⟨asm (by assumption), ?_⟩ | refine ⟨List.mem_cons_self, ?_⟩ | refine ⟨_, updM_same, ?_⟩ | refine ⟨(by decide), ?_⟩ | refine ⟨(by show (0 : Int) < _; decide), ?_⟩)); refine ⟨_, _, _, rfl, (by assumption), (by omega), (by decide), (by decide), fun M3 t3 e3 hb3 a3 c3 => ?_⟩
  (repeat (first | refine ⟨_, rfl, ?_⟩ | refine ⟨Nat.le_of_ble_eq_true rfl, ?_⟩ | refine ⟨rfl, ?_⟩ | refine ⟨_, asm (by assumption), ?_⟩ | refine ⟨asm (by assumption), ?_⟩ | refine ⟨List.mem_cons_self, ?_⟩ | refine ⟨_, updM_same, ?_⟩ | refine ⟨(by decide), ?_⟩ | refine ⟨(by show (0 : Int) < _; decide), ?_⟩)); refine ⟨_, _, _, rfl, (by assumption), (by omega), (by decide), (by decide), fun M4 t4 e4 hb4 a4 c4 => ?_⟩
  obtain ⟨burn, g3, g4, g5⟩ : ∃ c : Int, atI [D.int 0, .int 100, .int t3] t4 = some (.int c) ∧ 0 ≤ c ∧ c ≤ 100 := by
    rcases (by omega : t4 = 0 ∨ t4 = 1 ∨ t4 = 2) with rfl | rfl | rfl <;> exact ⟨_, rfl, by omega, by omega⟩
  refine ⟨_, g3, ?_⟩
  (repeat (first | refine ⟨_, rfl, ?_⟩ | refine ⟨Nat.le_of_ble_eq_true rfl, ?_⟩ | refine ⟨rfl, ?_⟩ | refine ⟨_, asm (by assumption), ?_⟩ | refine ⟨asm (by assumption), ?_⟩ | refine ⟨List.mem_cons_self, ?_⟩ | refine ⟨_, updM_same, ?_⟩ | refine ⟨(by decide), ?_⟩ | refine ⟨(by show (0 : Int) < _; decide), ?_⟩)); refine ⟨_, _, _, rfl, (by assumption), (by omega), (by omega), (by omega), fun M5 t5 e5 hb5 a5 c5 => ?_⟩
  (repeat (first | refine ⟨_, rfl, ?_⟩ | refine ⟨Nat.le_of_ble_eq_true rfl, ?_⟩ | refine ⟨rfl, ?_⟩ | refine ⟨_, asm (by assumption), ?_⟩ | refine ⟨asm (by assumption), ?_⟩ | refine ⟨List.mem_cons_self, ?_⟩ | refine ⟨_, updM_same, ?_⟩ | refine ⟨(by decide), ?_⟩ | refine ⟨(by show (0 : Int) < _; decide), ?_⟩)); refine ⟨_, _, _, rfl, (by assumption), (by omega), (by decide), (by decide), fun M6 t6 e6 hb6 a6 c6 => ?_⟩
  obtain ⟨sip, g6, g7, g8⟩ : ∃ c : Int, atI [D.int 0, .int burn, .int t5] t6 = some (.int c) ∧ 0 ≤ c ∧ c ≤ burn := by
    rcases (by omega : t6 = 0 ∨ t6 = 1 ∨ t6 = 2) with rfl | rfl | rfl <;> exact ⟨_, rfl, by omega, by omega⟩
  refine ⟨_, g6, ?_⟩
  obtain ⟨s0, z0, _, m0⟩ := name_at (ss := ss) (i := 0) (by omega) (by omega)
  (repeat (first | refine ⟨_, rfl, ?_⟩ | refine ⟨Nat.le_of_ble_eq_true rfl, ?_⟩ | refine ⟨rfl, ?_⟩ | refine ⟨_, asm (by assumption), ?_⟩ | refine ⟨asm (by assumption), ?_⟩ | refine ⟨List.mem_cons_self, ?_⟩ | refine ⟨_, updM_same, ?_⟩ | refine ⟨(by decide), ?_⟩ | refine ⟨(by show (0 : Int) < _; decide), ?_⟩)); refine ⟨_, _, _, rfl, (by assumption), (by omega), (by decide), (by decide), fun M7 t7 e7 hb7 a7 c7 => ?_⟩
  (repeat (first | refine ⟨_, rfl, ?_⟩ | refine ⟨Nat.le_of_ble_eq_true rfl, ?_⟩ | refine ⟨rfl, ?_⟩ | refine ⟨_, asm (by assumption), ?_⟩ | refine ⟨asm (by assumption), ?_⟩ | refine ⟨List.mem_cons_self, ?_⟩ | refine ⟨_, updM_same, ?_⟩ | refine ⟨(by decide), ?_⟩ | refine ⟨(by show (0 : Int) < _; decide), ?_⟩)); refine ⟨_, _, _, rfl, (by assumption), (by omega), (by decide), (by decide), fun M8 t8 e8 hb8 a8 c8 => ?_⟩
  (repeat (first | refine ⟨_, rfl, ?_⟩ | refine ⟨Nat.le_of_ble_eq_true rfl, ?_⟩ | refine ⟨rfl, ?_⟩ | refine ⟨_, asm (by assumption), ?_⟩ | refine ⟨asm (by assumption), ?_⟩ | refine ⟨List.mem_cons_self, ?_⟩ | refine ⟨_, updM_same, ?_⟩ | refine ⟨(by decide), ?_⟩ | refine ⟨(by show (0 : Int) < _; decide), ?_⟩)); refine ⟨_, _, _, rfl, (by assumption), (by omega), (by decide), (by decide), fun M9 t9 e9 hb9 a9 c9 => ?_⟩
  refine ⟨(Nat.le_of_ble_eq_true rfl), ?_⟩
  refine q M9 _ ((((((((e1.trans e2).trans e3).trans e4).trans e5).trans e6).trans e7).trans e8).trans e9) hb9 ⟨?_, ?_⟩
  · show isOk (due (.str s0) ab (.int burn) (.int sip) (.int t7) (.int t8) (.int t9)) = true
    rw [due_ok (nm _ m0) g2 ⟨g4, g5⟩ ⟨g7, g8⟩ ⟨a7, by omega⟩ ⟨a8, by omega⟩ ⟨a9, by omega⟩]; rfl
  · refine .tup (Nat.le_of_ble_eq_true rfl) fun x hx => ?_
    simp only [List.mem_cons, List.mem_nil_iff, or_false] at hx
    rcases hx with rfl | rfl | rfl | rfl | rfl | rfl | rfl
    · exact leaf_nm (by decide) (nm _ m0)
    · rcases g2 with rfl | ⟨s, hs, rfl⟩
      · exact trivial
      · exact leaf_nm (by decide) hs
    all_goals exact leaf_int (by omega) (by omega)
end K16

set_option Elab.async false
set_option linter.all false
set_option maxRecDepth 100000
set_option maxHeartbeats 4000000
set_option pp.maxSteps 1500
namespace K16
open PySem L2 DL
theorem split1 : Txt.split "waking wake falling doze stays off use reset unplug ready sleep late still" " " = (["waking", "wake", "falling", "doze", "stays", "off", "use", "reset", "unplug", "ready", "sleep", "late", "still"] : List Str) := by decide +kernel
theorem split2 : Txt.split "unready unsleep unlate unstill" " " = (["unready", "unsleep", "unlate", "unstill"] : List Str) := by decide +kernel
def wordsK : List Str := ["begin", "end", "missed", "bell", "plug", "gain", "release", "tick", "sleep", "rise", "done", "busy", "broken", "unheard", "noted", "broke", "woke", "wake", "wakes", "a"]
theorem gw_of {s : Str} {r : List D} (h : areWords (.tup (.str s :: r)) = true) (hs : Nm s) (l : r.length ≤ 3) (p : ∀ x ∈ r, Pl 8 [16, 2] x) : GW (.tup (.str s :: r)) := by
  refine ⟨h, .tup (by rw [List.length_cons]; omega) fun x hx => ?_⟩
  rcases List.mem_cons.mp hx with rfl | hx
  · exact .leaf (leaf_nm (by decide) hs)
  · exact p x hx
theorem nm_all : ∀ s ∈ wordsK ++ named, Nm s := by
  intro s hs
  have h : (decide (1 ≤ s.length) && decide (s.length ≤ 8) && s.cps.toList.all (fun c => decide (c ∈ letters.cps.toList))) = true := by
    revert s
    decide +kernel
  simp only [Bool.and_eq_true, decide_eq_true_eq, List.all_eq_true] at h
  exact ⟨h.1.1, h.1.2, h.2⟩
theorem aw_named {s : Str} {n : D} (h : s ∈ named) (hn : nameD n = true) : areWords (.tup [.str s, n]) = true := by
  have no : s ≠ "begin" ∧ s ≠ "end" ∧ s ≠ "missed" ∧ s ≠ "bell" ∧ s ≠ "plug" := by
    revert s
    decide +kernel
  show (if s = "begin" then areBegin [.str s, n] else if s = "end" then areEnd [.str s, n] else if s = "missed" then areMissed [.str s, n] else if s = "bell" then areBell [.str s, n] else if s = "plug" then arePlug [.str s, n] else (wordIn (.str s) named && nameD n)) = true
  rw [if_neg no.1, if_neg no.2.1, if_neg no.2.2.1, if_neg no.2.2.2.1, if_neg no.2.2.2.2, hn, Bool.and_true]
  exact decide_eq_true h
theorem rd__law_words (A : Ad) (hA : AdOk A) : ∀ ds M Qd Ed, sp__law_words A ds M Qd Ed → t__law_words A (ends Qd Ed) (dstart N__law_words ds) M := by
  intro ds M Qd Ed h
  obtain ⟨b, ss, n, rfl, hb, hn, ⟨l2, l8, nm, nd⟩, q⟩ := h
  have hlen : (((ss.map D.str).length : Nat) : Int) = (ss.length : Nat) := by rw [List.length_map]
  have nk : ∀ s ∈ wordsK ++ named, Pl 8 [16, 2] (.str s) := fun s hs => .leaf (leaf_nm (by decide) (nm_all s hs))
  have nl : ∀ {s : Str}, Nm s → Pl 8 [16, 2] (.str s) := fun h => .leaf (leaf_nm (by decide) h)
  have non : Pl 8 [16, 2] .non := .leaf trivial
  refine ⟨by decide +kernel, by decide +kernel, ?_⟩
  rw [split1]
  refine ⟨_, rfl, by decide +kernel, by decide +kernel, ?_⟩
  rw [split2]
  refine ⟨(Nat.le_of_ble_eq_true rfl), ?_⟩
  refine ⟨_, rfl, _, rfl, _, rfl, b, _, _, rfl, hb, by omega, by omega, by omega, fun M1 t1 e1 hb1 a1 c1 => ?_⟩
  rw [hlen] at c1
  obtain ⟨s1, z1, _, m1⟩ := name_at (ss := ss) a1 c1
  refine ⟨_, z1, _, rfl, _, rfl, _, rfl, b, _, _, rfl, hb1, by omega, by omega, by omega, fun M2 t2 e2 hb2 a2 c2 => ?_⟩
  rw [hlen] at c2
  obtain ⟨s2, z2, _, m2⟩ := name_at (ss := ss) a2 c2
  have n1 := nm _ m1
  have n2 := nm _ m2
  refine ⟨_, z2, ?_⟩
  (repeat (first | refine ⟨_, rfl, ?_⟩ | refine ⟨Nat.le_of_ble_eq_true rfl, ?_⟩ | refine ⟨rfl, ?_⟩ | refine ⟨_, asm (by assumption), ?_⟩ | refine ⟨asm (by assumption), ?_⟩ | refine ⟨List.mem_cons_self, ?_⟩ | refine ⟨_, updM_same, ?_⟩ | refine ⟨(by decide), ?_⟩ | refine ⟨(by show (0 : Int) < _; decide), ?_⟩)); refine ⟨_, _, _, rfl, (by assumption), (by omega), (by decide), (by decide), fun M3 t3 e3 hb3 a3 c3 => ?_⟩
  (repeat (first | refine ⟨_, rfl, ?_⟩ | refine ⟨Nat.le_of_ble_eq_true rfl, ?_⟩ | refine ⟨rfl, ?_⟩ | refine ⟨_, asm (by assumption), ?_⟩ | refine ⟨asm (by assumption), ?_⟩ | refine ⟨List.mem_cons_self, ?_⟩ | refine ⟨_, updM_same, ?_⟩ | refine ⟨(by decide), ?_⟩ | refine ⟨(by show (0 : Int) < _; decide), ?_⟩)); refine ⟨_, _, _, rfl, (by assumption), (by omega), (by decide), (by decide), fun M4 t4 e4 hb4 a4 c4 => ?_⟩
  obtain ⟨own, g1, g2⟩ : ∃ s : Str, atI [D.str "gain", .str "release"] t4 = some (.str s) ∧ s ∈ (["gain", "release"] : List Str) := by
    rcases (by omega : t4 = 0 ∨ t4 = 1) with rfl | rfl <;> exact ⟨_, rfl, by decide⟩
  refine ⟨_, g1, ?_⟩
  (repeat (first | refine ⟨_, rfl, ?_⟩ | refine ⟨Nat.le_of_ble_eq_true rfl, ?_⟩ | refine ⟨rfl, ?_⟩ | refine ⟨_, asm (by assumption), ?_⟩ | refine ⟨asm (by assumption), ?_⟩ | refine ⟨List.mem_cons_self, ?_⟩ | refine ⟨_, updM_same, ?_⟩ | refine ⟨(by decide), ?_⟩ | refine ⟨(by show (0 : Int) < _; decide), ?_⟩)); refine ⟨_, _, _, rfl, (by assumption), (by omega), (by decide), (by decide), fun M5 t5 e5 hb5 a5 c5 => ?_⟩
  obtain ⟨who, g3, g4⟩ : ∃ s : Str, atI [D.str "tick", .str "sleep", .str "rise"] t5 = some (.str s) ∧ s ∈ (["tick", "sleep", "rise"] : List Str) := by
    rcases (by omega : t5 = 0 ∨ t5 = 1 ∨ t5 = 2) with rfl | rfl | rfl <;> exact ⟨_, rfl, by decide⟩
  refine ⟨_, g3, ?_⟩
  have bi : 0 ≤ boolI (decide (who = "sleep")) ∧ boolI (decide (who = "sleep")) ≤ 1 := by unfold boolI; split <;> omega
  refine ⟨(Nat.le_of_ble_eq_true rfl), _, rfl, _, rfl, b, _, _, rfl, hb5, by omega, by omega, by omega, fun M6 t6 e6 hb6 a6 c6 => ?_⟩
  obtain ⟨en, g5, g6⟩ : ∃ s : Str, atI [D.str "done", .str "busy", .str "broken", .str "bell"] t6 = some (.str s) ∧ (s ∈ (["done", "busy", "broken"] : List Str) ∨ s = "bell" ∧ who = "sleep") := by
    rcases (by omega : t6 = 0 ∨ t6 = 1 ∨ t6 = 2 ∨ t6 = 3) with rfl | rfl | rfl | rfl
    · exact ⟨_, rfl, .inl (by decide)⟩
    · exact ⟨_, rfl, .inl (by decide)⟩
    · exact ⟨_, rfl, .inl (by decide)⟩
    · refine ⟨_, rfl, .inr ⟨rfl, ?_⟩⟩
      by_cases e : who = "sleep"
      · exact e
      · rw [decide_eq_false e] at c6
        exact absurd c6 (by decide)
  refine ⟨_, g5, ?_⟩
  have e7 := ((((e1.trans e2).trans e3).trans e4).trans e5).trans e6
  have fin : ∀ {M' : Mp} {m : Nat} {d : D}, But b M6 M' → Bag M' b m → m ≤ n + 60 → GW d → Qd d M' := fun e h l g => q _ _ (e7.trans e) (h.mono l) g
  have inK : ∀ {s : Str}, s ∈ wordsK → Pl 8 [16, 2] (.str s) := fun h => nk _ (List.mem_append_left _ h)
  have ownK : Pl 8 [16, 2] (.str own) := inK (by
    simp only [List.mem_cons, List.mem_nil_iff, or_false] at g2
    rcases g2 with rfl | rfl <;> decide +kernel)
  have whoK : Pl 8 [16, 2] (.str who) := inK (by
    simp only [List.mem_cons, List.mem_nil_iff, or_false] at g4
    rcases g4 with rfl | rfl | rfl <;> decide +kernel)
  have enK : Pl 8 [16, 2] (.str en) := inK (by
    rcases g6 with g6 | ⟨rfl, _⟩
    · simp only [List.mem_cons, List.mem_nil_iff, or_false] at g6
      rcases g6 with rfl | rfl | rfl <;> decide +kernel
    · decide +kernel)
  rcases (by omega : t3 = 0 ∨ t3 = 1 ∨ t3 = 2 ∨ t3 = 3 ∨ t3 = 4 ∨ t3 = 5 ∨ t3 = 6 ∨ t3 = 7) with rfl | rfl | rfl | rfl | rfl | rfl | rfl | rfl
  · (repeat (first | refine ⟨_, rfl, ?_⟩ | refine ⟨Nat.le_of_ble_eq_true rfl, ?_⟩ | refine ⟨rfl, ?_⟩ | refine ⟨_, asm (by assumption), ?_⟩ | refine ⟨asm (by assumption), ?_⟩ | refine ⟨List.mem_cons_self, ?_⟩ | refine ⟨_, updM_same, ?_⟩ | refine ⟨(by decide), ?_⟩ | refine ⟨(by show (0 : Int) < _; decide), ?_⟩)); refine ⟨_, _, _, rfl, (by assumption), (by omega), (by decide), (by decide), fun M7 t7 e7 hb7 a7 c7 => ?_⟩
    rcases (by omega : t7 = 0 ∨ t7 = 1) with rfl | rfl
    · refine ⟨_, rfl, fin e7 hb7 (by omega) (gw_of (s := "begin") ?_ (nm_all _ (by decide +kernel)) (Nat.le_of_ble_eq_true rfl) fun x hx => ?_)⟩
      · show (nameD (.str s1) && wordIn (.str own) ["gain", "release"]) = true
        rw [n1.name, Bool.true_and]; exact decide_eq_true g2
      · simp only [List.mem_cons, List.mem_nil_iff, or_false] at hx
        rcases hx with rfl | rfl
        · exact ownK
        · exact nl n1
    · refine ⟨_, rfl, fin e7 hb7 (by omega) (gw_of (s := "begin") ?_ (nm_all _ (by decide +kernel)) (Nat.le_of_ble_eq_true rfl) fun x hx => ?_)⟩
      · exact decide_eq_true g4
      · simp only [List.mem_cons, List.mem_nil_iff, or_false] at hx
        rcases hx with rfl | rfl
        · exact whoK
        · exact non
  · have two : ∀ x : Str, (x ∈ (["done", "busy", "broken"] : List Str)) → Pl 8 [16, 2] (.str x) → ∀ (t7 : Int) (M7 : Mp), 0 ≤ t7 → t7 < 2 → But b M6 M7 → Bag M7 b (n + 7) → ∃ d, atI [.tup [.str "end", .str own, .str s1, .str x], .tup [.str "end", .str who, .non, .str en]] t7 = some d ∧ Qd d M7 := by
      intro x hx px t7 M7 a7 c7 e7 hb7
      rcases (by omega : t7 = 0 ∨ t7 = 1) with rfl | rfl
      · refine ⟨_, rfl, fin e7 hb7 (by omega) (gw_of (s := "end") ?_ (nm_all _ (by decide +kernel)) (Nat.le_of_ble_eq_true rfl) fun y hy => ?_)⟩
        · show ((nameD (.str s1) && wordIn (.str own) ["gain", "release"]) && (if (x == "bell") = true then (own == "sleep") else wordIn (.str x) ["done", "busy", "broken"])) = true
          rw [n1.name, Bool.true_and, show wordIn (.str own) ["gain", "release"] = true from decide_eq_true g2, Bool.true_and, if_neg, show wordIn (.str x) ["done", "busy", "broken"] = true from decide_eq_true hx]
          simp only [List.mem_cons, List.mem_nil_iff, or_false] at hx
          rcases hx with rfl | rfl | rfl <;> decide +kernel
        · simp only [List.mem_cons, List.mem_nil_iff, or_false] at hy
          rcases hy with rfl | rfl | rfl
          · exact ownK
          · exact nl n1
          · exact px
      · refine ⟨_, rfl, fin e7 hb7 (by omega) (gw_of (s := "end") ?_ (nm_all _ (by decide +kernel)) (Nat.le_of_ble_eq_true rfl) fun y hy => ?_)⟩
        · show (wordIn (.str who) ["tick", "sleep", "rise"] && (if (en == "bell") = true then (who == "sleep") else wordIn (.str en) ["done", "busy", "broken"])) = true
          rw [show wordIn (.str who) ["tick", "sleep", "rise"] = true from decide_eq_true g4, Bool.true_and]
          rcases g6 with g6 | ⟨rfl, rfl⟩
          · rw [if_neg, show wordIn (.str en) ["done", "busy", "broken"] = true from decide_eq_true g6]
            simp only [List.mem_cons, List.mem_nil_iff, or_false] at g6
            rcases g6 with rfl | rfl | rfl <;> decide +kernel
          · decide +kernel
        · simp only [List.mem_cons, List.mem_nil_iff, or_false] at hy
          rcases hy with rfl | rfl | rfl
          · exact whoK
          · exact non
          · exact enK
    refine ⟨_, rfl, _, rfl, _, rfl, _, rfl, _, rfl, ?_⟩
    refine br2 (fun e => ?_) (fun e => ?_)
    · have e : ¬ en = "bell" := by simpa using e
      (repeat (first | refine ⟨_, rfl, ?_⟩ | refine ⟨Nat.le_of_ble_eq_true rfl, ?_⟩ | refine ⟨rfl, ?_⟩ | refine ⟨_, asm (by assumption), ?_⟩ | refine ⟨asm (by assumption), ?_⟩ | refine ⟨List.mem_cons_self, ?_⟩ | refine ⟨_, updM_same, ?_⟩ | refine ⟨(by decide), ?_⟩ | refine ⟨(by show (0 : Int) < _; decide), ?_⟩)); refine ⟨_, _, _, rfl, (by assumption), (by omega), (by decide), (by decide), fun M8 t8 e8 hb8 a8 c8 => ?_⟩
      exact two en (g6.elim id fun z => absurd z.1 e) enK t8 M8 a8 c8 e8 hb8
    · (repeat (first | refine ⟨_, rfl, ?_⟩ | refine ⟨Nat.le_of_ble_eq_true rfl, ?_⟩ | refine ⟨rfl, ?_⟩ | refine ⟨_, asm (by assumption), ?_⟩ | refine ⟨asm (by assumption), ?_⟩ | refine ⟨List.mem_cons_self, ?_⟩ | refine ⟨_, updM_same, ?_⟩ | refine ⟨(by decide), ?_⟩ | refine ⟨(by show (0 : Int) < _; decide), ?_⟩)); refine ⟨_, _, _, rfl, (by assumption), (by omega), (by decide), (by decide), fun M8 t8 e8 hb8 a8 c8 => ?_⟩
      exact two "done" (by decide) (inK (by decide +kernel)) t8 M8 a8 c8 e8 hb8
  · (repeat (first | refine ⟨_, rfl, ?_⟩ | refine ⟨Nat.le_of_ble_eq_true rfl, ?_⟩ | refine ⟨rfl, ?_⟩ | refine ⟨_, asm (by assumption), ?_⟩ | refine ⟨asm (by assumption), ?_⟩ | refine ⟨List.mem_cons_self, ?_⟩ | refine ⟨_, updM_same, ?_⟩ | refine ⟨(by decide), ?_⟩ | refine ⟨(by show (0 : Int) < _; decide), ?_⟩))
    refine fin (But.refl b M6) hb6 (by omega) (gw_of (s := "missed") ?_ (nm_all _ (by decide +kernel)) (Nat.le_of_ble_eq_true rfl) fun x hx => ?_)
    · show (nameD (.str s1) && nameD (.str s2)) = true
      rw [n1.name, n2.name]; rfl
    · simp only [List.mem_cons, List.mem_nil_iff, or_false] at hx
      rcases hx with rfl | rfl
      · exact nl n1
      · exact nl n2
  · (repeat (first | refine ⟨_, rfl, ?_⟩ | refine ⟨Nat.le_of_ble_eq_true rfl, ?_⟩ | refine ⟨rfl, ?_⟩ | refine ⟨_, asm (by assumption), ?_⟩ | refine ⟨asm (by assumption), ?_⟩ | refine ⟨List.mem_cons_self, ?_⟩ | refine ⟨_, updM_same, ?_⟩ | refine ⟨(by decide), ?_⟩ | refine ⟨(by show (0 : Int) < _; decide), ?_⟩)); refine ⟨_, _, _, rfl, (by assumption), (by omega), (by decide), (by decide), fun M7 t7 e7 hb7 a7 c7 => ?_⟩
    obtain ⟨bw, g7, g8⟩ : ∃ s : Str, atI [D.str "unheard", .str "noted", .str "broke", .str "woke"] t7 = some (.str s) ∧ s ∈ (["unheard", "noted", "broke", "woke"] : List Str) := by
      rcases (by omega : t7 = 0 ∨ t7 = 1 ∨ t7 = 2 ∨ t7 = 3) with rfl | rfl | rfl | rfl <;> exact ⟨_, rfl, by decide⟩
    refine ⟨_, g7, (Nat.le_of_ble_eq_true rfl), ?_⟩
    refine fin e7 hb7 (by omega) (gw_of (s := "bell") ?_ (nm_all _ (by decide +kernel)) (Nat.le_of_ble_eq_true rfl) fun x hx => ?_)
    · show (nameD (.str s1) && wordIn (.str bw) ["unheard", "noted", "broke", "woke"]) = true
      rw [n1.name, Bool.true_and]; exact decide_eq_true g8
    · simp only [List.mem_cons, List.mem_nil_iff, or_false] at hx
      rcases hx with rfl | rfl
      · exact nl n1
      · refine inK ?_
        simp only [List.mem_cons, List.mem_nil_iff, or_false] at g8
        rcases g8 with rfl | rfl | rfl | rfl <;> decide +kernel
  · (repeat (first | refine ⟨_, rfl, ?_⟩ | refine ⟨Nat.le_of_ble_eq_true rfl, ?_⟩ | refine ⟨rfl, ?_⟩ | refine ⟨_, asm (by assumption), ?_⟩ | refine ⟨asm (by assumption), ?_⟩ | refine ⟨List.mem_cons_self, ?_⟩ | refine ⟨_, updM_same, ?_⟩ | refine ⟨(by decide), ?_⟩ | refine ⟨(by show (0 : Int) < _; decide), ?_⟩))
    refine ⟨b, ss, _, rfl, hb6, by omega, ⟨l2, l8, nm, nd⟩, fun M7 dv e7' hb7 hdv => ?_⟩
    (repeat (first | refine ⟨_, rfl, ?_⟩ | refine ⟨Nat.le_of_ble_eq_true rfl, ?_⟩ | refine ⟨rfl, ?_⟩ | refine ⟨_, asm (by assumption), ?_⟩ | refine ⟨asm (by assumption), ?_⟩ | refine ⟨List.mem_cons_self, ?_⟩ | refine ⟨_, updM_same, ?_⟩ | refine ⟨(by decide), ?_⟩ | refine ⟨(by show (0 : Int) < _; decide), ?_⟩))
    refine ⟨b, ss, _, rfl, hb7, by omega, ⟨l2, l8, nm, nd⟩, fun M8 xs e8 hb8 l16 hx => ⟨(Nat.le_of_ble_eq_true rfl), ?_⟩⟩
    refine fin (e7'.trans e8) hb8 (by omega) (gw_of (s := "plug") ?_ (nm_all _ (by decide +kernel)) (Nat.le_of_ble_eq_true rfl) fun x hxx => ?_)
    · show (devD dv && (decide (xs.length ≤ 16) && xs.all pairOk)) = true
      rw [hdv.ok, Bool.true_and, decide_eq_true l16, Bool.true_and, List.all_eq_true]
      intro x hm
      obtain ⟨u, v, rfl, hu, hv, ne⟩ := hx x hm
      show (nameD (.str u) && nameD (.str v) && !(v == u)) = true
      rw [hu.name, hv.name]
      simpa using fun z => ne z.symm
    · simp only [List.mem_cons, List.mem_nil_iff, or_false] at hxx
      rcases hxx with rfl | rfl
      · have z := hdv.pl
        rcases z with z | ⟨ys, e, ly, hy⟩
        · exact .leaf z
        · exact .inr ⟨ys, e, ly, fun y m => .leaf (hy y m)⟩
      · refine .tup l16 fun x hm => ?_
        obtain ⟨u, v, rfl, hu, hv, ne⟩ := hx x hm
        refine .tup (Nat.le_of_ble_eq_true rfl) fun y hy => ?_
        simp only [List.mem_cons, List.mem_nil_iff, or_false] at hy
        rcases hy with rfl | rfl
        · exact leaf_nm (by decide) hu
        · exact leaf_nm (by decide) hv
  all_goals
    (repeat (first | refine ⟨_, rfl, ?_⟩ | refine ⟨Nat.le_of_ble_eq_true rfl, ?_⟩ | refine ⟨rfl, ?_⟩ | refine ⟨_, asm (by assumption), ?_⟩ | refine ⟨asm (by assumption), ?_⟩ | refine ⟨List.mem_cons_self, ?_⟩ | refine ⟨_, updM_same, ?_⟩ | refine ⟨(by decide), ?_⟩ | refine ⟨(by show (0 : Int) < _; decide), ?_⟩)); refine ⟨_, _, _, rfl, (by assumption), (by omega), (by decide), (by decide), fun M7 t7 e7 hb7 a7 c7 => ?_⟩
    obtain ⟨st, z5, _, m5⟩ := name_at (ss := named) (i := t7) (by omega) (by show t7 < 17; omega)
    refine ⟨_, z5, _, rfl, (Nat.le_of_ble_eq_true rfl), ?_⟩
    refine fin e7 hb7 (by omega) (gw_of (aw_named m5 n1.name) (nm_all _ (List.mem_append_right _ m5)) (Nat.le_of_ble_eq_true rfl) fun x hx => ?_)
    simp only [List.mem_cons, List.mem_nil_iff, or_false] at hx
    rcases hx with rfl
    exact nl n1
end K16

set_option Elab.async false
set_option linter.all false
set_option maxRecDepth 100000
set_option maxHeartbeats 4000000
set_option pp.maxSteps 1500
namespace K16
open PySem L2 DL
theorem rd__law_told (A : Ad) (hA : AdOk A) : ∀ ds M Qd Ed, sp__law_told A ds M Qd Ed → t__law_told A (ends Qd Ed) (dstart N__law_told ds) M := by
  intro ds M Qd Ed h
  obtain ⟨x, l, rows, t, w, rfl, lg, rt, hl, th, dw, q⟩ := h
  refine ⟨_, rfl, _, _, lg.obj, rfl, rfl, _, rfl, _, rfl, rfl, rfl, x, l, rows, t, w, rfl, lg, rt, hl, th, dw, fun M' e => ?_⟩
  cases ho : addOut rows t w with
  | num =>
    rw [ho] at q
    refine ⟨true, hA.xm_NoNumber_NoNumber, fun a d ha hd had => ?_⟩
    exact ⟨_, rfl, rfl, rfl, d, _, _, rfl, updM_same, rfl, (Nat.le_of_ble_eq_true rfl), _, rfl, q _ (e.trans (Ext.new hd))⟩
  | log =>
    rw [ho] at q
    refine ⟨false, hA.xm_NoLog_NoNumber, true, hA.xm_NoLog_NoLog, fun a d ha hd had => ?_⟩
    exact ⟨_, rfl, rfl, rfl, d, _, _, rfl, updM_same, rfl, (Nat.le_of_ble_eq_true rfl), _, rfl, q _ (e.trans (Ext.new hd))⟩
  | ok =>
    rw [ho] at q
    exact ⟨(Nat.le_of_ble_eq_true rfl), _, rfl, q M' e⟩
theorem rd__law_last (A : Ad) (hA : AdOk A) : ∀ ds M Qd Ed, sp__law_last A ds M Qd Ed → t__law_last A (ends Qd Ed) (dstart N__law_last ds) M := by
  intro ds M Qd Ed h
  obtain ⟨x, l, rows, d, rfl, lg, th, hw, q⟩ := h
  refine ⟨_, rfl, _, _, lg.obj, rfl, rfl, _, rfl, rfl, rfl, x, l, rows, d, rfl, lg, th, ?_⟩
  rw [hw]
  refine ⟨true, hA.xm_NoNumber_NoNumber, fun a dd ha hd had => ?_⟩
  exact ⟨_, rfl, rfl, rfl, dd, _, _, rfl, updM_same, rfl, (Nat.le_of_ble_eq_true rfl), _, rfl, q _ (Ext.new hd)⟩
theorem cut_mem {xs : List D} {lo hi : Option Int} {x : D} (h : x ∈ cutD xs lo hi) : x ∈ xs := by
  unfold cutD at h
  exact List.mem_of_mem_drop (List.mem_of_mem_take h)
theorem cut_len {xs : List D} {lo hi : Option Int} : (cutD xs lo hi).length ≤ xs.length := by
  unfold cutD
  rw [List.length_take, List.length_drop]
  omega
/-- rows are shown -/
theorem rows_sh {rows : List D} (h : ∀ r ∈ rows, Pl 8 [5, 16, 2] r) (l : rows.length ≤ 160) (M : Mp) : ∃ ts, ShOfs M rows ts ∧ Sh.deps ts ≤ 3 ∧ Sh.ws ts ≤ 2990000 := by
  obtain ⟨ts, a, b, c⟩ := shw_list (M := M) (n := 3) (c := wid 8 [5, 16, 2]) fun d hd => (h d hd).shw (by decide)
  refine ⟨ts, a, b, Nat.le_trans c ?_⟩
  have w : wid 8 [5, 16, 2] + 2 = 18670 := by decide
  rw [w]
  omega
theorem ne_new {M : Mp} {a p : Addr} {o : MO} (h : M a = some o) (hp : M p = none) : a ≠ p := fun e => by rw [e, hp] at h; cases h
theorem rd__law_stands (A : Ad) (hA : AdOk A) : ∀ ds M Qd Ed, sp__law_stands A ds M Qd Ed → t__law_stands A (ends Qd Ed) (dstart N__law_stands ds) M := by
  intro ds M Qd Ed h
  obtain ⟨b, x, l, r, rows, n, rfl, hb, hn, lg, hr, gr, hl, q⟩ := h
  have pl : ∀ r ∈ rows, Pl 8 [5, 16, 2] r := fun r hm => by obtain ⟨_, _, _, _, _, h⟩ := gr r hm; exact h
  (repeat (first | refine ⟨_, rfl, ?_⟩ | refine ⟨Nat.le_of_ble_eq_true rfl, ?_⟩ | refine ⟨rfl, ?_⟩ | refine ⟨_, asm (by assumption), ?_⟩ | refine ⟨asm (by assumption), ?_⟩ | refine ⟨List.mem_cons_self, ?_⟩ | refine ⟨_, updM_same, ?_⟩ | refine ⟨(by decide), ?_⟩ | refine ⟨(by show (0 : Int) < _; decide), ?_⟩)); refine ⟨_, _, _, rfl, (by assumption), (by omega), (by decide), (by decide), fun M1 t1 e1 hb1 a1 c1 => ?_⟩
  (repeat (first | refine ⟨_, rfl, ?_⟩ | refine ⟨Nat.le_of_ble_eq_true rfl, ?_⟩ | refine ⟨rfl, ?_⟩ | refine ⟨_, asm (by assumption), ?_⟩ | refine ⟨asm (by assumption), ?_⟩ | refine ⟨List.mem_cons_self, ?_⟩ | refine ⟨_, updM_same, ?_⟩ | refine ⟨(by decide), ?_⟩ | refine ⟨(by show (0 : Int) < _; decide), ?_⟩)); refine ⟨_, _, _, rfl, (by assumption), (by omega), (by decide), (by decide), fun M2 t2 e2 hb2 a2 c2 => ?_⟩
  obtain ⟨wi, g1, g2, g3⟩ : ∃ c : Int, atI [D.int 1, .int 2, .int 1000, .int (1 + t1)] t2 = some (.int c) ∧ 1 ≤ c ∧ c ≤ 1000 := by
    rcases (by omega : t2 = 0 ∨ t2 = 1 ∨ t2 = 2 ∨ t2 = 3) with rfl | rfl | rfl | rfl <;> exact ⟨_, rfl, by omega, by omega⟩
  refine ⟨_, g1, (Nat.le_of_ble_eq_true rfl), ⟨by decide, by decide, by decide⟩, (Nat.le_of_ble_eq_true rfl), ?_⟩
  (repeat (first | refine ⟨_, rfl, ?_⟩ | refine ⟨Nat.le_of_ble_eq_true rfl, ?_⟩ | refine ⟨rfl, ?_⟩ | refine ⟨_, asm (by assumption), ?_⟩ | refine ⟨asm (by assumption), ?_⟩ | refine ⟨List.mem_cons_self, ?_⟩ | refine ⟨_, updM_same, ?_⟩ | refine ⟨(by decide), ?_⟩ | refine ⟨(by show (0 : Int) < _; decide), ?_⟩)); refine ⟨_, _, _, rfl, (by assumption), (by omega), (by decide), (by decide), fun M3 t3 e3 hb3 a3 c3 => ?_⟩
  obtain ⟨od, g4, g5, g6⟩ : ∃ d : D, atI [D.int 0, .int 1001, .non, .bl true, .str "1", .lst [.int 1], .int (-1), .int (10 ^ (29 : Int).toNat)] t3 = some d ∧ wholeD d 1 1000 = false ∧ Pl 8 [2] d := by
    have lst : Pl 8 [2] (.lst [.int 1]) := .lst (Nat.le_of_ble_eq_true rfl) fun x hx => by
      rw [List.mem_singleton.mp hx]
      exact leaf_int (by decide) (by decide)
    have li : ∀ i : Int, -(10 ^ 30) ≤ i ∧ i ≤ 10 ^ 30 → Pl 8 [2] (.int i) := fun i h => .leaf h
    rcases (by omega : t3 = 0 ∨ t3 = 1 ∨ t3 = 2 ∨ t3 = 3 ∨ t3 = 4 ∨ t3 = 5 ∨ t3 = 6 ∨ t3 = 7) with rfl | rfl | rfl | rfl | rfl | rfl | rfl | rfl
    · exact ⟨_, rfl, rfl, li _ (by decide)⟩
    · exact ⟨_, rfl, rfl, li _ (by decide)⟩
    · exact ⟨_, rfl, rfl, .leaf trivial⟩
    · exact ⟨_, rfl, rfl, .leaf trivial⟩
    · exact ⟨_, rfl, rfl, .leaf ⟨by decide, ok_of _⟩⟩
    · exact ⟨_, rfl, rfl, lst⟩
    · exact ⟨_, rfl, rfl, li _ (by decide)⟩
    · exact ⟨_, rfl, by decide, li _ (by decide)⟩
  have thw : wholeD (.int wi) 1 1000 = true := whole_in ⟨g2, g3⟩
  refine ⟨_, g4, ?_⟩
  have e0 := (e1.trans e2).trans e3
  have bx : x ≠ b := fun e => by
    obtain ⟨u, v, z, h, _⟩ := hb
    rw [← e, lg.obj] at h; cases h
  have bl : l ≠ b := fun e => by
    obtain ⟨u, v, z, h, k⟩ := hb
    have := lg.rw_
    rw [e, h] at this
    cases this
    obtain ⟨i, ws, e2, _⟩ := gr (.int u) (by simp)
    cases e2
  have br : r ≠ b := fun e => by
    obtain ⟨u, v, z, h, k⟩ := hb
    rw [e, h] at hr
    cases hr
    obtain ⟨i, ws, e2, _⟩ := gr (.int u) (by simp)
    cases e2
  have lg3 : Lg A.c_Log M3 x l rows := ⟨e0 _ _ bx lg.obj, e0 _ _ bl lg.rw_⟩
  have hr3 := e0 _ _ br hr
  clear hb1 hb2 hb
  refine ⟨_, rfl, _, _, lg3.obj, rfl, rfl, rfl, rfl, x, l, rows, rfl, lg3, fun p1 hp1 => ?_⟩
  have x1 : Ext M3 (updM M3 p1 (.lst rows)) := Ext.new hp1
  have f1 : updM M3 p1 (.lst rows) p1 = some (.lst rows) := updM_same
  generalize updM M3 p1 (.lst rows) = N1 at *
  refine ⟨_, rfl, _, _, x1 _ _ lg3.obj, rfl, rfl, rfl, rfl, x, l, rows, _, rfl, lg3.ext x1, trivial, ?_⟩
  refine brT (by decide) fun i hi p2 hp2 => ?_
  cases hi
  have x2 : Ext N1 (updM N1 p2 (.lst (cutD rows (some (-1)) none))) := Ext.new hp2
  have f2 : updM N1 p2 (.lst (cutD rows (some (-1)) none)) p2 = some (.lst (cutD rows (some (-1)) none)) := updM_same
  generalize updM N1 p2 (.lst (cutD rows (some (-1)) none)) = N2 at *
  have y2 := x1.trans x2
  refine ⟨_, rfl, _, _, y2 _ _ lg3.obj, rfl, rfl, _, rfl, rfl, rfl, x, l, rows, _, rfl, lg3.ext y2, trivial, ?_⟩
  refine brT thw fun i hi p3 hp3 => ?_
  cases hi
  have x3 : Ext N2 (updM N2 p3 (.lst (cutD rows (some (-wi)) none))) := Ext.new hp3
  have f3 : updM N2 p3 (.lst (cutD rows (some (-wi)) none)) p3 = some (.lst (cutD rows (some (-wi)) none)) := updM_same
  generalize updM N2 p3 (.lst (cutD rows (some (-wi)) none)) = N3 at *
  have y3 := y2.trans x3
  refine ⟨_, rfl, _, _, y3 _ _ lg3.obj, rfl, x, l, rows, rfl, lg3.ext y3, rows.length, rfl, by omega, ?_⟩
  refine ⟨_, rfl, _, _, y3 _ _ lg3.obj, rfl, rfl, _, rfl, rfl, rfl, x, l, rows, _, rfl, lg3.ext y3, trivial, ?_⟩
  refine brT thw fun i hi p4 hp4 => ?_
  cases hi
  have x4 : Ext N3 (updM N3 p4 (.lst (cutD rows (some (-wi)) none))) := Ext.new hp4
  have f4 : updM N3 p4 (.lst (cutD rows (some (-wi)) none)) p4 = some (.lst (cutD rows (some (-wi)) none)) := updM_same
  generalize updM N3 p4 (.lst (cutD rows (some (-wi)) none)) = N4 at *
  have y4 := y3.trans x4
  refine ⟨(Nat.le_of_ble_eq_true rfl), ?_⟩
  have h1 := x4 _ _ (x3 _ _ (x2 _ _ f1))
  have h2 := x4 _ _ (x3 _ _ f2)
  have h3 := x4 _ _ f3
  have hr4 := y4 _ _ hr3
  obtain ⟨ta, sa, da, wa⟩ := rows_sh pl hl N4
  obtain ⟨tb, sb, db, wb⟩ := rows_sh (rows := cutD rows (some (-1)) none) (fun r h => pl r (cut_mem h)) (Nat.le_trans cut_len hl) N4
  obtain ⟨tc, sc, dc, wc⟩ := rows_sh (rows := cutD rows (some (-wi)) none) (fun r h => pl r (cut_mem h)) (Nat.le_trans cut_len hl) N4
  have ni := shw_int32 (M := N4) (i := (rows.length : Nat)) (by omega) (by omega)
  obtain ⟨ti, si, di, wI⟩ := ni
  have dep : (Sh.lst [.lst ta, .lst tb, .lst tc, ti, .lst tc]).dep ≤ 60 := by simp only [Sh.dep, Sh.deps]; omega
  have len : (Sh.lst [.lst ta, .lst tb, .lst tc, ti, .lst tc]).text.length ≤ sizeLine := Nat.le_trans (Sh.text_le _) (by
    simp only [Sh.w, Sh.ws]
    exact Nat.le_trans (by omega : _ ≤ 12000000) (by decide))
  refine ⟨_, rfl, .lst [.lst ta, .lst tb, .lst tc, ti, .lst tc], .lst (.cons (.lstM h1 sa) (.cons (.lstM h2 sb) (.cons (.lstM h3 sc) (.cons si (.cons (.lstM f4 sc) .nil))))), dep, len, ?_⟩
  refine ⟨_, rfl, _, rfl, _, hr4, _, rfl, _, rfl, _, hr4, _, rfl, _, hr4, _, rfl, _, rfl, _, hr4, (Nat.le_of_ble_eq_true rfl), ?_⟩
  refine ⟨.lst [.lst ta, .lst tb, .lst tc, ti, .lst tc], .lst (.cons (.lstM hr4 sa) (.cons (.lst sb) (.cons (.lst sc) (.cons si (.cons (.lst sc) .nil))))), dep, len, ?_⟩
  refine brF (by simp) ?_
  refine ⟨_, rfl, ?_⟩
  have n21 : p2 ≠ p1 := fun e => by rw [e, f1] at hp2; cases hp2
  have n31 : p3 ≠ p1 := fun e => by rw [e, x2 _ _ f1] at hp3; cases hp3
  have n32 : p3 ≠ p2 := fun e => by rw [e, f2] at hp3; cases hp3
  have o1 : M3 p1 = none := hp1
  have o2 : M3 p2 = none := x1.none hp2
  have o3 : M3 p3 = none := y2.none hp3
  have lt : ∀ {lo : Option Int}, (cutD rows lo none).length < sizeLine := fun {lo} => Nat.lt_of_le_of_lt (Nat.le_trans cut_len hl) (by decide)
  refine ⟨_, rfl, ⟨_, h1⟩, _, h1, Nat.lt_of_le_of_lt hl (by decide), ?_⟩
  have h2' : updM N4 p1 (.lst (rows ++ [.non])) p2 = _ := (updM_ne n21).trans h2
  refine ⟨_, rfl, ⟨_, h2'⟩, _, h2', lt, ?_⟩
  have h3' : updM (updM N4 p1 (.lst (rows ++ [.non]))) p2 (.lst (cutD rows (some (-1)) none ++ [.non])) p3 = _ := (updM_ne n32).trans ((updM_ne n31).trans h3)
  refine ⟨_, rfl, ⟨_, h3'⟩, _, h3', lt, ?_⟩
  have z : Ext M3 (updM (updM (updM N4 p1 (.lst (rows ++ [.non]))) p2 (.lst (cutD rows (some (-1)) none ++ [.non]))) p3 (.lst (cutD rows (some (-wi)) none ++ [.non]))) := ((y4.upd o1).upd o2).upd o3
  generalize updM (updM (updM N4 p1 (.lst (rows ++ [.non]))) p2 (.lst (cutD rows (some (-1)) none ++ [.non]))) p3 (.lst (cutD rows (some (-wi)) none ++ [.non])) = N5 at *
  refine ⟨_, rfl, _, rfl, x, l, rows, od, rfl, lg3.ext z, (g6.dq (by decide) 0 (by decide)).th, g5, fun M' e => ?_⟩
  have pod : Pl 8 [2, 2] (.lst [.str "number", od]) := .lst (Nat.le_of_ble_eq_true rfl) fun y hy => by
    simp only [List.mem_cons, List.mem_nil_iff, or_false] at hy
    rcases hy with rfl | rfl
    · exact .leaf ⟨by decide, ok_of _⟩
    · exact g6
  obtain ⟨t, s, d, w⟩ := pod.shw (by decide) (M := M')
  have lw : t.text.length ≤ sizeLine := Nat.le_trans (Sh.text_le t) (Nat.le_trans w (by decide))
  have dw : t.dep ≤ 60 := Nat.le_trans d (by decide)
  refine ⟨t, s, dw, lw, _, rfl, (Nat.le_of_ble_eq_true rfl), t, s, dw, lw, ?_⟩
  show Qd (.bl (decide (t.text = t.text))) M'
  rw [decide_eq_true rfl]
  exact q M' ((e0.trans z.but).trans e.but) ((hb3.ext z).ext e)
end K16

set_option Elab.async false
set_option linter.all false
set_option maxRecDepth 100000
set_option maxHeartbeats 4000000
set_option pp.maxSteps 1500
namespace K16
open PySem L2 DL
theorem lenB {ws : List D} (h : areBegin ws = true) : ws.length = 3 := by
  unfold areBegin at h; split at h
  · rfl
  · cases h
theorem lenE {ws : List D} (h : areEnd ws = true) : ws.length = 4 := by
  unfold areEnd at h; split at h
  · rfl
  · cases h
theorem lenM {ws : List D} (h : areMissed ws = true) : ws.length = 3 := by
  unfold areMissed at h; split at h
  · rfl
  · cases h
theorem lenL {ws : List D} (h : areBell ws = true) : ws.length = 3 := by
  unfold areBell at h; split at h
  · rfl
  · cases h
theorem lenP {ws : List D} (h : arePlug ws = true) : ws.length = 3 := by
  unfold arePlug at h; split at h
  · rfl
  · cases h
theorem aw_len {s : Str} {r : List D} (h : areWords (.tup (.str s :: r)) = true) : r.length + 1 = (if s = "begin" then 3 else if s = "end" then 4 else if s = "missed" then 3 else if s = "bell" then 3 else if s = "plug" then 3 else 2) := by
  revert h
  show (if s = "begin" then areBegin (.str s :: r) else if s = "end" then areEnd (.str s :: r) else if s = "missed" then areMissed (.str s :: r) else if s = "bell" then areBell (.str s :: r) else if s = "plug" then arePlug (.str s :: r) else (match r with | [n] => wordIn (.str s) named && nameD n | _ => false)) = true → _
  intro h
  split at h
  · rw [if_pos (by assumption)]; exact lenB h
  rw [if_neg (by assumption)]
  split at h
  · rw [if_pos (by assumption)]; exact lenE h
  rw [if_neg (by assumption)]
  split at h
  · rw [if_pos (by assumption)]; exact lenM h
  rw [if_neg (by assumption)]
  split at h
  · rw [if_pos (by assumption)]; exact lenL h
  rw [if_neg (by assumption)]
  split at h
  · rw [if_pos (by assumption)]; exact lenP h
  rw [if_neg (by assumption)]
  split at h
  · rfl
  · cases h
theorem aw_more {s : Str} {r : List D} {x : D} (h : areWords (.tup (.str s :: r)) = true) : areWords (.tup (.str s :: (r ++ [x]))) = false := by
  cases e : areWords (.tup (.str s :: (r ++ [x]))) with
  | false => rfl
  | true =>
    have a := aw_len h
    have b := aw_len e
    rw [List.length_append, List.length_singleton] at b
    omega
theorem aw_one {s : Str} : areWords (.tup [.str s]) = false := by
  cases e : areWords (.tup [.str s]) with
  | false => rfl
  | true =>
    have a := aw_len e
    rw [List.length_nil] at a
    repeat' split at a
    all_goals omega
/-- things that are asked: plain, or a new list of plain things -/
def Gt (M0 : Mp) (k : Nat) (M : Mp) (d : D) : Prop := Pl 8 [5, 16, 2] d ∧ (∀ xs, d ≠ .lst xs) ∨ d = .dct [] ∨ ∃ p xs, d = .ref p ∧ M0 p = none ∧ M p = some (.lst xs) ∧ xs.length ≤ k ∧ ∀ x ∈ xs, Pl 8 [16, 16, 2] x
theorem Gt.dq {M0 : Mp} {k : Nat} {M : Mp} {d : D} (h : Gt M0 k M d) : Dq 3 M d := by
  rcases h with ⟨h, _⟩ | rfl | ⟨p, xs, rfl, _, e, _⟩
  · exact h.dq (by decide) 3 (by decide)
  · exact .flat ⟨trivial, trivial⟩ fun _ z => by cases z
  · exact .flat ⟨⟨_, e, trivial⟩, _, e, trivial⟩ fun _ z => by cases z
theorem Gt.ext {M0 : Mp} {k : Nat} {M M' : Mp} {d : D} (x : Ext M M') (h : Gt M0 k M d) : Gt M0 (k + 1) M' d := by
  rcases h with h | h | ⟨p, xs, e, z, h, l, a⟩
  · exact .inl h
  · exact .inr (.inl h)
  · exact .inr (.inr ⟨p, xs, e, z, x _ _ h, by omega, a⟩)
theorem Gt.grow {M0 : Mp} {k : Nat} {M : Mp} {a : Addr} {ys : List D} (ha : M a = some (.lst ys)) (hp : ∀ x ∈ ys, Pl 8 [16, 16, 2] x) (hl : ys.length ≤ k) {d : D} (h : Gt M0 k M d) : Gt M0 (k + 1) (updM M a (.lst (ys ++ [.str "more"]))) d := by
  rcases h with h | h | ⟨p, xs, e, z, h, l, q⟩
  · exact .inl h
  · exact .inr (.inl h)
  · by_cases c : p = a
    · subst c
      rw [ha] at h; cases h
      refine .inr (.inr ⟨p, _, e, z, updM_same, by rw [List.length_append, List.length_singleton]; omega, fun x hx => ?_⟩)
      rcases List.mem_append.mp hx with hx | hx
      · exact hp x hx
      · rw [List.mem_singleton.mp hx]; exact .leaf ⟨by decide, ok_of _⟩
    · exact .inr (.inr ⟨p, xs, e, z, by rw [updM_ne c]; exact h, by omega, q⟩)
theorem Gt.show {M0 : Mp} {k : Nat} (hk : k ≤ 40) {M : Mp} {d : D} (h : Gt M0 k M d) (z : Str) (hz : z.length ≤ 8 ∧ Ok z) : ∃ t, ShOf M (.lst [.str z, d]) t ∧ t.dep ≤ 60 ∧ t.text.length ≤ sizeLine := by
  have one : Shw M d 4 2500000 := by
    rcases h with ⟨h, _⟩ | rfl | ⟨p, xs, rfl, _, e, l, q⟩
    · exact (h.shw (by decide)).mono (by decide) (by decide)
    · exact shw_dct0.mono (by decide) (by decide)
    · refine (shw_ref e fun x hx => (q x hx).shw (by decide)).mono (by decide) ?_
      have w : wid 8 [16, 16, 2] + 2 = 59733 := by decide
      rw [w]; omega
  obtain ⟨t, a, b, c⟩ := shw_lst (M := M) (n := 4) (c := 2500000) (ds := [.str z, d]) fun y hy => by
    simp only [List.mem_cons, List.mem_nil_iff, or_false] at hy
    rcases hy with rfl | rfl
    · exact (shw_str hz.2 hz.1 (by decide)).mono (by decide) (by decide)
    · exact one
  exact ⟨t, a, Nat.le_trans b (by decide), Nat.le_trans (Sh.text_le t) (Nat.le_trans c (by show 2 * 2500002 + 3 ≤ sizeLine; decide))⟩
def AskOk (rows : List D) (M0 : Mp) (k : Nat) (M : Mp) (a : D) : Prop := ∃ t s z v, a = .tup [t, s, .lst [.str z, v]] ∧ Gt M0 k M t ∧ Gt M0 k M s ∧ ((z = "number" ∧ v = t ∧ addOut rows t s = .num) ∨ (z = "log" ∧ v = s ∧ addOut rows t s = .log))
theorem AskOk.map {rows : List D} {M0 : Mp} {k : Nat} {M M' : Mp} (f : ∀ d, Gt M0 k M d → Gt M0 (k + 1) M' d) {a : D} (h : AskOk rows M0 k M a) : AskOk rows M0 (k + 1) M' a := by
  obtain ⟨t, s, z, v, e, g1, g2, h⟩ := h
  exact ⟨t, s, z, v, e, f _ g1, f _ g2, h⟩
theorem Rows.t {rows : List D} (h : Rows rows) : RowsT rows := fun r hr => by
  obtain ⟨i, ws, e, _⟩ := h r hr
  exact ⟨i, ws, e⟩
theorem Rows.pl {rows : List D} (h : Rows rows) : ∀ r ∈ rows, Pl 8 [5, 16, 2] r := fun r hr => by
  obtain ⟨i, ws, _, _, _, p⟩ := h r hr
  exact p
/-- one question of the loop -/
theorem ask_ok {A : Ad} (hA : AdOk A) {Dd : DEnds} {x l r : Addr} {rows : List D} (gr : Rows rows) (hl : rows.length ≤ 1000) {M0 M : Mp} {k : Nat} (hk : k ≤ 35) (lg : Lg A.c_Log M x l rows) (hr : M r = some (.lst rows)) {t s v : D} {z : Str} (g1 : Gt M0 k M t) (g2 : Gt M0 k M s) (h : (z = "number" ∧ v = t ∧ addOut rows t s = .num) ∨ (z = "log" ∧ v = s ∧ addOut rows t s = .log)) {c0 c3 c4 c5 c6 c7 c11 : Option D}
    (nx : ∀ M' c, (∀ d, Gt M0 k M d → Gt M0 (k + 4) M' d) → (∀ a o, M0 a ≠ none → M a = some o → M' a = some o) → Dd.nx [c0, some (.ref x), some (.ref r), c3, c4, c5, c6, c7, some t, some s, some (.lst [.str z, v]), c] M') :
    b1__law_refused A Dd [c0, some (.ref x), some (.ref r), c3, c4, c5, c6, c7, some t, some s, some (.lst [.str z, v]), c11] M := by
  have hz : z.length ≤ 8 ∧ Ok z := by
    rcases h with ⟨rfl, _⟩ | ⟨rfl, _⟩ <;> exact ⟨by decide, ok_of _⟩
  have gv : Gt M0 k M v := by
    rcases h with ⟨_, rfl, _⟩ | ⟨_, rfl, _⟩
    · exact g1
    · exact g2
  refine ⟨_, rfl, _, rfl, _, rfl, x, l, rows, t, s, rfl, lg, gr.t, by omega, g1.dq.th, g2.dq, fun M1 e1 => ?_⟩
  have tl : toldA (addOut rows t s) t s = .lst [.str z, v] := by
    rcases h with ⟨rfl, rfl, h⟩ | ⟨rfl, rfl, h⟩ <;> rw [h] <;> rfl
  have ms : toldM (addOut rows t s) M1 l (rows ++ [rowD t s]) = M1 := by
    rcases h with ⟨_, _, h⟩ | ⟨_, _, h⟩ <;> rw [h] <;> rfl
  rw [tl, ms]
  have gv1 := gv.ext e1
  obtain ⟨tr, s1, s2, s3⟩ := gv1.show (by omega) z hz
  refine ⟨_, rfl, tr, s1, s2, s3, _, rfl, tr, s1, s2, s3, ?_⟩
  refine brF (by simp) ?_
  have lg1 := lg.ext e1
  have hr1 := e1 _ _ hr
  refine ⟨_, rfl, _, _, lg1.obj, rfl, rfl, rfl, rfl, x, l, rows, rfl, lg1, fun p hp => ?_⟩
  have e2 : Ext M1 (updM M1 p (.lst rows)) := Ext.new hp
  have f2 : updM M1 p (.lst rows) p = some (.lst rows) := updM_same
  generalize updM M1 p (.lst rows) = M2 at *
  obtain ⟨py, _, pr, sh, eq⟩ := rows_py (by decide) gr.pl
  refine ⟨_, rfl, py, py, pr M2 _ f2, pr M2 _ (e2 _ _ hr1), sh, sh, ?_⟩
  rw [eq]
  have gv2 := gv1.ext e2
  have keep : ∀ d, Gt M0 k M d → Gt M0 (k + 2) M2 d := fun d g => (g.ext e1).ext e2
  rcases gv2 with ⟨pv, nl⟩ | rfl | ⟨a, ys, rfl, a0, ha, la, pa⟩
  · obtain ⟨tr2, t1, t2, t3⟩ := Gt.show (M0 := M0) (k := k + 2) (by omega) (.inl ⟨pv, nl⟩) (M := M2) z hz
    have th := (pv.dq (m := 8) (by decide) 0 (by decide) (M := M2)).th
    have go : ∀ {u : Ty → Prop}, (∀ t, isT t .lst = false → u t) → tyD v M2 u := fun {u} hu => by
      cases v with
      | ref a => rcases pv with pv | ⟨_, e | e, _⟩ <;> first | exact pv.elim | cases e
      | lst xs => exact absurd rfl (nl xs)
      | sq xs => exact False.elim th
      | ty n => exact False.elim th
      | ins C fs => exact False.elim th
      | _ => exact hu _ rfl
    refine ⟨_, rfl, _, rfl, go fun t ht => ?_⟩
    rw [ht]
    refine ⟨_, rfl, tr2, t1, t2, t3, _, rfl, tr2, t1, t2, t3, ?_⟩
    refine brF (by simp) ?_
    exact nx M2 _ (fun d g => ((keep d g).ext (Ext.refl M2)).ext (Ext.refl M2)) fun a o _ h => e2 _ _ (e1 _ _ h)
  · obtain ⟨tr2, t1, t2, t3⟩ := Gt.show (M0 := M0) (k := k + 2) (by omega) (.inr (.inl rfl)) (M := M2) z hz
    refine ⟨_, rfl, _, rfl, ?_⟩
    refine ⟨_, rfl, tr2, t1, t2, t3, _, rfl, tr2, t1, t2, t3, ?_⟩
    refine brF (by simp) ?_
    exact nx M2 _ (fun d g => ((keep d g).ext (Ext.refl M2)).ext (Ext.refl M2)) fun a o _ h => e2 _ _ (e1 _ _ h)
  · refine ⟨_, rfl, _, rfl, _, ha, ?_⟩
    refine ⟨_, rfl, _, rfl, ⟨_, ha⟩, ys, ha, Nat.lt_of_le_of_lt (by omega : ys.length ≤ 40) (by decide), ?_⟩
    have gg : ∀ d, Gt M0 (k + 2) M2 d → Gt M0 (k + 3) (updM M2 a (.lst (ys ++ [.str "more"]))) d := fun d g => g.grow ha pa la
    obtain ⟨tr2, t1, t2, t3⟩ := (gg (.ref a) (.inr (.inr ⟨a, ys, rfl, a0, ha, la, pa⟩))).show (by omega) z hz
    refine ⟨_, rfl, tr2, t1, t2, t3, _, rfl, tr2, t1, t2, t3, ?_⟩
    refine brF (by simp) ?_
    exact nx _ _ (fun d g => (gg d (keep d g)).ext (Ext.refl _)) fun c o h0 h => by
      rw [updM_ne (fun z => h0 (by rw [z, a0]))]; exact e2 _ _ (e1 _ _ h)
end K16

set_option Elab.async false
set_option linter.all false
set_option maxRecDepth 100000
set_option maxHeartbeats 4000000
set_option pp.maxSteps 1500
namespace K16
open PySem L2 DL
def rGood (te : DTE) : DTE := dIfE (dTest (dOp (dE0 not) te (dLst (dNil)))) (dOp dIx (dOp dIx te (dNeg (dC (.int 1)))) (dC (.int 0))) (dC (.int 0))
theorem late_app {ys : List D} {i j : Int} {ws : List D} : lateD (ys ++ [.tup (.int j :: ws)]) (.int i) = decide (i < j) := by
  unfold lateD
  rw [List.getLast?_append]
  rfl
/-- the turn of the last row, or 0 -/
theorem good_ok {te : DTE} {δ : DS} {M : Mp} {E : DXK} {r : Addr} {rows : List D} (hte : ∀ Q : DK, Q (.ref r) M → te δ M Q E) (hr : M r = some (.lst rows)) (gr : Rows rows) : ∃ g : Int, 0 ≤ g ∧ g ≤ 90 * (rows.length : Nat) ∧ (0 < g → lateD rows (.int (g - 1)) = true) ∧ (∀ k : Int, 0 ≤ k → lateD rows (.int (g + k)) = false) ∧ ∀ Q : DK, Q (.int g) M → rGood te δ M Q E := by
  rcases List.eq_nil_or_concat rows with rfl | ⟨ys, y, rfl⟩
  · exact ⟨0, by decide, by decide, fun h => absurd h (by decide), fun _ _ => rfl, fun Q q => hte _ ⟨(Nat.le_of_ble_eq_true rfl), rfl, _, hr, q⟩⟩
  · rw [List.concat_eq_append] at *
    obtain ⟨j, ws, rfl, j0, j1, _⟩ := gr y (by simp)
    refine ⟨j, j0, j1, fun h => ?_, fun k h => ?_, fun Q q => hte _ ⟨(Nat.le_of_ble_eq_true rfl), rfl, _, hr, ?_⟩⟩
    · rw [late_app]; exact decide_eq_true (by omega)
    · rw [late_app]; exact decide_eq_false (by omega)
    · refine brT (by simp) (hte _ ?_)
      exact ⟨_, hr, _, atI_last, _, at0, q⟩
theorem bag_ne {M : Mp} {b a : Addr} {n : Nat} {o : MO} (h : Bag M b n) (ha : M a = some o) (k : ∀ x y z : Int, o ≠ .lst [.int x, .int y, .int z]) : a ≠ b := fun e => by
  obtain ⟨x, y, z, h, _⟩ := h
  rw [e, h] at ha
  cases ha
  exact k _ _ _ rfl
theorem rows_ne {rows : List D} (gr : Rows rows) (x y z : Int) : MO.lst rows ≠ .lst [.int x, .int y, .int z] := fun e => by
  cases e
  obtain ⟨i, ws, e2, _⟩ := gr (.int x) (by simp)
  cases e2
theorem rd__law_refused (A : Ad) (hA : AdOk A) : ∀ ds M Qd Ed, sp__law_refused A ds M Qd Ed → t__law_refused A (ends Qd Ed) (dstart N__law_refused ds) M := by
  intro ds M Qd Ed h
  obtain ⟨b, x, l, r, rows, w, n, rfl, hb, hn, lg, hr, gr, hl, gw, q⟩ := h
  obtain ⟨s, ws, rfl⟩ := words_tup gw.ok
  have plw := gw.pl
  have wit : (.str s :: ws).length ≤ 4 ∧ ∀ y ∈ D.str s :: ws, Pl 8 [16, 2] y := by
    rcases plw with h | ⟨ys, e | e, h1, h2⟩
    · exact h.elim
    · cases e; exact ⟨h1, h2⟩
    · cases e
  have pw : Pl 8 [5, 16, 2] (.tup (.str s :: ws)) := .tup (by have := wit.1; omega) wit.2
  have bx := bag_ne hb lg.obj fun _ _ _ e => by cases e
  have bl := bag_ne hb lg.rw_ (rows_ne gr)
  have br := bag_ne hb hr (rows_ne gr)
  have hM0 : M b ≠ none := by obtain ⟨_, _, _, h, _⟩ := hb; rw [h]; exact fun z => by cases z
  -- what is no turn
  refine ⟨(Nat.le_of_ble_eq_true rfl), fun p1 hp1 => ?_⟩
  have x1 : Ext M (updM M p1 (.lst [.int 3])) := Ext.new hp1
  have f1 : updM M p1 (.lst [.int 3]) p1 = some (.lst [.int 3]) := updM_same
  have b1 := hb.ext x1
  generalize updM M p1 (.lst [.int 3]) = N1 at *
  have n1 := hb.at hp1
  clear hb
  refine ⟨(Nat.le_of_ble_eq_true rfl), (Nat.le_of_ble_eq_true rfl), ?_⟩
  (repeat (first | refine ⟨_, rfl, ?_⟩ | refine ⟨Nat.le_of_ble_eq_true rfl, ?_⟩ | refine ⟨rfl, ?_⟩ | refine ⟨_, asm (by assumption), ?_⟩ | refine ⟨asm (by assumption), ?_⟩ | refine ⟨List.mem_cons_self, ?_⟩ | refine ⟨_, updM_same, ?_⟩ | refine ⟨(by decide), ?_⟩ | refine ⟨(by show (0 : Int) < _; decide), ?_⟩)); refine ⟨_, _, _, rfl, (by assumption), (by omega), (by decide), (by decide), fun M1 t1 e1 hb1 a1 c1 => ?_⟩
  have f1' := e1 p1 _ n1.symm f1
  have gt1 : ∃ t, atI [D.non, .bl true, .int (-1), .str "0", .ref p1, .tup [], .dct []] t1 = some t ∧ turnD t = false ∧ Gt M 1 M1 t := by
    rcases (by omega : t1 = 0 ∨ t1 = 1 ∨ t1 = 2 ∨ t1 = 3 ∨ t1 = 4 ∨ t1 = 5 ∨ t1 = 6) with rfl | rfl | rfl | rfl | rfl | rfl | rfl
    · exact ⟨_, rfl, rfl, .inl ⟨.leaf trivial, fun _ z => by cases z⟩⟩
    · exact ⟨_, rfl, rfl, .inl ⟨.leaf trivial, fun _ z => by cases z⟩⟩
    · exact ⟨_, rfl, rfl, .inl ⟨.leaf ⟨by decide, by decide⟩, fun _ z => by cases z⟩⟩
    · exact ⟨_, rfl, rfl, .inl ⟨.leaf ⟨by decide, ok_of _⟩, fun _ z => by cases z⟩⟩
    · exact ⟨_, rfl, rfl, .inr (.inr ⟨p1, _, rfl, hp1, f1', by decide, fun y hy => by
        rw [List.mem_singleton.mp hy]; exact .leaf ⟨by decide, by decide⟩⟩)⟩
    · exact ⟨_, rfl, rfl, .inl ⟨.tup (Nat.le_of_ble_eq_true rfl) fun _ z => (nomatch z), fun _ z => by cases z⟩⟩
    · exact ⟨_, rfl, rfl, .inr (.inl rfl)⟩
  obtain ⟨t, it, ht, gt⟩ := gt1
  refine ⟨_, it, ?_⟩
  -- what are no words
  have eM := x1.but.trans e1
  refine ⟨_, rfl, fun p2 hp2 => ?_⟩
  have x2 : Ext M1 (updM M1 p2 (.lst (.str s :: ws))) := Ext.new hp2
  have f2 : updM M1 p2 (.lst (.str s :: ws)) p2 = some (.lst (.str s :: ws)) := updM_same
  have b2 := hb1.ext x2
  have n2 := hb1.at hp2
  have o2 : M p2 = none := eM.none n2.symm hp2
  generalize updM M1 p2 (.lst (.str s :: ws)) = N2 at *
  refine ⟨_, rfl, _, rfl, (Nat.le_of_ble_eq_true rfl), ?_, ?_⟩
  · exact Nat.le_trans (Nat.add_le_add_right wit.1 1) (by decide)
  refine ⟨(Nat.le_of_ble_eq_true rfl), (Nat.le_of_ble_eq_true rfl), _, rfl, (Nat.le_of_ble_eq_true rfl), fun p3 hp3 => ?_⟩
  have x3 : Ext N2 (updM N2 p3 (.lst [.tup (.str s :: ws)])) := Ext.new hp3
  have f3 : updM N2 p3 (.lst [.tup (.str s :: ws)]) p3 = some (.lst [.tup (.str s :: ws)]) := updM_same
  have b3 := b2.ext x3
  have n3 := b2.at hp3
  have o3 : M p3 = none := (eM.trans x2.but).none n3.symm hp3
  generalize updM N2 p3 (.lst [.tup (.str s :: ws)]) = N3 at *
  clear b1 hb1 b2
  refine ⟨(Nat.le_of_ble_eq_true rfl), ?_⟩
  (repeat (first | refine ⟨_, rfl, ?_⟩ | refine ⟨Nat.le_of_ble_eq_true rfl, ?_⟩ | refine ⟨rfl, ?_⟩ | refine ⟨_, asm (by assumption), ?_⟩ | refine ⟨asm (by assumption), ?_⟩ | refine ⟨List.mem_cons_self, ?_⟩ | refine ⟨_, updM_same, ?_⟩ | refine ⟨(by decide), ?_⟩ | refine ⟨(by show (0 : Int) < _; decide), ?_⟩)); refine ⟨_, _, _, rfl, (by assumption), (by omega), (by decide), (by decide), fun M4 t4 e4 hb4 a4 c4 => ?_⟩
  have w16 : ∀ {d : D}, Pl 8 [2] d → Pl 8 [16, 2] d := fun {d} h => by
    rcases h with h | ⟨ys, e, h1, h2⟩
    · exact .leaf h
    · rcases e with rfl | rfl
      · exact .tup (by omega) fun y hy => .leaf (h2 y hy)
      · exact .lst (by omega) fun y hy => .leaf (h2 y hy)
  have w17 : ∀ {d : D}, Pl 8 [16, 2] d → Pl 8 [16, 16, 2] d := fun {d} h => by
    rcases h with h | ⟨ys, e, h1, h2⟩
    · exact .leaf h
    · rcases e with rfl | rfl
      · exact .tup h1 fun y hy => w16 (h2 y hy)
      · exact .lst h1 fun y hy => w16 (h2 y hy)
  have f2' := e4 p2 _ n2.symm (x3 _ _ f2)
  have f3' := e4 p3 _ n3.symm f3
  have gs1 : ∃ u, atI [D.non, .ref p2, .tup (cutD (.str s :: ws) none (some 1)), .tup ((.str s :: ws) ++ [.str "wake"]), .tup [], .tup [.str "wakes", .str "a"], .int 7, .dct [], .ref p3] t4 = some u ∧ areWords u = false ∧ Gt M 4 M4 u := by
    rcases (by omega : t4 = 0 ∨ t4 = 1 ∨ t4 = 2 ∨ t4 = 3 ∨ t4 = 4 ∨ t4 = 5 ∨ t4 = 6 ∨ t4 = 7 ∨ t4 = 8) with rfl | rfl | rfl | rfl | rfl | rfl | rfl | rfl | rfl
    · exact ⟨_, rfl, rfl, .inl ⟨.leaf trivial, fun _ z => by cases z⟩⟩
    · exact ⟨_, rfl, rfl, .inr (.inr ⟨p2, _, rfl, o2, f2', wit.1, fun y hy => w17 (wit.2 y hy)⟩)⟩
    · refine ⟨_, rfl, ?_, ?_⟩
      · rw [show cutD (D.str s :: ws) none (some 1) = [D.str s] from (cutD_to (k := 1)).trans rfl]; exact aw_one
      · rw [show cutD (D.str s :: ws) none (some 1) = [D.str s] from (cutD_to (k := 1)).trans rfl]
        refine .inl ⟨.tup (Nat.le_of_ble_eq_true rfl) fun y hy => ?_, fun _ z => by cases z⟩
        rw [List.mem_singleton.mp hy]; exact wit.2 _ List.mem_cons_self
    · refine ⟨_, rfl, aw_more gw.ok, .inl ⟨.tup (by rw [List.length_append, List.length_singleton]; have := wit.1; omega) fun y hy => ?_, fun _ z => by cases z⟩⟩
      rcases List.mem_append.mp hy with hy | hy
      · exact wit.2 y hy
      · rw [List.mem_singleton.mp hy]; exact .leaf ⟨by decide, ok_of _⟩
    · exact ⟨_, rfl, rfl, .inl ⟨.tup (Nat.le_of_ble_eq_true rfl) fun _ z => (nomatch z), fun _ z => by cases z⟩⟩
    · refine ⟨_, rfl, by decide +kernel, .inl ⟨.tup (Nat.le_of_ble_eq_true rfl) fun y hy => ?_, fun _ z => by cases z⟩⟩
      simp only [List.mem_cons, List.mem_nil_iff, or_false] at hy
      rcases hy with rfl | rfl
      · exact .leaf ⟨by decide, ok_of _⟩
      · exact .leaf ⟨by decide, ok_of _⟩
    · exact ⟨_, rfl, rfl, .inl ⟨.leaf ⟨by decide, by decide⟩, fun _ z => by cases z⟩⟩
    · exact ⟨_, rfl, rfl, .inr (.inl rfl)⟩
    · refine ⟨_, rfl, rfl, .inr (.inr ⟨p3, _, rfl, o3, f3', (Nat.le_of_ble_eq_true rfl), fun y hy => ?_⟩)⟩
      rw [List.mem_singleton.mp hy]
      exact .tup (by have := wit.1; omega) wit.2
  obtain ⟨u, iu, hu, gu⟩ := gs1
  refine ⟨_, iu, ?_⟩
  have eM4 := ((eM.trans x2.but).trans x3.but).trans e4
  have gt4 : Gt M 4 M4 t := by
    rcases gt with h | h | ⟨p, xs, e, z, h, l, q⟩
    · exact .inl h
    · exact .inr (.inl h)
    · refine .inr (.inr ⟨p, xs, e, z, ?_, by omega, q⟩)
      have nb : p ≠ b := fun z2 => hM0 (by rw [← z2]; exact z)
      exact e4 _ _ nb (x3 _ _ (x2 _ _ h))
  have lg4 : Lg A.c_Log M4 x l rows := ⟨eM4 _ _ bx lg.obj, eM4 _ _ bl lg.rw_⟩
  have hr4 := eM4 _ _ br hr
  have gw4 : Gt M 4 M4 (.tup (.str s :: ws)) := .inl ⟨pw, fun _ z => by cases z⟩
  obtain ⟨g, g0, _, g2, _, gq⟩ := good_ok (te := dVar 2) (δ := [some (.ref b), some (.ref x), some (.ref r), some (.tup (.str s :: ws)), some t, some u, none, none, none, none, none, none]) (E := fun c fo M' => Ed c fo M') (fun Q q => ⟨_, rfl, q⟩) hr4 gr
  refine gq _ ?_
  refine ⟨_, rfl, _, rfl, _, rfl, (Nat.le_of_ble_eq_true rfl), (Nat.le_of_ble_eq_true rfl), _, rfl, _, rfl, _, rfl, (Nat.le_of_ble_eq_true rfl), (Nat.le_of_ble_eq_true rfl), _, rfl, _, rfl, _, rfl, (Nat.le_of_ble_eq_true rfl), (Nat.le_of_ble_eq_true rfl), (Nat.le_of_ble_eq_true rfl), ?_⟩
  have oN : ∀ s, addOut rows t s = .num := fun s => by unfold addOut; rw [ht]; rfl
  have oL : ∀ i : Int, 0 ≤ i → addOut rows (.int i) u = .log := fun i h => by unfold addOut; rw [show turnD (.int i) = true from decide_eq_true h, hu]; rfl
  have gi : ∀ i : Int, 0 ≤ i → i ≤ g → Gt M 4 M4 (.int i) := fun i h0 h1 => .inl ⟨.leaf ⟨by omega, by omega⟩, fun _ z => by cases z⟩
  have loop : ∀ (xs : List D) (δ : DS) (Dd : DEnds), (∀ a ∈ xs, AskOk rows M 4 M4 a) → xs.length ≤ 5 → (∃ c3 c4 c5 c6 c7 c8 c9 c10 c11, δ = [some (.ref b), some (.ref x), some (.ref r), c3, c4, c5, c6, c7, c8, c9, c10, c11]) → (∀ δ' M', But b M M' → Bag M' b (n + 2) → Dd.nx δ' M') → dLoop (gdTup 3 (gdNames [8, 9, 10])) (b1__law_refused A) .data xs Dd δ M4 := by
    intro xs δ Dd ha hxl hδ nx
    refine loop_rec (fun rest δ M' => ∃ k, k + 4 * rest.length ≤ 30 ∧ (∀ a ∈ rest, AskOk rows M k M' a) ∧ (∀ a o, M a ≠ none → M4 a = some o → M' a = some o) ∧ ∃ c3 c4 c5 c6 c7 c8 c9 c10 c11, δ = [some (.ref b), some (.ref x), some (.ref r), c3, c4, c5, c6, c7, c8, c9, c10, c11]) ?_ ?_ _ _ _ ⟨4, by omega, ha, fun _ _ _ h => h, hδ⟩
    · rintro δ' M' ⟨k, _, _, h, _⟩
      refine nx δ' M' (fun a o nb e => h a o (by rw [e]; exact fun z => by cases z) (eM4 a o nb e)) ?_
      obtain ⟨i1, i2, i3, e, z⟩ := hb4
      exact ⟨i1, i2, i3, h b _ hM0 e, z.1, z.2.1, z.2.2.1, by omega⟩
    · rintro a rest δ' M' N ⟨k, hk, hA2, keep, c3, c4, c5, c6, c7, c8, c9, c10, c11, rfl⟩ h
      rw [List.length_cons] at hk
      obtain ⟨t', s', z, v, rfl, g1, g3, hh⟩ := hA2 a List.mem_cons_self
      have nn : ∀ {a o}, M a = some o → M a ≠ none := fun e z => by rw [e] at z; cases z
      refine ⟨rfl, rfl, ask_ok hA gr hl (by omega) ⟨keep _ _ (nn lg.obj) lg4.obj, keep _ _ (nn lg.rw_) lg4.rw_⟩ (keep _ _ (nn hr) hr4) g1 g3 hh fun M2 c f keep2 => ?_⟩
      refine h _ M2 ⟨k + 4, by omega, fun a ha => ?_, fun a o h0 e => keep2 a o h0 (keep a o h0 e), _, _, _, _, _, _, _, _, _, rfl⟩
      obtain ⟨t2, s2, z2, v2, e, q1, q2, q3⟩ := hA2 a (List.mem_cons_of_mem _ ha)
      exact ⟨t2, s2, z2, v2, e, f _ q1, f _ q2, q3⟩
  have a1 : AskOk rows M 4 M4 (.tup [t, .tup (.str s :: ws), .lst [.str "number", t]]) := ⟨_, _, _, _, rfl, gt4, gw4, .inl ⟨rfl, rfl, oN _⟩⟩
  have a2 : AskOk rows M 4 M4 (.tup [t, u, .lst [.str "number", t]]) := ⟨_, _, _, _, rfl, gt4, gu, .inl ⟨rfl, rfl, oN _⟩⟩
  have a3 : AskOk rows M 4 M4 (.tup [.int g, u, .lst [.str "log", u]]) := ⟨_, _, _, _, rfl, gi g g0 (by omega), gu, .inr ⟨rfl, rfl, oL g g0⟩⟩
  refine ⟨_, rfl, ?_⟩
  refine br2 (fun e => ?_) (fun e => ?_)
  · have e : 0 < g := of_decide_eq_true e
    have oM : addOut rows (.int (g - 1)) (.tup (.str s :: ws)) = .num := by
      unfold addOut
      rw [show turnD (.int (g - 1)) = true from decide_eq_true (by omega), gw.ok, g2 e]; rfl
    have a4 : AskOk rows M 4 M4 (.tup [.int (g - 1), .tup (.str s :: ws), .lst [.str "number", .int (g - 1)]]) := ⟨_, _, _, _, rfl, gi _ (by omega) (by omega), gw4, .inl ⟨rfl, rfl, oM⟩⟩
    have a5 : AskOk rows M 4 M4 (.tup [.int (g - 1), u, .lst [.str "log", u]]) := ⟨_, _, _, _, rfl, gi _ (by omega) (by omega), gu, .inr ⟨rfl, rfl, oL _ (by omega)⟩⟩
    refine ⟨_, rfl, _, rfl, _, rfl, _, rfl, (Nat.le_of_ble_eq_true rfl), (Nat.le_of_ble_eq_true rfl), _, rfl, _, rfl, _, rfl, (Nat.le_of_ble_eq_true rfl), (Nat.le_of_ble_eq_true rfl), (Nat.le_of_ble_eq_true rfl), (Nat.le_of_ble_eq_true rfl), _, rfl, ?_⟩
    refine loop _ _ _ (fun a ha => ?_) (Nat.le_of_ble_eq_true rfl) ⟨_, _, _, _, _, _, _, _, _, rfl⟩ fun δ' M' e h => q M' e h
    have ha : a ∈ [_, _, _, _, _] := ha
    simp only [List.mem_cons, List.mem_nil_iff, or_false] at ha
    rcases ha with rfl | rfl | rfl | rfl | rfl
    · exact a1
    · exact a2
    · exact a3
    · exact a4
    · exact a5
  · refine ⟨_, rfl, ?_⟩
    refine loop _ _ _ (fun a ha => ?_) (Nat.le_of_ble_eq_true rfl) ⟨_, _, _, _, _, _, _, _, _, rfl⟩ fun δ' M' e h => q M' e h
    simp only [List.mem_cons, List.mem_nil_iff, or_false] at ha
    rcases ha with rfl | rfl | rfl
    · exact a1
    · exact a2
    · exact a3
end K16

set_option Elab.async false
set_option linter.all false
set_option maxRecDepth 100000
set_option maxHeartbeats 4000000
set_option pp.maxSteps 1500
namespace K16
open PySem L2 DL
/-- two logs (2, 3) of own lists (4, 5), the law's rows of them (6, 7), the lists of both (0, 1) -/
structure St (C : Addr) (M : Mp) (f : Nat → Addr) (rs : Nat → List D) (n : Nat) : Prop where
  inj : ∀ i j, i < 8 → j < 8 → f i = f j → i = j
  L : M (f 0) = some (.lst [.ref (f 2), .ref (f 3)])
  R : M (f 1) = some (.lst [.ref (f 6), .ref (f 7)])
  x : ∀ i, i < 2 → M (f (2 + i)) = some (.ins C [("kept_rows", .ref (f (4 + i)))])
  l : ∀ i, i < 2 → M (f (4 + i)) = some (.lst (rs i))
  r : ∀ i, i < 2 → M (f (6 + i)) = some (.lst (rs i))
  g : ∀ i, i < 2 → Rows (rs i)
  len : ∀ i, i < 2 → (rs i).length ≤ n
theorem St.on {C : Addr} {M : Mp} {f : Nat → Addr} {rs : Nat → List D} {n : Nat} (h : St C M f rs n) : ∀ i, i < 8 → ∃ o, M (f i) = some o ∧ ∀ x y z : Int, o ≠ .lst [.int x, .int y, .int z] := by
  intro i hi
  rcases (by omega : i = 0 ∨ i = 1 ∨ i = 2 ∨ i = 3 ∨ i = 4 ∨ i = 5 ∨ i = 6 ∨ i = 7) with rfl | rfl | rfl | rfl | rfl | rfl | rfl | rfl
  · exact ⟨_, h.L, fun _ _ _ e => by cases e⟩
  · exact ⟨_, h.R, fun _ _ _ e => by cases e⟩
  · exact ⟨_, h.x 0 (by decide), fun _ _ _ e => by cases e⟩
  · exact ⟨_, h.x 1 (by decide), fun _ _ _ e => by cases e⟩
  · exact ⟨_, h.l 0 (by decide), rows_ne (h.g 0 (by decide))⟩
  · exact ⟨_, h.l 1 (by decide), rows_ne (h.g 1 (by decide))⟩
  · exact ⟨_, h.r 0 (by decide), rows_ne (h.g 0 (by decide))⟩
  · exact ⟨_, h.r 1 (by decide), rows_ne (h.g 1 (by decide))⟩
theorem St.keep {C : Addr} {M M' : Mp} {f : Nat → Addr} {rs : Nat → List D} {n : Nat} (h : St C M f rs n) (k : ∀ i o, i < 8 → M (f i) = some o → M' (f i) = some o) : St C M' f rs n :=
  ⟨h.inj, k 0 _ (by decide) h.L, k 1 _ (by decide) h.R, fun i hi => k _ _ (by omega) (h.x i hi), fun i hi => k _ _ (by omega) (h.l i hi), fun i hi => k _ _ (by omega) (h.r i hi), h.g, h.len⟩
theorem St.ext {C : Addr} {M M' : Mp} {f : Nat → Addr} {rs : Nat → List D} {n : Nat} (h : St C M f rs n) (e : Ext M M') : St C M' f rs n := h.keep fun i o _ z => e _ _ z
theorem St.but {C : Addr} {M M' : Mp} {f : Nat → Addr} {rs : Nat → List D} {n m : Nat} {b : Addr} (h : St C M f rs n) (hb : Bag M b m) (e : But b M M') : St C M' f rs n := h.keep fun i o hi z => by
  obtain ⟨o', e1, ne⟩ := h.on i hi
  exact e _ _ (bag_ne hb e1 ne) z
theorem St.mono {C : Addr} {M : Mp} {f : Nat → Addr} {rs : Nat → List D} {n m : Nat} (h : St C M f rs n) (l : n ≤ m) : St C M f rs m := { h with len := fun i hi => Nat.le_trans (h.len i hi) l }
def put {α : Type} (g : Nat → α) (i : Nat) (a : α) : Nat → α := fun j => if j = i then a else g j
theorem put_same {α : Type} {g : Nat → α} {i : Nat} {a : α} : put g i a i = a := if_pos rfl
theorem put_ne {α : Type} {g : Nat → α} {i j : Nat} {a : α} (h : j ≠ i) : put g i a j = g j := if_neg h
/-- a row more of one of the two -/
theorem St.add {C : Addr} {M : Mp} {f : Nat → Addr} {rs : Nat → List D} {n i : Nat} (h : St C M f rs n) (hi : i < 2) {row : D} (hl : (rs i).length < n) (hr : Rows (rs i ++ [row])) : St C (updM (updM M (f (4 + i)) (.lst (rs i ++ [row]))) (f (6 + i)) (.lst (rs i ++ [row]))) f (put rs i (rs i ++ [row])) n := by
  have ne : ∀ {a c : Nat}, a < 8 → c < 8 → a ≠ c → f a ≠ f c := fun ha hc k e => k (h.inj _ _ ha hc e)
  have off : ∀ {a : Nat} {o : MO}, a < 8 → a ≠ 4 + i → a ≠ 6 + i → M (f a) = some o → updM (updM M (f (4 + i)) (.lst (rs i ++ [row]))) (f (6 + i)) (.lst (rs i ++ [row])) (f a) = some o := fun ha n1 n2 e => by
    rw [updM_ne (ne ha (by omega) n2), updM_ne (ne ha (by omega) n1)]; exact e
  refine ⟨h.inj, off (by decide) (by omega) (by omega) h.L, off (by decide) (by omega) (by omega) h.R, fun j hj => off (by omega) (by omega) (by omega) (h.x j hj), fun j hj => ?_, fun j hj => ?_, fun j hj => ?_, fun j hj => ?_⟩
  · by_cases e : j = i
    · subst e
      rw [put_same, updM_ne (ne (by omega) (by omega) (by omega))]; exact updM_same
    · rw [put_ne e]; exact off (by omega) (by omega) (by omega) (h.l j hj)
  · by_cases e : j = i
    · subst e
      rw [put_same]; exact updM_same
    · rw [put_ne e]; exact off (by omega) (by omega) (by omega) (h.r j hj)
  · by_cases e : j = i
    · subst e; rw [put_same]; exact hr
    · rw [put_ne e]; exact h.g j hj
  · by_cases e : j = i
    · subst e; rw [put_same, List.length_append, List.length_singleton]; omega
    · rw [put_ne e]; exact h.len j hj
theorem Rows.more {rows : List D} (h : Rows rows) {i : Int} {w : D} (gw : GW w) (h0 : 0 ≤ i) (h1 : i ≤ 90 * ((rows.length + 1 : Nat))) (hl : rows.length ≤ 10000) : Rows (rows ++ [rowD (.int i) w]) := by
  intro r hr
  rw [List.length_append, List.length_singleton]
  rcases List.mem_append.mp hr with hr | hr
  · obtain ⟨j, ws, e, a, b, c⟩ := h r hr
    exact ⟨j, ws, e, a, by omega, c⟩
  · rw [List.mem_singleton.mp hr]
    obtain ⟨s, ws, rfl⟩ := words_tup gw.ok
    refine ⟨i, _, rfl, h0, h1, ?_⟩
    rcases gw.pl with z | ⟨ys, e | e, l1, l2⟩
    · exact z.elim
    · cases e
      refine .tup (by rw [List.length_cons]; omega) fun y hy => ?_
      rcases List.mem_cons.mp hy with rfl | hy
      · exact .leaf ⟨by omega, by omega⟩
      · exact l2 y hy
    · cases e
theorem told_sh (M : Mp) : ∃ t, ShOf M (.lst [.str "told", .non]) t ∧ t.dep ≤ 60 ∧ t.text.length ≤ sizeLine := by
  obtain ⟨t, a, b, c⟩ := (Pl.lst (m := 8) (l := 2) (ls := []) (xs := [.str "told", .non]) (Nat.le_of_ble_eq_true rfl) fun y hy => by
    simp only [List.mem_cons, List.mem_nil_iff, or_false] at hy
    rcases hy with rfl | rfl
    · exact ⟨by decide, ok_of _⟩
    · exact trivial).shw (by decide) (M := M)
  exact ⟨t, a, Nat.le_trans b (by decide), Nat.le_trans (Sh.text_le t) (Nat.le_trans c (by decide))⟩
theorem two_at (f : Nat → Addr) (c : Nat) {i : Nat} (hi : i < 2) : atI [D.ref (f c), .ref (f (c + 1))] ((i : Nat) : Int) = some (.ref (f (c + i))) := by
  rcases (by omega : i = 0 ∨ i = 1) with rfl | rfl <;> rfl
theorem St.copy {C : Addr} {M M' : Mp} {f : Nat → Addr} {rs : Nat → List D} {n i : Nat} (h : St C M f rs n) (hi : i < 2) {y k p : Addr} (hy : M y = none) (hk : M k = none) (hp : M p = none) (yk : y ≠ k) (yp : y ≠ p) (kp : k ≠ p)
    (old : ∀ c o, 2 ≤ c → c < 8 → M (f c) = some o → M' (f c) = some o) (m0 : M' (f 0) = some (.lst [.ref (put f (3 - i) y 2), .ref (put f (3 - i) y 3)])) (m1 : M' (f 1) = some (.lst [.ref (put f (7 - i) p 6), .ref (put f (7 - i) p 7)]))
    (my : M' y = some (.ins C [("kept_rows", .ref k)])) (mk : M' k = some (.lst (rs i))) (mp : M' p = some (.lst (rs i))) : St C M' (put (put (put f (3 - i) y) (5 - i) k) (7 - i) p) (put rs (1 - i) (rs i)) n := by
  have fr : ∀ c q, c < 8 → M q = none → f c ≠ q := fun c q hc hq e => by
    obtain ⟨o, e1, _⟩ := h.on c hc
    rw [e, hq] at e1; cases e1
  have at3 : put (put (put f (3 - i) y) (5 - i) k) (7 - i) p (3 - i) = y := by rw [put_ne (by omega), put_ne (by omega), put_same]
  have at5 : put (put (put f (3 - i) y) (5 - i) k) (7 - i) p (5 - i) = k := by rw [put_ne (by omega), put_same]
  have at7 : put (put (put f (3 - i) y) (5 - i) k) (7 - i) p (7 - i) = p := put_same
  have els : ∀ c, c ≠ 3 - i → c ≠ 5 - i → c ≠ 7 - i → put (put (put f (3 - i) y) (5 - i) k) (7 - i) p c = f c := fun c a b d => by rw [put_ne d, put_ne b, put_ne a]
  have what : ∀ c, c < 8 → (c = 3 - i ∧ put (put (put f (3 - i) y) (5 - i) k) (7 - i) p c = y) ∨ (c = 5 - i ∧ put (put (put f (3 - i) y) (5 - i) k) (7 - i) p c = k) ∨ (c = 7 - i ∧ put (put (put f (3 - i) y) (5 - i) k) (7 - i) p c = p) ∨ (put (put (put f (3 - i) y) (5 - i) k) (7 - i) p c = f c ∧ c ≠ 3 - i ∧ c ≠ 5 - i ∧ c ≠ 7 - i) := fun c hc => by
    by_cases a : c = 3 - i
    · subst a; exact .inl ⟨rfl, at3⟩
    by_cases b : c = 5 - i
    · subst b; exact .inr (.inl ⟨rfl, at5⟩)
    by_cases d : c = 7 - i
    · subst d; exact .inr (.inr (.inl ⟨rfl, at7⟩))
    exact .inr (.inr (.inr ⟨els c a b d, a, b, d⟩))
  refine ⟨fun a c ha hc e => ?_, ?_, ?_, fun j hj => ?_, fun j hj => ?_, fun j hj => ?_, fun j hj => ?_, fun j hj => ?_⟩
  · rcases what a ha with ⟨a1, a2⟩ | ⟨a1, a2⟩ | ⟨a1, a2⟩ | ⟨a2, a3⟩ <;> rcases what c hc with ⟨b1, b2⟩ | ⟨b1, b2⟩ | ⟨b1, b2⟩ | ⟨b2, b3⟩ <;> rw [a2, b2] at e <;>
      first
      | omega
      | exact absurd e yk | exact absurd e.symm yk | exact absurd e yp | exact absurd e.symm yp | exact absurd e kp | exact absurd e.symm kp
      | exact absurd e.symm (fr c _ hc hy) | exact absurd e.symm (fr c _ hc hk) | exact absurd e.symm (fr c _ hc hp)
      | exact absurd e (fr a _ ha hy) | exact absurd e (fr a _ ha hk) | exact absurd e (fr a _ ha hp)
      | exact h.inj a c ha hc e
  · rw [els 0 (by omega) (by omega) (by omega), m0]
    have e2 : put (put (put f (3 - i) y) (5 - i) k) (7 - i) p 2 = put f (3 - i) y 2 := by rw [put_ne (by omega), put_ne (by omega)]
    have e3 : put (put (put f (3 - i) y) (5 - i) k) (7 - i) p 3 = put f (3 - i) y 3 := by rw [put_ne (by omega), put_ne (by omega)]
    rw [e2, e3]
  · rw [els 1 (by omega) (by omega) (by omega), m1]
    have e6 : put (put (put f (3 - i) y) (5 - i) k) (7 - i) p 6 = put f (7 - i) p 6 := by
      by_cases e : 6 = 7 - i
      · rw [e, put_same, put_same]
      · rw [put_ne e, put_ne e, put_ne (by omega), put_ne (by omega)]
    have e7 : put (put (put f (3 - i) y) (5 - i) k) (7 - i) p 7 = put f (7 - i) p 7 := by
      by_cases e : 7 = 7 - i
      · rw [show put (put (put f (3 - i) y) (5 - i) k) (7 - i) p 7 = p from if_pos e, show put f (7 - i) p 7 = p from if_pos e]
      · rw [put_ne e, put_ne e, put_ne (by omega), put_ne (by omega)]
    rw [e6, e7]
  · by_cases e : j = 1 - i
    · subst e
      rw [show 2 + (1 - i) = 3 - i by omega, show 4 + (1 - i) = 5 - i by omega, at3, at5]; exact my
    · rw [els (2 + j) (by omega) (by omega) (by omega), els (4 + j) (by omega) (by omega) (by omega)]
      exact old _ _ (by omega) (by omega) (h.x j hj)
  · by_cases e : j = 1 - i
    · subst e
      rw [show 4 + (1 - i) = 5 - i by omega, at5, put_same]; exact mk
    · rw [els (4 + j) (by omega) (by omega) (by omega), put_ne e]
      exact old _ _ (by omega) (by omega) (h.l j hj)
  · by_cases e : j = 1 - i
    · subst e
      rw [show 6 + (1 - i) = 7 - i by omega, at7, put_same]; exact mp
    · rw [els (6 + j) (by omega) (by omega) (by omega), put_ne e]
      exact old _ _ (by omega) (by omega) (h.r j hj)
  · by_cases e : j = 1 - i
    · subst e; rw [put_same]; exact h.g i hi
    · rw [put_ne e]; exact h.g j hj
  · by_cases e : j = 1 - i
    · subst e; rw [put_same]; exact h.len i hi
    · rw [put_ne e]; exact h.len j hj
end K16

set_option Elab.async false
set_option linter.all false
set_option maxRecDepth 100000
set_option maxHeartbeats 8000000
set_option pp.maxSteps 1500
namespace K16
open PySem L2 DL
theorem St.lg {C : Addr} {M : Mp} {f : Nat → Addr} {rs : Nat → List D} {n i : Nat} (h : St C M f rs n) (hi : i < 2) : Lg C M (f (2 + i)) (f (4 + i)) (rs i) := ⟨h.x i hi, h.l i hi⟩
theorem loop4_ok {A : Ad} (hA : AdOk A) {Dd : DEnds} {ns : List Int} {M : Mp} {b : Addr} {f : Nat → Addr} {i n : Nat} (hi : i < 2) (hn : n ≤ 10000) {ss : List Str} (hss : NmsD ss) {j cp : D} {m : Nat} (hm : m < 500000)
    (nx : ∀ M' rs c8 c9 c10 c11 c12, St A.c_Log M' f rs n → Bag M' b (m + 300) → Dd.nx [some (.sq (ns.map D.int)), some (.ref (f 0)), some (.ref (f 1)), some j, some (.ref b), some cp, some (.int (i : Nat)), some (.lst (ss.map D.str)), c8, c9, c10, c11, c12] M') :
    ∀ (xs : List D) (rs : Nat → List D) (c8 c9 c10 c11 c12 : Option D), St A.c_Log M f rs n → xs.length ≤ 4 → (∀ k, k < 2 → (rs k).length + xs.length ≤ n) → Bag M b m → dLoop (gdName 8) (b2_law A) .data xs Dd [some (.sq (ns.map D.int)), some (.ref (f 0)), some (.ref (f 1)), some j, some (.ref b), some cp, some (.int (i : Nat)), some (.lst (ss.map D.str)), c8, c9, c10, c11, c12] M := by
  intro xs rs c8 c9 c10 c11 c12 st hx hl hb
  refine loop_rec (fun rest δ M' => ∃ rs c8 c9 c10 c11 c12, δ = [some (.sq (ns.map D.int)), some (.ref (f 0)), some (.ref (f 1)), some j, some (.ref b), some cp, some (.int (i : Nat)), some (.lst (ss.map D.str)), c8, c9, c10, c11, c12] ∧ St A.c_Log M' f rs n ∧ rest.length ≤ 4 ∧ (∀ k, k < 2 → (rs k).length + rest.length ≤ n) ∧ Bag M' b (m + 70 * (4 - rest.length))) ?_ ?_ _ _ _ ⟨rs, _, _, _, _, _, rfl, st, hx, hl, hb.mono (by omega)⟩
  · rintro δ M' ⟨rs, c8, c9, c10, c11, c12, rfl, st, _, _, hb⟩
    exact nx _ _ _ _ _ _ _ st (hb.mono (by rw [List.length_nil]; omega))
  · rintro x rest δ M' N ⟨rs, c8, c9, c10, c11, c12, rfl, st, hx, hl, hb⟩ h
    rw [List.length_cons] at hx hl hb
    have hli := hl i hi
    refine ⟨_, rfl, _, rfl, b, ss, _, rfl, hb, by omega, hss, fun M1 w e1 hb1 gw => ?_⟩
    have st1 := st.but hb e1
    obtain ⟨g, g0, g1, _, g3, gq⟩ := good_ok (te := dOp dIx (dVar 2) (dVar 6)) (δ := [some (.sq (ns.map D.int)), some (.ref (f 0)), some (.ref (f 1)), some j, some (.ref b), some cp, some (.int (i : Nat)), some (.lst (ss.map D.str)), some x, some w, c10, c11, c12]) (E := fun c fo M' => Dd.ex c fo [some (.sq (ns.map D.int)), some (.ref (f 0)), some (.ref (f 1)), some j, some (.ref b), some cp, some (.int (i : Nat)), some (.lst (ss.map D.str)), some x, some w, c10, c11, c12] M') (fun Q q => ⟨_, rfl, _, rfl, _, st1.R, _, two_at f 6 hi, q⟩) (st1.r i hi) (st1.g i hi)
    refine gq _ ?_
    clear hb
    (repeat (first | refine ⟨_, rfl, ?_⟩ | refine ⟨Nat.le_of_ble_eq_true rfl, ?_⟩ | refine ⟨rfl, ?_⟩ | refine ⟨_, asm (by assumption), ?_⟩ | refine ⟨asm (by assumption), ?_⟩ | refine ⟨List.mem_cons_self, ?_⟩ | refine ⟨_, updM_same, ?_⟩ | refine ⟨(by decide), ?_⟩ | refine ⟨(by show (0 : Int) < _; decide), ?_⟩)); refine ⟨_, _, _, rfl, (by assumption), (by omega), (by decide), (by decide), fun M2 t2 e2 hb2 a2 c2 => ?_⟩
    refine ⟨(Nat.le_of_ble_eq_true rfl), ?_⟩
    (repeat (first | refine ⟨_, rfl, ?_⟩ | refine ⟨Nat.le_of_ble_eq_true rfl, ?_⟩ | refine ⟨rfl, ?_⟩ | refine ⟨_, asm (by assumption), ?_⟩ | refine ⟨asm (by assumption), ?_⟩ | refine ⟨List.mem_cons_self, ?_⟩ | refine ⟨_, updM_same, ?_⟩ | refine ⟨(by decide), ?_⟩ | refine ⟨(by show (0 : Int) < _; decide), ?_⟩)); refine ⟨_, _, _, rfl, (by assumption), (by omega), (by decide), (by decide), fun M3 t3 e3 hb3 a3 c3 => ?_⟩
    obtain ⟨inc, k1, k2, k3⟩ : ∃ c : Int, atI [D.int 0, .int 1, .int t2] t3 = some (.int c) ∧ 0 ≤ c ∧ c ≤ 90 := by
      rcases (by omega : t3 = 0 ∨ t3 = 1 ∨ t3 = 2) with rfl | rfl | rfl <;> exact ⟨_, rfl, by omega, by omega⟩
    refine ⟨_, k1, ?_⟩
    have st3 := (st1.but hb1 e2).but hb2 e3
    have ok : addOut (rs i) (.int (g + inc)) w = .ok := by
      unfold addOut
      rw [show turnD (.int (g + inc)) = true from decide_eq_true (by omega), gw.ok, g3 inc k2]; rfl
    obtain ⟨s, ws, rfl⟩ := words_tup gw.ok
    refine ⟨_, rfl, _, rfl, _, st3.L, _, two_at f 2 hi, _, rfl, _, rfl, _, _, rs i, .int (g + inc), _, rfl, st3.lg hi, (st3.g i hi).t, by omega, trivial, gw.pl.dq (by decide) 3 (by decide), fun M4 e4 => ?_⟩
    rw [ok]
    obtain ⟨t, a1, a2, a3⟩ := told_sh (toldM .ok M4 (f (4 + i)) (rs i ++ [rowD (.int (g + inc)) (.tup (.str s :: ws))]))
    refine ⟨t, a1, a2, a3, (Nat.le_of_ble_eq_true rfl), t, a1, a2, a3, ?_⟩
    refine brF (by simp) ?_
    have st4 := st3.ext e4
    have hb4 := hb3.ext e4
    have ne : ∀ {a c : Nat}, a < 8 → c < 8 → a ≠ c → f a ≠ f c := fun ha hc k e => k (st.inj _ _ ha hc e)
    have r4 : toldM .ok M4 (f (4 + i)) (rs i ++ [rowD (.int (g + inc)) (.tup (.str s :: ws))]) (f (6 + i)) = some (.lst (rs i)) := (updM_ne (ne (by omega) (by omega) (by omega))).trans (st4.r i hi)
    have R4 : toldM .ok M4 (f (4 + i)) (rs i ++ [rowD (.int (g + inc)) (.tup (.str s :: ws))]) (f 1) = some (.lst [.ref (f 6), .ref (f 7)]) := (updM_ne (ne (by omega) (by omega) (by omega))).trans st4.R
    have wl : (.str s :: ws : List D).length ≤ 1000 := by
      rcases gw.pl with z | ⟨ys, e | e, l1, _⟩
      · exact z.elim
      · cases e; omega
      · cases e
    refine ⟨_, rfl, _, rfl, _, R4, _, two_at f 6 hi, ⟨_, r4⟩, _, rfl, (Nat.le_of_ble_eq_true rfl), _, rfl, ?_, _, r4, Nat.lt_of_le_of_lt (by omega : (rs i).length ≤ 10000) (by decide), ?_⟩
    · show 1 + (D.str s :: ws).length ≤ sizeLine
      exact Nat.le_trans (by omega : _ ≤ 1001) (by decide)
    · have st5 := st4.add hi (by omega : (rs i).length < n) (row := rowD (.int (g + inc)) (.tup (.str s :: ws))) ((st4.g i hi).more gw (by omega) (by omega) (by omega))
      have nb : ∀ c, c < 8 → b ≠ f c := fun c hc e => by
        obtain ⟨o, e1, z⟩ := st4.on c hc
        exact bag_ne hb4 e1 z e.symm
      refine h _ _ ⟨_, _, _, _, _, _, rfl, st5, by omega, fun k hk => ?_, (((hb4.upd (nb _ (by omega))).upd (nb _ (by omega)))).mono (by omega)⟩
      by_cases e : k = i
      · subst e
        rw [put_same, List.length_append, List.length_singleton]; omega
      · rw [put_ne e]; have := hl k hk; omega
theorem b1_ok {A : Ad} (hA : AdOk A) {Dd : DEnds} {ns : List Int} (hns : ns.length ≤ 63) {M : Mp} {f : Nat → Addr} {rs : Nat → List D} {j : Nat} (hj : j < 40) (st : St A.c_Log M f rs (4 * j)) {c4 c5 c6 c7 c8 c9 c10 c11 c12 : Option D}
    (nx : ∀ M' f rs c3 c4 c5 c6 c7 c8 c9 c10 c11 c12, St A.c_Log M' f rs (4 * (j + 1)) → Dd.nx [some (.sq (ns.map D.int)), some (.ref (f 0)), some (.ref (f 1)), c3, c4, c5, c6, c7, c8, c9, c10, c11, c12] M') :
    b1_law A Dd [some (.sq (ns.map D.int)), some (.ref (f 0)), some (.ref (f 1)), some (.int (j : Nat)), c4, c5, c6, c7, c8, c9, c10, c11, c12] M := by
  refine ⟨_, rfl, _, rfl, ns, _, rfl, by omega, by omega, hns, fun c => ?_⟩
  refine ⟨c, rfl, fun b M0 hb0 e0 hb => ?_⟩
  have st0 : St A.c_Log M0 f rs (4 * j) := st.keep fun i o hi e => e0 _ _ (ne_new e hb0) e
  (repeat (first | refine ⟨_, rfl, ?_⟩ | refine ⟨Nat.le_of_ble_eq_true rfl, ?_⟩ | refine ⟨rfl, ?_⟩ | refine ⟨_, asm (by assumption), ?_⟩ | refine ⟨asm (by assumption), ?_⟩ | refine ⟨List.mem_cons_self, ?_⟩ | refine ⟨_, updM_same, ?_⟩ | refine ⟨(by decide), ?_⟩ | refine ⟨(by show (0 : Int) < _; decide), ?_⟩)); refine ⟨_, _, _, rfl, (by assumption), (by omega), (by decide), (by decide), fun M1 t1 e1 hb1 a1 c1 => ?_⟩
  (repeat (first | refine ⟨_, rfl, ?_⟩ | refine ⟨Nat.le_of_ble_eq_true rfl, ?_⟩ | refine ⟨rfl, ?_⟩ | refine ⟨_, asm (by assumption), ?_⟩ | refine ⟨asm (by assumption), ?_⟩ | refine ⟨List.mem_cons_self, ?_⟩ | refine ⟨_, updM_same, ?_⟩ | refine ⟨(by decide), ?_⟩ | refine ⟨(by show (0 : Int) < _; decide), ?_⟩)); refine ⟨_, _, _, rfl, (by assumption), (by omega), (by decide), (by decide), fun M2 t2 e2 hb2 a2 c2 => ?_⟩
  obtain ⟨i, hi, rfl⟩ : ∃ i : Nat, i < 2 ∧ t2 = (i : Int) := ⟨t2.toNat, by omega, by omega⟩
  (repeat (first | refine ⟨_, rfl, ?_⟩ | refine ⟨Nat.le_of_ble_eq_true rfl, ?_⟩ | refine ⟨rfl, ?_⟩ | refine ⟨_, asm (by assumption), ?_⟩ | refine ⟨asm (by assumption), ?_⟩ | refine ⟨List.mem_cons_self, ?_⟩ | refine ⟨_, updM_same, ?_⟩ | refine ⟨(by decide), ?_⟩ | refine ⟨(by show (0 : Int) < _; decide), ?_⟩)); refine ⟨_, _, _, rfl, (by assumption), (by omega), (by decide), (by decide), fun M3 t3 e3 hb3 a3 c3 => ?_⟩
  refine ⟨b, 2 + t3, _, rfl, hb3, by decide, by omega, by omega, fun M4 ss e4 hb4 l4 nm nd => ?_⟩
  have hss : NmsD ss := ⟨by omega, by omega, nm, nd (by omega)⟩
  have st4 := (((st0.but hb e1).but hb1 e2).but hb2 e3).but hb3 e4
  clear hb hb1 hb2 hb3
  (repeat (first | refine ⟨_, rfl, ?_⟩ | refine ⟨Nat.le_of_ble_eq_true rfl, ?_⟩ | refine ⟨rfl, ?_⟩ | refine ⟨_, asm (by assumption), ?_⟩ | refine ⟨asm (by assumption), ?_⟩ | refine ⟨List.mem_cons_self, ?_⟩ | refine ⟨_, updM_same, ?_⟩ | refine ⟨(by decide), ?_⟩ | refine ⟨(by show (0 : Int) < _; decide), ?_⟩)); refine ⟨_, _, _, rfl, (by assumption), (by omega), (by decide), (by decide), fun M5 t5 e5 hb5 a5 c5 => ?_⟩
  refine ⟨⟨by omega, by omega⟩, ?_⟩
  refine loop4_ok hA (n := 4 * (j + 1)) hi (by omega) hss (m := 20) (by decide) (fun M6 rs c8 c9 c10 c11 c12 st6 hb6 => ?_) _ rs _ _ _ _ _ ((st4.but hb4 e5).mono (by omega)) (by rw [rng_len]; omega) (fun k hk => by rw [rng_len]; have := st4.len k hk; omega) (hb5.mono (by decide))
  clear st4 st0 hb4 hb5
  -- what is refused
  refine ⟨_, rfl, _, rfl, _, rfl, _, st6.L, _, two_at f 2 hi, _, rfl, _, rfl, _, st6.R, _, two_at f 6 hi, ?_⟩
  refine ⟨_, rfl, _, rfl, b, ss, _, rfl, hb6, by decide, hss, fun M7 w e7 hb7 gw => ?_⟩
  have st7 := st6.but hb6 e7
  have l7 := st7.len i hi
  refine ⟨b, _, _, _, rs i, w, _, rfl, hb7, by decide, st7.lg hi, st7.r i hi, st7.g i hi, by omega, gw, fun M8 e8 hb8 => ?_⟩
  have st8 := st7.but hb7 e8
  -- both stand
  have last : ∀ {M9 : Mp} {f rs} {m : Nat} {c3 c4 c5 c6 c7 c8 c9 c10 c11 c12 : Option D}, c4 = some (.ref b) → St A.c_Log M9 f rs (4 * (j + 1)) → Bag M9 b m → m ≤ 1000 → k4_law A Dd [some (.sq (ns.map D.int)), some (.ref (f 0)), some (.ref (f 1)), c3, c4, c5, c6, c7, c8, c9, c10, c11, c12] M9 := by
    intro M9 f rs m c3 c4 c5 c6 c7 c8 c9 c10 c11 c12 hc st hb hm
    subst hc
    refine ⟨_, rfl, _, rfl, _, _, ⟨st.L, st.R⟩, ?_⟩
    have l0 := st.len 0 (by decide)
    have l1 := st.len 1 (by decide)
    refine ⟨⟨st.L, st.R⟩, rfl, rfl, _, rfl, _, rfl, _, rfl, b, _, _, _, rs 0, _, rfl, hb, by omega, st.lg (i := 0) (by decide), st.r 0 (by decide), st.g 0 (by decide), by omega, fun M10 e10 hb10 => ?_⟩
    have st2 := st.but hb e10
    refine ⟨⟨st2.L, st2.R⟩, rfl, rfl, _, rfl, _, rfl, _, rfl, b, _, _, _, rs 1, _, rfl, hb10, by omega, st2.lg (i := 1) (by decide), st2.r 1 (by decide), st2.g 1 (by decide), by omega, fun M11 e11 hb11 => ?_⟩
    have st3 := st2.but hb10 e11
    exact ⟨⟨st3.L, st3.R⟩, nx _ _ _ _ _ _ _ _ _ _ _ _ _ st3⟩
  refine ⟨_, rfl, ?_⟩
  refine br2 (fun e => ?_) (fun e => last rfl st8 hb8 (by decide))
  refine ⟨_, rfl, _, rfl, _, st8.L, _, two_at f 2 hi, _, _, st8.x i hi, rfl, rfl, rfl, rfl, _, _, rs i, rfl, st8.lg hi, fun M9 y k e9 hy hk yk lg9 => ?_⟩
  have st9 := st8.ext e9
  refine ⟨_, rfl, _, rfl, _, st9.R, _, two_at f 6 hi, _, st9.r i hi, fun p hp => ?_⟩
  have x9 : Ext M9 (updM M9 p (.lst (rs i))) := Ext.new hp
  have fp : updM M9 p (.lst (rs i)) p = some (.lst (rs i)) := updM_same
  have yp := ne_new lg9.obj hp
  have kp := ne_new lg9.rw_ hp
  have hp8 : M8 p = none := e9.none hp
  have st10 := st9.ext x9
  have lg10 := lg9.ext x9
  have hb10 := (hb8.ext e9).ext x9
  generalize updM M9 p (.lst (rs i)) = M10 at *
  refine ⟨(Nat.le_of_ble_eq_true rfl), rfl, ?_⟩
  have ne : ∀ {a c : Nat}, a < 8 → c < 8 → a ≠ c → f a ≠ f c := fun ha hc k e => k (st.inj _ _ ha hc e)
  have ny : ∀ a, a < 8 → f a ≠ y := fun a ha e => by
    obtain ⟨o, e1, _⟩ := st8.on a ha
    rw [e, hy] at e1; cases e1
  have nk : ∀ a, a < 8 → f a ≠ k := fun a ha e => by
    obtain ⟨o, e1, _⟩ := st8.on a ha
    rw [e, hk] at e1; cases e1
  have np : ∀ a, a < 8 → f a ≠ p := fun a ha e => by
    obtain ⟨o, e1, _⟩ := st8.on a ha
    rw [e, hp8] at e1; cases e1
  have nb : ∀ c, c < 8 → b ≠ f c := fun c hc e => by
    obtain ⟨o, e1, z⟩ := st10.on c hc
    exact bag_ne hb10 e1 z e.symm
  rcases (by omega : i = 0 ∨ i = 1) with rfl | rfl
  · refine ⟨_, rfl, _, rfl, _, st10.L, 1, rfl, ?_⟩
    have R' : updM M10 (f 0) (.lst [.ref (f 2), .ref y]) (f 1) = _ := (updM_ne (ne (by decide) (by decide) (by decide))).trans st10.R
    refine ⟨_, rfl, _, rfl, _, R', 1, rfl, rfl, ?_⟩
    have off : ∀ {q : Addr} {o : MO}, q ≠ f 0 → q ≠ f 1 → M10 q = some o → updM (updM M10 (f 0) (.lst [.ref (f 2), .ref y])) (f 1) (.lst [.ref (f 6), .ref p]) q = some o := fun a b e => by rw [updM_ne b, updM_ne a]; exact e
    have st11 := st8.copy (M' := updM (updM M10 (f 0) (.lst [.ref (f 2), .ref y])) (f 1) (.lst [.ref (f 6), .ref p])) (i := 0) (by decide) hy hk hp8 yk yp kp (fun c o h2 h8 e => off (ne h8 (by decide) (by omega)) (ne h8 (by decide) (by omega)) (x9 _ _ (e9 _ _ e)))
      ((updM_ne (ne (by decide) (by decide) (by decide))).trans updM_same) updM_same (off (ny 0 (by decide)).symm (ny 1 (by decide)).symm lg10.obj) (off (nk 0 (by decide)).symm (nk 1 (by decide)).symm lg10.rw_) (off (np 0 (by decide)).symm (np 1 (by decide)).symm fp)
    exact last (f := put (put (put f 3 y) 5 k) 7 p) rfl st11 ((hb10.upd (nb 0 (by decide))).upd (nb 1 (by decide))) (by decide)
  · refine ⟨_, rfl, _, rfl, _, st10.L, 0, rfl, ?_⟩
    have R' : updM M10 (f 0) (.lst [.ref y, .ref (f 3)]) (f 1) = _ := (updM_ne (ne (by decide) (by decide) (by decide))).trans st10.R
    refine ⟨_, rfl, _, rfl, _, R', 0, rfl, rfl, ?_⟩
    have off : ∀ {q : Addr} {o : MO}, q ≠ f 0 → q ≠ f 1 → M10 q = some o → updM (updM M10 (f 0) (.lst [.ref y, .ref (f 3)])) (f 1) (.lst [.ref p, .ref (f 7)]) q = some o := fun a b e => by rw [updM_ne b, updM_ne a]; exact e
    have st11 := st8.copy (M' := updM (updM M10 (f 0) (.lst [.ref y, .ref (f 3)])) (f 1) (.lst [.ref p, .ref (f 7)])) (i := 1) (by decide) hy hk hp8 yk yp kp (fun c o h2 h8 e => off (ne h8 (by decide) (by omega)) (ne h8 (by decide) (by omega)) (x9 _ _ (e9 _ _ e)))
      ((updM_ne (ne (by decide) (by decide) (by decide))).trans updM_same) updM_same (off (ny 0 (by decide)).symm (ny 1 (by decide)).symm lg10.obj) (off (nk 0 (by decide)).symm (nk 1 (by decide)).symm lg10.rw_) (off (np 0 (by decide)).symm (np 1 (by decide)).symm fp)
    exact last (f := put (put (put f 2 y) 4 k) 6 p) rfl st11 ((hb10.upd (nb 0 (by decide))).upd (nb 1 (by decide))) (by decide)
end K16

set_option Elab.async false
set_option linter.all false
set_option maxRecDepth 100000
set_option maxHeartbeats 8000000
set_option pp.maxSteps 1500
namespace K16
open PySem L2 DL
def f8 (L R x0 x1 l0 l1 r0 r1 : Addr) : Nat → Addr
  | 0 => L | 1 => R | 2 => x0 | 3 => x1 | 4 => l0 | 5 => l1 | 6 => r0 | _ => r1
theorem rd_law (A : Ad) (hA : AdOk A) : ∀ ds M Qd Ed, spLaw ds M Qd Ed → t_law A (ends Qd Ed) (dstart N_law ds) M := by
  intro ds M Qd Ed h
  obtain ⟨ns, rfl, hns, fq⟩ := h
  refine ⟨rfl, rfl, fun x0 h0 => ⟨x0, rfl, updM_same, fun l0 hl0 => ⟨rfl, ?_⟩⟩⟩
  have n1 : x0 ≠ l0 := fun e => by rw [← e, updM_same] at hl0; cases hl0
  have A1 : updM (updM (updM M x0 (.ins A.c_Log [])) l0 (.lst [])) x0 (.ins A.c_Log [("kept_rows", .ref l0)]) x0 = some (.ins A.c_Log [("kept_rows", .ref l0)]) := updM_same
  have B1 : updM (updM (updM M x0 (.ins A.c_Log [])) l0 (.lst [])) x0 (.ins A.c_Log [("kept_rows", .ref l0)]) l0 = some (.lst []) := by rw [updM_ne n1.symm]; exact updM_same
  generalize updM (updM (updM M x0 (.ins A.c_Log [])) l0 (.lst [])) x0 (.ins A.c_Log [("kept_rows", .ref l0)]) = M1 at *
  refine ⟨rfl, rfl, fun x1 h1 => ⟨x1, rfl, updM_same, fun l1 hl1 => ⟨rfl, ?_⟩⟩⟩
  have n2 : x1 ≠ l1 := fun e => by rw [← e, updM_same] at hl1; cases hl1
  have hl1' : M1 l1 = none := by rw [updM_ne n2.symm] at hl1; exact hl1
  have e2 : Ext M1 (updM (updM (updM M1 x1 (.ins A.c_Log [])) l1 (.lst [])) x1 (.ins A.c_Log [("kept_rows", .ref l1)])) := ((Ext.new h1).upd hl1').upd h1
  have A2 : updM (updM (updM M1 x1 (.ins A.c_Log [])) l1 (.lst [])) x1 (.ins A.c_Log [("kept_rows", .ref l1)]) x1 = some (.ins A.c_Log [("kept_rows", .ref l1)]) := updM_same
  have B2 : updM (updM (updM M1 x1 (.ins A.c_Log [])) l1 (.lst [])) x1 (.ins A.c_Log [("kept_rows", .ref l1)]) l1 = some (.lst []) := by rw [updM_ne n2.symm]; exact updM_same
  have n3 := ne_new A1 h1
  have n4 := ne_new B1 h1
  have n5 := ne_new A1 hl1'
  have n6 := ne_new B1 hl1'
  have A1 := e2 _ _ A1
  have B1 := e2 _ _ B1
  generalize updM (updM (updM M1 x1 (.ins A.c_Log [])) l1 (.lst [])) x1 (.ins A.c_Log [("kept_rows", .ref l1)]) = M2 at *
  refine ⟨(Nat.le_of_ble_eq_true rfl), fun L hL => ?_⟩
  have m1 := ne_new A1 hL
  have m2 := ne_new B1 hL
  have m3 := ne_new A2 hL
  have m4 := ne_new B2 hL
  have e3 : Ext M2 (updM M2 L (.lst [.ref x0, .ref x1])) := Ext.new hL
  have C3 : updM M2 L (.lst [.ref x0, .ref x1]) L = some (.lst [.ref x0, .ref x1]) := updM_same
  generalize updM M2 L (.lst [.ref x0, .ref x1]) = M3 at *
  refine ⟨(Nat.le_of_ble_eq_true rfl), fun r0 hr0 => ?_⟩
  have o1 := ne_new (e3 _ _ A1) hr0
  have o2 := ne_new (e3 _ _ B1) hr0
  have o3 := ne_new (e3 _ _ A2) hr0
  have o4 := ne_new (e3 _ _ B2) hr0
  have o5 := ne_new C3 hr0
  have e4 : Ext M3 (updM M3 r0 (.lst [])) := Ext.new hr0
  have C4 : updM M3 r0 (.lst []) r0 = some (.lst []) := updM_same
  generalize updM M3 r0 (.lst []) = M4 at *
  refine ⟨(Nat.le_of_ble_eq_true rfl), fun r1 hr1 => ?_⟩
  have p1 := ne_new (e4 _ _ (e3 _ _ A1)) hr1
  have p2 := ne_new (e4 _ _ (e3 _ _ B1)) hr1
  have p3 := ne_new (e4 _ _ (e3 _ _ A2)) hr1
  have p4 := ne_new (e4 _ _ (e3 _ _ B2)) hr1
  have p5 := ne_new (e4 _ _ C3) hr1
  have p6 := ne_new C4 hr1
  have e5 : Ext M4 (updM M4 r1 (.lst [])) := Ext.new hr1
  have C5 : updM M4 r1 (.lst []) r1 = some (.lst []) := updM_same
  generalize updM M4 r1 (.lst []) = M5 at *
  refine ⟨(Nat.le_of_ble_eq_true rfl), fun R hR => ?_⟩
  have y5 := (e3.trans e4).trans e5
  have q1 := ne_new (y5 _ _ A1) hR
  have q2 := ne_new (y5 _ _ B1) hR
  have q3 := ne_new (y5 _ _ A2) hR
  have q4 := ne_new (y5 _ _ B2) hR
  have q5 := ne_new ((e4.trans e5) _ _ C3) hR
  have q6 := ne_new (e5 _ _ C4) hR
  have q7 := ne_new C5 hR
  have e6 : Ext M5 (updM M5 R (.lst [.ref r0, .ref r1])) := Ext.new hR
  have C6 : updM M5 R (.lst [.ref r0, .ref r1]) R = some (.lst [.ref r0, .ref r1]) := updM_same
  generalize updM M5 R (.lst [.ref r0, .ref r1]) = M6 at *
  have z := y5.trans e6
  have st : St A.c_Log M6 (f8 L R x0 x1 l0 l1 r0 r1) (fun _ => []) 0 := by
    refine ⟨fun i j hi hj e => ?_, ((e4.trans e5).trans e6) _ _ C3, C6, fun i hi => ?_, fun i hi => ?_, fun i hi => ?_, fun _ _ _ h => (nomatch h), fun _ _ => Nat.le_refl _⟩
    · rcases (by omega : i = 0 ∨ i = 1 ∨ i = 2 ∨ i = 3 ∨ i = 4 ∨ i = 5 ∨ i = 6 ∨ i = 7) with rfl | rfl | rfl | rfl | rfl | rfl | rfl | rfl <;>
      rcases (by omega : j = 0 ∨ j = 1 ∨ j = 2 ∨ j = 3 ∨ j = 4 ∨ j = 5 ∨ j = 6 ∨ j = 7) with rfl | rfl | rfl | rfl | rfl | rfl | rfl | rfl <;>
      simp only [f8] at e <;> first | rfl | (subst e; contradiction)
    · rcases (by omega : i = 0 ∨ i = 1) with rfl | rfl
      · exact z _ _ A1
      · exact z _ _ A2
    · rcases (by omega : i = 0 ∨ i = 1) with rfl | rfl
      · exact z _ _ B1
      · exact z _ _ B2
    · rcases (by omega : i = 0 ∨ i = 1) with rfl | rfl
      · exact (e5.trans e6) _ _ C4
      · exact e6 _ _ C5
  refine law_forJ 40 (fun j δ M => ∃ f rs c3 c4 c5 c6 c7 c8 c9 c10 c11 c12, δ = [some (.sq (ns.map D.int)), some (.ref (f 0)), some (.ref (f 1)), c3, c4, c5, c6, c7, c8, c9, c10, c11, c12] ∧ St A.c_Log M f rs (4 * j)) (by decide) (by decide) (by decide) (by decide) hns ?_ (fun _ _ M _ => fq M) rfl ⟨f8 L R x0 x1 l0 l1 r0 r1, _, _, _, _, _, _, _, _, _, _, _, rfl, st⟩
  rintro j δ M7 N ⟨f, rs, c3, c4, c5, c6, c7, c8, c9, c10, c11, c12, rfl, st7⟩ hj nx
  exact b1_ok hA hns hj st7 fun M8 f rs c3 c4 c5 c6 c7 c8 c9 c10 c11 c12 st8 => nx _ _ ⟨f, rs, c3, c4, c5, c6, c7, c8, c9, c10, c11, c12, rfl, st8⟩
end K16

set_option Elab.async false
set_option linter.all false
set_option maxRecDepth 100000
set_option maxHeartbeats 4000000
namespace K16
open PySem L2 DL
def topS (i : Nat) : Stmt := PySem.Challenge.pw_drowsetree_k16_logs_kept.main.body.getD i (.Pass ⟨0, 0, 0, 0⟩)
structure Txt (P : Program) (w : World) (K : PySem.W.Frag) (mg : Str → Option Value) (base : Heap) (A : Ad) : Prop where
  xm : A.xm = PySem.W.exmAny K
  cl_Log : Cls K A.c_Log
  na_Log_kept_rows : NoAttr K A.c_Log "kept_rows"
  b_max : mg "max" = none
  b_len : mg "len" = none
  b_range : mg "range" = none
  b_tuple : mg "tuple" = none
  b_int : mg "int" = none
  b_isinstance : mg "isinstance" = none
  b_bool : mg "bool" = none
  b_str : mg "str" = none
  g_MOST_LETTERS : ∃ t, mg "MOST_LETTERS" = some (.int 8 t)
  b_all : mg "all" = none
  g_LETTERS : ∃ t, mg "LETTERS" = some (.str "abcdefghijklmnopqrstuvwxyz" t)
  x_NoNumber : ExcT P w K mg base 1 "NoNumber" "found" A.c_NoNumber
  x_NoName : ExcT P w K mg base 1 "NoName" "found" A.c_NoName
  g_MOST_BURN : ∃ t, mg "MOST_BURN" = some (.int 100 t)
  g_MOST_STEPS : ∃ t, mg "MOST_STEPS" = some (.int 5 t)
  g_MOST_REST : ∃ t, mg "MOST_REST" = some (.int 9 t)
  cl_Device : Cls K A.c_Device
  na_Device_whole : NoAttr K A.c_Device "whole"
  n_NoName : mg "NoName" = some (.ref A.c_NoName)
  n_NoNumber : mg "NoNumber" = some (.ref A.c_NoNumber)
  g_MOST_LINKS : ∃ t, mg "MOST_LINKS" = some (.int 16 t)
  g_BELLS : ∃ p, mg "BELLS" = some (.ref p) ∧ ∀ I, L2.SqT K I p (List.map V.str ["unheard", "noted", "broke", "woke"])
  g_ALL_DEEDS : ∃ p, mg "ALL_DEEDS" = some (.ref p) ∧ ∀ I, L2.SqT K I p (List.map V.str ["tick", "sleep", "rise"])
  g_OWN_DEEDS : ∃ p, mg "OWN_DEEDS" = some (.ref p) ∧ ∀ I, L2.SqT K I p (List.map V.str ["gain", "release"])
  g_ENDS : ∃ p, mg "ENDS" = some (.ref p) ∧ ∀ I, L2.SqT K I p (List.map V.str ["done", "busy", "broken"])
  g_FORMS : ∃ q, mg "FORMS" = some (.ref q) ∧ MFun K w q (mf_FORMS A)
  g_NAMED : ∃ p, mg "NAMED" = some (.ref p) ∧ ∀ I, L2.SqT K I p (List.map V.str ["waking", "wake", "falling", "doze", "stays", "off", "use", "reset", "unplug", "ready", "sleep", "late", "still", "unready", "unsleep", "unlate", "unstill"])
  x_NoLog : ExcT P w K mg base 1 "NoLog" "found" A.c_NoLog
  n_WakeError : mg "WakeError" = some (.ref A.c_WakeError)
  n_StateError : mg "StateError" = some (.ref A.c_StateError)
  n_NoLog : mg "NoLog" = some (.ref A.c_NoLog)
  xf_NoLog : XfC K A.c_NoLog
  xn_NoLog_found : PySem.W.findIn K (.ref A.c_NoLog) "found" = some none
  xf_NoNumber : XfC K A.c_NoNumber
  xn_NoNumber_found : PySem.W.findIn K (.ref A.c_NoNumber) "found" = some none
  b_list : mg "list" = none
  b_repr : mg "repr" = none
  g_MOST_TOLD : ∃ t, mg "MOST_TOLD" = some (.int 1000 t)
  b_min : mg "min" = none
  b_zip : mg "zip" = none
section
variable {P : Program} {w : World} {K : PySem.W.Frag} {mg : Str → Option Value} {base : Heap} {A : Ad}
abbrev s_NoNumber_init : Stmt := inClass (topS 4) 0
theorem sc_NoNumber_init : FnScope ["self", "found"] ["self", "found"] (defScope s_NoNumber_init) := ⟨rfl, rfl, rfl, by decide +kernel, rfl, by decide +kernel, by decide +kernel⟩
theorem init_NoNumber {C f : Addr} {fd : FuncData} (F : L2.Fun K "__init__" "NoNumber.__init__" s_NoNumber_init f fd) (oe : OexC K C) (no : PySem.W.findIn K (.ref C) "found" = some none) : FnG P w K mg base (L2.CX P w) 1 f fd ["self", "found"] (spI C "found") := by
  obtain ⟨oc, od, kV, doc, pm, an, cdv, ct, osl, rfl, lk, hcd⟩ := F.ex
  refine fng_of lk hcd sc_NoNumber_init (fun vs H Q E h => ?_) fun A l s H vs Q E ng rm h => ?_
  · obtain ⟨a, v, rfl, _⟩ := h
    rfl
  · obtain ⟨a, v, rfl, ha, q⟩ := h
    exact ⟨_, pss_one (ps_ost (pv 0) (pv 1)), _, rfl, _, rfl, a, C, rfl, oe, no, Or.inl ⟨ha, fun dx hd ne => q dx hd ne⟩⟩
abbrev s_NoName_init : Stmt := inClass (topS 3) 0
theorem sc_NoName_init : FnScope ["self", "found"] ["self", "found"] (defScope s_NoName_init) := ⟨rfl, rfl, rfl, by decide +kernel, rfl, by decide +kernel, by decide +kernel⟩
theorem init_NoName {C f : Addr} {fd : FuncData} (F : L2.Fun K "__init__" "NoName.__init__" s_NoName_init f fd) (oe : OexC K C) (no : PySem.W.findIn K (.ref C) "found" = some none) : FnG P w K mg base (L2.CX P w) 1 f fd ["self", "found"] (spI C "found") := by
  obtain ⟨oc, od, kV, doc, pm, an, cdv, ct, osl, rfl, lk, hcd⟩ := F.ex
  refine fng_of lk hcd sc_NoName_init (fun vs H Q E h => ?_) fun A l s H vs Q E ng rm h => ?_
  · obtain ⟨a, v, rfl, _⟩ := h
    rfl
  · obtain ⟨a, v, rfl, ha, q⟩ := h
    exact ⟨_, pss_one (ps_ost (pv 0) (pv 1)), _, rfl, _, rfl, a, C, rfl, oe, no, Or.inl ⟨ha, fun dx hd ne => q dx hd ne⟩⟩
abbrev s_NoLog_init : Stmt := inClass (topS 5) 0
theorem sc_NoLog_init : FnScope ["self", "found"] ["self", "found"] (defScope s_NoLog_init) := ⟨rfl, rfl, rfl, by decide +kernel, rfl, by decide +kernel, by decide +kernel⟩
theorem init_NoLog {C f : Addr} {fd : FuncData} (F : L2.Fun K "__init__" "NoLog.__init__" s_NoLog_init f fd) (oe : OexC K C) (no : PySem.W.findIn K (.ref C) "found" = some none) : FnG P w K mg base (L2.CX P w) 1 f fd ["self", "found"] (spI C "found") := by
  obtain ⟨oc, od, kV, doc, pm, an, cdv, ct, osl, rfl, lk, hcd⟩ := F.ex
  refine fng_of lk hcd sc_NoLog_init (fun vs H Q E h => ?_) fun A l s H vs Q E ng rm h => ?_
  · obtain ⟨a, v, rfl, _⟩ := h
    rfl
  · obtain ⟨a, v, rfl, ha, q⟩ := h
    exact ⟨_, pss_one (ps_ost (pv 0) (pv 1)), _, rfl, _, rfl, a, C, rfl, oe, no, Or.inl ⟨ha, fun dx hd ne => q dx hd ne⟩⟩
abbrev s_m_Log_init : Stmt := inClass (topS 44) 0
theorem sc_m_Log_init : FnScope N_m_Log_init ["self"] (defScope s_m_Log_init) := ⟨rfl, rfl, rfl, by decide +kernel, rfl, by decide +kernel, by decide +kernel⟩
theorem kb_m_Log_init_0 {f : Addr} {fd : FuncData} (F : FunD K "__init__" "Log.__init__" (defArgs s_m_Log_init) (defBody s_m_Log_init) (defScope s_m_Log_init) [] [] f fd) : KBd K fd ["self"] 1 [] plainG := by
  obtain ⟨oc, od, dV, kV, doc, pm, an, cdv, ct, osl, rfl, lk, hcd, hD, hK⟩ := F.ex
  obtain ⟨_, rfl⟩ | ⟨e, _⟩ := hD
  rotate_left
  · exact absurd rfl e
  exact kb_plain rfl fun us hl => match us, hl with | [_], _ => rfl
theorem ok_m_Log_init {f : Addr} {fd : FuncData} (hA : AdOk A) (F : FunD K "__init__" "Log.__init__" (defArgs s_m_Log_init) (defBody s_m_Log_init) (defScope s_m_Log_init) [] [] f fd) (T : Txt P w K mg base A) : FnA P w K mg base 1 f ["self"] (sp_m_Log_init A) [⟨1, [], plainG⟩] := by
  have nd := (sc_m_Log_init).nd
  refine dfunA (ps := ["self"]) F (pats_cons (kb_m_Log_init_0 F) (pats_nil)) sc_m_Log_init (len_m_Log_init A) fun cdv Ar l s H E g rm => ⟨t_m_Log_init A, ?_, rd_m_Log_init A hA⟩
  exact s_one (s_fld (fc_cons T.cl_Log T.na_Log_kept_rows fc_nil) (d_var 0) (d_lstM (a_nil)))
abbrev s__law_box : Stmt := topS 47
theorem sc__law_box : FnScope N__law_box ["_law_cell_here"] (defScope s__law_box) := ⟨rfl, rfl, rfl, by decide +kernel, rfl, by decide +kernel, by decide +kernel⟩
theorem kb__law_box_0 {f : Addr} {fd : FuncData} (F : FunD K "_law_box" "_law_box" (defArgs s__law_box) (defBody s__law_box) (defScope s__law_box) [] [] f fd) : KBd K fd ["_law_cell_here"] 1 [] plainG := by
  obtain ⟨oc, od, dV, kV, doc, pm, an, cdv, ct, osl, rfl, lk, hcd, hD, hK⟩ := F.ex
  obtain ⟨_, rfl⟩ | ⟨e, _⟩ := hD
  rotate_left
  · exact absurd rfl e
  exact kb_plain rfl fun us hl => match us, hl with | [_], _ => rfl
theorem ok__law_box {f : Addr} {fd : FuncData} (hA : AdOk A) (F : FunD K "_law_box" "_law_box" (defArgs s__law_box) (defBody s__law_box) (defScope s__law_box) [] [] f fd) (T : Txt P w K mg base A) : FnA P w K mg base 1 f ["_law_cell_here"] (sp__law_box A) [⟨1, [], plainG⟩] := by
  have nd := (sc__law_box).nd
  refine dfunA (ps := ["_law_cell_here"]) F (pats_cons (kb__law_box_0 F) (pats_nil)) sc__law_box (len__law_box A) fun cdv Ar l s H E g rm => ⟨t__law_box A, ?_, rd__law_box A hA⟩
  exact s_one (s_ret (d_lstM (a_cons (d_max g T.b_max (a_cons (d_int) (a_cons (d_sub (d_var 0) (d_pow (d_int) (d_int))) (a_nil)))) (a_cons (d_mod (d_var 0) (d_int)) (a_cons (d_int) (a_nil))))))
abbrev s__law_cell : Stmt := topS 46
theorem sc__law_cell : FnScope N__law_cell ["_law_script", "_law_k"] (defScope s__law_cell) := ⟨rfl, rfl, rfl, by decide +kernel, rfl, by decide +kernel, by decide +kernel⟩
theorem kb__law_cell_0 {f : Addr} {fd : FuncData} (F : FunD K "_law_cell" "_law_cell" (defArgs s__law_cell) (defBody s__law_cell) (defScope s__law_cell) [] [] f fd) : KBd K fd ["_law_script", "_law_k"] 2 [] plainG := by
  obtain ⟨oc, od, dV, kV, doc, pm, an, cdv, ct, osl, rfl, lk, hcd, hD, hK⟩ := F.ex
  obtain ⟨_, rfl⟩ | ⟨e, _⟩ := hD
  rotate_left
  · exact absurd rfl e
  exact kb_plain rfl fun us hl => match us, hl with | [_, _], _ => rfl
theorem ok__law_cell {f : Addr} {fd : FuncData} (hA : AdOk A) (F : FunD K "_law_cell" "_law_cell" (defArgs s__law_cell) (defBody s__law_cell) (defScope s__law_cell) [] [] f fd) (T : Txt P w K mg base A) : FnA P w K mg base 1 f ["_law_script", "_law_k"] (sp__law_cell A) [⟨2, [], plainG⟩] := by
  have nd := (sc__law_cell).nd
  refine dfunA (ps := ["_law_script", "_law_k"]) F (pats_cons (kb__law_cell_0 F) (pats_nil)) sc__law_cell (len__law_cell A) fun cdv Ar l s H E g rm => ⟨t__law_cell A, ?_, rd__law_cell A hA⟩
  exact s_cons (s_if (t_cmp op_lt lr_lt (d_var 1) (d_len T.b_len (a_cons (d_var 0) (a_nil))) (nomark _)) (s_one (s_ret (d_sub_ix (d_var 0) (d_var 1)))) (s_nil))
    (s_one (s_ret (d_add5 (d_mul (d_int) (d_var 1)) (d_int))))
abbrev s__law_take : Stmt := topS 48
theorem sc__law_take : FnScope N__law_take ["_law_box_here", "_law_wide"] (defScope s__law_take) := ⟨rfl, rfl, rfl, by decide +kernel, rfl, by decide +kernel, by decide +kernel⟩
theorem kb__law_take_0 {f : Addr} {fd : FuncData} (F : FunD K "_law_take" "_law_take" (defArgs s__law_take) (defBody s__law_take) (defScope s__law_take) [] [] f fd) : KBd K fd ["_law_box_here", "_law_wide"] 2 [] plainG := by
  obtain ⟨oc, od, dV, kV, doc, pm, an, cdv, ct, osl, rfl, lk, hcd, hD, hK⟩ := F.ex
  obtain ⟨_, rfl⟩ | ⟨e, _⟩ := hD
  rotate_left
  · exact absurd rfl e
  exact kb_plain rfl fun us hl => match us, hl with | [_, _], _ => rfl
theorem ok__law_take {f : Addr} {fd : FuncData} (hA : AdOk A) (F : FunD K "_law_take" "_law_take" (defArgs s__law_take) (defBody s__law_take) (defScope s__law_take) [] [] f fd) (T : Txt P w K mg base A) : FnA P w K mg base 1 f ["_law_box_here", "_law_wide"] (sp__law_take A) [⟨2, [], plainG⟩] := by
  have nd := (sc__law_take).nd
  refine dfunA (ps := ["_law_box_here", "_law_wide"]) F (pats_cons (kb__law_take_0 F) (pats_nil)) sc__law_take (len__law_take A) fun cdv Ar l s H E g rm => ⟨t__law_take A, ?_, rd__law_take A hA⟩
  exact s_cons (s_if (t_cmp op_gt lr_gt (d_sub_ix (d_var 0) (d_int)) (d_int) (nomark _)) (s_cons (s_set 2 nd (d_mod (d_sub_ix (d_var 0) (d_int)) (d_var 1)))
    (s_cons (s_asg (d_div (d_sub_ix (d_var 0) (d_int)) (d_var 1)) (g_subL (d_var 0) (d_int)))
    (s_one (s_ret (d_var 2))))) (s_nil))
    (s_cons (s_asg (d_add5 (d_sub_ix (d_var 0) (d_int)) (d_int)) (g_subL (d_var 0) (d_int)))
    (s_cons (s_set 3 nd (d_mod (d_pow (d_add5 (d_add5 (d_sub_ix (d_var 0) (d_int)) (d_mul (d_int) (d_sub_ix (d_var 0) (d_int)))) (d_int)) (d_int)) (d_int)))
    (s_cons (s_set 3 nd (d_mod (d_pow (d_add5 (d_var 3) (d_mul (d_int) (d_sub_ix (d_var 0) (d_int)))) (d_int)) (d_int)))
    (s_one (s_ret (d_mod (d_div (d_var 3) (d_int)) (d_var 1)))))))
abbrev s__law_names : Stmt := topS 49
theorem sc__law_names : FnScope N__law_names ["_law_box_here", "_law_wide"] (defScope s__law_names) := ⟨rfl, rfl, rfl, by decide +kernel, rfl, by decide +kernel, by decide +kernel⟩
theorem kb__law_names_0 {f : Addr} {fd : FuncData} (F : FunD K "_law_names" "_law_names" (defArgs s__law_names) (defBody s__law_names) (defScope s__law_names) [] [] f fd) : KBd K fd ["_law_box_here", "_law_wide"] 2 [] plainG := by
  obtain ⟨oc, od, dV, kV, doc, pm, an, cdv, ct, osl, rfl, lk, hcd, hD, hK⟩ := F.ex
  obtain ⟨_, rfl⟩ | ⟨e, _⟩ := hD
  rotate_left
  · exact absurd rfl e
  exact kb_plain rfl fun us hl => match us, hl with | [_, _], _ => rfl
theorem ok__law_names {f : Addr} {fd : FuncData} (hA : AdOk A) (F : FunD K "_law_names" "_law_names" (defArgs s__law_names) (defBody s__law_names) (defScope s__law_names) [] [] f fd) (T : Txt P w K mg base A) (f__law_take : FnN P w K mg base 1 "_law_take" ["_law_box_here", "_law_wide"] (sp__law_take A) [⟨2, [], plainG⟩]) : FnA P w K mg base 2 f ["_law_box_here", "_law_wide"] (sp__law_names A) [⟨2, [], plainG⟩] := by
  have nd := (sc__law_names).nd
  refine dfunA (ps := ["_law_box_here", "_law_wide"]) F (pats_cons (kb__law_names_0 F) (pats_nil)) sc__law_names (len__law_names A) fun cdv Ar l s H E g rm => ⟨t__law_names A, ?_, rd__law_names A hA⟩
  exact s_cons (s_set 2 nd (d_str))
    (s_cons (s_set 3 nd (d_fnP 0 f__law_take g (rm.mono (by decide)) (a_cons (d_var 0) (a_cons (d_int) (a_nil)))))
    (s_cons (s_set 4 nd (d_fnP 0 f__law_take g (rm.mono (by decide)) (a_cons (d_var 0) (a_cons (d_int) (a_nil)))))
    (s_cons (s_set 5 nd (d_join (d_str) (d_lc N__law_names (defScope s__law_names) [("_law_k", 8)] g nd (i_range1 T.b_range (a_cons (d_int) (a_nil))) (by decide +kernel) (t := (.one 8)) rfl (fun _ _ _ _ _ g => v_one 8 nd) (fun _ _ _ _ _ g => ts_nil) (fun _ _ _ _ _ g => d_sub_ix (d_var 2) (d_fnP 0 f__law_take g (rm.mono (by decide)) (a_cons (d_var 0) (a_cons (d_int) (a_nil))))))))
    (s_cons (s_if (t_w (w_and (t_cmp (op_eq2 rm) lr_eq (d_var 3) (d_int) (nomark _)) (w_and1 (t_cmp op_lt lr_lt (d_var 1) (d_int) (nomark _))))) (s_one (s_ret (d_lc N__law_names (defScope s__law_names) [("_law_k", 8)] g nd (i_range1 T.b_range (a_cons (d_var 1) (a_nil))) (by decide +kernel) (t := (.one 8)) rfl (fun _ _ _ _ _ g => v_one 8 nd) (fun _ _ _ _ _ g => ts_nil) (fun _ _ _ _ _ g => d_sl4 (d_var 5) (o_none) (o_some (d_add5 (d_int) (d_mod (d_add5 (d_var 4) (d_mul (d_int) (d_var 8))) (d_int)))))))) (s_nil))
    (s_cons (s_if (t_w (w_and (t_cmp (op_eq2 rm) lr_eq (d_var 3) (d_int) (nomark _)) (w_and1 (t_cmp op_lt lr_lt (d_var 1) (d_int) (nomark _))))) (s_cons (s_set 6 nd (d_split (d_str) (d_str)))
    (s_one (s_ret (d_lc N__law_names (defScope s__law_names) [("_law_k", 8)] g nd (i_range1 T.b_range (a_cons (d_var 1) (a_nil))) (by decide +kernel) (t := (.one 8)) rfl (fun _ _ _ _ _ g => v_one 8 nd) (fun _ _ _ _ _ g => ts_nil) (fun _ _ _ _ _ g => d_sub_ix (d_var 6) (d_mod (d_add5 (d_var 4) (d_mul (d_int) (d_var 8))) (d_int))))))) (s_nil))
    (s_cons (s_set 7 nd (d_fnP 0 f__law_take g (rm.mono (by decide)) (a_cons (d_var 0) (a_cons (d_int) (a_nil)))))
    (s_cons (s_set 5 nd (d_sl4 (d_var 5) (o_none) (o_some (d_fnP 0 f__law_take g (rm.mono (by decide)) (a_cons (d_var 0) (a_cons (d_int) (a_nil)))))))
    (s_one (s_ret (d_lc N__law_names (defScope s__law_names) [("_law_k", 8)] g nd (i_range1 T.b_range (a_cons (d_var 1) (a_nil))) (by decide +kernel) (t := (.one 8)) rfl (fun _ _ _ _ _ g => v_one 8 nd) (fun _ _ _ _ _ g => ts_nil) (fun _ _ _ _ _ g => d_add5 (d_add5 (d_sl4 (d_var 5) (o_none) (o_some (d_var 7))) (d_sub_ix (d_var 2) (d_mod (d_add5 (d_var 4) (d_mul (d_int) (d_var 8))) (d_int)))) (d_sl4 (d_var 5) (o_some (d_var 7)) (o_none)))))))))))))
abbrev s__law_links : Stmt := topS 50
theorem sc__law_links : FnScope N__law_links ["_law_box_here", "_law_names_here"] (defScope s__law_links) := ⟨rfl, rfl, rfl, by decide +kernel, rfl, by decide +kernel, by decide +kernel⟩
theorem kb__law_links_0 {f : Addr} {fd : FuncData} (F : FunD K "_law_links" "_law_links" (defArgs s__law_links) (defBody s__law_links) (defScope s__law_links) [] [] f fd) : KBd K fd ["_law_box_here", "_law_names_here"] 2 [] plainG := by
  obtain ⟨oc, od, dV, kV, doc, pm, an, cdv, ct, osl, rfl, lk, hcd, hD, hK⟩ := F.ex
  obtain ⟨_, rfl⟩ | ⟨e, _⟩ := hD
  rotate_left
  · exact absurd rfl e
  exact kb_plain rfl fun us hl => match us, hl with | [_, _], _ => rfl
theorem ok__law_links {f : Addr} {fd : FuncData} (hA : AdOk A) (F : FunD K "_law_links" "_law_links" (defArgs s__law_links) (defBody s__law_links) (defScope s__law_links) [] [] f fd) (T : Txt P w K mg base A) (f__law_take : FnN P w K mg base 1 "_law_take" ["_law_box_here", "_law_wide"] (sp__law_take A) [⟨2, [], plainG⟩]) : FnA P w K mg base 2 f ["_law_box_here", "_law_names_here"] (sp__law_links A) [⟨2, [], plainG⟩] := by
  have nd := (sc__law_links).nd
  refine dfunA (ps := ["_law_box_here", "_law_names_here"]) F (pats_cons (kb__law_links_0 F) (pats_nil)) sc__law_links (len__law_links A) fun cdv Ar l s H E g rm => ⟨t__law_links A, ?_, rd__law_links A hA⟩
  exact s_cons (s_set 2 nd (d_lstM (a_nil)))
    (s_cons (s_for g (i_range1 T.b_range (a_cons (d_sub_ix (d_lst (a_cons (d_int) (a_cons (d_int) (a_cons (d_int) (a_cons (d_fnP 0 f__law_take g (rm.mono (by decide)) (a_cons (d_var 0) (a_cons (d_int) (a_nil)))) (a_nil)))))) (d_fnP 0 f__law_take g (rm.mono (by decide)) (a_cons (d_var 0) (a_cons (d_int) (a_nil))))) (a_nil))) (g_name 3 nd) (s_cons (s_set 4 nd (d_fnP 0 f__law_take g (rm.mono (by decide)) (a_cons (d_var 0) (a_cons (d_len T.b_len (a_cons (d_var 1) (a_nil))) (a_nil)))))
    (s_one (s_expr (d_append (d_var 2) (d_tup (a_cons (d_sub_ix (d_var 1) (d_var 4)) (a_cons (d_sub_ix (d_var 1) (d_sub (d_sub (d_var 4) (d_int)) (d_fnP 0 f__law_take g (rm.mono (by decide)) (a_cons (d_var 0) (a_cons (d_sub (d_len T.b_len (a_cons (d_var 1) (a_nil))) (d_int)) (a_nil)))))) (a_nil)))))))))
    (s_one (s_ret (d_tuple T.b_tuple (a_cons (d_var 2) (a_nil))))))
abbrev s__law_told_device : Stmt := topS 51
theorem sc__law_told_device : FnScope N__law_told_device ["_law_box_here", "_law_names_here"] (defScope s__law_told_device) := ⟨rfl, rfl, rfl, by decide +kernel, rfl, by decide +kernel, by decide +kernel⟩
theorem kb__law_told_device_0 {f : Addr} {fd : FuncData} (F : FunD K "_law_told_device" "_law_told_device" (defArgs s__law_told_device) (defBody s__law_told_device) (defScope s__law_told_device) [] [] f fd) : KBd K fd ["_law_box_here", "_law_names_here"] 2 [] plainG := by
  obtain ⟨oc, od, dV, kV, doc, pm, an, cdv, ct, osl, rfl, lk, hcd, hD, hK⟩ := F.ex
  obtain ⟨_, rfl⟩ | ⟨e, _⟩ := hD
  rotate_left
  · exact absurd rfl e
  exact kb_plain rfl fun us hl => match us, hl with | [_, _], _ => rfl
theorem ok__law_told_device {f : Addr} {fd : FuncData} (hA : AdOk A) (F : FunD K "_law_told_device" "_law_told_device" (defArgs s__law_told_device) (defBody s__law_told_device) (defScope s__law_told_device) [] [] f fd) (T : Txt P w K mg base A) (f__law_take : FnN P w K mg base 1 "_law_take" ["_law_box_here", "_law_wide"] (sp__law_take A) [⟨2, [], plainG⟩]) : FnA P w K mg base 2 f ["_law_box_here", "_law_names_here"] (sp__law_told_device A) [⟨2, [], plainG⟩] := by
  have nd := (sc__law_told_device).nd
  refine dfunA (ps := ["_law_box_here", "_law_names_here"]) F (pats_cons (kb__law_told_device_0 F) (pats_nil)) sc__law_told_device (len__law_told_device A) fun cdv Ar l s H E g rm => ⟨t__law_told_device A, ?_, rd__law_told_device A hA⟩
  exact s_cons (s_set 2 nd (d_sub_ix (d_lst (a_cons (d_non) (a_cons (d_sub_ix (d_var 1) (d_fnP 0 f__law_take g (rm.mono (by decide)) (a_cons (d_var 0) (a_cons (d_len T.b_len (a_cons (d_var 1) (a_nil))) (a_nil))))) (a_nil)))) (d_fnP 0 f__law_take g (rm.mono (by decide)) (a_cons (d_var 0) (a_cons (d_int) (a_nil))))))
    (s_cons (s_set 3 nd (d_sub_ix (d_lst (a_cons (d_int) (a_cons (d_int) (a_cons (d_fnP 0 f__law_take g (rm.mono (by decide)) (a_cons (d_var 0) (a_cons (d_int) (a_nil)))) (a_nil))))) (d_fnP 0 f__law_take g (rm.mono (by decide)) (a_cons (d_var 0) (a_cons (d_int) (a_nil))))))
    (s_cons (s_set 4 nd (d_sub_ix (d_lst (a_cons (d_int) (a_cons (d_var 3) (a_cons (d_fnP 0 f__law_take g (rm.mono (by decide)) (a_cons (d_var 0) (a_cons (d_add5 (d_var 3) (d_int)) (a_nil)))) (a_nil))))) (d_fnP 0 f__law_take g (rm.mono (by decide)) (a_cons (d_var 0) (a_cons (d_int) (a_nil))))))
    (s_one (s_ret (d_tup (a_cons (d_sub_ix (d_var 1) (d_int)) (a_cons (d_var 2) (a_cons (d_var 3) (a_cons (d_var 4) (a_cons (d_fnP 0 f__law_take g (rm.mono (by decide)) (a_cons (d_var 0) (a_cons (d_int) (a_nil)))) (a_cons (d_fnP 0 f__law_take g (rm.mono (by decide)) (a_cons (d_var 0) (a_cons (d_int) (a_nil)))) (a_cons (d_fnP 0 f__law_take g (rm.mono (by decide)) (a_cons (d_var 0) (a_cons (d_int) (a_nil)))) (a_nil)))))))))))))
abbrev s__law_words : Stmt := topS 52
theorem sc__law_words : FnScope N__law_words ["_law_box_here", "_law_names_here"] (defScope s__law_words) := ⟨rfl, rfl, rfl, by decide +kernel, rfl, by decide +kernel, by decide +kernel⟩
theorem kb__law_words_0 {f : Addr} {fd : FuncData} (F : FunD K "_law_words" "_law_words" (defArgs s__law_words) (defBody s__law_words) (defScope s__law_words) [] [] f fd) : KBd K fd ["_law_box_here", "_law_names_here"] 2 [] plainG := by
  obtain ⟨oc, od, dV, kV, doc, pm, an, cdv, ct, osl, rfl, lk, hcd, hD, hK⟩ := F.ex
  obtain ⟨_, rfl⟩ | ⟨e, _⟩ := hD
  rotate_left
  · exact absurd rfl e
  exact kb_plain rfl fun us hl => match us, hl with | [_, _], _ => rfl
theorem ok__law_words {f : Addr} {fd : FuncData} (hA : AdOk A) (F : FunD K "_law_words" "_law_words" (defArgs s__law_words) (defBody s__law_words) (defScope s__law_words) [] [] f fd) (T : Txt P w K mg base A) (f__law_take : FnN P w K mg base 1 "_law_take" ["_law_box_here", "_law_wide"] (sp__law_take A) [⟨2, [], plainG⟩]) (f__law_links : FnN P w K mg base 2 "_law_links" ["_law_box_here", "_law_names_here"] (sp__law_links A) [⟨2, [], plainG⟩]) (f__law_told_device : FnN P w K mg base 2 "_law_told_device" ["_law_box_here", "_law_names_here"] (sp__law_told_device A) [⟨2, [], plainG⟩]) : FnA P w K mg base 3 f ["_law_box_here", "_law_names_here"] (sp__law_words A) [⟨2, [], plainG⟩] := by
  have nd := (sc__law_words).nd
  refine dfunA (ps := ["_law_box_here", "_law_names_here"]) F (pats_cons (kb__law_words_0 F) (pats_nil)) sc__law_words (len__law_words A) fun cdv Ar l s H E g rm => ⟨t__law_words A, ?_, rd__law_words A hA⟩
  exact s_cons (s_set 2 nd (d_split (d_str) (d_str)))
    (s_cons (s_set 2 nd (d_add5 (d_var 2) (d_split (d_str) (d_str))))
    (s_cons (s_par2 3 4 g nd (a_cons (d_sub_ix (d_var 1) (d_fnP 0 f__law_take g (rm.mono (by decide)) (a_cons (d_var 0) (a_cons (d_len T.b_len (a_cons (d_var 1) (a_nil))) (a_nil))))) (a_cons (d_sub_ix (d_var 1) (d_fnP 0 f__law_take g (rm.mono (by decide)) (a_cons (d_var 0) (a_cons (d_len T.b_len (a_cons (d_var 1) (a_nil))) (a_nil))))) (a_nil))))
    (s_cons (s_set 5 nd (d_fnP 0 f__law_take g (rm.mono (by decide)) (a_cons (d_var 0) (a_cons (d_int) (a_nil)))))
    (s_cons (s_par2 6 7 g nd (a_cons (d_sub_ix (d_lst (a_cons (d_str) (a_cons (d_str) (a_nil)))) (d_fnP 0 f__law_take g (rm.mono (by decide)) (a_cons (d_var 0) (a_cons (d_int) (a_nil))))) (a_cons (d_sub_ix (d_lst (a_cons (d_str) (a_cons (d_str) (a_cons (d_str) (a_nil))))) (d_fnP 0 f__law_take g (rm.mono (by decide)) (a_cons (d_var 0) (a_cons (d_int) (a_nil))))) (a_nil))))
    (s_cons (s_set 8 nd (d_sub_ix (d_lst (a_cons (d_str) (a_cons (d_str) (a_cons (d_str) (a_cons (d_str) (a_nil)))))) (d_fnP 0 f__law_take g (rm.mono (by decide)) (a_cons (d_var 0) (a_cons (d_add5 (d_int) (d_intB T.b_int (a_cons (d_cmp (op_eq2 rm) lr_eq (d_var 7) (d_str) (nomark _)) (a_nil)))) (a_nil))))))
    (s_cons (s_if (t_cmp (op_eq2 rm) lr_eq (d_var 5) (d_int) (nomark _)) (s_one (s_ret (d_sub_ix (d_lst (a_cons (d_tup (a_cons (d_str) (a_cons (d_var 6) (a_cons (d_var 3) (a_nil))))) (a_cons (d_tup (a_cons (d_str) (a_cons (d_var 7) (a_cons (d_non) (a_nil))))) (a_nil)))) (d_fnP 0 f__law_take g (rm.mono (by decide)) (a_cons (d_var 0) (a_cons (d_int) (a_nil))))))) (s_nil))
    (s_cons (s_if (t_cmp (op_eq2 rm) lr_eq (d_var 5) (d_int) (nomark _)) (s_one (s_ret (d_sub_ix (d_lst (a_cons (d_tup (a_cons (d_str) (a_cons (d_var 6) (a_cons (d_var 3) (a_cons (d_ifExp (t_cmp (op_ne2 rm) lr_ne (d_var 8) (d_str) (nomark _)) (d_var 8) (d_str)) (a_nil)))))) (a_cons (d_tup (a_cons (d_str) (a_cons (d_var 7) (a_cons (d_non) (a_cons (d_var 8) (a_nil)))))) (a_nil)))) (d_fnP 0 f__law_take g (rm.mono (by decide)) (a_cons (d_var 0) (a_cons (d_int) (a_nil))))))) (s_nil))
    (s_cons (s_if (t_cmp (op_eq2 rm) lr_eq (d_var 5) (d_int) (nomark _)) (s_one (s_ret (d_tup (a_cons (d_str) (a_cons (d_var 3) (a_cons (d_var 4) (a_nil))))))) (s_nil))
    (s_cons (s_if (t_cmp (op_eq2 rm) lr_eq (d_var 5) (d_int) (nomark _)) (s_one (s_ret (d_tup (a_cons (d_str) (a_cons (d_var 3) (a_cons (d_sub_ix (d_lst (a_cons (d_str) (a_cons (d_str) (a_cons (d_str) (a_cons (d_str) (a_nil)))))) (d_fnP 0 f__law_take g (rm.mono (by decide)) (a_cons (d_var 0) (a_cons (d_int) (a_nil))))) (a_nil))))))) (s_nil))
    (s_cons (s_if (t_cmp (op_eq2 rm) lr_eq (d_var 5) (d_int) (nomark _)) (s_one (s_ret (d_tup (a_cons (d_str) (a_cons (d_fnP 0 f__law_told_device g (rm.mono (by decide)) (a_cons (d_var 0) (a_cons (d_var 1) (a_nil)))) (a_cons (d_fnP 0 f__law_links g (rm.mono (by decide)) (a_cons (d_var 0) (a_cons (d_var 1) (a_nil)))) (a_nil))))))) (s_nil))
    (s_one (s_ret (d_tup (a_cons (d_sub_ix (d_var 2) (d_fnP 0 f__law_take g (rm.mono (by decide)) (a_cons (d_var 0) (a_cons (d_int) (a_nil))))) (a_cons (d_var 3) (a_nil))))))))))))))))
abbrev s_is_turn : Stmt := topS 43
theorem sc_is_turn : FnScope N_is_turn ["thing"] (defScope s_is_turn) := ⟨rfl, rfl, rfl, by decide +kernel, rfl, by decide +kernel, by decide +kernel⟩
theorem kb_is_turn_0 {f : Addr} {fd : FuncData} (F : FunD K "is_turn" "is_turn" (defArgs s_is_turn) (defBody s_is_turn) (defScope s_is_turn) [] [] f fd) : KBd K fd ["thing"] 1 [] plainG := by
  obtain ⟨oc, od, dV, kV, doc, pm, an, cdv, ct, osl, rfl, lk, hcd, hD, hK⟩ := F.ex
  obtain ⟨_, rfl⟩ | ⟨e, _⟩ := hD
  rotate_left
  · exact absurd rfl e
  exact kb_plain rfl fun us hl => match us, hl with | [_], _ => rfl
theorem ok_is_turn {f : Addr} {fd : FuncData} (hA : AdOk A) (F : FunD K "is_turn" "is_turn" (defArgs s_is_turn) (defBody s_is_turn) (defScope s_is_turn) [] [] f fd) (T : Txt P w K mg base A) : FnA P w K mg base 1 f ["thing"] (sp_is_turn A) [⟨1, [], plainG⟩] := by
  have nd := (sc_is_turn).nd
  refine dfunA (ps := ["thing"]) F (pats_cons (kb_is_turn_0 F) (pats_nil)) sc_is_turn (len_is_turn A) fun cdv Ar l s H E g rm => ⟨t_is_turn A, ?_, rd_is_turn A hA⟩
  exact s_one (s_ret (d_and (d_isi .int (fun z => nomatch z) (fun z => nomatch z) T.b_isinstance T.b_int (by decide +kernel) (d_var 0)) (d_and (d_not (d_isi .bl (fun z => nomatch z) (fun z => nomatch z) T.b_isinstance T.b_bool (by decide +kernel) (d_var 0))) (d_one (d_cmp op_ge lr_ge (d_var 0) (d_int) (nomark _))))))
abbrev s_is_name : Stmt := topS 10
theorem sc_is_name : FnScope N_is_name ["thing"] (defScope s_is_name) := ⟨rfl, rfl, rfl, by decide +kernel, rfl, by decide +kernel, by decide +kernel⟩
theorem kb_is_name_0 {f : Addr} {fd : FuncData} (F : FunD K "is_name" "is_name" (defArgs s_is_name) (defBody s_is_name) (defScope s_is_name) [] [] f fd) : KBd K fd ["thing"] 1 [] plainG := by
  obtain ⟨oc, od, dV, kV, doc, pm, an, cdv, ct, osl, rfl, lk, hcd, hD, hK⟩ := F.ex
  obtain ⟨_, rfl⟩ | ⟨e, _⟩ := hD
  rotate_left
  · exact absurd rfl e
  exact kb_plain rfl fun us hl => match us, hl with | [_], _ => rfl
theorem ok_is_name {f : Addr} {fd : FuncData} (hA : AdOk A) (F : FunD K "is_name" "is_name" (defArgs s_is_name) (defBody s_is_name) (defScope s_is_name) [] [] f fd) (T : Txt P w K mg base A) : FnA P w K mg base 1 f ["thing"] (sp_is_name A) [⟨1, [], plainG⟩] := by
  have nd := (sc_is_name).nd
  refine dfunA (ps := ["thing"]) F (pats_cons (kb_is_name_0 F) (pats_nil)) sc_is_name (len_is_name A) fun cdv Ar l s H E g rm => ⟨t_is_name A, ?_, rd_is_name A hA⟩
  exact s_one (s_ret (d_and (d_isi .str (fun z => nomatch z) (fun z => nomatch z) T.b_isinstance T.b_str (by decide +kernel) (d_var 0)) (d_and (d_chain op_le op_le lr_le lr_le (d_int) (d_len T.b_len (a_cons (d_var 0) (a_nil))) (d_gInt T.g_MOST_LETTERS)) (d_one (d_all g T.b_all (a_cons (d_lc N_is_name (defScope s_is_name) [("sign", 1)] g nd (i_str (d_var 0)) (by decide +kernel) (t := (.one 1)) rfl (fun _ _ _ _ _ g => v_one 1 nd) (fun _ _ _ _ _ g => ts_nil) (fun _ _ _ _ _ g => d_cmp op_in_sign lr_inS (d_var 1) (d_gStr T.g_LETTERS) rfl)) (a_nil)))))))
abbrev s_is_whole : Stmt := topS 9
theorem sc_is_whole : FnScope N_is_whole ["thing", "low", "high"] (defScope s_is_whole) := ⟨rfl, rfl, rfl, by decide +kernel, rfl, by decide +kernel, by decide +kernel⟩
theorem kb_is_whole_0 {f : Addr} {fd : FuncData} (F : FunD K "is_whole" "is_whole" (defArgs s_is_whole) (defBody s_is_whole) (defScope s_is_whole) [] [] f fd) : KBd K fd ["thing", "low", "high"] 3 [] plainG := by
  obtain ⟨oc, od, dV, kV, doc, pm, an, cdv, ct, osl, rfl, lk, hcd, hD, hK⟩ := F.ex
  obtain ⟨_, rfl⟩ | ⟨e, _⟩ := hD
  rotate_left
  · exact absurd rfl e
  exact kb_plain rfl fun us hl => match us, hl with | [_, _, _], _ => rfl
theorem ok_is_whole {f : Addr} {fd : FuncData} (hA : AdOk A) (F : FunD K "is_whole" "is_whole" (defArgs s_is_whole) (defBody s_is_whole) (defScope s_is_whole) [] [] f fd) (T : Txt P w K mg base A) : FnA P w K mg base 1 f ["thing", "low", "high"] (sp_is_whole A) [⟨3, [], plainG⟩] := by
  have nd := (sc_is_whole).nd
  refine dfunA (ps := ["thing", "low", "high"]) F (pats_cons (kb_is_whole_0 F) (pats_nil)) sc_is_whole (len_is_whole A) fun cdv Ar l s H E g rm => ⟨t_is_whole A, ?_, rd_is_whole A hA⟩
  exact s_one (s_ret (d_and (d_isi .int (fun z => nomatch z) (fun z => nomatch z) T.b_isinstance T.b_int (by decide +kernel) (d_var 0)) (d_and (d_not (d_isi .bl (fun z => nomatch z) (fun z => nomatch z) T.b_isinstance T.b_bool (by decide +kernel) (d_var 0))) (d_one (d_chain op_le op_le lr_le lr_le (d_var 1) (d_var 0) (d_var 2))))))
abbrev s_need_number : Stmt := topS 20
theorem sc_need_number : FnScope N_need_number ["thing", "high"] (defScope s_need_number) := ⟨rfl, rfl, rfl, by decide +kernel, rfl, by decide +kernel, by decide +kernel⟩
theorem kb_need_number_0 {f : Addr} {fd : FuncData} (F : FunD K "need_number" "need_number" (defArgs s_need_number) (defBody s_need_number) (defScope s_need_number) [] [] f fd) : KBd K fd ["thing", "high"] 2 [] plainG := by
  obtain ⟨oc, od, dV, kV, doc, pm, an, cdv, ct, osl, rfl, lk, hcd, hD, hK⟩ := F.ex
  obtain ⟨_, rfl⟩ | ⟨e, _⟩ := hD
  rotate_left
  · exact absurd rfl e
  exact kb_plain rfl fun us hl => match us, hl with | [_, _], _ => rfl
theorem ok_need_number {f : Addr} {fd : FuncData} (hA : AdOk A) (F : FunD K "need_number" "need_number" (defArgs s_need_number) (defBody s_need_number) (defScope s_need_number) [] [] f fd) (T : Txt P w K mg base A) (f_is_whole : FnN P w K mg base 1 "is_whole" ["thing", "low", "high"] (sp_is_whole A) [⟨3, [], plainG⟩]) : FnA P w K mg base 3 f ["thing", "high"] (sp_need_number A) [⟨2, [], plainG⟩] := by
  have nd := (sc_need_number).nd
  refine dfunA (ps := ["thing", "high"]) F (pats_cons (kb_need_number_0 F) (pats_nil)) sc_need_number (len_need_number A) fun cdv Ar l s H E g rm => ⟨t_need_number A, ?_, rd_need_number A hA⟩
  exact s_one (s_if (t_not (t_truth (d_fnP 0 f_is_whole g (rm.mono (by decide)) (a_cons (d_var 0) (a_cons (d_int) (a_cons (d_var 1) (a_nil))))))) (s_one (s_raise T.x_NoNumber g (rm.mono (by decide)) (d_var 0))) (s_nil))
abbrev s_m_Device_init : Stmt := inClass (topS 21) 0
theorem sc_m_Device_init : FnScope N_m_Device_init ["self", "name", "parent", "burn", "sip", "wake", "fall", "rest"] (defScope s_m_Device_init) := ⟨rfl, rfl, rfl, by decide +kernel, rfl, by decide +kernel, by decide +kernel⟩
theorem kb_m_Device_init_0 {f : Addr} {fd : FuncData} (F : FunD K "__init__" "Device.__init__" (defArgs s_m_Device_init) (defBody s_m_Device_init) (defScope s_m_Device_init) [] [("parent", .non), ("burn", .int 5), ("sip", .int 1), ("wake", .int 1), ("fall", .int 1), ("rest", .int 0)] f fd) : KBd K fd ["self", "name", "parent", "burn", "sip", "wake", "fall", "rest"] 2 ["parent", "burn", "sip", "wake", "fall", "rest"] pg_m_Device_init_0 := by
  obtain ⟨oc, od, dV, kV, doc, pm, an, cdv, ct, osl, rfl, lk, hcd, hD, hK⟩ := F.ex
  obtain ⟨_, rfl⟩ | ⟨e, _⟩ := hD
  rotate_left
  · exact absurd rfl e
  obtain e | ⟨Dk, rfl, hq⟩ := hK
  · cases e
  intro s I us_0 ws_0 vs_0 zs_0 ds_0 es_0 X lu_0 lw_0 r1_0 r2_0 q1_0 q2_0
  obtain ⟨u0, us_1, rfl, lu_1⟩ := len_cons lu_0
  obtain ⟨u1, us_2, rfl, lu_2⟩ := len_cons lu_1
  cases len_nil lu_2
  obtain ⟨w0, ws_1, rfl, lw_1⟩ := len_cons lw_0
  obtain ⟨w1, ws_2, rfl, lw_2⟩ := len_cons lw_1
  obtain ⟨w2, ws_3, rfl, lw_3⟩ := len_cons lw_2
  obtain ⟨w3, ws_4, rfl, lw_4⟩ := len_cons lw_3
  obtain ⟨w4, ws_5, rfl, lw_5⟩ := len_cons lw_4
  obtain ⟨w5, ws_6, rfl, lw_6⟩ := len_cons lw_5
  cases len_nil lw_6
  obtain ⟨v0, vs_1, rfl, ru0, r1_1⟩ := vals_consR r1_0
  obtain ⟨a0, ds_1, rfl, qa0, q1_1⟩ := reps_consL q1_0
  obtain ⟨v1, vs_2, rfl, ru1, r1_2⟩ := vals_consR r1_1
  obtain ⟨a1, ds_2, rfl, qa1, q1_2⟩ := reps_consL q1_1
  cases r1_2
  cases q1_2
  obtain ⟨z0, zs_1, rfl, rw0, r2_1⟩ := vals_consR r2_0
  obtain ⟨b0, es_1, rfl, qb0, q2_1⟩ := reps_consL q2_0
  obtain ⟨z1, zs_2, rfl, rw1, r2_2⟩ := vals_consR r2_1
  obtain ⟨b1, es_2, rfl, qb1, q2_2⟩ := reps_consL q2_1
  obtain ⟨z2, zs_3, rfl, rw2, r2_3⟩ := vals_consR r2_2
  obtain ⟨b2, es_3, rfl, qb2, q2_3⟩ := reps_consL q2_2
  obtain ⟨z3, zs_4, rfl, rw3, r2_4⟩ := vals_consR r2_3
  obtain ⟨b3, es_4, rfl, qb3, q2_4⟩ := reps_consL q2_3
  obtain ⟨z4, zs_5, rfl, rw4, r2_5⟩ := vals_consR r2_4
  obtain ⟨b4, es_5, rfl, qb4, q2_5⟩ := reps_consL q2_4
  obtain ⟨z5, zs_6, rfl, rw5, r2_6⟩ := vals_consR r2_5
  obtain ⟨b5, es_6, rfl, qb5, q2_6⟩ := reps_consL q2_5
  cases r2_6
  cases q2_6
  exact ⟨[u0, u1, w0, w1, w2, w3, w4, w5], [v0, v1, z0, z1, z2, z3, z4, z5], BindsTo.of_looks fun M => .of_pure rfl, .cons (ru0) (.cons (ru1) (.cons (rw0) (.cons (rw1) (.cons (rw2) (.cons (rw3) (.cons (rw4) (.cons (rw5) (.nil)))))))), .cons (qa0) (.cons (qa1) (.cons (qb0) (.cons (qb1) (.cons (qb2) (.cons (qb3) (.cons (qb4) (.cons (qb5) (.nil))))))))⟩
theorem ok_m_Device_init {f : Addr} {fd : FuncData} (hA : AdOk A) (F : FunD K "__init__" "Device.__init__" (defArgs s_m_Device_init) (defBody s_m_Device_init) (defScope s_m_Device_init) [] [("parent", .non), ("burn", .int 5), ("sip", .int 1), ("wake", .int 1), ("fall", .int 1), ("rest", .int 0)] f fd) (T : Txt P w K mg base A) (f_is_name : FnN P w K mg base 1 "is_name" ["thing"] (sp_is_name A) [⟨1, [], plainG⟩]) (f_need_number : FnN P w K mg base 3 "need_number" ["thing", "high"] (sp_need_number A) [⟨2, [], plainG⟩]) : FnA P w K mg base 4 f ["self", "name", "parent", "burn", "sip", "wake", "fall", "rest"] (sp_m_Device_init A) [⟨2, ["parent", "burn", "sip", "wake", "fall", "rest"], pg_m_Device_init_0⟩] := by
  have nd := (sc_m_Device_init).nd
  refine dfunA (ps := ["self", "name", "parent", "burn", "sip", "wake", "fall", "rest"]) F (pats_cons (kb_m_Device_init_0 F) (pats_nil)) sc_m_Device_init (len_m_Device_init A) fun cdv Ar l s H E g rm => ⟨t_m_Device_init A, ?_, rd_m_Device_init A hA⟩
  exact s_cons (s_if (t_not (t_truth (d_fnP 0 f_is_name g (rm.mono (by decide)) (a_cons (d_var 1) (a_nil))))) (s_one (s_raise T.x_NoName g (rm.mono (by decide)) (d_var 1))) (s_nil))
    (s_cons (s_if (t_w (w_and (t_cmp op_notC lr_isNot (d_var 2) (d_non) (nomark _)) (w_and1 (t_not (t_truth (d_fnP 0 f_is_name g (rm.mono (by decide)) (a_cons (d_var 2) (a_nil)))))))) (s_one (s_raise T.x_NoName g (rm.mono (by decide)) (d_var 2))) (s_nil))
    (s_cons (s_expr (d_fnP 0 f_need_number g (rm.mono (by decide)) (a_cons (d_var 3) (a_cons (d_gInt T.g_MOST_BURN) (a_nil)))))
    (s_cons (s_expr (d_fnP 0 f_need_number g (rm.mono (by decide)) (a_cons (d_var 4) (a_cons (d_var 3) (a_nil)))))
    (s_cons (s_expr (d_fnP 0 f_need_number g (rm.mono (by decide)) (a_cons (d_var 5) (a_cons (d_gInt T.g_MOST_STEPS) (a_nil)))))
    (s_cons (s_expr (d_fnP 0 f_need_number g (rm.mono (by decide)) (a_cons (d_var 6) (a_cons (d_gInt T.g_MOST_STEPS) (a_nil)))))
    (s_cons (s_expr (d_fnP 0 f_need_number g (rm.mono (by decide)) (a_cons (d_var 7) (a_cons (d_gInt T.g_MOST_REST) (a_nil)))))
    (s_one (s_fld (fc_cons T.cl_Device T.na_Device_whole fc_nil) (d_var 0) (d_tup (a_cons (d_var 1) (a_cons (d_var 2) (a_cons (d_var 3) (a_cons (d_var 4) (a_cons (d_var 5) (a_cons (d_var 6) (a_cons (d_var 7) (a_nil)))))))))))))))))
abbrev s_is_told_device : Stmt := topS 39
theorem sc_is_told_device : FnScope N_is_told_device ["thing"] (defScope s_is_told_device) := ⟨rfl, rfl, rfl, by decide +kernel, rfl, by decide +kernel, by decide +kernel⟩
theorem kb_is_told_device_0 {f : Addr} {fd : FuncData} (F : FunD K "is_told_device" "is_told_device" (defArgs s_is_told_device) (defBody s_is_told_device) (defScope s_is_told_device) [] [] f fd) : KBd K fd ["thing"] 1 [] plainG := by
  obtain ⟨oc, od, dV, kV, doc, pm, an, cdv, ct, osl, rfl, lk, hcd, hD, hK⟩ := F.ex
  obtain ⟨_, rfl⟩ | ⟨e, _⟩ := hD
  rotate_left
  · exact absurd rfl e
  exact kb_plain rfl fun us hl => match us, hl with | [_], _ => rfl
theorem ok_is_told_device {f : Addr} {fd : FuncData} (hA : AdOk A) (F : FunD K "is_told_device" "is_told_device" (defArgs s_is_told_device) (defBody s_is_told_device) (defScope s_is_told_device) [] [] f fd) (T : Txt P w K mg base A) (k_Device : MkOk P w K mg base 4 "Device" A.c_Device ["self", "name", "parent", "burn", "sip", "wake", "fall", "rest"] (sp_m_Device_init A) [⟨2, ["parent", "burn", "sip", "wake", "fall", "rest"], pg_m_Device_init_0⟩]) : FnA P w K mg base 6 f ["thing"] (sp_is_told_device A) [⟨1, [], plainG⟩] := by
  have nd := (sc_is_told_device).nd
  refine dfunA (ps := ["thing"]) F (pats_cons (kb_is_told_device_0 F) (pats_nil)) sc_is_told_device (len_is_told_device A) fun cdv Ar l s H E g rm => ⟨t_is_told_device A, ?_, rd_is_told_device A hA⟩
  exact s_cons (s_if (t_w (w_or (t_not (t_truth (d_isi .tup (fun z => nomatch z) (fun z => nomatch z) T.b_isinstance T.b_tuple (by decide +kernel) (d_var 0)))) (w_or1 (t_cmp (op_ne2 rm) lr_ne (d_len T.b_len (a_cons (d_var 0) (a_nil))) (d_int) (nomark _))))) (s_one (s_ret (d_bl))) (s_nil))
    (s_cons (s_asg (d_var 0) (g_star (n := 3) (i := 2) g.calm (gs_cons 1 nd (gs_cons 2 nd (gs_consS 3 nd (gs_nil))))))
    (s_cons (s_asg (d_var 3) (g_tupU (n := 5) g.calm (gs_cons 4 nd (gs_cons 5 nd (gs_cons 6 nd (gs_cons 7 nd (gs_cons 8 nd (gs_nil))))))))
    (s_cons (s_tryA T.xm g (fun V pn xe g => s_one (s_expr (d_makeF 0 k_Device g (rm.mono (by decide)) (args_pk (a_cons (d_var 1) (a_nil)) (k_cons (d_var 2) (k_cons (d_var 4) (k_cons (d_var 5) (k_cons (d_var 6) (k_cons (d_var 7) (k_cons (d_var 8) (k_nil))))))))))) (.cons (h := ⟨[.ref A.c_NoName, .ref A.c_NoNumber], none, fun a cls d => dRet (dC (.bl false))⟩) (.tup (.cons ⟨by rfl, by decide, Or.inl T.n_NoName⟩ (.cons ⟨by rfl, by decide, Or.inl T.n_NoNumber⟩ .nil)) (show 2 ≤ sizeLine from by decide)) trivial (fun a oe cls d pn hz hf => s_one (s_ret (d_bl))) .nil))
    (s_one (s_ret (d_bl))))))
abbrev s_are_links : Stmt := topS 38
theorem sc_are_links : FnScope N_are_links ["thing"] (defScope s_are_links) := ⟨rfl, rfl, rfl, by decide +kernel, rfl, by decide +kernel, by decide +kernel⟩
theorem kb_are_links_0 {f : Addr} {fd : FuncData} (F : FunD K "are_links" "are_links" (defArgs s_are_links) (defBody s_are_links) (defScope s_are_links) [] [] f fd) : KBd K fd ["thing"] 1 [] plainG := by
  obtain ⟨oc, od, dV, kV, doc, pm, an, cdv, ct, osl, rfl, lk, hcd, hD, hK⟩ := F.ex
  obtain ⟨_, rfl⟩ | ⟨e, _⟩ := hD
  rotate_left
  · exact absurd rfl e
  exact kb_plain rfl fun us hl => match us, hl with | [_], _ => rfl
theorem ok_are_links {f : Addr} {fd : FuncData} (hA : AdOk A) (F : FunD K "are_links" "are_links" (defArgs s_are_links) (defBody s_are_links) (defScope s_are_links) [] [] f fd) (T : Txt P w K mg base A) (f_is_name : FnN P w K mg base 1 "is_name" ["thing"] (sp_is_name A) [⟨1, [], plainG⟩]) : FnA P w K mg base 2 f ["thing"] (sp_are_links A) [⟨1, [], plainG⟩] := by
  have nd := (sc_are_links).nd
  refine dfunA (ps := ["thing"]) F (pats_cons (kb_are_links_0 F) (pats_nil)) sc_are_links (len_are_links A) fun cdv Ar l s H E g rm => ⟨t_are_links A, ?_, rd_are_links A hA⟩
  exact s_cons (s_if (t_w (w_or (t_not (t_truth (d_isi .tup (fun z => nomatch z) (fun z => nomatch z) T.b_isinstance T.b_tuple (by decide +kernel) (d_var 0)))) (w_or1 (t_cmp op_gt lr_gt (d_len T.b_len (a_cons (d_var 0) (a_nil))) (d_gInt T.g_MOST_LINKS) (nomark _))))) (s_one (s_ret (d_bl))) (s_nil))
    (s_cons (s_setLc 1 N_are_links (defScope s_are_links) [("pair", 2)] g nd (i_tup (d_var 0)) (by decide +kernel) (t := (.one 2)) rfl (fun _ _ _ _ _ g => v_one 2 nd) (fun _ _ _ _ _ g => ts_one (t_w (w_and (t_truth (d_isi .tup (fun z => nomatch z) (fun z => nomatch z) T.b_isinstance T.b_tuple (by decide +kernel) (d_var 2))) (w_and1 (t_cmp (op_eq2 rm) lr_eq (d_len T.b_len (a_cons (d_var 2) (a_nil))) (d_int) (nomark _)))))) (fun _ _ _ _ _ g => d_var 2) (sw_true rfl rfl rfl (by decide +kernel)))
    (s_cons (s_if (t_cmp op_lt lr_lt (d_len T.b_len (a_cons (d_var 1) (a_nil))) (d_len T.b_len (a_cons (d_var 0) (a_nil))) (nomark _)) (s_one (s_ret (d_bl))) (s_nil))
    (s_one (s_ret (d_all g T.b_all (a_cons (d_lc N_are_links (defScope s_are_links) [("user", 3), ("supplier", 4)] g nd (i_list (d_var 1)) (by decide +kernel) (t := (.tup [3, 4])) rfl (fun _ _ _ _ _ g => v_tup g.calm (vn_cons 3 nd (vn_cons 4 nd (vn_nil)))) (fun _ _ _ _ _ g => ts_nil) (fun _ _ _ _ _ g => d_and (d_fnP 0 f_is_name g (rm.mono (by decide)) (a_cons (d_var 3) (a_nil))) (d_and (d_fnP 0 f_is_name g (rm.mono (by decide)) (a_cons (d_var 4) (a_nil))) (d_one (d_cmp (op_ne2 rm) lr_ne (d_var 3) (d_var 4) (nomark _)))))) (a_nil)))))))
abbrev s_are_plug : Stmt := topS 40
theorem sc_are_plug : FnScope N_are_plug ["words"] (defScope s_are_plug) := ⟨rfl, rfl, rfl, by decide +kernel, rfl, by decide +kernel, by decide +kernel⟩
theorem kb_are_plug_0 {f : Addr} {fd : FuncData} (F : FunD K "are_plug" "are_plug" (defArgs s_are_plug) (defBody s_are_plug) (defScope s_are_plug) [] [] f fd) : KBd K fd ["words"] 1 [] plainG := by
  obtain ⟨oc, od, dV, kV, doc, pm, an, cdv, ct, osl, rfl, lk, hcd, hD, hK⟩ := F.ex
  obtain ⟨_, rfl⟩ | ⟨e, _⟩ := hD
  rotate_left
  · exact absurd rfl e
  exact kb_plain rfl fun us hl => match us, hl with | [_], _ => rfl
theorem ok_are_plug {f : Addr} {fd : FuncData} (hA : AdOk A) (F : FunD K "are_plug" "are_plug" (defArgs s_are_plug) (defBody s_are_plug) (defScope s_are_plug) [] [] f fd) (T : Txt P w K mg base A) (f_is_told_device : FnN P w K mg base 6 "is_told_device" ["thing"] (sp_is_told_device A) [⟨1, [], plainG⟩]) (f_are_links : FnN P w K mg base 2 "are_links" ["thing"] (sp_are_links A) [⟨1, [], plainG⟩]) : FnA P w K mg base 7 f ["words"] (sp_are_plug A) [⟨1, [], plainG⟩] := by
  have nd := (sc_are_plug).nd
  refine dfunA (ps := ["words"]) F (pats_cons (kb_are_plug_0 F) (pats_nil)) sc_are_plug (len_are_plug A) fun cdv Ar l s H E g rm => ⟨t_are_plug A, ?_, rd_are_plug A hA⟩
  exact s_one (s_ret (d_and (d_cmp (op_eq2 rm) lr_eq (d_len T.b_len (a_cons (d_var 0) (a_nil))) (d_int) (nomark _)) (d_and (d_fnP 0 f_is_told_device g (rm.mono (by decide)) (a_cons (d_sub_ix (d_var 0) (d_int)) (a_nil))) (d_one (d_fnP 0 f_are_links g (rm.mono (by decide)) (a_cons (d_sub_ix (d_var 0) (d_int)) (a_nil)))))))
abbrev s_is_word_of : Stmt := topS 32
theorem sc_is_word_of : FnScope N_is_word_of ["thing", "words"] (defScope s_is_word_of) := ⟨rfl, rfl, rfl, by decide +kernel, rfl, by decide +kernel, by decide +kernel⟩
theorem kb_is_word_of_0 {f : Addr} {fd : FuncData} (F : FunD K "is_word_of" "is_word_of" (defArgs s_is_word_of) (defBody s_is_word_of) (defScope s_is_word_of) [] [] f fd) : KBd K fd ["thing", "words"] 2 [] plainG := by
  obtain ⟨oc, od, dV, kV, doc, pm, an, cdv, ct, osl, rfl, lk, hcd, hD, hK⟩ := F.ex
  obtain ⟨_, rfl⟩ | ⟨e, _⟩ := hD
  rotate_left
  · exact absurd rfl e
  exact kb_plain rfl fun us hl => match us, hl with | [_, _], _ => rfl
theorem ok_is_word_of {f : Addr} {fd : FuncData} (hA : AdOk A) (F : FunD K "is_word_of" "is_word_of" (defArgs s_is_word_of) (defBody s_is_word_of) (defScope s_is_word_of) [] [] f fd) (T : Txt P w K mg base A) : FnA P w K mg base 1 f ["thing", "words"] (sp_is_word_of A) [⟨2, [], plainG⟩] := by
  have nd := (sc_is_word_of).nd
  refine dfunA (ps := ["thing", "words"]) F (pats_cons (kb_is_word_of_0 F) (pats_nil)) sc_is_word_of (len_is_word_of A) fun cdv Ar l s H E g rm => ⟨t_is_word_of A, ?_, rd_is_word_of A hA⟩
  exact s_one (s_ret (d_and (d_isi .str (fun z => nomatch z) (fun z => nomatch z) T.b_isinstance T.b_str (by decide +kernel) (d_var 0)) (d_one (d_cmp op_in_seq lr_inW1 (d_var 0) (d_var 1) rfl))))
abbrev s_are_bell : Stmt := topS 37
theorem sc_are_bell : FnScope N_are_bell ["words"] (defScope s_are_bell) := ⟨rfl, rfl, rfl, by decide +kernel, rfl, by decide +kernel, by decide +kernel⟩
theorem kb_are_bell_0 {f : Addr} {fd : FuncData} (F : FunD K "are_bell" "are_bell" (defArgs s_are_bell) (defBody s_are_bell) (defScope s_are_bell) [] [] f fd) : KBd K fd ["words"] 1 [] plainG := by
  obtain ⟨oc, od, dV, kV, doc, pm, an, cdv, ct, osl, rfl, lk, hcd, hD, hK⟩ := F.ex
  obtain ⟨_, rfl⟩ | ⟨e, _⟩ := hD
  rotate_left
  · exact absurd rfl e
  exact kb_plain rfl fun us hl => match us, hl with | [_], _ => rfl
theorem ok_are_bell {f : Addr} {fd : FuncData} (hA : AdOk A) (F : FunD K "are_bell" "are_bell" (defArgs s_are_bell) (defBody s_are_bell) (defScope s_are_bell) [] [] f fd) (T : Txt P w K mg base A) (f_is_name : FnN P w K mg base 1 "is_name" ["thing"] (sp_is_name A) [⟨1, [], plainG⟩]) (f_is_word_of : FnN P w K mg base 1 "is_word_of" ["thing", "words"] (sp_is_word_of A) [⟨2, [], plainG⟩]) : FnA P w K mg base 2 f ["words"] (sp_are_bell A) [⟨1, [], plainG⟩] := by
  have nd := (sc_are_bell).nd
  refine dfunA (ps := ["words"]) F (pats_cons (kb_are_bell_0 F) (pats_nil)) sc_are_bell (len_are_bell A) fun cdv Ar l s H E g rm => ⟨t_are_bell A, ?_, rd_are_bell A hA⟩
  exact s_one (s_ret (d_and (d_cmp (op_eq2 rm) lr_eq (d_len T.b_len (a_cons (d_var 0) (a_nil))) (d_int) (nomark _)) (d_and (d_fnP 0 f_is_name g (rm.mono (by decide)) (a_cons (d_sub_ix (d_var 0) (d_int)) (a_nil))) (d_one (d_fnP 0 f_is_word_of g (rm.mono (by decide)) (a_cons (d_sub_ix (d_var 0) (d_int)) (a_cons (d_gTupS (ss := ["unheard", "noted", "broke", "woke"]) T.g_BELLS) (a_nil))))))))
abbrev s_are_missed : Stmt := topS 36
theorem sc_are_missed : FnScope N_are_missed ["words"] (defScope s_are_missed) := ⟨rfl, rfl, rfl, by decide +kernel, rfl, by decide +kernel, by decide +kernel⟩
theorem kb_are_missed_0 {f : Addr} {fd : FuncData} (F : FunD K "are_missed" "are_missed" (defArgs s_are_missed) (defBody s_are_missed) (defScope s_are_missed) [] [] f fd) : KBd K fd ["words"] 1 [] plainG := by
  obtain ⟨oc, od, dV, kV, doc, pm, an, cdv, ct, osl, rfl, lk, hcd, hD, hK⟩ := F.ex
  obtain ⟨_, rfl⟩ | ⟨e, _⟩ := hD
  rotate_left
  · exact absurd rfl e
  exact kb_plain rfl fun us hl => match us, hl with | [_], _ => rfl
theorem ok_are_missed {f : Addr} {fd : FuncData} (hA : AdOk A) (F : FunD K "are_missed" "are_missed" (defArgs s_are_missed) (defBody s_are_missed) (defScope s_are_missed) [] [] f fd) (T : Txt P w K mg base A) (f_is_name : FnN P w K mg base 1 "is_name" ["thing"] (sp_is_name A) [⟨1, [], plainG⟩]) : FnA P w K mg base 2 f ["words"] (sp_are_missed A) [⟨1, [], plainG⟩] := by
  have nd := (sc_are_missed).nd
  refine dfunA (ps := ["words"]) F (pats_cons (kb_are_missed_0 F) (pats_nil)) sc_are_missed (len_are_missed A) fun cdv Ar l s H E g rm => ⟨t_are_missed A, ?_, rd_are_missed A hA⟩
  exact s_one (s_ret (d_and (d_cmp (op_eq2 rm) lr_eq (d_len T.b_len (a_cons (d_var 0) (a_nil))) (d_int) (nomark _)) (d_and (d_fnP 0 f_is_name g (rm.mono (by decide)) (a_cons (d_sub_ix (d_var 0) (d_int)) (a_nil))) (d_one (d_fnP 0 f_is_name g (rm.mono (by decide)) (a_cons (d_sub_ix (d_var 0) (d_int)) (a_nil)))))))
abbrev s_is_deed_of : Stmt := topS 33
theorem sc_is_deed_of : FnScope N_is_deed_of ["deed", "name"] (defScope s_is_deed_of) := ⟨rfl, rfl, rfl, by decide +kernel, rfl, by decide +kernel, by decide +kernel⟩
theorem kb_is_deed_of_0 {f : Addr} {fd : FuncData} (F : FunD K "is_deed_of" "is_deed_of" (defArgs s_is_deed_of) (defBody s_is_deed_of) (defScope s_is_deed_of) [] [] f fd) : KBd K fd ["deed", "name"] 2 [] plainG := by
  obtain ⟨oc, od, dV, kV, doc, pm, an, cdv, ct, osl, rfl, lk, hcd, hD, hK⟩ := F.ex
  obtain ⟨_, rfl⟩ | ⟨e, _⟩ := hD
  rotate_left
  · exact absurd rfl e
  exact kb_plain rfl fun us hl => match us, hl with | [_, _], _ => rfl
theorem ok_is_deed_of {f : Addr} {fd : FuncData} (hA : AdOk A) (F : FunD K "is_deed_of" "is_deed_of" (defArgs s_is_deed_of) (defBody s_is_deed_of) (defScope s_is_deed_of) [] [] f fd) (T : Txt P w K mg base A) (f_is_word_of : FnN P w K mg base 1 "is_word_of" ["thing", "words"] (sp_is_word_of A) [⟨2, [], plainG⟩]) (f_is_name : FnN P w K mg base 1 "is_name" ["thing"] (sp_is_name A) [⟨1, [], plainG⟩]) : FnA P w K mg base 2 f ["deed", "name"] (sp_is_deed_of A) [⟨2, [], plainG⟩] := by
  have nd := (sc_is_deed_of).nd
  refine dfunA (ps := ["deed", "name"]) F (pats_cons (kb_is_deed_of_0 F) (pats_nil)) sc_is_deed_of (len_is_deed_of A) fun cdv Ar l s H E g rm => ⟨t_is_deed_of A, ?_, rd_is_deed_of A hA⟩
  exact s_cons (s_if (t_cmp op_isC lr_is (d_var 1) (d_non) (nomark _)) (s_one (s_ret (d_fnP 0 f_is_word_of g (rm.mono (by decide)) (a_cons (d_var 0) (a_cons (d_gTupS (ss := ["tick", "sleep", "rise"]) T.g_ALL_DEEDS) (a_nil)))))) (s_nil))
    (s_one (s_ret (d_and (d_fnP 0 f_is_name g (rm.mono (by decide)) (a_cons (d_var 1) (a_nil))) (d_one (d_fnP 0 f_is_word_of g (rm.mono (by decide)) (a_cons (d_var 0) (a_cons (d_gTupS (ss := ["gain", "release"]) T.g_OWN_DEEDS) (a_nil))))))))
abbrev s_are_end : Stmt := topS 35
theorem sc_are_end : FnScope N_are_end ["words"] (defScope s_are_end) := ⟨rfl, rfl, rfl, by decide +kernel, rfl, by decide +kernel, by decide +kernel⟩
theorem kb_are_end_0 {f : Addr} {fd : FuncData} (F : FunD K "are_end" "are_end" (defArgs s_are_end) (defBody s_are_end) (defScope s_are_end) [] [] f fd) : KBd K fd ["words"] 1 [] plainG := by
  obtain ⟨oc, od, dV, kV, doc, pm, an, cdv, ct, osl, rfl, lk, hcd, hD, hK⟩ := F.ex
  obtain ⟨_, rfl⟩ | ⟨e, _⟩ := hD
  rotate_left
  · exact absurd rfl e
  exact kb_plain rfl fun us hl => match us, hl with | [_], _ => rfl
theorem ok_are_end {f : Addr} {fd : FuncData} (hA : AdOk A) (F : FunD K "are_end" "are_end" (defArgs s_are_end) (defBody s_are_end) (defScope s_are_end) [] [] f fd) (T : Txt P w K mg base A) (f_is_deed_of : FnN P w K mg base 2 "is_deed_of" ["deed", "name"] (sp_is_deed_of A) [⟨2, [], plainG⟩]) (f_is_word_of : FnN P w K mg base 1 "is_word_of" ["thing", "words"] (sp_is_word_of A) [⟨2, [], plainG⟩]) : FnA P w K mg base 3 f ["words"] (sp_are_end A) [⟨1, [], plainG⟩] := by
  have nd := (sc_are_end).nd
  refine dfunA (ps := ["words"]) F (pats_cons (kb_are_end_0 F) (pats_nil)) sc_are_end (len_are_end A) fun cdv Ar l s H E g rm => ⟨t_are_end A, ?_, rd_are_end A hA⟩
  exact s_cons (s_if (t_w (w_or (t_cmp (op_ne2 rm) lr_ne (d_len T.b_len (a_cons (d_var 0) (a_nil))) (d_int) (nomark _)) (w_or1 (t_not (t_truth (d_fnP 0 f_is_deed_of g (rm.mono (by decide)) (a_cons (d_sub_ix (d_var 0) (d_int)) (a_cons (d_sub_ix (d_var 0) (d_int)) (a_nil))))))))) (s_one (s_ret (d_bl))) (s_nil))
    (s_cons (s_if (t_cmp (op_eqS rm) lr_eqS (d_sub_ix (d_var 0) (d_int)) (d_str) (nomark _)) (s_one (s_ret (d_cmp (op_eqS rm) lr_eqS (d_sub_ix (d_var 0) (d_int)) (d_str) (nomark _)))) (s_nil))
    (s_one (s_ret (d_fnP 0 f_is_word_of g (rm.mono (by decide)) (a_cons (d_sub_ix (d_var 0) (d_int)) (a_cons (d_gTupS (ss := ["done", "busy", "broken"]) T.g_ENDS) (a_nil)))))))
abbrev s_are_begin : Stmt := topS 34
theorem sc_are_begin : FnScope N_are_begin ["words"] (defScope s_are_begin) := ⟨rfl, rfl, rfl, by decide +kernel, rfl, by decide +kernel, by decide +kernel⟩
theorem kb_are_begin_0 {f : Addr} {fd : FuncData} (F : FunD K "are_begin" "are_begin" (defArgs s_are_begin) (defBody s_are_begin) (defScope s_are_begin) [] [] f fd) : KBd K fd ["words"] 1 [] plainG := by
  obtain ⟨oc, od, dV, kV, doc, pm, an, cdv, ct, osl, rfl, lk, hcd, hD, hK⟩ := F.ex
  obtain ⟨_, rfl⟩ | ⟨e, _⟩ := hD
  rotate_left
  · exact absurd rfl e
  exact kb_plain rfl fun us hl => match us, hl with | [_], _ => rfl
theorem ok_are_begin {f : Addr} {fd : FuncData} (hA : AdOk A) (F : FunD K "are_begin" "are_begin" (defArgs s_are_begin) (defBody s_are_begin) (defScope s_are_begin) [] [] f fd) (T : Txt P w K mg base A) (f_is_deed_of : FnN P w K mg base 2 "is_deed_of" ["deed", "name"] (sp_is_deed_of A) [⟨2, [], plainG⟩]) : FnA P w K mg base 3 f ["words"] (sp_are_begin A) [⟨1, [], plainG⟩] := by
  have nd := (sc_are_begin).nd
  refine dfunA (ps := ["words"]) F (pats_cons (kb_are_begin_0 F) (pats_nil)) sc_are_begin (len_are_begin A) fun cdv Ar l s H E g rm => ⟨t_are_begin A, ?_, rd_are_begin A hA⟩
  exact s_one (s_ret (d_and (d_cmp (op_eq2 rm) lr_eq (d_len T.b_len (a_cons (d_var 0) (a_nil))) (d_int) (nomark _)) (d_one (d_fnP 0 f_is_deed_of g (rm.mono (by decide)) (a_cons (d_sub_ix (d_var 0) (d_int)) (a_cons (d_sub_ix (d_var 0) (d_int)) (a_nil)))))))
abbrev s_are_words : Stmt := topS 42
theorem sc_are_words : FnScope N_are_words ["words"] (defScope s_are_words) := ⟨rfl, rfl, rfl, by decide +kernel, rfl, by decide +kernel, by decide +kernel⟩
theorem kb_are_words_0 {f : Addr} {fd : FuncData} (F : FunD K "are_words" "are_words" (defArgs s_are_words) (defBody s_are_words) (defScope s_are_words) [] [] f fd) : KBd K fd ["words"] 1 [] plainG := by
  obtain ⟨oc, od, dV, kV, doc, pm, an, cdv, ct, osl, rfl, lk, hcd, hD, hK⟩ := F.ex
  obtain ⟨_, rfl⟩ | ⟨e, _⟩ := hD
  rotate_left
  · exact absurd rfl e
  exact kb_plain rfl fun us hl => match us, hl with | [_], _ => rfl
theorem ok_are_words {f : Addr} {fd : FuncData} (hA : AdOk A) (F : FunD K "are_words" "are_words" (defArgs s_are_words) (defBody s_are_words) (defScope s_are_words) [] [] f fd) (T : Txt P w K mg base A) (v_are_plug : FvOk P w K mg base 7 "are_plug" A.f_are_plug ["words"] (sp_are_plug A) [⟨1, [], plainG⟩]) (v_are_bell : FvOk P w K mg base 2 "are_bell" A.f_are_bell ["words"] (sp_are_bell A) [⟨1, [], plainG⟩]) (v_are_missed : FvOk P w K mg base 2 "are_missed" A.f_are_missed ["words"] (sp_are_missed A) [⟨1, [], plainG⟩]) (v_are_end : FvOk P w K mg base 3 "are_end" A.f_are_end ["words"] (sp_are_end A) [⟨1, [], plainG⟩]) (v_are_begin : FvOk P w K mg base 3 "are_begin" A.f_are_begin ["words"] (sp_are_begin A) [⟨1, [], plainG⟩]) (f_is_name : FnN P w K mg base 1 "is_name" ["thing"] (sp_is_name A) [⟨1, [], plainG⟩]) : FnA P w K mg base 8 f ["words"] (sp_are_words A) [⟨1, [], plainG⟩] := by
  have nd := (sc_are_words).nd
  refine dfunA (ps := ["words"]) F (pats_cons (kb_are_words_0 F) (pats_nil)) sc_are_words (len_are_words A) fun cdv Ar l s H E g rm => ⟨t_are_words A, ?_, rd_are_words A hA⟩
  exact s_cons (s_if (t_w (w_or (t_not (t_truth (d_isi .tup (fun z => nomatch z) (fun z => nomatch z) T.b_isinstance T.b_tuple (by decide +kernel) (d_var 0)))) (w_or (t_cmp op_lt lr_lt (d_len T.b_len (a_cons (d_var 0) (a_nil))) (d_int) (nomark _)) (w_or1 (t_not (t_truth (d_isi .str (fun z => nomatch z) (fun z => nomatch z) T.b_isinstance T.b_str (by decide +kernel) (d_sub_ix (d_var 0) (d_int))))))))) (s_one (s_ret (d_bl))) (s_nil))
    (s_cons (s_if (t_inMf T.g_FORMS (d_sub_ix (d_var 0) (d_int))) (s_cons (s_set 1 nd (d_ixMf T.g_FORMS (d_sub_ix (d_var 0) (d_int))))
    (s_one (s_ret (d_callV (d_var 1) (.cons 0 v_are_begin (rm.mono (by decide)) rfl (.cons 0 v_are_end (rm.mono (by decide)) rfl (.cons 0 v_are_missed (rm.mono (by decide)) rfl (.cons 0 v_are_bell (rm.mono (by decide)) rfl (.cons 0 v_are_plug (rm.mono (by decide)) rfl .nil))))) g (args_p (a_cons (d_var 0) (a_nil))))))) (s_nil))
    (s_one (s_ret (d_and (d_cmp (op_eq2 rm) lr_eq (d_len T.b_len (a_cons (d_var 0) (a_nil))) (d_int) (nomark _)) (d_and (d_cmp op_in_seq lr_inW1 (d_sub_ix (d_var 0) (d_int)) (d_gTupS (ss := ["waking", "wake", "falling", "doze", "stays", "off", "use", "reset", "unplug", "ready", "sleep", "late", "still", "unready", "unsleep", "unlate", "unstill"]) T.g_NAMED) rfl) (d_one (d_fnP 0 f_is_name g (rm.mono (by decide)) (a_cons (d_sub_ix (d_var 0) (d_int)) (a_nil)))))))))
abbrev s_m_Log_add : Stmt := inClass (topS 44) 1
theorem sc_m_Log_add : FnScope N_m_Log_add ["self", "turn", "words"] (defScope s_m_Log_add) := ⟨rfl, rfl, rfl, by decide +kernel, rfl, by decide +kernel, by decide +kernel⟩
theorem kb_m_Log_add_0 {f : Addr} {fd : FuncData} (F : FunD K "add" "Log.add" (defArgs s_m_Log_add) (defBody s_m_Log_add) (defScope s_m_Log_add) [] [] f fd) : KBd K fd ["self", "turn", "words"] 3 [] plainG := by
  obtain ⟨oc, od, dV, kV, doc, pm, an, cdv, ct, osl, rfl, lk, hcd, hD, hK⟩ := F.ex
  obtain ⟨_, rfl⟩ | ⟨e, _⟩ := hD
  rotate_left
  · exact absurd rfl e
  exact kb_plain rfl fun us hl => match us, hl with | [_, _, _], _ => rfl
theorem ok_m_Log_add {f : Addr} {fd : FuncData} (hA : AdOk A) (F : FunD K "add" "Log.add" (defArgs s_m_Log_add) (defBody s_m_Log_add) (defScope s_m_Log_add) [] [] f fd) (T : Txt P w K mg base A) (f_is_turn : FnN P w K mg base 1 "is_turn" ["thing"] (sp_is_turn A) [⟨1, [], plainG⟩]) (f_are_words : FnN P w K mg base 8 "are_words" ["words"] (sp_are_words A) [⟨1, [], plainG⟩]) : FnA P w K mg base 9 f ["self", "turn", "words"] (sp_m_Log_add A) [⟨3, [], plainG⟩] := by
  have nd := (sc_m_Log_add).nd
  refine dfunA (ps := ["self", "turn", "words"]) F (pats_cons (kb_m_Log_add_0 F) (pats_nil)) sc_m_Log_add (len_m_Log_add A) fun cdv Ar l s H E g rm => ⟨t_m_Log_add A, ?_, rd_m_Log_add A hA⟩
  exact s_cons (s_if (t_not (t_truth (d_fnP 0 f_is_turn g (rm.mono (by decide)) (a_cons (d_var 1) (a_nil))))) (s_one (s_raise T.x_NoNumber g (rm.mono (by decide)) (d_var 1))) (s_nil))
    (s_cons (s_if (t_not (t_truth (d_fnP 0 f_are_words g (rm.mono (by decide)) (a_cons (d_var 2) (a_nil))))) (s_one (s_raise T.x_NoLog g (rm.mono (by decide)) (d_var 2))) (s_nil))
    (s_cons (s_if (t_w (w_and (t_cmp (op_n0 rm) lr_e0 (d_fld (fc_cons T.cl_Log T.na_Log_kept_rows fc_nil) (d_var 0)) (d_lst (a_nil)) (nomark _)) (w_and1 (t_cmp op_lt lr_lt (d_var 1) (d_sub_ix (d_sub_ix (d_fld (fc_cons T.cl_Log T.na_Log_kept_rows fc_nil) (d_var 0)) (d_neg (d_int))) (d_int)) (nomark _))))) (s_one (s_raise T.x_NoNumber g (rm.mono (by decide)) (d_var 1))) (s_nil))
    (s_one (s_expr (d_append (d_fld (fc_cons T.cl_Log T.na_Log_kept_rows fc_nil) (d_var 0)) (d_add5 (d_tup (a_cons (d_var 1) (a_nil))) (d_var 2)))))))
abbrev s__law_told : Stmt := topS 53
theorem sc__law_told : FnScope N__law_told ["_law_log", "_law_turn", "_law_words_here"] (defScope s__law_told) := ⟨rfl, rfl, rfl, by decide +kernel, rfl, by decide +kernel, by decide +kernel⟩
theorem kb__law_told_0 {f : Addr} {fd : FuncData} (F : FunD K "_law_told" "_law_told" (defArgs s__law_told) (defBody s__law_told) (defScope s__law_told) [] [] f fd) : KBd K fd ["_law_log", "_law_turn", "_law_words_here"] 3 [] plainG := by
  obtain ⟨oc, od, dV, kV, doc, pm, an, cdv, ct, osl, rfl, lk, hcd, hD, hK⟩ := F.ex
  obtain ⟨_, rfl⟩ | ⟨e, _⟩ := hD
  rotate_left
  · exact absurd rfl e
  exact kb_plain rfl fun us hl => match us, hl with | [_, _, _], _ => rfl
theorem ok__law_told {f : Addr} {fd : FuncData} (hA : AdOk A) (F : FunD K "_law_told" "_law_told" (defArgs s__law_told) (defBody s__law_told) (defScope s__law_told) [] [] f fd) (T : Txt P w K mg base A) (mt_Log_add : MtOk P w K mg base 9 A.c_Log "add" ["self", "turn", "words"] (sp_m_Log_add A) [⟨3, [], plainG⟩]) : FnA P w K mg base 10 f ["_law_log", "_law_turn", "_law_words_here"] (sp__law_told A) [⟨3, [], plainG⟩] := by
  have nd := (sc__law_told).nd
  refine dfunA (ps := ["_law_log", "_law_turn", "_law_words_here"]) F (pats_cons (kb__law_told_0 F) (pats_nil)) sc__law_told (len__law_told A) fun cdv Ar l s H E g rm => ⟨t__law_told A, ?_, rd__law_told A hA⟩
  exact s_cons (s_set 3 nd (d_non))
    (s_cons (s_tryA T.xm g (fun V pn xe g => s_one (s_set 3 nd (d_lst (a_cons (d_str) (a_cons (d_meth (d_var 0) (.cons 0 mt_Log_add (rm.mono (by decide)) rfl .nil) g (args_p (a_cons (d_var 1) (a_cons (d_var 2) (a_nil))))) (a_nil)))))) (.cons (h := ⟨[.ref A.c_NoNumber], some 4, fun a cls d => dAsg (dLst (dCons (dC (.str "number")) (dCons (dXF a cls d A.c_NoNumber "found" (dVar 4)) (dNil)))) (gdName 3)⟩) (.one ⟨by rfl, by decide, Or.inl T.n_NoNumber⟩) ⟨nd, rfl, rfl⟩ (fun a oe cls d pn hz hf => s_one (s_set 3 nd (d_lst (a_cons (d_str) (a_cons (d_xf T.xf_NoNumber T.xn_NoNumber_found hz hf (d_var 4)) (a_nil)))))) (.cons (h := ⟨[.ref A.c_NoLog], some 4, fun a cls d => dAsg (dLst (dCons (dC (.str "log")) (dCons (dXF a cls d A.c_NoLog "found" (dVar 4)) (dNil)))) (gdName 3)⟩) (.one ⟨by rfl, by decide, Or.inl T.n_NoLog⟩) ⟨nd, rfl, rfl⟩ (fun a oe cls d pn hz hf => s_one (s_set 3 nd (d_lst (a_cons (d_str) (a_cons (d_xf T.xf_NoLog T.xn_NoLog_found hz hf (d_var 4)) (a_nil)))))) (.cons (h := ⟨[.ref A.c_WakeError, .ref A.c_StateError], none, fun a cls d => dAsg (dLst (dCons (dC (.str "other")) (dNil))) (gdName 3)⟩) (.tup (.cons ⟨by rfl, by decide, Or.inl T.n_WakeError⟩ (.cons ⟨by rfl, by decide, Or.inl T.n_StateError⟩ .nil)) (show 2 ≤ sizeLine from by decide)) trivial (fun a oe cls d pn hz hf => s_one (s_set 3 nd (d_lst (a_cons (d_str) (a_nil))))) .nil))))
    (s_one (s_ret (d_var 3))))
abbrev s_m_Log_rows : Stmt := inClass (topS 44) 2
theorem sc_m_Log_rows : FnScope N_m_Log_rows ["self"] (defScope s_m_Log_rows) := ⟨rfl, rfl, rfl, by decide +kernel, rfl, by decide +kernel, by decide +kernel⟩
theorem kb_m_Log_rows_0 {f : Addr} {fd : FuncData} (F : FunD K "rows" "Log.rows" (defArgs s_m_Log_rows) (defBody s_m_Log_rows) (defScope s_m_Log_rows) [] [] f fd) : KBd K fd ["self"] 1 [] plainG := by
  obtain ⟨oc, od, dV, kV, doc, pm, an, cdv, ct, osl, rfl, lk, hcd, hD, hK⟩ := F.ex
  obtain ⟨_, rfl⟩ | ⟨e, _⟩ := hD
  rotate_left
  · exact absurd rfl e
  exact kb_plain rfl fun us hl => match us, hl with | [_], _ => rfl
theorem ok_m_Log_rows {f : Addr} {fd : FuncData} (hA : AdOk A) (F : FunD K "rows" "Log.rows" (defArgs s_m_Log_rows) (defBody s_m_Log_rows) (defScope s_m_Log_rows) [] [] f fd) (T : Txt P w K mg base A) : FnA P w K mg base 1 f ["self"] (sp_m_Log_rows A) [⟨1, [], plainG⟩] := by
  have nd := (sc_m_Log_rows).nd
  refine dfunA (ps := ["self"]) F (pats_cons (kb_m_Log_rows_0 F) (pats_nil)) sc_m_Log_rows (len_m_Log_rows A) fun cdv Ar l s H E g rm => ⟨t_m_Log_rows A, ?_, rd_m_Log_rows A hA⟩
  exact s_one (s_ret (d_listM T.b_list (a_cons (d_fld (fc_cons T.cl_Log T.na_Log_kept_rows fc_nil) (d_var 0)) (a_nil))))
abbrev s__law_refused : Stmt := topS 55
theorem sc__law_refused : FnScope N__law_refused ["_law_box_here", "_law_log", "_law_rows", "_law_words_here"] (defScope s__law_refused) := ⟨rfl, rfl, rfl, by decide +kernel, rfl, by decide +kernel, by decide +kernel⟩
theorem kb__law_refused_0 {f : Addr} {fd : FuncData} (F : FunD K "_law_refused" "_law_refused" (defArgs s__law_refused) (defBody s__law_refused) (defScope s__law_refused) [] [] f fd) : KBd K fd ["_law_box_here", "_law_log", "_law_rows", "_law_words_here"] 4 [] plainG := by
  obtain ⟨oc, od, dV, kV, doc, pm, an, cdv, ct, osl, rfl, lk, hcd, hD, hK⟩ := F.ex
  obtain ⟨_, rfl⟩ | ⟨e, _⟩ := hD
  rotate_left
  · exact absurd rfl e
  exact kb_plain rfl fun us hl => match us, hl with | [_, _, _, _], _ => rfl
theorem ok__law_refused {f : Addr} {fd : FuncData} (hA : AdOk A) (F : FunD K "_law_refused" "_law_refused" (defArgs s__law_refused) (defBody s__law_refused) (defScope s__law_refused) [] [] f fd) (T : Txt P w K mg base A) (f__law_take : FnN P w K mg base 1 "_law_take" ["_law_box_here", "_law_wide"] (sp__law_take A) [⟨2, [], plainG⟩]) (f__law_told : FnN P w K mg base 10 "_law_told" ["_law_log", "_law_turn", "_law_words_here"] (sp__law_told A) [⟨3, [], plainG⟩]) (mt_Log_rows : MtOk P w K mg base 1 A.c_Log "rows" ["self"] (sp_m_Log_rows A) [⟨1, [], plainG⟩]) : FnA P w K mg base 11 f ["_law_box_here", "_law_log", "_law_rows", "_law_words_here"] (sp__law_refused A) [⟨4, [], plainG⟩] := by
  have nd := (sc__law_refused).nd
  refine dfunA (ps := ["_law_box_here", "_law_log", "_law_rows", "_law_words_here"]) F (pats_cons (kb__law_refused_0 F) (pats_nil)) sc__law_refused (len__law_refused A) fun cdv Ar l s H E g rm => ⟨t__law_refused A, ?_, rd__law_refused A hA⟩
  exact s_cons (s_set 4 nd (d_sub_ix (d_lst (a_cons (d_non) (a_cons (d_bl) (a_cons (d_neg (d_int)) (a_cons (d_str) (a_cons (d_lstM (a_cons (d_int) (a_nil))) (a_cons (d_tup (a_nil)) (a_cons (d_dict0) (a_nil))))))))) (d_fnP 0 f__law_take g (rm.mono (by decide)) (a_cons (d_var 0) (a_cons (d_int) (a_nil))))))
    (s_cons (s_set 5 nd (d_sub_ix (d_lst (a_cons (d_non) (a_cons (d_listM T.b_list (a_cons (d_var 3) (a_nil))) (a_cons (d_sl4 (d_var 3) (o_none) (o_some (d_int))) (a_cons (d_add5 (d_var 3) (d_tup (a_cons (d_str) (a_nil)))) (a_cons (d_tup (a_nil)) (a_cons (d_tup (a_cons (d_str) (a_cons (d_str) (a_nil)))) (a_cons (d_int) (a_cons (d_dict0) (a_cons (d_lstM (a_cons (d_var 3) (a_nil))) (a_nil))))))))))) (d_fnP 0 f__law_take g (rm.mono (by decide)) (a_cons (d_var 0) (a_cons (d_int) (a_nil))))))
    (s_cons (s_set 6 nd (d_ifExp (t_cmp (op_n0 rm) lr_e0 (d_var 2) (d_lst (a_nil)) (nomark _)) (d_sub_ix (d_sub_ix (d_var 2) (d_neg (d_int))) (d_int)) (d_int)))
    (s_cons (s_set 7 nd (d_lst (a_cons (d_tup (a_cons (d_var 4) (a_cons (d_var 3) (a_cons (d_lst (a_cons (d_str) (a_cons (d_var 4) (a_nil)))) (a_nil))))) (a_cons (d_tup (a_cons (d_var 4) (a_cons (d_var 5) (a_cons (d_lst (a_cons (d_str) (a_cons (d_var 4) (a_nil)))) (a_nil))))) (a_cons (d_tup (a_cons (d_var 6) (a_cons (d_var 5) (a_cons (d_lst (a_cons (d_str) (a_cons (d_var 5) (a_nil)))) (a_nil))))) (a_nil))))))
    (s_cons (s_if (t_cmp op_gt lr_gt (d_var 6) (d_int) (nomark _)) (s_one (s_set 7 nd (d_add5 (d_var 7) (d_lst (a_cons (d_tup (a_cons (d_sub (d_var 6) (d_int)) (a_cons (d_var 3) (a_cons (d_lst (a_cons (d_str) (a_cons (d_sub (d_var 6) (d_int)) (a_nil)))) (a_nil))))) (a_cons (d_tup (a_cons (d_sub (d_var 6) (d_int)) (a_cons (d_var 5) (a_cons (d_lst (a_cons (d_str) (a_cons (d_var 5) (a_nil)))) (a_nil))))) (a_nil))))))) (s_nil))
    (s_cons (s_for g (i_list (d_var 7)) (g_tup (n := 3) g.calm (gs_cons 8 nd (gs_cons 9 nd (gs_cons 10 nd (gs_nil))))) (s_cons (s_set 11 nd (d_fnP 0 f__law_told g (rm.mono (by decide)) (a_cons (d_var 1) (a_cons (d_var 8) (a_cons (d_var 9) (a_nil))))))
    (s_cons (s_if (t_w (w_or (t_cmp (op_ne2 rm) lr_ne (d_show g.ng rm T.b_repr (d_var 11)) (d_show g.ng rm T.b_repr (d_var 10)) (nomark _)) (w_or1 (t_cmp (op_ne2 rm) lr_ne (d_meth (d_var 1) (.cons 0 mt_Log_rows (rm.mono (by decide)) rfl .nil) g (args_0)) (d_var 2) (nomark _))))) (s_one (s_ret (d_bl))) (s_nil))
    (s_cons (s_if (t_truth (d_isi .lst (fun z => nomatch z) (fun z => nomatch z) T.b_isinstance T.b_list (by decide +kernel) (d_sub_ix (d_var 10) (d_int)))) (s_one (s_expr (d_append (d_sub_ix (d_var 10) (d_int)) (d_str)))) (s_nil))
    (s_one (s_if (t_cmp (op_ne2 rm) lr_ne (d_show g.ng rm T.b_repr (d_var 11)) (d_show g.ng rm T.b_repr (d_var 10)) (nomark _)) (s_one (s_ret (d_bl))) (s_nil)))))))
    (s_one (s_ret (d_bl))))))))
abbrev s_m_Log_copied : Stmt := inClass (topS 44) 5
theorem sc_m_Log_copied : FnScope N_m_Log_copied ["self"] (defScope s_m_Log_copied) := ⟨rfl, rfl, rfl, by decide +kernel, rfl, by decide +kernel, by decide +kernel⟩
theorem kb_m_Log_copied_0 {f : Addr} {fd : FuncData} (F : FunD K "copied" "Log.copied" (defArgs s_m_Log_copied) (defBody s_m_Log_copied) (defScope s_m_Log_copied) [] [] f fd) : KBd K fd ["self"] 1 [] plainG := by
  obtain ⟨oc, od, dV, kV, doc, pm, an, cdv, ct, osl, rfl, lk, hcd, hD, hK⟩ := F.ex
  obtain ⟨_, rfl⟩ | ⟨e, _⟩ := hD
  rotate_left
  · exact absurd rfl e
  exact kb_plain rfl fun us hl => match us, hl with | [_], _ => rfl
theorem ok_m_Log_copied {f : Addr} {fd : FuncData} (hA : AdOk A) (F : FunD K "copied" "Log.copied" (defArgs s_m_Log_copied) (defBody s_m_Log_copied) (defScope s_m_Log_copied) [] [] f fd) (T : Txt P w K mg base A) (k_Log : MkOk P w K mg base 1 "Log" A.c_Log ["self"] (sp_m_Log_init A) [⟨1, [], plainG⟩]) : FnA P w K mg base 3 f ["self"] (sp_m_Log_copied A) [⟨1, [], plainG⟩] := by
  have nd := (sc_m_Log_copied).nd
  refine dfunA (ps := ["self"]) F (pats_cons (kb_m_Log_copied_0 F) (pats_nil)) sc_m_Log_copied (len_m_Log_copied A) fun cdv Ar l s H E g rm => ⟨t_m_Log_copied A, ?_, rd_m_Log_copied A hA⟩
  exact s_cons (s_set 1 nd (d_make 0 k_Log g (rm.mono (by decide)) (args_0)))
    (s_cons (s_fld (fc_cons T.cl_Log T.na_Log_kept_rows fc_nil) (d_var 1) (d_listM T.b_list (a_cons (d_fld (fc_cons T.cl_Log T.na_Log_kept_rows fc_nil) (d_var 0)) (a_nil))))
    (s_one (s_ret (d_var 1))))
abbrev s_m_Log_last : Stmt := inClass (topS 44) 3
theorem sc_m_Log_last : FnScope N_m_Log_last ["self", "many"] (defScope s_m_Log_last) := ⟨rfl, rfl, rfl, by decide +kernel, rfl, by decide +kernel, by decide +kernel⟩
theorem kb_m_Log_last_0 {f : Addr} {fd : FuncData} (F : FunD K "last" "Log.last" (defArgs s_m_Log_last) (defBody s_m_Log_last) (defScope s_m_Log_last) [.int 1] [] f fd) : KBd K fd ["self", "many"] 1 ["many"] pg_m_Log_last_0 := by
  obtain ⟨oc, od, dV, kV, doc, pm, an, cdv, ct, osl, rfl, lk, hcd, hD, hK⟩ := F.ex
  obtain ⟨e, _⟩ | ⟨_, T, o, its, m, rfl, lT, oT, rT⟩ := hD
  · cases e
  obtain ⟨d0, its_0, rfl, rd0, rT_0⟩ := vals_cons rT
  cases rT_0
  intro s I us_0 ws_0 vs_0 zs_0 ds_0 es_0 X lu_0 lw_0 r1_0 r2_0 q1_0 q2_0
  obtain ⟨u0, us_1, rfl, lu_1⟩ := len_cons lu_0
  cases len_nil lu_1
  obtain ⟨w0, ws_1, rfl, lw_1⟩ := len_cons lw_0
  cases len_nil lw_1
  obtain ⟨v0, vs_1, rfl, ru0, r1_1⟩ := vals_consR r1_0
  obtain ⟨a0, ds_1, rfl, qa0, q1_1⟩ := reps_consL q1_0
  cases r1_1
  cases q1_1
  obtain ⟨z0, zs_1, rfl, rw0, r2_1⟩ := vals_consR r2_0
  obtain ⟨b0, es_1, rfl, qb0, q2_1⟩ := reps_consL q2_0
  cases r2_1
  cases q2_1
  refine ⟨[u0, w0], [v0, z0], BindsTo.of_looks fun M => ?_, .cons (ru0) (.cons (rw0) (.nil)), .cons (qa0) (.cons (qb0) (.nil))⟩
  have hk : ∃ k, bindArgs (PySem.W.fnOf "last" "Log.last" (defArgs s_m_Log_last) (defBody s_m_Log_last) (defScope s_m_Log_last) (.ref T) kV doc pm an cdv ct) ⟨[u0], [("many", w0)]⟩ = seqItems? (.ref T) >>= k ∧ k (some [d0].toArray) = (pure ([("self", u0), ("many", w0)] : List (Str × Value)) : Sem (List (Str × Value))) := by
    refine ⟨_, rfl, ?_⟩
    rfl
  obtain ⟨k, e1, e2⟩ := hk
  refine Eq.mpr (congrArg (fun t => PySem.W.Looks M s.heap t _) e1) ?_
  exact looks_items X lT oT (.of_pure e2)
theorem kb_m_Log_last_1 {f : Addr} {fd : FuncData} (F : FunD K "last" "Log.last" (defArgs s_m_Log_last) (defBody s_m_Log_last) (defScope s_m_Log_last) [.int 1] [] f fd) : KBd K fd ["self", "many"] 2 [] pg_m_Log_last_1 := by
  obtain ⟨oc, od, dV, kV, doc, pm, an, cdv, ct, osl, rfl, lk, hcd, hD, hK⟩ := F.ex
  obtain ⟨e, _⟩ | ⟨_, T, o, its, m, rfl, lT, oT, rT⟩ := hD
  · cases e
  obtain ⟨d0, its_0, rfl, rd0, rT_0⟩ := vals_cons rT
  cases rT_0
  intro s I us_0 ws_0 vs_0 zs_0 ds_0 es_0 X lu_0 lw_0 r1_0 r2_0 q1_0 q2_0
  obtain ⟨u0, us_1, rfl, lu_1⟩ := len_cons lu_0
  obtain ⟨u1, us_2, rfl, lu_2⟩ := len_cons lu_1
  cases len_nil lu_2
  cases len_nil lw_0
  obtain ⟨v0, vs_1, rfl, ru0, r1_1⟩ := vals_consR r1_0
  obtain ⟨a0, ds_1, rfl, qa0, q1_1⟩ := reps_consL q1_0
  obtain ⟨v1, vs_2, rfl, ru1, r1_2⟩ := vals_consR r1_1
  obtain ⟨a1, ds_2, rfl, qa1, q1_2⟩ := reps_consL q1_1
  cases r1_2
  cases q1_2
  cases r2_0
  cases q2_0
  refine ⟨[u0, u1], [v0, v1], BindsTo.of_looks fun M => ?_, .cons (ru0) (.cons (ru1) (.nil)), .cons (qa0) (.cons (qa1) (.nil))⟩
  have hk : ∃ k, bindArgs (PySem.W.fnOf "last" "Log.last" (defArgs s_m_Log_last) (defBody s_m_Log_last) (defScope s_m_Log_last) (.ref T) kV doc pm an cdv ct) ⟨[u0, u1], []⟩ = seqItems? (.ref T) >>= k ∧ k (some [d0].toArray) = (pure ([("self", u0), ("many", u1)] : List (Str × Value)) : Sem (List (Str × Value))) := by
    refine ⟨_, rfl, ?_⟩
    rfl
  obtain ⟨k, e1, e2⟩ := hk
  refine Eq.mpr (congrArg (fun t => PySem.W.Looks M s.heap t _) e1) ?_
  exact looks_items X lT oT (.of_pure e2)
theorem kb_m_Log_last_2 {f : Addr} {fd : FuncData} (F : FunD K "last" "Log.last" (defArgs s_m_Log_last) (defBody s_m_Log_last) (defScope s_m_Log_last) [.int 1] [] f fd) : KBd K fd ["self", "many"] 1 [] pg_m_Log_last_2 := by
  obtain ⟨oc, od, dV, kV, doc, pm, an, cdv, ct, osl, rfl, lk, hcd, hD, hK⟩ := F.ex
  obtain ⟨e, _⟩ | ⟨_, T, o, its, m, rfl, lT, oT, rT⟩ := hD
  · cases e
  obtain ⟨d0, its_0, rfl, rd0, rT_0⟩ := vals_cons rT
  cases rT_0
  intro s I us_0 ws_0 vs_0 zs_0 ds_0 es_0 X lu_0 lw_0 r1_0 r2_0 q1_0 q2_0
  obtain ⟨u0, us_1, rfl, lu_1⟩ := len_cons lu_0
  cases len_nil lu_1
  cases len_nil lw_0
  obtain ⟨v0, vs_1, rfl, ru0, r1_1⟩ := vals_consR r1_0
  obtain ⟨a0, ds_1, rfl, qa0, q1_1⟩ := reps_consL q1_0
  cases r1_1
  cases q1_1
  cases r2_0
  cases q2_0
  refine ⟨[u0, d0], [v0, (.int 1)], BindsTo.of_looks fun M => ?_, .cons (ru0) (.cons (rd0) (.nil)), .cons (qa0) (.cons (.int _) (.nil))⟩
  have hk : ∃ k, bindArgs (PySem.W.fnOf "last" "Log.last" (defArgs s_m_Log_last) (defBody s_m_Log_last) (defScope s_m_Log_last) (.ref T) kV doc pm an cdv ct) ⟨[u0], []⟩ = seqItems? (.ref T) >>= k ∧ k (some [d0].toArray) = (pure ([("self", u0), ("many", d0)] : List (Str × Value)) : Sem (List (Str × Value))) := by
    refine ⟨_, rfl, ?_⟩
    rfl
  obtain ⟨k, e1, e2⟩ := hk
  refine Eq.mpr (congrArg (fun t => PySem.W.Looks M s.heap t _) e1) ?_
  exact looks_items X lT oT (.of_pure e2)
theorem ok_m_Log_last {f : Addr} {fd : FuncData} (hA : AdOk A) (F : FunD K "last" "Log.last" (defArgs s_m_Log_last) (defBody s_m_Log_last) (defScope s_m_Log_last) [.int 1] [] f fd) (T : Txt P w K mg base A) (f_is_whole : FnN P w K mg base 1 "is_whole" ["thing", "low", "high"] (sp_is_whole A) [⟨3, [], plainG⟩]) : FnA P w K mg base 3 f ["self", "many"] (sp_m_Log_last A) [⟨1, ["many"], pg_m_Log_last_0⟩, ⟨2, [], pg_m_Log_last_1⟩, ⟨1, [], pg_m_Log_last_2⟩] := by
  have nd := (sc_m_Log_last).nd
  refine dfunA (ps := ["self", "many"]) F (pats_cons (kb_m_Log_last_0 F) (pats_cons (kb_m_Log_last_1 F) (pats_cons (kb_m_Log_last_2 F) (pats_nil)))) sc_m_Log_last (len_m_Log_last A) fun cdv Ar l s H E g rm => ⟨t_m_Log_last A, ?_, rd_m_Log_last A hA⟩
  exact s_cons (s_if (t_not (t_truth (d_fnP 0 f_is_whole g (rm.mono (by decide)) (a_cons (d_var 1) (a_cons (d_int) (a_cons (d_gInt T.g_MOST_TOLD) (a_nil))))))) (s_one (s_raise T.x_NoNumber g (rm.mono (by decide)) (d_var 1))) (s_nil))
    (s_one (s_ret (d_sl4M (d_fld (fc_cons T.cl_Log T.na_Log_kept_rows fc_nil) (d_var 0)) (o_some (d_neg (d_var 1))) (o_none))))
abbrev s_m_Log_len : Stmt := inClass (topS 44) 4
theorem sc_m_Log_len : FnScope N_m_Log_len ["self"] (defScope s_m_Log_len) := ⟨rfl, rfl, rfl, by decide +kernel, rfl, by decide +kernel, by decide +kernel⟩
theorem kb_m_Log_len_0 {f : Addr} {fd : FuncData} (F : FunD K "__len__" "Log.__len__" (defArgs s_m_Log_len) (defBody s_m_Log_len) (defScope s_m_Log_len) [] [] f fd) : KBd K fd ["self"] 1 [] plainG := by
  obtain ⟨oc, od, dV, kV, doc, pm, an, cdv, ct, osl, rfl, lk, hcd, hD, hK⟩ := F.ex
  obtain ⟨_, rfl⟩ | ⟨e, _⟩ := hD
  rotate_left
  · exact absurd rfl e
  exact kb_plain rfl fun us hl => match us, hl with | [_], _ => rfl
theorem ok_m_Log_len {f : Addr} {fd : FuncData} (hA : AdOk A) (F : FunD K "__len__" "Log.__len__" (defArgs s_m_Log_len) (defBody s_m_Log_len) (defScope s_m_Log_len) [] [] f fd) (T : Txt P w K mg base A) : FnA P w K mg base 1 f ["self"] (sp_m_Log_len A) [⟨1, [], plainG⟩] := by
  have nd := (sc_m_Log_len).nd
  refine dfunA (ps := ["self"]) F (pats_cons (kb_m_Log_len_0 F) (pats_nil)) sc_m_Log_len (len_m_Log_len A) fun cdv Ar l s H E g rm => ⟨t_m_Log_len A, ?_, rd_m_Log_len A hA⟩
  exact s_one (s_ret (d_len T.b_len (a_cons (d_fld (fc_cons T.cl_Log T.na_Log_kept_rows fc_nil) (d_var 0)) (a_nil))))
abbrev s__law_last : Stmt := topS 54
theorem sc__law_last : FnScope N__law_last ["_law_log", "_law_wide"] (defScope s__law_last) := ⟨rfl, rfl, rfl, by decide +kernel, rfl, by decide +kernel, by decide +kernel⟩
theorem kb__law_last_0 {f : Addr} {fd : FuncData} (F : FunD K "_law_last" "_law_last" (defArgs s__law_last) (defBody s__law_last) (defScope s__law_last) [] [] f fd) : KBd K fd ["_law_log", "_law_wide"] 2 [] plainG := by
  obtain ⟨oc, od, dV, kV, doc, pm, an, cdv, ct, osl, rfl, lk, hcd, hD, hK⟩ := F.ex
  obtain ⟨_, rfl⟩ | ⟨e, _⟩ := hD
  rotate_left
  · exact absurd rfl e
  exact kb_plain rfl fun us hl => match us, hl with | [_, _], _ => rfl
theorem ok__law_last {f : Addr} {fd : FuncData} (hA : AdOk A) (F : FunD K "_law_last" "_law_last" (defArgs s__law_last) (defBody s__law_last) (defScope s__law_last) [] [] f fd) (T : Txt P w K mg base A) (mt_Log_last : MtOk P w K mg base 3 A.c_Log "last" ["self", "many"] (sp_m_Log_last A) [⟨1, ["many"], pg_m_Log_last_0⟩, ⟨2, [], pg_m_Log_last_1⟩, ⟨1, [], pg_m_Log_last_2⟩]) : FnA P w K mg base 4 f ["_law_log", "_law_wide"] (sp__law_last A) [⟨2, [], plainG⟩] := by
  have nd := (sc__law_last).nd
  refine dfunA (ps := ["_law_log", "_law_wide"]) F (pats_cons (kb__law_last_0 F) (pats_nil)) sc__law_last (len__law_last A) fun cdv Ar l s H E g rm => ⟨t__law_last A, ?_, rd__law_last A hA⟩
  exact s_cons (s_set 2 nd (d_non))
    (s_cons (s_tryA T.xm g (fun V pn xe g => s_one (s_set 2 nd (d_meth (d_var 0) (.cons 1 mt_Log_last (rm.mono (by decide)) rfl .nil) g (args_p (a_cons (d_var 1) (a_nil)))))) (.cons (h := ⟨[.ref A.c_NoNumber], some 3, fun a cls d => dAsg (dLst (dCons (dC (.str "number")) (dCons (dXF a cls d A.c_NoNumber "found" (dVar 3)) (dNil)))) (gdName 2)⟩) (.one ⟨by rfl, by decide, Or.inl T.n_NoNumber⟩) ⟨nd, rfl, rfl⟩ (fun a oe cls d pn hz hf => s_one (s_set 2 nd (d_lst (a_cons (d_str) (a_cons (d_xf T.xf_NoNumber T.xn_NoNumber_found hz hf (d_var 3)) (a_nil)))))) (.cons (h := ⟨[.ref A.c_WakeError, .ref A.c_StateError], none, fun a cls d => dAsg (dLst (dCons (dC (.str "other")) (dNil))) (gdName 2)⟩) (.tup (.cons ⟨by rfl, by decide, Or.inl T.n_WakeError⟩ (.cons ⟨by rfl, by decide, Or.inl T.n_StateError⟩ .nil)) (show 2 ≤ sizeLine from by decide)) trivial (fun a oe cls d pn hz hf => s_one (s_set 2 nd (d_lst (a_cons (d_str) (a_nil))))) .nil)))
    (s_one (s_ret (d_var 2))))
abbrev s__law_stands : Stmt := topS 56
theorem sc__law_stands : FnScope N__law_stands ["_law_box_here", "_law_log", "_law_rows"] (defScope s__law_stands) := ⟨rfl, rfl, rfl, by decide +kernel, rfl, by decide +kernel, by decide +kernel⟩
theorem kb__law_stands_0 {f : Addr} {fd : FuncData} (F : FunD K "_law_stands" "_law_stands" (defArgs s__law_stands) (defBody s__law_stands) (defScope s__law_stands) [] [] f fd) : KBd K fd ["_law_box_here", "_law_log", "_law_rows"] 3 [] plainG := by
  obtain ⟨oc, od, dV, kV, doc, pm, an, cdv, ct, osl, rfl, lk, hcd, hD, hK⟩ := F.ex
  obtain ⟨_, rfl⟩ | ⟨e, _⟩ := hD
  rotate_left
  · exact absurd rfl e
  exact kb_plain rfl fun us hl => match us, hl with | [_, _, _], _ => rfl
theorem ok__law_stands {f : Addr} {fd : FuncData} (hA : AdOk A) (F : FunD K "_law_stands" "_law_stands" (defArgs s__law_stands) (defBody s__law_stands) (defScope s__law_stands) [] [] f fd) (T : Txt P w K mg base A) (f__law_take : FnN P w K mg base 1 "_law_take" ["_law_box_here", "_law_wide"] (sp__law_take A) [⟨2, [], plainG⟩]) (mt_Log_last : MtOk P w K mg base 3 A.c_Log "last" ["self", "many"] (sp_m_Log_last A) [⟨1, ["many"], pg_m_Log_last_0⟩, ⟨2, [], pg_m_Log_last_1⟩, ⟨1, [], pg_m_Log_last_2⟩]) (mt_Log_len : MtOk P w K mg base 1 A.c_Log "__len__" ["self"] (sp_m_Log_len A) [⟨1, [], plainG⟩]) (mt_Log_rows : MtOk P w K mg base 1 A.c_Log "rows" ["self"] (sp_m_Log_rows A) [⟨1, [], plainG⟩]) (f__law_last : FnN P w K mg base 4 "_law_last" ["_law_log", "_law_wide"] (sp__law_last A) [⟨2, [], plainG⟩]) : FnA P w K mg base 5 f ["_law_box_here", "_law_log", "_law_rows"] (sp__law_stands A) [⟨3, [], plainG⟩] := by
  have nd := (sc__law_stands).nd
  refine dfunA (ps := ["_law_box_here", "_law_log", "_law_rows"]) F (pats_cons (kb__law_stands_0 F) (pats_nil)) sc__law_stands (len__law_stands A) fun cdv Ar l s H E g rm => ⟨t__law_stands A, ?_, rd__law_stands A hA⟩
  exact s_cons (s_set 3 nd (d_sub_ix (d_lst (a_cons (d_int) (a_cons (d_int) (a_cons (d_int) (a_cons (d_add5 (d_int) (d_fnP 0 f__law_take g (rm.mono (by decide)) (a_cons (d_var 0) (a_cons (d_int) (a_nil))))) (a_nil)))))) (d_fnP 0 f__law_take g (rm.mono (by decide)) (a_cons (d_var 0) (a_cons (d_int) (a_nil))))))
    (s_cons (s_set 4 nd (d_sub_ix (d_lst (a_cons (d_int) (a_cons (d_int) (a_cons (d_non) (a_cons (d_bl) (a_cons (d_str) (a_cons (d_lst (a_cons (d_int) (a_nil))) (a_cons (d_neg (d_int)) (a_cons (d_pow (d_int) (d_int)) (a_nil)))))))))) (d_fnP 0 f__law_take g (rm.mono (by decide)) (a_cons (d_var 0) (a_cons (d_int) (a_nil))))))
    (s_cons (s_set 5 nd (d_lst (a_cons (d_meth (d_var 1) (.cons 0 mt_Log_rows (rm.mono (by decide)) rfl .nil) g (args_0)) (a_cons (d_meth (d_var 1) (.cons 2 mt_Log_last (rm.mono (by decide)) rfl .nil) g (args_0)) (a_cons (d_meth (d_var 1) (.cons 1 mt_Log_last (rm.mono (by decide)) rfl .nil) g (args_p (a_cons (d_var 3) (a_nil)))) (a_cons (d_lenO 0 mt_Log_len T.b_len g (rm.mono (by decide)) (d_var 1)) (a_cons (d_meth (d_var 1) (.cons 0 mt_Log_last (rm.mono (by decide)) rfl .nil) g (args_k (k_cons (d_var 3) (k_nil)))) (a_nil))))))))
    (s_cons (s_if (t_cmp (op_ne2 rm) lr_ne (d_show g.ng rm T.b_repr (d_var 5)) (d_show g.ng rm T.b_repr (d_lst (a_cons (d_var 2) (a_cons (d_sl4 (d_var 2) (o_some (d_neg (d_int))) (o_none)) (a_cons (d_sl4 (d_var 2) (o_some (d_neg (d_var 3))) (o_none)) (a_cons (d_len T.b_len (a_cons (d_var 2) (a_nil))) (a_cons (d_sl4 (d_var 2) (o_some (d_neg (d_var 3))) (o_none)) (a_nil)))))))) (nomark _)) (s_one (s_ret (d_bl))) (s_nil))
    (s_cons (s_for g (i_list (d_sl4 (d_var 5) (o_none) (o_some (d_int)))) (g_name 6 nd) (s_one (s_expr (d_append (d_var 6) (d_non)))))
    (s_one (s_ret (d_cmp (op_eq2 rm) lr_eq (d_show g.ng rm T.b_repr (d_fnP 0 f__law_last g (rm.mono (by decide)) (a_cons (d_var 1) (a_cons (d_var 4) (a_nil))))) (d_show g.ng rm T.b_repr (d_lst (a_cons (d_str) (a_cons (d_var 4) (a_nil))))) (nomark _))))))))
abbrev s_law : Stmt := topS 57
theorem sc_law : FnScope N_law ["_law_script"] (defScope s_law) := ⟨rfl, rfl, rfl, by decide +kernel, rfl, by decide +kernel, by decide +kernel⟩
theorem ok_law {f : Addr} {fd : FuncData} (hA : AdOk A) (F : L2.Fun K "law" "law" s_law f fd) (hm : mg "law" = some (.ref f)) (T : Txt P w K mg base A) (k_Log : MkOk P w K mg base 1 "Log" A.c_Log ["self"] (sp_m_Log_init A) [⟨1, [], plainG⟩]) (f__law_box : FnN P w K mg base 1 "_law_box" ["_law_cell_here"] (sp__law_box A) [⟨1, [], plainG⟩]) (f__law_cell : FnN P w K mg base 1 "_law_cell" ["_law_script", "_law_k"] (sp__law_cell A) [⟨2, [], plainG⟩]) (f__law_take : FnN P w K mg base 1 "_law_take" ["_law_box_here", "_law_wide"] (sp__law_take A) [⟨2, [], plainG⟩]) (f__law_names : FnN P w K mg base 2 "_law_names" ["_law_box_here", "_law_wide"] (sp__law_names A) [⟨2, [], plainG⟩]) (f__law_words : FnN P w K mg base 3 "_law_words" ["_law_box_here", "_law_names_here"] (sp__law_words A) [⟨2, [], plainG⟩]) (f__law_told : FnN P w K mg base 10 "_law_told" ["_law_log", "_law_turn", "_law_words_here"] (sp__law_told A) [⟨3, [], plainG⟩]) (f__law_refused : FnN P w K mg base 11 "_law_refused" ["_law_box_here", "_law_log", "_law_rows", "_law_words_here"] (sp__law_refused A) [⟨4, [], plainG⟩]) (mt_Log_copied : MtOk P w K mg base 3 A.c_Log "copied" ["self"] (sp_m_Log_copied A) [⟨1, [], plainG⟩]) (f__law_stands : FnN P w K mg base 5 "_law_stands" ["_law_box_here", "_law_log", "_law_rows"] (sp__law_stands A) [⟨3, [], plainG⟩]) : Fn P w K mg base 12 "law" ["_law_script"] spLaw := by
  have nd := (sc_law).nd
  refine dfun (ps := ["_law_script"]) F hm (fun _ _ _ _ _ _ us hl => match us, hl with | [_], _ => rfl) sc_law (len_law A) fun cdv Ar l s H E g rm => ⟨t_law A, ?_, rd_law A hA⟩
  exact s_cons (s_par2 1 2 g nd (a_cons (d_lstM (a_cons (d_make 0 k_Log g (rm.mono (by decide)) (args_0)) (a_cons (d_make 0 k_Log g (rm.mono (by decide)) (args_0)) (a_nil)))) (a_cons (d_lstM (a_cons (d_lstM (a_nil)) (a_cons (d_lstM (a_nil)) (a_nil)))) (a_nil))))
    (s_cons (s_for g (i_range1 T.b_range (a_cons (d_max g T.b_max (a_cons (d_int) (a_cons (d_min g T.b_min (a_cons (d_int) (a_cons (d_len T.b_len (a_cons (d_var 0) (a_nil))) (a_nil)))) (a_nil)))) (a_nil))) (g_name 3 nd) (s_cons (s_set 4 nd (d_fnP 0 f__law_box g (rm.mono (by decide)) (a_cons (d_fnP 0 f__law_cell g (rm.mono (by decide)) (a_cons (d_var 0) (a_cons (d_var 3) (a_nil)))) (a_nil))))
    (s_cons (s_par2 5 6 g nd (a_cons (d_cmp (op_eq2 rm) lr_eq (d_fnP 0 f__law_take g (rm.mono (by decide)) (a_cons (d_var 4) (a_cons (d_int) (a_nil)))) (d_int) (nomark _)) (a_cons (d_fnP 0 f__law_take g (rm.mono (by decide)) (a_cons (d_var 4) (a_cons (d_int) (a_nil)))) (a_nil))))
    (s_cons (s_set 7 nd (d_fnP 0 f__law_names g (rm.mono (by decide)) (a_cons (d_var 4) (a_cons (d_add5 (d_int) (d_fnP 0 f__law_take g (rm.mono (by decide)) (a_cons (d_var 4) (a_cons (d_int) (a_nil))))) (a_nil)))))
    (s_cons (s_for g (i_range1 T.b_range (a_cons (d_add5 (d_int) (d_fnP 0 f__law_take g (rm.mono (by decide)) (a_cons (d_var 4) (a_cons (d_int) (a_nil))))) (a_nil))) (g_name 8 nd) (s_cons (s_set 9 nd (d_fnP 0 f__law_words g (rm.mono (by decide)) (a_cons (d_var 4) (a_cons (d_var 7) (a_nil)))))
    (s_cons (s_set 10 nd (d_add5 (d_ifExp (t_cmp (op_n0 rm) lr_e0 (d_sub_ix (d_var 2) (d_var 6)) (d_lst (a_nil)) (nomark _)) (d_sub_ix (d_sub_ix (d_sub_ix (d_var 2) (d_var 6)) (d_neg (d_int))) (d_int)) (d_int)) (d_sub_ix (d_lst (a_cons (d_int) (a_cons (d_int) (a_cons (d_fnP 0 f__law_take g (rm.mono (by decide)) (a_cons (d_var 4) (a_cons (d_int) (a_nil)))) (a_nil))))) (d_fnP 0 f__law_take g (rm.mono (by decide)) (a_cons (d_var 4) (a_cons (d_int) (a_nil)))))))
    (s_cons (s_if (t_cmp (op_ne2 rm) lr_ne (d_show g.ng rm T.b_repr (d_fnP 0 f__law_told g (rm.mono (by decide)) (a_cons (d_sub_ix (d_var 1) (d_var 6)) (a_cons (d_var 10) (a_cons (d_var 9) (a_nil)))))) (d_show g.ng rm T.b_repr (d_lst (a_cons (d_str) (a_cons (d_non) (a_nil))))) (nomark _)) (s_one (s_ret (d_bl))) (s_nil))
    (s_one (s_expr (d_append (d_sub_ix (d_var 2) (d_var 6)) (d_add5 (d_tup (a_cons (d_var 10) (a_nil))) (d_var 9)))))))))
    (s_cons (s_if (t_not (t_truth (d_fnP 0 f__law_refused g (rm.mono (by decide)) (a_cons (d_var 4) (a_cons (d_sub_ix (d_var 1) (d_var 6)) (a_cons (d_sub_ix (d_var 2) (d_var 6)) (a_cons (d_fnP 0 f__law_words g (rm.mono (by decide)) (a_cons (d_var 4) (a_cons (d_var 7) (a_nil)))) (a_nil)))))))) (s_one (s_ret (d_bl))) (s_nil))
    (s_cons (s_if (t_truth (d_var 5)) (s_one (s_asg (d_tup (a_cons (d_meth (d_sub_ix (d_var 1) (d_var 6)) (.cons 0 mt_Log_copied (rm.mono (by decide)) rfl .nil) g (args_0)) (a_cons (d_listM T.b_list (a_cons (d_sub_ix (d_var 2) (d_var 6)) (a_nil))) (a_nil)))) (g_tupG (n := 2) g.calm (gl_cons (g_subL (d_var 1) (d_sub (d_int) (d_var 6))) (gl_cons (g_subL (d_var 2) (d_sub (d_int) (d_var 6))) (gl_nil) (mono_nil)) ((mono_cons (mono_subE _ _ _) mono_nil)))))) (s_nil))
    (s_one (s_for g (i_zip T.b_zip (a_cons (d_var 1) (a_cons (d_var 2) (a_nil)))) (g_tup (n := 2) g.calm (gs_cons 11 nd (gs_cons 12 nd (gs_nil)))) (s_one (s_if (t_not (t_truth (d_fnP 0 f__law_stands g (rm.mono (by decide)) (a_cons (d_var 4) (a_cons (d_var 11) (a_cons (d_var 12) (a_nil))))))) (s_one (s_ret (d_bl))) (s_nil))))))))))))
    (s_one (s_ret (d_bl))))
end
theorem all_mk {P : Program} {w : World} {K : PySem.W.Frag} {h : Heap} {mg : Str → Option Value} {fa : Addr} {C_Log : Addr} {C_NoNumber : Addr} {C_NoName : Addr} {C_Device : Addr} {C_NoLog : Addr} {C_WakeError : Addr} {C_StateError : Addr} {fI_NoNumber W_NoNumber N_NoNumber_ : Addr} {nm_NoNumber q_NoNumber : Str} {bs_NoNumber : List Value} {sn_NoNumber : List Str} {sub_NoNumber : List Value} {ab_NoNumber : Bool} {col_NoNumber : Option Bool} {dd_NoNumber : Option Addr} {m0_NoNumber m1_NoNumber m2_NoNumber m3_NoNumber m5_NoNumber : Option Value} {od_NoNumber an_NoNumber : Option Addr} {sl_NoNumber : Array (Option Value)} {oc_NoNumber kV_NoNumber dc_NoNumber pm_NoNumber cd_NoNumber ct_NoNumber : Value} {fI_NoName W_NoName N_NoName_ : Addr} {nm_NoName q_NoName : Str} {bs_NoName : List Value} {sn_NoName : List Str} {sub_NoName : List Value} {ab_NoName : Bool} {col_NoName : Option Bool} {dd_NoName : Option Addr} {m0_NoName m1_NoName m2_NoName m3_NoName m5_NoName : Option Value} {od_NoName an_NoName : Option Addr} {sl_NoName : Array (Option Value)} {oc_NoName kV_NoName dc_NoName pm_NoName cd_NoName ct_NoName : Value} {fI_NoLog W_NoLog N_NoLog_ : Addr} {nm_NoLog q_NoLog : Str} {bs_NoLog : List Value} {sn_NoLog : List Str} {sub_NoLog : List Value} {ab_NoLog : Bool} {col_NoLog : Option Bool} {dd_NoLog : Option Addr} {m0_NoLog m1_NoLog m2_NoLog m3_NoLog m5_NoLog : Option Value} {od_NoLog an_NoLog : Option Addr} {sl_NoLog : Array (Option Value)} {oc_NoLog kV_NoLog dc_NoLog pm_NoLog cd_NoLog ct_NoLog : Value} {tk_g_MOST_LETTERS : Tok} {tk_g_LETTERS : Tok} {tk_g_MOST_BURN : Tok} {tk_g_MOST_STEPS : Tok} {tk_g_MOST_REST : Tok} {tk_g_MOST_LINKS : Tok} {Tp_g_BELLS : Addr} {dTp_g_BELLS : Option Addr} {nTp_g_BELLS : Nat} {sTp_g_BELLS : Array (Option Value)} {tk0_g_BELLS tk1_g_BELLS tk2_g_BELLS tk3_g_BELLS : Tok} {Tp_g_ALL_DEEDS : Addr} {dTp_g_ALL_DEEDS : Option Addr} {nTp_g_ALL_DEEDS : Nat} {sTp_g_ALL_DEEDS : Array (Option Value)} {tk0_g_ALL_DEEDS tk1_g_ALL_DEEDS tk2_g_ALL_DEEDS : Tok} {Tp_g_OWN_DEEDS : Addr} {dTp_g_OWN_DEEDS : Option Addr} {nTp_g_OWN_DEEDS : Nat} {sTp_g_OWN_DEEDS : Array (Option Value)} {tk0_g_OWN_DEEDS tk1_g_OWN_DEEDS : Tok} {Tp_g_ENDS : Addr} {dTp_g_ENDS : Option Addr} {nTp_g_ENDS : Nat} {sTp_g_ENDS : Array (Option Value)} {tk0_g_ENDS tk1_g_ENDS tk2_g_ENDS : Tok} {Md_FORMS : Addr} {Es_FORMS : Array DictEntry} {Ne_FORMS : Nat} {Tp_g_NAMED : Addr} {dTp_g_NAMED : Option Addr} {nTp_g_NAMED : Nat} {sTp_g_NAMED : Array (Option Value)} {tk0_g_NAMED tk1_g_NAMED tk2_g_NAMED tk3_g_NAMED tk4_g_NAMED tk5_g_NAMED tk6_g_NAMED tk7_g_NAMED tk8_g_NAMED tk9_g_NAMED tk10_g_NAMED tk11_g_NAMED tk12_g_NAMED tk13_g_NAMED tk14_g_NAMED tk15_g_NAMED tk16_g_NAMED : Tok} {tk_g_MOST_TOLD : Tok} {f0 : Addr} {od0 an0 : Option Addr} {sl0 : Array (Option Value)} {oc0 kV0 dc0 pm0 cd0 ct0 : Value} {f1 : Addr} {od1 an1 : Option Addr} {sl1 : Array (Option Value)} {oc1 kV1 dc1 pm1 cd1 ct1 : Value} {f2 : Addr} {od2 an2 : Option Addr} {sl2 : Array (Option Value)} {oc2 kV2 dc2 pm2 cd2 ct2 : Value} {f3 : Addr} {od3 an3 : Option Addr} {sl3 : Array (Option Value)} {oc3 kV3 dc3 pm3 cd3 ct3 : Value} {f4 : Addr} {od4 an4 : Option Addr} {sl4 : Array (Option Value)} {oc4 kV4 dc4 pm4 cd4 ct4 : Value} {f5 : Addr} {od5 an5 : Option Addr} {sl5 : Array (Option Value)} {oc5 kV5 dc5 pm5 cd5 ct5 : Value} {f6 : Addr} {od6 an6 : Option Addr} {sl6 : Array (Option Value)} {oc6 kV6 dc6 pm6 cd6 ct6 : Value} {f7 : Addr} {od7 an7 : Option Addr} {sl7 : Array (Option Value)} {oc7 kV7 dc7 pm7 cd7 ct7 : Value} {f8 : Addr} {od8 an8 : Option Addr} {sl8 : Array (Option Value)} {oc8 kV8 dc8 pm8 cd8 ct8 : Value} {f9 : Addr} {od9 an9 : Option Addr} {sl9 : Array (Option Value)} {oc9 kV9 dc9 pm9 cd9 ct9 : Value} {f10 : Addr} {od10 an10 : Option Addr} {sl10 : Array (Option Value)} {oc10 kV10 dc10 pm10 cd10 ct10 : Value} {f11 : Addr} {od11 an11 : Option Addr} {sl11 : Array (Option Value)} {oc11 kV11 dc11 pm11 cd11 ct11 : Value} {f12 : Addr} {od12 an12 : Option Addr} {sl12 : Array (Option Value)} {oc12 dc12 pm12 cd12 ct12 : Value} {t12_burn : Tok} {t12_sip : Tok} {t12_wake : Tok} {t12_fall : Tok} {t12_rest : Tok} {Dk12 : Addr} {f13 : Addr} {od13 an13 : Option Addr} {sl13 : Array (Option Value)} {oc13 kV13 dc13 pm13 cd13 ct13 : Value} {f14 : Addr} {od14 an14 : Option Addr} {sl14 : Array (Option Value)} {oc14 kV14 dc14 pm14 cd14 ct14 : Value} {f15 : Addr} {od15 an15 : Option Addr} {sl15 : Array (Option Value)} {oc15 kV15 dc15 pm15 cd15 ct15 : Value} {f16 : Addr} {od16 an16 : Option Addr} {sl16 : Array (Option Value)} {oc16 kV16 dc16 pm16 cd16 ct16 : Value} {f17 : Addr} {od17 an17 : Option Addr} {sl17 : Array (Option Value)} {oc17 kV17 dc17 pm17 cd17 ct17 : Value} {f18 : Addr} {od18 an18 : Option Addr} {sl18 : Array (Option Value)} {oc18 kV18 dc18 pm18 cd18 ct18 : Value} {f19 : Addr} {od19 an19 : Option Addr} {sl19 : Array (Option Value)} {oc19 kV19 dc19 pm19 cd19 ct19 : Value} {f20 : Addr} {od20 an20 : Option Addr} {sl20 : Array (Option Value)} {oc20 kV20 dc20 pm20 cd20 ct20 : Value} {f21 : Addr} {od21 an21 : Option Addr} {sl21 : Array (Option Value)} {oc21 kV21 dc21 pm21 cd21 ct21 : Value} {f22 : Addr} {od22 an22 : Option Addr} {sl22 : Array (Option Value)} {oc22 kV22 dc22 pm22 cd22 ct22 : Value} {f23 : Addr} {od23 an23 : Option Addr} {sl23 : Array (Option Value)} {oc23 kV23 dc23 pm23 cd23 ct23 : Value} {f24 : Addr} {od24 an24 : Option Addr} {sl24 : Array (Option Value)} {oc24 kV24 dc24 pm24 cd24 ct24 : Value} {f25 : Addr} {od25 an25 : Option Addr} {sl25 : Array (Option Value)} {oc25 kV25 dc25 pm25 cd25 ct25 : Value} {f26 : Addr} {od26 an26 : Option Addr} {sl26 : Array (Option Value)} {oc26 kV26 dc26 pm26 cd26 ct26 : Value} {f27 : Addr} {od27 an27 : Option Addr} {sl27 : Array (Option Value)} {oc27 kV27 dc27 pm27 cd27 ct27 : Value} {f28 : Addr} {od28 an28 : Option Addr} {sl28 : Array (Option Value)} {oc28 kV28 dc28 pm28 cd28 ct28 : Value} {t28_many : Tok} {Td28 : Addr} {cTd28 : Value} {dTd28 : Option Addr} {nTd28 : Nat} {sTd28 : Array (Option Value)} {f29 : Addr} {od29 an29 : Option Addr} {sl29 : Array (Option Value)} {oc29 kV29 dc29 pm29 cd29 ct29 : Value} {f30 : Addr} {od30 an30 : Option Addr} {sl30 : Array (Option Value)} {oc30 kV30 dc30 pm30 cd30 ct30 : Value} {f31 : Addr} {od31 an31 : Option Addr} {sl31 : Array (Option Value)} {oc31 kV31 dc31 pm31 cd31 ct31 : Value} {f32 : Addr} {od32 an32 : Option Addr} {sl32 : Array (Option Value)} {oc32 kV32 dc32 pm32 cd32 ct32 : Value} (X : K.In h) (G : h.Ns mainGlobals mg) (hfa : mg "law" = some (.ref fa)) (aC_NoNumber : PySem.W.nsIn K mainGlobals "NoNumber" = some (some (.ref C_NoNumber))) (xL_NoNumber : K.lookup C_NoNumber = some (PySem.excClassObj nm_NoNumber q_NoNumber C_NoNumber N_NoNumber_ bs_NoNumber (.ref W_NoNumber :: [.type "ValueError", .type "Exception", .type "BaseException", .type "object"]) true sn_NoNumber sub_NoNumber ab_NoNumber col_NoNumber dd_NoNumber m0_NoNumber m1_NoNumber m2_NoNumber m3_NoNumber m5_NoNumber "ValueError.__new__")) (sa_NoNumber : PySem.W.findIn K (.ref C_NoNumber) "__setattr__" = some (some (.builtin "object.__setattr__"))) (ga_NoNumber : PySem.W.findIn K (.ref C_NoNumber) "__getattribute__" = some (some (.builtin "BaseException.__getattribute__"))) (gg_NoNumber : PySem.W.findIn K (.ref C_NoNumber) "__getattr__" = some none) (nb_NoNumber : PySem.W.findIn K (.ref C_NoNumber) "found" = some none) (iC_NoNumber : PySem.W.findIn K (.ref C_NoNumber) "__init__" = some (some (.ref fI_NoNumber))) (tI_NoNumber : PySem.W.typeIn K (.ref fI_NoNumber) = some (.type "function")) (lI_NoNumber : K.lookup fI_NoNumber = some ⟨oc_NoNumber, od_NoNumber, .func (PySem.W.fnOf "__init__" "NoNumber.__init__" (defArgs s_NoNumber_init) (defBody s_NoNumber_init) (defScope s_NoNumber_init) .none kV_NoNumber dc_NoNumber pm_NoNumber an_NoNumber cd_NoNumber ct_NoNumber), sl_NoNumber⟩) (cI_NoNumber : PySem.W.codeIn K cd_NoNumber "NoNumber.__init__" = true) (kI_NoNumber : PySem.W.keepIn K (.ref fI_NoNumber) = true) (kC_NoNumber : PySem.W.keepIn K (.ref C_NoNumber) = true) (eC_NoNumber : PySem.W.subIn K (.ref C_NoNumber) (.type "BaseException") = some true) (tC_NoNumber : PySem.W.typeIn K (.ref C_NoNumber) = some (.type "type")) (cS_NoNumber : PySem.W.isClsIn K C_NoNumber = true) (cA_NoNumber : PySem.W.findIn K (.ref C_NoNumber) "__class__" = some (some (.builtin "object.__class__"))) (cP_NoNumber : PySem.W.specialIn K (.builtin "object.__class__") "__get__" = some (some (.builtin "getset_descriptor.__get__"))) (cT_NoNumber : PySem.W.takesIn K (.builtin "object.__class__") = some true) (cM_NoNumber : PySem.W.mroIn K C_NoNumber (.type "object") = some true) (kbool_NoNumber : PySem.W.subIn K (.ref C_NoNumber) (.type "bool") = some false) (kint_NoNumber : PySem.W.subIn K (.ref C_NoNumber) (.type "int") = some false) (kstr_NoNumber : PySem.W.subIn K (.ref C_NoNumber) (.type "str") = some false) (klist_NoNumber : PySem.W.subIn K (.ref C_NoNumber) (.type "list") = some false) (ktuple_NoNumber : PySem.W.subIn K (.ref C_NoNumber) (.type "tuple") = some false) (kdict_NoNumber : PySem.W.subIn K (.ref C_NoNumber) (.type "dict") = some false) (aC_NoName : PySem.W.nsIn K mainGlobals "NoName" = some (some (.ref C_NoName))) (xL_NoName : K.lookup C_NoName = some (PySem.excClassObj nm_NoName q_NoName C_NoName N_NoName_ bs_NoName (.ref W_NoName :: [.type "ValueError", .type "Exception", .type "BaseException", .type "object"]) true sn_NoName sub_NoName ab_NoName col_NoName dd_NoName m0_NoName m1_NoName m2_NoName m3_NoName m5_NoName "ValueError.__new__")) (sa_NoName : PySem.W.findIn K (.ref C_NoName) "__setattr__" = some (some (.builtin "object.__setattr__"))) (ga_NoName : PySem.W.findIn K (.ref C_NoName) "__getattribute__" = some (some (.builtin "BaseException.__getattribute__"))) (gg_NoName : PySem.W.findIn K (.ref C_NoName) "__getattr__" = some none) (nb_NoName : PySem.W.findIn K (.ref C_NoName) "found" = some none) (iC_NoName : PySem.W.findIn K (.ref C_NoName) "__init__" = some (some (.ref fI_NoName))) (tI_NoName : PySem.W.typeIn K (.ref fI_NoName) = some (.type "function")) (lI_NoName : K.lookup fI_NoName = some ⟨oc_NoName, od_NoName, .func (PySem.W.fnOf "__init__" "NoName.__init__" (defArgs s_NoName_init) (defBody s_NoName_init) (defScope s_NoName_init) .none kV_NoName dc_NoName pm_NoName an_NoName cd_NoName ct_NoName), sl_NoName⟩) (cI_NoName : PySem.W.codeIn K cd_NoName "NoName.__init__" = true) (kI_NoName : PySem.W.keepIn K (.ref fI_NoName) = true) (kC_NoName : PySem.W.keepIn K (.ref C_NoName) = true) (eC_NoName : PySem.W.subIn K (.ref C_NoName) (.type "BaseException") = some true) (tC_NoName : PySem.W.typeIn K (.ref C_NoName) = some (.type "type")) (cS_NoName : PySem.W.isClsIn K C_NoName = true) (cA_NoName : PySem.W.findIn K (.ref C_NoName) "__class__" = some (some (.builtin "object.__class__"))) (cP_NoName : PySem.W.specialIn K (.builtin "object.__class__") "__get__" = some (some (.builtin "getset_descriptor.__get__"))) (cT_NoName : PySem.W.takesIn K (.builtin "object.__class__") = some true) (cM_NoName : PySem.W.mroIn K C_NoName (.type "object") = some true) (kbool_NoName : PySem.W.subIn K (.ref C_NoName) (.type "bool") = some false) (kint_NoName : PySem.W.subIn K (.ref C_NoName) (.type "int") = some false) (kstr_NoName : PySem.W.subIn K (.ref C_NoName) (.type "str") = some false) (klist_NoName : PySem.W.subIn K (.ref C_NoName) (.type "list") = some false) (ktuple_NoName : PySem.W.subIn K (.ref C_NoName) (.type "tuple") = some false) (kdict_NoName : PySem.W.subIn K (.ref C_NoName) (.type "dict") = some false) (aC_NoLog : PySem.W.nsIn K mainGlobals "NoLog" = some (some (.ref C_NoLog))) (xL_NoLog : K.lookup C_NoLog = some (PySem.excClassObj nm_NoLog q_NoLog C_NoLog N_NoLog_ bs_NoLog (.ref W_NoLog :: [.type "ValueError", .type "Exception", .type "BaseException", .type "object"]) true sn_NoLog sub_NoLog ab_NoLog col_NoLog dd_NoLog m0_NoLog m1_NoLog m2_NoLog m3_NoLog m5_NoLog "ValueError.__new__")) (sa_NoLog : PySem.W.findIn K (.ref C_NoLog) "__setattr__" = some (some (.builtin "object.__setattr__"))) (ga_NoLog : PySem.W.findIn K (.ref C_NoLog) "__getattribute__" = some (some (.builtin "BaseException.__getattribute__"))) (gg_NoLog : PySem.W.findIn K (.ref C_NoLog) "__getattr__" = some none) (nb_NoLog : PySem.W.findIn K (.ref C_NoLog) "found" = some none) (iC_NoLog : PySem.W.findIn K (.ref C_NoLog) "__init__" = some (some (.ref fI_NoLog))) (tI_NoLog : PySem.W.typeIn K (.ref fI_NoLog) = some (.type "function")) (lI_NoLog : K.lookup fI_NoLog = some ⟨oc_NoLog, od_NoLog, .func (PySem.W.fnOf "__init__" "NoLog.__init__" (defArgs s_NoLog_init) (defBody s_NoLog_init) (defScope s_NoLog_init) .none kV_NoLog dc_NoLog pm_NoLog an_NoLog cd_NoLog ct_NoLog), sl_NoLog⟩) (cI_NoLog : PySem.W.codeIn K cd_NoLog "NoLog.__init__" = true) (kI_NoLog : PySem.W.keepIn K (.ref fI_NoLog) = true) (kC_NoLog : PySem.W.keepIn K (.ref C_NoLog) = true) (eC_NoLog : PySem.W.subIn K (.ref C_NoLog) (.type "BaseException") = some true) (tC_NoLog : PySem.W.typeIn K (.ref C_NoLog) = some (.type "type")) (cS_NoLog : PySem.W.isClsIn K C_NoLog = true) (cA_NoLog : PySem.W.findIn K (.ref C_NoLog) "__class__" = some (some (.builtin "object.__class__"))) (cP_NoLog : PySem.W.specialIn K (.builtin "object.__class__") "__get__" = some (some (.builtin "getset_descriptor.__get__"))) (cT_NoLog : PySem.W.takesIn K (.builtin "object.__class__") = some true) (cM_NoLog : PySem.W.mroIn K C_NoLog (.type "object") = some true) (kbool_NoLog : PySem.W.subIn K (.ref C_NoLog) (.type "bool") = some false) (kint_NoLog : PySem.W.subIn K (.ref C_NoLog) (.type "int") = some false) (kstr_NoLog : PySem.W.subIn K (.ref C_NoLog) (.type "str") = some false) (klist_NoLog : PySem.W.subIn K (.ref C_NoLog) (.type "list") = some false) (ktuple_NoLog : PySem.W.subIn K (.ref C_NoLog) (.type "tuple") = some false) (kdict_NoLog : PySem.W.subIn K (.ref C_NoLog) (.type "dict") = some false) (aC_WakeError : PySem.W.nsIn K mainGlobals "WakeError" = some (some (.ref C_WakeError))) (aC_StateError : PySem.W.nsIn K mainGlobals "StateError" = some (some (.ref C_StateError))) (eb_WakeError : PySem.W.subIn K (.ref C_WakeError) (.type "BaseException") = some true) (ei_WakeError : PySem.W.isClsIn K C_WakeError = true) (et_WakeError : PySem.W.typeIn K (.ref C_WakeError) = some (.type "type")) (eb_StateError : PySem.W.subIn K (.ref C_StateError) (.type "BaseException") = some true) (ei_StateError : PySem.W.isClsIn K C_StateError = true) (et_StateError : PySem.W.typeIn K (.ref C_StateError) = some (.type "type")) (eb_NoLog : PySem.W.subIn K (.ref C_NoLog) (.type "BaseException") = some true) (ei_NoLog : PySem.W.isClsIn K C_NoLog = true) (et_NoLog : PySem.W.typeIn K (.ref C_NoLog) = some (.type "type")) (eb_NoNumber : PySem.W.subIn K (.ref C_NoNumber) (.type "BaseException") = some true) (ei_NoNumber : PySem.W.isClsIn K C_NoNumber = true) (et_NoNumber : PySem.W.typeIn K (.ref C_NoNumber) = some (.type "type")) (eb_NoName : PySem.W.subIn K (.ref C_NoName) (.type "BaseException") = some true) (ei_NoName : PySem.W.isClsIn K C_NoName = true) (et_NoName : PySem.W.typeIn K (.ref C_NoName) = some (.type "type")) (xs_NoNumber_WakeError : PySem.W.subIn K (.ref C_NoNumber) (.ref C_WakeError) = some true) (xs_NoNumber_StateError : PySem.W.subIn K (.ref C_NoNumber) (.ref C_StateError) = some false) (xs_NoNumber_NoLog : PySem.W.subIn K (.ref C_NoNumber) (.ref C_NoLog) = some false) (xs_NoNumber_NoNumber : PySem.W.subIn K (.ref C_NoNumber) (.ref C_NoNumber) = some true) (xs_NoNumber_NoName : PySem.W.subIn K (.ref C_NoNumber) (.ref C_NoName) = some false) (xs_NoLog_WakeError : PySem.W.subIn K (.ref C_NoLog) (.ref C_WakeError) = some true) (xs_NoLog_StateError : PySem.W.subIn K (.ref C_NoLog) (.ref C_StateError) = some false) (xs_NoLog_NoLog : PySem.W.subIn K (.ref C_NoLog) (.ref C_NoLog) = some true) (xs_NoLog_NoNumber : PySem.W.subIn K (.ref C_NoLog) (.ref C_NoNumber) = some false) (xs_NoLog_NoName : PySem.W.subIn K (.ref C_NoLog) (.ref C_NoName) = some false) (xs_NoName_WakeError : PySem.W.subIn K (.ref C_NoName) (.ref C_WakeError) = some true) (xs_NoName_StateError : PySem.W.subIn K (.ref C_NoName) (.ref C_StateError) = some false) (xs_NoName_NoLog : PySem.W.subIn K (.ref C_NoName) (.ref C_NoLog) = some false) (xs_NoName_NoNumber : PySem.W.subIn K (.ref C_NoName) (.ref C_NoNumber) = some false) (xs_NoName_NoName : PySem.W.subIn K (.ref C_NoName) (.ref C_NoName) = some true) (aC_Log : PySem.W.nsIn K mainGlobals "Log" = some (some (.ref C_Log))) (pg_Log : PySem.W.plainGet K C_Log Str.empty = true) (hd_Log : PySem.W.hasDictIn K C_Log = true) (po_Log : PySem.W.plainOver K C_Log = true) (sa_Log : PySem.W.findIn K (.ref C_Log) "__setattr__" = some (some (.builtin "object.__setattr__"))) (aC_Device : PySem.W.nsIn K mainGlobals "Device" = some (some (.ref C_Device))) (pg_Device : PySem.W.plainGet K C_Device Str.empty = true) (hd_Device : PySem.W.hasDictIn K C_Device = true) (po_Device : PySem.W.plainOver K C_Device = true) (sa_Device : PySem.W.findIn K (.ref C_Device) "__setattr__" = some (some (.builtin "object.__setattr__"))) (z_na_Log_kept_rows : PySem.W.findIn K (.ref C_Log) "kept_rows" = some none) (z_b_max : PySem.W.nsIn K mainGlobals "max" = some none) (z_b_len : PySem.W.nsIn K mainGlobals "len" = some none) (z_b_range : PySem.W.nsIn K mainGlobals "range" = some none) (z_b_tuple : PySem.W.nsIn K mainGlobals "tuple" = some none) (z_b_int : PySem.W.nsIn K mainGlobals "int" = some none) (z_b_isinstance : PySem.W.nsIn K mainGlobals "isinstance" = some none) (z_b_bool : PySem.W.nsIn K mainGlobals "bool" = some none) (z_b_str : PySem.W.nsIn K mainGlobals "str" = some none) (z_g_MOST_LETTERS : PySem.W.nsIn K mainGlobals "MOST_LETTERS" = some (some (.int 8 tk_g_MOST_LETTERS))) (z_b_all : PySem.W.nsIn K mainGlobals "all" = some none) (z_g_LETTERS : PySem.W.nsIn K mainGlobals "LETTERS" = some (some (.str "abcdefghijklmnopqrstuvwxyz" tk_g_LETTERS))) (z_g_MOST_BURN : PySem.W.nsIn K mainGlobals "MOST_BURN" = some (some (.int 100 tk_g_MOST_BURN))) (z_g_MOST_STEPS : PySem.W.nsIn K mainGlobals "MOST_STEPS" = some (some (.int 5 tk_g_MOST_STEPS))) (z_g_MOST_REST : PySem.W.nsIn K mainGlobals "MOST_REST" = some (some (.int 9 tk_g_MOST_REST))) (z_na_Device_whole : PySem.W.findIn K (.ref C_Device) "whole" = some none) (z_g_MOST_LINKS : PySem.W.nsIn K mainGlobals "MOST_LINKS" = some (some (.int 16 tk_g_MOST_LINKS))) (z_g_BELLS : PySem.W.nsIn K mainGlobals "BELLS" = some (some (.ref Tp_g_BELLS))) (hT_g_BELLS : K.lookup Tp_g_BELLS = some ⟨.type "tuple", dTp_g_BELLS, .seq ([.str "unheard" tk0_g_BELLS, .str "noted" tk1_g_BELLS, .str "broke" tk2_g_BELLS, .str "woke" tk3_g_BELLS] : List Value).toArray nTp_g_BELLS, sTp_g_BELLS⟩) (z_g_ALL_DEEDS : PySem.W.nsIn K mainGlobals "ALL_DEEDS" = some (some (.ref Tp_g_ALL_DEEDS))) (hT_g_ALL_DEEDS : K.lookup Tp_g_ALL_DEEDS = some ⟨.type "tuple", dTp_g_ALL_DEEDS, .seq ([.str "tick" tk0_g_ALL_DEEDS, .str "sleep" tk1_g_ALL_DEEDS, .str "rise" tk2_g_ALL_DEEDS] : List Value).toArray nTp_g_ALL_DEEDS, sTp_g_ALL_DEEDS⟩) (z_g_OWN_DEEDS : PySem.W.nsIn K mainGlobals "OWN_DEEDS" = some (some (.ref Tp_g_OWN_DEEDS))) (hT_g_OWN_DEEDS : K.lookup Tp_g_OWN_DEEDS = some ⟨.type "tuple", dTp_g_OWN_DEEDS, .seq ([.str "gain" tk0_g_OWN_DEEDS, .str "release" tk1_g_OWN_DEEDS] : List Value).toArray nTp_g_OWN_DEEDS, sTp_g_OWN_DEEDS⟩) (z_g_ENDS : PySem.W.nsIn K mainGlobals "ENDS" = some (some (.ref Tp_g_ENDS))) (hT_g_ENDS : K.lookup Tp_g_ENDS = some ⟨.type "tuple", dTp_g_ENDS, .seq ([.str "done" tk0_g_ENDS, .str "busy" tk1_g_ENDS, .str "broken" tk2_g_ENDS] : List Value).toArray nTp_g_ENDS, sTp_g_ENDS⟩) (zm_g_FORMS : PySem.W.nsIn K mainGlobals "FORMS" = some (some (.ref Md_FORMS))) (zl_g_FORMS : K.lookup Md_FORMS = some ⟨.type "dict", none, .dict Es_FORMS Ne_FORMS, #[]⟩) (zw_g_FORMS : (Md_FORMS == sysModules) = false) (ze_g_FORMS : Es_FORMS.toList.map mfRow = mfOf w.params (mf_FORMS (⟨PySem.W.exmAny K, C_Log, C_NoNumber, C_NoName, C_Device, C_NoLog, C_WakeError, C_StateError, f21, f20, f18, f17, f15⟩ : Ad))) (z_g_NAMED : PySem.W.nsIn K mainGlobals "NAMED" = some (some (.ref Tp_g_NAMED))) (hT_g_NAMED : K.lookup Tp_g_NAMED = some ⟨.type "tuple", dTp_g_NAMED, .seq ([.str "waking" tk0_g_NAMED, .str "wake" tk1_g_NAMED, .str "falling" tk2_g_NAMED, .str "doze" tk3_g_NAMED, .str "stays" tk4_g_NAMED, .str "off" tk5_g_NAMED, .str "use" tk6_g_NAMED, .str "reset" tk7_g_NAMED, .str "unplug" tk8_g_NAMED, .str "ready" tk9_g_NAMED, .str "sleep" tk10_g_NAMED, .str "late" tk11_g_NAMED, .str "still" tk12_g_NAMED, .str "unready" tk13_g_NAMED, .str "unsleep" tk14_g_NAMED, .str "unlate" tk15_g_NAMED, .str "unstill" tk16_g_NAMED] : List Value).toArray nTp_g_NAMED, sTp_g_NAMED⟩) (hx_NoLog : PySem.W.hasDictIn K C_NoLog = true) (z_xn_NoLog_found : PySem.W.findIn K (.ref C_NoLog) "found" = some none) (hx_NoNumber : PySem.W.hasDictIn K C_NoNumber = true) (z_xn_NoNumber_found : PySem.W.findIn K (.ref C_NoNumber) "found" = some none) (z_b_list : PySem.W.nsIn K mainGlobals "list" = some none) (z_b_repr : PySem.W.nsIn K mainGlobals "repr" = some none) (z_g_MOST_TOLD : PySem.W.nsIn K mainGlobals "MOST_TOLD" = some (some (.int 1000 tk_g_MOST_TOLD))) (z_b_min : PySem.W.nsIn K mainGlobals "min" = some none) (z_b_zip : PySem.W.nsIn K mainGlobals "zip" = some none) (me0_Log : PySem.W.findIn K (.ref C_Log) "__init__" = some (some (.ref f0))) (fn0 : PySem.W.isFn K (.ref f0) = true) (l0 : K.lookup f0 = some ⟨oc0, od0, .func (PySem.W.fnOf "__init__" "Log.__init__" (defArgs s_m_Log_init) (defBody s_m_Log_init) (defScope s_m_Log_init) .none kV0 dc0 pm0 an0 cd0 ct0), sl0⟩) (c0 : PySem.W.codeIn K cd0 "Log.__init__" = true) (k0 : PySem.W.keepIn K (.ref f0) = true) (a1 : PySem.W.nsIn K mainGlobals "_law_box" = some (some (.ref f1))) (l1 : K.lookup f1 = some ⟨oc1, od1, .func (PySem.W.fnOf "_law_box" "_law_box" (defArgs s__law_box) (defBody s__law_box) (defScope s__law_box) .none kV1 dc1 pm1 an1 cd1 ct1), sl1⟩) (c1 : PySem.W.codeIn K cd1 "_law_box" = true) (k1 : PySem.W.keepIn K (.ref f1) = true) (a2 : PySem.W.nsIn K mainGlobals "_law_cell" = some (some (.ref f2))) (l2 : K.lookup f2 = some ⟨oc2, od2, .func (PySem.W.fnOf "_law_cell" "_law_cell" (defArgs s__law_cell) (defBody s__law_cell) (defScope s__law_cell) .none kV2 dc2 pm2 an2 cd2 ct2), sl2⟩) (c2 : PySem.W.codeIn K cd2 "_law_cell" = true) (k2 : PySem.W.keepIn K (.ref f2) = true) (a3 : PySem.W.nsIn K mainGlobals "_law_take" = some (some (.ref f3))) (l3 : K.lookup f3 = some ⟨oc3, od3, .func (PySem.W.fnOf "_law_take" "_law_take" (defArgs s__law_take) (defBody s__law_take) (defScope s__law_take) .none kV3 dc3 pm3 an3 cd3 ct3), sl3⟩) (c3 : PySem.W.codeIn K cd3 "_law_take" = true) (k3 : PySem.W.keepIn K (.ref f3) = true) (a4 : PySem.W.nsIn K mainGlobals "_law_names" = some (some (.ref f4))) (l4 : K.lookup f4 = some ⟨oc4, od4, .func (PySem.W.fnOf "_law_names" "_law_names" (defArgs s__law_names) (defBody s__law_names) (defScope s__law_names) .none kV4 dc4 pm4 an4 cd4 ct4), sl4⟩) (c4 : PySem.W.codeIn K cd4 "_law_names" = true) (k4 : PySem.W.keepIn K (.ref f4) = true) (a5 : PySem.W.nsIn K mainGlobals "_law_links" = some (some (.ref f5))) (l5 : K.lookup f5 = some ⟨oc5, od5, .func (PySem.W.fnOf "_law_links" "_law_links" (defArgs s__law_links) (defBody s__law_links) (defScope s__law_links) .none kV5 dc5 pm5 an5 cd5 ct5), sl5⟩) (c5 : PySem.W.codeIn K cd5 "_law_links" = true) (k5 : PySem.W.keepIn K (.ref f5) = true) (a6 : PySem.W.nsIn K mainGlobals "_law_told_device" = some (some (.ref f6))) (l6 : K.lookup f6 = some ⟨oc6, od6, .func (PySem.W.fnOf "_law_told_device" "_law_told_device" (defArgs s__law_told_device) (defBody s__law_told_device) (defScope s__law_told_device) .none kV6 dc6 pm6 an6 cd6 ct6), sl6⟩) (c6 : PySem.W.codeIn K cd6 "_law_told_device" = true) (k6 : PySem.W.keepIn K (.ref f6) = true) (a7 : PySem.W.nsIn K mainGlobals "_law_words" = some (some (.ref f7))) (l7 : K.lookup f7 = some ⟨oc7, od7, .func (PySem.W.fnOf "_law_words" "_law_words" (defArgs s__law_words) (defBody s__law_words) (defScope s__law_words) .none kV7 dc7 pm7 an7 cd7 ct7), sl7⟩) (c7 : PySem.W.codeIn K cd7 "_law_words" = true) (k7 : PySem.W.keepIn K (.ref f7) = true) (a8 : PySem.W.nsIn K mainGlobals "is_turn" = some (some (.ref f8))) (l8 : K.lookup f8 = some ⟨oc8, od8, .func (PySem.W.fnOf "is_turn" "is_turn" (defArgs s_is_turn) (defBody s_is_turn) (defScope s_is_turn) .none kV8 dc8 pm8 an8 cd8 ct8), sl8⟩) (c8 : PySem.W.codeIn K cd8 "is_turn" = true) (k8 : PySem.W.keepIn K (.ref f8) = true) (a9 : PySem.W.nsIn K mainGlobals "is_name" = some (some (.ref f9))) (l9 : K.lookup f9 = some ⟨oc9, od9, .func (PySem.W.fnOf "is_name" "is_name" (defArgs s_is_name) (defBody s_is_name) (defScope s_is_name) .none kV9 dc9 pm9 an9 cd9 ct9), sl9⟩) (c9 : PySem.W.codeIn K cd9 "is_name" = true) (k9 : PySem.W.keepIn K (.ref f9) = true) (a10 : PySem.W.nsIn K mainGlobals "is_whole" = some (some (.ref f10))) (l10 : K.lookup f10 = some ⟨oc10, od10, .func (PySem.W.fnOf "is_whole" "is_whole" (defArgs s_is_whole) (defBody s_is_whole) (defScope s_is_whole) .none kV10 dc10 pm10 an10 cd10 ct10), sl10⟩) (c10 : PySem.W.codeIn K cd10 "is_whole" = true) (k10 : PySem.W.keepIn K (.ref f10) = true) (a11 : PySem.W.nsIn K mainGlobals "need_number" = some (some (.ref f11))) (l11 : K.lookup f11 = some ⟨oc11, od11, .func (PySem.W.fnOf "need_number" "need_number" (defArgs s_need_number) (defBody s_need_number) (defScope s_need_number) .none kV11 dc11 pm11 an11 cd11 ct11), sl11⟩) (c11 : PySem.W.codeIn K cd11 "need_number" = true) (k11 : PySem.W.keepIn K (.ref f11) = true) (me12_Device : PySem.W.findIn K (.ref C_Device) "__init__" = some (some (.ref f12))) (fn12 : PySem.W.isFn K (.ref f12) = true) (hk12_parent : PySem.W.nsIn K Dk12 "parent" = some (some (.none))) (hk12_burn : PySem.W.nsIn K Dk12 "burn" = some (some (.int 5 t12_burn))) (hk12_sip : PySem.W.nsIn K Dk12 "sip" = some (some (.int 1 t12_sip))) (hk12_wake : PySem.W.nsIn K Dk12 "wake" = some (some (.int 1 t12_wake))) (hk12_fall : PySem.W.nsIn K Dk12 "fall" = some (some (.int 1 t12_fall))) (hk12_rest : PySem.W.nsIn K Dk12 "rest" = some (some (.int 0 t12_rest))) (l12 : K.lookup f12 = some ⟨oc12, od12, .func (PySem.W.fnOf "__init__" "Device.__init__" (defArgs s_m_Device_init) (defBody s_m_Device_init) (defScope s_m_Device_init) .none (.ref Dk12) dc12 pm12 an12 cd12 ct12), sl12⟩) (c12 : PySem.W.codeIn K cd12 "Device.__init__" = true) (k12 : PySem.W.keepIn K (.ref f12) = true) (a13 : PySem.W.nsIn K mainGlobals "is_told_device" = some (some (.ref f13))) (l13 : K.lookup f13 = some ⟨oc13, od13, .func (PySem.W.fnOf "is_told_device" "is_told_device" (defArgs s_is_told_device) (defBody s_is_told_device) (defScope s_is_told_device) .none kV13 dc13 pm13 an13 cd13 ct13), sl13⟩) (c13 : PySem.W.codeIn K cd13 "is_told_device" = true) (k13 : PySem.W.keepIn K (.ref f13) = true) (a14 : PySem.W.nsIn K mainGlobals "are_links" = some (some (.ref f14))) (l14 : K.lookup f14 = some ⟨oc14, od14, .func (PySem.W.fnOf "are_links" "are_links" (defArgs s_are_links) (defBody s_are_links) (defScope s_are_links) .none kV14 dc14 pm14 an14 cd14 ct14), sl14⟩) (c14 : PySem.W.codeIn K cd14 "are_links" = true) (k14 : PySem.W.keepIn K (.ref f14) = true) (a15 : PySem.W.nsIn K mainGlobals "are_plug" = some (some (.ref f15))) (l15 : K.lookup f15 = some ⟨oc15, od15, .func (PySem.W.fnOf "are_plug" "are_plug" (defArgs s_are_plug) (defBody s_are_plug) (defScope s_are_plug) .none kV15 dc15 pm15 an15 cd15 ct15), sl15⟩) (c15 : PySem.W.codeIn K cd15 "are_plug" = true) (k15 : PySem.W.keepIn K (.ref f15) = true) (a16 : PySem.W.nsIn K mainGlobals "is_word_of" = some (some (.ref f16))) (l16 : K.lookup f16 = some ⟨oc16, od16, .func (PySem.W.fnOf "is_word_of" "is_word_of" (defArgs s_is_word_of) (defBody s_is_word_of) (defScope s_is_word_of) .none kV16 dc16 pm16 an16 cd16 ct16), sl16⟩) (c16 : PySem.W.codeIn K cd16 "is_word_of" = true) (k16 : PySem.W.keepIn K (.ref f16) = true) (a17 : PySem.W.nsIn K mainGlobals "are_bell" = some (some (.ref f17))) (l17 : K.lookup f17 = some ⟨oc17, od17, .func (PySem.W.fnOf "are_bell" "are_bell" (defArgs s_are_bell) (defBody s_are_bell) (defScope s_are_bell) .none kV17 dc17 pm17 an17 cd17 ct17), sl17⟩) (c17 : PySem.W.codeIn K cd17 "are_bell" = true) (k17 : PySem.W.keepIn K (.ref f17) = true) (a18 : PySem.W.nsIn K mainGlobals "are_missed" = some (some (.ref f18))) (l18 : K.lookup f18 = some ⟨oc18, od18, .func (PySem.W.fnOf "are_missed" "are_missed" (defArgs s_are_missed) (defBody s_are_missed) (defScope s_are_missed) .none kV18 dc18 pm18 an18 cd18 ct18), sl18⟩) (c18 : PySem.W.codeIn K cd18 "are_missed" = true) (k18 : PySem.W.keepIn K (.ref f18) = true) (a19 : PySem.W.nsIn K mainGlobals "is_deed_of" = some (some (.ref f19))) (l19 : K.lookup f19 = some ⟨oc19, od19, .func (PySem.W.fnOf "is_deed_of" "is_deed_of" (defArgs s_is_deed_of) (defBody s_is_deed_of) (defScope s_is_deed_of) .none kV19 dc19 pm19 an19 cd19 ct19), sl19⟩) (c19 : PySem.W.codeIn K cd19 "is_deed_of" = true) (k19 : PySem.W.keepIn K (.ref f19) = true) (a20 : PySem.W.nsIn K mainGlobals "are_end" = some (some (.ref f20))) (l20 : K.lookup f20 = some ⟨oc20, od20, .func (PySem.W.fnOf "are_end" "are_end" (defArgs s_are_end) (defBody s_are_end) (defScope s_are_end) .none kV20 dc20 pm20 an20 cd20 ct20), sl20⟩) (c20 : PySem.W.codeIn K cd20 "are_end" = true) (k20 : PySem.W.keepIn K (.ref f20) = true) (a21 : PySem.W.nsIn K mainGlobals "are_begin" = some (some (.ref f21))) (l21 : K.lookup f21 = some ⟨oc21, od21, .func (PySem.W.fnOf "are_begin" "are_begin" (defArgs s_are_begin) (defBody s_are_begin) (defScope s_are_begin) .none kV21 dc21 pm21 an21 cd21 ct21), sl21⟩) (c21 : PySem.W.codeIn K cd21 "are_begin" = true) (k21 : PySem.W.keepIn K (.ref f21) = true) (a22 : PySem.W.nsIn K mainGlobals "are_words" = some (some (.ref f22))) (l22 : K.lookup f22 = some ⟨oc22, od22, .func (PySem.W.fnOf "are_words" "are_words" (defArgs s_are_words) (defBody s_are_words) (defScope s_are_words) .none kV22 dc22 pm22 an22 cd22 ct22), sl22⟩) (c22 : PySem.W.codeIn K cd22 "are_words" = true) (k22 : PySem.W.keepIn K (.ref f22) = true) (me23_Log : PySem.W.findIn K (.ref C_Log) "add" = some (some (.ref f23))) (fn23 : PySem.W.isFn K (.ref f23) = true) (l23 : K.lookup f23 = some ⟨oc23, od23, .func (PySem.W.fnOf "add" "Log.add" (defArgs s_m_Log_add) (defBody s_m_Log_add) (defScope s_m_Log_add) .none kV23 dc23 pm23 an23 cd23 ct23), sl23⟩) (c23 : PySem.W.codeIn K cd23 "Log.add" = true) (k23 : PySem.W.keepIn K (.ref f23) = true) (a24 : PySem.W.nsIn K mainGlobals "_law_told" = some (some (.ref f24))) (l24 : K.lookup f24 = some ⟨oc24, od24, .func (PySem.W.fnOf "_law_told" "_law_told" (defArgs s__law_told) (defBody s__law_told) (defScope s__law_told) .none kV24 dc24 pm24 an24 cd24 ct24), sl24⟩) (c24 : PySem.W.codeIn K cd24 "_law_told" = true) (k24 : PySem.W.keepIn K (.ref f24) = true) (me25_Log : PySem.W.findIn K (.ref C_Log) "rows" = some (some (.ref f25))) (fn25 : PySem.W.isFn K (.ref f25) = true) (l25 : K.lookup f25 = some ⟨oc25, od25, .func (PySem.W.fnOf "rows" "Log.rows" (defArgs s_m_Log_rows) (defBody s_m_Log_rows) (defScope s_m_Log_rows) .none kV25 dc25 pm25 an25 cd25 ct25), sl25⟩) (c25 : PySem.W.codeIn K cd25 "Log.rows" = true) (k25 : PySem.W.keepIn K (.ref f25) = true) (a26 : PySem.W.nsIn K mainGlobals "_law_refused" = some (some (.ref f26))) (l26 : K.lookup f26 = some ⟨oc26, od26, .func (PySem.W.fnOf "_law_refused" "_law_refused" (defArgs s__law_refused) (defBody s__law_refused) (defScope s__law_refused) .none kV26 dc26 pm26 an26 cd26 ct26), sl26⟩) (c26 : PySem.W.codeIn K cd26 "_law_refused" = true) (k26 : PySem.W.keepIn K (.ref f26) = true) (me27_Log : PySem.W.findIn K (.ref C_Log) "copied" = some (some (.ref f27))) (fn27 : PySem.W.isFn K (.ref f27) = true) (l27 : K.lookup f27 = some ⟨oc27, od27, .func (PySem.W.fnOf "copied" "Log.copied" (defArgs s_m_Log_copied) (defBody s_m_Log_copied) (defScope s_m_Log_copied) .none kV27 dc27 pm27 an27 cd27 ct27), sl27⟩) (c27 : PySem.W.codeIn K cd27 "Log.copied" = true) (k27 : PySem.W.keepIn K (.ref f27) = true) (me28_Log : PySem.W.findIn K (.ref C_Log) "last" = some (some (.ref f28))) (fn28 : PySem.W.isFn K (.ref f28) = true) (hd28 : K.lookup Td28 = some ⟨cTd28, dTd28, .seq ([.int 1 t28_many] : List Value).toArray nTd28, sTd28⟩) (l28 : K.lookup f28 = some ⟨oc28, od28, .func (PySem.W.fnOf "last" "Log.last" (defArgs s_m_Log_last) (defBody s_m_Log_last) (defScope s_m_Log_last) (.ref Td28) kV28 dc28 pm28 an28 cd28 ct28), sl28⟩) (c28 : PySem.W.codeIn K cd28 "Log.last" = true) (k28 : PySem.W.keepIn K (.ref f28) = true) (me29_Log : PySem.W.findIn K (.ref C_Log) "__len__" = some (some (.ref f29))) (fn29 : PySem.W.isFn K (.ref f29) = true) (l29 : K.lookup f29 = some ⟨oc29, od29, .func (PySem.W.fnOf "__len__" "Log.__len__" (defArgs s_m_Log_len) (defBody s_m_Log_len) (defScope s_m_Log_len) .none kV29 dc29 pm29 an29 cd29 ct29), sl29⟩) (c29 : PySem.W.codeIn K cd29 "Log.__len__" = true) (k29 : PySem.W.keepIn K (.ref f29) = true) (a30 : PySem.W.nsIn K mainGlobals "_law_last" = some (some (.ref f30))) (l30 : K.lookup f30 = some ⟨oc30, od30, .func (PySem.W.fnOf "_law_last" "_law_last" (defArgs s__law_last) (defBody s__law_last) (defScope s__law_last) .none kV30 dc30 pm30 an30 cd30 ct30), sl30⟩) (c30 : PySem.W.codeIn K cd30 "_law_last" = true) (k30 : PySem.W.keepIn K (.ref f30) = true) (a31 : PySem.W.nsIn K mainGlobals "_law_stands" = some (some (.ref f31))) (l31 : K.lookup f31 = some ⟨oc31, od31, .func (PySem.W.fnOf "_law_stands" "_law_stands" (defArgs s__law_stands) (defBody s__law_stands) (defScope s__law_stands) .none kV31 dc31 pm31 an31 cd31 ct31), sl31⟩) (c31 : PySem.W.codeIn K cd31 "_law_stands" = true) (k31 : PySem.W.keepIn K (.ref f31) = true) (a32 : PySem.W.nsIn K mainGlobals "law" = some (some (.ref f32))) (l32 : K.lookup f32 = some ⟨oc32, od32, .func (PySem.W.fnOf "law" "law" (defArgs s_law) (defBody s_law) (defScope s_law) .none kV32 dc32 pm32 an32 cd32 ct32), sl32⟩) (c32 : PySem.W.codeIn K cd32 "law" = true) (k32 : PySem.W.keepIn K (.ref f32) = true) (ms_Device : PySem.W.makesIn K C_Device = true) (kC_Device : PySem.W.keepIn K (.ref C_Device) = true) (ms_Log : PySem.W.makesIn K C_Log = true) (kC_Log : PySem.W.keepIn K (.ref C_Log) = true) :
    ∀ base : Heap, Fn P w K mg base 12 "law" ["_law_script"] spLaw := by
  have oe_NoNumber : OexC K C_NoNumber := ⟨⟨_, _, _, _, _, _, _, _, _, _, _, _, _, _, _, xL_NoNumber, rfl⟩, sa_NoNumber, eC_NoNumber, tC_NoNumber, kC_NoNumber⟩
  have ec_NoNumber : ExcCls K C_NoNumber := ⟨cS_NoNumber, ga_NoNumber, gg_NoNumber, eC_NoNumber, cA_NoNumber, cP_NoNumber, cT_NoNumber, cM_NoNumber, fun n hn => by
    simp only [List.mem_cons, List.mem_nil_iff, or_false] at hn
    rcases hn with rfl | rfl | rfl | rfl | rfl | rfl
    · exact kit_sub (by decide +kernel) kbool_NoNumber
    · exact kit_sub (by decide +kernel) kint_NoNumber
    · exact kit_sub (by decide +kernel) kstr_NoNumber
    · exact kit_sub (by decide +kernel) klist_NoNumber
    · exact kit_sub (by decide +kernel) ktuple_NoNumber
    · exact kit_sub (by decide +kernel) kdict_NoNumber⟩
  have FI_NoNumber := fun_mk (st := s_NoNumber_init) lI_NoNumber cI_NoNumber kI_NoNumber
  have x_NoNumber : ∀ base : Heap, ExcT P w K mg base 1 "NoNumber" "found" C_NoNumber := fun base => ⟨PySem.W.mg_of X G aC_NoNumber, oe_NoNumber, ec_NoNumber, fI_NoNumber, _, iC_NoNumber, tI_NoNumber, FI_NoNumber.binds (ps := ["self", "found"]) fun _ _ _ _ _ _ us hl => match us, hl with | [_, _], _ => rfl, init_NoNumber FI_NoNumber oe_NoNumber nb_NoNumber⟩
  have oe_NoName : OexC K C_NoName := ⟨⟨_, _, _, _, _, _, _, _, _, _, _, _, _, _, _, xL_NoName, rfl⟩, sa_NoName, eC_NoName, tC_NoName, kC_NoName⟩
  have ec_NoName : ExcCls K C_NoName := ⟨cS_NoName, ga_NoName, gg_NoName, eC_NoName, cA_NoName, cP_NoName, cT_NoName, cM_NoName, fun n hn => by
    simp only [List.mem_cons, List.mem_nil_iff, or_false] at hn
    rcases hn with rfl | rfl | rfl | rfl | rfl | rfl
    · exact kit_sub (by decide +kernel) kbool_NoName
    · exact kit_sub (by decide +kernel) kint_NoName
    · exact kit_sub (by decide +kernel) kstr_NoName
    · exact kit_sub (by decide +kernel) klist_NoName
    · exact kit_sub (by decide +kernel) ktuple_NoName
    · exact kit_sub (by decide +kernel) kdict_NoName⟩
  have FI_NoName := fun_mk (st := s_NoName_init) lI_NoName cI_NoName kI_NoName
  have x_NoName : ∀ base : Heap, ExcT P w K mg base 1 "NoName" "found" C_NoName := fun base => ⟨PySem.W.mg_of X G aC_NoName, oe_NoName, ec_NoName, fI_NoName, _, iC_NoName, tI_NoName, FI_NoName.binds (ps := ["self", "found"]) fun _ _ _ _ _ _ us hl => match us, hl with | [_, _], _ => rfl, init_NoName FI_NoName oe_NoName nb_NoName⟩
  have oe_NoLog : OexC K C_NoLog := ⟨⟨_, _, _, _, _, _, _, _, _, _, _, _, _, _, _, xL_NoLog, rfl⟩, sa_NoLog, eC_NoLog, tC_NoLog, kC_NoLog⟩
  have ec_NoLog : ExcCls K C_NoLog := ⟨cS_NoLog, ga_NoLog, gg_NoLog, eC_NoLog, cA_NoLog, cP_NoLog, cT_NoLog, cM_NoLog, fun n hn => by
    simp only [List.mem_cons, List.mem_nil_iff, or_false] at hn
    rcases hn with rfl | rfl | rfl | rfl | rfl | rfl
    · exact kit_sub (by decide +kernel) kbool_NoLog
    · exact kit_sub (by decide +kernel) kint_NoLog
    · exact kit_sub (by decide +kernel) kstr_NoLog
    · exact kit_sub (by decide +kernel) klist_NoLog
    · exact kit_sub (by decide +kernel) ktuple_NoLog
    · exact kit_sub (by decide +kernel) kdict_NoLog⟩
  have FI_NoLog := fun_mk (st := s_NoLog_init) lI_NoLog cI_NoLog kI_NoLog
  have x_NoLog : ∀ base : Heap, ExcT P w K mg base 1 "NoLog" "found" C_NoLog := fun base => ⟨PySem.W.mg_of X G aC_NoLog, oe_NoLog, ec_NoLog, fI_NoLog, _, iC_NoLog, tI_NoLog, FI_NoLog.binds (ps := ["self", "found"]) fun _ _ _ _ _ _ us hl => match us, hl with | [_, _], _ => rfl, init_NoLog FI_NoLog oe_NoLog nb_NoLog⟩
  have xo_NoNumber_WakeError := exm_ref eb_WakeError ei_WakeError et_WakeError xs_NoNumber_WakeError
  have xo_NoNumber_StateError := exm_ref eb_StateError ei_StateError et_StateError xs_NoNumber_StateError
  have xo_NoNumber_NoLog := exm_ref eb_NoLog ei_NoLog et_NoLog xs_NoNumber_NoLog
  have xo_NoNumber_NoNumber := exm_ref eb_NoNumber ei_NoNumber et_NoNumber xs_NoNumber_NoNumber
  have xo_NoNumber_NoName := exm_ref eb_NoName ei_NoName et_NoName xs_NoNumber_NoName
  have xo_NoLog_WakeError := exm_ref eb_WakeError ei_WakeError et_WakeError xs_NoLog_WakeError
  have xo_NoLog_StateError := exm_ref eb_StateError ei_StateError et_StateError xs_NoLog_StateError
  have xo_NoLog_NoLog := exm_ref eb_NoLog ei_NoLog et_NoLog xs_NoLog_NoLog
  have xo_NoLog_NoNumber := exm_ref eb_NoNumber ei_NoNumber et_NoNumber xs_NoLog_NoNumber
  have xo_NoLog_NoName := exm_ref eb_NoName ei_NoName et_NoName xs_NoLog_NoName
  have xo_NoName_WakeError := exm_ref eb_WakeError ei_WakeError et_WakeError xs_NoName_WakeError
  have xo_NoName_StateError := exm_ref eb_StateError ei_StateError et_StateError xs_NoName_StateError
  have xo_NoName_NoLog := exm_ref eb_NoLog ei_NoLog et_NoLog xs_NoName_NoLog
  have xo_NoName_NoNumber := exm_ref eb_NoNumber ei_NoNumber et_NoNumber xs_NoName_NoNumber
  have xo_NoName_NoName := exm_ref eb_NoName ei_NoName et_NoName xs_NoName_NoName
  have cl_Log : Cls K C_Log := ⟨pg_Log, hd_Log, po_Log, sa_Log⟩
  have cl_Device : Cls K C_Device := ⟨pg_Device, hd_Device, po_Device, sa_Device⟩
  have hA : AdOk (⟨PySem.W.exmAny K, C_Log, C_NoNumber, C_NoName, C_Device, C_NoLog, C_WakeError, C_StateError, f21, f20, f18, f17, f15⟩ : Ad) := { tt := trivial, xm_NoNumber_WakeError_StateError := exm_cons xo_NoNumber_WakeError (exm_cons xo_NoNumber_StateError (exm_nil)), xm_NoNumber_NoLog := exm_cons xo_NoNumber_NoLog (exm_nil), xm_NoNumber_NoNumber := exm_cons xo_NoNumber_NoNumber (exm_nil), xm_NoNumber_NoName_NoNumber := exm_cons xo_NoNumber_NoName (exm_cons xo_NoNumber_NoNumber (exm_nil)), xm_NoLog_WakeError_StateError := exm_cons xo_NoLog_WakeError (exm_cons xo_NoLog_StateError (exm_nil)), xm_NoLog_NoLog := exm_cons xo_NoLog_NoLog (exm_nil), xm_NoLog_NoNumber := exm_cons xo_NoLog_NoNumber (exm_nil), xm_NoLog_NoName_NoNumber := exm_cons xo_NoLog_NoName (exm_cons xo_NoLog_NoNumber (exm_nil)), xm_NoName_WakeError_StateError := exm_cons xo_NoName_WakeError (exm_cons xo_NoName_StateError (exm_nil)), xm_NoName_NoLog := exm_cons xo_NoName_NoLog (exm_nil), xm_NoName_NoNumber := exm_cons xo_NoName_NoNumber (exm_nil), xm_NoName_NoName_NoNumber := exm_cons xo_NoName_NoName (exm_cons xo_NoName_NoNumber (exm_nil)) }
  have T : ∀ base : Heap, Txt P w K mg base (⟨PySem.W.exmAny K, C_Log, C_NoNumber, C_NoName, C_Device, C_NoLog, C_WakeError, C_StateError, f21, f20, f18, f17, f15⟩ : Ad) := fun base => { xm := rfl, cl_Log := cl_Log, na_Log_kept_rows := z_na_Log_kept_rows, b_max := PySem.W.mg_none_of X G z_b_max, b_len := PySem.W.mg_none_of X G z_b_len, b_range := PySem.W.mg_none_of X G z_b_range, b_tuple := PySem.W.mg_none_of X G z_b_tuple, b_int := PySem.W.mg_none_of X G z_b_int, b_isinstance := PySem.W.mg_none_of X G z_b_isinstance, b_bool := PySem.W.mg_none_of X G z_b_bool, b_str := PySem.W.mg_none_of X G z_b_str, g_MOST_LETTERS := ⟨_, PySem.W.mg_of X G z_g_MOST_LETTERS⟩, b_all := PySem.W.mg_none_of X G z_b_all, g_LETTERS := ⟨_, PySem.W.mg_of X G z_g_LETTERS⟩, x_NoNumber := x_NoNumber base, x_NoName := x_NoName base, g_MOST_BURN := ⟨_, PySem.W.mg_of X G z_g_MOST_BURN⟩, g_MOST_STEPS := ⟨_, PySem.W.mg_of X G z_g_MOST_STEPS⟩, g_MOST_REST := ⟨_, PySem.W.mg_of X G z_g_MOST_REST⟩, cl_Device := cl_Device, na_Device_whole := z_na_Device_whole, n_NoName := PySem.W.mg_of X G aC_NoName, n_NoNumber := PySem.W.mg_of X G aC_NoNumber, g_MOST_LINKS := ⟨_, PySem.W.mg_of X G z_g_MOST_LINKS⟩, g_BELLS := ⟨Tp_g_BELLS, PySem.W.mg_of X G z_g_BELLS, fun I => Or.inr ⟨_, _, _, hT_g_BELLS, rfl, rfl, (by show 4 ≤ sizeLine; decide), .cons ⟨_, rfl⟩ (.cons ⟨_, rfl⟩ (.cons ⟨_, rfl⟩ (.cons ⟨_, rfl⟩ (.nil))))⟩⟩, g_ALL_DEEDS := ⟨Tp_g_ALL_DEEDS, PySem.W.mg_of X G z_g_ALL_DEEDS, fun I => Or.inr ⟨_, _, _, hT_g_ALL_DEEDS, rfl, rfl, (by show 3 ≤ sizeLine; decide), .cons ⟨_, rfl⟩ (.cons ⟨_, rfl⟩ (.cons ⟨_, rfl⟩ (.nil)))⟩⟩, g_OWN_DEEDS := ⟨Tp_g_OWN_DEEDS, PySem.W.mg_of X G z_g_OWN_DEEDS, fun I => Or.inr ⟨_, _, _, hT_g_OWN_DEEDS, rfl, rfl, (by show 2 ≤ sizeLine; decide), .cons ⟨_, rfl⟩ (.cons ⟨_, rfl⟩ (.nil))⟩⟩, g_ENDS := ⟨Tp_g_ENDS, PySem.W.mg_of X G z_g_ENDS, fun I => Or.inr ⟨_, _, _, hT_g_ENDS, rfl, rfl, (by show 3 ≤ sizeLine; decide), .cons ⟨_, rfl⟩ (.cons ⟨_, rfl⟩ (.cons ⟨_, rfl⟩ (.nil)))⟩⟩, g_FORMS := ⟨Md_FORMS, PySem.W.mg_of X G zm_g_FORMS, mf_ok2 zl_g_FORMS zw_g_FORMS ze_g_FORMS⟩, g_NAMED := ⟨Tp_g_NAMED, PySem.W.mg_of X G z_g_NAMED, fun I => Or.inr ⟨_, _, _, hT_g_NAMED, rfl, rfl, (by show 17 ≤ sizeLine; decide), .cons ⟨_, rfl⟩ (.cons ⟨_, rfl⟩ (.cons ⟨_, rfl⟩ (.cons ⟨_, rfl⟩ (.cons ⟨_, rfl⟩ (.cons ⟨_, rfl⟩ (.cons ⟨_, rfl⟩ (.cons ⟨_, rfl⟩ (.cons ⟨_, rfl⟩ (.cons ⟨_, rfl⟩ (.cons ⟨_, rfl⟩ (.cons ⟨_, rfl⟩ (.cons ⟨_, rfl⟩ (.cons ⟨_, rfl⟩ (.cons ⟨_, rfl⟩ (.cons ⟨_, rfl⟩ (.cons ⟨_, rfl⟩ (.nil)))))))))))))))))⟩⟩, x_NoLog := x_NoLog base, n_WakeError := PySem.W.mg_of X G aC_WakeError, n_StateError := PySem.W.mg_of X G aC_StateError, n_NoLog := PySem.W.mg_of X G aC_NoLog, xf_NoLog := ⟨ga_NoLog, gg_NoLog, eC_NoLog, hx_NoLog⟩, xn_NoLog_found := z_xn_NoLog_found, xf_NoNumber := ⟨ga_NoNumber, gg_NoNumber, eC_NoNumber, hx_NoNumber⟩, xn_NoNumber_found := z_xn_NoNumber_found, b_list := PySem.W.mg_none_of X G z_b_list, b_repr := PySem.W.mg_none_of X G z_b_repr, g_MOST_TOLD := ⟨_, PySem.W.mg_of X G z_g_MOST_TOLD⟩, b_min := PySem.W.mg_none_of X G z_b_min, b_zip := PySem.W.mg_none_of X G z_b_zip }
  have F0 : FunD K "__init__" "Log.__init__" (defArgs s_m_Log_init) (defBody s_m_Log_init) (defScope s_m_Log_init) [] [] f0 _ := ⟨⟨_, _, _, _, _, _, _, _, _, _, rfl, l0, c0, Or.inl ⟨rfl, rfl⟩, Or.inl rfl⟩, k0⟩
  have F1 : FunD K "_law_box" "_law_box" (defArgs s__law_box) (defBody s__law_box) (defScope s__law_box) [] [] f1 _ := ⟨⟨_, _, _, _, _, _, _, _, _, _, rfl, l1, c1, Or.inl ⟨rfl, rfl⟩, Or.inl rfl⟩, k1⟩
  have F2 : FunD K "_law_cell" "_law_cell" (defArgs s__law_cell) (defBody s__law_cell) (defScope s__law_cell) [] [] f2 _ := ⟨⟨_, _, _, _, _, _, _, _, _, _, rfl, l2, c2, Or.inl ⟨rfl, rfl⟩, Or.inl rfl⟩, k2⟩
  have F3 : FunD K "_law_take" "_law_take" (defArgs s__law_take) (defBody s__law_take) (defScope s__law_take) [] [] f3 _ := ⟨⟨_, _, _, _, _, _, _, _, _, _, rfl, l3, c3, Or.inl ⟨rfl, rfl⟩, Or.inl rfl⟩, k3⟩
  have F4 : FunD K "_law_names" "_law_names" (defArgs s__law_names) (defBody s__law_names) (defScope s__law_names) [] [] f4 _ := ⟨⟨_, _, _, _, _, _, _, _, _, _, rfl, l4, c4, Or.inl ⟨rfl, rfl⟩, Or.inl rfl⟩, k4⟩
  have F5 : FunD K "_law_links" "_law_links" (defArgs s__law_links) (defBody s__law_links) (defScope s__law_links) [] [] f5 _ := ⟨⟨_, _, _, _, _, _, _, _, _, _, rfl, l5, c5, Or.inl ⟨rfl, rfl⟩, Or.inl rfl⟩, k5⟩
  have F6 : FunD K "_law_told_device" "_law_told_device" (defArgs s__law_told_device) (defBody s__law_told_device) (defScope s__law_told_device) [] [] f6 _ := ⟨⟨_, _, _, _, _, _, _, _, _, _, rfl, l6, c6, Or.inl ⟨rfl, rfl⟩, Or.inl rfl⟩, k6⟩
  have F7 : FunD K "_law_words" "_law_words" (defArgs s__law_words) (defBody s__law_words) (defScope s__law_words) [] [] f7 _ := ⟨⟨_, _, _, _, _, _, _, _, _, _, rfl, l7, c7, Or.inl ⟨rfl, rfl⟩, Or.inl rfl⟩, k7⟩
  have F8 : FunD K "is_turn" "is_turn" (defArgs s_is_turn) (defBody s_is_turn) (defScope s_is_turn) [] [] f8 _ := ⟨⟨_, _, _, _, _, _, _, _, _, _, rfl, l8, c8, Or.inl ⟨rfl, rfl⟩, Or.inl rfl⟩, k8⟩
  have F9 : FunD K "is_name" "is_name" (defArgs s_is_name) (defBody s_is_name) (defScope s_is_name) [] [] f9 _ := ⟨⟨_, _, _, _, _, _, _, _, _, _, rfl, l9, c9, Or.inl ⟨rfl, rfl⟩, Or.inl rfl⟩, k9⟩
  have F10 : FunD K "is_whole" "is_whole" (defArgs s_is_whole) (defBody s_is_whole) (defScope s_is_whole) [] [] f10 _ := ⟨⟨_, _, _, _, _, _, _, _, _, _, rfl, l10, c10, Or.inl ⟨rfl, rfl⟩, Or.inl rfl⟩, k10⟩
  have F11 : FunD K "need_number" "need_number" (defArgs s_need_number) (defBody s_need_number) (defScope s_need_number) [] [] f11 _ := ⟨⟨_, _, _, _, _, _, _, _, _, _, rfl, l11, c11, Or.inl ⟨rfl, rfl⟩, Or.inl rfl⟩, k11⟩
  have F12 : FunD K "__init__" "Device.__init__" (defArgs s_m_Device_init) (defBody s_m_Device_init) (defScope s_m_Device_init) [] [("parent", .non), ("burn", .int 5), ("sip", .int 1), ("wake", .int 1), ("fall", .int 1), ("rest", .int 0)] f12 _ := ⟨⟨_, _, _, _, _, _, _, _, _, _, rfl, l12, c12, Or.inl ⟨rfl, rfl⟩, Or.inr ⟨_, rfl, by
    intro q hq
    simp only [List.mem_cons, List.mem_nil_iff, or_false] at hq
    rcases hq with rfl | rfl | rfl | rfl | rfl | rfl
    · exact ⟨_, hk12_parent, rfl⟩
    · exact ⟨_, hk12_burn, ⟨_, rfl⟩⟩
    · exact ⟨_, hk12_sip, ⟨_, rfl⟩⟩
    · exact ⟨_, hk12_wake, ⟨_, rfl⟩⟩
    · exact ⟨_, hk12_fall, ⟨_, rfl⟩⟩
    · exact ⟨_, hk12_rest, ⟨_, rfl⟩⟩⟩⟩, k12⟩
  have F13 : FunD K "is_told_device" "is_told_device" (defArgs s_is_told_device) (defBody s_is_told_device) (defScope s_is_told_device) [] [] f13 _ := ⟨⟨_, _, _, _, _, _, _, _, _, _, rfl, l13, c13, Or.inl ⟨rfl, rfl⟩, Or.inl rfl⟩, k13⟩
  have F14 : FunD K "are_links" "are_links" (defArgs s_are_links) (defBody s_are_links) (defScope s_are_links) [] [] f14 _ := ⟨⟨_, _, _, _, _, _, _, _, _, _, rfl, l14, c14, Or.inl ⟨rfl, rfl⟩, Or.inl rfl⟩, k14⟩
  have F15 : FunD K "are_plug" "are_plug" (defArgs s_are_plug) (defBody s_are_plug) (defScope s_are_plug) [] [] f15 _ := ⟨⟨_, _, _, _, _, _, _, _, _, _, rfl, l15, c15, Or.inl ⟨rfl, rfl⟩, Or.inl rfl⟩, k15⟩
  have F16 : FunD K "is_word_of" "is_word_of" (defArgs s_is_word_of) (defBody s_is_word_of) (defScope s_is_word_of) [] [] f16 _ := ⟨⟨_, _, _, _, _, _, _, _, _, _, rfl, l16, c16, Or.inl ⟨rfl, rfl⟩, Or.inl rfl⟩, k16⟩
  have F17 : FunD K "are_bell" "are_bell" (defArgs s_are_bell) (defBody s_are_bell) (defScope s_are_bell) [] [] f17 _ := ⟨⟨_, _, _, _, _, _, _, _, _, _, rfl, l17, c17, Or.inl ⟨rfl, rfl⟩, Or.inl rfl⟩, k17⟩
  have F18 : FunD K "are_missed" "are_missed" (defArgs s_are_missed) (defBody s_are_missed) (defScope s_are_missed) [] [] f18 _ := ⟨⟨_, _, _, _, _, _, _, _, _, _, rfl, l18, c18, Or.inl ⟨rfl, rfl⟩, Or.inl rfl⟩, k18⟩
  have F19 : FunD K "is_deed_of" "is_deed_of" (defArgs s_is_deed_of) (defBody s_is_deed_of) (defScope s_is_deed_of) [] [] f19 _ := ⟨⟨_, _, _, _, _, _, _, _, _, _, rfl, l19, c19, Or.inl ⟨rfl, rfl⟩, Or.inl rfl⟩, k19⟩
  have F20 : FunD K "are_end" "are_end" (defArgs s_are_end) (defBody s_are_end) (defScope s_are_end) [] [] f20 _ := ⟨⟨_, _, _, _, _, _, _, _, _, _, rfl, l20, c20, Or.inl ⟨rfl, rfl⟩, Or.inl rfl⟩, k20⟩
  have F21 : FunD K "are_begin" "are_begin" (defArgs s_are_begin) (defBody s_are_begin) (defScope s_are_begin) [] [] f21 _ := ⟨⟨_, _, _, _, _, _, _, _, _, _, rfl, l21, c21, Or.inl ⟨rfl, rfl⟩, Or.inl rfl⟩, k21⟩
  have F22 : FunD K "are_words" "are_words" (defArgs s_are_words) (defBody s_are_words) (defScope s_are_words) [] [] f22 _ := ⟨⟨_, _, _, _, _, _, _, _, _, _, rfl, l22, c22, Or.inl ⟨rfl, rfl⟩, Or.inl rfl⟩, k22⟩
  have F23 : FunD K "add" "Log.add" (defArgs s_m_Log_add) (defBody s_m_Log_add) (defScope s_m_Log_add) [] [] f23 _ := ⟨⟨_, _, _, _, _, _, _, _, _, _, rfl, l23, c23, Or.inl ⟨rfl, rfl⟩, Or.inl rfl⟩, k23⟩
  have F24 : FunD K "_law_told" "_law_told" (defArgs s__law_told) (defBody s__law_told) (defScope s__law_told) [] [] f24 _ := ⟨⟨_, _, _, _, _, _, _, _, _, _, rfl, l24, c24, Or.inl ⟨rfl, rfl⟩, Or.inl rfl⟩, k24⟩
  have F25 : FunD K "rows" "Log.rows" (defArgs s_m_Log_rows) (defBody s_m_Log_rows) (defScope s_m_Log_rows) [] [] f25 _ := ⟨⟨_, _, _, _, _, _, _, _, _, _, rfl, l25, c25, Or.inl ⟨rfl, rfl⟩, Or.inl rfl⟩, k25⟩
  have F26 : FunD K "_law_refused" "_law_refused" (defArgs s__law_refused) (defBody s__law_refused) (defScope s__law_refused) [] [] f26 _ := ⟨⟨_, _, _, _, _, _, _, _, _, _, rfl, l26, c26, Or.inl ⟨rfl, rfl⟩, Or.inl rfl⟩, k26⟩
  have F27 : FunD K "copied" "Log.copied" (defArgs s_m_Log_copied) (defBody s_m_Log_copied) (defScope s_m_Log_copied) [] [] f27 _ := ⟨⟨_, _, _, _, _, _, _, _, _, _, rfl, l27, c27, Or.inl ⟨rfl, rfl⟩, Or.inl rfl⟩, k27⟩
  have F28 : FunD K "last" "Log.last" (defArgs s_m_Log_last) (defBody s_m_Log_last) (defScope s_m_Log_last) [.int 1] [] f28 _ := ⟨⟨_, _, _, _, _, _, _, _, _, _, rfl, l28, c28, Or.inr ⟨(fun z => nomatch z), _, _, _, _, rfl, hd28, rfl, .cons (⟨_, rfl⟩) (.nil)⟩, Or.inl rfl⟩, k28⟩
  have F29 : FunD K "__len__" "Log.__len__" (defArgs s_m_Log_len) (defBody s_m_Log_len) (defScope s_m_Log_len) [] [] f29 _ := ⟨⟨_, _, _, _, _, _, _, _, _, _, rfl, l29, c29, Or.inl ⟨rfl, rfl⟩, Or.inl rfl⟩, k29⟩
  have F30 : FunD K "_law_last" "_law_last" (defArgs s__law_last) (defBody s__law_last) (defScope s__law_last) [] [] f30 _ := ⟨⟨_, _, _, _, _, _, _, _, _, _, rfl, l30, c30, Or.inl ⟨rfl, rfl⟩, Or.inl rfl⟩, k30⟩
  have F31 : FunD K "_law_stands" "_law_stands" (defArgs s__law_stands) (defBody s__law_stands) (defScope s__law_stands) [] [] f31 _ := ⟨⟨_, _, _, _, _, _, _, _, _, _, rfl, l31, c31, Or.inl ⟨rfl, rfl⟩, Or.inl rfl⟩, k31⟩
  have F32 := fun_mk (st := s_law) l32 c32 k32
  have e := hfa.symm.trans (PySem.W.mg_of X G a32)
  cases e
  have fa_m_Log_init : ∀ base : Heap, FnA P w K mg base 1 f0 ["self"] (sp_m_Log_init (⟨PySem.W.exmAny K, C_Log, C_NoNumber, C_NoName, C_Device, C_NoLog, C_WakeError, C_StateError, f21, f20, f18, f17, f15⟩ : Ad)) [⟨1, [], plainG⟩] := fun base => ok_m_Log_init hA F0 (T base)
  have fa__law_box : ∀ base : Heap, FnA P w K mg base 1 f1 ["_law_cell_here"] (sp__law_box (⟨PySem.W.exmAny K, C_Log, C_NoNumber, C_NoName, C_Device, C_NoLog, C_WakeError, C_StateError, f21, f20, f18, f17, f15⟩ : Ad)) [⟨1, [], plainG⟩] := fun base => ok__law_box hA F1 (T base)
  have fa__law_cell : ∀ base : Heap, FnA P w K mg base 1 f2 ["_law_script", "_law_k"] (sp__law_cell (⟨PySem.W.exmAny K, C_Log, C_NoNumber, C_NoName, C_Device, C_NoLog, C_WakeError, C_StateError, f21, f20, f18, f17, f15⟩ : Ad)) [⟨2, [], plainG⟩] := fun base => ok__law_cell hA F2 (T base)
  have fa__law_take : ∀ base : Heap, FnA P w K mg base 1 f3 ["_law_box_here", "_law_wide"] (sp__law_take (⟨PySem.W.exmAny K, C_Log, C_NoNumber, C_NoName, C_Device, C_NoLog, C_WakeError, C_StateError, f21, f20, f18, f17, f15⟩ : Ad)) [⟨2, [], plainG⟩] := fun base => ok__law_take hA F3 (T base)
  have fa__law_names : ∀ base : Heap, FnA P w K mg base 2 f4 ["_law_box_here", "_law_wide"] (sp__law_names (⟨PySem.W.exmAny K, C_Log, C_NoNumber, C_NoName, C_Device, C_NoLog, C_WakeError, C_StateError, f21, f20, f18, f17, f15⟩ : Ad)) [⟨2, [], plainG⟩] := fun base => ok__law_names hA F4 (T base) ⟨_, PySem.W.mg_of X G a3, k3, fa__law_take base⟩
  have fa__law_links : ∀ base : Heap, FnA P w K mg base 2 f5 ["_law_box_here", "_law_names_here"] (sp__law_links (⟨PySem.W.exmAny K, C_Log, C_NoNumber, C_NoName, C_Device, C_NoLog, C_WakeError, C_StateError, f21, f20, f18, f17, f15⟩ : Ad)) [⟨2, [], plainG⟩] := fun base => ok__law_links hA F5 (T base) ⟨_, PySem.W.mg_of X G a3, k3, fa__law_take base⟩
  have fa__law_told_device : ∀ base : Heap, FnA P w K mg base 2 f6 ["_law_box_here", "_law_names_here"] (sp__law_told_device (⟨PySem.W.exmAny K, C_Log, C_NoNumber, C_NoName, C_Device, C_NoLog, C_WakeError, C_StateError, f21, f20, f18, f17, f15⟩ : Ad)) [⟨2, [], plainG⟩] := fun base => ok__law_told_device hA F6 (T base) ⟨_, PySem.W.mg_of X G a3, k3, fa__law_take base⟩
  have fa__law_words : ∀ base : Heap, FnA P w K mg base 3 f7 ["_law_box_here", "_law_names_here"] (sp__law_words (⟨PySem.W.exmAny K, C_Log, C_NoNumber, C_NoName, C_Device, C_NoLog, C_WakeError, C_StateError, f21, f20, f18, f17, f15⟩ : Ad)) [⟨2, [], plainG⟩] := fun base => ok__law_words hA F7 (T base) ⟨_, PySem.W.mg_of X G a3, k3, fa__law_take base⟩ ⟨_, PySem.W.mg_of X G a5, k5, fa__law_links base⟩ ⟨_, PySem.W.mg_of X G a6, k6, fa__law_told_device base⟩
  have fa_is_turn : ∀ base : Heap, FnA P w K mg base 1 f8 ["thing"] (sp_is_turn (⟨PySem.W.exmAny K, C_Log, C_NoNumber, C_NoName, C_Device, C_NoLog, C_WakeError, C_StateError, f21, f20, f18, f17, f15⟩ : Ad)) [⟨1, [], plainG⟩] := fun base => ok_is_turn hA F8 (T base)
  have fa_is_name : ∀ base : Heap, FnA P w K mg base 1 f9 ["thing"] (sp_is_name (⟨PySem.W.exmAny K, C_Log, C_NoNumber, C_NoName, C_Device, C_NoLog, C_WakeError, C_StateError, f21, f20, f18, f17, f15⟩ : Ad)) [⟨1, [], plainG⟩] := fun base => ok_is_name hA F9 (T base)
  have fa_is_whole : ∀ base : Heap, FnA P w K mg base 1 f10 ["thing", "low", "high"] (sp_is_whole (⟨PySem.W.exmAny K, C_Log, C_NoNumber, C_NoName, C_Device, C_NoLog, C_WakeError, C_StateError, f21, f20, f18, f17, f15⟩ : Ad)) [⟨3, [], plainG⟩] := fun base => ok_is_whole hA F10 (T base)
  have fa_need_number : ∀ base : Heap, FnA P w K mg base 3 f11 ["thing", "high"] (sp_need_number (⟨PySem.W.exmAny K, C_Log, C_NoNumber, C_NoName, C_Device, C_NoLog, C_WakeError, C_StateError, f21, f20, f18, f17, f15⟩ : Ad)) [⟨2, [], plainG⟩] := fun base => ok_need_number hA F11 (T base) ⟨_, PySem.W.mg_of X G a10, k10, fa_is_whole base⟩
  have fa_m_Device_init : ∀ base : Heap, FnA P w K mg base 4 f12 ["self", "name", "parent", "burn", "sip", "wake", "fall", "rest"] (sp_m_Device_init (⟨PySem.W.exmAny K, C_Log, C_NoNumber, C_NoName, C_Device, C_NoLog, C_WakeError, C_StateError, f21, f20, f18, f17, f15⟩ : Ad)) [⟨2, ["parent", "burn", "sip", "wake", "fall", "rest"], pg_m_Device_init_0⟩] := fun base => ok_m_Device_init hA F12 (T base) ⟨_, PySem.W.mg_of X G a9, k9, fa_is_name base⟩ ⟨_, PySem.W.mg_of X G a11, k11, fa_need_number base⟩
  have fa_is_told_device : ∀ base : Heap, FnA P w K mg base 6 f13 ["thing"] (sp_is_told_device (⟨PySem.W.exmAny K, C_Log, C_NoNumber, C_NoName, C_Device, C_NoLog, C_WakeError, C_StateError, f21, f20, f18, f17, f15⟩ : Ad)) [⟨1, [], plainG⟩] := fun base => ok_is_told_device hA F13 (T base) ⟨PySem.W.mg_of X G aC_Device, _, ⟨ms_Device, me12_Device, fn12, kC_Device⟩, fa_m_Device_init base⟩
  have fa_are_links : ∀ base : Heap, FnA P w K mg base 2 f14 ["thing"] (sp_are_links (⟨PySem.W.exmAny K, C_Log, C_NoNumber, C_NoName, C_Device, C_NoLog, C_WakeError, C_StateError, f21, f20, f18, f17, f15⟩ : Ad)) [⟨1, [], plainG⟩] := fun base => ok_are_links hA F14 (T base) ⟨_, PySem.W.mg_of X G a9, k9, fa_is_name base⟩
  have fa_are_plug : ∀ base : Heap, FnA P w K mg base 7 f15 ["words"] (sp_are_plug (⟨PySem.W.exmAny K, C_Log, C_NoNumber, C_NoName, C_Device, C_NoLog, C_WakeError, C_StateError, f21, f20, f18, f17, f15⟩ : Ad)) [⟨1, [], plainG⟩] := fun base => ok_are_plug hA F15 (T base) ⟨_, PySem.W.mg_of X G a13, k13, fa_is_told_device base⟩ ⟨_, PySem.W.mg_of X G a14, k14, fa_are_links base⟩
  have fa_is_word_of : ∀ base : Heap, FnA P w K mg base 1 f16 ["thing", "words"] (sp_is_word_of (⟨PySem.W.exmAny K, C_Log, C_NoNumber, C_NoName, C_Device, C_NoLog, C_WakeError, C_StateError, f21, f20, f18, f17, f15⟩ : Ad)) [⟨2, [], plainG⟩] := fun base => ok_is_word_of hA F16 (T base)
  have fa_are_bell : ∀ base : Heap, FnA P w K mg base 2 f17 ["words"] (sp_are_bell (⟨PySem.W.exmAny K, C_Log, C_NoNumber, C_NoName, C_Device, C_NoLog, C_WakeError, C_StateError, f21, f20, f18, f17, f15⟩ : Ad)) [⟨1, [], plainG⟩] := fun base => ok_are_bell hA F17 (T base) ⟨_, PySem.W.mg_of X G a9, k9, fa_is_name base⟩ ⟨_, PySem.W.mg_of X G a16, k16, fa_is_word_of base⟩
  have fa_are_missed : ∀ base : Heap, FnA P w K mg base 2 f18 ["words"] (sp_are_missed (⟨PySem.W.exmAny K, C_Log, C_NoNumber, C_NoName, C_Device, C_NoLog, C_WakeError, C_StateError, f21, f20, f18, f17, f15⟩ : Ad)) [⟨1, [], plainG⟩] := fun base => ok_are_missed hA F18 (T base) ⟨_, PySem.W.mg_of X G a9, k9, fa_is_name base⟩
  have fa_is_deed_of : ∀ base : Heap, FnA P w K mg base 2 f19 ["deed", "name"] (sp_is_deed_of (⟨PySem.W.exmAny K, C_Log, C_NoNumber, C_NoName, C_Device, C_NoLog, C_WakeError, C_StateError, f21, f20, f18, f17, f15⟩ : Ad)) [⟨2, [], plainG⟩] := fun base => ok_is_deed_of hA F19 (T base) ⟨_, PySem.W.mg_of X G a16, k16, fa_is_word_of base⟩ ⟨_, PySem.W.mg_of X G a9, k9, fa_is_name base⟩
  have fa_are_end : ∀ base : Heap, FnA P w K mg base 3 f20 ["words"] (sp_are_end (⟨PySem.W.exmAny K, C_Log, C_NoNumber, C_NoName, C_Device, C_NoLog, C_WakeError, C_StateError, f21, f20, f18, f17, f15⟩ : Ad)) [⟨1, [], plainG⟩] := fun base => ok_are_end hA F20 (T base) ⟨_, PySem.W.mg_of X G a19, k19, fa_is_deed_of base⟩ ⟨_, PySem.W.mg_of X G a16, k16, fa_is_word_of base⟩
  have fa_are_begin : ∀ base : Heap, FnA P w K mg base 3 f21 ["words"] (sp_are_begin (⟨PySem.W.exmAny K, C_Log, C_NoNumber, C_NoName, C_Device, C_NoLog, C_WakeError, C_StateError, f21, f20, f18, f17, f15⟩ : Ad)) [⟨1, [], plainG⟩] := fun base => ok_are_begin hA F21 (T base) ⟨_, PySem.W.mg_of X G a19, k19, fa_is_deed_of base⟩
  have fa_are_words : ∀ base : Heap, FnA P w K mg base 8 f22 ["words"] (sp_are_words (⟨PySem.W.exmAny K, C_Log, C_NoNumber, C_NoName, C_Device, C_NoLog, C_WakeError, C_StateError, f21, f20, f18, f17, f15⟩ : Ad)) [⟨1, [], plainG⟩] := fun base => ok_are_words hA F22 (T base) ⟨PySem.W.mg_of X G a15, k15, fa_are_plug base⟩ ⟨PySem.W.mg_of X G a17, k17, fa_are_bell base⟩ ⟨PySem.W.mg_of X G a18, k18, fa_are_missed base⟩ ⟨PySem.W.mg_of X G a20, k20, fa_are_end base⟩ ⟨PySem.W.mg_of X G a21, k21, fa_are_begin base⟩ ⟨_, PySem.W.mg_of X G a9, k9, fa_is_name base⟩
  have fa_m_Log_add : ∀ base : Heap, FnA P w K mg base 9 f23 ["self", "turn", "words"] (sp_m_Log_add (⟨PySem.W.exmAny K, C_Log, C_NoNumber, C_NoName, C_Device, C_NoLog, C_WakeError, C_StateError, f21, f20, f18, f17, f15⟩ : Ad)) [⟨3, [], plainG⟩] := fun base => ok_m_Log_add hA F23 (T base) ⟨_, PySem.W.mg_of X G a8, k8, fa_is_turn base⟩ ⟨_, PySem.W.mg_of X G a22, k22, fa_are_words base⟩
  have fa__law_told : ∀ base : Heap, FnA P w K mg base 10 f24 ["_law_log", "_law_turn", "_law_words_here"] (sp__law_told (⟨PySem.W.exmAny K, C_Log, C_NoNumber, C_NoName, C_Device, C_NoLog, C_WakeError, C_StateError, f21, f20, f18, f17, f15⟩ : Ad)) [⟨3, [], plainG⟩] := fun base => ok__law_told hA F24 (T base) ⟨cl_Log, _, ⟨me23_Log, fn23, k23⟩, fa_m_Log_add base⟩
  have fa_m_Log_rows : ∀ base : Heap, FnA P w K mg base 1 f25 ["self"] (sp_m_Log_rows (⟨PySem.W.exmAny K, C_Log, C_NoNumber, C_NoName, C_Device, C_NoLog, C_WakeError, C_StateError, f21, f20, f18, f17, f15⟩ : Ad)) [⟨1, [], plainG⟩] := fun base => ok_m_Log_rows hA F25 (T base)
  have fa__law_refused : ∀ base : Heap, FnA P w K mg base 11 f26 ["_law_box_here", "_law_log", "_law_rows", "_law_words_here"] (sp__law_refused (⟨PySem.W.exmAny K, C_Log, C_NoNumber, C_NoName, C_Device, C_NoLog, C_WakeError, C_StateError, f21, f20, f18, f17, f15⟩ : Ad)) [⟨4, [], plainG⟩] := fun base => ok__law_refused hA F26 (T base) ⟨_, PySem.W.mg_of X G a3, k3, fa__law_take base⟩ ⟨_, PySem.W.mg_of X G a24, k24, fa__law_told base⟩ ⟨cl_Log, _, ⟨me25_Log, fn25, k25⟩, fa_m_Log_rows base⟩
  have fa_m_Log_copied : ∀ base : Heap, FnA P w K mg base 3 f27 ["self"] (sp_m_Log_copied (⟨PySem.W.exmAny K, C_Log, C_NoNumber, C_NoName, C_Device, C_NoLog, C_WakeError, C_StateError, f21, f20, f18, f17, f15⟩ : Ad)) [⟨1, [], plainG⟩] := fun base => ok_m_Log_copied hA F27 (T base) ⟨PySem.W.mg_of X G aC_Log, _, ⟨ms_Log, me0_Log, fn0, kC_Log⟩, fa_m_Log_init base⟩
  have fa_m_Log_last : ∀ base : Heap, FnA P w K mg base 3 f28 ["self", "many"] (sp_m_Log_last (⟨PySem.W.exmAny K, C_Log, C_NoNumber, C_NoName, C_Device, C_NoLog, C_WakeError, C_StateError, f21, f20, f18, f17, f15⟩ : Ad)) [⟨1, ["many"], pg_m_Log_last_0⟩, ⟨2, [], pg_m_Log_last_1⟩, ⟨1, [], pg_m_Log_last_2⟩] := fun base => ok_m_Log_last hA F28 (T base) ⟨_, PySem.W.mg_of X G a10, k10, fa_is_whole base⟩
  have fa_m_Log_len : ∀ base : Heap, FnA P w K mg base 1 f29 ["self"] (sp_m_Log_len (⟨PySem.W.exmAny K, C_Log, C_NoNumber, C_NoName, C_Device, C_NoLog, C_WakeError, C_StateError, f21, f20, f18, f17, f15⟩ : Ad)) [⟨1, [], plainG⟩] := fun base => ok_m_Log_len hA F29 (T base)
  have fa__law_last : ∀ base : Heap, FnA P w K mg base 4 f30 ["_law_log", "_law_wide"] (sp__law_last (⟨PySem.W.exmAny K, C_Log, C_NoNumber, C_NoName, C_Device, C_NoLog, C_WakeError, C_StateError, f21, f20, f18, f17, f15⟩ : Ad)) [⟨2, [], plainG⟩] := fun base => ok__law_last hA F30 (T base) ⟨cl_Log, _, ⟨me28_Log, fn28, k28⟩, fa_m_Log_last base⟩
  have fa__law_stands : ∀ base : Heap, FnA P w K mg base 5 f31 ["_law_box_here", "_law_log", "_law_rows"] (sp__law_stands (⟨PySem.W.exmAny K, C_Log, C_NoNumber, C_NoName, C_Device, C_NoLog, C_WakeError, C_StateError, f21, f20, f18, f17, f15⟩ : Ad)) [⟨3, [], plainG⟩] := fun base => ok__law_stands hA F31 (T base) ⟨_, PySem.W.mg_of X G a3, k3, fa__law_take base⟩ ⟨cl_Log, _, ⟨me28_Log, fn28, k28⟩, fa_m_Log_last base⟩ ⟨cl_Log, _, ⟨me29_Log, fn29, k29⟩, fa_m_Log_len base⟩ ⟨cl_Log, _, ⟨me25_Log, fn25, k25⟩, fa_m_Log_rows base⟩ ⟨_, PySem.W.mg_of X G a30, k30, fa__law_last base⟩
  exact fun base => ok_law hA F32 hfa (T base) ⟨PySem.W.mg_of X G aC_Log, _, ⟨ms_Log, me0_Log, fn0, kC_Log⟩, fa_m_Log_init base⟩ ⟨_, PySem.W.mg_of X G a1, k1, fa__law_box base⟩ ⟨_, PySem.W.mg_of X G a2, k2, fa__law_cell base⟩ ⟨_, PySem.W.mg_of X G a3, k3, fa__law_take base⟩ ⟨_, PySem.W.mg_of X G a4, k4, fa__law_names base⟩ ⟨_, PySem.W.mg_of X G a7, k7, fa__law_words base⟩ ⟨_, PySem.W.mg_of X G a24, k24, fa__law_told base⟩ ⟨_, PySem.W.mg_of X G a26, k26, fa__law_refused base⟩ ⟨cl_Log, _, ⟨me27_Log, fn27, k27⟩, fa_m_Log_copied base⟩ ⟨_, PySem.W.mg_of X G a31, k31, fa__law_stands base⟩
end K16

set_option Elab.async false
set_option maxRecDepth 100000
namespace K16
open PySem L2 DL
theorem walk {l : PySem.W.OpenLaw} {q : Program} {loose : List Str} {XP : (Str → Option Value) → Heap → Prop} {YP : World → Heap → Prop} {d : DefRec} {K : Params → PySem.W.Frag} (hn : l.most = some 63) (hdf : d.params.defaults = []) (hY : ∀ (w : World) (h : Heap), YP w h → (K w.params).In h)
    (F : ∀ (w : World) (mg : Str → Option Value) (fa : Addr) (h : Heap), (K w.params).In h → h.Ns mainGlobals mg → mg d.name = some (.ref fa) → mg "law" = some (.ref fa) ∧ ∀ base : Heap, Fn l.prog w (K w.params) mg base 12 "law" ["_law_script"] spLaw) : PySem.W.WalkO q loose XP YP l.row.toRowW d [] (fun f vs => PySem.call f vs) :=
  walk_fn hn hdf ⟨rfl, by decide, by decide⟩ hY F fun hl hS => law_pr hl hS
end K16
open PySem PySem.W PyProof.Rows in
set_option maxRecDepth 100000 in
set_option maxHeartbeats 0 in
theorem PySem.Challenge.cw_drowsetree_k16_logs_kept_holds : PySem.Challenge.rw_drowsetree_k16_logs_kept.Holds := by
  w_on; o_law; k_head; (case hw => w_witness2)
  k_fill
  refine K16.walk (l := PySem.Challenge.rw_drowsetree_k16_logs_kept) rfl rfl (fun w h Y => PySem.W.kIn_of Y) ?F
  case F =>
    intro w mg fa h KX G hmg
    refine ⟨hmg, ?_⟩
    refine' K16.all_mk KX G hmg ?aC_NoNumber ?xL_NoNumber ?sa_NoNumber ?ga_NoNumber ?gg_NoNumber ?nb_NoNumber ?iC_NoNumber ?tI_NoNumber ?lI_NoNumber ?cI_NoNumber ?kI_NoNumber ?kC_NoNumber ?eC_NoNumber ?tC_NoNumber ?cS_NoNumber ?cA_NoNumber ?cP_NoNumber ?cT_NoNumber ?cM_NoNumber ?kbool_NoNumber ?kint_NoNumber ?kstr_NoNumber ?klist_NoNumber ?ktuple_NoNumber ?kdict_NoNumber ?aC_NoName ?xL_NoName ?sa_NoName ?ga_NoName ?gg_NoName ?nb_NoName ?iC_NoName ?tI_NoName ?lI_NoName ?cI_NoName ?kI_NoName ?kC_NoName ?eC_NoName ?tC_NoName ?cS_NoName ?cA_NoName ?cP_NoName ?cT_NoName ?cM_NoName ?kbool_NoName ?kint_NoName ?kstr_NoName ?klist_NoName ?ktuple_NoName ?kdict_NoName ?aC_NoLog ?xL_NoLog ?sa_NoLog ?ga_NoLog ?gg_NoLog ?nb_NoLog ?iC_NoLog ?tI_NoLog ?lI_NoLog ?cI_NoLog ?kI_NoLog ?kC_NoLog ?eC_NoLog ?tC_NoLog ?cS_NoLog ?cA_NoLog ?cP_NoLog ?cT_NoLog ?cM_NoLog ?kbool_NoLog ?kint_NoLog ?kstr_NoLog ?klist_NoLog ?ktuple_NoLog ?kdict_NoLog ?aC_WakeError ?aC_StateError ?eb_WakeError ?ei_WakeError ?et_WakeError ?eb_StateError ?ei_StateError ?et_StateError ?eb_NoLog ?ei_NoLog ?et_NoLog ?eb_NoNumber ?ei_NoNumber ?et_NoNumber ?eb_NoName ?ei_NoName ?et_NoName ?xs_NoNumber_WakeError ?xs_NoNumber_StateError ?xs_NoNumber_NoLog ?xs_NoNumber_NoNumber ?xs_NoNumber_NoName ?xs_NoLog_WakeError ?xs_NoLog_StateError ?xs_NoLog_NoLog ?xs_NoLog_NoNumber ?xs_NoLog_NoName ?xs_NoName_WakeError ?xs_NoName_StateError ?xs_NoName_NoLog ?xs_NoName_NoNumber ?xs_NoName_NoName ?aC_Log ?pg_Log ?hd_Log ?po_Log ?sa_Log ?aC_Device ?pg_Device ?hd_Device ?po_Device ?sa_Device ?z_na_Log_kept_rows ?z_b_max ?z_b_len ?z_b_range ?z_b_tuple ?z_b_int ?z_b_isinstance ?z_b_bool ?z_b_str ?z_g_MOST_LETTERS ?z_b_all ?z_g_LETTERS ?z_g_MOST_BURN ?z_g_MOST_STEPS ?z_g_MOST_REST ?z_na_Device_whole ?z_g_MOST_LINKS ?z_g_BELLS ?hT_g_BELLS ?z_g_ALL_DEEDS ?hT_g_ALL_DEEDS ?z_g_OWN_DEEDS ?hT_g_OWN_DEEDS ?z_g_ENDS ?hT_g_ENDS ?zm_g_FORMS ?zl_g_FORMS ?zw_g_FORMS ?ze_g_FORMS ?z_g_NAMED ?hT_g_NAMED ?hx_NoLog ?z_xn_NoLog_found ?hx_NoNumber ?z_xn_NoNumber_found ?z_b_list ?z_b_repr ?z_g_MOST_TOLD ?z_b_min ?z_b_zip ?me0_Log ?fn0 ?l0 ?c0 ?k0 ?a1 ?l1 ?c1 ?k1 ?a2 ?l2 ?c2 ?k2 ?a3 ?l3 ?c3 ?k3 ?a4 ?l4 ?c4 ?k4 ?a5 ?l5 ?c5 ?k5 ?a6 ?l6 ?c6 ?k6 ?a7 ?l7 ?c7 ?k7 ?a8 ?l8 ?c8 ?k8 ?a9 ?l9 ?c9 ?k9 ?a10 ?l10 ?c10 ?k10 ?a11 ?l11 ?c11 ?k11 ?me12_Device ?fn12 ?hk12_parent ?hk12_burn ?hk12_sip ?hk12_wake ?hk12_fall ?hk12_rest ?l12 ?c12 ?k12 ?a13 ?l13 ?c13 ?k13 ?a14 ?l14 ?c14 ?k14 ?a15 ?l15 ?c15 ?k15 ?a16 ?l16 ?c16 ?k16 ?a17 ?l17 ?c17 ?k17 ?a18 ?l18 ?c18 ?k18 ?a19 ?l19 ?c19 ?k19 ?a20 ?l20 ?c20 ?k20 ?a21 ?l21 ?c21 ?k21 ?a22 ?l22 ?c22 ?k22 ?me23_Log ?fn23 ?l23 ?c23 ?k23 ?a24 ?l24 ?c24 ?k24 ?me25_Log ?fn25 ?l25 ?c25 ?k25 ?a26 ?l26 ?c26 ?k26 ?me27_Log ?fn27 ?l27 ?c27 ?k27 ?me28_Log ?fn28 ?hd28 ?l28 ?c28 ?k28 ?me29_Log ?fn29 ?l29 ?c29 ?k29 ?a30 ?l30 ?c30 ?k30 ?a31 ?l31 ?c31 ?k31 ?a32 ?l32 ?c32 ?k32 ?ms_Device ?kC_Device ?ms_Log ?kC_Log
    (case aC_NoNumber => k_is)
    (case aC_NoName => k_is)
    (case aC_NoLog => k_is)
    (case aC_WakeError => k_is)
    (case aC_StateError => k_is)
    (case aC_Log => k_is)
    (case aC_Device => k_is)
    (case a1 => k_is)
    (case a2 => k_is)
    (case a3 => k_is)
    (case a4 => k_is)
    (case a5 => k_is)
    (case a6 => k_is)
    (case a7 => k_is)
    (case a8 => k_is)
    (case a9 => k_is)
    (case a10 => k_is)
    (case a11 => k_is)
    (case a13 => k_is)
    (case a14 => k_is)
    (case a15 => k_is)
    (case a16 => k_is)
    (case a17 => k_is)
    (case a18 => k_is)
    (case a19 => k_is)
    (case a20 => k_is)
    (case a21 => k_is)
    (case a22 => k_is)
    (case a24 => k_is)
    (case a26 => k_is)
    (case a30 => k_is)
    (case a31 => k_is)
    (case a32 => k_is)
    (case iC_NoNumber => k_is)
    (case iC_NoName => k_is)
    (case iC_NoLog => k_is)
    (case me0_Log => k_is)
    (case me12_Device => k_is)
    (case me23_Log => k_is)
    (case me25_Log => k_is)
    (case me27_Log => k_is)
    (case me28_Log => k_is)
    (case me29_Log => k_is)
    (case xL_NoNumber => k_is)
    (case sa_NoNumber => k_is)
    (case ga_NoNumber => k_is)
    (case gg_NoNumber => k_is)
    (case nb_NoNumber => k_is)
    (case tI_NoNumber => k_is)
    (case lI_NoNumber => k_is)
    (case cI_NoNumber => k_is)
    (case kI_NoNumber => k_is)
    (case kC_NoNumber => k_is)
    (case eC_NoNumber => k_is)
    (case tC_NoNumber => k_is)
    (case cS_NoNumber => k_is)
    (case cA_NoNumber => k_is)
    (case cP_NoNumber => k_is)
    (case cT_NoNumber => k_is)
    (case cM_NoNumber => k_is)
    (case kbool_NoNumber => k_is)
    (case kint_NoNumber => k_is)
    (case kstr_NoNumber => k_is)
    (case klist_NoNumber => k_is)
    (case ktuple_NoNumber => k_is)
    (case kdict_NoNumber => k_is)
    (case xL_NoName => k_is)
    (case sa_NoName => k_is)
    (case ga_NoName => k_is)
    (case gg_NoName => k_is)
    (case nb_NoName => k_is)
    (case tI_NoName => k_is)
    (case lI_NoName => k_is)
    (case cI_NoName => k_is)
    (case kI_NoName => k_is)
    (case kC_NoName => k_is)
    (case eC_NoName => k_is)
    (case tC_NoName => k_is)
    (case cS_NoName => k_is)
    (case cA_NoName => k_is)
    (case cP_NoName => k_is)
    (case cT_NoName => k_is)
    (case cM_NoName => k_is)
    (case kbool_NoName => k_is)
    (case kint_NoName => k_is)
    (case kstr_NoName => k_is)
    (case klist_NoName => k_is)
    (case ktuple_NoName => k_is)
    (case kdict_NoName => k_is)
    (case xL_NoLog => k_is)
    (case sa_NoLog => k_is)
    (case ga_NoLog => k_is)
    (case gg_NoLog => k_is)
    (case nb_NoLog => k_is)
    (case tI_NoLog => k_is)
    (case lI_NoLog => k_is)
    (case cI_NoLog => k_is)
    (case kI_NoLog => k_is)
    (case kC_NoLog => k_is)
    (case eC_NoLog => k_is)
    (case tC_NoLog => k_is)
    (case cS_NoLog => k_is)
    (case cA_NoLog => k_is)
    (case cP_NoLog => k_is)
    (case cT_NoLog => k_is)
    (case cM_NoLog => k_is)
    (case kbool_NoLog => k_is)
    (case kint_NoLog => k_is)
    (case kstr_NoLog => k_is)
    (case klist_NoLog => k_is)
    (case ktuple_NoLog => k_is)
    (case kdict_NoLog => k_is)
    (case eb_WakeError => k_is)
    (case ei_WakeError => k_is)
    (case et_WakeError => k_is)
    (case eb_StateError => k_is)
    (case ei_StateError => k_is)
    (case et_StateError => k_is)
    (case eb_NoLog => k_is)
    (case ei_NoLog => k_is)
    (case et_NoLog => k_is)
    (case eb_NoNumber => k_is)
    (case ei_NoNumber => k_is)
    (case et_NoNumber => k_is)
    (case eb_NoName => k_is)
    (case ei_NoName => k_is)
    (case et_NoName => k_is)
    (case xs_NoNumber_WakeError => k_is)
    (case xs_NoNumber_StateError => k_is)
    (case xs_NoNumber_NoLog => k_is)
    (case xs_NoNumber_NoNumber => k_is)
    (case xs_NoNumber_NoName => k_is)
    (case xs_NoLog_WakeError => k_is)
    (case xs_NoLog_StateError => k_is)
    (case xs_NoLog_NoLog => k_is)
    (case xs_NoLog_NoNumber => k_is)
    (case xs_NoLog_NoName => k_is)
    (case xs_NoName_WakeError => k_is)
    (case xs_NoName_StateError => k_is)
    (case xs_NoName_NoLog => k_is)
    (case xs_NoName_NoNumber => k_is)
    (case xs_NoName_NoName => k_is)
    (case pg_Log => k_is)
    (case hd_Log => k_is)
    (case po_Log => k_is)
    (case sa_Log => k_is)
    (case pg_Device => k_is)
    (case hd_Device => k_is)
    (case po_Device => k_is)
    (case sa_Device => k_is)
    (case z_na_Log_kept_rows => k_is)
    (case z_b_max => k_is)
    (case z_b_len => k_is)
    (case z_b_range => k_is)
    (case z_b_tuple => k_is)
    (case z_b_int => k_is)
    (case z_b_isinstance => k_is)
    (case z_b_bool => k_is)
    (case z_b_str => k_is)
    (case z_g_MOST_LETTERS => k_is)
    (case z_b_all => k_is)
    (case z_g_LETTERS => k_is)
    (case z_g_MOST_BURN => k_is)
    (case z_g_MOST_STEPS => k_is)
    (case z_g_MOST_REST => k_is)
    (case z_na_Device_whole => k_is)
    (case z_g_MOST_LINKS => k_is)
    (case z_g_BELLS => k_is)
    (case z_g_ALL_DEEDS => k_is)
    (case z_g_OWN_DEEDS => k_is)
    (case z_g_ENDS => k_is)
    (case zm_g_FORMS => k_is)
    (case z_g_NAMED => k_is)
    (case hx_NoLog => k_is)
    (case z_xn_NoLog_found => k_is)
    (case hx_NoNumber => k_is)
    (case z_xn_NoNumber_found => k_is)
    (case z_b_list => k_is)
    (case z_b_repr => k_is)
    (case z_g_MOST_TOLD => k_is)
    (case z_b_min => k_is)
    (case z_b_zip => k_is)
    (case fn0 => k_is)
    (case l0 => k_is)
    (case c0 => k_is)
    (case k0 => k_is)
    (case l1 => k_is)
    (case c1 => k_is)
    (case k1 => k_is)
    (case l2 => k_is)
    (case c2 => k_is)
    (case k2 => k_is)
    (case l3 => k_is)
    (case c3 => k_is)
    (case k3 => k_is)
    (case l4 => k_is)
    (case c4 => k_is)
    (case k4 => k_is)
    (case l5 => k_is)
    (case c5 => k_is)
    (case k5 => k_is)
    (case l6 => k_is)
    (case c6 => k_is)
    (case k6 => k_is)
    (case l7 => k_is)
    (case c7 => k_is)
    (case k7 => k_is)
    (case l8 => k_is)
    (case c8 => k_is)
    (case k8 => k_is)
    (case l9 => k_is)
    (case c9 => k_is)
    (case k9 => k_is)
    (case l10 => k_is)
    (case c10 => k_is)
    (case k10 => k_is)
    (case l11 => k_is)
    (case c11 => k_is)
    (case k11 => k_is)
    (case fn12 => k_is)
    (case l12 => k_is)
    (case c12 => k_is)
    (case k12 => k_is)
    (case l13 => k_is)
    (case c13 => k_is)
    (case k13 => k_is)
    (case l14 => k_is)
    (case c14 => k_is)
    (case k14 => k_is)
    (case l15 => k_is)
    (case c15 => k_is)
    (case k15 => k_is)
    (case l16 => k_is)
    (case c16 => k_is)
    (case k16 => k_is)
    (case l17 => k_is)
    (case c17 => k_is)
    (case k17 => k_is)
    (case l18 => k_is)
    (case c18 => k_is)
    (case k18 => k_is)
    (case l19 => k_is)
    (case c19 => k_is)
    (case k19 => k_is)
    (case l20 => k_is)
    (case c20 => k_is)
    (case k20 => k_is)
    (case l21 => k_is)
    (case c21 => k_is)
    (case k21 => k_is)
    (case l22 => k_is)
    (case c22 => k_is)
    (case k22 => k_is)
    (case fn23 => k_is)
    (case l23 => k_is)
    (case c23 => k_is)
    (case k23 => k_is)
    (case l24 => k_is)
    (case c24 => k_is)
    (case k24 => k_is)
    (case fn25 => k_is)
    (case l25 => k_is)
    (case c25 => k_is)
    (case k25 => k_is)
    (case l26 => k_is)
    (case c26 => k_is)
    (case k26 => k_is)
    (case fn27 => k_is)
    (case l27 => k_is)
    (case c27 => k_is)
    (case k27 => k_is)
    (case fn28 => k_is)
    (case l28 => k_is)
    (case c28 => k_is)
    (case k28 => k_is)
    (case fn29 => k_is)
    (case l29 => k_is)
    (case c29 => k_is)
    (case k29 => k_is)
    (case l30 => k_is)
    (case c30 => k_is)
    (case k30 => k_is)
    (case l31 => k_is)
    (case c31 => k_is)
    (case k31 => k_is)
    (case l32 => k_is)
    (case c32 => k_is)
    (case k32 => k_is)
    (case ms_Device => k_is)
    (case kC_Device => k_is)
    (case ms_Log => k_is)
    (case kC_Log => k_is)
    (case hk12_parent => k_is)
    (case hk12_burn => k_is)
    (case hk12_sip => k_is)
    (case hk12_wake => k_is)
    (case hk12_fall => k_is)
    (case hk12_rest => k_is)
    (case hd28 => k_is)
    (case hT_g_BELLS => k_is)
    (case hT_g_ALL_DEEDS => k_is)
    (case hT_g_OWN_DEEDS => k_is)
    (case hT_g_ENDS => k_is)
    (case zl_g_FORMS => k_is)
    (case hT_g_NAMED => k_is)
    (case zw_g_FORMS => first | rfl | kernel_rfl | decide +kernel)
    (case ze_g_FORMS => first | rfl | kernel_rfl | decide +kernel)
