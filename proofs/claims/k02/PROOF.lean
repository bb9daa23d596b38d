import PyProof.Rows.All
import Wide.All
import OpenK.AllK
import Wide.FinOn
import HandS.ForMost
import HandS.ForExc
import HandS.CallSlots
import HandS.Walk
import HandS.Wide
import HandS.IsInst
import HandS.Style
import HandS.ExcInit
import KE.KExcIs
import HandS.Defaults
import HandS.Replace
import HandS.StrMore
import PyProof.ReprLen
import KE.IntTextLaws
import PySem.Challenge.RW_drowsetree_k02_numbers_by_names
set_option Elab.async false
set_option linter.all false
set_option maxRecDepth 100000
set_option maxHeartbeats 2000000
namespace DL
open PySem L2

/-! ## data -/
inductive D where
  | non | bl (b : Bool) | int (i : Int) | str (x : Str) | ref (a : Addr) | ty (n : String)
  | lst (xs : List D) | sq (xs : List D) | tup (xs : List D) | dct (kvs : List (Key × D)) | ins (C : Addr) (fs : List (Str × D))

mutual
inductive Rep (K : PySem.W.Frag) (I : Hp) : V → D → Prop
  | non : Rep K I .non .non
  | bl (b : Bool) : Rep K I (.bl b) (.bl b)
  | int (i : Int) : Rep K I (.int i) (.int i)
  | str (x : Str) : Rep K I (.str x) (.str x)
  | ref (a : Addr) : Rep K I (.ref a) (.ref a)
  | ty (n : String) : Rep K I (.ty n) (.ty n)
  | lst {a : Addr} {vs : List V} {ds : List D} : I a = some (.lst vs) → Reps K I vs ds → Rep K I (.ref a) (.lst ds)
  | sq {a : Addr} {vs : List V} {ds : List D} : SqL K I a vs → Reps K I vs ds → Rep K I (.ref a) (.sq ds)
  | tup {a : Addr} {vs : List V} {ds : List D} : SqT K I a vs → Reps K I vs ds → Rep K I (.ref a) (.tup ds)
  | dct {a : Addr} {kvs : List (Key × V)} {kds : List (Key × D)} : I a = some (.dK kvs) → RepK K I kvs kds → Rep K I (.ref a) (.dct kds)
  | ins {a C dx : Addr} {fs : List (Str × V)} {fds : List (Str × D)} : I a = some (.ins C dx fs) → RepF K I fs fds → Rep K I (.ref a) (.ins C fds)
inductive Reps (K : PySem.W.Frag) (I : Hp) : List V → List D → Prop
  | nil : Reps K I [] []
  | cons {v : V} {d : D} {vs : List V} {ds : List D} : Rep K I v d → Reps K I vs ds → Reps K I (v :: vs) (d :: ds)
inductive RepK (K : PySem.W.Frag) (I : Hp) : List (Key × V) → List (Key × D) → Prop
  | nil : RepK K I [] []
  | cons {k : Key} {v : V} {d : D} {vs : List (Key × V)} {ds : List (Key × D)} : Rep K I v d → RepK K I vs ds → RepK K I ((k, v) :: vs) ((k, d) :: ds)
inductive RepF (K : PySem.W.Frag) (I : Hp) : List (Str × V) → List (Str × D) → Prop
  | nil : RepF K I [] []
  | cons {k : Str} {v : V} {d : D} {vs : List (Str × V)} {ds : List (Str × D)} : Rep K I v d → RepF K I vs ds → RepF K I ((k, v) :: vs) ((k, d) :: ds)
end

theorem sq_mono {K : PySem.W.Frag} {I I' : Hp} (e : Same I I') {a : Addr} {xs : List V} (h : SqL K I a xs) : SqL K I' a xs := e.seq h
theorem st_mono {K : PySem.W.Frag} {I I' : Hp} (e : Same I I') {a : Addr} {xs : List V} (h : SqT K I a xs) : SqT K I' a xs := by
  rcases h with (h | ⟨o, h⟩) | h
  · exact .inl (.inl (e _ _ h))
  · exact .inl (.inr ⟨o, e _ _ h⟩)
  · exact .inr h
mutual
theorem Rep.mono {K : PySem.W.Frag} {I I' : Hp} (e : Same I I') : ∀ {v : V} {d : D}, Rep K I v d → Rep K I' v d
  | _, _, .non => .non
  | _, _, .bl b => .bl b
  | _, _, .int i => .int i
  | _, _, .str x => .str x
  | _, _, .ref a => .ref a
  | _, _, .ty n => .ty n
  | _, _, .lst h r => .lst (e _ _ h) (Reps.mono e r)
  | _, _, .sq h r => .sq (sq_mono e h) (Reps.mono e r)
  | _, _, .tup h r => .tup (st_mono e h) (Reps.mono e r)
  | _, _, .dct h r => .dct (e _ _ h) (RepK.mono e r)
  | _, _, .ins h r => .ins (e _ _ h) (RepF.mono e r)
theorem Reps.mono {K : PySem.W.Frag} {I I' : Hp} (e : Same I I') : ∀ {vs : List V} {ds : List D}, Reps K I vs ds → Reps K I' vs ds
  | _, _, .nil => .nil
  | _, _, .cons h r => .cons (Rep.mono e h) (Reps.mono e r)
theorem RepK.mono {K : PySem.W.Frag} {I I' : Hp} (e : Same I I') : ∀ {vs : List (Key × V)} {ds : List (Key × D)}, RepK K I vs ds → RepK K I' vs ds
  | _, _, .nil => .nil
  | _, _, .cons h r => .cons (Rep.mono e h) (RepK.mono e r)
theorem RepF.mono {K : PySem.W.Frag} {I I' : Hp} (e : Same I I') : ∀ {vs : List (Str × V)} {ds : List (Str × D)}, RepF K I vs ds → RepF K I' vs ds
  | _, _, .nil => .nil
  | _, _, .cons h r => .cons (Rep.mono e h) (RepF.mono e r)
end

/-! ## mutable objects, the heap's relation -/
inductive MO where
  | lst (xs : List D) | dct (kvs : List (Key × D)) | ins (C : Addr) (fs : List (Str × D)) | exc (C : Addr) (fs : List (Str × D))
abbrev Mp := Addr → Option MO
def updM (M : Mp) (a : Addr) (o : MO) : Mp := fun b => if b = a then some o else M b
/-- what the written part says of an own exception class whose instances are values -/
structure ExcCls (K : PySem.W.Frag) (C : Addr) : Prop where
  cl : (PySem.W.clsIn K C).isSome = true
  ga : PySem.W.findIn K (.ref C) "__getattribute__" = some (some (.builtin "BaseException.__getattribute__"))
  gt : PySem.W.findIn K (.ref C) "__getattr__" = some none
  sub : PySem.W.subIn K (.ref C) (.type "BaseException") = some true
  ca : PySem.W.findIn K (.ref C) "__class__" = some (some (.builtin "object.__class__"))
  sp : PySem.W.specialIn K (.builtin "object.__class__") "__get__" = some (some (.builtin "getset_descriptor.__get__"))
  tk : PySem.W.takesIn K (.builtin "object.__class__") = some true
  mr : PySem.W.mroIn K C (.type "object") = some true
  kit : ∀ n ∈ ["bool", "int", "str", "list", "tuple", "dict"], PySem.W.kitOne K (.ref C) (.type n) = some false
def RepO (K : PySem.W.Frag) (I H : Hp) (a : Addr) (o : HO) : MO → Prop
  | .lst ds => ∃ vs, o = .lst vs ∧ Reps K I vs ds
  | .dct ds => ∃ vs, o = .dK vs ∧ RepK K I vs ds
  | .ins C ds => ∃ dx fs, o = .ins C dx fs ∧ RepF K I fs ds
  | .exc C ds => ExcCls K C ∧ ∃ d vs, o = exo a C (some d) ∧ H d = some (exd d vs) ∧ RepF K I vs ds
theorem RepO.mono {K : PySem.W.Frag} {I I' H H' : Hp} {a : Addr} (e : Same I I') {o : HO} {m : MO} (h : RepO K I H a o m) (k : ∀ d φ, H d = some (.ext φ) → H' d = some (.ext φ)) : RepO K I' H' a o m := by
  cases m with
  | lst ds => obtain ⟨vs, e1, r⟩ := h; exact ⟨vs, e1, r.mono e⟩
  | dct ds => obtain ⟨vs, e1, r⟩ := h; exact ⟨vs, e1, r.mono e⟩
  | ins C ds => obtain ⟨dx, vs, e1, r⟩ := h; exact ⟨dx, vs, e1, r.mono e⟩
  | exc C ds => obtain ⟨c, d, vs, e1, e2, r⟩ := h; exact ⟨c, d, vs, e1, k _ _ e2, r.mono e⟩

structure HR (K : PySem.W.Frag) (I : Hp) (M : Mp) (F : Hp) (H : Hp) : Prop where
  imm : ∀ a o, I a = some o → H a = some o
  mu : ∀ a m, M a = some m → I a = none ∧ ∃ o, H a = some o ∧ RepO K I H a o m
  frm : ∀ a o, F a = some o → H a = some o ∧ I a = none ∧ M a = none

theorem HR.fresh {K : PySem.W.Frag} {I : Hp} {M : Mp} {F H : Hp} (h : HR K I M F H) {p : Addr} (hp : H p = none) : I p = none ∧ M p = none ∧ F p = none := by
  refine ⟨?_, ?_, ?_⟩
  · cases q : I p with
    | none => rfl
    | some o => rw [h.imm p o q] at hp; cases hp
  · cases q : M p with
    | none => rfl
    | some o => obtain ⟨_, u, e, _⟩ := h.mu p o q; rw [e] at hp; cases hp
  · cases q : F p with
    | none => rfl
    | some o => rw [(h.frm p o q).1] at hp; cases hp
theorem same_new {I : Hp} {p : Addr} {o : HO} (h : I p = none) : Same I (upd I p o) := fun a u e => by
  rw [upd_ne (ne_of_none e h)]; exact e
/-- a new frozen object -/
theorem HR.newI {K : PySem.W.Frag} {I : Hp} {M : Mp} {F H : Hp} (h : HR K I M F H) {p : Addr} (hp : H p = none) (o : HO) : HR K (upd I p o) M F (upd H p o) := by
  obtain ⟨h1, h2, h3⟩ := h.fresh hp
  refine ⟨fun a u e => ?_, fun a m e => ?_, fun a u e => ?_⟩
  · by_cases q : a = p
    · subst q; rw [upd_same] at e; rw [upd_same]; exact e
    · rw [upd_ne q] at e; rw [upd_ne q]; exact h.imm a u e
  · have q : a ≠ p := fun z => by rw [z, h2] at e; cases e
    obtain ⟨x, u, y, z⟩ := h.mu a m e
    rw [upd_ne q, upd_ne q]
    exact ⟨x, u, y, z.mono (same_new h1) fun d φ e => by rw [upd_ne (ne_of_none e hp)]; exact e⟩
  · have q : a ≠ p := fun z => by rw [z, h3] at e; cases e
    obtain ⟨x, y, z⟩ := h.frm a u e
    rw [upd_ne q, upd_ne q]
    exact ⟨x, y, z⟩
theorem updM_same {M : Mp} {a : Addr} {o : MO} : updM M a o a = some o := if_pos rfl
theorem updM_ne {M : Mp} {a b : Addr} {o : MO} (h : b ≠ a) : updM M a o b = M b := if_neg h
/-- a new mutable object -/
theorem HR.newM {K : PySem.W.Frag} {I : Hp} {M : Mp} {F H : Hp} (h : HR K I M F H) {p : Addr} (hp : H p = none) {o : HO} {m : MO} (r : RepO K I H p o m) : HR K I (updM M p m) F (upd H p o) := by
  obtain ⟨h1, h2, h3⟩ := h.fresh hp
  have kp : ∀ d φ, H d = some (.ext φ) → upd H p o d = some (.ext φ) := fun d φ e => by rw [upd_ne (ne_of_none e hp)]; exact e
  refine ⟨fun a u e => ?_, fun a n e => ?_, fun a u e => ?_⟩
  · have q : a ≠ p := fun z => by rw [z, h1] at e; cases e
    rw [upd_ne q]; exact h.imm a u e
  · by_cases q : a = p
    · subst q; rw [updM_same] at e; cases e; rw [upd_same]; exact ⟨h1, o, rfl, r.mono (Same.refl I) kp⟩
    · rw [updM_ne q] at e; rw [upd_ne q]
      obtain ⟨x, y, z, t⟩ := h.mu a n e
      exact ⟨x, y, z, t.mono (Same.refl I) kp⟩
  · have q : a ≠ p := fun z => by rw [z, h3] at e; cases e
    rw [upd_ne q, updM_ne q]; exact h.frm a u e
/-- a mutable object is written -/
theorem HR.write {K : PySem.W.Frag} {I : Hp} {M : Mp} {F H : Hp} (h : HR K I M F H) {p : Addr} {m0 : MO} (hp : M p = some m0) (nx : ∀ C fs, m0 ≠ .exc C fs) {o : HO} {m : MO} (r : RepO K I H p o m) : HR K I (updM M p m) F (upd H p o) := by
  obtain ⟨h1, o0, ho, r0⟩ := h.mu p m0 hp
  have kp : ∀ d φ, H d = some (.ext φ) → upd H p o d = some (.ext φ) := fun d φ e => by
    rw [upd_ne (ne_of e ho ?_)]
    · exact e
    · cases m0 with
      | lst ds => obtain ⟨vs, e1, _⟩ := r0; rw [e1]; exact fun z => nomatch z
      | dct ds => obtain ⟨vs, e1, _⟩ := r0; rw [e1]; exact fun z => nomatch z
      | ins C ds => obtain ⟨dx, vs, e1, _⟩ := r0; rw [e1]; exact fun z => nomatch z
      | exc C ds => exact absurd rfl (nx C ds)
  refine ⟨fun a u e => ?_, fun a n e => ?_, fun a u e => ?_⟩
  · have q : a ≠ p := fun z => by rw [z, h1] at e; cases e
    rw [upd_ne q]; exact h.imm a u e
  · by_cases q : a = p
    · subst q; rw [updM_same] at e; cases e; rw [upd_same]; exact ⟨h1, o, rfl, r.mono (Same.refl I) kp⟩
    · rw [updM_ne q] at e; rw [upd_ne q]
      obtain ⟨x, y, z, t⟩ := h.mu a n e
      exact ⟨x, y, z, t.mono (Same.refl I) kp⟩
  · obtain ⟨x, y, z⟩ := h.frm a u e
    have q : a ≠ p := fun z' => by rw [z', hp] at z; cases z
    rw [upd_ne q, updM_ne q]; exact ⟨x, y, z⟩

/-! ## states, wishes -/
abbrev DS := List (Option D)
abbrev DK := D → Mp → Prop
abbrev DXK := Value → Option (List (Str × D)) → Mp → Prop
abbrev DTE := DS → Mp → DK → DXK → Prop
abbrev DTT := DS → Mp → (Bool → Mp → Prop) → DXK → Prop
abbrev DTA := DS → Mp → (List D → Mp → Prop) → DXK → Prop
structure RepS (K : PySem.W.Frag) (I : Hp) (σ : St) (δ : DS) : Prop where
  len : σ.length = δ.length
  get : ∀ (i : Nat) (d : D), δ[i]? = some (some d) → ∃ v, σ[i]? = some (some v) ∧ Rep K I v d
theorem RepS.mono {K : PySem.W.Frag} {I I' : Hp} (e : Same I I') {σ : St} {δ : DS} (h : RepS K I σ δ) : RepS K I' σ δ :=
  ⟨h.len, fun i d q => let ⟨v, a, b⟩ := h.get i d q; ⟨v, a, b.mono e⟩⟩
theorem RepS.set {K : PySem.W.Frag} {I : Hp} {σ : St} {δ : DS} {v : V} {d : D} (h : RepS K I σ δ) (i : Nat) (r : Rep K I v d) : RepS K I (σ.set i (some v)) (δ.set i (some d)) := by
  refine ⟨by rw [List.length_set, List.length_set]; exact h.len, fun j x e => ?_⟩
  by_cases q : i = j
  · subst q
    have hl : i < δ.length := by
      have := (List.getElem?_eq_some_iff.mp e).1
      rwa [List.length_set] at this
    rw [List.getElem?_set_self hl] at e
    cases e
    exact ⟨v, List.getElem?_set_self (by rw [h.len]; exact hl), r⟩
  · rw [List.getElem?_set_ne q] at e
    rw [List.getElem?_set_ne q]
    exact h.get j x e
theorem RepS.forget {K : PySem.W.Frag} {I : Hp} {σ : St} {δ : DS} {u : Option V} (h : RepS K I σ δ) (i : Nat) : RepS K I (σ.set i u) (δ.set i none) := by
  refine ⟨by rw [List.length_set, List.length_set]; exact h.len, fun j x e => ?_⟩
  by_cases q : i = j
  · subst q
    have hl : i < δ.length := by
      have := (List.getElem?_eq_some_iff.mp e).1
      rwa [List.length_set] at this
    rw [List.getElem?_set_self hl] at e
    cases e
  · rw [List.getElem?_set_ne q] at e
    rw [List.getElem?_set_ne q]
    exact h.get j x e
/-- an exception's own dict, told -/
def XD (K : PySem.W.Frag) (I H : Hp) : Option Addr → Option (List (Str × D)) → Prop
  | none, none => True
  | some d, some fs => ∃ vs, H d = some (.xd vs) ∧ RepF K I vs fs
  | _, _ => False
def Fin (K : PySem.W.Frag) (I F : Hp) (Qd : DK) (Q : VK) : Prop := ∀ d M' I' H' v, Qd d M' → Same I I' → HR K I' M' F H' → Rep K I' v d → Q v H'
def FinT (K : PySem.W.Frag) (I F : Hp) (Qd : Bool → Mp → Prop) (Q : Bool → Hp → Prop) : Prop := ∀ b M' I' H', Qd b M' → Same I I' → HR K I' M' F H' → Q b H'
def FinA (K : PySem.W.Frag) (I F : Hp) (Qd : List D → Mp → Prop) (Q : List V → Hp → Prop) : Prop := ∀ ds M' I' H' vs, Qd ds M' → Same I I' → HR K I' M' F H' → Reps K I' vs ds → Q vs H'
def FinX (K : PySem.W.Frag) (I F : Hp) (Ed : DXK) (E : XK) : Prop := ∀ cls fo M' I' H' dd, Ed cls fo M' → Same I I' → HR K I' M' F H' → XD K I' H' dd fo → E cls dd H'
theorem FinX.mono {K : PySem.W.Frag} {I I' F : Hp} {Ed : DXK} {E : XK} (h : FinX K I F Ed E) (e : Same I I') : FinX K I' F Ed E := fun c fo M' I2 H' dd a b r x => h c fo M' I2 H' dd a (e.trans b) r x
theorem Fin.mono {K : PySem.W.Frag} {I I' F : Hp} {Qd : DK} {Q : VK} (h : Fin K I F Qd Q) (e : Same I I') : Fin K I' F Qd Q := fun d M' I2 H' v a b r x => h d M' I2 H' v a (e.trans b) r x
structure DEnds where
  nx : DS → Mp → Prop
  rt : DK
  ex : Value → Option (List (Str × D)) → DS → Mp → Prop
  bk : DS → Mp → Prop := fun _ _ => False
  ct : DS → Mp → Prop := fun _ _ => False
abbrev DTS := DEnds → DS → Mp → Prop
structure FinS (K : PySem.W.Frag) (W : WX) (I F : Hp) (Dd : DEnds) (Dn : Ends) : Prop where
  nx : ∀ δ' M' I' H' σ', Dd.nx δ' M' → Same I I' → HR K I' M' F H' → RepS K I' σ' δ' → Dn.nx σ' H'
  rt : Fin K I F Dd.rt Dn.rt
  ex : ∀ cls fo δ' M' I' H' σ' dd, Dd.ex cls fo δ' M' → Same I I' → HR K I' M' F H' → RepS K I' σ' δ' → XD K I' H' dd fo → W cls dd σ' H'
  bk : ∀ δ' M' I' H' σ', Dd.bk δ' M' → Same I I' → HR K I' M' F H' → RepS K I' σ' δ' → Dn.bk σ' H'
  ct : ∀ δ' M' I' H' σ', Dd.ct δ' M' → Same I I' → HR K I' M' F H' → RepS K I' σ' δ' → Dn.ct σ' H'
theorem FinS.mono {K : PySem.W.Frag} {W : WX} {I I' F : Hp} {Dd : DEnds} {Dn : Ends} (h : FinS K W I F Dd Dn) (e : Same I I') : FinS K W I' F Dd Dn :=
  ⟨fun a b c d f q s => h.nx a b c d f q (e.trans s), h.rt.mono e, fun a b c d f g x y q s => h.ex a b c d f g x y q (e.trans s), fun a b c d f q s => h.bk a b c d f q (e.trans s), fun a b c d f q s => h.ct a b c d f q (e.trans s)⟩

/-! ## the judgements -/
def lE (K : PySem.W.Frag) (W : WX) (t : DTE) : TE := fun σ H Q => ∃ I M F δ Qd Ed, HR K I M F H ∧ RepS K I σ δ ∧ t δ M Qd Ed ∧ Fin K I F Qd Q ∧ FinX K I F Ed (WE W σ)
def lT (K : PySem.W.Frag) (W : WX) (t : DTT) : TT := fun σ H Q => ∃ I M F δ Qd Ed, HR K I M F H ∧ RepS K I σ δ ∧ t δ M Qd Ed ∧ FinT K I F Qd Q ∧ FinX K I F Ed (WE W σ)
def lA (K : PySem.W.Frag) (W : WX) (t : DTA) : TA := fun σ H Q => ∃ I M F δ Qd Ed, HR K I M F H ∧ RepS K I σ δ ∧ t δ M Qd Ed ∧ FinA K I F Qd Q ∧ FinX K I F Ed (WE W σ)
def lS (K : PySem.W.Frag) (W : WX) (t : DTS) : TS := fun Dn σ H => ∃ I M F δ Dd, HR K I M F H ∧ RepS K I σ δ ∧ t Dd δ M ∧ FinS K W I F Dd Dn
def DE (X : Cx) (W : WX) (e : Expr) (t : DTE) : Prop := PE X e (lE X.K W t)
def DT (X : Cx) (W : WX) (e : Expr) (t : DTT) : Prop := PT X e (lT X.K W t)
def DW (X : Cx) (W : WX) (e : Expr) (t : DTT) : Prop := PW X e (lT X.K W t)
def DA (X : Cx) (W : WX) (es : List Expr) (t : DTA) : Prop := PA X es (lA X.K W t)
def DSt (X : Cx) (W : WX) (s : Stmt) (t : DTS) : Prop := PS X s (lS X.K W t)
def DSs (X : Cx) (W : WX) (s : List Stmt) (t : DTS) : Prop := PSs X s (lS X.K W t)
theorem pe_imp {X : Cx} {e : Expr} {t t' : TE} (h : PE X e t) (i : ∀ σ H Q, t' σ H Q → t σ H Q) : PE X e t' := ⟨fun pins s σ H Q I q => h.run pins s σ H Q I (i σ H Q q)⟩
theorem pt_imp {X : Cx} {e : Expr} {t t' : TT} (h : PT X e t) (i : ∀ σ H Q, t' σ H Q → t σ H Q) : PT X e t' := ⟨fun pins s σ H Q I q => h.run pins s σ H Q I (i σ H Q q)⟩
theorem pw_imp {X : Cx} {e : Expr} {t t' : TT} (h : PW X e t) (i : ∀ σ H Q, t' σ H Q → t σ H Q) : PW X e t' := ⟨fun wh pins s σ H Q I q => h.run wh pins s σ H Q I (i σ H Q q)⟩
theorem pa_imp {X : Cx} {e : List Expr} {t t' : TA} (h : PA X e t) (i : ∀ σ H Q, t' σ H Q → t σ H Q) : PA X e t' := ⟨fun ps pins s σ H Q I q => h.run ps pins s σ H Q I (i σ H Q q)⟩
theorem ps_imp {X : Cx} {e : Stmt} {t t' : TS} (h : PS X e t) (i : ∀ Dn σ H, t' Dn σ H → t Dn σ H) : PS X e t' := ⟨fun pins s σ H D I q => h.run pins s σ H D I (i D σ H q)⟩
theorem pss_imp {X : Cx} {e : List Stmt} {t t' : TS} (h : PSs X e t) (i : ∀ Dn σ H, t' Dn σ H → t Dn σ H) : PSs X e t' := ⟨fun pins s σ H D I q => h.run pins s σ H D I (i D σ H q)⟩

/-! ## names, constants -/
section
variable {X : Cx} {W : WX} {e a b : Expr} {ta tb te : DTE} {pos : Pos}
def dVar (i : Nat) : DTE := fun δ M Q _ => ∃ d, δ[i]? = some (some d) ∧ Q d M
def dC (d : D) : DTE := fun _ M Q _ => Q d M
theorem d_var (i : Nat) {x : Str} (hN : X.N[i]? = some x := by rfl) (hv : Vis X.env.scope x := by first | exact Or.inl rfl | exact Or.inr (Or.inl rfl) | exact Or.inr (Or.inr rfl)) (hd : (x == ("__debug__" : Str)) = false := by decide)
    (hcd : (x == ("__classdict__" : Str)) = false := by decide) : DE X W (.Name x pos) (dVar i) := by
  refine pe_imp (pe_var hN hv hd hcd) fun σ H Q h => ?_
  obtain ⟨I, M, F, δ, Qd, Ed, hr, rs, ⟨d, e1, q⟩, fq, fx⟩ := h
  obtain ⟨v, e2, r⟩ := rs.get i d e1
  exact ⟨v, e2, fq d M I H v q (Same.refl I) hr r⟩
theorem d_const {u : V} {d : D} (h : PE X e (tC u)) (r : ∀ I, Rep X.K I u d) : DE X W e (dC d) := by
  refine pe_imp h fun σ H Q h => ?_
  obtain ⟨I, M, F, δ, Qd, Ed, hr, rs, q, fq, fx⟩ := h
  exact fq d M I H u q (Same.refl I) hr (r I)
theorem d_int {i j} : DE X W (.Constant (.int i) j pos) (dC (.int i)) := d_const pe_int fun _ => .int i
theorem d_bl {b j} : DE X W (.Constant (.bool b) j pos) (dC (.bl b)) := d_const pe_bl fun _ => .bl b
theorem d_non {j} : DE X W (.Constant .none j pos) (dC .non) := d_const pe_non fun _ => .non
theorem d_str {x j} : DE X W (.Constant (.str x) j pos) (dC (.str x)) := d_const pe_str fun _ => .str x
theorem d_glob {x : Str} {v : V} {u : Value} {d : D} (hg : Gl X x) (hm : X.mg x = some u) (r : RelV v u) (rr : ∀ I, Rep X.K I v d) (hd : (x == ("__debug__" : Str)) = false := by decide) : DE X W (.Name x pos) (dC d) := d_const (pe_glob hg hm r hd) rr
theorem d_bltn {x : Str} {v : V} {u : Value} {d : D} (hg : Gl X x) (hm : X.mg x = none) (hv : bootBuiltins x = some u) (r : RelV v u) (rr : ∀ I, Rep X.K I v d) (hn : x ≠ "__name__" := by decide) (hd : (x == ("__debug__" : Str)) = false := by decide) : DE X W (.Name x pos) (dC d) :=
  d_const (pe_bltn hg hm hv r hn hd) rr

/-! ## operations by values -/
abbrev DR2 := D → D → Mp → DK → Prop
def LR (K : PySem.W.Frag) (r' : R2) (r : DR2) : Prop := ∀ I M F H x y dx dy Qd Q, HR K I M F H → Rep K I x dx → Rep K I y dy → r dx dy M Qd → Fin K I F Qd Q → r' x y H Q
def dOp (r : DR2) (ta tb : DTE) : DTE := fun δ M Q E => ta δ M (fun x M1 => tb δ M1 (fun y M2 => r x y M2 Q) E) E
/-- two in a row -/
theorem op_lift {ta tb : DTE} {r : DR2} {r' : R2} {K : PySem.W.Frag} (hl : LR K r' r) : ∀ σ H Q, lE K W (dOp r ta tb) σ H Q → tOp r' (lE K W ta) (lE K W tb) σ H Q := by
  intro σ H Q h
  obtain ⟨I, M, F, δ, Qd, Ed, hr, rs, q, fq, fx⟩ := h
  refine ⟨I, M, F, δ, _, Ed, hr, rs, q, fun x M1 I1 H1 v q1 s1 hr1 r1 => ?_, fx⟩
  refine ⟨I1, M1, F, δ, _, Ed, hr1, rs.mono s1, q1, fun y M2 I2 H2 w q2 s2 hr2 r2 => ?_, fx.mono s1⟩
  exact hl I2 M2 F H2 v w x y Qd Q hr2 (r1.mono s2) r2 q2 (fq.mono (s1.trans s2))
theorem d_op {op : Operator} {r : DR2} {r' : R2} (ho : OpR X (binaryOp op) r') (hl : LR X.K r' r) (ha : DE X W a ta) (hb : DE X W b tb) : DE X W (.BinOp a op b pos) (dOp r ta tb) :=
  pe_imp (pe_op ho ha hb) (op_lift hl)
theorem d_cmp {op : CmpOp} {r : DR2} {r' : R2} (ho : OpR X (compareOp op) r') (hl : LR X.K r' r) (ha : DE X W a ta) (hb : DE X W b tb) (hm : behindInMarks op b = false) : DE X W (.Compare a [op] [b] pos) (dOp r ta tb) :=
  pe_imp (pe_cmpR ho ha hb hm) (op_lift hl)
theorem d_ix {r : DR2} {r' : R2} (hr : IxR X r') (hl : LR X.K r' r) (ha : DE X W a ta) (hb : DE X W b tb) (hs : PlainIx b) : DE X W (.Subscript a b pos) (dOp r ta tb) :=
  pe_imp (pe_ix hr ha hb hs) (op_lift hl)
end
end DL

set_option Elab.async false
set_option linter.all false
set_option maxRecDepth 100000
set_option maxHeartbeats 2000000
namespace DL
open PySem PySem.Spec PyProof.Rows L2

/-! ## defs whose surroundings are under no repr guard -/
abbrev NoGd (A : Around) : Prop := A.guards = some []
theorem nogd_deeper {A : Around} (h : NoGd A) (env : Env) : NoGd (A.deeper env) := by
  have e : (A.deeper env).guards = A.guards := by first | rfl | simp [Around.deeper]
  exact e.trans h
structure FnG (P : Program) (w : World) (K : PySem.W.Frag) (mg : Str → Option Value) (base : Heap) (C : CXT) (k : Nat) (f : Addr) (fd : FuncData) (ps : List Str) (sp : Sp) : Prop where
  len : ∀ vs H Q E, sp vs H Q E → vs.length = ps.length
  run : ∀ (A : Around) (l : List Env) (s : Shared) (H : Hp) (g : Args) (us : List Value) (vs : List V) (Q : VK) (E : XK),
    NoGd A → Room k A → Env0 P w K mg base A l s H → BindsTo s fd g (ps.zip us) → Vals vs us → sp vs H Q E → codeAny (model P w) A (.call (.ref f) g) (CR C l P w H s Q E) s
section
variable {P : Program} {w : World} {K : PySem.W.Frag} {mg : Str → Option Value} {base : Heap} {C : CXT} {k : Nat} {f : Addr}
theorem FnG.up {j : Nat} {fd : FuncData} {ps : List Str} {sp : Sp} (F : FnG P w K mg base C j f fd ps sp) (h : j ≤ k) : FnG P w K mg base C k f fd ps sp :=
  ⟨F.len, fun A l s H g us vs Q E n r => F.run A l s H g us vs Q E n (r.mono h)⟩
/-- a def by its body -/
theorem fng_of {nm qn : Str} {pa : Arguments} {bd : List Stmt} {sc : Scope} {dV kV dc pm cv ct oc : Value} {an od : Option Addr} {sl : Array (Option Value)} {N ps : List Str} {sp : Sp}
    (lk : K.lookup f = some ⟨oc, od, .func (PySem.W.fnOf nm qn pa bd sc dV kV dc pm an cv ct), sl⟩) (hc : PySem.W.codeIn K cv qn = true) (S : FnScope N ps sc) (len : ∀ vs H Q E, sp vs H Q E → vs.length = ps.length)
    (hbd : ∀ (A : Around) (l : List Env) (s : Shared) (H : Hp) (vs : List V) (Q : VK) (E : XK), NoGd A → Room k (A.deeper (envOfC qn sc s.heap.objs.size f cv)) → sp vs H Q E →
      ∃ t, PSs (cxOf C P w K mg base N qn sc f cv A l s H E) bd t ∧ t { nx := fun _ H' => Q .non H', rt := Q } (start N vs) H) :
    FnG P w K mg base C (k + 1) f (PySem.W.fnOf nm qn pa bd sc dV kV dc pm an cv ct) ps sp := by
  constructor
  · exact len
  intro A l s H g us vs Q E ng rm en bt rv pr
  have inK : K.In s.heap := en.mod.kin.keeps (fun b o z => (en.bs b o z).1)
  have kinds : ∀ y ∈ ps.zip us, sc.names.lookup y.1 = some .local ∨ (sc.names.lookup y.1 = some .cell ∧ ((cellsFrom (s.heap.objs.size + 1) sc.names []).lookup y.1).isSome = true) := by
    intro y hy
    cases S.par y.1 (List.of_mem_zip (a := y.1) (b := y.2) hy).1 with
    | inl q => exact Or.inl q
    | inr q => exact Or.inr ⟨q, PySem.W.cellsFrom_some _ _ _ (Or.inl q)⟩
  refine codeAny_call_function rm.depth (inK _ _ lk) rfl S.co S.gen rfl (PySem.W.codeRec_of inK hc) (bt _ _ _ _ ?_)
  refine wpAny_newFunctionEnv_cells S.kind kinds (fun env ev s1 ic => ?_)
  subst ev
  refine ⟨(en.mod.nolimit.keeps (fun b o z => (en.bs b o z).1)).keeps ic.toInCall.keep, codeAny_func ?_⟩
  obtain ⟨t, pt, tq⟩ := hbd A l s H vs Q E ng (rm.deeper _) pr
  have iv : Inv (cxOf C P w K mg base N qn sc f cv A l s H E) [] (start N vs) H s1 := inv_start S rm.hd en (len _ _ _ _ pr) rv ic
  refine wpAny_mono (pt.run [] s1 (start N vs) H _ iv tq) ?_ (fun _ _ z => z)
  intro fl s' z
  cases fl with
  | ret u => obtain ⟨v, σ', H', J, a, b⟩ := z; exact ⟨v, H', J.os, J.bare, J.base, J.hok, a, b⟩
  | next => obtain ⟨σ', H', J, b⟩ := z; exact ⟨V.non, H', J.os, J.bare, J.base, J.hok, rfl, b⟩
  | brk => obtain ⟨_, _, _, b⟩ := z; cases b
  | cont => obtain ⟨_, _, _, b⟩ := z; cases b
end
section
variable {X : Cx} {C : CXT} {k : Nat} {f : Addr} {fd : FuncData} {ps : List Str} {sp : Sp} {dvs : List V} {ds : List Value} {E : L2.St → XK}
/-- the call's own run -/
theorem goG {pins : List (Addr × Obj)} {σ : L2.St} {H : Hp} {s : Shared} {Q : VK} {g : Args} {bs : List Value} {xs : List V} (F : FnG X.prog X.w X.K X.mg X.base C k f fd ps sp) (ng : NoGd X.A) (rm : Room k X.A)
    (hx : PassesAt C X σ (E σ)) (I : Inv X pins σ H s) (bt : BindsTo s fd g (ps.zip bs)) (rv : Vals xs bs) (h : sp xs H Q (E σ)) : codeAny (model X.prog X.w) X.A (.call (.ref f) g) (fun r s' => match r with | .ok (.ret u) => EP X pins σ Q u s' | .ok _ => False | .error e => X.xe e s') s := by
  refine codeAny_mono (F.run X.A X.stack s H g bs xs Q (E σ) ng rm I.env0 bt rv h) (fun r s' z => ?_)
  cases r with
  | error e => exact hx pins H s e s' I z
  | ok fl => cases fl with
    | ret u => exact I.after z
    | next => cases z
    | brk => cases z
    | cont => cases z
end
/-! ## the law's end -/
theorem law_callG {P : Program} {w : World} {K : PySem.W.Frag} {mg mb : Str → Option Value} {C : CXT} {k : Nat} {fa a : Addr} {fd : FuncData} {x : Str} {sp : Sp} {s1 : Shared} {vs : List Value} {ns : List Int}
    (KX : K.In s1.heap) (n1 : s1.heap.Ns mainGlobals mg) (n2 : s1.heap.Ns builtinsNs mb) (n3 : ∀ x : Str, x ≠ "__name__" → mb x = bootBuiltins x) (nl : s1.heap.NoLimit) (ge : s1.gens = #[])
    (ha : s1.heap.get? a = some { cls := .type "list", data := .seq vs.toArray }) (hi : IntsAre vs ns) (hl : ns.length ≤ sizeLine) (rm : Room k callerA)
    (F : ∀ b : Heap, K.In b → b.Ns mainGlobals mg → FnG P w K mg b C k fa fd [x] sp) (bt : ∀ (s : Shared) (u : Value), BindsTo s fd ⟨[u], []⟩ [(x, u)])
    (pr : ∀ H : Hp, Only H → SqL K H a (ns.map V.int) → sp [.ref a] H (fun v _ => v = .bl true) fun _ _ _ => False) (noX : ∀ H e s', C [] H s1 (fun _ _ _ => False) e s' → False) :
    codeAny (model P w) callerA (.call (.ref fa) ⟨[.ref a], []⟩) (fun r s' => r = .ok (.ret (.bool true)) ∧ OldK s1.heap s'.heap ∧ s'.os = s1.os ∧ AllBare s'.gens) s1 := by
  have main : ∀ H : Hp, Only H → SqL K H a (ns.map V.int) → HOk P w H s1.heap → (∀ b u, H b = some u → b = a ∧ K.lookup a = none) →
      codeAny (model P w) callerA (.call (.ref fa) ⟨[.ref a], []⟩) (fun r s' => r = .ok (.ret (.bool true)) ∧ OldK s1.heap s'.heap ∧ s'.os = s1.os ∧ AllBare s'.gens) s1 := by
    intro H only sq ok one
    have ndict : ∀ {b : Addr} {o : Obj} {es : Array DictEntry} {ep : Nat}, s1.heap.get? b = some o → o.data = .dict es ep → H b = none := by
      intro b o es ep g d
      cases z : H b with
      | none => rfl
      | some u =>
        cases (one b u z).1
        rw [ha] at g
        cases g
        exact nomatch (show Data.seq vs.toArray _ = Data.dict es ep from d)
    have toB : ∀ {b : Addr} {m : Str → Option Value}, s1.heap.Ns b m → (hidT s1.heap H).Ns b m := by
      intro b m z
      obtain ⟨o, es, ep, g, d, r⟩ := z
      exact ⟨o, es, ep, hidT_get g (ndict g d), d, r⟩
    have inB : K.In (hidT s1.heap H) := by
      intro b o g
      refine hidT_get (KX b o g) ?_
      cases z : H b with
      | none => rfl
      | some u =>
        obtain ⟨e1, e2⟩ := one b u z
        cases e1
        rw [e2] at g
        cases g
    obtain ⟨mc, c1, c2⟩ := nl
    have en : Env0 P w K mg (hidT s1.heap H) callerA [] s1 H :=
      { frames := rfl, mod := ⟨inB, toB n1, ⟨mb, toB n2, n3⟩, ⟨mc, toB c1, c2⟩⟩, bs := fun b o g => of_hidT g, bsz := Nat.le_of_eq (hidT_size _ _), funs := trivial, frf := fun b z => (nomatch (show b ∈ ([] : List Addr) from z)), hok := ok, bare := .of_eq ge }
    refine codeAny_mono ((F _ inB (toB n1)).run callerA [] s1 H ⟨[.ref a], []⟩ [.ref a] [.ref a] _ _ rfl rm en (bt s1 (.ref a)) (.cons rfl .nil) (pr H only sq)) ?_
    intro r s' z
    cases r with
    | error e => exact (noX H e s' z).elim
    | ok fl => cases fl with
      | next => cases z
      | brk => cases z
      | cont => cases z
      | ret u =>
        obtain ⟨v, H', o1, o2, un, ok2, rr, vv⟩ := z
        cases (show v = .bl true from vv)
        cases (show u = Value.bool true from rr)
        refine ⟨rfl, OldK.of_keep (fun b o g => ?_), o1, o2⟩
        rcases only b with y | ⟨ob, xs, y⟩
        · exact un.keep b o g y (fun q => nomatch (show b ∈ ([] : List Addr) from q)) (fun q => nomatch q)
        · have g1 := (ok b _ y).1
          have g2 := (ok2 b _ (un.frzs b ob _ y)).1
          rw [g] at g1
          cases g1
          exact g2
  have rv := vals_ints hi
  cases hk : K.lookup a with
  | some o =>
    have g := KX a o hk
    rw [ha] at g
    cases g
    exact main (fun _ => none) (fun _ => Or.inl rfl) (Or.inr ⟨_, vs.toArray, _, hk, rfl, rfl, rfl, by rw [List.size_toArray, hi.length]; exact hl, by simpa using rv⟩) (fun b u z => nomatch z) (fun b u z => nomatch z)
  | none =>
    have at1 : (upd (fun _ => none) a (.frz { cls := .type "list", data := .seq vs.toArray } (.lst (ns.map V.int))) : Hp) a = some (.frz { cls := .type "list", data := .seq vs.toArray } (.lst (ns.map V.int))) := upd_same
    have off : ∀ b u, (upd (fun _ => none) a (.frz { cls := .type "list", data := .seq vs.toArray } (.lst (ns.map V.int))) : Hp) b = some u → b = a := by
      intro b u z
      by_cases q : b = a
      · exact q
      · rw [upd_ne q] at z; cases z
    refine main (upd (fun _ => none) a (.frz { cls := .type "list", data := .seq vs.toArray } (.lst (ns.map V.int)))) (fun b => ?_) (Or.inl (Or.inr ⟨_, at1⟩)) (fun b u z => ?_) (fun b u z => ⟨off b u z, hk⟩)
    · by_cases q : b = a
      · subst q; exact Or.inr ⟨_, _, at1⟩
      · exact Or.inl (upd_ne q)
    · cases off b u z
      rw [at1] at z
      cases z
      exact ⟨ha, by rw [List.length_map]; exact hl, vs, _, rv, ha⟩
theorem walk_ofG {l : PySem.W.OpenLaw} {n k : Nat} {q : Program} {loose : List Str} {XP : (Str → Option Value) → Heap → Prop} {YP : World → Heap → Prop} {d : DefRec} {K : Params → PySem.W.Frag} {C : World → CXT} {sp : World → Sp} {x : Str}
    (hn : l.most = some n) (hn2 : n ≤ sizeLine) (hdf : d.params.defaults = []) (rm : Room k callerA) (hY : ∀ (w : World) (h : Heap), YP w h → (K w.params).In h)
    (F : ∀ (w : World) (mg : Str → Option Value) (fa : Addr) (h : Heap), (K w.params).In h → h.Ns mainGlobals mg → mg d.name = some (.ref fa) →
      ∃ fd : FuncData, (∀ (s : Shared) (u : Value), BindsTo s fd ⟨[u], []⟩ [(x, u)]) ∧ ∀ b : Heap, (K w.params).In b → b.Ns mainGlobals mg → FnG l.prog w (K w.params) mg b (C w) k fa fd [x] (sp w))
    (pr : ∀ (w : World) (H : Hp) (a : Addr) (ns : List Int), ns.length ≤ n → Only H → SqL (K w.params) H a (ns.map V.int) → sp w [.ref a] H (fun v _ => v = .bl true) fun _ _ _ => False)
    (noX : ∀ (w : World) (H : Hp) (s : Shared) (e : Value) (s' : Shared), C w [] H s (fun _ _ _ => False) e s' → False) : PySem.W.WalkO q loose XP YP l.row.toRowW d [] (fun f vs => PySem.call f vs) := by
  refine Att.attach_call hn hdf ?_
  intro w s0 s1 mg mb fa o pm cd doc a vs ns G Y h1 h2 h3 hmg hobj hints hlen hg
  obtain ⟨fd, b1, b2⟩ := F w mg fa _ (hY w _ Y) G.T.g hmg
  exact law_callG (hY w _ Y) G.T.g G.T.b G.T.builtins G.T.nolimit hg hobj hints (Nat.le_trans hlen hn2) rm b2 b1 (fun H o s => pr w H a ns hlen o s) (fun H e s' => noX w H s1 e s')
end DL

set_option Elab.async false
set_option linter.all false
set_option maxRecDepth 100000
set_option maxHeartbeats 2000000
namespace DL
open PySem L2

/-! ## truth, branches -/
def br (b : Bool) (A B : Prop) : Prop := match b with | true => A | false => B
theorem br2 {b : Bool} {A B : Prop} (h1 : b = true → A) (h2 : b = false → B) : br b A B := by
  cases b with
  | true => exact h1 rfl
  | false => exact h2 rfl
theorem brT {A B : Prop} {b : Bool} (e : b = true) (h : A) : br b A B := by subst e; exact h
theorem brF {A B : Prop} {b : Bool} (e : b = false) (h : B) : br b A B := by subst e; exact h
theorem br_ite {b : Bool} {A B : Prop} (h : br b A B) : if b = true then A else B := by
  cases b with
  | true => exact (if_pos rfl).mpr h
  | false => exact (if_neg Bool.false_ne_true).mpr h
def dB (d : D) (k : Bool → Prop) : Prop := match d with | .bl b => k b | _ => False
theorem dB_out {K : PySem.W.Frag} {I : Hp} {v : V} {d : D} {k : Bool → Prop} (r : Rep K I v d) (h : dB d k) : ∃ b, v = .bl b ∧ k b := by
  cases r <;> first | exact ⟨_, rfl, h⟩ | exact h.elim
def dTru (d : D) (M : Mp) (k : Bool → Prop) : Prop := match d with
  | .non => k false
  | .bl b => k b
  | .int i => k (i != 0)
  | .str y => y.length ≤ sizeLine ∧ k ((y.length : Int) != 0)
  | .lst xs => k (!xs.isEmpty)
  | .sq xs => k (!xs.isEmpty)
  | .tup xs => k (!xs.isEmpty)
  | .dct xs => k (!xs.isEmpty)
  | .ref a => ∃ m, M a = some m ∧ (match m with | .lst xs => k (!xs.isEmpty) | .dct xs => k (!xs.isEmpty) | _ => False)
  | _ => False
theorem Reps.len {K : PySem.W.Frag} {I : Hp} : ∀ {vs : List V} {ds : List D}, Reps K I vs ds → vs.length = ds.length
  | _, _, .nil => rfl
  | _, _, .cons _ r => congrArg (· + 1) r.len
theorem Reps.isE {K : PySem.W.Frag} {I : Hp} {vs : List V} {ds : List D} (r : Reps K I vs ds) : vs.isEmpty = ds.isEmpty := by cases r <;> rfl
theorem RepK.isE {K : PySem.W.Frag} {I : Hp} {vs : List (Key × V)} {ds : List (Key × D)} (r : RepK K I vs ds) : vs.isEmpty = ds.isEmpty := by cases r <;> rfl
theorem HR.sq {K : PySem.W.Frag} {I : Hp} {M : Mp} {F H : Hp} (h : HR K I M F H) {a : Addr} {vs : List V} (q : SqL K I a vs) : SqL K H a vs := sq_mono h.imm q
theorem HR.st {K : PySem.W.Frag} {I : Hp} {M : Mp} {F H : Hp} (h : HR K I M F H) {a : Addr} {vs : List V} (q : SqT K I a vs) : SqT K H a vs := st_mono h.imm q
theorem HR.lst {K : PySem.W.Frag} {I : Hp} {M : Mp} {F H : Hp} (h : HR K I M F H) {a : Addr} {ds : List D} (q : M a = some (.lst ds)) : ∃ vs, H a = some (.lst vs) ∧ Reps K I vs ds := by
  obtain ⟨_, o, e, vs, rfl, r⟩ := h.mu a _ q
  exact ⟨vs, e, r⟩
theorem HR.dct {K : PySem.W.Frag} {I : Hp} {M : Mp} {F H : Hp} (h : HR K I M F H) {a : Addr} {ds : List (Key × D)} (q : M a = some (.dct ds)) : ∃ vs, H a = some (.dK vs) ∧ RepK K I vs ds := by
  obtain ⟨_, o, e, vs, rfl, r⟩ := h.mu a _ q
  exact ⟨vs, e, r⟩
theorem HR.ins {K : PySem.W.Frag} {I : Hp} {M : Mp} {F H : Hp} (h : HR K I M F H) {a C : Addr} {ds : List (Str × D)} (q : M a = some (.ins C ds)) : ∃ dx fs, H a = some (.ins C dx fs) ∧ RepF K I fs ds := by
  obtain ⟨_, o, e, dx, vs, rfl, r⟩ := h.mu a _ q
  exact ⟨dx, vs, e, r⟩
theorem dTru_out {K : PySem.W.Frag} {I : Hp} {M : Mp} {F H : Hp} (h : HR K I M F H) {v : V} {d : D} {k : Bool → Prop} (r : Rep K I v d) (q : dTru d M k) : ∃ b, TruV K v H b ∧ k b := by
  cases r with
  | non => exact ⟨false, rfl, q⟩
  | bl b => exact ⟨b, rfl, q⟩
  | int i => exact ⟨_, rfl, q⟩
  | str x => exact ⟨_, ⟨q.1, rfl⟩, q.2⟩
  | ty n => exact q.elim
  | lst s rs => exact ⟨_, .inl ⟨_, SqL.of (h.imm _ _ s), rfl⟩, by rw [rs.isE]; exact q⟩
  | sq s rs => exact ⟨_, .inl ⟨_, h.sq s, rfl⟩, by rw [rs.isE]; exact q⟩
  | tup s rs => exact ⟨_, .inr (.inl ⟨_, h.st s, rfl⟩), by rw [rs.isE]; exact q⟩
  | dct s rs => exact ⟨_, .inr (.inr ⟨_, h.imm _ _ s, rfl⟩), by rw [rs.isE]; exact q⟩
  | ins s rs => exact q.elim
  | ref a =>
    obtain ⟨m, e, q⟩ := q
    cases m with
    | lst xs => obtain ⟨vs, e1, rs⟩ := h.lst e; exact ⟨_, .inl ⟨_, SqL.of e1, rfl⟩, by rw [rs.isE]; exact q⟩
    | dct xs => obtain ⟨vs, e1, rs⟩ := h.dct e; exact ⟨_, .inr (.inr ⟨_, e1, rfl⟩), by rw [rs.isE]; exact q⟩
    | ins C fs => exact q.elim
    | exc C fs => exact q.elim

section
variable {X : Cx} {W : WX} {e a b c : Expr} {ta tb tc te : DTE} {pos : Pos} {tA tB' : DTT} {rest : List Expr}
def dTest (t : DTE) : DTT := fun δ M Q E => t δ M (fun d M1 => dB d fun b => Q b M1) E
def dTruth (t : DTE) : DTT := fun δ M Q E => t δ M (fun d M1 => dTru d M1 fun b => Q b M1) E
theorem test_lift {K : PySem.W.Frag} {t : DTE} {σ : L2.St} {H : Hp} {Q : Bool → Hp → Prop} (h : lT K W (dTest t) σ H Q) : lE K W t σ H (fun x H' => ∃ k, x = .bl k ∧ Q k H') := by
  obtain ⟨I, M, F, δ, Qd, Ed, hr, rs, q, fq, fx⟩ := h
  refine ⟨I, M, F, δ, _, Ed, hr, rs, q, fun d M' I' H' v q' s' hr' r' => ?_, fx⟩
  obtain ⟨b, e1, e2⟩ := dB_out r' q'
  exact ⟨b, e1, fq b M' I' H' e2 s' hr'⟩
theorem t_val (h : DE X W e te) (he : ∀ whole, isTrue e X.env whole = (do let v ← whole; standAt e.pos; holding [v] (truthy v)) := by intro _; rfl) : DT X W e (dTest te) := pt_imp (pt_val h he) fun _ _ _ q => test_lift q
theorem t_truth (h : DE X W e te) (he : ∀ whole, isTrue e X.env whole = (do let v ← whole; standAt e.pos; holding [v] (truthy v)) := by intro _; rfl) : DT X W e (dTruth te) := by
  refine pt_imp (pt_truth h he) fun σ H Q q => ?_
  obtain ⟨I, M, F, δ, Qd, Ed, hr, rs, q, fq, fx⟩ := q
  refine ⟨I, M, F, δ, _, Ed, hr, rs, q, fun d M' I' H' v q' s' hr' r' => ?_, fx⟩
  obtain ⟨b, e1, e2⟩ := dTru_out hr' r' q'
  exact ⟨b, e1, fq b M' I' H' e2 s' hr'⟩
theorem t_cmp {op : CmpOp} {r : DR2} {r' : R2} (ho : OpR X (compareOp op) r') (hl : LR X.K r' r) (ha : DE X W a ta) (hb : DE X W b tb) (hm : behindInMarks op b = false) : DT X W (.Compare a [op] [b] pos) (dTest (dOp r ta tb)) :=
  pt_imp (pt_cmpR ho ha hb hm) fun _ _ _ q => op_lift hl _ _ _ (test_lift q)
def dChain (r r' : DR2) (ta tb tc : DTE) : DTE := fun δ M Q E => ta δ M (fun x M1 => tb δ M1 (fun y M2 => r x y M2 fun z M3 => dB z fun k => br k (tc δ M3 (fun w M4 => r' y w M4 Q) E) (Q (.bl false) M3)) E) E
theorem chain_lift {K : PySem.W.Frag} {r1 r2 : R2} {d1 d2 : DR2} (h1 : LR K r1 d1) (h2 : LR K r2 d2) : ∀ σ H Q, lE K W (dChain d1 d2 ta tb tc) σ H Q → tChain r1 r2 (lE K W ta) (lE K W tb) (lE K W tc) σ H Q := by
  intro σ H Q h
  obtain ⟨I, M, F, δ, Qd, Ed, hr, rs, q, fq, fx⟩ := h
  refine ⟨I, M, F, δ, _, Ed, hr, rs, q, fun x M1 I1 H1 v q1 s1 hr1 e1 => ?_, fx⟩
  refine ⟨I1, M1, F, δ, _, Ed, hr1, rs.mono s1, q1, fun y M2 I2 H2 w q2 s2 hr2 e2 => ?_, fx.mono s1⟩
  refine h1 I2 M2 F H2 v w x y _ _ hr2 (e1.mono s2) e2 q2 fun z M3 I3 H3 u q3 s3 hr3 e3 => ?_
  obtain ⟨k, ek, q4⟩ := dB_out e3 q3
  refine ⟨k, ek, ?_⟩
  have s13 := (s1.trans s2).trans s3
  cases k with
  | false => exact (if_neg Bool.false_ne_true).mpr (fq _ _ _ _ _ q4 s13 hr3 (.bl false))
  | true =>
    refine (if_pos rfl).mpr ⟨I3, M3, F, δ, _, Ed, hr3, rs.mono s13, q4, fun y' M4 I4 H4 w' q5 s4 hr4 e4 => ?_, fx.mono s13⟩
    exact h2 I4 M4 F H4 w w' y y' Qd Q hr4 ((e2.mono s3).mono s4) e4 q5 (fq.mono (s13.trans s4))
theorem d_chain {op op' : CmpOp} {r r' : DR2} {q q' : R2} (ho : OpR X (compareOp op) q) (ho' : OpR X (compareOp op') q') (hl : LR X.K q r) (hl' : LR X.K q' r') (ha : DE X W a ta) (hb : DE X W b tb) (hc : DE X W c tc)
    (hm : lastMarks [op, op'] [b, c] = false := by with_unfolding_all rfl) : DE X W (.Compare a [op, op'] [b, c] pos) (dChain r r' ta tb tc) := pe_imp (pe_chain ho ho' ha hb hc hm) (chain_lift hl hl')
theorem t_chain {op op' : CmpOp} {r r' : DR2} {q q' : R2} (ho : OpR X (compareOp op) q) (ho' : OpR X (compareOp op') q') (hl : LR X.K q r) (hl' : LR X.K q' r') (ha : DE X W a ta) (hb : DE X W b tb) (hc : DE X W c tc)
    (hm : lastMarks [op, op'] [b, c] = false := by with_unfolding_all rfl) : DT X W (.Compare a [op, op'] [b, c] pos) (dTest (dChain r r' ta tb tc)) := pt_imp (pt_chain ho ho' ha hb hc hm) fun _ _ _ q => chain_lift hl hl' _ _ _ (test_lift q)

def dAnd (t u : DTT) : DTT := fun δ M Q E => t δ M (fun b M1 => br b (u δ M1 Q E) (Q false M1)) E
def dOr (t u : DTT) : DTT := fun δ M Q E => t δ M (fun b M1 => br b (Q true M1) (u δ M1 Q E)) E
def dNot (t : DTT) : DTT := fun δ M Q E => t δ M (fun b M1 => Q (!b) M1) E
theorem w_and1 (h : DT X W a tA) : DW X W (.BoolOp .And [a] pos) tA := pw_and1 h
theorem w_or1 (h : DT X W a tA) : DW X W (.BoolOp .Or [a] pos) tA := pw_or1 h
theorem w_and (h : DT X W a tA) (h2 : DW X W (.BoolOp .And (b :: rest) pos) tB') : DW X W (.BoolOp .And (a :: b :: rest) pos) (dAnd tA tB') := by
  refine pw_imp (pw_and h h2) fun σ H Q q => ?_
  obtain ⟨I, M, F, δ, Qd, Ed, hr, rs, q, fq, fx⟩ := q
  refine ⟨I, M, F, δ, _, Ed, hr, rs, q, fun b M1 I1 H1 q1 s1 hr1 => ?_, fx⟩
  cases b with
  | true => exact (if_pos rfl).mpr ⟨I1, M1, F, δ, Qd, Ed, hr1, rs.mono s1, q1, fun b M2 I2 H2 q2 s2 hr2 => fq b M2 I2 H2 q2 (s1.trans s2) hr2, fx.mono s1⟩
  | false => exact (if_neg Bool.false_ne_true).mpr (fq false M1 I1 H1 q1 s1 hr1)
theorem w_or (h : DT X W a tA) (h2 : DW X W (.BoolOp .Or (b :: rest) pos) tB') : DW X W (.BoolOp .Or (a :: b :: rest) pos) (dOr tA tB') := by
  refine pw_imp (pw_or h h2) fun σ H Q q => ?_
  obtain ⟨I, M, F, δ, Qd, Ed, hr, rs, q, fq, fx⟩ := q
  refine ⟨I, M, F, δ, _, Ed, hr, rs, q, fun b M1 I1 H1 q1 s1 hr1 => ?_, fx⟩
  cases b with
  | true => exact (if_pos rfl).mpr (fq true M1 I1 H1 q1 s1 hr1)
  | false => exact (if_neg Bool.false_ne_true).mpr ⟨I1, M1, F, δ, Qd, Ed, hr1, rs.mono s1, q1, fun b M2 I2 H2 q2 s2 hr2 => fq b M2 I2 H2 q2 (s1.trans s2) hr2, fx.mono s1⟩
theorem t_w (h : DW X W e tA) : DT X W e tA := PW.pt h
theorem t_not (h : DT X W a tA) : DT X W (.UnaryOp .Not a pos) (dNot tA) := by
  refine pt_imp (pt_not h) fun σ H Q q => ?_
  obtain ⟨I, M, F, δ, Qd, Ed, hr, rs, q, fq, fx⟩ := q
  exact ⟨I, M, F, δ, _, Ed, hr, rs, q, fun b M1 I1 H1 q1 s1 hr1 => fq _ M1 I1 H1 q1 s1 hr1, fx⟩
/-! values of and, or, not: bools but the last -/
def dAndV (ta tb : DTE) : DTE := fun δ M Q E => ta δ M (fun x M1 => dB x fun c => br c (tb δ M1 Q E) (Q (.bl false) M1)) E
def dOrV (ta tb : DTE) : DTE := fun δ M Q E => ta δ M (fun x M1 => dB x fun c => br c (Q (.bl true) M1) (tb δ M1 Q E)) E
def dNotV (ta : DTE) : DTE := fun δ M Q E => ta δ M (fun x M1 => dB x fun c => Q (.bl (!c)) M1) E
theorem d_one {op} (h : DE X W a ta) : DE X W (.BoolOp op [a] pos) ta := pe_one h
theorem d_and (h : DE X W a ta) (h2 : DE X W (.BoolOp .And (b :: rest) pos) tb) : DE X W (.BoolOp .And (a :: b :: rest) pos) (dAndV ta tb) := by
  refine pe_imp (pe_and h h2) fun σ H Q q => ?_
  obtain ⟨I, M, F, δ, Qd, Ed, hr, rs, q, fq, fx⟩ := q
  refine ⟨I, M, F, δ, _, Ed, hr, rs, q, fun x M1 I1 H1 v q1 s1 hr1 r1 => ?_, fx⟩
  obtain ⟨c, e1, e2⟩ := dB_out r1 q1
  refine ⟨c, e1, ?_⟩
  cases c with
  | true => exact (if_pos rfl).mpr ⟨I1, M1, F, δ, Qd, Ed, hr1, rs.mono s1, e2, fq.mono s1, fx.mono s1⟩
  | false => exact (if_neg Bool.false_ne_true).mpr (fq _ M1 I1 H1 _ e2 s1 hr1 (.bl false))
theorem d_or (h : DE X W a ta) (h2 : DE X W (.BoolOp .Or (b :: rest) pos) tb) : DE X W (.BoolOp .Or (a :: b :: rest) pos) (dOrV ta tb) := by
  refine pe_imp (pe_or h h2) fun σ H Q q => ?_
  obtain ⟨I, M, F, δ, Qd, Ed, hr, rs, q, fq, fx⟩ := q
  refine ⟨I, M, F, δ, _, Ed, hr, rs, q, fun x M1 I1 H1 v q1 s1 hr1 r1 => ?_, fx⟩
  obtain ⟨c, e1, e2⟩ := dB_out r1 q1
  refine ⟨c, e1, ?_⟩
  cases c with
  | true => exact (if_pos rfl).mpr (fq _ M1 I1 H1 _ e2 s1 hr1 (.bl true))
  | false => exact (if_neg Bool.false_ne_true).mpr ⟨I1, M1, F, δ, Qd, Ed, hr1, rs.mono s1, e2, fq.mono s1, fx.mono s1⟩
theorem d_not (h : DE X W a ta) : DE X W (.UnaryOp .Not a pos) (dNotV ta) := by
  refine pe_imp (pe_not h) fun σ H Q q => ?_
  obtain ⟨I, M, F, δ, Qd, Ed, hr, rs, q, fq, fx⟩ := q
  refine ⟨I, M, F, δ, _, Ed, hr, rs, q, fun x M1 I1 H1 v q1 s1 hr1 r1 => ?_, fx⟩
  obtain ⟨c, e1, e2⟩ := dB_out r1 q1
  exact ⟨c, e1, fq _ M1 I1 H1 _ e2 s1 hr1 (.bl _)⟩
def dIfE (t : DTT) (ta tb : DTE) : DTE := fun δ M Q E => t δ M (fun b M1 => br b (ta δ M1 Q E) (tb δ M1 Q E)) E
theorem d_ifExp (h : DT X W c tA) (ha : DE X W a ta) (hb : DE X W b tb) : DE X W (.IfExp c a b pos) (dIfE tA ta tb) := by
  refine pe_imp (pe_ifExp h ha hb) fun σ H Q q => ?_
  obtain ⟨I, M, F, δ, Qd, Ed, hr, rs, q, fq, fx⟩ := q
  refine ⟨I, M, F, δ, _, Ed, hr, rs, q, fun c M1 I1 H1 q1 s1 hr1 => ?_, fx⟩
  cases c with
  | true => exact (if_pos rfl).mpr ⟨I1, M1, F, δ, Qd, Ed, hr1, rs.mono s1, q1, fq.mono s1, fx.mono s1⟩
  | false => exact (if_neg Bool.false_ne_true).mpr ⟨I1, M1, F, δ, Qd, Ed, hr1, rs.mono s1, q1, fq.mono s1, fx.mono s1⟩
end

/-! ## statements -/
section
variable {X : Cx} {W : WX} {st : Stmt} {rest : List Stmt} {t u : DTS} {e : Expr} {te : DTE} {pos : Pos}
def dNext : DTS := fun Dd δ M => Dd.nx δ M
def dSeq (t u : DTS) : DTS := fun Dd δ M => t { Dd with nx := u Dd } δ M
theorem s_nil : DSs X W [] dNext := pss_imp pss_nil fun Dn σ H h => by
  obtain ⟨I, M, F, δ, Dd, hr, rs, q, f⟩ := h
  exact f.nx δ M I H σ q (Same.refl I) hr rs
theorem s_cons (h1 : DSt X W st t) (h2 : DSs X W rest u) : DSs X W (st :: rest) (dSeq t u) := pss_imp (pss_cons h1 h2) fun Dn σ H h => by
  obtain ⟨I, M, F, δ, Dd, hr, rs, q, f⟩ := h
  refine ⟨I, M, F, δ, _, hr, rs, q, ⟨fun δ' M' I' H' σ' q' s' hr' rs' => ⟨I', M', F, δ', Dd, hr', rs', q', f.mono s'⟩, f.rt, f.ex, f.bk, f.ct⟩⟩
theorem s_one (h1 : DSt X W st t) : DSs X W [st] t := pss_one h1
def dBreak : DTS := fun Dd δ M => Dd.bk δ M
def dCont : DTS := fun Dd δ M => Dd.ct δ M
theorem s_pass : DSt X W (.Pass pos) dNext := ps_imp ps_pass fun Dn σ H h => by
  obtain ⟨I, M, F, δ, Dd, hr, rs, q, f⟩ := h
  exact f.nx δ M I H σ q (Same.refl I) hr rs
theorem s_break : DSt X W (.Break pos) dBreak := ps_imp ps_break fun Dn σ H h => by
  obtain ⟨I, M, F, δ, Dd, hr, rs, q, f⟩ := h
  exact f.bk δ M I H σ q (Same.refl I) hr rs
theorem s_continue : DSt X W (.Continue pos) dCont := ps_imp ps_continue fun Dn σ H h => by
  obtain ⟨I, M, F, δ, Dd, hr, rs, q, f⟩ := h
  exact f.ct δ M I H σ q (Same.refl I) hr rs
theorem FinS.x {K : PySem.W.Frag} {I F : Hp} {Dd : DEnds} {Dn : Ends} (f : FinS K W I F Dd Dn) {σ : L2.St} {δ : DS} (rs : RepS K I σ δ) : FinX K I F (fun c fo M => Dd.ex c fo δ M) (WE W σ) :=
  fun c fo M' I' H' dd q s hr x => f.ex c fo δ M' I' H' σ dd q s hr (rs.mono s) x
def dDrop (te : DTE) : DTS := fun Dd δ M => te δ M (fun _ M1 => Dd.nx δ M1) (fun c fo M' => Dd.ex c fo δ M')
theorem s_expr (he : DE X W e te) (hs : swapsWith e none pos.line X.env = pure false := by rfl) : DSt X W (.Expr e pos) (dDrop te) := ps_imp (ps_expr he hs) fun Dn σ H h => by
  obtain ⟨I, M, F, δ, Dd, hr, rs, q, f⟩ := h
  exact ⟨I, M, F, δ, _, _, hr, rs, q, fun d M' I' H' v q' s' hr' r' => f.nx δ M' I' H' σ q' s' hr' (rs.mono s'), f.x rs⟩
def dRet (te : DTE) : DTS := fun Dd δ M => te δ M Dd.rt (fun c fo M' => Dd.ex c fo δ M')
theorem s_ret (he : DE X W e te) : DSt X W (.Return (some e) pos) (dRet te) := ps_imp (ps_ret he) fun Dn σ H h => by
  obtain ⟨I, M, F, δ, Dd, hr, rs, q, f⟩ := h
  exact ⟨I, M, F, δ, _, _, hr, rs, q, f.rt, f.x rs⟩
def dRetN : DTS := fun Dd _ M => Dd.rt .non M
theorem s_retN : DSt X W (.Return none pos) dRetN := ps_imp ps_retN fun Dn σ H h => by
  obtain ⟨I, M, F, δ, Dd, hr, rs, q, f⟩ := h
  exact f.rt _ _ _ _ _ q (Same.refl I) hr .non
def dIf (c : DTT) (t u : DTS) : DTS := fun Dd δ M => c δ M (fun b M1 => br b (t Dd δ M1) (u Dd δ M1)) (fun c fo M' => Dd.ex c fo δ M')
theorem s_if {c : Expr} {a b : List Stmt} {tc : DTT} (hc : DT X W c tc) (ha : DSs X W a t) (hb : DSs X W b u) : DSt X W (.If c a b pos) (dIf tc t u) := ps_imp (ps_if hc ha hb) fun Dn σ H h => by
  obtain ⟨I, M, F, δ, Dd, hr, rs, q, f⟩ := h
  refine ⟨I, M, F, δ, _, _, hr, rs, q, fun c M1 I1 H1 q1 s1 hr1 => ?_, f.x rs⟩
  cases c with
  | true => exact (if_pos rfl).mpr ⟨I1, M1, F, δ, Dd, hr1, rs.mono s1, q1, f.mono s1⟩
  | false => exact (if_neg Bool.false_ne_true).mpr ⟨I1, M1, F, δ, Dd, hr1, rs.mono s1, q1, f.mono s1⟩
theorem s_never : DSt X W st (fun _ _ _ => False) := ps_imp ps_never fun Dn σ H h => by
  obtain ⟨I, M, F, δ, Dd, hr, rs, q, f⟩ := h
  exact q.elim
theorem ss_never {sts : List Stmt} : DSs X W sts (fun _ _ _ => False) := pss_imp pss_never fun Dn σ H h => by
  obtain ⟨I, M, F, δ, Dd, hr, rs, q, f⟩ := h
  exact q.elim
end

/-! ## targets -/
abbrev DTG := D → DS → Mp → (DS → Mp → Prop) → DXK → Prop
abbrev DTGs := List D → DS → Mp → (DS → Mp → Prop) → DXK → Prop
def FinG (K : PySem.W.Frag) (I F : Hp) (Qd : DS → Mp → Prop) (Q : L2.St → Hp → Prop) : Prop := ∀ δ' M' I' H' σ', Qd δ' M' → Same I I' → HR K I' M' F H' → RepS K I' σ' δ' → Q σ' H'
def lG (K : PySem.W.Frag) (W : WX) (g : DTG) : TG := fun v σ H Q => ∃ I M F δ d Qd Ed, HR K I M F H ∧ RepS K I σ δ ∧ Rep K I v d ∧ g d δ M Qd Ed ∧ FinG K I F Qd Q ∧ FinX K I F Ed (WE W σ)
def lGs (K : PySem.W.Frag) (W : WX) (g : DTGs) : TGs := fun vs σ H Q => ∃ I M F δ ds Qd Ed, HR K I M F H ∧ RepS K I σ δ ∧ Reps K I vs ds ∧ g ds δ M Qd Ed ∧ FinG K I F Qd Q ∧ FinX K I F Ed (WE W σ)
def DG (X : Cx) (W : WX) (tg : Expr) (g : DTG) : Prop := PG X tg (lG X.K W g)
def DGs (X : Cx) (W : WX) (tg : List Expr) (g : DTGs) : Prop := PGs X tg (lGs X.K W g)
theorem pg_imp {X : Cx} {e : Expr} {t t' : TG} (h : PG X e t) (i : ∀ v σ H Q, t' v σ H Q → t v σ H Q) : PG X e t' := ⟨fun pins s σ H v u Q I r q => h.run pins s σ H v u Q I r (i v σ H Q q)⟩
theorem pgs_imp {X : Cx} {e : List Expr} {t t' : TGs} (h : PGs X e t) (i : ∀ v σ H Q, t' v σ H Q → t v σ H Q) : PGs X e t' := ⟨fun pins s σ H v u Q I r q => h.run pins s σ H v u Q I r (i v σ H Q q)⟩
section
variable {X : Cx} {W : WX} {pos : Pos} {e : Expr} {te : DTE}
def gdName (i : Nat) : DTG := fun d δ M Q _ => Q (δ.set i (some d)) M
theorem g_name (i : Nat) {x : Str} (hN : X.N.Nodup) (hi : X.N[i]? = some x := by rfl) (hx : Loc X.env.scope x := by first | exact Or.inl rfl | exact Or.inr rfl) (hf : X.fn x = true ∨ X.env.scope.names.lookup x = some .local := by first | exact .inl rfl | exact .inr rfl | assumption) : DG X W (.Name x pos) (gdName i) :=
  pg_imp (pg_name hN hi hx hf) fun v σ H Q h => by
    obtain ⟨I, M, F, δ, d, Qd, Ed, hr, rs, r, q, fq, fx⟩ := h
    exact fq _ M I H _ q (Same.refl I) hr (rs.set i r)
/-- (a, b, ..) = a tuple or a frozen list of that length -/
def gdTup (n : Nat) (t : DTGs) : DTG := fun d δ M Q E => match d with
  | .tup ds => ds.length = n ∧ t ds δ M Q E
  | _ => False
/-- names alone, from the left -/
def gdNames : List Nat → DTGs
  | [] => fun ds δ M Q _ => ds = [] ∧ Q δ M
  | i :: is => fun ds δ M Q E => match ds with
    | d :: r => gdNames is r (δ.set i (some d)) M Q E
    | [] => False
theorem gdNames_E : ∀ (is : List Nat) (ds : List D) (δ : DS) (M : Mp) (Q : DS → Mp → Prop) (E E' : DXK), gdNames is ds δ M Q E → gdNames is ds δ M Q E'
  | [], _, _, _, _, _, _, h => h
  | i :: is, [], _, _, _, _, _, h => h.elim
  | i :: is, d :: r, δ, M, Q, E, E', h => gdNames_E is r (δ.set i (some d)) M Q E E' h
theorem gs_nil : DGs X W [] (gdNames []) := pgs_imp pgs_nil fun v σ H Q h => by
  obtain ⟨I, M, F, δ, ds, Qd, Ed, hr, rs, r, ⟨e, q⟩, fq, fx⟩ := h
  subst e
  cases r
  exact ⟨rfl, fq _ M I H _ q (Same.refl I) hr rs⟩
theorem gs_cons (i : Nat) {x : Str} {es : List Expr} {is : List Nat} (hN : X.N.Nodup) (h2 : DGs X W es (gdNames is)) (hi : X.N[i]? = some x := by rfl) (hx : Loc X.env.scope x := by first | exact Or.inl rfl | exact Or.inr rfl) (hf : X.fn x = true ∨ X.env.scope.names.lookup x = some .local := by first | exact .inl rfl | exact .inr rfl | assumption)
    (hs : (assignEach (.Name x pos :: es) X.env).map (·.2) = assign (.Name x pos) X.env :: (assignEach es X.env).map (·.2) := by rfl) : DGs X W (.Name x pos :: es) (gdNames (i :: is)) :=
  pgs_imp (pgs_cons (pg_name hN hi hx hf) h2 hs) fun v σ H Q h => by
    obtain ⟨I, M, F, δ, ds, Qd, Ed, hr, rs, r, q, fq, fx⟩ := h
    cases r with
    | nil => exact q.elim
    | @cons v1 d1 vr dr r1 rr => exact ⟨v1, vr, rfl, I, M, F, _, dr, Qd, fun _ _ _ => False, hr, rs.set i r1, rr, gdNames_E is dr _ M Qd Ed _ q, fq, fun _ _ _ _ _ _ z => z.elim⟩
theorem g_tup {es : List Expr} {k : Nat} {t : List Nat} {n : Nat} (hc : X.calm = true) (h : DGs X W es (gdNames t))
    (hn : (assignEach es X.env).length = n := by rfl) (hst : (assignEach es X.env).findIdx? (·.1) = none := by rfl) : DG X W (.Tuple es k pos) (gdTup n (gdNames t)) :=
  pg_imp (pg_tup hc h hn hst) fun v σ H Q h => by
    obtain ⟨I, M, F, δ, d, Qd, Ed, hr, rs, r, q, fq, fx⟩ := h
    cases r with
    | @tup a vs ds s rr => exact ⟨a, vs, rfl, hr.st s, by rw [rr.len]; exact q.1, I, M, F, δ, ds, Qd, Ed, hr, rs, rr, q.2, fq, fx⟩
    | _ => exact q.elim
def dAsg (te : DTE) (g : DTG) : DTS := fun Dd δ M => te δ M (fun d M1 => g d δ M1 Dd.nx (fun c fo M' => Dd.ex c fo δ M')) (fun c fo M' => Dd.ex c fo δ M')
theorem s_asg {tg : Expr} {g : DTG} (he : DE X W e te) (hg : DG X W tg g) (hs : swapsWithSole [tg] e pos.line X.env = pure false := by rfl) (hw : swappedStores [tg] e X.env = pure none := by rfl) (h1 : (assignEach [tg] X.env).map (·.2) = [assign tg X.env] := by rfl) : DSt X W (.Assign [tg] e pos) (dAsg te g) :=
  ps_imp (ps_asg he hg hs hw (h1 := h1)) fun Dn σ H h => by
    obtain ⟨I, M, F, δ, Dd, hr, rs, q, f⟩ := h
    refine ⟨I, M, F, δ, _, _, hr, rs, q, fun d M1 I1 H1 v q1 s1 hr1 r1 => ?_, f.x rs⟩
    exact ⟨I1, M1, F, δ, d, _, _, hr1, rs.mono s1, r1, q1, fun δ' M' I' H' σ' q' s' hr' rs' => f.nx δ' M' I' H' σ' q' (s1.trans s') hr' rs', (f.x rs).mono s1⟩
theorem s_set (i : Nat) {x : Str} {pos' : Pos} (hN : X.N.Nodup) (he : DE X W e te) (hi : X.N[i]? = some x := by rfl) (hx : Loc X.env.scope x := by first | exact Or.inl rfl | exact Or.inr rfl) (hs : swapsWith e (some (.Name x pos')) pos.line X.env = pure false := by rfl)
    (hf : X.fn x = true ∨ X.env.scope.names.lookup x = some .local := by first | exact .inl rfl | exact .inr rfl | assumption) : DSt X W (.Assign [.Name x pos'] e pos) (dAsg te (gdName i)) :=
  ps_imp (ps_set (i := i) hN hi hx he hs hf) fun Dn σ H h => by
    obtain ⟨I, M, F, δ, Dd, hr, rs, q, f⟩ := h
    refine ⟨I, M, F, δ, _, _, hr, rs, q, fun d M1 I1 H1 v q1 s1 hr1 r1 => ?_, f.x rs⟩
    exact f.nx _ M1 I1 H1 _ q1 s1 hr1 ((rs.mono s1).set i r1)
end
end DL

set_option Elab.async false
set_option linter.all false
set_option maxRecDepth 100000
set_option maxHeartbeats 2000000
namespace DL
open PySem PySem.Spec PyProof.Rows L2

/-! ## arguments, displays -/
section
variable {X : Cx} {W : WX} {e : Expr} {es : List Expr} {te : DTE} {ta : DTA} {pos : Pos}
def dNil : DTA := fun _ M Q _ => Q [] M
def dCons (te : DTE) (ta : DTA) : DTA := fun δ M Q E => te δ M (fun d M1 => ta δ M1 (fun ds M2 => Q (d :: ds) M2) E) E
theorem a_nil : DA X W [] dNil := pa_imp pa_nil fun σ H Q h => by
  obtain ⟨I, M, F, δ, Qd, Ed, hr, rs, q, fq, fx⟩ := h
  exact fq [] M I H [] q (Same.refl I) hr .nil
theorem a_cons (he : DE X W e te) (ha : DA X W es ta) (hs : starEach (e :: es) X.env = (false, eval e X.env) :: starEach es X.env := by rfl) : DA X W (e :: es) (dCons te ta) := pa_imp (pa_cons he ha hs) fun σ H Q h => by
  obtain ⟨I, M, F, δ, Qd, Ed, hr, rs, q, fq, fx⟩ := h
  refine ⟨I, M, F, δ, _, Ed, hr, rs, q, fun d M1 I1 H1 v q1 s1 hr1 r1 => ?_, fx⟩
  refine ⟨I1, M1, F, δ, _, Ed, hr1, rs.mono s1, q1, fun ds M2 I2 H2 vs q2 s2 hr2 r2 => ?_, fx.mono s1⟩
  exact fq _ M2 I2 H2 _ q2 (s1.trans s2) hr2 (.cons (r1.mono s2) r2)
def dLst (ta : DTA) : DTE := fun δ M Q E => ta δ M (fun ds M1 => ds.length ≤ sizeLine ∧ Q (.lst ds) M1) E
def dLstM (ta : DTA) : DTE := fun δ M Q E => ta δ M (fun ds M1 => ds.length ≤ sizeLine ∧ ∀ p, M1 p = none → Q (.ref p) (updM M1 p (.lst ds))) E
def dTup (ta : DTA) : DTE := fun δ M Q E => ta δ M (fun ds M1 => ds.length ≤ sizeLine ∧ Q (.tup ds) M1) E
theorem fin_lst {K : PySem.W.Frag} {I F : Hp} {M : Mp} {H : Hp} {Qd : DK} {Q : VK} (fq : Fin K I F Qd Q) (hr : HR K I M F H) {vs : List V} {ds : List D} (r : Reps K I vs ds) (q : Qd (.lst ds) M) : ∀ p, H p = none → Q (.ref p) (upd H p (.lst vs)) := fun p hp => by
  have s := same_new (o := .lst vs) (hr.fresh hp).1
  exact fq _ M _ _ _ q s (hr.newI hp _) (.lst upd_same (r.mono s))
theorem fin_tup {K : PySem.W.Frag} {I F : Hp} {M : Mp} {H : Hp} {Qd : DK} {Q : VK} (fq : Fin K I F Qd Q) (hr : HR K I M F H) {vs : List V} {ds : List D} (r : Reps K I vs ds) (q : Qd (.tup ds) M) : ∀ p, H p = none → Q (.ref p) (upd H p (.tup vs)) := fun p hp => by
  have s := same_new (o := .tup vs) (hr.fresh hp).1
  exact fq _ M _ _ _ q s (hr.newI hp _) (.tup (SqT.of upd_same) (r.mono s))
theorem fin_lstM {K : PySem.W.Frag} {I F : Hp} {M : Mp} {H : Hp} {Qd : DK} {Q : VK} (fq : Fin K I F Qd Q) (hr : HR K I M F H) {vs : List V} {ds : List D} (r : Reps K I vs ds) (q : ∀ p, M p = none → Qd (.ref p) (updM M p (.lst ds))) : ∀ p, H p = none → Q (.ref p) (upd H p (.lst vs)) := fun p hp =>
  fq _ _ _ _ _ (q p (hr.fresh hp).2.1) (Same.refl I) (hr.newM hp (o := .lst vs) (m := .lst ds) ⟨vs, rfl, r⟩) (.ref p)
theorem d_lst (ha : DA X W es ta) : DE X W (.List es pos) (dLst ta) := pe_imp (pe_lst ha) fun σ H Q h => by
  obtain ⟨I, M, F, δ, Qd, Ed, hr, rs, q, fq, fx⟩ := h
  refine ⟨I, M, F, δ, _, Ed, hr, rs, q, fun ds M1 I1 H1 vs q1 s1 hr1 r1 => ⟨by rw [r1.len]; exact q1.1, fin_lst (fq.mono s1) hr1 r1 q1.2⟩, fx⟩
theorem d_lstM (ha : DA X W es ta) : DE X W (.List es pos) (dLstM ta) := pe_imp (pe_lst ha) fun σ H Q h => by
  obtain ⟨I, M, F, δ, Qd, Ed, hr, rs, q, fq, fx⟩ := h
  refine ⟨I, M, F, δ, _, Ed, hr, rs, q, fun ds M1 I1 H1 vs q1 s1 hr1 r1 => ⟨by rw [r1.len]; exact q1.1, fin_lstM (fq.mono s1) hr1 r1 q1.2⟩, fx⟩
theorem d_tup {x1} (ha : DA X W es ta) : DE X W (.Tuple es x1 pos) (dTup ta) := pe_imp (pe_tup ha) fun σ H Q h => by
  obtain ⟨I, M, F, δ, Qd, Ed, hr, rs, q, fq, fx⟩ := h
  refine ⟨I, M, F, δ, _, Ed, hr, rs, q, fun ds M1 I1 H1 vs q1 s1 hr1 r1 => ⟨by rw [r1.len]; exact q1.1, fin_tup (fq.mono s1) hr1 r1 q1.2⟩, fx⟩
end

/-! ## defs and their calls -/
abbrev DSp := List D → Mp → DK → DXK → Prop
def lSp (K : PySem.W.Frag) (sp : DSp) : Sp := fun vs H Q E => ∃ I M F ds Qd Ed, HR K I M F H ∧ Reps K I vs ds ∧ sp ds M Qd Ed ∧ Fin K I F Qd Q ∧ FinX K I F Ed E
structure Fn (P : Program) (w : World) (K : PySem.W.Frag) (mg : Str → Option Value) (base : Heap) (k : Nat) (x : Str) (ps : List Str) (sp : DSp) : Prop where
  ex : ∃ (f : Addr) (fd : FuncData), mg x = some (.ref f) ∧ PySem.W.keepIn K (.ref f) = true ∧ ((∀ us : List Value, us.length = ps.length → bindArgs fd ⟨us, []⟩ = pure (ps.zip us)) ∧ ∃ o, K.lookup f = some o ∧ o.data = .func fd) ∧ FnG P w K mg base (L2.CX P w) k f fd ps (lSp K sp)
theorem Fn.up {P : Program} {w : World} {K : PySem.W.Frag} {mg : Str → Option Value} {base : Heap} {j k : Nat} {x : Str} {ps : List Str} {sp : DSp} (h : Fn P w K mg base j x ps sp) (l : j ≤ k) : Fn P w K mg base k x ps sp :=
  let ⟨f, fd, a, b, c, d⟩ := h.ex
  ⟨f, fd, a, b, c, d.up l⟩
/-- the context of a body -/
structure Good (X : Cx) (W : WX) : Prop where
  calm : X.calm = true
  tk : Takes X W
  own : PassesOwn (model X.prog X.w) X.A X.env X.xe
  ng : NoGd X.A
section
variable {X : Cx} {W : WX} {e : Expr} {es : List Expr} {te : DTE} {ta : DTA} {pos p : Pos} {k : Nat} {x : Str} {ps : List Str} {sp : DSp}
def dCall (sp : DSp) (ta : DTA) : DTE := fun δ M Q E => ta δ M (fun ds M1 => sp ds M1 Q E) E
theorem d_call (Fx : Fn X.prog X.w X.K X.mg X.base k x ps sp) (g : Good X W) (rm : Room k X.A) (ha : DA X W (e :: es) ta) (hg : Gl X x := by rfl) (hdb : (x == ("__debug__" : Str)) = false := by decide) (he : starEach (e :: es) X.env = (false, eval e X.env) :: starEach es X.env := by rfl)
    (hpl : (backTo pos (starEach es X.env)).any (·.1) = false := by rfl) : DE X W (.Call (.Name x p) (e :: es) [] pos) (dCall sp ta) := by
  obtain ⟨f, fd, hm, hk, hb, F⟩ := Fx.ex
  refine ⟨fun pins s σ H Q I h => ?_⟩
  obtain ⟨Im, M, Fr, δ, Qd, Ed, hr, rs, q, fq, fx⟩ := h
  refine wpAny_Call_Name_kw (ld_glob I hg hm ?_ hdb)
  refine PySem.W.callWith_K (h₀ := X.base) I.ok.mod.kin hk (thn (PA.run ha pos pins s σ H (fun vs H1 => lSp X.K sp vs H1 Q (WE W σ)) I
    ⟨Im, M, Fr, δ, _, Ed, hr, rs, q, fun ds M1 I1 H1 vs q1 s1 hr1 r1 => ⟨I1, M1, Fr, ds, Qd, Ed, hr1, r1, q1, fq.mono s1, fx.mono s1⟩, fx⟩) fun us s1 z => ?_) he hpl
  obtain ⟨vs, H1, J, rv, q1⟩ := z
  refine ⟨J.kIn, wpAny_call ?_⟩
  have hl : (us ++ []).length = ps.length := by rw [List.append_nil, ← rv.length]; exact F.len _ _ _ _ q1
  have bt := (Binds.all (K := X.K) hb.1) s1 us J.kIn hl
  rw [List.append_nil] at bt
  refine codeAny_mono (goG (E := WE W) F g.ng rm (passAt g.tk σ) J bt rv q1) fun r s2 y => ?_
  cases r with
  | error e => exact y
  | ok fl => cases fl <;> exact y
theorem d_call0 (Fx : Fn X.prog X.w X.K X.mg X.base k x ps sp) (g : Good X W) (rm : Room k X.A) (hg : Gl X x := by rfl) (hdb : (x == ("__debug__" : Str)) = false := by decide) : DE X W (.Call (.Name x p) [] [] pos) (dCall sp dNil) := by
  obtain ⟨f, fd, hm, hk, hb, F⟩ := Fx.ex
  refine ⟨fun pins s σ H Q I h => ?_⟩
  obtain ⟨Im, M, Fr, δ, Qd, Ed, hr, rs, q, fq, fx⟩ := h
  refine wpAny_Call_Name_kw (ld_glob I hg hm ?_ hdb)
  refine PySem.W.callWith_K0 I.kIn hk (wpAny_call ?_)
  have q1 : lSp X.K sp [] H Q (WE W σ) := ⟨Im, M, Fr, [], Qd, Ed, hr, .nil, q, fq, fx⟩
  have hl : (([] : List Value) ++ []).length = ps.length := F.len _ _ _ _ q1
  have bt := (Binds.all (K := X.K) hb.1) s [] I.kIn hl
  refine codeAny_mono (goG (E := WE W) F g.ng rm (passAt g.tk σ) I bt .nil q1) fun r s2 y => ?_
  cases r with
  | error e => exact y
  | ok fl => cases fl <;> exact y
end
def dstart (N : List Str) (ds : List D) : DS := ds.map some ++ List.replicate (N.length - ds.length) none
theorem reps_get {K : PySem.W.Frag} {I : Hp} : ∀ {vs : List V} {ds : List D}, Reps K I vs ds → ∀ (i : Nat) (d : D), ds[i]? = some d → ∃ v, vs[i]? = some v ∧ Rep K I v d
  | _, _, .nil, i, d, h => by simp at h
  | _, _, .cons r _, 0, d, h => by simp at h; subst h; exact ⟨_, rfl, r⟩
  | _, _, .cons _ rr, i + 1, d, h => by
    obtain ⟨v, a, b⟩ := reps_get rr i d (by simpa using h)
    exact ⟨v, by simpa using a, b⟩
theorem reps_start {K : PySem.W.Frag} {I : Hp} {N : List Str} {vs : List V} {ds : List D} (r : Reps K I vs ds) : RepS K I (L2.start N vs) (dstart N ds) := by
  refine ⟨by simp [L2.start, dstart, r.len], fun i d h => ?_⟩
  unfold dstart at h
  by_cases hi : i < ds.length
  · rw [List.getElem?_append_left (by simpa using hi), List.getElem?_map] at h
    cases e : ds[i]? with
    | none => rw [e] at h; cases h
    | some d' =>
      rw [e] at h
      cases h
      obtain ⟨v, a, b⟩ := reps_get r i _ e
      refine ⟨v, ?_, b⟩
      unfold L2.start
      rw [List.getElem?_append_left (by simpa [r.len] using hi), List.getElem?_map, a]
      rfl
  · rw [List.getElem?_append_right (by simpa using hi), List.getElem?_replicate] at h
    split at h <;> cases h
section
variable {P : Program} {w : World} {K : PySem.W.Frag} {mg : Str → Option Value} {base : Heap}
theorem good_of {N : List Str} {qual : Str} {sc : Scope} {f : Addr} {cdv : Value} {A : Around} {l : List Env} {s : Shared} {H : Hp} {E : XK} (ng : NoGd A) : Good (cxOf (L2.CX P w) P w K mg base N qual sc f cdv A l s H E) (fun cls d _ H => E cls d H) :=
  ⟨rfl, takes_of rfl rfl rfl rfl, passes_of rfl, nogd_deeper ng _⟩
theorem dfun {x qual : Str} {st : Stmt} {f : Addr} {fd : FuncData} {N ps : List Str} {k : Nat} {sp : DSp} (F : L2.Fun K x qual st f fd) (hm : mg x = some (.ref f)) (hb : ∀ (kV doc pm : Value) (an : Option Addr) (cdv ct : Value) (us : List Value), us.length = ps.length → bindArgs (PySem.W.fnOf x qual (defArgs st) (defBody st) (defScope st) .none kV doc pm an cdv ct) ⟨us, []⟩ = pure (ps.zip us)) (S : FnScope N ps (defScope st)) (len : ∀ ds M Q E, sp ds M Q E → ds.length = ps.length)
    (body : ∀ (cdv : Value) (A : Around) (l : List Env) (s : Shared) (H : Hp) (E : XK), Good (cxOf (L2.CX P w) P w K mg base N qual (defScope st) f cdv A l s H E) (fun cls d _ H => E cls d H) → Room k (A.deeper (envOfC qual (defScope st) s.heap.objs.size f cdv)) →
      ∃ t, DSs (cxOf (L2.CX P w) P w K mg base N qual (defScope st) f cdv A l s H E) (fun cls d _ H => E cls d H) (defBody st) t ∧ ∀ ds M Qd Ed, sp ds M Qd Ed → t { nx := fun _ M' => Qd .non M', rt := Qd, ex := fun c fo _ M' => Ed c fo M' } (dstart N ds) M) :
    Fn P w K mg base (k + 1) x ps sp := by
  have kp := F.kp
  obtain ⟨oc, od, kV, doc, pm, an, cdv, ct, osl, rfl, lk, hcd⟩ := F.ex
  refine ⟨f, _, hm, kp, ⟨hb kV doc pm an cdv ct, _, lk, rfl⟩, fng_of lk hcd S (fun vs H Q E h => ?_) fun A l s H vs Q E ng rm h => ?_⟩
  · obtain ⟨I, M, Fr, ds, Qd, Ed, hr, rs, q, _, _⟩ := h
    rw [rs.len]
    exact len _ _ _ _ q
  · obtain ⟨t, ht, hq⟩ := body cdv A l s H E (good_of ng) rm
    refine ⟨_, ht, ?_⟩
    obtain ⟨I, M, Fr, ds, Qd, Ed, hr, rs, q, fq, fx⟩ := h
    refine ⟨I, M, Fr, _, _, hr, reps_start rs, hq ds M Qd Ed q, ⟨fun δ' M' I' H' σ' q' s' hr' rs' => fq _ M' I' H' _ q' s' hr' .non, fq, fun c fo δ' M' I' H' σ' dd q' s' hr' rs' xd => fx c fo M' I' H' dd q' s' hr' xd, fun _ _ _ _ _ z => z.elim, fun _ _ _ _ _ z => z.elim⟩⟩
end

/-! ## what is walked -/
inductive Src where
  | data | at (a : Addr) (xs : List D)
def Src.ok : Src → Mp → Prop → Prop
  | .data, _, P => P
  | .at a xs, M, P => M a = some (.lst xs) ∧ P
def Src.holds : Src → Mp → Prop
  | .data, _ => True
  | .at a xs, M => M a = some (.lst xs)
theorem Src.ok_iff {s : Src} {M : Mp} {P : Prop} (h : s.ok M P) : s.holds M ∧ P := by
  cases s with
  | data => exact ⟨trivial, h⟩
  | «at» a xs => exact h
abbrev DTI := DS → Mp → (List D → Src → Mp → Prop) → DXK → Prop
structure DWalk (K : PySem.W.Frag) (I : Hp) (J : It) (xs : List D) (src : Src) : Prop where
  goes : ∀ i I' M' F H, i < xs.length → Same I I' → HR K I' M' F H → src.holds M' → J.go i H
  stops : ∀ I' M' F H, Same I I' → HR K I' M' F H → src.holds M' → J.stop xs.length H
  yields : ∀ i x I' M' F H H', i < xs.length → Same I I' → HR K I' M' F H → src.holds M' → J.yld i H x H' → ∃ I2 d, Same I' I2 ∧ HR K I2 M' F H' ∧ xs[i]? = some d ∧ Rep K I2 x d
def lI (K : PySem.W.Frag) (W : WX) (di : DTI) : TI := fun σ H R => ∃ I M F δ Rd Ed, HR K I M F H ∧ RepS K I σ δ ∧ di δ M Rd Ed ∧ (∀ xs src M' I' H' J, Rd xs src M' → src.holds M' → Same I I' → HR K I' M' F H' → DWalk K I' J xs src → R J H') ∧ FinX K I F Ed (WE W σ)
def DI (X : Cx) (W : WX) (tg iter : Expr) (di : DTI) : Prop := PI X tg iter (lI X.K W di)
theorem pi_imp {X : Cx} {tg iter : Expr} {t t' : TI} (h : PI X tg iter t) (i : ∀ σ H R, t' σ H R → t σ H R) : PI X tg iter t' := ⟨fun pins s σ H R I q => h.run pins s σ H R I (i σ H R q)⟩
def dLoop (g : DTG) (tb : DTS) (src : Src) : List D → DTS
  | [] => fun Dd δ M => src.ok M (Dd.nx δ M)
  | x :: r => fun Dd δ M => src.ok M (g x δ M (fun δ1 M1 => tb { Dd with nx := dLoop g tb src r Dd, ct := dLoop g tb src r Dd, bk := Dd.nx } δ1 M1) (fun c fo M' => Dd.ex c fo δ M'))
def dFor (di : DTI) (g : DTG) (tb : DTS) : DTS := fun Dd δ M => di δ M (fun xs src M1 => dLoop g tb src xs Dd δ M1) (fun c fo M' => Dd.ex c fo δ M')
section
variable {X : Cx} {W : WX} {tg iter : Expr} {body : List Stmt} {di : DTI} {g : DTG} {tb : DTS} {pos : Pos}
theorem s_for (gd : Good X W) (hi : DI X W tg iter di) (hg : DG X W tg g) (hb : DSs X W body tb) (hs : ∀ x, foldedSetIterable iter X.env x = pure x := by intro _; rfl) : DSt X W (.For tg iter body [] pos) (dFor di g tb) := by
  refine ps_imp (ps_for gd.own gd.calm hi hg hb hs) fun Dn σ H h => ?_
  obtain ⟨I, M, F, δ, Dd, hr, rs, q, f⟩ := h
  refine ⟨I, M, F, δ, _, _, hr, rs, q, fun xs src M1 I1 H1 J q1 ho s1 hr1 wk => ?_, f.x rs⟩
  refine ⟨fun i m σ' H' => m = xs.length - i ∧ i ≤ xs.length ∧ ∃ I' M' δ', Same I1 I' ∧ HR X.K I' M' F H' ∧ RepS X.K I' σ' δ' ∧ dLoop g tb src (xs.drop i) Dd δ' M', ⟨xs.length, by simp, Nat.zero_le _, I1, M1, δ, Same.refl I1, hr1, rs.mono s1, q1⟩, ?_⟩
  rintro i m σ' H' ⟨rfl, hi, I', M', δ', s', hr', rs', q'⟩
  by_cases hlt : i < xs.length
  · right
    rw [List.drop_eq_getElem_cons hlt] at q'
    obtain ⟨ho', q'⟩ := Src.ok_iff q'
    refine ⟨wk.goes i I' M' F H' hlt s' hr' ho', fun σ2 H2 => ∃ I2 M2 δ2, Same I1 I2 ∧ HR X.K I2 M2 F H2 ∧ RepS X.K I2 σ2 δ2 ∧ dLoop g tb src (xs.drop (i + 1)) Dd δ2 M2, fun σ2 H2 z => ⟨xs.length - (i + 1), by omega, rfl, hlt, z⟩, fun x H2 y => ?_⟩
    obtain ⟨I2, d, s2, hr2, e, r⟩ := wk.yields i x I' M' F H' H2 hlt s' hr' ho' y
    rw [List.getElem?_eq_getElem hlt] at e
    cases e
    have s12 := s'.trans s2
    refine ⟨I2, M', F, δ', _, _, _, hr2, rs'.mono s2, r, q', fun δ3 M3 I3 H3 σ3 q3 s3 hr3 rs3 => ?_, fun c fo M3 I3 H3 dd z s3 hr3 xd => f.ex c fo δ' M3 I3 H3 σ' dd z ((s1.trans s12).trans s3) hr3 ((rs'.mono s2).mono s3) xd⟩
    have f3 := f.mono ((s1.trans s12).trans s3)
    exact ⟨I3, M3, F, δ3, _, hr3, rs3, q3, ⟨fun δ4 M4 I4 H4 σ4 q4 s4 hr4 rs4 => ⟨I4, M4, δ4, (s12.trans s3).trans s4, hr4, rs4, q4⟩, f3.rt, f3.ex, f3.nx, fun δ4 M4 I4 H4 σ4 q4 s4 hr4 rs4 => ⟨I4, M4, δ4, (s12.trans s3).trans s4, hr4, rs4, q4⟩⟩⟩
  · left
    have e : i = xs.length := by omega
    subst e
    rw [List.drop_length] at q'
    obtain ⟨ho', q'⟩ := Src.ok_iff q'
    exact ⟨wk.stops I' M' F H' s' hr' ho', f.nx δ' M' I' H' σ' q' (s1.trans s') hr' rs'⟩
end
end DL

set_option Elab.async false
set_option linter.all false
set_option maxRecDepth 100000
set_option maxHeartbeats 2000000
namespace DL
open PySem PySem.Spec PyProof.Rows L2

/-! ## an object in the frame while it is made -/
section
variable {K : PySem.W.Frag} {I : Hp} {M : Mp} {F H : Hp} {p : Addr} {o o' : HO}
theorem HR.newF (h : HR K I M F H) (hp : H p = none) (o : HO) : HR K I M (upd F p o) (upd H p o) := by
  obtain ⟨h1, h2, h3⟩ := h.fresh hp
  have kp : ∀ d φ, H d = some (.ext φ) → upd H p o d = some (.ext φ) := fun d φ e => by rw [upd_ne (ne_of_none e hp)]; exact e
  refine ⟨fun a u e => ?_, fun a m e => ?_, fun a u e => ?_⟩
  · have q : a ≠ p := fun z => by rw [z, h1] at e; cases e
    rw [upd_ne q]; exact h.imm a u e
  · have q : a ≠ p := fun z => by rw [z, h2] at e; cases e
    rw [upd_ne q]
    obtain ⟨x, y, z, t⟩ := h.mu a m e
    exact ⟨x, y, z, t.mono (Same.refl I) kp⟩
  · by_cases q : a = p
    · subst q; rw [upd_same] at e; rw [upd_same]; exact ⟨e, h1, h2⟩
    · rw [upd_ne q] at e; rw [upd_ne q]; exact h.frm a u e
theorem HR.atF (h : HR K I M (upd F p o) H) : H p = some o ∧ I p = none ∧ M p = none := h.frm p o upd_same
theorem HR.reF (h : HR K I M (upd F p o) H) (nx : ∀ φ, o ≠ .ext φ) (o' : HO) : HR K I M (upd F p o') (upd H p o') := by
  obtain ⟨h0, h1, h2⟩ := h.atF
  have kp : ∀ d φ, H d = some (.ext φ) → upd H p o' d = some (.ext φ) := fun d φ e => by rw [upd_ne (ne_of e h0 (fun z => nx φ z.symm))]; exact e
  refine ⟨fun a u e => ?_, fun a m e => ?_, fun a u e => ?_⟩
  · have q : a ≠ p := fun z => by rw [z, h1] at e; cases e
    rw [upd_ne q]; exact h.imm a u e
  · have q : a ≠ p := fun z => by rw [z, h2] at e; cases e
    rw [upd_ne q]
    obtain ⟨x, y, z, t⟩ := h.mu a m e
    exact ⟨x, y, z, t.mono (Same.refl I) kp⟩
  · by_cases q : a = p
    · subst q; rw [upd_same] at e; rw [upd_same]; exact ⟨e, h1, h2⟩
    · rw [upd_ne q] at e; rw [upd_ne q]; exact h.frm a u (by rw [upd_ne q]; exact e)
theorem HR.frzF (h : HR K I M (upd F p o) H) (hF : F p = none) : Same I (upd I p o) ∧ HR K (upd I p o) M F H := by
  obtain ⟨h0, h1, h2⟩ := h.atF
  have s := same_new (o := o) h1
  refine ⟨s, fun a u e => ?_, fun a m e => ?_, fun a u e => ?_⟩
  · by_cases q : a = p
    · subst q; rw [upd_same] at e; rw [← e]; exact h0
    · rw [upd_ne q] at e; exact h.imm a u e
  · have q : a ≠ p := fun z => by rw [z, h2] at e; cases e
    obtain ⟨x, u, y, z⟩ := h.mu a m e
    rw [upd_ne q]
    exact ⟨x, u, y, z.mono s fun _ _ e => e⟩
  · have q : a ≠ p := fun z => by rw [z, hF] at e; cases e
    rw [upd_ne q]; exact h.frm a u (by rw [upd_ne q]; exact e)
theorem HR.mutF (h : HR K I M (upd F p o) H) (hF : F p = none) {m : MO} (r : RepO K I H p o m) : HR K I (updM M p m) F H := by
  obtain ⟨h0, h1, h2⟩ := h.atF
  refine ⟨h.imm, fun a n e => ?_, fun a u e => ?_⟩
  · by_cases q : a = p
    · subst q; rw [updM_same] at e; cases e; exact ⟨h1, o, h0, r⟩
    · rw [updM_ne q] at e; exact h.mu a n e
  · have q : a ≠ p := fun z => by rw [z, hF] at e; cases e
    rw [updM_ne q]; exact h.frm a u (by rw [upd_ne q]; exact e)
end
theorem Reps.snoc {K : PySem.W.Frag} {I : Hp} {v : V} {d : D} (r : Rep K I v d) : ∀ {vs : List V} {ds : List D}, Reps K I vs ds → Reps K I (vs ++ [v]) (ds ++ [d])
  | _, _, .nil => .cons r .nil
  | _, _, .cons a b => .cons a (Reps.snoc r b)

/-! ## comprehensions -/
theorem wipe_get (σ : L2.St) (j : Nat) : ∀ vs : List Nat, (wipe σ vs)[j]? = if j ∈ vs then σ[j]?.map (fun _ => none) else σ[j]?
  | [] => by simp [wipe]
  | v :: vs => by
    show ((wipe σ vs).set v none)[j]? = _
    rw [List.getElem?_set]
    by_cases h : v = j
    · subst h
      by_cases hl : v < σ.length
      · simp [wipe_length, hl]
      · simp [wipe_length, hl]
    · rw [if_neg h, wipe_get σ j vs]
      have h' : ¬ j = v := fun z => h z.symm
      simp [h']
theorem wipe_set {σ : L2.St} {i : Nat} {u : Option V} {vs : List Nat} (h : i ∈ vs) : wipe (σ.set i u) vs = wipe σ vs := by
  apply List.ext_getElem?
  intro j
  rw [wipe_get, wipe_get, List.getElem?_set]
  by_cases q : j ∈ vs
  · rw [if_pos q, if_pos q]
    by_cases z : i = j
    · subst z
      by_cases hl : i < σ.length <;> simp [hl]
    · rw [if_neg z]
  · have z : i ≠ j := fun e => q (e ▸ h)
    rw [if_neg q, if_neg q, if_neg z]
theorem wipe_wipe (σ : L2.St) (vs : List Nat) : wipe (wipe σ vs) vs = wipe σ vs := by
  apply List.ext_getElem?
  intro j
  rw [wipe_get, wipe_get]
  by_cases q : j ∈ vs
  · rw [if_pos q, if_pos q]
    cases σ[j]? <;> rfl
  · rw [if_neg q, if_neg q]
def dwipe (δ : DS) : List Nat → DS
  | [] => δ
  | v :: vs => (dwipe δ vs).set v none
theorem RepS.wipe {K : PySem.W.Frag} {I : Hp} {σ : L2.St} {δ : DS} (h : RepS K I σ δ) : ∀ vs : List Nat, RepS K I (L2.wipe σ vs) (dwipe δ vs)
  | [] => h
  | v :: vs => (RepS.wipe h vs).forget v
/-- the places of a target: one name, or a tuple of names -/
inductive TgI where
  | one (i : Nat) | tup (is : List Nat)
def gNV : List Nat → TGs
  | [] => gNil
  | i :: is => gCons (gName i) (gNV is)
def setAll : DS → List Nat → List D → DS
  | δ, i :: is, d :: ds => setAll (δ.set i (some d)) is ds
  | δ, _, _ => δ
def setAllV : L2.St → List Nat → List V → L2.St
  | σ, i :: is, v :: vs => setAllV (σ.set i (some v)) is vs
  | σ, _, _ => σ
theorem gNV_of : ∀ (is : List Nat) (vs : List V) (σ : L2.St) (H : Hp) (Q : L2.St → Hp → Prop), vs.length = is.length → Q (setAllV σ is vs) H → gNV is vs σ H Q
  | [], [], σ, H, Q, _, q => ⟨rfl, q⟩
  | i :: is, v :: vs, σ, H, Q, l, q => ⟨v, vs, rfl, gNV_of is vs _ H Q (by simpa using l) q⟩
  | [], _ :: _, _, _, _, l, _ => by simp at l
  | _ :: _, [], _, _, _, l, _ => by simp at l
theorem RepS.setAll {K : PySem.W.Frag} {I : Hp} : ∀ {is : List Nat} {vs : List V} {ds : List D} {σ : L2.St} {δ : DS}, RepS K I σ δ → Reps K I vs ds → RepS K I (setAllV σ is vs) (DL.setAll δ is ds)
  | [], _, _, _, _, h, _ => h
  | i :: is, _, _, _, _, h, .nil => h
  | i :: is, _, _, _, _, h, .cons r rr => by
    have z := RepS.setAll (is := is) (h.set i r) rr
    exact z
theorem wipe_setAll {vs : List Nat} : ∀ {is : List Nat} {xs : List V} {σ : L2.St}, (∀ i ∈ is, i ∈ vs) → wipe (setAllV σ is xs) vs = wipe σ vs
  | [], _, _, _ => rfl
  | i :: is, [], _, _ => rfl
  | i :: is, x :: xs, σ, h => by
    show wipe (setAllV (σ.set i (some x)) is xs) vs = _
    rw [wipe_setAll fun j hj => h j (List.mem_cons_of_mem _ hj), wipe_set (h i List.mem_cons_self)]
def TgI.v (K : PySem.W.Frag) : TgI → TG
  | .one i => gName i
  | .tup is => gTup K is.length (gNV is)
def TgI.in (vs : List Nat) : TgI → Bool
  | .one i => decide (i ∈ vs)
  | .tup is => decide (∀ i ∈ is, i ∈ vs)
def TgI.d (t : TgI) (d : D) (δ : DS) (k : DS → Prop) : Prop := match t with
  | .one i => k (δ.set i (some d))
  | .tup is => match d with | .tup ds => ds.length = is.length ∧ k (setAll δ is ds) | _ => False
theorem TgI.run {K : PySem.W.Frag} {I : Hp} {M : Mp} {F H : Hp} {vs : List Nat} {t : TgI} (hin : t.in vs = true) (hr : HR K I M F H) {x : V} {d : D} (r : Rep K I x d) {σ : L2.St} {δ : DS} (rs : RepS K I σ δ) {k : DS → Prop} (h : t.d d (dwipe δ vs) k) {Q : L2.St → Hp → Prop}
    (hQ : ∀ σ2 δ2, RepS K I σ2 δ2 → wipe σ2 vs = wipe σ vs → k δ2 → Q σ2 H) : t.v K x (wipe σ vs) H Q := by
  cases t with
  | one i =>
    have hi : i ∈ vs := of_decide_eq_true hin
    exact hQ _ _ ((rs.wipe vs).set i r) (by rw [wipe_set hi, wipe_wipe]) h
  | tup is =>
    have hi : ∀ i ∈ is, i ∈ vs := of_decide_eq_true hin
    cases r with
    | @tup a xs ds s rr =>
      refine ⟨a, xs, rfl, hr.st s, by rw [rr.len]; exact h.1, gNV_of is xs _ H Q (by rw [rr.len]; exact h.1) (hQ _ _ ((rs.wipe vs).setAll rr) (by rw [wipe_setAll hi, wipe_wipe]) h.2)⟩
    | _ => exact h.elim
section
variable {X : Cx}
theorem vn_nil : PGs X [] (gNV []) := pgs_nil
theorem vn_cons (i : Nat) {x : Str} {pos : Pos} {es : List Expr} {is : List Nat} (hN : X.N.Nodup) (h : PGs X es (gNV is)) (hi : X.N[i]? = some x := by rfl) (hx : Loc X.env.scope x := by first | exact Or.inl rfl | exact Or.inr rfl)
    (hf : X.fn x = true ∨ X.env.scope.names.lookup x = some .local := by first | exact .inl rfl | exact .inr rfl | assumption) (hs : (assignEach (.Name x pos :: es) X.env).map (·.2) = assign (.Name x pos) X.env :: (assignEach es X.env).map (·.2) := by rfl) : PGs X (.Name x pos :: es) (gNV (i :: is)) :=
  pgs_cons (pg_name hN hi hx hf) h hs
theorem v_one (i : Nat) {x : Str} {pos : Pos} (hN : X.N.Nodup) (hi : X.N[i]? = some x := by rfl) (hx : Loc X.env.scope x := by first | exact Or.inl rfl | exact Or.inr rfl)
    (hf : X.fn x = true ∨ X.env.scope.names.lookup x = some .local := by first | exact .inl rfl | exact .inr rfl | assumption) : PG X (.Name x pos) ((TgI.one i).v X.K) := pg_name hN hi hx hf
theorem v_tup {es : List Expr} {k : Nat} {pos : Pos} {is : List Nat} (hc : X.calm = true) (h : PGs X es (gNV is)) (hn : (assignEach es X.env).length = is.length := by rfl) (hst : (assignEach es X.env).findIdx? (·.1) = none := by rfl) : PG X (.Tuple es k pos) ((TgI.tup is).v X.K) := pg_tup hc h hn hst
end
abbrev W0 : WX := fun _ _ _ _ => False
abbrev E0d : DXK := fun _ _ _ => False
def dYes : DTT := fun _ M Q _ => Q true M
def dComp (t : TgI) (tt : DTT) (te : DTE) (src : Src) (vs : List Nat) (δ : DS) (k : List D → Mp → Prop) : List D → List D → Mp → Prop
  | [], acc, M => src.ok M (acc.length ≤ sizeLine ∧ k acc M)
  | x :: r, acc, M => src.ok M (t.d x (dwipe δ vs) fun δ2 => tt δ2 M (fun b M3 => br b (te δ2 M3 (fun y M4 => dComp t tt te src vs δ k r (acc ++ [y]) M4) E0d) (dComp t tt te src vs δ k r acc M3)) E0d)
def dLc (di : DTI) (t : TgI) (tt : DTT) (te : DTE) (vs : List Nat) : DTE := fun δ M Q E => di δ M (fun xs src M1 => xs.length < sizeLine ∧ dComp t tt te src vs δ (fun acc M2 => Q (.lst acc) M2) xs [] M1) E
def dLcM (di : DTI) (t : TgI) (tt : DTT) (te : DTE) (vs : List Nat) : DTE := fun δ M Q E => di δ M (fun xs src M1 => xs.length < sizeLine ∧ dComp t tt te src vs δ (fun acc M2 => ∀ p, M2 p = none → Q (.ref p) (updM M2 p (.lst acc))) xs [] M1) E
section
variable {X : Cx} {W : WX}
/-- what a comprehension's reading is at V -/
theorem lc_lift {K : PySem.W.Frag} {t : TgI} {tt : DTT} {te : DTE} {src : Src} {vs : List Nat} {δ : DS} {k : List D → Mp → Prop} {xs : List D} {J : It} {I1 F H1 : Hp} {M1 : Mp} {σ : L2.St} {Qd : Addr → Hp → Prop}
    (hin : t.in vs = true) (hl : xs.length < sizeLine) (hr1 : HR K I1 M1 F H1) (rs : RepS K I1 σ δ) (wk : DWalk K I1 J xs src) (q : dComp t tt te src vs δ k xs [] M1)
    (fin : ∀ p I' M' H' accV acc, F p = none → Same I1 I' → HR K I' M' (upd F p (.lst accV)) H' → Reps K I' accV acc → k acc M' → Qd p H') (D : Addr) (hD : H1 D = none) :
    ∃ Wv : Nat → Nat → Hp → Prop, (∃ m, Wv 0 m (upd H1 D (.lst []))) ∧ ∀ i m H, Wv i m H →
      (J.stop i H ∧ Qd D H) ∨ (J.go i H ∧ ∃ Nx : Hp → Prop, (∀ H', Nx H' → ∃ m', m' < m ∧ Wv (i + 1) m' H') ∧ ∀ x H', J.yld i H x H' → t.v K x (wipe σ vs) H' fun σ2 H2 => wipe σ2 vs = wipe σ vs ∧ lT K W0 tt σ2 H2 fun b H3 =>
        if b = true then lE K W0 te σ2 H3 fun y H4 => ∃ acc, H4 D = some (.lst acc) ∧ acc.length < sizeLine ∧ Nx (upd H4 D (.lst (acc ++ [y]))) else Nx H3) := by
  have hF := (hr1.fresh hD).2.2
  refine ⟨fun i m H => m = xs.length - i ∧ i ≤ xs.length ∧ ∃ I' M' accV acc, Same I1 I' ∧ HR K I' M' (upd F D (.lst accV)) H ∧ Reps K I' accV acc ∧ acc.length ≤ i ∧ dComp t tt te src vs δ k (xs.drop i) acc M',
    ⟨xs.length, by simp, Nat.zero_le _, I1, M1, [], [], Same.refl I1, hr1.newF hD _, .nil, Nat.le_refl _, q⟩, ?_⟩
  rintro i m H ⟨rfl, hi, I', M', accV, acc, s', hr', ra, la, q'⟩
  by_cases hlt : i < xs.length
  · right
    rw [List.drop_eq_getElem_cons hlt] at q'
    obtain ⟨ho, q'⟩ := Src.ok_iff q'
    refine ⟨wk.goes i I' M' _ H hlt s' hr' ho, fun H2 => ∃ I2 M2 aV a, Same I1 I2 ∧ HR K I2 M2 (upd F D (.lst aV)) H2 ∧ Reps K I2 aV a ∧ a.length ≤ i + 1 ∧ dComp t tt te src vs δ k (xs.drop (i + 1)) a M2, fun H2 z => ⟨xs.length - (i + 1), by omega, rfl, hlt, z⟩, fun x H2 y => ?_⟩
    obtain ⟨I2, d, s2, hr2, e, r⟩ := wk.yields i x I' M' _ H H2 hlt s' hr' ho y
    rw [List.getElem?_eq_getElem hlt] at e
    cases e
    have s12 := s'.trans s2
    refine TgI.run hin hr2 r (rs.mono s12) q' fun σ2 δ2 rs2 ew q2 => ⟨ew, I2, M', upd F D (.lst accV), δ2, _, _, hr2, rs2, q2, fun b M3 I3 H3 q3 s3 hr3 => ?_, fun _ _ _ _ _ _ z => z.elim⟩
    cases b with
    | false => exact (if_neg Bool.false_ne_true).mpr ⟨I3, M3, accV, acc, s12.trans s3, hr3, (ra.mono s2).mono s3, Nat.le_succ_of_le la, q3⟩
    | true =>
      refine (if_pos rfl).mpr ⟨I3, M3, upd F D (.lst accV), δ2, _, _, hr3, rs2.mono s3, q3, fun y4 M4 I4 H4 v4 q4 s4 hr4 r4 => ?_, fun _ _ _ _ _ _ z => z.elim⟩
      have ra4 := ((ra.mono s2).mono s3).mono s4
      refine ⟨accV, hr4.atF.1, by rw [ra4.len]; omega, I4, M4, accV ++ [v4], acc ++ [y4], (s12.trans s3).trans s4, hr4.reF (fun _ z => nomatch z) _, ra4.snoc r4, by rw [List.length_append]; simpa using la, q4⟩
  · left
    have e : i = xs.length := by omega
    subst e
    rw [List.drop_length] at q'
    obtain ⟨ho, q'⟩ := Src.ok_iff q'
    exact ⟨wk.stops I' M' _ H s' hr' ho, fin D I' M' H accV acc hF s' hr' ra q'.2⟩
variable {elt tg iter : Expr} {ifs : List Expr} {scope : Scope} {own : List (Str × Nat)} {pos : Pos} {di : DTI} {t : TgI} {tt : DTT} {te : DTE}
theorem good_blk (g : Good X W) (s : Shared) (H : Hp) (sc : Scope) (ev : Env) (fp : List Addr) : Good (X.blk s H sc ev fp) W0 := ⟨g.calm, takes0, PassesOwn.never, g.ng⟩
def DTs (X : Cx) (ifs : List Expr) (tt : DTT) : Prop := PTs X ifs (lT X.K W0 tt)
theorem ts_nil : DTs X [] dYes := ⟨fun pins s σ H Q I h => pts_nil.run pins s σ H Q I (by
  obtain ⟨I, M, F, δ, Qd, Ed, hr, rs, q, fq, fx⟩ := h
  exact fq true M I H q (Same.refl I) hr)⟩
theorem ts_one {c : Expr} (h : DT X W0 c tt) : DTs X [c] tt := pts_one h
theorem d_lc (N : List Str) (sc : Scope) (own : List (Str × Nat)) (g : Good X W) (hN : X.N.Nodup) (hi : DI X W tg iter di) (ok : blkC N sc scope own = true) (hin : t.in (own.map (·.2)) = true)
    (hg : ∀ (s : Shared) (H : Hp) (C : Addr) (cl : List (Str × Addr)) (fp : List Addr), Good (X.blk s H scope (compEnvC scope cl C X.env) fp) W0 → PG (X.blk s H scope (compEnvC scope cl C X.env) fp) tg (t.v X.K))
    (ht : ∀ (s : Shared) (H : Hp) (C : Addr) (cl : List (Str × Addr)) (fp : List Addr), Good (X.blk s H scope (compEnvC scope cl C X.env) fp) W0 → DTs (X.blk s H scope (compEnvC scope cl C X.env) fp) ifs tt)
    (he : ∀ (s : Shared) (H : Hp) (C : Addr) (cl : List (Str × Addr)) (fp : List Addr), Good (X.blk s H scope (compEnvC scope cl C X.env) fp) W0 → DE (X.blk s H scope (compEnvC scope cl C X.env) fp) W0 elt te) (hs : ∀ x, foldedSetIterable iter X.env x = pure x := by intro _; rfl) (eN : X.N = N := by rfl) (es : X.env.scope = sc := by rfl) :
    DE X W (.ListComp elt [⟨tg, iter, ifs, 0⟩] scope pos) (dLc di t tt te (own.map (·.2))) := by
  refine pe_imp (pe_lc (own := own) (g := t.v X.K) (tt := lT X.K W0 tt) (te := lE X.K W0 te) g.calm hN hi (by rw [eN, es]; exact blkOk_by ok) (fun s H C cl fp => hg s H C cl fp (good_blk g ..)) (fun s H C cl fp => ht s H C cl fp (good_blk g ..)) (fun s H C cl fp => he s H C cl fp (good_blk g ..)) hs) fun σ H Q h => ?_
  obtain ⟨I, M, F, δ, Qd, Ed, hr, rs, q, fq, fx⟩ := h
  refine ⟨I, M, F, δ, _, Ed, hr, rs, q, fun xs src M1 I1 H1 J q1 ho s1 hr1 wk D hD => ?_, fx⟩
  refine lc_lift hin q1.1 hr1 (rs.mono s1) wk q1.2 (Qd := fun p H' => Q (.ref p) H') (fun p I' M' H' aV a hF s' hr' ra q' => ?_) D hD
  obtain ⟨z1, z2⟩ := hr'.frzF hF
  exact fq _ M' _ H' _ q' ((s1.trans s').trans z1) z2 (.lst upd_same (ra.mono z1))
theorem d_lcM (N : List Str) (sc : Scope) (own : List (Str × Nat)) (g : Good X W) (hN : X.N.Nodup) (hi : DI X W tg iter di) (ok : blkC N sc scope own = true) (hin : t.in (own.map (·.2)) = true)
    (hg : ∀ (s : Shared) (H : Hp) (C : Addr) (cl : List (Str × Addr)) (fp : List Addr), Good (X.blk s H scope (compEnvC scope cl C X.env) fp) W0 → PG (X.blk s H scope (compEnvC scope cl C X.env) fp) tg (t.v X.K))
    (ht : ∀ (s : Shared) (H : Hp) (C : Addr) (cl : List (Str × Addr)) (fp : List Addr), Good (X.blk s H scope (compEnvC scope cl C X.env) fp) W0 → DTs (X.blk s H scope (compEnvC scope cl C X.env) fp) ifs tt)
    (he : ∀ (s : Shared) (H : Hp) (C : Addr) (cl : List (Str × Addr)) (fp : List Addr), Good (X.blk s H scope (compEnvC scope cl C X.env) fp) W0 → DE (X.blk s H scope (compEnvC scope cl C X.env) fp) W0 elt te) (hs : ∀ x, foldedSetIterable iter X.env x = pure x := by intro _; rfl) (eN : X.N = N := by rfl) (es : X.env.scope = sc := by rfl) :
    DE X W (.ListComp elt [⟨tg, iter, ifs, 0⟩] scope pos) (dLcM di t tt te (own.map (·.2))) := by
  refine pe_imp (pe_lc (own := own) (g := t.v X.K) (tt := lT X.K W0 tt) (te := lE X.K W0 te) g.calm hN hi (by rw [eN, es]; exact blkOk_by ok) (fun s H C cl fp => hg s H C cl fp (good_blk g ..)) (fun s H C cl fp => ht s H C cl fp (good_blk g ..)) (fun s H C cl fp => he s H C cl fp (good_blk g ..)) hs) fun σ H Q h => ?_
  obtain ⟨I, M, F, δ, Qd, Ed, hr, rs, q, fq, fx⟩ := h
  refine ⟨I, M, F, δ, _, Ed, hr, rs, q, fun xs src M1 I1 H1 J q1 ho s1 hr1 wk D hD => ?_, fx⟩
  refine lc_lift hin q1.1 hr1 (rs.mono s1) wk q1.2 (Qd := fun p H' => Q (.ref p) H') (fun p I' M' H' aV a hF s' hr' ra q' => ?_) D hD
  exact fq _ _ _ H' _ (q' p hr'.atF.2.2) (s1.trans s') (hr'.mutF hF (m := .lst a) ⟨aV, rfl, ra⟩) (.ref p)
/-- name = [..] -/
theorem s_setLc (i : Nat) (N : List Str) (sc : Scope) (own : List (Str × Nat)) {y : Str} {py spos : Pos} (g : Good X W) (hN : X.N.Nodup) (hi : DI X W tg iter di) (ok : blkC N sc scope own = true) (hin : t.in (own.map (·.2)) = true)
    (hg : ∀ (s : Shared) (H : Hp) (C : Addr) (cl : List (Str × Addr)) (fp : List Addr), Good (X.blk s H scope (compEnvC scope cl C X.env) fp) W0 → PG (X.blk s H scope (compEnvC scope cl C X.env) fp) tg (t.v X.K))
    (ht : ∀ (s : Shared) (H : Hp) (C : Addr) (cl : List (Str × Addr)) (fp : List Addr), Good (X.blk s H scope (compEnvC scope cl C X.env) fp) W0 → DTs (X.blk s H scope (compEnvC scope cl C X.env) fp) ifs tt)
    (he : ∀ (s : Shared) (H : Hp) (C : Addr) (cl : List (Str × Addr)) (fp : List Addr), Good (X.blk s H scope (compEnvC scope cl C X.env) fp) W0 → DE (X.blk s H scope (compEnvC scope cl C X.env) fp) W0 elt te)
    (hsw : swapsWith (.ListComp elt [⟨tg, iter, ifs, 0⟩] scope pos) (some (.Name y py)) spos.line X.env = pure true) (hy : X.N[i]? = some y := by rfl) (hyl : X.env.scope.names.lookup y = some .local := by rfl) (hs : ∀ x, foldedSetIterable iter X.env x = pure x := by intro _; rfl) (eN : X.N = N := by rfl) (es : X.env.scope = sc := by rfl) :
    DSt X W (.Assign [.Name y py] (.ListComp elt [⟨tg, iter, ifs, 0⟩] scope pos) spos) (dAsg (dLc di t tt te (own.map (·.2))) (gdName i)) := by
  refine ps_imp (ps_setLc (i := i) (own := own) (g := t.v X.K) (tt := lT X.K W0 tt) (te := lE X.K W0 te) g.calm hN hy hyl hsw hi (by rw [eN, es]; exact blkOk_by ok) (fun s H C cl fp => hg s H C cl fp (good_blk g ..)) (fun s H C cl fp => ht s H C cl fp (good_blk g ..)) (fun s H C cl fp => he s H C cl fp (good_blk g ..)) hs) fun Dn σ H h => ?_
  obtain ⟨I, M, F, δ, Dd, hr, rs, q, f⟩ := h
  refine ⟨I, M, F, δ, _, _, hr, rs, q, fun xs src M1 I1 H1 J q1 ho s1 hr1 wk D hD => ?_, f.x rs⟩
  refine lc_lift hin q1.1 hr1 (rs.mono s1) wk q1.2 (Qd := fun p H' => Dn.nx (σ.set i (some (.ref p))) H') (fun p I' M' H' aV a hF s' hr' ra q' => ?_) D hD
  obtain ⟨z1, z2⟩ := hr'.frzF hF
  have sA := (s1.trans s').trans z1
  exact f.nx _ M' _ H' _ q' sA z2 ((rs.mono sA).set i (.lst upd_same (ra.mono z1)))
theorem s_setLcM (i : Nat) (N : List Str) (sc : Scope) (own : List (Str × Nat)) {y : Str} {py spos : Pos} (g : Good X W) (hN : X.N.Nodup) (hi : DI X W tg iter di) (ok : blkC N sc scope own = true) (hin : t.in (own.map (·.2)) = true)
    (hg : ∀ (s : Shared) (H : Hp) (C : Addr) (cl : List (Str × Addr)) (fp : List Addr), Good (X.blk s H scope (compEnvC scope cl C X.env) fp) W0 → PG (X.blk s H scope (compEnvC scope cl C X.env) fp) tg (t.v X.K))
    (ht : ∀ (s : Shared) (H : Hp) (C : Addr) (cl : List (Str × Addr)) (fp : List Addr), Good (X.blk s H scope (compEnvC scope cl C X.env) fp) W0 → DTs (X.blk s H scope (compEnvC scope cl C X.env) fp) ifs tt)
    (he : ∀ (s : Shared) (H : Hp) (C : Addr) (cl : List (Str × Addr)) (fp : List Addr), Good (X.blk s H scope (compEnvC scope cl C X.env) fp) W0 → DE (X.blk s H scope (compEnvC scope cl C X.env) fp) W0 elt te)
    (hsw : swapsWith (.ListComp elt [⟨tg, iter, ifs, 0⟩] scope pos) (some (.Name y py)) spos.line X.env = pure true) (hy : X.N[i]? = some y := by rfl) (hyl : X.env.scope.names.lookup y = some .local := by rfl) (hs : ∀ x, foldedSetIterable iter X.env x = pure x := by intro _; rfl) (eN : X.N = N := by rfl) (es : X.env.scope = sc := by rfl) :
    DSt X W (.Assign [.Name y py] (.ListComp elt [⟨tg, iter, ifs, 0⟩] scope pos) spos) (dAsg (dLcM di t tt te (own.map (·.2))) (gdName i)) := by
  refine ps_imp (ps_setLc (i := i) (own := own) (g := t.v X.K) (tt := lT X.K W0 tt) (te := lE X.K W0 te) g.calm hN hy hyl hsw hi (by rw [eN, es]; exact blkOk_by ok) (fun s H C cl fp => hg s H C cl fp (good_blk g ..)) (fun s H C cl fp => ht s H C cl fp (good_blk g ..)) (fun s H C cl fp => he s H C cl fp (good_blk g ..)) hs) fun Dn σ H h => ?_
  obtain ⟨I, M, F, δ, Dd, hr, rs, q, f⟩ := h
  refine ⟨I, M, F, δ, _, _, hr, rs, q, fun xs src M1 I1 H1 J q1 ho s1 hr1 wk D hD => ?_, f.x rs⟩
  refine lc_lift hin q1.1 hr1 (rs.mono s1) wk q1.2 (Qd := fun p H' => Dn.nx (σ.set i (some (.ref p))) H') (fun p I' M' H' aV a hF s' hr' ra q' => ?_) D hD
  exact f.nx _ _ _ H' _ (q' p hr'.atF.2.2) (s1.trans s') (hr'.mutF hF (m := .lst a) ⟨aV, rfl, ra⟩) ((rs.mono (s1.trans s')).set i (.ref p))
end

/-! ## iterables -/
def asL (M : Mp) (d : D) (k : List D → Src → Prop) : Prop := match d with
  | .lst xs => k xs .data
  | .sq xs => k xs .data
  | .ref a => ∃ xs, M a = some (.lst xs) ∧ k xs (.at a xs)
  | _ => False
def iL (te : DTE) : DTI := fun δ M R E => te δ M (fun d M1 => asL M1 d fun xs src => R xs src M1) E
def iT (te : DTE) : DTI := fun δ M R E => te δ M (fun d M1 => match d with | .tup xs => R xs .data M1 | _ => False) E
section
variable {X : Cx} {W : WX} {tg e : Expr} {te : DTE} {ta : DTA} {pos p : Pos}
theorem Reps.get {K : PySem.W.Frag} {I : Hp} {vs : List V} {ds : List D} (r : Reps K I vs ds) {i : Nat} {v : V} (h : vs[i]? = some v) : ∃ d, ds[i]? = some d ∧ Rep K I v d := by
  have hl : i < ds.length := by rw [← r.len]; exact (List.getElem?_eq_some_iff.mp h).1
  obtain ⟨v', a, b⟩ := reps_get r i ds[i] (List.getElem?_eq_getElem hl)
  rw [h] at a
  cases a
  exact ⟨_, List.getElem?_eq_getElem hl, b⟩
theorem dwalk_list {K : PySem.W.Frag} {I : Hp} {a : Addr} {vs : List V} {ds : List D} {src : Src} (r : Reps K I vs ds) (h : ∀ I' M' F H, Same I I' → HR K I' M' F H → src.holds M' → ∃ vs', SqL K H a vs' ∧ Reps K I' vs' ds) : DWalk K I (Itl K a) ds src := by
  refine ⟨fun i I' M' F H hi s hr ho => ?_, fun I' M' F H s hr ho => ?_, fun i x I' M' F H H' hi s hr ho y => ?_⟩
  · obtain ⟨vs', q, r'⟩ := h I' M' F H s hr ho
    have hi' : i < vs'.length := by rw [r'.len]; exact hi
    exact walk_list.goes i H hi' q
  · obtain ⟨vs', q, r'⟩ := h I' M' F H s hr ho
    rw [← r'.len]
    exact walk_list.stops H q
  · obtain ⟨vs', q, r'⟩ := h I' M' F H s hr ho
    have hi' : i < vs'.length := by rw [r'.len]; exact hi
    obtain ⟨e1, e2⟩ := walk_list.yields i H x H' hi' q y
    subst e1
    obtain ⟨d, e3, e4⟩ := r'.get e2
    exact ⟨I', d, Same.refl I', hr, e3, e4⟩
theorem i_list (h : DE X W e te) : DI X W tg e (iL te) := pi_imp (pi_list h) fun σ H R q => by
  obtain ⟨I, M, F, δ, Rd, Ed, hr, rs, q, fq, fx⟩ := q
  refine ⟨I, M, F, δ, _, Ed, hr, rs, q, fun d M1 I1 H1 v q1 s1 hr1 r1 => ?_, fx⟩
  cases r1 with
  | @lst a vs ds s rr => exact ⟨a, rfl, ⟨vs, SqL.of (hr1.imm _ _ s)⟩, fq ds .data M1 I1 H1 _ q1 trivial s1 hr1 (dwalk_list rr fun I' M' F' H' s' hr' _ => ⟨vs, SqL.of (hr'.imm _ _ (s' _ _ s)), rr.mono s'⟩)⟩
  | @sq a vs ds s rr => exact ⟨a, rfl, ⟨vs, hr1.sq s⟩, fq ds .data M1 I1 H1 _ q1 trivial s1 hr1 (dwalk_list rr fun I' M' F' H' s' hr' _ => ⟨vs, hr'.sq (sq_mono s' s), rr.mono s'⟩)⟩
  | ref a =>
    obtain ⟨ds, e1, q1⟩ := q1
    obtain ⟨vs, e2, rr⟩ := hr1.lst e1
    exact ⟨a, rfl, ⟨vs, SqL.of e2⟩, fq ds (.at a ds) M1 I1 H1 _ q1 e1 s1 hr1 (dwalk_list rr fun I' M' F' H' s' hr' ho => by
      obtain ⟨vs', e3, r3⟩ := hr'.lst ho
      exact ⟨vs', SqL.of e3, r3⟩)⟩
  | _ => exact q1.elim
theorem i_tup (h : DE X W e te) : DI X W tg e (iT te) := pi_imp (pi_tup h) fun σ H R q => by
  obtain ⟨I, M, F, δ, Rd, Ed, hr, rs, q, fq, fx⟩ := q
  refine ⟨I, M, F, δ, _, Ed, hr, rs, q, fun d M1 I1 H1 v q1 s1 hr1 r1 => ?_, fx⟩
  cases r1 with
  | @tup a vs ds s rr =>
    refine ⟨a, rfl, ⟨vs, hr1.st s⟩, fq ds .data M1 I1 H1 _ q1 trivial s1 hr1 ⟨fun i I' M' F H hi s' hr' ho => walk_tup.goes i H (by rw [rr.len]; exact hi) (hr'.st (st_mono s' s)), fun I' M' F H s' hr' ho => by rw [← rr.len]; exact walk_tup.stops H (hr'.st (st_mono s' s)), fun i x I' M' F H H' hi s' hr' ho y => ?_⟩⟩
    obtain ⟨e1, e2⟩ := walk_tup.yields i H x H' (by rw [rr.len]; exact hi) (hr'.st (st_mono s' s)) y
    subst e1
    obtain ⟨d, e3, e4⟩ := rr.get e2
    exact ⟨I', d, Same.refl I', hr', e3, e4.mono s'⟩
  | _ => exact q1.elim
def rngD (lo : Int) (n : Nat) : List D := (List.range n).map fun i => D.int (lo + (i : Nat))
theorem dwalk_range {K : PySem.W.Frag} {I : Hp} {lo : Int} {n : Nat} : DWalk K I (Itr lo n) (rngD lo n) .data := by
  have hl : (rngD lo n).length = n := by simp [rngD]
  refine ⟨fun i I' M' F H hi _ _ _ => walk_range.goes i H (hl ▸ hi) trivial, fun I' M' F H _ _ _ => by rw [hl]; exact walk_range.stops H trivial, fun i x I' M' F H H' hi s hr _ y => ?_⟩
  obtain ⟨e1, e2⟩ := walk_range.yields i H x H' (hl ▸ hi) trivial y
  subst e1
  subst e2
  refine ⟨I', .int (lo + (i : Nat)), Same.refl I', hr, ?_, .int _⟩
  rw [hl] at hi
  simp [rngD, hi]
def iR1 (ta : DTA) : DTI := fun δ M R E => ta δ M (fun ds M1 => match ds with
  | [.int j] => (-(2 ^ 62) ≤ j ∧ j < 2 ^ 62) ∧ R (rngD 0 j.toNat) .data M1
  | _ => False) E
def iR2 (ta : DTA) : DTI := fun δ M R E => ta δ M (fun ds M1 => match ds with
  | [.int i, .int j] => (-(2 ^ 62) ≤ i ∧ i < 2 ^ 62 ∧ -(2 ^ 62) ≤ j ∧ j < 2 ^ 62) ∧ R (rngD i (j - i).toNat) .data M1
  | _ => False) E
theorem i_range1 {a : Expr} (hm : X.mg "range" = none) (ha : DA X W [a] ta) (hg : Gl X "range" := by rfl) (hs : starEach [a] X.env = [(false, eval a X.env)] := by rfl) : DI X W tg (.Call (.Name "range" p) [a] [] pos) (iR1 ta) := pi_imp (pi_range1 hg hm ha hs) fun σ H R q => by
  obtain ⟨I, M, F, δ, Rd, Ed, hr, rs, q, fq, fx⟩ := q
  refine ⟨I, M, F, δ, _, Ed, hr, rs, q, fun ds M1 I1 H1 vs q1 s1 hr1 r1 => ?_, fx⟩
  dsimp only at q1
  split at q1
  · cases r1 with
    | cons r rr =>
      cases rr
      cases r
      exact ⟨_, rfl, q1.1.1, q1.1.2, fq _ .data M1 I1 H1 _ q1.2 trivial s1 hr1 dwalk_range⟩
  · exact q1.elim
theorem i_range2 {a b : Expr} (hm : X.mg "range" = none) (ha : DA X W [a, b] ta) (hg : Gl X "range" := by rfl) (hs : starEach [a, b] X.env = [(false, eval a X.env), (false, eval b X.env)] := by rfl) (hs2 : starEach [b] X.env = [(false, eval b X.env)] := by rfl) : DI X W tg (.Call (.Name "range" p) [a, b] [] pos) (iR2 ta) := pi_imp (pi_range2 hg hm ha hs hs2) fun σ H R q => by
  obtain ⟨I, M, F, δ, Rd, Ed, hr, rs, q, fq, fx⟩ := q
  refine ⟨I, M, F, δ, _, Ed, hr, rs, q, fun ds M1 I1 H1 vs q1 s1 hr1 r1 => ?_, fx⟩
  dsimp only at q1
  split at q1
  · cases r1 with
    | cons r rr =>
      cases rr with
      | cons r2 rr =>
        cases rr
        cases r
        cases r2
        exact ⟨_, _, rfl, q1.1, fq _ .data M1 I1 H1 _ q1.2 trivial s1 hr1 dwalk_range⟩
  · exact q1.elim
/-- a text, sign by sign -/
def sgn (z : Str) : List D := z.cps.toList.map fun c => D.str ⟨#[c]⟩
def iS (te : DTE) : DTI := fun δ M R E => te δ M (fun d M1 => match d with | .str z => R (sgn z) .data M1 | _ => False) E
theorem i_str (h : DE X W e te) : DI X W tg e (iS te) := pi_imp (pi_str h) fun σ H R q => by
  obtain ⟨I, M, F, δ, Rd, Ed, hr, rs, q, fq, fx⟩ := q
  refine ⟨I, M, F, δ, _, Ed, hr, rs, q, fun d M1 I1 H1 v q1 s1 hr1 r1 => ?_, fx⟩
  cases r1 with
  | str z =>
    have hl : (sgn z).length = z.cps.size := by simp [sgn]
    refine ⟨z, rfl, fq _ .data M1 I1 H1 _ q1 trivial s1 hr1 ⟨fun i I' M' F H hi _ _ _ => walk_str.goes i H (hl ▸ hi) trivial, fun I' M' F H _ _ _ => by rw [hl]; exact walk_str.stops H trivial, fun i x I' M' F H H' hi s hr _ y => ?_⟩⟩
    obtain ⟨e1, c, e2, e3⟩ := walk_str.yields i H x H' (hl ▸ hi) trivial y
    subst e1
    subst e3
    refine ⟨I', .str ⟨#[c]⟩, Same.refl I', hr, ?_, .str _⟩
    simp [sgn, e2]
  | _ => exact q1.elim
end
end DL

set_option Elab.async false
set_option linter.all false
set_option maxRecDepth 100000
set_option maxHeartbeats 2000000
namespace DL
open PySem PySem.Spec PyProof.Rows L2

/-! ## arithmetic -/
def i2 (x y : D) (k : Int → Int → Prop) : Prop := match x, y with | .int i, .int j => k i j | _, _ => False
theorem i2_out {K : PySem.W.Frag} {I : Hp} {v w : V} {x y : D} {k : Int → Int → Prop} (rx : Rep K I v x) (ry : Rep K I w y) (h : i2 x y k) : ∃ i j, v = .int i ∧ w = .int j ∧ k i j := by
  cases rx <;> first | exact h.elim | (cases ry <;> first | exact h.elim | exact ⟨_, _, rfl, rfl, h⟩)
def dI (C : Int → Int → Prop) (g : Int → Int → D) : DR2 := fun x y M Q => i2 x y fun i j => C i j ∧ Q (g i j) M
def dI0 (g : Int → Int → D) : DR2 := fun x y M Q => i2 x y fun i j => Q (g i j) M
theorem lr_I {K : PySem.W.Frag} {C : Int → Int → Prop} {g : Int → Int → V} {g' : Int → Int → D} (h : ∀ I i j, Rep K I (g i j) (g' i j)) : LR K (rI C g) (dI C g') := fun I M F H x y dx dy Qd Q hr rx ry q fq => by
  obtain ⟨i, j, e1, e2, c, q⟩ := i2_out rx ry q
  exact ⟨i, j, e1, e2, c, fq _ M I H _ q (Same.refl I) hr (h I i j)⟩
theorem lr_I0 {K : PySem.W.Frag} {g : Int → Int → V} {g' : Int → Int → D} (h : ∀ I i j, Rep K I (g i j) (g' i j)) : LR K (rI0 g) (dI0 g') := fun I M F H x y dx dy Qd Q hr rx ry q fq => by
  obtain ⟨i, j, e1, e2, q⟩ := i2_out rx ry q
  exact ⟨i, j, e1, e2, fq _ M I H _ q (Same.refl I) hr (h I i j)⟩
/-- a list that can be joined: its items -/
def asX (M : Mp) (d : D) (k : List D → Prop) : Prop := match d with
  | .lst xs => k xs
  | .ref a => ∃ xs, M a = some (.lst xs) ∧ k xs
  | _ => False
theorem asX_out {K : PySem.W.Frag} {I : Hp} {M : Mp} {F H : Hp} (hr : HR K I M F H) {v : V} {d : D} {k : List D → Prop} (r : Rep K I v d) (h : asX M d k) : ∃ a vs ds, v = .ref a ∧ H a = some (.lst vs) ∧ Reps K I vs ds ∧ k ds := by
  cases r with
  | lst s rr => exact ⟨_, _, _, rfl, hr.imm _ _ s, rr, h⟩
  | ref a =>
    obtain ⟨xs, e, q⟩ := h
    obtain ⟨vs, e1, r1⟩ := hr.lst e
    exact ⟨_, _, _, rfl, e1, r1, q⟩
  | _ => exact h.elim
/-- any list: read -/
def asR (M : Mp) (d : D) (k : List D → Prop) : Prop := match d with
  | .lst xs => k xs
  | .sq xs => k xs
  | .ref a => ∃ xs, M a = some (.lst xs) ∧ k xs
  | _ => False
theorem asR_out {K : PySem.W.Frag} {I : Hp} {M : Mp} {F H : Hp} (hr : HR K I M F H) {v : V} {d : D} {k : List D → Prop} (r : Rep K I v d) (h : asR M d k) : ∃ a vs ds, v = .ref a ∧ SqL K H a vs ∧ Reps K I vs ds ∧ k ds := by
  cases r with
  | lst s rr => exact ⟨_, _, _, rfl, SqL.of (hr.imm _ _ s), rr, h⟩
  | sq s rr => exact ⟨_, _, _, rfl, hr.sq s, rr, h⟩
  | ref a =>
    obtain ⟨xs, e, q⟩ := h
    obtain ⟨vs, e1, r1⟩ := hr.lst e
    exact ⟨_, _, _, rfl, SqL.of e1, r1, q⟩
  | _ => exact h.elim
theorem Reps.app {K : PySem.W.Frag} {I : Hp} : ∀ {vs ws : List V} {ds es : List D}, Reps K I vs ds → Reps K I ws es → Reps K I (vs ++ ws) (ds ++ es)
  | _, _, _, _, .nil, s => s
  | _, _, _, _, .cons r t, s => .cons r (Reps.app t s)
def dAdd : DR2 := fun x y M Q => match x, y with
  | .int i, .int j => Q (.int (i + j)) M
  | .str a, .str b => a.length + b.length ≤ sizeLine ∧ Q (.str (a ++ b)) M
  | x, y => asX M x fun xs => asX M y fun ys => xs.length + ys.length ≤ sizeLine ∧ Q (.lst (xs ++ ys)) M
abbrev rAdd4 (K : PySem.W.Frag) : R2 := fun x y H Q => (rI0 fun i j => .int (i + j)) x y H Q ∨ ((∃ i j, x = .str i ∧ y = .str j ∧ i.length + j.length ≤ sizeLine ∧ Q (.str (i ++ j)) H) ∨ rCat x y H Q)
theorem op_add4 {X : Cx} : OpR X (binaryOp .Add) (rAdd4 X.K) := op_add.or (op_add_str.or op_cat)
theorem lr_add {K : PySem.W.Frag} : LR K (rAdd4 K) dAdd := fun I M F H x y dx dy Qd Q hr rx ry q fq => by
  unfold dAdd at q
  split at q
  · cases rx; cases ry
    exact .inl ⟨_, _, rfl, rfl, fq _ M I H _ q (Same.refl I) hr (.int _)⟩
  · cases rx; cases ry
    exact .inr (.inl ⟨_, _, rfl, rfl, q.1, fq _ M I H _ q.2 (Same.refl I) hr (.str _)⟩)
  · obtain ⟨a, vs, ds, e1, h1, r1, q⟩ := asX_out hr rx q
    obtain ⟨b, ws, es, e2, h2, r2, q⟩ := asX_out hr ry q
    refine .inr (.inr ⟨a, b, vs, ws, e1, e2, h1, h2, by rw [r1.len, r2.len]; exact q.1, ?_⟩)
    exact fin_lst fq hr (r1.app r2) q.2
def dSub : DR2 := dI0 fun i j => .int (i - j)
def dMul : DR2 := dI CMulW fun i j => .int (i * j)
def dDiv : DR2 := dI CDivW fun i j => .int (i / j)
def dMod : DR2 := dI (fun _ j => 0 < j) fun i j => .int (i % j)
def dPow : DR2 := dI CPow fun i j => .int (i ^ j.toNat)
section
variable {X : Cx} {W : WX} {e a b c : Expr} {es : List Expr} {ta tb te tc : DTE} {tr : DTA} {pos p : Pos}
theorem d_add (ha : DE X W a ta) (hb : DE X W b tb) : DE X W (.BinOp a .Add b pos) (dOp dAdd ta tb) := d_op op_add4 lr_add ha hb
theorem d_sub (ha : DE X W a ta) (hb : DE X W b tb) : DE X W (.BinOp a .Sub b pos) (dOp dSub ta tb) := d_op op_sub (lr_I0 fun _ _ _ => .int _) ha hb
theorem d_mul (ha : DE X W a ta) (hb : DE X W b tb) : DE X W (.BinOp a .Mult b pos) (dOp dMul ta tb) := d_op op_mulW (lr_I fun _ _ _ => .int _) ha hb
theorem d_div (ha : DE X W a ta) (hb : DE X W b tb) : DE X W (.BinOp a .FloorDiv b pos) (dOp dDiv ta tb) := d_op op_fdivW (lr_I fun _ _ _ => .int _) ha hb
theorem d_mod (ha : DE X W a ta) (hb : DE X W b tb) : DE X W (.BinOp a .Mod b pos) (dOp dMod ta tb) := d_op op_mod (lr_I fun _ _ _ => .int _) ha hb
theorem d_pow (ha : DE X W a ta) (hb : DE X W b tb) : DE X W (.BinOp a .Pow b pos) (dOp dPow ta tb) := d_op op_pow (lr_I fun _ _ _ => .int _) ha hb
def dNeg (ta : DTE) : DTE := fun δ M Q E => ta δ M (fun x M1 => match x with | .int i => Q (.int (-i)) M1 | _ => False) E
theorem d_neg (ha : DE X W a ta) : DE X W (.UnaryOp .USub a pos) (dNeg ta) := pe_imp (pe_un un_neg ha) fun σ H Q h => by
  obtain ⟨I, M, F, δ, Qd, Ed, hr, rs, q, fq, fx⟩ := h
  refine ⟨I, M, F, δ, _, Ed, hr, rs, q, fun d M1 I1 H1 v q1 s1 hr1 r1 => ?_, fx⟩
  cases r1 with
  | int i => exact ⟨i, rfl, fq _ M1 I1 H1 _ q1 s1 hr1 (.int _)⟩
  | _ => exact q1.elim
/-! ## comparisons -/
def dLt : DR2 := dI0 fun i j => .bl (decide (i < j))
def dLe : DR2 := dI0 fun i j => .bl (decide (i ≤ j))
def dGt : DR2 := dI0 fun i j => .bl (decide (j < i))
def dGe : DR2 := dI0 fun i j => .bl (decide (j ≤ i))
theorem lr_lt {K : PySem.W.Frag} : LR K (rI0 fun i j => .bl (decide (i < j))) dLt := lr_I0 fun _ _ _ => .bl _
theorem lr_le {K : PySem.W.Frag} : LR K (rI0 fun i j => .bl (decide (i ≤ j))) dLe := lr_I0 fun _ _ _ => .bl _
theorem lr_gt {K : PySem.W.Frag} : LR K (rI0 fun i j => .bl (decide (j < i))) dGt := lr_I0 fun _ _ _ => .bl _
theorem lr_ge {K : PySem.W.Frag} : LR K (rI0 fun i j => .bl (decide (j ≤ i))) dGe := lr_I0 fun _ _ _ => .bl _
/-- data by the heap -/
inductive PyOf (M : Mp) : D → PyData → Prop
  | non : PyOf M .non .none
  | bl (b : Bool) : PyOf M (.bl b) (.bool b)
  | int (i : Int) : PyOf M (.int i) (.int i)
  | str (x : Str) : PyOf M (.str x) (.str x)
  | lst {ds : List D} {ps : List PyData} : Paired (PyOf M) ds ps → PyOf M (.lst ds) (.list ps)
  | sq {ds : List D} {ps : List PyData} : Paired (PyOf M) ds ps → PyOf M (.sq ds) (.list ps)
  | tup {ds : List D} {ps : List PyData} : Paired (PyOf M) ds ps → PyOf M (.tup ds) (.tuple ps)
  | ref {a : Addr} {ds : List D} {ps : List PyData} : M a = some (.lst ds) → Paired (PyOf M) ds ps → PyOf M (.ref a) (.list ps)
theorem dp_of {K : PySem.W.Frag} {I : Hp} {M : Mp} {F H : Hp} (hr : HR K I M F H) : ∀ (p : PyData) {v : V} {d : D}, Rep K I v d → PyOf M d p → Dp K H v p := by
  intro p
  refine PyData.rec (motive_1 := fun p => ∀ {v : V} {d : D}, Rep K I v d → PyOf M d p → Dp K H v p) (motive_2 := fun ps => ∀ {vs : List V} {ds : List D}, Reps K I vs ds → Paired (PyOf M) ds ps → DpAll K H vs ps) (motive_3 := fun _ => True) (motive_4 := fun _ => True) ?_ ?_ ?_ ?_ ?_ ?_ ?_ ?_ ?_ ?_ ?_ ?_ p
  · intro v d r h; cases h; cases r; exact .non
  · intro b v d r h; cases h; cases r; exact .bl b
  · intro i v d r h; cases h; cases r; exact .int i
  · intro x v d r h; cases h; cases r; exact .str x
  · intro ps ih v d r h
    cases h with
    | lst z => cases r with | lst s rr => exact .lst (SqL.of (hr.imm _ _ s)) (ih rr z)
    | sq z => cases r with | sq s rr => exact .lst (hr.sq s) (ih rr z)
    | ref e z =>
      cases r
      obtain ⟨vs, e1, rr⟩ := hr.lst e
      exact .lst (SqL.of e1) (ih rr z)
  · intro ps ih v d r h
    cases h with
    | tup z => cases r with | tup s rr => exact .tup (hr.st s) (ih rr z)
  · intro kvs _ v d r h; cases h
  · intro vs ds r z; cases z; cases r; exact .nil
  · intro p ps ih1 ih2 vs ds r z
    cases z with
    | cons a b => cases r with | cons r1 r2 => exact .cons (ih1 r1 a) (ih2 r2 b)
  all_goals intros; trivial
def deq (M : Mp) (x y : D) (k : Bool → Prop) : Prop := match x, y with
  | .int i, .int j => k (decide (i = j))
  | .str i, .str j => k (decide (i = j))
  | .bl i, .bl j => k (decide (i = j))
  | .non, .non => k true
  | x, y => ∃ p q, PyOf M x p ∧ PyOf M y q ∧ SeqAt.shaped p = true ∧ SeqAt.shaped q = true ∧ k (PyData.eqv p q)
def dEq : DR2 := fun x y M Q => deq M x y fun b => Q (.bl b) M
def dNe : DR2 := fun x y M Q => deq M x y fun b => Q (.bl (!b)) M
theorem deq_out {K : PySem.W.Frag} {I : Hp} {M : Mp} {F H : Hp} (hr : HR K I M F H) {v w : V} {x y : D} {k : Bool → Prop} (rx : Rep K I v x) (ry : Rep K I w y) (h : deq M x y k) : (scal v w = true ∧ k (decide (v = w))) ∨ ∃ d e, Dp K H v d ∧ Dp K H w e ∧ SeqAt.shaped d = true ∧ SeqAt.shaped e = true ∧ k (PyData.eqv d e) := by
  unfold deq at h
  split at h
  · cases rx; cases ry; exact .inl ⟨rfl, by rw [dec_int]; rw [← Bool.beq_eq_decide_eq] at h; exact h⟩
  · cases rx; cases ry; exact .inl ⟨rfl, by rw [dec_str]; rw [← Bool.beq_eq_decide_eq] at h; exact h⟩
  · cases rx; cases ry; exact .inl ⟨rfl, by rw [dec_bl]; rw [← Bool.beq_eq_decide_eq] at h; exact h⟩
  · cases rx; cases ry; exact .inl ⟨rfl, by rw [decide_eq_true rfl]; exact h⟩
  · obtain ⟨p, q, h1, h2, h3, h4, h5⟩ := h
    exact .inr ⟨p, q, dp_of hr p rx h1, dp_of hr q ry h2, h3, h4, h5⟩
abbrev rEq2 (K : PySem.W.Frag) : R2 := fun x y H Q => rEq x y H Q ∨ rEqD K x y H Q
abbrev rNe2 (K : PySem.W.Frag) : R2 := fun x y H Q => rNe x y H Q ∨ rNeD K x y H Q
theorem op_eq2 {k : Nat} (rm : Room k X.A) : OpR X (compareOp .Eq) (rEq2 X.K) := op_eq.or (op_eqD rm.units)
theorem op_ne2 {k : Nat} (rm : Room k X.A) : OpR X (compareOp .NotEq) (rNe2 X.K) := op_ne.or (op_neD rm.units)
theorem lr_eq {K : PySem.W.Frag} : LR K (rEq2 K) dEq := fun I M F H x y dx dy Qd Q hr rx ry q fq => by
  rcases deq_out hr rx ry q with ⟨h1, h2⟩ | ⟨d, e, h1, h2, h3, h4, h5⟩
  · exact .inl ⟨h1, fq _ M I H _ h2 (Same.refl I) hr (.bl _)⟩
  · exact .inr ⟨d, e, h1, h2, h3, h4, fq _ M I H _ h5 (Same.refl I) hr (.bl _)⟩
theorem lr_ne {K : PySem.W.Frag} : LR K (rNe2 K) dNe := fun I M F H x y dx dy Qd Q hr rx ry q fq => by
  rcases deq_out hr rx ry q with ⟨h1, h2⟩ | ⟨d, e, h1, h2, h3, h4, h5⟩
  · exact .inl ⟨h1, fq _ M I H _ h2 (Same.refl I) hr (.bl _)⟩
  · exact .inr ⟨d, e, h1, h2, h3, h4, fq _ M I H _ h5 (Same.refl I) hr (.bl _)⟩
/-- one sign in a text -/
def dInS : DR2 := fun x y M Q => match x, y with | .str u, .str z => ∃ c, u = ⟨#[c]⟩ ∧ Q (.bl (decide (c ∈ z.cps.toList))) M | _, _ => False
def dNotInS : DR2 := fun x y M Q => match x, y with | .str u, .str z => ∃ c, u = ⟨#[c]⟩ ∧ Q (.bl (!decide (c ∈ z.cps.toList))) M | _, _ => False
theorem lr_inS {K : PySem.W.Frag} : LR K (fun x y H Q => ∃ (c : Nat) (z : Str), x = .str ⟨#[c]⟩ ∧ y = .str z ∧ Q (.bl (decide (c ∈ z.cps.toList))) H) dInS := fun I M F H x y dx dy Qd Q hr rx ry q fq => by
  unfold dInS at q
  split at q
  · cases rx; cases ry
    obtain ⟨c, e, q⟩ := q
    exact ⟨c, _, by rw [e], rfl, fq _ M I H _ q (Same.refl I) hr (.bl _)⟩
  · exact q.elim
theorem lr_notInS {K : PySem.W.Frag} : LR K (fun x y H Q => ∃ (c : Nat) (z : Str), x = .str ⟨#[c]⟩ ∧ y = .str z ∧ Q (.bl (!decide (c ∈ z.cps.toList))) H) dNotInS := fun I M F H x y dx dy Qd Q hr rx ry q fq => by
  unfold dNotInS at q
  split at q
  · cases rx; cases ry
    obtain ⟨c, e, q⟩ := q
    exact ⟨c, _, by rw [e], rfl, fq _ M I H _ q (Same.refl I) hr (.bl _)⟩
  · exact q.elim
/-! ## subscripts -/
def dIx : DR2 := fun x y M Q => match y with
  | .int i => match x with
    | .lst xs => ∃ d, atI xs i = some d ∧ Q d M
    | .sq xs => ∃ d, atI xs i = some d ∧ Q d M
    | .tup xs => ∃ d, atI xs i = some d ∧ Q d M
    | .str z => z.length ≤ sizeLine ∧ ∃ c, atI z.cps.toList i = some c ∧ Q (.str ⟨#[c]⟩) M
    | .ref a => ∃ xs, M a = some (.lst xs) ∧ ∃ d, atI xs i = some d ∧ Q d M
    | _ => False
  | _ => False
theorem atI_reps {K : PySem.W.Frag} {I : Hp} {vs : List V} {ds : List D} (r : Reps K I vs ds) {i : Int} {d : D} (h : atI ds i = some d) : ∃ v, atI vs i = some v ∧ Rep K I v d := by
  unfold atI at h ⊢
  rw [r.len]
  cases e : ixN ds.length i with
  | none => rw [e] at h; cases h
  | some j =>
    rw [e] at h
    exact reps_get r j d h
theorem lr_ix {K : PySem.W.Frag} : LR K (rIx K) dIx := fun I M F H x y dx dy Qd Q hr rx ry q fq => by
  unfold dIx at q
  split at q
  · cases ry
    split at q
    · obtain ⟨d, e, q⟩ := q
      cases rx with
      | lst s rr => obtain ⟨v, e1, r1⟩ := atI_reps rr e; exact .inl ⟨_, _, _, v, rfl, rfl, SqL.of (hr.imm _ _ s), e1, fq _ M I H _ q (Same.refl I) hr r1⟩
    · obtain ⟨d, e, q⟩ := q
      cases rx with
      | sq s rr => obtain ⟨v, e1, r1⟩ := atI_reps rr e; exact .inl ⟨_, _, _, v, rfl, rfl, hr.sq s, e1, fq _ M I H _ q (Same.refl I) hr r1⟩
    · obtain ⟨d, e, q⟩ := q
      cases rx with
      | tup s rr => obtain ⟨v, e1, r1⟩ := atI_reps rr e; exact .inr (.inl ⟨_, _, _, v, rfl, rfl, hr.st s, e1, fq _ M I H _ q (Same.refl I) hr r1⟩)
    · obtain ⟨z, c, e, q⟩ := q
      cases rx
      exact .inr (.inr ⟨_, _, c, rfl, rfl, z, e, fq _ M I H _ q (Same.refl I) hr (.str _)⟩)
    · obtain ⟨xs, e0, d, e, q⟩ := q
      cases rx
      obtain ⟨vs, e1, rr⟩ := hr.lst e0
      obtain ⟨v, e2, r1⟩ := atI_reps rr e
      exact .inl ⟨_, _, _, v, rfl, rfl, SqL.of e1, e2, fq _ M I H _ q (Same.refl I) hr r1⟩
    · exact q.elim
  · exact q.elim
theorem d_sub_ix (ha : DE X W a ta) (hb : DE X W b tb) (hs : PlainIx b := by intro _ _; rfl) : DE X W (.Subscript a b pos) (dOp dIx ta tb) := d_ix ix_seq lr_ix ha hb hs
/-- slices -/
abbrev DTO := DS → Mp → (Option Int → Mp → Prop) → DXK → Prop
def lO (K : PySem.W.Frag) (W : WX) (t : DTO) : TO := fun σ H Q => ∃ I M F δ Qd Ed, HR K I M F H ∧ RepS K I σ δ ∧ t δ M Qd Ed ∧ (∀ o M' I' H', Qd o M' → Same I I' → HR K I' M' F H' → Q o H') ∧ FinX K I F Ed (WE W σ)
def DO (X : Cx) (W : WX) (e : Option Expr) (t : DTO) : Prop := PO X e (lO X.K W t)
def oNone : DTO := fun _ M Q _ => Q none M
def oSome (te : DTE) : DTO := fun δ M Q E => te δ M (fun d M1 => match d with | .int i => Q (some i) M1 | _ => False) E
theorem o_none : DO X W none oNone := ⟨fun pins s σ H Q I h => po_none.run pins s σ H Q I (by
  obtain ⟨I, M, F, δ, Qd, Ed, hr, rs, q, fq, fx⟩ := h
  exact fq none M I H q (Same.refl I) hr)⟩
theorem o_some (h : DE X W e te) : DO X W (some e) (oSome te) := ⟨fun pins s σ H Q I q => (po_some h).run pins s σ H Q I (by
  obtain ⟨I, M, F, δ, Qd, Ed, hr, rs, q, fq, fx⟩ := q
  refine ⟨I, M, F, δ, _, Ed, hr, rs, q, fun d M1 I1 H1 v q1 s1 hr1 r1 => ?_, fx⟩
  cases r1 with
  | int i => exact ⟨i, rfl, fq _ M1 I1 H1 q1 s1 hr1⟩
  | _ => exact q1.elim)⟩
def cutD (xs : List D) (lo hi : Option Int) : List D := (xs.drop (HT.sIx xs.length 0 lo)).take (HT.sIx xs.length xs.length hi - HT.sIx xs.length 0 lo)
theorem Reps.drop {K : PySem.W.Frag} {I : Hp} : ∀ {vs : List V} {ds : List D} (n : Nat), Reps K I vs ds → Reps K I (vs.drop n) (ds.drop n)
  | _, _, 0, r => r
  | _, _, _ + 1, .nil => .nil
  | _, _, n + 1, .cons _ t => Reps.drop n t
theorem Reps.take {K : PySem.W.Frag} {I : Hp} : ∀ {vs : List V} {ds : List D} (n : Nat), Reps K I vs ds → Reps K I (vs.take n) (ds.take n)
  | _, _, 0, _ => .nil
  | _, _, _ + 1, .nil => .nil
  | _, _, n + 1, .cons r t => .cons r (Reps.take n t)
theorem Reps.rev {K : PySem.W.Frag} {I : Hp} : ∀ {vs : List V} {ds : List D}, Reps K I vs ds → Reps K I vs.reverse ds.reverse
  | _, _, .nil => .nil
  | _, _, .cons r t => by
    rw [List.reverse_cons, List.reverse_cons]
    exact (Reps.rev t).app (.cons r .nil)
theorem Reps.cut {K : PySem.W.Frag} {I : Hp} {vs : List V} {ds : List D} (r : Reps K I vs ds) (lo hi : Option Int) : Reps K I (cutV vs lo hi) (cutD ds lo hi) := by
  unfold cutV cutD
  rw [r.len]
  exact (r.drop _).take _
def dSl3 (x : D) (lo hi : Option Int) (M : Mp) (Q : DK) : Prop := match x with
  | .str z => z.length ≤ sizeLine ∧ Q (.str (cutS z lo hi)) M
  | x => asR M x fun xs => Q (.lst (cutD xs lo hi)) M
def dSl (te : DTE) (tl th : DTO) : DTE := fun δ M Q E => te δ M (fun x M1 => tl δ M1 (fun l M2 => th δ M2 (fun u M3 => dSl3 x l u M3 Q) E) E) E
theorem d_slice {lo hi : Option Expr} {tl th : DTO} {p2 : Pos} (he : DE X W e te) (hl : DO X W lo tl) (hu : DO X W hi th) : DE X W (.Subscript e (.Slice lo hi none p2) pos) (dSl te tl th) := pe_imp (pe_slice (sl_list.or sl_str) he hl hu) fun σ H Q h => by
  obtain ⟨I, M, F, δ, Qd, Ed, hr, rs, q, fq, fx⟩ := h
  refine ⟨I, M, F, δ, _, Ed, hr, rs, q, fun x M1 I1 H1 v q1 s1 hr1 r1 => ?_, fx⟩
  refine ⟨I1, M1, F, δ, _, Ed, hr1, rs.mono s1, q1, fun l M2 I2 H2 q2 s2 hr2 => ?_, fx.mono s1⟩
  refine ⟨I2, M2, F, δ, _, Ed, hr2, (rs.mono s1).mono s2, q2, fun u M3 I3 H3 q3 s3 hr3 => ?_, (fx.mono s1).mono s2⟩
  have r3 := (r1.mono s2).mono s3
  have f3 := fq.mono ((s1.trans s2).trans s3)
  unfold dSl3 at q3
  split at q3
  · cases r3
    exact .inr ⟨_, rfl, q3.1, f3 _ M3 I3 H3 _ q3.2 (Same.refl _) hr3 (.str _)⟩
  · obtain ⟨a, vs, ds, e1, sq, rr, q⟩ := asR_out hr3 r3 q3
    exact .inl ⟨a, vs, e1, sq, fin_lst f3 hr3 (rr.cut l u) q⟩
def dRev (te : DTE) : DTE := fun δ M Q E => te δ M (fun x M1 => asR M1 x fun xs => Q (.lst xs.reverse) M1) E
theorem d_rev {k : Nat} {p1 p2 p3 : Pos} (he : DE X W e te) : DE X W (.Subscript e (.Slice none none (some (.UnaryOp .USub (.Constant (.int 1) k p1) p2)) p3) pos) (dRev te) := pe_imp (pe_revL he) fun σ H Q h => by
  obtain ⟨I, M, F, δ, Qd, Ed, hr, rs, q, fq, fx⟩ := h
  refine ⟨I, M, F, δ, _, Ed, hr, rs, q, fun x M1 I1 H1 v q1 s1 hr1 r1 => ?_, fx⟩
  obtain ⟨a, vs, ds, e1, sq, rr, q⟩ := asR_out hr1 r1 q1
  exact ⟨a, vs, e1, sq, fin_lst (fq.mono s1) hr1 rr.rev q⟩
/-! ## stores into a list -/
def gdSubL (to ti : DTE) : DTG := fun d δ M Q E => to δ M (fun o M1 => ti δ M1 (fun i M2 => match o, i with
  | .ref a, .int i => ∃ xs, M2 a = some (.lst xs) ∧ ∃ j, ixN xs.length i = some j ∧ Q δ (updM M2 a (.lst (xs.set j d)))
  | _, _ => False) E) E
theorem Reps.setN {K : PySem.W.Frag} {I : Hp} {v : V} {d : D} (r : Rep K I v d) : ∀ {vs : List V} {ds : List D} (j : Nat), Reps K I vs ds → Reps K I (vs.set j v) (ds.set j d)
  | _, _, _, .nil => .nil
  | _, _, 0, .cons _ t => .cons r t
  | _, _, j + 1, .cons q t => .cons q (Reps.setN r j t)
theorem g_subL {o i : Expr} {to ti : DTE} (ho : DE X W o to) (hi : DE X W i ti)
    (hq : ∀ z, assign (.Subscript o i pos) X.env z = (do let x1 ← holding [z] (eval o X.env); let x2 ← holding [z, x1] (eval i X.env); standAt pos; holding [z, x1, x2] (setItem x1 x2 z); release [z, x1, x2] []) := by intro _; rfl) : DG X W (.Subscript o i pos) (gdSubL to ti) := pg_imp (pg_sub ho hi set_list hq) fun v σ H Q h => by
  obtain ⟨I, M, F, δ, d, Qd, Ed, hr, rs, r, q, fq, fx⟩ := h
  refine ⟨I, M, F, δ, _, Ed, hr, rs, q, fun o M1 I1 H1 vo q1 s1 hr1 r1 => ?_, fx⟩
  refine ⟨I1, M1, F, δ, _, Ed, hr1, rs.mono s1, q1, fun i M2 I2 H2 vi q2 s2 hr2 r2 => ?_, fx.mono s1⟩
  dsimp only at q2
  split at q2
  · cases r1; cases r2
    obtain ⟨xs, e1, j, e2, q⟩ := q2
    obtain ⟨vs, e3, rr⟩ := hr2.lst e1
    refine ⟨_, vs, _, j, rfl, rfl, e3, by rw [rr.len]; exact e2, ?_⟩
    have r' := (r.mono s1).mono s2
    exact fq _ _ I2 _ _ q (s1.trans s2) (hr2.write e1 (fun _ _ z => nomatch z) (o := .lst (vs.set j v)) (m := .lst (xs.set j d)) ⟨_, rfl, rr.setN r' j⟩) ((rs.mono s1).mono s2)
  · exact q2.elim
end
end DL

set_option Elab.async false
set_option linter.all false
set_option maxRecDepth 100000
set_option maxHeartbeats 2000000
namespace DL
open PySem PySem.Spec PyProof.Rows L2

/-! ## built-ins by their names -/
abbrev DRC := List D → Mp → DK → Prop
def LC (K : PySem.W.Frag) (r' : List V → Hp → VK → Prop) (r : DRC) : Prop := ∀ I M F H vs ds Qd Q, HR K I M F H → Reps K I vs ds → r ds M Qd → Fin K I F Qd Q → r' vs H Q
def dCB (r : DRC) (ta : DTA) : DTE := fun δ M Q E => ta δ M (fun ds M1 => r ds M1 Q) E
theorem CallR.or {X : Cx} {f : Value} {r r' : List V → Hp → VK → Prop} (h : CallR X f r) (h' : CallR X f r') : CallR X f (fun xs H Q => r xs H Q ∨ r' xs H Q) := by
  intro pins s σ H xs us Q I rv z
  rcases z with z | z
  · exact h pins s σ H xs us Q I rv z
  · exact h' pins s σ H xs us Q I rv z
section
variable {X : Cx} {W : WX} {e a b c : Expr} {es : List Expr} {ta tb te tc : DTE} {tr : DTA} {pos p : Pos} {x : Str} {bid T : String} {r : DRC} {r' : List V → Hp → VK → Prop}
theorem cb_lift {K : PySem.W.Frag} (hl : LC K r' r) : ∀ σ H Q, lE K W (dCB r tr) σ H Q → tCB r' (lA K W tr) σ H Q := by
  intro σ H Q h
  obtain ⟨I, M, F, δ, Qd, Ed, hr, rs, q, fq, fx⟩ := h
  exact ⟨I, M, F, δ, _, Ed, hr, rs, q, fun ds M1 I1 H1 vs q1 s1 hr1 r1 => hl I1 M1 F H1 vs ds Qd Q hr1 r1 q1 (fq.mono s1), fx⟩
theorem d_callB (hc : CallR X (.builtin bid) r') (hl : LC X.K r' r) (hm : X.mg x = none) (hv : bootBuiltins x = some (.builtin bid)) (ha : DA X W (e :: es) tr) (hg : Gl X x := by rfl) (hn : x ≠ "__name__" := by decide) (hdb : (x == ("__debug__" : Str)) = false := by decide)
    (he : starEach (e :: es) X.env = (false, eval e X.env) :: starEach es X.env := by rfl) (hpl : (backTo pos (starEach es X.env)).any (·.1) = false := by rfl) : DE X W (.Call (.Name x p) (e :: es) [] pos) (dCB r tr) :=
  pe_imp (pe_callB hc hg hm hv ha hn hdb he hpl) (cb_lift hl)
theorem d_callTy (hc : CallR X (.type T) r') (hl : LC X.K r' r) (hm : X.mg x = none) (hv : bootBuiltins x = some (.type T)) (ha : DA X W (e :: es) tr) (hg : Gl X x := by rfl) (hn : x ≠ "__name__" := by decide) (hdb : (x == ("__debug__" : Str)) = false := by decide)
    (he : starEach (e :: es) X.env = (false, eval e X.env) :: starEach es X.env := by rfl) (hpl : (backTo pos (starEach es X.env)).any (·.1) = false := by rfl) : DE X W (.Call (.Name x p) (e :: es) [] pos) (dCB r tr) :=
  pe_imp (pe_callTy hc hg hm hv ha hn hdb he hpl) (cb_lift hl)
/-! len -/
def dLen1 (d : D) (M : Mp) (Q : DK) : Prop := match d with
  | .str z => z.length ≤ sizeLine ∧ Q (.int (z.length : Nat)) M
  | .lst xs => Q (.int (xs.length : Nat)) M
  | .sq xs => Q (.int (xs.length : Nat)) M
  | .tup xs => Q (.int (xs.length : Nat)) M
  | .dct xs => Q (.int (xs.length : Nat)) M
  | .ref a => ∃ m, M a = some m ∧ (match m with | .lst xs => Q (.int (xs.length : Nat)) M | .dct xs => Q (.int (xs.length : Nat)) M | _ => False)
  | _ => False
def one (ds : List D) (k : D → Prop) : Prop := match ds with | [d] => k d | _ => False
def two (ds : List D) (k : D → D → Prop) : Prop := match ds with | [d, e] => k d e | _ => False
theorem one_out {K : PySem.W.Frag} {I : Hp} {vs : List V} {ds : List D} {k : D → Prop} (r : Reps K I vs ds) (h : one ds k) : ∃ v d, vs = [v] ∧ Rep K I v d ∧ k d := by
  unfold one at h
  split at h
  · cases r with | cons a b => cases b; exact ⟨_, _, rfl, a, h⟩
  · exact h.elim
theorem two_out {K : PySem.W.Frag} {I : Hp} {vs : List V} {ds : List D} {k : D → D → Prop} (r : Reps K I vs ds) (h : two ds k) : ∃ v w d e, vs = [v, w] ∧ Rep K I v d ∧ Rep K I w e ∧ k d e := by
  unfold two at h
  split at h
  · cases r with | cons a b => cases b with | cons b c => cases c; exact ⟨_, _, _, _, rfl, a, b, h⟩
  · exact h.elim
def dLen : DRC := fun ds M Q => one ds fun d => dLen1 d M Q
theorem RepK.len {K : PySem.W.Frag} {I : Hp} : ∀ {vs : List (Key × V)} {ds : List (Key × D)}, RepK K I vs ds → vs.length = ds.length
  | _, _, .nil => rfl
  | _, _, .cons _ r => congrArg (· + 1) r.len
theorem lc_len {K : PySem.W.Frag} : LC K (fun xs H Q => (∃ x n, xs = [x] ∧ LenV K x H n ∧ Q (.int n) H) ∨ ∃ d kvs, xs = [.ref d] ∧ H d = some (.dK kvs) ∧ Q (.int kvs.length) H) dLen := fun I M F H vs ds Qd Q hr rs q fq => by
  obtain ⟨v, d, rfl, r, q⟩ := one_out rs q
  have fin : ∀ n : Nat, Qd (.int n) M → Q (.int n) H := fun n z => fq _ M I H _ z (Same.refl I) hr (.int _)
  cases r with
  | str z => exact .inl ⟨_, _, rfl, ⟨q.1, rfl⟩, fin _ q.2⟩
  | lst s rr => exact .inl ⟨_, _, rfl, .inl ⟨_, SqL.of (hr.imm _ _ s), rfl⟩, by rw [rr.len]; exact fin _ q⟩
  | sq s rr => exact .inl ⟨_, _, rfl, .inl ⟨_, hr.sq s, rfl⟩, by rw [rr.len]; exact fin _ q⟩
  | tup s rr => exact .inl ⟨_, _, rfl, .inr ⟨_, hr.st s, rfl⟩, by rw [rr.len]; exact fin _ q⟩
  | dct s rr => exact .inr ⟨_, _, rfl, hr.imm _ _ s, by rw [rr.len]; exact fin _ q⟩
  | ref a =>
    obtain ⟨m, e, q⟩ := q
    cases m with
    | lst xs => obtain ⟨vs, e1, rr⟩ := hr.lst e; exact .inl ⟨_, _, rfl, .inl ⟨_, SqL.of e1, rfl⟩, by rw [rr.len]; exact fin _ q⟩
    | dct xs => obtain ⟨vs, e1, rr⟩ := hr.dct e; exact .inr ⟨_, _, rfl, e1, by rw [rr.len]; exact fin _ q⟩
    | ins C fs => exact q.elim
    | exc C fs => exact q.elim
  | _ => exact q.elim
theorem d_len (hm : X.mg "len" = none) (ha : DA X W [e] tr) (he : starEach [e] X.env = (false, eval e X.env) :: starEach [] X.env := by rfl) (hg : Gl X "len" := by rfl) : DE X W (.Call (.Name "len" p) [e] [] pos) (dCB dLen tr) :=
  d_callB (CallR.or call_len call_lenD) lc_len hm PySem.boot_len ha hg (he := he)
/-! max, min, sum, all, any -/
def dMax : DRC := fun ds M Q => two ds fun x y => i2 x y fun i j => Q (.int (if j > i then j else i)) M
def dMin : DRC := fun ds M Q => two ds fun x y => i2 x y fun i j => Q (.int (if j < i then j else i)) M
theorem lc_max {K : PySem.W.Frag} : LC K (fun xs H Q => ∃ i j, xs = [.int i, .int j] ∧ Q (.int (if j > i then j else i)) H) dMax := fun I M F H vs ds Qd Q hr rs q fq => by
  obtain ⟨v, w, d, e, rfl, r1, r2, q⟩ := two_out rs q
  obtain ⟨i, j, rfl, rfl, q⟩ := i2_out r1 r2 q
  exact ⟨i, j, rfl, fq _ M I H _ q (Same.refl I) hr (.int _)⟩
theorem lc_min {K : PySem.W.Frag} : LC K (fun xs H Q => ∃ i j, xs = [.int i, .int j] ∧ Q (.int (if j < i then j else i)) H) dMin := fun I M F H vs ds Qd Q hr rs q fq => by
  obtain ⟨v, w, d, e, rfl, r1, r2, q⟩ := two_out rs q
  obtain ⟨i, j, rfl, rfl, q⟩ := i2_out r1 r2 q
  exact ⟨i, j, rfl, fq _ M I H _ q (Same.refl I) hr (.int _)⟩
theorem d_max (g : Good X W) (hm : X.mg "max" = none) (ha : DA X W [a, b] tr) (he : starEach [a, b] X.env = (false, eval a X.env) :: starEach [b] X.env := by rfl) (hpl : (backTo pos (starEach [b] X.env)).any (·.1) = false := by rfl) (hg : Gl X "max" := by rfl) : DE X W (.Call (.Name "max" p) [a, b] [] pos) (dCB dMax tr) :=
  d_callB (call_max2 g.calm) lc_max hm (by decide +kernel) ha hg (he := he) (hpl := hpl)
theorem d_min (g : Good X W) (hm : X.mg "min" = none) (ha : DA X W [a, b] tr) (he : starEach [a, b] X.env = (false, eval a X.env) :: starEach [b] X.env := by rfl) (hpl : (backTo pos (starEach [b] X.env)).any (·.1) = false := by rfl) (hg : Gl X "min" := by rfl) : DE X W (.Call (.Name "min" p) [a, b] [] pos) (dCB dMin tr) :=
  d_callB (call_min2 g.calm) lc_min hm (by decide +kernel) ha hg (he := he) (hpl := hpl)
theorem reps_ints {K : PySem.W.Frag} {I : Hp} : ∀ {ns : List Int} {vs : List V}, Reps K I vs (ns.map D.int) → vs = ns.map V.int
  | [], _, .nil => rfl
  | n :: ns, _, .cons r rr => by
    cases r
    rw [reps_ints rr]
    rfl
theorem reps_bls {K : PySem.W.Frag} {I : Hp} : ∀ {ns : List Bool} {vs : List V}, Reps K I vs (ns.map D.bl) → vs = ns.map V.bl
  | [], _, .nil => rfl
  | n :: ns, _, .cons r rr => by
    cases r
    rw [reps_bls rr]
    rfl
theorem reps_strs {K : PySem.W.Frag} {I : Hp} : ∀ {ns : List Str} {vs : List V}, Reps K I vs (ns.map D.str) → vs = ns.map V.str
  | [], _, .nil => rfl
  | n :: ns, _, .cons r rr => by
    cases r
    rw [reps_strs rr]
    rfl
def dSum : DRC := fun ds M Q => one ds fun d => asR M d fun xs => ∃ ns : List Int, xs = ns.map D.int ∧ Q (.int ns.sum) M
def dAll : DRC := fun ds M Q => one ds fun d => asR M d fun xs => ∃ ns : List Bool, xs = ns.map D.bl ∧ Q (.bl (ns.all id)) M
def dAny : DRC := fun ds M Q => one ds fun d => asR M d fun xs => ∃ ns : List Bool, xs = ns.map D.bl ∧ Q (.bl (ns.any id)) M
theorem lc_sum {K : PySem.W.Frag} : LC K (rSum K) dSum := fun I M F H vs ds Qd Q hr rs q fq => by
  obtain ⟨v, d, rfl, r, q⟩ := one_out rs q
  obtain ⟨a, ws, es, rfl, s, rr, ns, rfl, q⟩ := asR_out hr r q
  cases reps_ints rr
  exact ⟨a, ns, rfl, s, fq _ M I H _ q (Same.refl I) hr (.int _)⟩
theorem lc_all {K : PySem.W.Frag} : LC K (rAll K) dAll := fun I M F H vs ds Qd Q hr rs q fq => by
  obtain ⟨v, d, rfl, r, q⟩ := one_out rs q
  obtain ⟨a, ws, es, rfl, s, rr, ns, rfl, q⟩ := asR_out hr r q
  cases reps_bls rr
  exact ⟨a, ns, rfl, s, fq _ M I H _ q (Same.refl I) hr (.bl _)⟩
theorem lc_any {K : PySem.W.Frag} : LC K (rAny K) dAny := fun I M F H vs ds Qd Q hr rs q fq => by
  obtain ⟨v, d, rfl, r, q⟩ := one_out rs q
  obtain ⟨a, ws, es, rfl, s, rr, ns, rfl, q⟩ := asR_out hr r q
  cases reps_bls rr
  exact ⟨a, ns, rfl, s, fq _ M I H _ q (Same.refl I) hr (.bl _)⟩
theorem d_sum (g : Good X W) (hm : X.mg "sum" = none) (ha : DA X W [e] tr) (he : starEach [e] X.env = (false, eval e X.env) :: starEach [] X.env := by rfl) (hg : Gl X "sum" := by rfl) : DE X W (.Call (.Name "sum" p) [e] [] pos) (dCB dSum tr) :=
  d_callB (cr_sum g.calm) lc_sum hm (by decide +kernel) ha hg (he := he)
theorem d_all (g : Good X W) (hm : X.mg "all" = none) (ha : DA X W [e] tr) (he : starEach [e] X.env = (false, eval e X.env) :: starEach [] X.env := by rfl) (hg : Gl X "all" := by rfl) : DE X W (.Call (.Name "all" p) [e] [] pos) (dCB dAll tr) :=
  d_callB (cr_all g.calm) lc_all hm (by decide +kernel) ha hg (he := he)
theorem d_any (g : Good X W) (hm : X.mg "any" = none) (ha : DA X W [e] tr) (he : starEach [e] X.env = (false, eval e X.env) :: starEach [] X.env := by rfl) (hg : Gl X "any" := by rfl) : DE X W (.Call (.Name "any" p) [e] [] pos) (dCB dAny tr) :=
  d_callB (cr_any g.calm) lc_any hm (by decide +kernel) ha hg (he := he)
/-! str(n), int(text), list(..), tuple(..) -/
def dStr : DRC := fun ds M Q => one ds fun d => match d with | .int i => i.natAbs.log2 < 1920 ∧ Q (.str (toString i)) M | _ => False
theorem lc_str {K : PySem.W.Frag} : LC K (fun xs H Q => ∃ i, xs = [.int i] ∧ i.natAbs.log2 < 1920 ∧ Q (.str (toString i)) H) dStr := fun I M F H vs ds Qd Q hr rs q fq => by
  obtain ⟨v, d, rfl, r, q⟩ := one_out rs q
  cases r with
  | int i => exact ⟨i, rfl, q.1, fq _ M I H _ q.2 (Same.refl I) hr (.str _)⟩
  | _ => exact q.elim
theorem d_strI (hm : X.mg "str" = none) (ha : DA X W [e] tr) (he : starEach [e] X.env = (false, eval e X.env) :: starEach [] X.env := by rfl) (hg : Gl X "str" := by rfl) : DE X W (.Call (.Name "str" p) [e] [] pos) (dCB dStr tr) :=
  d_callTy call_str_int lc_str hm (by decide +kernel) ha hg (he := he)
def dIntS : DRC := fun ds M Q => one ds fun d => match d with | .str a => ∃ n, PySem.intText? a = some n ∧ a.length ≤ 640 ∧ Q (.int n) M | _ => False
theorem lc_intS {K : PySem.W.Frag} : LC K (fun xs H Q => ∃ a n, xs = [.str a] ∧ PySem.intText? a = some n ∧ a.length ≤ 640 ∧ Q (.int n) H) dIntS := fun I M F H vs ds Qd Q hr rs q fq => by
  obtain ⟨v, d, rfl, r, q⟩ := one_out rs q
  cases r with
  | str a => obtain ⟨n, e1, e2, q⟩ := q; exact ⟨a, n, rfl, e1, e2, fq _ M I H _ q (Same.refl I) hr (.int _)⟩
  | _ => exact q.elim
theorem d_intS (hm : X.mg "int" = none) (ha : DA X W [e] tr) (he : starEach [e] X.env = (false, eval e X.env) :: starEach [] X.env := by rfl) (hg : Gl X "int" := by rfl) : DE X W (.Call (.Name "int" p) [e] [] pos) (dCB dIntS tr) :=
  d_callTy call_int_str lc_intS hm (by decide +kernel) ha hg (he := he)
/-! isinstance -/
inductive Ty where
  | non | bl | int | str | lst | tup | dct | own
def Ty.nm : Ty → String
  | .non => "NoneType" | .bl => "bool" | .int => "int" | .str => "str" | .lst => "list" | .tup => "tuple" | .dct => "dict" | .own => ""
def isT : Ty → Ty → Bool
  | .bl, .bl => true | .bl, .int => true | .int, .int => true | .str, .str => true | .lst, .lst => true | .tup, .tup => true | .dct, .dct => true | _, _ => false
theorem kit_all (K : PySem.W.Frag) : ∀ t u : Ty, t ≠ .own → u ≠ .non → u ≠ .own → PySem.W.kitOne K (.type t.nm) (.type u.nm) = some (isT t u) := by
  intro t u h1 h h2
  cases u <;> first | exact absurd rfl h | exact absurd rfl h2 | (cases t <;> first | exact absurd rfl h1 | exact kit_ty (by decide +kernel))
def tyD (d : D) (M : Mp) (k : Ty → Prop) : Prop := match d with
  | .non => k .non | .bl _ => k .bl | .int _ => k .int | .str _ => k .str | .lst _ => k .lst | .sq _ => k .lst | .tup _ => k .tup | .dct _ => k .dct
  | .ref a => ∃ m, M a = some m ∧ (match m with | .lst _ => k .lst | .dct _ => k .dct | .exc _ _ => k .own | _ => False)
  | _ => False
theorem call_isiE {X : Cx} : CallR X (.builtin "isinstance") (fun xs H Q => ∃ (a C d : Addr) (vs : List (Str × V)) (n : String), xs = [.ref a, .ty n] ∧ ExcCls X.K C ∧ H a = some (exo a C (some d)) ∧ H d = some (exd d vs) ∧ PySem.W.kitOne X.K (.ref C) (.type n) = some false ∧ Q (.bl false) H) := by
  intro pins s σ H xs us Q I r h
  obtain ⟨a, C, d, vs, n, rfl, c, ha, hd, hk, q⟩ := h
  obtain ⟨u1, u2, rfl, r1, r2⟩ := vals2 r
  cases (show u1 = Value.ref a from r1)
  cases (show u2 = Value.type n from r2)
  obtain ⟨t1, g1⟩ := exo_at I.hok ha
  obtain ⟨mA, ⟨od, es, ep, g2, _⟩, _⟩ := exd_at I.hok hd
  refine PySem.W.kia_one (PySem.W.kitx_exc (od := some od) c.cl c.ga c.gt c.sub c.ca c.sp c.tk c.mr) I.kIn ⟨g1, rfl, rfl, ?_⟩ hk (fun z => nomatch z) fun tk => ⟨.bl false, H, I.tok tk, rfl, q⟩
  exact g2
theorem tyD_out {K : PySem.W.Frag} {I : Hp} {M : Mp} {F H : Hp} (hr : HR K I M F H) {v : V} {d : D} {k : Ty → Prop} (r : Rep K I v d) (h : tyD d M k) : (∃ t : Ty, t ≠ .own ∧ TyX K H v (.type t.nm) ∧ k t) ∨ ∃ a C ds d vs, v = .ref a ∧ RepO K I H a (exo a C (some d)) (.exc C ds) ∧ H a = some (exo a C (some d)) ∧ H d = some (exd d vs) ∧ k .own := by
  cases r with
  | non => exact .inl ⟨.non, (fun z => nomatch z), .base .non, h⟩
  | bl b => exact .inl ⟨.bl, (fun z => nomatch z), .base (.bl b), h⟩
  | int i => exact .inl ⟨.int, (fun z => nomatch z), .base (.int i), h⟩
  | str x => exact .inl ⟨.str, (fun z => nomatch z), .base (.str x), h⟩
  | lst s rr => exact .inl ⟨.lst, (fun z => nomatch z), .base (.lst (hr.imm _ _ s)), h⟩
  | sq s rr =>
    rcases hr.sq s with (z | ⟨o, z⟩) | ⟨o, _, _, z, c, _⟩
    · exact .inl ⟨.lst, (fun z => nomatch z), .base (.lst z), h⟩
    · exact .inl ⟨.lst, (fun z => nomatch z), .base (.frz z), h⟩
    · exact .inl ⟨.lst, (fun z => nomatch z), .kList z c, h⟩
  | tup s rr =>
    rcases hr.st s with (z | ⟨o, z⟩) | ⟨o, _, _, z, c, _⟩
    · exact .inl ⟨.tup, (fun z => nomatch z), .base (.tup z), h⟩
    · exact .inl ⟨.tup, (fun z => nomatch z), .fTuple z, h⟩
    · exact .inl ⟨.tup, (fun z => nomatch z), .kTuple z c, h⟩
  | dct s rr => exact .inl ⟨.dct, (fun z => nomatch z), .base (.dK (hr.imm _ _ s)), h⟩
  | ins s rr => exact h.elim
  | ty n => exact h.elim
  | ref a =>
    obtain ⟨m, e, q⟩ := h
    cases m with
    | lst xs => obtain ⟨vs, e1, rr⟩ := hr.lst e; exact .inl ⟨.lst, (fun z => nomatch z), .base (.lst e1), q⟩
    | dct xs => obtain ⟨vs, e1, rr⟩ := hr.dct e; exact .inl ⟨.dct, (fun z => nomatch z), .base (.dK e1), q⟩
    | ins C fs => exact q.elim
    | exc C fs =>
      obtain ⟨_, o, e1, c, d, vs, rfl, e2, rr⟩ := hr.mu a _ e
      exact .inr ⟨a, C, fs, d, vs, rfl, ⟨c, d, vs, rfl, e2, rr⟩, e1, e2, q⟩
def dIsi (u : Ty) (te : DTE) : DTE := fun δ M Q E => te δ M (fun d M1 => tyD d M1 fun t => Q (.bl (isT t u)) M1) E
theorem d_isi (u : Ty) {y : Str} {p' : Pos} (hu : u ≠ .non) (hu2 : u ≠ .own) (hm : X.mg "isinstance" = none) (hmy : X.mg y = none) (hy : bootBuiltins y = some (.type u.nm)) (he : DE X W e te) (hs : starEach [e, .Name y p'] X.env = (false, eval e X.env) :: starEach [.Name y p'] X.env := by rfl) (hgy : Gl X y := by rfl) (hny : y ≠ "__name__" := by decide) (hdy : (y == ("__debug__" : Str)) = false := by decide)
    (hs2 : starEach [.Name y p'] X.env = (false, eval (.Name y p') X.env) :: starEach [] X.env := by rfl) (hpl : (backTo pos (starEach [.Name y p'] X.env)).any (·.1) = false := by rfl) (hg : Gl X "isinstance" := by rfl) : DE X W (.Call (.Name "isinstance" p) [e, .Name y p'] [] pos) (dIsi u te) := by
  refine pe_imp (pe_callB (CallR.or call_isi call_isiE) hg hm (by decide +kernel) (pa_cons he (pa_cons (pe_bltn hgy hmy hy (v := .ty u.nm) rfl hny hdy) pa_nil hs2) hs) (by decide) (by decide) hs hpl) fun σ H Q h => ?_
  obtain ⟨I, M, F, δ, Qd, Ed, hr, rs, q, fq, fx⟩ := h
  refine ⟨I, M, F, δ, _, Ed, hr, rs, q, fun d M1 I1 H1 v q1 s1 hr1 r1 => ?_, fx⟩
  rcases tyD_out hr1 r1 q1 with ⟨t, ht, ty, q⟩ | ⟨a, C, ds, dd, vs, rfl, ro, e1, e2, q⟩
  · exact .inl ⟨v, .ty u.nm, _, _, _, rfl, .ty _, ty, kit_all X.K t u ht hu hu2, fq _ M1 I1 H1 _ q s1 hr1 (.bl _)⟩
  · refine .inr ⟨a, C, dd, vs, u.nm, rfl, ro.1, e1, e2, ro.1.kit u.nm ?_, ?_⟩
    · cases u <;> first | exact absurd rfl hu | exact absurd rfl hu2 | exact (by decide)
    · have e0 : isT .own u = false := by cases u <;> rfl
      rw [e0] at q
      exact fq _ M1 I1 H1 _ q s1 hr1 (.bl _)
/-! repr of data -/
theorem nodict {K : PySem.W.Frag} {H : Hp} : ∀ (p : PyData) {v : V}, Dp K H v p → p.hasDict = false := by
  intro p
  refine PyData.rec (motive_1 := fun p => ∀ {v : V}, Dp K H v p → p.hasDict = false) (motive_2 := fun ps => ∀ {vs : List V}, DpAll K H vs ps → PyData.hasDictAll ps = false) (motive_3 := fun _ => True) (motive_4 := fun _ => True) ?_ ?_ ?_ ?_ ?_ ?_ ?_ ?_ ?_ ?_ ?_ ?_ p
  · intro v h; rfl
  · intro b v h; rfl
  · intro i v h; rfl
  · intro x v h; rfl
  · intro ps ih v h; cases h with | lst s z => unfold PyData.hasDict; exact ih z
  · intro ps ih v h; cases h with | tup s z => unfold PyData.hasDict; exact ih z
  · intro kvs _ v h; cases h
  · intro vs h; rfl
  · intro p ps ih1 ih2 vs h
    cases h with
    | cons a b => unfold PyData.hasDictAll; rw [ih1 a, ih2 b]; rfl
  all_goals intros; trivial
theorem call_reprD {k : Nat} (ng : NoGd X.A) (rm : Room k X.A) : CallR X (.builtin "repr") (fun xs H Q => ∃ (x : Addr) (d : PyData), xs = [.ref x] ∧ Dp X.K H (.ref x) d ∧ d.showable = true ∧ d.depth ≤ 60 ∧ d.shown.length ≤ sizeLine ∧ Q (.str d.shown) H) := by
  intro pins s σ H xs us Q I rv h
  obtain ⟨x, d, rfl, hd, h1, h2, h3, q⟩ := h
  obtain ⟨u, rfl, rx⟩ := vals1 rv
  cases (show u = Value.ref x from rx)
  obtain ⟨as, rd⟩ := Dp.reads I d (.ref x) (.ref x) hd rfl
  have hu := rm.un
  refine repr_of_reads' rd h1 (fun z => ?_) ng (by omega) (fun _ _ e => e) (fun h' u tk hk => ⟨.str _, H, I.kept (t' := tk) hk, ⟨u, rfl⟩, q⟩) h3
  rw [nodict d hd] at z
  cases z
def dRepr : DRC := fun ds M Q => one ds fun d => ∃ p, PyOf M d p ∧ (match d with | .lst _ => True | .sq _ => True | .tup _ => True | .ref _ => True | _ => False) ∧ p.showable = true ∧ p.depth ≤ 60 ∧ p.shown.length ≤ sizeLine ∧ Q (.str p.shown) M
theorem lc_repr {K : PySem.W.Frag} : LC K (fun xs H Q => ∃ (x : Addr) (d : PyData), xs = [.ref x] ∧ Dp K H (.ref x) d ∧ d.showable = true ∧ d.depth ≤ 60 ∧ d.shown.length ≤ sizeLine ∧ Q (.str d.shown) H) dRepr := fun I M F H vs ds Qd Q hr rs q fq => by
  obtain ⟨v, d, rfl, r, p, h1, h2, h3, h4, h5, q⟩ := one_out rs q
  have dp := dp_of hr p r h1
  have fin := fq _ M I H _ q (Same.refl I) hr (.str _)
  cases r with
  | lst s rr => exact ⟨_, p, rfl, dp, h3, h4, h5, fin⟩
  | sq s rr => exact ⟨_, p, rfl, dp, h3, h4, h5, fin⟩
  | tup s rr => exact ⟨_, p, rfl, dp, h3, h4, h5, fin⟩
  | ref a => exact ⟨_, p, rfl, dp, h3, h4, h5, fin⟩
  | _ => exact h2.elim
theorem d_repr {k : Nat} (g : Good X W) (rm : Room k X.A) (hm : X.mg "repr" = none) (ha : DA X W [e] tr) (he : starEach [e] X.env = (false, eval e X.env) :: starEach [] X.env := by rfl) (hg : Gl X "repr" := by rfl) : DE X W (.Call (.Name "repr" p) [e] [] pos) (dCB dRepr tr) :=
  d_callB (call_reprD g.ng rm) lc_repr hm (by decide +kernel) ha hg (he := he)
/-! sep.join(..) -/
def dJoin (to te : DTE) : DTE := fun δ M Q E => to δ M (fun x M1 => match x with
  | .str z => te δ M1 (fun d M2 => asR M2 d fun xs => ∃ ys : List Str, xs = ys.map D.str ∧ (ys.map (·.length)).sum + ys.length * z.length ≤ 16777216 ∧ Q (.str (Txt.join z ys)) M2) E
  | _ => False) E
theorem d_join {o : Expr} {to : DTE} {apos : Pos} (ho : DE X W o to) (he : DE X W e te) (hs : starEach [e] X.env = [(false, eval e X.env)] := by rfl) (hbase : attributeBase o "join" X.env (eval o X.env) = eval o X.env := by rfl) (hline : (apos.endLine == pos.line) = true := by rfl) :
    DE X W (.Call (.Attribute o "join" apos) [e] [] pos) (dJoin to te) := pe_imp (pe_join ho he hs hbase hline) fun σ H Q h => by
  obtain ⟨I, M, F, δ, Qd, Ed, hr, rs, q, fq, fx⟩ := h
  refine ⟨I, M, F, δ, _, Ed, hr, rs, q, fun d M1 I1 H1 v q1 s1 hr1 r1 => ?_, fx⟩
  cases r1 with
  | str z =>
    refine ⟨⟨z, rfl⟩, I1, M1, F, δ, _, Ed, hr1, rs.mono s1, q1, fun y M2 I2 H2 w q2 s2 hr2 r2 => ?_, fx.mono s1⟩
    obtain ⟨a, vs, es, rfl, s, rr, ys, rfl, hz, q⟩ := asR_out hr2 r2 q2
    cases reps_strs rr
    exact ⟨z, a, ys, rfl, rfl, .inl s, hz, fq _ M2 I2 H2 _ q (s1.trans s2) hr2 (.str _)⟩
  | _ => exact q1.elim
/-! xs.append(e) -/
def dAppend (to te : DTE) : DTE := fun δ M Q E => to δ M (fun x M1 => match x with
  | .ref a => (∃ ys, M1 a = some (.lst ys)) ∧ te δ M1 (fun d M2 => ∃ xs, M2 a = some (.lst xs) ∧ xs.length < sizeLine ∧ Q .non (updM M2 a (.lst (xs ++ [d])))) E
  | _ => False) E
theorem d_append {o : Expr} {to : DTE} {apos : Pos} (ho : DE X W o to) (he : DE X W e te) (hs : starEach [e] X.env = (false, eval e X.env) :: starEach [] X.env := by rfl) (hbase : attributeBase o "append" X.env (eval o X.env) = eval o X.env := by rfl) (hline : (apos.endLine == pos.line) = true := by rfl)
    (hfew : ((backTo pos (starEach [e] X.env)).all (fun x => !x.1) && (backToKw pos (keywordEach [] X.env)).all (fun x => x.1.isSome) && decide ([e].length + ([] : List Keyword).length + (if ([] : List Keyword).isEmpty then 0 else 1) < 30)) = true := by rfl) :
    DE X W (.Call (.Attribute o "append" apos) [e] [] pos) (dAppend to te) := by
  refine pe_imp (pe_bm PySem.F.plainAttrs_list PySem.F.slot_list_append PySem.F.type_list_append mt_append ho (pa_cons he pa_nil hs) hbase hfew hline hs) fun σ H Q h => ?_
  obtain ⟨I, M, F, δ, Qd, Ed, hr, rs, q, fq, fx⟩ := h
  refine ⟨I, M, F, δ, _, Ed, hr, rs, q, fun d M1 I1 H1 v q1 s1 hr1 r1 => ?_, fx⟩
  cases r1 with
  | ref a =>
    obtain ⟨⟨ys, e0⟩, q1⟩ := q1
    obtain ⟨vs0, e1, rr0⟩ := hr1.lst e0
    refine ⟨.inl ⟨rfl, vs0, SqL.of e1⟩, I1, M1, F, δ, _, Ed, hr1, rs.mono s1, q1, fun y M2 I2 H2 w q2 s2 hr2 r2 => ?_, fx.mono s1⟩
    obtain ⟨xs, e2, hl, q⟩ := q2
    obtain ⟨vs, e3, rr⟩ := hr2.lst e2
    exact ⟨a, vs, w, rfl, rfl, e3, by rw [rr.len]; exact hl, fq _ _ I2 _ _ q (s1.trans s2) (hr2.write e2 (fun _ _ z => nomatch z) (o := .lst (vs ++ [w])) (m := .lst (xs ++ [y])) ⟨_, rfl, rr.snoc r2⟩) .non⟩
  | _ => exact q1.elim
end
end DL

set_option Elab.async false
set_option linter.all false
set_option maxRecDepth 100000
set_option maxHeartbeats 2000000
namespace DL
open PySem PySem.Spec PyProof.Rows L2
/-! ## is, is not of None, True, False -/
def rIsC : R2 := fun x y H Q => (y = .non ∨ ∃ b, y = .bl b) ∧ Q (.bl (decide (x = y))) H
def rNotC : R2 := fun x y H Q => (y = .non ∨ ∃ b, y = .bl b) ∧ Q (.bl (!decide (x = y))) H
section
variable {X : Cx}
theorem op_isC : OpR X (compareOp .Is) rIsC := by
  intro pins s σ H x y v u Q I rx ry h
  obtain ⟨h | ⟨b, h⟩, q⟩ := h
  · subst h
    exact op_isN pins s σ H x .non v u Q I rx ry ⟨rfl, q⟩
  · subst h
    cases (show u = Value.bool b from ry)
    by_cases e : x = .bl b
    · subst e
      cases (show v = Value.bool b from rx)
      exact wpAny_is_self rfl ⟨.bl true, H, I, rfl, by simpa using q⟩
    · refine wpAny_is_other ?_ ?_ ⟨.bl false, H, I, rfl, by simpa [e] using q⟩
      · cases x <;> first | (cases rx; rfl) | (obtain ⟨t, rfl⟩ := rx; rfl)
      · intro z
        subst z
        exact e (Option.some.inj (rx.abs.symm.trans rfl))
theorem op_notC : OpR X (compareOp .IsNot) rNotC := by
  intro pins s σ H x y v u Q I rx ry h
  obtain ⟨h | ⟨b, h⟩, q⟩ := h
  · subst h
    exact op_notN pins s σ H x .non v u Q I rx ry ⟨rfl, q⟩
  · subst h
    cases (show u = Value.bool b from ry)
    by_cases e : x = .bl b
    · subst e
      cases (show v = Value.bool b from rx)
      exact wpAny_isNot_self rfl ⟨.bl false, H, I, rfl, by simpa using q⟩
    · refine wpAny_isNot_other ?_ ?_ ⟨.bl true, H, I, rfl, by simpa [e] using q⟩
      · cases x <;> first | (cases rx; rfl) | (obtain ⟨t, rfl⟩ := rx; rfl)
      · intro z
        subst z
        exact e (Option.some.inj (rx.abs.symm.trans rfl))
end
def isc (x y : D) (k : Bool → Prop) : Prop := match y with
  | .non => (match x with | .non => k true | _ => k false)
  | .bl b => (match x with | .bl a => k (decide (a = b)) | _ => k false)
  | _ => False
def dIs : DR2 := fun x y M Q => isc x y fun b => Q (.bl b) M
def dIsNot : DR2 := fun x y M Q => isc x y fun b => Q (.bl (!b)) M
theorem isc_out {K : PySem.W.Frag} {I : Hp} {v w : V} {x y : D} {k : Bool → Prop} (rx : Rep K I v x) (ry : Rep K I w y) (h : isc x y k) : (w = .non ∨ ∃ b, w = .bl b) ∧ k (decide (v = w)) := by
  cases ry <;> first | exact h.elim | skip
  · refine ⟨.inl rfl, ?_⟩
    cases rx <;> first | exact h | (rw [decide_eq_false (fun z => nomatch z)]; exact h)
  · rename_i b
    refine ⟨.inr ⟨b, rfl⟩, ?_⟩
    cases rx <;> first
      | (rw [decide_eq_false (fun z => nomatch z)]; exact h)
      | (rename_i a
         have e : decide (V.bl a = V.bl b) = decide (a = b) := by
           rw [dec_bl, Bool.beq_eq_decide_eq]
         rw [e]; exact h)
theorem lr_is {K : PySem.W.Frag} : LR K rIsC dIs := fun I M F H x y dx dy Qd Q hr rx ry q fq => by
  obtain ⟨h1, h2⟩ := isc_out rx ry q
  exact ⟨h1, fq _ M I H _ h2 (Same.refl I) hr (.bl _)⟩
theorem lr_isNot {K : PySem.W.Frag} : LR K rNotC dIsNot := fun I M F H x y dx dy Qd Q hr rx ry q fq => by
  obtain ⟨h1, h2⟩ := isc_out rx ry q
  exact ⟨h1, fq _ M I H _ h2 (Same.refl I) hr (.bl _)⟩
end DL

set_option Elab.async false
set_option linter.all false
set_option maxRecDepth 100000
set_option maxHeartbeats 2000000
namespace DL
open PySem PySem.Spec PyProof.Rows L2
/-- something untracked comes beside -/
theorem HR.bump {K : PySem.W.Frag} {I : Hp} {M : Mp} {F H : Hp} (h : HR K I M F H) {p : Addr} (hp : H p = none) (o : HO) : HR K I M F (upd H p o) := by
  obtain ⟨h1, h2, h3⟩ := h.fresh hp
  have kp : ∀ d φ, H d = some (.ext φ) → upd H p o d = some (.ext φ) := fun d φ e => by rw [upd_ne (ne_of_none e hp)]; exact e
  refine ⟨fun a u e => ?_, fun a m e => ?_, fun a u e => ?_⟩
  · have q : a ≠ p := fun z => by rw [z, h1] at e; cases e
    rw [upd_ne q]; exact h.imm a u e
  · have q : a ≠ p := fun z => by rw [z, h2] at e; cases e
    rw [upd_ne q]
    obtain ⟨x, y, z, t⟩ := h.mu a m e
    exact ⟨x, y, z, t.mono (Same.refl I) kp⟩
  · have q : a ≠ p := fun z => by rw [z, h3] at e; cases e
    rw [upd_ne q]; exact h.frm a u e
theorem kit_sub {K : PySem.W.Frag} {C : Addr} {n : String} {b : Bool} (h : PySem.W.kitMeta n = true) (e : PySem.W.subIn K (.ref C) (.type n) = some b) : PySem.W.kitOne K (.ref C) (.type n) = some b := by
  unfold PySem.W.kitOne
  rw [if_neg (show ¬ ((Value.ref C == Value.type n) = true) from fun z => nomatch (beq_iff_eq.mp z))]
  show (if PySem.W.kitMeta n = true then PySem.W.subIn K (.ref C) (.type n) else none) = some b
  rw [if_pos h]
  exact e
/-! ## an own exception of one field, as a value -/
def spI (C : Addr) (f : Str) : Sp := fun vs H Q _ => ∃ (a : Addr) (v : V), vs = [.ref a, v] ∧ H a = some (exo a C none) ∧ ∀ dx, H dx = none → dx ≠ a → Q .non (upd (upd H dx (exd dx [(f, v)])) a (exo a C (some dx)))
structure ExcT (P : Program) (w : World) (K : PySem.W.Frag) (mg : Str → Option Value) (base : Heap) (k : Nat) (x f : Str) (C : Addr) : Prop where
  mgC : mg x = some (.ref C)
  oex : OexC K C
  cls : ExcCls K C
  ini : ∃ (fI : Addr) (fd : FuncData), PySem.W.findIn K (.ref C) "__init__" = some (some (.ref fI)) ∧ PySem.W.typeIn K (.ref fI) = some (.type "function") ∧ Binds K fd ["self", f] [] ∧ FnG P w K mg base (L2.CX P w) k fI fd ["self", f] (spI C f)
theorem nogd_make {A : Around} (h : NoGd A) (C : Addr) (us : List Value) (kw : List (Str × Value)) : NoGd (A.under (.builtin "type.__call__" ⟨.ref C :: us, kw⟩)) := by
  have e : (A.under (.builtin "type.__call__" ⟨.ref C :: us, kw⟩)).guards = A.guards := by
    first | rfl | simp [Around.under, Code.guards, Code.isGuard, guardIds, pushGuards]
  exact e.trans h
section
variable {X : Cx} {W : WX} {e : Expr} {te : TE} {td : DTE} {p pos : Pos} {x f : Str} {C : Addr} {k : Nat}
theorem pe_excV (T : ExcT X.prog X.w X.K X.mg X.base k x f C) (ng : NoGd X.A) (rm : Room (k + 1) X.A) (he : PE X e te) (hg : Gl X x := by rfl) (hdb : (x == ("__debug__" : Str)) = false := by decide) (hs : starEach [e] X.env = (false, eval e X.env) :: starEach [] X.env := by rfl)
    (hpl : (backTo pos (starEach [] X.env)).any (·.1) = false := by rfl) : PE X (.Call (.Name x p) [e] [] pos) (fun σ H Q => te σ H fun v H1 => ∀ a d, H1 a = none → H1 d = none → d ≠ a → Q (.ref a) (upd (upd H1 d (exd d [(f, v)])) a (exo a C (some d)))) := by
  obtain ⟨fI, fd, i1, i2, hb, F1⟩ := T.ini
  refine ⟨fun pins s σ H Q I h => ?_⟩
  obtain ⟨nm, q, N, bs, bm, sn, sub, ab, col, dd, k0, k1, k2, k3, k5, hC, hbm⟩ := T.oex.cls
  refine wpAny_Call_Name_kw (ld_glob I hg T.mgC ?_ hdb)
  refine PySem.W.callWith_K (h₀ := X.base) I.ok.mod.kin T.oex.kC (thn (PA.run (pa_cons he pa_nil hs) pos pins s σ H (fun vs H1 => ∃ v, vs = [v] ∧ ∀ a d, H1 a = none → H1 d = none → d ≠ a → Q (.ref a) (upd (upd H1 d (exd d [(f, v)])) a (exo a C (some d)))) I ?_) fun us s1 z => ?_) hs hpl
  · have mono : ∀ {Q1 Q2 : VK}, (∀ v H1, Q1 v H1 → Q2 v H1) → te σ H Q1 → te σ H Q1 := fun _ z => z
    exact (show tCons te tNil σ H _ from by
      show te σ H _
      exact (by simpa [tCons, tNil] using h))
  obtain ⟨vs, H1, J, rv, v, ev, q1⟩ := z
  subst ev
  refine ⟨J.kIn, ?_⟩
  obtain ⟨u, rfl, ru⟩ := vals1 rv
  obtain ⟨hp, g, dr, tk, os⟩ := s1
  show wpAny _ _ (call (.ref C) [u]) _ _ _
  generalize ha : hp.objs.size + 1 = a
  have hsz : hp.objs.size ≤ a := by omega
  have hn : H1 a = none := J.hok.fresh hsz
  have kk : ∀ b o, hp.get? b = some o → ((hp.push (PySem.W.kdv_tup [u])).push (PySem.HandSPX.excO C hp.objs.size)).get? b = some o := fun b o e => Heap.get?_push_of_some _ (Heap.get?_push_of_some _ e)
  have hget : ((hp.push (PySem.W.kdv_tup [u])).push (PySem.HandSPX.excO C hp.objs.size)).get? a = some (PySem.HandSPX.excO C hp.objs.size) := by rw [← ha]; heap_get
  have I2 : L2.Inv X pins σ (upd H1 a (exo a C none)) ⟨(hp.push (PySem.W.kdv_tup [u])).push (PySem.HandSPX.excO C hp.objs.size), g, dr, tk, os⟩ :=
    J.laid (t' := tk) (a := a) (o := exo a C none) (h' := (hp.push (PySem.W.kdv_tup [u])).push (PySem.HandSPX.excO C hp.objs.size)) kk hsz (exo_ok hget)
  have r2 : Vals [V.ref a, v] [Value.ref a, u] := .cons rfl (.cons ru .nil)
  have pr : spI C f [.ref a, v] (upd H1 a (exo a C none)) (fun r H2 => r = .non ∧ Q (.ref a) H2) (fun _ _ _ => False) := by
    refine ⟨a, v, rfl, upd_same, fun dx hd ne => ⟨rfl, ?_⟩⟩
    have hd1 : H1 dx = none := by rw [upd_ne ne] at hd; exact hd
    have eH : upd (upd (upd H1 a (exo a C none)) dx (exd dx [(f, v)])) a (exo a C (some dx)) = upd (upd H1 dx (exd dx [(f, v)])) a (exo a C (some dx)) := by
      funext b
      by_cases e1 : b = a
      · subst e1; rw [upd_same, upd_same]
      · rw [upd_ne e1, upd_ne e1]
        by_cases e2 : b = dx
        · subst e2; rw [upd_same, upd_same]
        · rw [upd_ne e2, upd_ne e2, upd_ne e1]
    rw [eH]
    exact q1 a dx hn hd1 ne
  have bt := hb ⟨(hp.push (PySem.W.kdv_tup [u])).push (PySem.HandSPX.excO C hp.objs.size), g, dr, tk, os⟩ [Value.ref a, u] I2.kIn rfl
  rw [List.append_nil] at bt
  refine wpAny_call (PySem.HandSPX.call_own F.excBase_ValueError (fun Y => PySem.HandSPX.refsVE_contains Y bm hbm) (J.kIn _ _ hC) (PySem.W.looks_findIn J.kIn i1) (fun self => PySem.W.bind_fn J.kIn self i2) (by show 1 ≤ sizeLine; decide)
    (codeAny_mono (F1.run _ X.stack _ _ ⟨[Value.ref _, u], []⟩ [Value.ref _, u] _ _ (fun _ _ _ => False) (nogd_make ng C [u] []) (rm.make C [u] []) (I2.env0.make C [u] []) (by first | exact bt | (rw [ha]; exact bt)) (by first | exact r2 | (rw [ha]; exact r2)) (by first | exact pr | (rw [ha]; exact pr))) fun r s' hq' => ?_))
  cases r with
  | error er => exact passL pins σ _ _ er s' I2 hq'
  | ok fl => cases fl with
    | ret u =>
      obtain ⟨v', H2, o1, o2, un, ok2, rr, e1, qq⟩ := hq'
      subst e1
      refine ⟨rr, ?_⟩
      exact ⟨.ref a, H2, I2.call' (ch := []) o1 un ok2 o2 (fun b z => absurd z (by simp)), by first | rfl | (rw [← ha]; rfl), qq⟩
    | next => cases hq'
    | brk => cases hq'
    | cont => cases hq'
def dExcV (C : Addr) (f : Str) (td : DTE) : DTE := fun δ M Q E => td δ M (fun d M1 => ∀ a, M1 a = none → Q (.ref a) (updM M1 a (.exc C [(f, d)]))) E
theorem d_excV (T : ExcT X.prog X.w X.K X.mg X.base k x f C) (g : Good X W) (rm : Room (k + 1) X.A) (he : DE X W e td) (hg : Gl X x := by rfl) (hdb : (x == ("__debug__" : Str)) = false := by decide) (hs : starEach [e] X.env = (false, eval e X.env) :: starEach [] X.env := by rfl)
    (hpl : (backTo pos (starEach [] X.env)).any (·.1) = false := by rfl) : DE X W (.Call (.Name x p) [e] [] pos) (dExcV C f td) := pe_imp (pe_excV T g.ng rm he hg hdb hs hpl) fun σ H Q h => by
  obtain ⟨I, M, F, δ, Qd, Ed, hr, rs, q, fq, fx⟩ := h
  refine ⟨I, M, F, δ, _, Ed, hr, rs, q, fun d M1 I1 H1 v q1 s1 hr1 r1 a dd ha hd ne => ?_, fx⟩
  have h2 := hr1.bump hd (exd dd [(f, v)])
  have ha2 : upd H1 dd (exd dd [(f, v)]) a = none := by rw [upd_ne (Ne.symm ne)]; exact ha
  exact fq _ _ I1 _ _ (q1 a (hr1.fresh ha).2.1) s1 (h2.newM ha2 (o := exo a C (some dd)) (m := .exc C [(f, d)]) ⟨T.cls, dd, _, rfl, upd_same, .cons r1 .nil⟩) (.ref a)
end
end DL

set_option Elab.async false
set_option linter.all false
set_option maxRecDepth 100000
set_option maxHeartbeats 2000000
namespace DL
open PySem PySem.Spec PyProof.Rows L2
/-! ## dict displays -/
def putD (kvs : List (Key × D)) (k : Key) (v : D) : List (Key × D) :=
  if (kvs.any fun kv => decide (kv.1 = k)) = true then kvs.map (fun kv => if kv.1 = k then (kv.1, v) else kv) else kvs ++ [(k, v)]
def mergeD (kvs more : List (Key × D)) : List (Key × D) := more.foldl (fun acc kv => putD acc kv.1 kv.2) kvs
theorem RepK.anyK {K : PySem.W.Frag} {I : Hp} (k : Key) : ∀ {vs : List (Key × V)} {ds : List (Key × D)}, RepK K I vs ds → (vs.any fun kv => decide (kv.1 = k)) = (ds.any fun kv => decide (kv.1 = k))
  | _, _, .nil => rfl
  | _, _, .cons _ r => by rw [List.any_cons, List.any_cons, RepK.anyK k r]
theorem RepK.mapP {K : PySem.W.Frag} {I : Hp} {k : Key} {v : V} {d : D} (r : Rep K I v d) : ∀ {vs : List (Key × V)} {ds : List (Key × D)}, RepK K I vs ds → RepK K I (vs.map fun kv => if kv.1 = k then (kv.1, v) else kv) (ds.map fun kv => if kv.1 = k then (kv.1, d) else kv)
  | _, _, .nil => .nil
  | _, _, .cons (k := k1) a b => by
    rw [List.map_cons, List.map_cons]
    by_cases e : k1 = k
    · rw [if_pos e, if_pos e]; exact .cons r (RepK.mapP r b)
    · rw [if_neg e, if_neg e]; exact .cons a (RepK.mapP r b)
theorem RepK.snoc {K : PySem.W.Frag} {I : Hp} {k : Key} {v : V} {d : D} (r : Rep K I v d) : ∀ {vs : List (Key × V)} {ds : List (Key × D)}, RepK K I vs ds → RepK K I (vs ++ [(k, v)]) (ds ++ [(k, d)])
  | _, _, .nil => .cons r .nil
  | _, _, .cons a b => .cons a (RepK.snoc r b)
theorem RepK.put {K : PySem.W.Frag} {I : Hp} {k : Key} {v : V} {d : D} (r : Rep K I v d) {vs : List (Key × V)} {ds : List (Key × D)} (h : RepK K I vs ds) : RepK K I (putK vs k v) (putD ds k d) := by
  unfold putK putD
  rw [h.anyK k]
  split
  · exact h.mapP r
  · exact h.snoc r
theorem RepK.merge {K : PySem.W.Frag} {I : Hp} : ∀ {ms : List (Key × V)} {ns : List (Key × D)} {vs : List (Key × V)} {ds : List (Key × D)}, RepK K I ms ns → RepK K I vs ds → RepK K I (mergeK vs ms) (mergeD ds ns)
  | _, _, _, _, .nil, h => h
  | _, _, _, _, .cons (k := k1) r rr, h => by
    have z := RepK.merge rr (h.put (k := k1) r)
    exact z
def kD : Key → D
  | .inl i => .int i
  | .inr x => .str x
def dPairs : List (DTE × DTE) → DS → Mp → (List (D × D) → Mp → Prop) → DXK → Prop
  | [], _, M, Q, _ => Q [] M
  | (tk, tv) :: r, δ, M, Q, E => tk δ M (fun x M1 => tv δ M1 (fun y M2 => dPairs r δ M2 (fun ps M3 => Q ((x, y) :: ps) M3) E) E) E
inductive RepP (K : PySem.W.Frag) (I : Hp) : List (V × V) → List (D × D) → Prop
  | nil : RepP K I [] []
  | cons {x y : V} {d e : D} {ps : List (V × V)} {qs : List (D × D)} : Rep K I x d → Rep K I y e → RepP K I ps qs → RepP K I ((x, y) :: ps) ((d, e) :: qs)
theorem RepP.mono {K : PySem.W.Frag} {I I' : Hp} (e : Same I I') : ∀ {ps : List (V × V)} {qs : List (D × D)}, RepP K I ps qs → RepP K I' ps qs
  | _, _, .nil => .nil
  | _, _, .cons a b c => .cons (a.mono e) (b.mono e) (RepP.mono e c)
theorem pairs_lift {K : PySem.W.Frag} {W : WX} {σ : L2.St} {δ : DS} {Ed : DXK} : ∀ {trs : List (DTE × DTE)} {I F H : Hp} {M : Mp} {Qd : List (D × D) → Mp → Prop} {Q : List (V × V) → Hp → Prop}, HR K I M F H → RepS K I σ δ → dPairs trs δ M Qd Ed →
    (∀ qs M' I' H' ps, Qd qs M' → Same I I' → HR K I' M' F H' → RepP K I' ps qs → Q ps H') → FinX K I F Ed (WE W σ) → tPairs (trs.map fun t => (lE K W t.1, lE K W t.2)) σ H Q
  | [], I, F, H, M, Qd, Q, hr, rs, q, fq, fx => fq [] M I H [] q (Same.refl I) hr .nil
  | (tk, tv) :: r, I, F, H, M, Qd, Q, hr, rs, q, fq, fx => by
    refine ⟨I, M, F, δ, _, Ed, hr, rs, q, fun x M1 I1 H1 v q1 s1 hr1 r1 => ?_, fx⟩
    refine ⟨I1, M1, F, δ, _, Ed, hr1, rs.mono s1, q1, fun y M2 I2 H2 w q2 s2 hr2 r2 => ?_, fx.mono s1⟩
    exact pairs_lift (trs := r) hr2 ((rs.mono s1).mono s2) q2 (fun qs M3 I3 H3 ps q3 s3 hr3 r3 => fq _ M3 I3 H3 _ q3 ((s1.trans s2).trans s3) hr3 (.cons ((r1.mono s2).mono s3) (r2.mono s3) r3)) ((fx.mono s1).mono s2)
section
variable {X : Cx} {W : WX} {pos : Pos}
def DPs (X : Cx) (W : WX) (pos : Pos) (keys : List (Option Expr)) (values : List Expr) (trs : List (DTE × DTE)) : Prop := PPs X pos keys values (trs.map fun t => (lE X.K W t.1, lE X.K W t.2))
theorem ps_nil : DPs X W pos [] [] [] := pps_nil
theorem ps_cons {k v : Expr} {ks : List (Option Expr)} {vs : List Expr} {tk tv : DTE} {trs : List (DTE × DTE)} (hk : DE X W k tk) (hv : DE X W v tv) (hr : DPs X W pos ks vs trs) : DPs X W pos (some k :: ks) (v :: vs) ((tk, tv) :: trs) := pps_cons hk hv hr
def dDict0 : DTE := fun _ M Q _ => Q (.dct []) M
theorem d_dict0 : DE X W (.Dict [] [] pos) dDict0 := pe_imp pe_dnewK fun σ H Q h => by
  obtain ⟨I, M, F, δ, Qd, Ed, hr, rs, q, fq, fx⟩ := h
  intro p hp
  have s := same_new (o := .dK []) (hr.fresh hp).1
  exact fq _ M _ _ _ q s (hr.newI hp _) (.dct upd_same .nil)
def dDict0M : DTE := fun _ M Q _ => ∀ p, M p = none → Q (.ref p) (updM M p (.dct []))
theorem d_dict0M : DE X W (.Dict [] [] pos) dDict0M := pe_imp pe_dnewK fun σ H Q h => by
  obtain ⟨I, M, F, δ, Qd, Ed, hr, rs, q, fq, fx⟩ := h
  intro p hp
  exact fq _ _ I _ _ (q p (hr.fresh hp).2.1) (Same.refl I) (hr.newM hp (o := .dK []) (m := .dct []) ⟨_, rfl, .nil⟩) (.ref p)
def dDisp (trs : List (DTE × DTE)) : DTE := fun δ M Q E => dPairs trs δ M (fun qs M1 => ∃ kvs : List (Key × D), qs = kvs.map (fun kv => (kD kv.1, kv.2)) ∧ kvs.length ≤ 15 ∧ Q (.dct (mergeD [] kvs)) M1) E
theorem keys_out {K : PySem.W.Frag} {I : Hp} : ∀ {kvs : List (Key × D)} {ps : List (V × V)}, RepP K I ps (kvs.map fun kv => (kD kv.1, kv.2)) → ∃ vs : List (Key × V), ps = vs.map (fun kv => (kV kv.1, kv.2)) ∧ RepK K I vs kvs
  | [], _, .nil => ⟨[], rfl, .nil⟩
  | (k, d) :: r, _, .cons a b c => by
    obtain ⟨vs, e, z⟩ := keys_out c
    cases k with
    | inl i => cases a; exact ⟨(.inl i, _) :: vs, by rw [e]; rfl, .cons b z⟩
    | inr i => cases a; exact ⟨(.inr i, _) :: vs, by rw [e]; rfl, .cons b z⟩
theorem d_disp {keys : List (Option Expr)} {values : List Expr} {trs : List (DTE × DTE)} (h : DPs X W pos keys values trs) (hall : keys.all (·.isSome) = true := by rfl) (hl : keys.length = values.length := by rfl) (h0 : keys ≠ [] := by intro z; cases z) (h15 : keys.length ≤ 15 := by decide) :
    DE X W (.Dict keys values pos) (dDisp trs) := pe_imp (pe_disp h hall hl h0 h15) fun σ H Q q => by
  obtain ⟨I, M, F, δ, Qd, Ed, hr, rs, q, fq, fx⟩ := q
  intro p hp
  have hF := (hr.fresh hp).2.2
  refine pairs_lift (hr.newF hp (.dK [])) rs q (fun qs M' I' H' ps q' s' hr' r' => ?_) (fun c fo M' I' H' dd z s' hr' xd => fx c fo M' I' H' dd z s' ?_ xd)
  · obtain ⟨kvs, e, hl, q'⟩ := q'
    subst e
    obtain ⟨vs, e2, rk⟩ := keys_out r'
    have lk : vs.length ≤ 15 := by rw [rk.len]; exact hl
    refine ⟨hr'.atF.1, vs, e2, lk, ?_⟩
    obtain ⟨z1, z2⟩ := (hr'.reF (fun _ z => nomatch z) (.dK (mergeK [] vs))).frzF hF
    exact fq _ M' _ _ _ q' (s'.trans z1) z2 (.dct upd_same ((RepK.merge rk .nil).mono z1))
  · refine ⟨hr'.imm, hr'.mu, fun a u e => ?_⟩
    have ne : a ≠ p := fun z => by rw [z, hF] at e; cases e
    exact hr'.frm a u (by rw [upd_ne ne]; exact e)
/-! constants of the module -/
theorem d_gInt {x : Str} {i : Int} (hm : ∃ t, X.mg x = some (.int i t)) (hg : Gl X x := by rfl) (hd : (x == ("__debug__" : Str)) = false := by decide) : DE X W (.Name x pos) (dC (.int i)) := by
  obtain ⟨t, hm⟩ := hm
  exact d_glob hg hm (v := .int i) ⟨t, rfl⟩ (fun _ => .int i) hd
theorem d_gStr {x z : Str} (hm : ∃ t, X.mg x = some (.str z t)) (hg : Gl X x := by rfl) (hd : (x == ("__debug__" : Str)) = false := by decide) : DE X W (.Name x pos) (dC (.str z)) := by
  obtain ⟨t, hm⟩ := hm
  exact d_glob hg hm (v := .str z) ⟨t, rfl⟩ (fun _ => .str z) hd
end
theorem rep_ints {K : PySem.W.Frag} {I : Hp} : ∀ ns : List Int, Reps K I (ns.map V.int) (ns.map D.int)
  | [] => .nil
  | n :: ns => .cons (.int n) (rep_ints ns)
/-! ## the law's end, of its def -/
theorem walk_fn {l : PySem.W.OpenLaw} {q : Program} {loose : List Str} {XP : (Str → Option Value) → Heap → Prop} {YP : World → Heap → Prop} {d : DefRec} {K : Params → PySem.W.Frag} {k : Nat} {x : Str} {sp : DSp} (hn : l.most = some 63) (hdf : d.params.defaults = []) (rm : Room k callerA)
    (hY : ∀ (w : World) (h : Heap), YP w h → (K w.params).In h)
    (F : ∀ (w : World) (mg : Str → Option Value) (fa : Addr) (h : Heap), (K w.params).In h → h.Ns mainGlobals mg → mg d.name = some (.ref fa) → mg "law" = some (.ref fa) ∧ ∀ base : Heap, Fn l.prog w (K w.params) mg base k "law" [x] sp)
    (pr : ∀ {K : PySem.W.Frag} {H : Hp} {a : Addr} {ns : List Int}, ns.length ≤ 63 → SqL K H a (ns.map V.int) → lSp K sp [.ref a] H (fun v _ => v = .bl true) (fun _ _ _ => False)) : PySem.W.WalkO q loose XP YP l.row.toRowW d [] (fun f vs => PySem.call f vs) := by
  refine walk_ofG (n := 63) (k := k) (x := x) (C := fun w => L2.CX l.prog w) (sp := fun w => lSp (K w.params) sp) hn (by decide) hdf rm hY (fun w mg fa h h1 h2 h3 => ?_) (fun _ _ a ns hl _ hS => pr hl hS) fun w H s e s' z => ?_
  · obtain ⟨e1, f1⟩ := F w mg fa h h1 h2 h3
    obtain ⟨f, fd, m1, _, ⟨hb, o, lk, od⟩, _⟩ := (f1 h).ex
    rw [e1] at m1
    cases m1
    refine ⟨fd, fun s u => .of_eq (hb [u] rfl), fun b _ _ => ?_⟩
    obtain ⟨f', fd', m2, _, ⟨_, o', lk', od'⟩, G⟩ := (f1 b).ex
    rw [e1] at m2
    cases m2
    rw [lk] at lk'
    cases lk'
    rw [od] at od'
    cases od'
    exact G
  · obtain ⟨_, _, _, _, _, _, _, _, _, _, _, _, z⟩ := z
    exact z
end DL

set_option Elab.async false
set_option linter.all false
set_option maxRecDepth 100000
set_option maxHeartbeats 2000000
namespace DL
open PySem PySem.Spec PyProof.Rows L2
/-! ## calls by keywords, defaults -/
/-- how n positional things and those of the keywords ks come to the parameters ps -/
def KBd (K : PySem.W.Frag) (fd : FuncData) (ps : List Str) (n : Nat) (ks : List Str) (gD : List D → List D → List D) : Prop :=
  ∀ (s : Shared) (I : Hp) (us ws : List Value) (vs zs : List V) (ds es : List D), K.In s.heap → us.length = n → ws.length = ks.length → Vals vs us → Vals zs ws → Reps K I vs ds → Reps K I zs es →
    ∃ (bs : List Value) (xs : List V), BindsTo s fd ⟨us, ks.zip ws⟩ (ps.zip bs) ∧ Vals xs bs ∧ Reps K I xs (gD ds es)
structure Pat where
  n : Nat
  ks : List Str
  g : List D → List D → List D
structure FnK (P : Program) (w : World) (K : PySem.W.Frag) (mg : Str → Option Value) (base : Heap) (k : Nat) (x : Str) (ps : List Str) (sp : DSp) (pats : List Pat) : Prop where
  ex : ∃ (f : Addr) (fd : FuncData), mg x = some (.ref f) ∧ PySem.W.keepIn K (.ref f) = true ∧ (∀ (i : Nat) (p : Pat), pats[i]? = some p → KBd K fd ps p.n p.ks p.g) ∧ FnG P w K mg base (L2.CX P w) k f fd ps (lSp K sp)
def DKw (X : Cx) (W : WX) (kws : List Keyword) (t : DTA) : Prop := PK X kws (lA X.K W t)
section
variable {X : Cx} {W : WX} {e : Expr} {es : List Expr} {te : DTE} {ta tk : DTA} {pos p kpos : Pos} {k : Nat} {x : Str} {ps : List Str} {sp : DSp} {kws : List Keyword} {nm : Option Str}
theorem k_nil : DKw X W [] dNil := ⟨fun pos pins s σ H Q I h => pk_nil.run pos pins s σ H Q I (by
  obtain ⟨I, M, F, δ, Qd, Ed, hr, rs, q, fq, fx⟩ := h
  exact fq [] M I H [] q (Same.refl I) hr .nil)⟩
theorem k_cons (he : DE X W e te) (ha : DKw X W kws tk) : DKw X W (⟨nm, e, kpos⟩ :: kws) (dCons te tk) := ⟨fun pos pins s σ H Q I h => (pk_cons he ha).run pos pins s σ H Q I (by
  obtain ⟨I, M, F, δ, Qd, Ed, hr, rs, q, fq, fx⟩ := h
  refine ⟨I, M, F, δ, _, Ed, hr, rs, q, fun d M1 I1 H1 v q1 s1 hr1 r1 => ?_, fx⟩
  refine ⟨I1, M1, F, δ, _, Ed, hr1, rs.mono s1, q1, fun ds M2 I2 H2 vs q2 s2 hr2 r2 => ?_, fx.mono s1⟩
  exact fq _ M2 I2 H2 _ q2 (s1.trans s2) hr2 (.cons (r1.mono s2) r2))⟩
def dCallK (n m : Nat) (sp : DSp) (g : List D → List D → List D) (ta tk : DTA) : DTE := fun δ M Q E => ta δ M (fun ds M1 => tk δ M1 (fun es M2 => ds.length = n ∧ es.length = m ∧ sp (g ds es) M2 Q E) E) E
theorem run_k {pats : List Pat} {pt : Pat} {pins : List (Addr × Obj)} {σ : L2.St} {H : Hp} {s : Shared} {Q : VK} {us ws : List Value} {vs zs : List V} {ds es : List D} {Im F : Hp} {M : Mp} {Qd : DK} {Ed : DXK} {f : Addr} {fd : FuncData} (g : Good X W) (rm : Room k X.A)
    (kb : KBd X.K fd ps pt.n pt.ks pt.g) (G : FnG X.prog X.w X.K X.mg X.base (L2.CX X.prog X.w) k f fd ps (lSp X.K sp)) (J : L2.Inv X pins σ H s) (rv : Vals vs us) (rz : Vals zs ws) (hr : HR X.K Im M F H) (rd : Reps X.K Im vs ds) (re : Reps X.K Im zs es)
    (h1 : ds.length = pt.n) (h2 : es.length = pt.ks.length) (q : sp (pt.g ds es) M Qd Ed) (fq : Fin X.K Im F Qd Q) (fx : FinX X.K Im F Ed (WE W σ)) : wpAny (model X.prog X.w) X.A (call (.ref f) us (pt.ks.zip ws)) (EP X pins σ Q) X.xe s := by
  obtain ⟨bs, xs, bt, rb, rr⟩ := kb s Im us ws vs zs ds es J.kIn (by rw [← rv.length, rd.len]; exact h1) (by rw [← rz.length, re.len]; exact h2) rv rz rd re
  have pr : lSp X.K sp xs H Q (WE W σ) := ⟨Im, M, F, _, Qd, Ed, hr, rr, q, fq, fx⟩
  refine wpAny_call (codeAny_mono (goG (E := WE W) G g.ng rm (passAt g.tk σ) J bt rb pr) fun r s2 y => ?_)
  cases r with
  | error e => exact y
  | ok fl => cases fl <;> exact y
theorem d_callK (i : Nat) {pats : List Pat} {pt : Pat} (Fx : FnK X.prog X.w X.K X.mg X.base k x ps sp pats) (g : Good X W) (rm : Room k X.A) (ha : DA X W (e :: es) ta) (hkw : DKw X W kws tk) (hi : pats[i]? = some pt := by rfl) (hg : Gl X x := by rfl)
    (hall : (backToKw pos (keywordEach kws X.env)).all (·.1.isSome) = true := by rfl) (hks : (backToKw pos (keywordEach kws X.env)).filterMap (·.1) = pt.ks := by rfl)
    (hdb : (x == ("__debug__" : Str)) = false := by decide) (he : starEach (e :: es) X.env = (false, eval e X.env) :: starEach es X.env := by rfl)
    (hpl : ((backTo pos (starEach (e :: es) X.env)).any (·.1) || (backToKw pos (keywordEach kws X.env)).any (·.1.isNone)) = false := by rfl) : DE X W (.Call (.Name x p) (e :: es) kws pos) (dCallK pt.n pt.ks.length sp pt.g ta tk) := by
  obtain ⟨f, fd, hm, hk, kb, G⟩ := Fx.ex
  refine ⟨fun pins s σ H Q I h => ?_⟩
  obtain ⟨Im, M, Fr, δ, Qd, Ed, hr, rs, q, fq, fx⟩ := h
  refine wpAny_Call_Name_kw (ld_glob I hg hm ?_ hdb)
  refine PySem.W.callWith_KW (h₀ := X.base) I.ok.mod.kin hk hall (thn (PA.run ha pos pins s σ H (fun vs H1 => ∃ I1 M1 ds, Same Im I1 ∧ HR X.K I1 M1 Fr H1 ∧ Reps X.K I1 vs ds ∧ tk δ M1 (fun es M2 => ds.length = pt.n ∧ es.length = pt.ks.length ∧ sp (pt.g ds es) M2 Qd Ed) Ed) I
    ⟨Im, M, Fr, δ, _, Ed, hr, rs, q, fun ds M1 I1 H1 vs q1 s1 hr1 r1 => ⟨I1, M1, ds, s1, hr1, r1, q1⟩, fx⟩) fun us s1 z => ?_) hpl he
  obtain ⟨vs, H1, J1, rv, I1, M1, ds, e1, hr1, rd, q1⟩ := z
  refine thn (PK.run hkw pos pins s1 σ H1 (fun zs H2 => ∃ I2 M2 es, Same I1 I2 ∧ HR X.K I2 M2 Fr H2 ∧ Reps X.K I2 zs es ∧ ds.length = pt.n ∧ es.length = pt.ks.length ∧ sp (pt.g ds es) M2 Qd Ed) J1
    ⟨I1, M1, Fr, δ, _, Ed, hr1, rs.mono e1, q1, fun es M2 I2 H2 zs q2 s2 hr2 r2 => ⟨I2, M2, es, s2, hr2, r2, q2⟩, fx.mono e1⟩) fun ws s2 z => ?_
  obtain ⟨zs, H2, J2, rz, I2, M2, es, e2, hr2, re, l1, l2, q2⟩ := z
  refine ⟨J2.kIn, ?_⟩
  rw [hks]
  exact run_k (pats := pats) g rm (kb i pt hi) G J2 rv rz hr2 (rd.mono e2) re l1 l2 q2 (fq.mono (e1.trans e2)) (fx.mono (e1.trans e2))
theorem d_callK0 (i : Nat) {pats : List Pat} {pt : Pat} (Fx : FnK X.prog X.w X.K X.mg X.base k x ps sp pats) (g : Good X W) (rm : Room k X.A) (hkw : DKw X W kws tk) (hi : pats[i]? = some pt := by rfl) (hg : Gl X x := by rfl)
    (hall : (backToKw pos (keywordEach kws X.env)).all (·.1.isSome) = true := by rfl) (hks : (backToKw pos (keywordEach kws X.env)).filterMap (·.1) = pt.ks := by rfl)
    (hdb : (x == ("__debug__" : Str)) = false := by decide) (hpl : ((backTo pos (starEach [] X.env)).any (·.1) || (backToKw pos (keywordEach kws X.env)).any (·.1.isNone)) = false := by rfl) : DE X W (.Call (.Name x p) [] kws pos) (dCallK pt.n pt.ks.length sp pt.g dNil tk) := by
  obtain ⟨f, fd, hm, hk, kb, G⟩ := Fx.ex
  refine ⟨fun pins s σ H Q I h => ?_⟩
  obtain ⟨Im, M, Fr, δ, Qd, Ed, hr, rs, q, fq, fx⟩ := h
  refine wpAny_Call_Name_kw (ld_glob I hg hm ?_ hdb)
  refine PySem.W.callWith_KW0 (h₀ := X.base) I.ok.mod.kin hk hall (thn (PK.run hkw pos pins s σ H (fun zs H2 => ∃ I2 M2 es, Same Im I2 ∧ HR X.K I2 M2 Fr H2 ∧ Reps X.K I2 zs es ∧ ([] : List D).length = pt.n ∧ es.length = pt.ks.length ∧ sp (pt.g [] es) M2 Qd Ed) I
    ⟨Im, M, Fr, δ, _, Ed, hr, rs, q, fun es M2 I2 H2 zs q2 s2 hr2 r2 => ⟨I2, M2, es, s2, hr2, r2, q2⟩, fx⟩) fun ws s2 z => ?_) hpl
  obtain ⟨zs, H2, J2, rz, I2, M2, es, e2, hr2, re, l1, l2, q2⟩ := z
  refine ⟨J2.kIn, ?_⟩
  rw [hks]
  exact run_k (pats := pats) g rm (kb i pt hi) G J2 (us := []) (vs := []) .nil rz hr2 .nil re l1 l2 q2 (fq.mono e2) (fx.mono e2)
end
section
variable {P : Program} {w : World} {K : PySem.W.Frag} {mg : Str → Option Value} {base : Heap}
/-- a def with defaults, by its body -/
theorem dfunK {x qual : Str} {st : Stmt} {f : Addr} {fd : FuncData} {N ps : List Str} {k : Nat} {sp : DSp} {dvs : List V} {kws : List (Str × V)} {pats : List Pat} (F : FunD K x qual (defArgs st) (defBody st) (defScope st) dvs kws f fd) (hm : mg x = some (.ref f))
    (hb : ∀ (i : Nat) (p : Pat), pats[i]? = some p → KBd K fd ps p.n p.ks p.g) (S : FnScope N ps (defScope st)) (len : ∀ ds M Q E, sp ds M Q E → ds.length = ps.length)
    (body : ∀ (cdv : Value) (A : Around) (l : List Env) (s : Shared) (H : Hp) (E : XK), Good (cxOf (L2.CX P w) P w K mg base N qual (defScope st) f cdv A l s H E) (fun cls d _ H => E cls d H) → Room k (A.deeper (envOfC qual (defScope st) s.heap.objs.size f cdv)) →
      ∃ t, DSs (cxOf (L2.CX P w) P w K mg base N qual (defScope st) f cdv A l s H E) (fun cls d _ H => E cls d H) (defBody st) t ∧ ∀ ds M Qd Ed, sp ds M Qd Ed → t { nx := fun _ M' => Qd .non M', rt := Qd, ex := fun c fo _ M' => Ed c fo M' } (dstart N ds) M) :
    FnK P w K mg base (k + 1) x ps sp pats := by
  have kp := F.kp
  obtain ⟨oc, od, dV, kV, doc, pm, an, cdv, ct, osl, rfl, lk, hcd, _, _⟩ := F.ex
  refine ⟨f, _, hm, kp, hb, fng_of lk hcd S (fun vs H Q E h => ?_) fun A l s H vs Q E ng rm h => ?_⟩
  · obtain ⟨I, M, Fr, ds, Qd, Ed, hr, rs, q, _, _⟩ := h
    rw [rs.len]
    exact len _ _ _ _ q
  · obtain ⟨t, ht, hq⟩ := body cdv A l s H E (good_of ng) rm
    refine ⟨_, ht, ?_⟩
    obtain ⟨I, M, Fr, ds, Qd, Ed, hr, rs, q, fq, fx⟩ := h
    refine ⟨I, M, Fr, _, _, hr, reps_start rs, hq ds M Qd Ed q, ⟨fun δ' M' I' H' σ' q' s' hr' rs' => fq _ M' I' H' _ q' s' hr' .non, fq, fun c fo δ' M' I' H' σ' dd q' s' hr' rs' xd => fx c fo M' I' H' dd q' s' hr' xd, fun _ _ _ _ _ z => z.elim, fun _ _ _ _ _ z => z.elim⟩⟩
/-- patterns are shown one by one -/
theorem pats_nil {Φ : Pat → Prop} : ∀ (i : Nat) (p : Pat), ([] : List Pat)[i]? = some p → Φ p := fun i p e => by simp at e
theorem pats_cons {Φ : Pat → Prop} {q : Pat} {r : List Pat} (h : Φ q) (hr : ∀ (i : Nat) (p : Pat), r[i]? = some p → Φ p) : ∀ (i : Nat) (p : Pat), (q :: r)[i]? = some p → Φ p
  | 0, p, e => by simp at e; exact e ▸ h
  | i + 1, p, e => hr i p (by simpa using e)
end
end DL
namespace DL
open PySem L2
theorem len_cons {α : Type} {n : Nat} {l : List α} (h : l.length = n + 1) : ∃ a r, l = a :: r ∧ r.length = n := by
  cases l with
  | nil => cases h
  | cons a r => exact ⟨a, r, rfl, by simpa using h⟩
theorem len_nil {α : Type} {l : List α} (h : l.length = 0) : l = [] := List.eq_nil_of_length_eq_zero h
theorem vals_cons {x : V} {xs : List V} {us : List Value} (r : Vals (x :: xs) us) : ∃ u us', us = u :: us' ∧ RelV x u ∧ Vals xs us' := by
  cases r with
  | cons a b => exact ⟨_, _, rfl, a, b⟩
theorem vals_consR {xs : List V} {u : Value} {us : List Value} (r : Vals xs (u :: us)) : ∃ x xs', xs = x :: xs' ∧ RelV x u ∧ Vals xs' us := by
  cases r with
  | cons a b => exact ⟨_, _, rfl, a, b⟩
theorem reps_consL {K : PySem.W.Frag} {I : Hp} {x : V} {xs : List V} {ds : List D} (r : Reps K I (x :: xs) ds) : ∃ d ds', ds = d :: ds' ∧ Rep K I x d ∧ Reps K I xs ds' := by
  cases r with
  | cons a b => exact ⟨_, _, rfl, a, b⟩
end DL

set_option Elab.async false
set_option linter.all false
set_option maxRecDepth 100000
set_option maxHeartbeats 2000000
namespace DL
open PySem PySem.Spec PyProof.Rows L2
/-! ## methods of texts -/
abbrev DM1 := Str → D → Mp → DK → Prop
def LM1 (K : PySem.W.Frag) (r' : V → List V → Hp → VK → Prop) (r : DM1) : Prop := ∀ I M F H a y dy Qd Q, HR K I M F H → Rep K I y dy → r a dy M Qd → Fin K I F Qd Q → r' (.str a) [y] H Q
def LM0 (K : PySem.W.Frag) (r' : V → List V → Hp → VK → Prop) (r : Str → Mp → DK → Prop) : Prop := ∀ I M F H a Qd Q, HR K I M F H → r a M Qd → Fin K I F Qd Q → r' (.str a) [] H Q
def dM1 (r : DM1) (to te : DTE) : DTE := fun δ M Q E => to δ M (fun x M1 => match x with | .str a => te δ M1 (fun y M2 => r a y M2 Q) E | _ => False) E
def dM0 (r : Str → Mp → DK → Prop) (to : DTE) : DTE := fun δ M Q E => to δ M (fun x M1 => match x with | .str a => r a M1 Q | _ => False) E
section
variable {X : Cx} {W : WX} {o e : Expr} {to te : DTE} {pos apos : Pos} {name : Str} {bid : String} {r' : V → List V → Hp → VK → Prop}
theorem d_m1 {r : DM1} (slot : Slot "str" name bid) (ty : typeOf (.builtin bid) = pure (.type "method_descriptor")) (rule : MtR X bid r') (hl : LM1 X.K r' r) (ho : DE X W o to) (he : DE X W e te) (hs : starEach [e] X.env = [(false, eval e X.env)] := by rfl)
    (hbase : attributeBase o name X.env (eval o X.env) = eval o X.env := by rfl) (hline : (apos.endLine == pos.line) = true := by rfl) : DE X W (.Call (.Attribute o name apos) [e] [] pos) (dM1 r to te) := pe_imp (pe_m1 slot ty rule ho he hs hbase hline) fun σ H Q h => by
  obtain ⟨I, M, F, δ, Qd, Ed, hr, rs, q, fq, fx⟩ := h
  refine ⟨I, M, F, δ, _, Ed, hr, rs, q, fun d M1 I1 H1 v q1 s1 hr1 r1 => ?_, fx⟩
  cases r1 with
  | str a => exact ⟨⟨a, rfl⟩, I1, M1, F, δ, _, Ed, hr1, rs.mono s1, q1, fun y M2 I2 H2 w q2 s2 hr2 r2 => hl I2 M2 F H2 a w y Qd Q hr2 r2 q2 (fq.mono (s1.trans s2)), fx.mono s1⟩
  | _ => exact q1.elim
theorem d_m0 {r : Str → Mp → DK → Prop} (slot : Slot "str" name bid) (ty : typeOf (.builtin bid) = pure (.type "method_descriptor")) (rule : MtR X bid r') (hl : LM0 X.K r' r) (ho : DE X W o to)
    (hbase : attributeBase o name X.env (eval o X.env) = eval o X.env := by rfl) (hline : (apos.endLine == pos.line) = true := by rfl) : DE X W (.Call (.Attribute o name apos) [] [] pos) (dM0 r to) := pe_imp (pe_m0 slot ty rule ho hbase hline) fun σ H Q h => by
  obtain ⟨I, M, F, δ, Qd, Ed, hr, rs, q, fq, fx⟩ := h
  refine ⟨I, M, F, δ, _, Ed, hr, rs, q, fun d M1 I1 H1 v q1 s1 hr1 r1 => ?_, fx⟩
  cases r1 with
  | str a => exact ⟨⟨a, rfl⟩, hl I1 M1 F H1 a Qd Q hr1 q1 (fq.mono s1)⟩
  | _ => exact q1.elim
def s1 (y : D) (k : Str → Prop) : Prop := match y with | .str b => k b | _ => False
theorem s1_out {K : PySem.W.Frag} {I : Hp} {v : V} {y : D} {k : Str → Prop} (r : Rep K I v y) (h : s1 y k) : ∃ b, v = .str b ∧ k b := by
  cases r <;> first | exact ⟨_, rfl, h⟩ | exact h.elim
def rdIndex : DM1 := fun a y M Q => s1 y fun b => ∃ (i : Nat) (rest : List Nat), Builtin.Str.occurrences a b 0 a.length 1 = i :: rest ∧ Q (.int (i : Nat)) M
def rdLstrip : DM1 := fun a y M Q => s1 y fun b => a.length ≤ sizeLine ∧ Q (.str (Txt.lstripChars a b)) M
def rdSplit : DM1 := fun a y M Q => s1 y fun b => (b.length == 0) = false ∧ a.length + 2 ≤ sizeLine ∧ Q (.lst ((Txt.split a b).map D.str)) M
def rdSplitM : DM1 := fun a y M Q => s1 y fun b => (b.length == 0) = false ∧ a.length + 2 ≤ sizeLine ∧ ∀ p, M p = none → Q (.ref p) (updM M p (.lst ((Txt.split a b).map D.str)))
theorem d_index (ho : DE X W o to) (he : DE X W e te) (hs : starEach [e] X.env = [(false, eval e X.env)] := by rfl) (hbase : attributeBase o "index" X.env (eval o X.env) = eval o X.env := by rfl) (hline : (apos.endLine == pos.line) = true := by rfl) : DE X W (.Call (.Attribute o "index" apos) [e] [] pos) (dM1 rdIndex to te) :=
  d_m1 PySem.F.slot_str_index PySem.F.type_str_index mt_sindex (fun I M F H a y dy Qd Q hr r q fq => by
    obtain ⟨b, rfl, i, rest, e, q⟩ := s1_out r q
    exact ⟨a, b, i, rest, rfl, rfl, e, fq _ M I H _ q (Same.refl I) hr (.int _)⟩) ho he hs hbase hline
theorem d_lstrip (ho : DE X W o to) (he : DE X W e te) (hs : starEach [e] X.env = [(false, eval e X.env)] := by rfl) (hbase : attributeBase o "lstrip" X.env (eval o X.env) = eval o X.env := by rfl) (hline : (apos.endLine == pos.line) = true := by rfl) : DE X W (.Call (.Attribute o "lstrip" apos) [e] [] pos) (dM1 rdLstrip to te) :=
  d_m1 PySem.F.slot_str_lstrip PySem.F.type_str_lstrip mt_lstripChars (fun I M F H a y dy Qd Q hr r q fq => by
    obtain ⟨b, rfl, e, q⟩ := s1_out r q
    exact ⟨a, b, rfl, rfl, e, fq _ M I H _ q (Same.refl I) hr (.str _)⟩) ho he hs hbase hline
theorem rep_strs {K : PySem.W.Frag} {I : Hp} : ∀ ns : List Str, Reps K I (ns.map V.str) (ns.map D.str)
  | [] => .nil
  | n :: ns => .cons (.str n) (rep_strs ns)
theorem d_split (ho : DE X W o to) (he : DE X W e te) (hs : starEach [e] X.env = [(false, eval e X.env)] := by rfl) (hbase : attributeBase o "split" X.env (eval o X.env) = eval o X.env := by rfl) (hline : (apos.endLine == pos.line) = true := by rfl) : DE X W (.Call (.Attribute o "split" apos) [e] [] pos) (dM1 rdSplit to te) :=
  d_m1 PySem.F.slot_str_split PySem.F.type_str_split mt_split (fun I M F H a y dy Qd Q hr r q fq => by
    obtain ⟨b, rfl, e1, e2, q⟩ := s1_out r q
    exact ⟨a, b, rfl, rfl, e1, e2, fin_lst fq hr (rep_strs _) q⟩) ho he hs hbase hline
theorem d_splitM (ho : DE X W o to) (he : DE X W e te) (hs : starEach [e] X.env = [(false, eval e X.env)] := by rfl) (hbase : attributeBase o "split" X.env (eval o X.env) = eval o X.env := by rfl) (hline : (apos.endLine == pos.line) = true := by rfl) : DE X W (.Call (.Attribute o "split" apos) [e] [] pos) (dM1 rdSplitM to te) :=
  d_m1 PySem.F.slot_str_split PySem.F.type_str_split mt_split (fun I M F H a y dy Qd Q hr r q fq => by
    obtain ⟨b, rfl, e1, e2, q⟩ := s1_out r q
    exact ⟨a, b, rfl, rfl, e1, e2, fin_lstM fq hr (rep_strs _) q⟩) ho he hs hbase hline
end
end DL

set_option Elab.async false
set_option linter.all false
set_option maxRecDepth 100000
set_option maxHeartbeats 2000000
namespace DL
open PySem PySem.Spec PyProof.Rows L2
/-! ## a, b = x, y; a, b, c = x, y, z (plain locals) -/
def dPar2 (i j : Nat) (ta : DTA) : DTS := fun Dd δ M => ta δ M (fun ds M1 => match ds with | [v, w] => Dd.nx ((δ.set i (some v)).set j (some w)) M1 | _ => False) (fun c fo M' => Dd.ex c fo δ M')
def dPar3 (i j l : Nat) (ta : DTA) : DTS := fun Dd δ M => ta δ M (fun ds M1 => match ds with | [u, v, w] => Dd.nx (((δ.set i (some u)).set j (some v)).set l (some w)) M1 | _ => False) (fun c fo M' => Dd.ex c fo δ M')
section
variable {X : Cx} {W : WX} {a b c : Expr} {ta : DTA} {pos px py pz pt : Pos} {kt k2 pt2} {x y z : Str}
theorem s_par2 (i j : Nat) (g : Good X W) (hN : X.N.Nodup) (ha : DA X W [a, b] ta) (hi : X.N[i]? = some x := by rfl) (hj : X.N[j]? = some y := by rfl) (hij : i ≠ j := by decide) (hx : X.env.scope.names.lookup x = some .local := by rfl) (hy : X.env.scope.names.lookup y = some .local := by rfl)
    (hw : swappedStores [.Tuple [.Name x px, .Name y py] kt pt] (.Tuple [a, b] k2 pt2) X.env = pure (some [x, y]) := by rfl) (hs : swapsWithSole [.Tuple [.Name x px, .Name y py] kt pt] (.Tuple [a, b] k2 pt2) pos.line X.env = pure false := by rfl) :
    DSt X W (.Assign [.Tuple [.Name x px, .Name y py] kt pt] (.Tuple [a, b] k2 pt2) pos) (dPar2 i j ta) := ps_imp (ps_par g.calm hN hi hj hij hx hy ha hw hs) fun Dn σ H h => by
  obtain ⟨I, M, F, δ, Dd, hr, rs, q, f⟩ := h
  refine ⟨I, M, F, δ, _, _, hr, rs, q, fun ds M1 I1 H1 vs q1 s1 hr1 r1 => ?_, f.x rs⟩
  dsimp only at q1
  split at q1
  · obtain ⟨v1, vs1, rfl, ra, r1⟩ := (by cases r1 with | cons p q => exact ⟨_, _, rfl, p, q⟩ : ∃ v vs', vs = v :: vs' ∧ Rep X.K I1 v _ ∧ Reps X.K I1 vs' _)
    cases r1 with
    | cons rb r1 =>
      cases r1
      exact ⟨_, _, rfl, f.nx _ M1 I1 H1 _ q1 s1 hr1 (((rs.mono s1).set i ra).set j rb)⟩
  · exact q1.elim
theorem s_par3 (i j l : Nat) (g : Good X W) (hN : X.N.Nodup) (ha : DA X W [a, b, c] ta) (hi : X.N[i]? = some x := by rfl) (hj : X.N[j]? = some y := by rfl) (hl : X.N[l]? = some z := by rfl) (hij : i ≠ j := by decide) (hil : i ≠ l := by decide) (hjl : j ≠ l := by decide)
    (hx : X.env.scope.names.lookup x = some .local := by rfl) (hy : X.env.scope.names.lookup y = some .local := by rfl) (hz : X.env.scope.names.lookup z = some .local := by rfl)
    (hw : swappedStores [.Tuple [.Name x px, .Name y py, .Name z pz] kt pt] (.Tuple [a, b, c] k2 pt2) X.env = pure (some [x, y, z]) := by rfl) (hs : swapsWithSole [.Tuple [.Name x px, .Name y py, .Name z pz] kt pt] (.Tuple [a, b, c] k2 pt2) pos.line X.env = pure false := by rfl) :
    DSt X W (.Assign [.Tuple [.Name x px, .Name y py, .Name z pz] kt pt] (.Tuple [a, b, c] k2 pt2) pos) (dPar3 i j l ta) := ps_imp (ps_par3 g.calm hN hi hj hl hij hil hjl hx hy hz ha hw hs) fun Dn σ H h => by
  obtain ⟨I, M, F, δ, Dd, hr, rs, q, f⟩ := h
  refine ⟨I, M, F, δ, _, _, hr, rs, q, fun ds M1 I1 H1 vs q1 s1 hr1 r1 => ?_, f.x rs⟩
  dsimp only at q1
  split at q1
  · cases r1 with
    | cons ra r1 =>
      cases r1 with
      | cons rb r1 =>
        cases r1 with
        | cons rc r1 =>
          cases r1
          exact ⟨_, _, _, rfl, f.nx _ M1 I1 H1 _ q1 s1 hr1 ((((rs.mono s1).set i ra).set j rb).set l rc)⟩
  · exact q1.elim
end
end DL

set_option Elab.async false
set_option linter.all false
set_option maxRecDepth 100000
set_option maxHeartbeats 2000000
namespace DL
open PySem PySem.Spec L2
/-! ## how long a repr may be -/
mutual
def cst : PyData → Nat
  | .none => 4
  | .bool _ => 5
  | .int _ => 1921
  | .str x => 10 * x.length + 2
  | .list xs => csts xs + 3
  | .tuple xs => csts xs + 3
  | .dict _ => 0
def csts : List PyData → Nat
  | [] => 0
  | x :: r => cst x + 2 + csts r
end
mutual
def strsOk : PyData → Prop
  | .str x => ∀ c ∈ x.cps.toList, c < 0x110000
  | .list xs => strssOk xs
  | .tuple xs => strssOk xs
  | .dict _ => False
  | _ => True
def strssOk : List PyData → Prop
  | [] => True
  | x :: r => strsOk x ∧ strssOk r
end
theorem shown_cst (p : PyData) : p.showable = true → strsOk p → p.shown.length ≤ cst p := by
  refine PyData.rec (motive_1 := fun p => p.showable = true → strsOk p → p.shown.length ≤ cst p)
    (motive_2 := fun ps => PyData.showableAll ps = true → strssOk ps → ((PyData.shownAll ps).map (·.length)).sum + 2 * (PyData.shownAll ps).length ≤ csts ps) (motive_3 := fun _ => True) (motive_4 := fun _ => True) ?_ ?_ ?_ ?_ ?_ ?_ ?_ ?_ ?_ ?_ ?_ ?_ p
  · intro _ _; decide
  · intro b _ _; cases b <;> decide
  · intro i h _
    have h : i.natAbs.log2 < 1920 := by simpa [PyData.showable] using h
    exact PyProof.Rows.int_text_len_1921 h
  · intro x _ h
    have := StrLaws.reprText_len x (fun c hc => Nat.lt_trans (h c hc) (by decide))
    show (reprText x).length ≤ 10 * x.length + 2
    omega
  · intro xs ih h ok
    have h' : PyData.showableAll xs = true := by simpa [PyData.showable] using h
    have z := listText_len_le (PyData.shownAll xs)
    have y := ih h' ok
    show (listText (PyData.shownAll xs)).length ≤ csts xs + 3
    omega
  · intro xs ih h ok
    have h' : PyData.showableAll xs = true := by simpa [PyData.showable] using h
    have z := tupleText_len_le (PyData.shownAll xs)
    have y := ih h' ok
    show (tupleText (PyData.shownAll xs)).length ≤ csts xs + 3
    omega
  · intro kvs _ _ h; exact h.elim
  · intro _ _; exact Nat.le_refl 0
  · intro x r ih1 ih2 h ok
    have h' : x.showable = true ∧ PyData.showableAll r = true := by simpa [PyData.showableAll] using h
    have y1 := ih1 h'.1 ok.1
    have y2 := ih2 h'.2 ok.2
    show ((x.shown :: PyData.shownAll r).map (·.length)).sum + 2 * (x.shown :: PyData.shownAll r).length ≤ cst x + 2 + csts r
    simp only [List.map_cons, List.sum_cons, List.length_cons]
    omega
  all_goals intros; trivial
end DL

set_option Elab.async false
set_option linter.all false
set_option maxRecDepth 100000
set_option maxHeartbeats 2000000
namespace DL
open PySem PySem.Spec PyProof.Rows L2
section
variable {X : Cx} {W : WX} {e : Expr} {es : List Expr} {kws : List Keyword} {ta tk : DTA} {pos p : Pos} {x : Str} {ps : List Str} {sp : DSp} {k : Nat}
/-! ## keyword calls, the pattern by its parts -/
theorem d_kw (i : Nat) {pats : List Pat} {n m : Nat} {ks : List Str} {gg : List D → List D → List D} (Fx : FnK X.prog X.w X.K X.mg X.base k x ps sp pats) (g : Good X W) (rm : Room k X.A) (ha : DA X W (e :: es) ta) (hkw : DKw X W kws tk) (hi : pats[i]? = some ⟨n, ks, gg⟩ := by rfl) (hl : ks.length = m := by rfl) (hg : Gl X x := by rfl)
    (hall : (backToKw pos (keywordEach kws X.env)).all (·.1.isSome) = true := by rfl) (hks : (backToKw pos (keywordEach kws X.env)).filterMap (·.1) = ks := by rfl)
    (hdb : (x == ("__debug__" : Str)) = false := by decide) (he : starEach (e :: es) X.env = (false, eval e X.env) :: starEach es X.env := by rfl)
    (hpl : ((backTo pos (starEach (e :: es) X.env)).any (·.1) || (backToKw pos (keywordEach kws X.env)).any (·.1.isNone)) = false := by rfl) : DE X W (.Call (.Name x p) (e :: es) kws pos) (dCallK n m sp gg ta tk) := by
  subst hl
  exact d_callK (pt := ⟨n, ks, gg⟩) i Fx g rm ha hkw hi hg hall hks hdb he hpl
theorem d_kw0 (i : Nat) {pats : List Pat} {n m : Nat} {ks : List Str} {gg : List D → List D → List D} (Fx : FnK X.prog X.w X.K X.mg X.base k x ps sp pats) (g : Good X W) (rm : Room k X.A) (hkw : DKw X W kws tk) (hi : pats[i]? = some ⟨n, ks, gg⟩ := by rfl) (hl : ks.length = m := by rfl) (hg : Gl X x := by rfl)
    (hall : (backToKw pos (keywordEach kws X.env)).all (·.1.isSome) = true := by rfl) (hks : (backToKw pos (keywordEach kws X.env)).filterMap (·.1) = ks := by rfl)
    (hdb : (x == ("__debug__" : Str)) = false := by decide) (hpl : ((backTo pos (starEach [] X.env)).any (·.1) || (backToKw pos (keywordEach kws X.env)).any (·.1.isNone)) = false := by rfl) : DE X W (.Call (.Name x p) [] kws pos) (dCallK n m sp gg dNil tk) := by
  subst hl
  exact d_callK0 (pt := ⟨n, ks, gg⟩) i Fx g rm hkw hi hg hall hks hdb hpl
end
end DL

set_option Elab.async false
set_option linter.all false
set_option maxRecDepth 100000
namespace K02
open PySem L2 DL
def pg_number_of_0 : List D → List D → List D := fun ds es => match ds, es with
  | [a0], [b0, b1] => [a0, b0, b1]
  | _, _ => []
def pg_number_of_1 : List D → List D → List D := fun ds es => match ds, es with
  | [a0], [b0] => [a0, (.int 0), b0]
  | _, _ => []
def pg_number_of_2 : List D → List D → List D := fun ds es => match ds, es with
  | [a0], [b0] => [a0, b0, (.int 1000000)]
  | _, _ => []
def pg_number_of_3 : List D → List D → List D := fun ds es => match ds, es with
  | [a0], [] => [a0, (.int 0), (.int 1000000)]
  | _, _ => []
def pg_number_of_4 : List D → List D → List D := fun ds es => match ds, es with
  | [a0], [b0, b1] => [a0, b1, b0]
  | _, _ => []
def pg_number_of_5 : List D → List D → List D := fun ds es => match ds, es with
  | [], [b0, b1, b2] => [b1, b2, b0]
  | _, _ => []
def t_number_of : DTS :=
  dSeq (dIf (dOr (dNot (dTruth (dIsi .str (dVar 0)))) (dNot (dTest (dChain dLe dLe (dC (.int 1)) (dCB dLen (dCons (dVar 0) (dNil))) (dC (.int 10)))))) (dRet (dC .non)) (dNext))
  (dSeq (dIf (dOr (dNot (dTruth (dCB dAll (dCons (dLc (iS (dVar 0)) (.one 4) dYes (dOp dInS (dVar 4) (dC (.str "0123456789"))) [4]) (dNil))))) (dAnd (dTest (dOp dNe (dVar 0) (dC (.str "0")))) (dTest (dOp dEq (dOp dIx (dVar 0) (dC (.int 0))) (dC (.str "0")))))) (dRet (dC .non)) (dNext))
  (dSeq (dAsg (dCB dIntS (dCons (dVar 0) (dNil))) (gdName 3))
  (dRet (dIfE (dTest (dChain dLe dLe (dVar 1) (dVar 3) (dVar 2))) (dVar 3) (dC .non)))))
abbrev N_number_of : List Str := ["thing", "least", "most", "number", "sign"]
def t__law_cell : DTS :=
  dSeq (dIf (dTest (dOp dLt (dVar 1) (dCB dLen (dCons (dVar 0) (dNil))))) (dRet (dOp dIx (dVar 0) (dVar 1))) (dNext))
  (dRet (dOp dAdd (dOp dAdd (dOp dMul (dC (.int 104729)) (dVar 1)) (dC (.int 71))) (dOp dMod (dCB dSum (dCons (dSl (dVar 0) (oNone) (oSome (dC (.int 1)))) (dNil))) (dC (.int 1000003)))))
abbrev N__law_cell : List Str := ["_law_script", "_law_k"]
def t__law_bag : DTS :=
  dRet (dLstM (dCons (dCB dMax (dCons (dC (.int 0)) (dCons (dOp dSub (dVar 0) (dOp dPow (dC (.int 10)) (dC (.int 18)))) (dNil)))) (dCons (dOp dMod (dVar 0) (dC (.int 2147483629))) (dCons (dC (.int 0)) (dNil)))))
abbrev N__law_bag : List Str := ["_law_cell_here"]
def t__law_take : DTS :=
  dSeq (dIf (dTest (dOp dGt (dOp dIx (dVar 0) (dC (.int 0))) (dC (.int 0)))) (dSeq (dAsg (dOp dMod (dOp dIx (dVar 0) (dC (.int 0))) (dVar 1)) (gdName 2))
  (dSeq (dAsg (dOp dDiv (dOp dIx (dVar 0) (dC (.int 0))) (dVar 1)) (gdSubL (dVar 0) (dC (.int 0))))
  (dRet (dVar 2)))) (dNext))
  (dSeq (dAsg (dOp dAdd (dOp dIx (dVar 0) (dC (.int 2))) (dC (.int 1))) (gdSubL (dVar 0) (dC (.int 2))))
  (dSeq (dAsg (dOp dMod (dOp dPow (dOp dAdd (dOp dAdd (dOp dIx (dVar 0) (dC (.int 1))) (dOp dMul (dC (.int 7919)) (dOp dIx (dVar 0) (dC (.int 2))))) (dC (.int 2))) (dC (.int 5))) (dC (.int 2147483647))) (gdName 3))
  (dSeq (dAsg (dOp dMod (dOp dPow (dOp dAdd (dVar 3) (dOp dMul (dC (.int 15485863)) (dOp dIx (dVar 0) (dC (.int 2))))) (dC (.int 3))) (dC (.int 2147483587))) (gdName 3))
  (dRet (dOp dMod (dOp dDiv (dVar 3) (dC (.int 16))) (dVar 1))))))
abbrev N__law_take : List Str := ["_law_bag_here", "_law_below", "_law_digit", "_law_number"]
def b1__law_read : DTS :=
  dSeq (dIf (dTest (dOp dNotInS (dVar 2) (dC (.str "0123456789")))) (dRet (dC .non)) (dNext))
  (dAsg (dOp dAdd (dOp dMul (dC (.int 10)) (dVar 1)) (dM1 rdIndex (dC (.str "0123456789")) (dVar 2))) (gdName 1))
def t__law_read : DTS :=
  dSeq (dIf (dOr (dNot (dTruth (dIsi .str (dVar 0)))) (dOr (dTest (dOp dEq (dVar 0) (dC (.str "")))) (dAnd (dTest (dOp dEq (dOp dIx (dVar 0) (dC (.int 0))) (dC (.str "0")))) (dTest (dOp dNe (dVar 0) (dC (.str "0"))))))) (dRet (dC .non)) (dNext))
  (dSeq (dAsg (dC (.int 0)) (gdName 1))
  (dSeq (dFor (iS (dVar 0)) (gdName 2) (b1__law_read))
  (dRet (dVar 1))))
abbrev N__law_read : List Str := ["_law_one", "_law_found", "_law_sign"]
def t__law_text (sp__law_take : DSp) : DTS :=
  dSeq (dAsg (dC (.str " abcXYZ0123456789!\"#$&'()*+,-./:;<=>?\x40[\\]^_`{|}~\n")) (gdName 1))
  (dSeq (dAsg (dOp dIx (dLst (dCons (dOp dAdd (dC (.int 1)) (dCall sp__law_take (dCons (dVar 0) (dCons (dC (.int 12)) (dNil))))) (dCons (dC (.int 1)) (dCons (dC (.int 30)) (dCons (dC (.int 7)) (dNil)))))) (dCall sp__law_take (dCons (dVar 0) (dCons (dC (.int 4)) (dNil))))) (gdName 2))
  (dSeq (dAsg (dJoin (dC (.str "")) (dLc (iR1 (dCons (dVar 2) (dNil))) (.one 6) dYes (dOp dIx (dC (.str "0123456789")) (dCall sp__law_take (dCons (dVar 0) (dCons (dC (.int 10)) (dNil))))) [6])) (gdName 3))
  (dSeq (dAsg (dOp dIx (dLst (dCons (dVar 3) (dCons (dC (.str "1000000")) (dCons (dC (.str "1000001")) (dCons (dC (.str "1000000000")) (dCons (dC (.str "0")) (dCons (dM1 rdLstrip (dVar 3) (dC (.str "0"))) (dNil)))))))) (dCall sp__law_take (dCons (dVar 0) (dCons (dC (.int 6)) (dNil))))) (gdName 3))
  (dSeq (dAsg (dCall sp__law_take (dCons (dVar 0) (dCons (dOp dAdd (dCB dLen (dCons (dVar 3) (dNil))) (dC (.int 1))) (dNil)))) (gdName 4))
  (dSeq (dAsg (dCall sp__law_take (dCons (dVar 0) (dCons (dC (.int 6)) (dNil)))) (gdName 5))
  (dSeq (dIf (dTest (dOp dEq (dVar 5) (dC (.int 0)))) (dRet (dOp dAdd (dOp dAdd (dSl (dVar 3) (oNone) (oSome (dVar 4))) (dOp dIx (dVar 1) (dCall sp__law_take (dCons (dVar 0) (dCons (dCB dLen (dCons (dVar 1) (dNil))) (dNil)))))) (dSl (dVar 3) (oSome (dVar 4)) (oNone)))) (dNext))
  (dSeq (dIf (dTest (dOp dEq (dVar 5) (dC (.int 1)))) (dRet (dOp dAdd (dOp dAdd (dSl (dVar 3) (oNone) (oSome (dVar 4))) (dOp dIx (dVar 1) (dCall sp__law_take (dCons (dVar 0) (dCons (dCB dLen (dCons (dVar 1) (dNil))) (dNil)))))) (dSl (dVar 3) (oSome (dOp dAdd (dVar 4) (dC (.int 1)))) (oNone)))) (dNext))
  (dSeq (dIf (dTest (dOp dEq (dVar 5) (dC (.int 2)))) (dRet (dOp dAdd (dOp dIx (dLst (dCons (dC (.str "0")) (dCons (dC (.str "-")) (dCons (dC (.str "+")) (dCons (dC (.str "00")) (dNil)))))) (dCall sp__law_take (dCons (dVar 0) (dCons (dC (.int 4)) (dNil))))) (dVar 3))) (dNext))
  (dRet (dVar 3))))))))))
abbrev N__law_text : List Str := ["_law_bag_here", "_law_signs", "_law_size", "_law_text_here", "_law_at", "_law_way", "_law_k"]
def t__law_bound (sp__law_take : DSp) : DTS :=
  dSeq (dAsg (dLstM (dCons (dC (.int 0)) (dCons (dC (.int 1)) (dCons (dC (.int 1000000)) (dCons (dOp dPow (dC (.int 10)) (dC (.int 9))) (dCons (dCall sp__law_take (dCons (dVar 0) (dCons (dOp dAdd (dOp dPow (dC (.int 10)) (dC (.int 9))) (dC (.int 1))) (dNil)))) (dNil))))))) (gdName 2))
  (dSeq (dIf (dTest (dOp dIsNot (dVar 1) (dC .non))) (dDrop (dAppend (dVar 2) (dCB dMax (dCons (dC (.int 0)) (dCons (dCB dMin (dCons (dOp dPow (dC (.int 10)) (dC (.int 9))) (dCons (dOp dSub (dOp dAdd (dVar 1) (dCall sp__law_take (dCons (dVar 0) (dCons (dC (.int 3)) (dNil))))) (dC (.int 1))) (dNil)))) (dNil)))))) (dNext))
  (dRet (dOp dIx (dVar 2) (dCall sp__law_take (dCons (dVar 0) (dCons (dCB dLen (dCons (dVar 2) (dNil))) (dNil)))))))
abbrev N__law_bound : List Str := ["_law_bag_here", "_law_near", "_law_some"]
def t__law_between : DTS :=
  dRet (dIfE (dAnd (dTest (dOp dIsNot (dVar 0) (dC .non))) (dTest (dChain dLe dLe (dVar 1) (dVar 0) (dVar 2)))) (dVar 0) (dC .non))
abbrev N__law_between : List Str := ["_law_number", "_law_low", "_law_high"]
def b3_law (sp_number_of : DSp) : DTS :=
  dSeq (dAsg (dLst (dCons (dCallK 1 2 sp_number_of pg_number_of_0 (dCons (dVar 4) (dNil)) (dCons (dVar 6) (dCons (dVar 7) (dNil)))) (dCons (dCallK 1 1 sp_number_of pg_number_of_1 (dCons (dVar 4) (dNil)) (dCons (dVar 7) (dNil))) (dNil)))) (gdName 10))
  (dSeq (dAsg (dOp dAdd (dVar 10) (dLst (dCons (dCallK 1 1 sp_number_of pg_number_of_2 (dCons (dVar 4) (dNil)) (dCons (dVar 6) (dNil))) (dCons (dCallK 1 0 sp_number_of pg_number_of_3 (dCons (dVar 4) (dNil)) (dNil)) (dCons (dCallK 1 2 sp_number_of pg_number_of_4 (dCons (dVar 4) (dNil)) (dCons (dVar 6) (dCons (dVar 7) (dNil)))) (dNil)))))) (gdName 10))
  (dIf (dOr (dTest (dOp dNe (dCB dRepr (dCons (dVar 10) (dNil))) (dCB dRepr (dCons (dVar 8) (dNil))))) (dTest (dOp dNe (dCallK 0 3 sp_number_of pg_number_of_5 dNil (dCons (dVar 7) (dCons (dVar 4) (dCons (dVar 6) (dNil))))) (dOp dIx (dVar 8) (dC (.int 0)))))) (dRet (dC (.bl false))) (dNext)))
def b2_law (sp__law_read : DSp) (sp__law_bound : DSp) (sp__law_between : DSp) (sp_number_of : DSp) : DTS :=
  dSeq (dAsg (dCall sp__law_read (dCons (dVar 4) (dNil))) (gdName 5))
  (dSeq (dPar2 6 7 (dCons (dCall sp__law_bound (dCons (dVar 2) (dCons (dVar 5) (dNil)))) (dCons (dCall sp__law_bound (dCons (dVar 2) (dCons (dVar 5) (dNil)))) (dNil))))
  (dSeq (dAsg (dLst (dCons (dCall sp__law_between (dCons (dVar 5) (dCons (dVar 6) (dCons (dVar 7) (dNil))))) (dCons (dCall sp__law_between (dCons (dVar 5) (dCons (dC (.int 0)) (dCons (dVar 7) (dNil))))) (dCons (dCall sp__law_between (dCons (dVar 5) (dCons (dVar 6) (dCons (dC (.int 1000000)) (dNil))))) (dNil))))) (gdName 8))
  (dSeq (dAsg (dOp dAdd (dVar 8) (dLst (dCons (dCall sp__law_between (dCons (dVar 5) (dCons (dC (.int 0)) (dCons (dC (.int 1000000)) (dNil))))) (dCons (dCall sp__law_between (dCons (dVar 5) (dCons (dVar 7) (dCons (dVar 6) (dNil))))) (dNil))))) (gdName 8))
  (dFor (iR1 (dCons (dC (.int 2)) (dNil))) (gdName 9) (b3_law sp_number_of)))))
def b1_law (sp__law_bag : DSp) (sp__law_cell : DSp) (sp__law_take : DSp) (sp__law_text : DSp) (sp__law_read : DSp) (sp__law_bound : DSp) (sp__law_between : DSp) (sp_number_of : DSp) : DTS :=
  dSeq (dAsg (dCall sp__law_bag (dCons (dCall sp__law_cell (dCons (dVar 0) (dCons (dVar 1) (dNil)))) (dNil))) (gdName 2))
  (dSeq (dAsg (dOp dIx (dLst (dCons (dC .non) (dCons (dC (.int 0)) (dCons (dC (.int 7)) (dCons (dC (.bl true)) (dCons (dLst (dNil)) (dCons (dTup (dNil)) (dCons (dDict0) (dCons (dLst (dCons (dC (.str "1")) (dNil))) (dCons (dTup (dCons (dC (.str "1")) (dNil))) (dCons (dNeg (dC (.int 1))) (dNil)))))))))))) (dCall sp__law_take (dCons (dVar 2) (dCons (dC (.int 10)) (dNil))))) (gdName 3))
  (dFor (iL (dLst (dCons (dCall sp__law_text (dCons (dVar 2) (dNil))) (dCons (dVar 3) (dCons (dCall sp__law_text (dCons (dVar 2) (dNil))) (dNil)))))) (gdName 4) (b2_law sp__law_read sp__law_bound sp__law_between sp_number_of)))
def t_law (sp__law_bag : DSp) (sp__law_cell : DSp) (sp__law_take : DSp) (sp__law_text : DSp) (sp__law_read : DSp) (sp__law_bound : DSp) (sp__law_between : DSp) (sp_number_of : DSp) : DTS :=
  dSeq (dFor (iR1 (dCons (dCB dMax (dCons (dC (.int 2)) (dCons (dCB dMin (dCons (dC (.int 20)) (dCons (dCB dLen (dCons (dVar 0) (dNil))) (dNil)))) (dNil)))) (dNil))) (gdName 1) (b1_law sp__law_bag sp__law_cell sp__law_take sp__law_text sp__law_read sp__law_bound sp__law_between sp_number_of))
  (dRet (dOp dEq (dC (.int 1000000)) (dC (.int 1000000))))
abbrev N_law : List Str := ["_law_script", "_law_k", "_law_bag_here", "_law_odd", "_law_one", "_law_number", "_law_low", "_law_high", "_law_due", "_law_turn", "_law_found"]
end K02

set_option Elab.async false
set_option linter.all false
set_option maxRecDepth 100000
namespace K02
open PySem L2 DL
def Bag (M : Mp) (b : Addr) (n : Nat) : Prop := ∃ x y z : Int, M b = some (.lst [.int x, .int y, .int z]) ∧ 0 ≤ y ∧ y < 2147483629 ∧ 0 ≤ z ∧ z ≤ n
def But (b : Addr) (M M' : Mp) : Prop := ∀ a o, a ≠ b → M a = some o → M' a = some o
def ends (Qd : DK) (Ed : DXK) : DEnds := { nx := fun _ M' => Qd .non M', rt := Qd, ex := fun c fo _ M' => Ed c fo M' }
def sp__law_take : DSp := fun ds M Q _ => ∃ (b : Addr) (w : Int) (n : Nat), ds = [.ref b, .int w] ∧ Bag M b n ∧ n < 1000000 ∧ 0 < w ∧ w ≤ 10 ^ 30 ∧ ∀ M' d, But b M M' → Bag M' b (n + 1) → 0 ≤ d → d < w → Q (.int d) M'
def sp__law_bag : DSp := fun ds M Q _ => ∃ (c : Int), ds = [.int c] ∧ ∀ b M', M b = none → But b M M' → Bag M' b 0 → Q (.ref b) M'
def sp__law_cell : DSp := fun ds M Q _ => ∃ (ns : List Int) (k : Int), ds = [.sq (ns.map D.int), .int k] ∧ 0 ≤ k ∧ k < 100 ∧ ns.length ≤ 63 ∧ ∀ i, Q (.int i) M
theorem len__law_take : ∀ ds M Q E, sp__law_take ds M Q E → ds.length = 2 := fun _ _ _ _ h => by obtain ⟨_, _, _, rfl, _⟩ := h; rfl
theorem len__law_bag : ∀ ds M Q E, sp__law_bag ds M Q E → ds.length = 1 := fun _ _ _ _ h => by obtain ⟨_, rfl, _⟩ := h; rfl
theorem len__law_cell : ∀ ds M Q E, sp__law_cell ds M Q E → ds.length = 2 := fun _ _ _ _ h => by obtain ⟨_, _, rfl, _⟩ := h; rfl
abbrev sg1 (c : Nat) : Str := ⟨#[c]⟩
theorem But.refl (b : Addr) (M : Mp) : But b M M := fun _ _ _ e => e
theorem But.trans {b : Addr} {M M1 M2 : Mp} (h : But b M M1) (k : But b M1 M2) : But b M M2 := fun a o n e => k a o n (h a o n e)
theorem Bag.mono {M : Mp} {b : Addr} {n m : Nat} (h : Bag M b n) (l : n ≤ m) : Bag M b m := by
  obtain ⟨x, y, z, a, b, c, d, e⟩ := h
  exact ⟨x, y, z, a, b, c, d, by omega⟩
theorem at_some {α : Type} {xs : List α} {i : Int} (h0 : 0 ≤ i) (h1 : i < xs.length) : ∃ d, atI xs i = some d ∧ d ∈ xs := by
  obtain ⟨j, rfl⟩ := Int.eq_ofNat_of_zero_le h0
  have hj : j < xs.length := by omega
  exact ⟨xs[j], atI_nat (List.getElem?_eq_getElem hj), List.getElem_mem hj⟩
theorem cut_map {ns : List Int} {lo hi : Option Int} : ∃ ms : List Int, cutD (ns.map D.int) lo hi = ms.map D.int := by
  unfold cutD
  exact ⟨_, by rw [← List.map_drop, ← List.map_take]⟩
theorem cdiv {i w : Int} (h0 : 0 < w) (h1 : w ≤ 10 ^ 30) : CDivW i w := wide_div (b := 100) h0 (by
  have e : w.natAbs ≤ 10 ^ 30 := by omega
  exact Nat.lt_of_le_of_lt e (by decide)) (by decide) (by decide)
theorem cpow {i : Int} {k : Int} (h0 : 0 ≤ i) (h1 : i < 2 ^ 60) (h2 : 0 ≤ k) (h3 : k ≤ 10) : CPow i k := ⟨h2, by omega, by omega⟩
theorem cmul {i j : Int} (h0 : 0 ≤ i) (h1 : i < 2 ^ 30) (h2 : -(2 ^ 120) < j) (h3 : j < 2 ^ 120) : CMulW i j := wide_mul (a := 30) (b := 120) (by omega) (by omega) (by decide) (by decide) (by decide)
theorem rd__law_bag : ∀ ds M Qd Ed, sp__law_bag ds M Qd Ed → t__law_bag (ends Qd Ed) (dstart N__law_bag ds) M := by
  intro ds M Qd Ed h
  obtain ⟨c, rfl, q⟩ := h
  refine ⟨_, rfl, ⟨by decide, by decide, by decide⟩, _, rfl, (by show (0 : Int) < 2147483629; decide), (by show 3 ≤ sizeLine; decide), fun p hp => ?_⟩
  refine q p _ hp (fun a o ne e => by rw [updM_ne ne]; exact e) ⟨_, _, _, updM_same, ?_, ?_, by decide, by decide⟩
  · exact Int.emod_nonneg _ (by decide)
  · exact Int.emod_lt_of_pos _ (by decide)
theorem rd__law_take : ∀ ds M Qd Ed, sp__law_take ds M Qd Ed → t__law_take (ends Qd Ed) (dstart N__law_take ds) M := by
  intro ds M Qd Ed h
  obtain ⟨b, w, n, rfl, ⟨x, y, z, hb, y0, y1, z0, z1⟩, hn, w0, w1, q⟩ := h
  refine ⟨_, rfl, _, hb, _, rfl, ?_⟩
  refine br2 (fun e => ?_) (fun e => ?_)
  · refine ⟨_, rfl, _, hb, _, rfl, _, rfl, w0, ?_⟩
    refine ⟨_, rfl, _, hb, _, rfl, _, rfl, cdiv w0 w1, ?_⟩
    refine ⟨_, rfl, _, hb, _, rfl, _, rfl, ?_⟩
    exact q _ _ (fun a o ne e => by rw [updM_ne ne]; exact e) ⟨_, _, _, updM_same, y0, y1, z0, by omega⟩ (Int.emod_nonneg _ (by omega)) (Int.emod_lt_of_pos _ w0)
  · refine ⟨_, rfl, _, hb, _, rfl, ?_⟩
    refine ⟨_, rfl, _, hb, _, rfl, ?_⟩
    have hb2 : updM M b (.lst [.int x, .int y, .int (z + 1)]) b = some (.lst [.int x, .int y, .int (z + 1)]) := updM_same
    refine ⟨_, rfl, _, hb2, _, rfl, _, rfl, _, hb2, _, rfl, cmul (by decide) (by decide) (by omega) (by omega), ?_⟩
    refine ⟨cpow (by omega) (by omega) (by decide) (by decide), (by show (0 : Int) < 2147483647; decide), ?_⟩
    have r1 : ∀ t : Int, 0 ≤ t % 2147483647 ∧ t % 2147483647 < 2147483647 := fun t => ⟨Int.emod_nonneg _ (by decide), Int.emod_lt_of_pos _ (by decide)⟩
    generalize hm : (y + 7919 * (z + 1) + 2) ^ (5 : Int).toNat % 2147483647 = m
    have hm2 : 0 ≤ m ∧ m < 2147483647 := by rw [← hm]; exact r1 _
    refine ⟨_, rfl, _, rfl, _, hb2, _, rfl, cmul (by decide) (by decide) (by omega) (by omega), ?_⟩
    refine ⟨cpow (by omega) (by omega) (by decide) (by decide), (by show (0 : Int) < 2147483587; decide), ?_⟩
    refine ⟨_, rfl, cdiv (by decide) (by decide), _, rfl, w0, ?_⟩
    exact q _ _ (fun a o ne e => by rw [updM_ne ne]; exact e) ⟨_, _, _, updM_same, y0, y1, by omega, by omega⟩ (Int.emod_nonneg _ (by omega)) (Int.emod_lt_of_pos _ w0)
theorem rd__law_cell : ∀ ds M Qd Ed, sp__law_cell ds M Qd Ed → t__law_cell (ends Qd Ed) (dstart N__law_cell ds) M := by
  intro ds M Qd Ed h
  obtain ⟨ns, k, rfl, k0, k1, hl, q⟩ := h
  refine ⟨_, rfl, _, rfl, ?_⟩
  refine br2 (fun e => ?_) (fun e => ?_)
  · have e := of_decide_eq_true e
    obtain ⟨d, h1, h2⟩ := at_some k0 e
    obtain ⟨i, _, rfl⟩ := List.mem_map.mp h2
    exact ⟨_, rfl, _, rfl, _, h1, q i⟩
  · refine ⟨_, rfl, cmul (by decide) (by decide) (by omega) (by omega), _, rfl, ?_⟩
    obtain ⟨ms, hm⟩ := cut_map (ns := ns) (lo := none) (hi := some 1)
    exact ⟨ms, hm, (by show (0 : Int) < 1000003; decide), q _⟩
theorem Bag.upd {M : Mp} {b r : Addr} {n : Nat} {o : MO} (h : Bag M b n) (ne : b ≠ r) : Bag (updM M r o) b n := by
  obtain ⟨x, y, z, a, t⟩ := h
  exact ⟨x, y, z, by rw [updM_ne ne]; exact a, t⟩
theorem But.new {b r : Addr} {M : Mp} {o : MO} (h : M r = none) : But b M (updM M r o) := fun a u _ e => by
  rw [updM_ne (fun z => by rw [z, h] at e; cases e)]; exact e
theorem Bag.at {M : Mp} {b r : Addr} {n : Nat} (h : Bag M b n) (hr : M r = none) : b ≠ r := fun z => by
  obtain ⟨x, y, w, a, t⟩ := h
  rw [z, hr] at a
  cases a
theorem ix_nn {n : Nat} {i : Int} (h0 : 0 ≤ i) (h1 : i < n) : ixN n i = some i.toNat := by
  unfold ixN
  rw [if_pos h0, if_pos h1]
theorem num_log {i : Int} (h0 : -(10 ^ 29) ≤ i) (h1 : i ≤ 10 ^ 29) : i.natAbs.log2 < 1920 := by
  have h : i.natAbs < 2 ^ 1920 := Nat.lt_of_le_of_lt (by omega : i.natAbs ≤ 10 ^ 29) (by decide +kernel)
  by_cases z : i.natAbs = 0
  · rw [z]; decide
  · exact (Nat.log2_lt z).mpr h
end K02

set_option Elab.async false
set_option linter.all false
set_option maxRecDepth 100000
namespace K02
open PySem L2 DL
/-- the things that are asked about -/
def Th : D → Prop
  | .non => True | .bl _ => True | .int _ => True | .str s => s.length ≤ 100 | .lst _ => True | .tup _ => True | .dct _ => True
  | _ => False
def isDig (c : Nat) : Bool := decide (48 ≤ c) && decide (c ≤ 57)
def val (cs : List Nat) : Int := cs.foldl (fun (a : Int) c => 10 * a + ((c - 48 : Nat) : Int)) 0
def readC (cs : List Nat) : Option Int := if cs = [] ∨ (cs.head? = some 48 ∧ cs ≠ [48]) then none else if cs.all isDig = true then some (val cs) else none
def numD : D → Option Int
  | .str s => readC s.cps.toList
  | _ => none
def optD : Option Int → D
  | none => .non
  | some n => .int n
def betw (o : Option Int) (l h : Int) : Option Int := match o with
  | some n => if l ≤ n ∧ n ≤ h then some n else none
  | none => none
def sp__law_read : DSp := fun ds M Q _ => ∃ d, ds = [d] ∧ Th d ∧ Q (optD (numD d)) M
def sp__law_between : DSp := fun ds M Q _ => ∃ (o : Option Int) (l h : Int), ds = [optD o, .int l, .int h] ∧ Q (optD (betw o l h)) M
def sp_number_of : DSp := fun ds M Q _ => ∃ (d : D) (l h : Int), ds = [d, .int l, .int h] ∧ Th d ∧ h ≤ 10 ^ 9 ∧ Q (optD (betw (numD d) l h)) M
def sp__law_bound : DSp := fun ds M Q _ => ∃ (b : Addr) (o : Option Int) (n : Nat), ds = [.ref b, optD o] ∧ Bag M b n ∧ n < 900000 ∧ ∀ M' i, But b M M' → Bag M' b (n + 5) → 0 ≤ i → i ≤ 10 ^ 9 → Q (.int i) M'
def sp__law_text : DSp := fun ds M Q _ => ∃ (b : Addr) (n : Nat), ds = [.ref b] ∧ Bag M b n ∧ n < 900000 ∧ ∀ M' s, But b M M' → Bag M' b (n + 60) → s.length ≤ 100 → Q (.str s) M'
def sp_law : DSp := fun ds M Q _ => ∃ (ns : List Int), ds = [.sq (ns.map D.int)] ∧ ns.length ≤ 63 ∧ ∀ M', Q (.bl true) M'
theorem len__law_read : ∀ ds M Q E, sp__law_read ds M Q E → ds.length = 1 := fun _ _ _ _ h => by obtain ⟨_, rfl, _⟩ := h; rfl
theorem len__law_between : ∀ ds M Q E, sp__law_between ds M Q E → ds.length = 3 := fun _ _ _ _ h => by obtain ⟨_, _, _, rfl, _⟩ := h; rfl
theorem len_number_of : ∀ ds M Q E, sp_number_of ds M Q E → ds.length = 3 := fun _ _ _ _ h => by obtain ⟨_, _, _, rfl, _⟩ := h; rfl
theorem len__law_bound : ∀ ds M Q E, sp__law_bound ds M Q E → ds.length = 2 := fun _ _ _ _ h => by obtain ⟨_, _, _, rfl, _⟩ := h; rfl
theorem len__law_text : ∀ ds M Q E, sp__law_text ds M Q E → ds.length = 1 := fun _ _ _ _ h => by obtain ⟨_, _, rfl, _⟩ := h; rfl
theorem len_law : ∀ ds M Q E, sp_law ds M Q E → ds.length = 1 := fun _ _ _ _ h => by obtain ⟨_, rfl, _⟩ := h; rfl
end K02

set_option Elab.async false
set_option linter.all false
set_option maxRecDepth 100000
namespace K02
open PySem L2 DL
theorem rd__law_between : ∀ ds M Qd Ed, sp__law_between ds M Qd Ed → t__law_between (ends Qd Ed) (dstart N__law_between ds) M := by
  intro ds M Qd Ed h
  obtain ⟨o, l, h, rfl, q⟩ := h
  cases o with
  | none => exact ⟨_, rfl, q⟩
  | some n =>
    refine ⟨_, rfl, _, rfl, _, rfl, ?_⟩
    refine br2 (fun e => ?_) (fun e => ?_)
    · have e := of_decide_eq_true e
      refine ⟨_, rfl, ?_⟩
      refine br2 (fun e2 => ?_) (fun e2 => ?_)
      · have e2 := of_decide_eq_true e2
        rw [show betw (some n) l h = some n from if_pos ⟨e, e2⟩] at q
        exact ⟨_, rfl, q⟩
      · have e2 := of_decide_eq_false e2
        rw [show betw (some n) l h = none from if_neg (fun z => e2 z.2)] at q
        exact q
    · have e := of_decide_eq_false e
      rw [show betw (some n) l h = none from if_neg (fun z => e z.1)] at q
      exact q
theorem figs : (("0123456789" : Str)).cps.toList = [48, 49, 50, 51, 52, 53, 54, 55, 56, 57] := by decide +kernel
theorem mem_figs {c : Nat} : c ∈ (("0123456789" : Str)).cps.toList ↔ isDig c = true := by
  rw [figs]
  simp only [List.mem_cons, List.mem_nil_iff, or_false, isDig, Bool.and_eq_true, decide_eq_true_eq]
  omega
theorem occ_figs {c : Nat} (h : isDig c = true) : ∃ rest, Builtin.Str.occurrences ("0123456789" : Str) (sg1 c) 0 (("0123456789" : Str)).length 1 = (c - 48) :: rest := by
  have h : 48 ≤ c ∧ c ≤ 57 := by simpa [isDig] using h
  rcases (by omega : c = 48 ∨ c = 49 ∨ c = 50 ∨ c = 51 ∨ c = 52 ∨ c = 53 ∨ c = 54 ∨ c = 55 ∨ c = 56 ∨ c = 57) with rfl | rfl | rfl | rfl | rfl | rfl | rfl | rfl | rfl | rfl <;> exact ⟨[], by decide +kernel⟩
def valF (a : Int) (cs : List Nat) : Int := cs.foldl (fun (a : Int) c => 10 * a + ((c - 48 : Nat) : Int)) a
theorem valF_bd : ∀ (cs : List Nat) (a : Int), cs.all isDig = true → 0 ≤ a → a * 10 ^ cs.length ≤ valF a cs ∧ valF a cs < (a + 1) * 10 ^ cs.length
  | [], a, _, h => by simp [valF]; omega
  | c :: r, a, hc, h => by
    simp only [List.all_cons, Bool.and_eq_true] at hc
    have hd : 48 ≤ c ∧ c ≤ 57 := by simpa [isDig] using hc.1
    have ih := valF_bd r (10 * a + ((c - 48 : Nat) : Int)) hc.2 (by omega)
    have e : valF a (c :: r) = valF (10 * a + ((c - 48 : Nat) : Int)) r := rfl
    rw [e, List.length_cons, Int.pow_succ]
    have p : (0 : Int) < 10 ^ r.length := Int.pow_pos (by decide)
    have d0 : 0 ≤ ((c - 48 : Nat) : Int) ∧ ((c - 48 : Nat) : Int) ≤ 9 := by omega
    generalize (10 : Int) ^ r.length = P at *
    generalize ((c - 48 : Nat) : Int) = d at *
    constructor
    · refine Int.le_trans ?_ ih.1
      have : a * (P * 10) = (10 * a) * P := by rw [Int.mul_comm P 10, ← Int.mul_assoc, Int.mul_comm a 10]
      rw [this]
      exact Int.mul_le_mul_of_nonneg_right (by omega) (by omega)
    · refine Int.lt_of_lt_of_le ih.2 ?_
      have : (a + 1) * (P * 10) = (10 * (a + 1)) * P := by rw [Int.mul_comm P 10, ← Int.mul_assoc, Int.mul_comm (a + 1) 10]
      rw [this]
      exact Int.mul_le_mul_of_nonneg_right (by omega) (by omega)
theorem pow100 {m : Nat} (h : m ≤ 100) : (10 : Int) ^ m ≤ 10 ^ 100 := by
  have : (10 : Nat) ^ m ≤ 10 ^ 100 := Nat.pow_le_pow_right (by decide) h
  exact_mod_cast this
theorem cmul10 {a : Int} (h0 : 0 ≤ a) (h1 : a < 10 ^ 100) : CMulW 10 a := wide_mul (a := 4) (b := 400) (by decide) (by
  have h : a.natAbs < 10 ^ 100 := by omega
  exact Nat.lt_of_lt_of_le h (by decide +kernel)) (by decide) (by decide) (by decide)
/-- the reading loop -/
theorem loop_read {one : D} {Qd : DK} {Ed : DXK} {M : Mp} : ∀ (cs : List Nat) (a : Int) (m : Nat) (s2 : Option D), 0 ≤ a → a < 10 ^ m → m + cs.length ≤ 100 → (if cs.all isDig = true then Qd (.int (valF a cs)) M else Qd .non M) →
    dLoop (gdName 2) b1__law_read .data (cs.map fun c => D.str (sg1 c)) { ends Qd Ed with nx := dRet (dVar 1) (ends Qd Ed) } [some one, some (.int a), s2] M
  | [], a, m, s2, _, _, _, q => ⟨_, rfl, q⟩
  | c :: r, a, m, s2, a0, a1, hl, q => by
    simp only [List.length_cons] at hl
    refine ⟨_, rfl, c, rfl, ?_⟩
    refine br2 (fun e => ?_) (fun e => ?_)
    · have e : ¬ c ∈ (("0123456789" : Str)).cps.toList := by simpa using e
      rw [mem_figs] at e
      rw [if_neg (by simp [e])] at q
      exact q
    · have e : c ∈ (("0123456789" : Str)).cps.toList := by simpa using e
      rw [mem_figs] at e
      obtain ⟨rest, oc⟩ := occ_figs e
      have hd : 48 ≤ c ∧ c ≤ 57 := by simpa [isDig] using e
      have a100 : a < 10 ^ 100 := Int.lt_of_lt_of_le a1 (pow100 (by omega))
      refine ⟨_, rfl, cmul10 a0 a100, _, rfl, c - 48, rest, oc, ?_⟩
      refine loop_read r (10 * a + ((c - 48 : Nat) : Int)) (m + 1) _ (by omega) ?_ (by omega) ?_
      · rw [Int.pow_succ]
        omega
      · rw [List.all_cons, e, Bool.true_and] at q
        exact q
theorem str_eq {s t : Str} : (s = t) ↔ s.cps.toList = t.cps.toList := ⟨fun e => by rw [e], fun e => by
  cases s; cases t
  congr 1
  exact Array.toList_inj.mp e⟩
theorem sg_eq {c : Nat} : (sg1 c = ("0" : Str)) ↔ c = 48 := by
  rw [str_eq, show (("0" : Str)).cps.toList = [48] from by decide +kernel]
  exact ⟨fun h => by simpa using h, fun h => by rw [h]⟩
theorem zero_eq {s : Str} : (s = ("0" : Str)) ↔ s.cps.toList = [48] := by
  rw [str_eq, show (("0" : Str)).cps.toList = [48] from by decide +kernel]
theorem nil_eq {s : Str} : (s = ("" : Str)) ↔ s.cps.toList = [] := by
  rw [str_eq, show (("" : Str)).cps.toList = [] from by decide +kernel]
theorem at_zero {c : Nat} {r : List Nat} : atI (c :: r) 0 = some c := by
  show atI (c :: r) ((0 : Nat) : Int) = some c
  exact atI_nat rfl
theorem sl_of {s : Str} (h : s.length ≤ 100) : s.length ≤ sizeLine := Nat.le_trans h (by decide)
theorem cl_of {s : Str} : s.cps.toList.length = s.length := by simp [Str.length]
theorem read_rest {s : Str} {Qd : DK} {Ed : DXK} {M : Mp} (hs : s.length ≤ 100) (q : Qd (optD (if s.cps.toList.all isDig = true then some (val s.cps.toList) else none)) M) :
    (dSeq (dAsg (dC (.int 0)) (gdName 1)) (dSeq (dFor (iS (dVar 0)) (gdName 2) (b1__law_read)) (dRet (dVar 1)))) (ends Qd Ed) [some (.str s), none, none] M := by
  refine ⟨_, rfl, ?_⟩
  refine loop_read s.cps.toList 0 0 _ (by decide) (by decide) (by rw [cl_of]; omega) ?_
  cases h : s.cps.toList.all isDig with
  | true => rw [h, if_pos rfl] at q; rw [if_pos rfl]; exact q
  | false => rw [h, if_neg Bool.false_ne_true] at q; rw [if_neg Bool.false_ne_true]; exact q
theorem rd__law_read : ∀ ds M Qd Ed, sp__law_read ds M Qd Ed → t__law_read (ends Qd Ed) (dstart N__law_read ds) M := by
  intro ds M Qd Ed h
  obtain ⟨d, rfl, th, q⟩ := h
  cases d with
  | str s =>
    refine ⟨_, rfl, _, rfl, ?_⟩
    refine br2 (fun e => ?_) (fun e => ?_)
    · have e := nil_eq.mp (of_decide_eq_true e)
      rw [show numD (.str s) = none from if_pos (Or.inl e)] at q
      exact q
    · have e : ¬ s.cps.toList = [] := fun z => of_decide_eq_false e (nil_eq.mpr z)
      obtain ⟨c, r, hc⟩ := List.exists_cons_of_ne_nil e
      refine ⟨_, rfl, sl_of th, c, by rw [hc]; exact at_zero, ?_⟩
      have hq := q
      refine br2 (fun e2 => ?_) (fun e2 => ?_)
      · have e2 := sg_eq.mp (of_decide_eq_true e2)
        refine ⟨_, rfl, ?_⟩
        refine br2 (fun e3 => ?_) (fun e3 => ?_)
        · have e3 : ¬ s = ("0" : Str) := by simpa using e3
          rw [show numD (.str s) = none from if_pos (Or.inr ⟨by rw [hc, e2]; rfl, fun z => e3 (zero_eq.mpr z)⟩)] at q
          exact q
        · have e3 : s = ("0" : Str) := by simpa using e3
          refine read_rest th ?_
          rw [show numD (.str s) = _ from if_neg (fun z => z.elim e fun w => w.2 (zero_eq.mp e3))] at q
          exact q
      · have e2 : ¬ c = 48 := fun z => of_decide_eq_false e2 (sg_eq.mpr z)
        refine read_rest th ?_
        rw [show numD (.str s) = _ from if_neg (fun z => z.elim e fun w => e2 (by have := w.1; rw [hc] at this; simpa using this))] at q
        exact q
  | non => exact ⟨_, rfl, q⟩
  | bl b => exact ⟨_, rfl, q⟩
  | int i => exact ⟨_, rfl, q⟩
  | lst s => exact ⟨_, rfl, q⟩
  | tup s => exact ⟨_, rfl, q⟩
  | dct s => exact ⟨_, rfl, q⟩
  | ref a => exact th.elim
  | sq s => exact th.elim
  | ty n => exact th.elim
  | ins C fs => exact th.elim
end K02

namespace K02
open PySem L2 DL
theorem comp_fig {d0 d1 d2 d3 : Option D} {k : List D → Mp → Prop} {M : Mp} : ∀ (cs : List Nat) (bs : List Bool), bs.length + cs.length ≤ 5000 → k ((bs ++ cs.map fun c => decide (c ∈ (("0123456789" : Str)).cps.toList)).map D.bl) M →
    dComp (.one 4) dYes (dOp dInS (dVar 4) (dC (.str "0123456789"))) .data [4] [d0, d1, d2, d3, none] k (cs.map fun c => D.str (sg1 c)) (bs.map D.bl) M
  | [], bs, hl, q => by
    refine ⟨?_, ?_⟩
    · rw [List.length_map]; exact Nat.le_trans hl (by decide)
    · rw [List.map_nil, List.append_nil] at q; exact q
  | c :: r, bs, hl, q => by
    simp only [List.length_cons] at hl
    refine ⟨_, rfl, c, rfl, ?_⟩
    have e : (bs.map D.bl) ++ [D.bl (decide (c ∈ (("0123456789" : Str)).cps.toList))] = (bs ++ [decide (c ∈ (("0123456789" : Str)).cps.toList)]).map D.bl := by rw [List.map_append]; rfl
    show dComp _ _ _ _ _ _ _ (r.map fun c => D.str (sg1 c)) ((bs.map D.bl) ++ [D.bl (decide (c ∈ (("0123456789" : Str)).cps.toList))]) M
    rw [e]
    refine comp_fig r _ (by rw [List.length_append, List.length_singleton]; omega) ?_
    rw [List.append_assoc]
    exact q
theorem all_fig : ∀ cs : List Nat, (([] ++ cs.map fun c => decide (c ∈ (("0123456789" : Str)).cps.toList)).all id) = cs.all isDig
  | [] => rfl
  | c :: r => by
    have ih := all_fig r
    rw [List.nil_append] at ih ⊢
    rw [List.map_cons, List.all_cons, List.all_cons, ih]
    congr 1
    show decide _ = _
    cases h : isDig c with
    | true => exact decide_eq_true (mem_figs.mpr h)
    | false => exact decide_eq_false (fun z => by rw [mem_figs.mp z] at h; cases h)
theorem val_digits : ∀ (cs : List Nat) (a : Nat), valF (a : Int) cs = ((cs.foldl (fun acc c => acc * 10 + (c - 48)) a : Nat) : Int)
  | [], a => rfl
  | c :: r, a => by
    have ih := val_digits r (a * 10 + (c - 48))
    show valF (10 * (a : Int) + ((c - 48 : Nat) : Int)) r = _
    rw [List.foldl_cons, ← ih]
    congr 1
    rw [Int.natCast_add, Int.natCast_mul, Int.mul_comm]
    rfl
theorem int_of {s : Str} (h : s.cps.toList.all isDig = true) (h1 : s.cps.toList ≠ []) (h2 : s.length ≤ 100) : PySem.intText? s = some (val s.cps.toList) := by
  have hd : PySem.NumText.AllDigits s.cps.toList := fun c hc => by
    have := List.all_eq_true.mp h c hc
    simpa [isDig] using this
  rw [PySem.intText_digits hd h1 (by omega)]
  exact congrArg some (val_digits s.cps.toList 0).symm
theorem big {cs : List Nat} {n : Int} (h : readC cs = some n) (l : 10 < cs.length) : 10 ^ 10 ≤ n := by
  unfold readC at h
  split at h
  · cases h
  · rename_i hz
    split at h
    · rename_i ha
      cases h
      cases cs with
      | nil => simp at l
      | cons c r =>
        simp only [List.length_cons] at l
        have ha2 := ha
        simp only [List.all_cons, Bool.and_eq_true] at ha2
        have hd : 48 ≤ c ∧ c ≤ 57 := by simpa [isDig] using ha2.1
        have h48 : c ≠ 48 := fun z => hz (.inr ⟨by rw [z]; rfl, fun w => by
          have := congrArg List.length w
          simp at this
          rw [this] at l
          simp at l⟩)
        have b := (valF_bd r ((c - 48 : Nat) : Int) ha2.2 (by omega)).1
        show 10 ^ 10 ≤ valF (10 * 0 + ((c - 48 : Nat) : Int)) r
        rw [show (10 * 0 + ((c - 48 : Nat) : Int)) = ((c - 48 : Nat) : Int) from by omega]
        refine Int.le_trans ?_ b
        have p : (10 : Int) ^ 10 ≤ 10 ^ r.length := by
          have : (10 : Nat) ^ 10 ≤ 10 ^ r.length := Nat.pow_le_pow_right (by decide) (by omega)
          exact_mod_cast this
        have q : (1 : Int) * 10 ^ r.length ≤ ((c - 48 : Nat) : Int) * 10 ^ r.length := Int.mul_le_mul_of_nonneg_right (by omega) (Int.le_trans (by decide) p)
        omega
    · cases h
theorem num_rest {s : Str} {l h : Int} {Qd : DK} {Ed : DXK} {M : Mp} (hs : s.length ≤ 100) (h1 : s.cps.toList ≠ []) (ha : s.cps.toList.all isDig = true) (q : Qd (optD (betw (some (val s.cps.toList)) l h)) M) :
    (dSeq (dAsg (dCB dIntS (dCons (dVar 0) dNil)) (gdName 3)) (dRet (dIfE (dTest (dChain dLe dLe (dVar 1) (dVar 3) (dVar 2))) (dVar 3) (dC D.non)))) (ends Qd Ed) [some (.str s), some (.int l), some (.int h), none, none] M := by
  refine ⟨_, rfl, _, int_of ha h1 hs, by omega, ?_⟩
  refine ⟨_, rfl, _, rfl, ?_⟩
  refine br2 (fun e => ?_) (fun e => ?_)
  · have e := of_decide_eq_true e
    refine ⟨_, rfl, ?_⟩
    refine br2 (fun e2 => ?_) (fun e2 => ?_)
    · have e2 := of_decide_eq_true e2
      rw [show betw (some (val s.cps.toList)) l h = some _ from if_pos ⟨e, e2⟩] at q
      exact ⟨_, rfl, q⟩
    · have e2 := of_decide_eq_false e2
      rw [show betw (some (val s.cps.toList)) l h = none from if_neg (fun z => e2 z.2)] at q
      exact q
  · have e := of_decide_eq_false e
    rw [show betw (some (val s.cps.toList)) l h = none from if_neg (fun z => e z.1)] at q
    exact q
theorem rd_number_of : ∀ ds M Qd Ed, sp_number_of ds M Qd Ed → t_number_of (ends Qd Ed) (dstart N_number_of ds) M := by
  intro ds M Qd Ed h
  obtain ⟨d, l, h, rfl, th, h9, q⟩ := h
  cases d with
  | str s =>
    have th : s.length ≤ 100 := th
    refine ⟨_, rfl, _, rfl, sl_of th, ?_⟩
    refine br2 (fun e => ?_) (fun e => ?_)
    · have e := of_decide_eq_true e
      refine br2 (fun e2 => ?_) (fun e2 => ?_)
      · have e2 : ¬ ((s.length : Nat) : Int) ≤ 10 := by simpa using e2
        have e3 : betw (numD (.str s)) l h = none := by
          cases hn : numD (.str s) with
          | none => rfl
          | some n =>
            have b := big hn (by rw [cl_of]; omega)
            exact if_neg (fun z => by omega)
        rw [e3] at q
        exact q
      · have e2 : ((s.length : Nat) : Int) ≤ 10 := by simpa using e2
        have hne : ¬ s.cps.toList = [] := fun z => by
          have := congrArg List.length z
          rw [cl_of] at this
          simp at this
          omega
        refine ⟨_, rfl, ?_, ?_⟩
        · show (s.cps.toList.map (fun c => D.str (sg1 c))).length < sizeLine
          rw [List.length_map, cl_of]
          exact Nat.lt_of_le_of_lt th (by decide)
        refine comp_fig s.cps.toList [] (by rw [cl_of, List.length_nil]; omega) ⟨_, rfl, ?_⟩
        rw [all_fig]
        cases ha : s.cps.toList.all isDig with
        | false =>
          have e4 : numD (.str s) = none := by
            show readC _ = none
            unfold readC
            rw [ha]
            split <;> rfl
          rw [e4] at q
          exact q
        | true =>
          obtain ⟨c, r, hc⟩ := List.exists_cons_of_ne_nil hne
          refine ⟨_, rfl, ?_⟩
          refine br2 (fun e3 => ?_) (fun e3 => ?_)
          · have e3 : ¬ s = ("0" : Str) := by simpa using e3
            have e3 : ¬ s.cps.toList = [48] := fun z => e3 (zero_eq.mpr z)
            refine ⟨_, rfl, sl_of th, c, by rw [hc]; exact at_zero, ?_⟩
            refine br2 (fun e4 => ?_) (fun e4 => ?_)
            · have e4 := sg_eq.mp (of_decide_eq_true e4)
              rw [show numD (.str s) = none from if_pos (Or.inr ⟨by rw [hc, e4]; rfl, e3⟩)] at q
              exact q
            · have e4 : ¬ c = 48 := fun z => of_decide_eq_false e4 (sg_eq.mpr z)
              refine num_rest th hne ha ?_
              rw [show numD (.str s) = _ from if_neg (fun z => z.elim hne fun w => e4 (by have := w.1; rw [hc] at this; simpa using this)), if_pos ha] at q
              exact q
          · have e3 : s = ("0" : Str) := by simpa using e3
            refine num_rest th hne ha ?_
            rw [show numD (.str s) = _ from if_neg (fun z => z.elim hne fun w => w.2 (zero_eq.mp e3)), if_pos ha] at q
            exact q
    · have e := of_decide_eq_false e
      have e3 : s.cps.toList = [] := by
        apply List.eq_nil_of_length_eq_zero
        rw [cl_of]; omega
      rw [show numD (.str s) = none from if_pos (Or.inl e3)] at q
      exact q
  | non => exact ⟨_, rfl, q⟩
  | bl b => exact ⟨_, rfl, q⟩
  | int i => exact ⟨_, rfl, q⟩
  | lst s => exact ⟨_, rfl, q⟩
  | tup s => exact ⟨_, rfl, q⟩
  | dct s => exact ⟨_, rfl, q⟩
  | ref a => exact th.elim
  | sq s => exact th.elim
  | ty n => exact th.elim
  | ins C fs => exact th.elim
end K02

namespace K02
open PySem L2 DL
theorem rd__law_bound : ∀ ds M Qd Ed, sp__law_bound ds M Qd Ed → t__law_bound sp__law_take (ends Qd Ed) (dstart N__law_bound ds) M := by
  intro ds M Qd Ed h
  obtain ⟨b, o, n, rfl, hb, hn, q⟩ := h
  refine ⟨⟨by decide, by decide, by decide⟩, _, rfl, ⟨by decide, by decide, by decide⟩, b, _, n, rfl, hb, by omega, by decide, by decide, fun M1 t s1 hb1 t0 t1 => ?_⟩
  have t1 : t ≤ 10 ^ 9 := by
    have : t < 10 ^ (9 : Int).toNat + 1 := t1
    have e : (10 : Int) ^ (9 : Int).toNat = 1000000000 := by decide
    rw [e] at this
    omega
  refine ⟨(by show 5 ≤ sizeLine; decide), fun p hp => ?_⟩
  have sb : But b M1 (updM M1 p (.lst [.int 0, .int 1, .int 1000000, .int (10 ^ (9 : Int).toNat), .int t])) := But.new hp
  have hb2 := hb1.upd (o := .lst [.int 0, .int 1, .int 1000000, .int (10 ^ (9 : Int).toNat), .int t]) (hb1.at hp)
  have hp2 : updM M1 p (.lst [.int 0, .int 1, .int 1000000, .int (10 ^ (9 : Int).toNat), .int t]) p = some (.lst [.int 0, .int 1, .int 1000000, .int (10 ^ (9 : Int).toNat), .int t]) := updM_same
  have hbp := hb1.at hp
  generalize updM M1 p (.lst [.int 0, .int 1, .int 1000000, .int (10 ^ (9 : Int).toNat), .int t]) = M2 at *
  have fin : ∀ (M3 : Mp) (xs : List D), M3 p = some (.lst xs) → (∃ ns : List Int, xs = ns.map D.int ∧ 0 < ns.length ∧ ns.length ≤ 6 ∧ ∀ i ∈ ns, 0 ≤ i ∧ i ≤ 10 ^ 9) → But b M M3 → Bag M3 b (n + 2) →
      dRet (dOp dIx (dVar 2) (dCall sp__law_take (dCons (dVar 0) (dCons (dCB dLen (dCons (dVar 2) dNil)) dNil)))) (ends Qd Ed) [some (.ref b), some (optD o), some (.ref p)] M3 := by
    intro M3 xs h3 hx s3 hb3
    obtain ⟨ns, rfl, l0, l6, hns⟩ := hx
    have ll : (ns.map D.int).length = ns.length := List.length_map _
    refine ⟨_, rfl, _, rfl, _, rfl, _, h3, b, _, n + 2, rfl, hb3, by omega, (by rw [ll]; omega), (by rw [ll]; omega), fun M4 k s4 hb4 k0 k1 => ?_⟩
    have h4 := s4 p _ (Ne.symm hbp) h3
    obtain ⟨d, g1, g2⟩ := at_some k0 k1
    obtain ⟨i, hi, rfl⟩ := List.mem_map.mp g2
    exact ⟨_, h4, _, g1, q M4 i (s3.trans s4) (hb4.mono (by omega)) (hns i hi).1 (hns i hi).2⟩
  have t9 : (10 : Int) ^ (9 : Int).toNat = 1000000000 := by decide
  cases o with
  | none =>
    refine ⟨_, rfl, ?_⟩
    refine fin M2 _ hp2 ⟨[0, 1, 1000000, 10 ^ (9 : Int).toNat, t], rfl, by simp, by simp, fun i hi => ?_⟩ (s1.trans sb) (hb2.mono (by omega))
    rw [t9] at hi
    simp only [List.mem_cons, List.mem_nil_iff, or_false] at hi
    omega
  | some i =>
    refine ⟨_, rfl, ?_⟩
    refine ⟨_, rfl, ⟨_, hp2⟩, ⟨by decide, by decide, by decide⟩, _, rfl, _, rfl, b, _, n + 1, rfl, hb2, by omega, by decide, by decide, fun M3 k s3 hb3 k0 k1 => ?_⟩
    have hp3 := s3 p _ (Ne.symm hbp) hp2
    refine ⟨_, hp3, (by show 5 < sizeLine; decide), ?_⟩
    refine fin _ _ updM_same ⟨[0, 1, 1000000, 10 ^ (9 : Int).toNat, t, _], rfl, by simp, by simp, fun j hj => ?_⟩ ?_ ((hb3.upd hbp).mono (by omega))
    · rw [t9] at hj
      simp only [List.mem_cons, List.mem_nil_iff, or_false] at hj
      rcases hj with h | h | h | h | h | h
      · omega
      · omega
      · omega
      · omega
      · omega
      · rw [h]
        constructor
        · split <;> omega
        · split
          · split <;> omega
          · decide
    · intro a u ne e
      have e1 := s1 a u ne e
      have nep : a ≠ p := fun z => by rw [z, hp] at e1; cases e1
      rw [updM_ne nep]
      exact s3 a u ne (sb a u ne e1)
theorem join_len : ∀ cs : List Nat, (Txt.join "" (cs.map sg1)).length = cs.length := by
  intro cs
  rw [TL.join_eq]
  induction cs with
  | nil => rfl
  | cons c r ih =>
    cases r with
    | nil => rfl
    | cons d r =>
      show (sg1 c ++ ("" : Str) ++ Str.join "" ((d :: r).map sg1)).length = _
      rw [Str.length_append, Str.length_append, ih]
      show 1 + 0 + (d :: r).length = (c :: d :: r).length
      simp only [List.length_cons]
      omega
theorem sum_len : ∀ cs : List Nat, ((cs.map sg1).map (·.length)).sum = cs.length
  | [] => rfl
  | c :: r => by
    show 1 + ((r.map sg1).map (·.length)).sum = _
    rw [sum_len r, List.length_cons]
    omega
theorem comp_dig {b : Addr} {d1 d2 d3 d4 d5 : Option D} {k : List D → Mp → Prop} : ∀ (xs : List D) (cs : List Nat) (M : Mp) (n : Nat), Bag M b n → n + xs.length < 950000 → cs.length + xs.length ≤ 1000 →
    (∀ M' (cs' : List Nat), But b M M' → Bag M' b (n + xs.length) → cs'.length = cs.length + xs.length → k (cs'.map fun c => D.str (sg1 c)) M') →
    dComp (.one 6) dYes (dOp dIx (dC (.str "0123456789")) (dCall sp__law_take (dCons (dVar 0) (dCons (dC (.int 10)) dNil)))) .data [6] [some (.ref b), d1, d2, d3, d4, d5, none] k xs (cs.map fun c => D.str (sg1 c)) M
  | [], cs, M, n, hb, hn, hl, q => by
    refine ⟨?_, q M cs (But.refl b M) hb rfl⟩
    rw [List.length_map]
    exact Nat.le_trans hl (by decide)
  | x :: r, cs, M, n, hb, hn, hl, q => by
    simp only [List.length_cons] at hn hl q
    refine ⟨_, rfl, b, 10, n, rfl, hb, by omega, by decide, by decide, fun M1 d s1 hb1 d0 d26 => ?_⟩
    obtain ⟨c, h1, h2⟩ := at_some (xs := (("0123456789" : Str)).cps.toList) d0 (by rw [figs]; exact d26)
    refine ⟨by decide +kernel, c, h1, ?_⟩
    have e : (cs.map fun c => D.str (sg1 c)) ++ [D.str (sg1 c)] = (cs ++ [c]).map fun c => D.str (sg1 c) := by rw [List.map_append]; rfl
    show dComp _ _ _ _ _ _ _ r ((cs.map fun c => D.str (sg1 c)) ++ [D.str (sg1 c)]) M1
    rw [e]
    refine comp_dig r (cs ++ [c]) M1 (n + 1) hb1 (by omega) (by rw [List.length_append, List.length_singleton]; omega) fun M' cs' t1 t2 t3 => ?_
    refine q M' cs' (s1.trans t1) (t2.mono (by omega)) ?_
    rw [t3, List.length_append, List.length_singleton]
    omega
theorem rd__law_text : ∀ ds M Qd Ed, sp__law_text ds M Qd Ed → t__law_text sp__law_take (ends Qd Ed) (dstart N__law_text ds) M := by
  intro ds M Qd Ed h
  obtain ⟨b, n, rfl, hb, hn, q⟩ := h
  refine ⟨_, rfl, b, 12, n, rfl, hb, by omega, by decide, by decide, fun M1 w s1 hb1 w0 w11 => ?_⟩
  refine ⟨(by show 4 ≤ sizeLine; decide), _, rfl, b, 4, n + 1, rfl, hb1, by omega, by decide, by decide, fun M2 v s2 hb2 v0 v5 => ?_⟩
  have e1 : ∃ s : Int, atI [D.int (1 + w), .int 1, .int 30, .int 7] v = some (.int s) ∧ 0 ≤ s ∧ s ≤ 30 := by
    rcases (by omega : v = 0 ∨ v = 1 ∨ v = 2 ∨ v = 3) with rfl | rfl | rfl | rfl
    · exact ⟨1 + w, rfl, by omega, by omega⟩
    · exact ⟨1, rfl, by decide, by decide⟩
    · exact ⟨30, rfl, by decide, by decide⟩
    · exact ⟨7, rfl, by decide, by decide⟩
  obtain ⟨s, h1, h2, h3⟩ := e1
  refine ⟨_, h1, ?_⟩
  have lr : (rngD 0 s.toNat).length = s.toNat := by simp [rngD]
  refine ⟨_, rfl, ⟨by omega, by omega⟩, Nat.lt_of_le_of_lt (by rw [lr]; omega : (rngD 0 s.toNat).length ≤ 30) (by decide), ?_⟩
  refine comp_dig (rngD 0 s.toNat) [] M2 (n + 2) hb2 (by rw [lr]; omega) (by rw [lr, List.length_nil]; omega) fun M3 cs s3 hb3 l3 => ?_
  rw [lr] at hb3 l3
  simp only [List.length_nil, Nat.zero_add] at l3
  refine ⟨cs.map sg1, by rw [List.map_map]; rfl, ?_, ?_⟩
  · rw [sum_len, List.length_map]
    show cs.length + cs.length * 0 ≤ 16777216
    omega
  have ljl := join_len cs
  generalize Txt.join "" (cs.map sg1) = tx at *
  have hb3 : Bag M3 b (n + 32) := hb3.mono (by omega)
  have s3 := (s1.trans s2).trans s3
  have txl : tx.length ≤ 30 := by omega
  have big : ∀ {m : Nat}, m ≤ 1000 → m ≤ sizeLine := fun h => Nat.le_trans h (by decide)
  refine ⟨_, rfl, _, rfl, big (by omega), (by show 6 ≤ sizeLine; decide), _, rfl, b, 6, n + 32, rfl, hb3, by omega, by decide, by decide, fun M4 k s4 hb4 k0 k1 => ?_⟩
  have e2 : ∃ t : Str, atI [D.str tx, .str "1000000", .str "1000001", .str "1000000000", .str "0", .str (Txt.lstripChars tx "0")] k = some (.str t) ∧ t.length ≤ 30 := by
    rcases (by omega : k = 0 ∨ k = 1 ∨ k = 2 ∨ k = 3 ∨ k = 4 ∨ k = 5) with rfl | rfl | rfl | rfl | rfl | rfl
    · exact ⟨_, rfl, txl⟩
    · exact ⟨_, rfl, by decide +kernel⟩
    · exact ⟨_, rfl, by decide +kernel⟩
    · exact ⟨_, rfl, by decide +kernel⟩
    · exact ⟨_, rfl, by decide +kernel⟩
    · exact ⟨_, rfl, Nat.le_trans (PyProof.Rows.len_lstripChars _ _) txl⟩
  obtain ⟨t, g1, tl⟩ := e2
  refine ⟨_, g1, ?_⟩
  refine ⟨_, rfl, _, rfl, big (by omega), b, _, n + 33, rfl, hb4, by omega, by omega, by omega, fun M5 at5 s5 hb5 a50 a51 => ?_⟩
  refine ⟨_, rfl, b, 6, n + 34, rfl, hb5, by omega, by decide, by decide, fun M6 way s6 hb6 y0 y1 => ?_⟩
  have s6 := ((s3.trans s4).trans s5).trans s6
  generalize hsg : ((" abcXYZ0123456789!\"#$&'()*+,-./:;<=>?\x40[\\]^_`{|}~\n" : Str)) = sg
  have sgl : sg.length ≤ sizeLine ∧ sg.cps.toList.length = sg.length ∧ 0 < sg.length ∧ sg.length ≤ 1000 := by rw [← hsg]; decide +kernel
  have cl : ∀ lo hi, (cutS t lo hi).length ≤ 30 := fun lo hi => Nat.le_trans (cutS_length t lo hi) tl
  have put : ∀ (M7 : Mp) (lo hi : Option Int) (c : Nat), But b M M7 → Bag M7 b (n + 36) → Qd (.str (cutS t none lo ++ sg1 c ++ cutS t hi none)) M7 := fun M7 lo hi c u1 u2 => by
    refine q M7 _ u1 (u2.mono (by omega)) ?_
    rw [Str.length_append, Str.length_append]
    have := cl none lo
    have := cl hi none
    show _ + 1 + _ ≤ 100
    omega
  refine ⟨_, rfl, ?_⟩
  refine br2 (fun e => ?_) (fun e => ?_)
  · refine ⟨_, rfl, _, rfl, big (by omega), _, rfl, _, rfl, _, rfl, sgl.1, b, _, n + 35, rfl, hb6, by omega, by omega, by omega, fun M7 i7 s7 hb7 i70 i71 => ?_⟩
    obtain ⟨c, g1, g2⟩ := at_some (xs := sg.cps.toList) i70 (by rw [sgl.2.1]; exact i71)
    refine ⟨sgl.1, c, g1, ?_, _, rfl, _, rfl, big (by omega), ?_, put M7 _ _ c (s6.trans s7) hb7⟩
    · have := cl none (some at5)
      show _ + 1 ≤ sizeLine
      exact big (by omega)
    · rw [Str.length_append]
      have := cl none (some at5)
      have := cl (some at5) none
      show _ + 1 + _ ≤ sizeLine
      exact big (by omega)
  refine ⟨_, rfl, ?_⟩
  refine br2 (fun e => ?_) (fun e => ?_)
  · refine ⟨_, rfl, _, rfl, big (by omega), _, rfl, _, rfl, _, rfl, sgl.1, b, _, n + 35, rfl, hb6, by omega, by omega, by omega, fun M7 i7 s7 hb7 i70 i71 => ?_⟩
    obtain ⟨c, g1, g2⟩ := at_some (xs := sg.cps.toList) i70 (by rw [sgl.2.1]; exact i71)
    refine ⟨sgl.1, c, g1, ?_, _, rfl, _, rfl, big (by omega), ?_, put M7 _ _ c (s6.trans s7) hb7⟩
    · have := cl none (some at5)
      show _ + 1 ≤ sizeLine
      exact big (by omega)
    · rw [Str.length_append]
      have := cl none (some at5)
      have := cl (some (at5 + 1)) none
      show _ + 1 + _ ≤ sizeLine
      exact big (by omega)
  refine ⟨_, rfl, ?_⟩
  refine br2 (fun e => ?_) (fun e => ?_)
  · refine ⟨(by show 4 ≤ sizeLine; decide), _, rfl, b, 4, n + 35, rfl, hb6, by omega, by decide, by decide, fun M7 i7 s7 hb7 i70 i71 => ?_⟩
    have e2 : ∃ p : Str, atI [D.str "0", .str "-", .str "+", .str "00"] i7 = some (.str p) ∧ p.length ≤ 2 := by
      rcases (by omega : i7 = 0 ∨ i7 = 1 ∨ i7 = 2 ∨ i7 = 3) with rfl | rfl | rfl | rfl <;> exact ⟨_, rfl, by decide +kernel⟩
    obtain ⟨p, g2, pl⟩ := e2
    refine ⟨_, g2, _, rfl, big (by omega), q M7 _ (s6.trans s7) (hb7.mono (by omega)) ?_⟩
    rw [Str.length_append]
    omega
  exact ⟨_, rfl, q M6 _ s6 (hb6.mono (by omega)) (by omega)⟩
end K02

namespace K02
open PySem L2 DL
def pyO : Option Int → PyData
  | none => .none
  | some i => .int i
def okO (o : Option Int) : Prop := ∀ i, o = some i → 0 ≤ i ∧ i ≤ 10 ^ 9
theorem okO_betw {o : Option Int} {l h : Int} (l0 : 0 ≤ l) (h9 : h ≤ 10 ^ 9) : okO (betw o l h) := by
  intro i e
  cases o with
  | none => cases e
  | some n =>
    unfold betw at e
    dsimp only at e
    split at e
    · cases e; omega
    · cases e
theorem pyOf_O {M : Mp} : ∀ o : Option Int, PyOf M (optD o) (pyO o)
  | none => .non
  | some i => .int i
theorem py1 {o : Option Int} (h : okO o) : (pyO o).showable = true ∧ (pyO o).depth = 0 ∧ strsOk (pyO o) ∧ cst (pyO o) ≤ 1921 := by
  cases o with
  | none => exact ⟨rfl, rfl, trivial, by decide⟩
  | some i =>
    obtain ⟨a, b⟩ := h i rfl
    have : i.natAbs.log2 < 1920 := num_log (by omega) (by omega)
    exact ⟨by simp [pyO, PyData.showable, this], rfl, trivial, Nat.le_refl _⟩
theorem pyR {M : Mp} : ∀ os : List (Option Int), Paired (PyOf M) (os.map optD) (os.map pyO)
  | [] => .nil
  | o :: r => .cons (pyOf_O o) (pyR r)
theorem pyA : ∀ os : List (Option Int), (∀ o ∈ os, okO o) → PyData.showableAll (os.map pyO) = true ∧ PyData.depthAll (os.map pyO) = 0 ∧ strssOk (os.map pyO) ∧ csts (os.map pyO) ≤ 1923 * os.length
  | [], _ => ⟨rfl, rfl, trivial, by decide⟩
  | o :: r, h => by
    obtain ⟨a, b, c, d⟩ := pyA r fun x hx => h x (List.mem_cons_of_mem _ hx)
    obtain ⟨a1, b1, c1, d1⟩ := py1 (h o List.mem_cons_self)
    refine ⟨?_, ?_, ⟨c1, c⟩, ?_⟩
    · show (PyData.showable (pyO o) && PyData.showableAll (r.map pyO)) = true
      rw [a1, a]; rfl
    · show max (PyData.depth (pyO o)) (PyData.depthAll (r.map pyO)) = 0
      rw [b1, b]; rfl
    · show cst (pyO o) + 2 + csts (r.map pyO) ≤ _
      rw [List.length_cons]
      omega
theorem pyL {os : List (Option Int)} (h : ∀ o ∈ os, okO o) (l : os.length ≤ 5) : (PyData.list (os.map pyO)).showable = true ∧ (PyData.list (os.map pyO)).depth ≤ 60 ∧ (PyData.list (os.map pyO)).shown.length ≤ sizeLine := by
  obtain ⟨a, b, c, d⟩ := pyA os h
  have s : (PyData.list (os.map pyO)).showable = true := a
  refine ⟨s, ?_, Nat.le_trans (shown_cst _ s c) ?_⟩
  · unfold PyData.depth
    rw [b]
    decide
  · show csts (os.map pyO) + 3 ≤ sizeLine
    exact Nat.le_trans (by omega : _ ≤ 10000) (by decide)
def fiveO (o : Option Int) (l h : Int) : List (Option Int) := [betw o l h, betw o 0 h, betw o l 1000000, betw o 0 1000000, betw o h l]
theorem five_ok {o : Option Int} {l h : Int} (l0 : 0 ≤ l) (l9 : l ≤ 10 ^ 9) (h0 : 0 ≤ h) (h9 : h ≤ 10 ^ 9) : ∀ x ∈ fiveO o l h, okO x := by
  intro x hx
  simp only [fiveO, List.mem_cons, List.mem_nil_iff, or_false] at hx
  rcases hx with rfl | rfl | rfl | rfl | rfl <;> exact okO_betw (by first | assumption | decide) (by first | assumption | decide)
theorem deq_O {M : Mp} {k : Bool → Prop} (o : Option Int) (h : k true) : deq M (optD o) (optD o) k := by
  cases o with
  | none => exact h
  | some i =>
    show k (decide (i = i))
    rw [decide_eq_true rfl]
    exact h
theorem inner {M : Mp} {s0 o1 o2 o3 : Option D} {d : D} {l h : Int} (th : Th d) (l0 : 0 ≤ l) (l9 : l ≤ 10 ^ 9) (h0 : 0 ≤ h) (h9 : h ≤ 10 ^ 9) {Dd : DEnds}
    (nx : ∀ o9 o10, Dd.nx [s0, o1, o2, o3, some d, some (optD (numD d)), some (.int l), some (.int h), some (.lst ((fiveO (numD d) l h).map optD)), o9, o10] M) :
    ∀ (xs : List D) o9 o10, dLoop (gdName 9) (b3_law sp_number_of) .data xs Dd [s0, o1, o2, o3, some d, some (optD (numD d)), some (.int l), some (.int h), some (.lst ((fiveO (numD d) l h).map optD)), o9, o10] M
  | [], o9, o10 => nx o9 o10
  | x :: r, o9, o10 => by
    obtain ⟨k1, k2, k3⟩ := pyL (five_ok (o := numD d) l0 l9 h0 h9) (by simp [fiveO])
    refine ⟨_, rfl, _, rfl, _, rfl, rfl, rfl, d, l, h, rfl, th, h9, ?_⟩
    refine ⟨_, rfl, _, rfl, rfl, rfl, d, 0, h, rfl, th, h9, (by show 2 ≤ sizeLine; decide), ?_⟩
    refine ⟨_, rfl, _, rfl, _, rfl, rfl, rfl, d, l, 1000000, rfl, th, by decide, ?_⟩
    refine ⟨_, rfl, rfl, rfl, d, 0, 1000000, rfl, th, by decide, ?_⟩
    refine ⟨_, rfl, _, rfl, _, rfl, rfl, rfl, d, h, l, rfl, th, l9, (by show 3 ≤ sizeLine; decide), (by show 5 ≤ sizeLine; decide), ?_⟩
    refine ⟨_, rfl, .list ((fiveO (numD d) l h).map pyO), .lst (pyR (fiveO (numD d) l h)), trivial, k1, k2, k3, ?_⟩
    refine ⟨_, rfl, .list ((fiveO (numD d) l h).map pyO), .lst (pyR (fiveO (numD d) l h)), trivial, k1, k2, k3, ?_⟩
    refine brF (by simp) ?_
    refine ⟨_, rfl, _, rfl, _, rfl, rfl, rfl, d, l, h, rfl, th, h9, ?_⟩
    refine ⟨_, rfl, optD (betw (numD d) l h), rfl, ?_⟩
    refine deq_O _ ?_
    exact inner th l0 l9 h0 h9 nx r _ _
end K02

namespace K02
open PySem L2 DL
theorem middle {b : Addr} {s0 o1 o3 : Option D} {Dd : DEnds} (nx : ∀ M o4 o5 o6 o7 o8 o9 o10, Dd.nx [s0, o1, some (.ref b), o3, o4, o5, o6, o7, o8, o9, o10] M) :
    ∀ (xs : List D) (M : Mp) (n : Nat), (∀ d ∈ xs, Th d) → Bag M b n → n + 20 * xs.length < 10000 → ∀ o4 o5 o6 o7 o8 o9 o10,
      dLoop (gdName 4) (b2_law sp__law_read sp__law_bound sp__law_between sp_number_of) .data xs Dd [s0, o1, some (.ref b), o3, o4, o5, o6, o7, o8, o9, o10] M
  | [], M, n, _, _, _, o4, o5, o6, o7, o8, o9, o10 => nx M o4 o5 o6 o7 o8 o9 o10
  | d :: r, M, n, h, hb, hn, o4, o5, o6, o7, o8, o9, o10 => by
    have th := h d List.mem_cons_self
    simp only [List.length_cons] at hn
    refine ⟨_, rfl, d, rfl, th, ?_⟩
    refine ⟨_, rfl, _, rfl, b, numD d, n, rfl, hb, by omega, fun M1 l s1 hb1 l0 l9 => ?_⟩
    refine ⟨_, rfl, _, rfl, b, numD d, n + 5, rfl, hb1, by omega, fun M2 u s2 hb2 u0 u9 => ?_⟩
    refine ⟨_, rfl, _, rfl, _, rfl, numD d, l, u, rfl, ?_⟩
    refine ⟨_, rfl, _, rfl, numD d, 0, u, rfl, ?_⟩
    refine ⟨_, rfl, _, rfl, numD d, l, 1000000, rfl, (by show 3 ≤ sizeLine; decide), ?_⟩
    refine ⟨_, rfl, _, rfl, numD d, 0, 1000000, rfl, ?_⟩
    refine ⟨_, rfl, _, rfl, _, rfl, numD d, u, l, rfl, (by show 2 ≤ sizeLine; decide), (by show 5 ≤ sizeLine; decide), ?_⟩
    refine ⟨⟨by decide, by decide⟩, ?_⟩
    refine inner th l0 l9 u0 u9 (fun p9 p10 => ?_) _ _ _
    exact middle nx r M2 (n + 10) (fun x hx => h x (List.mem_cons_of_mem _ hx)) hb2 (by omega) _ _ _ _ _ _ _
theorem outer {ns : List Int} (hns : ns.length ≤ 63) {Dd : DEnds} (nx : ∀ M o1 o2 o3 o4 o5 o6 o7 o8 o9 o10, Dd.nx [some (.sq (ns.map D.int)), o1, o2, o3, o4, o5, o6, o7, o8, o9, o10] M) :
    ∀ (xs : List D), (∀ d ∈ xs, ∃ k : Int, d = .int k ∧ 0 ≤ k ∧ k < 100) → ∀ M o1 o2 o3 o4 o5 o6 o7 o8 o9 o10,
      dLoop (gdName 1) (b1_law sp__law_bag sp__law_cell sp__law_take sp__law_text sp__law_read sp__law_bound sp__law_between sp_number_of) .data xs Dd [some (.sq (ns.map D.int)), o1, o2, o3, o4, o5, o6, o7, o8, o9, o10] M
  | [], _, M, o1, o2, o3, o4, o5, o6, o7, o8, o9, o10 => nx M o1 o2 o3 o4 o5 o6 o7 o8 o9 o10
  | d :: r, h, M, o1, o2, o3, o4, o5, o6, o7, o8, o9, o10 => by
    obtain ⟨k, rfl, k0, k1⟩ := h d List.mem_cons_self
    refine ⟨_, rfl, _, rfl, ns, k, rfl, k0, k1, hns, fun c => ?_⟩
    refine ⟨c, rfl, fun b M1 hb0 s1 hb1 => ?_⟩
    refine ⟨(by show 0 ≤ sizeLine; decide), (by show 0 ≤ sizeLine; decide), (by show 1 ≤ sizeLine; decide), (by show 1 ≤ sizeLine; decide), (by show 10 ≤ sizeLine; decide), ?_⟩
    refine ⟨_, rfl, b, 10, 0, rfl, hb1, by decide, by decide, by decide, fun M2 t s2 hb2 t0 t1 => ?_⟩
    have e1 : ∃ f : D, atI [D.non, .int 0, .int 7, .bl true, .lst [], .tup [], .dct [], .lst [.str "1"], .tup [.str "1"], .int (-1)] t = some f ∧ Th f := by
      rcases (by omega : t = 0 ∨ t = 1 ∨ t = 2 ∨ t = 3 ∨ t = 4 ∨ t = 5 ∨ t = 6 ∨ t = 7 ∨ t = 8 ∨ t = 9) with rfl | rfl | rfl | rfl | rfl | rfl | rfl | rfl | rfl | rfl <;> exact ⟨_, rfl, trivial⟩
    obtain ⟨f, e1, tf⟩ := e1
    refine ⟨_, e1, ?_⟩
    refine ⟨_, rfl, b, 1, rfl, hb2, by decide, fun M3 x s3 hb3 x0 => ?_⟩
    refine ⟨_, rfl, _, rfl, b, 61, rfl, hb3, by decide, fun M4 y s4 hb4 y0 => ?_⟩
    refine ⟨(by show 3 ≤ sizeLine; decide), ?_⟩
    refine middle (fun M5 p4 p5 p6 p7 p8 p9 p10 => ?_) [.str x, f, .str y] M4 121 (fun d hd => ?_) hb4 (by simp) _ _ _ _ _ _ _
    · exact outer hns nx r (fun x hx => h x (List.mem_cons_of_mem _ hx)) _ _ _ _ _ _ _ _ _ _ _
    · simp only [List.mem_cons, List.mem_nil_iff, or_false] at hd
      rcases hd with rfl | rfl | rfl
      · exact x0
      · exact tf
      · exact y0
theorem rd_law : ∀ ds M Qd Ed, sp_law ds M Qd Ed → t_law sp__law_bag sp__law_cell sp__law_take sp__law_text sp__law_read sp__law_bound sp__law_between sp_number_of (ends Qd Ed) (dstart N_law ds) M := by
  intro ds M Qd Ed h
  obtain ⟨ns, rfl, hl, q⟩ := h
  refine ⟨_, rfl, ?_⟩
  have ej : ∀ j : Int, 0 ≤ j → j ≤ 20 → (-(2 ^ 62) ≤ j ∧ j < 2 ^ 62) ∧ ∀ d ∈ rngD 0 j.toNat, ∃ k : Int, d = .int k ∧ 0 ≤ k ∧ k < 100 := by
    intro j j0 j1
    refine ⟨by omega, fun d hd => ?_⟩
    obtain ⟨i, hi, rfl⟩ := List.mem_map.mp hd
    have := List.mem_range.mp hi
    exact ⟨_, rfl, by omega, by omega⟩
  refine ⟨(ej _ ?_ ?_).1, outer hl (fun M _ _ _ _ _ _ _ _ _ _ => q M) _ (ej _ ?_ ?_).2 _ _ _ _ _ _ _ _ _ _ _⟩
  all_goals (split <;> (try split) <;> omega)
end K02

set_option Elab.async false
set_option linter.all false
set_option maxRecDepth 100000
set_option maxHeartbeats 4000000
namespace K02
open PySem L2 DL
def topS (i : Nat) : Stmt := PySem.Challenge.pw_drowsetree_k02_numbers_by_names.main.body.getD i (.Pass ⟨0, 0, 0, 0⟩)
structure Txt (mg : Str → Option Value) : Prop where
  b_isinstance : mg "isinstance" = none
  b_str : mg "str" = none
  b_len : mg "len" = none
  g_MOST_FIGURES : ∃ t, mg "MOST_FIGURES" = some (.int 10 t)
  b_all : mg "all" = none
  g_FIGURES : ∃ t, mg "FIGURES" = some (.str "0123456789" t)
  b_int : mg "int" = none
  b_sum : mg "sum" = none
  b_max : mg "max" = none
  b_range : mg "range" = none
  b_min : mg "min" = none
  g_MOST : ∃ t, mg "MOST" = some (.int 1000000 t)
  b_repr : mg "repr" = none
section
variable {P : Program} {w : World} {K : PySem.W.Frag} {mg : Str → Option Value} {base : Heap}
abbrev s_number_of : Stmt := topS 4
theorem sc_number_of : FnScope N_number_of ["thing", "least", "most"] (defScope s_number_of) := ⟨rfl, rfl, rfl, by decide +kernel, rfl, by decide +kernel, by decide +kernel⟩
theorem kb_number_of_0 {f : Addr} {fd : FuncData} (F : FunD K "number_of" "number_of" (defArgs s_number_of) (defBody s_number_of) (defScope s_number_of) [] [("least", .int 0), ("most", .int 1000000)] f fd) : KBd K fd ["thing", "least", "most"] 1 ["least", "most"] pg_number_of_0 := by
  obtain ⟨oc, od, dV, kV, doc, pm, an, cdv, ct, osl, rfl, lk, hcd, hD, hK⟩ := F.ex
  obtain ⟨_, rfl⟩ | ⟨e, _⟩ := hD
  rotate_left
  · exact absurd rfl e
  obtain e | ⟨Dk, rfl, hq⟩ := hK
  · cases e
  intro s I us_0 ws_0 vs_0 zs_0 ds_0 es_0 X lu_0 lw_0 r1_0 r2_0 q1_0 q2_0
  obtain ⟨u0, us_1, rfl, lu_1⟩ := len_cons lu_0
  cases len_nil lu_1
  obtain ⟨w0, ws_1, rfl, lw_1⟩ := len_cons lw_0
  obtain ⟨w1, ws_2, rfl, lw_2⟩ := len_cons lw_1
  cases len_nil lw_2
  obtain ⟨v0, vs_1, rfl, ru0, r1_1⟩ := vals_consR r1_0
  obtain ⟨a0, ds_1, rfl, qa0, q1_1⟩ := reps_consL q1_0
  cases r1_1
  cases q1_1
  obtain ⟨z0, zs_1, rfl, rw0, r2_1⟩ := vals_consR r2_0
  obtain ⟨b0, es_1, rfl, qb0, q2_1⟩ := reps_consL q2_0
  obtain ⟨z1, zs_2, rfl, rw1, r2_2⟩ := vals_consR r2_1
  obtain ⟨b1, es_2, rfl, qb1, q2_2⟩ := reps_consL q2_1
  cases r2_2
  cases q2_2
  exact ⟨[u0, w0, w1], [v0, z0, z1], BindsTo.of_looks fun M => .of_pure rfl, .cons (ru0) (.cons (rw0) (.cons (rw1) (.nil))), .cons (qa0) (.cons (qb0) (.cons (qb1) (.nil)))⟩
theorem kb_number_of_1 {f : Addr} {fd : FuncData} (F : FunD K "number_of" "number_of" (defArgs s_number_of) (defBody s_number_of) (defScope s_number_of) [] [("least", .int 0), ("most", .int 1000000)] f fd) : KBd K fd ["thing", "least", "most"] 1 ["most"] pg_number_of_1 := by
  obtain ⟨oc, od, dV, kV, doc, pm, an, cdv, ct, osl, rfl, lk, hcd, hD, hK⟩ := F.ex
  obtain ⟨_, rfl⟩ | ⟨e, _⟩ := hD
  rotate_left
  · exact absurd rfl e
  obtain e | ⟨Dk, rfl, hq⟩ := hK
  · cases e
  obtain ⟨m_least, em_least, rm_least⟩ := hq ("least", .int 0) (by simp)
  intro s I us_0 ws_0 vs_0 zs_0 ds_0 es_0 X lu_0 lw_0 r1_0 r2_0 q1_0 q2_0
  obtain ⟨u0, us_1, rfl, lu_1⟩ := len_cons lu_0
  cases len_nil lu_1
  obtain ⟨w0, ws_1, rfl, lw_1⟩ := len_cons lw_0
  cases len_nil lw_1
  obtain ⟨v0, vs_1, rfl, ru0, r1_1⟩ := vals_consR r1_0
  obtain ⟨a0, ds_1, rfl, qa0, q1_1⟩ := reps_consL q1_0
  cases r1_1
  cases q1_1
  obtain ⟨z0, zs_1, rfl, rw0, r2_1⟩ := vals_consR r2_0
  obtain ⟨b0, es_1, rfl, qb0, q2_1⟩ := reps_consL q2_0
  cases r2_1
  cases q2_1
  exact ⟨[u0, m_least, w0], [v0, (.int 0), z0], BindsTo.of_looks fun M => KwChain.looks (l := [("least", m_least)]) X (by
      intro q hq
      simp only [List.mem_cons, List.mem_nil_iff, or_false] at hq
      rcases hq with rfl
      · exact em_least) ⟨_, _, _, _, _, _, rfl, rfl, rfl⟩, .cons (ru0) (.cons (rm_least) (.cons (rw0) (.nil))), .cons (qa0) (.cons (.int _) (.cons (qb0) (.nil)))⟩
theorem kb_number_of_2 {f : Addr} {fd : FuncData} (F : FunD K "number_of" "number_of" (defArgs s_number_of) (defBody s_number_of) (defScope s_number_of) [] [("least", .int 0), ("most", .int 1000000)] f fd) : KBd K fd ["thing", "least", "most"] 1 ["least"] pg_number_of_2 := by
  obtain ⟨oc, od, dV, kV, doc, pm, an, cdv, ct, osl, rfl, lk, hcd, hD, hK⟩ := F.ex
  obtain ⟨_, rfl⟩ | ⟨e, _⟩ := hD
  rotate_left
  · exact absurd rfl e
  obtain e | ⟨Dk, rfl, hq⟩ := hK
  · cases e
  obtain ⟨m_most, em_most, rm_most⟩ := hq ("most", .int 1000000) (by simp)
  intro s I us_0 ws_0 vs_0 zs_0 ds_0 es_0 X lu_0 lw_0 r1_0 r2_0 q1_0 q2_0
  obtain ⟨u0, us_1, rfl, lu_1⟩ := len_cons lu_0
  cases len_nil lu_1
  obtain ⟨w0, ws_1, rfl, lw_1⟩ := len_cons lw_0
  cases len_nil lw_1
  obtain ⟨v0, vs_1, rfl, ru0, r1_1⟩ := vals_consR r1_0
  obtain ⟨a0, ds_1, rfl, qa0, q1_1⟩ := reps_consL q1_0
  cases r1_1
  cases q1_1
  obtain ⟨z0, zs_1, rfl, rw0, r2_1⟩ := vals_consR r2_0
  obtain ⟨b0, es_1, rfl, qb0, q2_1⟩ := reps_consL q2_0
  cases r2_1
  cases q2_1
  exact ⟨[u0, w0, m_most], [v0, z0, (.int 1000000)], BindsTo.of_looks fun M => KwChain.looks (l := [("most", m_most)]) X (by
      intro q hq
      simp only [List.mem_cons, List.mem_nil_iff, or_false] at hq
      rcases hq with rfl
      · exact em_most) ⟨_, _, _, _, _, _, rfl, rfl, rfl⟩, .cons (ru0) (.cons (rw0) (.cons (rm_most) (.nil))), .cons (qa0) (.cons (qb0) (.cons (.int _) (.nil)))⟩
theorem kb_number_of_3 {f : Addr} {fd : FuncData} (F : FunD K "number_of" "number_of" (defArgs s_number_of) (defBody s_number_of) (defScope s_number_of) [] [("least", .int 0), ("most", .int 1000000)] f fd) : KBd K fd ["thing", "least", "most"] 1 [] pg_number_of_3 := by
  obtain ⟨oc, od, dV, kV, doc, pm, an, cdv, ct, osl, rfl, lk, hcd, hD, hK⟩ := F.ex
  obtain ⟨_, rfl⟩ | ⟨e, _⟩ := hD
  rotate_left
  · exact absurd rfl e
  obtain e | ⟨Dk, rfl, hq⟩ := hK
  · cases e
  obtain ⟨m_least, em_least, rm_least⟩ := hq ("least", .int 0) (by simp)
  obtain ⟨m_most, em_most, rm_most⟩ := hq ("most", .int 1000000) (by simp)
  intro s I us_0 ws_0 vs_0 zs_0 ds_0 es_0 X lu_0 lw_0 r1_0 r2_0 q1_0 q2_0
  obtain ⟨u0, us_1, rfl, lu_1⟩ := len_cons lu_0
  cases len_nil lu_1
  cases len_nil lw_0
  obtain ⟨v0, vs_1, rfl, ru0, r1_1⟩ := vals_consR r1_0
  obtain ⟨a0, ds_1, rfl, qa0, q1_1⟩ := reps_consL q1_0
  cases r1_1
  cases q1_1
  cases r2_0
  cases q2_0
  exact ⟨[u0, m_least, m_most], [v0, (.int 0), (.int 1000000)], BindsTo.of_looks fun M => KwChain.looks (l := [("least", m_least), ("most", m_most)]) X (by
      intro q hq
      simp only [List.mem_cons, List.mem_nil_iff, or_false] at hq
      rcases hq with rfl | rfl
      · exact em_least
      · exact em_most) ⟨_, _, _, _, _, _, rfl, rfl, ⟨_, _, _, _, _, _, rfl, rfl, rfl⟩⟩, .cons (ru0) (.cons (rm_least) (.cons (rm_most) (.nil))), .cons (qa0) (.cons (.int _) (.cons (.int _) (.nil)))⟩
theorem kb_number_of_4 {f : Addr} {fd : FuncData} (F : FunD K "number_of" "number_of" (defArgs s_number_of) (defBody s_number_of) (defScope s_number_of) [] [("least", .int 0), ("most", .int 1000000)] f fd) : KBd K fd ["thing", "least", "most"] 1 ["most", "least"] pg_number_of_4 := by
  obtain ⟨oc, od, dV, kV, doc, pm, an, cdv, ct, osl, rfl, lk, hcd, hD, hK⟩ := F.ex
  obtain ⟨_, rfl⟩ | ⟨e, _⟩ := hD
  rotate_left
  · exact absurd rfl e
  obtain e | ⟨Dk, rfl, hq⟩ := hK
  · cases e
  intro s I us_0 ws_0 vs_0 zs_0 ds_0 es_0 X lu_0 lw_0 r1_0 r2_0 q1_0 q2_0
  obtain ⟨u0, us_1, rfl, lu_1⟩ := len_cons lu_0
  cases len_nil lu_1
  obtain ⟨w0, ws_1, rfl, lw_1⟩ := len_cons lw_0
  obtain ⟨w1, ws_2, rfl, lw_2⟩ := len_cons lw_1
  cases len_nil lw_2
  obtain ⟨v0, vs_1, rfl, ru0, r1_1⟩ := vals_consR r1_0
  obtain ⟨a0, ds_1, rfl, qa0, q1_1⟩ := reps_consL q1_0
  cases r1_1
  cases q1_1
  obtain ⟨z0, zs_1, rfl, rw0, r2_1⟩ := vals_consR r2_0
  obtain ⟨b0, es_1, rfl, qb0, q2_1⟩ := reps_consL q2_0
  obtain ⟨z1, zs_2, rfl, rw1, r2_2⟩ := vals_consR r2_1
  obtain ⟨b1, es_2, rfl, qb1, q2_2⟩ := reps_consL q2_1
  cases r2_2
  cases q2_2
  exact ⟨[u0, w1, w0], [v0, z1, z0], BindsTo.of_looks fun M => .of_pure rfl, .cons (ru0) (.cons (rw1) (.cons (rw0) (.nil))), .cons (qa0) (.cons (qb1) (.cons (qb0) (.nil)))⟩
theorem kb_number_of_5 {f : Addr} {fd : FuncData} (F : FunD K "number_of" "number_of" (defArgs s_number_of) (defBody s_number_of) (defScope s_number_of) [] [("least", .int 0), ("most", .int 1000000)] f fd) : KBd K fd ["thing", "least", "most"] 0 ["most", "thing", "least"] pg_number_of_5 := by
  obtain ⟨oc, od, dV, kV, doc, pm, an, cdv, ct, osl, rfl, lk, hcd, hD, hK⟩ := F.ex
  obtain ⟨_, rfl⟩ | ⟨e, _⟩ := hD
  rotate_left
  · exact absurd rfl e
  obtain e | ⟨Dk, rfl, hq⟩ := hK
  · cases e
  intro s I us_0 ws_0 vs_0 zs_0 ds_0 es_0 X lu_0 lw_0 r1_0 r2_0 q1_0 q2_0
  cases len_nil lu_0
  obtain ⟨w0, ws_1, rfl, lw_1⟩ := len_cons lw_0
  obtain ⟨w1, ws_2, rfl, lw_2⟩ := len_cons lw_1
  obtain ⟨w2, ws_3, rfl, lw_3⟩ := len_cons lw_2
  cases len_nil lw_3
  cases r1_0
  cases q1_0
  obtain ⟨z0, zs_1, rfl, rw0, r2_1⟩ := vals_consR r2_0
  obtain ⟨b0, es_1, rfl, qb0, q2_1⟩ := reps_consL q2_0
  obtain ⟨z1, zs_2, rfl, rw1, r2_2⟩ := vals_consR r2_1
  obtain ⟨b1, es_2, rfl, qb1, q2_2⟩ := reps_consL q2_1
  obtain ⟨z2, zs_3, rfl, rw2, r2_3⟩ := vals_consR r2_2
  obtain ⟨b2, es_3, rfl, qb2, q2_3⟩ := reps_consL q2_2
  cases r2_3
  cases q2_3
  exact ⟨[w1, w2, w0], [z1, z2, z0], BindsTo.of_looks fun M => .of_pure rfl, .cons (rw1) (.cons (rw2) (.cons (rw0) (.nil))), .cons (qb1) (.cons (qb2) (.cons (qb0) (.nil)))⟩
theorem ok_number_of {f : Addr} {fd : FuncData} (F : FunD K "number_of" "number_of" (defArgs s_number_of) (defBody s_number_of) (defScope s_number_of) [] [("least", .int 0), ("most", .int 1000000)] f fd) (hm : mg "number_of" = some (.ref f)) (T : Txt mg) : FnK P w K mg base 1 "number_of" ["thing", "least", "most"] sp_number_of [⟨1, ["least", "most"], pg_number_of_0⟩, ⟨1, ["most"], pg_number_of_1⟩, ⟨1, ["least"], pg_number_of_2⟩, ⟨1, [], pg_number_of_3⟩, ⟨1, ["most", "least"], pg_number_of_4⟩, ⟨0, ["most", "thing", "least"], pg_number_of_5⟩] := by
  have nd := (sc_number_of).nd
  refine dfunK (ps := ["thing", "least", "most"]) F hm (pats_cons (kb_number_of_0 F) (pats_cons (kb_number_of_1 F) (pats_cons (kb_number_of_2 F) (pats_cons (kb_number_of_3 F) (pats_cons (kb_number_of_4 F) (pats_cons (kb_number_of_5 F) (pats_nil))))))) sc_number_of len_number_of fun cdv A l s H E g rm => ⟨t_number_of, ?_, rd_number_of⟩
  exact s_cons (s_if (t_w (w_or (t_not (t_truth (d_isi .str (fun z => nomatch z) (fun z => nomatch z) T.b_isinstance T.b_str (by decide +kernel) (d_var 0)))) (w_or1 (t_not (t_chain op_le op_le lr_le lr_le (d_int) (d_len T.b_len (a_cons (d_var 0) (a_nil))) (d_gInt T.g_MOST_FIGURES)))))) (s_one (s_ret (d_non))) (s_nil))
    (s_cons (s_if (t_w (w_or (t_not (t_truth (d_all g T.b_all (a_cons (d_lc N_number_of (defScope s_number_of) [("sign", 4)] g nd (i_str (d_var 0)) (by decide +kernel) (t := (.one 4)) rfl (fun _ _ _ _ _ g => v_one 4 nd) (fun _ _ _ _ _ g => ts_nil) (fun _ _ _ _ _ g => d_cmp op_in_sign lr_inS (d_var 4) (d_gStr T.g_FIGURES) rfl)) (a_nil))))) (w_or1 (t_w (w_and (t_cmp (op_ne2 rm) lr_ne (d_var 0) (d_str) (nomark _)) (w_and1 (t_cmp (op_eq2 rm) lr_eq (d_sub_ix (d_var 0) (d_int)) (d_str) (nomark _)))))))) (s_one (s_ret (d_non))) (s_nil))
    (s_cons (s_set 3 nd (d_intS T.b_int (a_cons (d_var 0) (a_nil))))
    (s_one (s_ret (d_ifExp (t_chain op_le op_le lr_le lr_le (d_var 1) (d_var 3) (d_var 2)) (d_var 3) (d_non))))))
abbrev s__law_cell : Stmt := topS 6
theorem sc__law_cell : FnScope N__law_cell ["_law_script", "_law_k"] (defScope s__law_cell) := ⟨rfl, rfl, rfl, by decide +kernel, rfl, by decide +kernel, by decide +kernel⟩
theorem ok__law_cell {f : Addr} {fd : FuncData} (F : L2.Fun K "_law_cell" "_law_cell" s__law_cell f fd) (hm : mg "_law_cell" = some (.ref f)) (T : Txt mg) : Fn P w K mg base 1 "_law_cell" ["_law_script", "_law_k"] sp__law_cell := by
  have nd := (sc__law_cell).nd
  refine dfun (ps := ["_law_script", "_law_k"]) F hm (fun _ _ _ _ _ _ us hl => match us, hl with | [_, _], _ => rfl) sc__law_cell len__law_cell fun cdv A l s H E g rm => ⟨t__law_cell, ?_, rd__law_cell⟩
  exact s_cons (s_if (t_cmp op_lt lr_lt (d_var 1) (d_len T.b_len (a_cons (d_var 0) (a_nil))) (nomark _)) (s_one (s_ret (d_sub_ix (d_var 0) (d_var 1)))) (s_nil))
    (s_one (s_ret (d_add (d_add (d_mul (d_int) (d_var 1)) (d_int)) (d_mod (d_sum g T.b_sum (a_cons (d_slice (d_var 0) (o_none) (o_some (d_int))) (a_nil))) (d_int)))))
abbrev s__law_bag : Stmt := topS 7
theorem sc__law_bag : FnScope N__law_bag ["_law_cell_here"] (defScope s__law_bag) := ⟨rfl, rfl, rfl, by decide +kernel, rfl, by decide +kernel, by decide +kernel⟩
theorem ok__law_bag {f : Addr} {fd : FuncData} (F : L2.Fun K "_law_bag" "_law_bag" s__law_bag f fd) (hm : mg "_law_bag" = some (.ref f)) (T : Txt mg) : Fn P w K mg base 1 "_law_bag" ["_law_cell_here"] sp__law_bag := by
  have nd := (sc__law_bag).nd
  refine dfun (ps := ["_law_cell_here"]) F hm (fun _ _ _ _ _ _ us hl => match us, hl with | [_], _ => rfl) sc__law_bag len__law_bag fun cdv A l s H E g rm => ⟨t__law_bag, ?_, rd__law_bag⟩
  exact s_one (s_ret (d_lstM (a_cons (d_max g T.b_max (a_cons (d_int) (a_cons (d_sub (d_var 0) (d_pow (d_int) (d_int))) (a_nil)))) (a_cons (d_mod (d_var 0) (d_int)) (a_cons (d_int) (a_nil))))))
abbrev s__law_take : Stmt := topS 8
theorem sc__law_take : FnScope N__law_take ["_law_bag_here", "_law_below"] (defScope s__law_take) := ⟨rfl, rfl, rfl, by decide +kernel, rfl, by decide +kernel, by decide +kernel⟩
theorem ok__law_take {f : Addr} {fd : FuncData} (F : L2.Fun K "_law_take" "_law_take" s__law_take f fd) (hm : mg "_law_take" = some (.ref f)) (T : Txt mg) : Fn P w K mg base 1 "_law_take" ["_law_bag_here", "_law_below"] sp__law_take := by
  have nd := (sc__law_take).nd
  refine dfun (ps := ["_law_bag_here", "_law_below"]) F hm (fun _ _ _ _ _ _ us hl => match us, hl with | [_, _], _ => rfl) sc__law_take len__law_take fun cdv A l s H E g rm => ⟨t__law_take, ?_, rd__law_take⟩
  exact s_cons (s_if (t_cmp op_gt lr_gt (d_sub_ix (d_var 0) (d_int)) (d_int) (nomark _)) (s_cons (s_set 2 nd (d_mod (d_sub_ix (d_var 0) (d_int)) (d_var 1)))
    (s_cons (s_asg (d_div (d_sub_ix (d_var 0) (d_int)) (d_var 1)) (g_subL (d_var 0) (d_int)))
    (s_one (s_ret (d_var 2))))) (s_nil))
    (s_cons (s_asg (d_add (d_sub_ix (d_var 0) (d_int)) (d_int)) (g_subL (d_var 0) (d_int)))
    (s_cons (s_set 3 nd (d_mod (d_pow (d_add (d_add (d_sub_ix (d_var 0) (d_int)) (d_mul (d_int) (d_sub_ix (d_var 0) (d_int)))) (d_int)) (d_int)) (d_int)))
    (s_cons (s_set 3 nd (d_mod (d_pow (d_add (d_var 3) (d_mul (d_int) (d_sub_ix (d_var 0) (d_int)))) (d_int)) (d_int)))
    (s_one (s_ret (d_mod (d_div (d_var 3) (d_int)) (d_var 1)))))))
abbrev s__law_read : Stmt := topS 9
theorem sc__law_read : FnScope N__law_read ["_law_one"] (defScope s__law_read) := ⟨rfl, rfl, rfl, by decide +kernel, rfl, by decide +kernel, by decide +kernel⟩
theorem ok__law_read {f : Addr} {fd : FuncData} (F : L2.Fun K "_law_read" "_law_read" s__law_read f fd) (hm : mg "_law_read" = some (.ref f)) (T : Txt mg) : Fn P w K mg base 1 "_law_read" ["_law_one"] sp__law_read := by
  have nd := (sc__law_read).nd
  refine dfun (ps := ["_law_one"]) F hm (fun _ _ _ _ _ _ us hl => match us, hl with | [_], _ => rfl) sc__law_read len__law_read fun cdv A l s H E g rm => ⟨t__law_read, ?_, rd__law_read⟩
  exact s_cons (s_if (t_w (w_or (t_not (t_truth (d_isi .str (fun z => nomatch z) (fun z => nomatch z) T.b_isinstance T.b_str (by decide +kernel) (d_var 0)))) (w_or (t_cmp (op_eq2 rm) lr_eq (d_var 0) (d_str) (nomark _)) (w_or1 (t_w (w_and (t_cmp (op_eq2 rm) lr_eq (d_sub_ix (d_var 0) (d_int)) (d_str) (nomark _)) (w_and1 (t_cmp (op_ne2 rm) lr_ne (d_var 0) (d_str) (nomark _))))))))) (s_one (s_ret (d_non))) (s_nil))
    (s_cons (s_set 1 nd (d_int))
    (s_cons (s_for g (i_str (d_var 0)) (g_name 2 nd) (s_cons (s_if (t_cmp op_notIn_sign lr_notInS (d_var 2) (d_str) rfl) (s_one (s_ret (d_non))) (s_nil))
    (s_one (s_set 1 nd (d_add (d_mul (d_int) (d_var 1)) (d_index (d_str) (d_var 2)))))))
    (s_one (s_ret (d_var 1)))))
abbrev s__law_text : Stmt := topS 10
theorem sc__law_text : FnScope N__law_text ["_law_bag_here"] (defScope s__law_text) := ⟨rfl, rfl, rfl, by decide +kernel, rfl, by decide +kernel, by decide +kernel⟩
theorem ok__law_text {f : Addr} {fd : FuncData} (F : L2.Fun K "_law_text" "_law_text" s__law_text f fd) (hm : mg "_law_text" = some (.ref f)) (T : Txt mg) (f__law_take : Fn P w K mg base 1 "_law_take" ["_law_bag_here", "_law_below"] sp__law_take) : Fn P w K mg base 2 "_law_text" ["_law_bag_here"] sp__law_text := by
  have nd := (sc__law_text).nd
  refine dfun (ps := ["_law_bag_here"]) F hm (fun _ _ _ _ _ _ us hl => match us, hl with | [_], _ => rfl) sc__law_text len__law_text fun cdv A l s H E g rm => ⟨t__law_text sp__law_take, ?_, rd__law_text⟩
  exact s_cons (s_set 1 nd (d_str))
    (s_cons (s_set 2 nd (d_sub_ix (d_lst (a_cons (d_add (d_int) (d_call f__law_take g (rm.mono (by decide)) (a_cons (d_var 0) (a_cons (d_int) (a_nil))))) (a_cons (d_int) (a_cons (d_int) (a_cons (d_int) (a_nil)))))) (d_call f__law_take g (rm.mono (by decide)) (a_cons (d_var 0) (a_cons (d_int) (a_nil))))))
    (s_cons (s_set 3 nd (d_join (d_str) (d_lc N__law_text (defScope s__law_text) [("_law_k", 6)] g nd (i_range1 T.b_range (a_cons (d_var 2) (a_nil))) (by decide +kernel) (t := (.one 6)) rfl (fun _ _ _ _ _ g => v_one 6 nd) (fun _ _ _ _ _ g => ts_nil) (fun _ _ _ _ _ g => d_sub_ix (d_str) (d_call f__law_take g (rm.mono (by decide)) (a_cons (d_var 0) (a_cons (d_int) (a_nil))))))))
    (s_cons (s_set 3 nd (d_sub_ix (d_lst (a_cons (d_var 3) (a_cons (d_str) (a_cons (d_str) (a_cons (d_str) (a_cons (d_str) (a_cons (d_lstrip (d_var 3) (d_str)) (a_nil)))))))) (d_call f__law_take g (rm.mono (by decide)) (a_cons (d_var 0) (a_cons (d_int) (a_nil))))))
    (s_cons (s_set 4 nd (d_call f__law_take g (rm.mono (by decide)) (a_cons (d_var 0) (a_cons (d_add (d_len T.b_len (a_cons (d_var 3) (a_nil))) (d_int)) (a_nil)))))
    (s_cons (s_set 5 nd (d_call f__law_take g (rm.mono (by decide)) (a_cons (d_var 0) (a_cons (d_int) (a_nil)))))
    (s_cons (s_if (t_cmp (op_eq2 rm) lr_eq (d_var 5) (d_int) (nomark _)) (s_one (s_ret (d_add (d_add (d_slice (d_var 3) (o_none) (o_some (d_var 4))) (d_sub_ix (d_var 1) (d_call f__law_take g (rm.mono (by decide)) (a_cons (d_var 0) (a_cons (d_len T.b_len (a_cons (d_var 1) (a_nil))) (a_nil)))))) (d_slice (d_var 3) (o_some (d_var 4)) (o_none))))) (s_nil))
    (s_cons (s_if (t_cmp (op_eq2 rm) lr_eq (d_var 5) (d_int) (nomark _)) (s_one (s_ret (d_add (d_add (d_slice (d_var 3) (o_none) (o_some (d_var 4))) (d_sub_ix (d_var 1) (d_call f__law_take g (rm.mono (by decide)) (a_cons (d_var 0) (a_cons (d_len T.b_len (a_cons (d_var 1) (a_nil))) (a_nil)))))) (d_slice (d_var 3) (o_some (d_add (d_var 4) (d_int))) (o_none))))) (s_nil))
    (s_cons (s_if (t_cmp (op_eq2 rm) lr_eq (d_var 5) (d_int) (nomark _)) (s_one (s_ret (d_add (d_sub_ix (d_lst (a_cons (d_str) (a_cons (d_str) (a_cons (d_str) (a_cons (d_str) (a_nil)))))) (d_call f__law_take g (rm.mono (by decide)) (a_cons (d_var 0) (a_cons (d_int) (a_nil))))) (d_var 3)))) (s_nil))
    (s_one (s_ret (d_var 3)))))))))))
abbrev s__law_bound : Stmt := topS 11
theorem sc__law_bound : FnScope N__law_bound ["_law_bag_here", "_law_near"] (defScope s__law_bound) := ⟨rfl, rfl, rfl, by decide +kernel, rfl, by decide +kernel, by decide +kernel⟩
theorem ok__law_bound {f : Addr} {fd : FuncData} (F : L2.Fun K "_law_bound" "_law_bound" s__law_bound f fd) (hm : mg "_law_bound" = some (.ref f)) (T : Txt mg) (f__law_take : Fn P w K mg base 1 "_law_take" ["_law_bag_here", "_law_below"] sp__law_take) : Fn P w K mg base 2 "_law_bound" ["_law_bag_here", "_law_near"] sp__law_bound := by
  have nd := (sc__law_bound).nd
  refine dfun (ps := ["_law_bag_here", "_law_near"]) F hm (fun _ _ _ _ _ _ us hl => match us, hl with | [_, _], _ => rfl) sc__law_bound len__law_bound fun cdv A l s H E g rm => ⟨t__law_bound sp__law_take, ?_, rd__law_bound⟩
  exact s_cons (s_set 2 nd (d_lstM (a_cons (d_int) (a_cons (d_int) (a_cons (d_int) (a_cons (d_pow (d_int) (d_int)) (a_cons (d_call f__law_take g (rm.mono (by decide)) (a_cons (d_var 0) (a_cons (d_add (d_pow (d_int) (d_int)) (d_int)) (a_nil)))) (a_nil))))))))
    (s_cons (s_if (t_cmp op_notC lr_isNot (d_var 1) (d_non) (nomark _)) (s_one (s_expr (d_append (d_var 2) (d_max g T.b_max (a_cons (d_int) (a_cons (d_min g T.b_min (a_cons (d_pow (d_int) (d_int)) (a_cons (d_sub (d_add (d_var 1) (d_call f__law_take g (rm.mono (by decide)) (a_cons (d_var 0) (a_cons (d_int) (a_nil))))) (d_int)) (a_nil)))) (a_nil))))))) (s_nil))
    (s_one (s_ret (d_sub_ix (d_var 2) (d_call f__law_take g (rm.mono (by decide)) (a_cons (d_var 0) (a_cons (d_len T.b_len (a_cons (d_var 2) (a_nil))) (a_nil))))))))
abbrev s__law_between : Stmt := topS 12
theorem sc__law_between : FnScope N__law_between ["_law_number", "_law_low", "_law_high"] (defScope s__law_between) := ⟨rfl, rfl, rfl, by decide +kernel, rfl, by decide +kernel, by decide +kernel⟩
theorem ok__law_between {f : Addr} {fd : FuncData} (F : L2.Fun K "_law_between" "_law_between" s__law_between f fd) (hm : mg "_law_between" = some (.ref f)) (T : Txt mg) : Fn P w K mg base 1 "_law_between" ["_law_number", "_law_low", "_law_high"] sp__law_between := by
  have nd := (sc__law_between).nd
  refine dfun (ps := ["_law_number", "_law_low", "_law_high"]) F hm (fun _ _ _ _ _ _ us hl => match us, hl with | [_, _, _], _ => rfl) sc__law_between len__law_between fun cdv A l s H E g rm => ⟨t__law_between, ?_, rd__law_between⟩
  exact s_one (s_ret (d_ifExp (t_w (w_and (t_cmp op_notC lr_isNot (d_var 0) (d_non) (nomark _)) (w_and1 (t_chain op_le op_le lr_le lr_le (d_var 1) (d_var 0) (d_var 2))))) (d_var 0) (d_non)))
abbrev s_law : Stmt := topS 13
theorem sc_law : FnScope N_law ["_law_script"] (defScope s_law) := ⟨rfl, rfl, rfl, by decide +kernel, rfl, by decide +kernel, by decide +kernel⟩
theorem ok_law {f : Addr} {fd : FuncData} (F : L2.Fun K "law" "law" s_law f fd) (hm : mg "law" = some (.ref f)) (T : Txt mg) (f__law_bag : Fn P w K mg base 1 "_law_bag" ["_law_cell_here"] sp__law_bag) (f__law_cell : Fn P w K mg base 1 "_law_cell" ["_law_script", "_law_k"] sp__law_cell) (f__law_take : Fn P w K mg base 1 "_law_take" ["_law_bag_here", "_law_below"] sp__law_take) (f__law_text : Fn P w K mg base 2 "_law_text" ["_law_bag_here"] sp__law_text) (f__law_read : Fn P w K mg base 1 "_law_read" ["_law_one"] sp__law_read) (f__law_bound : Fn P w K mg base 2 "_law_bound" ["_law_bag_here", "_law_near"] sp__law_bound) (f__law_between : Fn P w K mg base 1 "_law_between" ["_law_number", "_law_low", "_law_high"] sp__law_between) (f_number_of : FnK P w K mg base 1 "number_of" ["thing", "least", "most"] sp_number_of [⟨1, ["least", "most"], pg_number_of_0⟩, ⟨1, ["most"], pg_number_of_1⟩, ⟨1, ["least"], pg_number_of_2⟩, ⟨1, [], pg_number_of_3⟩, ⟨1, ["most", "least"], pg_number_of_4⟩, ⟨0, ["most", "thing", "least"], pg_number_of_5⟩]) : Fn P w K mg base 3 "law" ["_law_script"] sp_law := by
  have nd := (sc_law).nd
  refine dfun (ps := ["_law_script"]) F hm (fun _ _ _ _ _ _ us hl => match us, hl with | [_], _ => rfl) sc_law len_law fun cdv A l s H E g rm => ⟨t_law sp__law_bag sp__law_cell sp__law_take sp__law_text sp__law_read sp__law_bound sp__law_between sp_number_of, ?_, rd_law⟩
  exact s_cons (s_for g (i_range1 T.b_range (a_cons (d_max g T.b_max (a_cons (d_int) (a_cons (d_min g T.b_min (a_cons (d_int) (a_cons (d_len T.b_len (a_cons (d_var 0) (a_nil))) (a_nil)))) (a_nil)))) (a_nil))) (g_name 1 nd) (s_cons (s_set 2 nd (d_call f__law_bag g (rm.mono (by decide)) (a_cons (d_call f__law_cell g (rm.mono (by decide)) (a_cons (d_var 0) (a_cons (d_var 1) (a_nil)))) (a_nil))))
    (s_cons (s_set 3 nd (d_sub_ix (d_lst (a_cons (d_non) (a_cons (d_int) (a_cons (d_int) (a_cons (d_bl) (a_cons (d_lst (a_nil)) (a_cons (d_tup (a_nil)) (a_cons (d_dict0) (a_cons (d_lst (a_cons (d_str) (a_nil))) (a_cons (d_tup (a_cons (d_str) (a_nil))) (a_cons (d_neg (d_int)) (a_nil)))))))))))) (d_call f__law_take g (rm.mono (by decide)) (a_cons (d_var 2) (a_cons (d_int) (a_nil))))))
    (s_one (s_for g (i_list (d_lst (a_cons (d_call f__law_text g (rm.mono (by decide)) (a_cons (d_var 2) (a_nil))) (a_cons (d_var 3) (a_cons (d_call f__law_text g (rm.mono (by decide)) (a_cons (d_var 2) (a_nil))) (a_nil)))))) (g_name 4 nd) (s_cons (s_set 5 nd (d_call f__law_read g (rm.mono (by decide)) (a_cons (d_var 4) (a_nil))))
    (s_cons (s_par2 6 7 g nd (a_cons (d_call f__law_bound g (rm.mono (by decide)) (a_cons (d_var 2) (a_cons (d_var 5) (a_nil)))) (a_cons (d_call f__law_bound g (rm.mono (by decide)) (a_cons (d_var 2) (a_cons (d_var 5) (a_nil)))) (a_nil))))
    (s_cons (s_set 8 nd (d_lst (a_cons (d_call f__law_between g (rm.mono (by decide)) (a_cons (d_var 5) (a_cons (d_var 6) (a_cons (d_var 7) (a_nil))))) (a_cons (d_call f__law_between g (rm.mono (by decide)) (a_cons (d_var 5) (a_cons (d_int) (a_cons (d_var 7) (a_nil))))) (a_cons (d_call f__law_between g (rm.mono (by decide)) (a_cons (d_var 5) (a_cons (d_var 6) (a_cons (d_gInt T.g_MOST) (a_nil))))) (a_nil))))))
    (s_cons (s_set 8 nd (d_add (d_var 8) (d_lst (a_cons (d_call f__law_between g (rm.mono (by decide)) (a_cons (d_var 5) (a_cons (d_int) (a_cons (d_int) (a_nil))))) (a_cons (d_call f__law_between g (rm.mono (by decide)) (a_cons (d_var 5) (a_cons (d_var 7) (a_cons (d_var 6) (a_nil))))) (a_nil))))))
    (s_one (s_for g (i_range1 T.b_range (a_cons (d_int) (a_nil))) (g_name 9 nd) (s_cons (s_set 10 nd (d_lst (a_cons (d_kw 0 f_number_of g (rm.mono (by decide)) (a_cons (d_var 4) (a_nil)) (k_cons (d_var 6) (k_cons (d_var 7) (k_nil)))) (a_cons (d_kw 1 f_number_of g (rm.mono (by decide)) (a_cons (d_var 4) (a_nil)) (k_cons (d_var 7) (k_nil))) (a_nil)))))
    (s_cons (s_set 10 nd (d_add (d_var 10) (d_lst (a_cons (d_kw 2 f_number_of g (rm.mono (by decide)) (a_cons (d_var 4) (a_nil)) (k_cons (d_var 6) (k_nil))) (a_cons (d_kw 3 f_number_of g (rm.mono (by decide)) (a_cons (d_var 4) (a_nil)) (k_nil)) (a_cons (d_kw 4 f_number_of g (rm.mono (by decide)) (a_cons (d_var 4) (a_nil)) (k_cons (d_var 6) (k_cons (d_var 7) (k_nil)))) (a_nil)))))))
    (s_one (s_if (t_w (w_or (t_cmp (op_ne2 rm) lr_ne (d_repr g rm T.b_repr (a_cons (d_var 10) (a_nil))) (d_repr g rm T.b_repr (a_cons (d_var 8) (a_nil))) (nomark _)) (w_or1 (t_cmp (op_ne2 rm) lr_ne (d_kw0 5 f_number_of g (rm.mono (by decide)) (k_cons (d_var 7) (k_cons (d_var 4) (k_cons (d_var 6) (k_nil))))) (d_sub_ix (d_var 8) (d_int)) (nomark _))))) (s_one (s_ret (d_bl))) (s_nil))))))))))))))))
    (s_one (s_ret (d_cmp (op_eq2 rm) lr_eq (d_gInt T.g_MOST) (d_int) (nomark _))))
end
theorem all_mk {P : Program} {w : World} {K : PySem.W.Frag} {h : Heap} {mg : Str → Option Value} {fa : Addr} {tk_g_MOST_FIGURES : Tok} {tk_g_FIGURES : Tok} {tk_g_MOST : Tok} {f0 : Addr} {od0 an0 : Option Addr} {sl0 : Array (Option Value)} {oc0 dc0 pm0 cd0 ct0 : Value} {t0_least : Tok} {t0_most : Tok} {Dk0 : Addr} {f1 : Addr} {od1 an1 : Option Addr} {sl1 : Array (Option Value)} {oc1 kV1 dc1 pm1 cd1 ct1 : Value} {f2 : Addr} {od2 an2 : Option Addr} {sl2 : Array (Option Value)} {oc2 kV2 dc2 pm2 cd2 ct2 : Value} {f3 : Addr} {od3 an3 : Option Addr} {sl3 : Array (Option Value)} {oc3 kV3 dc3 pm3 cd3 ct3 : Value} {f4 : Addr} {od4 an4 : Option Addr} {sl4 : Array (Option Value)} {oc4 kV4 dc4 pm4 cd4 ct4 : Value} {f5 : Addr} {od5 an5 : Option Addr} {sl5 : Array (Option Value)} {oc5 kV5 dc5 pm5 cd5 ct5 : Value} {f6 : Addr} {od6 an6 : Option Addr} {sl6 : Array (Option Value)} {oc6 kV6 dc6 pm6 cd6 ct6 : Value} {f7 : Addr} {od7 an7 : Option Addr} {sl7 : Array (Option Value)} {oc7 kV7 dc7 pm7 cd7 ct7 : Value} {f8 : Addr} {od8 an8 : Option Addr} {sl8 : Array (Option Value)} {oc8 kV8 dc8 pm8 cd8 ct8 : Value} (X : K.In h) (G : h.Ns mainGlobals mg) (hfa : mg "law" = some (.ref fa)) (z_b_isinstance : PySem.W.nsIn K mainGlobals "isinstance" = some none) (z_b_str : PySem.W.nsIn K mainGlobals "str" = some none) (z_b_len : PySem.W.nsIn K mainGlobals "len" = some none) (z_g_MOST_FIGURES : PySem.W.nsIn K mainGlobals "MOST_FIGURES" = some (some (.int 10 tk_g_MOST_FIGURES))) (z_b_all : PySem.W.nsIn K mainGlobals "all" = some none) (z_g_FIGURES : PySem.W.nsIn K mainGlobals "FIGURES" = some (some (.str "0123456789" tk_g_FIGURES))) (z_b_int : PySem.W.nsIn K mainGlobals "int" = some none) (z_b_sum : PySem.W.nsIn K mainGlobals "sum" = some none) (z_b_max : PySem.W.nsIn K mainGlobals "max" = some none) (z_b_range : PySem.W.nsIn K mainGlobals "range" = some none) (z_b_min : PySem.W.nsIn K mainGlobals "min" = some none) (z_g_MOST : PySem.W.nsIn K mainGlobals "MOST" = some (some (.int 1000000 tk_g_MOST))) (z_b_repr : PySem.W.nsIn K mainGlobals "repr" = some none) (a0 : PySem.W.nsIn K mainGlobals "number_of" = some (some (.ref f0))) (hk0_least : PySem.W.nsIn K Dk0 "least" = some (some (.int 0 t0_least))) (hk0_most : PySem.W.nsIn K Dk0 "most" = some (some (.int 1000000 t0_most))) (l0 : K.lookup f0 = some ⟨oc0, od0, .func (PySem.W.fnOf "number_of" "number_of" (defArgs s_number_of) (defBody s_number_of) (defScope s_number_of) .none (.ref Dk0) dc0 pm0 an0 cd0 ct0), sl0⟩) (c0 : PySem.W.codeIn K cd0 "number_of" = true) (k0 : PySem.W.keepIn K (.ref f0) = true) (a1 : PySem.W.nsIn K mainGlobals "_law_cell" = some (some (.ref f1))) (l1 : K.lookup f1 = some ⟨oc1, od1, .func (PySem.W.fnOf "_law_cell" "_law_cell" (defArgs s__law_cell) (defBody s__law_cell) (defScope s__law_cell) .none kV1 dc1 pm1 an1 cd1 ct1), sl1⟩) (c1 : PySem.W.codeIn K cd1 "_law_cell" = true) (k1 : PySem.W.keepIn K (.ref f1) = true) (a2 : PySem.W.nsIn K mainGlobals "_law_bag" = some (some (.ref f2))) (l2 : K.lookup f2 = some ⟨oc2, od2, .func (PySem.W.fnOf "_law_bag" "_law_bag" (defArgs s__law_bag) (defBody s__law_bag) (defScope s__law_bag) .none kV2 dc2 pm2 an2 cd2 ct2), sl2⟩) (c2 : PySem.W.codeIn K cd2 "_law_bag" = true) (k2 : PySem.W.keepIn K (.ref f2) = true) (a3 : PySem.W.nsIn K mainGlobals "_law_take" = some (some (.ref f3))) (l3 : K.lookup f3 = some ⟨oc3, od3, .func (PySem.W.fnOf "_law_take" "_law_take" (defArgs s__law_take) (defBody s__law_take) (defScope s__law_take) .none kV3 dc3 pm3 an3 cd3 ct3), sl3⟩) (c3 : PySem.W.codeIn K cd3 "_law_take" = true) (k3 : PySem.W.keepIn K (.ref f3) = true) (a4 : PySem.W.nsIn K mainGlobals "_law_read" = some (some (.ref f4))) (l4 : K.lookup f4 = some ⟨oc4, od4, .func (PySem.W.fnOf "_law_read" "_law_read" (defArgs s__law_read) (defBody s__law_read) (defScope s__law_read) .none kV4 dc4 pm4 an4 cd4 ct4), sl4⟩) (c4 : PySem.W.codeIn K cd4 "_law_read" = true) (k4 : PySem.W.keepIn K (.ref f4) = true) (a5 : PySem.W.nsIn K mainGlobals "_law_text" = some (some (.ref f5))) (l5 : K.lookup f5 = some ⟨oc5, od5, .func (PySem.W.fnOf "_law_text" "_law_text" (defArgs s__law_text) (defBody s__law_text) (defScope s__law_text) .none kV5 dc5 pm5 an5 cd5 ct5), sl5⟩) (c5 : PySem.W.codeIn K cd5 "_law_text" = true) (k5 : PySem.W.keepIn K (.ref f5) = true) (a6 : PySem.W.nsIn K mainGlobals "_law_bound" = some (some (.ref f6))) (l6 : K.lookup f6 = some ⟨oc6, od6, .func (PySem.W.fnOf "_law_bound" "_law_bound" (defArgs s__law_bound) (defBody s__law_bound) (defScope s__law_bound) .none kV6 dc6 pm6 an6 cd6 ct6), sl6⟩) (c6 : PySem.W.codeIn K cd6 "_law_bound" = true) (k6 : PySem.W.keepIn K (.ref f6) = true) (a7 : PySem.W.nsIn K mainGlobals "_law_between" = some (some (.ref f7))) (l7 : K.lookup f7 = some ⟨oc7, od7, .func (PySem.W.fnOf "_law_between" "_law_between" (defArgs s__law_between) (defBody s__law_between) (defScope s__law_between) .none kV7 dc7 pm7 an7 cd7 ct7), sl7⟩) (c7 : PySem.W.codeIn K cd7 "_law_between" = true) (k7 : PySem.W.keepIn K (.ref f7) = true) (a8 : PySem.W.nsIn K mainGlobals "law" = some (some (.ref f8))) (l8 : K.lookup f8 = some ⟨oc8, od8, .func (PySem.W.fnOf "law" "law" (defArgs s_law) (defBody s_law) (defScope s_law) .none kV8 dc8 pm8 an8 cd8 ct8), sl8⟩) (c8 : PySem.W.codeIn K cd8 "law" = true) (k8 : PySem.W.keepIn K (.ref f8) = true) :
    ∀ base : Heap, Fn P w K mg base 3 "law" ["_law_script"] sp_law := by
  have T : Txt mg := { b_isinstance := PySem.W.mg_none_of X G z_b_isinstance, b_str := PySem.W.mg_none_of X G z_b_str, b_len := PySem.W.mg_none_of X G z_b_len, g_MOST_FIGURES := ⟨_, PySem.W.mg_of X G z_g_MOST_FIGURES⟩, b_all := PySem.W.mg_none_of X G z_b_all, g_FIGURES := ⟨_, PySem.W.mg_of X G z_g_FIGURES⟩, b_int := PySem.W.mg_none_of X G z_b_int, b_sum := PySem.W.mg_none_of X G z_b_sum, b_max := PySem.W.mg_none_of X G z_b_max, b_range := PySem.W.mg_none_of X G z_b_range, b_min := PySem.W.mg_none_of X G z_b_min, g_MOST := ⟨_, PySem.W.mg_of X G z_g_MOST⟩, b_repr := PySem.W.mg_none_of X G z_b_repr }
  have F0 : FunD K "number_of" "number_of" (defArgs s_number_of) (defBody s_number_of) (defScope s_number_of) [] [("least", .int 0), ("most", .int 1000000)] f0 _ := ⟨⟨_, _, _, _, _, _, _, _, _, _, rfl, l0, c0, Or.inl ⟨rfl, rfl⟩, Or.inr ⟨_, rfl, by
    intro q hq
    simp only [List.mem_cons, List.mem_nil_iff, or_false] at hq
    rcases hq with rfl | rfl
    · exact ⟨_, hk0_least, ⟨_, rfl⟩⟩
    · exact ⟨_, hk0_most, ⟨_, rfl⟩⟩⟩⟩, k0⟩
  have F1 := fun_mk (st := s__law_cell) l1 c1 k1
  have F2 := fun_mk (st := s__law_bag) l2 c2 k2
  have F3 := fun_mk (st := s__law_take) l3 c3 k3
  have F4 := fun_mk (st := s__law_read) l4 c4 k4
  have F5 := fun_mk (st := s__law_text) l5 c5 k5
  have F6 := fun_mk (st := s__law_bound) l6 c6 k6
  have F7 := fun_mk (st := s__law_between) l7 c7 k7
  have F8 := fun_mk (st := s_law) l8 c8 k8
  have e := hfa.symm.trans (PySem.W.mg_of X G a8)
  cases e
  have f__law_bag : ∀ base : Heap, Fn P w K mg base 1 "_law_bag" ["_law_cell_here"] sp__law_bag := fun base => ok__law_bag F2 (PySem.W.mg_of X G a2) T
  have f__law_cell : ∀ base : Heap, Fn P w K mg base 1 "_law_cell" ["_law_script", "_law_k"] sp__law_cell := fun base => ok__law_cell F1 (PySem.W.mg_of X G a1) T
  have f__law_take : ∀ base : Heap, Fn P w K mg base 1 "_law_take" ["_law_bag_here", "_law_below"] sp__law_take := fun base => ok__law_take F3 (PySem.W.mg_of X G a3) T
  have f__law_text : ∀ base : Heap, Fn P w K mg base 2 "_law_text" ["_law_bag_here"] sp__law_text := fun base => ok__law_text F5 (PySem.W.mg_of X G a5) T (f__law_take base)
  have f__law_read : ∀ base : Heap, Fn P w K mg base 1 "_law_read" ["_law_one"] sp__law_read := fun base => ok__law_read F4 (PySem.W.mg_of X G a4) T
  have f__law_bound : ∀ base : Heap, Fn P w K mg base 2 "_law_bound" ["_law_bag_here", "_law_near"] sp__law_bound := fun base => ok__law_bound F6 (PySem.W.mg_of X G a6) T (f__law_take base)
  have f__law_between : ∀ base : Heap, Fn P w K mg base 1 "_law_between" ["_law_number", "_law_low", "_law_high"] sp__law_between := fun base => ok__law_between F7 (PySem.W.mg_of X G a7) T
  have f_number_of : ∀ base : Heap, FnK P w K mg base 1 "number_of" ["thing", "least", "most"] sp_number_of [⟨1, ["least", "most"], pg_number_of_0⟩, ⟨1, ["most"], pg_number_of_1⟩, ⟨1, ["least"], pg_number_of_2⟩, ⟨1, [], pg_number_of_3⟩, ⟨1, ["most", "least"], pg_number_of_4⟩, ⟨0, ["most", "thing", "least"], pg_number_of_5⟩] := fun base => ok_number_of F0 (PySem.W.mg_of X G a0) T
  have f_law : ∀ base : Heap, Fn P w K mg base 3 "law" ["_law_script"] sp_law := fun base => ok_law F8 (PySem.W.mg_of X G a8) T (f__law_bag base) (f__law_cell base) (f__law_take base) (f__law_text base) (f__law_read base) (f__law_bound base) (f__law_between base) (f_number_of base)
  exact f_law
end K02

set_option Elab.async false
set_option maxRecDepth 100000
namespace K02
open PySem L2 DL
theorem law_pr {K : PySem.W.Frag} {H : Hp} {a : Addr} {ns : List Int} (hl : ns.length ≤ 63) (hS : SqL K H a (ns.map V.int)) : lSp K sp_law [.ref a] H (fun v _ => v = .bl true) (fun _ _ _ => False) := by
  refine ⟨H, fun _ => none, fun _ => none, [.sq (ns.map D.int)], fun d _ => d = .bl true, fun _ _ _ => False, ⟨fun _ _ e => e, fun _ _ e => (nomatch e), fun _ _ e => (nomatch e)⟩, .cons (.sq hS (rep_ints ns)) .nil, ⟨ns, rfl, hl, fun _ => rfl⟩, fun d M' I' H' v e _ _ r => ?_, fun _ _ _ _ _ _ z => z.elim⟩
  subst e
  cases r
  rfl
theorem walk {l : PySem.W.OpenLaw} {q : Program} {loose : List Str} {XP : (Str → Option Value) → Heap → Prop} {YP : World → Heap → Prop} {d : DefRec} {K : Params → PySem.W.Frag} (hn : l.most = some 63) (hdf : d.params.defaults = []) (hY : ∀ (w : World) (h : Heap), YP w h → (K w.params).In h)
    (F : ∀ (w : World) (mg : Str → Option Value) (fa : Addr) (h : Heap), (K w.params).In h → h.Ns mainGlobals mg → mg d.name = some (.ref fa) → mg "law" = some (.ref fa) ∧ ∀ base : Heap, Fn l.prog w (K w.params) mg base 3 "law" ["_law_script"] sp_law) : PySem.W.WalkO q loose XP YP l.row.toRowW d [] (fun f vs => PySem.call f vs) :=
  walk_fn hn hdf ⟨rfl, by decide, by decide⟩ hY F fun hl hS => law_pr hl hS
end K02
open PySem PySem.W PyProof.Rows in
set_option maxRecDepth 100000 in
set_option maxHeartbeats 0 in
theorem PySem.Challenge.cw_drowsetree_k02_numbers_by_names_holds : PySem.Challenge.rw_drowsetree_k02_numbers_by_names.Holds := by
  w_on; o_law; k_head; (case hw => w_witness2)
  k_fill
  refine K02.walk (l := PySem.Challenge.rw_drowsetree_k02_numbers_by_names) rfl rfl (fun w h Y => PySem.W.kIn_of Y) ?F
  case F =>
    intro w mg fa h KX G hmg
    refine ⟨hmg, ?_⟩
    refine' K02.all_mk KX G hmg ?z_b_isinstance ?z_b_str ?z_b_len ?z_g_MOST_FIGURES ?z_b_all ?z_g_FIGURES ?z_b_int ?z_b_sum ?z_b_max ?z_b_range ?z_b_min ?z_g_MOST ?z_b_repr ?a0 ?hk0_least ?hk0_most ?l0 ?c0 ?k0 ?a1 ?l1 ?c1 ?k1 ?a2 ?l2 ?c2 ?k2 ?a3 ?l3 ?c3 ?k3 ?a4 ?l4 ?c4 ?k4 ?a5 ?l5 ?c5 ?k5 ?a6 ?l6 ?c6 ?k6 ?a7 ?l7 ?c7 ?k7 ?a8 ?l8 ?c8 ?k8
    (case z_b_isinstance => k_is)
    (case z_b_str => k_is)
    (case z_b_len => k_is)
    (case z_g_MOST_FIGURES => k_is)
    (case z_b_all => k_is)
    (case z_g_FIGURES => k_is)
    (case z_b_int => k_is)
    (case z_b_sum => k_is)
    (case z_b_max => k_is)
    (case z_b_range => k_is)
    (case z_b_min => k_is)
    (case z_g_MOST => k_is)
    (case z_b_repr => k_is)
    (case a0 => k_is)
    (case l0 => k_is)
    (case c0 => k_is)
    (case k0 => k_is)
    (case a1 => k_is)
    (case l1 => k_is)
    (case c1 => k_is)
    (case k1 => k_is)
    (case a2 => k_is)
    (case l2 => k_is)
    (case c2 => k_is)
    (case k2 => k_is)
    (case a3 => k_is)
    (case l3 => k_is)
    (case c3 => k_is)
    (case k3 => k_is)
    (case a4 => k_is)
    (case l4 => k_is)
    (case c4 => k_is)
    (case k4 => k_is)
    (case a5 => k_is)
    (case l5 => k_is)
    (case c5 => k_is)
    (case k5 => k_is)
    (case a6 => k_is)
    (case l6 => k_is)
    (case c6 => k_is)
    (case k6 => k_is)
    (case a7 => k_is)
    (case l7 => k_is)
    (case c7 => k_is)
    (case k7 => k_is)
    (case a8 => k_is)
    (case l8 => k_is)
    (case c8 => k_is)
    (case k8 => k_is)
    (case hk0_least => k_is)
    (case hk0_most => k_is)
