import PyProof.Rows.All
import Wide.All
import OpenK.AllK
import Wide.FinOn
import HandS.ForMost
import HandS.ForExc
import HandS.CallSlots
import HandS.Walk
import HandS.Wide
import HandS.IsInst
import HandS.Style
import HandS.ExcInit
import KE.KExcIs
import HandS.Defaults
import HandS.Replace
import HandS.StrMore
import PyProof.ReprLen
import HandS.TryMany
import KE.KTryMore
import HandS.ExcField
import PyProof.ReprRoads
import KE.KExcStr
import PyProof.ExcReprCall
import HandS.TupAny
import HandS.TupMul
import KE.KUnpackStar
import PyProof.StrBlock2
import HandS.RaiseMore
import PyProof.EqAt
import PyProof.NeKinds
import HandS.Small
import HandS.Deep
import HandS.TupLen
import HandS.More
import HandS.DictTup
import KE.DataFind
import HandS.DictComp
import KE.KDictList
import HandS.Sort
import PyProof.Conv_int_bool
import HandS.OwnEq
import KE.KCallOwn
import HandS.TryOnly
import PyProof.FactsAll.dict
import PyProof.P3Eq
import KE.IntTextLaws
import KE.KDictLaws
import HandS.FStr
import PyProof.FactsAll.subtypes_4
import KE.KIntText
import HandS.Flow
import HandS.Finally
import PyProof.ExcBaseAll.LookupError
import HandS.ListItems
import HandS.HeadHook4
import HandS.HeadEnd
import HandS.Head0
import HandS.Head1
import HandS.Head2
import KE.GoesComp
import PySem.Challenge.RW_drowsetree_k51_tasks_told
set_option Elab.async false
set_option linter.all false
set_option maxRecDepth 100000
set_option maxHeartbeats 2000000
namespace DL
open PySem L2
inductive D where
  | non | bl (b : Bool) | int (i : Int) | str (x : Str) | ref (a : Addr) | ty (n : String)
  | lst (xs : List D) | sq (xs : List D) | tup (xs : List D) | dct (kvs : List (Key × D)) | ins (C : Addr) (fs : List (Str × D))
mutual
inductive Rep (K : PySem.W.Frag) (I : Hp) : V → D → Prop
  | non : Rep K I .non .non
  | bl (b : Bool) : Rep K I (.bl b) (.bl b)
  | int (i : Int) : Rep K I (.int i) (.int i)
  | str (x : Str) : Rep K I (.str x) (.str x)
  | ref (a : Addr) : Rep K I (.ref a) (.ref a)
  | ty (n : String) : Rep K I (.ty n) (.ty n)
  | lst {a : Addr} {vs : List V} {ds : List D} : I a = some (.lst vs) → Reps K I vs ds → Rep K I (.ref a) (.lst ds)
  | sq {a : Addr} {vs : List V} {ds : List D} : SqL K I a vs → Reps K I vs ds → Rep K I (.ref a) (.sq ds)
  | tup {a : Addr} {vs : List V} {ds : List D} : SqT K I a vs → Reps K I vs ds → Rep K I (.ref a) (.tup ds)
  | dct {a : Addr} {kvs : List (Key × V)} {kds : List (Key × D)} : I a = some (.dK kvs) → RepK K I kvs kds → Rep K I (.ref a) (.dct kds)
  | ins {a C dx : Addr} {fs : List (Str × V)} {fds : List (Str × D)} : I a = some (.ins C dx fs) → RepF K I fs fds → Rep K I (.ref a) (.ins C fds)
inductive Reps (K : PySem.W.Frag) (I : Hp) : List V → List D → Prop
  | nil : Reps K I [] []
  | cons {v : V} {d : D} {vs : List V} {ds : List D} : Rep K I v d → Reps K I vs ds → Reps K I (v :: vs) (d :: ds)
inductive RepK (K : PySem.W.Frag) (I : Hp) : List (Key × V) → List (Key × D) → Prop
  | nil : RepK K I [] []
  | cons {k : Key} {v : V} {d : D} {vs : List (Key × V)} {ds : List (Key × D)} : Rep K I v d → RepK K I vs ds → RepK K I ((k, v) :: vs) ((k, d) :: ds)
inductive RepF (K : PySem.W.Frag) (I : Hp) : List (Str × V) → List (Str × D) → Prop
  | nil : RepF K I [] []
  | cons {k : Str} {v : V} {d : D} {vs : List (Str × V)} {ds : List (Str × D)} : Rep K I v d → RepF K I vs ds → RepF K I ((k, v) :: vs) ((k, d) :: ds)
end
theorem sq_mono {K : PySem.W.Frag} {I I' : Hp} (e : Same I I') {a : Addr} {xs : List V} (h : SqL K I a xs) : SqL K I' a xs := e.seq h
theorem st_mono {K : PySem.W.Frag} {I I' : Hp} (e : Same I I') {a : Addr} {xs : List V} (h : SqT K I a xs) : SqT K I' a xs := by
  rcases h with (h | ⟨o, h⟩) | h
  · exact .inl (.inl (e _ _ h))
  · exact .inl (.inr ⟨o, e _ _ h⟩)
  · exact .inr h
mutual
theorem Rep.mono {K : PySem.W.Frag} {I I' : Hp} (e : Same I I') : ∀ {v : V} {d : D}, Rep K I v d → Rep K I' v d
  | _, _, .non => .non
  | _, _, .bl b => .bl b
  | _, _, .int i => .int i
  | _, _, .str x => .str x
  | _, _, .ref a => .ref a
  | _, _, .ty n => .ty n
  | _, _, .lst h r => .lst (e _ _ h) (Reps.mono e r)
  | _, _, .sq h r => .sq (sq_mono e h) (Reps.mono e r)
  | _, _, .tup h r => .tup (st_mono e h) (Reps.mono e r)
  | _, _, .dct h r => .dct (e _ _ h) (RepK.mono e r)
  | _, _, .ins h r => .ins (e _ _ h) (RepF.mono e r)
theorem Reps.mono {K : PySem.W.Frag} {I I' : Hp} (e : Same I I') : ∀ {vs : List V} {ds : List D}, Reps K I vs ds → Reps K I' vs ds
  | _, _, .nil => .nil
  | _, _, .cons h r => .cons (Rep.mono e h) (Reps.mono e r)
theorem RepK.mono {K : PySem.W.Frag} {I I' : Hp} (e : Same I I') : ∀ {vs : List (Key × V)} {ds : List (Key × D)}, RepK K I vs ds → RepK K I' vs ds
  | _, _, .nil => .nil
  | _, _, .cons h r => .cons (Rep.mono e h) (RepK.mono e r)
theorem RepF.mono {K : PySem.W.Frag} {I I' : Hp} (e : Same I I') : ∀ {vs : List (Str × V)} {ds : List (Str × D)}, RepF K I vs ds → RepF K I' vs ds
  | _, _, .nil => .nil
  | _, _, .cons h r => .cons (Rep.mono e h) (RepF.mono e r)
end
inductive RepT (K : PySem.W.Frag) (I : Hp) : List (List Key × V) → List (List Key × D) → Prop
  | nil : RepT K I [] []
  | cons {k : List Key} {v : V} {d : D} {vs : List (List Key × V)} {ds : List (List Key × D)} : Rep K I v d → RepT K I vs ds → RepT K I ((k, v) :: vs) ((k, d) :: ds)
theorem RepT.mono {K : PySem.W.Frag} {I I' : Hp} (e : Same I I') : ∀ {vs : List (List Key × V)} {ds : List (List Key × D)}, RepT K I vs ds → RepT K I' vs ds
  | _, _, .nil => .nil
  | _, _, .cons h r => .cons (Rep.mono e h) (RepT.mono e r)
inductive MO where
  | lst (xs : List D) | dct (kvs : List (Key × D)) | ins (C : Addr) (fs : List (Str × D)) | exc (C : Addr) (fs : List (Str × D)) | xd (fs : List (Str × D)) | dT (kvs : List (List Key × D)) | dctL (od : Obj) (us : List (Key × V)) (kvs : List (Key × D)) | dTL (od : Obj) (us : List (List Key × V)) (kvs : List (List Key × D))
abbrev Mp := Addr → Option MO
def updM (M : Mp) (a : Addr) (o : MO) : Mp := fun b => if b = a then some o else M b
structure ExcCls (K : PySem.W.Frag) (C : Addr) : Prop where
  cl : (PySem.W.clsIn K C).isSome = true
  ga : PySem.W.findIn K (.ref C) "__getattribute__" = some (some (.builtin "BaseException.__getattribute__"))
  gt : PySem.W.findIn K (.ref C) "__getattr__" = some none
  sub : PySem.W.subIn K (.ref C) (.type "BaseException") = some true
  ca : PySem.W.findIn K (.ref C) "__class__" = some (some (.builtin "object.__class__"))
  sp : PySem.W.specialIn K (.builtin "object.__class__") "__get__" = some (some (.builtin "getset_descriptor.__get__"))
  tk : PySem.W.takesIn K (.builtin "object.__class__") = some true
  mr : PySem.W.mroIn K C (.type "object") = some true
  kit : ∀ n ∈ ["bool", "int", "str", "list", "tuple", "dict"], PySem.W.kitOne K (.ref C) (.type n) = some false
def exoT (a C : Addr) (d : Option Addr) (t : Addr) : HO := .ext fun hp => hp.get? a = some (⟨.ref C, d, .fields #[.ref t, .none, .none, .none, .bool false, .none], #[]⟩ : Obj)
structure ExcSh (K : PySem.W.Frag) (C : Addr) (nm : Str) : Prop where
  rep : PySem.W.findIn K (.ref C) "__repr__" = some (some (.builtin "BaseException.__repr__"))
  nam : ∃ cd, PySem.W.clsIn K C = some cd ∧ cd.name = nm
def RepO (K : PySem.W.Frag) (I H : Hp) (a : Addr) (o : HO) : MO → Prop
  | .lst ds => ∃ vs, o = .lst vs ∧ Reps K I vs ds
  | .dct ds => ∃ vs, o = .dK vs ∧ RepK K I vs ds
  | .ins C ds => ∃ dx fs, o = .ins C dx fs ∧ RepF K I fs ds
  | .xd ds => ∃ vs, o = .xd vs ∧ RepF K I vs ds
  | .dT ds => ∃ vs, o = .dT vs ∧ RepT K I vs ds
  | .dctL od us ds => o = .frz od (.dK us) ∧ RepK K I us ds
  | .dTL od us ds => o = .frz od (.dT us) ∧ RepT K I us ds
  | .exc C ds => ExcCls K C ∧ ∃ d vs, H d = some (exd d vs) ∧ (o = exo a C (some d) ∧ RepF K I vs ds ∧ (ds.all fun p => p.1 != ("*" : Str)) = true ∨ ∃ t nm s, o = exoT a C (some d) t ∧ I t = some (.tup [.str s]) ∧ ds = [(("*" : Str), D.tup [D.str nm, D.str s])] ∧ ExcSh K C nm)
theorem RepO.mono {K : PySem.W.Frag} {I I' H H' : Hp} {a : Addr} (e : Same I I') {o : HO} {m : MO} (h : RepO K I H a o m) (k : ∀ d φ, H d = some (.ext φ) → H' d = some (.ext φ)) : RepO K I' H' a o m := by
  cases m with
  | lst ds => obtain ⟨vs, e1, r⟩ := h; exact ⟨vs, e1, r.mono e⟩
  | dct ds => obtain ⟨vs, e1, r⟩ := h; exact ⟨vs, e1, r.mono e⟩
  | ins C ds => obtain ⟨dx, vs, e1, r⟩ := h; exact ⟨dx, vs, e1, r.mono e⟩
  | exc C ds =>
    obtain ⟨c, d, vs, e2, h⟩ := h
    refine ⟨c, d, vs, k _ _ e2, ?_⟩
    rcases h with ⟨e1, r, f⟩ | ⟨t, nm, s, e1, et, x⟩
    · exact .inl ⟨e1, r.mono e, f⟩
    · exact .inr ⟨t, nm, s, e1, e _ _ et, x⟩
  | xd ds => obtain ⟨vs, e1, r⟩ := h; exact ⟨vs, e1, r.mono e⟩
  | dT ds => obtain ⟨vs, e1, r⟩ := h; exact ⟨vs, e1, r.mono e⟩
  | dctL od us ds => exact ⟨h.1, h.2.mono e⟩
  | dTL od us ds => exact ⟨h.1, h.2.mono e⟩
structure HR (K : PySem.W.Frag) (I : Hp) (M : Mp) (F : Hp) (H : Hp) : Prop where
  imm : ∀ a o, I a = some o → H a = some o
  mu : ∀ a m, M a = some m → I a = none ∧ ∃ o, H a = some o ∧ RepO K I H a o m
  frm : ∀ a o, F a = some o → H a = some o ∧ I a = none ∧ M a = none
  ft : ∀ a vs, F a ≠ some (.tup vs)
theorem ft_upd {F : Hp} {p : Addr} {o : HO} (h : ∀ a vs, F a ≠ some (.tup vs)) (ho : ∀ vs, o ≠ .tup vs) : ∀ a vs, upd F p o a ≠ some (.tup vs) := fun a vs e => by
  by_cases q : a = p
  · subst q; rw [upd_same] at e; cases e; exact ho vs rfl
  · rw [upd_ne q] at e; exact h a vs e
theorem ft_off {F : Hp} {p : Addr} {o : HO} (h : ∀ a vs, upd F p o a ≠ some (.tup vs)) (hF : F p = none) : ∀ a vs, F a ≠ some (.tup vs) := fun a vs e => by
  have q : a ≠ p := fun z => by rw [z, hF] at e; cases e
  exact h a vs (by rw [upd_ne q]; exact e)
theorem HR.fresh {K : PySem.W.Frag} {I : Hp} {M : Mp} {F H : Hp} (h : HR K I M F H) {p : Addr} (hp : H p = none) : I p = none ∧ M p = none ∧ F p = none := by
  refine ⟨?_, ?_, ?_⟩
  · cases q : I p with
    | none => rfl
    | some o => rw [h.imm p o q] at hp; cases hp
  · cases q : M p with
    | none => rfl
    | some o => obtain ⟨_, u, e, _⟩ := h.mu p o q; rw [e] at hp; cases hp
  · cases q : F p with
    | none => rfl
    | some o => rw [(h.frm p o q).1] at hp; cases hp
theorem same_new {I : Hp} {p : Addr} {o : HO} (h : I p = none) : Same I (upd I p o) := fun a u e => by
  rw [upd_ne (ne_of_none e h)]; exact e
theorem HR.newI {K : PySem.W.Frag} {I : Hp} {M : Mp} {F H : Hp} (h : HR K I M F H) {p : Addr} (hp : H p = none) (o : HO) : HR K (upd I p o) M F (upd H p o) := by
  obtain ⟨h1, h2, h3⟩ := h.fresh hp
  refine ⟨fun a u e => ?_, fun a m e => ?_, fun a u e => ?_, h.ft⟩
  · by_cases q : a = p
    · subst q; rw [upd_same] at e; rw [upd_same]; exact e
    · rw [upd_ne q] at e; rw [upd_ne q]; exact h.imm a u e
  · have q : a ≠ p := fun z => by rw [z, h2] at e; cases e
    obtain ⟨x, u, y, z⟩ := h.mu a m e
    rw [upd_ne q, upd_ne q]
    exact ⟨x, u, y, z.mono (same_new h1) fun d φ e => by rw [upd_ne (ne_of_none e hp)]; exact e⟩
  · have q : a ≠ p := fun z => by rw [z, h3] at e; cases e
    obtain ⟨x, y, z⟩ := h.frm a u e
    rw [upd_ne q, upd_ne q]
    exact ⟨x, y, z⟩
theorem updM_same {M : Mp} {a : Addr} {o : MO} : updM M a o a = some o := if_pos rfl
theorem updM_ne {M : Mp} {a b : Addr} {o : MO} (h : b ≠ a) : updM M a o b = M b := if_neg h
theorem HR.newM {K : PySem.W.Frag} {I : Hp} {M : Mp} {F H : Hp} (h : HR K I M F H) {p : Addr} (hp : H p = none) {o : HO} {m : MO} (r : RepO K I H p o m) : HR K I (updM M p m) F (upd H p o) := by
  obtain ⟨h1, h2, h3⟩ := h.fresh hp
  have kp : ∀ d φ, H d = some (.ext φ) → upd H p o d = some (.ext φ) := fun d φ e => by rw [upd_ne (ne_of_none e hp)]; exact e
  refine ⟨fun a u e => ?_, fun a n e => ?_, fun a u e => ?_, h.ft⟩
  · have q : a ≠ p := fun z => by rw [z, h1] at e; cases e
    rw [upd_ne q]; exact h.imm a u e
  · by_cases q : a = p
    · subst q; rw [updM_same] at e; cases e; rw [upd_same]; exact ⟨h1, o, rfl, r.mono (Same.refl I) kp⟩
    · rw [updM_ne q] at e; rw [upd_ne q]
      obtain ⟨x, y, z, t⟩ := h.mu a n e
      exact ⟨x, y, z, t.mono (Same.refl I) kp⟩
  · have q : a ≠ p := fun z => by rw [z, h3] at e; cases e
    rw [upd_ne q, updM_ne q]; exact h.frm a u e
theorem HR.write {K : PySem.W.Frag} {I : Hp} {M : Mp} {F H : Hp} (h : HR K I M F H) {p : Addr} {m0 : MO} (hp : M p = some m0) (nx : ∀ C fs, m0 ≠ .exc C fs) {o : HO} {m : MO} (r : RepO K I H p o m) : HR K I (updM M p m) F (upd H p o) := by
  obtain ⟨h1, o0, ho, r0⟩ := h.mu p m0 hp
  have kp : ∀ d φ, H d = some (.ext φ) → upd H p o d = some (.ext φ) := fun d φ e => by
    rw [upd_ne (ne_of e ho ?_)]
    · exact e
    · cases m0 with
      | lst ds => obtain ⟨vs, e1, _⟩ := r0; rw [e1]; exact fun z => nomatch z
      | dct ds => obtain ⟨vs, e1, _⟩ := r0; rw [e1]; exact fun z => nomatch z
      | ins C ds => obtain ⟨dx, vs, e1, _⟩ := r0; rw [e1]; exact fun z => nomatch z
      | exc C ds => exact absurd rfl (nx C ds)
      | xd ds => obtain ⟨vs, e1, _⟩ := r0; rw [e1]; exact fun z => nomatch z
      | dT ds => obtain ⟨vs, e1, _⟩ := r0; rw [e1]; exact fun z => nomatch z
      | dctL od us ds => rw [r0.1]; exact fun z => nomatch z
      | dTL od us ds => rw [r0.1]; exact fun z => nomatch z
  refine ⟨fun a u e => ?_, fun a n e => ?_, fun a u e => ?_, h.ft⟩
  · have q : a ≠ p := fun z => by rw [z, h1] at e; cases e
    rw [upd_ne q]; exact h.imm a u e
  · by_cases q : a = p
    · subst q; rw [updM_same] at e; cases e; rw [upd_same]; exact ⟨h1, o, rfl, r.mono (Same.refl I) kp⟩
    · rw [updM_ne q] at e; rw [upd_ne q]
      obtain ⟨x, y, z, t⟩ := h.mu a n e
      exact ⟨x, y, z, t.mono (Same.refl I) kp⟩
  · obtain ⟨x, y, z⟩ := h.frm a u e
    have q : a ≠ p := fun z' => by rw [z', hp] at z; cases z
    rw [upd_ne q, updM_ne q]; exact ⟨x, y, z⟩
abbrev DS := List (Option D)
abbrev DK := D → Mp → Prop
abbrev DXK := Value → Option (List (Str × D)) → Mp → Prop
abbrev DTE := DS → Mp → DK → DXK → Prop
abbrev DTT := DS → Mp → (Bool → Mp → Prop) → DXK → Prop
abbrev DTA := DS → Mp → (List D → Mp → Prop) → DXK → Prop
structure RepS (K : PySem.W.Frag) (I : Hp) (σ : St) (δ : DS) : Prop where
  len : σ.length = δ.length
  get : ∀ (i : Nat) (d : D), δ[i]? = some (some d) → ∃ v, σ[i]? = some (some v) ∧ Rep K I v d
theorem RepS.mono {K : PySem.W.Frag} {I I' : Hp} (e : Same I I') {σ : St} {δ : DS} (h : RepS K I σ δ) : RepS K I' σ δ :=
  ⟨h.len, fun i d q => let ⟨v, a, b⟩ := h.get i d q; ⟨v, a, b.mono e⟩⟩
theorem RepS.set {K : PySem.W.Frag} {I : Hp} {σ : St} {δ : DS} {v : V} {d : D} (h : RepS K I σ δ) (i : Nat) (r : Rep K I v d) : RepS K I (σ.set i (some v)) (δ.set i (some d)) := by
  refine ⟨by rw [List.length_set, List.length_set]; exact h.len, fun j x e => ?_⟩
  by_cases q : i = j
  · subst q
    have hl : i < δ.length := by
      have := (List.getElem?_eq_some_iff.mp e).1
      rwa [List.length_set] at this
    rw [List.getElem?_set_self hl] at e
    cases e
    exact ⟨v, List.getElem?_set_self (by rw [h.len]; exact hl), r⟩
  · rw [List.getElem?_set_ne q] at e
    rw [List.getElem?_set_ne q]
    exact h.get j x e
theorem RepS.forget {K : PySem.W.Frag} {I : Hp} {σ : St} {δ : DS} {u : Option V} (h : RepS K I σ δ) (i : Nat) : RepS K I (σ.set i u) (δ.set i none) := by
  refine ⟨by rw [List.length_set, List.length_set]; exact h.len, fun j x e => ?_⟩
  by_cases q : i = j
  · subst q
    have hl : i < δ.length := by
      have := (List.getElem?_eq_some_iff.mp e).1
      rwa [List.length_set] at this
    rw [List.getElem?_set_self hl] at e
    cases e
  · rw [List.getElem?_set_ne q] at e
    rw [List.getElem?_set_ne q]
    exact h.get j x e
def XD (K : PySem.W.Frag) (I : Hp) (M : Mp) (F H : Hp) : Option Addr → Option (List (Str × D)) → Prop
  | none, none => True
  | some d, some fs => (∃ vs, H d = some (.xd vs) ∧ RepF K I vs fs) ∧ I d = none ∧ M d = none ∧ F d = none
  | _, _ => False
theorem XD.offF {K : PySem.W.Frag} {I : Hp} {M : Mp} {F H : Hp} {p : Addr} {o : HO} : ∀ {dd : Option Addr} {fo : Option (List (Str × D))}, XD K I M (upd F p o) H dd fo → XD K I M F H dd fo
  | none, none, _ => trivial
  | some d, some fs, ⟨h, a, b, c⟩ => ⟨h, a, b, by
    by_cases e : d = p
    · subst e; rw [upd_same] at c; cases c
    · rw [upd_ne e] at c; exact c⟩
  | none, some _, h => h.elim
  | some _, none, h => h.elim
def Fin (K : PySem.W.Frag) (I F : Hp) (Qd : DK) (Q : VK) : Prop := ∀ d M' I' H' v, Qd d M' → Same I I' → HR K I' M' F H' → Rep K I' v d → Q v H'
def FinT (K : PySem.W.Frag) (I F : Hp) (Qd : Bool → Mp → Prop) (Q : Bool → Hp → Prop) : Prop := ∀ b M' I' H', Qd b M' → Same I I' → HR K I' M' F H' → Q b H'
def FinA (K : PySem.W.Frag) (I F : Hp) (Qd : List D → Mp → Prop) (Q : List V → Hp → Prop) : Prop := ∀ ds M' I' H' vs, Qd ds M' → Same I I' → HR K I' M' F H' → Reps K I' vs ds → Q vs H'
def FinX (K : PySem.W.Frag) (I F : Hp) (Ed : DXK) (E : XK) : Prop := ∀ cls fo M' I' H' dd, Ed cls fo M' → Same I I' → HR K I' M' F H' → XD K I' M' F H' dd fo → E cls dd H'
theorem FinX.mono {K : PySem.W.Frag} {I I' F : Hp} {Ed : DXK} {E : XK} (h : FinX K I F Ed E) (e : Same I I') : FinX K I' F Ed E := fun c fo M' I2 H' dd a b r x => h c fo M' I2 H' dd a (e.trans b) r x
theorem Fin.mono {K : PySem.W.Frag} {I I' F : Hp} {Qd : DK} {Q : VK} (h : Fin K I F Qd Q) (e : Same I I') : Fin K I' F Qd Q := fun d M' I2 H' v a b r x => h d M' I2 H' v a (e.trans b) r x
structure DEnds where
  nx : DS → Mp → Prop
  rt : DK
  ex : Value → Option (List (Str × D)) → DS → Mp → Prop
  bk : DS → Mp → Prop := fun _ _ => False
  ct : DS → Mp → Prop := fun _ _ => False
abbrev DTS := DEnds → DS → Mp → Prop
structure FinS (K : PySem.W.Frag) (W : WX) (I F : Hp) (Dd : DEnds) (Dn : Ends) : Prop where
  nx : ∀ δ' M' I' H' σ', Dd.nx δ' M' → Same I I' → HR K I' M' F H' → RepS K I' σ' δ' → Dn.nx σ' H'
  rt : Fin K I F Dd.rt Dn.rt
  ex : ∀ cls fo δ' M' I' H' σ' dd, Dd.ex cls fo δ' M' → Same I I' → HR K I' M' F H' → RepS K I' σ' δ' → XD K I' M' F H' dd fo → W cls dd σ' H'
  bk : ∀ δ' M' I' H' σ', Dd.bk δ' M' → Same I I' → HR K I' M' F H' → RepS K I' σ' δ' → Dn.bk σ' H'
  ct : ∀ δ' M' I' H' σ', Dd.ct δ' M' → Same I I' → HR K I' M' F H' → RepS K I' σ' δ' → Dn.ct σ' H'
theorem FinS.mono {K : PySem.W.Frag} {W : WX} {I I' F : Hp} {Dd : DEnds} {Dn : Ends} (h : FinS K W I F Dd Dn) (e : Same I I') : FinS K W I' F Dd Dn :=
  ⟨fun a b c d f q s => h.nx a b c d f q (e.trans s), h.rt.mono e, fun a b c d f g x y q s => h.ex a b c d f g x y q (e.trans s), fun a b c d f q s => h.bk a b c d f q (e.trans s), fun a b c d f q s => h.ct a b c d f q (e.trans s)⟩
def lE (K : PySem.W.Frag) (W : WX) (t : DTE) : TE := fun σ H Q => ∃ I M F δ Qd Ed, HR K I M F H ∧ RepS K I σ δ ∧ t δ M Qd Ed ∧ Fin K I F Qd Q ∧ FinX K I F Ed (WE W σ)
def lT (K : PySem.W.Frag) (W : WX) (t : DTT) : TT := fun σ H Q => ∃ I M F δ Qd Ed, HR K I M F H ∧ RepS K I σ δ ∧ t δ M Qd Ed ∧ FinT K I F Qd Q ∧ FinX K I F Ed (WE W σ)
def lA (K : PySem.W.Frag) (W : WX) (t : DTA) : TA := fun σ H Q => ∃ I M F δ Qd Ed, HR K I M F H ∧ RepS K I σ δ ∧ t δ M Qd Ed ∧ FinA K I F Qd Q ∧ FinX K I F Ed (WE W σ)
def lS (K : PySem.W.Frag) (W : WX) (t : DTS) : TS := fun Dn σ H => ∃ I M F δ Dd, HR K I M F H ∧ RepS K I σ δ ∧ t Dd δ M ∧ FinS K W I F Dd Dn
def DE (X : Cx) (W : WX) (e : Expr) (t : DTE) : Prop := PE X e (lE X.K W t)
def DT (X : Cx) (W : WX) (e : Expr) (t : DTT) : Prop := PT X e (lT X.K W t)
def DW (X : Cx) (W : WX) (e : Expr) (t : DTT) : Prop := PW X e (lT X.K W t)
def DA (X : Cx) (W : WX) (es : List Expr) (t : DTA) : Prop := PA X es (lA X.K W t)
def DSt (X : Cx) (W : WX) (s : Stmt) (t : DTS) : Prop := PS X s (lS X.K W t)
def DSs (X : Cx) (W : WX) (s : List Stmt) (t : DTS) : Prop := PSs X s (lS X.K W t)
theorem pe_imp {X : Cx} {e : Expr} {t t' : TE} (h : PE X e t) (i : ∀ σ H Q, t' σ H Q → t σ H Q) : PE X e t' := ⟨fun pins s σ H Q I q => h.run pins s σ H Q I (i σ H Q q)⟩
theorem pt_imp {X : Cx} {e : Expr} {t t' : TT} (h : PT X e t) (i : ∀ σ H Q, t' σ H Q → t σ H Q) : PT X e t' := ⟨fun pins s σ H Q I q => h.run pins s σ H Q I (i σ H Q q)⟩
theorem pw_imp {X : Cx} {e : Expr} {t t' : TT} (h : PW X e t) (i : ∀ σ H Q, t' σ H Q → t σ H Q) : PW X e t' := ⟨fun wh pins s σ H Q I q => h.run wh pins s σ H Q I (i σ H Q q)⟩
theorem pa_imp {X : Cx} {e : List Expr} {t t' : TA} (h : PA X e t) (i : ∀ σ H Q, t' σ H Q → t σ H Q) : PA X e t' := ⟨fun ps pins s σ H Q I q => h.run ps pins s σ H Q I (i σ H Q q)⟩
theorem ps_imp {X : Cx} {e : Stmt} {t t' : TS} (h : PS X e t) (i : ∀ Dn σ H, t' Dn σ H → t Dn σ H) : PS X e t' := ⟨fun pins s σ H D I q => h.run pins s σ H D I (i D σ H q)⟩
theorem pss_imp {X : Cx} {e : List Stmt} {t t' : TS} (h : PSs X e t) (i : ∀ Dn σ H, t' Dn σ H → t Dn σ H) : PSs X e t' := ⟨fun pins s σ H D I q => h.run pins s σ H D I (i D σ H q)⟩
section
variable {X : Cx} {W : WX} {e a b : Expr} {ta tb te : DTE} {pos : Pos}
def dVar (i : Nat) : DTE := fun δ M Q _ => ∃ d, δ[i]? = some (some d) ∧ Q d M
def dC (d : D) : DTE := fun _ M Q _ => Q d M
theorem d_var (i : Nat) {x : Str} (hN : X.N[i]? = some x := by rfl) (hv : Vis X.env.scope x := by first | exact Or.inl rfl | exact Or.inr (Or.inl rfl) | exact Or.inr (Or.inr rfl)) (hd : (x == ("__debug__" : Str)) = false := by decide)
    (hcd : (x == ("__classdict__" : Str)) = false := by decide) : DE X W (.Name x pos) (dVar i) := by
  refine pe_imp (pe_var hN hv hd hcd) fun σ H Q h => ?_
  obtain ⟨I, M, F, δ, Qd, Ed, hr, rs, ⟨d, e1, q⟩, fq, fx⟩ := h
  obtain ⟨v, e2, r⟩ := rs.get i d e1
  exact ⟨v, e2, fq d M I H v q (Same.refl I) hr r⟩
theorem d_const {u : V} {d : D} (h : PE X e (tC u)) (r : ∀ I, Rep X.K I u d) : DE X W e (dC d) := by
  refine pe_imp h fun σ H Q h => ?_
  obtain ⟨I, M, F, δ, Qd, Ed, hr, rs, q, fq, fx⟩ := h
  exact fq d M I H u q (Same.refl I) hr (r I)
theorem d_int {i j} : DE X W (.Constant (.int i) j pos) (dC (.int i)) := d_const pe_int fun _ => .int i
theorem d_bl {b j} : DE X W (.Constant (.bool b) j pos) (dC (.bl b)) := d_const pe_bl fun _ => .bl b
theorem d_non {j} : DE X W (.Constant .none j pos) (dC .non) := d_const pe_non fun _ => .non
theorem d_str {x j} : DE X W (.Constant (.str x) j pos) (dC (.str x)) := d_const pe_str fun _ => .str x
theorem d_glob {x : Str} {v : V} {u : Value} {d : D} (hg : Gl X x) (hm : X.mg x = some u) (r : RelV v u) (rr : ∀ I, Rep X.K I v d) (hd : (x == ("__debug__" : Str)) = false := by decide) : DE X W (.Name x pos) (dC d) := d_const (pe_glob hg hm r hd) rr
abbrev DR2 := D → D → Mp → DK → Prop
def LR (K : PySem.W.Frag) (r' : R2) (r : DR2) : Prop := ∀ I M F H x y dx dy Qd Q, HR K I M F H → Rep K I x dx → Rep K I y dy → r dx dy M Qd → Fin K I F Qd Q → r' x y H Q
def dOp (r : DR2) (ta tb : DTE) : DTE := fun δ M Q E => ta δ M (fun x M1 => tb δ M1 (fun y M2 => r x y M2 Q) E) E
theorem op_lift {ta tb : DTE} {r : DR2} {r' : R2} {K : PySem.W.Frag} (hl : LR K r' r) : ∀ σ H Q, lE K W (dOp r ta tb) σ H Q → tOp r' (lE K W ta) (lE K W tb) σ H Q := by
  intro σ H Q h
  obtain ⟨I, M, F, δ, Qd, Ed, hr, rs, q, fq, fx⟩ := h
  refine ⟨I, M, F, δ, _, Ed, hr, rs, q, fun x M1 I1 H1 v q1 s1 hr1 r1 => ?_, fx⟩
  refine ⟨I1, M1, F, δ, _, Ed, hr1, rs.mono s1, q1, fun y M2 I2 H2 w q2 s2 hr2 r2 => ?_, fx.mono s1⟩
  exact hl I2 M2 F H2 v w x y Qd Q hr2 (r1.mono s2) r2 q2 (fq.mono (s1.trans s2))
theorem d_op {op : Operator} {r : DR2} {r' : R2} (ho : OpR X (binaryOp op) r') (hl : LR X.K r' r) (ha : DE X W a ta) (hb : DE X W b tb) : DE X W (.BinOp a op b pos) (dOp r ta tb) :=
  pe_imp (pe_op ho ha hb) (op_lift hl)
theorem d_cmp {op : CmpOp} {r : DR2} {r' : R2} (ho : OpR X (compareOp op) r') (hl : LR X.K r' r) (ha : DE X W a ta) (hb : DE X W b tb) (hm : behindInMarks op b = false) : DE X W (.Compare a [op] [b] pos) (dOp r ta tb) :=
  pe_imp (pe_cmpR ho ha hb hm) (op_lift hl)
theorem d_ix {r : DR2} {r' : R2} (hr : IxR X r') (hl : LR X.K r' r) (ha : DE X W a ta) (hb : DE X W b tb) (hs : PlainIx b) : DE X W (.Subscript a b pos) (dOp r ta tb) :=
  pe_imp (pe_ix hr ha hb hs) (op_lift hl)
end
end DL
set_option Elab.async false
set_option linter.all false
set_option maxRecDepth 100000
set_option maxHeartbeats 2000000
namespace DL
open PySem PySem.Spec PyProof.Rows L2
abbrev NoGd (A : Around) : Prop := A.guards = some []
theorem nogd_deeper {A : Around} (h : NoGd A) (env : Env) : NoGd (A.deeper env) := by
  have e : (A.deeper env).guards = A.guards := by first | rfl | simp [Around.deeper]
  exact e.trans h
structure FnG (P : Program) (w : World) (K : PySem.W.Frag) (mg : Str → Option Value) (base : Heap) (C : CXT) (k : Nat) (f : Addr) (fd : FuncData) (ps : List Str) (sp : Sp) : Prop where
  len : ∀ vs H Q E, sp vs H Q E → vs.length = ps.length
  run : ∀ (A : Around) (l : List Env) (s : Shared) (H : Hp) (g : Args) (us : List Value) (vs : List V) (Q : VK) (E : XK),
    NoGd A → Room k A → Env0 P w K mg base A l s H → BindsTo s fd g (ps.zip us) → Vals vs us → sp vs H Q E → codeAny (model P w) A (.call (.ref f) g) (CR C l P w H s Q E) s
section
variable {P : Program} {w : World} {K : PySem.W.Frag} {mg : Str → Option Value} {base : Heap} {C : CXT} {k : Nat} {f : Addr}
theorem FnG.up {j : Nat} {fd : FuncData} {ps : List Str} {sp : Sp} (F : FnG P w K mg base C j f fd ps sp) (h : j ≤ k) : FnG P w K mg base C k f fd ps sp :=
  ⟨F.len, fun A l s H g us vs Q E n r => F.run A l s H g us vs Q E n (r.mono h)⟩
theorem fng_of {nm qn : Str} {pa : Arguments} {bd : List Stmt} {sc : Scope} {dV kV dc pm cv ct oc : Value} {an od : Option Addr} {sl : Array (Option Value)} {N ps : List Str} {sp : Sp}
    (lk : K.lookup f = some ⟨oc, od, .func (PySem.W.fnOf nm qn pa bd sc dV kV dc pm an cv ct), sl⟩) (hc : PySem.W.codeIn K cv qn = true) (S : FnScope N ps sc) (len : ∀ vs H Q E, sp vs H Q E → vs.length = ps.length)
    (hbd : ∀ (A : Around) (l : List Env) (s : Shared) (H : Hp) (vs : List V) (Q : VK) (E : XK), NoGd A → Room k (A.deeper (envOfC qn sc s.heap.objs.size f cv)) → sp vs H Q E →
      ∃ t, PSs (cxOf C P w K mg base N qn sc f cv A l s H E) bd t ∧ t { nx := fun _ H' => Q .non H', rt := Q } (start N vs) H) :
    FnG P w K mg base C (k + 1) f (PySem.W.fnOf nm qn pa bd sc dV kV dc pm an cv ct) ps sp := by
  constructor
  · exact len
  intro A l s H g us vs Q E ng rm en bt rv pr
  have inK : K.In s.heap := en.mod.kin.keeps (fun b o z => (en.bs b o z).1)
  have kinds : ∀ y ∈ ps.zip us, sc.names.lookup y.1 = some .local ∨ (sc.names.lookup y.1 = some .cell ∧ ((cellsFrom (s.heap.objs.size + 1) sc.names []).lookup y.1).isSome = true) := by
    intro y hy
    cases S.par y.1 (List.of_mem_zip (a := y.1) (b := y.2) hy).1 with
    | inl q => exact Or.inl q
    | inr q => exact Or.inr ⟨q, PySem.W.cellsFrom_some _ _ _ (Or.inl q)⟩
  refine codeAny_call_function rm.depth (inK _ _ lk) rfl S.co S.gen rfl (PySem.W.codeRec_of inK hc) (bt _ _ _ _ ?_)
  refine wpAny_newFunctionEnv_cells S.kind kinds (fun env ev s1 ic => ?_)
  subst ev
  refine ⟨(en.mod.nolimit.keeps (fun b o z => (en.bs b o z).1)).keeps ic.toInCall.keep, codeAny_func ?_⟩
  obtain ⟨t, pt, tq⟩ := hbd A l s H vs Q E ng (rm.deeper _) pr
  have iv : Inv (cxOf C P w K mg base N qn sc f cv A l s H E) [] (start N vs) H s1 := inv_start S rm.hd en (len _ _ _ _ pr) rv ic
  refine wpAny_mono (pt.run [] s1 (start N vs) H _ iv tq) ?_ (fun _ _ z => z)
  intro fl s' z
  cases fl with
  | ret u => obtain ⟨v, σ', H', J, a, b⟩ := z; exact ⟨v, H', J.os, J.bare, J.base, J.hok, a, b⟩
  | next => obtain ⟨σ', H', J, b⟩ := z; exact ⟨V.non, H', J.os, J.bare, J.base, J.hok, rfl, b⟩
  | brk => obtain ⟨_, _, _, b⟩ := z; cases b
  | cont => obtain ⟨_, _, _, b⟩ := z; cases b
end
section
variable {X : Cx} {C : CXT} {k : Nat} {f : Addr} {fd : FuncData} {ps : List Str} {sp : Sp} {dvs : List V} {ds : List Value} {E : L2.St → XK}
theorem goG {pins : List (Addr × Obj)} {σ : L2.St} {H : Hp} {s : Shared} {Q : VK} {g : Args} {bs : List Value} {xs : List V} (F : FnG X.prog X.w X.K X.mg X.base C k f fd ps sp) (ng : NoGd X.A) (rm : Room k X.A)
    (hx : PassesAt C X σ (E σ)) (I : Inv X pins σ H s) (bt : BindsTo s fd g (ps.zip bs)) (rv : Vals xs bs) (h : sp xs H Q (E σ)) : codeAny (model X.prog X.w) X.A (.call (.ref f) g) (fun r s' => match r with | .ok (.ret u) => EP X pins σ Q u s' | .ok _ => False | .error e => X.xe e s') s := by
  refine codeAny_mono (F.run X.A X.stack s H g bs xs Q (E σ) ng rm I.env0 bt rv h) (fun r s' z => ?_)
  cases r with
  | error e => exact hx pins H s e s' I z
  | ok fl => cases fl with
    | ret u => exact I.after z
    | next => cases z
    | brk => cases z
    | cont => cases z
end
theorem law_callG {P : Program} {w : World} {K : PySem.W.Frag} {mg mb : Str → Option Value} {C : CXT} {k : Nat} {fa a : Addr} {fd : FuncData} {x : Str} {sp : Sp} {s1 : Shared} {vs : List Value} {ns : List Int}
    (KX : K.In s1.heap) (n1 : s1.heap.Ns mainGlobals mg) (n2 : s1.heap.Ns builtinsNs mb) (n3 : ∀ x : Str, x ≠ "__name__" → mb x = bootBuiltins x) (nl : s1.heap.NoLimit) (ge : s1.gens = #[])
    (ha : s1.heap.get? a = some { cls := .type "list", data := .seq vs.toArray }) (hi : IntsAre vs ns) (hl : ns.length ≤ sizeLine) (rm : Room k callerA)
    (F : ∀ b : Heap, K.In b → b.Ns mainGlobals mg → FnG P w K mg b C k fa fd [x] sp) (bt : ∀ (s : Shared) (u : Value), BindsTo s fd ⟨[u], []⟩ [(x, u)])
    (pr : ∀ H : Hp, Only H → SqL K H a (ns.map V.int) → sp [.ref a] H (fun v _ => v = .bl true) fun _ _ _ => False) (noX : ∀ H e s', C [] H s1 (fun _ _ _ => False) e s' → False) :
    codeAny (model P w) callerA (.call (.ref fa) ⟨[.ref a], []⟩) (fun r s' => r = .ok (.ret (.bool true)) ∧ OldK s1.heap s'.heap ∧ s'.os = s1.os ∧ AllBare s'.gens) s1 := by
  have main : ∀ H : Hp, Only H → SqL K H a (ns.map V.int) → HOk P w H s1.heap → (∀ b u, H b = some u → b = a ∧ K.lookup a = none) →
      codeAny (model P w) callerA (.call (.ref fa) ⟨[.ref a], []⟩) (fun r s' => r = .ok (.ret (.bool true)) ∧ OldK s1.heap s'.heap ∧ s'.os = s1.os ∧ AllBare s'.gens) s1 := by
    intro H only sq ok one
    have ndict : ∀ {b : Addr} {o : Obj} {es : Array DictEntry} {ep : Nat}, s1.heap.get? b = some o → o.data = .dict es ep → H b = none := by
      intro b o es ep g d
      cases z : H b with
      | none => rfl
      | some u =>
        cases (one b u z).1
        rw [ha] at g
        cases g
        exact nomatch (show Data.seq vs.toArray _ = Data.dict es ep from d)
    have toB : ∀ {b : Addr} {m : Str → Option Value}, s1.heap.Ns b m → (hidT s1.heap H).Ns b m := by
      intro b m z
      obtain ⟨o, es, ep, g, d, r⟩ := z
      exact ⟨o, es, ep, hidT_get g (ndict g d), d, r⟩
    have inB : K.In (hidT s1.heap H) := by
      intro b o g
      refine hidT_get (KX b o g) ?_
      cases z : H b with
      | none => rfl
      | some u =>
        obtain ⟨e1, e2⟩ := one b u z
        cases e1
        rw [e2] at g
        cases g
    obtain ⟨mc, c1, c2⟩ := nl
    have en : Env0 P w K mg (hidT s1.heap H) callerA [] s1 H :=
      { frames := rfl, mod := ⟨inB, toB n1, ⟨mb, toB n2, n3⟩, ⟨mc, toB c1, c2⟩⟩, bs := fun b o g => of_hidT g, bsz := Nat.le_of_eq (hidT_size _ _), funs := trivial, frf := fun b z => (nomatch (show b ∈ ([] : List Addr) from z)), hok := ok, bare := .of_eq ge }
    refine codeAny_mono ((F _ inB (toB n1)).run callerA [] s1 H ⟨[.ref a], []⟩ [.ref a] [.ref a] _ _ rfl rm en (bt s1 (.ref a)) (.cons rfl .nil) (pr H only sq)) ?_
    intro r s' z
    cases r with
    | error e => exact (noX H e s' z).elim
    | ok fl => cases fl with
      | next => cases z
      | brk => cases z
      | cont => cases z
      | ret u =>
        obtain ⟨v, H', o1, o2, un, ok2, rr, vv⟩ := z
        cases (show v = .bl true from vv)
        cases (show u = Value.bool true from rr)
        refine ⟨rfl, OldK.of_keep (fun b o g => ?_), o1, o2⟩
        rcases only b with y | ⟨ob, xs, y⟩
        · exact un.keep b o g y (fun q => nomatch (show b ∈ ([] : List Addr) from q)) (fun q => nomatch q)
        · have g1 := (ok b _ y).1
          have g2 := (ok2 b _ (un.frzs b ob _ y)).1
          rw [g] at g1
          cases g1
          exact g2
  have rv := vals_ints hi
  cases hk : K.lookup a with
  | some o =>
    have g := KX a o hk
    rw [ha] at g
    cases g
    exact main (fun _ => none) (fun _ => Or.inl rfl) (Or.inr ⟨_, vs.toArray, _, hk, rfl, rfl, rfl, by rw [List.size_toArray, hi.length]; exact hl, by simpa using rv⟩) (fun b u z => nomatch z) (fun b u z => nomatch z)
  | none =>
    have at1 : (upd (fun _ => none) a (.frz { cls := .type "list", data := .seq vs.toArray } (.lst (ns.map V.int))) : Hp) a = some (.frz { cls := .type "list", data := .seq vs.toArray } (.lst (ns.map V.int))) := upd_same
    have off : ∀ b u, (upd (fun _ => none) a (.frz { cls := .type "list", data := .seq vs.toArray } (.lst (ns.map V.int))) : Hp) b = some u → b = a := by
      intro b u z
      by_cases q : b = a
      · exact q
      · rw [upd_ne q] at z; cases z
    refine main (upd (fun _ => none) a (.frz { cls := .type "list", data := .seq vs.toArray } (.lst (ns.map V.int)))) (fun b => ?_) (Or.inl (Or.inr ⟨_, at1⟩)) (fun b u z => ?_) (fun b u z => ⟨off b u z, hk⟩)
    · by_cases q : b = a
      · subst q; exact Or.inr ⟨_, _, at1⟩
      · exact Or.inl (upd_ne q)
    · cases off b u z
      rw [at1] at z
      cases z
      exact ⟨ha, by rw [List.length_map]; exact hl, vs, _, rv, ha⟩
theorem walk_ofG {l : PySem.W.OpenLaw} {n k : Nat} {q : Program} {loose : List Str} {XP : (Str → Option Value) → Heap → Prop} {YP : World → Heap → Prop} {d : DefRec} {K : Params → PySem.W.Frag} {C : World → CXT} {sp : World → Sp} {x : Str}
    (hn : l.most = some n) (hn2 : n ≤ sizeLine) (hdf : d.params.defaults = []) (rm : Room k callerA) (hY : ∀ (w : World) (h : Heap), YP w h → (K w.params).In h)
    (F : ∀ (w : World) (mg : Str → Option Value) (fa : Addr) (h : Heap), (K w.params).In h → h.Ns mainGlobals mg → mg d.name = some (.ref fa) →
      ∃ fd : FuncData, (∀ (s : Shared) (u : Value), BindsTo s fd ⟨[u], []⟩ [(x, u)]) ∧ ∀ b : Heap, (K w.params).In b → b.Ns mainGlobals mg → FnG l.prog w (K w.params) mg b (C w) k fa fd [x] (sp w))
    (pr : ∀ (w : World) (H : Hp) (a : Addr) (ns : List Int), ns.length ≤ n → Only H → SqL (K w.params) H a (ns.map V.int) → sp w [.ref a] H (fun v _ => v = .bl true) fun _ _ _ => False)
    (noX : ∀ (w : World) (H : Hp) (s : Shared) (e : Value) (s' : Shared), C w [] H s (fun _ _ _ => False) e s' → False) : PySem.W.WalkO q loose XP YP l.row.toRowW d [] (fun f vs => PySem.call f vs) := by
  refine Att.attach_call hn hdf ?_
  intro w s0 s1 mg mb fa o pm cd doc a vs ns G Y h1 h2 h3 hmg hobj hints hlen hg
  obtain ⟨fd, b1, b2⟩ := F w mg fa _ (hY w _ Y) G.T.g hmg
  exact law_callG (hY w _ Y) G.T.g G.T.b G.T.builtins G.T.nolimit hg hobj hints (Nat.le_trans hlen hn2) rm b2 b1 (fun H o s => pr w H a ns hlen o s) (fun H e s' => noX w H s1 e s')
end DL
set_option Elab.async false
set_option linter.all false
set_option maxRecDepth 100000
set_option maxHeartbeats 2000000
namespace DL
open PySem L2
def br (b : Bool) (A B : Prop) : Prop := match b with | true => A | false => B
theorem br2 {b : Bool} {A B : Prop} (h1 : b = true → A) (h2 : b = false → B) : br b A B := by
  cases b with
  | true => exact h1 rfl
  | false => exact h2 rfl
theorem brT {A B : Prop} {b : Bool} (e : b = true) (h : A) : br b A B := by subst e; exact h
theorem brF {A B : Prop} {b : Bool} (e : b = false) (h : B) : br b A B := by subst e; exact h
def dB (d : D) (k : Bool → Prop) : Prop := match d with | .bl b => k b | _ => False
theorem dB_out {K : PySem.W.Frag} {I : Hp} {v : V} {d : D} {k : Bool → Prop} (r : Rep K I v d) (h : dB d k) : ∃ b, v = .bl b ∧ k b := by
  cases r <;> first | exact ⟨_, rfl, h⟩ | exact h.elim
def dTru (d : D) (M : Mp) (k : Bool → Prop) : Prop := match d with
  | .non => k false
  | .bl b => k b
  | .int i => k (i != 0)
  | .str y => y.length ≤ sizeLine ∧ k ((y.length : Int) != 0)
  | .lst xs => k (!xs.isEmpty)
  | .sq xs => k (!xs.isEmpty)
  | .tup xs => k (!xs.isEmpty)
  | .dct xs => k (!xs.isEmpty)
  | .ref a => ∃ m, M a = some m ∧ (match m with | .lst xs => k (!xs.isEmpty) | .dct xs => k (!xs.isEmpty) | _ => False)
  | _ => False
theorem Reps.len {K : PySem.W.Frag} {I : Hp} : ∀ {vs : List V} {ds : List D}, Reps K I vs ds → vs.length = ds.length
  | _, _, .nil => rfl
  | _, _, .cons _ r => congrArg (· + 1) r.len
theorem Reps.isE {K : PySem.W.Frag} {I : Hp} {vs : List V} {ds : List D} (r : Reps K I vs ds) : vs.isEmpty = ds.isEmpty := by cases r <;> rfl
theorem RepK.isE {K : PySem.W.Frag} {I : Hp} {vs : List (Key × V)} {ds : List (Key × D)} (r : RepK K I vs ds) : vs.isEmpty = ds.isEmpty := by cases r <;> rfl
theorem HR.sq {K : PySem.W.Frag} {I : Hp} {M : Mp} {F H : Hp} (h : HR K I M F H) {a : Addr} {vs : List V} (q : SqL K I a vs) : SqL K H a vs := sq_mono h.imm q
theorem HR.st {K : PySem.W.Frag} {I : Hp} {M : Mp} {F H : Hp} (h : HR K I M F H) {a : Addr} {vs : List V} (q : SqT K I a vs) : SqT K H a vs := st_mono h.imm q
theorem HR.lst {K : PySem.W.Frag} {I : Hp} {M : Mp} {F H : Hp} (h : HR K I M F H) {a : Addr} {ds : List D} (q : M a = some (.lst ds)) : ∃ vs, H a = some (.lst vs) ∧ Reps K I vs ds := by
  obtain ⟨_, o, e, vs, rfl, r⟩ := h.mu a _ q
  exact ⟨vs, e, r⟩
theorem HR.dct {K : PySem.W.Frag} {I : Hp} {M : Mp} {F H : Hp} (h : HR K I M F H) {a : Addr} {ds : List (Key × D)} (q : M a = some (.dct ds)) : ∃ vs, H a = some (.dK vs) ∧ RepK K I vs ds := by
  obtain ⟨_, o, e, vs, rfl, r⟩ := h.mu a _ q
  exact ⟨vs, e, r⟩
theorem HR.ins {K : PySem.W.Frag} {I : Hp} {M : Mp} {F H : Hp} (h : HR K I M F H) {a C : Addr} {ds : List (Str × D)} (q : M a = some (.ins C ds)) : ∃ dx fs, H a = some (.ins C dx fs) ∧ RepF K I fs ds := by
  obtain ⟨_, o, e, dx, vs, rfl, r⟩ := h.mu a _ q
  exact ⟨dx, vs, e, r⟩
theorem dTru_out {K : PySem.W.Frag} {I : Hp} {M : Mp} {F H : Hp} (h : HR K I M F H) {v : V} {d : D} {k : Bool → Prop} (r : Rep K I v d) (q : dTru d M k) : ∃ b, TruV K v H b ∧ k b := by
  cases r with
  | non => exact ⟨false, rfl, q⟩
  | bl b => exact ⟨b, rfl, q⟩
  | int i => exact ⟨_, rfl, q⟩
  | str x => exact ⟨_, ⟨q.1, rfl⟩, q.2⟩
  | ty n => exact q.elim
  | lst s rs => exact ⟨_, .inl ⟨_, SqL.of (h.imm _ _ s), rfl⟩, by rw [rs.isE]; exact q⟩
  | sq s rs => exact ⟨_, .inl ⟨_, h.sq s, rfl⟩, by rw [rs.isE]; exact q⟩
  | tup s rs => exact ⟨_, .inr (.inl ⟨_, h.st s, rfl⟩), by rw [rs.isE]; exact q⟩
  | dct s rs => exact ⟨_, .inr (.inr ⟨_, h.imm _ _ s, rfl⟩), by rw [rs.isE]; exact q⟩
  | ins s rs => exact q.elim
  | ref a =>
    obtain ⟨m, e, q⟩ := q
    cases m with
    | lst xs => obtain ⟨vs, e1, rs⟩ := h.lst e; exact ⟨_, .inl ⟨_, SqL.of e1, rfl⟩, by rw [rs.isE]; exact q⟩
    | dct xs => obtain ⟨vs, e1, rs⟩ := h.dct e; exact ⟨_, .inr (.inr ⟨_, e1, rfl⟩), by rw [rs.isE]; exact q⟩
    | ins C fs => exact q.elim
    | exc C fs => exact q.elim
    | xd fs => exact q.elim
    | dT fs => exact q.elim
    | dctL od us fs => exact q.elim
    | dTL od us fs => exact q.elim
section
variable {X : Cx} {W : WX} {e a b c : Expr} {ta tb tc te : DTE} {pos : Pos} {tA tB' : DTT} {rest : List Expr}
def dTest (t : DTE) : DTT := fun δ M Q E => t δ M (fun d M1 => dB d fun b => Q b M1) E
def dTruth (t : DTE) : DTT := fun δ M Q E => t δ M (fun d M1 => dTru d M1 fun b => Q b M1) E
theorem test_lift {K : PySem.W.Frag} {t : DTE} {σ : L2.St} {H : Hp} {Q : Bool → Hp → Prop} (h : lT K W (dTest t) σ H Q) : lE K W t σ H (fun x H' => ∃ k, x = .bl k ∧ Q k H') := by
  obtain ⟨I, M, F, δ, Qd, Ed, hr, rs, q, fq, fx⟩ := h
  refine ⟨I, M, F, δ, _, Ed, hr, rs, q, fun d M' I' H' v q' s' hr' r' => ?_, fx⟩
  obtain ⟨b, e1, e2⟩ := dB_out r' q'
  exact ⟨b, e1, fq b M' I' H' e2 s' hr'⟩
theorem t_truth (h : DE X W e te) (he : ∀ whole, isTrue e X.env whole = (do let v ← whole; standAt e.pos; holding [v] (truthy v)) := by intro _; rfl) : DT X W e (dTruth te) := by
  refine pt_imp (pt_truth h he) fun σ H Q q => ?_
  obtain ⟨I, M, F, δ, Qd, Ed, hr, rs, q, fq, fx⟩ := q
  refine ⟨I, M, F, δ, _, Ed, hr, rs, q, fun d M' I' H' v q' s' hr' r' => ?_, fx⟩
  obtain ⟨b, e1, e2⟩ := dTru_out hr' r' q'
  exact ⟨b, e1, fq b M' I' H' e2 s' hr'⟩
theorem t_cmp {op : CmpOp} {r : DR2} {r' : R2} (ho : OpR X (compareOp op) r') (hl : LR X.K r' r) (ha : DE X W a ta) (hb : DE X W b tb) (hm : behindInMarks op b = false) : DT X W (.Compare a [op] [b] pos) (dTest (dOp r ta tb)) :=
  pt_imp (pt_cmpR ho ha hb hm) fun _ _ _ q => op_lift hl _ _ _ (test_lift q)
def dChain (r r' : DR2) (ta tb tc : DTE) : DTE := fun δ M Q E => ta δ M (fun x M1 => tb δ M1 (fun y M2 => r x y M2 fun z M3 => dB z fun k => br k (tc δ M3 (fun w M4 => r' y w M4 Q) E) (Q (.bl false) M3)) E) E
theorem chain_lift {K : PySem.W.Frag} {r1 r2 : R2} {d1 d2 : DR2} (h1 : LR K r1 d1) (h2 : LR K r2 d2) : ∀ σ H Q, lE K W (dChain d1 d2 ta tb tc) σ H Q → tChain r1 r2 (lE K W ta) (lE K W tb) (lE K W tc) σ H Q := by
  intro σ H Q h
  obtain ⟨I, M, F, δ, Qd, Ed, hr, rs, q, fq, fx⟩ := h
  refine ⟨I, M, F, δ, _, Ed, hr, rs, q, fun x M1 I1 H1 v q1 s1 hr1 e1 => ?_, fx⟩
  refine ⟨I1, M1, F, δ, _, Ed, hr1, rs.mono s1, q1, fun y M2 I2 H2 w q2 s2 hr2 e2 => ?_, fx.mono s1⟩
  refine h1 I2 M2 F H2 v w x y _ _ hr2 (e1.mono s2) e2 q2 fun z M3 I3 H3 u q3 s3 hr3 e3 => ?_
  obtain ⟨k, ek, q4⟩ := dB_out e3 q3
  refine ⟨k, ek, ?_⟩
  have s13 := (s1.trans s2).trans s3
  cases k with
  | false => exact (if_neg Bool.false_ne_true).mpr (fq _ _ _ _ _ q4 s13 hr3 (.bl false))
  | true =>
    refine (if_pos rfl).mpr ⟨I3, M3, F, δ, _, Ed, hr3, rs.mono s13, q4, fun y' M4 I4 H4 w' q5 s4 hr4 e4 => ?_, fx.mono s13⟩
    exact h2 I4 M4 F H4 w w' y y' Qd Q hr4 ((e2.mono s3).mono s4) e4 q5 (fq.mono (s13.trans s4))
theorem d_chain {op op' : CmpOp} {r r' : DR2} {q q' : R2} (ho : OpR X (compareOp op) q) (ho' : OpR X (compareOp op') q') (hl : LR X.K q r) (hl' : LR X.K q' r') (ha : DE X W a ta) (hb : DE X W b tb) (hc : DE X W c tc)
    (hm : lastMarks [op, op'] [b, c] = false := by with_unfolding_all rfl) : DE X W (.Compare a [op, op'] [b, c] pos) (dChain r r' ta tb tc) := pe_imp (pe_chain ho ho' ha hb hc hm) (chain_lift hl hl')
theorem t_chain {op op' : CmpOp} {r r' : DR2} {q q' : R2} (ho : OpR X (compareOp op) q) (ho' : OpR X (compareOp op') q') (hl : LR X.K q r) (hl' : LR X.K q' r') (ha : DE X W a ta) (hb : DE X W b tb) (hc : DE X W c tc)
    (hm : lastMarks [op, op'] [b, c] = false := by with_unfolding_all rfl) : DT X W (.Compare a [op, op'] [b, c] pos) (dTest (dChain r r' ta tb tc)) := pt_imp (pt_chain ho ho' ha hb hc hm) fun _ _ _ q => chain_lift hl hl' _ _ _ (test_lift q)
def dAnd (t u : DTT) : DTT := fun δ M Q E => t δ M (fun b M1 => br b (u δ M1 Q E) (Q false M1)) E
def dOr (t u : DTT) : DTT := fun δ M Q E => t δ M (fun b M1 => br b (Q true M1) (u δ M1 Q E)) E
def dNot (t : DTT) : DTT := fun δ M Q E => t δ M (fun b M1 => Q (!b) M1) E
theorem w_and1 (h : DT X W a tA) : DW X W (.BoolOp .And [a] pos) tA := pw_and1 h
theorem w_or1 (h : DT X W a tA) : DW X W (.BoolOp .Or [a] pos) tA := pw_or1 h
theorem w_and (h : DT X W a tA) (h2 : DW X W (.BoolOp .And (b :: rest) pos) tB') : DW X W (.BoolOp .And (a :: b :: rest) pos) (dAnd tA tB') := by
  refine pw_imp (pw_and h h2) fun σ H Q q => ?_
  obtain ⟨I, M, F, δ, Qd, Ed, hr, rs, q, fq, fx⟩ := q
  refine ⟨I, M, F, δ, _, Ed, hr, rs, q, fun b M1 I1 H1 q1 s1 hr1 => ?_, fx⟩
  cases b with
  | true => exact (if_pos rfl).mpr ⟨I1, M1, F, δ, Qd, Ed, hr1, rs.mono s1, q1, fun b M2 I2 H2 q2 s2 hr2 => fq b M2 I2 H2 q2 (s1.trans s2) hr2, fx.mono s1⟩
  | false => exact (if_neg Bool.false_ne_true).mpr (fq false M1 I1 H1 q1 s1 hr1)
theorem w_or (h : DT X W a tA) (h2 : DW X W (.BoolOp .Or (b :: rest) pos) tB') : DW X W (.BoolOp .Or (a :: b :: rest) pos) (dOr tA tB') := by
  refine pw_imp (pw_or h h2) fun σ H Q q => ?_
  obtain ⟨I, M, F, δ, Qd, Ed, hr, rs, q, fq, fx⟩ := q
  refine ⟨I, M, F, δ, _, Ed, hr, rs, q, fun b M1 I1 H1 q1 s1 hr1 => ?_, fx⟩
  cases b with
  | true => exact (if_pos rfl).mpr (fq true M1 I1 H1 q1 s1 hr1)
  | false => exact (if_neg Bool.false_ne_true).mpr ⟨I1, M1, F, δ, Qd, Ed, hr1, rs.mono s1, q1, fun b M2 I2 H2 q2 s2 hr2 => fq b M2 I2 H2 q2 (s1.trans s2) hr2, fx.mono s1⟩
theorem t_w (h : DW X W e tA) : DT X W e tA := PW.pt h
theorem t_not (h : DT X W a tA) : DT X W (.UnaryOp .Not a pos) (dNot tA) := by
  refine pt_imp (pt_not h) fun σ H Q q => ?_
  obtain ⟨I, M, F, δ, Qd, Ed, hr, rs, q, fq, fx⟩ := q
  exact ⟨I, M, F, δ, _, Ed, hr, rs, q, fun b M1 I1 H1 q1 s1 hr1 => fq _ M1 I1 H1 q1 s1 hr1, fx⟩
def dAndV (ta tb : DTE) : DTE := fun δ M Q E => ta δ M (fun x M1 => dB x fun c => br c (tb δ M1 Q E) (Q (.bl false) M1)) E
def dNotV (ta : DTE) : DTE := fun δ M Q E => ta δ M (fun x M1 => dB x fun c => Q (.bl (!c)) M1) E
theorem d_one {op} (h : DE X W a ta) : DE X W (.BoolOp op [a] pos) ta := pe_one h
theorem d_and (h : DE X W a ta) (h2 : DE X W (.BoolOp .And (b :: rest) pos) tb) : DE X W (.BoolOp .And (a :: b :: rest) pos) (dAndV ta tb) := by
  refine pe_imp (pe_and h h2) fun σ H Q q => ?_
  obtain ⟨I, M, F, δ, Qd, Ed, hr, rs, q, fq, fx⟩ := q
  refine ⟨I, M, F, δ, _, Ed, hr, rs, q, fun x M1 I1 H1 v q1 s1 hr1 r1 => ?_, fx⟩
  obtain ⟨c, e1, e2⟩ := dB_out r1 q1
  refine ⟨c, e1, ?_⟩
  cases c with
  | true => exact (if_pos rfl).mpr ⟨I1, M1, F, δ, Qd, Ed, hr1, rs.mono s1, e2, fq.mono s1, fx.mono s1⟩
  | false => exact (if_neg Bool.false_ne_true).mpr (fq _ M1 I1 H1 _ e2 s1 hr1 (.bl false))
theorem d_not (h : DE X W a ta) : DE X W (.UnaryOp .Not a pos) (dNotV ta) := by
  refine pe_imp (pe_not h) fun σ H Q q => ?_
  obtain ⟨I, M, F, δ, Qd, Ed, hr, rs, q, fq, fx⟩ := q
  refine ⟨I, M, F, δ, _, Ed, hr, rs, q, fun x M1 I1 H1 v q1 s1 hr1 r1 => ?_, fx⟩
  obtain ⟨c, e1, e2⟩ := dB_out r1 q1
  exact ⟨c, e1, fq _ M1 I1 H1 _ e2 s1 hr1 (.bl _)⟩
def dIfE (t : DTT) (ta tb : DTE) : DTE := fun δ M Q E => t δ M (fun b M1 => br b (ta δ M1 Q E) (tb δ M1 Q E)) E
theorem d_ifExp (h : DT X W c tA) (ha : DE X W a ta) (hb : DE X W b tb) : DE X W (.IfExp c a b pos) (dIfE tA ta tb) := by
  refine pe_imp (pe_ifExp h ha hb) fun σ H Q q => ?_
  obtain ⟨I, M, F, δ, Qd, Ed, hr, rs, q, fq, fx⟩ := q
  refine ⟨I, M, F, δ, _, Ed, hr, rs, q, fun c M1 I1 H1 q1 s1 hr1 => ?_, fx⟩
  cases c with
  | true => exact (if_pos rfl).mpr ⟨I1, M1, F, δ, Qd, Ed, hr1, rs.mono s1, q1, fq.mono s1, fx.mono s1⟩
  | false => exact (if_neg Bool.false_ne_true).mpr ⟨I1, M1, F, δ, Qd, Ed, hr1, rs.mono s1, q1, fq.mono s1, fx.mono s1⟩
end
section
variable {X : Cx} {W : WX} {st : Stmt} {rest : List Stmt} {t u : DTS} {e : Expr} {te : DTE} {pos : Pos}
def dNext : DTS := fun Dd δ M => Dd.nx δ M
def dSeq (t u : DTS) : DTS := fun Dd δ M => t { Dd with nx := u Dd } δ M
theorem s_nil : DSs X W [] dNext := pss_imp pss_nil fun Dn σ H h => by
  obtain ⟨I, M, F, δ, Dd, hr, rs, q, f⟩ := h
  exact f.nx δ M I H σ q (Same.refl I) hr rs
theorem s_cons (h1 : DSt X W st t) (h2 : DSs X W rest u) : DSs X W (st :: rest) (dSeq t u) := pss_imp (pss_cons h1 h2) fun Dn σ H h => by
  obtain ⟨I, M, F, δ, Dd, hr, rs, q, f⟩ := h
  refine ⟨I, M, F, δ, _, hr, rs, q, ⟨fun δ' M' I' H' σ' q' s' hr' rs' => ⟨I', M', F, δ', Dd, hr', rs', q', f.mono s'⟩, f.rt, f.ex, f.bk, f.ct⟩⟩
theorem s_one (h1 : DSt X W st t) : DSs X W [st] t := pss_one h1
theorem FinS.x {K : PySem.W.Frag} {I F : Hp} {Dd : DEnds} {Dn : Ends} (f : FinS K W I F Dd Dn) {σ : L2.St} {δ : DS} (rs : RepS K I σ δ) : FinX K I F (fun c fo M => Dd.ex c fo δ M) (WE W σ) :=
  fun c fo M' I' H' dd q s hr x => f.ex c fo δ M' I' H' σ dd q s hr (rs.mono s) x
def dDrop (te : DTE) : DTS := fun Dd δ M => te δ M (fun _ M1 => Dd.nx δ M1) (fun c fo M' => Dd.ex c fo δ M')
theorem s_expr (he : DE X W e te) (hs : swapsWith e none pos.line X.env = pure false := by rfl) : DSt X W (.Expr e pos) (dDrop te) := ps_imp (ps_expr he hs) fun Dn σ H h => by
  obtain ⟨I, M, F, δ, Dd, hr, rs, q, f⟩ := h
  exact ⟨I, M, F, δ, _, _, hr, rs, q, fun d M' I' H' v q' s' hr' r' => f.nx δ M' I' H' σ q' s' hr' (rs.mono s'), f.x rs⟩
def dRet (te : DTE) : DTS := fun Dd δ M => te δ M Dd.rt (fun c fo M' => Dd.ex c fo δ M')
theorem s_ret (he : DE X W e te) : DSt X W (.Return (some e) pos) (dRet te) := ps_imp (ps_ret he) fun Dn σ H h => by
  obtain ⟨I, M, F, δ, Dd, hr, rs, q, f⟩ := h
  exact ⟨I, M, F, δ, _, _, hr, rs, q, f.rt, f.x rs⟩
def dIf (c : DTT) (t u : DTS) : DTS := fun Dd δ M => c δ M (fun b M1 => br b (t Dd δ M1) (u Dd δ M1)) (fun c fo M' => Dd.ex c fo δ M')
theorem s_if {c : Expr} {a b : List Stmt} {tc : DTT} (hc : DT X W c tc) (ha : DSs X W a t) (hb : DSs X W b u) : DSt X W (.If c a b pos) (dIf tc t u) := ps_imp (ps_if hc ha hb) fun Dn σ H h => by
  obtain ⟨I, M, F, δ, Dd, hr, rs, q, f⟩ := h
  refine ⟨I, M, F, δ, _, _, hr, rs, q, fun c M1 I1 H1 q1 s1 hr1 => ?_, f.x rs⟩
  cases c with
  | true => exact (if_pos rfl).mpr ⟨I1, M1, F, δ, Dd, hr1, rs.mono s1, q1, f.mono s1⟩
  | false => exact (if_neg Bool.false_ne_true).mpr ⟨I1, M1, F, δ, Dd, hr1, rs.mono s1, q1, f.mono s1⟩
end
abbrev DTG := D → DS → Mp → (DS → Mp → Prop) → DXK → Prop
abbrev DTGs := List D → DS → Mp → (DS → Mp → Prop) → DXK → Prop
def FinG (K : PySem.W.Frag) (I F : Hp) (Qd : DS → Mp → Prop) (Q : L2.St → Hp → Prop) : Prop := ∀ δ' M' I' H' σ', Qd δ' M' → Same I I' → HR K I' M' F H' → RepS K I' σ' δ' → Q σ' H'
def lG (K : PySem.W.Frag) (W : WX) (g : DTG) : TG := fun v σ H Q => ∃ I M F δ d Qd Ed, HR K I M F H ∧ RepS K I σ δ ∧ Rep K I v d ∧ g d δ M Qd Ed ∧ FinG K I F Qd Q ∧ FinX K I F Ed (WE W σ)
def lGs (K : PySem.W.Frag) (W : WX) (g : DTGs) : TGs := fun vs σ H Q => ∃ I M F δ ds Qd Ed, HR K I M F H ∧ RepS K I σ δ ∧ Reps K I vs ds ∧ g ds δ M Qd Ed ∧ FinG K I F Qd Q ∧ FinX K I F Ed (WE W σ)
def DG (X : Cx) (W : WX) (tg : Expr) (g : DTG) : Prop := PG X tg (lG X.K W g)
def DGs (X : Cx) (W : WX) (tg : List Expr) (g : DTGs) : Prop := PGs X tg (lGs X.K W g)
theorem pg_imp {X : Cx} {e : Expr} {t t' : TG} (h : PG X e t) (i : ∀ v σ H Q, t' v σ H Q → t v σ H Q) : PG X e t' := ⟨fun pins s σ H v u Q I r q => h.run pins s σ H v u Q I r (i v σ H Q q)⟩
theorem pgs_imp {X : Cx} {e : List Expr} {t t' : TGs} (h : PGs X e t) (i : ∀ v σ H Q, t' v σ H Q → t v σ H Q) : PGs X e t' := ⟨fun pins s σ H v u Q I r q => h.run pins s σ H v u Q I r (i v σ H Q q)⟩
section
variable {X : Cx} {W : WX} {pos : Pos} {e : Expr} {te : DTE}
def gdName (i : Nat) : DTG := fun d δ M Q _ => Q (δ.set i (some d)) M
theorem g_name (i : Nat) {x : Str} (hN : X.N.Nodup) (hi : X.N[i]? = some x := by rfl) (hx : Loc X.env.scope x := by first | exact Or.inl rfl | exact Or.inr rfl) (hf : X.fn x = true ∨ X.env.scope.names.lookup x = some .local := by first | exact .inl rfl | exact .inr rfl | assumption) : DG X W (.Name x pos) (gdName i) :=
  pg_imp (pg_name hN hi hx hf) fun v σ H Q h => by
    obtain ⟨I, M, F, δ, d, Qd, Ed, hr, rs, r, q, fq, fx⟩ := h
    exact fq _ M I H _ q (Same.refl I) hr (rs.set i r)
def gdTup (n : Nat) (t : DTGs) : DTG := fun d δ M Q E => match d with
  | .tup ds => ds.length = n ∧ t ds δ M Q E
  | _ => False
def gdNames : List Nat → DTGs
  | [] => fun ds δ M Q _ => ds = [] ∧ Q δ M
  | i :: is => fun ds δ M Q E => match ds with
    | d :: r => gdNames is r (δ.set i (some d)) M Q E
    | [] => False
theorem gdNames_E : ∀ (is : List Nat) (ds : List D) (δ : DS) (M : Mp) (Q : DS → Mp → Prop) (E E' : DXK), gdNames is ds δ M Q E → gdNames is ds δ M Q E'
  | [], _, _, _, _, _, _, h => h
  | i :: is, [], _, _, _, _, _, h => h.elim
  | i :: is, d :: r, δ, M, Q, E, E', h => gdNames_E is r (δ.set i (some d)) M Q E E' h
theorem gs_nil : DGs X W [] (gdNames []) := pgs_imp pgs_nil fun v σ H Q h => by
  obtain ⟨I, M, F, δ, ds, Qd, Ed, hr, rs, r, ⟨e, q⟩, fq, fx⟩ := h
  subst e
  cases r
  exact ⟨rfl, fq _ M I H _ q (Same.refl I) hr rs⟩
theorem gs_cons (i : Nat) {x : Str} {es : List Expr} {is : List Nat} (hN : X.N.Nodup) (h2 : DGs X W es (gdNames is)) (hi : X.N[i]? = some x := by rfl) (hx : Loc X.env.scope x := by first | exact Or.inl rfl | exact Or.inr rfl) (hf : X.fn x = true ∨ X.env.scope.names.lookup x = some .local := by first | exact .inl rfl | exact .inr rfl | assumption)
    (hs : (assignEach (.Name x pos :: es) X.env).map (·.2) = assign (.Name x pos) X.env :: (assignEach es X.env).map (·.2) := by rfl) : DGs X W (.Name x pos :: es) (gdNames (i :: is)) :=
  pgs_imp (pgs_cons (pg_name hN hi hx hf) h2 hs) fun v σ H Q h => by
    obtain ⟨I, M, F, δ, ds, Qd, Ed, hr, rs, r, q, fq, fx⟩ := h
    cases r with
    | nil => exact q.elim
    | @cons v1 d1 vr dr r1 rr => exact ⟨v1, vr, rfl, I, M, F, _, dr, Qd, fun _ _ _ => False, hr, rs.set i r1, rr, gdNames_E is dr _ M Qd Ed _ q, fq, fun _ _ _ _ _ _ z => z.elim⟩
theorem g_tup {es : List Expr} {k : Nat} {t : List Nat} {n : Nat} (hc : X.calm = true) (h : DGs X W es (gdNames t))
    (hn : (assignEach es X.env).length = n := by rfl) (hst : (assignEach es X.env).findIdx? (·.1) = none := by rfl) : DG X W (.Tuple es k pos) (gdTup n (gdNames t)) :=
  pg_imp (pg_tup hc h hn hst) fun v σ H Q h => by
    obtain ⟨I, M, F, δ, d, Qd, Ed, hr, rs, r, q, fq, fx⟩ := h
    cases r with
    | @tup a vs ds s rr => exact ⟨a, vs, rfl, hr.st s, by rw [rr.len]; exact q.1, I, M, F, δ, ds, Qd, Ed, hr, rs, rr, q.2, fq, fx⟩
    | _ => exact q.elim
def dAsg (te : DTE) (g : DTG) : DTS := fun Dd δ M => te δ M (fun d M1 => g d δ M1 Dd.nx (fun c fo M' => Dd.ex c fo δ M')) (fun c fo M' => Dd.ex c fo δ M')
theorem s_asg {tg : Expr} {g : DTG} (he : DE X W e te) (hg : DG X W tg g) (hs : swapsWithSole [tg] e pos.line X.env = pure false := by rfl) (hw : swappedStores [tg] e X.env = pure none := by rfl) (h1 : (assignEach [tg] X.env).map (·.2) = [assign tg X.env] := by rfl) : DSt X W (.Assign [tg] e pos) (dAsg te g) :=
  ps_imp (ps_asg he hg hs hw (h1 := h1)) fun Dn σ H h => by
    obtain ⟨I, M, F, δ, Dd, hr, rs, q, f⟩ := h
    refine ⟨I, M, F, δ, _, _, hr, rs, q, fun d M1 I1 H1 v q1 s1 hr1 r1 => ?_, f.x rs⟩
    exact ⟨I1, M1, F, δ, d, _, _, hr1, rs.mono s1, r1, q1, fun δ' M' I' H' σ' q' s' hr' rs' => f.nx δ' M' I' H' σ' q' (s1.trans s') hr' rs', (f.x rs).mono s1⟩
theorem s_set (i : Nat) {x : Str} {pos' : Pos} (hN : X.N.Nodup) (he : DE X W e te) (hi : X.N[i]? = some x := by rfl) (hx : Loc X.env.scope x := by first | exact Or.inl rfl | exact Or.inr rfl) (hs : swapsWith e (some (.Name x pos')) pos.line X.env = pure false := by rfl)
    (hf : X.fn x = true ∨ X.env.scope.names.lookup x = some .local := by first | exact .inl rfl | exact .inr rfl | assumption) : DSt X W (.Assign [.Name x pos'] e pos) (dAsg te (gdName i)) :=
  ps_imp (ps_set (i := i) hN hi hx he hs hf) fun Dn σ H h => by
    obtain ⟨I, M, F, δ, Dd, hr, rs, q, f⟩ := h
    refine ⟨I, M, F, δ, _, _, hr, rs, q, fun d M1 I1 H1 v q1 s1 hr1 r1 => ?_, f.x rs⟩
    exact f.nx _ M1 I1 H1 _ q1 s1 hr1 ((rs.mono s1).set i r1)
end
end DL
set_option Elab.async false
set_option linter.all false
set_option maxRecDepth 100000
set_option maxHeartbeats 2000000
namespace DL
open PySem PySem.Spec PyProof.Rows L2
section
variable {X : Cx} {W : WX} {e : Expr} {es : List Expr} {te : DTE} {ta : DTA} {pos : Pos}
def dNil : DTA := fun _ M Q _ => Q [] M
def dCons (te : DTE) (ta : DTA) : DTA := fun δ M Q E => te δ M (fun d M1 => ta δ M1 (fun ds M2 => Q (d :: ds) M2) E) E
theorem a_nil : DA X W [] dNil := pa_imp pa_nil fun σ H Q h => by
  obtain ⟨I, M, F, δ, Qd, Ed, hr, rs, q, fq, fx⟩ := h
  exact fq [] M I H [] q (Same.refl I) hr .nil
theorem a_cons (he : DE X W e te) (ha : DA X W es ta) (hs : starEach (e :: es) X.env = (false, eval e X.env) :: starEach es X.env := by rfl) : DA X W (e :: es) (dCons te ta) := pa_imp (pa_cons he ha hs) fun σ H Q h => by
  obtain ⟨I, M, F, δ, Qd, Ed, hr, rs, q, fq, fx⟩ := h
  refine ⟨I, M, F, δ, _, Ed, hr, rs, q, fun d M1 I1 H1 v q1 s1 hr1 r1 => ?_, fx⟩
  refine ⟨I1, M1, F, δ, _, Ed, hr1, rs.mono s1, q1, fun ds M2 I2 H2 vs q2 s2 hr2 r2 => ?_, fx.mono s1⟩
  exact fq _ M2 I2 H2 _ q2 (s1.trans s2) hr2 (.cons (r1.mono s2) r2)
def dLst (ta : DTA) : DTE := fun δ M Q E => ta δ M (fun ds M1 => ds.length ≤ sizeLine ∧ Q (.lst ds) M1) E
def dLstM (ta : DTA) : DTE := fun δ M Q E => ta δ M (fun ds M1 => ds.length ≤ sizeLine ∧ ∀ p, M1 p = none → Q (.ref p) (updM M1 p (.lst ds))) E
def dTup (ta : DTA) : DTE := fun δ M Q E => ta δ M (fun ds M1 => ds.length ≤ sizeLine ∧ Q (.tup ds) M1) E
theorem fin_lst {K : PySem.W.Frag} {I F : Hp} {M : Mp} {H : Hp} {Qd : DK} {Q : VK} (fq : Fin K I F Qd Q) (hr : HR K I M F H) {vs : List V} {ds : List D} (r : Reps K I vs ds) (q : Qd (.lst ds) M) : ∀ p, H p = none → Q (.ref p) (upd H p (.lst vs)) := fun p hp => by
  have s := same_new (o := .lst vs) (hr.fresh hp).1
  exact fq _ M _ _ _ q s (hr.newI hp _) (.lst upd_same (r.mono s))
theorem fin_tup {K : PySem.W.Frag} {I F : Hp} {M : Mp} {H : Hp} {Qd : DK} {Q : VK} (fq : Fin K I F Qd Q) (hr : HR K I M F H) {vs : List V} {ds : List D} (r : Reps K I vs ds) (q : Qd (.tup ds) M) : ∀ p, H p = none → Q (.ref p) (upd H p (.tup vs)) := fun p hp => by
  have s := same_new (o := .tup vs) (hr.fresh hp).1
  exact fq _ M _ _ _ q s (hr.newI hp _) (.tup (SqT.of upd_same) (r.mono s))
theorem fin_lstM {K : PySem.W.Frag} {I F : Hp} {M : Mp} {H : Hp} {Qd : DK} {Q : VK} (fq : Fin K I F Qd Q) (hr : HR K I M F H) {vs : List V} {ds : List D} (r : Reps K I vs ds) (q : ∀ p, M p = none → Qd (.ref p) (updM M p (.lst ds))) : ∀ p, H p = none → Q (.ref p) (upd H p (.lst vs)) := fun p hp =>
  fq _ _ _ _ _ (q p (hr.fresh hp).2.1) (Same.refl I) (hr.newM hp (o := .lst vs) (m := .lst ds) ⟨vs, rfl, r⟩) (.ref p)
theorem d_lst (ha : DA X W es ta) : DE X W (.List es pos) (dLst ta) := pe_imp (pe_lst ha) fun σ H Q h => by
  obtain ⟨I, M, F, δ, Qd, Ed, hr, rs, q, fq, fx⟩ := h
  refine ⟨I, M, F, δ, _, Ed, hr, rs, q, fun ds M1 I1 H1 vs q1 s1 hr1 r1 => ⟨by rw [r1.len]; exact q1.1, fin_lst (fq.mono s1) hr1 r1 q1.2⟩, fx⟩
theorem d_lstM (ha : DA X W es ta) : DE X W (.List es pos) (dLstM ta) := pe_imp (pe_lst ha) fun σ H Q h => by
  obtain ⟨I, M, F, δ, Qd, Ed, hr, rs, q, fq, fx⟩ := h
  refine ⟨I, M, F, δ, _, Ed, hr, rs, q, fun ds M1 I1 H1 vs q1 s1 hr1 r1 => ⟨by rw [r1.len]; exact q1.1, fin_lstM (fq.mono s1) hr1 r1 q1.2⟩, fx⟩
theorem d_tup {x1} (ha : DA X W es ta) : DE X W (.Tuple es x1 pos) (dTup ta) := pe_imp (pe_tup ha) fun σ H Q h => by
  obtain ⟨I, M, F, δ, Qd, Ed, hr, rs, q, fq, fx⟩ := h
  refine ⟨I, M, F, δ, _, Ed, hr, rs, q, fun ds M1 I1 H1 vs q1 s1 hr1 r1 => ⟨by rw [r1.len]; exact q1.1, fin_tup (fq.mono s1) hr1 r1 q1.2⟩, fx⟩
end
abbrev DSp := List D → Mp → DK → DXK → Prop
def lSp (K : PySem.W.Frag) (sp : DSp) : Sp := fun vs H Q E => ∃ I M F ds Qd Ed, HR K I M F H ∧ Reps K I vs ds ∧ sp ds M Qd Ed ∧ Fin K I F Qd Q ∧ FinX K I F Ed E
structure Fn (P : Program) (w : World) (K : PySem.W.Frag) (mg : Str → Option Value) (base : Heap) (k : Nat) (x : Str) (ps : List Str) (sp : DSp) : Prop where
  ex : ∃ (f : Addr) (fd : FuncData), mg x = some (.ref f) ∧ PySem.W.keepIn K (.ref f) = true ∧ ((∀ us : List Value, us.length = ps.length → bindArgs fd ⟨us, []⟩ = pure (ps.zip us)) ∧ ∃ o, K.lookup f = some o ∧ o.data = .func fd) ∧ FnG P w K mg base (L2.CX P w) k f fd ps (lSp K sp)
theorem Fn.up {P : Program} {w : World} {K : PySem.W.Frag} {mg : Str → Option Value} {base : Heap} {j k : Nat} {x : Str} {ps : List Str} {sp : DSp} (h : Fn P w K mg base j x ps sp) (l : j ≤ k) : Fn P w K mg base k x ps sp :=
  let ⟨f, fd, a, b, c, d⟩ := h.ex
  ⟨f, fd, a, b, c, d.up l⟩
structure Good (X : Cx) (W : WX) : Prop where
  calm : X.calm = true
  tk : Takes X W
  own : PassesOwn (model X.prog X.w) X.A X.env X.xe
  ng : NoGd X.A
section
variable {X : Cx} {W : WX} {e : Expr} {es : List Expr} {te : DTE} {ta : DTA} {pos p : Pos} {k : Nat} {x : Str} {ps : List Str} {sp : DSp}
def dCall (sp : DSp) (ta : DTA) : DTE := fun δ M Q E => ta δ M (fun ds M1 => sp ds M1 Q E) E
end
def dstart (N : List Str) (ds : List D) : DS := ds.map some ++ List.replicate (N.length - ds.length) none
theorem reps_get {K : PySem.W.Frag} {I : Hp} : ∀ {vs : List V} {ds : List D}, Reps K I vs ds → ∀ (i : Nat) (d : D), ds[i]? = some d → ∃ v, vs[i]? = some v ∧ Rep K I v d
  | _, _, .nil, i, d, h => by simp at h
  | _, _, .cons r _, 0, d, h => by simp at h; subst h; exact ⟨_, rfl, r⟩
  | _, _, .cons _ rr, i + 1, d, h => by
    obtain ⟨v, a, b⟩ := reps_get rr i d (by simpa using h)
    exact ⟨v, by simpa using a, b⟩
theorem reps_start {K : PySem.W.Frag} {I : Hp} {N : List Str} {vs : List V} {ds : List D} (r : Reps K I vs ds) : RepS K I (L2.start N vs) (dstart N ds) := by
  refine ⟨by simp [L2.start, dstart, r.len], fun i d h => ?_⟩
  unfold dstart at h
  by_cases hi : i < ds.length
  · rw [List.getElem?_append_left (by simpa using hi), List.getElem?_map] at h
    cases e : ds[i]? with
    | none => rw [e] at h; cases h
    | some d' =>
      rw [e] at h
      cases h
      obtain ⟨v, a, b⟩ := reps_get r i _ e
      refine ⟨v, ?_, b⟩
      unfold L2.start
      rw [List.getElem?_append_left (by simpa [r.len] using hi), List.getElem?_map, a]
      rfl
  · rw [List.getElem?_append_right (by simpa using hi), List.getElem?_replicate] at h
    split at h <;> cases h
section
variable {P : Program} {w : World} {K : PySem.W.Frag} {mg : Str → Option Value} {base : Heap}
theorem good_of {N : List Str} {qual : Str} {sc : Scope} {f : Addr} {cdv : Value} {A : Around} {l : List Env} {s : Shared} {H : Hp} {E : XK} (ng : NoGd A) : Good (cxOf (L2.CX P w) P w K mg base N qual sc f cdv A l s H E) (fun cls d _ H => E cls d H) :=
  ⟨rfl, takes_of rfl rfl rfl rfl, passes_of rfl, nogd_deeper ng _⟩
theorem dfun {x qual : Str} {st : Stmt} {f : Addr} {fd : FuncData} {N ps : List Str} {k : Nat} {sp : DSp} (F : L2.Fun K x qual st f fd) (hm : mg x = some (.ref f)) (hb : ∀ (kV doc pm : Value) (an : Option Addr) (cdv ct : Value) (us : List Value), us.length = ps.length → bindArgs (PySem.W.fnOf x qual (defArgs st) (defBody st) (defScope st) .none kV doc pm an cdv ct) ⟨us, []⟩ = pure (ps.zip us)) (S : FnScope N ps (defScope st)) (len : ∀ ds M Q E, sp ds M Q E → ds.length = ps.length)
    (body : ∀ (cdv : Value) (A : Around) (l : List Env) (s : Shared) (H : Hp) (E : XK), Good (cxOf (L2.CX P w) P w K mg base N qual (defScope st) f cdv A l s H E) (fun cls d _ H => E cls d H) → Room k (A.deeper (envOfC qual (defScope st) s.heap.objs.size f cdv)) →
      ∃ t, DSs (cxOf (L2.CX P w) P w K mg base N qual (defScope st) f cdv A l s H E) (fun cls d _ H => E cls d H) (defBody st) t ∧ ∀ ds M Qd Ed, sp ds M Qd Ed → t { nx := fun _ M' => Qd .non M', rt := Qd, ex := fun c fo _ M' => Ed c fo M' } (dstart N ds) M) :
    Fn P w K mg base (k + 1) x ps sp := by
  have kp := F.kp
  obtain ⟨oc, od, kV, doc, pm, an, cdv, ct, osl, rfl, lk, hcd⟩ := F.ex
  refine ⟨f, _, hm, kp, ⟨hb kV doc pm an cdv ct, _, lk, rfl⟩, fng_of lk hcd S (fun vs H Q E h => ?_) fun A l s H vs Q E ng rm h => ?_⟩
  · obtain ⟨I, M, Fr, ds, Qd, Ed, hr, rs, q, _, _⟩ := h
    rw [rs.len]
    exact len _ _ _ _ q
  · obtain ⟨t, ht, hq⟩ := body cdv A l s H E (good_of ng) rm
    refine ⟨_, ht, ?_⟩
    obtain ⟨I, M, Fr, ds, Qd, Ed, hr, rs, q, fq, fx⟩ := h
    refine ⟨I, M, Fr, _, _, hr, reps_start rs, hq ds M Qd Ed q, ⟨fun δ' M' I' H' σ' q' s' hr' rs' => fq _ M' I' H' _ q' s' hr' .non, fq, fun c fo δ' M' I' H' σ' dd q' s' hr' rs' xd => fx c fo M' I' H' dd q' s' hr' xd, fun _ _ _ _ _ z => z.elim, fun _ _ _ _ _ z => z.elim⟩⟩
end
inductive Src where
  | data | at (a : Addr) (xs : List D) | lk (a : Addr) (m : MO) | two (a : Addr) (xs : List D) (b : Addr) (ys : List D)
def Src.ok : Src → Mp → Prop → Prop
  | .data, _, P => P
  | .at a xs, M, P => M a = some (.lst xs) ∧ P
  | .lk a m, M, P => M a = some m ∧ P
  | .two a xs b ys, M, P => (M a = some (.lst xs) ∧ M b = some (.lst ys)) ∧ P
def Src.holds : Src → Mp → Prop
  | .data, _ => True
  | .at a xs, M => M a = some (.lst xs)
  | .lk a m, M => M a = some m
  | .two a xs b ys, M => M a = some (.lst xs) ∧ M b = some (.lst ys)
theorem Src.ok_iff {s : Src} {M : Mp} {P : Prop} (h : s.ok M P) : s.holds M ∧ P := by
  cases s with
  | data => exact ⟨trivial, h⟩
  | «at» a xs => exact h
  | lk a m => exact h
  | two a xs b ys => exact h
abbrev DTI := DS → Mp → (List D → Src → Mp → Prop) → DXK → Prop
structure DWalk (K : PySem.W.Frag) (I : Hp) (J : It) (xs : List D) (src : Src) : Prop where
  goes : ∀ i I' M' F H, i < xs.length → Same I I' → HR K I' M' F H → src.holds M' → J.go i H
  stops : ∀ I' M' F H, Same I I' → HR K I' M' F H → src.holds M' → J.stop xs.length H
  yields : ∀ i x I' M' F H H', i < xs.length → Same I I' → HR K I' M' F H → src.holds M' → J.yld i H x H' → ∃ I2 d, Same I' I2 ∧ HR K I2 M' F H' ∧ xs[i]? = some d ∧ Rep K I2 x d
def lI (K : PySem.W.Frag) (W : WX) (di : DTI) : TI := fun σ H R => ∃ I M F δ Rd Ed, HR K I M F H ∧ RepS K I σ δ ∧ di δ M Rd Ed ∧ (∀ xs src M' I' H' J, Rd xs src M' → src.holds M' → Same I I' → HR K I' M' F H' → DWalk K I' J xs src → R J H') ∧ FinX K I F Ed (WE W σ)
def DI (X : Cx) (W : WX) (tg iter : Expr) (di : DTI) : Prop := PI X tg iter (lI X.K W di)
theorem pi_imp {X : Cx} {tg iter : Expr} {t t' : TI} (h : PI X tg iter t) (i : ∀ σ H R, t' σ H R → t σ H R) : PI X tg iter t' := ⟨fun pins s σ H R I q => h.run pins s σ H R I (i σ H R q)⟩
def dLoop (g : DTG) (tb : DTS) (src : Src) : List D → DTS
  | [] => fun Dd δ M => src.ok M (Dd.nx δ M)
  | x :: r => fun Dd δ M => src.ok M (g x δ M (fun δ1 M1 => tb { Dd with nx := dLoop g tb src r Dd, ct := dLoop g tb src r Dd, bk := Dd.nx } δ1 M1) (fun c fo M' => Dd.ex c fo δ M'))
def dFor (di : DTI) (g : DTG) (tb : DTS) : DTS := fun Dd δ M => di δ M (fun xs src M1 => dLoop g tb src xs Dd δ M1) (fun c fo M' => Dd.ex c fo δ M')
section
variable {X : Cx} {W : WX} {tg iter : Expr} {body : List Stmt} {di : DTI} {g : DTG} {tb : DTS} {pos : Pos}
theorem s_for (gd : Good X W) (hi : DI X W tg iter di) (hg : DG X W tg g) (hb : DSs X W body tb) (hs : ∀ x, foldedSetIterable iter X.env x = pure x := by intro _; rfl) : DSt X W (.For tg iter body [] pos) (dFor di g tb) := by
  refine ps_imp (ps_for gd.own gd.calm hi hg hb hs) fun Dn σ H h => ?_
  obtain ⟨I, M, F, δ, Dd, hr, rs, q, f⟩ := h
  refine ⟨I, M, F, δ, _, _, hr, rs, q, fun xs src M1 I1 H1 J q1 ho s1 hr1 wk => ?_, f.x rs⟩
  refine ⟨fun i m σ' H' => m = xs.length - i ∧ i ≤ xs.length ∧ ∃ I' M' δ', Same I1 I' ∧ HR X.K I' M' F H' ∧ RepS X.K I' σ' δ' ∧ dLoop g tb src (xs.drop i) Dd δ' M', ⟨xs.length, by simp, Nat.zero_le _, I1, M1, δ, Same.refl I1, hr1, rs.mono s1, q1⟩, ?_⟩
  rintro i m σ' H' ⟨rfl, hi, I', M', δ', s', hr', rs', q'⟩
  by_cases hlt : i < xs.length
  · right
    rw [List.drop_eq_getElem_cons hlt] at q'
    obtain ⟨ho', q'⟩ := Src.ok_iff q'
    refine ⟨wk.goes i I' M' F H' hlt s' hr' ho', fun σ2 H2 => ∃ I2 M2 δ2, Same I1 I2 ∧ HR X.K I2 M2 F H2 ∧ RepS X.K I2 σ2 δ2 ∧ dLoop g tb src (xs.drop (i + 1)) Dd δ2 M2, fun σ2 H2 z => ⟨xs.length - (i + 1), by omega, rfl, hlt, z⟩, fun x H2 y => ?_⟩
    obtain ⟨I2, d, s2, hr2, e, r⟩ := wk.yields i x I' M' F H' H2 hlt s' hr' ho' y
    rw [List.getElem?_eq_getElem hlt] at e
    cases e
    have s12 := s'.trans s2
    refine ⟨I2, M', F, δ', _, _, _, hr2, rs'.mono s2, r, q', fun δ3 M3 I3 H3 σ3 q3 s3 hr3 rs3 => ?_, fun c fo M3 I3 H3 dd z s3 hr3 xd => f.ex c fo δ' M3 I3 H3 σ' dd z ((s1.trans s12).trans s3) hr3 ((rs'.mono s2).mono s3) xd⟩
    have f3 := f.mono ((s1.trans s12).trans s3)
    exact ⟨I3, M3, F, δ3, _, hr3, rs3, q3, ⟨fun δ4 M4 I4 H4 σ4 q4 s4 hr4 rs4 => ⟨I4, M4, δ4, (s12.trans s3).trans s4, hr4, rs4, q4⟩, f3.rt, f3.ex, f3.nx, fun δ4 M4 I4 H4 σ4 q4 s4 hr4 rs4 => ⟨I4, M4, δ4, (s12.trans s3).trans s4, hr4, rs4, q4⟩⟩⟩
  · left
    have e : i = xs.length := by omega
    subst e
    rw [List.drop_length] at q'
    obtain ⟨ho', q'⟩ := Src.ok_iff q'
    exact ⟨wk.stops I' M' F H' s' hr' ho', f.nx δ' M' I' H' σ' q' (s1.trans s') hr' rs'⟩
end
end DL
set_option Elab.async false
set_option linter.all false
set_option maxRecDepth 100000
set_option maxHeartbeats 2000000
namespace DL
open PySem PySem.Spec PyProof.Rows L2
section
variable {K : PySem.W.Frag} {I : Hp} {M : Mp} {F H : Hp} {p : Addr} {o o' : HO}
theorem HR.newF (h : HR K I M F H) (hp : H p = none) (o : HO) (ho : ∀ vs, o ≠ .tup vs := by intro _ z; cases z) : HR K I M (upd F p o) (upd H p o) := by
  obtain ⟨h1, h2, h3⟩ := h.fresh hp
  have kp : ∀ d φ, H d = some (.ext φ) → upd H p o d = some (.ext φ) := fun d φ e => by rw [upd_ne (ne_of_none e hp)]; exact e
  refine ⟨fun a u e => ?_, fun a m e => ?_, fun a u e => ?_, ft_upd h.ft ho⟩
  · have q : a ≠ p := fun z => by rw [z, h1] at e; cases e
    rw [upd_ne q]; exact h.imm a u e
  · have q : a ≠ p := fun z => by rw [z, h2] at e; cases e
    rw [upd_ne q]
    obtain ⟨x, y, z, t⟩ := h.mu a m e
    exact ⟨x, y, z, t.mono (Same.refl I) kp⟩
  · by_cases q : a = p
    · subst q; rw [upd_same] at e; rw [upd_same]; exact ⟨e, h1, h2⟩
    · rw [upd_ne q] at e; rw [upd_ne q]; exact h.frm a u e
theorem HR.atF (h : HR K I M (upd F p o) H) : H p = some o ∧ I p = none ∧ M p = none := h.frm p o upd_same
theorem HR.reF (h : HR K I M (upd F p o) H) (nx : ∀ φ, o ≠ .ext φ) (o' : HO) (ho : ∀ vs, o' ≠ .tup vs := by intro _ z; cases z) : HR K I M (upd F p o') (upd H p o') := by
  obtain ⟨h0, h1, h2⟩ := h.atF
  have kp : ∀ d φ, H d = some (.ext φ) → upd H p o' d = some (.ext φ) := fun d φ e => by rw [upd_ne (ne_of e h0 (fun z => nx φ z.symm))]; exact e
  refine ⟨fun a u e => ?_, fun a m e => ?_, fun a u e => ?_, fun a vs e => ?_⟩
  · have q : a ≠ p := fun z => by rw [z, h1] at e; cases e
    rw [upd_ne q]; exact h.imm a u e
  · have q : a ≠ p := fun z => by rw [z, h2] at e; cases e
    rw [upd_ne q]
    obtain ⟨x, y, z, t⟩ := h.mu a m e
    exact ⟨x, y, z, t.mono (Same.refl I) kp⟩
  · by_cases q : a = p
    · subst q; rw [upd_same] at e; rw [upd_same]; exact ⟨e, h1, h2⟩
    · rw [upd_ne q] at e; rw [upd_ne q]; exact h.frm a u (by rw [upd_ne q]; exact e)
  · by_cases q : a = p
    · subst q; rw [upd_same] at e; cases e; exact ho vs rfl
    · rw [upd_ne q] at e; exact h.ft a vs (by rw [upd_ne q]; exact e)
theorem HR.frzF (h : HR K I M (upd F p o) H) (hF : F p = none) : Same I (upd I p o) ∧ HR K (upd I p o) M F H := by
  obtain ⟨h0, h1, h2⟩ := h.atF
  have s := same_new (o := o) h1
  refine ⟨s, fun a u e => ?_, fun a m e => ?_, fun a u e => ?_, ft_off h.ft hF⟩
  · by_cases q : a = p
    · subst q; rw [upd_same] at e; rw [← e]; exact h0
    · rw [upd_ne q] at e; exact h.imm a u e
  · have q : a ≠ p := fun z => by rw [z, h2] at e; cases e
    obtain ⟨x, u, y, z⟩ := h.mu a m e
    rw [upd_ne q]
    exact ⟨x, u, y, z.mono s fun _ _ e => e⟩
  · have q : a ≠ p := fun z => by rw [z, hF] at e; cases e
    rw [upd_ne q]; exact h.frm a u (by rw [upd_ne q]; exact e)
theorem HR.mutF (h : HR K I M (upd F p o) H) (hF : F p = none) {m : MO} (r : RepO K I H p o m) : HR K I (updM M p m) F H := by
  obtain ⟨h0, h1, h2⟩ := h.atF
  refine ⟨h.imm, fun a n e => ?_, fun a u e => ?_, ft_off h.ft hF⟩
  · by_cases q : a = p
    · subst q; rw [updM_same] at e; cases e; exact ⟨h1, o, h0, r⟩
    · rw [updM_ne q] at e; exact h.mu a n e
  · have q : a ≠ p := fun z => by rw [z, hF] at e; cases e
    rw [updM_ne q]; exact h.frm a u (by rw [upd_ne q]; exact e)
end
theorem Reps.snoc {K : PySem.W.Frag} {I : Hp} {v : V} {d : D} (r : Rep K I v d) : ∀ {vs : List V} {ds : List D}, Reps K I vs ds → Reps K I (vs ++ [v]) (ds ++ [d])
  | _, _, .nil => .cons r .nil
  | _, _, .cons a b => .cons a (Reps.snoc r b)
theorem wipe_get (σ : L2.St) (j : Nat) : ∀ vs : List Nat, (wipe σ vs)[j]? = if j ∈ vs then σ[j]?.map (fun _ => none) else σ[j]?
  | [] => by simp [wipe]
  | v :: vs => by
    show ((wipe σ vs).set v none)[j]? = _
    rw [List.getElem?_set]
    by_cases h : v = j
    · subst h
      by_cases hl : v < σ.length
      · simp [wipe_length, hl]
      · simp [wipe_length, hl]
    · rw [if_neg h, wipe_get σ j vs]
      have h' : ¬ j = v := fun z => h z.symm
      simp [h']
theorem wipe_set {σ : L2.St} {i : Nat} {u : Option V} {vs : List Nat} (h : i ∈ vs) : wipe (σ.set i u) vs = wipe σ vs := by
  apply List.ext_getElem?
  intro j
  rw [wipe_get, wipe_get, List.getElem?_set]
  by_cases q : j ∈ vs
  · rw [if_pos q, if_pos q]
    by_cases z : i = j
    · subst z
      by_cases hl : i < σ.length <;> simp [hl]
    · rw [if_neg z]
  · have z : i ≠ j := fun e => q (e ▸ h)
    rw [if_neg q, if_neg q, if_neg z]
theorem wipe_wipe (σ : L2.St) (vs : List Nat) : wipe (wipe σ vs) vs = wipe σ vs := by
  apply List.ext_getElem?
  intro j
  rw [wipe_get, wipe_get]
  by_cases q : j ∈ vs
  · rw [if_pos q, if_pos q]
    cases σ[j]? <;> rfl
  · rw [if_neg q, if_neg q]
def dwipe (δ : DS) : List Nat → DS
  | [] => δ
  | v :: vs => (dwipe δ vs).set v none
theorem RepS.wipe {K : PySem.W.Frag} {I : Hp} {σ : L2.St} {δ : DS} (h : RepS K I σ δ) : ∀ vs : List Nat, RepS K I (L2.wipe σ vs) (dwipe δ vs)
  | [] => h
  | v :: vs => (RepS.wipe h vs).forget v
inductive TgI where
  | one (i : Nat) | tup (is : List Nat)
def gNV : List Nat → TGs
  | [] => gNil
  | i :: is => gCons (gName i) (gNV is)
def setAll : DS → List Nat → List D → DS
  | δ, i :: is, d :: ds => setAll (δ.set i (some d)) is ds
  | δ, _, _ => δ
def setAllV : L2.St → List Nat → List V → L2.St
  | σ, i :: is, v :: vs => setAllV (σ.set i (some v)) is vs
  | σ, _, _ => σ
theorem gNV_of : ∀ (is : List Nat) (vs : List V) (σ : L2.St) (H : Hp) (Q : L2.St → Hp → Prop), vs.length = is.length → Q (setAllV σ is vs) H → gNV is vs σ H Q
  | [], [], σ, H, Q, _, q => ⟨rfl, q⟩
  | i :: is, v :: vs, σ, H, Q, l, q => ⟨v, vs, rfl, gNV_of is vs _ H Q (by simpa using l) q⟩
  | [], _ :: _, _, _, _, l, _ => by simp at l
  | _ :: _, [], _, _, _, l, _ => by simp at l
theorem RepS.setAll {K : PySem.W.Frag} {I : Hp} : ∀ {is : List Nat} {vs : List V} {ds : List D} {σ : L2.St} {δ : DS}, RepS K I σ δ → Reps K I vs ds → RepS K I (setAllV σ is vs) (DL.setAll δ is ds)
  | [], _, _, _, _, h, _ => h
  | i :: is, _, _, _, _, h, .nil => h
  | i :: is, _, _, _, _, h, .cons r rr => by
    have z := RepS.setAll (is := is) (h.set i r) rr
    exact z
theorem wipe_setAll {vs : List Nat} : ∀ {is : List Nat} {xs : List V} {σ : L2.St}, (∀ i ∈ is, i ∈ vs) → wipe (setAllV σ is xs) vs = wipe σ vs
  | [], _, _, _ => rfl
  | i :: is, [], _, _ => rfl
  | i :: is, x :: xs, σ, h => by
    show wipe (setAllV (σ.set i (some x)) is xs) vs = _
    rw [wipe_setAll fun j hj => h j (List.mem_cons_of_mem _ hj), wipe_set (h i List.mem_cons_self)]
def TgI.v (K : PySem.W.Frag) : TgI → TG
  | .one i => gName i
  | .tup is => gTup K is.length (gNV is)
def TgI.in (vs : List Nat) : TgI → Bool
  | .one i => decide (i ∈ vs)
  | .tup is => decide (∀ i ∈ is, i ∈ vs)
def TgI.d (t : TgI) (d : D) (δ : DS) (k : DS → Prop) : Prop := match t with
  | .one i => k (δ.set i (some d))
  | .tup is => match d with | .tup ds => ds.length = is.length ∧ k (setAll δ is ds) | _ => False
theorem TgI.run {K : PySem.W.Frag} {I : Hp} {M : Mp} {F H : Hp} {vs : List Nat} {t : TgI} (hin : t.in vs = true) (hr : HR K I M F H) {x : V} {d : D} (r : Rep K I x d) {σ : L2.St} {δ : DS} (rs : RepS K I σ δ) {k : DS → Prop} (h : t.d d (dwipe δ vs) k) {Q : L2.St → Hp → Prop}
    (hQ : ∀ σ2 δ2, RepS K I σ2 δ2 → wipe σ2 vs = wipe σ vs → k δ2 → Q σ2 H) : t.v K x (wipe σ vs) H Q := by
  cases t with
  | one i =>
    have hi : i ∈ vs := of_decide_eq_true hin
    exact hQ _ _ ((rs.wipe vs).set i r) (by rw [wipe_set hi, wipe_wipe]) h
  | tup is =>
    have hi : ∀ i ∈ is, i ∈ vs := of_decide_eq_true hin
    cases r with
    | @tup a xs ds s rr =>
      refine ⟨a, xs, rfl, hr.st s, by rw [rr.len]; exact h.1, gNV_of is xs _ H Q (by rw [rr.len]; exact h.1) (hQ _ _ ((rs.wipe vs).setAll rr) (by rw [wipe_setAll hi, wipe_wipe]) h.2)⟩
    | _ => exact h.elim
section
variable {X : Cx}
theorem v_one (i : Nat) {x : Str} {pos : Pos} (hN : X.N.Nodup) (hi : X.N[i]? = some x := by rfl) (hx : Loc X.env.scope x := by first | exact Or.inl rfl | exact Or.inr rfl)
    (hf : X.fn x = true ∨ X.env.scope.names.lookup x = some .local := by first | exact .inl rfl | exact .inr rfl | assumption) : PG X (.Name x pos) ((TgI.one i).v X.K) := pg_name hN hi hx hf
end
abbrev W0 : WX := fun _ _ _ _ => False
abbrev E0d : DXK := fun _ _ _ => False
def dYes : DTT := fun _ M Q _ => Q true M
def dComp (t : TgI) (tt : DTT) (te : DTE) (src : Src) (vs : List Nat) (δ : DS) (k : List D → Mp → Prop) : List D → List D → Mp → Prop
  | [], acc, M => src.ok M (acc.length ≤ sizeLine ∧ k acc M)
  | x :: r, acc, M => src.ok M (t.d x (dwipe δ vs) fun δ2 => tt δ2 M (fun b M3 => br b (te δ2 M3 (fun y M4 => dComp t tt te src vs δ k r (acc ++ [y]) M4) E0d) (dComp t tt te src vs δ k r acc M3)) E0d)
def dLc (di : DTI) (t : TgI) (tt : DTT) (te : DTE) (vs : List Nat) : DTE := fun δ M Q E => di δ M (fun xs src M1 => xs.length < sizeLine ∧ dComp t tt te src vs δ (fun acc M2 => Q (.lst acc) M2) xs [] M1) E
def dLcM (di : DTI) (t : TgI) (tt : DTT) (te : DTE) (vs : List Nat) : DTE := fun δ M Q E => di δ M (fun xs src M1 => xs.length < sizeLine ∧ dComp t tt te src vs δ (fun acc M2 => ∀ p, M2 p = none → Q (.ref p) (updM M2 p (.lst acc))) xs [] M1) E
section
variable {X : Cx} {W : WX}
theorem lc_lift {K : PySem.W.Frag} {t : TgI} {tt : DTT} {te : DTE} {src : Src} {vs : List Nat} {δ : DS} {k : List D → Mp → Prop} {xs : List D} {J : It} {I1 F H1 : Hp} {M1 : Mp} {σ : L2.St} {Qd : Addr → Hp → Prop}
    (hin : t.in vs = true) (hl : xs.length < sizeLine) (hr1 : HR K I1 M1 F H1) (rs : RepS K I1 σ δ) (wk : DWalk K I1 J xs src) (q : dComp t tt te src vs δ k xs [] M1)
    (fin : ∀ p I' M' H' accV acc, F p = none → Same I1 I' → HR K I' M' (upd F p (.lst accV)) H' → Reps K I' accV acc → k acc M' → Qd p H') (D : Addr) (hD : H1 D = none) :
    ∃ Wv : Nat → Nat → Hp → Prop, (∃ m, Wv 0 m (upd H1 D (.lst []))) ∧ ∀ i m H, Wv i m H →
      (J.stop i H ∧ Qd D H) ∨ (J.go i H ∧ ∃ Nx : Hp → Prop, (∀ H', Nx H' → ∃ m', m' < m ∧ Wv (i + 1) m' H') ∧ ∀ x H', J.yld i H x H' → t.v K x (wipe σ vs) H' fun σ2 H2 => wipe σ2 vs = wipe σ vs ∧ lT K W0 tt σ2 H2 fun b H3 =>
        if b = true then lE K W0 te σ2 H3 fun y H4 => ∃ acc, H4 D = some (.lst acc) ∧ acc.length < sizeLine ∧ Nx (upd H4 D (.lst (acc ++ [y]))) else Nx H3) := by
  have hF := (hr1.fresh hD).2.2
  refine ⟨fun i m H => m = xs.length - i ∧ i ≤ xs.length ∧ ∃ I' M' accV acc, Same I1 I' ∧ HR K I' M' (upd F D (.lst accV)) H ∧ Reps K I' accV acc ∧ acc.length ≤ i ∧ dComp t tt te src vs δ k (xs.drop i) acc M',
    ⟨xs.length, by simp, Nat.zero_le _, I1, M1, [], [], Same.refl I1, hr1.newF hD _, .nil, Nat.le_refl _, q⟩, ?_⟩
  rintro i m H ⟨rfl, hi, I', M', accV, acc, s', hr', ra, la, q'⟩
  by_cases hlt : i < xs.length
  · right
    rw [List.drop_eq_getElem_cons hlt] at q'
    obtain ⟨ho, q'⟩ := Src.ok_iff q'
    refine ⟨wk.goes i I' M' _ H hlt s' hr' ho, fun H2 => ∃ I2 M2 aV a, Same I1 I2 ∧ HR K I2 M2 (upd F D (.lst aV)) H2 ∧ Reps K I2 aV a ∧ a.length ≤ i + 1 ∧ dComp t tt te src vs δ k (xs.drop (i + 1)) a M2, fun H2 z => ⟨xs.length - (i + 1), by omega, rfl, hlt, z⟩, fun x H2 y => ?_⟩
    obtain ⟨I2, d, s2, hr2, e, r⟩ := wk.yields i x I' M' _ H H2 hlt s' hr' ho y
    rw [List.getElem?_eq_getElem hlt] at e
    cases e
    have s12 := s'.trans s2
    refine TgI.run hin hr2 r (rs.mono s12) q' fun σ2 δ2 rs2 ew q2 => ⟨ew, I2, M', upd F D (.lst accV), δ2, _, _, hr2, rs2, q2, fun b M3 I3 H3 q3 s3 hr3 => ?_, fun _ _ _ _ _ _ z => z.elim⟩
    cases b with
    | false => exact (if_neg Bool.false_ne_true).mpr ⟨I3, M3, accV, acc, s12.trans s3, hr3, (ra.mono s2).mono s3, Nat.le_succ_of_le la, q3⟩
    | true =>
      refine (if_pos rfl).mpr ⟨I3, M3, upd F D (.lst accV), δ2, _, _, hr3, rs2.mono s3, q3, fun y4 M4 I4 H4 v4 q4 s4 hr4 r4 => ?_, fun _ _ _ _ _ _ z => z.elim⟩
      have ra4 := ((ra.mono s2).mono s3).mono s4
      refine ⟨accV, hr4.atF.1, by rw [ra4.len]; omega, I4, M4, accV ++ [v4], acc ++ [y4], (s12.trans s3).trans s4, hr4.reF (fun _ z => nomatch z) _, ra4.snoc r4, by rw [List.length_append]; simpa using la, q4⟩
  · left
    have e : i = xs.length := by omega
    subst e
    rw [List.drop_length] at q'
    obtain ⟨ho, q'⟩ := Src.ok_iff q'
    exact ⟨wk.stops I' M' _ H s' hr' ho, fin D I' M' H accV acc hF s' hr' ra q'.2⟩
variable {elt tg iter : Expr} {ifs : List Expr} {scope : Scope} {own : List (Str × Nat)} {pos : Pos} {di : DTI} {t : TgI} {tt : DTT} {te : DTE}
theorem good_blk (g : Good X W) (s : Shared) (H : Hp) (sc : Scope) (ev : Env) (fp : List Addr) : Good (X.blk s H sc ev fp) W0 := ⟨g.calm, takes0, PassesOwn.never, g.ng⟩
def DTs (X : Cx) (ifs : List Expr) (tt : DTT) : Prop := PTs X ifs (lT X.K W0 tt)
theorem ts_nil : DTs X [] dYes := ⟨fun pins s σ H Q I h => pts_nil.run pins s σ H Q I (by
  obtain ⟨I, M, F, δ, Qd, Ed, hr, rs, q, fq, fx⟩ := h
  exact fq true M I H q (Same.refl I) hr)⟩
theorem ts_one {c : Expr} (h : DT X W0 c tt) : DTs X [c] tt := pts_one h
theorem d_lc (N : List Str) (sc : Scope) (own : List (Str × Nat)) (g : Good X W) (hN : X.N.Nodup) (hi : DI X W tg iter di) (ok : blkC N sc scope own = true) (hin : t.in (own.map (·.2)) = true)
    (hg : ∀ (s : Shared) (H : Hp) (C : Addr) (cl : List (Str × Addr)) (fp : List Addr), Good (X.blk s H scope (compEnvC scope cl C X.env) fp) W0 → PG (X.blk s H scope (compEnvC scope cl C X.env) fp) tg (t.v X.K))
    (ht : ∀ (s : Shared) (H : Hp) (C : Addr) (cl : List (Str × Addr)) (fp : List Addr), Good (X.blk s H scope (compEnvC scope cl C X.env) fp) W0 → DTs (X.blk s H scope (compEnvC scope cl C X.env) fp) ifs tt)
    (he : ∀ (s : Shared) (H : Hp) (C : Addr) (cl : List (Str × Addr)) (fp : List Addr), Good (X.blk s H scope (compEnvC scope cl C X.env) fp) W0 → DE (X.blk s H scope (compEnvC scope cl C X.env) fp) W0 elt te) (hs : ∀ x, foldedSetIterable iter X.env x = pure x := by intro _; rfl) (eN : X.N = N := by rfl) (es : X.env.scope = sc := by rfl) :
    DE X W (.ListComp elt [⟨tg, iter, ifs, 0⟩] scope pos) (dLc di t tt te (own.map (·.2))) := by
  refine pe_imp (pe_lc (own := own) (g := t.v X.K) (tt := lT X.K W0 tt) (te := lE X.K W0 te) g.calm hN hi (by rw [eN, es]; exact blkOk_by ok) (fun s H C cl fp => hg s H C cl fp (good_blk g ..)) (fun s H C cl fp => ht s H C cl fp (good_blk g ..)) (fun s H C cl fp => he s H C cl fp (good_blk g ..)) hs) fun σ H Q h => ?_
  obtain ⟨I, M, F, δ, Qd, Ed, hr, rs, q, fq, fx⟩ := h
  refine ⟨I, M, F, δ, _, Ed, hr, rs, q, fun xs src M1 I1 H1 J q1 ho s1 hr1 wk D hD => ?_, fx⟩
  refine lc_lift hin q1.1 hr1 (rs.mono s1) wk q1.2 (Qd := fun p H' => Q (.ref p) H') (fun p I' M' H' aV a hF s' hr' ra q' => ?_) D hD
  obtain ⟨z1, z2⟩ := hr'.frzF hF
  exact fq _ M' _ H' _ q' ((s1.trans s').trans z1) z2 (.lst upd_same (ra.mono z1))
theorem s_setLc (i : Nat) (N : List Str) (sc : Scope) (own : List (Str × Nat)) {y : Str} {py spos : Pos} (g : Good X W) (hN : X.N.Nodup) (hi : DI X W tg iter di) (ok : blkC N sc scope own = true) (hin : t.in (own.map (·.2)) = true)
    (hg : ∀ (s : Shared) (H : Hp) (C : Addr) (cl : List (Str × Addr)) (fp : List Addr), Good (X.blk s H scope (compEnvC scope cl C X.env) fp) W0 → PG (X.blk s H scope (compEnvC scope cl C X.env) fp) tg (t.v X.K))
    (ht : ∀ (s : Shared) (H : Hp) (C : Addr) (cl : List (Str × Addr)) (fp : List Addr), Good (X.blk s H scope (compEnvC scope cl C X.env) fp) W0 → DTs (X.blk s H scope (compEnvC scope cl C X.env) fp) ifs tt)
    (he : ∀ (s : Shared) (H : Hp) (C : Addr) (cl : List (Str × Addr)) (fp : List Addr), Good (X.blk s H scope (compEnvC scope cl C X.env) fp) W0 → DE (X.blk s H scope (compEnvC scope cl C X.env) fp) W0 elt te)
    (hsw : swapsWith (.ListComp elt [⟨tg, iter, ifs, 0⟩] scope pos) (some (.Name y py)) spos.line X.env = pure true) (hy : X.N[i]? = some y := by rfl) (hyl : X.env.scope.names.lookup y = some .local := by rfl) (hs : ∀ x, foldedSetIterable iter X.env x = pure x := by intro _; rfl) (eN : X.N = N := by rfl) (es : X.env.scope = sc := by rfl) :
    DSt X W (.Assign [.Name y py] (.ListComp elt [⟨tg, iter, ifs, 0⟩] scope pos) spos) (dAsg (dLc di t tt te (own.map (·.2))) (gdName i)) := by
  refine ps_imp (ps_setLc (i := i) (own := own) (g := t.v X.K) (tt := lT X.K W0 tt) (te := lE X.K W0 te) g.calm hN hy hyl hsw hi (by rw [eN, es]; exact blkOk_by ok) (fun s H C cl fp => hg s H C cl fp (good_blk g ..)) (fun s H C cl fp => ht s H C cl fp (good_blk g ..)) (fun s H C cl fp => he s H C cl fp (good_blk g ..)) hs) fun Dn σ H h => ?_
  obtain ⟨I, M, F, δ, Dd, hr, rs, q, f⟩ := h
  refine ⟨I, M, F, δ, _, _, hr, rs, q, fun xs src M1 I1 H1 J q1 ho s1 hr1 wk D hD => ?_, f.x rs⟩
  refine lc_lift hin q1.1 hr1 (rs.mono s1) wk q1.2 (Qd := fun p H' => Dn.nx (σ.set i (some (.ref p))) H') (fun p I' M' H' aV a hF s' hr' ra q' => ?_) D hD
  obtain ⟨z1, z2⟩ := hr'.frzF hF
  have sA := (s1.trans s').trans z1
  exact f.nx _ M' _ H' _ q' sA z2 ((rs.mono sA).set i (.lst upd_same (ra.mono z1)))
theorem s_setLcM (i : Nat) (N : List Str) (sc : Scope) (own : List (Str × Nat)) {y : Str} {py spos : Pos} (g : Good X W) (hN : X.N.Nodup) (hi : DI X W tg iter di) (ok : blkC N sc scope own = true) (hin : t.in (own.map (·.2)) = true)
    (hg : ∀ (s : Shared) (H : Hp) (C : Addr) (cl : List (Str × Addr)) (fp : List Addr), Good (X.blk s H scope (compEnvC scope cl C X.env) fp) W0 → PG (X.blk s H scope (compEnvC scope cl C X.env) fp) tg (t.v X.K))
    (ht : ∀ (s : Shared) (H : Hp) (C : Addr) (cl : List (Str × Addr)) (fp : List Addr), Good (X.blk s H scope (compEnvC scope cl C X.env) fp) W0 → DTs (X.blk s H scope (compEnvC scope cl C X.env) fp) ifs tt)
    (he : ∀ (s : Shared) (H : Hp) (C : Addr) (cl : List (Str × Addr)) (fp : List Addr), Good (X.blk s H scope (compEnvC scope cl C X.env) fp) W0 → DE (X.blk s H scope (compEnvC scope cl C X.env) fp) W0 elt te)
    (hsw : swapsWith (.ListComp elt [⟨tg, iter, ifs, 0⟩] scope pos) (some (.Name y py)) spos.line X.env = pure true) (hy : X.N[i]? = some y := by rfl) (hyl : X.env.scope.names.lookup y = some .local := by rfl) (hs : ∀ x, foldedSetIterable iter X.env x = pure x := by intro _; rfl) (eN : X.N = N := by rfl) (es : X.env.scope = sc := by rfl) :
    DSt X W (.Assign [.Name y py] (.ListComp elt [⟨tg, iter, ifs, 0⟩] scope pos) spos) (dAsg (dLcM di t tt te (own.map (·.2))) (gdName i)) := by
  refine ps_imp (ps_setLc (i := i) (own := own) (g := t.v X.K) (tt := lT X.K W0 tt) (te := lE X.K W0 te) g.calm hN hy hyl hsw hi (by rw [eN, es]; exact blkOk_by ok) (fun s H C cl fp => hg s H C cl fp (good_blk g ..)) (fun s H C cl fp => ht s H C cl fp (good_blk g ..)) (fun s H C cl fp => he s H C cl fp (good_blk g ..)) hs) fun Dn σ H h => ?_
  obtain ⟨I, M, F, δ, Dd, hr, rs, q, f⟩ := h
  refine ⟨I, M, F, δ, _, _, hr, rs, q, fun xs src M1 I1 H1 J q1 ho s1 hr1 wk D hD => ?_, f.x rs⟩
  refine lc_lift hin q1.1 hr1 (rs.mono s1) wk q1.2 (Qd := fun p H' => Dn.nx (σ.set i (some (.ref p))) H') (fun p I' M' H' aV a hF s' hr' ra q' => ?_) D hD
  exact f.nx _ _ _ H' _ (q' p hr'.atF.2.2) (s1.trans s') (hr'.mutF hF (m := .lst a) ⟨aV, rfl, ra⟩) ((rs.mono (s1.trans s')).set i (.ref p))
end
def asL (M : Mp) (d : D) (k : List D → Src → Prop) : Prop := match d with
  | .lst xs => k xs .data
  | .sq xs => k xs .data
  | .ref a => ∃ xs, M a = some (.lst xs) ∧ k xs (.at a xs)
  | _ => False
def iL (te : DTE) : DTI := fun δ M R E => te δ M (fun d M1 => asL M1 d fun xs src => R xs src M1) E
section
variable {X : Cx} {W : WX} {tg e : Expr} {te : DTE} {ta : DTA} {pos p : Pos}
theorem Reps.get {K : PySem.W.Frag} {I : Hp} {vs : List V} {ds : List D} (r : Reps K I vs ds) {i : Nat} {v : V} (h : vs[i]? = some v) : ∃ d, ds[i]? = some d ∧ Rep K I v d := by
  have hl : i < ds.length := by rw [← r.len]; exact (List.getElem?_eq_some_iff.mp h).1
  obtain ⟨v', a, b⟩ := reps_get r i ds[i] (List.getElem?_eq_getElem hl)
  rw [h] at a
  cases a
  exact ⟨_, List.getElem?_eq_getElem hl, b⟩
theorem dwalk_list {K : PySem.W.Frag} {I : Hp} {a : Addr} {vs : List V} {ds : List D} {src : Src} (r : Reps K I vs ds) (h : ∀ I' M' F H, Same I I' → HR K I' M' F H → src.holds M' → ∃ vs', SqL K H a vs' ∧ Reps K I' vs' ds) : DWalk K I (Itl K a) ds src := by
  refine ⟨fun i I' M' F H hi s hr ho => ?_, fun I' M' F H s hr ho => ?_, fun i x I' M' F H H' hi s hr ho y => ?_⟩
  · obtain ⟨vs', q, r'⟩ := h I' M' F H s hr ho
    have hi' : i < vs'.length := by rw [r'.len]; exact hi
    exact walk_list.goes i H hi' q
  · obtain ⟨vs', q, r'⟩ := h I' M' F H s hr ho
    rw [← r'.len]
    exact walk_list.stops H q
  · obtain ⟨vs', q, r'⟩ := h I' M' F H s hr ho
    have hi' : i < vs'.length := by rw [r'.len]; exact hi
    obtain ⟨e1, e2⟩ := walk_list.yields i H x H' hi' q y
    subst e1
    obtain ⟨d, e3, e4⟩ := r'.get e2
    exact ⟨I', d, Same.refl I', hr, e3, e4⟩
theorem i_list (h : DE X W e te) : DI X W tg e (iL te) := pi_imp (pi_list h) fun σ H R q => by
  obtain ⟨I, M, F, δ, Rd, Ed, hr, rs, q, fq, fx⟩ := q
  refine ⟨I, M, F, δ, _, Ed, hr, rs, q, fun d M1 I1 H1 v q1 s1 hr1 r1 => ?_, fx⟩
  cases r1 with
  | @lst a vs ds s rr => exact ⟨a, rfl, ⟨vs, SqL.of (hr1.imm _ _ s)⟩, fq ds .data M1 I1 H1 _ q1 trivial s1 hr1 (dwalk_list rr fun I' M' F' H' s' hr' _ => ⟨vs, SqL.of (hr'.imm _ _ (s' _ _ s)), rr.mono s'⟩)⟩
  | @sq a vs ds s rr => exact ⟨a, rfl, ⟨vs, hr1.sq s⟩, fq ds .data M1 I1 H1 _ q1 trivial s1 hr1 (dwalk_list rr fun I' M' F' H' s' hr' _ => ⟨vs, hr'.sq (sq_mono s' s), rr.mono s'⟩)⟩
  | ref a =>
    obtain ⟨ds, e1, q1⟩ := q1
    obtain ⟨vs, e2, rr⟩ := hr1.lst e1
    exact ⟨a, rfl, ⟨vs, SqL.of e2⟩, fq ds (.at a ds) M1 I1 H1 _ q1 e1 s1 hr1 (dwalk_list rr fun I' M' F' H' s' hr' ho => by
      obtain ⟨vs', e3, r3⟩ := hr'.lst ho
      exact ⟨vs', SqL.of e3, r3⟩)⟩
  | _ => exact q1.elim
def rngD (lo : Int) (n : Nat) : List D := (List.range n).map fun i => D.int (lo + (i : Nat))
theorem dwalk_range {K : PySem.W.Frag} {I : Hp} {lo : Int} {n : Nat} : DWalk K I (Itr lo n) (rngD lo n) .data := by
  have hl : (rngD lo n).length = n := by simp [rngD]
  refine ⟨fun i I' M' F H hi _ _ _ => walk_range.goes i H (hl ▸ hi) trivial, fun I' M' F H _ _ _ => by rw [hl]; exact walk_range.stops H trivial, fun i x I' M' F H H' hi s hr _ y => ?_⟩
  obtain ⟨e1, e2⟩ := walk_range.yields i H x H' (hl ▸ hi) trivial y
  subst e1
  subst e2
  refine ⟨I', .int (lo + (i : Nat)), Same.refl I', hr, ?_, .int _⟩
  rw [hl] at hi
  simp [rngD, hi]
def iR1 (ta : DTA) : DTI := fun δ M R E => ta δ M (fun ds M1 => match ds with
  | [.int j] => (-(2 ^ 62) ≤ j ∧ j < 2 ^ 62) ∧ R (rngD 0 j.toNat) .data M1
  | _ => False) E
theorem i_range1 {a : Expr} (hm : X.mg "range" = none) (ha : DA X W [a] ta) (hg : Gl X "range" := by rfl) (hs : starEach [a] X.env = [(false, eval a X.env)] := by rfl) : DI X W tg (.Call (.Name "range" p) [a] [] pos) (iR1 ta) := pi_imp (pi_range1 hg hm ha hs) fun σ H R q => by
  obtain ⟨I, M, F, δ, Rd, Ed, hr, rs, q, fq, fx⟩ := q
  refine ⟨I, M, F, δ, _, Ed, hr, rs, q, fun ds M1 I1 H1 vs q1 s1 hr1 r1 => ?_, fx⟩
  dsimp only at q1
  split at q1
  · cases r1 with
    | cons r rr =>
      cases rr
      cases r
      exact ⟨_, rfl, q1.1.1, q1.1.2, fq _ .data M1 I1 H1 _ q1.2 trivial s1 hr1 dwalk_range⟩
  · exact q1.elim
def sgn (z : Str) : List D := z.cps.toList.map fun c => D.str ⟨#[c]⟩
def iS (te : DTE) : DTI := fun δ M R E => te δ M (fun d M1 => match d with | .str z => R (sgn z) .data M1 | _ => False) E
theorem i_str (h : DE X W e te) : DI X W tg e (iS te) := pi_imp (pi_str h) fun σ H R q => by
  obtain ⟨I, M, F, δ, Rd, Ed, hr, rs, q, fq, fx⟩ := q
  refine ⟨I, M, F, δ, _, Ed, hr, rs, q, fun d M1 I1 H1 v q1 s1 hr1 r1 => ?_, fx⟩
  cases r1 with
  | str z =>
    have hl : (sgn z).length = z.cps.size := by simp [sgn]
    refine ⟨z, rfl, fq _ .data M1 I1 H1 _ q1 trivial s1 hr1 ⟨fun i I' M' F H hi _ _ _ => walk_str.goes i H (hl ▸ hi) trivial, fun I' M' F H _ _ _ => by rw [hl]; exact walk_str.stops H trivial, fun i x I' M' F H H' hi s hr _ y => ?_⟩⟩
    obtain ⟨e1, c, e2, e3⟩ := walk_str.yields i H x H' (hl ▸ hi) trivial y
    subst e1
    subst e3
    refine ⟨I', .str ⟨#[c]⟩, Same.refl I', hr, ?_, .str _⟩
    simp [sgn, e2]
  | _ => exact q1.elim
end
end DL
set_option Elab.async false
set_option linter.all false
set_option maxRecDepth 100000
set_option maxHeartbeats 2000000
namespace DL
open PySem PySem.Spec PyProof.Rows L2
def i2 (x y : D) (k : Int → Int → Prop) : Prop := match x, y with | .int i, .int j => k i j | _, _ => False
theorem i2_out {K : PySem.W.Frag} {I : Hp} {v w : V} {x y : D} {k : Int → Int → Prop} (rx : Rep K I v x) (ry : Rep K I w y) (h : i2 x y k) : ∃ i j, v = .int i ∧ w = .int j ∧ k i j := by
  cases rx <;> first | exact h.elim | (cases ry <;> first | exact h.elim | exact ⟨_, _, rfl, rfl, h⟩)
def dI (C : Int → Int → Prop) (g : Int → Int → D) : DR2 := fun x y M Q => i2 x y fun i j => C i j ∧ Q (g i j) M
def dI0 (g : Int → Int → D) : DR2 := fun x y M Q => i2 x y fun i j => Q (g i j) M
theorem lr_I {K : PySem.W.Frag} {C : Int → Int → Prop} {g : Int → Int → V} {g' : Int → Int → D} (h : ∀ I i j, Rep K I (g i j) (g' i j)) : LR K (rI C g) (dI C g') := fun I M F H x y dx dy Qd Q hr rx ry q fq => by
  obtain ⟨i, j, e1, e2, c, q⟩ := i2_out rx ry q
  exact ⟨i, j, e1, e2, c, fq _ M I H _ q (Same.refl I) hr (h I i j)⟩
theorem lr_I0 {K : PySem.W.Frag} {g : Int → Int → V} {g' : Int → Int → D} (h : ∀ I i j, Rep K I (g i j) (g' i j)) : LR K (rI0 g) (dI0 g') := fun I M F H x y dx dy Qd Q hr rx ry q fq => by
  obtain ⟨i, j, e1, e2, q⟩ := i2_out rx ry q
  exact ⟨i, j, e1, e2, fq _ M I H _ q (Same.refl I) hr (h I i j)⟩
def asX (M : Mp) (d : D) (k : List D → Prop) : Prop := match d with
  | .lst xs => k xs
  | .ref a => ∃ xs, M a = some (.lst xs) ∧ k xs
  | _ => False
theorem asX_out {K : PySem.W.Frag} {I : Hp} {M : Mp} {F H : Hp} (hr : HR K I M F H) {v : V} {d : D} {k : List D → Prop} (r : Rep K I v d) (h : asX M d k) : ∃ a vs ds, v = .ref a ∧ H a = some (.lst vs) ∧ Reps K I vs ds ∧ k ds := by
  cases r with
  | lst s rr => exact ⟨_, _, _, rfl, hr.imm _ _ s, rr, h⟩
  | ref a =>
    obtain ⟨xs, e, q⟩ := h
    obtain ⟨vs, e1, r1⟩ := hr.lst e
    exact ⟨_, _, _, rfl, e1, r1, q⟩
  | _ => exact h.elim
def asR (M : Mp) (d : D) (k : List D → Prop) : Prop := match d with
  | .lst xs => k xs
  | .sq xs => k xs
  | .ref a => ∃ xs, M a = some (.lst xs) ∧ k xs
  | _ => False
theorem asR_out {K : PySem.W.Frag} {I : Hp} {M : Mp} {F H : Hp} (hr : HR K I M F H) {v : V} {d : D} {k : List D → Prop} (r : Rep K I v d) (h : asR M d k) : ∃ a vs ds, v = .ref a ∧ SqL K H a vs ∧ Reps K I vs ds ∧ k ds := by
  cases r with
  | lst s rr => exact ⟨_, _, _, rfl, SqL.of (hr.imm _ _ s), rr, h⟩
  | sq s rr => exact ⟨_, _, _, rfl, hr.sq s, rr, h⟩
  | ref a =>
    obtain ⟨xs, e, q⟩ := h
    obtain ⟨vs, e1, r1⟩ := hr.lst e
    exact ⟨_, _, _, rfl, SqL.of e1, r1, q⟩
  | _ => exact h.elim
theorem Reps.app {K : PySem.W.Frag} {I : Hp} : ∀ {vs ws : List V} {ds es : List D}, Reps K I vs ds → Reps K I ws es → Reps K I (vs ++ ws) (ds ++ es)
  | _, _, _, _, .nil, s => s
  | _, _, _, _, .cons r t, s => .cons r (Reps.app t s)
def dAdd : DR2 := fun x y M Q => match x, y with
  | .int i, .int j => Q (.int (i + j)) M
  | .str a, .str b => a.length + b.length ≤ sizeLine ∧ Q (.str (a ++ b)) M
  | x, y => asX M x fun xs => asX M y fun ys => xs.length + ys.length ≤ sizeLine ∧ Q (.lst (xs ++ ys)) M
abbrev rAdd4 (K : PySem.W.Frag) : R2 := fun x y H Q => (rI0 fun i j => .int (i + j)) x y H Q ∨ ((∃ i j, x = .str i ∧ y = .str j ∧ i.length + j.length ≤ sizeLine ∧ Q (.str (i ++ j)) H) ∨ rCat x y H Q)
theorem op_add4 {X : Cx} : OpR X (binaryOp .Add) (rAdd4 X.K) := op_add.or (op_add_str.or op_cat)
theorem lr_add {K : PySem.W.Frag} : LR K (rAdd4 K) dAdd := fun I M F H x y dx dy Qd Q hr rx ry q fq => by
  unfold dAdd at q
  split at q
  · cases rx; cases ry
    exact .inl ⟨_, _, rfl, rfl, fq _ M I H _ q (Same.refl I) hr (.int _)⟩
  · cases rx; cases ry
    exact .inr (.inl ⟨_, _, rfl, rfl, q.1, fq _ M I H _ q.2 (Same.refl I) hr (.str _)⟩)
  · obtain ⟨a, vs, ds, e1, h1, r1, q⟩ := asX_out hr rx q
    obtain ⟨b, ws, es, e2, h2, r2, q⟩ := asX_out hr ry q
    refine .inr (.inr ⟨a, b, vs, ws, e1, e2, h1, h2, by rw [r1.len, r2.len]; exact q.1, ?_⟩)
    exact fin_lst fq hr (r1.app r2) q.2
def dSub : DR2 := dI0 fun i j => .int (i - j)
def dMul : DR2 := dI CMulW fun i j => .int (i * j)
def dDiv : DR2 := dI CDivW fun i j => .int (i / j)
def dMod : DR2 := dI (fun _ j => 0 < j) fun i j => .int (i % j)
def dPow : DR2 := dI CPow fun i j => .int (i ^ j.toNat)
section
variable {X : Cx} {W : WX} {e a b c : Expr} {es : List Expr} {ta tb te tc : DTE} {tr : DTA} {pos p : Pos}
theorem d_sub (ha : DE X W a ta) (hb : DE X W b tb) : DE X W (.BinOp a .Sub b pos) (dOp dSub ta tb) := d_op op_sub (lr_I0 fun _ _ _ => .int _) ha hb
theorem d_mul (ha : DE X W a ta) (hb : DE X W b tb) : DE X W (.BinOp a .Mult b pos) (dOp dMul ta tb) := d_op op_mulW (lr_I fun _ _ _ => .int _) ha hb
theorem d_div (ha : DE X W a ta) (hb : DE X W b tb) : DE X W (.BinOp a .FloorDiv b pos) (dOp dDiv ta tb) := d_op op_fdivW (lr_I fun _ _ _ => .int _) ha hb
theorem d_mod (ha : DE X W a ta) (hb : DE X W b tb) : DE X W (.BinOp a .Mod b pos) (dOp dMod ta tb) := d_op op_mod (lr_I fun _ _ _ => .int _) ha hb
theorem d_pow (ha : DE X W a ta) (hb : DE X W b tb) : DE X W (.BinOp a .Pow b pos) (dOp dPow ta tb) := d_op op_pow (lr_I fun _ _ _ => .int _) ha hb
def dNeg (ta : DTE) : DTE := fun δ M Q E => ta δ M (fun x M1 => match x with | .int i => Q (.int (-i)) M1 | _ => False) E
theorem d_neg (ha : DE X W a ta) : DE X W (.UnaryOp .USub a pos) (dNeg ta) := pe_imp (pe_un un_neg ha) fun σ H Q h => by
  obtain ⟨I, M, F, δ, Qd, Ed, hr, rs, q, fq, fx⟩ := h
  refine ⟨I, M, F, δ, _, Ed, hr, rs, q, fun d M1 I1 H1 v q1 s1 hr1 r1 => ?_, fx⟩
  cases r1 with
  | int i => exact ⟨i, rfl, fq _ M1 I1 H1 _ q1 s1 hr1 (.int _)⟩
  | _ => exact q1.elim
def dLt : DR2 := dI0 fun i j => .bl (decide (i < j))
def dLe : DR2 := dI0 fun i j => .bl (decide (i ≤ j))
def dGt : DR2 := dI0 fun i j => .bl (decide (j < i))
theorem lr_lt {K : PySem.W.Frag} : LR K (rI0 fun i j => .bl (decide (i < j))) dLt := lr_I0 fun _ _ _ => .bl _
theorem lr_le {K : PySem.W.Frag} : LR K (rI0 fun i j => .bl (decide (i ≤ j))) dLe := lr_I0 fun _ _ _ => .bl _
theorem lr_gt {K : PySem.W.Frag} : LR K (rI0 fun i j => .bl (decide (j < i))) dGt := lr_I0 fun _ _ _ => .bl _
inductive PyOf (M : Mp) : D → PyData → Prop
  | non : PyOf M .non .none
  | bl (b : Bool) : PyOf M (.bl b) (.bool b)
  | int (i : Int) : PyOf M (.int i) (.int i)
  | str (x : Str) : PyOf M (.str x) (.str x)
  | lst {ds : List D} {ps : List PyData} : Paired (PyOf M) ds ps → PyOf M (.lst ds) (.list ps)
  | sq {ds : List D} {ps : List PyData} : Paired (PyOf M) ds ps → PyOf M (.sq ds) (.list ps)
  | tup {ds : List D} {ps : List PyData} : Paired (PyOf M) ds ps → PyOf M (.tup ds) (.tuple ps)
  | ref {a : Addr} {ds : List D} {ps : List PyData} : M a = some (.lst ds) → Paired (PyOf M) ds ps → PyOf M (.ref a) (.list ps)
theorem dp_of {K : PySem.W.Frag} {I : Hp} {M : Mp} {F H : Hp} (hr : HR K I M F H) : ∀ (p : PyData) {v : V} {d : D}, Rep K I v d → PyOf M d p → Dp K H v p := by
  intro p
  refine PyData.rec (motive_1 := fun p => ∀ {v : V} {d : D}, Rep K I v d → PyOf M d p → Dp K H v p) (motive_2 := fun ps => ∀ {vs : List V} {ds : List D}, Reps K I vs ds → Paired (PyOf M) ds ps → DpAll K H vs ps) (motive_3 := fun _ => True) (motive_4 := fun _ => True) ?_ ?_ ?_ ?_ ?_ ?_ ?_ ?_ ?_ ?_ ?_ ?_ p
  · intro v d r h; cases h; cases r; exact .non
  · intro b v d r h; cases h; cases r; exact .bl b
  · intro i v d r h; cases h; cases r; exact .int i
  · intro x v d r h; cases h; cases r; exact .str x
  · intro ps ih v d r h
    cases h with
    | lst z => cases r with | lst s rr => exact .lst (SqL.of (hr.imm _ _ s)) (ih rr z)
    | sq z => cases r with | sq s rr => exact .lst (hr.sq s) (ih rr z)
    | ref e z =>
      cases r
      obtain ⟨vs, e1, rr⟩ := hr.lst e
      exact .lst (SqL.of e1) (ih rr z)
  · intro ps ih v d r h
    cases h with
    | tup z => cases r with | tup s rr => exact .tup (hr.st s) (ih rr z)
  · intro kvs _ v d r h; cases h
  · intro vs ds r z; cases z; cases r; exact .nil
  · intro p ps ih1 ih2 vs ds r z
    cases z with
    | cons a b => cases r with | cons r1 r2 => exact .cons (ih1 r1 a) (ih2 r2 b)
  all_goals intros; trivial
def deq (M : Mp) (x y : D) (k : Bool → Prop) : Prop := match x, y with
  | .int i, .int j => k (decide (i = j))
  | .str i, .str j => k (decide (i = j))
  | .bl i, .bl j => k (decide (i = j))
  | .non, .non => k true
  | x, y => ∃ p q, PyOf M x p ∧ PyOf M y q ∧ SeqAt.shaped p = true ∧ SeqAt.shaped q = true ∧ k (PyData.eqv p q)
def dEq : DR2 := fun x y M Q => deq M x y fun b => Q (.bl b) M
def dNe : DR2 := fun x y M Q => deq M x y fun b => Q (.bl (!b)) M
theorem deq_out {K : PySem.W.Frag} {I : Hp} {M : Mp} {F H : Hp} (hr : HR K I M F H) {v w : V} {x y : D} {k : Bool → Prop} (rx : Rep K I v x) (ry : Rep K I w y) (h : deq M x y k) : (scal v w = true ∧ k (decide (v = w))) ∨ ∃ d e, Dp K H v d ∧ Dp K H w e ∧ SeqAt.shaped d = true ∧ SeqAt.shaped e = true ∧ k (PyData.eqv d e) := by
  unfold deq at h
  split at h
  · cases rx; cases ry; exact .inl ⟨rfl, by rw [dec_int]; rw [← Bool.beq_eq_decide_eq] at h; exact h⟩
  · cases rx; cases ry; exact .inl ⟨rfl, by rw [dec_str]; rw [← Bool.beq_eq_decide_eq] at h; exact h⟩
  · cases rx; cases ry; exact .inl ⟨rfl, by rw [dec_bl]; rw [← Bool.beq_eq_decide_eq] at h; exact h⟩
  · cases rx; cases ry; exact .inl ⟨rfl, by rw [decide_eq_true rfl]; exact h⟩
  · obtain ⟨p, q, h1, h2, h3, h4, h5⟩ := h
    exact .inr ⟨p, q, dp_of hr p rx h1, dp_of hr q ry h2, h3, h4, h5⟩
abbrev rEq2 (K : PySem.W.Frag) : R2 := fun x y H Q => rEq x y H Q ∨ rEqD K x y H Q
abbrev rNe2 (K : PySem.W.Frag) : R2 := fun x y H Q => rNe x y H Q ∨ rNeD K x y H Q
theorem op_eq2 {k : Nat} (rm : Room k X.A) : OpR X (compareOp .Eq) (rEq2 X.K) := op_eq.or (op_eqD rm.units)
theorem op_ne2 {k : Nat} (rm : Room k X.A) : OpR X (compareOp .NotEq) (rNe2 X.K) := op_ne.or (op_neD rm.units)
theorem lr_eq {K : PySem.W.Frag} : LR K (rEq2 K) dEq := fun I M F H x y dx dy Qd Q hr rx ry q fq => by
  rcases deq_out hr rx ry q with ⟨h1, h2⟩ | ⟨d, e, h1, h2, h3, h4, h5⟩
  · exact .inl ⟨h1, fq _ M I H _ h2 (Same.refl I) hr (.bl _)⟩
  · exact .inr ⟨d, e, h1, h2, h3, h4, fq _ M I H _ h5 (Same.refl I) hr (.bl _)⟩
theorem lr_ne {K : PySem.W.Frag} : LR K (rNe2 K) dNe := fun I M F H x y dx dy Qd Q hr rx ry q fq => by
  rcases deq_out hr rx ry q with ⟨h1, h2⟩ | ⟨d, e, h1, h2, h3, h4, h5⟩
  · exact .inl ⟨h1, fq _ M I H _ h2 (Same.refl I) hr (.bl _)⟩
  · exact .inr ⟨d, e, h1, h2, h3, h4, fq _ M I H _ h5 (Same.refl I) hr (.bl _)⟩
def dInS : DR2 := fun x y M Q => match x, y with | .str u, .str z => ∃ c, u = ⟨#[c]⟩ ∧ Q (.bl (decide (c ∈ z.cps.toList))) M | _, _ => False
def dNotInS : DR2 := fun x y M Q => match x, y with | .str u, .str z => ∃ c, u = ⟨#[c]⟩ ∧ Q (.bl (!decide (c ∈ z.cps.toList))) M | _, _ => False
theorem lr_inS {K : PySem.W.Frag} : LR K (fun x y H Q => ∃ (c : Nat) (z : Str), x = .str ⟨#[c]⟩ ∧ y = .str z ∧ Q (.bl (decide (c ∈ z.cps.toList))) H) dInS := fun I M F H x y dx dy Qd Q hr rx ry q fq => by
  unfold dInS at q
  split at q
  · cases rx; cases ry
    obtain ⟨c, e, q⟩ := q
    exact ⟨c, _, by rw [e], rfl, fq _ M I H _ q (Same.refl I) hr (.bl _)⟩
  · exact q.elim
theorem lr_notInS {K : PySem.W.Frag} : LR K (fun x y H Q => ∃ (c : Nat) (z : Str), x = .str ⟨#[c]⟩ ∧ y = .str z ∧ Q (.bl (!decide (c ∈ z.cps.toList))) H) dNotInS := fun I M F H x y dx dy Qd Q hr rx ry q fq => by
  unfold dNotInS at q
  split at q
  · cases rx; cases ry
    obtain ⟨c, e, q⟩ := q
    exact ⟨c, _, by rw [e], rfl, fq _ M I H _ q (Same.refl I) hr (.bl _)⟩
  · exact q.elim
def dIx : DR2 := fun x y M Q => match y with
  | .int i => match x with
    | .lst xs => ∃ d, atI xs i = some d ∧ Q d M
    | .sq xs => ∃ d, atI xs i = some d ∧ Q d M
    | .tup xs => ∃ d, atI xs i = some d ∧ Q d M
    | .str z => z.length ≤ sizeLine ∧ ∃ c, atI z.cps.toList i = some c ∧ Q (.str ⟨#[c]⟩) M
    | .ref a => ∃ xs, M a = some (.lst xs) ∧ ∃ d, atI xs i = some d ∧ Q d M
    | _ => False
  | _ => False
theorem atI_reps {K : PySem.W.Frag} {I : Hp} {vs : List V} {ds : List D} (r : Reps K I vs ds) {i : Int} {d : D} (h : atI ds i = some d) : ∃ v, atI vs i = some v ∧ Rep K I v d := by
  unfold atI at h ⊢
  rw [r.len]
  cases e : ixN ds.length i with
  | none => rw [e] at h; cases h
  | some j =>
    rw [e] at h
    exact reps_get r j d h
theorem lr_ix {K : PySem.W.Frag} : LR K (rIx K) dIx := fun I M F H x y dx dy Qd Q hr rx ry q fq => by
  unfold dIx at q
  split at q
  · cases ry
    split at q
    · obtain ⟨d, e, q⟩ := q
      cases rx with
      | lst s rr => obtain ⟨v, e1, r1⟩ := atI_reps rr e; exact .inl ⟨_, _, _, v, rfl, rfl, SqL.of (hr.imm _ _ s), e1, fq _ M I H _ q (Same.refl I) hr r1⟩
    · obtain ⟨d, e, q⟩ := q
      cases rx with
      | sq s rr => obtain ⟨v, e1, r1⟩ := atI_reps rr e; exact .inl ⟨_, _, _, v, rfl, rfl, hr.sq s, e1, fq _ M I H _ q (Same.refl I) hr r1⟩
    · obtain ⟨d, e, q⟩ := q
      cases rx with
      | tup s rr => obtain ⟨v, e1, r1⟩ := atI_reps rr e; exact .inr (.inl ⟨_, _, _, v, rfl, rfl, hr.st s, e1, fq _ M I H _ q (Same.refl I) hr r1⟩)
    · obtain ⟨z, c, e, q⟩ := q
      cases rx
      exact .inr (.inr ⟨_, _, c, rfl, rfl, z, e, fq _ M I H _ q (Same.refl I) hr (.str _)⟩)
    · obtain ⟨xs, e0, d, e, q⟩ := q
      cases rx
      obtain ⟨vs, e1, rr⟩ := hr.lst e0
      obtain ⟨v, e2, r1⟩ := atI_reps rr e
      exact .inl ⟨_, _, _, v, rfl, rfl, SqL.of e1, e2, fq _ M I H _ q (Same.refl I) hr r1⟩
    · exact q.elim
  · exact q.elim
theorem d_sub_ix (ha : DE X W a ta) (hb : DE X W b tb) (hs : PlainIx b := by intro _ _; rfl) : DE X W (.Subscript a b pos) (dOp dIx ta tb) := d_ix ix_seq lr_ix ha hb hs
abbrev DTO := DS → Mp → (Option Int → Mp → Prop) → DXK → Prop
def lO (K : PySem.W.Frag) (W : WX) (t : DTO) : TO := fun σ H Q => ∃ I M F δ Qd Ed, HR K I M F H ∧ RepS K I σ δ ∧ t δ M Qd Ed ∧ (∀ o M' I' H', Qd o M' → Same I I' → HR K I' M' F H' → Q o H') ∧ FinX K I F Ed (WE W σ)
def DO (X : Cx) (W : WX) (e : Option Expr) (t : DTO) : Prop := PO X e (lO X.K W t)
def oNone : DTO := fun _ M Q _ => Q none M
def oSome (te : DTE) : DTO := fun δ M Q E => te δ M (fun d M1 => match d with | .int i => Q (some i) M1 | _ => False) E
theorem o_none : DO X W none oNone := ⟨fun pins s σ H Q I h => po_none.run pins s σ H Q I (by
  obtain ⟨I, M, F, δ, Qd, Ed, hr, rs, q, fq, fx⟩ := h
  exact fq none M I H q (Same.refl I) hr)⟩
theorem o_some (h : DE X W e te) : DO X W (some e) (oSome te) := ⟨fun pins s σ H Q I q => (po_some h).run pins s σ H Q I (by
  obtain ⟨I, M, F, δ, Qd, Ed, hr, rs, q, fq, fx⟩ := q
  refine ⟨I, M, F, δ, _, Ed, hr, rs, q, fun d M1 I1 H1 v q1 s1 hr1 r1 => ?_, fx⟩
  cases r1 with
  | int i => exact ⟨i, rfl, fq _ M1 I1 H1 q1 s1 hr1⟩
  | _ => exact q1.elim)⟩
def cutD (xs : List D) (lo hi : Option Int) : List D := (xs.drop (HT.sIx xs.length 0 lo)).take (HT.sIx xs.length xs.length hi - HT.sIx xs.length 0 lo)
theorem Reps.drop {K : PySem.W.Frag} {I : Hp} : ∀ {vs : List V} {ds : List D} (n : Nat), Reps K I vs ds → Reps K I (vs.drop n) (ds.drop n)
  | _, _, 0, r => r
  | _, _, _ + 1, .nil => .nil
  | _, _, n + 1, .cons _ t => Reps.drop n t
theorem Reps.take {K : PySem.W.Frag} {I : Hp} : ∀ {vs : List V} {ds : List D} (n : Nat), Reps K I vs ds → Reps K I (vs.take n) (ds.take n)
  | _, _, 0, _ => .nil
  | _, _, _ + 1, .nil => .nil
  | _, _, n + 1, .cons r t => .cons r (Reps.take n t)
theorem Reps.rev {K : PySem.W.Frag} {I : Hp} : ∀ {vs : List V} {ds : List D}, Reps K I vs ds → Reps K I vs.reverse ds.reverse
  | _, _, .nil => .nil
  | _, _, .cons r t => by
    rw [List.reverse_cons, List.reverse_cons]
    exact (Reps.rev t).app (.cons r .nil)
theorem Reps.cut {K : PySem.W.Frag} {I : Hp} {vs : List V} {ds : List D} (r : Reps K I vs ds) (lo hi : Option Int) : Reps K I (cutV vs lo hi) (cutD ds lo hi) := by
  unfold cutV cutD
  rw [r.len]
  exact (r.drop _).take _
def dSl3 (x : D) (lo hi : Option Int) (M : Mp) (Q : DK) : Prop := match x with
  | .str z => z.length ≤ sizeLine ∧ Q (.str (cutS z lo hi)) M
  | x => asR M x fun xs => Q (.lst (cutD xs lo hi)) M
def gdSubL (to ti : DTE) : DTG := fun d δ M Q E => to δ M (fun o M1 => ti δ M1 (fun i M2 => match o, i with
  | .ref a, .int i => ∃ xs, M2 a = some (.lst xs) ∧ ∃ j, ixN xs.length i = some j ∧ Q δ (updM M2 a (.lst (xs.set j d)))
  | _, _ => False) E) E
theorem Reps.setN {K : PySem.W.Frag} {I : Hp} {v : V} {d : D} (r : Rep K I v d) : ∀ {vs : List V} {ds : List D} (j : Nat), Reps K I vs ds → Reps K I (vs.set j v) (ds.set j d)
  | _, _, _, .nil => .nil
  | _, _, 0, .cons _ t => .cons r t
  | _, _, j + 1, .cons q t => .cons q (Reps.setN r j t)
theorem g_subL {o i : Expr} {to ti : DTE} (ho : DE X W o to) (hi : DE X W i ti)
    (hq : ∀ z, assign (.Subscript o i pos) X.env z = (do let x1 ← holding [z] (eval o X.env); let x2 ← holding [z, x1] (eval i X.env); standAt pos; holding [z, x1, x2] (setItem x1 x2 z); release [z, x1, x2] []) := by intro _; rfl) : DG X W (.Subscript o i pos) (gdSubL to ti) := pg_imp (pg_sub ho hi set_list hq) fun v σ H Q h => by
  obtain ⟨I, M, F, δ, d, Qd, Ed, hr, rs, r, q, fq, fx⟩ := h
  refine ⟨I, M, F, δ, _, Ed, hr, rs, q, fun o M1 I1 H1 vo q1 s1 hr1 r1 => ?_, fx⟩
  refine ⟨I1, M1, F, δ, _, Ed, hr1, rs.mono s1, q1, fun i M2 I2 H2 vi q2 s2 hr2 r2 => ?_, fx.mono s1⟩
  dsimp only at q2
  split at q2
  · cases r1; cases r2
    obtain ⟨xs, e1, j, e2, q⟩ := q2
    obtain ⟨vs, e3, rr⟩ := hr2.lst e1
    refine ⟨_, vs, _, j, rfl, rfl, e3, by rw [rr.len]; exact e2, ?_⟩
    have r' := (r.mono s1).mono s2
    exact fq _ _ I2 _ _ q (s1.trans s2) (hr2.write e1 (fun _ _ z => nomatch z) (o := .lst (vs.set j v)) (m := .lst (xs.set j d)) ⟨_, rfl, rr.setN r' j⟩) ((rs.mono s1).mono s2)
  · exact q2.elim
end
end DL
set_option Elab.async false
set_option linter.all false
set_option maxRecDepth 100000
set_option maxHeartbeats 2000000
namespace DL
open PySem PySem.Spec PyProof.Rows L2
abbrev DRC := List D → Mp → DK → Prop
def LC (K : PySem.W.Frag) (r' : List V → Hp → VK → Prop) (r : DRC) : Prop := ∀ I M F H vs ds Qd Q, HR K I M F H → Reps K I vs ds → r ds M Qd → Fin K I F Qd Q → r' vs H Q
def dCB (r : DRC) (ta : DTA) : DTE := fun δ M Q E => ta δ M (fun ds M1 => r ds M1 Q) E
theorem CallR.or {X : Cx} {f : Value} {r r' : List V → Hp → VK → Prop} (h : CallR X f r) (h' : CallR X f r') : CallR X f (fun xs H Q => r xs H Q ∨ r' xs H Q) := by
  intro pins s σ H xs us Q I rv z
  rcases z with z | z
  · exact h pins s σ H xs us Q I rv z
  · exact h' pins s σ H xs us Q I rv z
section
variable {X : Cx} {W : WX} {e a b c : Expr} {es : List Expr} {ta tb te tc : DTE} {tr : DTA} {pos p : Pos} {x : Str} {bid T : String} {r : DRC} {r' : List V → Hp → VK → Prop}
theorem cb_lift {K : PySem.W.Frag} (hl : LC K r' r) : ∀ σ H Q, lE K W (dCB r tr) σ H Q → tCB r' (lA K W tr) σ H Q := by
  intro σ H Q h
  obtain ⟨I, M, F, δ, Qd, Ed, hr, rs, q, fq, fx⟩ := h
  exact ⟨I, M, F, δ, _, Ed, hr, rs, q, fun ds M1 I1 H1 vs q1 s1 hr1 r1 => hl I1 M1 F H1 vs ds Qd Q hr1 r1 q1 (fq.mono s1), fx⟩
theorem d_callB (hc : CallR X (.builtin bid) r') (hl : LC X.K r' r) (hm : X.mg x = none) (hv : bootBuiltins x = some (.builtin bid)) (ha : DA X W (e :: es) tr) (hg : Gl X x := by rfl) (hn : x ≠ "__name__" := by decide) (hdb : (x == ("__debug__" : Str)) = false := by decide)
    (he : starEach (e :: es) X.env = (false, eval e X.env) :: starEach es X.env := by rfl) (hpl : (backTo pos (starEach es X.env)).any (·.1) = false := by rfl) : DE X W (.Call (.Name x p) (e :: es) [] pos) (dCB r tr) :=
  pe_imp (pe_callB hc hg hm hv ha hn hdb he hpl) (cb_lift hl)
theorem d_callTy (hc : CallR X (.type T) r') (hl : LC X.K r' r) (hm : X.mg x = none) (hv : bootBuiltins x = some (.type T)) (ha : DA X W (e :: es) tr) (hg : Gl X x := by rfl) (hn : x ≠ "__name__" := by decide) (hdb : (x == ("__debug__" : Str)) = false := by decide)
    (he : starEach (e :: es) X.env = (false, eval e X.env) :: starEach es X.env := by rfl) (hpl : (backTo pos (starEach es X.env)).any (·.1) = false := by rfl) : DE X W (.Call (.Name x p) (e :: es) [] pos) (dCB r tr) :=
  pe_imp (pe_callTy hc hg hm hv ha hn hdb he hpl) (cb_lift hl)
def dLen1 (d : D) (M : Mp) (Q : DK) : Prop := match d with
  | .str z => z.length ≤ sizeLine ∧ Q (.int (z.length : Nat)) M
  | .lst xs => Q (.int (xs.length : Nat)) M
  | .sq xs => Q (.int (xs.length : Nat)) M
  | .tup xs => Q (.int (xs.length : Nat)) M
  | .dct xs => Q (.int (xs.length : Nat)) M
  | .ref a => ∃ m, M a = some m ∧ (match m with | .lst xs => Q (.int (xs.length : Nat)) M | .dct xs => Q (.int (xs.length : Nat)) M | _ => False)
  | _ => False
def one (ds : List D) (k : D → Prop) : Prop := match ds with | [d] => k d | _ => False
def two (ds : List D) (k : D → D → Prop) : Prop := match ds with | [d, e] => k d e | _ => False
theorem one_out {K : PySem.W.Frag} {I : Hp} {vs : List V} {ds : List D} {k : D → Prop} (r : Reps K I vs ds) (h : one ds k) : ∃ v d, vs = [v] ∧ Rep K I v d ∧ k d := by
  unfold one at h
  split at h
  · cases r with | cons a b => cases b; exact ⟨_, _, rfl, a, h⟩
  · exact h.elim
theorem two_out {K : PySem.W.Frag} {I : Hp} {vs : List V} {ds : List D} {k : D → D → Prop} (r : Reps K I vs ds) (h : two ds k) : ∃ v w d e, vs = [v, w] ∧ Rep K I v d ∧ Rep K I w e ∧ k d e := by
  unfold two at h
  split at h
  · cases r with | cons a b => cases b with | cons b c => cases c; exact ⟨_, _, _, _, rfl, a, b, h⟩
  · exact h.elim
def dLen : DRC := fun ds M Q => one ds fun d => dLen1 d M Q
theorem RepK.len {K : PySem.W.Frag} {I : Hp} : ∀ {vs : List (Key × V)} {ds : List (Key × D)}, RepK K I vs ds → vs.length = ds.length
  | _, _, .nil => rfl
  | _, _, .cons _ r => congrArg (· + 1) r.len
theorem lc_len {K : PySem.W.Frag} : LC K (fun xs H Q => (∃ x n, xs = [x] ∧ LenV K x H n ∧ Q (.int n) H) ∨ ∃ d kvs, xs = [.ref d] ∧ H d = some (.dK kvs) ∧ Q (.int kvs.length) H) dLen := fun I M F H vs ds Qd Q hr rs q fq => by
  obtain ⟨v, d, rfl, r, q⟩ := one_out rs q
  have fin : ∀ n : Nat, Qd (.int n) M → Q (.int n) H := fun n z => fq _ M I H _ z (Same.refl I) hr (.int _)
  cases r with
  | str z => exact .inl ⟨_, _, rfl, ⟨q.1, rfl⟩, fin _ q.2⟩
  | lst s rr => exact .inl ⟨_, _, rfl, .inl ⟨_, SqL.of (hr.imm _ _ s), rfl⟩, by rw [rr.len]; exact fin _ q⟩
  | sq s rr => exact .inl ⟨_, _, rfl, .inl ⟨_, hr.sq s, rfl⟩, by rw [rr.len]; exact fin _ q⟩
  | tup s rr => exact .inl ⟨_, _, rfl, .inr ⟨_, hr.st s, rfl⟩, by rw [rr.len]; exact fin _ q⟩
  | dct s rr => exact .inr ⟨_, _, rfl, hr.imm _ _ s, by rw [rr.len]; exact fin _ q⟩
  | ref a =>
    obtain ⟨m, e, q⟩ := q
    cases m with
    | lst xs => obtain ⟨vs, e1, rr⟩ := hr.lst e; exact .inl ⟨_, _, rfl, .inl ⟨_, SqL.of e1, rfl⟩, by rw [rr.len]; exact fin _ q⟩
    | dct xs => obtain ⟨vs, e1, rr⟩ := hr.dct e; exact .inr ⟨_, _, rfl, e1, by rw [rr.len]; exact fin _ q⟩
    | ins C fs => exact q.elim
    | exc C fs => exact q.elim
    | xd fs => exact q.elim
    | dT fs => exact q.elim
    | dctL od us fs => exact q.elim
    | dTL od us fs => exact q.elim
  | _ => exact q.elim
theorem d_len (hm : X.mg "len" = none) (ha : DA X W [e] tr) (he : starEach [e] X.env = (false, eval e X.env) :: starEach [] X.env := by rfl) (hg : Gl X "len" := by rfl) : DE X W (.Call (.Name "len" p) [e] [] pos) (dCB dLen tr) :=
  d_callB (CallR.or call_len call_lenD) lc_len hm PySem.boot_len ha hg (he := he)
def dMax : DRC := fun ds M Q => two ds fun x y => i2 x y fun i j => Q (.int (if j > i then j else i)) M
def dMin : DRC := fun ds M Q => two ds fun x y => i2 x y fun i j => Q (.int (if j < i then j else i)) M
theorem lc_max {K : PySem.W.Frag} : LC K (fun xs H Q => ∃ i j, xs = [.int i, .int j] ∧ Q (.int (if j > i then j else i)) H) dMax := fun I M F H vs ds Qd Q hr rs q fq => by
  obtain ⟨v, w, d, e, rfl, r1, r2, q⟩ := two_out rs q
  obtain ⟨i, j, rfl, rfl, q⟩ := i2_out r1 r2 q
  exact ⟨i, j, rfl, fq _ M I H _ q (Same.refl I) hr (.int _)⟩
theorem lc_min {K : PySem.W.Frag} : LC K (fun xs H Q => ∃ i j, xs = [.int i, .int j] ∧ Q (.int (if j < i then j else i)) H) dMin := fun I M F H vs ds Qd Q hr rs q fq => by
  obtain ⟨v, w, d, e, rfl, r1, r2, q⟩ := two_out rs q
  obtain ⟨i, j, rfl, rfl, q⟩ := i2_out r1 r2 q
  exact ⟨i, j, rfl, fq _ M I H _ q (Same.refl I) hr (.int _)⟩
theorem d_max (g : Good X W) (hm : X.mg "max" = none) (ha : DA X W [a, b] tr) (he : starEach [a, b] X.env = (false, eval a X.env) :: starEach [b] X.env := by rfl) (hpl : (backTo pos (starEach [b] X.env)).any (·.1) = false := by rfl) (hg : Gl X "max" := by rfl) : DE X W (.Call (.Name "max" p) [a, b] [] pos) (dCB dMax tr) :=
  d_callB (call_max2 g.calm) lc_max hm (by decide +kernel) ha hg (he := he) (hpl := hpl)
theorem d_min (g : Good X W) (hm : X.mg "min" = none) (ha : DA X W [a, b] tr) (he : starEach [a, b] X.env = (false, eval a X.env) :: starEach [b] X.env := by rfl) (hpl : (backTo pos (starEach [b] X.env)).any (·.1) = false := by rfl) (hg : Gl X "min" := by rfl) : DE X W (.Call (.Name "min" p) [a, b] [] pos) (dCB dMin tr) :=
  d_callB (call_min2 g.calm) lc_min hm (by decide +kernel) ha hg (he := he) (hpl := hpl)
theorem reps_ints {K : PySem.W.Frag} {I : Hp} : ∀ {ns : List Int} {vs : List V}, Reps K I vs (ns.map D.int) → vs = ns.map V.int
  | [], _, .nil => rfl
  | n :: ns, _, .cons r rr => by
    cases r
    rw [reps_ints rr]
    rfl
theorem reps_bls {K : PySem.W.Frag} {I : Hp} : ∀ {ns : List Bool} {vs : List V}, Reps K I vs (ns.map D.bl) → vs = ns.map V.bl
  | [], _, .nil => rfl
  | n :: ns, _, .cons r rr => by
    cases r
    rw [reps_bls rr]
    rfl
theorem reps_strs {K : PySem.W.Frag} {I : Hp} : ∀ {ns : List Str} {vs : List V}, Reps K I vs (ns.map D.str) → vs = ns.map V.str
  | [], _, .nil => rfl
  | n :: ns, _, .cons r rr => by
    cases r
    rw [reps_strs rr]
    rfl
def dSum : DRC := fun ds M Q => one ds fun d => asR M d fun xs => ∃ ns : List Int, xs = ns.map D.int ∧ Q (.int ns.sum) M
def dAll : DRC := fun ds M Q => one ds fun d => asR M d fun xs => ∃ ns : List Bool, xs = ns.map D.bl ∧ Q (.bl (ns.all id)) M
theorem lc_sum {K : PySem.W.Frag} : LC K (rSum K) dSum := fun I M F H vs ds Qd Q hr rs q fq => by
  obtain ⟨v, d, rfl, r, q⟩ := one_out rs q
  obtain ⟨a, ws, es, rfl, s, rr, ns, rfl, q⟩ := asR_out hr r q
  cases reps_ints rr
  exact ⟨a, ns, rfl, s, fq _ M I H _ q (Same.refl I) hr (.int _)⟩
theorem lc_all {K : PySem.W.Frag} : LC K (rAll K) dAll := fun I M F H vs ds Qd Q hr rs q fq => by
  obtain ⟨v, d, rfl, r, q⟩ := one_out rs q
  obtain ⟨a, ws, es, rfl, s, rr, ns, rfl, q⟩ := asR_out hr r q
  cases reps_bls rr
  exact ⟨a, ns, rfl, s, fq _ M I H _ q (Same.refl I) hr (.bl _)⟩
theorem d_sum (g : Good X W) (hm : X.mg "sum" = none) (ha : DA X W [e] tr) (he : starEach [e] X.env = (false, eval e X.env) :: starEach [] X.env := by rfl) (hg : Gl X "sum" := by rfl) : DE X W (.Call (.Name "sum" p) [e] [] pos) (dCB dSum tr) :=
  d_callB (cr_sum g.calm) lc_sum hm (by decide +kernel) ha hg (he := he)
theorem d_all (g : Good X W) (hm : X.mg "all" = none) (ha : DA X W [e] tr) (he : starEach [e] X.env = (false, eval e X.env) :: starEach [] X.env := by rfl) (hg : Gl X "all" := by rfl) : DE X W (.Call (.Name "all" p) [e] [] pos) (dCB dAll tr) :=
  d_callB (cr_all g.calm) lc_all hm (by decide +kernel) ha hg (he := he)
inductive Ty where
  | non | bl | int | str | lst | tup | dct | own
def Ty.nm : Ty → String
  | .non => "NoneType" | .bl => "bool" | .int => "int" | .str => "str" | .lst => "list" | .tup => "tuple" | .dct => "dict" | .own => ""
def isT : Ty → Ty → Bool
  | .bl, .bl => true | .bl, .int => true | .int, .int => true | .str, .str => true | .lst, .lst => true | .tup, .tup => true | .dct, .dct => true | _, _ => false
theorem kit_all (K : PySem.W.Frag) : ∀ t u : Ty, t ≠ .own → u ≠ .non → u ≠ .own → PySem.W.kitOne K (.type t.nm) (.type u.nm) = some (isT t u) := by
  intro t u h1 h h2
  cases u <;> first | exact absurd rfl h | exact absurd rfl h2 | (cases t <;> first | exact absurd rfl h1 | exact kit_ty (by decide +kernel))
def tyD (d : D) (M : Mp) (k : Ty → Prop) : Prop := match d with
  | .non => k .non | .bl _ => k .bl | .int _ => k .int | .str _ => k .str | .lst _ => k .lst | .sq _ => k .lst | .tup _ => k .tup | .dct _ => k .dct
  | .ref a => ∃ m, M a = some m ∧ (match m with | .lst _ => k .lst | .dct _ => k .dct | .exc _ _ => k .own | _ => False)
  | _ => False
def IsExo (a C d : Addr) (o : HO) : Prop := o = exo a C (some d) ∨ ∃ t, o = exoT a C (some d) t
theorem isExo_at {P : Program} {w : World} {H : Hp} {h : Heap} {a C d : Addr} {o : HO} (hok : HOk P w H h) (e : H a = some o) (x : IsExo a C d o) : ∃ t, h.get? a = some (⟨.ref C, some d, .fields #[.ref t, .none, .none, .none, .bool false, .none], #[]⟩ : Obj) := by
  rcases x with rfl | ⟨t, rfl⟩
  · exact exo_at hok e
  · have x : ObjOk P w H h a (exoT a C (some d) t) := hok a _ e
    exact ⟨t, x.1⟩
theorem call_isiE {X : Cx} : CallR X (.builtin "isinstance") (fun xs H Q => ∃ (a C d : Addr) (vs : List (Str × V)) (n : String) (o : HO), xs = [.ref a, .ty n] ∧ ExcCls X.K C ∧ H a = some o ∧ IsExo a C d o ∧ H d = some (exd d vs) ∧ PySem.W.kitOne X.K (.ref C) (.type n) = some false ∧ Q (.bl false) H) := by
  intro pins s σ H xs us Q I r h
  obtain ⟨a, C, d, vs, n, o, rfl, c, ha, hx, hd, hk, q⟩ := h
  obtain ⟨u1, u2, rfl, r1, r2⟩ := vals2 r
  cases (show u1 = Value.ref a from r1)
  cases (show u2 = Value.type n from r2)
  obtain ⟨t1, g1⟩ := isExo_at I.hok ha hx
  obtain ⟨mA, ⟨od, es, ep, g2, _⟩, _⟩ := exd_at I.hok hd
  refine PySem.W.kia_one (PySem.W.kitx_exc (od := some od) c.cl c.ga c.gt c.sub c.ca c.sp c.tk c.mr) I.kIn ⟨g1, rfl, rfl, ?_⟩ hk (fun z => nomatch z) fun tk => ⟨.bl false, H, I.tok tk, rfl, q⟩
  exact g2
theorem tyD_out {K : PySem.W.Frag} {I : Hp} {M : Mp} {F H : Hp} (hr : HR K I M F H) {v : V} {d : D} {k : Ty → Prop} (r : Rep K I v d) (h : tyD d M k) : (∃ t : Ty, t ≠ .own ∧ TyX K H v (.type t.nm) ∧ k t) ∨ ∃ a C o d vs, v = .ref a ∧ ExcCls K C ∧ (H a = some o ∧ IsExo a C d o) ∧ H d = some (exd d vs) ∧ k .own := by
  cases r with
  | non => exact .inl ⟨.non, (fun z => nomatch z), .base .non, h⟩
  | bl b => exact .inl ⟨.bl, (fun z => nomatch z), .base (.bl b), h⟩
  | int i => exact .inl ⟨.int, (fun z => nomatch z), .base (.int i), h⟩
  | str x => exact .inl ⟨.str, (fun z => nomatch z), .base (.str x), h⟩
  | lst s rr => exact .inl ⟨.lst, (fun z => nomatch z), .base (.lst (hr.imm _ _ s)), h⟩
  | sq s rr =>
    rcases hr.sq s with (z | ⟨o, z⟩) | ⟨o, _, _, z, c, _⟩
    · exact .inl ⟨.lst, (fun z => nomatch z), .base (.lst z), h⟩
    · exact .inl ⟨.lst, (fun z => nomatch z), .base (.frz z), h⟩
    · exact .inl ⟨.lst, (fun z => nomatch z), .kList z c, h⟩
  | tup s rr =>
    rcases hr.st s with (z | ⟨o, z⟩) | ⟨o, _, _, z, c, _⟩
    · exact .inl ⟨.tup, (fun z => nomatch z), .base (.tup z), h⟩
    · exact .inl ⟨.tup, (fun z => nomatch z), .fTuple z, h⟩
    · exact .inl ⟨.tup, (fun z => nomatch z), .kTuple z c, h⟩
  | dct s rr => exact .inl ⟨.dct, (fun z => nomatch z), .base (.dK (hr.imm _ _ s)), h⟩
  | ins s rr => exact h.elim
  | ty n => exact h.elim
  | ref a =>
    obtain ⟨m, e, q⟩ := h
    cases m with
    | lst xs => obtain ⟨vs, e1, rr⟩ := hr.lst e; exact .inl ⟨.lst, (fun z => nomatch z), .base (.lst e1), q⟩
    | dct xs => obtain ⟨vs, e1, rr⟩ := hr.dct e; exact .inl ⟨.dct, (fun z => nomatch z), .base (.dK e1), q⟩
    | ins C fs => exact q.elim
    | xd fs => exact q.elim
    | dT fs => exact q.elim
    | dctL od us fs => exact q.elim
    | dTL od us fs => exact q.elim
    | exc C fs =>
      obtain ⟨_, o, e1, c, d, vs, e2, rr⟩ := hr.mu a _ e
      exact .inr ⟨a, C, o, d, vs, rfl, c, ⟨e1, rr.elim (fun z => .inl z.1) fun ⟨t, _, _, z, _⟩ => .inr ⟨t, z⟩⟩, e2, q⟩
def dIsi (u : Ty) (te : DTE) : DTE := fun δ M Q E => te δ M (fun d M1 => tyD d M1 fun t => Q (.bl (isT t u)) M1) E
theorem d_isi (u : Ty) {y : Str} {p' : Pos} (hu : u ≠ .non) (hu2 : u ≠ .own) (hm : X.mg "isinstance" = none) (hmy : X.mg y = none) (hy : bootBuiltins y = some (.type u.nm)) (he : DE X W e te) (hs : starEach [e, .Name y p'] X.env = (false, eval e X.env) :: starEach [.Name y p'] X.env := by rfl) (hgy : Gl X y := by rfl) (hny : y ≠ "__name__" := by decide) (hdy : (y == ("__debug__" : Str)) = false := by decide)
    (hs2 : starEach [.Name y p'] X.env = (false, eval (.Name y p') X.env) :: starEach [] X.env := by rfl) (hpl : (backTo pos (starEach [.Name y p'] X.env)).any (·.1) = false := by rfl) (hg : Gl X "isinstance" := by rfl) : DE X W (.Call (.Name "isinstance" p) [e, .Name y p'] [] pos) (dIsi u te) := by
  refine pe_imp (pe_callB (CallR.or call_isi call_isiE) hg hm (by decide +kernel) (pa_cons he (pa_cons (pe_bltn hgy hmy hy (v := .ty u.nm) rfl hny hdy) pa_nil hs2) hs) (by decide) (by decide) hs hpl) fun σ H Q h => ?_
  obtain ⟨I, M, F, δ, Qd, Ed, hr, rs, q, fq, fx⟩ := h
  refine ⟨I, M, F, δ, _, Ed, hr, rs, q, fun d M1 I1 H1 v q1 s1 hr1 r1 => ?_, fx⟩
  rcases tyD_out hr1 r1 q1 with ⟨t, ht, ty, q⟩ | ⟨a, C, o, dd, vs, rfl, ro, ⟨e1, ex⟩, e2, q⟩
  · exact .inl ⟨v, .ty u.nm, _, _, _, rfl, .ty _, ty, kit_all X.K t u ht hu hu2, fq _ M1 I1 H1 _ q s1 hr1 (.bl _)⟩
  · refine .inr ⟨a, C, dd, vs, u.nm, o, rfl, ro, e1, ex, e2, ro.kit u.nm ?_, ?_⟩
    · cases u <;> first | exact absurd rfl hu | exact absurd rfl hu2 | exact (by decide)
    · have e0 : isT .own u = false := by cases u <;> rfl
      rw [e0] at q
      exact fq _ M1 I1 H1 _ q s1 hr1 (.bl _)
def dJoin (to te : DTE) : DTE := fun δ M Q E => to δ M (fun x M1 => match x with
  | .str z => te δ M1 (fun d M2 => asR M2 d fun xs => ∃ ys : List Str, xs = ys.map D.str ∧ (ys.map (·.length)).sum + ys.length * z.length ≤ 16777216 ∧ Q (.str (Txt.join z ys)) M2) E
  | _ => False) E
theorem d_join {o : Expr} {to : DTE} {apos : Pos} (ho : DE X W o to) (he : DE X W e te) (hs : starEach [e] X.env = [(false, eval e X.env)] := by rfl) (hbase : attributeBase o "join" X.env (eval o X.env) = eval o X.env := by rfl) (hline : (apos.endLine == pos.line) = true := by rfl) :
    DE X W (.Call (.Attribute o "join" apos) [e] [] pos) (dJoin to te) := pe_imp (pe_join ho he hs hbase hline) fun σ H Q h => by
  obtain ⟨I, M, F, δ, Qd, Ed, hr, rs, q, fq, fx⟩ := h
  refine ⟨I, M, F, δ, _, Ed, hr, rs, q, fun d M1 I1 H1 v q1 s1 hr1 r1 => ?_, fx⟩
  cases r1 with
  | str z =>
    refine ⟨⟨z, rfl⟩, I1, M1, F, δ, _, Ed, hr1, rs.mono s1, q1, fun y M2 I2 H2 w q2 s2 hr2 r2 => ?_, fx.mono s1⟩
    obtain ⟨a, vs, es, rfl, s, rr, ys, rfl, hz, q⟩ := asR_out hr2 r2 q2
    cases reps_strs rr
    exact ⟨z, a, ys, rfl, rfl, .inl s, hz, fq _ M2 I2 H2 _ q (s1.trans s2) hr2 (.str _)⟩
  | _ => exact q1.elim
def dAppend (to te : DTE) : DTE := fun δ M Q E => to δ M (fun x M1 => match x with
  | .ref a => (∃ ys, M1 a = some (.lst ys)) ∧ te δ M1 (fun d M2 => ∃ xs, M2 a = some (.lst xs) ∧ xs.length < sizeLine ∧ Q .non (updM M2 a (.lst (xs ++ [d])))) E
  | _ => False) E
theorem d_append {o : Expr} {to : DTE} {apos : Pos} (ho : DE X W o to) (he : DE X W e te) (hs : starEach [e] X.env = (false, eval e X.env) :: starEach [] X.env := by rfl) (hbase : attributeBase o "append" X.env (eval o X.env) = eval o X.env := by rfl) (hline : (apos.endLine == pos.line) = true := by rfl)
    (hfew : ((backTo pos (starEach [e] X.env)).all (fun x => !x.1) && (backToKw pos (keywordEach [] X.env)).all (fun x => x.1.isSome) && decide ([e].length + ([] : List Keyword).length + (if ([] : List Keyword).isEmpty then 0 else 1) < 30)) = true := by rfl) :
    DE X W (.Call (.Attribute o "append" apos) [e] [] pos) (dAppend to te) := by
  refine pe_imp (pe_bm PySem.F.plainAttrs_list PySem.F.slot_list_append PySem.F.type_list_append mt_append ho (pa_cons he pa_nil hs) hbase hfew hline hs) fun σ H Q h => ?_
  obtain ⟨I, M, F, δ, Qd, Ed, hr, rs, q, fq, fx⟩ := h
  refine ⟨I, M, F, δ, _, Ed, hr, rs, q, fun d M1 I1 H1 v q1 s1 hr1 r1 => ?_, fx⟩
  cases r1 with
  | ref a =>
    obtain ⟨⟨ys, e0⟩, q1⟩ := q1
    obtain ⟨vs0, e1, rr0⟩ := hr1.lst e0
    refine ⟨.inl ⟨rfl, vs0, SqL.of e1⟩, I1, M1, F, δ, _, Ed, hr1, rs.mono s1, q1, fun y M2 I2 H2 w q2 s2 hr2 r2 => ?_, fx.mono s1⟩
    obtain ⟨xs, e2, hl, q⟩ := q2
    obtain ⟨vs, e3, rr⟩ := hr2.lst e2
    exact ⟨a, vs, w, rfl, rfl, e3, by rw [rr.len]; exact hl, fq _ _ I2 _ _ q (s1.trans s2) (hr2.write e2 (fun _ _ z => nomatch z) (o := .lst (vs ++ [w])) (m := .lst (xs ++ [y])) ⟨_, rfl, rr.snoc r2⟩) .non⟩
  | _ => exact q1.elim
end
end DL
set_option Elab.async false
set_option linter.all false
set_option maxRecDepth 100000
set_option maxHeartbeats 2000000
namespace DL
open PySem PySem.Spec PyProof.Rows L2
section
variable {X : Cx}
end
def isN : D → Bool
  | .non => true
  | _ => false
end DL
set_option Elab.async false
set_option linter.all false
set_option maxRecDepth 100000
set_option maxHeartbeats 2000000
namespace DL
open PySem PySem.Spec PyProof.Rows L2
theorem HR.bump {K : PySem.W.Frag} {I : Hp} {M : Mp} {F H : Hp} (h : HR K I M F H) {p : Addr} (hp : H p = none) (o : HO) : HR K I M F (upd H p o) := by
  obtain ⟨h1, h2, h3⟩ := h.fresh hp
  have kp : ∀ d φ, H d = some (.ext φ) → upd H p o d = some (.ext φ) := fun d φ e => by rw [upd_ne (ne_of_none e hp)]; exact e
  refine ⟨fun a u e => ?_, fun a m e => ?_, fun a u e => ?_, h.ft⟩
  · have q : a ≠ p := fun z => by rw [z, h1] at e; cases e
    rw [upd_ne q]; exact h.imm a u e
  · have q : a ≠ p := fun z => by rw [z, h2] at e; cases e
    rw [upd_ne q]
    obtain ⟨x, y, z, t⟩ := h.mu a m e
    exact ⟨x, y, z, t.mono (Same.refl I) kp⟩
  · have q : a ≠ p := fun z => by rw [z, h3] at e; cases e
    rw [upd_ne q]; exact h.frm a u e
theorem kit_sub {K : PySem.W.Frag} {C : Addr} {n : String} {b : Bool} (h : PySem.W.kitMeta n = true) (e : PySem.W.subIn K (.ref C) (.type n) = some b) : PySem.W.kitOne K (.ref C) (.type n) = some b := by
  unfold PySem.W.kitOne
  rw [if_neg (show ¬ ((Value.ref C == Value.type n) = true) from fun z => nomatch (beq_iff_eq.mp z))]
  show (if PySem.W.kitMeta n = true then PySem.W.subIn K (.ref C) (.type n) else none) = some b
  rw [if_pos h]
  exact e
def spI (C : Addr) (f : Str) : Sp := fun vs H Q _ => ∃ (a : Addr) (v : V), vs = [.ref a, v] ∧ H a = some (exo a C none) ∧ ∀ dx, H dx = none → dx ≠ a → Q .non (upd (upd H dx (exd dx [(f, v)])) a (exo a C (some dx)))
structure ExcT (P : Program) (w : World) (K : PySem.W.Frag) (mg : Str → Option Value) (base : Heap) (k : Nat) (x f : Str) (C : Addr) : Prop where
  mgC : mg x = some (.ref C)
  oex : OexC K C
  cls : ExcCls K C
  ini : ∃ (fI : Addr) (fd : FuncData), PySem.W.findIn K (.ref C) "__init__" = some (some (.ref fI)) ∧ PySem.W.typeIn K (.ref fI) = some (.type "function") ∧ Binds K fd ["self", f] [] ∧ FnG P w K mg base (L2.CX P w) k fI fd ["self", f] (spI C f)
theorem nogd_make {A : Around} (h : NoGd A) (C : Addr) (us : List Value) (kw : List (Str × Value)) : NoGd (A.under (.builtin "type.__call__" ⟨.ref C :: us, kw⟩)) := by
  have e : (A.under (.builtin "type.__call__" ⟨.ref C :: us, kw⟩)).guards = A.guards := by
    first | rfl | simp [Around.under, Code.guards, Code.isGuard, guardIds, pushGuards]
  exact e.trans h
section
variable {X : Cx} {W : WX} {e : Expr} {te : TE} {td : DTE} {p pos : Pos} {x f : Str} {C : Addr} {k : Nat}
end
end DL
set_option Elab.async false
set_option linter.all false
set_option maxRecDepth 100000
set_option maxHeartbeats 2000000
namespace DL
open PySem PySem.Spec PyProof.Rows L2
def putD (kvs : List (Key × D)) (k : Key) (v : D) : List (Key × D) :=
  if (kvs.any fun kv => decide (kv.1 = k)) = true then kvs.map (fun kv => if kv.1 = k then (kv.1, v) else kv) else kvs ++ [(k, v)]
def mergeD (kvs more : List (Key × D)) : List (Key × D) := more.foldl (fun acc kv => putD acc kv.1 kv.2) kvs
theorem RepK.anyK {K : PySem.W.Frag} {I : Hp} (k : Key) : ∀ {vs : List (Key × V)} {ds : List (Key × D)}, RepK K I vs ds → (vs.any fun kv => decide (kv.1 = k)) = (ds.any fun kv => decide (kv.1 = k))
  | _, _, .nil => rfl
  | _, _, .cons _ r => by rw [List.any_cons, List.any_cons, RepK.anyK k r]
theorem RepK.mapP {K : PySem.W.Frag} {I : Hp} {k : Key} {v : V} {d : D} (r : Rep K I v d) : ∀ {vs : List (Key × V)} {ds : List (Key × D)}, RepK K I vs ds → RepK K I (vs.map fun kv => if kv.1 = k then (kv.1, v) else kv) (ds.map fun kv => if kv.1 = k then (kv.1, d) else kv)
  | _, _, .nil => .nil
  | _, _, .cons (k := k1) a b => by
    rw [List.map_cons, List.map_cons]
    by_cases e : k1 = k
    · rw [if_pos e, if_pos e]; exact .cons r (RepK.mapP r b)
    · rw [if_neg e, if_neg e]; exact .cons a (RepK.mapP r b)
theorem RepK.snoc {K : PySem.W.Frag} {I : Hp} {k : Key} {v : V} {d : D} (r : Rep K I v d) : ∀ {vs : List (Key × V)} {ds : List (Key × D)}, RepK K I vs ds → RepK K I (vs ++ [(k, v)]) (ds ++ [(k, d)])
  | _, _, .nil => .cons r .nil
  | _, _, .cons a b => .cons a (RepK.snoc r b)
theorem RepK.put {K : PySem.W.Frag} {I : Hp} {k : Key} {v : V} {d : D} (r : Rep K I v d) {vs : List (Key × V)} {ds : List (Key × D)} (h : RepK K I vs ds) : RepK K I (putK vs k v) (putD ds k d) := by
  unfold putK putD
  rw [h.anyK k]
  split
  · exact h.mapP r
  · exact h.snoc r
theorem RepK.merge {K : PySem.W.Frag} {I : Hp} : ∀ {ms : List (Key × V)} {ns : List (Key × D)} {vs : List (Key × V)} {ds : List (Key × D)}, RepK K I ms ns → RepK K I vs ds → RepK K I (mergeK vs ms) (mergeD ds ns)
  | _, _, _, _, .nil, h => h
  | _, _, _, _, .cons (k := k1) r rr, h => by
    have z := RepK.merge rr (h.put (k := k1) r)
    exact z
def kD : Key → D
  | .inl i => .int i
  | .inr x => .str x
def dPairs : List (DTE × DTE) → DS → Mp → (List (D × D) → Mp → Prop) → DXK → Prop
  | [], _, M, Q, _ => Q [] M
  | (tk, tv) :: r, δ, M, Q, E => tk δ M (fun x M1 => tv δ M1 (fun y M2 => dPairs r δ M2 (fun ps M3 => Q ((x, y) :: ps) M3) E) E) E
inductive RepP (K : PySem.W.Frag) (I : Hp) : List (V × V) → List (D × D) → Prop
  | nil : RepP K I [] []
  | cons {x y : V} {d e : D} {ps : List (V × V)} {qs : List (D × D)} : Rep K I x d → Rep K I y e → RepP K I ps qs → RepP K I ((x, y) :: ps) ((d, e) :: qs)
theorem RepP.mono {K : PySem.W.Frag} {I I' : Hp} (e : Same I I') : ∀ {ps : List (V × V)} {qs : List (D × D)}, RepP K I ps qs → RepP K I' ps qs
  | _, _, .nil => .nil
  | _, _, .cons a b c => .cons (a.mono e) (b.mono e) (RepP.mono e c)
theorem pairs_lift {K : PySem.W.Frag} {W : WX} {σ : L2.St} {δ : DS} {Ed : DXK} : ∀ {trs : List (DTE × DTE)} {I F H : Hp} {M : Mp} {Qd : List (D × D) → Mp → Prop} {Q : List (V × V) → Hp → Prop}, HR K I M F H → RepS K I σ δ → dPairs trs δ M Qd Ed →
    (∀ qs M' I' H' ps, Qd qs M' → Same I I' → HR K I' M' F H' → RepP K I' ps qs → Q ps H') → FinX K I F Ed (WE W σ) → tPairs (trs.map fun t => (lE K W t.1, lE K W t.2)) σ H Q
  | [], I, F, H, M, Qd, Q, hr, rs, q, fq, fx => fq [] M I H [] q (Same.refl I) hr .nil
  | (tk, tv) :: r, I, F, H, M, Qd, Q, hr, rs, q, fq, fx => by
    refine ⟨I, M, F, δ, _, Ed, hr, rs, q, fun x M1 I1 H1 v q1 s1 hr1 r1 => ?_, fx⟩
    refine ⟨I1, M1, F, δ, _, Ed, hr1, rs.mono s1, q1, fun y M2 I2 H2 w q2 s2 hr2 r2 => ?_, fx.mono s1⟩
    exact pairs_lift (trs := r) hr2 ((rs.mono s1).mono s2) q2 (fun qs M3 I3 H3 ps q3 s3 hr3 r3 => fq _ M3 I3 H3 _ q3 ((s1.trans s2).trans s3) hr3 (.cons ((r1.mono s2).mono s3) (r2.mono s3) r3)) ((fx.mono s1).mono s2)
section
variable {X : Cx} {W : WX} {pos : Pos}
def DPs (X : Cx) (W : WX) (pos : Pos) (keys : List (Option Expr)) (values : List Expr) (trs : List (DTE × DTE)) : Prop := PPs X pos keys values (trs.map fun t => (lE X.K W t.1, lE X.K W t.2))
theorem ps_nil : DPs X W pos [] [] [] := pps_nil
theorem ps_cons {k v : Expr} {ks : List (Option Expr)} {vs : List Expr} {tk tv : DTE} {trs : List (DTE × DTE)} (hk : DE X W k tk) (hv : DE X W v tv) (hr : DPs X W pos ks vs trs) : DPs X W pos (some k :: ks) (v :: vs) ((tk, tv) :: trs) := pps_cons hk hv hr
def dDict0 : DTE := fun _ M Q _ => Q (.dct []) M
theorem d_dict0 : DE X W (.Dict [] [] pos) dDict0 := pe_imp pe_dnewK fun σ H Q h => by
  obtain ⟨I, M, F, δ, Qd, Ed, hr, rs, q, fq, fx⟩ := h
  intro p hp
  have s := same_new (o := .dK []) (hr.fresh hp).1
  exact fq _ M _ _ _ q s (hr.newI hp _) (.dct upd_same .nil)
def dDisp (trs : List (DTE × DTE)) : DTE := fun δ M Q E => dPairs trs δ M (fun qs M1 => ∃ kvs : List (Key × D), qs = kvs.map (fun kv => (kD kv.1, kv.2)) ∧ kvs.length ≤ 15 ∧ Q (.dct (mergeD [] kvs)) M1) E
theorem keys_out {K : PySem.W.Frag} {I : Hp} : ∀ {kvs : List (Key × D)} {ps : List (V × V)}, RepP K I ps (kvs.map fun kv => (kD kv.1, kv.2)) → ∃ vs : List (Key × V), ps = vs.map (fun kv => (kV kv.1, kv.2)) ∧ RepK K I vs kvs
  | [], _, .nil => ⟨[], rfl, .nil⟩
  | (k, d) :: r, _, .cons a b c => by
    obtain ⟨vs, e, z⟩ := keys_out c
    cases k with
    | inl i => cases a; exact ⟨(.inl i, _) :: vs, by rw [e]; rfl, .cons b z⟩
    | inr i => cases a; exact ⟨(.inr i, _) :: vs, by rw [e]; rfl, .cons b z⟩
theorem d_disp {keys : List (Option Expr)} {values : List Expr} {trs : List (DTE × DTE)} (h : DPs X W pos keys values trs) (hall : keys.all (·.isSome) = true := by rfl) (hl : keys.length = values.length := by rfl) (h0 : keys ≠ [] := by intro z; cases z) (h15 : keys.length ≤ 15 := by decide) :
    DE X W (.Dict keys values pos) (dDisp trs) := pe_imp (pe_disp h hall hl h0 h15) fun σ H Q q => by
  obtain ⟨I, M, F, δ, Qd, Ed, hr, rs, q, fq, fx⟩ := q
  intro p hp
  have hF := (hr.fresh hp).2.2
  refine pairs_lift (hr.newF hp (.dK [])) rs q (fun qs M' I' H' ps q' s' hr' r' => ?_) (fun c fo M' I' H' dd z s' hr' xd => fx c fo M' I' H' dd z s' ?_ xd.offF)
  · obtain ⟨kvs, e, hl, q'⟩ := q'
    subst e
    obtain ⟨vs, e2, rk⟩ := keys_out r'
    have lk : vs.length ≤ 15 := by rw [rk.len]; exact hl
    refine ⟨hr'.atF.1, vs, e2, lk, ?_⟩
    obtain ⟨z1, z2⟩ := (hr'.reF (fun _ z => nomatch z) (.dK (mergeK [] vs))).frzF hF
    exact fq _ M' _ _ _ q' (s'.trans z1) z2 (.dct upd_same ((RepK.merge rk .nil).mono z1))
  · refine ⟨hr'.imm, hr'.mu, fun a u e => ?_, ft_off hr'.ft hF⟩
    have ne : a ≠ p := fun z => by rw [z, hF] at e; cases e
    exact hr'.frm a u (by rw [upd_ne ne]; exact e)
theorem d_gInt {x : Str} {i : Int} (hm : ∃ t, X.mg x = some (.int i t)) (hg : Gl X x := by rfl) (hd : (x == ("__debug__" : Str)) = false := by decide) : DE X W (.Name x pos) (dC (.int i)) := by
  obtain ⟨t, hm⟩ := hm
  exact d_glob hg hm (v := .int i) ⟨t, rfl⟩ (fun _ => .int i) hd
theorem d_gStr {x z : Str} (hm : ∃ t, X.mg x = some (.str z t)) (hg : Gl X x := by rfl) (hd : (x == ("__debug__" : Str)) = false := by decide) : DE X W (.Name x pos) (dC (.str z)) := by
  obtain ⟨t, hm⟩ := hm
  exact d_glob hg hm (v := .str z) ⟨t, rfl⟩ (fun _ => .str z) hd
end
theorem rep_ints {K : PySem.W.Frag} {I : Hp} : ∀ ns : List Int, Reps K I (ns.map V.int) (ns.map D.int)
  | [] => .nil
  | n :: ns => .cons (.int n) (rep_ints ns)
theorem walk_fn {l : PySem.W.OpenLaw} {q : Program} {loose : List Str} {XP : (Str → Option Value) → Heap → Prop} {YP : World → Heap → Prop} {d : DefRec} {K : Params → PySem.W.Frag} {k : Nat} {x : Str} {sp : DSp} (hn : l.most = some 63) (hdf : d.params.defaults = []) (rm : Room k callerA)
    (hY : ∀ (w : World) (h : Heap), YP w h → (K w.params).In h)
    (F : ∀ (w : World) (mg : Str → Option Value) (fa : Addr) (h : Heap), (K w.params).In h → h.Ns mainGlobals mg → mg d.name = some (.ref fa) → mg "law" = some (.ref fa) ∧ ∀ base : Heap, Fn l.prog w (K w.params) mg base k "law" [x] sp)
    (pr : ∀ {K : PySem.W.Frag} {H : Hp} {a : Addr} {ns : List Int}, ns.length ≤ 63 → SqL K H a (ns.map V.int) → lSp K sp [.ref a] H (fun v _ => v = .bl true) (fun _ _ _ => False)) : PySem.W.WalkO q loose XP YP l.row.toRowW d [] (fun f vs => PySem.call f vs) := by
  refine walk_ofG (n := 63) (k := k) (x := x) (C := fun w => L2.CX l.prog w) (sp := fun w => lSp (K w.params) sp) hn (by decide) hdf rm hY (fun w mg fa h h1 h2 h3 => ?_) (fun _ _ a ns hl _ hS => pr hl hS) fun w H s e s' z => ?_
  · obtain ⟨e1, f1⟩ := F w mg fa h h1 h2 h3
    obtain ⟨f, fd, m1, _, ⟨hb, o, lk, od⟩, _⟩ := (f1 h).ex
    rw [e1] at m1
    cases m1
    refine ⟨fd, fun s u => .of_eq (hb [u] rfl), fun b _ _ => ?_⟩
    obtain ⟨f', fd', m2, _, ⟨_, o', lk', od'⟩, G⟩ := (f1 b).ex
    rw [e1] at m2
    cases m2
    rw [lk] at lk'
    cases lk'
    rw [od] at od'
    cases od'
    exact G
  · obtain ⟨_, _, _, _, _, _, _, _, _, _, _, _, z⟩ := z
    exact z
end DL
set_option Elab.async false
set_option linter.all false
set_option maxRecDepth 100000
set_option maxHeartbeats 2000000
namespace DL
open PySem PySem.Spec PyProof.Rows L2
def KBd (K : PySem.W.Frag) (fd : FuncData) (ps : List Str) (n : Nat) (ks : List Str) (gD : List D → List D → List D) : Prop :=
  ∀ (s : Shared) (I : Hp) (us ws : List Value) (vs zs : List V) (ds es : List D), K.In s.heap → us.length = n → ws.length = ks.length → Vals vs us → Vals zs ws → Reps K I vs ds → Reps K I zs es →
    ∃ (bs : List Value) (xs : List V), BindsTo s fd ⟨us, ks.zip ws⟩ (ps.zip bs) ∧ Vals xs bs ∧ Reps K I xs (gD ds es)
structure Pat where
  n : Nat
  ks : List Str
  g : List D → List D → List D
structure FnK (P : Program) (w : World) (K : PySem.W.Frag) (mg : Str → Option Value) (base : Heap) (k : Nat) (x : Str) (ps : List Str) (sp : DSp) (pats : List Pat) : Prop where
  ex : ∃ (f : Addr) (fd : FuncData), mg x = some (.ref f) ∧ PySem.W.keepIn K (.ref f) = true ∧ (∀ (i : Nat) (p : Pat), pats[i]? = some p → KBd K fd ps p.n p.ks p.g) ∧ FnG P w K mg base (L2.CX P w) k f fd ps (lSp K sp)
section
variable {X : Cx} {W : WX} {e : Expr} {es : List Expr} {te : DTE} {ta tk : DTA} {pos p kpos : Pos} {k : Nat} {x : Str} {ps : List Str} {sp : DSp} {kws : List Keyword} {nm : Option Str}
theorem run_k {pats : List Pat} {pt : Pat} {pins : List (Addr × Obj)} {σ : L2.St} {H : Hp} {s : Shared} {Q : VK} {us ws : List Value} {vs zs : List V} {ds es : List D} {Im F : Hp} {M : Mp} {Qd : DK} {Ed : DXK} {f : Addr} {fd : FuncData} (g : Good X W) (rm : Room k X.A)
    (kb : KBd X.K fd ps pt.n pt.ks pt.g) (G : FnG X.prog X.w X.K X.mg X.base (L2.CX X.prog X.w) k f fd ps (lSp X.K sp)) (J : L2.Inv X pins σ H s) (rv : Vals vs us) (rz : Vals zs ws) (hr : HR X.K Im M F H) (rd : Reps X.K Im vs ds) (re : Reps X.K Im zs es)
    (h1 : ds.length = pt.n) (h2 : es.length = pt.ks.length) (q : sp (pt.g ds es) M Qd Ed) (fq : Fin X.K Im F Qd Q) (fx : FinX X.K Im F Ed (WE W σ)) : wpAny (model X.prog X.w) X.A (call (.ref f) us (pt.ks.zip ws)) (EP X pins σ Q) X.xe s := by
  obtain ⟨bs, xs, bt, rb, rr⟩ := kb s Im us ws vs zs ds es J.kIn (by rw [← rv.length, rd.len]; exact h1) (by rw [← rz.length, re.len]; exact h2) rv rz rd re
  have pr : lSp X.K sp xs H Q (WE W σ) := ⟨Im, M, F, _, Qd, Ed, hr, rr, q, fq, fx⟩
  refine wpAny_call (codeAny_mono (goG (E := WE W) G g.ng rm (passAt g.tk σ) J bt rb pr) fun r s2 y => ?_)
  cases r with
  | error e => exact y
  | ok fl => cases fl <;> exact y
end
section
variable {P : Program} {w : World} {K : PySem.W.Frag} {mg : Str → Option Value} {base : Heap}
theorem pats_nil {Φ : Pat → Prop} : ∀ (i : Nat) (p : Pat), ([] : List Pat)[i]? = some p → Φ p := fun i p e => by simp at e
theorem pats_cons {Φ : Pat → Prop} {q : Pat} {r : List Pat} (h : Φ q) (hr : ∀ (i : Nat) (p : Pat), r[i]? = some p → Φ p) : ∀ (i : Nat) (p : Pat), (q :: r)[i]? = some p → Φ p
  | 0, p, e => by simp at e; exact e ▸ h
  | i + 1, p, e => hr i p (by simpa using e)
end
end DL
namespace DL
open PySem L2
theorem len_nil {α : Type} {l : List α} (h : l.length = 0) : l = [] := List.eq_nil_of_length_eq_zero h
end DL
set_option Elab.async false
set_option linter.all false
set_option maxRecDepth 100000
set_option maxHeartbeats 2000000
namespace DL
open PySem PySem.Spec PyProof.Rows L2
abbrev DM1 := Str → D → Mp → DK → Prop
def LM1 (K : PySem.W.Frag) (r' : V → List V → Hp → VK → Prop) (r : DM1) : Prop := ∀ I M F H a y dy Qd Q, HR K I M F H → Rep K I y dy → r a dy M Qd → Fin K I F Qd Q → r' (.str a) [y] H Q
def dM1 (r : DM1) (to te : DTE) : DTE := fun δ M Q E => to δ M (fun x M1 => match x with | .str a => te δ M1 (fun y M2 => r a y M2 Q) E | _ => False) E
section
variable {X : Cx} {W : WX} {o e : Expr} {to te : DTE} {pos apos : Pos} {name : Str} {bid : String} {r' : V → List V → Hp → VK → Prop}
theorem d_m1 {r : DM1} (slot : Slot "str" name bid) (ty : typeOf (.builtin bid) = pure (.type "method_descriptor")) (rule : MtR X bid r') (hl : LM1 X.K r' r) (ho : DE X W o to) (he : DE X W e te) (hs : starEach [e] X.env = [(false, eval e X.env)] := by rfl)
    (hbase : attributeBase o name X.env (eval o X.env) = eval o X.env := by rfl) (hline : (apos.endLine == pos.line) = true := by rfl) : DE X W (.Call (.Attribute o name apos) [e] [] pos) (dM1 r to te) := pe_imp (pe_m1 slot ty rule ho he hs hbase hline) fun σ H Q h => by
  obtain ⟨I, M, F, δ, Qd, Ed, hr, rs, q, fq, fx⟩ := h
  refine ⟨I, M, F, δ, _, Ed, hr, rs, q, fun d M1 I1 H1 v q1 s1 hr1 r1 => ?_, fx⟩
  cases r1 with
  | str a => exact ⟨⟨a, rfl⟩, I1, M1, F, δ, _, Ed, hr1, rs.mono s1, q1, fun y M2 I2 H2 w q2 s2 hr2 r2 => hl I2 M2 F H2 a w y Qd Q hr2 r2 q2 (fq.mono (s1.trans s2)), fx.mono s1⟩
  | _ => exact q1.elim
def s1 (y : D) (k : Str → Prop) : Prop := match y with | .str b => k b | _ => False
theorem s1_out {K : PySem.W.Frag} {I : Hp} {v : V} {y : D} {k : Str → Prop} (r : Rep K I v y) (h : s1 y k) : ∃ b, v = .str b ∧ k b := by
  cases r <;> first | exact ⟨_, rfl, h⟩ | exact h.elim
def rdSplit : DM1 := fun a y M Q => s1 y fun b => (b.length == 0) = false ∧ a.length + 2 ≤ sizeLine ∧ Q (.lst ((Txt.split a b).map D.str)) M
theorem rep_strs {K : PySem.W.Frag} {I : Hp} : ∀ ns : List Str, Reps K I (ns.map V.str) (ns.map D.str)
  | [] => .nil
  | n :: ns => .cons (.str n) (rep_strs ns)
theorem d_split (ho : DE X W o to) (he : DE X W e te) (hs : starEach [e] X.env = [(false, eval e X.env)] := by rfl) (hbase : attributeBase o "split" X.env (eval o X.env) = eval o X.env := by rfl) (hline : (apos.endLine == pos.line) = true := by rfl) : DE X W (.Call (.Attribute o "split" apos) [e] [] pos) (dM1 rdSplit to te) :=
  d_m1 PySem.F.slot_str_split PySem.F.type_str_split mt_split (fun I M F H a y dy Qd Q hr r q fq => by
    obtain ⟨b, rfl, e1, e2, q⟩ := s1_out r q
    exact ⟨a, b, rfl, rfl, e1, e2, fin_lst fq hr (rep_strs _) q⟩) ho he hs hbase hline
end
end DL
set_option Elab.async false
set_option linter.all false
set_option maxRecDepth 100000
set_option maxHeartbeats 2000000
namespace DL
open PySem PySem.Spec PyProof.Rows L2
inductive NmsOk (X : Cx) : List Expr → List Value → Prop
  | nil : NmsOk X [] []
  | cons {x : Str} {c : Value} {np : Pos} {es : List Expr} {cs : List Value} : Names X x c → NmsOk X es cs → NmsOk X (.Name x np :: es) (c :: cs)
theorem exm_any1 {K : PySem.W.Frag} {cls c : Value} {b : Bool} (h : PySem.W.exmAny K cls [c] = some b) : PySem.W.exmOne K cls c = some b := by
  obtain ⟨b1, d1, h1, h2, rfl⟩ := PySem.W.exmAny_cons h
  have w : some false = some d1 := h2
  cases w
  rw [Bool.or_false]
  exact h1
theorem all_exc {M : Model} {K : PySem.W.Frag} {h : Heap} {cls : Value} (X : K.In h) : ∀ (cs : List Value) (b : Bool), PySem.W.exmAny K cls cs = some b →
    (∀ c ∈ cs, PySem.W.Looks M h (isExcClass c) true ∧ ∃ v, PySem.W.exmOne K cls c = some v ∧ PySem.W.Looks M h (isSubtype cls c) v)
  | [], _, _ => fun _ z => nomatch z
  | c :: r, b, e => by
    obtain ⟨b1, d1, h1, h2, _⟩ := PySem.W.exmAny_cons e
    intro x hx
    rcases List.mem_cons.mp hx with rfl | hx
    · obtain ⟨p, q⟩ := PySem.W.exm_cls (M := M) X h1
      exact ⟨p, b1, h1, q⟩
    · exact all_exc X r d1 h2 x hx
theorem any_exm {K : PySem.W.Frag} {cls : Value} : ∀ (cs : List Value) (b : Bool), PySem.W.exmAny K cls cs = some b → cs.any (fun c => PySem.W.exmOne K cls c == some true) = b
  | [], b, h => by
    have w : some false = some b := h
    cases w
    rfl
  | c :: r, b, h => by
    obtain ⟨b1, d1, h1, h2, rfl⟩ := PySem.W.exmAny_cons h
    rw [List.any_cons, any_exm r d1 h2, h1]
    cases b1 <;> rfl
section
variable {M : Model} {A : Around} {E : Value → Shared → Prop} {s : Shared}
theorem forIn_find {β : Type} {f : Value → β → Sem (ForInStep β)} {b x : β} {v : Value → Bool} {Q : β → Shared → Prop} : ∀ cs : List Value, (∀ c ∈ cs, ∀ R : ForInStep β → Shared → Prop, R (if v c = true then .done x else .yield b) s → wpAny M A (f c b) R E s) →
    Q (if cs.any v = true then x else b) s → wpAny M A (forIn cs b f) Q E s
  | [], _, q => by
    rw [List.forIn_nil]
    exact wpAny_pure q
  | c :: r, h, q => by
    rw [List.forIn_cons]
    refine wpAny_bind (h c List.mem_cons_self _ ?_)
    rw [List.any_cons] at q
    cases hv : v c with
    | true =>
      rw [hv, Bool.true_or, if_pos rfl] at q
      rw [if_pos rfl]
      exact wpAny_pure q
    | false =>
      rw [hv, Bool.false_or] at q
      rw [if_neg Bool.false_ne_true]
      exact forIn_find r (fun y hy => h y (List.mem_cons_of_mem _ hy)) q
end
theorem exm_tupN {M : Model} {K : PySem.W.Frag} {cs : List Value} {cls : Value} {tp e : Addr} {b : Bool} {h : Heap} (X : K.In h) (LT : PySem.W.Looks M h (typeOf (.ref e)) cls) (hp : h.get? tp = some { cls := .type "tuple", data := .seq cs.toArray }) (hx : PySem.W.exmAny K cls cs = some b) :
    PySem.W.Looks M h (excMatches (.ref e) (.ref tp)) b := by
  intro A Q E s k₀ q
  obtain ⟨hh, g, d, tk, os⟩ := s
  have k : ∀ b o, h.get? b = some o → hh.get? b = some o := k₀
  have LT0 : PySem.W.Looks M h (isInstance (.ref tp) (.type "tuple")) true := ((PySem.W.Looks.ld hp).andThen .now).andThen (PySem.W.Looks.of_pure isSubtype_tuple_tuple)
  have LT := LT.keeps k
  have LT0 := LT0.keeps k
  have hp' := k _ _ hp
  have al := all_exc (M := M) X cs b hx
  have an := any_exm cs b hx
  unfold excMatches
  refine wpAny_bind (LT0.at ?_)
  dsimp only
  rw [if_pos rfl]
  first
    | refine wpAny_bind (wpAny_seqItems hp' rfl ?_)
    | refine wpAny_bind (wpAny_bind (wpAny_seqItems hp' rfl (wpAny_pure ?_)))
  dsimp only [Option.getD_some, Option.getD]
  refine wpAny_bind (wpAny_pure ?_)
  refine wpAny_bind (forIn_find (v := fun _ => false) (x := PUnit.unit) cs (fun c hc R r => ?_) ?_)
  · refine wpAny_bind (((al c hc).1.keeps k).here ?_)
    exact wpAny_pure r
  · refine wpAny_bind (LT.here ?_)
    refine wpAny_bind (forIn_find (v := fun c => PySem.W.exmOne K cls c == some true) (x := ((some true, ()) : Option Bool × Unit)) cs (fun c hc R r => ?_) ?_)
    · obtain ⟨_, v, hv, L⟩ := al c hc
      refine wpAny_bind ((L.keeps k).here ?_)
      rw [hv] at r
      cases v
      · exact wpAny_pure r
      · exact wpAny_pure r
    · rw [an]
      cases b
      · exact wpAny_pure q
      · exact wpAny_pure q
end DL
set_option Elab.async false
set_option linter.all false
set_option maxRecDepth 100000
set_option maxHeartbeats 2000000
namespace DL
open PySem PySem.Spec PyProof.Rows L2
structure Down (X : Cx) (pins : List (Addr × Obj)) (σ : L2.St) (H : Hp) (cls : Value) (d : Option Addr) (a : Addr) (s : Shared) : Prop where
  ex : ∃ (G : Heap) (s0 : Shared), Inv X pins σ H s0 ∧ (∀ b o, s0.heap.get? b = some o → b ∉ frs X.stack → G.get? b = some o) ∧ s0.heap.UpToSlots s.heap ∧ HandSPX.FlyingZ G (X.env :: X.outer) a (Zc cls d) s.heap ∧ s.os = s0.os ∧ AllBare s.gens
  no : H a = none
section
variable {X : Cx} {pins : List (Addr × Obj)} {σ : L2.St} {H : Hp} {cls : Value} {d : Option Addr} {a : Addr} {s : Shared}
theorem Down.inv (D : Down X pins σ H cls d a s) : Inv X pins σ H s := by
  obtain ⟨G, s0, J, nb, up, fl, os, ag⟩ := D.ex
  exact J.landed nb fl.1 up os ag
theorem Down.keeps {h' : Heap} (D : Down X pins σ H cls d a s) (k : ∀ b o, s.heap.get? b = some o → h'.get? b = some o) : Down X pins σ H cls d a { s with heap := h' } := by
  obtain ⟨G, s0, J, nb, up, ⟨f1, f2, f3, oe, ws, T, oT, ts, he, hz, hd, g1, hn, hne, hT, hdT, g3⟩, os, ag⟩ := D.ex
  exact ⟨⟨G, s0, J, nb, up.trans (Heap.UpToSlots.of_keeps k), ⟨fun b o q => k b o (f1 b o q), f2, f3.of_keeps fun b o q _ => ⟨o, k b o q, rfl⟩, oe, ws, T, oT, ts, k _ _ he, hz, hd, g1, hn, hne, k _ _ hT, hdT, g3⟩, os, ag⟩, D.no⟩
theorem Down.again {M : Model} {A : Around} {E : Value → Shared → Prop} {Q : Unit → Shared → Prop} (D : Down X pins σ H cls d a s) (q : ∀ h', Down X pins σ H cls d a { s with heap := h' } → Q () { s with heap := h' }) : wpAny M A (setFlight (.ref a) none) Q E s := by
  obtain ⟨G, s0, J, nb, up, fl, os, ag⟩ := D.ex
  exact HandSPX.lands_againZ fl fun h' fl' up' => q h' ⟨⟨G, s0, J, nb, up.trans up', fl', os, ag⟩, D.no⟩
theorem Down.there (D : Down X pins σ H cls d a s) : ∃ oe vs, s.heap.get? a = some oe ∧ Zc cls d oe ∧ oe.data = .fields vs := by
  obtain ⟨_, _, _, _, _, fl, _, _⟩ := D.ex
  exact fl.there
theorem Down.suite (hf : X.env.frame = some X.env.locals) (D : Down X pins σ H cls d a s) : ∃ oe, Zc cls d oe ∧ (∃ vs, oe.data = .fields vs) ∧ s.heap.get? a = some oe ∧ Inv (X.suite a ((a, oe) :: (X.pn ++ pins))) [] σ H s := by
  obtain ⟨oe, vs, he, hz, hd⟩ := D.there
  obtain ⟨G, s0, _, _, _, fl, _, _⟩ := D.ex
  have off : a ∉ frs (X.env :: X.outer) := fun m => by
    obtain ⟨_, o2, e2, n2⟩ := fl.2.2.1.mem m
    exact n2 vs (by rw [← Option.some.inj (he.symm.trans e2)]; exact hd)
  exact ⟨oe, hz, ⟨vs, hd⟩, he, D.inv.suite he hd D.no (fun z => off (List.mem_filterMap.mpr ⟨X.env, List.mem_cons_self, z ▸ hf⟩)) fun m => by
    obtain ⟨en, h1, h2⟩ := List.mem_filterMap.mp m
    exact off (List.mem_filterMap.mpr ⟨en, List.mem_cons_of_mem _ h1, h2⟩)⟩
theorem Down.pass {W : WX} {D : Ends} (hs : X.stack = X.env :: X.outer) (hf : X.env.frame = some X.env.locals) (tk : Takes X W) (Dn : Down X pins σ H cls d a s) (w : W cls d σ H) : wpAny (model X.prog X.w) X.A (handleBy (.ref a) X.env []) (SP X pins D) X.xe s := by
  obtain ⟨G, s0, J, nb, up, fl, os, ag⟩ := Dn.ex
  have go : wpAny (model X.prog X.w) X.A (setFlight (.ref a) X.env.frame) (fun _ s1 => wpAny (model X.prog X.w) X.A (throw (.ref a) : Sem Flow) (SP X pins D) X.xe s1) X.xe s := hf ▸ HandSPX.setFlight_upZ fl fun h1 held up1 =>
    wpAny_throw (tk _ _ ⟨a, G, s0, pins, σ, H, cls, d, rfl, J, nb, up.trans up1, .inr (.inr (hs ▸ held)), Dn.no, os, ag, w⟩)
  obtain ⟨_, _, _, oe, vs, T, _, _, he, _, hd, h1, _⟩ := fl
  refine wpAny_handleBy_nil ?_
  unfold PySem.passOn
  refine wpAny_bind (wpAny_field he hd h1 ?_)
  rw [if_neg (show ¬ ((Value.ref T == Value.none) = true) from fun z => nomatch beq_iff_eq.mp z)]
  first | exact wpAny_bind go | exact wpAny_bind (wpAny_pure (wpAny_bind go))
theorem Down.first {W : WX} {u : Value} {xe : Value → Shared → Prop} {Q : Unit → Shared → Prop} (ok : X.Ok) (hs : X.stack = X.env :: X.outer) (hf : X.env.frame = some X.env.locals) (x : XE (X.tr (X.pn ++ pins) xe) W u s)
    (q : ∀ σ H cls d a s', u = .ref a → Down X pins σ H cls d a s' → W cls d σ H → Q () s') : wpAny (model X.prog X.w) X.A (noteFrame u X.env) (fun _ s2 => wpAny (model X.prog X.w) X.A (setFlight u none) Q X.xe s2) X.xe s := by
  obtain ⟨a, G, s0, p0, σ, H, cls, d, rfl, J, nb, up, sky, na, os, ag, w⟩ := x
  have sk : Sky G (X.env :: X.outer) a (Zc cls d) X.env.locals s.heap := hs ▸ sky
  exact Sky.land Zc.steady (ok.frames.trans (congrArg some hs)) hf sk fun h' fl up' => q σ H cls d a _ rfl ⟨⟨G, s0, J.ofTry ok, nb, up.trans up', fl, os, ag⟩, na⟩ w
end
inductive TstOk (X : Cx) : Expr → List Value → Prop
  | one {x : Str} {c : Value} {np : Pos} : Names X x c → TstOk X (.Name x np) [c]
  | tup {es : List Expr} {cs : List Value} {kk : Nat} {tp : Pos} : NmsOk X es cs → cs.length ≤ sizeLine → TstOk X (.Tuple es kk tp) cs
theorem NmsOk.suite {X : Cx} {a : Addr} {pn : List (Addr × Obj)} : ∀ {es : List Expr} {cs : List Value}, NmsOk X es cs → NmsOk (X.suite a pn) es cs
  | _, _, .nil => .nil
  | _, _, .cons h r => .cons h r.suite
theorem TstOk.suite {X : Cx} {a : Addr} {pn : List (Addr × Obj)} {t : Expr} {cs : List Value} (h : TstOk X t cs) : TstOk (X.suite a pn) t cs := by
  cases h with
  | one h => exact .one h
  | tup h hl => exact .tup h.suite hl
section
variable {X : Cx} {pins : List (Addr × Obj)} {σ : L2.St} {H : Hp} {s : Shared}
theorem nm_eval {x : Str} {c : Value} {np : Pos} {Q : Value → Shared → Prop} {E : Value → Shared → Prop} (I : Inv X pins σ H s) (hc : Names X x c) (q : Q c s) : wpAny (model X.prog X.w) X.A (eval (.Name x np) X.env) Q E s := by
  obtain ⟨g, db, m | ⟨m, v, n⟩⟩ := hc
  · exact ld_glob I g m q db
  · exact ld_blt I g m v q n db
theorem nms_eval {E : Value → Shared → Prop} {pos : Pos} (I : Inv X pins σ H s) : ∀ {es : List Expr} {cs : List Value}, NmsOk X es cs → ∀ {Q : List Value → Shared → Prop}, Q cs s → wpAny (model X.prog X.w) X.A (spliced (backTo pos (starEach es X.env))) Q E s
  | _, _, .nil, _, q => wpAny_items_nil q
  | _, _, .cons hc r, _, q => wpAny_items_cons (nm_eval I hc (nms_eval I r q))
theorem tst_run {t : Expr} {cs : List Value} {a : Addr} {cls : Value} {b : Bool} {Q : Bool → Shared → Prop} {E : Value → Shared → Prop} (I : Inv X pins σ H s) (hc : TstOk X t cs) (LT : PySem.W.Looks (model X.prog X.w) s.heap (typeOf (.ref a)) cls) (hx : PySem.W.exmAny X.K cls cs = some b)
    (q : ∀ h', (∀ c o, s.heap.get? c = some o → h'.get? c = some o) → Q b { s with heap := h' }) : wpAny (model X.prog X.w) X.A (eval t X.env) (fun c s₁ => wpAny (model X.prog X.w) X.A (excMatches (.ref a) c) Q E s₁) E s := by
  cases hc with
  | one hc => exact nm_eval I hc ((PySem.W.exm_one I.kIn LT (exm_any1 hx)).here (q s.heap fun _ _ z => z))
  | tup hn hl =>
    refine wpAny_Tuple (nms_eval I hn ⟨hl, ?_⟩)
    have kp : ∀ c o, s.heap.get? c = some o → (s.heap.push { cls := .type "tuple", data := .seq cs.toArray }).get? c = some o := fun _ _ z => Heap.get?_push_of_some _ z
    exact (exm_tupN (I.kIn.keeps kp) (LT.keeps kp) (Heap.get?_push_size s.heap rfl) hx).here (q _ kp)
end
structure Hd where
  cs : List Value
  nm : Option Nat
  ts : Addr → Value → Option Addr → TS
def Hd.put (h : Hd) (a : Addr) (σ : L2.St) : L2.St := match h.nm with | some i => σ.set i (some (.ref a)) | none => σ
def Hd.clr (h : Hd) (σ : L2.St) : L2.St := match h.nm with | some i => σ.set i none | none => σ
def Hd.ends (h : Hd) (D : Ends) : Ends := { nx := fun σ' H' => D.nx (h.clr σ') H', rt := D.rt, bk := fun σ' H' => D.bk (h.clr σ') H', ct := fun σ' H' => D.ct (h.clr σ') H' }
def wHs (K : PySem.W.Frag) (Wout : WX) (D : Ends) : List Hd → WX
  | [] => Wout
  | h :: r => fun cls d σ H => ∃ b, PySem.W.exmAny K cls h.cs = some b ∧ (b = true → ∀ a, H a = none → h.ts a cls d (h.ends D) (h.put a σ) H) ∧ (b = false → wHs K Wout D r cls d σ H)
def NmOk (X : Cx) : Option Str → Option Nat → Prop
  | none, none => True
  | some n, some i => X.N.Nodup ∧ X.N[i]? = some n ∧ X.env.kindOf n = some .local
  | _, _ => False
inductive HdsG (X : Cx) : List ExceptHandler → List Hd → Prop
  | nil : HdsG X [] []
  | cons {t : Expr} {h : Hd} {nm : Option Str} {b0 : Stmt} {suite : List Stmt} {pos' : Pos} {hds : List ExceptHandler} {l : List Hd} (hc : TstOk X t h.cs) (hn : NmOk X nm h.nm)
      (hsu : ∀ (a : Addr) (oe : Obj) (cls : Value) (d : Option Addr) (pn : List (Addr × Obj)), Zc cls d oe → (∃ vs, oe.data = .fields vs) → PSs (X.suite a ((a, oe) :: pn)) (b0 :: suite) (h.ts a cls d)) (r : HdsG X hds l) :
      HdsG X (.ExceptHandler (some t) nm (b0 :: suite) pos' :: hds) (h :: l)
section
variable {X : Cx} {pins pn' : List (Addr × Obj)} {s : Shared} {a : Addr} {D : Ends} {f : Flow}
theorem sp_try {xe : Value → Shared → Prop} (ok : X.Ok) (h : SP (X.tr (X.pn ++ pins) xe) pn' D f s) : SP X pins D f s := by
  cases f with
  | ret u => obtain ⟨v, σ, H, J, z⟩ := h; exact ⟨v, σ, H, J.ofTry ok, z⟩
  | _ => obtain ⟨σ, H, J, z⟩ := h; exact ⟨σ, H, J.ofTry ok, z⟩
theorem sp_out {q : Addr × Obj} (ok : X.Ok) (h : SP (X.suite a (q :: (X.pn ++ pins))) pn' D f s) : SP X pins D f s := by
  cases f with
  | ret u => obtain ⟨v, σ, H, J, z⟩ := h; exact ⟨v, σ, H, J.unsuite ok, z⟩
  | _ => obtain ⟨σ, H, J, z⟩ := h; exact ⟨σ, H, J.unsuite ok, z⟩
theorem sp_gone {q : Addr × Obj} {hd : Hd} {i : Nat} {n : Str} {pos : Pos} (ok : X.Ok) (hi : hd.nm = some i) (hn : NmOk X (some n) hd.nm) (h : SP (X.suite a (q :: (X.pn ++ pins))) pn' (hd.ends D) f s) :
    wpAny (model X.prog X.w) X.A (do bindName X.env n .none; unbindBehindTheSuite X.env n pos) (fun _ s2 => SP X pins D f s2) X.xe s := by
  rw [hi] at hn
  obtain ⟨h1, h2, h3⟩ := hn
  have cl : ∀ σ, hd.clr σ = σ.set i none := fun σ => by unfold Hd.clr; rw [hi]
  cases f with
  | ret u => obtain ⟨v, σ, H, J, r, z⟩ := h; exact gone_ok (J.unsuite ok) h1 h2 h3 fun s2 J2 => ⟨v, _, H, J2, r, z⟩
  | _ => obtain ⟨σ, H, J, z⟩ := h; exact gone_ok (J.unsuite ok) h1 h2 h3 fun s2 J2 => ⟨_, H, J2, cl σ ▸ z⟩
theorem clauses {W : WX} {σ : L2.St} {H : Hp} {cls : Value} {d : Option Addr} (ok : X.Ok) (hs : X.stack = X.env :: X.outer) (hf : X.env.frame = some X.env.locals) (tk : Takes X W) : ∀ {hds : List ExceptHandler} {l : List Hd}, HdsG X hds l → ∀ {s : Shared}, Down X pins σ H cls d a s →
    wHs X.K W D l cls d σ H → wpAny (model X.prog X.w) X.A (handleBy (.ref a) X.env hds) (SP X pins D) X.xe s
  | _, _, .nil, s, dn, w => dn.pass hs hf tk w
  | _, _, .cons (h := hd) (nm := nm) hc hn hsu r, s, dn, ⟨b, hb, yes, no⟩ => by
    obtain ⟨oe, z1, _, e1, S⟩ := dn.suite hf
    refine wpAny_handleBy_cons (codeAny_handlers_test (tst_run (X := X.suite a ((a, oe) :: (X.pn ++ pins))) S hc.suite (fun A Q E s' k q => wpAny_typeOf_ref (k _ _ e1) (z1.1.symm ▸ q)) hb fun h1 kp => ?_)) (fun z => nomatch z)
    have dn1 := dn.keeps kp
    cases b with
    | false => exact clauses ok hs hf tk r dn1 (no rfl)
    | true =>
      cases nm with
      | none =>
        refine codeAny_handlers_suite (dn1.again fun h2 dn2 => ?_)
        obtain ⟨o2, z2, d2, _, S2⟩ := dn2.suite hf
        have hnm : hd.nm = none := by cases q : hd.nm with
          | none => rfl
          | some i => rw [q] at hn; exact hn.elim
        have y := yes rfl a dn.no
        rw [show hd.put a σ = σ from by unfold Hd.put; rw [hnm]] at y
        rw [show hd.ends D = D from by unfold Hd.ends Hd.clr; rw [hnm]] at y
        exact wpAny_mono ((hsu a o2 cls d (X.pn ++ pins) z2 d2).run [] _ σ H D S2 y) (fun f s3 z => sp_out ok z) fun _ _ z => z.elim
      | some n =>
        cases hi : hd.nm with
        | none => rw [hi] at hn; exact hn.elim
        | some i =>
          have hn' := hn
          rw [hi] at hn'
          obtain ⟨g1, g2, g3⟩ := hn'
          refine codeAny_handlers_suite_as (dn1.again fun h2 dn2 => ?_)
          obtain ⟨o2, z2, d2, _, S2⟩ := dn2.suite hf
          have y := yes rfl a dn.no
          rw [show hd.put a σ = σ.set i (some (.ref a)) from by unfold Hd.put; rw [hi]] at y
          refine store_ok (X := X.suite a ((a, o2) :: (X.pn ++ pins))) (v := .ref a) S2 g1 g2 (.inl g3) rfl (fun s3 S3 => ?_) (.inr g3)
          exact wpAny_mono ((hsu a o2 cls d (X.pn ++ pins) z2 d2).run [] s3 _ H _ S3 y) (fun f s4 z => sp_gone ok hi hn z) fun _ _ z => z.elim
end
theorem ps_tryG {X : Cx} {body : List Stmt} {h0 : ExceptHandler} {hds : List ExceptHandler} {l : List Hd} {pos : Pos} {tb : WX → TS} {W : WX} (hs : X.stack = X.env :: X.outer) (hf : X.env.frame = some X.env.locals) (tk : Takes X W)
    (hb : ∀ (V : WX) (pn : List (Addr × Obj)) (xe : Value → Shared → Prop), Takes (X.tr pn xe) V → PassesOwn (model X.prog X.w) X.A X.env xe → PSs (X.tr pn xe) body (tb V)) (hh : HdsG X (h0 :: hds) l) : PS X (.Try body (h0 :: hds) [] [] pos) (fun D σ H => tb (wHs X.K W D l) D σ H) :=
  ⟨fun pins s σ H D I h => wpAny_Try_except (wpAny_mono ((hb (wHs X.K W D l) (X.pn ++ pins) (fun e s1 => wpAny (model X.prog X.w) X.A (noteFrame e X.env) (fun _ s2 => wpAny (model X.prog X.w) X.A (setFlight e none) (fun _ s3 => wpAny (model X.prog X.w) X.A (handleBy e X.env (h0 :: hds)) (SP X pins D) X.xe s3) X.xe s2) X.xe s1)
    (fun u s' x => Down.first I.ok hs hf x fun σ1 H1 cls d a s1 e dn w => e ▸ clauses I.ok hs hf tk hh dn w) PassesOwn.looking).run [] s σ H D (I.toTry _) h)
    (fun f s1 z => by
      have z := sp_try I.ok z
      cases f with
      | next => exact wpAny_execs_nil z
      | _ => exact z) fun e s1 z => z)⟩
end DL
set_option Elab.async false
set_option linter.all false
set_option maxRecDepth 100000
set_option maxHeartbeats 2000000
namespace DL
open PySem PySem.Spec PyProof.Rows L2
section
variable {X : Cx} {W : WX} {e : Expr} {te : TE} {td : DTE} {p pos pos' : Pos} {x f : Str} {C : Addr} {k : Nat}
theorem pmk_one (T : ExcT X.prog X.w X.K X.mg X.base k x f C) (ng : NoGd X.A) (rm : Room (k + 1) X.A) (he : PE X e te) (hg : Gl X x := by rfl) (hdb : (x == ("__debug__" : Str)) = false := by decide) (hs : starEach [e] X.env = (false, eval e X.env) :: starEach [] X.env := by rfl)
    (hpl : (backTo pos (starEach [] X.env)).any (·.1) = false := by rfl) : PMk X (.Call (.Name x p) [e] [] pos) (fun σ H Q => te σ H fun v H1 => ∀ d, H1 d = none → Q (.ref C) (some d) (upd H1 d (.xd [(f, v)]))) := by
  obtain ⟨fI, fd, i1, i2, hb, F1⟩ := T.ini
  intro pins s σ H Q I h
  obtain ⟨nm, q, N, bs, bm, sn, sub, ab, col, dd, k0, k1, k2, k3, k5, hC, hbm⟩ := T.oex.cls
  refine wpAny_Call_Name_kw (ld_glob I hg T.mgC ?_ hdb)
  refine PySem.W.callWith_K (h₀ := X.base) I.ok.mod.kin T.oex.kC (thn (PA.run (pa_cons he pa_nil hs) pos pins s σ H (fun vs H1 => ∃ v, vs = [v] ∧ ∀ d, H1 d = none → Q (.ref C) (some d) (upd H1 d (.xd [(f, v)]))) I (show tCons te tNil σ H _ from (show te σ H _ from by simpa [tCons, tNil] using h))) fun us s1 z => ?_) hs hpl
  obtain ⟨vs, H1, J, rv, v, ev, q1⟩ := z
  subst ev
  refine ⟨J.kIn, ?_⟩
  obtain ⟨u, rfl, ru⟩ := vals1 rv
  obtain ⟨hp, g, dr, tk, os⟩ := s1
  show wpAny _ _ (call (.ref C) [u]) _ _ _
  generalize ha : hp.objs.size + 1 = a
  have hsz : hp.objs.size ≤ a := by omega
  have hn : H1 a = none := J.hok.fresh hsz
  have kk : ∀ b o, hp.get? b = some o → ((hp.push (PySem.W.kdv_tup [u])).push (PySem.HandSPX.excO C hp.objs.size)).get? b = some o := fun b o z => Heap.get?_push_of_some _ (Heap.get?_push_of_some _ z)
  have hget : ((hp.push (PySem.W.kdv_tup [u])).push (PySem.HandSPX.excO C hp.objs.size)).get? a = some (PySem.HandSPX.excO C hp.objs.size) := by rw [← ha]; heap_get
  have I2 : L2.Inv X pins σ (upd H1 a (exo a C none)) ⟨(hp.push (PySem.W.kdv_tup [u])).push (PySem.HandSPX.excO C hp.objs.size), g, dr, tk, os⟩ := J.laid (t' := tk) (a := a) (o := exo a C none) (h' := (hp.push (PySem.W.kdv_tup [u])).push (PySem.HandSPX.excO C hp.objs.size)) kk hsz (exo_ok hget)
  have r2 : Vals [V.ref a, v] [Value.ref a, u] := .cons rfl (.cons ru .nil)
  have pr : spI C f [.ref a, v] (upd H1 a (exo a C none)) (fun r H2 => r = .non ∧ ∃ d, H1 d = none ∧ H2 a = some (exo a C (some d)) ∧ H2 d = some (exd d [(f, v)]) ∧ upd (del H2 a) d (.xd [(f, v)]) = upd H1 d (.xd [(f, v)])) (fun _ _ _ => False) := by
    refine ⟨a, v, rfl, upd_same, fun dx hd ne => ⟨rfl, dx, ?_, upd_same, ?_, ?_⟩⟩
    · rw [upd_ne ne] at hd; exact hd
    · rw [upd_ne ne, upd_same]
    · funext b
      by_cases e2 : b = dx
      · subst e2; rw [upd_same, upd_same]
      · rw [upd_ne e2, upd_ne e2]
        by_cases e1 : b = a
        · subst e1; rw [del_same, hn]
        · rw [del_ne e1, upd_ne e1, upd_ne e2, upd_ne e1]
  have bt := hb ⟨(hp.push (PySem.W.kdv_tup [u])).push (PySem.HandSPX.excO C hp.objs.size), g, dr, tk, os⟩ [Value.ref a, u] I2.kIn rfl
  rw [List.append_nil] at bt
  refine wpAny_call (PySem.HandSPX.call_own F.excBase_ValueError (fun Y => PySem.HandSPX.refsVE_contains Y bm hbm) (J.kIn _ _ hC) (PySem.W.looks_findIn J.kIn i1) (fun self => PySem.W.bind_fn J.kIn self i2) (by show 1 ≤ sizeLine; decide)
    (codeAny_mono (F1.run _ X.stack _ _ ⟨[Value.ref _, u], []⟩ [Value.ref _, u] _ _ (fun _ _ _ => False) (nogd_make ng C [u] []) (rm.make C [u] []) (I2.env0.make C [u] []) (by first | exact bt | (rw [ha]; exact bt)) (by first | exact r2 | (rw [ha]; exact r2)) (by first | exact pr | (rw [ha]; exact pr))) fun r s' hq' => ?_))
  cases r with
  | error er => exact passL pins σ _ _ er s' I2 hq'
  | ok fl => cases fl with
    | ret w =>
      obtain ⟨v', H2, o1, o2, un, ok2, rr, e1, d, hd1, ea, ed, eH⟩ := hq'
      subst e1
      obtain ⟨h2, g2, d2, t2, os'⟩ := s'
      refine ⟨rr, ?_⟩
      have qq := q1 d hd1
      rw [← eH] at qq
      have fin := mk_end (d2 := d2) (t2 := t2) (raises_own T.oex.exC T.oex.tyC) J hsz kk un ok2 o1 o2 ea ed hd1 qq
      first | exact fin | (rw [ha]; exact fin)
    | next => cases hq'
    | brk => cases hq'
    | cont => cases hq'
theorem HR.xdN {K : PySem.W.Frag} {I : Hp} {M : Mp} {F H : Hp} (h : HR K I M F H) {d : Addr} {vs : List (Str × V)} {fs : List (Str × D)} (hd : H d = none) (r : RepF K I vs fs) : XD K I M F (upd H d (.xd vs)) (some d) (some fs) := by
  obtain ⟨a, b, c⟩ := h.fresh hd
  exact ⟨⟨vs, upd_same, r⟩, a, b, c⟩
def dRaise (C : Addr) (f : Str) (td : DTE) : DTS := fun Dd δ M => td δ M (fun d M1 => Dd.ex (.ref C) (some [(f, d)]) δ M1) (fun c fo M' => Dd.ex c fo δ M')
theorem s_raise (T : ExcT X.prog X.w X.K X.mg X.base k x f C) (g : Good X W) (rm : Room (k + 1) X.A) (he : DE X W e td) (hg : Gl X x := by rfl) (hdb : (x == ("__debug__" : Str)) = false := by decide) (hs : starEach [e] X.env = (false, eval e X.env) :: starEach [] X.env := by rfl)
    (hpl : (backTo pos (starEach [] X.env)).any (·.1) = false := by rfl) : DSt X W (.Raise (some (.Call (.Name x p) [e] [] pos)) none pos') (dRaise C f td) := ps_imp (ps_raise g.calm g.tk (pmk_one T g.ng rm he hg hdb hs hpl)) fun Dn σ H h => by
  obtain ⟨I, M, F, δ, Dd, hr, rs, q, fs⟩ := h
  refine ⟨I, M, F, δ, _, _, hr, rs, q, fun d M1 I1 H1 v q1 s1 hr1 r1 dx hd => ?_, fs.x rs⟩
  exact fs.ex _ _ δ M1 I1 _ σ (some dx) q1 s1 (hr1.bump hd _) (rs.mono s1) (hr1.xdN hd (.cons r1 .nil))
end
structure DHd where
  cs : List Value
  nm : Option Nat
  ts : Addr → Value → Option Addr → DTS
def DHd.put (h : DHd) (a : Addr) (δ : DS) : DS := match h.nm with | some i => δ.set i (some (.ref a)) | none => δ
def DHd.clr (h : DHd) (δ : DS) : DS := match h.nm with | some i => δ.set i none | none => δ
def DHd.ends (h : DHd) (D : DEnds) : DEnds := { nx := fun δ M => D.nx (h.clr δ) M, rt := D.rt, ex := fun _ _ _ _ => False, bk := fun δ M => D.bk (h.clr δ) M, ct := fun δ M => D.ct (h.clr δ) M }
def DHd.hit (h : DHd) (Dd : DEnds) (cls : Value) (fo : Option (List (Str × D))) (δ : DS) (M : Mp) : Prop := match fo with
  | none => ∀ a, M a = none → h.ts a cls none (h.ends Dd) (h.put a δ) M
  | some fs => ∀ a d, M a = none → M d = none → a ≠ d → h.ts a cls (some d) (h.ends Dd) (h.put a δ) (updM M d (.xd fs))
def dClauses (xm : Value → List Value → Option Bool) (Dd : DEnds) : List DHd → Value → Option (List (Str × D)) → DS → Mp → Prop
  | [] => Dd.ex
  | h :: r => fun cls fo δ M => ∃ b, xm cls h.cs = some b ∧ br b (h.hit Dd cls fo δ M) (dClauses xm Dd r cls fo δ M)
def dTry (xm : Value → List Value → Option Bool) (hs : List DHd) (tb : DTS) : DTS := fun Dd δ M => tb { Dd with ex := dClauses xm Dd hs } δ M
def noW : WX := fun _ _ _ _ => False
def DHd.lift (K : PySem.W.Frag) (h : DHd) : Hd := ⟨h.cs, h.nm, fun a cls d => lS K noW (h.ts a cls d)⟩
theorem HR.adopt {K : PySem.W.Frag} {I : Hp} {M : Mp} {F H : Hp} (h : HR K I M F H) {d : Addr} {fs : List (Str × D)} (x : XD K I M F H (some d) (some fs)) : HR K I (updM M d (.xd fs)) F H := by
  obtain ⟨⟨vs, e, r⟩, a1, a2, a3⟩ := x
  refine ⟨h.imm, fun a m q => ?_, fun a u q => ?_, h.ft⟩
  · by_cases z : a = d
    · subst z; rw [updM_same] at q; cases q; exact ⟨a1, _, e, vs, rfl, r⟩
    · rw [updM_ne z] at q; exact h.mu a m q
  · have z : a ≠ d := fun z => by rw [z, a3] at q; cases q
    rw [updM_ne z]; exact h.frm a u q
theorem put_rep {K : PySem.W.Frag} {I : Hp} {σ : L2.St} {δ : DS} (h : DHd) (a : Addr) (r : RepS K I σ δ) : RepS K I ((h.lift K).put a σ) (h.put a δ) := by
  unfold Hd.put DHd.put DHd.lift
  cases h.nm with
  | none => exact r
  | some i => exact r.set i (.ref a)
theorem clr_rep {K : PySem.W.Frag} {I : Hp} {σ : L2.St} {δ : DS} (h : DHd) (r : RepS K I σ δ) : RepS K I ((h.lift K).clr σ) (h.clr δ) := by
  unfold Hd.clr DHd.clr DHd.lift
  cases h.nm with
  | none => exact r
  | some i => exact r.forget i
theorem hit_fin {K : PySem.W.Frag} {W : WX} {I F : Hp} {Dd : DEnds} {Dn : Ends} (h : DHd) (f : FinS K W I F Dd Dn) : FinS K noW I F (h.ends Dd) ((h.lift K).ends Dn) :=
  ⟨fun δ' M' I' H' σ' q s hr rs => f.nx _ M' I' H' _ q s hr (clr_rep h rs), f.rt, fun _ _ _ _ _ _ _ _ z => z.elim, fun δ' M' I' H' σ' q s hr rs => f.bk _ M' I' H' _ q s hr (clr_rep h rs), fun δ' M' I' H' σ' q s hr rs => f.ct _ M' I' H' _ q s hr (clr_rep h rs)⟩
theorem clauses_lift {K : PySem.W.Frag} {W : WX} {I F H : Hp} {M : Mp} {Dd : DEnds} {Dn : Ends} {σ : L2.St} {δ : DS} {cls : Value} {dd : Option Addr} {fo : Option (List (Str × D))} (f : FinS K W I F Dd Dn) (hr : HR K I M F H) (rs : RepS K I σ δ) (x : XD K I M F H dd fo) :
    ∀ hs : List DHd, dClauses (PySem.W.exmAny K) Dd hs cls fo δ M → wHs K W Dn (hs.map (DHd.lift K)) cls dd σ H
  | [], q => f.ex cls fo δ M I H σ dd q (Same.refl I) hr rs x
  | h :: r, ⟨b, e, q⟩ => by
    refine ⟨b, e, fun eb a ha => ?_, fun eb => ?_⟩
    · subst eb
      have na := (hr.fresh ha).2.1
      match dd, fo, x with
      | none, none, _ => exact ⟨I, M, F, _, _, hr, put_rep h a rs, q a na, hit_fin h f⟩
      | some d, some fs, x =>
        have ne : a ≠ d := fun z => by
          obtain ⟨⟨vs, e, _⟩, _⟩ := x
          rw [z, e] at ha; cases ha
        exact ⟨I, _, F, _, _, hr.adopt x, put_rep h a rs, q a d na x.2.2.1 ne, hit_fin h f⟩
    · subst eb
      exact clauses_lift f hr rs x r q
inductive DHds (X : Cx) : List ExceptHandler → List DHd → Prop
  | nil : DHds X [] []
  | cons {t : Expr} {h : DHd} {nm : Option Str} {b0 : Stmt} {suite : List Stmt} {pos' : Pos} {hds : List ExceptHandler} {l : List DHd} (hc : TstOk X t h.cs) (hn : NmOk X nm h.nm)
      (hsu : ∀ (a : Addr) (oe : Obj) (cls : Value) (d : Option Addr) (pn : List (Addr × Obj)), Zc cls d oe → (∃ vs, oe.data = .fields vs) → DSs (X.suite a ((a, oe) :: pn)) noW (b0 :: suite) (h.ts a cls d)) (r : DHds X hds l) :
      DHds X (.ExceptHandler (some t) nm (b0 :: suite) pos' :: hds) (h :: l)
theorem DHds.lift {X : Cx} : ∀ {hds : List ExceptHandler} {l : List DHd}, DHds X hds l → HdsG X hds (l.map (DHd.lift X.K))
  | _, _, .nil => .nil
  | _, _, .cons hc hn hsu r => .cons (h := DHd.lift X.K _) hc hn hsu r.lift
theorem s_try {X : Cx} {W : WX} {body : List Stmt} {h0 : ExceptHandler} {hds : List ExceptHandler} {l : List DHd} {pos : Pos} {tb : DTS} (g : Good X W) (hb : ∀ (V : WX) (pn : List (Addr × Obj)) (xe : Value → Shared → Prop), Good (X.tr pn xe) V → DSs (X.tr pn xe) V body tb) (hh : DHds X (h0 :: hds) l)
    (hs : X.stack = X.env :: X.outer := by rfl) (hf : X.env.frame = some X.env.locals := by rfl) : DSt X W (.Try body (h0 :: hds) [] [] pos) (dTry (PySem.W.exmAny X.K) l tb) :=
  ps_imp (ps_tryG (tb := fun V => lS X.K V tb) hs hf g.tk (fun V pn xe tk own => hb V pn xe ⟨g.calm, tk, own, g.ng⟩) hh.lift) fun Dn σ H h => by
    obtain ⟨I, M, F, δ, Dd, hr, rs, q, f⟩ := h
    exact ⟨I, M, F, δ, _, hr, rs, q, ⟨f.nx, f.rt, fun cls fo δ' M' I' H' σ' dd z s hr' rs' x => clauses_lift (f.mono s) hr' rs' x l z, f.bk, f.ct⟩⟩
def dXF (a : Addr) (cls : Value) (d : Option Addr) (C : Addr) (f : Str) (te : DTE) : DTE := fun δ M Q E => te δ M (fun x M1 => x = .ref a ∧ cls = .ref C ∧ ∃ dd fs v, d = some dd ∧ M1 dd = some (.xd fs) ∧ fs.lookup f = some v ∧ Q v M1) E
theorem RepF.get {K : PySem.W.Frag} {I : Hp} {f : Str} {d : D} : ∀ {vs : List (Str × V)} {fs : List (Str × D)}, RepF K I vs fs → fs.lookup f = some d → ∃ v, vs.lookup f = some v ∧ Rep K I v d
  | _, _, .nil, h => nomatch h
  | _, _, .cons (k := k) r rr, h => by
    rw [List.lookup_cons] at h ⊢
    cases e : f == k with
    | true => rw [e] at h; cases h; exact ⟨_, rfl, r⟩
    | false => rw [e] at h; exact RepF.get rr h
theorem d_xf {X : Cx} {W : WX} {a C : Addr} {oe : Obj} {cls : Value} {d : Option Addr} {pn : List (Addr × Obj)} {e : Expr} {te : DTE} {pos : Pos} {n : Str} (T : XfC X.K C) (hno : PySem.W.findIn X.K (.ref C) n = some none)
    (hz : Zc cls d oe) (hf : ∃ vs, oe.data = .fields vs) (he : DE (X.suite a ((a, oe) :: pn)) W e te) (hb : attributeBase e n X.env (eval e X.env) = eval e X.env := by rfl) : DE (X.suite a ((a, oe) :: pn)) W (.Attribute e n pos) (dXF a cls d C n te) :=
  pe_imp (pe_xf T hno hz hf he hb) fun σ H Q h => by
    obtain ⟨I, M, F, δ, Qd, Ed, hr, rs, q, fq, fx⟩ := h
    refine ⟨I, M, F, δ, _, Ed, hr, rs, q, fun x M1 I1 H1 v q1 s1 hr1 r1 => ?_, fx⟩
    obtain ⟨e1, e2, dd, fs, w, e3, e4, e5, q2⟩ := q1
    subst e1
    cases r1
    obtain ⟨_, o, e6, vs, rfl, rf⟩ := hr1.mu dd _ e4
    obtain ⟨u, e7, ru⟩ := rf.get e5
    exact ⟨rfl, e2, dd, vs, u, e3, e6, e7, fq _ M1 I1 H1 _ q2 s1 hr1 ru⟩
end DL
set_option Elab.async false
set_option linter.all false
set_option maxRecDepth 100000
set_option maxHeartbeats 2000000
namespace DL
open PySem PySem.Spec PyProof.Rows L2
def ArgsOk (X : Cx) (W : WX) (pos : Pos) (es : List Expr) (kws : List Keyword) (ks : List Str) (ta tk : DTA) : Prop :=
  ∀ (pins : List (Addr × Obj)) (s : Shared) (σ : L2.St) (H : Hp) (f : Value) (first : List Value) (Q : Value → Shared → Prop) (R : List D → List D → Mp → Prop) (I : Hp) (M : Mp) (F : Hp) (δ : DS) (Ed : DXK), PySem.W.keepIn X.K f = true → L2.Inv X pins σ H s → HR X.K I M F H → RepS X.K I σ δ →
    ta δ M (fun ds M1 => tk δ M1 (fun es M2 => R ds es M2) Ed) Ed → FinX X.K I F Ed (WE W σ) →
    (∀ us ws vs zs ds es I2 M2 H2 s2, L2.Inv X pins σ H2 s2 → Vals vs us → Vals zs ws → Same I I2 → HR X.K I2 M2 F H2 → Reps X.K I2 vs ds → Reps X.K I2 zs es → R ds es M2 → wpAny (model X.prog X.w) X.A (call f (first ++ us) (ks.zip ws)) Q X.xe s2) →
    wpAny (model X.prog X.w) X.A (callWith pos f first (backTo pos (starEach es X.env)) (backToKw pos (keywordEach kws X.env))) Q X.xe s
section
variable {X : Cx} {W : WX} {e : Expr} {es : List Expr} {te : DTE} {ta tk : DTA} {pos p : Pos} {kws : List Keyword} {ks : List Str}
theorem args_p (ha : DA X W (e :: es) ta) (he : starEach (e :: es) X.env = (false, eval e X.env) :: starEach es X.env := by rfl) (hpl : (backTo pos (starEach es X.env)).any (·.1) = false := by rfl) : ArgsOk X W pos (e :: es) [] [] ta dNil := fun pins s σ H f first Q R I M F δ Ed hk J hr rs q fx h => by
  refine PySem.W.callWith_K (h₀ := X.base) J.ok.mod.kin hk (thn (PA.run ha pos pins s σ H (fun vs H1 => ∃ I1 M1 ds, Same I I1 ∧ HR X.K I1 M1 F H1 ∧ Reps X.K I1 vs ds ∧ R ds [] M1) J ⟨I, M, F, δ, _, Ed, hr, rs, q, fun ds M1 I1 H1 vs q1 s1 hr1 r1 => ⟨I1, M1, ds, s1, hr1, r1, q1⟩, fx⟩) fun us s1 z => ?_) he hpl
  obtain ⟨vs, H1, J1, rv, I1, M1, ds, e1, hr1, rd, q1⟩ := z
  exact ⟨J1.kIn, h us [] vs [] ds [] I1 M1 H1 s1 J1 rv .nil e1 hr1 rd .nil q1⟩
end
structure FnA (P : Program) (w : World) (K : PySem.W.Frag) (mg : Str → Option Value) (base : Heap) (k : Nat) (f : Addr) (ps : List Str) (sp : DSp) (pats : List Pat) : Prop where
  ex : ∃ fd : FuncData, (∀ (i : Nat) (p : Pat), pats[i]? = some p → KBd K fd ps p.n p.ks p.g) ∧ FnG P w K mg base (L2.CX P w) k f fd ps (lSp K sp)
theorem dfunA {P : Program} {w : World} {K : PySem.W.Frag} {mg : Str → Option Value} {base : Heap} {x qual : Str} {st : Stmt} {f : Addr} {fd : FuncData} {N ps : List Str} {k : Nat} {sp : DSp} {dvs : List V} {kws : List (Str × V)} {pats : List Pat} (F : FunD K x qual (defArgs st) (defBody st) (defScope st) dvs kws f fd)
    (hb : ∀ (i : Nat) (p : Pat), pats[i]? = some p → KBd K fd ps p.n p.ks p.g) (S : FnScope N ps (defScope st)) (len : ∀ ds M Q E, sp ds M Q E → ds.length = ps.length)
    (body : ∀ (cdv : Value) (A : Around) (l : List Env) (s : Shared) (H : Hp) (E : XK), Good (cxOf (L2.CX P w) P w K mg base N qual (defScope st) f cdv A l s H E) (fun cls d _ H => E cls d H) → Room k (A.deeper (envOfC qual (defScope st) s.heap.objs.size f cdv)) →
      ∃ t, DSs (cxOf (L2.CX P w) P w K mg base N qual (defScope st) f cdv A l s H E) (fun cls d _ H => E cls d H) (defBody st) t ∧ ∀ ds M Qd Ed, sp ds M Qd Ed → t { nx := fun _ M' => Qd .non M', rt := Qd, ex := fun c fo _ M' => Ed c fo M' } (dstart N ds) M) :
    FnA P w K mg base (k + 1) f ps sp pats := by
  obtain ⟨oc, od, dV, kV, doc, pm, an, cdv, ct, osl, rfl, lk, hcd, _, _⟩ := F.ex
  refine ⟨_, hb, fng_of lk hcd S (fun vs H Q E h => ?_) fun A l s H vs Q E ng rm h => ?_⟩
  · obtain ⟨I, M, Fr, ds, Qd, Ed, hr, rs, q, _, _⟩ := h
    exact rs.len.trans (len _ _ _ _ q)
  · obtain ⟨t, ht, hq⟩ := body cdv A l s H E (good_of ng) rm
    obtain ⟨I, M, Fr, ds, Qd, Ed, hr, rs, q, fq, fx⟩ := h
    exact ⟨_, ht, I, M, Fr, _, _, hr, reps_start rs, hq ds M Qd Ed q, ⟨fun δ' M' I' H' σ' q' s' hr' rs' => fq _ M' I' H' _ q' s' hr' .non, fq, fun c fo δ' M' I' H' σ' dd q' s' hr' rs' xd => fx c fo M' I' H' dd q' s' hr' xd, fun _ _ _ _ _ z => z.elim, fun _ _ _ _ _ z => z.elim⟩⟩
theorem kb_plain {K : PySem.W.Frag} {fd : FuncData} {ps : List Str} {n : Nat} (hn : ps.length = n) (h : ∀ us : List Value, us.length = ps.length → bindArgs fd ⟨us, []⟩ = pure (ps.zip us)) : KBd K fd ps n [] (fun ds _ => ds) := fun s I us ws vs zs ds es hK l1 l2 rv rz rd re => by
  have e : ws = [] := len_nil l2
  subst e
  exact ⟨us, vs, .of_eq (h us (l1.trans hn.symm)), rv, rd⟩
structure FnN (P : Program) (w : World) (K : PySem.W.Frag) (mg : Str → Option Value) (base : Heap) (k : Nat) (x : Str) (ps : List Str) (sp : DSp) (pats : List Pat) : Prop where
  ex : ∃ f : Addr, mg x = some (.ref f) ∧ PySem.W.keepIn K (.ref f) = true ∧ FnA P w K mg base k f ps sp pats
section
variable {X : Cx} {W : WX} {es : List Expr} {kws : List Keyword} {ks ps : List Str} {ta tk : DTA} {pos p apos : Pos} {x m : Str} {k n j : Nat} {sp : DSp} {pats : List Pat} {gg : List D → List D → List D} {C : Addr} {o : Expr} {to : DTE}
theorem run_a {pins : List (Addr × Obj)} {σ : L2.St} {H : Hp} {s : Shared} {Q : VK} {us ws : List Value} {vs zs : List V} {ds es : List D} {I F : Hp} {M : Mp} {Qd : DK} {Ed : DXK} {f : Addr} (i : Nat) (g : Good X W) (rm : Room k X.A) (Fa : FnA X.prog X.w X.K X.mg X.base k f ps sp pats) (hi : pats[i]? = some ⟨n, ks, gg⟩)
    (J : L2.Inv X pins σ H s) (rv : Vals vs us) (rz : Vals zs ws) (hr : HR X.K I M F H) (rd : Reps X.K I vs ds) (re : Reps X.K I zs es) (h1 : ds.length = n) (h2 : es.length = ks.length) (q : sp (gg ds es) M Qd Ed) (fq : Fin X.K I F Qd Q) (fx : FinX X.K I F Ed (WE W σ)) :
    wpAny (model X.prog X.w) X.A (call (.ref f) us (ks.zip ws)) (EP X pins σ Q) X.xe s := by
  obtain ⟨fd, kb, G⟩ := Fa.ex
  exact run_k (pats := pats) (pt := ⟨n, ks, gg⟩) g rm (kb i _ hi) G J rv rz hr rd re h1 h2 q fq fx
structure MtOk (P : Program) (w : World) (K : PySem.W.Frag) (mg : Str → Option Value) (base : Heap) (k : Nat) (C : Addr) (m : Str) (ps : List Str) (sp : DSp) (pats : List Pat) : Prop where
  cls : Cls K C
  ex : ∃ f, Meth K C m f ∧ FnA P w K mg base k f ps sp pats
theorem RepF.no {K : PySem.W.Frag} {I : Hp} {f : Str} : ∀ {vs : List (Str × V)} {fs : List (Str × D)}, RepF K I vs fs → fs.lookup f = none → vs.lookup f = none
  | _, _, .nil, _ => rfl
  | _, _, .cons (k := k) r rr, h => by
    rw [List.lookup_cons] at h ⊢
    cases e : f == k with
    | true => rw [e] at h; cases h
    | false => rw [e] at h; exact RepF.no rr h
abbrev Ent := Addr × DSp × (List D → List D → List D)
def dTab : List Ent → Addr → (DSp → (List D → List D → List D) → Prop) → Prop
  | [], _, _ => False
  | [(c, sp, gg)], C, k => C = c ∧ k sp gg
  | (c, sp, gg) :: r, C, k => (C = c ∧ k sp gg) ∨ dTab r C k
inductive Tab (X : Cx) (m : Str) (n : Nat) (ks : List Str) : List Ent → Prop
  | nil : Tab X m n ks []
  | cons {k : Nat} {C : Addr} {ps : List Str} {sp : DSp} {pats : List Pat} {gg : List D → List D → List D} {r : List Ent} (i : Nat) (h : MtOk X.prog X.w X.K X.mg X.base k C m ps sp pats) (rm : Room k X.A) (hi : pats[i]? = some ⟨n, ks, gg⟩) (hr : Tab X m n ks r) : Tab X m n ks ((C, sp, gg) :: r)
theorem Tab.get {ks : List Str} : ∀ {tab : List Ent}, Tab X m n ks tab → ∀ {C : Addr} {Φ : DSp → (List D → List D → List D) → Prop}, dTab tab C Φ → ∃ (k : Nat) (ps : List Str) (sp : DSp) (pats : List Pat) (i : Nat) (gg : List D → List D → List D), MtOk X.prog X.w X.K X.mg X.base k C m ps sp pats ∧ Room k X.A ∧ pats[i]? = some ⟨n, ks, gg⟩ ∧ Φ sp gg
  | _, .nil, _, _, h => h.elim
  | _, .cons i h rm hi .nil, _, _, ⟨e, q⟩ => ⟨_, _, _, _, i, _, e ▸ h, rm, hi, q⟩
  | _, .cons i h rm hi (.cons i2 h2 rm2 hi2 r), _, _, q => by
    rcases q with ⟨e, q⟩ | q
    · exact ⟨_, _, _, _, i, _, e ▸ h, rm, hi, q⟩
    · exact Tab.get (.cons i2 h2 rm2 hi2 r) q
structure MkOk (P : Program) (w : World) (K : PySem.W.Frag) (mg : Str → Option Value) (base : Heap) (k : Nat) (x : Str) (C : Addr) (ps : List Str) (sp : DSp) (pats : List Pat) : Prop where
  mgC : mg x = some (.ref C)
  ex : ∃ f, Mk K C f ∧ FnA P w K mg base k f ps sp pats
def delM (M : Mp) (a : Addr) : Mp := fun b => if b = a then none else M b
theorem delM_same {M : Mp} {a : Addr} : delM M a a = none := if_pos rfl
theorem delM_ne {M : Mp} {a b : Addr} (h : b ≠ a) : delM M a b = M b := if_neg h
def putFD (f : Str) (d : D) : List (Str × D) → List (Str × D)
  | [] => [(f, d)]
  | (g, x) :: r => if g = f then (g, d) :: r else (g, x) :: putFD f d r
theorem RepF.put {K : PySem.W.Frag} {I : Hp} {f : Str} {v : V} {d : D} (r : Rep K I v d) : ∀ {vs : List (Str × V)} {fs : List (Str × D)}, RepF K I vs fs → RepF K I (putF f v vs) (putFD f d fs)
  | _, _, .nil => .cons r .nil
  | _, _, .cons (k := g) a b => by
    unfold putF putFD
    by_cases e : g = f
    · rw [if_pos e, if_pos e]; exact .cons r b
    · rw [if_neg e, if_neg e]; exact .cons a (RepF.put r b)
theorem RepF.len {K : PySem.W.Frag} {I : Hp} : ∀ {vs : List (Str × V)} {fs : List (Str × D)}, RepF K I vs fs → vs.length = fs.length
  | _, _, .nil => rfl
  | _, _, .cons _ r => congrArg (· + 1) r.len
end
end DL
set_option Elab.async false
set_option linter.all false
set_option maxRecDepth 100000
set_option maxHeartbeats 2000000
namespace DL
open PySem PySem.Spec PyProof.Rows L2
inductive Sh where
  | leaf (t : Str) | lst (xs : List Sh) | tup (xs : List Sh) | dct (ks vs : List Sh)
mutual
def Sh.text : Sh → Str
  | .leaf t => t
  | .lst xs => listText (Sh.texts xs)
  | .tup xs => tupleText (Sh.texts xs)
  | .dct ks vs => dictText (List.zipWith (fun k v : Str => k ++ ": " ++ v) (Sh.texts ks) (Sh.texts vs))
def Sh.texts : List Sh → List Str
  | [] => []
  | x :: r => x.text :: Sh.texts r
end
mutual
def Sh.dep : Sh → Nat
  | .leaf _ => 0
  | .lst xs => Sh.deps xs + 1
  | .tup xs => Sh.deps xs + 1
  | .dct ks vs => max (Sh.deps ks) (Sh.deps vs) + 1
def Sh.deps : List Sh → Nat
  | [] => 0
  | x :: r => max x.dep (Sh.deps r)
end
mutual
def Sh.w : Sh → Nat
  | .leaf t => t.length
  | .lst xs => Sh.ws xs + 3
  | .tup xs => Sh.ws xs + 3
  | .dct ks vs => Sh.ws ks + Sh.ws vs + 3
def Sh.ws : List Sh → Nat
  | [] => 0
  | x :: r => x.w + 2 + Sh.ws r
end
theorem zip_len : ∀ (a b : List Str), ((List.zipWith (fun k v : Str => k ++ ": " ++ v) a b).map (·.length)).sum + 2 * (List.zipWith (fun k v : Str => k ++ ": " ++ v) a b).length ≤ (a.map (·.length)).sum + 2 * a.length + ((b.map (·.length)).sum + 2 * b.length)
  | [], b => by simp
  | a :: r, [] => by simp
  | a :: r, b :: s => by
    have ih := zip_len r s
    simp only [List.zipWith_cons_cons, List.map_cons, List.sum_cons, List.length_cons]
    have e : (a ++ Str.ofString ": " ++ b).length = a.length + 2 + b.length := by rw [Str.length_append, Str.length_append]; rfl
    omega
mutual
theorem Sh.text_le : ∀ s : Sh, s.text.length ≤ s.w
  | .leaf t => by unfold Sh.text Sh.w; exact Nat.le_refl _
  | .lst xs => by
    have a := listText_len_le (Sh.texts xs)
    have b := Sh.texts_le xs
    unfold Sh.text Sh.w
    omega
  | .tup xs => by
    have a := tupleText_len_le (Sh.texts xs)
    have b := Sh.texts_le xs
    unfold Sh.text Sh.w
    omega
  | .dct ks vs => by
    have a := dictText_len_le (List.zipWith (fun k v : Str => k ++ ": " ++ v) (Sh.texts ks) (Sh.texts vs))
    have b := Sh.texts_le ks
    have c := Sh.texts_le vs
    have d := zip_len (Sh.texts ks) (Sh.texts vs)
    unfold Sh.text Sh.w
    omega
theorem Sh.texts_le : ∀ xs : List Sh, ((Sh.texts xs).map (·.length)).sum + 2 * (Sh.texts xs).length ≤ Sh.ws xs
  | [] => by simp [Sh.texts, Sh.ws]
  | x :: r => by
    have a := Sh.text_le x
    have b := Sh.texts_le r
    simp only [Sh.texts, Sh.ws, List.map_cons, List.sum_cons, List.length_cons]
    omega
end
def RepB (P : Program) (w : World) (h : Heap) (v : Value) (t : Str) : Prop := ∀ (A : Around) (E : Value → Shared → Prop) (s : Shared) (Q : Value → Shared → Prop), A.guards = some [] → A.units + 2 < cLine → (∀ b o, h.get? b = some o → s.heap.get? b = some o) →
  (∀ h' u tk, (∀ b o, s.heap.get? b = some o → h'.get? b = some o) → Q (.str t u) { s with heap := h', toks := tk }) → wpAny (model P w) A (call (.builtin "repr") [v]) Q E s
mutual
inductive Rsh (P : Program) (w : World) (h : Heap) : Value → Sh → Prop
  | leaf {v : Value} {t : Str} : (∀ b, v ≠ .ref b) → ReprIs P w v t → RepB P w h v t → Rsh P w h v (.leaf t)
  | opq {a : Addr} {o : Obj} {t : Str} : h.get? a = some o → (∀ vs n, o.data ≠ .seq vs n) → (∀ es n, o.data ≠ .dict es n) → ReprK P w [] h 0 (.ref a) t → RepB P w h (.ref a) t → Rsh P w h (.ref a) (.leaf t)
  | lst {a : Addr} {o : Obj} {vs : Array Value} {n : Nat} {xs : List Sh} : h.get? a = some o → o.cls = .type "list" → o.data = .seq vs n → Rshs P w h vs.toList xs → Rsh P w h (.ref a) (.lst xs)
  | tup {a : Addr} {o : Obj} {vs : Array Value} {n : Nat} {xs : List Sh} : h.get? a = some o → o.cls = .type "tuple" → o.data = .seq vs n → Rshs P w h vs.toList xs → Rsh P w h (.ref a) (.tup xs)
  | dct {a : Addr} {o : Obj} {es : Array DictEntry} {n : Nat} {ks vs : List Sh} : h.get? a = some o → o.cls = .type "dict" → o.data = .dict es n → (a == sysModules) = false → Rshs P w h (es.toList.map (·.key)) ks → Rshs P w h (es.toList.map (·.val)) vs → Rsh P w h (.ref a) (.dct ks vs)
inductive Rshs (P : Program) (w : World) (h : Heap) : List Value → List Sh → Prop
  | nil : Rshs P w h [] []
  | cons {v : Value} {s : Sh} {vs : List Value} {ss : List Sh} : Rsh P w h v s → Rshs P w h vs ss → Rshs P w h (v :: vs) (s :: ss)
end
section
variable {P : Program} {w : World} {h : Heap}
mutual
theorem Rsh.same : ∀ {v : Value} {s s' : Sh}, Rsh P w h v s → Rsh P w h v s' → s.dep = s'.dep
  | _, _, _, .leaf n _ _, r => by
    cases r with
    | leaf _ _ _ => rfl
    | _ => exact absurd rfl (n _)
  | _, _, _, .opq e n1 n2 _ _, r => by
    cases r with
    | leaf n _ _ => exact absurd rfl (n _)
    | opq _ _ _ _ _ => rfl
    | lst e' _ d _ => rw [e] at e'; cases e'; exact absurd d (n1 _ _)
    | tup e' _ d _ => rw [e] at e'; cases e'; exact absurd d (n1 _ _)
    | dct e' _ d _ _ _ => rw [e] at e'; cases e'; exact absurd d (n2 _ _)
  | _, _, _, .lst e c d rs, r => by
    cases r with
    | leaf n _ _ => exact absurd rfl (n _)
    | opq e' n1 _ _ _ => rw [e] at e'; cases e'; exact absurd d (n1 _ _)
    | lst e' _ d' rs' =>
      rw [e] at e'; cases e'
      rw [d] at d'; cases d'
      simp only [Sh.dep, Rshs.same rs rs']
    | tup e' c' _ _ => rw [e] at e'; cases e'; rw [c] at c'; exact absurd (Value.type.inj c') (by decide)
    | dct e' _ d' _ _ _ => rw [e] at e'; cases e'; rw [d] at d'; cases d'
  | _, _, _, .tup e c d rs, r => by
    cases r with
    | leaf n _ _ => exact absurd rfl (n _)
    | opq e' n1 _ _ _ => rw [e] at e'; cases e'; exact absurd d (n1 _ _)
    | tup e' _ d' rs' =>
      rw [e] at e'; cases e'
      rw [d] at d'; cases d'
      simp only [Sh.dep, Rshs.same rs rs']
    | lst e' c' _ _ => rw [e] at e'; cases e'; rw [c] at c'; exact absurd (Value.type.inj c') (by decide)
    | dct e' _ d' _ _ _ => rw [e] at e'; cases e'; rw [d] at d'; cases d'
  | _, _, _, .dct e c d _ r1 r2, r => by
    cases r with
    | leaf n _ _ => exact absurd rfl (n _)
    | opq e' _ n2 _ _ => rw [e] at e'; cases e'; exact absurd d (n2 _ _)
    | lst e' _ d' _ => rw [e] at e'; cases e'; rw [d] at d'; cases d'
    | tup e' _ d' _ => rw [e] at e'; cases e'; rw [d] at d'; cases d'
    | dct e' _ d' _ q1 q2 =>
      rw [e] at e'; cases e'
      rw [d] at d'; cases d'
      simp only [Sh.dep, Rshs.same r1 q1, Rshs.same r2 q2]
theorem Rshs.same : ∀ {vs : List Value} {ss ss' : List Sh}, Rshs P w h vs ss → Rshs P w h vs ss' → Sh.deps ss = Sh.deps ss'
  | _, _, _, .nil, r => by cases r; rfl
  | _, _, _, .cons a b, r => by
    cases r with
    | cons a' b' => simp only [Sh.deps, Rsh.same a a', Rshs.same b b']
end
def Below (P : Program) (w : World) (h : Heap) (n : Nat) (bs : List Addr) : Prop := ∀ b ∈ bs, ∃ s, Rsh P w h (.ref b) s ∧ s.dep ≤ n
theorem Below.off {n : Nat} {bs : List Addr} {a : Addr} {s : Sh} (b : Below P w h n bs) (r : Rsh P w h (.ref a) s) (l : n < s.dep) : a ∉ bs := fun m => by
  obtain ⟨s', r', l'⟩ := b a m
  rw [Rsh.same r r'] at l
  omega
theorem Below.up {n m : Nat} {bs : List Addr} (b : Below P w h n bs) (l : n ≤ m) : Below P w h m bs := fun a ha => let ⟨s, r, q⟩ := b a ha; ⟨s, r, Nat.le_trans q l⟩
theorem Below.app {n : Nat} {bs cs : List Addr} (b : Below P w h n bs) (c : Below P w h n cs) : Below P w h n (bs ++ cs) := fun a ha => (List.mem_append.mp ha).elim (b a) (c a)
theorem Below.add {n : Nat} {bs : List Addr} {a : Addr} {s : Sh} (b : Below P w h n bs) (r : Rsh P w h (.ref a) s) (l : n ≤ s.dep) : Below P w h s.dep (a :: bs) := fun c hc => by
  rcases List.mem_cons.mp hc with e | hc
  · exact ⟨s, e ▸ r, Nat.le_refl _⟩
  · exact b.up l c hc
theorem texts_len : ∀ xs : List Sh, (Sh.texts xs).length = xs.length
  | [] => rfl
  | _ :: r => congrArg (· + 1) (texts_len r)
theorem Rshs.len : ∀ {vs : List Value} {ss : List Sh}, Rshs P w h vs ss → vs.length = ss.length
  | _, _, .nil => rfl
  | _, _, .cons _ r => congrArg (· + 1) r.len
theorem zip_mem : ∀ {a b : List Str}, a.length = b.length → (∀ t ∈ a, ∃ p ∈ List.zipWith (fun k v : Str => k ++ ": " ++ v) a b, t.length ≤ p.length) ∧ (∀ t ∈ b, ∃ p ∈ List.zipWith (fun k v : Str => k ++ ": " ++ v) a b, t.length ≤ p.length)
  | [], [], _ => ⟨(fun _ z => nomatch z), fun _ z => nomatch z⟩
  | x :: r, y :: s, l => by
    obtain ⟨i1, i2⟩ := zip_mem (a := r) (b := s) (by simpa using l)
    have e : (x ++ Str.ofString ": " ++ y).length = x.length + 2 + y.length := by rw [Str.length_append, Str.length_append]; rfl
    rw [List.zipWith_cons_cons]
    refine ⟨fun t ht => ?_, fun t ht => ?_⟩
    · rcases List.mem_cons.mp ht with rfl | ht
      · exact ⟨_, List.mem_cons_self, by omega⟩
      · obtain ⟨p, hp, q⟩ := i1 t ht; exact ⟨p, List.mem_cons_of_mem _ hp, q⟩
    · rcases List.mem_cons.mp ht with rfl | ht
      · exact ⟨_, List.mem_cons_self, by omega⟩
      · obtain ⟨p, hp, q⟩ := i2 t ht; exact ⟨p, List.mem_cons_of_mem _ hp, q⟩
mutual
theorem Rsh.reprK : ∀ {v : Value} {s : Sh}, Rsh P w h v s → s.text.length ≤ sizeLine → ∃ bs, Below P w h s.dep bs ∧ ReprK P w bs h s.dep v s.text
  | _, _, .leaf _ i _, _ => ⟨[], (fun _ z => nomatch z), by unfold Sh.text; exact .of_is i _ _ _⟩
  | _, _, .opq _ _ _ k _, _ => ⟨[], (fun _ z => nomatch z), by unfold Sh.text; exact k⟩
  | _, _, .lst (a := a) (vs := vs) (xs := xs) e c d rs, z => by
    have z' : (listText (Sh.texts xs)).length ≤ sizeLine := by unfold Sh.text at z; exact z
    obtain ⟨bs, b, k⟩ := Rshs.reprK rs fun t ht => Nat.le_trans (listText_mem_le ht) z'
    have r : Rsh P w h (.ref a) (.lst xs) := .lst e c d rs
    refine ⟨a :: bs, b.add r (by unfold Sh.dep; omega), ?_⟩
    have off := b.off r (by unfold Sh.dep; omega)
    unfold Sh.dep Sh.text
    obtain ⟨l⟩ := vs
    cases l with
    | nil =>
      have rs' : Rshs P w h [] xs := rs
      cases rs'
      rw [show listText (Sh.texts []) = (Str.ofString "[]") from listText_nil]
      exact ReprK.listEmpty e c d
    | cons x l => exact ReprK.list e c d off (by simpa using k.length_eq) fun i y q => k.item i y (by simpa using q)
  | _, _, .tup (a := a) (xs := xs) e c d rs, z => by
    have z' : (tupleText (Sh.texts xs)).length ≤ sizeLine := by unfold Sh.text at z; exact z
    obtain ⟨bs, b, k⟩ := Rshs.reprK rs fun t ht => Nat.le_trans (tupleText_mem_le ht) z'
    have r : Rsh P w h (.ref a) (.tup xs) := .tup e c d rs
    refine ⟨a :: bs, b.add r (by unfold Sh.dep; omega), ?_⟩
    have off := b.off r (by unfold Sh.dep; omega)
    unfold Sh.dep Sh.text
    exact ReprK.tuple e c d off k
  | _, _, .dct (a := a) (es := es) (ks := ks) (vs := vs) e c d sy r1 r2, z => by
    have z' : (dictText (List.zipWith (fun k v : Str => k ++ ": " ++ v) (Sh.texts ks) (Sh.texts vs))).length ≤ sizeLine := by unfold Sh.text at z; exact z
    have ll : (Sh.texts ks).length = (Sh.texts vs).length := by
      have := r1.len; have := r2.len
      rw [texts_len, texts_len]
      simp only [List.length_map] at *
      omega
    obtain ⟨m1, m2⟩ := zip_mem ll
    obtain ⟨b1, c1, k1⟩ := Rshs.reprK r1 fun t ht => let ⟨p, hp, q⟩ := m1 t ht; Nat.le_trans q (Nat.le_trans (dictText_mem_le hp) z')
    obtain ⟨b2, c2, k2⟩ := Rshs.reprK r2 fun t ht => let ⟨p, hp, q⟩ := m2 t ht; Nat.le_trans q (Nat.le_trans (dictText_mem_le hp) z')
    have r : Rsh P w h (.ref a) (.dct ks vs) := .dct e c d sy r1 r2
    have b := (c1.up (Nat.le_max_left (Sh.deps ks) (Sh.deps vs))).app (c2.up (Nat.le_max_right (Sh.deps ks) (Sh.deps vs)))
    refine ⟨a :: (b1 ++ b2), b.add r (by unfold Sh.dep; omega), ?_⟩
    have off := b.off r (by unfold Sh.dep; omega)
    unfold Sh.dep Sh.text
    exact ReprK.dict e c d sy off (ReprEntriesK.of_two es.toList _ _ (k1.more_le (fun _ m => List.mem_append_left _ m) (Nat.le_max_left _ _)) (k2.more_le (fun _ m => List.mem_append_right _ m) (Nat.le_max_right _ _)))
theorem Rshs.reprK : ∀ {vs : List Value} {ss : List Sh}, Rshs P w h vs ss → (∀ t ∈ Sh.texts ss, t.length ≤ sizeLine) → ∃ bs, Below P w h (Sh.deps ss) bs ∧ ReprAllK P w bs h (Sh.deps ss) vs (Sh.texts ss)
  | _, _, .nil, _ => ⟨[], (fun _ z => nomatch z), .nil⟩
  | _, _, .cons (s := s) (ss := ss) r rs, z => by
    obtain ⟨b1, c1, k1⟩ := Rsh.reprK r (z _ (by unfold Sh.texts; exact List.mem_cons_self))
    obtain ⟨b2, c2, k2⟩ := Rshs.reprK rs fun t ht => z t (by unfold Sh.texts; exact List.mem_cons_of_mem _ ht)
    unfold Sh.deps Sh.texts
    exact ⟨b1 ++ b2, (c1.up (Nat.le_max_left _ _)).app (c2.up (Nat.le_max_right _ _)), .cons ((k1.more fun _ m => List.mem_append_left _ m).level_le (Nat.le_max_left _ _)) (k2.more_le (fun _ m => List.mem_append_right _ m) (Nat.le_max_right _ _))⟩
end
theorem Rsh.call {v : Value} {t : Sh} (r : Rsh P w h v t) (z : t.text.length ≤ sizeLine) {A : Around} {E : Value → Shared → Prop} {s : Shared} {Q : Value → Shared → Prop} (hg : A.guards = some []) (hu : A.units + (t.dep + 2) < cLine) (k0 : ∀ b o, h.get? b = some o → s.heap.get? b = some o)
    (q : ∀ h' u tk, (∀ b o, s.heap.get? b = some o → h'.get? b = some o) → Q (.str t.text u) { s with heap := h', toks := tk }) : wpAny (model P w) A (PySem.call (.builtin "repr") [v]) Q E s := by
  have go : ∀ {a : Addr} {o : Obj} {T idr : String}, h.get? a = some o → o.cls = .type T → SlotG T "__repr__" idr → wpAny (model P w) A.in1 (PySem.call (.builtin idr) [.ref a]) (fun r s₁ => ∃ x t, r = .str x t ∧ Q r s₁) E s → wpAny (model P w) A (PySem.call (.builtin "repr") [.ref a]) Q E s :=
    fun e c sl hc => call_repr_slot (by omega) ⟨_, k0 _ _ e, c⟩ sl hc
  have qq : ∀ h' u tk, (∀ b o, s.heap.get? b = some o → h'.get? b = some o) → ∃ x y, Value.str t.text u = .str x y ∧ Q (.str t.text u) { s with heap := h', toks := tk } := fun h' u tk k => ⟨_, _, rfl, q h' u tk k⟩
  cases r with
  | leaf _ _ b => unfold Sh.text at q; exact b A E s Q hg (by omega) k0 q
  | opq _ _ _ _ b => unfold Sh.text at q; exact b A E s Q hg (by omega) k0 q
  | @lst a o vs n xs e c d rs =>
    have z' : (listText (Sh.texts xs)).length ≤ sizeLine := by unfold Sh.text at z; exact z
    have u' : A.units + (Sh.deps xs + 1 + 2) < cLine := by unfold Sh.dep at hu; exact hu
    obtain ⟨bs, b, k⟩ := Rshs.reprK rs fun t ht => Nat.le_trans (listText_mem_le ht) z'
    have off := b.off (.lst e c d rs) (by unfold Sh.dep; omega)
    refine go e c F.slot_list_repr.toG ?_
    obtain ⟨l⟩ := vs
    cases l with
    | nil =>
      have rs' : Rshs P w h [] xs := rs
      cases rs'
      exact call_list_repr_empty ⟨o, k0 _ _ e, c⟩ (k0 _ _ e) d (by
        have y := qq s.heap s.toks (s.toks + 1) fun _ _ e => e
        rw [show (Sh.lst []).text = (Str.ofString "[]") from by unfold Sh.text; exact listText_nil] at y
        exact y)
    | cons x l => exact call_list_reprK e c d off (by simpa using k.length_eq) (fun i y q => k.item i y (by simpa using q)) hg (fun b _ => Clear.nil b) (by show A.units + 1 + (Sh.deps xs + 1) < cLine; omega) k0 (by unfold Sh.text at qq; exact qq) z'
  | @tup a o vs n xs e c d rs =>
    have z' : (tupleText (Sh.texts xs)).length ≤ sizeLine := by unfold Sh.text at z; exact z
    have u' : A.units + (Sh.deps xs + 1 + 2) < cLine := by unfold Sh.dep at hu; exact hu
    obtain ⟨bs, b, k⟩ := Rshs.reprK rs fun t ht => Nat.le_trans (tupleText_mem_le ht) z'
    have off := b.off (.tup e c d rs) (by unfold Sh.dep; omega)
    refine go e c F.slot_tuple_repr ?_
    exact call_tuple_reprK e c d off k hg (fun b _ => Clear.nil b) (by show A.units + 1 + (Sh.deps xs + 1) < cLine; omega) k0 (by unfold Sh.text at qq; exact qq) z'
  | @dct a o es n ks vs e c d sy r1 r2 =>
    have z' : (dictText (List.zipWith (fun k v : Str => k ++ ": " ++ v) (Sh.texts ks) (Sh.texts vs))).length ≤ sizeLine := by unfold Sh.text at z; exact z
    have u' : A.units + (max (Sh.deps ks) (Sh.deps vs) + 1 + 2) < cLine := by unfold Sh.dep at hu; exact hu
    have ll : (Sh.texts ks).length = (Sh.texts vs).length := by
      have := r1.len; have := r2.len
      rw [texts_len, texts_len]
      simp only [List.length_map] at *
      omega
    obtain ⟨m1, m2⟩ := zip_mem ll
    obtain ⟨b1, c1, k1⟩ := Rshs.reprK r1 fun t ht => let ⟨p, hp, q⟩ := m1 t ht; Nat.le_trans q (Nat.le_trans (dictText_mem_le hp) z')
    obtain ⟨b2, c2, k2⟩ := Rshs.reprK r2 fun t ht => let ⟨p, hp, q⟩ := m2 t ht; Nat.le_trans q (Nat.le_trans (dictText_mem_le hp) z')
    have b := (c1.up (Nat.le_max_left (Sh.deps ks) (Sh.deps vs))).app (c2.up (Nat.le_max_right (Sh.deps ks) (Sh.deps vs)))
    have off := b.off (.dct e c d sy r1 r2) (by unfold Sh.dep; omega)
    refine go e c F.slot_dict_repr ?_
    exact call_dict_reprK e c d sy off (ReprEntriesK.of_two es.toList _ _ (k1.more_le (fun _ m => List.mem_append_left _ m) (Nat.le_max_left _ _)) (k2.more_le (fun _ m => List.mem_append_right _ m) (Nat.le_max_right _ _))) hg (fun b _ => Clear.nil b) (by show A.units + 1 + (max (Sh.deps ks) (Sh.deps vs) + 1) < cLine; omega) k0 (by unfold Sh.text at qq; exact qq) z'
end
def exText (nm m : Str) : Str := Str.ofString ((nm.toString.cutAt '.').getLastD "") ++ "(" ++ reprText m ++ ")"
structure OwnEx (K : PySem.W.Frag) (C e t0 : Addr) (nm m : Str) (h : Heap) : Prop where
  x : ExcC K C e t0 h
  tup : ∃ tk, h.TupAt t0 [.str m tk]
  rep : PySem.W.findIn K (.ref C) "__repr__" = some (some (.builtin "BaseException.__repr__"))
  sub : PySem.W.subIn K (.ref C) (.type "BaseException") = some true
  nam : ∃ cd, PySem.W.clsIn K C = some cd ∧ cd.name = nm
section
variable {prog : Program} {w : World} {A : Around} {E : Value → Shared → Prop} {s : Shared} {K : PySem.W.Frag} {C e t0 : Addr} {nm m : Str} {h0 : Heap}
open PySem.Builtin PySem.Builtin.BaseException
theorem OwnEx.keeps (x : OwnEx K C e t0 nm m h0) (k : ∀ b o, h0.get? b = some o → s.heap.get? b = some o) : OwnEx K C e t0 nm m s.heap := by
  obtain ⟨⟨x1, o, vs, x2, x3⟩, ⟨tk, ot, j, y1, y2⟩, r, sb, n⟩ := x
  exact ⟨⟨x1.keeps k, o, vs, k _ _ x2, x3⟩, ⟨tk, ot, _, k _ _ y1, y2⟩, r, sb, n⟩
theorem own_told {M : Model} {Q : String → Shared → Prop} (x : OwnEx K C e t0 nm m s.heap) (q : Q nm.toString s) : wpAny M A (typeNameOfWhole (.ref e)) Q E s := by
  obtain ⟨cd, h1, rfl⟩ := x.nam
  unfold typeNameOfWhole shownTypeOf
  refine wpAny_bind (wpAny_bind (x.x.LT.here ?_))
  rw [if_neg (show ¬ ((Value.ref C == Value.type "builtin_function_or_method") = true) from fun z => nomatch (beq_iff_eq.mp z))]
  refine wpAny_pure ?_
  exact wpAny_bind ((PySem.W.looks_clsIn x.x.1 h1).here (wpAny_pure q))
theorem own_reprAt (b : Nat) {Q : PySem.Fin → Shared → Prop} (x : OwnEx K C e t0 nm m s.heap) (hz : b + (exText nm m).length ≤ sizeLine) (q : ∀ u tk, Q (.done (.ret (.str (exText nm m) u))) { s with toks := tk }) :
    wpAny (model prog w) A (bexcReprAt b ⟨[.ref e], []⟩) Q E s := by
  obtain ⟨tk, ht⟩ := x.tup
  have ez : b + ((Str.ofString ((nm.toString.cutAt '.').getLastD "")).length + 1 + (reprText m).length + 1) ≤ sizeLine := by
    unfold exText at hz
    rw [strLen_append, strLen_append, strLen_append] at hz
    exact hz
  have e2 : (Str.ofString ((nm.toString.cutAt '.').getLastD "") ++ Str.ofString "(" ++ reprText m ++ Str.ofString ")").length ≤ sizeLine := Nat.le_trans (Nat.le_add_left _ b) hz
  have e3 : (reprText m).length ≤ sizeLine := by omega
  have e4 : b + ((Str.ofString ((nm.toString.cutAt '.').getLastD "")).length + 1) ≤ sizeLine := by omega
  unfold Builtin.bexcReprAt
  repeat (first | with_reducible refine own_told x ?_ | with_reducible refine bexcArgs_C x.x ht ?_ | rw [pyReprUnder_leaf (v := .str m tk) e4 (fun a z => nomatch z)] | with_reducible refine wpAny_pyRepr_str ?_ | wp_step)
  exact q _ _
theorem own_repr {Q : Value → Shared → Prop} (x : OwnEx K C e t0 nm m s.heap) (hu : A.units + 1 < cLine) (hz : (exText nm m).length ≤ sizeLine) (q : ∀ u tk, Q (.str (exText nm m) u) { s with toks := tk }) :
    wpAny (model prog w) A (call (.builtin "repr") [.ref e]) Q E s := by
  have lk : PySem.W.Looks (model prog w) s.heap (typeLookup (.ref C) "__repr__") (some (.builtin "BaseException.__repr__")) := PySem.W.looks_findIn x.x.1 x.rep
  have hc : wpAny (model prog w) A.in1 (call (.builtin "BaseException.__repr__") [.ref e]) (fun v s' => ∃ a t, v = .str a t ∧ Q v s') E s := by
    refine wpAny_call (codeAny_call_builtin F.excStr_Exception.repr.plain F.entry_bexc_repr (@PySem.W.check_slot (model prog w) _ _ s "BaseException.__repr__" "BaseException" "__repr__" (.ref e) [] [] _ (by decide +kernel) (by decide +kernel) (x.x.LI x.sub) (F.args_bexc_repr _) ?_))
    exact own_reprAt 0 x (by omega) fun u tk => ⟨_, _, rfl, q u tk⟩
  refine Calls.call_function_entry F.kind_repr F.plain_repr F.entry_repr (F.args_repr1 _) ?_
  unfold Builtin.«repr»
  refine wpAny_bind (m := oneArg "repr" _) (wpAny_pure ?_)
  refine wpAny_bind (wpAny_cRoomFor (show A.in1.units < cLine from hu) ?_)
  refine wpAny_bind (wpAny_bind (x.x.LT.here (lk.here ?_)))
  show wpAny _ _ (if (some (Value.builtin "BaseException.__repr__")).isNone = true then _ else _) _ _ _
  rw [if_neg (by simp)]
  have key : wpAny (model prog w) A.in1 (callSpecialIfBound? (.ref e) (Str.ofString "__repr__")) (fun r s' => ∃ a t, r = some (.str a t) ∧ Q (.str a t) s') E s := by
    simp only [callSpecialIfBound?, bindSpecialIfBound?]
    refine wpAny_holding (wpAny_bind (wpAny_bind (wpAny_bind (x.x.LT.here (lk.here ?_)))))
    simp only [F.excStr_Exception.repr.bind]
    refine wpAny_bind (wpAny_askSetting (wpAny_ite ?_))
    have fin : wpAny (model prog w) A.in1 (call (.builtin "BaseException.__repr__") ([.ref e] ++ []) >>= fun v => pure (some v)) (fun r s' => ∃ a t, r = some (.str a t) ∧ Q (.str a t) s') E s :=
      wpAny_bind (wpAny_mono hc (fun v s' ⟨a, t, h1, h2⟩ => wpAny_pure ⟨a, t, by rw [h1], h1 ▸ h2⟩) fun _ _ z => z)
    split
    · exact wpAny_bind (wpAny_pure (wpAny_pure fin))
    · exact wpAny_tryCatch (wpAny_bind (wpAny_pure (wpAny_pure fin)))
  refine wpAny_bind (wpAny_mono key (fun r s' h => ?_) fun _ _ z => z)
  obtain ⟨a, t, rfl, h2⟩ := h
  refine wpAny_bind (wpAny_isInstance (T := "str") (b := true) rfl isSubtype_str_str ?_)
  exact wpAny_pure ⟨_, rfl, h2⟩
theorem own_reprK (x : OwnEx K C e t0 nm m h0) (hz : (exText nm m).length ≤ sizeLine) : ReprK prog w [] h0 0 (.ref e) (exText nm m) := by
  intro base hb A g E s Q hg _ hu k hQ
  have x := x.keeps k
  have lk : PySem.W.Looks (model prog w) s.heap (typeLookup (.ref C) "__repr__") (some (.builtin "BaseException.__repr__")) := PySem.W.looks_findIn x.x.1 x.rep
  refine wpAny_pyReprUnder_ref (by omega) ?_
  have hc : wpAny (model prog w) A (call (.builtin "BaseException.__repr__.under") [.ref e, rawInt base]) (fun v s' => ∃ a t, v = .str a t ∧ Q a s') E s := by
    refine wpAny_call (codeAny_call_builtin F.plain_bexc_repr_under F.entry_bexc_repr_under ?_)
    rw [F.check_bexc_repr_under]
    refine wpAny_pure ?_
    rw [show Builtin.«BaseException.__repr__.under» = reprTwin "BaseException.__repr__" Builtin.bexcReprAt from rfl, reprTwin_eq]
    refine wpAny_bind (@PySem.W.check_slot (model prog w) _ _ s "BaseException.__repr__" "BaseException" "__repr__" (.ref e) [] [] _ (by decide +kernel) (by decide +kernel) (x.x.LI x.sub) (F.args_bexc_repr _) ?_)
    exact own_reprAt base x hb fun u tk => ⟨_, _, rfl, hQ s.heap tk fun _ _ z => z⟩
  unfold pyReprObjUnder pyReprObjBy
  refine wpAny_bind (wpAny_cRoomFor (by omega) ?_)
  refine wpAny_bind (wpAny_bind (x.x.LT.here (lk.here ?_)))
  show wpAny _ _ (if (some (Value.builtin "BaseException.__repr__")).isNone = true then _ else _) _ _ _
  rw [if_neg (by simp)]
  have key : wpAny (model prog w) A (callSpecialIfBoundBy? (fun g first => match reprUnder? g, first with
      | some twin, [self] => call twin [self, rawInt base]
      | _, _ => call g (first ++ [])) (.ref e) (Str.ofString "__repr__")) (fun r s' => ∃ a t, r = some (.str a t) ∧ Q a s') E s := by
    simp only [callSpecialIfBoundBy?, bindSpecialIfBound?]
    refine wpAny_holding (wpAny_bind (wpAny_bind (wpAny_bind (x.x.LT.here (lk.here ?_)))))
    simp only [F.excStr_Exception.repr.bind]
    refine wpAny_bind (wpAny_askSetting (wpAny_ite ?_))
    have fin : wpAny (model prog w) A (call (.builtin "BaseException.__repr__.under") [.ref e, rawInt base] >>= fun v => pure (some v)) (fun r s' => ∃ a t, r = some (.str a t) ∧ Q a s') E s :=
      wpAny_bind (wpAny_mono hc (fun v s' ⟨a, t, h1, h2⟩ => wpAny_pure ⟨a, t, by rw [h1], h2⟩) fun _ _ z => z)
    split
    · exact wpAny_bind (wpAny_pure (wpAny_pure fin))
    · exact wpAny_tryCatch (wpAny_bind (wpAny_pure (wpAny_pure fin)))
  refine wpAny_bind (wpAny_mono key (fun r s' h => ?_) fun _ _ z => z)
  obtain ⟨a, t, rfl, h2⟩ := h
  refine wpAny_bind (wpAny_isInstance (T := "str") (b := true) rfl isSubtype_str_str ?_)
  exact wpAny_pure ⟨_, _, rfl, h2⟩
end
end DL
set_option Elab.async false
set_option linter.all false
set_option maxRecDepth 100000
set_option maxHeartbeats 2000000
namespace DL
open PySem PySem.Spec PyProof.Rows L2
def blText (b : Bool) : Str := if b then "True" else "False"
mutual
inductive ShOf (M : Mp) : D → Sh → Prop
  | non : ShOf M .non (.leaf "None")
  | bl (b : Bool) : ShOf M (.bl b) (.leaf (blText b))
  | int {i : Int} : i.natAbs.log2 < 1920 → ShOf M (.int i) (.leaf (toString i))
  | str {x : Str} : (reprText x).length ≤ sizeLine → ShOf M (.str x) (.leaf (reprText x))
  | lst {ds : List D} {ss : List Sh} : ShOfs M ds ss → ShOf M (.lst ds) (.lst ss)
  | sq {ds : List D} {ss : List Sh} : ShOfs M ds ss → ShOf M (.sq ds) (.lst ss)
  | tup {ds : List D} {ss : List Sh} : ShOfs M ds ss → ShOf M (.tup ds) (.tup ss)
  | dct {kvs : List (Key × D)} {ks vs : List Sh} : ShOfs M (kvs.map fun kv => kD kv.1) ks → ShOfs M (kvs.map (·.2)) vs → ShOf M (.dct kvs) (.dct ks vs)
  | lstM {a : Addr} {ds : List D} {ss : List Sh} : M a = some (.lst ds) → ShOfs M ds ss → ShOf M (.ref a) (.lst ss)
  | dctM {a : Addr} {kvs : List (Key × D)} {ks vs : List Sh} : M a = some (.dct kvs) → ShOfs M (kvs.map fun kv => kD kv.1) ks → ShOfs M (kvs.map (·.2)) vs → ShOf M (.ref a) (.dct ks vs)
  | exs {a C : Addr} {nm m : Str} : M a = some (.exc C [(("*" : Str), D.tup [D.str nm, D.str m])]) → (exText nm m).length ≤ sizeLine → (exText nm m).cps.toList.head? ≠ some 39 → ShOf M (.ref a) (.leaf (exText nm m))
inductive ShOfs (M : Mp) : List D → List Sh → Prop
  | nil : ShOfs M [] []
  | cons {d : D} {s : Sh} {ds : List D} {ss : List Sh} : ShOf M d s → ShOfs M ds ss → ShOfs M (d :: ds) (s :: ss)
end
theorem RepK.vals {K : PySem.W.Frag} {I : Hp} : ∀ {vs : List (Key × V)} {ds : List (Key × D)}, RepK K I vs ds → Reps K I (vs.map (·.2)) (ds.map (·.2)) ∧ Reps K I (vs.map fun kv => kV kv.1) (ds.map fun kv => kD kv.1)
  | _, _, .nil => ⟨.nil, .nil⟩
  | _, _, .cons (k := k) r rr => ⟨.cons r (RepK.vals rr).1, .cons (by cases k with | inl i => exact .int i | inr x => exact .str x) (RepK.vals rr).2⟩
theorem pairs_vals {P : Program} {w : World} : ∀ {es : List DictEntry} {vs : List (Key × Value)} {kvs : List (Key × V)}, KV kvs vs → Pairs (mixKind P w) es vs → Vals (kvs.map (·.2)) (es.map (·.val)) ∧ Vals (kvs.map fun kv => kV kv.1) (es.map (·.key))
  | _, _, _, .nil, .nil => ⟨.nil, .nil⟩
  | _, _, _, .cons a r, .cons h1 h2 t => by
    obtain ⟨i1, i2⟩ := pairs_vals r t
    refine ⟨.cons (by dsimp only; rw [h2]; exact a.2) i1, .cons ?_ i2⟩
    dsimp only
    rw [a.1]
    rcases keyIs_shape h1 with ⟨i, t, e1, e2⟩ | ⟨x, t, e1, e2⟩
    · rw [e1]; exact ⟨t, e2⟩
    · rw [e1]; exact ⟨t, e2⟩
section
variable {X : Cx} {pins : List (Addr × Obj)} {σ : L2.St} {H I F : Hp} {M : Mp} {s : Shared} {Pg : Program} {wd : World}
theorem dct_sh (J : L2.Inv X pins σ H s) {a : Addr} {kvs : List (Key × V)} (e : H a = some (.dK kvs)) : ∃ o es n, s.heap.get? a = some o ∧ o.cls = .type "dict" ∧ o.data = .dict es n ∧ (a == sysModules) = false ∧ Vals (kvs.map (·.2)) (es.toList.map (·.val)) ∧ Vals (kvs.map fun kv => kV kv.1) (es.toList.map (·.key)) := by
  obtain ⟨_, sy, vs, rel, o, es, ep, eo, ex, hd, _, pr, _⟩ := dk_of J.hok e
  obtain ⟨i1, i2⟩ := pairs_vals rel pr
  exact ⟨o, es, ep, eo, ex.1, hd, sy, i1, i2⟩
mutual
theorem ShOf.rsh (J : L2.Inv X pins σ H s) (hr : HR X.K I M F H) : ∀ {d : D} {t : Sh}, ShOf M d t → ∀ {v : V} {u : Value}, Rep X.K I v d → RelV v u → Rsh Pg wd s.heap u t
  | _, _, .non, _, _, r, q => by
    cases r; cases (show _ = Value.none from q)
    exact .leaf (fun _ z => nomatch z) ReprIs.none fun A E s Q hg hu k0 h => P.repr_of_none (h s.heap _ _ fun _ _ e => e)
  | _, _, .bl b, _, _, r, q => by
    cases r; cases (show _ = Value.bool b from q)
    have e : blText b = (if b then Str.ofString "True" else Str.ofString "False") := by cases b <;> rfl
    rw [e]
    exact .leaf (fun _ z => nomatch z) (ReprIs.bool b) fun A E s Q hg hu k0 h => P.repr_of_bool (h s.heap _ _ fun _ _ e => e)
  | _, _, .int l, _, _, r, q => by
    cases r
    obtain ⟨tk, rfl⟩ := q
    exact .leaf (fun _ z => nomatch z) (ReprIs.int tk l) fun A E s Q hg hu k0 h => P.repr_of_int l (h s.heap _ _ fun _ _ e => e)
  | _, _, .str l, _, _, r, q => by
    cases r
    obtain ⟨tk, rfl⟩ := q
    exact .leaf (fun _ z => nomatch z) (ReprIs.str _ tk l) fun A E s Q hg hu k0 h => P.repr_of_str (h s.heap _ _ fun _ _ e => e) l
  | _, _, .lst ss, _, _, r, q => by
    cases r with
    | lst e rr =>
      cases (show _ = Value.ref _ from q)
      obtain ⟨its, rv, ⟨o, n, ho, hc, _, hd⟩, _⟩ := J.list (SqL.of (hr.imm _ _ e))
      exact .lst ho hc hd (ShOfs.rsh J hr ss rr (by simpa using rv))
  | _, _, .sq ss, _, _, r, q => by
    cases r with
    | sq e rr =>
      cases (show _ = Value.ref _ from q)
      obtain ⟨its, rv, ⟨o, n, ho, hc, _, hd⟩, _⟩ := J.list (hr.sq e)
      exact .lst ho hc hd (ShOfs.rsh J hr ss rr (by simpa using rv))
  | _, _, .tup ss, _, _, r, q => by
    cases r with
    | tup e rr =>
      cases (show _ = Value.ref _ from q)
      obtain ⟨its, rv, ⟨o, ho, hc, n, hd⟩, _⟩ := J.tuple (hr.st e)
      exact .tup ho hc hd (ShOfs.rsh J hr ss rr (by simpa using rv))
  | _, _, .dct s1 s2, _, _, r, q => by
    cases r with
    | dct e rr =>
      cases (show _ = Value.ref _ from q)
      obtain ⟨o, es, n, ho, hc, hd, sy, i1, i2⟩ := dct_sh J (hr.imm _ _ e)
      exact .dct ho hc hd sy (ShOfs.rsh J hr s1 rr.vals.2 i2) (ShOfs.rsh J hr s2 rr.vals.1 i1)
  | _, _, .lstM e ss, _, _, r, q => by
    cases r
    cases (show _ = Value.ref _ from q)
    obtain ⟨vs, e1, rr⟩ := hr.lst e
    obtain ⟨its, rv, ⟨o, n, ho, hc, _, hd⟩, _⟩ := J.list (SqL.of e1)
    exact .lst ho hc hd (ShOfs.rsh J hr ss rr (by simpa using rv))
  | _, _, .dctM e s1 s2, _, _, r, q => by
    cases r
    cases (show _ = Value.ref _ from q)
    obtain ⟨vs, e1, rr⟩ := hr.dct e
    obtain ⟨o, es, n, ho, hc, hd, sy, i1, i2⟩ := dct_sh J e1
    exact .dct ho hc hd sy (ShOfs.rsh J hr s1 rr.vals.2 i2) (ShOfs.rsh J hr s2 rr.vals.1 i1)
  | _, _, .exs (a := a) (C := C) (nm := nm) (m := m) e hz _, _, _, r, q => by
    cases r
    cases (show _ = Value.ref _ from q)
    obtain ⟨_, o, ha, cls, d, vs, _, h⟩ := hr.mu _ _ e
    rcases h with ⟨_, _, z⟩ | ⟨t, nm', m', rfl, it, ed, sh⟩
    · exact absurd (show ((("*" : Str) != "*") && true) = true from z) (by decide)
    injection ed with e1 e2
    injection e1 with _ e3
    injection e3 with e4
    injection e4 with e5 e6
    injection e6 with e6 _
    injection e5 with e5
    injection e6 with e6
    subst e5 e6
    have hg : s.heap.get? a = some (⟨.ref C, some d, .fields #[.ref t, .none, .none, .none, .bool false, .none], #[]⟩ : Obj) := by
      have x : ObjOk X.prog X.w H s.heap a (exoT a C (some d) t) := J.hok a _ ha
      exact x.1
    obtain ⟨_, its, rv, ⟨ot, h1, h2, n, h3⟩⟩ := (show ObjOk X.prog X.w H s.heap t (.tup [.str m]) from J.hok t _ (hr.imm _ _ it))
    have tt : ∃ tk, s.heap.TupAt t [.str m tk] := by
      cases rv with
      | cons r0 rn =>
        cases rn
        obtain ⟨tk, rfl⟩ := (show ∃ tk, _ = Value.str m tk from r0)
        exact ⟨tk, ot, n, h1, h2, h3⟩
    have x : OwnEx X.K C a t nm m s.heap := ⟨⟨J.kIn, _, _, hg, rfl, rfl, rfl⟩, tt, sh.rep, cls.sub, sh.nam⟩
    exact .opq hg (fun _ _ z => nomatch z) (fun _ _ z => nomatch z) (own_reprK x hz) fun A E s' Q hgu hu k0 qq => own_repr (x.keeps k0) (by omega) hz fun u tk => qq s'.heap u tk fun _ _ z => z
theorem ShOfs.rsh (J : L2.Inv X pins σ H s) (hr : HR X.K I M F H) : ∀ {ds : List D} {ts : List Sh}, ShOfs M ds ts → ∀ {vs : List V} {us : List Value}, Reps X.K I vs ds → Vals vs us → Rshs Pg wd s.heap us ts
  | _, _, .nil, _, _, r, q => by cases r; cases q; exact .nil
  | _, _, .cons a b, _, _, r, q => by
    cases r with
    | cons r1 r2 => cases q with
      | cons q1 q2 => exact .cons (ShOf.rsh J hr a r1 q1) (ShOfs.rsh J hr b r2 q2)
end
end
section
variable {X : Cx} {W : WX} {e : Expr} {te : DTE} {p pos : Pos}
def dShow (te : DTE) : DTE := fun δ M Q E => te δ M (fun d M1 => ∃ t, ShOf M1 d t ∧ t.dep ≤ 60 ∧ t.text.length ≤ sizeLine ∧ Q (.str t.text) M1) E
theorem d_show {k : Nat} (ng : NoGd X.A) (rm : Room k X.A) (hm : X.mg "repr" = none) (he : DE X W e te) (hs : starEach [e] X.env = (false, eval e X.env) :: starEach [] X.env := by rfl) (hg : Gl X "repr" := by rfl) (hpl : (backTo pos (starEach [] X.env)).any (·.1) = false := by rfl) : DE X W (.Call (.Name "repr" p) [e] [] pos) (dShow te) := by
  refine ⟨fun pins s σ H Q J h => ?_⟩
  obtain ⟨I, M, F, δ, Qd, Ed, hr, rs, q, fq, fx⟩ := h
  have key : CallR X (.builtin "repr") (fun xs H1 Q1 => ∃ x I1 M1 F1 d t, xs = [x] ∧ HR X.K I1 M1 F1 H1 ∧ Rep X.K I1 x d ∧ ShOf M1 d t ∧ t.dep ≤ 60 ∧ t.text.length ≤ sizeLine ∧ Q1 (.str t.text) H1) := by
    intro pins s σ H xs us Q J rv h
    obtain ⟨x, I1, M1, F1, d, t, rfl, hr, r, sh, h1, h2, q⟩ := h
    obtain ⟨u, rfl, ru⟩ := vals1 rv
    have hu := rm.un
    exact (sh.rsh J hr r ru).call h2 ng (by omega) (fun _ _ e => e) fun h' u tk hk => ⟨.str _, H, J.kept (t' := tk) hk, ⟨u, rfl⟩, q⟩
  refine (pe_callB key hg hm (by decide +kernel) (pa_cons he pa_nil hs) (by decide) (by decide) hs hpl).run pins s σ H Q J ?_
  refine ⟨I, M, F, δ, _, Ed, hr, rs, q, fun d M1 I1 H1 v q1 s1 hr1 r1 => ?_, fx⟩
  obtain ⟨t, sh, h1, h2, q2⟩ := q1
  exact ⟨v, I1, M1, F, d, t, rfl, hr1, r1, sh, h1, h2, fq _ M1 I1 H1 _ q2 s1 hr1 (.str _)⟩
end
end DL
set_option Elab.async false
set_option linter.all false
set_option maxRecDepth 100000
set_option maxHeartbeats 2000000
namespace DL
open PySem PySem.Spec PyProof.Rows L2
abbrev plainG : List D → List D → List D := fun ds _ => ds
section
variable {X : Cx} {W : WX} {e : Expr} {es : List Expr} {ta : DTA} {te to : DTE} {pos p : Pos} {x : Str} {k n : Nat} {ps : List Str} {sp : DSp} {pats : List Pat}
theorem d_fnP (i : Nat) (Fx : FnN X.prog X.w X.K X.mg X.base k x ps sp pats) (g : Good X W) (rm : Room k X.A) (ha : DA X W (e :: es) ta) (hi : pats[i]? = some ⟨ps.length, [], plainG⟩ := by rfl) (hg : Gl X x := by rfl) (hdb : (x == ("__debug__" : Str)) = false := by decide) (he : starEach (e :: es) X.env = (false, eval e X.env) :: starEach es X.env := by rfl)
    (hpl : (backTo pos (starEach es X.env)).any (·.1) = false := by rfl) : DE X W (.Call (.Name x p) (e :: es) [] pos) (dCall sp ta) := by
  obtain ⟨f, hm, hk, Fa⟩ := Fx.ex
  refine ⟨fun pins s σ H Q J h => wpAny_Call_Name_kw (ld_glob J hg hm ?_ hdb)⟩
  obtain ⟨I, M, F, δ, Qd, Ed, hr, rs, q, fq, fx⟩ := h
  refine args_p ha he hpl pins s σ H _ [] _ (fun ds _ M2 => sp ds M2 Qd Ed) I M F δ Ed hk J hr rs q fx fun us ws vs zs ds es I2 M2 H2 s2 J2 rv rz e2 hr2 rd re q2 => ?_
  obtain ⟨fd, kb, G⟩ := Fa.ex
  have ln := G.len vs H2 Q (WE W σ) ⟨I2, M2, F, ds, Qd, Ed, hr2, rd, q2, fq.mono e2, fx.mono e2⟩
  exact run_a i g rm Fa hi (ws := []) (zs := []) (es := []) J2 rv .nil hr2 rd .nil (rd.len.symm.trans ln) rfl q2 (fq.mono e2) (fx.mono e2)
def asQ (M : Mp) (d : D) (k : List D → Prop) : Prop := match d with
  | .lst xs => k xs
  | .sq xs => k xs
  | .tup xs => k xs
  | .ref a => ∃ xs, M a = some (.lst xs) ∧ k xs
  | _ => False
theorem asQ_out {K : PySem.W.Frag} {I : Hp} {M : Mp} {F H : Hp} (hr : HR K I M F H) {v : V} {d : D} {k : List D → Prop} (r : Rep K I v d) (h : asQ M d k) : ∃ a vs ds, v = .ref a ∧ (SqL K H a vs ∨ (SqT K H a vs ∧ d = .tup ds)) ∧ Reps K I vs ds ∧ k ds := by
  cases r with
  | lst s rr => exact ⟨_, _, _, rfl, .inl (SqL.of (hr.imm _ _ s)), rr, h⟩
  | sq s rr => exact ⟨_, _, _, rfl, .inl (hr.sq s), rr, h⟩
  | tup s rr => exact ⟨_, _, _, rfl, .inr ⟨hr.st s, rfl⟩, rr, h⟩
  | ref a =>
    obtain ⟨xs, e, q⟩ := h
    obtain ⟨vs, e1, r1⟩ := hr.lst e
    exact ⟨_, _, _, rfl, .inl (SqL.of e1), r1, q⟩
  | _ => exact h.elim
def dList : DRC := fun ds M Q => one ds fun d => asQ M d fun xs => Q (.lst xs) M
def dListM : DRC := fun ds M Q => one ds fun d => asQ M d fun xs => ∀ p, M p = none → Q (.ref p) (updM M p (.lst xs))
def dTuple : DRC := fun ds M Q => one ds fun d => asQ M d fun xs => Q (.tup xs) M
abbrev rListOf (K : PySem.W.Frag) : List V → Hp → VK → Prop := fun xs H Q => ∃ p ys, xs = [.ref p] ∧ (SqL K H p ys ∨ SqT K H p ys) ∧ ∀ l, H l = none → Q (.ref l) (upd H l (.lst ys))
theorem lc_list {K : PySem.W.Frag} : LC K (rListOf K) dList := fun I M F H vs ds Qd Q hr rs q fq => by
  obtain ⟨v, d, rfl, r, q⟩ := one_out rs q
  obtain ⟨a, vs, xs, rfl, h, rr, q⟩ := asQ_out hr r q
  exact ⟨a, vs, rfl, h.imp id And.left, fin_lst fq hr rr q⟩
theorem lc_listM {K : PySem.W.Frag} : LC K (rListOf K) dListM := fun I M F H vs ds Qd Q hr rs q fq => by
  obtain ⟨v, d, rfl, r, q⟩ := one_out rs q
  obtain ⟨a, vs, xs, rfl, h, rr, q⟩ := asQ_out hr r q
  exact ⟨a, vs, rfl, h.imp id And.left, fin_lstM fq hr rr q⟩
theorem lc_tuple {K : PySem.W.Frag} : LC K (fun xs H Q => ∃ p ys, xs = [.ref p] ∧ ((SqL K H p ys ∧ ∀ l, H l = none → Q (.ref l) (upd H l (.tup ys))) ∨ (SqT K H p ys ∧ Q (.ref p) H))) dTuple := fun I M F H vs ds Qd Q hr rs q fq => by
  obtain ⟨v, d, rfl, r, q⟩ := one_out rs q
  obtain ⟨a, vs, xs, rfl, h, rr, q⟩ := asQ_out hr r q
  rcases h with h | ⟨h, e⟩
  · exact ⟨a, vs, rfl, .inl ⟨h, fin_tup fq hr rr q⟩⟩
  · subst e
    exact ⟨a, vs, rfl, .inr ⟨h, fq _ M I H _ q (Same.refl I) hr r⟩⟩
theorem d_list (hm : X.mg "list" = none) (ha : DA X W [e] ta) (he : starEach [e] X.env = (false, eval e X.env) :: starEach [] X.env := by rfl) (hg : Gl X "list" := by rfl) : DE X W (.Call (.Name "list" p) [e] [] pos) (dCB dList ta) := d_callTy call_list_of lc_list hm (by decide +kernel) ha hg (he := he)
theorem d_listM (hm : X.mg "list" = none) (ha : DA X W [e] ta) (he : starEach [e] X.env = (false, eval e X.env) :: starEach [] X.env := by rfl) (hg : Gl X "list" := by rfl) : DE X W (.Call (.Name "list" p) [e] [] pos) (dCB dListM ta) := d_callTy call_list_of lc_listM hm (by decide +kernel) ha hg (he := he)
theorem d_tuple (hm : X.mg "tuple" = none) (ha : DA X W [e] ta) (he : starEach [e] X.env = (false, eval e X.env) :: starEach [] X.env := by rfl) (hg : Gl X "tuple" := by rfl) : DE X W (.Call (.Name "tuple" p) [e] [] pos) (dCB dTuple ta) := d_callTy call_tuple_of lc_tuple hm (by decide +kernel) ha hg (he := he)
def dAdd2 : DR2 := fun x y M Q => match x, y with
  | .tup xs, .tup ys => xs.length + ys.length ≤ sizeLine ∧ Q (.tup (xs ++ ys)) M
  | x, y => dAdd x y M Q
def dAddM : DR2 := fun x y M Q => asX M x fun xs => asX M y fun ys => xs.length + ys.length ≤ sizeLine ∧ ∀ p, M p = none → Q (.ref p) (updM M p (.lst (xs ++ ys)))
theorem op_add5 : OpR X (binaryOp .Add) (fun x y H Q => rAdd4 X.K x y H Q ∨ rCatA X.K x y H Q) := op_add4.or op_catA
theorem lr_add5 {K : PySem.W.Frag} : LR K (fun x y H Q => rAdd4 K x y H Q ∨ rCatA K x y H Q) dAdd2 := fun I M F H x y dx dy Qd Q hr rx ry q fq => by
  unfold dAdd2 at q
  split at q
  · rename_i xs ys
    cases rx with
    | @tup a vs _ s1 r1 => cases ry with
      | @tup b ws _ s2 r2 =>
        refine .inr ⟨a, b, vs, ws, rfl, rfl, hr.st s1, hr.st s2, by rw [r1.len, r2.len]; exact q.1, fun e => ?_, fun n e => ?_, fun _ _ => fin_tup fq hr (r1.app r2) q.2⟩
        · subst e; cases r1; exact fq _ M I H _ q.2 (Same.refl I) hr (.tup s2 r2)
        · subst e; cases r2; exact fq _ M I H _ (by rw [List.append_nil] at q; exact q.2) (Same.refl I) hr (.tup s1 r1)
  · exact .inl (lr_add I M F H x y _ _ Qd Q hr rx ry q fq)
theorem d_add5 {a b : Expr} {ta tb : DTE} (ha : DE X W a ta) (hb : DE X W b tb) : DE X W (.BinOp a .Add b pos) (dOp dAdd2 ta tb) := d_op op_add5 lr_add5 ha hb
theorem lr_addM {K : PySem.W.Frag} : LR K (rAdd4 K) dAddM := fun I M F H x y dx dy Qd Q hr rx ry q fq => by
  obtain ⟨a, vs, ds, e1, h1, r1, q⟩ := asX_out hr rx q
  obtain ⟨b, ws, es, e2, h2, r2, q⟩ := asX_out hr ry q
  exact .inr (.inr ⟨a, b, vs, ws, e1, e2, h1, h2, by rw [r1.len, r2.len]; exact q.1, fin_lstM fq hr (r1.app r2) q.2⟩)
theorem d_addM {a b : Expr} {ta tb : DTE} (ha : DE X W a ta) (hb : DE X W b tb) : DE X W (.BinOp a .Add b pos) (dOp dAddM ta tb) := d_op op_add4 lr_addM ha hb
def dSl4 (x : D) (lo hi : Option Int) (M : Mp) (Q : DK) : Prop := match x with
  | .tup xs => Q (.tup (cutD xs lo hi)) M
  | x => dSl3 x lo hi M Q
def dSlA (r : D → Option Int → Option Int → Mp → DK → Prop) (te : DTE) (tl th : DTO) : DTE := fun δ M Q E => te δ M (fun x M1 => tl δ M1 (fun l M2 => th δ M2 (fun u M3 => r x l u M3 Q) E) E) E
theorem cutD_all {xs : List D} {lo hi : Option Int} (h : HT.sIx xs.length 0 lo = 0 ∧ HT.sIx xs.length xs.length hi = xs.length) : cutD xs lo hi = xs := by
  unfold cutD
  rw [h.1, h.2]
  simp
def LSl (K : PySem.W.Frag) (r' : V → Option Int → Option Int → Hp → VK → Prop) (r : D → Option Int → Option Int → Mp → DK → Prop) : Prop := ∀ I M F H v d lo hi Qd Q, HR K I M F H → Rep K I v d → r d lo hi M Qd → Fin K I F Qd Q → r' v lo hi H Q
theorem d_slA {lo hi : Option Expr} {tl th : DTO} {p2 : Pos} {r : D → Option Int → Option Int → Mp → DK → Prop} {r' : V → Option Int → Option Int → Hp → VK → Prop} (hs : SlR X r') (hL : LSl X.K r' r) (he : DE X W e te) (hl : DO X W lo tl) (hu : DO X W hi th) : DE X W (.Subscript e (.Slice lo hi none p2) pos) (dSlA r te tl th) := pe_imp (pe_slice hs he hl hu) fun σ H Q h => by
  obtain ⟨I, M, F, δ, Qd, Ed, hr, rs, q, fq, fx⟩ := h
  refine ⟨I, M, F, δ, _, Ed, hr, rs, q, fun x M1 I1 H1 v q1 s1 hr1 r1 => ?_, fx⟩
  refine ⟨I1, M1, F, δ, _, Ed, hr1, rs.mono s1, q1, fun l M2 I2 H2 q2 s2 hr2 => ?_, fx.mono s1⟩
  refine ⟨I2, M2, F, δ, _, Ed, hr2, (rs.mono s1).mono s2, q2, fun u M3 I3 H3 q3 s3 hr3 => ?_, (fx.mono s1).mono s2⟩
  exact hL I3 M3 F H3 v x l u Qd Q hr3 ((r1.mono s2).mono s3) q3 (fq.mono ((s1.trans s2).trans s3))
theorem SlR.or {r r' : V → Option Int → Option Int → Hp → VK → Prop} (h : SlR X r) (h' : SlR X r') : SlR X (fun x lo hi H Q => r x lo hi H Q ∨ r' x lo hi H Q) := by
  intro pins s σ H x v vl vu lo hi sl Q I rx hs pl pu z
  rcases z with z | z
  · exact h pins s σ H x v vl vu lo hi sl Q I rx hs pl pu z
  · exact h' pins s σ H x v vl vu lo hi sl Q I rx hs pl pu z
theorem d_sl4 {lo hi : Option Expr} {tl th : DTO} {p2 : Pos} (he : DE X W e te) (hl : DO X W lo tl) (hu : DO X W hi th) : DE X W (.Subscript e (.Slice lo hi none p2) pos) (dSlA dSl4 te tl th) := d_slA (SlR.or sl_list (SlR.or sl_str sl_tupA)) (fun I M F H v d lo hi Qd Q hr r q fq => by
  unfold dSl4 at q
  split at q
  · cases r with
    | @tup a vs ds s rr =>
      refine .inr (.inr ⟨a, vs, rfl, hr.st s, fun z => ?_, fun _ => fin_tup fq hr (rr.cut lo hi) q⟩)
      rw [cutD_all (by rw [← rr.len]; exact z)] at q
      exact fq _ M I H _ q (Same.refl I) hr (.tup s rr)
  · unfold dSl3 at q
    split at q
    · cases r
      exact .inr (.inl ⟨_, rfl, q.1, fq _ M I H _ q.2 (Same.refl _) hr (.str _)⟩)
    · obtain ⟨a, vs, ds, e1, sq, rr, q⟩ := asR_out hr r q
      exact .inl ⟨a, vs, e1, sq, fin_lst fq hr (rr.cut lo hi) q⟩) he hl hu
theorem kit_two (K : PySem.W.Frag) (t u v : Ty) (h : t ≠ .own) (hu : u ≠ .non) (hu2 : u ≠ .own) (hv : v ≠ .non) (hv2 : v ≠ .own) : PySem.W.kitAny K (.type t.nm) [.type u.nm, .type v.nm] = some (isT t u || isT t v) := by
  refine kitAny_cons (kit_all K t u h hu hu2) (fun e => ?_) (fun e => by rw [e]; rfl)
  refine kitAny_cons (kit_all K t v h hv hv2) (fun e2 => ?_) (fun e2 => by rw [e2, Bool.or_true])
  rw [e, e2]
  exact kitAny_nil
end
end DL
set_option Elab.async false
set_option linter.all false
set_option maxRecDepth 100000
set_option maxHeartbeats 2000000
namespace DL
open PySem PySem.Spec PyProof.Rows L2
def ends (Qd : DK) (Ed : DXK) : DEnds := { nx := fun _ M' => Qd .non M', rt := Qd, ex := fun c fo _ M' => Ed c fo M' }
theorem s_tryA {X : Cx} {W : WX} {body : List Stmt} {h0 : ExceptHandler} {hds : List ExceptHandler} {l : List DHd} {pos : Pos} {tb : DTS} {xm : Value → List Value → Option Bool} (hx : xm = PySem.W.exmAny X.K) (g : Good X W) (hb : ∀ (V : WX) (pn : List (Addr × Obj)) (xe : Value → Shared → Prop), Good (X.tr pn xe) V → DSs (X.tr pn xe) V body tb) (hh : DHds X (h0 :: hds) l)
    (hs : X.stack = X.env :: X.outer := by rfl) (hf : X.env.frame = some X.env.locals := by rfl) : DSt X W (.Try body (h0 :: hds) [] [] pos) (dTry xm l tb) := by
  subst hx
  exact s_try g hb hh hs hf
theorem exm_nil {K : PySem.W.Frag} {t : Value} : PySem.W.exmAny K t [] = some false := rfl
theorem exm_cons {K : PySem.W.Frag} {t c : Value} {cs : List Value} {a b : Bool} (h : PySem.W.exmOne K t c = some a) (hr : PySem.W.exmAny K t cs = some b) : PySem.W.exmAny K t (c :: cs) = some (a || b) := by
  unfold PySem.W.exmAny
  rw [h, hr]
end DL
set_option Elab.async false
set_option linter.all false
set_option maxRecDepth 100000
namespace DL
open PySem L2
def spLaw : DSp := fun ds M Q _ => ∃ (ns : List Int), ds = [.sq (ns.map D.int)] ∧ ns.length ≤ 63 ∧ ∀ M', Q (.bl true) M'
theorem law_pr {K : PySem.W.Frag} {H : Hp} {a : Addr} {ns : List Int} (hl : ns.length ≤ 63) (hS : SqL K H a (ns.map V.int)) : lSp K spLaw [.ref a] H (fun v _ => v = .bl true) (fun _ _ _ => False) := by
  refine ⟨H, fun _ => none, fun _ => none, [.sq (ns.map D.int)], fun d _ => d = .bl true, fun _ _ _ => False, ⟨fun _ _ e => e, fun _ _ e => (nomatch e), fun _ _ e => (nomatch e), fun _ _ e => (nomatch e)⟩, .cons (.sq hS (rep_ints ns)) .nil, ⟨ns, rfl, hl, fun _ => rfl⟩, fun d M' I' H' v e _ _ r => ?_, fun _ _ _ _ _ _ z => z.elim⟩
  subst e
  cases r
  rfl
def Bag (M : Mp) (b : Addr) (n : Nat) : Prop := ∃ x y z : Int, M b = some (.lst [.int x, .int y, .int z]) ∧ 0 ≤ y ∧ y < 2147483629 ∧ 0 ≤ z ∧ z ≤ n
def But (b : Addr) (M M' : Mp) : Prop := ∀ a o, a ≠ b → M a = some o → M' a = some o
def spTake : DSp := fun ds M Q _ => ∃ (b : Addr) (w : Int) (n : Nat), ds = [.ref b, .int w] ∧ Bag M b n ∧ n < 1000000 ∧ 0 < w ∧ w ≤ 10 ^ 30 ∧ ∀ M' d, But b M M' → Bag M' b (n + 1) → 0 ≤ d → d < w → Q (.int d) M'
def spBag : DSp := fun ds M Q _ => ∃ (c : Int), ds = [.int c] ∧ ∀ b M', M b = none → But b M M' → Bag M' b 0 → Q (.ref b) M'
def spCell : DSp := fun ds M Q _ => ∃ (ns : List Int) (k : Int), ds = [.sq (ns.map D.int), .int k] ∧ 0 ≤ k ∧ k < 100 ∧ ns.length ≤ 63 ∧ ∀ i, Q (.int i) M
theorem len_spTake : ∀ ds M Q E, spTake ds M Q E → ds.length = 2 := fun _ _ _ _ h => by obtain ⟨_, _, _, rfl, _⟩ := h; rfl
theorem len_spBag : ∀ ds M Q E, spBag ds M Q E → ds.length = 1 := fun _ _ _ _ h => by obtain ⟨_, rfl, _⟩ := h; rfl
theorem len_spCell : ∀ ds M Q E, spCell ds M Q E → ds.length = 2 := fun _ _ _ _ h => by obtain ⟨_, _, rfl, _⟩ := h; rfl
theorem len_spLaw : ∀ ds M Q E, spLaw ds M Q E → ds.length = 1 := fun _ _ _ _ h => by obtain ⟨_, rfl, _⟩ := h; rfl
abbrev sg1 (c : Nat) : Str := ⟨#[c]⟩
theorem But.refl (b : Addr) (M : Mp) : But b M M := fun _ _ _ e => e
theorem But.trans {b : Addr} {M M1 M2 : Mp} (h : But b M M1) (k : But b M1 M2) : But b M M2 := fun a o n e => k a o n (h a o n e)
theorem Bag.mono {M : Mp} {b : Addr} {n m : Nat} (h : Bag M b n) (l : n ≤ m) : Bag M b m := by
  obtain ⟨x, y, z, a, b, c, d, e⟩ := h
  exact ⟨x, y, z, a, b, c, d, by omega⟩
theorem at_some {α : Type} {xs : List α} {i : Int} (h0 : 0 ≤ i) (h1 : i < xs.length) : ∃ d, atI xs i = some d ∧ d ∈ xs := by
  obtain ⟨j, rfl⟩ := Int.eq_ofNat_of_zero_le h0
  have hj : j < xs.length := by omega
  exact ⟨xs[j], atI_nat (List.getElem?_eq_getElem hj), List.getElem_mem hj⟩
theorem cut_map {ns : List Int} {lo hi : Option Int} : ∃ ms : List Int, cutD (ns.map D.int) lo hi = ms.map D.int := by
  unfold cutD
  exact ⟨_, by rw [← List.map_drop, ← List.map_take]⟩
theorem cdiv {i w : Int} (h0 : 0 < w) (h1 : w ≤ 10 ^ 30) : CDivW i w := wide_div (b := 100) h0 (by
  have e : w.natAbs ≤ 10 ^ 30 := by omega
  exact Nat.lt_of_le_of_lt e (by decide)) (by decide) (by decide)
theorem cpow {i : Int} {k : Int} (h0 : 0 ≤ i) (h1 : i < 2 ^ 60) (h2 : 0 ≤ k) (h3 : k ≤ 10) : CPow i k := ⟨h2, by omega, by omega⟩
theorem cmul {i j : Int} (h0 : 0 ≤ i) (h1 : i < 2 ^ 30) (h2 : -(2 ^ 120) < j) (h3 : j < 2 ^ 120) : CMulW i j := wide_mul (a := 30) (b := 120) (by omega) (by omega) (by decide) (by decide) (by decide)
theorem Bag.upd {M : Mp} {b r : Addr} {n : Nat} {o : MO} (h : Bag M b n) (ne : b ≠ r) : Bag (updM M r o) b n := by
  obtain ⟨x, y, z, a, t⟩ := h
  exact ⟨x, y, z, by rw [updM_ne ne]; exact a, t⟩
theorem But.new {b r : Addr} {M : Mp} {o : MO} (h : M r = none) : But b M (updM M r o) := fun a u _ e => by
  rw [updM_ne (fun z => by rw [z, h] at e; cases e)]; exact e
theorem Bag.at {M : Mp} {b r : Addr} {n : Nat} (h : Bag M b n) (hr : M r = none) : b ≠ r := fun z => by
  obtain ⟨x, y, w, a, t⟩ := h
  rw [z, hr] at a
  cases a
theorem num_log {i : Int} (h0 : -(10 ^ 30) ≤ i) (h1 : i ≤ 10 ^ 30) : i.natAbs.log2 < 1920 := by
  have h : i.natAbs < 2 ^ 1920 := Nat.lt_of_le_of_lt (by omega : i.natAbs ≤ 10 ^ 30) (by decide +kernel)
  by_cases z : i.natAbs = 0
  · rw [z]; decide
  · exact (Nat.log2_lt z).mpr h
end DL
set_option Elab.async false
set_option linter.all false
set_option maxRecDepth 100000
namespace DL
open PySem L2
def Ok (s : Str) : Prop := ∀ c ∈ s.cps.toList, c < 0x110000
def letters : Str := "abcdefghijklmnopqrstuvwxyz"
def okM : MO → Prop
  | .lst _ => True | .dct _ => True | .exc _ _ => True | _ => False
def Th (M : Mp) : D → Prop
  | .non => True | .bl _ => True | .int _ => True | .str s => s.length ≤ 100000 ∧ Ok s | .lst _ => True | .tup _ => True | .dct _ => True
  | .ref a => ∃ m, M a = some m ∧ okM m
  | _ => False
def wholeD (d : D) (l h : Int) : Bool := match d with | .int i => decide (l ≤ i) && decide (i ≤ h) | _ => false
def nameD (d : D) : Bool := match d with | .str s => decide (1 ≤ s.length) && decide (s.length ≤ 8) && s.cps.toList.all (fun c => decide (c ∈ letters.cps.toList)) | _ => false
def spW : DSp := fun ds M Q _ => ∃ (d : D) (l h : Int), ds = [d, .int l, .int h] ∧ Th M d ∧ Q (.bl (wholeD d l h)) M
def spN : DSp := fun ds M Q _ => ∃ (d : D), ds = [d] ∧ Th M d ∧ Q (.bl (nameD d)) M
theorem len_spW : ∀ ds M Q E, spW ds M Q E → ds.length = 3 := fun _ _ _ _ h => by obtain ⟨_, _, _, rfl, _⟩ := h; rfl
theorem len_spN : ∀ ds M Q E, spN ds M Q E → ds.length = 1 := fun _ _ _ _ h => by obtain ⟨_, rfl, _⟩ := h; rfl
def rIsName : DTS := dRet (dAndV (dIsi .str (dVar 0)) (dAndV (dChain dLe dLe (dC (.int 1)) (dCB dLen (dCons (dVar 0) (dNil))) (dC (.int 8))) (dCB dAll (dCons (dLc (iS (dVar 0)) (.one 1) dYes (dOp dInS (dVar 1) (dC (.str letters))) [1]) (dNil)))))
def rIsWhole : DTS := dRet (dAndV (dIsi .int (dVar 0)) (dAndV (dNotV (dIsi .bl (dVar 0))) (dChain dLe dLe (dVar 1) (dVar 0) (dVar 2))))
theorem join_len : ∀ cs : List Nat, (Txt.join "" (cs.map sg1)).length = cs.length := by
  intro cs
  rw [TL.join_eq]
  induction cs with
  | nil => rfl
  | cons c r ih =>
    cases r with
    | nil => rfl
    | cons d r =>
      show (sg1 c ++ ("" : Str) ++ Str.join "" ((d :: r).map sg1)).length = _
      rw [Str.length_append, Str.length_append, ih]
      show 1 + 0 + (d :: r).length = (c :: d :: r).length
      simp only [List.length_cons]
      omega
theorem sum_len : ∀ cs : List Nat, ((cs.map sg1).map (·.length)).sum = cs.length
  | [] => rfl
  | c :: r => by
    show 1 + ((r.map sg1).map (·.length)).sum = _
    rw [sum_len r, List.length_cons]
    omega
theorem join_cps : ∀ cs : List Nat, (Txt.join "" (cs.map sg1)).cps.toList = cs := by
  intro cs
  rw [TL.join_eq]
  have h := TL.tl_join "" (cs.map sg1)
  refine Eq.trans h ?_
  induction cs with
  | nil => rfl
  | cons c r ih =>
    cases r with
    | nil => rfl
    | cons d r =>
      have h2 := TL.tl_join "" ((d :: r).map sg1)
      show [c] ++ ([] ++ TL.joinL [] (((d :: r).map sg1).map TL.tl)) = _
      rw [List.nil_append]
      show c :: TL.joinL [] (((d :: r).map sg1).map TL.tl) = _
      rw [show TL.joinL [] (((d :: r).map sg1).map TL.tl) = d :: r from ih h2]
theorem letters_ok : ∀ c ∈ letters.cps.toList, c < 0x110000 := by decide +kernel
theorem ok_of (t : String) : Ok (Str.ofString t) := by
  intro c hc
  rw [Str.ofString_eq_toList] at hc
  have hc : c ∈ (t.toList.map Char.toNat) := by simpa using hc
  obtain ⟨ch, _, rfl⟩ := List.mem_map.mp hc
  have h : ch.toNat.isValidChar := ch.valid
  rcases h with h | ⟨_, h⟩ <;> omega
theorem comp_in {δ0 : Option D} {k : List D → Mp → Prop} {M : Mp} : ∀ (cs : List Nat) (bs : List Bool), bs.length + cs.length ≤ 5000 → k ((bs ++ cs.map fun c => decide (c ∈ letters.cps.toList)).map D.bl) M →
    dComp (.one 1) dYes (dOp dInS (dVar 1) (dC (.str letters))) .data [1] [δ0, none] k (cs.map fun c => D.str (sg1 c)) (bs.map D.bl) M
  | [], bs, hl, q => by
    refine ⟨?_, ?_⟩
    · rw [List.length_map]; exact Nat.le_trans hl (by decide)
    · rw [List.map_nil, List.append_nil] at q; exact q
  | c :: r, bs, hl, q => by
    simp only [List.length_cons] at hl
    refine ⟨_, rfl, c, rfl, ?_⟩
    have e : (bs.map D.bl) ++ [D.bl (decide (c ∈ letters.cps.toList))] = (bs ++ [decide (c ∈ letters.cps.toList)]).map D.bl := by rw [List.map_append]; rfl
    show dComp _ _ _ _ _ _ _ (r.map fun c => D.str (sg1 c)) ((bs.map D.bl) ++ [D.bl (decide (c ∈ letters.cps.toList))]) M
    rw [e]
    refine comp_in r _ (by rw [List.length_append, List.length_singleton]; omega) ?_
    rw [List.append_assoc]
    exact q
theorem sl_of {s : Str} (h : s.length ≤ 100000) : s.length ≤ sizeLine := Nat.le_trans h (by decide)
theorem cl_of {s : Str} (h : s.length ≤ 100000) : s.cps.toList.length ≤ 100000 := by simpa [Str.length] using h
theorem is_whole_ok : ∀ ds M Qd Ed, spW ds M Qd Ed → rIsWhole (ends Qd Ed) (dstart ["thing", "low", "high"] ds) M := by
  intro ds M Qd Ed h
  obtain ⟨d, l, h, rfl, th, q⟩ := h
  cases d with
  | non => exact ⟨_, rfl, q⟩
  | bl b => exact ⟨_, rfl, _, rfl, q⟩
  | int i =>
    refine ⟨_, rfl, _, rfl, _, rfl, _, rfl, ?_⟩
    refine br2 (fun e => ?_) (fun e => ?_)
    · refine ⟨_, rfl, ?_⟩
      have e2 : wholeD (.int i) l h = decide (i ≤ h) := by simp [wholeD, of_decide_eq_true e]
      rw [e2] at q
      exact q
    · have e2 : wholeD (.int i) l h = false := by simp [wholeD, of_decide_eq_false e]
      rw [e2] at q
      exact q
  | str s => exact ⟨_, rfl, q⟩
  | lst s => exact ⟨_, rfl, q⟩
  | tup s => exact ⟨_, rfl, q⟩
  | dct s => exact ⟨_, rfl, q⟩
  | ref a =>
    obtain ⟨m, e, th⟩ := th
    cases m <;> first | exact th.elim | exact ⟨_, rfl, _, e, q⟩
  | sq s => exact th.elim
  | ty n => exact th.elim
  | ins C fs => exact th.elim
theorem is_name_ok : ∀ ds M Qd Ed, spN ds M Qd Ed → rIsName (ends Qd Ed) (dstart ["thing", "sign"] ds) M := by
  intro ds M Qd Ed h
  obtain ⟨d, rfl, th, q⟩ := h
  cases d with
  | str s =>
    have hs := cl_of th.1
    refine ⟨_, rfl, _, rfl, sl_of th.1, ?_⟩
    refine br2 (fun e => ?_) (fun e => ?_)
    · have e := of_decide_eq_true e
      refine br2 (fun e2 => ?_) (fun e2 => ?_)
      · have e2 := of_decide_eq_true e2
        refine ⟨_, rfl, ?_, ?_⟩
        · show (sgn s).length < sizeLine
          unfold sgn
          rw [List.length_map]
          exact Nat.lt_of_le_of_lt hs (by decide)
        · refine comp_in s.cps.toList [] (by rw [List.length_nil, show s.cps.toList.length = s.length by simp [Str.length]]; omega) ⟨_, rfl, ?_⟩
          have e3 : nameD (.str s) = (([] ++ s.cps.toList.map fun c => decide (c ∈ letters.cps.toList)).all id) := by
            dsimp only [nameD]
            rw [List.nil_append, List.all_map, decide_eq_true (by omega : 1 ≤ s.length), decide_eq_true (by omega : s.length ≤ 8)]
            rfl
          rw [e3] at q
          exact q
      · have e2 := of_decide_eq_false e2
        have e3 : nameD (.str s) = false := by
          dsimp only [nameD]
          rw [decide_eq_false (by omega : ¬ s.length ≤ 8), Bool.and_false, Bool.false_and]
        rw [e3] at q
        exact q
    · have e := of_decide_eq_false e
      have e3 : nameD (.str s) = false := by
        dsimp only [nameD]
        rw [decide_eq_false (by omega : ¬ 1 ≤ s.length), Bool.false_and, Bool.false_and]
      rw [e3] at q
      exact q
  | non => exact ⟨_, rfl, q⟩
  | bl b => exact ⟨_, rfl, q⟩
  | int i => exact ⟨_, rfl, q⟩
  | lst s => exact ⟨_, rfl, q⟩
  | tup s => exact ⟨_, rfl, q⟩
  | dct s => exact ⟨_, rfl, q⟩
  | ref a =>
    obtain ⟨m, e, th⟩ := th
    cases m <;> first | exact th.elim | exact ⟨_, rfl, _, e, q⟩
  | sq s => exact th.elim
  | ty n => exact th.elim
  | ins C fs => exact th.elim
def rBag : DTS := dRet (dLstM (dCons (dCB dMax (dCons (dC (.int 0)) (dCons (dOp dSub (dVar 0) (dOp dPow (dC (.int 10)) (dC (.int 18)))) (dNil)))) (dCons (dOp dMod (dVar 0) (dC (.int 2147483629))) (dCons (dC (.int 0)) (dNil)))))
theorem bag_ok : ∀ ds M Qd Ed, spBag ds M Qd Ed → rBag (ends Qd Ed) (dstart ["_law_cell_here"] ds) M := by
  intro ds M Qd Ed h
  obtain ⟨c, rfl, q⟩ := h
  refine ⟨_, rfl, ⟨by decide, by decide, by decide⟩, _, rfl, (by show (0 : Int) < 2147483629; decide), (by show 3 ≤ sizeLine; decide), fun p hp => ?_⟩
  refine q p _ hp (fun a o ne e => by rw [updM_ne ne]; exact e) ⟨_, _, _, updM_same, ?_, ?_, by decide, by decide⟩
  · exact Int.emod_nonneg _ (by decide)
  · exact Int.emod_lt_of_pos _ (by decide)
def rCell (x y : Int) : DTS := dSeq (dIf (dTest (dOp dLt (dVar 1) (dCB dLen (dCons (dVar 0) (dNil))))) (dRet (dOp dIx (dVar 0) (dVar 1))) (dNext))
  (dRet (dOp dAdd2 (dOp dAdd2 (dOp dMul (dC (.int x)) (dVar 1)) (dC (.int y))) (dOp dMod (dCB dSum (dCons (dSlA dSl4 (dVar 0) (oNone) (oSome (dC (.int 1)))) (dNil))) (dC (.int 1000003)))))
theorem cell_ok (x y : Int) (hx : 0 ≤ x) (hx1 : x < 2 ^ 30) : ∀ ds M Qd Ed, spCell ds M Qd Ed → rCell x y (ends Qd Ed) (dstart ["_law_script", "_law_k"] ds) M := by
  intro ds M Qd Ed h
  obtain ⟨ns, k, rfl, k0, k1, hl, q⟩ := h
  refine ⟨_, rfl, _, rfl, ?_⟩
  refine br2 (fun e => ?_) (fun e => ?_)
  · have e := of_decide_eq_true e
    obtain ⟨d, h1, h2⟩ := at_some k0 e
    obtain ⟨i, _, rfl⟩ := List.mem_map.mp h2
    exact ⟨_, rfl, _, rfl, _, h1, q i⟩
  · refine ⟨_, rfl, cmul hx hx1 (by omega) (by omega), _, rfl, ?_⟩
    obtain ⟨ms, hm⟩ := cut_map (ns := ns) (lo := none) (hi := some 1)
    exact ⟨ms, hm, (by show (0 : Int) < 1000003; decide), q _⟩
theorem mul_bd {x z : Int} {n : Nat} (hx : 0 ≤ x) (hx1 : x < 2 ^ 30) (z0 : 0 ≤ z) (z1 : z ≤ 2 ^ 20) : 0 ≤ x * z ∧ x * z < 2 ^ 51 := by
  refine ⟨Int.mul_nonneg hx z0, ?_⟩
  have h1 : x * z ≤ 2 ^ 30 * z := Int.mul_le_mul_of_nonneg_right (by omega) z0
  omega
end DL
set_option Elab.async false
set_option linter.all false
set_option maxRecDepth 100000
namespace DL
open PySem L2
theorem str_len (s : Str) : s.length = s.cps.toList.length := by simp [Str.length]
theorem str_app (s t : Str) : (s ++ t).cps.toList = s.cps.toList ++ t.cps.toList := TL.tl_append s t
theorem cut_to {z : Str} {a : Int} (h : 0 ≤ a) : (cutS z none (some a)).cps.toList = z.cps.toList.take a.toNat := by
  obtain ⟨k, rfl⟩ := Int.eq_ofNat_of_zero_le h
  have e : (cutS z none (some (k : Int))).cps.toList = (z.cps.toList.drop (HT.sIx z.length 0 none)).take (HT.sIx z.length z.length (some (k : Int)) - HT.sIx z.length 0 none) := by simp [cutS]
  rw [e, HT.sIx_nat, HT.sIx_none, List.drop_zero, Nat.sub_zero, str_len]
  rw [List.take_eq_take_iff]
  omega
theorem cut_from {z : Str} {a : Int} (h : 0 ≤ a) : (cutS z (some a) none).cps.toList = z.cps.toList.drop a.toNat := by
  obtain ⟨k, rfl⟩ := Int.eq_ofNat_of_zero_le h
  have e : (cutS z (some (k : Int)) none).cps.toList = (z.cps.toList.drop (HT.sIx z.length 0 (some (k : Int)))).take (HT.sIx z.length z.length none - HT.sIx z.length 0 (some (k : Int))) := by simp [cutS]
  rw [e, HT.sIx_nat, HT.sIx_none, str_len]
  show _ = z.cps.toList.drop k
  by_cases hk : k ≤ z.cps.toList.length
  · rw [Nat.min_eq_left hk]
    rw [List.take_of_length_le (by rw [List.length_drop]; exact Nat.le_refl _)]
  · rw [Nat.min_eq_right (by omega), List.drop_eq_nil_of_le (Nat.le_refl _), List.drop_eq_nil_of_le (by omega), List.take_nil]
def Lt (s : Str) : Prop := ∀ c ∈ s.cps.toList, c ∈ letters.cps.toList
def Nm (s : Str) : Prop := 1 ≤ s.length ∧ s.length ≤ 8 ∧ Lt s
theorem Nm.name {s : Str} (h : Nm s) : nameD (.str s) = true := by
  obtain ⟨a, b, c⟩ := h
  show (decide (1 ≤ s.length) && decide (s.length ≤ 8) && s.cps.toList.all (fun c => decide (c ∈ letters.cps.toList))) = true
  rw [decide_eq_true a, decide_eq_true b, Bool.true_and, Bool.true_and, List.all_eq_true]
  exact fun x hx => decide_eq_true (c x hx)
theorem Lt.ok {s : Str} (h : Lt s) : Ok s := fun c hc => letters_ok c (h c hc)
theorem Nm.th {s : Str} (h : Nm s) {M : Mp} : Th M (.str s) := ⟨by have := h.2.1; omega, h.2.2.ok⟩
theorem Lt.to {s : Str} (h : Lt s) {a : Int} (ha : 0 ≤ a) : Lt (cutS s none (some a)) := fun c hc => by rw [cut_to ha] at hc; exact h c (List.mem_of_mem_take hc)
theorem Lt.from {s : Str} (h : Lt s) {a : Int} (ha : 0 ≤ a) : Lt (cutS s (some a) none) := fun c hc => by rw [cut_from ha] at hc; exact h c (List.mem_of_mem_drop hc)
theorem Lt.app {s t : Str} (h : Lt s) (k : Lt t) : Lt (s ++ t) := fun c hc => by rw [str_app] at hc; exact (List.mem_append.mp hc).elim (h c) (k c)
theorem Lt.one {c : Nat} (h : c ∈ letters.cps.toList) : Lt (sg1 c) := fun x hx => by
  have : x = c := by simpa using hx
  rw [this]; exact h
theorem to_len {s : Str} {a : Int} (ha : 0 ≤ a) : (cutS s none (some a)).length = min a.toNat s.length := by rw [str_len, cut_to ha, List.length_take, str_len]
theorem big_line {m : Nat} (h : m ≤ 10000) : m ≤ sizeLine := Nat.le_trans h (by decide)
theorem letters_len : letters.cps.toList.length = 26 := by decide +kernel
theorem letters_size : letters.length ≤ sizeLine := by decide +kernel
def spNames (cost : Nat) : DSp := fun ds M Q _ => ∃ (b : Addr) (sz : Int) (n : Nat), ds = [.ref b, .int sz] ∧ Bag M b n ∧ n < 900000 ∧ 0 ≤ sz ∧ sz ≤ 100 ∧ ∀ (M' : Mp) (ss : List Str), But b M M' → Bag M' b (n + cost) → (ss.length : Int) = sz → (∀ s ∈ ss, Nm s) → Q (.lst (ss.map D.str)) M'
theorem len_spNames {c : Nat} : ∀ ds M Q E, spNames c ds M Q E → ds.length = 2 := fun _ _ _ _ h => by obtain ⟨_, _, _, rfl, _⟩ := h; rfl
theorem comp_draw {b : Addr} {i j : Nat} {δ : DS} {k : List D → Mp → Prop} (h0 : (dwipe δ [i])[0]? = some (some (.ref b))) (hj : (dwipe δ [i])[j]? = some (some (.str letters))) (hi0 : i ≠ 0) (hij : i ≠ j) : ∀ (xs : List D) (cs : List Nat) (M : Mp) (n : Nat), Bag M b n → n + xs.length < 950000 → (∀ c ∈ cs, c ∈ letters.cps.toList) → cs.length + xs.length ≤ 100 →
    (∀ M' (cs' : List Nat), But b M M' → Bag M' b (n + xs.length) → cs'.length = cs.length + xs.length → (∀ c ∈ cs', c ∈ letters.cps.toList) → k (cs'.map fun c => D.str (sg1 c)) M') →
    dComp (.one i) dYes (dOp dIx (dVar j) (dCall spTake (dCons (dVar 0) (dCons (dC (.int 26)) dNil)))) .data [i] δ k xs (cs.map fun c => D.str (sg1 c)) M
  | [], cs, M, n, hb, hn, hc, hl, q => by
    refine ⟨?_, q M cs (But.refl b M) hb rfl hc⟩
    rw [List.length_map]
    exact big_line (by simp only [List.length_nil] at hl; omega)
  | x :: r, cs, M, n, hb, hn, hc, hl, q => by
    simp only [List.length_cons] at hn hl q
    have g0 : ((dwipe δ [i]).set i (some x))[0]? = some (some (.ref b)) := by rw [List.getElem?_set_ne hi0]; exact h0
    have gj : ((dwipe δ [i]).set i (some x))[j]? = some (some (.str letters)) := by rw [List.getElem?_set_ne hij]; exact hj
    refine ⟨_, gj, _, g0, b, 26, n, rfl, hb, by omega, by decide, by decide, fun M1 d s1 hb1 d0 d26 => ?_⟩
    obtain ⟨c, h1, h2⟩ := at_some (xs := letters.cps.toList) d0 (by rw [letters_len]; exact d26)
    refine ⟨letters_size, c, h1, ?_⟩
    have e : (cs.map fun c => D.str (sg1 c)) ++ [D.str (sg1 c)] = (cs ++ [c]).map fun c => D.str (sg1 c) := by rw [List.map_append]; rfl
    show dComp _ _ _ _ _ _ _ r ((cs.map fun c => D.str (sg1 c)) ++ [D.str (sg1 c)]) M1
    rw [e]
    refine comp_draw h0 hj hi0 hij r (cs ++ [c]) M1 (n + 1) hb1 (by omega) (fun y hy => ?_) (by rw [List.length_append, List.length_singleton]; omega) fun M' cs' t1 t2 t3 t4 => ?_
    · rcases List.mem_append.mp hy with hy | hy
      · exact hc y hy
      · rw [List.mem_singleton.mp hy]; exact h2
    · refine q M' cs' (s1.trans t1) (t2.mono (by omega)) ?_ t4
      rw [t3, List.length_append, List.length_singleton]
      omega
theorem rng_len (lo : Int) (n : Nat) : (rngD lo n).length = n := by simp [rngD]
theorem rng_mem {lo : Int} {n : Nat} {d : D} (h : d ∈ rngD lo n) : ∃ k : Int, d = .int k ∧ lo ≤ k ∧ k < lo + n := by
  obtain ⟨i, hi, rfl⟩ := List.mem_map.mp h
  have := List.mem_range.mp hi
  exact ⟨_, rfl, by omega, by omega⟩
theorem map_snoc {α : Type} (f : α → D) (xs : List α) (x : α) : xs.map f ++ [f x] = (xs ++ [x]).map f := by rw [List.map_append]; rfl
end DL
set_option Elab.async false
set_option linter.all false
set_option maxRecDepth 100000
set_option maxHeartbeats 4000000
namespace DL
open PySem L2
theorem sg_len (c : Nat) : (sg1 c).length = 1 := rfl
theorem letter_at {i : Int} (h0 : 0 ≤ i) (h1 : i < 26) : ∃ c, atI letters.cps.toList i = some c ∧ c ∈ letters.cps.toList := at_some h0 (by rw [letters_len]; exact h1)
end DL
set_option Elab.async false
set_option linter.all false
set_option maxRecDepth 100000
namespace DL
open PySem L2
def Ext (M M' : Mp) : Prop := ∀ a o, M a = some o → M' a = some o
theorem Ext.refl (M : Mp) : Ext M M := fun _ _ e => e
theorem Ext.trans {M M1 M2 : Mp} (h : Ext M M1) (k : Ext M1 M2) : Ext M M2 := fun a o e => k a o (h a o e)
theorem Ext.new {M : Mp} {p : Addr} {o : MO} (h : M p = none) : Ext M (updM M p o) := fun a u e => by
  rw [updM_ne (fun z => by rw [z, h] at e; cases e)]; exact e
mutual
theorem ShOf.ext {M M' : Mp} (h : Ext M M') : ∀ {d : D} {t : Sh}, ShOf M d t → ShOf M' d t
  | _, _, .non => .non
  | _, _, .bl b => .bl b
  | _, _, .int l => .int l
  | _, _, .str l => .str l
  | _, _, .lst s => .lst (ShOfs.ext h s)
  | _, _, .sq s => .sq (ShOfs.ext h s)
  | _, _, .tup s => .tup (ShOfs.ext h s)
  | _, _, .dct a b => .dct (ShOfs.ext h a) (ShOfs.ext h b)
  | _, _, .lstM e s => .lstM (h _ _ e) (ShOfs.ext h s)
  | _, _, .dctM e a b => .dctM (h _ _ e) (ShOfs.ext h a) (ShOfs.ext h b)
  | _, _, .exs e a b => .exs (h _ _ e) a b
theorem ShOfs.ext {M M' : Mp} (h : Ext M M') : ∀ {ds : List D} {ts : List Sh}, ShOfs M ds ts → ShOfs M' ds ts
  | _, _, .nil => .nil
  | _, _, .cons a b => .cons (ShOf.ext h a) (ShOfs.ext h b)
end
def Shw (M : Mp) (d : D) (n c : Nat) : Prop := ∃ t, ShOf M d t ∧ t.dep ≤ n ∧ t.w ≤ c
theorem Shw.mono {M : Mp} {d : D} {n m c e : Nat} (h : Shw M d n c) (h1 : n ≤ m) (h2 : c ≤ e) : Shw M d m e := let ⟨t, a, b, k⟩ := h; ⟨t, a, Nat.le_trans b h1, Nat.le_trans k h2⟩
theorem Shw.ext {M M' : Mp} {d : D} {n c : Nat} (x : Ext M M') (h : Shw M d n c) : Shw M' d n c := let ⟨t, a, b, k⟩ := h; ⟨t, a.ext x, b, k⟩
theorem shw_non {M : Mp} : Shw M .non 0 4 := ⟨_, .non, Nat.le_refl _, by decide +kernel⟩
theorem shw_bl {M : Mp} (b : Bool) : Shw M (.bl b) 0 5 := ⟨_, .bl b, Nat.le_refl _, by cases b <;> decide +kernel⟩
theorem shw_str {M : Mp} {s : Str} {n : Nat} (h : Ok s) (l : s.length ≤ n) (l2 : n ≤ 100000) : Shw M (.str s) 0 (10 * n + 2) := by
  have z : (reprText s).length ≤ 10 * s.length + 2 := by
    have := StrLaws.reprText_len s (fun c hc => Nat.lt_trans (h c hc) (by decide))
    omega
  exact ⟨_, .str (Nat.le_trans z (Nat.le_trans (by omega : _ ≤ 1000002) (by decide))), Nat.le_refl _, by unfold Sh.w; omega⟩
theorem shw_list {M : Mp} {n c : Nat} : ∀ {ds : List D}, (∀ d ∈ ds, Shw M d n c) → ∃ ts, ShOfs M ds ts ∧ Sh.deps ts ≤ n ∧ Sh.ws ts ≤ ds.length * (c + 2)
  | [], _ => ⟨[], .nil, Nat.zero_le _, by simp [Sh.ws]⟩
  | d :: r, h => by
    obtain ⟨t, a, b, k⟩ := h d List.mem_cons_self
    obtain ⟨ts, a2, b2, k2⟩ := shw_list fun x hx => h x (List.mem_cons_of_mem _ hx)
    refine ⟨t :: ts, .cons a a2, ?_, ?_⟩
    · unfold Sh.deps; omega
    · unfold Sh.ws
      rw [List.length_cons, Nat.add_mul, Nat.one_mul]
      omega
theorem shw_lst {M : Mp} {n c : Nat} {ds : List D} (h : ∀ d ∈ ds, Shw M d n c) : Shw M (.lst ds) (n + 1) (ds.length * (c + 2) + 3) := by
  obtain ⟨ts, a, b, k⟩ := shw_list h
  exact ⟨_, .lst a, by unfold Sh.dep; omega, by unfold Sh.w; omega⟩
theorem shw_tup {M : Mp} {n c : Nat} {ds : List D} (h : ∀ d ∈ ds, Shw M d n c) : Shw M (.tup ds) (n + 1) (ds.length * (c + 2) + 3) := by
  obtain ⟨ts, a, b, k⟩ := shw_list h
  exact ⟨_, .tup a, by unfold Sh.dep; omega, by unfold Sh.w; omega⟩
theorem shw_ref {M : Mp} {n c : Nat} {p : Addr} {ds : List D} (e : M p = some (.lst ds)) (h : ∀ d ∈ ds, Shw M d n c) : Shw M (.ref p) (n + 1) (ds.length * (c + 2) + 3) := by
  obtain ⟨ts, a, b, k⟩ := shw_list h
  exact ⟨_, .lstM e a, by unfold Sh.dep; omega, by unfold Sh.w; omega⟩
theorem shw_dct0 {M : Mp} : Shw M (.dct []) 1 3 := ⟨_, .dct .nil .nil, by decide +kernel, by decide +kernel⟩
end DL
set_option Elab.async false
set_option linter.all false
set_option maxRecDepth 100000
namespace DL
open PySem L2
theorem exm_ref {K : PySem.W.Frag} {t : Value} {C : Addr} {b : Bool} (h1 : PySem.W.subIn K (.ref C) (.type "BaseException") = some true) (h2 : PySem.W.isClsIn K C = true) (h3 : PySem.W.typeIn K (.ref C) = some (.type "type")) (h4 : PySem.W.subIn K t (.ref C) = some b) : PySem.W.exmOne K t (.ref C) = some b := by
  unfold PySem.W.exmOne
  rw [h1, if_pos (by simp)]
  unfold PySem.W.kitCls
  dsimp only
  rw [h3]
  have : (PySem.W.clsIn K C).isSome = true := h2
  rw [this, if_pos (by simp)]
  exact h4
end DL
set_option Elab.async false
set_option linter.all false
set_option maxRecDepth 100000
set_option maxHeartbeats 2000000
namespace DL
open PySem PySem.Spec PyProof.Rows L2
def stF {α : Type} (i : Nat) (xs : List α) : List α := xs.take i
def stM {α : Type} (n i : Nat) (xs : List α) : List α := (xs.drop i).take (xs.length + 1 - n)
def stL {α : Type} (n i : Nat) (xs : List α) : List α := (xs.drop i).drop (xs.length + 1 - n)
section
variable {prog : Program} {w : World} {A : Around} {E : Value → Shared → Prop} {s : Shared} {a : Addr} {its : List Value} {n i : Nat} {Q : List Value → Shared → Prop}
theorem st_end {it : Addr} {T : String} {St : Nat → Heap → Prop} {g : Heap} {bad : List Value → Sem (List Value)} (hT : T = "str_ascii_iterator" ∨ T = "str_iterator" ∨ T = "list_iterator" ∨ T = "tuple_iterator") (Wk : Walks prog w A.in1 it [it, a] [it] its.toArray.size (fun j v => its.toArray[j]? = some v) St) (ty : ∀ j (u : Shared), St j u.heap → u.TypeIs (.ref it) T)
    (st : St i g) (l1 : it < g.objs.size) (l2 : a < g.objs.size) (hi : i < n) (hn : n ≤ its.length + 1) (hz : its.length ≤ 16384) (kp : ∀ b o, b ≠ it → s.heap.get? b = some o → g.get? b = some o)
    (hQ : ∀ (h2 : Heap) (tk : Nat), (∀ b o, b ≠ it → s.heap.get? b = some o → h2.get? b = some o) → Q (stF i its ++ [.ref h2.objs.size] ++ stL n i its) { s with heap := h2.push { cls := .type "list", data := .seq (stM n i its).toArray }, toks := tk }) :
    wpAny (model prog w) A (holding (stF i its) (collect (.ref it)) >>= fun rest => if rest.length < n - 1 - i then bad rest else (do return stF i its ++ [← newList (rest.take (rest.length - (n - 1 - i)))] ++ rest.drop (rest.length - (n - 1 - i)))) Q E { s with heap := g } := by
  have sz : its.toArray.size = its.length := by simp
  refine wpAny_bind (wpAny_holding (PySem.W.kun_collect (k := i) hT Wk ty (by rw [sz]; omega) st l1 l2 (fun h2 tk k2 => ?_) (by rw [sizeLine_eq, sz]; omega)))
  have ln : (its.drop i).length = its.length - i := List.length_drop
  have e : (its.drop i).length - (n - 1 - i) = its.length + 1 - n := by omega
  rw [if_neg (by omega : ¬ (its.drop i).length < n - 1 - i), e]
  exact wpAny_bind (wpAny_newList (wpAny_pure (hQ h2 tk fun b o nb q => k2 b o nb (kp b o nb q))) (by rw [List.length_take, sizeLine_eq]; omega))
theorem st_lst (hh : A.handled = none) (pl : s.heap.IsList a its.toArray) (hi : i < n) (hn : n ≤ its.length + 1) (hz : its.length ≤ 16384)
    (hQ : ∀ (h2 : Heap) (tk : Nat), (∀ b o, s.heap.get? b = some o → h2.get? b = some o) → Q (stF i its ++ [.ref h2.objs.size] ++ stL n i its) { s with heap := h2.push { cls := .type "list", data := .seq (stM n i its).toArray }, toks := tk }) : wpAny (model prog w) A (unpackItems (.ref a) n (some i)) Q E s := by
  have la : a < s.heap.objs.size := let ⟨_, e, _⟩ := pl; Heap.lt_size e
  have sz : its.toArray.size = its.length := by simp
  unfold unpackItems notIterableAtAll
  refine wpAny_bind (wpAny_bind (wpAny_specialOf pl.typeIs slot_list_iter.lookup (wpAny_pure ?_)))
  rw [if_neg Bool.false_ne_true]
  refine wpAny_bind (wpAny_holding (wpAny_pyIter_list pl (wpAny_bind (wpAny_holding (PySem.W.kun_draw (Nat.ne_of_lt la) i 0 _ _ ⟨_, Heap.get?_push_size _ rfl, rfl, rfl⟩ (pl.push _) (by rw [sz]; omega) fun g gi gs => ?_)))))
  have gl : g.IsList a its.toArray := (pl.push _).extBut gs.extBut (Nat.ne_of_lt la)
  rw [Nat.zero_add] at gi
  have lg : s.heap.objs.size < g.objs.size := let ⟨_, e, _⟩ := gi; Heap.lt_size e
  have e0 : (its.toArray.toList.drop 0).take i = stF i its := rfl
  rw [e0, if_neg (by show ¬ (its.take i).length < i; rw [List.length_take]; omega)]
  dsimp only
  refine st_end (T := "list_iterator") (.inr (.inr (.inl rfl))) (Walks.list (A := A.in1) hh s.heap.objs.size a (Nat.ne_of_lt la) its.toArray) (fun j u st => st.1.typeIs) ⟨gi, gl⟩ lg (Nat.lt_trans la lg) hi hn hz (fun b o nb q => gs.extBut b o nb (Heap.get?_push_of_some _ q)) fun h2 tk kp => hQ h2 tk fun b o q => kp b o (Nat.ne_of_lt (Heap.lt_size q)) q
theorem st_tup (hh : A.handled = none) (pl : IsTup s.heap a its.toArray) (hi : i < n) (hn : n ≤ its.length + 1) (hz : its.length ≤ 16384)
    (hQ : ∀ (h2 : Heap) (tk : Nat), (∀ b o, s.heap.get? b = some o → h2.get? b = some o) → Q (stF i its ++ [.ref h2.objs.size] ++ stL n i its) { s with heap := h2.push { cls := .type "list", data := .seq (stM n i its).toArray }, toks := tk }) : wpAny (model prog w) A (unpackItems (.ref a) n (some i)) Q E s := by
  have la : a < s.heap.objs.size := let ⟨_, e, _⟩ := pl; Heap.lt_size e
  have sz : its.toArray.size = its.length := by simp
  unfold unpackItems notIterableAtAll
  refine wpAny_bind (wpAny_bind (wpAny_specialOf pl.typeIs slot_tuple_iter.lookup (wpAny_pure ?_)))
  rw [if_neg Bool.false_ne_true]
  refine wpAny_bind (wpAny_holding (iter_tuple pl (wpAny_bind (wpAny_holding (draw_tuple (Nat.ne_of_lt la) i 0 _ _ ⟨_, Heap.get?_push_size _ rfl, rfl, rfl⟩ (pl.push _) (by rw [sz]; omega) fun g gi gs => ?_)))))
  have gl : IsTup g a its.toArray := (pl.push _).extBut gs.extBut (Nat.ne_of_lt la)
  rw [Nat.zero_add] at gi
  have lg : s.heap.objs.size < g.objs.size := let ⟨_, e, _⟩ := gi; Heap.lt_size e
  have e0 : (its.toArray.toList.drop 0).take i = stF i its := rfl
  rw [e0, if_neg (by show ¬ (its.take i).length < i; rw [List.length_take]; omega)]
  dsimp only
  refine st_end (T := "tuple_iterator") (.inr (.inr (.inr rfl))) (Walks.tuple (A := A.in1) hh s.heap.objs.size a (Nat.ne_of_lt la) its.toArray) (fun j u st => st.1.typeIs) ⟨gi, gl⟩ lg (Nat.lt_trans la lg) hi hn hz (fun b o nb q => gs.extBut b o nb (Heap.get?_push_of_some _ q)) fun h2 tk kp => hQ h2 tk fun b o q => kp b o (Nat.ne_of_lt (Heap.lt_size q)) q
end
theorem vals_take : ∀ {xs : List V} {us : List Value} (i : Nat), Vals xs us → Vals (xs.take i) (us.take i)
  | _, _, 0, _ => .nil
  | _, _, _ + 1, .nil => .nil
  | _, _, i + 1, .cons a r => .cons a (vals_take i r)
theorem vals_drop : ∀ {xs : List V} {us : List Value} (i : Nat), Vals xs us → Vals (xs.drop i) (us.drop i)
  | _, _, 0, r => r
  | _, _, _ + 1, .nil => .nil
  | _, _, i + 1, .cons _ r => vals_drop i r
theorem vals_app : ∀ {xs ys : List V} {us ws : List Value}, Vals xs us → Vals ys ws → Vals (xs ++ ys) (us ++ ws)
  | _, _, _, _, .nil, r => r
  | _, _, _, _, .cons a q, r => .cons a (vals_app q r)
theorem reps_take {K : PySem.W.Frag} {I : Hp} : ∀ {xs : List V} {us : List D} (i : Nat), Reps K I xs us → Reps K I (xs.take i) (us.take i)
  | _, _, 0, _ => .nil
  | _, _, _ + 1, .nil => .nil
  | _, _, i + 1, .cons a r => .cons a (reps_take i r)
theorem reps_drop {K : PySem.W.Frag} {I : Hp} : ∀ {xs : List V} {us : List D} (i : Nat), Reps K I xs us → Reps K I (xs.drop i) (us.drop i)
  | _, _, 0, r => r
  | _, _, _ + 1, .nil => .nil
  | _, _, i + 1, .cons _ r => reps_drop i r
section
variable {X : Cx} {W : WX} {pos : Pos} {e : Expr} {te : DTE}
def gStar (K : PySem.W.Frag) (n i : Nat) (t : TGs) : TG := fun v σ H Q => ∃ a xs, v = .ref a ∧ (SqL K H a xs ∨ SqT K H a xs) ∧ n ≤ xs.length + 1 ∧ xs.length ≤ 16384 ∧ ∀ l, H l = none → t (stF i xs ++ [.ref l] ++ stL n i xs) σ (upd H l (.lst (stM n i xs))) Q
theorem pg_star {es : List Expr} {k n i : Nat} {t : TGs} (hc : X.calm = true) (h : PGs X es t) (hi : i < n) (hn : (assignEach es X.env).length = n := by rfl) (hst : (assignEach es X.env).findIdx? (·.1) = some i := by rfl) : PG X (.Tuple es k pos) (gStar X.K n i t) := by
  refine ⟨fun pins s σ H v u Q I r hw => ?_⟩
  obtain ⟨a, xs, rfl, hq, h1, h2, hw⟩ := hw
  cases r
  rw [assign_Tuple]
  refine wpAny_bind (wpAny_standAt ?_)
  unfold unpack
  rw [hn, hst]
  have fin : ∀ its : List Value, Vals xs its → ∀ (g : Heap) (tk : Nat), (∀ b o, s.heap.get? b = some o → g.get? b = some o) → wpAny (model X.prog X.w) X.A (assignInOrder ((assignEach es X.env).map (·.2)) (stF i its ++ [.ref g.objs.size] ++ stL n i its)) (fun _ s' => ∃ σ' H', Inv X pins σ' H' s' ∧ Q σ' H') X.xe { s with heap := g.push { cls := .type "list", data := .seq (stM n i its).toArray }, toks := tk } := fun its rv g tk kp => by
    have J : Inv X pins σ H { s with heap := g, toks := tk } := I.kept kp
    have ln := rv.length
    have rm : Vals (stM n i xs) (stM n i its) := by
      have := vals_take (xs.length + 1 - n) (vals_drop i rv)
      unfold stM
      rw [← ln]
      exact this
    have rl : Vals (stL n i xs) (stL n i its) := by
      have := vals_drop (xs.length + 1 - n) (vals_drop i rv)
      unfold stL
      rw [← ln]
      exact this
    have zz : (stM n i xs).length ≤ sizeLine := by
      unfold stM
      rw [List.length_take, List.length_drop, sizeLine_eq]
      omega
    refine h.run pins _ σ _ _ _ Q (J.laid (a := g.objs.size) (o := .lst (stM n i xs)) (t' := tk) (fun b u q => Heap.get?_push_of_some _ q) (Nat.le_refl _) (show ObjOk X.prog X.w _ _ _ (.lst _) from ⟨zz, _, 0, rm, Heap.get?_push_size _ rfl⟩)) (vals_app (vals_app (vals_take i rv) (.cons (show RelV (.ref g.objs.size) (.ref g.objs.size) from rfl) .nil)) rl) (hw _ (J.hok.fresh (Nat.le_refl _)))
  rcases hq with hq | hq
  · obtain ⟨its, rv, pl, _⟩ := I.list hq
    have ln := rv.length
    exact wpAny_bind (wpAny_holding (st_lst (I.ok.hd hc) pl.isList hi (by omega) (by omega) fun g tk kp => fin its rv g tk kp))
  · obtain ⟨its, rv, pl, _⟩ := I.tuple hq
    have ln := rv.length
    exact wpAny_bind (wpAny_holding (st_tup (I.ok.hd hc) pl hi (by omega) (by omega) fun g tk kp => fin its rv g tk kp))
theorem pgs_cons2 {t : Expr} {es : List Expr} {g : TG} {u : TGs} {p : Pos} (h1 : PG X t g) (h2 : PGs X es u) (hs : (assignEach (.Starred t p :: es) X.env).map (·.2) = assign t X.env :: (assignEach es X.env).map (·.2) := by rfl) : PGs X (.Starred t p :: es) (gCons g u) := ⟨fun pins s σ H vs us Q I r h => by
  obtain ⟨v, vr, rfl, h⟩ := h
  cases r with
  | cons r rr =>
    rw [hs]
    exact assignInOrder_cons (thn (h1.run pins s σ H _ _ _ I r h) fun _ s1 ⟨σ1, H1, I1, q1⟩ => h2.run pins s1 σ1 H1 _ _ Q I1 rr q1)⟩
theorem gs_consS (i : Nat) {x : Str} {es : List Expr} {is : List Nat} {p : Pos} (hN : X.N.Nodup) (h2 : DGs X W es (gdNames is)) (hi : X.N[i]? = some x := by rfl) (hx : Loc X.env.scope x := by first | exact Or.inl rfl | exact Or.inr rfl) (hf : X.fn x = true ∨ X.env.scope.names.lookup x = some .local := by first | exact .inl rfl | exact .inr rfl | assumption)
    (hs : (assignEach (.Starred (.Name x pos) p :: es) X.env).map (·.2) = assign (.Name x pos) X.env :: (assignEach es X.env).map (·.2) := by rfl) : DGs X W (.Starred (.Name x pos) p :: es) (gdNames (i :: is)) :=
  pgs_imp (pgs_cons2 (pg_name hN hi hx hf) h2 hs) fun v σ H Q h => by
    obtain ⟨I, M, F, δ, ds, Qd, Ed, hr, rs, r, q, fq, fx⟩ := h
    cases r with
    | nil => exact q.elim
    | @cons v1 d1 vr dr r1 rr => exact ⟨v1, vr, rfl, I, M, F, _, dr, Qd, fun _ _ _ => False, hr, rs.set i r1, rr, gdNames_E is dr _ M Qd Ed _ q, fq, fun _ _ _ _ _ _ z => z.elim⟩
def gdStar (n i : Nat) (t : DTGs) : DTG := fun d δ M Q E => asQ M d fun xs => n ≤ xs.length + 1 ∧ xs.length ≤ 16384 ∧ t (stF i xs ++ [.lst (stM n i xs)] ++ stL n i xs) δ M Q E
theorem reps_st {K : PySem.W.Frag} {I : Hp} {vs : List V} {ds : List D} {n i : Nat} (r : Reps K I vs ds) : Reps K I (stF i vs) (stF i ds) ∧ Reps K I (stM n i vs) (stM n i ds) ∧ Reps K I (stL n i vs) (stL n i ds) := by
  unfold stF stM stL
  rw [r.len]
  exact ⟨reps_take i r, reps_take _ (reps_drop i r), reps_drop _ (reps_drop i r)⟩
theorem g_star {es : List Expr} {k n i : Nat} {t : List Nat} (hc : X.calm = true) (h : DGs X W es (gdNames t)) (hi : i < n := by decide) (hn : (assignEach es X.env).length = n := by rfl) (hst : (assignEach es X.env).findIdx? (·.1) = some i := by rfl) : DG X W (.Tuple es k pos) (gdStar n i (gdNames t)) :=
  pg_imp (pg_star hc h hi hn hst) fun v σ H Q h => by
    obtain ⟨I, M, F, δ, d, Qd, Ed, hr, rs, r, q, fq, fx⟩ := h
    obtain ⟨a, vs, ds, rfl, hs, rr, q1, q2, q⟩ := asQ_out hr r q
    obtain ⟨r1, r2, r3⟩ := reps_st (n := n) (i := i) rr
    refine ⟨a, vs, rfl, hs.imp id And.left, by rw [rr.len]; exact q1, by rw [rr.len]; exact q2, fun l hl => ?_⟩
    have s := same_new (o := .lst (stM n i vs)) (hr.fresh hl).1
    exact ⟨_, M, F, δ, _, Qd, Ed, hr.newI hl _, rs.mono s, ((r1.mono s).app (.cons (.lst upd_same (r2.mono s)) .nil)).app (r3.mono s), q, fun δ' M' I' H' σ' q' s' => fq δ' M' I' H' σ' q' (s.trans s'), fx.mono s⟩
end
end DL
set_option Elab.async false
set_option linter.all false
set_option maxRecDepth 100000
set_option maxHeartbeats 2000000
namespace DL
open PySem PySem.Spec PyProof.Rows L2
section
variable {X : Cx} {W : WX} {a b e o : Expr} {ta tb te to : DTE} {pos apos p : Pos}
def asS (M : Mp) (d : D) (R : List D → Src → Prop) : Prop := match d with | .tup xs => R xs .data | d => asL M d R
def iQ (te : DTE) : DTI := fun δ M R E => te δ M (fun d M1 => asS M1 d fun xs src => R xs src M1) E
theorem pi_seq {l tg : Expr} {tl : TE} (hl : PE X l tl) : PI X tg l (fun σ H R => tl σ H fun x H1 => ∃ a, x = .ref a ∧ (((∃ xs, SqL X.K H1 a xs) ∧ R (Itl X.K a) H1) ∨ ((∃ xs, SqT X.K H1 a xs) ∧ R (Itt X.K a) H1))) := ⟨fun pins s σ H R I h => by
  refine thn (hl.run pins s σ H _ I h) fun v s1 ⟨x, H1, J, r1, a, e1, q1⟩ => ?_
  subst e1
  cases r1
  have fp : ∀ b ∈ [s1.heap.objs.size], _ := fun b hb => (List.mem_singleton.mp hb) ▸ J.fpOk (Nat.le_refl _) (J.hok.fresh (Nat.le_refl _))
  rcases q1 with ⟨⟨xs, hq⟩, q⟩ | ⟨⟨xs, hq⟩, q⟩
  · obtain ⟨its, rv, pl, hz⟩ := J.list hq
    exact wpAny_pyIter_list pl.isList ⟨_, [s1.heap.objs.size], _, _, H1, rfl, J.kept (t' := s1.toks) fun b o q => Heap.get?_push_of_some _ q, turn_list a _, ⟨_, Heap.get?_push_size _ rfl, rfl, rfl⟩, fp, q⟩
  · obtain ⟨its, rv, pl, hz⟩ := J.tuple hq
    exact wpAny_pyIter_tuple (show s1.heap.IsTuple a its.toArray from pl) ⟨_, [s1.heap.objs.size], _, _, H1, rfl, J.kept (t' := s1.toks) fun b o q => Heap.get?_push_of_some _ q, turn_tuple a _, ⟨_, Heap.get?_push_size _ rfl, rfl, rfl⟩, fp, q⟩⟩
theorem i_seq {tg : Expr} (h : DE X W e te) : DI X W tg e (iQ te) := pi_imp (pi_seq h) fun σ H R q => by
  obtain ⟨I, M, F, δ, Rd, Ed, hr, rs, q, fq, fx⟩ := q
  refine ⟨I, M, F, δ, _, Ed, hr, rs, q, fun d M1 I1 H1 v q1 s1 hr1 r1 => ?_, fx⟩
  cases r1 with
  | @lst a vs ds s rr => exact ⟨a, rfl, .inl ⟨⟨vs, SqL.of (hr1.imm _ _ s)⟩, fq ds .data M1 I1 H1 _ q1 trivial s1 hr1 (dwalk_list rr fun I' M' F' H' s' hr' _ => ⟨vs, SqL.of (hr'.imm _ _ (s' _ _ s)), rr.mono s'⟩)⟩⟩
  | @sq a vs ds s rr => exact ⟨a, rfl, .inl ⟨⟨vs, hr1.sq s⟩, fq ds .data M1 I1 H1 _ q1 trivial s1 hr1 (dwalk_list rr fun I' M' F' H' s' hr' _ => ⟨vs, hr'.sq (sq_mono s' s), rr.mono s'⟩)⟩⟩
  | ref a =>
    obtain ⟨ds, e1, q1⟩ := q1
    obtain ⟨vs, e2, rr⟩ := hr1.lst e1
    exact ⟨a, rfl, .inl ⟨⟨vs, SqL.of e2⟩, fq ds (.at a ds) M1 I1 H1 _ q1 e1 s1 hr1 (dwalk_list rr fun I' M' F' H' s' hr' ho => by
      obtain ⟨vs', e3, r3⟩ := hr'.lst ho
      exact ⟨vs', SqL.of e3, r3⟩)⟩⟩
  | @tup a vs ds s rr =>
    refine ⟨a, rfl, .inr ⟨⟨vs, hr1.st s⟩, fq ds .data M1 I1 H1 _ q1 trivial s1 hr1 ⟨fun i I' M' F H hi s' hr' ho => walk_tup.goes i H (by rw [rr.len]; exact hi) (hr'.st (st_mono s' s)), fun I' M' F H s' hr' ho => by rw [← rr.len]; exact walk_tup.stops H (hr'.st (st_mono s' s)), fun i x I' M' F H H' hi s' hr' ho y => ?_⟩⟩⟩
    obtain ⟨e1, e2⟩ := walk_tup.yields i H x H' (by rw [rr.len]; exact hi) (hr'.st (st_mono s' s)) y
    subst e1
    obtain ⟨d, e3, e4⟩ := rr.get e2
    exact ⟨I', d, Same.refl I', hr', e3, e4.mono s'⟩
  | _ => exact q1.elim
end
section
variable {P : Program} {w : World} {h : Heap}
end
section
variable {X : Cx} {W : WX} {e : Expr} {te : DTE} {p pos : Pos}
end
end DL
set_option Elab.async false
set_option linter.all false
set_option maxRecDepth 100000
set_option maxHeartbeats 2000000
namespace DL
open PySem PySem.Spec PyProof.Rows L2
def dE0 (g : Bool → Bool) : DR2 := fun x y M Q => y = .lst [] ∧ asX M x fun xs => Q (.bl (g xs.isEmpty)) M
def rE0 (K : PySem.W.Frag) (g : Bool → Bool) : R2 := fun x y H Q => ∃ a b xs, x = .ref a ∧ y = .ref b ∧ SqL K H a xs ∧ SqL K H b [] ∧ Q (.bl (g xs.isEmpty)) H
section
variable {X : Cx}
theorem op_e0 {k : Nat} (rm : Room k X.A) : OpR X (compareOp .Eq) (rE0 X.K id) := fun pins s σ H x y v u Q J rx ry h => by
  obtain ⟨a, b, xs, rfl, rfl, h1, h2, q⟩ := h
  cases rx; cases ry
  obtain ⟨i1, r1, p1, _⟩ := J.list h1
  obtain ⟨i2, r2, p2, _⟩ := J.list h2
  cases r2
  have hu := rm.un
  have l1 := r1.length
  show wpAny _ _ (richCompare .Eq _ _) _ _ _
  cases xs with
  | nil =>
    cases r1
    refine PySem.SeqAt.RcAt.lists (e := fun _ => true) p1.isList p2.isList rfl (by omega) (fun j h1 _ => absurd h1 (Nat.not_lt_zero j)) _ _ _ _ ⟨.bl true, H, J, ?_, q⟩
    rfl
  | cons c r =>
    refine PySem.SeqAt.RcAt.lists_lengths p1.isList p2.isList ?_ (by omega) _ _ _ _ ⟨.bl false, H, J, rfl, q⟩
    rw [List.length_cons] at l1
    simp only [List.size_toArray, bne_iff_ne, ne_eq]
    show ¬ i1.length = 0
    omega
theorem op_n0 {k : Nat} (rm : Room k X.A) : OpR X (compareOp .NotEq) (rE0 X.K not) := fun pins s σ H x y v u Q J rx ry h => by
  obtain ⟨a, b, xs, rfl, rfl, h1, h2, q⟩ := h
  cases rx; cases ry
  obtain ⟨i1, r1, p1, _⟩ := J.list h1
  obtain ⟨i2, r2, p2, _⟩ := J.list h2
  cases r2
  have hu := rm.un
  have l1 := r1.length
  show wpAny _ _ (richCompare .NotEq _ _) _ _ _
  cases xs with
  | nil =>
    cases r1
    refine PySem.SeqAt.RcNeAt.lists (e := fun _ => true) p1.isList p2.isList rfl (by omega) (fun j h1 _ => absurd h1 (Nat.not_lt_zero j)) _ _ _ _ ⟨.bl false, H, J, ?_, q⟩
    rfl
  | cons c r =>
    refine PySem.SeqAt.RcNeAt.lists_lengths p1.isList p2.isList ?_ (by omega) _ _ _ _ ⟨.bl true, H, J, rfl, q⟩
    rw [List.length_cons] at l1
    simp only [List.size_toArray, bne_iff_ne, ne_eq]
    show ¬ i1.length = 0
    omega
theorem lr_e0 {K : PySem.W.Frag} {g : Bool → Bool} : LR K (rE0 K g) (dE0 g) := fun I M F H x y dx dy Qd Q hr rx ry q fq => by
  obtain ⟨e, q⟩ := q
  subst e
  obtain ⟨a, vs, ds, e1, h1, r1, q⟩ := asX_out hr rx q
  cases ry with
  | lst s rr =>
    cases rr
    refine ⟨a, _, vs, e1, rfl, SqL.of h1, SqL.of (hr.imm _ _ s), ?_⟩
    have e2 : vs.isEmpty = ds.isEmpty := by cases r1 <;> rfl
    rw [e2]
    exact fq _ M I H _ q (Same.refl I) hr (.bl _)
end
end DL
set_option Elab.async false
set_option linter.all false
set_option maxRecDepth 100000
set_option maxHeartbeats 2000000
namespace DL
open PySem L2
theorem Src.okI {src : Src} {M : Mp} {P : Prop} (h : src.holds M) (p : P) : src.ok M P := by
  cases src with
  | data => exact p
  | «at» a xs => exact ⟨h, p⟩
  | lk a m => exact ⟨h, p⟩
  | two a xs b ys => exact ⟨h, p⟩
def seqD (M : Mp) : D → Option (List D)
  | .lst xs => some xs
  | .tup xs => some xs
  | .ref a => match M a with | some (.lst xs) => some xs | _ => none
  | _ => none
theorem seq_len {M : Mp} {d : D} {xs : List D} {Q : DK} (h : seqD M d = some xs) (q : Q (.int (xs.length : Nat)) M) : dLen1 d M Q := by
  cases d with
  | ref a =>
    unfold seqD at h
    dsimp only at h
    split at h
    · rename_i ys e
      cases h
      exact ⟨_, e, q⟩
    · cases h
  | lst s => cases h; exact q
  | tup s => cases h; exact q
  | _ => cases h
theorem seq_it {M : Mp} {d : D} {xs : List D} {R : List D → Src → Prop} (h : seqD M d = some xs) (q : ∀ src : Src, src.holds M → R xs src) : asS M d R := by
  cases d with
  | ref a =>
    unfold seqD at h
    dsimp only at h
    split at h
    · rename_i ys e
      cases h
      exact ⟨_, e, q (.at a xs) e⟩
    · cases h
  | lst s => cases h; exact q .data trivial
  | tup s => cases h; exact q .data trivial
  | _ => cases h
theorem seq_q {M : Mp} {d : D} {xs : List D} {k : List D → Prop} (h : seqD M d = some xs) (q : k xs) : asQ M d k := by
  cases d with
  | ref a =>
    unfold seqD at h
    dsimp only at h
    split at h
    · rename_i ys e
      cases h
      exact ⟨_, e, q⟩
    · cases h
  | lst s => cases h; exact q
  | tup s => cases h; exact q
  | _ => cases h
theorem comp_pure {t : TgI} {tt : DTT} {te : DTE} {src : Src} {vs : List Nat} {δ : DS} {k : List D → Mp → Prop} {M : Mp} (g : D → DS) (p : D → Bool) (f : D → D) (hs : src.holds M) : ∀ (xs acc : List D),
    (∀ x ∈ xs, ∀ k' : DS → Prop, k' (g x) → t.d x (dwipe δ vs) k') →
    (∀ x ∈ xs, ∀ Q : Bool → Mp → Prop, Q (p x) M → tt (g x) M Q E0d) →
    (∀ x ∈ xs, p x = true → ∀ Q : DK, Q (f x) M → te (g x) M Q E0d) →
    acc.length + xs.length ≤ sizeLine → k (acc ++ (xs.filter p).map f) M → dComp t tt te src vs δ k xs acc M
  | [], acc, ht, hp, hf, hl, q => by
    refine Src.okI hs ⟨by simpa using hl, ?_⟩
    rw [List.filter_nil, List.map_nil, List.append_nil] at q
    exact q
  | x :: r, acc, ht, hp, hf, hl, q => by
    simp only [List.length_cons] at hl
    have ht' := fun y hy => ht y (List.mem_cons_of_mem x hy)
    have hp' := fun y hy => hp y (List.mem_cons_of_mem x hy)
    have hf' := fun y hy => hf y (List.mem_cons_of_mem x hy)
    refine Src.okI hs (ht x List.mem_cons_self _ (hp x List.mem_cons_self _ (br2 (fun e => ?_) (fun e => ?_))))
    · refine hf x List.mem_cons_self e _ (comp_pure g p f hs r _ ht' hp' hf' (by rw [List.length_append, List.length_singleton]; omega) ?_)
      rw [List.filter_cons, if_pos e, List.map_cons] at q
      rw [List.append_assoc]
      exact q
    · refine comp_pure g p f hs r _ ht' hp' hf' (by omega) ?_
      rw [List.filter_cons, if_neg (by rw [e]; exact Bool.false_ne_true)] at q
      exact q
theorem comp_filt1 {i : Nat} {tt : DTT} {te : DTE} {src : Src} {vs : List Nat} {δ : DS} {k : List D → Mp → Prop} {M : Mp} (p : D → Bool) (f : D → D) (hs : src.holds M) (xs : List D)
    (hp : ∀ x ∈ xs, ∀ Q : Bool → Mp → Prop, Q (p x) M → tt ((dwipe δ vs).set i (some x)) M Q E0d)
    (hf : ∀ x ∈ xs, p x = true → ∀ Q : DK, Q (f x) M → te ((dwipe δ vs).set i (some x)) M Q E0d) (hl : xs.length ≤ sizeLine) (q : k ((xs.filter p).map f) M) : dComp (.one i) tt te src vs δ k xs [] M :=
  comp_pure (fun x => (dwipe δ vs).set i (some x)) p f hs xs [] (fun _ _ _ h => h) hp hf (by rw [List.length_nil]; omega) (by rw [List.nil_append]; exact q)
theorem comp_inv {t : TgI} {te : DTE} {src : Src} {vs : List Nat} {δ : DS} {k : List D → Mp → Prop} (J : List D → List D → Mp → Prop)
    (step : ∀ x r acc M (R : DK), J (x :: r) acc M → (∀ y M', J r (acc ++ [y]) M' → R y M') → src.ok M (t.d x (dwipe δ vs) fun δ2 => te δ2 M R E0d))
    (fin : ∀ acc M, J [] acc M → src.ok M (acc.length ≤ sizeLine ∧ k acc M)) : ∀ (xs acc : List D) (M : Mp), J xs acc M → dComp t dYes te src vs δ k xs acc M
  | [], acc, M, h => fin acc M h
  | x :: r, acc, M, h => step x r acc M _ h fun y M' h' => comp_inv J step fin r (acc ++ [y]) M' h'
theorem loop_inv {g : DTG} {tb : DTS} {src : Src} {Dd : DEnds} (J : List D → DS → Mp → Prop)
    (step : ∀ x r δ M (N : DS → Mp → Prop), J (x :: r) δ M → (∀ δ' M', J r δ' M' → N δ' M') → src.ok M (g x δ M (fun δ1 M1 => tb { Dd with nx := N, ct := N, bk := Dd.nx } δ1 M1) (fun c fo M' => Dd.ex c fo δ M')))
    (fin : ∀ δ M, J [] δ M → src.ok M (Dd.nx δ M)) : ∀ (xs : List D) (δ : DS) (M : Mp), J xs δ M → dLoop g tb src xs Dd δ M
  | [], δ, M, h => fin δ M h
  | x :: r, δ, M, h => step x r δ M _ h fun δ' M' h' => loop_inv J step fin r δ' M' h'
theorem cutD_from {xs : List D} {k : Nat} : cutD xs (some (k : Int)) none = xs.drop k := by
  unfold cutD
  rw [HT.sIx_nat, HT.sIx_none]
  rcases Nat.le_total k xs.length with h | h
  · rw [Nat.min_eq_left h]
    exact List.take_of_length_le (by rw [List.length_drop]; exact Nat.le_refl _)
  · rw [Nat.min_eq_right h, List.drop_of_length_le (Nat.le_refl _), List.drop_of_length_le h, List.take_nil]
theorem cutD_to {xs : List D} {k : Nat} : cutD xs none (some (k : Int)) = xs.take k := by
  unfold cutD
  rw [HT.sIx_nat, HT.sIx_none, List.drop_zero, Nat.sub_zero]
  rcases Nat.le_total k xs.length with h | h
  · rw [Nat.min_eq_left h]
  · rw [Nat.min_eq_right h, List.take_of_length_le (Nat.le_refl _), List.take_of_length_le h]
theorem But.upd {b p : Addr} {M M' : Mp} {o : MO} (h : But b M M') (hp : p = b) : But b M (updM M' p o) := fun a u ne e => by
  rw [updM_ne (fun z => ne (z.trans hp))]
  exact h a u ne e
theorem Ext.upd {p : Addr} {M M' : Mp} {o : MO} (h : Ext M M') (hp : M p = none) : Ext M (updM M' p o) := fun a u e => by
  rw [updM_ne (fun z => by rw [z, hp] at e; cases e)]
  exact h a u e
theorem Ext.none {p : Addr} {M M' : Mp} (h : Ext M M') (hp : M' p = none) : M p = none := by
  cases e : M p with
  | none => rfl
  | some o => rw [h p o e] at hp; cases hp
theorem But.none {b p : Addr} {M M' : Mp} (h : But b M M') (n : p ≠ b) (hp : M' p = none) : M p = none := by
  cases e : M p with
  | none => rfl
  | some o => rw [h p o n e] at hp; cases hp
end DL
set_option Elab.async false
set_option linter.all false
set_option maxRecDepth 100000
set_option maxHeartbeats 2000000
namespace DL
open PySem PySem.Spec PyProof.Rows L2
theorem Ok.app {s t : Str} (h : Ok s) (k : Ok t) : Ok (s ++ t) := fun c hc => by rw [str_app] at hc; exact (List.mem_append.mp hc).elim (h c) (k c)
theorem show_big {M : Mp} {d : D} {n c : Nat} {Q : DK} (h : Shw M d n c) (hn : n ≤ 60) (hc : c ≤ 16000000) (q : ∀ t, ShOf M d t → t.dep ≤ 60 → t.text.length ≤ sizeLine → Q (.str t.text) M) : ∃ t, ShOf M d t ∧ t.dep ≤ 60 ∧ t.text.length ≤ sizeLine ∧ Q (.str t.text) M := by
  obtain ⟨t, a, b, k⟩ := h
  have h1 := Nat.le_trans b hn
  have h2 : t.text.length ≤ sizeLine := Nat.le_trans (Sh.text_le t) (Nat.le_trans k (Nat.le_trans hc (by decide)))
  exact ⟨t, a, h1, h2, q t a h1 h2⟩
theorem Bag.ext {M M' : Mp} {b : Addr} {n : Nat} (h : Bag M b n) (x : Ext M M') : Bag M' b n := by
  obtain ⟨i, j, k, e, r⟩ := h
  exact ⟨i, j, k, x b _ e, r⟩
abbrev sL (l : List Nat) : Str := ⟨l.toArray⟩
theorem map_sL (ls : List (List Nat)) : (ls.map sL).map TL.tl = ls := by
  rw [List.map_map]
  refine Eq.trans (List.map_congr_left fun x _ => ?_) (List.map_id ls)
  simp [TL.tl]
end DL
set_option Elab.async false
set_option linter.all false
set_option maxRecDepth 100000
set_option maxHeartbeats 2000000
namespace DL
open PySem PySem.Spec PyProof.Rows L2
section
variable {X : Cx} {W : WX} {pos : Pos} {a b o e : Expr} {ta tb to te : DTE}
theorem seqD_out {K : PySem.W.Frag} {I : Hp} {M : Mp} {F H : Hp} (hr : HR K I M F H) {v : V} {d : D} {xs : List D} (r : Rep K I v d) (h : seqD M d = some xs) : ∃ p vs, v = .ref p ∧ (SqL K H p vs ∨ SqT K H p vs) ∧ Reps K I vs xs := by
  cases r with
  | lst s rr => cases h; exact ⟨_, _, rfl, .inl (SqL.of (hr.imm _ _ s)), rr⟩
  | tup s rr => cases h; exact ⟨_, _, rfl, .inr (hr.st s), rr⟩
  | ref p =>
    unfold seqD at h
    dsimp only at h
    split at h
    · rename_i ys e
      cases h
      obtain ⟨vs, e1, rr⟩ := hr.lst e
      exact ⟨_, vs, rfl, .inl (SqL.of e1), rr⟩
    · cases h
  | _ => cases h
def flatD : D → Bool
  | .non => true | .bl _ => true | .int _ => true | .str _ => true | _ => false
def wordIn : D → List Str → Bool
  | .str s, ss => decide (s ∈ ss)
  | _, _ => false
def dInW (g : Bool → Bool) : DR2 := fun x y M Q => ∃ ss : List Str, seqD M y = some (ss.map D.str) ∧ flatD x = true ∧ Q (.bl (g (wordIn x ss))) M
theorem flatD_out {K : PySem.W.Frag} {I : Hp} {v : V} {d : D} (r : Rep K I v d) (h : flatD d = true) : flatV v = true := by
  cases r <;> first | rfl | cases h
theorem reps_words {K : PySem.W.Frag} {I : Hp} : ∀ {ss : List Str} {vs : List V}, Reps K I vs (ss.map D.str) → vs = ss.map V.str
  | [], _, .nil => rfl
  | s :: r, _, .cons h t => by cases h; rw [reps_words t]; rfl
theorem all_flat : ∀ ss : List Str, (ss.map V.str).all flatV = true
  | [] => rfl
  | s :: r => by rw [List.map_cons, List.all_cons, all_flat r]; rfl
theorem inV_words {K : PySem.W.Frag} {I : Hp} {v : V} {d : D} (r : Rep K I v d) (h : flatD d = true) : ∀ ss : List Str, inV v (ss.map V.str) = wordIn d ss := by
  intro ss
  have no : (∀ s : Str, eqV (.str s) v = false) → inV v (ss.map V.str) = false := fun hn => by
    unfold inV
    rw [List.any_map, List.any_eq_false]
    exact fun s _ => by rw [Function.comp_apply, hn s]; exact Bool.false_ne_true
  cases r with
  | str x =>
    clear no
    unfold inV
    induction ss with
    | nil => rfl
    | cons s r ih =>
      rw [List.map_cons, List.any_cons, ih]
      show ((s == x) || decide (x ∈ r)) = decide (x ∈ s :: r)
      by_cases q : x = s
      · subst q; simp
      · rw [show (s == x) = false from by simpa using fun z => q z.symm, Bool.false_or]
        simp [q]
  | non => exact no fun _ => rfl
  | bl x => exact no fun _ => rfl
  | int x => exact no fun _ => rfl
  | _ => cases h
theorem lr_inW {K : PySem.W.Frag} {neg : Bool} {g : Bool → Bool} (hg : ∀ c, g c = if neg = true then !c else c) : LR K (rIn K neg) (dInW g) := fun I M F H x y dx dy Qd Q hr rx ry q fq => by
  obtain ⟨ss, e, fl, q⟩ := q
  obtain ⟨p, vs, rfl, hs, rr⟩ := seqD_out hr ry e
  cases reps_words rr
  refine ⟨p, _, rfl, hs, flatD_out rx fl, all_flat ss, ?_⟩
  have e2 : (if neg then !inV x (ss.map V.str) else inV x (ss.map V.str)) = g (wordIn dx ss) := by
    rw [hg, inV_words rx fl]
  rw [e2]
  exact fq _ M I H _ q (Same.refl I) hr (.bl _)
theorem lr_inW1 {K : PySem.W.Frag} : LR K (rIn K false) (dInW id) := lr_inW fun c => rfl
end
end DL
set_option Elab.async false
set_option linter.all false
set_option maxRecDepth 100000
set_option maxHeartbeats 2000000
namespace DL
open PySem PySem.Spec PyProof.Rows L2
abbrev LOp := List D → List D → (D → List D → Prop) → Prop
section
variable {X : Cx} {W : WX} {pos apos : Pos} {o e : Expr} {es : List Expr} {to : DTE} {ta : DTA} {name : Str} {bid : String} {r' : V → List V → Hp → VK → Prop} {r : LOp}
end
end DL
set_option Elab.async false
set_option linter.all false
set_option maxRecDepth 100000
set_option maxHeartbeats 2000000
namespace DL
open PySem PySem.Spec PyProof.Rows L2
def valD {κ : Type} [DecidableEq κ] (kvs : List (κ × D)) (k : κ) : Option D := (kvs.find? fun kv => decide (kv.1 = k)).map (·.2)
def putT (kvs : List (List Key × D)) (k : List Key) (v : D) : List (List Key × D) :=
  if (kvs.any fun kv => decide (kv.1 = k)) = true then kvs.map (fun kv => if kv.1 = k then (kv.1, v) else kv) else kvs ++ [(k, v)]
section
variable {K : PySem.W.Frag} {I : Hp} {M : Mp} {F H : Hp}
theorem RepK.val (k : Key) : ∀ {vs : List (Key × V)} {ds : List (Key × D)}, RepK K I vs ds → (valD ds k = none ∧ valV vs k = none) ∨ ∃ v d, valD ds k = some d ∧ valV vs k = some v ∧ Rep K I v d
  | _, _, .nil => .inl ⟨rfl, rfl⟩
  | _, _, .cons (k := k1) (v := v) (d := d) a b => by
    unfold valD valV
    rw [List.find?_cons, List.find?_cons]
    by_cases e : k1 = k
    · rw [decide_eq_true e]; exact .inr ⟨v, d, rfl, rfl, a⟩
    · rw [decide_eq_false e]; exact RepK.val k b
theorem RepT.len : ∀ {vs : List (List Key × V)} {ds : List (List Key × D)}, RepT K I vs ds → vs.length = ds.length
  | _, _, .nil => rfl
  | _, _, .cons _ t => congrArg (· + 1) (RepT.len t)
theorem RepT.val (k : List Key) : ∀ {vs : List (List Key × V)} {ds : List (List Key × D)}, RepT K I vs ds → (valD ds k = none ∧ valV vs k = none) ∨ ∃ v d, valD ds k = some d ∧ valV vs k = some v ∧ Rep K I v d
  | _, _, .nil => .inl ⟨rfl, rfl⟩
  | _, _, .cons (k := k1) (v := v) (d := d) a b => by
    unfold valD valV
    rw [List.find?_cons, List.find?_cons]
    by_cases e : k1 = k
    · rw [decide_eq_true e]; exact .inr ⟨v, d, rfl, rfl, a⟩
    · rw [decide_eq_false e]; exact RepT.val k b
theorem RepT.anyK (k : List Key) : ∀ {vs : List (List Key × V)} {ds : List (List Key × D)}, RepT K I vs ds → (vs.any fun kv => decide (kv.1 = k)) = (ds.any fun kv => decide (kv.1 = k))
  | _, _, .nil => rfl
  | _, _, .cons _ r => by rw [List.any_cons, List.any_cons, RepT.anyK k r]
theorem RepT.mapP {k : List Key} {v : V} {d : D} (r : Rep K I v d) : ∀ {vs : List (List Key × V)} {ds : List (List Key × D)}, RepT K I vs ds → RepT K I (vs.map fun kv => if kv.1 = k then (kv.1, v) else kv) (ds.map fun kv => if kv.1 = k then (kv.1, d) else kv)
  | _, _, .nil => .nil
  | _, _, .cons (k := k1) a b => by
    simp only [List.map_cons]
    by_cases e : k1 = k
    · simp only [if_pos e]; exact .cons r (RepT.mapP r b)
    · simp only [if_neg e]; exact .cons a (RepT.mapP r b)
theorem RepT.snoc {k : List Key} {v : V} {d : D} (r : Rep K I v d) : ∀ {vs : List (List Key × V)} {ds : List (List Key × D)}, RepT K I vs ds → RepT K I (vs ++ [(k, v)]) (ds ++ [(k, d)])
  | _, _, .nil => .cons r .nil
  | _, _, .cons a b => .cons a (RepT.snoc r b)
theorem RepT.put {k : List Key} {v : V} {d : D} (r : Rep K I v d) {vs : List (List Key × V)} {ds : List (List Key × D)} (h : RepT K I vs ds) : RepT K I (putK vs k v) (putT ds k d) := by
  unfold putK putT
  rw [h.anyK k]
  split
  · exact h.mapP r
  · exact h.snoc r
end
section
variable {X : Cx} {W : WX} {pos apos tpos : Pos} {a b o e f i : Expr} {ta tb to te tf ti : DTE}
end
end DL
set_option Elab.async false
set_option linter.all false
set_option maxRecDepth 100000
set_option maxHeartbeats 2000000
namespace DL
open PySem PySem.Spec PyProof.Rows L2
section
variable {X : Cx} {W : WX} {pos apos tpos p : Pos} {a b o e f i : Expr} {es : List Expr} {ta tk : DTA} {tb to te tf ti tv : DTE}
end
def DEnds.lk (Dd : DEnds) (a : Addr) (mL m : MO) : DEnds := { nx := fun δ M => M a = some mL ∧ Dd.nx δ (updM M a m), rt := fun v M => M a = some mL ∧ Dd.rt v (updM M a m), ex := Dd.ex, bk := fun δ M => M a = some mL ∧ Dd.bk δ (updM M a m), ct := fun δ M => M a = some mL ∧ Dd.ct δ (updM M a m) }
section
variable {X : Cx} {W : WX} {st : Stmt} {t : DTS}
end
end DL
set_option Elab.async false
set_option linter.all false
set_option maxRecDepth 100000
set_option maxHeartbeats 4000000
namespace DL
open PySem L2
def deedsW : List Str := ["wake", "doze", "ready", "sleep", "late", "still"]
def endsW : List Str := ["busy", "broken"]
def fD (n d : Str) (k : Int) (w : Str) : D := .tup [.str n, .str d, .int k, .str w]
def k3 : D → List Key
  | .tup [.str n, .str d, .int k, _] => [.inr n, .inr d, .inl k]
  | _ => []
def w4 : D → D
  | .tup [_, _, _, w] => w
  | _ => .non
def FsP : D → Prop
  | .str s => s.length ≤ 100000 ∧ Ok s
  | .non => True | .bl _ => True | .int _ => True | .lst _ => True | .tup _ => True | .dct _ => True
  | _ => False
def Fs (M : Mp) : D → Prop
  | .tup xs => xs.length ≤ 16000 ∧ ∀ x ∈ xs, FsP x
  | .ref a => ∃ m, M a = some m ∧ okM m
  | .str s => s.length ≤ 100000 ∧ Ok s
  | .non => True | .bl _ => True | .int _ => True | .lst _ => True | .dct _ => True
  | _ => False
theorem FsP.th {M : Mp} {d : D} (h : FsP d) : Th M d := by
  cases d <;> first | exact h | trivial
theorem Fs.ext {M M' : Mp} (x : Ext M M') {d : D} (h : Fs M d) : Fs M' d := by
  cases d with
  | ref a => obtain ⟨m, e, t⟩ := h; exact ⟨m, x a m e, t⟩
  | _ => exact h
structure Drv (C : Addr) (M : Mp) (x d1 d2 : Addr) (kvs tms : List (List Key × D)) : Prop where
  ins : M x = some (.ins C [("fault_words", .ref d1), ("times", .ref d2)])
  fw : M d1 = some (.dT kvs)
  tm : M d2 = some (.dT tms)
  n1 : d1 ≠ x
  n2 : d2 ≠ x
  n12 : d1 ≠ d2
end DL
set_option Elab.async false
set_option linter.all false
set_option maxRecDepth 100000
set_option maxHeartbeats 4000000
namespace DL
open PySem L2
inductive Dv where
  | list | fault (d : D) | doubled (ks : List Key) | told
def Bk (M : Mp) : D → Prop
  | .non => True | .bl _ => True | .int _ => True | .str _ => True | .lst _ => True | .tup _ => True | .dct _ => True
  | .ref a => ∃ xs, M a = some (.lst xs)
  | _ => False
def Fg (M : Mp) (d : D) : Prop := Bk M d ∧ ∀ xs, seqD M d = some xs → xs.length ≤ 100000 ∧ ∀ x ∈ xs, Fs M x
theorem Bk.ext {M M' : Mp} (x : Ext M M') {d : D} (h : Bk M d) : Bk M' d := by
  cases d with
  | ref a => obtain ⟨ys, e⟩ := h; exact ⟨ys, x a _ e⟩
  | _ => exact h
theorem seqD_bk {M M' : Mp} (x : Ext M M') {d : D} (h : Bk M d) : seqD M' d = seqD M d := by
  cases d with
  | ref a => obtain ⟨xs, e⟩ := h; simp only [seqD, e, x a _ e]
  | _ => rfl
theorem Fg.ext {M M' : Mp} (x : Ext M M') {d : D} (h : Fg M d) : Fg M' d := ⟨h.1.ext x, fun xs e => by
  rw [seqD_bk x h.1] at e
  obtain ⟨a, b⟩ := h.2 xs e
  exact ⟨a, fun y hy => (b y hy).ext x⟩⟩
end DL
set_option Elab.async false
set_option linter.all false
set_option maxRecDepth 100000
set_option maxHeartbeats 4000000
namespace DL
open PySem L2
def GF (d : D) : Prop := ∃ n dd k w, d = fD n dd k w ∧ Nm n ∧ dd ∈ deedsW ∧ 1 ≤ k ∧ k ≤ 30 ∧ w ∈ endsW
theorem GF.first {d : D} (h : GF d) : ∃ xs, d = .tup xs ∧ cutD xs none (some 3) = (k3 d).map kD := by
  obtain ⟨n, dd, k, w, rfl, _⟩ := h
  exact ⟨_, rfl, rfl⟩
end DL
set_option Elab.async false
set_option linter.all false
set_option maxRecDepth 100000
set_option maxHeartbeats 4000000
namespace DL
open PySem L2
def sgOf : D → Nat
  | .str s => s.cps.toList.headD 0
  | _ => 0
theorem comp_sgn {i : Nat} {tt : DTT} {te : DTE} {vs : List Nat} {δ : DS} {k : List D → Mp → Prop} {M : Mp} (p : Nat → Bool) (cs : List Nat) (hp : ∀ c ∈ cs, ∀ Q : Bool → Mp → Prop, Q (p c) M → tt ((dwipe δ vs).set i (some (.str (sg1 c)))) M Q E0d)
    (hf : ∀ c ∈ cs, ∀ Q : DK, Q (.str (sg1 c)) M → te ((dwipe δ vs).set i (some (.str (sg1 c)))) M Q E0d) (hl : cs.length ≤ sizeLine) (q : k ((cs.filter p).map fun c => D.str (sg1 c)) M) : dComp (.one i) tt te .data vs δ k (cs.map fun c => D.str (sg1 c)) [] M := by
  refine comp_filt1 (src := .data) (fun d => p (sgOf d)) (fun d => d) trivial _ (fun x hx Q q => ?_) (fun x hx _ Q q => ?_) (by rw [List.length_map]; exact hl) ?_
  · obtain ⟨c, hc, rfl⟩ := List.mem_map.mp hx
    exact hp c hc Q q
  · obtain ⟨c, hc, rfl⟩ := List.mem_map.mp hx
    exact hf c hc Q q
  · rw [List.map_id', List.filter_map]
    exact q
end DL
set_option Elab.async false
set_option linter.all false
set_option maxRecDepth 100000
set_option maxHeartbeats 2000000
namespace DL
open PySem PySem.Spec PyProof.Rows L2
def mdRow (e : DictEntry) : Option (Str × Int × Str) := match e.key, e.val with
  | .str x _, .str y _ => some (x, e.hash, y)
  | _, _ => none
def mdOf (P : Params) (kvs : List (Str × Str)) : List (Option (Str × Int × Str)) := kvs.map fun p => some (p.1, PyData.keyHash P p.1, p.2)
def mdW (K : PySem.W.Frag) (a : Addr) : Option (List (Option (Str × Int × Str))) := match K.lookup a with
  | some o => (match o.cls, o.dict, o.data, o.slots.isEmpty && !(a == sysModules) with
    | .type "dict", none, .dict es _, true => some (es.toList.map mdRow)
    | _, _, _, _ => none)
  | none => none
def getMd (kvs : List (Str × Str)) (z : Str) : Option Str := (kvs.find? fun p => decide (p.1 = z)).map (·.2)
structure MDict (K : PySem.W.Frag) (w : World) (a : Addr) (kvs : List (Str × Str)) : Prop where
  kd : ∃ es n, KDict K w a es n
  has : ∀ z y, getMd kvs z = some y → ∃ t, PySem.W.nsIn K a z = some (some (.str y t))
  no : ∀ z, getMd kvs z = none → PySem.W.nsIn K a z = some none
theorem md_lit {P : Params} : ∀ {l : List DictEntry} {kvs : List (Str × Str)}, l.map mdRow = mdOf P kvs → PySem.W.KeysLit P l
  | [], _, _ => trivial
  | e :: r, [], h => by cases h
  | e :: r, (k, y) :: kvs, h => by
    obtain ⟨h1, h2⟩ := List.cons.inj (show mdRow e :: r.map mdRow = some (k, PyData.keyHash P k, y) :: mdOf P kvs from h)
    refine ⟨?_, md_lit h2⟩
    unfold mdRow at h1
    split at h1
    · rename_i x t y' t' e1 e2
      have h3 := Option.some.inj h1
      simp only [Prod.mk.injEq] at h3
      exact ⟨x, t, e1, by rw [h3.1, h3.2.1]⟩
    · cases h1
theorem md_find {P : Params} (z : Str) : ∀ {l : List DictEntry} {kvs : List (Str × Str)}, l.map mdRow = mdOf P kvs → (getMd kvs z = none ∧ l.find? (·.key.isStr z) = none ∧ l.any (·.refKey) = false) ∨ ∃ y t e, getMd kvs z = some y ∧ l.find? (·.key.isStr z) = some e ∧ e.val = .str y t
  | [], [], _ => .inl ⟨rfl, rfl, rfl⟩
  | [], _ :: _, h => by cases h
  | e :: r, [], h => by cases h
  | e :: r, (k, y) :: kvs, h => by
    obtain ⟨h1, h2⟩ := List.cons.inj (show mdRow e :: r.map mdRow = some (k, PyData.keyHash P k, y) :: mdOf P kvs from h)
    unfold mdRow at h1
    split at h1
    · rename_i x t y' t' e1 e2
      have h3 := Option.some.inj h1
      simp only [Prod.mk.injEq] at h3
      obtain ⟨rfl, _, rfl⟩ := h3
      have ek : e.key.isStr z = decide (x = z) := by
        rw [e1]
        show (x == z) = decide (x = z)
        exact Bool.beq_eq_decide_eq x z
      unfold getMd
      rw [List.find?_cons, List.find?_cons, ek]
      dsimp only
      by_cases hx : x = z
      · rw [decide_eq_true hx]
        exact .inr ⟨y', t', e, rfl, rfl, e2⟩
      · rw [decide_eq_false hx]
        rcases md_find z h2 with ⟨a, b, c⟩ | ⟨a, b, c, d⟩
        · refine .inl ⟨a, b, ?_⟩
          rw [List.any_cons, c, Bool.or_false]
          unfold DictEntry.refKey
          rw [e1]
        · exact .inr ⟨a, b, c, d⟩
    · cases h1
theorem md_ok {K : PySem.W.Frag} {w : World} {a : Addr} {kvs : List (Str × Str)} (h : mdW K a = some (mdOf w.params kvs)) : MDict K w a kvs := by
  unfold mdW at h
  cases q : K.lookup a with
  | none => rw [q] at h; cases h
  | some o =>
    rw [q] at h
    dsimp only at h
    split at h
    · rename_i es n e1 e2 e3 e4
      have h := Option.some.inj h
      obtain ⟨oc, od, dt, osl⟩ := o
      cases e1; cases e2; cases e3
      simp only [Bool.and_eq_true] at e4
      have e5 : osl = #[] := Array.isEmpty_iff.mp e4.1
      subst e5
      have low : (a == sysModules) = false := by simpa using e4.2
      refine ⟨⟨es, n, q, md_lit h, low⟩, fun z y hz => ?_, fun z hz => ?_⟩
      · rcases md_find z h with ⟨g, _⟩ | ⟨y', t, e, g, f, v⟩
        · rw [g] at hz; cases hz
        · rw [g] at hz
          cases hz
          refine ⟨t, ?_⟩
          unfold PySem.W.nsIn
          rw [q]
          dsimp only
          rw [f]
          dsimp only
          rw [v]
      · rcases md_find z h with ⟨g, f, c⟩ | ⟨y', t, e, g, f, v⟩
        · unfold PySem.W.nsIn
          rw [q]
          dsimp only
          rw [f]
          dsimp only
          rw [if_neg (by rw [c]; exact Bool.false_ne_true)]
        · rw [g] at hz; cases hz
    · cases h
def dMd (te : DTE) (r : Str → Mp → DK → Prop) : DTE := fun δ M Q E => te δ M (fun x M1 => match x with | .str z => r z M1 Q | _ => False) E
def inMd (g : Bool → Bool) (kvs : List (Str × Str)) : Str → Mp → DK → Prop := fun z M Q => Q (.bl (g (getMd kvs z).isSome)) M
def ixMd (kvs : List (Str × Str)) : Str → Mp → DK → Prop := fun z M Q => ∃ y, getMd kvs z = some y ∧ Q (.str y) M
section
variable {X : Cx} {W : WX} {pos p apos : Pos} {a e o : Expr} {ta te to : DTE} {x : Str} {kvs : List (Str × Str)}
theorem d_inMd (hm : ∃ q, X.mg x = some (.ref q) ∧ MDict X.K X.w q kvs) (ha : DE X W a ta) (hg : Gl X x := by rfl) (hd : (x == ("__debug__" : Str)) = false := by decide) (hb : behindInMarks .In (.Name x p) = false := by rfl) : DE X W (.Compare a [.In] [.Name x p] pos) (dMd ta (inMd id kvs)) := by
  obtain ⟨q, hq, md⟩ := hm
  obtain ⟨es, n, kd⟩ := md.kd
  refine pe_imp (pe_cmpR (op_in_kd kd) ha (pe_glob (v := .ref q) hg hq rfl hd) hb) fun σ H Q h => ?_
  obtain ⟨I, M, F, δ, Qd, Ed, hr, rs, q0, fq, fx⟩ := h
  refine ⟨I, M, F, δ, _, Ed, hr, rs, q0, fun d M1 I1 H1 v q1 s1 hr1 r1 => ?_, fx⟩
  cases r1 with
  | str z =>
    have fin := fq _ M1 I1 H1 (.bl (getMd kvs z).isSome) q1 s1 hr1 (.bl _)
    cases e : getMd kvs z with
    | none => rw [e] at fin; exact ⟨z, none, rfl, rfl, md.no z e, fin⟩
    | some y =>
      rw [e] at fin
      obtain ⟨t, h⟩ := md.has z y e
      exact ⟨z, some _, rfl, rfl, h, fin⟩
  | _ => exact q1.elim
theorem d_ixMd (hm : ∃ q, X.mg x = some (.ref q) ∧ MDict X.K X.w q kvs) (ha : DE X W a ta) (hg : Gl X x := by rfl) (hd : (x == ("__debug__" : Str)) = false := by decide) (hs : PlainIx a := by intro _ _; rfl) : DE X W (.Subscript (.Name x p) a pos) (dMd ta (ixMd kvs)) := by
  obtain ⟨q, hq, md⟩ := hm
  obtain ⟨es, n, kd⟩ := md.kd
  refine pe_imp (pe_ix ix_kdict (pe_glob (v := .ref q) hg hq rfl hd) ha hs) fun σ H Q h => ?_
  obtain ⟨I, M, F, δ, Qd, Ed, hr, rs, q0, fq, fx⟩ := h
  refine ⟨I, M, F, δ, _, Ed, hr, rs, q0, fun d M1 I1 H1 v q1 s1 hr1 r1 => ?_, fx⟩
  cases r1 with
  | str z =>
    obtain ⟨y, e, q1⟩ := q1
    obtain ⟨t, h⟩ := md.has z y e
    exact ⟨q, z, .str y, rfl, rfl, ⟨es, n, _, kd.at_, kd.lit, h, ⟨t, rfl⟩⟩, fq _ M1 I1 H1 _ q1 s1 hr1 (.str _)⟩
  | _ => exact q1.elim
end
end DL
set_option Elab.async false
set_option linter.all false
set_option maxRecDepth 100000
set_option maxHeartbeats 2000000
namespace DL
open PySem PySem.Spec PyProof.Rows L2
section
variable {X : Cx} {W : WX} {kx vx tg iter : Expr} {scope : Scope} {own : List (Str × Nat)} {pos : Pos} {di : DTI} {t : TgI} {tk tv : DTE}
end
theorem md_ok2 {K : PySem.W.Frag} {w : World} {a : Addr} {kvs : List (Str × Str)} {es : Array DictEntry} {n : Nat} (h : K.lookup a = some ⟨.type "dict", none, .dict es n, #[]⟩) (low : (a == sysModules) = false) (he : es.toList.map mdRow = mdOf w.params kvs) : MDict K w a kvs := by
  refine md_ok ?_
  unfold mdW
  rw [h]
  dsimp only
  rw [show ((#[] : Array (Option Value)).isEmpty && !(a == sysModules)) = true from by rw [low]; rfl]
  exact congrArg some he
end DL
set_option Elab.async false
set_option linter.all false
set_option maxRecDepth 100000
set_option maxHeartbeats 4000000
namespace DL
open PySem L2
def rTakeC (x y z u v : Int) : DTS :=
  dSeq (dIf (dTest (dOp dGt (dOp dIx (dVar 0) (dC (.int 0))) (dC (.int 0)))) (dSeq (dAsg (dOp dMod (dOp dIx (dVar 0) (dC (.int 0))) (dVar 1)) (gdName 2))
  (dSeq (dAsg (dOp dDiv (dOp dIx (dVar 0) (dC (.int 0))) (dVar 1)) (gdSubL (dVar 0) (dC (.int 0))))
  (dRet (dVar 2)))) (dNext))
  (dSeq (dAsg (dOp dAdd2 (dOp dIx (dVar 0) (dC (.int 2))) (dC (.int 1))) (gdSubL (dVar 0) (dC (.int 2))))
  (dSeq (dAsg (dOp dMod (dOp dPow (dOp dAdd2 (dOp dAdd2 (dOp dIx (dVar 0) (dC (.int 1))) (dOp dMul (dC (.int x)) (dOp dIx (dVar 0) (dC (.int 2))))) (dC (.int y))) (dC (.int 5))) (dC (.int 2147483647))) (gdName 3))
  (dSeq (dAsg (dOp dMod (dOp dPow (dOp dAdd2 (dOp dAdd2 (dOp dDiv (dVar 3) (dC (.int 8))) (dOp dMul (dOp dMul (dC (.int z)) (dOp dIx (dVar 0) (dC (.int 2)))) (dOp dIx (dVar 0) (dC (.int 2))))) (dC (.int u))) (dC (.int 3))) (dC (.int 2147483629))) (gdName 4))
  (dRet (dOp dMod (dOp dAdd2 (dOp dDiv (dVar 3) (dC (.int 4))) (dOp dMul (dC (.int v)) (dOp dDiv (dVar 4) (dC (.int 4))))) (dVar 1))))))
theorem cmul2 {i j : Int} (h0 : 0 ≤ i) (h1 : i < 2 ^ 60) (h2 : -(2 ^ 60) < j) (h3 : j < 2 ^ 60) : CMulW i j := wide_mul (a := 60) (b := 60) (by omega) (by omega) (by decide) (by decide) (by decide)
theorem take_c (x y z u v : Int) (hx : 0 ≤ x) (hx1 : x < 2 ^ 30) (hy : 0 ≤ y) (hy1 : y < 2 ^ 30) (hz : 0 ≤ z) (hz1 : z < 2 ^ 17) (hu : 0 ≤ u) (hu1 : u < 2 ^ 30) (hv : 0 ≤ v) (hv1 : v < 2 ^ 30) : ∀ ds M Qd Ed, spTake ds M Qd Ed → rTakeC x y z u v (ends Qd Ed) (dstart ["b", "w", "digit", "one", "other"] ds) M := by
  intro ds M Qd Ed h
  obtain ⟨b, w, n, rfl, ⟨x0, y0, z0, hb, y00, y01, z00, z01⟩, hn, w0, w1, q⟩ := h
  refine ⟨_, rfl, _, hb, _, rfl, ?_⟩
  refine br2 (fun e => ?_) (fun e => ?_)
  · refine ⟨_, rfl, _, hb, _, rfl, _, rfl, w0, ?_⟩
    refine ⟨_, rfl, _, hb, _, rfl, _, rfl, cdiv w0 w1, ?_⟩
    refine ⟨_, rfl, _, hb, _, rfl, _, rfl, ?_⟩
    exact q _ _ (fun a o ne e => by rw [updM_ne ne]; exact e) ⟨_, _, _, updM_same, y00, y01, z00, by omega⟩ (Int.emod_nonneg _ (by omega)) (Int.emod_lt_of_pos _ w0)
  · refine ⟨_, rfl, _, hb, _, rfl, ?_⟩
    refine ⟨_, rfl, _, hb, _, rfl, ?_⟩
    have hb2 : updM M b (.lst [.int x0, .int y0, .int (z0 + 1)]) b = some (.lst [.int x0, .int y0, .int (z0 + 1)]) := updM_same
    have t0 : 0 ≤ z0 + 1 := by omega
    have t1 : z0 + 1 ≤ 2 ^ 20 := by omega
    have m1 := mul_bd (n := 0) hx hx1 t0 t1
    have m2 : 0 ≤ z * (z0 + 1) ∧ z * (z0 + 1) ≤ 2 ^ 37 := ⟨Int.mul_nonneg hz t0, by
      have h1 : z * (z0 + 1) ≤ 2 ^ 17 * (z0 + 1) := Int.mul_le_mul_of_nonneg_right (by omega) t0
      omega⟩
    have m3 : 0 ≤ z * (z0 + 1) * (z0 + 1) ∧ z * (z0 + 1) * (z0 + 1) ≤ 2 ^ 57 := ⟨Int.mul_nonneg m2.1 t0, by
      have h1 : z * (z0 + 1) * (z0 + 1) ≤ 2 ^ 37 * (z0 + 1) := Int.mul_le_mul_of_nonneg_right m2.2 t0
      omega⟩
    refine ⟨_, rfl, _, hb2, _, rfl, _, rfl, _, hb2, _, rfl, cmul hx hx1 (by omega) (by omega), ?_⟩
    refine ⟨cpow (by omega) (by omega) (by decide) (by decide), (by show (0 : Int) < 2147483647; decide), ?_⟩
    have r1 : ∀ t : Int, 0 ≤ t % 2147483647 ∧ t % 2147483647 < 2147483647 := fun t => ⟨Int.emod_nonneg _ (by decide), Int.emod_lt_of_pos _ (by decide)⟩
    generalize hm : (y0 + x * (z0 + 1) + y) ^ (5 : Int).toNat % 2147483647 = m
    have hm2 : 0 ≤ m ∧ m < 2147483647 := by rw [← hm]; exact r1 _
    refine ⟨_, rfl, cdiv (by decide) (by decide), _, rfl, _, hb2, _, rfl, cmul hz (by omega) (by omega) (by omega), _, rfl, _, hb2, _, rfl, cmul2 m2.1 (by omega) (by omega) (by omega), ?_⟩
    have d8 : 0 ≤ m / 8 ∧ m / 8 ≤ m := by omega
    generalize hs : z * (z0 + 1) * (z0 + 1) = sq at *
    refine ⟨cpow (by omega) (by omega) (by decide) (by decide), (by show (0 : Int) < 2147483629; decide), ?_⟩
    have r2 : ∀ t : Int, 0 ≤ t % 2147483629 ∧ t % 2147483629 < 2147483629 := fun t => ⟨Int.emod_nonneg _ (by decide), Int.emod_lt_of_pos _ (by decide)⟩
    generalize hk : (m / 8 + sq + u) ^ (3 : Int).toNat % 2147483629 = k
    have hk2 : 0 ≤ k ∧ k < 2147483629 := by rw [← hk]; exact r2 _
    refine ⟨_, rfl, cdiv (by decide) (by decide), _, rfl, cdiv (by decide) (by decide), cmul hv hv1 (by omega) (by omega), _, rfl, w0, ?_⟩
    exact q _ _ (fun a o ne e => by rw [updM_ne ne]; exact e) ⟨_, _, _, updM_same, y00, y01, by omega, by omega⟩ (Int.emod_nonneg _ (by omega)) (Int.emod_lt_of_pos _ w0)
def wordsC : List Str := ["on", "doze", "asleep", "off", "gain", "release", "use", "bell", "tick", "look", "sleep", "rise", "wake", "done", "busy", "broken"]
theorem splitC : Txt.split "on doze asleep off gain release use bell tick look sleep rise wake done busy broken" " " = wordsC := by decide +kernel
theorem nmC : ∀ s ∈ wordsC, Nm s := by
  intro s hs
  have h : (decide (1 ≤ s.length) && decide (s.length ≤ 8) && s.cps.toList.all (fun c => decide (c ∈ letters.cps.toList))) = true := by
    revert s
    decide +kernel
  simp only [Bool.and_eq_true, decide_eq_true_eq, List.all_eq_true] at h
  exact ⟨h.1.1, h.1.2, h.2⟩
theorem comp_strs {P Q : Str → Prop} {i : Nat} {te : DTE} {δ : DS} {k : List D → Mp → Prop} {M : Mp} {vs : List Nat} (ss : List Str) (hl : ss.length ≤ 100) (hP : ∀ s ∈ ss, P s) (el : ∀ (s : Str) (R : DK), P s → (∀ u, Q u → R (.str u) M) → te ((dwipe δ vs).set i (some (.str s))) M R E0d)
    (q : ∀ us : List Str, us.length = ss.length → (∀ u ∈ us, Q u) → k (us.map D.str) M) : dComp (.one i) dYes te .data vs δ k (ss.map D.str) [] M := by
  refine comp_inv (fun r acc M' => M' = M ∧ ∃ rs us, r = rs.map D.str ∧ acc = us.map D.str ∧ (∀ s ∈ rs, P s) ∧ (∀ u ∈ us, Q u) ∧ us.length + rs.length = ss.length) (fun x r acc M' R j h => ?_) (fun acc M' j => ?_) _ _ _ ⟨rfl, ss, [], rfl, rfl, hP, (fun _ z => nomatch z), by simp⟩
  · obtain ⟨rfl, rs, us, e, rfl, h1, h2, h3⟩ := j
    cases rs with
    | nil => cases e
    | cons s rs =>
      cases e
      refine el s R (h1 s List.mem_cons_self) fun u hu => h _ _ ⟨rfl, rs, us ++ [u], rfl, map_snoc D.str us u, fun y hy => h1 y (List.mem_cons_of_mem _ hy), fun y hy => ?_, ?_⟩
      · rcases List.mem_append.mp hy with hy | hy
        · exact h2 y hy
        · rw [List.mem_singleton.mp hy]; exact hu
      · simp only [List.length_append, List.length_cons, List.length_nil] at h3 ⊢; omega
  · obtain ⟨rfl, rs, us, e, rfl, h1, h2, h3⟩ := j
    cases rs with
    | cons s rs => cases e
    | nil =>
      rw [List.length_nil] at h3
      exact ⟨by rw [List.length_map]; exact big_line (by omega), q us (by omega) h2⟩
theorem comp_nums {Q : Str → Prop} {i : Nat} {te : DTE} {δ : DS} {k : List D → Mp → Prop} {M : Mp} {vs : List Nat} {N : Nat} (hN : N ≤ 100) (el : ∀ (j : Int) (R : DK), 0 ≤ j → j < 100 → (∀ s, Q s → R (.str s) M) → te ((dwipe δ vs).set i (some (.int j))) M R E0d)
    (q : ∀ ss : List Str, ss.length = N → (∀ s ∈ ss, Q s) → k (ss.map D.str) M) : dComp (.one i) dYes te .data vs δ k (rngD 0 N) [] M := by
  refine comp_inv (fun r acc M' => M' = M ∧ (∀ d ∈ r, ∃ j : Int, d = .int j ∧ 0 ≤ j ∧ j < 100) ∧ ∃ ss : List Str, acc = ss.map D.str ∧ (∀ s ∈ ss, Q s) ∧ ss.length + r.length = N) (fun x r acc M' R j h => ?_) (fun acc M' j => ?_) _ _ _ ⟨rfl, fun d hd => ?_, [], rfl, (fun _ z => nomatch z), by rw [List.length_nil, rng_len]; omega⟩
  · obtain ⟨rfl, hr, ss, rfl, h1, h2⟩ := j
    obtain ⟨j, rfl, j0, j1⟩ := hr x List.mem_cons_self
    refine el j R j0 j1 fun s hs => h _ _ ⟨rfl, fun d hd => hr d (List.mem_cons_of_mem _ hd), ss ++ [s], map_snoc D.str ss s, fun y hy => ?_, ?_⟩
    · rcases List.mem_append.mp hy with hy | hy
      · exact h1 y hy
      · rw [List.mem_singleton.mp hy]; exact hs
    · rw [List.length_append, List.length_singleton]
      rw [List.length_cons] at h2
      omega
  · obtain ⟨rfl, _, ss, rfl, h1, h2⟩ := j
    rw [List.length_nil] at h2
    exact ⟨by rw [List.length_map]; exact big_line (by omega), q ss (by omega) h1⟩
  · obtain ⟨j, rfl, j0, j1⟩ := rng_mem hd
    exact ⟨j, rfl, by omega, by omega⟩
theorem cut_mid_len {s : Str} {a c : Int} (ha : 0 ≤ a) (hc : 0 ≤ c) : (cutS s (some a) (some c)).length ≤ (c - a).toNat := by
  obtain ⟨i, rfl⟩ := Int.eq_ofNat_of_zero_le ha
  obtain ⟨j, rfl⟩ := Int.eq_ofNat_of_zero_le hc
  rw [str_len]
  have e : (cutS s (some (i : Int)) (some (j : Int))).cps.toList = (s.cps.toList.drop (HT.sIx s.length 0 (some (i : Int)))).take (HT.sIx s.length s.length (some (j : Int)) - HT.sIx s.length 0 (some (i : Int))) := by simp [cutS]
  rw [e, HT.sIx_nat, HT.sIx_nat, List.length_take, List.length_drop, ← str_len]
  omega
theorem Lt.cut {s : Str} (h : Lt s) {lo hi : Option Int} : Lt (cutS s lo hi) := fun c hc => by
  have e : (cutS s lo hi).cps.toList = (s.cps.toList.drop (HT.sIx s.length 0 lo)).take (HT.sIx s.length s.length hi - HT.sIx s.length 0 lo) := by simp [cutS]
  rw [e] at hc
  exact h c (List.mem_of_mem_drop (List.mem_of_mem_take hc))
def rNamesC : DTS :=
  dSeq (dAsg (dC (.str letters)) (gdName 2))
  (dSeq (dAsg (dTup (dCons (dCall spTake (dCons (dVar 0) (dCons (dC (.int 3)) (dNil)))) (dCons (dCall spTake (dCons (dVar 0) (dCons (dC (.int 26)) (dNil)))) (dNil)))) (gdTup 2 (gdNames [3, 4])))
  (dSeq (dAsg (dTup (dCons (dOp dAdd2 (dC (.int 1)) (dCall spTake (dCons (dVar 0) (dCons (dC (.int 8)) (dNil))))) (dCons (dOp dIx (dLst (dCons (dC (.int 1)) (dCons (dC (.int 3)) (dCons (dC (.int 5)) (dCons (dC (.int 7)) (dCons (dC (.int 9)) (dCons (dC (.int 11)) (dCons (dC (.int 15)) (dNil))))))))) (dCall spTake (dCons (dVar 0) (dCons (dC (.int 7)) (dNil))))) (dNil)))) (gdTup 2 (gdNames [5, 6])))
  (dSeq (dAsg (dCall spTake (dCons (dVar 0) (dCons (dVar 5) (dNil)))) (gdName 7))
  (dSeq (dAsg (dJoin (dC (.str "")) (dLc (iR1 (dCons (dC (.int 7)) (dNil))) (.one 12) dYes (dOp dIx (dVar 2) (dCall spTake (dCons (dVar 0) (dCons (dC (.int 26)) (dNil))))) [12])) (gdName 8))
  (dSeq (dIf (dTest (dOp dEq (dVar 3) (dC (.int 0)))) (dSeq (dAsg (dM1 rdSplit (dC (.str "on doze asleep off gain release use bell tick look sleep rise wake done busy broken")) (dC (.str " "))) (gdName 9))
  (dSeq (dAsg (dOp dIx (dLst (dCons (dC (.int 1)) (dCons (dC (.int 3)) (dCons (dC (.int 5)) (dCons (dC (.int 7)) (dCons (dC (.int 9)) (dCons (dC (.int 11)) (dCons (dC (.int 13)) (dNil))))))))) (dOp dMod (dVar 6) (dC (.int 7)))) (gdName 6))
  (dRet (dLc (iR1 (dCons (dVar 1) (dNil))) (.one 12) dYes (dOp dIx (dVar 9) (dOp dMod (dOp dAdd2 (dVar 4) (dOp dMul (dVar 6) (dVar 12))) (dC (.int 16)))) [12])))) (dNext))
  (dSeq (dIf (dTest (dOp dEq (dVar 3) (dC (.int 1)))) (dSeq (dAsg (dOp dAdd2 (dVar 8) (dOp dIx (dVar 2) (dVar 4))) (gdName 8))
  (dRet (dLc (iR1 (dCons (dVar 1) (dNil))) (.one 12) dYes (dSlA dSl4 (dVar 8) (oNone) (oSome (dOp dAdd2 (dC (.int 1)) (dOp dMod (dOp dAdd2 (dVar 7) (dVar 12)) (dC (.int 8)))))) [12]))) (dNext))
  (dSeq (dAsg (dLc (iR1 (dCons (dVar 1) (dNil))) (.one 12) dYes (dOp dIx (dVar 2) (dOp dMod (dOp dAdd2 (dVar 4) (dOp dMul (dVar 6) (dVar 12))) (dC (.int 26)))) [12]) (gdName 10))
  (dSeq (dAsg (dSlA dSl4 (dVar 8) (oSome (dVar 7)) (oSome (dOp dSub (dVar 5) (dC (.int 1))))) (gdName 11))
  (dRet (dLc (iL (dVar 10)) (.one 13) dYes (dOp dAdd2 (dOp dAdd2 (dSlA dSl4 (dVar 8) (oNone) (oSome (dVar 7))) (dVar 13)) (dVar 11)) [13]))))))))))
theorem names_c : ∀ ds M Qd Ed, spNames 12 ds M Qd Ed → rNamesC (ends Qd Ed) (dstart ["b", "n", "letters", "way", "first", "size", "step", "at", "stem", "words", "signs", "ends", "k", "sign"] ds) M := by
  intro ds M Qd Ed h
  obtain ⟨b, sz, n, rfl, hb, hn, s0, s8, q⟩ := h
  refine ⟨_, rfl, b, 3, n, rfl, hb, by omega, by decide, by decide, fun M1 way s1 hb1 w0 w1 => ?_⟩
  refine ⟨_, rfl, b, 26, n + 1, rfl, hb1, by omega, by decide, by decide, fun M2 fi s2 hb2 f0 f1 => ?_⟩
  refine ⟨(by show 2 ≤ sizeLine; decide), rfl, rfl, ?_⟩
  refine ⟨_, rfl, b, 8, n + 2, rfl, hb2, by omega, by decide, by decide, fun M3 s' s3 hb3 z0 z1 => ?_⟩
  refine ⟨(by show 7 ≤ sizeLine; decide), _, rfl, b, 7, n + 3, rfl, hb3, by omega, by decide, by decide, fun M4 j' s4 hb4 j0 j1 => ?_⟩
  obtain ⟨st, est, st0, st1⟩ : ∃ st : Int, atI [D.int 1, .int 3, .int 5, .int 7, .int 9, .int 11, .int 15] j' = some (.int st) ∧ 1 ≤ st ∧ st ≤ 15 := by
    rcases (by omega : j' = 0 ∨ j' = 1 ∨ j' = 2 ∨ j' = 3 ∨ j' = 4 ∨ j' = 5 ∨ j' = 6) with rfl | rfl | rfl | rfl | rfl | rfl | rfl <;> exact ⟨_, rfl, by decide, by decide⟩
  refine ⟨_, est, (by show 2 ≤ sizeLine; decide), rfl, rfl, ?_⟩
  refine ⟨_, rfl, _, rfl, b, 1 + s', n + 4, rfl, hb4, by omega, by omega, by omega, fun M5 at5 s5 hb5 a0 a1 => ?_⟩
  refine ⟨⟨by decide, by decide⟩, (by show (rngD 0 7).length < sizeLine; decide +kernel), ?_⟩
  refine comp_draw (b := b) (i := 12) (j := 2) rfl rfl (by decide) (by decide) (rngD 0 7) [] M5 (n + 5) hb5 (by rw [rng_len]; omega) (fun _ z => nomatch z) (by rw [rng_len]; decide) fun M6 cs s6 hb6 l6 hc => ?_
  rw [rng_len] at hb6 l6
  simp only [List.length_nil, Nat.zero_add] at l6
  refine ⟨cs.map sg1, by rw [List.map_map]; rfl, ?_, ?_⟩
  · rw [sum_len, List.length_map, l6]; decide
  have lt : Lt (Txt.join "" (cs.map sg1)) := fun c h => by rw [join_cps] at h; exact hc c h
  have ll : (Txt.join "" (cs.map sg1)).length = 7 := by rw [join_len, l6]
  generalize Txt.join "" (cs.map sg1) = stem at *
  have sA := ((((s1.trans s2).trans s3).trans s4).trans s5).trans s6
  have e100 : sz.toNat ≤ 100 := by omega
  have rl : ∀ k : Nat, k ≤ 100 → (rngD 0 k).length < sizeLine := fun k hk => by rw [rng_len]; exact Nat.lt_of_le_of_lt hk (by decide)
  have m8 : ∀ t : Int, 0 ≤ t % 8 ∧ t % 8 < 8 := fun t => ⟨Int.emod_nonneg _ (by decide), Int.emod_lt_of_pos _ (by decide)⟩
  have m16 : ∀ t : Int, 0 ≤ t % 16 ∧ t % 16 < 16 := fun t => ⟨Int.emod_nonneg _ (by decide), Int.emod_lt_of_pos _ (by decide)⟩
  have m26 : ∀ t : Int, 0 ≤ t % 26 ∧ t % 26 < 26 := fun t => ⟨Int.emod_nonneg _ (by decide), Int.emod_lt_of_pos _ (by decide)⟩
  have fin : ∀ ss : List Str, ss.length = sz.toNat → (∀ s ∈ ss, Nm s) → Qd (.lst (ss.map D.str)) M6 := fun ss hl hs => q M6 ss sA (hb6.mono (by omega)) (by omega) hs
  refine ⟨_, rfl, ?_⟩
  refine br2 (fun e => ?_) (fun e => ?_)
  · refine ⟨by decide +kernel, by decide +kernel, ?_⟩
    rw [splitC]
    refine ⟨(by show 7 ≤ sizeLine; decide), _, rfl, (by show (0 : Int) < 7; decide), ?_⟩
    have m7 : 0 ≤ st % 7 ∧ st % 7 < 7 := ⟨Int.emod_nonneg _ (by decide), Int.emod_lt_of_pos _ (by decide)⟩
    obtain ⟨st2, e2, t0, t1⟩ : ∃ st2 : Int, atI [D.int 1, .int 3, .int 5, .int 7, .int 9, .int 11, .int 13] (st % 7) = some (.int st2) ∧ 1 ≤ st2 ∧ st2 ≤ 15 := by
      rcases (by omega : st % 7 = 0 ∨ st % 7 = 1 ∨ st % 7 = 2 ∨ st % 7 = 3 ∨ st % 7 = 4 ∨ st % 7 = 5 ∨ st % 7 = 6) with h | h | h | h | h | h | h <;> (rw [h]; exact ⟨_, rfl, by decide, by decide⟩)
    refine ⟨_, e2, ?_⟩
    refine ⟨_, rfl, ⟨by omega, by omega⟩, rl _ e100, ?_⟩
    refine comp_nums e100 (fun j R j0 j1 h => ?_) fin
    obtain ⟨d, d1, d2⟩ := at_some (xs := wordsC.map D.str) (m16 (fi + st2 * j)).1 (by show _ < 16; exact (m16 (fi + st2 * j)).2)
    obtain ⟨s, hs, rfl⟩ := List.mem_map.mp d2
    exact ⟨_, rfl, _, rfl, _, rfl, _, rfl, cmul (by omega) (by omega) (by omega) (by omega), (by show (0 : Int) < 16; decide), _, d1, h s (nmC s hs)⟩
  refine ⟨_, rfl, ?_⟩
  refine br2 (fun e => ?_) (fun e => ?_)
  · obtain ⟨c, c1, c2⟩ := letter_at f0 f1
    refine ⟨_, rfl, _, rfl, _, rfl, letters_size, c, c1, ?_, ?_⟩
    · rw [sg_len]; exact big_line (by omega)
    refine ⟨_, rfl, ⟨by omega, by omega⟩, rl _ e100, ?_⟩
    have lt2 : Lt (stem ++ sg1 c) := lt.app (Lt.one c2)
    have ll2 : (stem ++ sg1 c).length = 8 := by rw [Str.length_append, sg_len]; omega
    refine comp_nums e100 (fun j R j0 j1 h => ?_) fin
    have b0 : 0 ≤ 1 + (at5 + j) % 8 := by have := (m8 (at5 + j)).1; omega
    refine ⟨_, rfl, _, rfl, _, rfl, (by show (0 : Int) < 8; decide), big_line (by show (stem ++ sg1 c).length ≤ _; omega), h _ ⟨?_, ?_, lt2.to b0⟩⟩
    · show 1 ≤ (cutS (stem ++ sg1 c) none (some (1 + (at5 + j) % 8))).length
      rw [to_len b0]; omega
    · show (cutS (stem ++ sg1 c) none (some (1 + (at5 + j) % 8))).length ≤ 8
      rw [to_len b0]; omega
  refine ⟨_, rfl, ⟨by omega, by omega⟩, rl _ e100, ?_⟩
  refine comp_nums (Q := fun s => ∃ c, s = sg1 c ∧ c ∈ letters.cps.toList) e100 (fun j R j0 j1 h => ?_) fun ss hl hs => ?_
  · obtain ⟨c, c1, c2⟩ := letter_at (m26 (fi + st * j)).1 (m26 (fi + st * j)).2
    exact ⟨_, rfl, _, rfl, _, rfl, _, rfl, cmul (by omega) (by omega) (by omega) (by omega), (by show (0 : Int) < 26; decide), letters_size, c, c1, h _ ⟨c, rfl, c2⟩⟩
  refine ⟨_, rfl, _, rfl, _, rfl, big_line (by omega), ?_⟩
  have hd := to_len (s := stem) a0
  have tl := cut_mid_len (s := stem) a0 (c := 1 + s' - 1) (by omega)
  have tlt : Lt (cutS stem (some at5) (some (1 + s' - 1))) := lt.cut
  generalize cutS stem (some at5) (some (1 + s' - 1)) = ends2 at *
  refine ⟨_, rfl, Nat.lt_of_le_of_lt (by rw [List.length_map]; omega : _ ≤ 100) (by decide), ?_⟩
  refine comp_strs (P := fun s => ∃ c, s = sg1 c ∧ c ∈ letters.cps.toList) ss (by omega) hs (fun s R hs h => ?_) fun us hu h => fin us (by omega) h
  obtain ⟨c, rfl, c2⟩ := hs
  refine ⟨_, rfl, _, rfl, big_line (by omega), _, rfl, ?_, _, rfl, ?_, h _ ⟨?_, ?_, ((lt.to a0).app (Lt.one c2)).app tlt⟩⟩
  · rw [sg_len]; exact big_line (by omega)
  · rw [Str.length_append, sg_len]; exact big_line (by omega)
  · rw [Str.length_append, Str.length_append, sg_len]; omega
  · rw [Str.length_append, Str.length_append, sg_len]; omega
end DL
set_option Elab.async false
set_option linter.all false
set_option maxRecDepth 100000
set_option maxHeartbeats 2000000
namespace DL
open PySem PySem.Spec PyProof.Rows L2
structure ClsI (K : PySem.W.Frag) (C : Addr) : Prop where
  cls : Cls K C
  oc : PySem.W.findIn K (.ref C) "__class__" = some (some (.builtin "object.__class__"))
  gt : PySem.W.specialIn K (.builtin "object.__class__") "__get__" = some (some (.builtin "getset_descriptor.__get__"))
  tk : PySem.W.takesIn K (.builtin "object.__class__") = some true
  mro : PySem.W.mroIn K C (.type "object") = some true
  isC : PySem.W.isClsIn K C = true
  ty : PySem.W.typeIn K (.ref C) = some (.type "type")
  sub : ∀ t : Ty, t ≠ .own → PySem.W.subIn K (.type t.nm) (.ref C) = some false
section
variable {X : Cx} {W : WX} {pos p : Pos} {e a b : Expr} {te ta tb : DTE} {C : Addr}
end
end DL
set_option Elab.async false
set_option linter.all false
set_option maxRecDepth 100000
set_option maxHeartbeats 4000000
namespace DL
open PySem L2
theorem But.put {b p : Addr} {M M1 : Mp} {o : MO} (h : But b M M1) (hp : M p = Option.none) : But b M (updM M1 p o) := fun a u n e => by
  rw [updM_ne (fun z => by rw [z, hp] at e; cases e)]; exact h a u n e
theorem at0 {x : D} {r : List D} : atI (x :: r) 0 = some x := atI_nat (show (x :: r)[0]? = _ from rfl)
theorem at1 {x y : D} {r : List D} : atI (x :: y :: r) 1 = some y := atI_nat (show (x :: y :: r)[1]? = _ from rfl)
end DL
set_option Elab.async false
set_option linter.all false
set_option maxRecDepth 100000
set_option maxHeartbeats 2000000
namespace DL
open PySem PySem.Spec PyProof.Rows L2
def getMf (kvs : List (Str × Addr)) (z : Str) : Option Addr := (kvs.find? fun p => decide (p.1 = z)).map (·.2)
structure MFun (K : PySem.W.Frag) (w : World) (a : Addr) (kvs : List (Str × Addr)) : Prop where
  kd : ∃ es n, KDict K w a es n
  has : ∀ z y, getMf kvs z = some y → PySem.W.nsIn K a z = some (some (.ref y))
  no : ∀ z, getMf kvs z = none → PySem.W.nsIn K a z = some none
section
variable {X : Cx} {W : WX} {pos p apos : Pos} {a e o : Expr} {ta te to : DTE} {x : Str} {kvs : List (Str × Addr)}
end
structure FvOk (P : Program) (w : World) (K : PySem.W.Frag) (mg : Str → Option Value) (base : Heap) (k : Nat) (x : Str) (f : Addr) (ps : List Str) (sp : DSp) (pats : List Pat) : Prop where
  at_ : mg x = some (.ref f)
  kp : PySem.W.keepIn K (.ref f) = true
  ok : FnA P w K mg base k f ps sp pats
inductive TabV (X : Cx) (n : Nat) (ks : List Str) : List Ent → Prop
  | nil : TabV X n ks []
  | cons {k : Nat} {x : Str} {f : Addr} {ps : List Str} {sp : DSp} {pats : List Pat} {gg : List D → List D → List D} {r : List Ent} (i : Nat) (h : FvOk X.prog X.w X.K X.mg X.base k x f ps sp pats) (rm : Room k X.A) (hi : pats[i]? = some ⟨n, ks, gg⟩) (hr : TabV X n ks r) : TabV X n ks ((f, sp, gg) :: r)
section
variable {X : Cx} {W : WX} {es : List Expr} {kws : List Keyword} {ks ps : List Str} {ta tk : DTA} {pos p : Pos} {x : Str} {k n j : Nat} {to : DTE}
theorem TabV.get : ∀ {tab : List Ent}, TabV X n ks tab → ∀ {f : Addr} {Φ : DSp → (List D → List D → List D) → Prop}, dTab tab f Φ → ∃ (k : Nat) (x : Str) (ps : List Str) (sp : DSp) (pats : List Pat) (i : Nat) (gg : List D → List D → List D), FvOk X.prog X.w X.K X.mg X.base k x f ps sp pats ∧ Room k X.A ∧ pats[i]? = some ⟨n, ks, gg⟩ ∧ Φ sp gg
  | _, .nil, _, _, h => h.elim
  | _, .cons i h rm hi .nil, _, _, ⟨e, q⟩ => ⟨_, _, _, _, _, i, _, e ▸ h, rm, hi, q⟩
  | _, .cons i h rm hi (.cons i2 h2 rm2 hi2 r), _, _, q => by
    rcases q with ⟨e, q⟩ | q
    · exact ⟨_, _, _, _, _, i, _, e ▸ h, rm, hi, q⟩
    · exact TabV.get (.cons i2 h2 rm2 hi2 r) q
def dCallV (n j : Nat) (tab : List Ent) (to : DTE) (ta tk : DTA) : DTE := fun δ M Q E => to δ M (fun d M1 => ∃ f, d = .ref f ∧ dTab tab f fun sp gg => ta δ M1 (fun ds M2 => tk δ M2 (fun es M3 => ds.length = n ∧ es.length = j ∧ sp (gg ds es) M3 Q E) E) E) E
theorem d_callV {tab : List Ent} (ho : DE X W (.Name x p) to) (ht : TabV X n ks tab) (g : Good X W) (ha : ArgsOk X W pos es kws ks ta tk) (hj : ks.length = j := by rfl) : DE X W (.Call (.Name x p) es kws pos) (dCallV n j tab to ta tk) := by
  subst hj
  refine ⟨fun pins s σ H Q J h => ?_⟩
  obtain ⟨I, M, F, δ, Qd, Ed, hr, rs, q, fq, fx⟩ := h
  refine wpAny_Call_Name_kw (thn (PE.run ho pins s σ H (fun v H1 => ∃ I1 M1 d, Same I I1 ∧ HR X.K I1 M1 F H1 ∧ Rep X.K I1 v d ∧ ∃ f, d = .ref f ∧ dTab tab f fun sp gg => ta δ M1 (fun ds M2 => tk δ M2 (fun es M3 => ds.length = n ∧ es.length = ks.length ∧ sp (gg ds es) M3 Qd Ed) Ed) Ed) J
    ⟨I, M, F, δ, _, Ed, hr, rs, q, fun d M1 I1 H1 v q1 s1 hr1 r1 => ⟨I1, M1, d, s1, hr1, r1, q1⟩, fx⟩) fun u s1 z => ?_)
  obtain ⟨v, H1, J1, rv, I1, M1, d, e1, hr1, r1, f, rfl, q1⟩ := z
  cases r1
  cases (show u = Value.ref f from rv)
  obtain ⟨k, x, ps, sp, pats, i, gg, fv, rm, hi, q1⟩ := ht.get q1
  refine ha pins s1 σ H1 (.ref f) [] _ _ I1 M1 F δ Ed fv.kp J1 hr1 (rs.mono e1) q1 (fx.mono e1) fun us ws vs zs ds es' I2 M2 H2 s2 J2 rv rz e2 hr2 rd re q2 => ?_
  exact run_a i g rm fv.ok hi J2 rv rz hr2 rd re q2.1 q2.2.1 q2.2.2 (fq.mono (e1.trans e2)) (fx.mono (e1.trans e2))
theorem d_fv {f : Addr} {sp : DSp} {pats : List Pat} (h : FvOk X.prog X.w X.K X.mg X.base k x f ps sp pats) (hg : Gl X x := by rfl) (hd : (x == ("__debug__" : Str)) = false := by decide) : DE X W (.Name x p) (dC (.ref f)) := d_glob hg h.at_ (v := .ref f) rfl (fun _ => .ref f) hd
end
end DL
set_option Elab.async false
set_option linter.all false
set_option maxRecDepth 100000
set_option maxHeartbeats 4000000
namespace DL
open PySem PySem.Spec PyProof.Rows L2
section
open AutoSeq1 (wpAny_loadPart')
open MeetsSeq SeqAt
variable {A : Around} {s : Shared}
end
section
variable {X : Cx} {pins : List (Addr × Obj)} {σ : L2.St} {H : Hp} {s : Shared} {A : Around}
end
section
variable {X : Cx}
end
def kindD (M : Mp) : D → Prop
  | .ref a => ∃ m, M a = some m ∧ (match m with | .lst _ => True | .dct _ => True | _ => False)
  | .ty _ => False
  | .ins _ _ => False
  | _ => True
def isSD (z : Str) : D → Bool
  | .str t => t == z
  | _ => false
section
variable {K : PySem.W.Frag} {I F H : Hp} {M : Mp}
end
end DL
set_option Elab.async false
set_option linter.all false
set_option maxRecDepth 100000
set_option maxHeartbeats 4000000
namespace DL
open PySem PySem.Spec PyProof.Rows L2
inductive Du where
  | nm (d : D) | num (d : D) | ok
def intO : D → Int
  | .int i => i
  | _ => 0
def due (d0 d1 d2 d3 d4 d5 d6 : D) : Du :=
  bif !nameD d0 then .nm d0 else bif !isN d1 && !nameD d1 then .nm d1 else bif !wholeD d2 0 100 then .num d2 else bif !wholeD d3 0 (intO d2) then .num d3 else
  bif !wholeD d4 0 5 then .num d4 else bif !wholeD d5 0 5 then .num d5 else bif !wholeD d6 0 9 then .num d6 else .ok
def Tk (M : Mp) (d : D) : Prop := Th M d ∧ kindD M d
def Dq : Nat → Mp → D → Prop
  | 0, M, d => Tk M d
  | n + 1, M, d => Tk M d ∧ ∀ xs, d = .tup xs → xs.length ≤ 16384 ∧ ∀ x ∈ xs, Dq n M x
theorem Dq.tk {n : Nat} {M : Mp} {d : D} (h : Dq n M d) : Tk M d := by
  cases n with
  | zero => exact h
  | succ n => exact h.1
theorem Dq.th {n : Nat} {M : Mp} {d : D} (h : Dq n M d) : Th M d := h.tk.1
theorem Dq.in {n : Nat} {M : Mp} {xs : List D} (h : Dq (n + 1) M (.tup xs)) {x : D} (m : x ∈ xs) : Dq n M x := (h.2 xs rfl).2 x m
theorem Dq.tup {n : Nat} {M : Mp} {xs : List D} (l : xs.length ≤ 16384) (h : ∀ x ∈ xs, Dq n M x) : Dq (n + 1) M (.tup xs) := ⟨⟨trivial, trivial⟩, fun ys e => by cases e; exact ⟨l, h⟩⟩
theorem Dq.flat {n : Nat} {M : Mp} {d : D} (h : Tk M d) (t : ∀ xs, d ≠ .tup xs) : Dq n M d := by
  cases n with
  | zero => exact h
  | succ n => exact ⟨h, fun xs e => absurd e (t xs)⟩
theorem Th.ext {M M' : Mp} (x : Ext M M') {d : D} (h : Th M d) : Th M' d := by
  cases d with
  | ref a => obtain ⟨m, e, k⟩ := h; exact ⟨m, x _ _ e, k⟩
  | _ => exact h
theorem Tk.ext {M M' : Mp} (x : Ext M M') {d : D} (h : Tk M d) : Tk M' d := by
  refine ⟨h.1.ext x, ?_⟩
  have k := h.2
  cases d with
  | ref a => obtain ⟨m, e, k⟩ := k; exact ⟨m, x _ _ e, k⟩
  | _ => exact k
theorem Dq.ext {M M' : Mp} (x : Ext M M') : ∀ {n : Nat} {d : D}, Dq n M d → Dq n M' d
  | 0, _, h => Tk.ext x h
  | n + 1, _, h => ⟨Tk.ext x h.1, fun xs e => ⟨(h.2 xs e).1, fun y hy => ((h.2 xs e).2 y hy).ext x⟩⟩
def deedOf (d n : D) : Bool := if isN n then wordIn d ["tick", "sleep", "rise"] else nameD n && wordIn d ["gain", "release"]
def areBegin : List D → Bool
  | [_, d, n] => deedOf d n
  | _ => false
def areEnd : List D → Bool
  | [_, d, n, e] => deedOf d n && (if isSD "bell" e then isSD "sleep" d else wordIn e ["done", "busy", "broken"])
  | _ => false
def areMissed : List D → Bool
  | [_, a, b] => nameD a && nameD b
  | _ => false
def areBell : List D → Bool
  | [_, a, b] => nameD a && wordIn b ["unheard", "noted", "broke", "woke"]
  | _ => false
def difD (a b : D) : Bool := match a with
  | .str s => !isSD s b
  | _ => true
def pairOk : D → Bool
  | .tup [a, b] => nameD a && nameD b && difD a b
  | _ => false
def linksD : D → Bool
  | .tup xs => decide (xs.length ≤ 16) && xs.all pairOk
  | _ => false
def isOk : Du → Bool
  | .ok => true
  | _ => false
def devD : D → Bool
  | .tup [d0, d1, d2, d3, d4, d5, d6] => isOk (due d0 d1 d2 d3 d4 d5 d6)
  | _ => false
def arePlug : List D → Bool
  | [_, a, b] => devD a && linksD b
  | _ => false
def named : List Str := ["waking", "wake", "falling", "doze", "stays", "off", "use", "reset", "unplug", "ready", "sleep", "late", "still", "unready", "unsleep", "unlate", "unstill"]
def areWords : D → Bool
  | .tup (.str s :: r) =>
    if s = "begin" then areBegin (.str s :: r) else if s = "end" then areEnd (.str s :: r) else if s = "missed" then areMissed (.str s :: r) else if s = "bell" then areBell (.str s :: r) else if s = "plug" then arePlug (.str s :: r) else
    (match r with | [n] => wordIn (.str s) named && nameD n | _ => false)
  | _ => false
end DL
set_option Elab.async false
set_option linter.all false
set_option maxRecDepth 100000
set_option maxHeartbeats 4000000
set_option pp.maxSteps 1500
namespace DL
open PySem PySem.Spec PyProof.Rows L2
def leafD (m : Nat) : D → Prop
  | .non => True | .bl _ => True | .int i => -(10 ^ 30) ≤ i ∧ i ≤ 10 ^ 30 | .str s => s.length ≤ m ∧ Ok s | _ => False
def Pl (m : Nat) : List Nat → D → Prop
  | [], d => leafD m d
  | l :: ls, d => leafD m d ∨ ∃ xs, (d = .tup xs ∨ d = .lst xs) ∧ xs.length ≤ l ∧ ∀ x ∈ xs, Pl m ls x
def wid (m : Nat) : List Nat → Nat
  | [] => 10 * m + 32
  | l :: ls => max l 1 * (wid m ls + 2) + 3
theorem shw_int32 {M : Mp} {i : Int} (h0 : -(10 ^ 30) ≤ i) (h1 : i ≤ 10 ^ 30) : Shw M (.int i) 0 32 := ⟨_, .int (num_log h0 h1), Nat.le_refl _, by
  unfold Sh.w
  rw [PySem.ofString_length]
  exact PySem.int_text_length_le10 (k := 31) (by decide) (by
    have : i.natAbs ≤ 10 ^ 30 := by omega
    exact Nat.lt_of_le_of_lt this (by decide))⟩
theorem leaf_shw {m : Nat} (hm : m ≤ 100000) {M : Mp} {d : D} (h : leafD m d) : Shw M d 0 (10 * m + 32) := by
  cases d with
  | non => exact shw_non.mono (Nat.le_refl _) (by omega)
  | bl b => exact (shw_bl b).mono (Nat.le_refl _) (by omega)
  | int i => exact (shw_int32 h.1 h.2).mono (Nat.le_refl _) (by omega)
  | str s => exact (shw_str h.2 h.1 hm).mono (Nat.le_refl _) (by omega)
  | _ => exact h.elim
theorem wid_leaf (m : Nat) : ∀ ls, 10 * m + 32 ≤ wid m ls
  | [] => Nat.le_refl _
  | l :: ls => by
    have h := wid_leaf m ls
    have k := Nat.mul_le_mul_right (wid m ls + 2) (Nat.le_max_right l 1)
    unfold wid
    omega
theorem Pl.leaf {m : Nat} {ls : List Nat} {d : D} (h : leafD m d) : Pl m ls d := by
  cases ls with
  | nil => exact h
  | cons l ls => exact .inl h
theorem Pl.tup {m l : Nat} {ls : List Nat} {xs : List D} (hl : xs.length ≤ l) (h : ∀ x ∈ xs, Pl m ls x) : Pl m (l :: ls) (.tup xs) := .inr ⟨xs, .inl rfl, hl, h⟩
theorem Pl.lst {m l : Nat} {ls : List Nat} {xs : List D} (hl : xs.length ≤ l) (h : ∀ x ∈ xs, Pl m ls x) : Pl m (l :: ls) (.lst xs) := .inr ⟨xs, .inr rfl, hl, h⟩
theorem Pl.shw {m : Nat} (hm : m ≤ 100000) {M : Mp} : ∀ {ls : List Nat} {d : D}, Pl m ls d → Shw M d ls.length (wid m ls)
  | [], _, h => leaf_shw hm h
  | l :: ls, d, h => by
    rcases h with h | ⟨xs, e, hl, h⟩
    · exact (leaf_shw hm h).mono (Nat.zero_le _) (wid_leaf m _)
    · have b : xs.length * (wid m ls + 2) + 3 ≤ wid m (l :: ls) := by
        have := Nat.mul_le_mul_right (wid m ls + 2) (Nat.le_trans hl (Nat.le_max_left l 1))
        show _ ≤ max l 1 * (wid m ls + 2) + 3
        omega
      rcases e with rfl | rfl
      · exact (shw_tup fun x hx => (h x hx).shw hm).mono (Nat.le_refl _) b
      · exact (shw_lst fun x hx => (h x hx).shw hm).mono (Nat.le_refl _) b
end DL
set_option Elab.async false
set_option linter.all false
set_option maxRecDepth 100000
set_option maxHeartbeats 4000000
set_option pp.maxSteps 1500
namespace DL
open PySem PySem.Spec PyProof.Rows L2
structure Lg (C : Addr) (M : Mp) (x l : Addr) (rows : List D) : Prop where
  obj : M x = some (.ins C [("kept_rows", .ref l)])
  rw_ : M l = some (.lst rows)
theorem Lg.ext {C : Addr} {M M' : Mp} {x l : Addr} {rows : List D} (h : Lg C M x l rows) (e : Ext M M') : Lg C M' x l rows := ⟨e _ _ h.obj, e _ _ h.rw_⟩
inductive Au where | num | log | ok
end DL
set_option Elab.async false
set_option linter.all false
set_option maxRecDepth 100000
set_option maxHeartbeats 4000000
set_option pp.maxSteps 1500
namespace DL
open PySem PySem.Spec PyProof.Rows L2
def leafE (m : Nat) (d : D) : Prop := leafD m d ∨ d = .dct []
def Pe (m : Nat) : List Nat → D → Prop
  | [], d => leafE m d
  | l :: ls, d => leafE m d ∨ ∃ xs, (d = .tup xs ∨ d = .lst xs) ∧ xs.length ≤ l ∧ ∀ x ∈ xs, Pe m ls x
theorem leafE_shw {m : Nat} (hm : m ≤ 100000) {M : Mp} {d : D} (h : leafE m d) : Shw M d 1 (10 * m + 32) := by
  rcases h with h | rfl
  · exact (leaf_shw hm h).mono (by decide) (Nat.le_refl _)
  · exact shw_dct0.mono (Nat.le_refl _) (by omega)
theorem Pe.leaf {m : Nat} {ls : List Nat} {d : D} (h : leafE m d) : Pe m ls d := by
  cases ls with
  | nil => exact h
  | cons l ls => exact .inl h
theorem Pe.tup {m l : Nat} {ls : List Nat} {xs : List D} (hl : xs.length ≤ l) (h : ∀ x ∈ xs, Pe m ls x) : Pe m (l :: ls) (.tup xs) := .inr ⟨xs, .inl rfl, hl, h⟩
theorem Pe.lst {m l : Nat} {ls : List Nat} {xs : List D} (hl : xs.length ≤ l) (h : ∀ x ∈ xs, Pe m ls x) : Pe m (l :: ls) (.lst xs) := .inr ⟨xs, .inr rfl, hl, h⟩
theorem Pe.un {m l : Nat} {ls : List Nat} {xs : List D} (h : Pe m (l :: ls) (.tup xs)) : xs.length ≤ l ∧ ∀ x ∈ xs, Pe m ls x := by
  rcases h with h | ⟨ys, e | e, a, b⟩
  · rcases h with h | h
    · exact h.elim
    · cases h
  · cases e; exact ⟨a, b⟩
  · cases e
theorem Pe.shw {m : Nat} (hm : m ≤ 100000) {M : Mp} : ∀ {ls : List Nat} {d : D}, Pe m ls d → Shw M d (ls.length + 1) (wid m ls)
  | [], _, h => leafE_shw hm h
  | l :: ls, d, h => by
    rcases h with h | ⟨xs, e, hl, h⟩
    · exact (leafE_shw hm h).mono (by omega) (wid_leaf m _)
    · have b : xs.length * (wid m ls + 2) + 3 ≤ wid m (l :: ls) := by
        have := Nat.mul_le_mul_right (wid m ls + 2) (Nat.le_trans hl (Nat.le_max_left l 1))
        show _ ≤ max l 1 * (wid m ls + 2) + 3
        omega
      rcases e with rfl | rfl
      · exact (shw_tup fun x hx => (h x hx).shw hm).mono (Nat.le_refl _) b
      · exact (shw_lst fun x hx => (h x hx).shw hm).mono (Nat.le_refl _) b
end DL
set_option Elab.async false
set_option linter.all false
set_option maxRecDepth 100000
set_option maxHeartbeats 4000000
set_option pp.maxSteps 1500
namespace HT
open PySem PySem.Spec PyProof.Rows L2
section
variable {prog : Program} {w : World} {A : Around} {E : Value → Shared → Prop} {s : Shared}
end
end HT
namespace L2
open PySem PySem.Spec PyProof.Rows
section
variable {X : Cx}
end
end L2
namespace DL
open PySem PySem.Spec PyProof.Rows L2
section
variable {X : Cx} {W : WX}
def dE0T (g : Bool → Bool) : DR2 := fun x y M Q => y = .tup [] ∧ ∃ xs, x = .tup xs ∧ Q (.bl (g xs.isEmpty)) M
def rE0T (K : PySem.W.Frag) (g : Bool → Bool) : R2 := fun x y H Q => ∃ a b xs, x = .ref a ∧ y = .ref b ∧ SqT K H a xs ∧ SqT K H b [] ∧ Q (.bl (g xs.isEmpty)) H
theorem e0T_at {xs : List V} {i1 : List Value} (l1 : xs.length = i1.length) : ((List.range (min i1.toArray.size ([] : List Value).toArray.size)).all (fun _ => true) && i1.toArray.size == ([] : List Value).toArray.size) = xs.isEmpty := by
  cases xs with
  | nil =>
    cases i1 with
    | nil => rfl
    | cons c r => cases l1
  | cons c r =>
    cases i1 with
    | nil => cases l1
    | cons c r =>
      show _ = false
      rw [Bool.and_eq_false_iff]
      exact .inr rfl
theorem op_e0T {k : Nat} (rm : Room k X.A) : OpR X (compareOp .Eq) (rE0T X.K id) := fun pins s σ H x y v u Q J rx ry h => by
  obtain ⟨a, b, xs, rfl, rfl, h1, h2, q⟩ := h
  cases rx; cases ry
  obtain ⟨i1, r1, p1, _⟩ := J.tuple h1
  obtain ⟨i2, r2, p2, _⟩ := J.tuple h2
  cases r2
  have hu := rm.un
  show wpAny _ _ (richCompare .Eq _ _) _ _ _
  refine PySem.SeqAt.RcAt.tuples (e := fun _ => true) p1 p2 (by omega) (fun j _ h2 => absurd h2 (Nat.not_lt_zero j)) _ _ _ _ ⟨.bl xs.isEmpty, H, J, ?_, q⟩
  rw [e0T_at r1.length]
  rfl
theorem lr_e0T {K : PySem.W.Frag} {g : Bool → Bool} : LR K (rE0T K g) (dE0T g) := fun I M F H x y dx dy Qd Q hr rx ry q fq => by
  obtain ⟨e, xs, e1, q⟩ := q
  subst e e1
  cases rx with
  | @tup a vs _ s r1 =>
    cases ry with
    | @tup b ws _ s2 r2 =>
      cases r2
      refine ⟨a, b, vs, rfl, rfl, hr.st s, hr.st s2, ?_⟩
      have e2 : vs.isEmpty = xs.isEmpty := by cases r1 <;> rfl
      rw [e2]
      exact fq _ M I H _ q (Same.refl I) hr (.bl _)
end
end DL
set_option Elab.async false
set_option linter.all false
set_option maxRecDepth 100000
set_option maxHeartbeats 4000000
set_option pp.maxSteps 1500
namespace DL
open PySem PySem.Spec PyProof.Rows L2
def Lw (s : Str) : Prop := ∀ c ∈ s.cps.toList, 97 ≤ c ∧ c ≤ 122
def hd (s : Str) : Option Nat := s.cps.toList.head?
end DL
set_option Elab.async false
set_option linter.all false
set_option maxRecDepth 100000
set_option maxHeartbeats 4000000
set_option pp.maxSteps 1500
namespace DL
open PySem PySem.Spec PyProof.Rows L2
def cutC (k : Nat) : List Nat → List Nat → List (List Nat)
  | acc, [] => [acc]
  | acc, c :: r => if c = k then acc :: cutC k [] r else cutC k (acc ++ [c]) r
theorem spl_cutC (k : Nat) : ∀ (l acc : List Nat), TL.spl [k] 0 acc l = cutC k acc l
  | [], acc => rfl
  | c :: r, acc => by
    unfold cutC
    by_cases h : c = k
    · subst h
      rw [if_pos rfl, TL.spl_hit (by show ((c :: r).take 1 == [c]) = true; simp)]
      show acc :: TL.spl [c] 0 [] r = _
      rw [spl_cutC]
    · rw [if_neg h]
      show (if TL.pre [k] (c :: r) = true then _ else _) = _
      rw [if_neg (by
        show ¬ (((c :: r).take 1 == [k]) = true)
        simp [h]), spl_cutC]
theorem split_cutC {y : Str} {k : Nat} (ey : y.cps.toList = [k]) (hy : y.cps.all (· < 256) = true) (s : Str) : Txt.split s y = (cutC k [] s.cps.toList).map sL := by
  refine TL.map_tl_inj ?_
  rw [map_sL, ← spl_cutC, ← ey]
  exact TL.split_spl s y (by rw [show TL.tl y = [k] from ey]; simp) (TL.kind_ok hy)
theorem cut_sumC (k : Nat) : ∀ (l acc : List Nat), ((cutC k acc l).map (·.length)).sum + (cutC k acc l).length = acc.length + l.length + 1
  | [], acc => by simp [cutC]
  | c :: r, acc => by
    unfold cutC
    split
    · have := cut_sumC k r []
      simp only [List.map_cons, List.sum_cons, List.length_cons, List.length_nil] at this ⊢
      omega
    · have := cut_sumC k r (acc ++ [c])
      simp only [List.length_append, List.length_cons, List.length_nil] at this ⊢
      omega
theorem cut_memC (k : Nat) : ∀ (l acc : List Nat) (x : List Nat) (c : Nat), x ∈ cutC k acc l → c ∈ x → c ∈ acc ∨ c ∈ l
  | [], acc, x, c, h, hc => by
    rw [show cutC k acc [] = [acc] from rfl, List.mem_singleton] at h
    subst h
    exact .inl hc
  | d :: r, acc, x, c, h, hc => by
    unfold cutC at h
    split at h
    · rcases List.mem_cons.mp h with rfl | h
      · exact .inl hc
      · rcases cut_memC k r [] x c h hc with h | h
        · cases h
        · exact .inr (List.mem_cons_of_mem _ h)
    · rcases cut_memC k r _ x c h hc with h | h
      · rcases List.mem_append.mp h with h | h
        · exact .inl h
        · rw [List.mem_singleton.mp h]; exact .inr List.mem_cons_self
      · exact .inr (List.mem_cons_of_mem _ h)
theorem cut_neC (k : Nat) (l acc : List Nat) : cutC k acc l ≠ [] := by
  cases l with
  | nil => exact fun z => nomatch z
  | cons c r =>
    unfold cutC
    split
    · exact fun z => nomatch z
    · exact cut_neC k r _
theorem split_okC {y : Str} {k : Nat} (ey : y.cps.toList = [k]) (hy : y.cps.all (· < 256) = true) {s : Str} (ok : Ok s) : ((Txt.split s y).map (·.length)).sum + (Txt.split s y).length = s.length + 1 ∧ (∀ t ∈ Txt.split s y, t.length ≤ s.length ∧ Ok t) ∧ Txt.split s y ≠ [] := by
  have e := cut_sumC k s.cps.toList []
  rw [split_cutC ey hy]
  refine ⟨?_, fun t ht => ?_, fun z => cut_neC k _ _ (List.map_eq_nil_iff.mp z)⟩
  · rw [List.map_map, List.length_map, str_len]
    have e2 : ((fun x : Str => x.length) ∘ sL) = (fun x : List Nat => x.length) := by funext x; simp [str_len]
    rw [e2, e]
    simp
  · obtain ⟨x, hx, rfl⟩ := List.mem_map.mp ht
    refine ⟨?_, fun c hc => ?_⟩
    · have h1 : ∀ (ls : List (List Nat)), x ∈ ls → x.length + 1 ≤ (ls.map (·.length)).sum + ls.length := by
        intro ls
        induction ls with
        | nil => intro h; cases h
        | cons a b ih =>
          intro h
          simp only [List.map_cons, List.sum_cons, List.length_cons]
          rcases List.mem_cons.mp h with rfl | h
          · omega
          · have := ih h; omega
      have := h1 _ hx
      rw [str_len, str_len]
      simp only [List.length_nil] at e
      show x.length ≤ _
      omega
    · have hc : c ∈ x := by simpa using hc
      rcases cut_memC k _ _ x c hx hc with h | h
      · cases h
      · exact ok c h
def wdS (s : Str) : Bool := !s.cps.toList.isEmpty && !decide (32 ∈ s.cps.toList) && !decide (10 ∈ s.cps.toList)
end DL
set_option Elab.async false
set_option linter.all false
set_option maxRecDepth 100000
set_option maxHeartbeats 4000000
set_option pp.maxSteps 1500
namespace DL
open PySem PySem.Spec PyProof.Rows L2
theorem cl_eq {s : Str} : s.cps.toList.length = s.length := by simp [Str.length]
def isDig (c : Nat) : Bool := decide (48 ≤ c) && decide (c ≤ 57)
def val (cs : List Nat) : Int := cs.foldl (fun (a : Int) c => 10 * a + ((c - 48 : Nat) : Int)) 0
def readC (cs : List Nat) : Option Int := if cs = [] ∨ (cs.head? = some 48 ∧ cs ≠ [48]) then none else if cs.all isDig = true then some (val cs) else none
def valF (a : Int) (cs : List Nat) : Int := cs.foldl (fun (a : Int) c => 10 * a + ((c - 48 : Nat) : Int)) a
theorem str_eq {s t : Str} : (s = t) ↔ s.cps.toList = t.cps.toList := ⟨fun e => by rw [e], fun e => by
  cases s; cases t
  congr 1
  exact Array.toList_inj.mp e⟩
theorem nil_eq {s : Str} : (s = ("" : Str)) ↔ s.cps.toList = [] := by
  rw [str_eq, show (("" : Str)).cps.toList = [] from by decide +kernel]
theorem val_digits : ∀ (cs : List Nat) (a : Nat), valF (a : Int) cs = ((cs.foldl (fun acc c => acc * 10 + (c - 48)) a : Nat) : Int)
  | [], a => rfl
  | c :: r, a => by
    have ih := val_digits r (a * 10 + (c - 48))
    show valF (10 * (a : Int) + ((c - 48 : Nat) : Int)) r = _
    rw [List.foldl_cons, ← ih]
    congr 1
    rw [Int.natCast_add, Int.natCast_mul, Int.mul_comm]
    rfl
theorem int_of {s : Str} (h : s.cps.toList.all isDig = true) (h1 : s.cps.toList ≠ []) (h2 : s.length ≤ 100) : PySem.intText? s = some (val s.cps.toList) := by
  have hd : PySem.NumText.AllDigits s.cps.toList := fun c hc => by
    have := List.all_eq_true.mp h c hc
    simpa [isDig] using this
  rw [PySem.intText_digits hd h1 (by omega)]
  exact congrArg some (val_digits s.cps.toList 0).symm
end DL
set_option Elab.async false
set_option linter.all false
set_option maxRecDepth 100000
set_option maxHeartbeats 4000000
set_option pp.maxSteps 1500
namespace DL
open PySem PySem.Spec PyProof.Rows L2
def Rs (s : Str) : Prop := s.length ≤ 16383 ∧ Ok s
theorem Rs.th {M : Mp} {s : Str} (h : Rs s) : Th M (.str s) := ⟨Nat.le_trans h.1 (by decide), h.2⟩
end DL
set_option Elab.async false
set_option linter.all false
set_option maxRecDepth 100000
set_option maxHeartbeats 4000000
set_option pp.maxSteps 1500
namespace DL
open PySem PySem.Spec PyProof.Rows L2
structure Qn (n dd : Str) : Prop where
  nm : Nm n
  dd : dd ∈ deedsW
end DL
set_option Elab.async false
set_option linter.all false
set_option maxRecDepth 100000
set_option maxHeartbeats 4000000
set_option pp.maxSteps 1500
namespace DL
open PySem PySem.Spec PyProof.Rows L2
def numT (k : Int) : Str := Str.ofString (toString k)
theorem wd_no {s : Str} (h : wdS s = true) : 32 ∉ s.cps.toList ∧ 10 ∉ s.cps.toList ∧ s ≠ "" := by
  unfold wdS at h
  simp only [Bool.and_eq_true, Bool.not_eq_true', decide_eq_false_iff_not] at h
  refine ⟨h.1.2, h.2, fun e => ?_⟩
  have := h.1.1
  rw [nil_eq.mp e] at this
  cases this
theorem lw_wd {s : Str} (h1 : 1 ≤ s.length) (h : ∀ c ∈ s.cps.toList, c ∈ letters.cps.toList) : wdS s = true := by
  have e : letters.cps.toList.all (fun c => decide (c ≠ 32) && decide (c ≠ 10)) = true := by decide +kernel
  have no : ∀ c ∈ s.cps.toList, c ≠ 32 ∧ c ≠ 10 := fun c hc => by
    have := List.all_eq_true.mp e c (h c hc)
    simpa using this
  unfold wdS
  rw [decide_eq_false fun z => (no 32 z).1 rfl, decide_eq_false fun z => (no 10 z).2 rfl]
  cases z : s.cps.toList with
  | nil => rw [← cl_eq, z] at h1; simp at h1
  | cons c r => rfl
end DL
set_option Elab.async false
set_option linter.all false
set_option maxRecDepth 100000
set_option maxHeartbeats 4000000
set_option pp.maxSteps 1500
namespace DL
open PySem PySem.Spec PyProof.Rows L2
theorem name_empty {s : Str} (s1 : 1 ≤ s.length) (s8 : s.length ≤ 8) : ((s.cps.toList.filter fun c => !decide (c ∈ letters.cps.toList)).map fun c => D.str (sg1 c)).isEmpty = nameD (.str s) := by
  have en : nameD (.str s) = (s.cps.toList.filter fun c => !decide (c ∈ letters.cps.toList)).isEmpty := by
    show (decide (1 ≤ s.length) && decide (s.length ≤ 8) && s.cps.toList.all (fun c => decide (c ∈ letters.cps.toList))) = _
    rw [decide_eq_true s1, decide_eq_true s8, Bool.true_and, Bool.true_and]
    generalize s.cps.toList = l
    induction l with
    | nil => rfl
    | cons x r ih =>
      rw [List.all_cons, List.filter_cons, ih]
      cases h : decide (x ∈ letters.cps.toList) with
      | true => rw [if_neg (by simp)]; rfl
      | false => rw [if_pos (by simp)]; rfl
  rw [en]; simp
theorem name_bad {s : Str} (n : ¬ (1 ≤ s.length ∧ s.length ≤ 8)) : nameD (.str s) = false := by
  dsimp only [nameD]
  by_cases h1 : 1 ≤ s.length
  · rw [decide_eq_false (by omega : ¬ s.length ≤ 8), Bool.and_false, Bool.false_and]
  · rw [decide_eq_false h1, Bool.false_and, Bool.false_and]
end DL
set_option Elab.async false
set_option linter.all false
set_option maxRecDepth 100000
set_option maxHeartbeats 4000000
set_option pp.maxSteps 1500
namespace DL
open PySem PySem.Spec PyProof.Rows L2
def mu (ps : List Str) : Nat := (ps.map (·.length)).sum + ps.length
def TLs (ds : List D) (m : Nat) : Prop := ∃ ps : List Str, ds = ps.map D.str ∧ mu ps ≤ m ∧ ∀ p ∈ ps, Ok p
theorem sum_set : ∀ (ps : List Str) (i : Nat) (w : Str), ((ps.set i w).map (·.length)).sum ≤ (ps.map (·.length)).sum + w.length
  | [], _, _ => by simp
  | p :: r, 0, w => by simp only [List.set_cons_zero, List.map_cons, List.sum_cons]; omega
  | p :: r, i + 1, w => by
    have := sum_set r i w
    simp only [List.set_cons_succ, List.map_cons, List.sum_cons]; omega
theorem TLs.mono {ds : List D} {m k : Nat} (h : TLs ds m) (l : m ≤ k) : TLs ds k := by
  obtain ⟨ps, e, a, b⟩ := h
  exact ⟨ps, e, Nat.le_trans a l, b⟩
theorem TLs.set {ds : List D} {m : Nat} (h : TLs ds m) {w : Str} (ok : Ok w) (i : Nat) : TLs (ds.set i (.str w)) (m + w.length) := by
  obtain ⟨ps, rfl, a, b⟩ := h
  refine ⟨ps.set i w, by rw [List.map_set], ?_, fun p hp => ?_⟩
  · have := sum_set ps i w
    unfold mu at a ⊢
    rw [List.length_set]
    omega
  · rcases List.mem_or_eq_of_mem_set hp with hp | rfl
    · exact b p hp
    · exact ok
theorem TLs.ins {ds : List D} {m : Nat} (h : TLs ds m) {w : Str} (ok : Ok w) (i : Nat) : TLs (ds.take i ++ [.str w] ++ ds.drop i) (m + w.length + 1) := by
  obtain ⟨ps, rfl, a, b⟩ := h
  refine ⟨ps.take i ++ [w] ++ ps.drop i, by rw [List.map_append, List.map_append, List.map_take, List.map_drop]; rfl, ?_, fun p hp => ?_⟩
  · unfold mu at a ⊢
    have e : (ps.map (·.length)).sum = ((ps.take i).map (·.length)).sum + ((ps.drop i).map (·.length)).sum := by
      rw [← List.sum_append, ← List.map_append, List.take_append_drop]
    have l : ps.length = (ps.take i).length + (ps.drop i).length := by rw [← List.length_append, List.take_append_drop]
    simp only [List.map_append, List.sum_append, List.map_cons, List.map_nil, List.sum_cons, List.sum_nil, List.length_append, List.length_singleton]
    omega
  · rcases List.mem_append.mp hp with hp | hp
    · rcases List.mem_append.mp hp with hp | hp
      · exact b p (List.mem_of_mem_take hp)
      · rw [List.mem_singleton.mp hp]; exact ok
    · exact b p (List.mem_of_mem_drop hp)
theorem TLs.at {ds : List D} {m : Nat} (h : TLs ds m) {d : D} (hd : d ∈ ds) : ∃ w, d = .str w ∧ Ok w ∧ w.length + 1 ≤ m := by
  obtain ⟨ps, rfl, a, b⟩ := h
  obtain ⟨w, hw, rfl⟩ := List.mem_map.mp hd
  refine ⟨w, rfl, b w hw, ?_⟩
  have z : ∀ {l : List Str}, w ∈ l → w.length + 1 ≤ mu l := by
    intro l
    induction l with
    | nil => exact fun h => nomatch h
    | cons p r ih =>
      intro hw
      unfold mu at ih ⊢
      simp only [List.map_cons, List.sum_cons, List.length_cons]
      rcases List.mem_cons.mp hw with rfl | hw
      · omega
      · have := ih hw; omega
  exact Nat.le_trans (z hw) a
theorem TLs.split {y : Str} {k : Nat} (ey : y.cps.toList = [k]) (hy : y.cps.all (· < 256) = true) {s : Str} (ok : Ok s) : TLs ((Txt.split s y).map D.str) (s.length + 1) ∧ 0 < ((Txt.split s y).map D.str).length ∧ ((Txt.split s y).map D.str).length ≤ s.length + 1 := by
  obtain ⟨a, b, c⟩ := split_okC ey hy ok
  refine ⟨⟨_, rfl, by unfold mu; omega, fun t ht => (b t ht).2⟩, ?_, by rw [List.length_map]; omega⟩
  rw [List.length_map]
  exact List.length_pos_iff.mpr c
theorem sl6 {k : Nat} (h : k ≤ 1000000) : k ≤ sizeLine := Nat.le_trans h (by decide)
end DL
set_option Elab.async false
set_option linter.all false
set_option maxRecDepth 100000
set_option maxHeartbeats 4000000
set_option pp.maxSteps 1500
namespace DL
open PySem PySem.Spec PyProof.Rows L2
section
variable {X : Cx} {W : WX} {e : Expr} {te : DTE} {pos : Pos}
inductive DJ (X : Cx) (W : WX) : List Expr → List DTE → Prop where
  | nil : DJ X W [] []
  | cons {e : Expr} {t : DTE} {es : List Expr} {ts : List DTE} (h : DE X W e t) (r : DJ X W es ts) : DJ X W (e :: es) (t :: ts)
end
end DL
set_option Elab.async false
set_option linter.all false
set_option maxRecDepth 100000
set_option maxHeartbeats 4000000
set_option pp.maxSteps 1500
namespace DL
open PySem PySem.Spec PyProof.Rows L2
theorem name_dash : nameD (.str "-") = false := by decide +kernel
theorem name_ne {s : Str} (h : nameD (.str s) = true) : s ≠ "-" := fun e => by rw [e, name_dash] at h; cases h
theorem aw (s : Str) (r : List D) : areWords (.tup (.str s :: r)) = (if s = "begin" then areBegin (.str s :: r) else if s = "end" then areEnd (.str s :: r) else if s = "missed" then areMissed (.str s :: r) else if s = "bell" then areBell (.str s :: r) else if s = "plug" then arePlug (.str s :: r) else
    (match r with | [n] => wordIn (.str s) named && nameD n | _ => false)) := rfl
end DL
set_option Elab.async false
set_option linter.all false
set_option maxRecDepth 100000
set_option maxHeartbeats 4000000
set_option pp.maxSteps 1500
namespace DL
open PySem PySem.Spec PyProof.Rows L2
theorem gtL : (">" : Str).cps.toList = [62] := by decide
end DL
set_option Elab.async false
set_option linter.all false
set_option maxRecDepth 100000
set_option maxHeartbeats 4000000
set_option pp.maxSteps 1500
namespace DL
open PySem PySem.Spec PyProof.Rows L2
theorem toDig_head : ∀ m : Nat, 0 < m → ∃ c r, Nat.toDigits 10 m = c :: r ∧ c.toNat ≠ 48 := by
  intro m
  induction m using Nat.strongRecOn with
  | _ m ih =>
    intro h0
    by_cases h : m < 10
    · rw [Nat.toDigits_of_lt_base h]
      refine ⟨_, [], rfl, ?_⟩
      have z : ∀ d : Nat, d < 10 → 0 < d → (Nat.digitChar d).toNat ≠ 48 := by decide
      exact z m h h0
    · have hm : m % 10 < 10 := Nat.mod_lt m (by decide)
      have t : Nat.toDigits 10 (m / 10) ++ Nat.toDigits 10 (m % 10) = Nat.toDigits 10 (10 * (m / 10) + m % 10) := Nat.toDigits_append_toDigits (by decide) (by omega) hm
      rw [Nat.div_add_mod] at t
      obtain ⟨c, r, e, k⟩ := ih (m / 10) (by omega) (by omega)
      rw [e] at t
      exact ⟨c, r ++ Nat.toDigits 10 (m % 10), t.symm, k⟩
theorem numT_read {t : Int} (h0 : 0 ≤ t) (h1 : t < 10 ^ 10) : readC (numT t).cps.toList = some t ∧ (numT t).length ≤ 10 ∧ (numT t).cps.toList.all isDig = true ∧ (numT t).cps.toList ≠ [] := by
  have hl : (numT t).length ≤ 10 := PySem.W.KT.len_num h0 h1
  have iv : PySem.intText? (numT t) = some t := PySem.W.KIN.num_reads h0 h1
  obtain ⟨m, rfl⟩ := Int.eq_ofNat_of_zero_le h0
  have sg : (numT ((m : Nat) : Int)).cps.toList = (Nat.toDigits 10 m).map Char.toNat := PySem.W.KIN.signs_num m
  have dg : (numT ((m : Nat) : Int)).cps.toList.all isDig = true := by
    rw [sg, List.all_eq_true]
    intro c hc
    obtain ⟨ch, hch, rfl⟩ := List.mem_map.mp hc
    have r := PyProof.Rows.digit_range (Nat.isDigit_of_mem_toDigits (by decide) (by decide) hch)
    unfold isDig
    rw [decide_eq_true r.1, decide_eq_true r.2]; rfl
  have hne : (numT ((m : Nat) : Int)).cps.toList ≠ [] := fun z => by
    rw [nil_eq.mpr z] at iv
    have e0 : PySem.intText? ("" : Str) = none := by decide +kernel
    rw [e0] at iv
    cases iv
  refine ⟨?_, hl, dg, hne⟩
  have v := int_of dg hne (by omega)
  rw [v] at iv
  unfold readC
  rw [if_neg, if_pos dg]
  · exact iv
  · rintro (z | ⟨z1, z2⟩)
    · exact hne z
    · rw [sg] at z1 z2
      rcases Nat.eq_zero_or_pos m with e | e
      · subst e
        exact z2 (by decide +kernel)
      · obtain ⟨c, r, e1, e2⟩ := toDig_head m e
        rw [e1, List.map_cons, List.head?_cons] at z1
        exact e2 (Option.some.inj z1)
theorem numT_wd {t : Int} (h0 : 0 ≤ t) (h1 : t < 10 ^ 10) : wdS (numT t) = true ∧ Ok (numT t) ∧ numT t ≠ "-" := by
  obtain ⟨_, _, a, b⟩ := numT_read h0 h1
  have d : ∀ c ∈ (numT t).cps.toList, 48 ≤ c ∧ c ≤ 57 := fun c hc => by
    have := List.all_eq_true.mp a c hc
    unfold isDig at this
    rw [Bool.and_eq_true, decide_eq_true_eq, decide_eq_true_eq] at this
    exact this
  refine ⟨?_, fun c hc => by have := d c hc; omega, fun e => ?_⟩
  · unfold wdS
    rw [decide_eq_false (fun z => by have := d 32 z; omega), decide_eq_false (fun z => by have := d 10 z; omega)]
    cases z : (numT t).cps.toList with
    | nil => exact absurd z b
    | cons c r => rfl
  · have : 45 ∈ (numT t).cps.toList := by rw [e]; decide +kernel
    have := d 45 this
    omega
structure Wd (s : Str) : Prop where
  wd : wdS s = true
  ok : Ok s
  nd : s ≠ "-"
  len : s.length ≤ 10
theorem Nm.wd {s : Str} (h : Nm s) : Wd s := ⟨lw_wd h.1 h.2.2, h.2.2.ok, name_ne h.name, by have := h.2.1; omega⟩
def parD : Option Str → D
  | none => .non
  | some s => .str s
def linkD (l : Str × Str) : D := .tup [.str l.1, .str l.2]
inductive GW : List D → Prop
  | flat {s : Str} {r : List D} (hs : Wd s) (np : s ≠ "plug") (hr : ∀ d ∈ r, d = .non ∨ ∃ t, d = .str t ∧ Wd t) (hl : 1 ≤ r.length ∧ r.length ≤ 3) (aw : areWords (.tup (.str s :: r)) = true) : GW (.str s :: r)
  | plug {n : Str} {p : Option Str} {a b c d e : Int} {ls : List (Str × Str)} (hn : Nm n) (hp : ∀ s, p = some s → Nm s) (ha : 0 ≤ a ∧ a ≤ 100) (hb : 0 ≤ b ∧ b ≤ a) (hc : 0 ≤ c ∧ c ≤ 5) (hd : 0 ≤ d ∧ d ≤ 5) (he : 0 ≤ e ∧ e ≤ 9) (hl : ls.length ≤ 16) (hls : ∀ l ∈ ls, Nm l.1 ∧ Nm l.2 ∧ l.1 ≠ l.2) :
      GW [.str "plug", .tup [.str n, parD p, .int a, .int b, .int c, .int d, .int e], .tup (ls.map linkD)]
def dT : D → Str
  | .non => "-"
  | .str s => s
  | .int i => numT i
  | _ => ""
def pT : D → Str
  | .tup [.str a, .str b] => a ++ ">" ++ b
  | _ => ""
def wordsT (ws : List D) : List Str := match ws with
  | [.str s, .tup d, .tup ls] => (s :: d.map dT) ++ ls.map pT
  | ws => ws.map dT
theorem flat_words {s : Str} {r : List D} (hr : ∀ d ∈ r, d = .non ∨ ∃ t, d = .str t ∧ Wd t) : wordsT (.str s :: r) = s :: r.map dT := by
  unfold wordsT
  split
  · rename_i h
    cases h
    rename_i d ls
    rcases hr (.tup d) (by simp) with e | ⟨_, e, _⟩ <;> cases e
  · rfl
theorem GW.all {ws : List D} (h : GW ws) : (∀ w ∈ wordsT ws, wdS w = true ∧ Ok w ∧ w.length ≤ 17) ∧ (wordsT ws).length ≤ 24 ∧ ((wordsT ws).map (·.length)).sum + (wordsT ws).length ≤ 325 := by
  cases h with
  | @flat s r hs np hr hl aw =>
    rw [flat_words hr]
    have al : ∀ w ∈ s :: r.map dT, wdS w = true ∧ Ok w ∧ w.length ≤ 10 := fun w hw => by
      rcases List.mem_cons.mp hw with rfl | hw
      · exact ⟨hs.wd, hs.ok, hs.len⟩
      · obtain ⟨d, hd, rfl⟩ := List.mem_map.mp hw
        rcases hr d hd with rfl | ⟨t, rfl, w⟩
        · exact ⟨by decide +kernel, ok_of "-", by decide +kernel⟩
        · exact ⟨w.wd, w.ok, w.len⟩
    have ln : (s :: r.map dT).length ≤ 4 := by rw [List.length_cons, List.length_map]; omega
    have sm : ∀ l : List Str, (∀ w ∈ l, w.length ≤ 10) → (l.map (·.length)).sum ≤ 10 * l.length := by
      intro l
      induction l with
      | nil => exact fun _ => Nat.le_refl _
      | cons x y ih =>
        intro h
        have := ih fun w hw => h w (List.mem_cons_of_mem _ hw)
        have := h x List.mem_cons_self
        simp only [List.map_cons, List.sum_cons, List.length_cons]; omega
    have := sm _ fun w hw => (al w hw).2.2
    exact ⟨fun w hw => ⟨(al w hw).1, (al w hw).2.1, by have := (al w hw).2.2; omega⟩, by omega, by omega⟩
  | @plug n p a b c d e ls hn hp ha hb hc hd he hl hls =>
    have num : ∀ {v : Int}, 0 ≤ v → v ≤ 100 → wdS (numT v) = true ∧ Ok (numT v) ∧ (numT v).length ≤ 3 := fun {v} h0 h1 => by
      obtain ⟨x, y, _⟩ := numT_wd h0 (by omega)
      refine ⟨x, y, ?_⟩
      have z : ∀ k : _root_.Fin 101, (numT (k.val : Int)).length ≤ 3 := by decide +kernel
      have z := z ⟨v.toNat, by omega⟩
      have e : ((v.toNat : Nat) : Int) = v := by omega
      have z : (numT ((v.toNat : Nat) : Int)).length ≤ 3 := z
      rw [e] at z; exact z
    have na := num ha.1 ha.2
    have nb := num hb.1 (by omega)
    have nc := num hc.1 (by omega)
    have nd := num hd.1 (by omega)
    have ne := num he.1 (by omega)
    have pp : wdS (dT (parD p)) = true ∧ Ok (dT (parD p)) ∧ (dT (parD p)).length ≤ 8 := by
      cases p with
      | none => exact ⟨by decide +kernel, ok_of "-", by decide +kernel⟩
      | some s => have := hp s rfl; exact ⟨this.wd.wd, this.wd.ok, this.2.1⟩
    have lk : ∀ l ∈ ls, wdS (pT (linkD l)) = true ∧ Ok (pT (linkD l)) ∧ (pT (linkD l)).length ≤ 17 := fun l h => by
      obtain ⟨h1, h2, _⟩ := hls l h
      have e : pT (linkD l) = l.1 ++ ">" ++ l.2 := rfl
      have i1 := wd_no h1.wd.wd
      have i2 := wd_no h2.wd.wd
      have mem : ∀ c, c ∈ (l.1 ++ ">" ++ l.2 : Str).cps.toList → c ∈ l.1.cps.toList ∨ c = 62 ∨ c ∈ l.2.cps.toList := fun c hc => by
        rw [str_app, str_app] at hc
        rcases List.mem_append.mp hc with hc | hc
        · rcases List.mem_append.mp hc with hc | hc
          · exact .inl hc
          · rw [gtL] at hc; exact .inr (.inl (List.mem_singleton.mp hc))
        · exact .inr (.inr hc)
      rw [e]
      refine ⟨?_, (h1.wd.ok.app (ok_of ">")).app h2.wd.ok, ?_⟩
      · unfold wdS
        rw [decide_eq_false (fun z => by rcases mem 32 z with z | z | z; exact i1.1 z; cases z; exact i2.1 z), decide_eq_false (fun z => by rcases mem 10 z with z | z | z; exact i1.2.1 z; cases z; exact i2.2.1 z)]
        have : (l.1 ++ ">" ++ l.2 : Str).cps.toList ≠ [] := fun z => by
          have : 62 ∈ (l.1 ++ ">" ++ l.2 : Str).cps.toList := by rw [str_app, str_app, gtL]; simp
          rw [z] at this; cases this
        cases z : (l.1 ++ ">" ++ l.2 : Str).cps.toList with
        | nil => exact absurd z this
        | cons c r => rfl
      · rw [Str.length_append, Str.length_append]
        have := h1.2.1
        have := h2.2.1
        have : (">" : Str).length = 1 := by decide +kernel
        omega
    show (∀ w ∈ (("plug" : Str) :: n :: dT (parD p) :: numT a :: numT b :: numT c :: numT d :: numT e :: (ls.map linkD).map pT : List Str), _) ∧ ("plug" :: n :: dT (parD p) :: numT a :: numT b :: numT c :: numT d :: numT e :: (ls.map linkD).map pT : List Str).length ≤ 24 ∧ (("plug" :: n :: dT (parD p) :: numT a :: numT b :: numT c :: numT d :: numT e :: (ls.map linkD).map pT : List Str).map (·.length)).sum + ("plug" :: n :: dT (parD p) :: numT a :: numT b :: numT c :: numT d :: numT e :: (ls.map linkD).map pT : List Str).length ≤ 325
    have sm : ∀ ls : List (Str × Str), (∀ l ∈ ls, (pT (linkD l)).length ≤ 17) → (((ls.map linkD).map pT).map (·.length)).sum ≤ 17 * ls.length := by
      intro l
      induction l with
      | nil => exact fun _ => Nat.le_refl _
      | cons x y ih =>
        intro h
        have := ih fun w hw => h w (List.mem_cons_of_mem _ hw)
        have := h x List.mem_cons_self
        simp only [List.map_cons, List.sum_cons, List.length_cons]; omega
    have sl := sm ls fun l h => (lk l h).2.2
    have lp : ("plug" : Str).length = 4 := by decide +kernel
    have ln := hn.2.1
    refine ⟨fun w hw => ?_, by simp only [List.length_cons, List.length_map]; omega, ?_⟩
    · simp only [List.mem_cons] at hw
      rcases hw with rfl | rfl | rfl | rfl | rfl | rfl | rfl | rfl | hw
      · exact ⟨by decide +kernel, ok_of "plug", by decide +kernel⟩
      · exact ⟨hn.wd.wd, hn.wd.ok, by omega⟩
      · exact ⟨pp.1, pp.2.1, by omega⟩
      · exact ⟨na.1, na.2.1, by omega⟩
      · exact ⟨nb.1, nb.2.1, by omega⟩
      · exact ⟨nc.1, nc.2.1, by omega⟩
      · exact ⟨nd.1, nd.2.1, by omega⟩
      · exact ⟨ne.1, ne.2.1, by omega⟩
      · rw [List.map_map] at hw
        obtain ⟨l, h, rfl⟩ := List.mem_map.mp hw
        exact lk l h
    · simp only [List.map_cons, List.sum_cons, List.length_cons, List.length_map]
      have := pp.2.2
      have := na.2.2
      have := nb.2.2
      have := nc.2.2
      have := nd.2.2
      have := ne.2.2
      have c1 : (numT c).length ≤ 1 := by
        have z : ∀ k : _root_.Fin 6, (numT (k.val : Int)).length ≤ 1 := by decide +kernel
        have z := z ⟨c.toNat, by omega⟩
        have e : ((c.toNat : Nat) : Int) = c := by omega
        have z : (numT ((c.toNat : Nat) : Int)).length ≤ 1 := z
        rw [e] at z; exact z
      have d1 : (numT d).length ≤ 1 := by
        have z : ∀ k : _root_.Fin 6, (numT (k.val : Int)).length ≤ 1 := by decide +kernel
        have z := z ⟨d.toNat, by omega⟩
        have e : ((d.toNat : Nat) : Int) = d := by omega
        have z : (numT ((d.toNat : Nat) : Int)).length ≤ 1 := z
        rw [e] at z; exact z
      have e1 : (numT e).length ≤ 1 := by
        have z : ∀ k : _root_.Fin 10, (numT (k.val : Int)).length ≤ 1 := by decide +kernel
        have z := z ⟨e.toNat, by omega⟩
        have k : ((e.toNat : Nat) : Int) = e := by omega
        have z : (numT ((e.toNat : Nat) : Int)).length ≤ 1 := z
        rw [k] at z; exact z
      rw [List.map_map] at sl ⊢
      omega
end DL
set_option Elab.async false
set_option linter.all false
set_option maxRecDepth 100000
set_option maxHeartbeats 4000000
set_option pp.maxSteps 1500
namespace DL
open PySem PySem.Spec PyProof.Rows L2
theorem seq_it3 {M : Mp} {d : D} {xs : List D} {R : List D → Src → Prop} (h : seqD M d = some xs) (q : ∀ src : Src, (∀ M', Ext M M' → src.holds M') → R xs src) : asS M d R := by
  cases d with
  | ref a =>
    unfold seqD at h
    dsimp only at h
    split at h
    · rename_i ys e
      cases h
      exact ⟨_, e, q (.at a xs) fun M' x => x _ _ e⟩
    · cases h
  | lst ys => cases h; exact q .data fun _ _ => trivial
  | tup ys => cases h; exact q .data fun _ _ => trivial
  | _ => cases h
end DL
set_option Elab.async false
set_option linter.all false
set_option maxRecDepth 100000
set_option maxHeartbeats 4000000
set_option pp.maxSteps 1500
namespace DL
open PySem PySem.Spec PyProof.Rows L2
mutual
inductive Den (M : Mp) : D → D → Prop
  | non : Den M .non .non
  | bl (b : Bool) : Den M (.bl b) (.bl b)
  | int (i : Int) : Den M (.int i) (.int i)
  | str (s : Str) : Den M (.str s) (.str s)
  | lst {xs ys : List D} : Dens M xs ys → Den M (.lst xs) (.lst ys)
  | tup {xs ys : List D} : Dens M xs ys → Den M (.tup xs) (.tup ys)
  | dct {ks xs ys : List (Key × D)} : DenK M xs ys → Den M (.dct xs) (.dct ys)
  | ref {a : Addr} {xs ys : List D} : M a = some (.lst xs) → Dens M xs ys → Den M (.ref a) (.lst ys)
  | refK {a : Addr} {xs ys : List (Key × D)} : M a = some (.dct xs) → DenK M xs ys → Den M (.ref a) (.dct ys)
inductive Dens (M : Mp) : List D → List D → Prop
  | nil : Dens M [] []
  | cons {x y : D} {xs ys : List D} : Den M x y → Dens M xs ys → Dens M (x :: xs) (y :: ys)
inductive DenK (M : Mp) : List (Key × D) → List (Key × D) → Prop
  | nil : DenK M [] []
  | cons {k : Key} {x y : D} {xs ys : List (Key × D)} : Den M x y → DenK M xs ys → DenK M ((k, x) :: xs) ((k, y) :: ys)
end
mutual
theorem Den.ext {M M' : Mp} (h : Ext M M') : ∀ {x y : D}, Den M x y → Den M' x y
  | _, _, .non => .non
  | _, _, .bl b => .bl b
  | _, _, .int i => .int i
  | _, _, .str s => .str s
  | _, _, .lst r => .lst (Dens.ext h r)
  | _, _, .tup r => .tup (Dens.ext h r)
  | _, _, .dct (ks := ks) r => .dct (ks := ks) (DenK.ext h r)
  | _, _, .ref e r => .ref (h _ _ e) (Dens.ext h r)
  | _, _, .refK e r => .refK (h _ _ e) (DenK.ext h r)
theorem Dens.ext {M M' : Mp} (h : Ext M M') : ∀ {x y : List D}, Dens M x y → Dens M' x y
  | _, _, .nil => .nil
  | _, _, .cons a r => .cons (Den.ext h a) (Dens.ext h r)
theorem DenK.ext {M M' : Mp} (h : Ext M M') : ∀ {x y : List (Key × D)}, DenK M x y → DenK M' x y
  | _, _, .nil => .nil
  | _, _, .cons a r => .cons (Den.ext h a) (DenK.ext h r)
end
def shK : Key → Sh
  | .inl i => .leaf (toString i)
  | .inr s => .leaf (reprText s)
mutual
def shD : D → Sh
  | .non => .leaf "None"
  | .bl b => .leaf (blText b)
  | .int i => .leaf (toString i)
  | .str s => .leaf (reprText s)
  | .lst xs => .lst (shDs xs)
  | .tup xs => .tup (shDs xs)
  | .dct kvs => .dct (shKs kvs) (shVs kvs)
  | .ref _ => .leaf ""
  | .ty _ => .leaf ""
  | .sq _ => .leaf ""
  | .ins _ _ => .leaf ""
def shDs : List D → List Sh
  | [] => []
  | x :: r => shD x :: shDs r
def shKs : List (Key × D) → List Sh
  | [] => []
  | (k, _) :: r => shK k :: shKs r
def shVs : List (Key × D) → List Sh
  | [] => []
  | (_, x) :: r => shD x :: shVs r
end
def okK : Key → Prop
  | .inl i => i.natAbs.log2 < 1920
  | .inr s => (reprText s).length ≤ sizeLine
mutual
def okD : D → Prop
  | .non => True
  | .bl _ => True
  | .int i => i.natAbs.log2 < 1920
  | .str s => (reprText s).length ≤ sizeLine
  | .lst xs => okDs xs
  | .tup xs => okDs xs
  | .dct kvs => okKs kvs
  | _ => False
def okDs : List D → Prop
  | [] => True
  | x :: r => okD x ∧ okDs r
def okKs : List (Key × D) → Prop
  | [] => True
  | (k, x) :: r => okK k ∧ okD x ∧ okKs r
end
theorem shK_of {M : Mp} {k : Key} (h : okK k) : ShOf M (kD k) (shK k) := by
  cases k with
  | inl i => exact .int h
  | inr s => exact .str h
mutual
theorem Den.sh {M : Mp} : ∀ {x y : D}, Den M x y → okD y → ShOf M x (shD y)
  | _, _, .non, _ => .non
  | _, _, .bl b, _ => .bl b
  | _, _, .int i, h => .int h
  | _, _, .str s, h => .str h
  | _, _, .lst r, h => .lst (Dens.sh r h)
  | _, _, .tup r, h => .tup (Dens.sh r h)
  | _, _, .dct r, h => .dct (DenK.sh r h).1 (DenK.sh r h).2
  | _, _, .ref e r, h => .lstM e (Dens.sh r h)
  | _, _, .refK e r, h => .dctM e (DenK.sh r h).1 (DenK.sh r h).2
theorem Dens.sh {M : Mp} : ∀ {x y : List D}, Dens M x y → okDs y → ShOfs M x (shDs y)
  | _, _, .nil, _ => .nil
  | _, _, .cons a r, h => .cons (Den.sh a h.1) (Dens.sh r h.2)
theorem DenK.sh {M : Mp} : ∀ {x y : List (Key × D)}, DenK M x y → okKs y → ShOfs M (x.map fun kv => kD kv.1) (shKs y) ∧ ShOfs M (x.map (·.2)) (shVs y)
  | _, _, .nil, _ => ⟨.nil, .nil⟩
  | _, _, .cons a r, h => ⟨.cons (shK_of h.1) (DenK.sh r h.2.2).1, .cons (Den.sh a h.2.1) (DenK.sh r h.2.2).2⟩
end
structure Shb (d : D) : Prop where
  ok : okD d
  dep : (shD d).dep ≤ 60
  w : (shD d).w ≤ 16777216
end DL
set_option Elab.async false
set_option linter.all false
set_option maxRecDepth 100000
set_option maxHeartbeats 1000000
set_option pp.maxSteps 1500
namespace DL
open PySem PySem.Spec PyProof.Rows L2
mutual
inductive Fz : Mp → D → Mp → D → Prop
  | same (M : Mp) (d : D) : Fz M d M d
  | lst {M M' : Mp} {a : Addr} {xs ys : List D} : M a = some (.lst xs) → Fzs (delM M a) xs M' ys → Fz M (.ref a) M' (.lst ys)
  | dct {M M' : Mp} {a : Addr} {xs ys : List (Key × D)} : M a = some (.dct xs) → FzK (delM M a) xs M' ys → Fz M (.ref a) M' (.dct ys)
  | ins {M M' : Mp} {a C : Addr} {xs ys : List (Str × D)} : M a = some (.ins C xs) → FzF (delM M a) xs M' ys → Fz M (.ref a) M' (.ins C ys)
inductive Fzs : Mp → List D → Mp → List D → Prop
  | nil (M : Mp) : Fzs M [] M []
  | cons {M M1 M2 : Mp} {x y : D} {xs ys : List D} : Fz M x M1 y → Fzs M1 xs M2 ys → Fzs M (x :: xs) M2 (y :: ys)
inductive FzK : Mp → List (Key × D) → Mp → List (Key × D) → Prop
  | nil (M : Mp) : FzK M [] M []
  | cons {M M1 M2 : Mp} {k : Key} {x y : D} {xs ys : List (Key × D)} : Fz M x M1 y → FzK M1 xs M2 ys → FzK M ((k, x) :: xs) M2 ((k, y) :: ys)
inductive FzF : Mp → List (Str × D) → Mp → List (Str × D) → Prop
  | nil (M : Mp) : FzF M [] M []
  | cons {M M1 M2 : Mp} {k : Str} {x y : D} {xs ys : List (Str × D)} : Fz M x M1 y → FzF M1 xs M2 ys → FzF M ((k, x) :: xs) M2 ((k, y) :: ys)
end
theorem HR.drop {K : PySem.W.Frag} {I : Hp} {M : Mp} {F H : Hp} (h : HR K I M F H) (a : Addr) : HR K I (delM M a) F H := by
  refine ⟨h.imm, fun b m q => ?_, fun b u q => ?_, h.ft⟩
  · have z : b ≠ a := fun z => by rw [z, delM_same] at q; cases q
    rw [delM_ne z] at q
    exact h.mu b m q
  · obtain ⟨x, y, z⟩ := h.frm b u q
    refine ⟨x, y, ?_⟩
    by_cases e : b = a
    · rw [e]; exact delM_same
    · rw [delM_ne e]; exact z
section
variable {X : Cx} {W : WX} {e o value : Expr} {te to tv : DTE} {pos tpos : Pos}
end
end DL
set_option Elab.async false
set_option linter.all false
set_option maxRecDepth 100000
set_option maxHeartbeats 1000000
namespace DL
open PySem PySem.Spec PyProof.Rows L2
def leRow : List Value := [.type "LookupError", .type "Exception", .type "BaseException", .type "object"]
def leRowB (b : Bool) : List Value := if b then .type "KeyError" :: leRow else leRow
def leMro (b : Bool) (rs : List Addr) : List Value := rs.map Value.ref ++ leRowB b
section
open PySem.HandSPX
variable {M : Model} {P : Program} {w : World} {A : Around} {E : Value → Shared → Prop} {R : Result → Shared → Prop} {hp : Heap} {gs : Array GenState} {dn : Drawn} {tt : Nat} {os : OsState}
variable {nm q : Str} {C N : Addr} {bs : List Value} {b : Bool} {rs : List Addr} {sn : List Str} {sub : List Value} {ab : Bool} {col : Option Bool} {dd : Option Addr} {k0 k1 k2 k3 k5 : Option Value} {us : List Value}
end
structure OexL (K : PySem.W.Frag) (C : Addr) : Prop where
  cls : ∃ b nm q N bs rs sn sub ab col dd k0 k1 k2 k3 k5, K.lookup C = some (excClassObj nm q C N bs (leMro b rs) true sn sub ab col dd k0 k1 k2 k3 k5 "LookupError.__new__")
  sa : PySem.W.findIn K (.ref C) "__setattr__" = some (some (.builtin "object.__setattr__"))
  be : PySem.W.subIn K (.ref C) (.type "BaseException") = some true
  ty : PySem.W.typeIn K (.ref C) = some (.type "type")
  kp : PySem.W.keepIn K (.ref C) = true
theorem OexL.cd {K : PySem.W.Frag} {C : Addr} (T : OexL K C) : ∃ cd b rs, PySem.W.clsIn K C = some cd ∧ cd.mro = leMro b (C :: rs) ∧ cd.hasDict = true := by
  obtain ⟨b, nm, q, N, bs, rs, sn, sub, ab, col, dd, k0, k1, k2, k3, k5, h⟩ := T.cls
  refine ⟨{ name := nm, bases := bs, mro := leMro b (C :: rs), ns := N, qualname := q, hasDict := true, slotNames := sn, subclasses := sub, abstract := ab, collection := col, hasDel := false }, b, rs, ?_, rfl, rfl⟩
  unfold PySem.W.clsIn
  rw [h] <;> rfl
section
open Builtin Builtin.ObjectAttr
variable {P : Program} {w : World} {A : Around} {E : Value → Shared → Prop} {R : Result → Shared → Prop} {hp : Heap} {gs : Array GenState} {dn : Drawn} {tt : Nat} {os : OsState}
end
section
variable {X : Cx} {pins : List (Addr × Obj)} {σ : L2.St} {H : Hp} {s : Shared} {a C : Addr} {f : Str} {y : V} {u : Value} {Q : Unit → Shared → Prop} {E : Value → Shared → Prop} {A : Around}
end
def spIL (C : Addr) (fs : List Str) : Sp := fun vs H Q _ => ∃ (a : Addr) (us : List V), vs = .ref a :: us ∧ us.length = fs.length ∧ H a = some (exo a C none) ∧ ∀ d, H d = none → d ≠ a → Q .non (upd (upd H d (exd d (fs.zip us).reverse)) a (exo a C (some d)))
structure ExcL (P : Program) (w : World) (K : PySem.W.Frag) (mg : Str → Option Value) (base : Heap) (k : Nat) (x : Str) (fs : List Str) (C : Addr) : Prop where
  mgC : mg x = some (.ref C)
  oex : OexL K C
  cls : ExcCls K C
  ini : ∃ (fI : Addr) (fd : FuncData), PySem.W.findIn K (.ref C) "__init__" = some (some (.ref fI)) ∧ PySem.W.typeIn K (.ref fI) = some (.type "function") ∧ Binds K fd ("self" :: fs) [] ∧ FnG P w K mg base (L2.CX P w) k fI fd ("self" :: fs) (spIL C fs)
section
variable {X : Cx} {W : WX} {e : Expr} {es : List Expr} {ta : TA} {td : DTA} {p pos pos' : Pos} {x : Str} {fs : List Str} {C : Addr} {k : Nat}
end
end DL
set_option Elab.async false
set_option linter.all false
set_option maxRecDepth 100000
set_option maxHeartbeats 1000000
namespace DL
open PySem PySem.Spec PyProof.Rows L2
section
variable {X : Cx} {W : WX} {e : Expr} {te : DTE} {p pos apos mpos : Pos}
theorem HR.more {K : PySem.W.Frag} {I I' : Hp} {M : Mp} {F H H' : Hp} (h : HR K I M F H) (k : ∀ b o, H b = some o → H' b = some o) (s : Same I I') (im : ∀ b o, I' b = some o → H' b = some o) (off : ∀ b o, H b = some o → I' b = I b) : HR K I' M F H' := by
  refine ⟨im, fun a m z => ?_, fun a u z => ?_, h.ft⟩
  · obtain ⟨x, o, y, r⟩ := h.mu a m z
    exact ⟨(off a o y).trans x, o, k a o y, r.mono s fun d φ w => k d _ w⟩
  · obtain ⟨x, y, w⟩ := h.frm a u z
    exact ⟨k a u x, (off a u x).trans y, w⟩
end
end DL
set_option Elab.async false
set_option linter.all false
set_option maxRecDepth 100000
set_option maxHeartbeats 1000000
namespace DL
open PySem L2
structure Rw where
  nm : Str
  par : Option Str
  burn : Int
  sip : Int
  wake : Int
  fall : Int
  rest : Int
def oStr : Option Str → D
  | none => .non
  | some x => .str x
def Rw.d (r : Rw) : D := .tup [.str r.nm, oStr r.par, .int r.burn, .int r.sip, .int r.wake, .int r.fall, .int r.rest]
def prD (q : Str × Str) : D := .tup [.str q.1, .str q.2]
structure Mc where
  rows : List Rw
  links : List (Str × Str)
def Mc.names (m : Mc) : List Str := m.rows.map (·.nm)
def linkAdd (n : Str) (acc : List Str) (q : Str × Str) : List Str := if q.1 = n ∧ q.2 ∉ acc then acc ++ [q.2] else acc
def Mc.row (m : Mc) (n : Str) : Rw := (m.rows.find? fun r => decide (r.nm = n)).getD ⟨n, none, 0, 0, 0, 0, 0⟩
def Mc.needs (m : Mc) (n : Str) : List Str := m.links.foldl (linkAdd n) (m.row n).par.toList
def ripe (ns : List Str) (nd : Str → List Str) (fd : List Str) : List Str := ns.filter fun n => decide (n ∉ fd) && (nd n).all fun o => decide (o ∈ fd)
def ordN (ns : List Str) (nd : Str → List Str) : Nat → List Str
  | 0 => []
  | k + 1 => ordN ns nd k ++ (ripe ns nd (ordN ns nd k)).take 1
def Mc.order (m : Mc) : List Str := ordN m.names m.needs m.names.length
structure Ranked (ns : List Str) (nd : Str → List Str) : Prop where
  dup : ns.Nodup
  sub : ∀ n ∈ ns, ∀ o ∈ nd n, o ∈ ns
  rk : ∃ r : Str → Nat, ∀ n ∈ ns, ∀ o ∈ nd n, r o < r n
def Topo (nd : Str → List Str) : List Str → Prop
  | [] => True
  | o :: r => (∀ w ∈ o :: r, o ∉ nd w) ∧ Topo nd r
structure OrdOk (ns : List Str) (nd : Str → List Str) (k : Nat) (l : List Str) : Prop where
  len : l.length = k
  dup : l.Nodup
  sub : ∀ n ∈ l, n ∈ ns
  cl : ∀ n ∈ l, ∀ o ∈ nd n, o ∈ l
  topo : Topo nd l.reverse
def putW (nd : Str → List Str) (f : Str → Bool) (o : Str) : Str → Bool := fun x => f x || (f o && decide (x ∈ nd o))
def reachP (nd : Str → List Str) (one : Str) (rev : List Str) : Str → Bool := rev.foldl (putW nd) fun x => decide (x = one)
def Mc.way (m : Mc) (one : Str) : List Str := m.order.filter (reachP m.needs one m.order.reverse)
end DL
set_option Elab.async false
set_option linter.all false
set_option maxRecDepth 100000
set_option maxHeartbeats 1000000
namespace DL
open PySem L2
def tab (ns : List Str) (f : Str → D) : List (Key × D) := ns.map fun n => (.inr n, f n)
def upF {α : Type} (f : Str → α) (n : Str) (v : α) : Str → α := fun x => if x = n then v else f x
structure GoodM (m : Mc) : Prop where
  l1 : 1 ≤ m.rows.length
  l8 : m.rows.length ≤ 8
  row : ∀ r ∈ m.rows, Nm r.nm ∧ (∀ p, r.par = some p → p ∈ m.names) ∧ 0 ≤ r.burn ∧ r.burn ≤ 100 ∧ 0 ≤ r.sip ∧ r.sip ≤ r.burn ∧ 0 ≤ r.wake ∧ r.wake ≤ 5 ∧ 0 ≤ r.fall ∧ r.fall ≤ 5 ∧ 0 ≤ r.rest ∧ r.rest ≤ 9
  dup : m.names.Nodup
  l16 : m.links.length ≤ 16
  ldup : m.links.Nodup
  lnk : ∀ q ∈ m.links, q.1 ∈ m.names ∧ q.2 ∈ m.names ∧ q.1 ≠ q.2
  rk : ∃ k : Str → Nat, (∀ r ∈ m.rows, ∀ p, r.par = some p → k p < k r.nm) ∧ ∀ q ∈ m.links, k q.2 < k q.1
theorem row_at {rows : List Rw} {n : Str} (h : n ∈ rows.map (·.nm)) : ∃ r ∈ rows, r.nm = n ∧ rows.find? (fun r => decide (r.nm = n)) = some r := by
  cases q : rows.find? (fun r => decide (r.nm = n)) with
  | none =>
    obtain ⟨r, hr, e⟩ := List.mem_map.mp h
    exact absurd (decide_eq_true e) (List.find?_eq_none.mp q r hr)
  | some r =>
    have z := List.find?_some q
    exact ⟨r, List.mem_of_find?_eq_some q, of_decide_eq_true z, rfl⟩
theorem Mc.row_in {m : Mc} {n : Str} (h : n ∈ m.names) : m.row n ∈ m.rows ∧ (m.row n).nm = n := by
  obtain ⟨r, hr, e, q⟩ := row_at h
  unfold Mc.row
  rw [q]
  exact ⟨hr, e⟩
end DL
set_option Elab.async false
set_option linter.all false
set_option maxRecDepth 100000
set_option maxHeartbeats 1000000
namespace DL
open PySem L2
structure PS where
  st : Str → Str
  cnt : Str → Int
  grp : Str → Int
  due : Str → Option Int
  clk : Int
  en : Int
  log : List D
  ask : List (List Key × D)
  flt : List (List Key × D)
def oInt : Option Int → D
  | none => .non
  | some i => .int i
def logRow (t : Int) (ws : List D) : D := .tup (.int t :: ws)
def PS.note (s : PS) (ws : List D) : PS := { s with log := s.log ++ [logRow s.clk ws] }
def rowCost (s : PS) (wk : Option Str) (r : Rw) : Int := if s.st r.nm = "on" ∨ wk = some r.nm then r.burn else if s.st r.nm = "doze" then r.sip else 0
def Mc.cost (m : Mc) (s : PS) (wk : Option Str) : Int := (m.rows.map (rowCost s wk)).sum
def Mc.pass (m : Mc) (s : PS) (k : Int) (wk : Option Str) : PS := { s with en := s.en + k * m.cost s wk, clk := s.clk + k }
def kAsk (n d : Str) : List Key := [.inr n, .inr d]
def kFlt (n d : Str) (i : Int) : List Key := [.inr n, .inr d, .inl i]
def PS.asked (s : PS) (n d : Str) : Int := match valD s.ask (kAsk n d) with | some (.int i) => i | _ => 0
def PS.ans (s : PS) (n d : Str) : Str := match valD s.flt (kFlt n d (s.asked n d + 1)) with | some (.str w) => w | _ => "done"
def PS.tell (s : PS) (n d : Str) : PS := { s with ask := putT s.ask (kAsk n d) (.int (s.asked n d + 1)) }
def Mc.held (m : Mc) (s : PS) (n : Str) : Bool := decide (0 < s.cnt n) || decide (0 < s.grp n) || m.names.any fun u => decide (n ∈ m.needs u) && decide (s.st u = "on")
def PS.setSt (s : PS) (n w : Str) : PS := { s with st := upF s.st n w }
def PS.setDue (s : PS) (n : Str) (v : Option Int) : PS := { s with due := upF s.due n v }
def PS.addC (s : PS) (n : Str) (k : Int) : PS := { s with cnt := upF s.cnt n (s.cnt n + k) }
def PS.addG (s : PS) (k : Int) (n : Str) : PS := { s with grp := upF s.grp n (s.grp n + k) }
def w1 (a n : Str) : List D := [.str a, .str n]
def Mc.fallA (m : Mc) (s : PS) (n : Str) : PS := m.pass ((s.setDue n none).note (w1 "falling" n)) (m.row n).fall none
def Mc.fallB (m : Mc) (s : PS) (n : Str) : PS :=
  let w := s.ans n "doze"
  let s1 := s.tell n "doze"
  if w = "busy" then (s1.note (w1 "stays" n)).setDue n (some (s1.clk + max 1 (m.row n).rest))
  else
    let x : Str := if w = "done" then "doze" else "off"
    (s1.setSt n x).note (w1 x n)
def Mc.fall (m : Mc) (s : PS) (n : Str) : PS := m.fallB (m.fallA s n) n
def Mc.settle1 (m : Mc) (s : PS) (n : Str) : PS :=
  if s.st n ≠ "on" ∨ m.held s n = true then s.setDue n none
  else if s.due n = none ∧ 0 < (m.row n).rest then s.setDue n (some (s.clk + (m.row n).rest))
  else if s.due n = none ∨ ∃ t, s.due n = some t ∧ t ≤ s.clk then m.fall s n
  else s
def Mc.settle (m : Mc) (s : PS) : PS := m.order.reverse.foldl m.settle1 s
def wBegin (deed n : Str) : List D := [.str "begin", .str deed, .str n]
def wEnd (deed n w : Str) : List D := [.str "end", .str deed, .str n, .str w]
def Mc.gripAll (m : Mc) (s : PS) (n : Str) (k : Int) : PS := (m.way n).foldl (fun s o => s.addG k o) s
def Mc.over (m : Mc) (s : PS) (n w : Str) : PS :=
  let s1 := m.gripAll s n (-1)
  let s2 := s1.addC n (if w = "done" then 1 else 0)
  m.settle (s2.note (wEnd "gain" n w))
def Mc.left (m : Mc) (s : PS) (n : Str) : List Str := (m.way n).filter fun o => decide (s.st o ≠ "on")
def Mc.wakeA (m : Mc) (s : PS) (o : Str) : PS := m.pass (s.note (w1 "waking" o)) (m.row o).wake (some o)
def Mc.wakeD (m : Mc) (s : PS) (o : Str) : PS := (((m.wakeA s o).tell o "wake").setSt o "on").note (w1 "wake" o)
def Mc.gainN (m : Mc) (n : Str) : Nat → PS → PS
  | 0, s => m.over s n "done"
  | k + 1, s => match m.left s n with
    | [] => m.over s n "done"
    | o :: _ => m.gainN n k (m.wakeD s o)
def Mc.release (m : Mc) (s : PS) (n : Str) (now : Bool) : PS :=
  let s1 := (s.note (wBegin "release" n)).addC n (-1)
  let s2 := if now = true ∧ s1.st n = "on" ∧ m.held s1 n = false then s1.setDue n (some s1.clk) else s1
  m.settle (s2.note (wEnd "release" n "done"))
structure Calm (s : PS) : Prop where
  flt : s.flt = []
  st : ∀ n, s.st n = "on" ∨ s.st n = "doze"
theorem Calm.ans {s : PS} (c : Calm s) (n d : Str) : s.ans n d = "done" := by
  unfold PS.ans
  rw [c.flt]
  rfl
theorem Calm.setSt {s : PS} (c : Calm s) {n w : Str} (h : w = "on" ∨ w = "doze") : Calm (s.setSt n w) := ⟨c.flt, fun x => by
  show upF s.st n w x = "on" ∨ upF s.st n w x = "doze"
  unfold upF
  split
  · exact h
  · exact c.st x⟩
theorem Calm.same {s s' : PS} (c : Calm s) (h1 : s'.flt = s.flt) (h2 : s'.st = s.st) : Calm s' := ⟨h1.trans c.flt, fun n => by rw [h2]; exact c.st n⟩
structure LwR (N : Nat) (d : D) : Prop where
  ex : ∃ t ws, d = logRow t ws ∧ 0 ≤ t ∧ t ≤ 5 * N ∧ ws.length ≤ 4 ∧ ∀ w ∈ ws, w = .non ∨ ∃ x, w = .str x ∧ x.length ≤ 8 ∧ Lw x
def AskOk (N : Nat) (l : List (List Key × D)) : Prop := ∀ kv ∈ l, ∃ i : Int, kv.2 = .int i ∧ 0 ≤ i ∧ i ≤ N
structure Bd (s : PS) (N : Nat) : Prop where
  log : s.log.length ≤ N
  row : ∀ d ∈ s.log, LwR N d
  c0 : 0 ≤ s.clk
  c1 : s.clk ≤ 5 * N
  e0 : 0 ≤ s.en
  e1 : s.en ≤ 5000 * N
  k0 : ∀ n, -N ≤ s.cnt n
  k1 : ∀ n, s.cnt n ≤ N
  g0 : ∀ n, -N ≤ s.grp n
  g1 : ∀ n, s.grp n ≤ N
  d1 : ∀ n t, s.due n = some t → 0 ≤ t ∧ t ≤ 5 * N + 10
  al : s.ask.length ≤ N
  ask : AskOk N s.ask
  last : ∀ d ∈ s.log, ∃ t ws, d = logRow t ws ∧ t ≤ s.clk
theorem LwR.mono {N N' : Nat} (l : N ≤ N') {d : D} (h : LwR N d) : LwR N' d := by
  obtain ⟨t, ws, a, b, c, e, f⟩ := h.ex
  exact ⟨t, ws, a, b, by omega, e, f⟩
theorem Bd.mono {s : PS} {N N' : Nat} (h : Bd s N) (l : N ≤ N') : Bd s N' where
  log := Nat.le_trans h.log l
  row := fun d hd => (h.row d hd).mono l
  c0 := h.c0
  c1 := by have := h.c1; omega
  e0 := h.e0
  e1 := by have := h.e1; omega
  k0 := fun n => by have := h.k0 n; omega
  k1 := fun n => by have := h.k1 n; omega
  g0 := fun n => by have := h.g0 n; omega
  g1 := fun n => by have := h.g1 n; omega
  d1 := fun n t e => by have := h.d1 n t e; omega
  al := Nat.le_trans h.al l
  ask := fun kv m => by obtain ⟨i, a, b, c⟩ := h.ask kv m; exact ⟨i, a, b, by omega⟩
  last := h.last
def wOk (ws : List D) : Prop := ws.length ≤ 4 ∧ ∀ w ∈ ws, w = .non ∨ ∃ x, w = .str x ∧ x.length ≤ 8 ∧ Lw x
theorem Bd.note {s : PS} {N : Nat} (h : Bd s N) {ws : List D} (g : wOk ws) : Bd (s.note ws) (N + 1) := by
  have m := h.mono (Nat.le_succ N)
  refine { m with log := ?_, row := fun d hd => ?_, last := fun d hd => ?_ }
  · show (s.log ++ [logRow s.clk ws]).length ≤ N + 1
    rw [List.length_append]
    exact Nat.add_le_add_right h.log 1
  · rcases List.mem_append.mp hd with z | z
    · exact m.row d z
    · rw [List.mem_singleton.mp z]
      exact ⟨_, _, rfl, m.c0, m.c1, g.1, g.2⟩
  · rcases List.mem_append.mp hd with z | z
    · exact h.last d z
    · rw [List.mem_singleton.mp z]
      exact ⟨_, _, rfl, Int.le_refl _⟩
theorem Bd.pass {m : Mc} (gm : GoodM m) {s : PS} {N : Nat} (h : Bd s N) {k : Int} (k0 : 0 ≤ k) (k5 : k ≤ 5) (wk : Option Str) : Bd (m.pass s k wk) (N + 1) := by
  have x := h.mono (Nat.le_succ N)
  have c : ∀ l : List Rw, (∀ r ∈ l, r ∈ m.rows) → 0 ≤ (l.map (rowCost s wk)).sum ∧ (l.map (rowCost s wk)).sum ≤ 100 * l.length := by
    intro l
    induction l with
    | nil => exact fun _ => ⟨Int.le_refl _, Int.le_refl _⟩
    | cons r t ih =>
      intro hl
      obtain ⟨a, b⟩ := ih fun y hy => hl y (List.mem_cons_of_mem _ hy)
      obtain ⟨_, _, b0, b1, s0, s1, _⟩ := gm.row r (hl r List.mem_cons_self)
      have q : 0 ≤ rowCost s wk r ∧ rowCost s wk r ≤ 100 := by
        unfold rowCost
        split
        · omega
        · split <;> omega
      rw [List.map_cons, List.sum_cons, List.length_cons]
      omega
  obtain ⟨a, b⟩ := c m.rows fun _ z => z
  have l8 := gm.l8
  have e0 := h.e0
  have e1 := h.e1
  have c1 := h.c1
  have m0 : 0 ≤ k * m.cost s wk := Int.mul_nonneg k0 a
  have m1 : k * m.cost s wk ≤ 5 * 800 := by
    refine Int.le_trans (Int.mul_le_mul_of_nonneg_right k5 a) ?_
    show 5 * (m.rows.map (rowCost s wk)).sum ≤ 5 * 800
    omega
  refine { x with c0 := ?_, c1 := ?_, e0 := ?_, e1 := ?_, last := fun d hd => ?_ }
  · show 0 ≤ s.clk + k
    have := h.c0; omega
  · show s.clk + k ≤ _
    omega
  · show 0 ≤ s.en + k * m.cost s wk
    omega
  · show s.en + k * m.cost s wk ≤ _
    omega
  · obtain ⟨t, ws, e, l⟩ := h.last d hd
    exact ⟨t, ws, e, by show t ≤ s.clk + k; omega⟩
theorem Bd.setSt {s : PS} {N : Nat} (h : Bd s N) (n w : Str) : Bd (s.setSt n w) N := { h with }
theorem Bd.setDue {s : PS} {N : Nat} (h : Bd s N) (n : Str) {v : Option Int} (g : ∀ t, v = some t → 0 ≤ t ∧ t ≤ 5 * N + 10) : Bd (s.setDue n v) N := by
  refine { h with d1 := fun x t e => ?_ }
  have e : upF s.due n v x = some t := e
  unfold upF at e
  split at e
  · exact g t e
  · exact h.d1 x t e
theorem Bd.addC {s : PS} {N : Nat} (h : Bd s N) (n : Str) {k : Int} (k0 : -1 ≤ k) (k1 : k ≤ 1) : Bd (s.addC n k) (N + 1) := by
  have x := h.mono (Nat.le_succ N)
  refine { x with k0 := fun y => ?_, k1 := fun y => ?_ }
  · show _ ≤ upF s.cnt n (s.cnt n + k) y
    unfold upF
    split
    · have := h.k0 n; omega
    · exact x.k0 y
  · show upF s.cnt n (s.cnt n + k) y ≤ _
    unfold upF
    split
    · have := h.k1 n; omega
    · exact x.k1 y
theorem Bd.addG {s : PS} {N : Nat} (h : Bd s N) (n : Str) {k : Int} (k0 : -1 ≤ k) (k1 : k ≤ 1) : Bd (s.addG k n) (N + 1) := by
  have x := h.mono (Nat.le_succ N)
  refine { x with g0 := fun y => ?_, g1 := fun y => ?_ }
  · show _ ≤ upF s.grp n (s.grp n + k) y
    unfold upF
    split
    · have := h.g0 n; omega
    · exact x.g0 y
  · show upF s.grp n (s.grp n + k) y ≤ _
    unfold upF
    split
    · have := h.g1 n; omega
    · exact x.g1 y
theorem Bd.asked {s : PS} {N : Nat} (h : Bd s N) (n d : Str) : 0 ≤ s.asked n d ∧ s.asked n d ≤ N := by
  unfold PS.asked valD
  cases q : s.ask.find? fun kv => decide (kv.1 = kAsk n d) with
  | none => exact ⟨Int.le_refl _, Int.natCast_nonneg N⟩
  | some kv =>
    obtain ⟨i, a, b, c⟩ := h.ask kv (List.mem_of_find?_eq_some q)
    show 0 ≤ (match some kv.2 with | some (.int i) => i | _ => 0) ∧ (match some kv.2 with | some (.int i) => i | _ => 0) ≤ (N : Int)
    rw [a]
    exact ⟨b, c⟩
theorem Bd.tell {s : PS} {N : Nat} (h : Bd s N) (n d : Str) : Bd (s.tell n d) (N + 1) := by
  have x := h.mono (Nat.le_succ N)
  obtain ⟨a0, a1⟩ := h.asked n d
  refine { x with al := ?_, ask := fun kv hk => ?_ }
  · show (putT s.ask (kAsk n d) _).length ≤ N + 1
    unfold putT
    split
    · rw [List.length_map]; exact x.al
    · rw [List.length_append]; exact Nat.add_le_add_right h.al 1
  · have hk : kv ∈ putT s.ask (kAsk n d) (.int (s.asked n d + 1)) := hk
    unfold putT at hk
    split at hk
    · obtain ⟨u, hu, e⟩ := List.mem_map.mp hk
      split at e
      · rw [← e]; exact ⟨_, rfl, by omega, by omega⟩
      · rw [← e]; exact x.ask u hu
    · rcases List.mem_append.mp hk with z | z
      · exact x.ask kv z
      · rw [List.mem_singleton.mp z]; exact ⟨_, rfl, by omega, by omega⟩
end DL
set_option Elab.async false
set_option linter.all false
set_option maxRecDepth 100000
set_option maxHeartbeats 1000000
namespace DL
open PySem L2
theorem GoodM.nm {m : Mc} (g : GoodM m) {n : Str} (h : n ∈ m.names) : Nm n := by
  obtain ⟨r1, r2⟩ := Mc.row_in h
  rw [← r2]
  exact (g.row _ r1).1
section
variable {m : Mc} {s : PS} {N : Nat} {n o w : Str}
theorem Calm.note (c : Calm s) (ws : List D) : Calm (s.note ws) := c.same rfl rfl
theorem Calm.pass (c : Calm s) (m : Mc) (k : Int) (wk : Option Str) : Calm (m.pass s k wk) := c.same rfl rfl
theorem Calm.tell (c : Calm s) (n d : Str) : Calm (s.tell n d) := c.same rfl rfl
theorem Calm.setDue (c : Calm s) (n : Str) (v : Option Int) : Calm (s.setDue n v) := c.same rfl rfl
theorem Calm.addC (c : Calm s) (n : Str) (k : Int) : Calm (s.addC n k) := c.same rfl rfl
theorem Calm.addG (c : Calm s) (n : Str) (k : Int) : Calm (s.addG k n) := c.same rfl rfl
theorem Calm.fold {α : Type} {f : PS → α → PS} (hf : ∀ s x, Calm s → Calm (f s x)) : ∀ (l : List α) {s : PS}, Calm s → Calm (l.foldl f s)
  | [], _, c => c
  | x :: t, s, c => Calm.fold hf t (hf s x c)
theorem Calm.fall (c : Calm s) (m : Mc) (n : Str) : Calm (m.fall s n) := by
  have a : Calm (m.fallA s n) := ((c.setDue n none).note _).pass m _ _
  unfold Mc.fall Mc.fallB
  dsimp only
  rw [a.ans]
  rw [if_neg (by decide), if_pos rfl]
  exact ((a.tell n "doze").setSt (.inr rfl)).note _
theorem Calm.settle1 (c : Calm s) (m : Mc) (n : Str) : Calm (m.settle1 s n) := by
  unfold Mc.settle1
  split
  · exact c.setDue n none
  · split
    · exact c.setDue n _
    · split
      · exact c.fall m n
      · exact c
theorem Calm.settle (c : Calm s) (m : Mc) : Calm (m.settle s) := Calm.fold (fun s x c => c.settle1 m x) _ c
theorem Calm.grip (c : Calm s) (m : Mc) (n : Str) (k : Int) : Calm (m.gripAll s n k) := Calm.fold (fun s x c => c.addG x k) _ c
theorem Calm.over (c : Calm s) (m : Mc) (n w : Str) : Calm (m.over s n w) := Calm.settle (((c.grip m n _).addC n _).note _) m
theorem Calm.wake (c : Calm s) (m : Mc) (o : Str) : Calm (m.wakeD s o) := (((((c.note _).pass m _ _).tell o _).setSt (.inl rfl))).note _
theorem Calm.gain (m : Mc) (n : Str) : ∀ (k : Nat) {s : PS}, Calm s → Calm (m.gainN n k s)
  | 0, s, c => by unfold Mc.gainN; exact c.over m n _
  | k + 1, s, c => by
    unfold Mc.gainN
    split
    · exact c.over m n _
    · exact Calm.gain m n k (c.wake m _)
theorem Calm.release (c : Calm s) (m : Mc) (n : Str) (now : Bool) : Calm (m.release s n now) := by
  unfold Mc.release
  dsimp only
  refine Calm.settle (Calm.note ?_ _) m
  split
  · exact (((c.note _).addC n _)).setDue n _
  · exact (c.note _).addC n _
end
end DL
set_option Elab.async false
set_option linter.all false
set_option maxRecDepth 100000
set_option maxHeartbeats 1000000
namespace DL
open PySem L2
structure CA where
  p : Addr
  l : Addr
  d : Addr
  m : Addr
  v : Addr
def devR (c : CA) (r : Rw) : D := .ins c.v [("whole", r.d)]
def machD (c : CA) (m : Mc) (w : Addr) : D := .ins c.m [("in_order", .lst (m.order.map D.str)), ("parts", .lst (m.rows.map (devR c))), ("pairs", .lst (m.links.map prD)), ("wants", .ref w)]
def wantsF (m : Mc) (n : Str) : D := .lst ((m.needs n).map D.str)
inductive PI where | self | drv | log | kept | flt | tim | st | cnt | grp | due | w
  deriving DecidableEq
def powFs (c : CA) (m : Mc) (p : PI → Addr) (s : PS) (b : Bool) : List (Str × D) :=
  [("own_machine", machD c m (p .w)), ("own_drivers", .ref (p .drv)), ("own_log", .ref (p .log)), ("turns_gone", .int s.clk), ("turns_cost", .int s.en), ("state_words", .ref (p .st)), ("count_numbers", .ref (p .cnt)), ("grip_numbers", .ref (p .grp)), ("due_turns", .ref (p .due)), ("in_midst", .bl b)]
def pCell (c : CA) (m : Mc) (p : PI → Addr) (s : PS) (b : Bool) : PI → MO
  | .self => .ins c.p (powFs c m p s b)
  | .drv => .ins c.d [("fault_words", .ref (p .flt)), ("times", .ref (p .tim))]
  | .log => .ins c.l [("kept_rows", .ref (p .kept))]
  | .kept => .lst s.log
  | .flt => .dT s.flt
  | .tim => .dT s.ask
  | .st => .dct (tab m.names fun n => .str (s.st n))
  | .cnt => .dct (tab m.names fun n => .int (s.cnt n))
  | .grp => .dct (tab m.names fun n => .int (s.grp n))
  | .due => .dct (tab m.names fun n => oInt (s.due n))
  | .w => .dct (tab m.names (wantsF m))
structure PowM (c : CA) (m : Mc) (M : Mp) (p : PI → Addr) (s : PS) (b : Bool) : Prop where
  inj : ∀ i j, p i = p j → i = j
  at' : ∀ i, M (p i) = some (pCell c m p s b i)
def Off {ι : Type} (p : ι → Addr) (M M' : Mp) : Prop := ∀ a o, (∀ i, a ≠ p i) → M a = some o → M' a = some o
theorem Off.refl {ι : Type} (p : ι → Addr) (M : Mp) : Off p M M := fun _ _ _ e => e
theorem Off.trans {ι : Type} {p : ι → Addr} {M M1 M2 : Mp} (h : Off p M M1) (k : Off p M1 M2) : Off p M M2 := fun a o n e => k a o n (h a o n e)
theorem Off.put {ι : Type} {p : ι → Addr} {M M1 : Mp} (h : Off p M M1) (i : ι) (o : MO) : Off p M (updM M1 (p i) o) := fun a u n e => by rw [updM_ne (n i)]; exact h a u n e
theorem Off.new {ι : Type} {p : ι → Addr} {M M1 : Mp} (h : Off p M M1) {a : Addr} (z : M1 a = none) (o : MO) : Off p M (updM M1 a o) := fun b u n e => by
  have q := h b u n e
  have ne : b ≠ a := fun y => by rw [y, z] at q; cases q
  rw [updM_ne ne]; exact q
theorem Off.ext {ι : Type} {p : ι → Addr} {M M1 M2 : Mp} (h : Off p M M1) (x : Ext M1 M2) : Off p M M2 := fun a u n e => x a u (h a u n e)
theorem PowM.put {c : CA} {m : Mc} {M : Mp} {p : PI → Addr} {s s' : PS} {b b' : Bool} (h : PowM c m M p s b) (i : PI) (o : MO) (eo : pCell c m p s' b' i = o) (e : ∀ j, j ≠ i → pCell c m p s' b' j = pCell c m p s b j) : PowM c m (updM M (p i) o) p s' b' :=
  ⟨h.inj, fun j => by
    by_cases z : j = i
    · subst z; rw [updM_same, eo]
    · rw [updM_ne (fun y => z (h.inj _ _ y)), h.at' j, e j z]⟩
theorem PowM.ext {c : CA} {m : Mc} {M M' : Mp} {p : PI → Addr} {s : PS} {b : Bool} (h : PowM c m M p s b) (x : Ext M M') : PowM c m M' p s b := ⟨h.inj, fun i => x _ _ (h.at' i)⟩
theorem PowM.off {ι : Type} {q : ι → Addr} {c : CA} {m : Mc} {M M' : Mp} {p : PI → Addr} {s : PS} {b : Bool} (h : PowM c m M p s b) (x : Off q M M') (n : ∀ i j, p i ≠ q j) : PowM c m M' p s b := ⟨h.inj, fun i => x _ _ (n i) (h.at' i)⟩
theorem PowM.new {c : CA} {m : Mc} {M : Mp} {p : PI → Addr} {s : PS} {b : Bool} (h : PowM c m M p s b) {a : Addr} (z : M a = none) (o : MO) : PowM c m (updM M a o) p s b := h.ext fun b u e => by
  have ne : b ≠ a := fun y => by rw [y, z] at e; cases e
  rw [updM_ne ne]; exact e
inductive LI where | own | rows | needs | log | ask | flt | st | cnt | grp | due
  deriving DecidableEq
def ownKs (m : Mc) (q : LI → Addr) (s : PS) : List (Key × D) :=
  [(.inr "rows", .ref (q .rows)), (.inr "names", .lst (m.names.map D.str)), (.inr "needs", .ref (q .needs)), (.inr "clock", .int s.clk), (.inr "energy", .int s.en), (.inr "order", .lst (m.order.map D.str)), (.inr "log", .ref (q .log)), (.inr "asked", .ref (q .ask)), (.inr "faults", .ref (q .flt)), (.inr "states", .ref (q .st)), (.inr "counts", .ref (q .cnt)), (.inr "grips", .ref (q .grp)), (.inr "dues", .ref (q .due))]
def lCell (m : Mc) (q : LI → Addr) (s : PS) : LI → MO
  | .own => .dct (ownKs m q s)
  | .rows => .dct (tab m.names fun n => (m.row n).d)
  | .needs => .dct (tab m.names (wantsF m))
  | .log => .lst s.log
  | .ask => .dT s.ask
  | .flt => .dT s.flt
  | .st => .dct (tab m.names fun n => .str (s.st n))
  | .cnt => .dct (tab m.names fun n => .int (s.cnt n))
  | .grp => .dct (tab m.names fun n => .int (s.grp n))
  | .due => .dct (tab m.names fun n => oInt (s.due n))
structure OwnM (m : Mc) (M : Mp) (q : LI → Addr) (s : PS) : Prop where
  inj : ∀ i j, q i = q j → i = j
  at' : ∀ i, M (q i) = some (lCell m q s i)
theorem OwnM.put {m : Mc} {M : Mp} {q : LI → Addr} {s s' : PS} (h : OwnM m M q s) (i : LI) (o : MO) (eo : lCell m q s' i = o) (e : ∀ j, j ≠ i → lCell m q s' j = lCell m q s j) : OwnM m (updM M (q i) o) q s' :=
  ⟨h.inj, fun j => by
    by_cases z : j = i
    · subst z; rw [updM_same, eo]
    · rw [updM_ne (fun y => z (h.inj _ _ y)), h.at' j, e j z]⟩
theorem OwnM.ext {m : Mc} {M M' : Mp} {q : LI → Addr} {s : PS} (h : OwnM m M q s) (x : Ext M M') : OwnM m M' q s := ⟨h.inj, fun i => x _ _ (h.at' i)⟩
theorem OwnM.off {ι : Type} {p : ι → Addr} {m : Mc} {M M' : Mp} {q : LI → Addr} {s : PS} (h : OwnM m M q s) (x : Off p M M') (n : ∀ i j, q i ≠ p j) : OwnM m M' q s := ⟨h.inj, fun i => x _ _ (n i) (h.at' i)⟩
theorem Ext.fresh {M : Mp} {a : Addr} (z : M a = Option.none) (o : MO) : Ext M (updM M a o) := fun b u e => by
  have ne : b ≠ a := fun y => by rw [y, z] at e; cases e
  rw [updM_ne ne]; exact e
end DL
set_option Elab.async false
set_option linter.all false
set_option maxRecDepth 100000
set_option maxHeartbeats 2000000
namespace DL
open PySem PySem.Spec PyProof.Rows L2
section
variable {P : Program} {w : World} {H : Hp} {h : Heap} {a C t : Addr} {d : Option Addr}
theorem sx_ok (z : h.get? a = some (⟨.ref C, d, .fields #[.ref t, .none, .none, .none, .bool false, .none], #[]⟩ : Obj)) : ObjOk P w H h a (exoT a C d t) := ⟨z, ⟨_, z⟩, fun _ _ y k => k _ y⟩
theorem sx_at (hok : HOk P w H h) (e : H a = some (exoT a C d t)) : h.get? a = some (⟨.ref C, d, .fields #[.ref t, .none, .none, .none, .bool false, .none], #[]⟩ : Obj) :=
  (show ObjOk P w H h a (exoT a C d t) from hok a _ e).1
theorem sx_own {x : Addr} : exoT a C d t ≠ .own x := fun z => nomatch (show HO.ext _ = HO.own x from z)
theorem sx_tup {xs : List V} : exoT a C d t ≠ .tup xs := fun z => nomatch (show HO.ext _ = HO.tup xs from z)
theorem sx_frz {o : Obj} {u : HO} : exoT a C d t ≠ .frz o u := fun z => nomatch (show HO.ext _ = HO.frz o u from z)
theorem sx_tbl {ps : Array Value} : exoT a C d t ≠ .tbl ps := fun z => nomatch (show HO.ext _ = HO.tbl ps from z)
end
section
variable {X : Cx} {pins : List (Addr × Obj)} {σ : L2.St} {H : Hp} {s : Shared} {a C t : Addr} {f : Str} {y : V} {u : Value} {Q : Unit → Shared → Prop} {E : Value → Shared → Prop} {A : Around}
theorem sx_put (T : OexC X.K C) (J : L2.Inv X pins σ H s) (ea : H a = some (exoT a C none t)) (no : PySem.W.findIn X.K (.ref C) f = some none) (ru : RelV y u)
    (q : ∀ d s1, H d = none → d ≠ a → L2.Inv X pins σ (upd (upd H d (exd d [(f, y)])) a (exoT a C (some d) t)) s1 → Q () s1) : wpAny (model X.prog X.w) A (setAttr (.ref a) f u) Q E s := by
  obtain ⟨nm, qn, N, bs, bm, sn, sb, ab, cl, dd, k0, k1, k2, k3, k5, hC, hbm⟩ := T.cls
  have hcl : PySem.W.clsIn X.K C = some { name := nm, bases := bs, mro := .ref C :: bm, ns := N, qualname := qn, hasDict := true, slotNames := sn, subclasses := sb, abstract := ab, collection := cl, hasDel := false } := by
    unfold PySem.W.clsIn
    rw [hC] <;> rfl
  have oa := sx_at J.hok ea
  obtain ⟨hp, g, dw, tk, os⟩ := s
  have i : PySem.W.InstAt hp a (⟨.ref C, none, .fields #[.ref t, .none, .none, .none, .bool false, .none], #[]⟩ : Obj) C none := ⟨oa, rfl, rfl, trivial⟩
  refine PySem.W.set_plain J.kIn i T.sa ?_
  refine PySem.HandSPX.exc_osa J.kIn oa hcl (show PySem.HandSPX.refsVE (.ref C :: bm) = true from hbm) rfl no fun h1 t2 d keep lt nda gx n1 => ?_
  have fr : H d = none := J.hok.fresh lt
  have lo : ∀ {b : Addr} {o : Obj}, hp.get? b = some o → b ≠ d := fun z => Nat.ne_of_lt (Nat.lt_of_lt_of_le (Heap.lt_size z) lt)
  have nn : ∀ {b : Addr}, H b = none → b ≠ a := fun z e => by rw [e, ea] at z; cases z
  have U : Un X.fs [] H (upd (upd H d (exd d [(f, y)])) a (exoT a C (some d) t)) hp h1 :=
    { keep := fun b o z n _ _ => keep b o (nn n) z
      slot := fun b o z n _ _ => ⟨o.slots, keep b o (nn n) z⟩
      free := fun b o z n _ => (upd_ne (nn n)).trans ((upd_ne (lo z)).trans n)
      there := fun b o z _ => if e : b = a then ⟨_, e ▸ gx⟩ else ⟨o, keep b o e z⟩
      tups := fun b xs z => (upd_ne (at_ne ea z sx_tup)).trans ((upd_ne (ne_of_none z fr)).trans z)
      frzs := fun b o v z => (upd_ne (at_ne ea z sx_frz)).trans ((upd_ne (ne_of_none z fr)).trans z)
      tbls := fun b ps z => ⟨#[], by rw [upd_ne (at_ne ea z sx_tbl), upd_ne (ne_of_none z fr), z]; simp⟩ }
  refine q d _ fr nda (J.un (t' := t2) U fun b o z => ?_)
  by_cases e1 : b = a
  · subst e1; rw [upd_same] at z; cases z
    exact sx_ok gx
  rw [upd_ne e1] at z
  by_cases e2 : b = d
  · subst e2; rw [upd_same] at z; cases z
    exact exd_ok n1 (relO_put (fs := []) ru fun g => True.intro)
  rw [upd_ne e2] at z
  have ow : ∀ {c x : Addr}, H c = some (.own x) → c ≠ a ∧ c ≠ d := fun z => ⟨at_ne ea z sx_own, ne_of_none z fr⟩
  have tu : ∀ {c : Addr} {xs : List V}, H c = some (.tup xs) → c ≠ a ∧ c ≠ d := fun z => ⟨at_ne ea z sx_tup, ne_of_none z fr⟩
  refine (J.hok b o z).stay (fun c v hc k => keep c v ?_ k) (fun c hc => ?_) fun c xs hc => ?_
  · rcases hc with rfl | hc
    · exact e1
    · exact (ow hc).1
  · rw [upd_ne (ow hc).1, upd_ne (ow hc).2]; exact hc
  · rw [upd_ne (tu hc).1, upd_ne (tu hc).2]; exact hc
end
def tSx (K : PySem.W.Frag) (f : Str) (to te : TE) : TS := fun D σ H => te σ H fun y H1 => to σ H1 fun x H2 => ∃ a C t : Addr, x = .ref a ∧ OexC K C ∧ PySem.W.findIn K (.ref C) f = some none ∧
  H2 a = some (exoT a C none t) ∧ ∀ d, H2 d = none → d ≠ a → D.nx σ (upd (upd H2 d (exd d [(f, y)])) a (exoT a C (some d) t))
theorem ps_sx {X : Cx} {o e : Expr} {to te : TE} {f : Str} {p' : Pos} {pos : Pos} (ho : PE X o to) (he : PE X e te) (hs : swapsWith e (some (.Attribute o f p')) pos.line X.env = pure false := by rfl) : L2.PS X (.Assign [.Attribute o f p'] e pos) (tSx X.K f to te) := by
  refine ⟨fun pins s σ H D J h => plainObj_wpAny_Assign_Attribute (thn (he.run pins s σ H _ J h) ?_) hs⟩
  rintro v s1 ⟨y, H1, J1, r1, q1⟩
  refine thn (ho.run pins s1 σ H1 _ J1 q1) ?_
  rintro u s2 ⟨x, H2, J2, r2, a, C, t, rfl, T, no, ea, q⟩
  have eu : u = Value.ref a := r2
  subst eu
  exact sx_put T J2 ea no r1 fun d s3 n ne J3 => ⟨σ, _, J3, q d n ne⟩
def spIT (C : Addr) (f : Str) : Sp := fun vs H Q _ => ∃ (a t : Addr) (v : V), vs = [.ref a, v] ∧ H a = some (exoT a C none t) ∧ ∀ d, H d = none → d ≠ a → Q .non (upd (upd H d (exd d [(f, v)])) a (exoT a C (some d) t))
structure ExcTS (P : Program) (w : World) (K : PySem.W.Frag) (mg : Str → Option Value) (base : Heap) (k : Nat) (x f nm : Str) (C : Addr) : Prop where
  mgC : mg x = some (.ref C)
  oex : OexC K C
  cls : ExcCls K C
  sh : ExcSh K C nm
  ini : ∃ (fI : Addr) (fd : FuncData), PySem.W.findIn K (.ref C) "__init__" = some (some (.ref fI)) ∧ PySem.W.typeIn K (.ref fI) = some (.type "function") ∧ Binds K fd ["self", f] [] ∧ FnG P w K mg base (L2.CX P w) k fI fd ["self", f] (spIT C f)
section
variable {X : Cx} {W : WX} {e : Expr} {te : TE} {td : DTE} {p pos : Pos} {x f nm : Str} {C : Addr} {k : Nat}
theorem pe_excS (T : ExcTS X.prog X.w X.K X.mg X.base k x f nm C) (ng : NoGd X.A) (rm : Room (k + 1) X.A) (he : PE X e te) (hg : Gl X x := by rfl) (hdb : (x == ("__debug__" : Str)) = false := by decide) (hs : starEach [e] X.env = (false, eval e X.env) :: starEach [] X.env := by rfl)
    (hpl : (backTo pos (starEach [] X.env)).any (·.1) = false := by rfl) : PE X (.Call (.Name x p) [e] [] pos) (fun σ H Q => te σ H fun v H1 => ∀ a d t, H1 t = none → H1 d = none → H1 a = none → d ≠ t → a ≠ t → d ≠ a → Q (.ref a) (upd (upd (upd H1 t (.tup [v])) d (exd d [(f, v)])) a (exoT a C (some d) t))) := by
  obtain ⟨fI, fd, i1, i2, hb, F1⟩ := T.ini
  refine ⟨fun pins s σ H Q I h => ?_⟩
  obtain ⟨nm', q, N, bs, bm, sn, sub, ab, col, dd, k0, k1, k2, k3, k5, hC, hbm⟩ := T.oex.cls
  refine wpAny_Call_Name_kw (ld_glob I hg T.mgC ?_ hdb)
  refine PySem.W.callWith_K (h₀ := X.base) I.ok.mod.kin T.oex.kC (thn (PA.run (pa_cons he pa_nil hs) pos pins s σ H (fun vs H1 => ∃ v, vs = [v] ∧ ∀ a d t, H1 t = none → H1 d = none → H1 a = none → d ≠ t → a ≠ t → d ≠ a → Q (.ref a) (upd (upd (upd H1 t (.tup [v])) d (exd d [(f, v)])) a (exoT a C (some d) t))) I ?_) fun us s1 z => ?_) hs hpl
  · exact (show tCons te tNil σ H _ from by
      show te σ H _
      exact (by simpa [tCons, tNil] using h))
  obtain ⟨vs, H1, J, rv, v, ev, q1⟩ := z
  subst ev
  refine ⟨J.kIn, ?_⟩
  obtain ⟨u, rfl, ru⟩ := vals1 rv
  obtain ⟨hp, g, dr, tk, os⟩ := s1
  show wpAny _ _ (call (.ref C) [u]) _ _ _
  generalize ht : hp.objs.size = t
  have nt : H1 t = none := J.hok.fresh (by show hp.objs.size ≤ t; omega)
  have kt : ∀ b o, hp.get? b = some o → (hp.push (PySem.W.kdv_tup [u])).get? b = some o := fun b o z => Heap.get?_push_of_some _ z
  have gt : (hp.push (PySem.W.kdv_tup [u])).get? t = some (PySem.W.kdv_tup [u]) := by rw [← ht]; exact Heap.get?_push_size _ rfl
  have It : L2.Inv X pins σ (upd H1 t (.tup [v])) ⟨hp.push (PySem.W.kdv_tup [u]), g, dr, tk, os⟩ :=
    J.laid (t' := tk) (a := t) (o := .tup [v]) (h' := hp.push (PySem.W.kdv_tup [u])) kt (by show hp.objs.size ≤ t; omega) ⟨by show 1 ≤ sizeLine; decide, [u], .cons ru .nil, _, gt, rfl, _, rfl⟩
  generalize ha : hp.objs.size + 1 = a
  have nat : a ≠ t := by omega
  have na1 : H1 a = none := J.hok.fresh (by show hp.objs.size ≤ a; omega)
  have na : upd H1 t (.tup [v]) a = none := by rw [upd_ne nat]; exact na1
  have ka : ∀ b o, (hp.push (PySem.W.kdv_tup [u])).get? b = some o → ((hp.push (PySem.W.kdv_tup [u])).push (PySem.HandSPX.excO C t)).get? b = some o := fun b o z => Heap.get?_push_of_some _ z
  have ga : ((hp.push (PySem.W.kdv_tup [u])).push (PySem.HandSPX.excO C t)).get? a = some (PySem.HandSPX.excO C t) := by rw [← ha]; heap_get
  have I2 : L2.Inv X pins σ (upd (upd H1 t (.tup [v])) a (exoT a C none t)) ⟨(hp.push (PySem.W.kdv_tup [u])).push (PySem.HandSPX.excO C t), g, dr, tk, os⟩ :=
    It.laid (t' := tk) (a := a) (o := exoT a C none t) (h' := (hp.push (PySem.W.kdv_tup [u])).push (PySem.HandSPX.excO C t)) ka (by rw [← ha]; simp [Heap.push]) (sx_ok ga)
  have r2 : Vals [V.ref a, v] [Value.ref a, u] := .cons rfl (.cons ru .nil)
  have pr : spIT C f [.ref a, v] (upd (upd H1 t (.tup [v])) a (exoT a C none t)) (fun r H2 => r = .non ∧ Q (.ref a) H2) (fun _ _ _ => False) := by
    refine ⟨a, t, v, rfl, upd_same, fun d hd ne => ⟨rfl, ?_⟩⟩
    rw [upd_ne ne] at hd
    have ndt : d ≠ t := fun z => by rw [z, upd_same] at hd; cases hd
    have hd1 : H1 d = none := by rw [upd_ne ndt] at hd; exact hd
    have eH : upd (upd (upd (upd H1 t (.tup [v])) a (exoT a C none t)) d (exd d [(f, v)])) a (exoT a C (some d) t) = upd (upd (upd H1 t (.tup [v])) d (exd d [(f, v)])) a (exoT a C (some d) t) := by
      funext b
      by_cases e1 : b = a
      · subst e1; rw [upd_same, upd_same]
      · rw [upd_ne e1, upd_ne e1]
        by_cases e2 : b = d
        · subst e2; rw [upd_same, upd_same]
        · rw [upd_ne e2, upd_ne e2, upd_ne e1]
    rw [eH]
    exact q1 a d t nt hd1 na1 ndt nat ne
  have bt := hb ⟨(hp.push (PySem.W.kdv_tup [u])).push (PySem.HandSPX.excO C t), g, dr, tk, os⟩ [Value.ref a, u] I2.kIn rfl
  rw [List.append_nil] at bt
  subst ht
  refine wpAny_call (PySem.HandSPX.call_own F.excBase_ValueError (fun Y => PySem.HandSPX.refsVE_contains Y bm hbm) (J.kIn _ _ hC) (PySem.W.looks_findIn J.kIn i1) (fun self => PySem.W.bind_fn J.kIn self i2) (by show 1 ≤ sizeLine; decide)
    (codeAny_mono (F1.run _ X.stack _ _ ⟨[Value.ref _, u], []⟩ [Value.ref _, u] _ _ (fun _ _ _ => False) (nogd_make ng C [u] []) (rm.make C [u] []) (I2.env0.make C [u] []) (by first | exact bt | (rw [ha]; exact bt)) (by first | exact r2 | (rw [ha]; exact r2)) (by first | exact pr | (rw [ha]; exact pr))) fun r s' hq' => ?_))
  cases r with
  | error er => exact passL pins σ _ _ er s' I2 hq'
  | ok fl => cases fl with
    | ret u =>
      obtain ⟨v', H2, o1, o2, un, ok2, rr, e1, qq⟩ := hq'
      subst e1
      refine ⟨rr, ?_⟩
      exact ⟨.ref a, H2, I2.call' (ch := []) o1 un ok2 o2 (fun b z => absurd z (by simp)), by first | rfl | (rw [← ha]; rfl), qq⟩
    | next => cases hq'
    | brk => cases hq'
    | cont => cases hq'
def dExcT (C : Addr) (nm : Str) (td : DTE) : DTE := fun δ M Q E => td δ M (fun d M1 => ∃ m, d = .str m ∧ ∀ a, M1 a = none → Q (.ref a) (updM M1 a (.exc C [(("*" : Str), D.tup [D.str nm, D.str m])]))) E
theorem d_excT (T : ExcTS X.prog X.w X.K X.mg X.base k x f nm C) (g : Good X W) (rm : Room (k + 1) X.A) (he : DE X W e td) (hg : Gl X x := by rfl) (hdb : (x == ("__debug__" : Str)) = false := by decide) (hs : starEach [e] X.env = (false, eval e X.env) :: starEach [] X.env := by rfl)
    (hpl : (backTo pos (starEach [] X.env)).any (·.1) = false := by rfl) : DE X W (.Call (.Name x p) [e] [] pos) (dExcT C nm td) := pe_imp (pe_excS T g.ng rm he hg hdb hs hpl) fun σ H Q h => by
  obtain ⟨I, M, F, δ, Qd, Ed, hr, rs, q, fq, fx⟩ := h
  refine ⟨I, M, F, δ, _, Ed, hr, rs, q, fun d M1 I1 H1 v q1 s1 hr1 r1 a dd t ht hd ha n1 n2 n3 => ?_, fx⟩
  obtain ⟨m, rfl, q1⟩ := q1
  cases r1
  have h1 := hr1.newI ht (.tup [.str m])
  have hd2 : upd H1 t (.tup [.str m]) dd = none := by rw [upd_ne n1]; exact hd
  have h2 := h1.bump hd2 (exd dd [(f, .str m)])
  have ha2 : upd (upd H1 t (.tup [.str m])) dd (exd dd [(f, .str m)]) a = none := by rw [upd_ne (Ne.symm n3), upd_ne n2]; exact ha
  have sm : Same I1 (upd I1 t (.tup [.str m])) := same_new (hr1.fresh ht).1
  exact fq _ _ _ _ _ (q1 a (hr1.fresh ha).2.1) (s1.trans sm) (h2.newM ha2 (o := exoT a C (some dd) t) (m := .exc C [(("*" : Str), D.tup [D.str nm, D.str m])]) ⟨T.cls, dd, _, upd_same, .inr ⟨t, nm, m, rfl, upd_same, rfl, T.sh⟩⟩) (.ref a)
end
theorem cls_nm {K : PySem.W.Frag} {C : Addr} {o : Obj} {x : Str} (h : K.lookup C = some o) (hd : ∃ cd, o = ⟨o.cls, o.dict, .cls cd, o.slots⟩ ∧ cd.name = x) : ∃ cd, PySem.W.clsIn K C = some cd ∧ cd.name = x := by
  obtain ⟨cd, e, n⟩ := hd
  refine ⟨cd, ?_, n⟩
  unfold PySem.W.clsIn
  rw [h, e]
theorem call_isiTE {X : Cx} : CallR X (.builtin "isinstance") (fun xs H Q => ∃ (a C d tp : Addr) (vs : List (Str × V)) (cs : List V) (ws : List Value) (o : HO), xs = [.ref a, .ref tp] ∧ ExcCls X.K C ∧ H a = some o ∧ IsExo a C d o ∧ H d = some (exd d vs) ∧ H tp = some (.tup cs) ∧ Paired ClsV cs ws ∧ PySem.W.kitAny X.K (.ref C) ws = some false ∧ Q (.bl false) H) := by
  intro pins s σ H xs us Q I r h
  obtain ⟨a, C, d, tp, vs, cs, ws, o, rfl, c, ha, hx, hd, hT, k, e, q⟩ := h
  obtain ⟨u1, u2, rfl, r1, r2⟩ := vals2 r
  cases (show u1 = Value.ref a from r1)
  cases (show u2 = Value.ref tp from r2)
  obtain ⟨t1, g1⟩ := isExo_at I.hok ha hx
  obtain ⟨mA, ⟨od, es, ep, g2, _⟩, _⟩ := exd_at I.hok hd
  obtain ⟨_, its, rv, ⟨_, od2, _, sl⟩, h1, h2, n, h3⟩ := (show ObjOk X.prog X.w H s.heap tp (.tup cs) from I.hok tp _ hT)
  have e3 := ClsV.all k rv
  subst e3
  simp only at h2 h3
  subst h2 h3
  refine PySem.W.kia_tup (PySem.W.kitx_exc (od := some od) c.cl c.ga c.gt c.sub c.ca c.sp c.tk c.mr) I.kIn ⟨g1, rfl, rfl, ?_⟩ h1 e (fun z => nomatch z) fun tk => ⟨.bl false, H, I.tok tk, rfl, q⟩
  exact g2
def dIsi2E (u v : Ty) (te : DTE) : DTE := fun δ M Q E => te δ M (fun d M1 => tyD d M1 fun t => Q (.bl (isT t u || isT t v)) M1) E
theorem kit_twoE {K : PySem.W.Frag} {C : Addr} (c : ExcCls K C) (u v : Ty) (hu : u ≠ .non) (hu2 : u ≠ .own) (hv : v ≠ .non) (hv2 : v ≠ .own) : PySem.W.kitAny K (.ref C) [.type u.nm, .type v.nm] = some false := by
  have one : ∀ u : Ty, u ≠ .non → u ≠ .own → PySem.W.kitOne K (.ref C) (.type u.nm) = some false := fun u h h2 => c.kit u.nm (by cases u <;> first | exact absurd rfl h | exact absurd rfl h2 | exact (by decide))
  exact kitAny_cons (one u hu hu2) (fun _ => kitAny_cons (one v hv hv2) (fun _ => kitAny_nil) (fun z => nomatch z)) (fun z => nomatch z)
section
variable {X : Cx} {W : WX} {e : Expr} {te : DTE} {p pos : Pos}
theorem d_isi2E (u v : Ty) {y z : Str} {p1 p2 p3 : Pos} {x1 : Nat} (hu : u ≠ .non) (hu2 : u ≠ .own) (hv : v ≠ .non) (hv2 : v ≠ .own) (hm : X.mg "isinstance" = none) (hmy : X.mg y = none) (hmz : X.mg z = none) (hy : bootBuiltins y = some (.type u.nm)) (hz : bootBuiltins z = some (.type v.nm)) (he : DE X W e te)
    (hs : starEach [e, .Tuple [.Name y p1, .Name z p2] x1 p3] X.env = (false, eval e X.env) :: starEach [.Tuple [.Name y p1, .Name z p2] x1 p3] X.env := by rfl) (hgy : Gl X y := by rfl) (hny : y ≠ "__name__" := by decide) (hdy : (y == ("__debug__" : Str)) = false := by decide) (hgz : Gl X z := by rfl) (hnz : z ≠ "__name__" := by decide) (hdz : (z == ("__debug__" : Str)) = false := by decide)
    (hs2 : starEach [.Tuple [.Name y p1, .Name z p2] x1 p3] X.env = (false, eval (.Tuple [.Name y p1, .Name z p2] x1 p3) X.env) :: starEach [] X.env := by rfl) (hs3 : starEach [.Name y p1, .Name z p2] X.env = (false, eval (.Name y p1) X.env) :: starEach [.Name z p2] X.env := by rfl) (hs4 : starEach [.Name z p2] X.env = (false, eval (.Name z p2) X.env) :: starEach [] X.env := by rfl)
    (hpl : (backTo pos (starEach [.Tuple [.Name y p1, .Name z p2] x1 p3] X.env)).any (·.1) = false := by rfl) (hg : Gl X "isinstance" := by rfl) : DE X W (.Call (.Name "isinstance" p) [e, .Tuple [.Name y p1, .Name z p2] x1 p3] [] pos) (dIsi2E u v te) := by
  refine pe_imp (pe_callB (CallR.or call_isiT call_isiTE) hg hm (by decide +kernel) (pa_cons he (pa_cons (pe_tup (pa_cons (pe_bltn hgy hmy hy (v := .ty u.nm) rfl hny hdy) (pa_cons (pe_bltn hgz hmz hz (v := .ty v.nm) rfl hnz hdz) pa_nil hs4) hs3)) pa_nil hs2) hs) (by decide) (by decide) hs hpl) fun σ H Q h => ?_
  obtain ⟨I, M, F, δ, Qd, Ed, hr, rs, q, fq, fx⟩ := h
  refine ⟨I, M, F, δ, _, Ed, hr, rs, q, fun d M1 I1 H1 x q1 s1 hr1 r1 => ?_, fx⟩
  refine ⟨by show 2 ≤ sizeLine; decide, fun tp htp => ?_⟩
  have hr2 := hr1.bump htp (.tup [.ty u.nm, .ty v.nm])
  rcases tyD_out hr2 r1 q1 with ⟨t, ht, ty, q⟩ | ⟨a, C, o, dd, vs, rfl, ro, ⟨e1, ex⟩, e2, q⟩
  · exact .inl ⟨x, tp, _, _, _, _, rfl, upd_same, .cons (.ty _) (.cons (.ty _) .nil), ty, kit_two X.K t u v ht hu hu2 hv hv2, fq _ M1 I1 _ _ q s1 hr2 (.bl _)⟩
  · refine .inr ⟨a, C, dd, tp, vs, _, _, o, rfl, ro, e1, ex, e2, upd_same, .cons (.ty _) (.cons (.ty _) .nil), kit_twoE ro u v hu hu2 hv hv2, ?_⟩
    have e0 : (isT .own u || isT .own v) = false := by cases u <;> cases v <;> rfl
    rw [e0] at q
    exact fq _ M1 I1 _ _ q s1 hr2 (.bl _)
end
end DL
set_option Elab.async false
set_option linter.all false
set_option maxRecDepth 100000
set_option maxHeartbeats 2000000
namespace DL
open PySem PySem.Spec PyProof.Rows L2
theorem note_eq {env env' : Env} (x : Value) (h : env.frame = env'.frame) : noteFrame x env = noteFrame x env' := by
  unfold noteFrame PySem.frameOf
  rw [h]
theorem funFrames_but {C : Addr} {h h' B : Heap} (sb : Heap.SameBut C h h') : ∀ {l : List Env}, h.FunFrames B l → C ∉ frs l → h'.FunFrames B l
  | [], _, _ => trivial
  | env :: l, hh, hn => by
    obtain ⟨k, ⟨L, o, hf, hb, ho, hd⟩, hr⟩ := hh
    have nL : L ≠ C := fun z => hn (List.mem_filterMap.mpr ⟨env, List.mem_cons_self, by rw [hf, z]⟩)
    exact ⟨k, ⟨L, o, hf, hb, (sb.2 L nL).trans ho, hd⟩, funFrames_but sb hr fun z => hn (by
      obtain ⟨e, he, q⟩ := List.mem_filterMap.mp z
      exact List.mem_filterMap.mpr ⟨e, List.mem_cons_of_mem _ he, q⟩)⟩
section
variable {X : Cx} {pins : List (Addr × Obj)} {σ : L2.St} {H : Hp} {s s' : Shared} {C : Addr} {ce : Env} {W : WX} {E : XK} {u : Value} {m : Str → Option Value}
theorem raise_out (hs : X.stack = X.env :: X.outer) (hfX : X.env.frame = some X.env.locals) (I : Inv X pins σ H s) (hf : ce.frame = X.env.frame) (cL : ce.locals = C) (fC : FpOk X pins H C) (hn : s.heap.Ns C m) (tk : Takes X W) (hW : ∀ cls d H', E cls d H' → W cls d σ H')
    (c : L2.CX X.prog X.w X.stack H s E u s') : notedBy (model X.prog X.w) X.A ce (CompFails (model X.prog X.w) X.A X.xe ce) u s' := by
  obtain ⟨a, B, H', cls, d, rfl, fl, hok, ub, na, os, ag, hE⟩ := c
  obtain ⟨oC, es, ep, hoC, dC, rC⟩ := hn
  have nst : C ∉ frs X.stack := fun z => (List.mem_cons.mp (I.stkSub C z)).elim fC.2.1 fC.2.2.1
  have hBC : B.get? C = some oC := ub.keep C oC hoC fC.1 nst
  obtain ⟨B2, b1, b2⟩ := restrict B fun b => decide (b ≠ C)
  have BB : ∀ b o, B2.get? b = some o → B.get? b = some o ∧ b ≠ C := fun b o e => by
    by_cases z : b = C
    · rw [b2 b (decide_eq_false (fun y => y z))] at e; cases e
    · rw [b1 b (decide_eq_true z)] at e; exact ⟨e, z⟩
  have BN : ∀ b, B.get? b = none → B2.get? b = none := fun b e => by
    cases q : B2.get? b with
    | none => rfl
    | some o => rw [(BB b o q).1] at e; cases e
  obtain ⟨flst, fln, flf, oe0, vs0, T0, oT0, ts0, g1, g2, g3, g4, g5, g6, g7, g8, g9⟩ := fl
  have fl2 : HandSPX.FlyingZ B2 X.stack a (Zc cls d) s'.heap := ⟨fun b o e => flst b o (BB b o e).1, BN a fln, funFrames_none flf fun L hL => BN L (flf.mem hL).1, oe0, vs0, T0, oT0, ts0, g1, g2, g3, g4, BN T0 g5, g6, g7, g8, g9⟩
  have hfr : X.A.frames = some (X.env :: X.outer) := by rw [I.ok.frames, hs]
  have hH'C : H' C = none := ub.free C oC hoC fC.1
  unfold notedBy
  rw [note_eq _ hf]
  have fl3 := fl2
  rw [hs] at fl3
  refine HandSPX.looks_onZ Zc.steady hfr hfX fl3 fun h1 hh up1 => ?_
  have hC' : s'.heap.get? C = some oC := flst C oC hBC
  obtain ⟨sl, hC1⟩ := up1 C oC hC' fun vs z => by rw [dC] at z; cases z
  refine ⟨m, by rw [cL]; exact ⟨_, es, ep, hC1, dC, rC⟩, fun h2 m2 hn2 sb => ?_⟩
  rw [cL] at sb hn2
  have hh2 : HandSPX.HeldZ B2 (X.env :: X.outer) a (Zc cls d) X.env.locals h2 := by
    obtain ⟨k1, k2, k3, oe, vs, T, oT, ts, e1, e2, e3, e4, e5, e6, e7, e8, e9⟩ := hh
    have nf : ∀ {b : Addr} {o : Obj} {ws : Array Value}, h1.get? b = some o → o.data = .fields ws → b ≠ C := fun x y z => by
      rw [z, hC1] at x; cases x
      have y : oC.data = _ := y
      rw [dC] at y; cases y
    exact ⟨fun b o e => (sb.2 b (BB b o e).2).trans (k1 b o e), k2, funFrames_but sb k3 (by rw [← hs]; exact nst), oe, vs, T, oT, ts, (sb.2 a (nf e1 e3)).trans e1, e2, e3, e4, e5, e6, (sb.2 T (nf e7 e8)).trans e7, e8, e9⟩
  obtain ⟨k1, k2, k3, oe, vs, T, oT, ts, e1, e2, e3, e4, e5⟩ := id hh2
  obtain ⟨G, g1, g2⟩ := restrict s'.heap fun b => (B2.get? b).isSome || decide (b ∈ frs X.stack)
  have gB : ∀ b o, B2.get? b = some o → G.get? b = some o := fun b o e => by
    rw [g1 b (by simp [e])]
    exact flst b o (BB b o e).1
  have gF : ∀ b, b ∈ frs X.stack → G.get? b = s'.heap.get? b := fun b hb => g1 b (by simp [hb])
  have og : ∀ b o, G.get? b = some o → s'.heap.get? b = some o ∧ ((B2.get? b).isSome = true ∨ b ∈ frs X.stack) := fun b o e => by
    cases q : ((B2.get? b).isSome || decide (b ∈ frs X.stack)) with
    | false => rw [g2 b q] at e; cases e
    | true => rw [g1 b q] at e; exact ⟨e, by simpa [Bool.or_eq_true] using q⟩
  have in2 : ∀ b o, B.get? b = some o → b ≠ C → B2.get? b = some o := fun b o e z => by rw [b1 b (decide_eq_true z)]; exact e
  have ok2 : HOk X.prog X.w H' B2 := fun b o e => by
    refine (hok b o e).stay (fun c v hc q => in2 c v q fun z => ?_) (fun _ q => q) fun _ _ q => q
    rcases hc with rfl | hc
    · rw [z, hH'C] at e; cases e
    · rw [z, hH'C] at hc; cases hc
  have J : Inv X pins σ H' { s with heap := G, gens := s'.gens, drawn := s'.drawn, toks := s'.toks } := by
    refine I.call (ch := [C]) ⟨fun b o e n hb hx => gB b o (in2 b o (ub.keep b o e n hb) fun z => hx (by simp [z])), fun b o e n hb _ => ?_, fun b o e n _ => ub.free b o e n, fun b o e hx => ?_, ub.tups, ub.frzs, ub.tbls⟩ (ok2.kept gB) ag fun b hb => ?_
    · obtain ⟨sl, q⟩ := ub.slot b o e hb
      exact ⟨sl, by rw [gF b hb]; exact q⟩
    · by_cases hb : b ∈ frs X.stack
      · obtain ⟨sl, q⟩ := ub.slot b o e hb
        exact ⟨_, by rw [gF b hb]; exact q⟩
      · obtain ⟨o', q⟩ := ub.there b o e hb
        exact ⟨o', gB b o' (in2 b o' q fun z => hx (by simp [z]))⟩
    · have hb : b = C := by simpa using hb
      subst hb
      exact ⟨fC.2.2.2.1, fC.2.1, fC.2.2.2.2.1, fC.2.2.2.2.2⟩
  unfold PySem.passOn
  refine wpAny_bind (wpAny_field e1 e3 e4 ?_)
  rw [if_neg (show ¬ ((Value.ref T == Value.none) = true) from by simp)]
  have fin : wpAny (model X.prog X.w) X.A (setFlight (.ref a) ce.frame) (fun _ s4 => wpAny (model X.prog X.w) X.A (throw (.ref a) : Sem Value) (fun _ _ => False) X.xe s4) X.xe { s' with heap := h2 } := by
    rw [hf, hfX]
    refine HandSPX.setFlight_anyZ k1 k3 hh2.2.2.2 fun h3 q1 q2 q3 up3 => wpAny_throw (tk _ _ ?_)
    refine ⟨a, B2, _, pins, σ, H', cls, d, rfl, J, fun b o e hb => ?_, fun b o e hd => ?_, .inr (.inr ?_), na, os, ag, hW _ _ _ hE⟩
    · obtain ⟨e', h⟩ := og b o e
      rcases h with h | h
      · obtain ⟨o', q⟩ := Option.isSome_iff_exists.mp h
        have z := flst b o' (BB b o' q).1
        rw [e'] at z; cases z
        exact q
      · exact absurd h hb
    · obtain ⟨e', h⟩ := og b o e
      have nb : b ≠ C := fun z => by
        subst z
        rcases h with h | h
        · obtain ⟨o', q⟩ := Option.isSome_iff_exists.mp h
          exact (BB _ o' q).2 rfl
        · exact nst h
      obtain ⟨sl1, x1⟩ := up1 b o e' hd
      obtain ⟨sl2, x2⟩ := up3 b _ ((sb.2 b nb).trans x1) hd
      exact ⟨sl2, x2⟩
    · rw [hs]
      exact ⟨q1, k2, q2, q3⟩
  first
    | exact wpAny_bind (wpAny_pure (wpAny_bind fin))
    | exact wpAny_bind fin
end
section
variable {X : Cx}
def tLcX (W : WX) (wi : TI) (g : TG) (te : XK → TE) (vs : List Nat) : TE := fun σ H Q => tLc wi g tYes (te (WE W σ)) vs σ H Q
theorem pe_lcX {W : WX} {elt tg iter : Expr} {scope : Scope} {own : List (Str × Nat)} {pos : Pos} {wi : TI} {g : TG} {te : XK → TE} (tk : Takes X W) (hst : X.stack = X.env :: X.outer) (hfX : X.env.frame = some X.env.locals) (hc : X.calm = true) (hN : X.N.Nodup) (hi : L2.PI X tg iter wi) (ok : BlkOk X.N X.env.scope scope own)
    (hg : ∀ (s : Shared) (H : Hp) (C : Addr) (cl : List (Str × Addr)) (fp : List Addr), PG (X.blk s H scope (compEnvC scope cl C X.env) fp) tg g)
    (he : ∀ (s : Shared) (H : Hp) (C : Addr) (cl : List (Str × Addr)) (fp : List Addr) (xe : Value → Shared → Prop) (Ev : XK), Passes (L2.CX X.prog X.w) ((X.blk s H scope (compEnvC scope cl C X.env) fp).wish xe) Ev → PE ((X.blk s H scope (compEnvC scope cl C X.env) fp).wish xe) elt (te Ev)) (hs : ∀ x, foldedSetIterable iter X.env x = pure x := by intro _; rfl) :
    PE X (.ListComp elt [⟨tg, iter, [], 0⟩] scope pos) (tLcX W wi g te (own.map (·.2))) := by
  refine ⟨fun pins s σ H Q I h => ?_⟩
  rw [eval_ListComp]
  have hfree : ∀ y ∈ scope.names, y.2 = .free → ∃ c, X.env.cells.lookup y.1 = some c := fun y hy e => by
    rcases ok.free y hy e with k | k
    · exact I.ok.has _ (.inl k)
    · exact I.ok.has _ (.inr k)
  refine comprehension_at (g := ⟨tg, iter, [], 0⟩) (gs := []) rfl hs (closure_ok hfree) ok.kind (fun y hy e => by rw [ok.uniq y hy, e])
    (thn (hi.run pins s σ H _ I h) fun xv s1 hx => thn hx fun itv s2 h2 => ?_)
  obtain ⟨it, fp, tn, J, H2, e, I2, T, st2, f2, q⟩ := h2
  subst e
  refine wpAny_newObj_type (newEnv_comp ?_) (by show 0 ≤ sizeLine; decide)
  generalize hD : s2.heap.objs.size = D
  have hDn : H2 D = none := I2.hok.fresh (Nat.le_of_eq hD)
  obtain ⟨Wv, ⟨m0, w0⟩, turn⟩ := q D hDn
  generalize hs3 : ({ s2 with heap := s2.heap.push { cls := .type "list", data := .seq ([] : List Value).toArray } } : Shared) = s3
  have I3 : Inv X pins σ (upd H2 D (.lst [])) s3 := by
    rw [← hs3]
    refine I2.laid (t' := s2.toks) (fun b o e => Heap.get?_push_of_some _ e) (Nat.le_of_eq hD) ⟨Nat.zero_le _, [], 0, .nil, ?_⟩
    rw [← hD]
    exact Heap.get?_push_size _ rfl
  have h3 : s3.heap = s2.heap.push { cls := .type "list", data := .seq ([] : List Value).toArray } := by rw [← hs3]
  have sz : ∀ b ∈ fp, b < s2.heap.objs.size := fun b hb => by
    obtain ⟨o, e, _⟩ := T.obj _ _ st2 b hb
    exact Heap.lt_size e
  have f3 : ∀ b ∈ fp, FpOk X pins (upd H2 D (.lst [])) b ∧ b < s3.heap.objs.size := fun b hb => by
    have hlt := sz b hb
    refine ⟨⟨?_, (f2 b hb).2⟩, by rw [h3, Heap.size_push]; exact Nat.lt_succ_of_lt hlt⟩
    rw [upd_ne (by rw [← hD]; exact Nat.ne_of_lt hlt)]
    exact (f2 b hb).1
  have st3 : tn 0 s3.heap := T.keep _ _ _ st2 fun b _ o e => by rw [h3]; exact Heap.get?_push_of_some _ e
  have I4 := block_start I3 ok hN f3
  have pg := hg s3 (upd H2 D (.lst [])) s3.heap.objs.size (cellsFrom (s3.heap.objs.size + 1) scope.names (cloFrom X.env.cells scope.names [])) fp
  have pe := he s3 (upd H2 D (.lst [])) s3.heap.objs.size (cellsFrom (s3.heap.objs.size + 1) scope.names (cloFrom X.env.cells scope.names [])) fp
  show codeAny _ _ (.compStart (.ListComp elt [⟨tg, iter, [], 0⟩] scope pos) 0 (.ref it) (.ref D) (compEnvC scope (cellsFrom (s3.heap.objs.size + 1) scope.names (cloFrom X.env.cells scope.names [])) s3.heap.objs.size X.env)) (compEnds (model X.prog X.w) X.A X.xe none (EP X pins σ Q) (.ref D) (compEnvC scope (cellsFrom (s3.heap.objs.size + 1) scope.names (cloFrom X.env.cells scope.names [])) s3.heap.objs.size X.env)) { s3 with heap := pushCells (s3.heap.push { cls := .type "dict", data := .dict #[] }) scope.names }
  have nfp : ∀ b ∈ fp, (upd H2 D (.lst [])) b = none := fun b hb => (f3 b hb).1.1
  generalize hce : compEnvC scope (cellsFrom (s3.heap.objs.size + 1) scope.names (cloFrom X.env.cells scope.names [])) s3.heap.objs.size X.env = ce at I4 pg pe ⊢
  have cL : ce.locals = s3.heap.objs.size := by subst hce; rfl
  have cF : ce.frame = X.env.frame := by subst hce; rfl
  generalize hH3 : upd H2 D (.lst []) = H3 at I3 I4 pg pe w0 nfp f3
  generalize hs4 : ({ s3 with heap := pushCells (s3.heap.push { cls := .type "dict", data := .dict #[] }) scope.names } : Shared) = s4 at I4 ⊢
  have st4 : tn 0 s4.heap := T.keep _ _ _ st3 fun b _ o e => by rw [← hs4]; exact pushCells_keeps _ _ _ _ (Heap.get?_push_of_some _ e)
  have stat : ∀ {σ' : L2.St} {H' : Hp} {s' : Shared}, Inv (X.blk s3 H3 scope ce fp) [] σ' H' s' → (∀ b ∈ fp, H' b = none) → ∀ b ∈ fp, FpOk (X.blk s3 H3 scope ce fp) [] H' b := fun {σ' H' s'} I' hn b hb =>
    ⟨hn b hb, (I'.ok.exf b hb).1, I'.ok.exfs b hb, .inl hb, fun x c e => (I'.ok.exf b hb).2 x c e, fun p hp => absurd (show p ∈ ([] : List (Addr × Obj)) ++ [] from hp) (by simp)⟩
  have pass : Passes (L2.CX X.prog X.w) ((X.blk s3 H3 scope ce fp).wish fun e s' => notedBy (model X.prog X.w) X.A ce (CompFails (model X.prog X.w) X.A X.xe ce) e s') (WE W σ) := fun pins9 σ9 H9 s9 e s' I9 c => by
    have J9 : Inv X pins σ H9 s9 := I3.call' (ch := fp) I9.os I9.base I9.hok I9.bare fun b hb => ⟨(f3 b hb).1.2.2.2.1, (f3 b hb).1.2.1, (f3 b hb).1.2.2.2.2.1, (f3 b hb).1.2.2.2.2.2⟩
    have nC : H9 s3.heap.objs.size = none := by
      have z : H9 ce.locals = none := I9.free
      rw [cL] at z
      exact z
    obtain ⟨m, hn, _⟩ := I9.loc
    have hn : s9.heap.Ns ce.locals m := hn
    rw [cL] at hn
    exact raise_out hst hfX J9 cF cL (I3.fpOk (Nat.le_refl _) nC) hn tk (fun _ _ _ h => h) c
  have loop : codeAny (model X.prog X.w) X.A (.compLoop (.ListComp elt [⟨tg, iter, [], 0⟩] scope pos) 0 (.ref it) (.ref D) ce) (compEnds (model X.prog X.w) X.A X.xe none (EP X pins σ Q) (.ref D) ce) s4 := by
    refine compLoop_any (fun n s' => ∃ i H', Inv (X.blk s3 H3 scope ce fp) [] (wipe σ (own.map (·.2))) H' s' ∧ tn i s'.heap ∧ (∀ b ∈ fp, H' b = none) ∧ Wv i n H') ?_ m0 ⟨0, H3, I4, st4, nfp, w0⟩
    rintro n s5 ⟨i, H5, I5, st5, n5, w5⟩
    rcases turn i n H5 w5 with ⟨stop, qq⟩ | ⟨go, Nx, hNx, step⟩
    · have td := T.done (X.blk s3 H3 scope ce fp) rfl rfl rfl hc i [] s5 _ H5 (fun _ _ => False) I5 (stat I5 n5) st5 stop
      refine thnF td fun r s6 ⟨hr, I6⟩ => ?_
      subst hr
      have I7 : Inv X pins σ H5 s6 := I3.call' (ch := fp) I6.os I6.base I6.hok I6.bare fun b hb => ⟨(f3 b hb).1.2.2.2.1, (f3 b hb).1.2.1, (f3 b hb).1.2.2.2.2.1, (f3 b hb).1.2.2.2.2.2⟩
      have nC : H5 s3.heap.objs.size = none := by
        have z : H5 ce.locals = none := I6.free
        rw [cL] at z
        exact z
      obtain ⟨m, hn, _⟩ := I6.loc
      have hn : s6.heap.Ns ce.locals m := hn
      rw [cL] at hn
      obtain ⟨k0, k1, k2, k3, k4, k5⟩ := I3.fpOk (Nat.le_refl _) nC
      refine ⟨m, by rw [cL]; exact hn, fun h'' sb => ?_⟩
      rw [cL] at sb
      exact ⟨.ref D, H5, I7.turned (t' := s6.toks) (fun b o hb e => (sb.2 b hb).trans e) k0 k1 k3 k4 k5, rfl, qq⟩
    · have ti := T.item (X.blk s3 H3 scope ce fp) rfl rfl rfl hc i [] s5 _ H5 (fun _ _ => False) I5 (stat I5 n5) st5 go
      refine thnF ti fun r s6 ⟨u, hr, h6⟩ => ?_
      subst hr
      refine thnF h6 fun _ s7 ⟨x, H7, I7, r7, y7, st7, n7⟩ => ?_
      have I7' := I7.pinned (stat I7 n7) (T.obj _ _ st7)
      refine thnF (pg.run _ s7 _ H7 x u _ I7' r7 (step x H7 y7)) fun _ s8 ⟨σ8, H8, I8, hw8, q8⟩ => ?_
      refine thnF ((pts_nil (X := X.blk s3 H3 scope ce fp)).run _ s8 σ8 H8 _ I8 q8) fun b s9 ⟨H9, I9, q9⟩ => ?_
      have fin : ∀ {s' : Shared} {H' : Hp}, Inv (X.blk s3 H3 scope ce fp) ([] ++ pinsAt fp s7.heap) σ8 H' s' → Nx H' → ∃ m, m < n ∧ ∃ i H', Inv (X.blk s3 H3 scope ce fp) [] (wipe σ (own.map (·.2))) H' s' ∧ tn i s'.heap ∧ (∀ b ∈ fp, H' b = none) ∧ Wv i m H' := fun {s' H'} I' nx => by
        obtain ⟨m', hm, w'⟩ := hNx H' nx
        have pin' : ∀ b ∈ fp, ∀ o, s7.heap.get? b = some o → s'.heap.get? b = some o ∧ H' b = none := fun b hb o e =>
          let z := I'.pin (b, o) (List.mem_append_right _ (List.mem_append_right _ (mem_pinsAt hb e)))
          ⟨z.1, z.2.1⟩
        have hl : (wipe σ (own.map (·.2))).length = σ8.length := by rw [← hw8, wipe_length]
        refine ⟨m', hm, i + 1, H', (I'.unpinned (pins := [])).weak hl (fun j v e => ?_), T.keep _ _ _ st7 fun b hb o e => (pin' b hb o e).1, fun b hb => ?_, w'⟩
        · rw [← hw8] at e
          exact (wipe_some e).1
        · obtain ⟨o, e, _⟩ := T.obj _ _ st7 b hb
          exact (pin' b hb o e).2
      cases b with
      | false =>
        simp only [Bool.false_eq_true, if_false] at q9 ⊢
        exact fin I9 q9
      | true =>
        simp only [if_true] at q9 ⊢
        refine wpAny_mono ((pe _ _ pass).run _ s9 σ8 H9 _ (I9.wish _) q9) (fun z s10 h10 => ?_) fun _ _ z => z
        obtain ⟨yv, H10, I10, r10, acc, hD10, hz10, nx⟩ := h10
        exact app_ok (X := X.blk s3 H3 scope ce fp) I10.unwish hD10 hz10 r10 fun s11 I11 => fin I11 nx
  exact codeAny_compStart_list loop (T.self X.A 0 _ _ _ st4 loop)
end
def dCompX (t : TgI) (te : DTE) (src : Src) (vs : List Nat) (δ : DS) (k : List D → Mp → Prop) (E : DXK) : List D → List D → Mp → Prop
  | [], acc, M => src.ok M (acc.length ≤ sizeLine ∧ k acc M)
  | x :: r, acc, M => src.ok M (t.d x (dwipe δ vs) fun δ2 => te δ2 M (fun y M4 => dCompX t te src vs δ k E r (acc ++ [y]) M4) E)
def dLcXM (di : DTI) (t : TgI) (te : DTE) (vs : List Nat) : DTE := fun δ M Q E => di δ M (fun xs src M1 => xs.length < sizeLine ∧ dCompX t te src vs δ (fun acc M2 => ∀ p, M2 p = none → Q (.ref p) (updM M2 p (.lst acc))) E xs [] M1) E
theorem HR.lessF {K : PySem.W.Frag} {I : Hp} {M : Mp} {F H : Hp} {p : Addr} {o : HO} (h : HR K I M (upd F p o) H) (hF : F p = none) : HR K I M F H :=
  ⟨h.imm, h.mu, fun a u e => h.frm a u (by rw [upd_ne (fun z => by rw [z, hF] at e; cases e)]; exact e), ft_off h.ft hF⟩
theorem FinX.moreF {K : PySem.W.Frag} {I F : Hp} {Ed : DXK} {Ev : XK} {p : Addr} {o : HO} (f : FinX K I F Ed Ev) (hF : F p = none) : FinX K I (upd F p o) Ed Ev :=
  fun c fo M' I' H' dd q s hr x => f c fo M' I' H' dd q s (hr.lessF hF) (XD.offF x)
theorem yes_of {σ : L2.St} {H : Hp} {A : Hp → Prop} {B : Hp → Prop} (h : A H) : tYes σ H fun b H3 => if b = true then A H3 else B H3 := by
  show if true = true then A H else B H
  rw [if_pos rfl]
  exact h
abbrev CW (Ev : XK) : WX := fun c d _ H => Ev c d H
theorem lc_liftX {K : PySem.W.Frag} {t : TgI} {te : DTE} {src : Src} {vs : List Nat} {δ : DS} {k : List D → Mp → Prop} {Ed : DXK} {Ev : XK} {xs : List D} {J : It} {I1 F H1 : Hp} {M1 : Mp} {σ : L2.St} {Qd : Addr → Hp → Prop}
    (hin : t.in vs = true) (hl : xs.length < sizeLine) (hr1 : HR K I1 M1 F H1) (rs : RepS K I1 σ δ) (wk : DWalk K I1 J xs src) (q : dCompX t te src vs δ k Ed xs [] M1) (fx : FinX K I1 F Ed Ev)
    (fin : ∀ p I' M' H' accV acc, F p = none → Same I1 I' → HR K I' M' (upd F p (.lst accV)) H' → Reps K I' accV acc → k acc M' → Qd p H') (D : Addr) (hD : H1 D = none) :
    ∃ Wv : Nat → Nat → Hp → Prop, (∃ m, Wv 0 m (upd H1 D (.lst []))) ∧ ∀ i m H, Wv i m H →
      (J.stop i H ∧ Qd D H) ∨ (J.go i H ∧ ∃ Nx : Hp → Prop, (∀ H', Nx H' → ∃ m', m' < m ∧ Wv (i + 1) m' H') ∧ ∀ x H', J.yld i H x H' → t.v K x (wipe σ vs) H' fun σ2 H2 => wipe σ2 vs = wipe σ vs ∧ tYes σ2 H2 fun b H3 =>
        if b = true then lE K (CW Ev) te σ2 H3 fun y H4 => ∃ acc, H4 D = some (.lst acc) ∧ acc.length < sizeLine ∧ Nx (upd H4 D (.lst (acc ++ [y]))) else Nx H3) := by
  have hF := (hr1.fresh hD).2.2
  refine ⟨fun i m H => m = xs.length - i ∧ i ≤ xs.length ∧ ∃ I' M' accV acc, Same I1 I' ∧ HR K I' M' (upd F D (.lst accV)) H ∧ Reps K I' accV acc ∧ acc.length ≤ i ∧ dCompX t te src vs δ k Ed (xs.drop i) acc M',
    ⟨xs.length, by simp, Nat.zero_le _, I1, M1, [], [], Same.refl I1, hr1.newF hD _, .nil, Nat.le_refl _, q⟩, ?_⟩
  rintro i m H ⟨rfl, hi, I', M', accV, acc, s', hr', ra, la, q'⟩
  by_cases hlt : i < xs.length
  · right
    rw [List.drop_eq_getElem_cons hlt] at q'
    obtain ⟨ho, q'⟩ := Src.ok_iff q'
    refine ⟨wk.goes i I' M' _ H hlt s' hr' ho, fun H2 => ∃ I2 M2 aV a, Same I1 I2 ∧ HR K I2 M2 (upd F D (.lst aV)) H2 ∧ Reps K I2 aV a ∧ a.length ≤ i + 1 ∧ dCompX t te src vs δ k Ed (xs.drop (i + 1)) a M2, fun H2 z => ⟨xs.length - (i + 1), by omega, rfl, hlt, z⟩, fun x H2 y => ?_⟩
    obtain ⟨I2, d, s2, hr2, e, r⟩ := wk.yields i x I' M' _ H H2 hlt s' hr' ho y
    rw [List.getElem?_eq_getElem hlt] at e
    cases e
    have s12 := s'.trans s2
    refine TgI.run hin hr2 r (rs.mono s12) q' fun σ2 δ2 rs2 ew q2 => ⟨ew, ?_⟩
    refine yes_of ?_
    refine ⟨I2, M', upd F D (.lst accV), δ2, _, Ed, hr2, rs2, q2, fun y4 M4 I4 H4 v4 q4 s4 hr4 r4 => ?_, (fx.mono s12).moreF hF⟩
    have ra4 := (ra.mono s2).mono s4
    refine ⟨accV, hr4.atF.1, by rw [ra4.len]; omega, I4, M4, accV ++ [v4], acc ++ [y4], s12.trans s4, hr4.reF (fun _ z => nomatch z) _, ra4.snoc r4, by rw [List.length_append]; simpa using la, q4⟩
  · left
    have e : i = xs.length := by omega
    subst e
    rw [List.drop_length] at q'
    obtain ⟨ho, q'⟩ := Src.ok_iff q'
    exact ⟨wk.stops I' M' _ H s' hr' ho, fin D I' M' H accV acc hF s' hr' ra q'.2⟩
section
variable {X : Cx} {W : WX} {elt tg iter : Expr} {scope : Scope} {pos : Pos} {di : DTI} {t : TgI} {te : DTE}
theorem d_lcXM (N : List Str) (sc : Scope) (own : List (Str × Nat)) (g : Good X W) (hN : X.N.Nodup) (hi : DI X W tg iter di) (ok : blkC N sc scope own = true) (hin : t.in (own.map (·.2)) = true)
    (hg : ∀ (s : Shared) (H : Hp) (C : Addr) (cl : List (Str × Addr)) (fp : List Addr), Good (X.blk s H scope (compEnvC scope cl C X.env) fp) W0 → PG (X.blk s H scope (compEnvC scope cl C X.env) fp) tg (t.v X.K))
    (he : ∀ (s : Shared) (H : Hp) (C : Addr) (cl : List (Str × Addr)) (fp : List Addr) (xe : Value → Shared → Prop) (Ev : XK), Passes (L2.CX X.prog X.w) ((X.blk s H scope (compEnvC scope cl C X.env) fp).wish xe) Ev → DE ((X.blk s H scope (compEnvC scope cl C X.env) fp).wish xe) (CW Ev) elt te)
    (hst : X.stack = X.env :: X.outer := by rfl) (hfX : X.env.frame = some X.env.locals := by rfl) (hs : ∀ x, foldedSetIterable iter X.env x = pure x := by intro _; rfl) (eN : X.N = N := by rfl) (es : X.env.scope = sc := by rfl) :
    DE X W (.ListComp elt [⟨tg, iter, [], 0⟩] scope pos) (dLcXM di t te (own.map (·.2))) := by
  refine pe_imp (pe_lcX (own := own) (g := t.v X.K) (te := fun Ev => lE X.K (CW Ev) te) g.tk hst hfX g.calm hN hi (by rw [eN, es]; exact blkOk_by ok) (fun s H C cl fp => hg s H C cl fp (good_blk g ..)) he hs) fun σ H Q h => ?_
  obtain ⟨I, M, F, δ, Qd, Ed, hr, rs, q, fq, fx⟩ := h
  refine ⟨I, M, F, δ, _, Ed, hr, rs, q, fun xs src M1 I1 H1 J q1 ho s1 hr1 wk D hD => ?_, fx⟩
  refine lc_liftX hin q1.1 hr1 (rs.mono s1) wk q1.2 (fx.mono s1) (Qd := fun p H' => Q (.ref p) H') (fun p I' M' H' aV a hF s' hr' ra q' => ?_) D hD
  exact fq _ _ _ H' _ (q' p hr'.atF.2.2) (s1.trans s') (hr'.mutF hF (m := .lst a) ⟨aV, rfl, ra⟩) (.ref p)
end
theorem d_fnPX {X : Cx} {Ev : XK} {e : Expr} {es : List Expr} {ta : DTA} {pos p : Pos} {x : Str} {k : Nat} {ps : List Str} {sp : DSp} {pats : List Pat} (i : Nat) (Fx : FnN X.prog X.w X.K X.mg X.base k x ps sp pats) (ng : NoGd X.A) (hx : Passes (L2.CX X.prog X.w) X Ev) (rm : Room k X.A) (ha : DA X (CW Ev) (e :: es) ta) (hi : pats[i]? = some ⟨ps.length, [], plainG⟩ := by rfl) (hg : Gl X x := by rfl) (hdb : (x == ("__debug__" : Str)) = false := by decide)
    (he : starEach (e :: es) X.env = (false, eval e X.env) :: starEach es X.env := by rfl) (hpl : (backTo pos (starEach es X.env)).any (·.1) = false := by rfl) : DE X (CW Ev) (.Call (.Name x p) (e :: es) [] pos) (dCall sp ta) := by
  obtain ⟨f, hm, hk, Fa⟩ := Fx.ex
  refine ⟨fun pins s σ H Q J h => wpAny_Call_Name_kw (ld_glob J hg hm ?_ hdb)⟩
  obtain ⟨I, M, F, δ, Qd, Ed, hr, rs, q, fq, fx⟩ := h
  refine args_p ha he hpl pins s σ H _ [] _ (fun ds _ M2 => sp ds M2 Qd Ed) I M F δ Ed hk J hr rs q fx fun us ws vs zs ds es I2 M2 H2 s2 J2 rv rz e2 hr2 rd re q2 => ?_
  obtain ⟨fd, kb, G⟩ := Fa.ex
  have ln := G.len vs H2 Q Ev ⟨I2, M2, F, ds, Qd, Ed, hr2, rd, q2, fq.mono e2, fx.mono e2⟩
  obtain ⟨bs, xs, bt, rb, rr⟩ := kb i _ hi s2 I2 us [] vs [] ds [] J2.kIn (rv.length.symm.trans ln) rfl rv .nil rd .nil
  have pr : lSp X.K sp xs H2 Q Ev := ⟨I2, M2, F, _, Qd, Ed, hr2, rr, q2, fq.mono e2, fx.mono e2⟩
  refine wpAny_call (codeAny_mono (goG (E := fun _ => Ev) (σ := σ) G ng rm (fun pins H s e s' I c => hx pins σ H s e s' I c) J2 bt rb pr) fun r s3 y => ?_)
  cases r with
  | error e => exact y
  | ok fl => cases fl <;> exact y
end DL
set_option Elab.async false
set_option linter.all false
set_option maxRecDepth 100000
namespace K51
open PySem L2 DL
def md_DEEDS : List (Str × Str) := [("gain", "name"), ("release", "name"), ("use", "name"), ("bell", "name"), ("tick", "turns"), ("look", ""), ("sleep", ""), ("rise", "")]
structure Ad where
  xm : Value → List Value → Option Bool
  c_NoTask : Addr
  c_NoList : Addr
  c_WakeError : Addr
  c_StateError : Addr
  f_tasks_of : Addr
  f_deeds_of : Addr
structure AdOk (A : Ad) : Prop where
  tt : True
  xm_NoList_WakeError_StateError : A.xm (.ref A.c_NoList) [.ref A.c_WakeError, .ref A.c_StateError] = some true
  xm_NoList_NoTask : A.xm (.ref A.c_NoList) [.ref A.c_NoTask] = some false
  xm_NoList_NoList : A.xm (.ref A.c_NoList) [.ref A.c_NoList] = some true
  xm_NoTask_WakeError_StateError : A.xm (.ref A.c_NoTask) [.ref A.c_WakeError, .ref A.c_StateError] = some true
  xm_NoTask_NoTask : A.xm (.ref A.c_NoTask) [.ref A.c_NoTask] = some true
  xm_NoTask_NoList : A.xm (.ref A.c_NoTask) [.ref A.c_NoList] = some false
end K51
set_option Elab.async false
set_option linter.all false
set_option maxRecDepth 100000
namespace K51
open PySem L2 DL
inductive De where
  | nm (w n : Str) | one (w : Str) | tick (i : Int)
def De.d : De → D
  | .nm w n => .tup [.str w, .str n]
  | .one w => .tup [.str w]
  | .tick i => .tup [.str "tick", .int i]
def nameW : List Str := ["gain", "release", "use", "bell"]
def oneW : List Str := ["look", "sleep", "rise"]
def De.ok : De → Prop
  | .nm w n => w ∈ nameW ∧ Nm n
  | .one w => w ∈ oneW
  | .tick i => 1 ≤ i ∧ i ≤ 100
inductive Al (Z : Option Addr → Prop) (M : Mp) : D → Prop
  | non : Al Z M .non
  | bl (b : Bool) : Al Z M (.bl b)
  | int (i : Int) : Al Z M (.int i)
  | str {s : Str} : s.length ≤ 1000 → Ok s → Al Z M (.str s)
  | lst {xs : List D} : Z none → xs.length ≤ 16000 → (∀ x ∈ xs, Al Z M x) → Al Z M (.lst xs)
  | tup {xs : List D} : xs.length ≤ 16000 → (∀ x ∈ xs, Al Z M x) → Al Z M (.tup xs)
  | dct {kvs : List (Key × D)} : (∀ kv ∈ kvs, Al Z M kv.2) → Al Z M (.dct kvs)
  | ref {a : Addr} {xs : List D} : Z (some a) → M a = some (.lst xs) → xs.length ≤ 16000 → (∀ x ∈ xs, Al Z M x) → Al Z M (.ref a)
  | exs {a C : Addr} {fs : List (Str × D)} : Z (some a) → M a = some (.exc C fs) → Al Z M (.ref a)
def Fsh (M : Mp) : Option Addr → Prop
  | some a => M a = none
  | none => False
def Sam (M : Mp) (x d : D) : Prop := ∀ M' s, Ext M M' → ShOf M' d s → ShOf M' x s
def partsOk (k : Str) (ps : List D) : Bool := if k = "" then ps.isEmpty else match ps with
  | [x] => if k = "name" then nameD x else wholeD x 1 100
  | _ => false
def isDeed : D → Bool
  | .tup (.str w :: ps) => match getMd md_DEEDS w with
    | some k => partsOk k ps
    | none => false
  | _ => false
abbrev Bad := Str × D
def dueT (M : Mp) (t : D) : Bad ⊕ List D := match seqD M t with
  | none => .inl ("list", t)
  | some xs => if 8 < xs.length then .inl ("list", t) else match xs.find? (fun x => !isDeed x) with
    | some x => .inl ("task", x)
    | none => .inr xs
def dueL (M : Mp) : List D → Bad ⊕ List (List D)
  | [] => .inr []
  | t :: r => match dueT M t with
    | .inl e => .inl e
    | .inr xs => match dueL M r with
      | .inl e => .inl e
      | .inr ys => .inr (xs :: ys)
def dueS (M : Mp) (t : D) : Bad ⊕ List (List D) := match seqD M t with
  | none => .inl ("list", t)
  | some ts => if 1 ≤ ts.length ∧ ts.length ≤ 3 then dueL M ts else .inl ("list", t)
def outT (M : Mp) (t : D) : Bad ⊕ D := match dueT M t with
  | .inl e => .inl e
  | .inr xs => .inr (.lst xs)
def outS (M : Mp) (t : D) : Bad ⊕ D := match dueS M t with
  | .inl e => .inl e
  | .inr ys => .inr (.lst (ys.map D.lst))
def clsX (A : Ad) (k : Str) : Addr := if k = "list" then A.c_NoList else A.c_NoTask
def OutOf (A : Ad) (M : Mp) (f : Addr) (t : D) (o : Bad ⊕ D) : Prop := f = A.f_tasks_of ∧ o = outS M t ∨ f = A.f_deeds_of ∧ o = outT M t
def OtherK (M M' : Mp) (r : Addr) (xs : List D) (some' t : D) : Prop :=
  t ∈ [D.non, .int 7, .str "gain", .dct [], .bl true, .tup []] ∨ (∃ p, t = .ref p ∧ M p = none ∧ (M' p = some (.lst []) ∨ M' p = some (.lst (xs ++ xs ++ xs ++ xs)))) ∨ t = .tup xs ∨ t = some' ∨ t = .dct [(.inr "a", .ref r)]
def TaskA (t : D) : Prop := ∃ xs : List De, (t = .lst (xs.map De.d) ∨ t = .tup (xs.map De.d)) ∧ xs.length ≤ 8 ∧ ∀ d ∈ xs, d.ok
def sp__law_box (_ : Ad) : DSp := spBag
def sp__law_cell (_ : Ad) : DSp := spCell
def sp__law_take (_ : Ad) : DSp := spTake
def sp__law_names (_ : Ad) : DSp := spNames 12
def sp_is_name (_ : Ad) : DSp := spN
def sp_is_whole (_ : Ad) : DSp := spW
def sp__law_is_name (_ : Ad) : DSp := spN
def sp_are_parts (_ : Ad) : DSp := fun ds M Q _ => ∃ (k : Str) (ps : List D), ds = [.str k, .lst ps] ∧ ps.length ≤ 16384 ∧ (∀ p ∈ ps, Th M p) ∧ Q (.bl (partsOk k ps)) M
def sp_is_deed (_ : Ad) : DSp := fun ds M Q _ => ∃ (d : D) (Z : Option Addr → Prop), ds = [d] ∧ Al Z M d ∧ Q (.bl (isDeed d)) M
def sp__law_is_deed (_ : Ad) : DSp := fun ds M Q _ => ∃ (d : D) (Z : Option Addr → Prop), ds = [d] ∧ Al Z M d ∧ Q (.bl (isDeed d)) M
def sp_deeds_of (A : Ad) : DSp := fun ds M Q E => ∃ (t : D) (Z : Option Addr → Prop), ds = [t] ∧ Al Z M t ∧ match dueT M t with
  | .inl (k, x) => E (.ref (clsX A k)) (some [("found", x)]) M
  | .inr xs => ∀ M' p, Ext M M' → M p = none → M' p = some (.lst xs) → Q (.ref p) M'
def sp_tasks_of (A : Ad) : DSp := fun ds M Q E => ∃ (t : D) (Z : Option Addr → Prop), ds = [t] ∧ Al Z M t ∧ match dueS M t with
  | .inl (k, x) => ∀ M', Ext M M' → E (.ref (clsX A k)) (some [("found", x)]) M'
  | .inr ys => ∀ M' p zs, Ext M M' → M p = none → M' p = some (.lst zs) → zs.length ≤ 3 → Sam M' (.ref p) (.lst (ys.map D.lst)) → Q (.ref p) M'
def sp__law_caught (A : Ad) : DSp := fun ds M Q _ => ∃ (f : Addr) (t : D) (Z : Option Addr → Prop) (o : Bad ⊕ D), ds = [.ref f, t] ∧ Al Z M t ∧ OutOf A M f t o ∧ match o with
  | .inl (k, x) => ∀ M', Ext M M' → Q (.lst [.str k, x]) M'
  | .inr d => ∀ M' p zs, Ext M M' → M p = none → M' p = some (.lst zs) → zs.length ≤ 8 → Sam M' (.ref p) d → Q (.lst [.str "told", .ref p]) M'
def sp__law_holds (A : Ad) : DSp := fun ds M Q _ => ∃ (f : Addr) (t : D) (k : Str) (x : D) (Z : Option Addr → Prop) (o : Bad ⊕ D), ds = [.ref f, t, .lst [.str k, x]] ∧ Al Z M t ∧ Shw M t 10 1000000 ∧ OutOf A M f t o ∧
  (match o with
  | .inl (k', y) => k = k' ∧ x = y ∧ ¬ Z none
  | .inr d => k = "told" ∧ Sam M x d) ∧ ∀ M', (∀ a u, (o.isRight = true ∨ ¬ Z (some a)) → M a = some u → M' a = some u) → Q (.bl true) M'
def sp__law_due_of_task (_ : Ad) : DSp := fun ds M Q _ => ∃ (t : D) (Z : Option Addr → Prop), ds = [t] ∧ Al Z M t ∧ match outT M t with
  | .inl (k, x) => Q (.lst [.str k, x]) M
  | .inr d => Q (.lst [.str "told", d]) M
def sp__law_due (_ : Ad) : DSp := fun ds M Q _ => ∃ (t : D) (Z : Option Addr → Prop), ds = [t] ∧ Al Z M t ∧ match outS M t with
  | .inl (k, x) => ∀ M', Ext M M' → Q (.lst [.str k, x]) M'
  | .inr d => ∀ M' p, Ext M M' → Sam M' (.ref p) d → Q (.lst [.str "told", .ref p]) M'
def sp__law_deed (_ : Ad) : DSp := fun ds M Q _ => ∃ (b : Addr) (ss : List Str) (n : Nat), ds = [.ref b, .lst (ss.map D.str)] ∧ Bag M b n ∧ n < 800000 ∧ ss ≠ [] ∧ ss.length ≤ 100 ∧ (∀ s ∈ ss, Nm s) ∧ ∀ M' d, But b M M' → Bag M' b (n + 4) → De.ok d → Q d.d M'
def sp__law_odd (_ : Ad) : DSp := fun ds M Q _ => ∃ (b : Addr) (n : Nat), ds = [.ref b] ∧ Bag M b n ∧ n < 800000 ∧ ∀ M' x, But b M M' → Bag M' b (n + 1) → Al (Fsh M) M' x → Shw M' x 2 120 → Q x M'
def sp__law_bent (_ : Ad) : DSp := fun ds M Q _ => ∃ (b : Addr) (d : De) (n : Nat), ds = [.ref b, d.d] ∧ d.ok ∧ Bag M b n ∧ n < 790000 ∧ ∀ M' x, But b M M' → Bag M' b (n + 4) → Al (Fsh M) M' x → Shw M' x 4 501 → Q x M'
def sp__law_other_kind (_ : Ad) : DSp := fun ds M Q _ => ∃ (b r : Addr) (some' : D) (xs : List D) (n : Nat), ds = [.ref b, .ref r, some'] ∧ Bag M b n ∧ n < 800000 ∧ M r = some (.lst xs) ∧ xs.length ≤ 2000 ∧ ∀ M' t, But b M M' → Bag M' b (n + 1) → OtherK M M' r xs some' t → Q t M'
def sp__law_spoilt (_ : Ad) : DSp := fun ds M Q _ => ∃ (b q : Addr) (ts : List D) (n : Nat), ds = [.ref b, .ref q] ∧ Bag M b n ∧ n < 700000 ∧ M q = some (.lst ts) ∧ q ≠ b ∧ 1 ≤ ts.length ∧ ts.length ≤ 3 ∧ (∀ t ∈ ts, TaskA t) ∧ ∀ M' x, But b M M' → Bag M' b (n + 60) → Al (Fsh M) M' x → Shw M' x 10 1000000 → Q x M'
theorem len__law_box (A : Ad) : ∀ ds M Q E, sp__law_box A ds M Q E → ds.length = 1 := len_spBag
theorem len__law_cell (A : Ad) : ∀ ds M Q E, sp__law_cell A ds M Q E → ds.length = 2 := len_spCell
theorem len__law_take (A : Ad) : ∀ ds M Q E, sp__law_take A ds M Q E → ds.length = 2 := len_spTake
theorem len__law_names (A : Ad) : ∀ ds M Q E, sp__law_names A ds M Q E → ds.length = 2 := len_spNames
theorem len__law_deed (A : Ad) : ∀ ds M Q E, sp__law_deed A ds M Q E → ds.length = 2 := by
  intro ds M Q E h
  repeat (first | (obtain ⟨e, _⟩ := h; rw [show ds = _ from e]; rfl) | obtain ⟨_, h⟩ := h)
theorem len__law_is_name (A : Ad) : ∀ ds M Q E, sp__law_is_name A ds M Q E → ds.length = 1 := len_spN
theorem len__law_is_deed (A : Ad) : ∀ ds M Q E, sp__law_is_deed A ds M Q E → ds.length = 1 := by
  intro ds M Q E h
  repeat (first | (obtain ⟨e, _⟩ := h; rw [show ds = _ from e]; rfl) | obtain ⟨_, h⟩ := h)
theorem len__law_odd (A : Ad) : ∀ ds M Q E, sp__law_odd A ds M Q E → ds.length = 1 := by
  intro ds M Q E h
  repeat (first | (obtain ⟨e, _⟩ := h; rw [show ds = _ from e]; rfl) | obtain ⟨_, h⟩ := h)
theorem len__law_bent (A : Ad) : ∀ ds M Q E, sp__law_bent A ds M Q E → ds.length = 2 := by
  intro ds M Q E h
  repeat (first | (obtain ⟨e, _⟩ := h; rw [show ds = _ from e]; rfl) | obtain ⟨_, h⟩ := h)
theorem len__law_other_kind (A : Ad) : ∀ ds M Q E, sp__law_other_kind A ds M Q E → ds.length = 3 := by
  intro ds M Q E h
  repeat (first | (obtain ⟨e, _⟩ := h; rw [show ds = _ from e]; rfl) | obtain ⟨_, h⟩ := h)
theorem len__law_spoilt (A : Ad) : ∀ ds M Q E, sp__law_spoilt A ds M Q E → ds.length = 2 := by
  intro ds M Q E h
  repeat (first | (obtain ⟨e, _⟩ := h; rw [show ds = _ from e]; rfl) | obtain ⟨_, h⟩ := h)
theorem len_is_name (A : Ad) : ∀ ds M Q E, sp_is_name A ds M Q E → ds.length = 1 := len_spN
theorem len_is_whole (A : Ad) : ∀ ds M Q E, sp_is_whole A ds M Q E → ds.length = 3 := len_spW
theorem len_are_parts (A : Ad) : ∀ ds M Q E, sp_are_parts A ds M Q E → ds.length = 2 := by
  intro ds M Q E h
  repeat (first | (obtain ⟨e, _⟩ := h; rw [show ds = _ from e]; rfl) | obtain ⟨_, h⟩ := h)
theorem len_is_deed (A : Ad) : ∀ ds M Q E, sp_is_deed A ds M Q E → ds.length = 1 := by
  intro ds M Q E h
  repeat (first | (obtain ⟨e, _⟩ := h; rw [show ds = _ from e]; rfl) | obtain ⟨_, h⟩ := h)
theorem len_deeds_of (A : Ad) : ∀ ds M Q E, sp_deeds_of A ds M Q E → ds.length = 1 := by
  intro ds M Q E h
  repeat (first | (obtain ⟨e, _⟩ := h; rw [show ds = _ from e]; rfl) | obtain ⟨_, h⟩ := h)
theorem len_tasks_of (A : Ad) : ∀ ds M Q E, sp_tasks_of A ds M Q E → ds.length = 1 := by
  intro ds M Q E h
  repeat (first | (obtain ⟨e, _⟩ := h; rw [show ds = _ from e]; rfl) | obtain ⟨_, h⟩ := h)
theorem len__law_caught (A : Ad) : ∀ ds M Q E, sp__law_caught A ds M Q E → ds.length = 2 := by
  intro ds M Q E h
  repeat (first | (obtain ⟨e, _⟩ := h; rw [show ds = _ from e]; rfl) | obtain ⟨_, h⟩ := h)
theorem len__law_holds (A : Ad) : ∀ ds M Q E, sp__law_holds A ds M Q E → ds.length = 3 := by
  intro ds M Q E h
  repeat (first | (obtain ⟨e, _⟩ := h; rw [show ds = _ from e]; rfl) | obtain ⟨_, h⟩ := h)
theorem len__law_due_of_task (A : Ad) : ∀ ds M Q E, sp__law_due_of_task A ds M Q E → ds.length = 1 := by
  intro ds M Q E h
  repeat (first | (obtain ⟨e, _⟩ := h; rw [show ds = _ from e]; rfl) | obtain ⟨_, h⟩ := h)
theorem len__law_due (A : Ad) : ∀ ds M Q E, sp__law_due A ds M Q E → ds.length = 1 := by
  intro ds M Q E h
  repeat (first | (obtain ⟨e, _⟩ := h; rw [show ds = _ from e]; rfl) | obtain ⟨_, h⟩ := h)
theorem len_law (A : Ad) : ∀ ds M Q E, spLaw ds M Q E → ds.length = 1 := len_spLaw
end K51
set_option Elab.async false
set_option linter.all false
set_option maxRecDepth 100000
namespace K51
open PySem L2 DL
def t__law_box (A : Ad) : DTS :=
  dRet (dLstM (dCons (dCB dMax (dCons (dC (.int 0)) (dCons (dOp dSub (dVar 0) (dOp dPow (dC (.int 10)) (dC (.int 18)))) (dNil)))) (dCons (dOp dMod (dVar 0) (dC (.int 2147483629))) (dCons (dC (.int 0)) (dNil)))))
abbrev N__law_box : List Str := ["_law_cell_here"]
def t__law_cell (A : Ad) : DTS :=
  dSeq (dIf (dTest (dOp dLt (dVar 1) (dCB dLen (dCons (dVar 0) (dNil))))) (dRet (dOp dIx (dVar 0) (dVar 1))) (dNext))
  (dRet (dOp dAdd2 (dOp dAdd2 (dOp dMul (dC (.int 7919)) (dVar 1)) (dC (.int 51))) (dOp dMod (dCB dSum (dCons (dSlA dSl4 (dVar 0) (oNone) (oSome (dC (.int 1)))) (dNil))) (dC (.int 1000003)))))
abbrev N__law_cell : List Str := ["_law_script", "_law_k"]
def t__law_take (A : Ad) : DTS :=
  dSeq (dIf (dTest (dOp dGt (dOp dIx (dVar 0) (dC (.int 0))) (dC (.int 0)))) (dSeq (dAsg (dOp dMod (dOp dIx (dVar 0) (dC (.int 0))) (dVar 1)) (gdName 2))
  (dSeq (dAsg (dOp dDiv (dOp dIx (dVar 0) (dC (.int 0))) (dVar 1)) (gdSubL (dVar 0) (dC (.int 0))))
  (dRet (dVar 2)))) (dNext))
  (dSeq (dAsg (dOp dAdd2 (dOp dIx (dVar 0) (dC (.int 2))) (dC (.int 1))) (gdSubL (dVar 0) (dC (.int 2))))
  (dSeq (dAsg (dOp dMod (dOp dPow (dOp dAdd2 (dOp dAdd2 (dOp dIx (dVar 0) (dC (.int 1))) (dOp dMul (dC (.int 7919)) (dOp dIx (dVar 0) (dC (.int 2))))) (dC (.int 71))) (dC (.int 5))) (dC (.int 2147483647))) (gdName 3))
  (dSeq (dAsg (dOp dMod (dOp dPow (dOp dAdd2 (dOp dAdd2 (dOp dDiv (dVar 3) (dC (.int 8))) (dOp dMul (dOp dMul (dC (.int 96581)) (dOp dIx (dVar 0) (dC (.int 2)))) (dOp dIx (dVar 0) (dC (.int 2))))) (dC (.int 3))) (dC (.int 3))) (dC (.int 2147483629))) (gdName 4))
  (dRet (dOp dMod (dOp dAdd2 (dOp dDiv (dVar 3) (dC (.int 4))) (dOp dMul (dC (.int 536870909)) (dOp dDiv (dVar 4) (dC (.int 4))))) (dVar 1))))))
abbrev N__law_take : List Str := ["_law_box_here", "_law_many", "_law_digit", "_law_one", "_law_other"]
def t__law_names (A : Ad) : DTS :=
  dSeq (dAsg (dC (.str "abcdefghijklmnopqrstuvwxyz")) (gdName 2))
  (dSeq (dAsg (dTup (dCons (dCall (sp__law_take A) (dCons (dVar 0) (dCons (dC (.int 3)) (dNil)))) (dCons (dCall (sp__law_take A) (dCons (dVar 0) (dCons (dC (.int 26)) (dNil)))) (dNil)))) (gdTup 2 (gdNames [3, 4])))
  (dSeq (dAsg (dTup (dCons (dOp dAdd2 (dC (.int 1)) (dCall (sp__law_take A) (dCons (dVar 0) (dCons (dC (.int 8)) (dNil))))) (dCons (dOp dIx (dLst (dCons (dC (.int 1)) (dCons (dC (.int 3)) (dCons (dC (.int 5)) (dCons (dC (.int 7)) (dCons (dC (.int 9)) (dCons (dC (.int 11)) (dCons (dC (.int 15)) (dNil))))))))) (dCall (sp__law_take A) (dCons (dVar 0) (dCons (dC (.int 7)) (dNil))))) (dNil)))) (gdTup 2 (gdNames [5, 6])))
  (dSeq (dAsg (dCall (sp__law_take A) (dCons (dVar 0) (dCons (dVar 5) (dNil)))) (gdName 7))
  (dSeq (dAsg (dJoin (dC (.str "")) (dLc (iR1 (dCons (dC (.int 7)) (dNil))) (.one 12) dYes (dOp dIx (dVar 2) (dCall (sp__law_take A) (dCons (dVar 0) (dCons (dC (.int 26)) (dNil))))) [12])) (gdName 8))
  (dSeq (dIf (dTest (dOp dEq (dVar 3) (dC (.int 0)))) (dSeq (dAsg (dM1 rdSplit (dC (.str "on doze asleep off gain release use bell tick look sleep rise wake done busy broken")) (dC (.str " "))) (gdName 9))
  (dSeq (dAsg (dOp dIx (dLst (dCons (dC (.int 1)) (dCons (dC (.int 3)) (dCons (dC (.int 5)) (dCons (dC (.int 7)) (dCons (dC (.int 9)) (dCons (dC (.int 11)) (dCons (dC (.int 13)) (dNil))))))))) (dOp dMod (dVar 6) (dC (.int 7)))) (gdName 6))
  (dRet (dLc (iR1 (dCons (dVar 1) (dNil))) (.one 12) dYes (dOp dIx (dVar 9) (dOp dMod (dOp dAdd2 (dVar 4) (dOp dMul (dVar 6) (dVar 12))) (dC (.int 16)))) [12])))) (dNext))
  (dSeq (dIf (dTest (dOp dEq (dVar 3) (dC (.int 1)))) (dSeq (dAsg (dOp dAdd2 (dVar 8) (dOp dIx (dVar 2) (dVar 4))) (gdName 8))
  (dRet (dLc (iR1 (dCons (dVar 1) (dNil))) (.one 12) dYes (dSlA dSl4 (dVar 8) (oNone) (oSome (dOp dAdd2 (dC (.int 1)) (dOp dMod (dOp dAdd2 (dVar 7) (dVar 12)) (dC (.int 8)))))) [12]))) (dNext))
  (dSeq (dAsg (dLc (iR1 (dCons (dVar 1) (dNil))) (.one 12) dYes (dOp dIx (dVar 2) (dOp dMod (dOp dAdd2 (dVar 4) (dOp dMul (dVar 6) (dVar 12))) (dC (.int 26)))) [12]) (gdName 10))
  (dSeq (dAsg (dSlA dSl4 (dVar 8) (oSome (dVar 7)) (oSome (dOp dSub (dVar 5) (dC (.int 1))))) (gdName 11))
  (dRet (dLc (iL (dVar 10)) (.one 13) dYes (dOp dAdd2 (dOp dAdd2 (dSlA dSl4 (dVar 8) (oNone) (oSome (dVar 7))) (dVar 13)) (dVar 11)) [13]))))))))))
abbrev N__law_names : List Str := ["_law_box_here", "_law_many", "_law_letters", "_law_way", "_law_first", "_law_size", "_law_step", "_law_at", "_law_stem", "_law_words", "_law_signs", "_law_ends", "_law_k", "_law_sign"]
def t__law_deed (A : Ad) : DTS :=
  dSeq (dAsg (dOp dIx (dLst (dCons (dC (.str "gain")) (dCons (dC (.str "release")) (dCons (dC (.str "use")) (dCons (dC (.str "bell")) (dCons (dC (.str "tick")) (dCons (dC (.str "look")) (dCons (dC (.str "sleep")) (dCons (dC (.str "rise")) (dNil)))))))))) (dCall (sp__law_take A) (dCons (dVar 0) (dCons (dC (.int 8)) (dNil))))) (gdName 2))
  (dSeq (dIf (dTest (dOp dEq (dVar 2) (dC (.str "tick")))) (dRet (dTup (dCons (dVar 2) (dCons (dOp dIx (dLst (dCons (dC (.int 1)) (dCons (dC (.int 100)) (dCons (dOp dAdd2 (dC (.int 1)) (dCall (sp__law_take A) (dCons (dVar 0) (dCons (dC (.int 100)) (dNil))))) (dNil))))) (dCall (sp__law_take A) (dCons (dVar 0) (dCons (dC (.int 3)) (dNil))))) (dNil))))) (dNext))
  (dSeq (dIf (dTest (dOp (dInW id) (dVar 2) (dTup (dCons (dC (.str "look")) (dCons (dC (.str "sleep")) (dCons (dC (.str "rise")) (dNil))))))) (dRet (dTup (dCons (dVar 2) (dNil)))) (dNext))
  (dRet (dTup (dCons (dVar 2) (dCons (dOp dIx (dVar 1) (dCall (sp__law_take A) (dCons (dVar 0) (dCons (dCB dLen (dCons (dVar 1) (dNil))) (dNil))))) (dNil)))))))
abbrev N__law_deed : List Str := ["_law_box_here", "_law_names_here", "_law_word"]
def t__law_is_name (A : Ad) : DTS :=
  dSeq (dIf (dOr (dNot (dTruth (dIsi .str (dVar 0)))) (dNot (dTest (dChain dLt dLt (dC (.int 0)) (dCB dLen (dCons (dVar 0) (dNil))) (dC (.int 9)))))) (dRet (dC (.bl false))) (dNext))
  (dRet (dOp (dE0 id) (dLc (iS (dVar 0)) (.one 1) (dTest (dOp dNotInS (dVar 1) (dC (.str "abcdefghijklmnopqrstuvwxyz")))) (dVar 1) [1]) (dLst (dNil))))
abbrev N__law_is_name : List Str := ["_law_thing", "_law_sign"]
def t__law_is_deed (A : Ad) : DTS :=
  dSeq (dIf (dOr (dNot (dTruth (dIsi .tup (dVar 0)))) (dOr (dTest (dOp (dE0T id) (dVar 0) (dTup (dNil)))) (dNot (dTruth (dIsi .str (dOp dIx (dVar 0) (dC (.int 0)))))))) (dRet (dC (.bl false))) (dNext))
  (dSeq (dIf (dTest (dOp (dInW id) (dOp dIx (dVar 0) (dC (.int 0))) (dTup (dCons (dC (.str "look")) (dCons (dC (.str "sleep")) (dCons (dC (.str "rise")) (dNil))))))) (dRet (dOp dEq (dCB dLen (dCons (dVar 0) (dNil))) (dC (.int 1)))) (dNext))
  (dSeq (dIf (dTest (dOp dNe (dCB dLen (dCons (dVar 0) (dNil))) (dC (.int 2)))) (dRet (dC (.bl false))) (dNext))
  (dSeq (dIf (dTest (dOp dEq (dOp dIx (dVar 0) (dC (.int 0))) (dC (.str "tick")))) (dRet (dAndV (dIsi .int (dOp dIx (dVar 0) (dC (.int 1)))) (dAndV (dNotV (dIsi .bl (dOp dIx (dVar 0) (dC (.int 1))))) (dChain dLt dLt (dC (.int 0)) (dOp dIx (dVar 0) (dC (.int 1))) (dC (.int 101)))))) (dNext))
  (dRet (dAndV (dOp (dInW id) (dOp dIx (dVar 0) (dC (.int 0))) (dTup (dCons (dC (.str "gain")) (dCons (dC (.str "release")) (dCons (dC (.str "use")) (dCons (dC (.str "bell")) (dNil))))))) (dCall (sp__law_is_name A) (dCons (dOp dIx (dVar 0) (dC (.int 1))) (dNil))))))))
abbrev N__law_is_deed : List Str := ["_law_thing"]
def t__law_odd (A : Ad) : DTS :=
  dSeq (dAsg (dLst (dCons (dC .non) (dCons (dC (.bl true)) (dCons (dC (.bl false)) (dCons (dC (.int 7)) (dCons (dC (.str "")) (dCons (dC (.str "gain")) (dCons (dC (.str "A")) (dCons (dC (.str "ninechars")) (dCons (dC (.str "a b")) (dCons (dLstM (dNil)) (dCons (dLstM (dCons (dC (.str "a")) (dNil))) (dCons (dTup (dNil)) (dCons (dDict0) (dCons (dOp dPow (dC (.int 10)) (dC (.int 29))) (dCons (dC (.int 0)) (dCons (dC (.int 101)) (dCons (dNeg (dC (.int 1))) (dCons (dTup (dCons (dC (.str "a")) (dNil))) (dNil)))))))))))))))))))) (gdName 1))
  (dRet (dOp dIx (dOp dAdd2 (dVar 1) (dLst (dCons (dC (.str "a1")) (dCons (dExcT A.c_NoTask "NoTask" (dC (.str "a"))) (dCons (dC (.int 100)) (dCons (dC (.str "100")) (dNil))))))) (dCall (sp__law_take A) (dCons (dVar 0) (dCons (dC (.int 22)) (dNil))))))
abbrev N__law_odd : List Str := ["_law_box_here", "_law_some"]
def k1__law_bent (A : Ad) : DTS :=
  dRet (dTup (dCons (dVar 1) (dCons (dOp dIx (dVar 1) (dC (.int 0))) (dNil))))
def k2__law_bent (A : Ad) : DTS :=
  dSeq (dIf (dTest (dOp dEq (dVar 2) (dC (.int 5)))) (dRet (dCall (sp__law_odd A) (dCons (dVar 0) (dNil)))) (dNext))
  (k1__law_bent A)
def k3__law_bent (A : Ad) : DTS :=
  dSeq (dIf (dTest (dOp dEq (dVar 2) (dC (.int 4)))) (dRet (dOp dAdd2 (dTup (dCons (dOp dIx (dLst (dCons (dC (.str "Gain")) (dCons (dC (.str "gains")) (dCons (dC (.str "wake")) (dCons (dC (.str "tick")) (dCons (dC (.str "rise")) (dCons (dC (.str "use")) (dCons (dC (.str "gain ")) (dNil))))))))) (dCall (sp__law_take A) (dCons (dVar 0) (dCons (dC (.int 7)) (dNil))))) (dNil))) (dSlA dSl4 (dVar 1) (oSome (dC (.int 1))) (oNone)))) (dNext))
  (k2__law_bent A)
def k4__law_bent (A : Ad) : DTS :=
  dSeq (dIf (dTest (dOp dEq (dVar 2) (dC (.int 3)))) (dRet (dCB dListM (dCons (dVar 1) (dNil)))) (dNext))
  (k3__law_bent A)
def k5__law_bent (A : Ad) : DTS :=
  dSeq (dIf (dTest (dOp dEq (dVar 2) (dC (.int 2)))) (dRet (dOp dAdd2 (dOp dAdd2 (dSlA dSl4 (dVar 1) (oNone) (oSome (dVar 3))) (dTup (dCons (dCall (sp__law_odd A) (dCons (dVar 0) (dNil))) (dNil)))) (dSlA dSl4 (dVar 1) (oSome (dOp dAdd2 (dVar 3) (dC (.int 1)))) (oNone)))) (dNext))
  (k4__law_bent A)
def k6__law_bent (A : Ad) : DTS :=
  dSeq (dIf (dTest (dOp dEq (dVar 2) (dC (.int 1)))) (dRet (dOp dAdd2 (dSlA dSl4 (dVar 1) (oNone) (oSome (dVar 3))) (dSlA dSl4 (dVar 1) (oSome (dOp dAdd2 (dVar 3) (dC (.int 1)))) (oNone)))) (dNext))
  (k5__law_bent A)
def k7__law_bent (A : Ad) : DTS :=
  dSeq (dIf (dTest (dOp dEq (dVar 2) (dC (.int 0)))) (dRet (dOp dAdd2 (dVar 1) (dTup (dCons (dCall (sp__law_odd A) (dCons (dVar 0) (dNil))) (dNil))))) (dNext))
  (k6__law_bent A)
def k8__law_bent (A : Ad) : DTS :=
  dSeq (dAsg (dCall (sp__law_take A) (dCons (dVar 0) (dCons (dCB dLen (dCons (dVar 1) (dNil))) (dNil)))) (gdName 3))
  (k7__law_bent A)
def t__law_bent (A : Ad) : DTS :=
  dSeq (dAsg (dCall (sp__law_take A) (dCons (dVar 0) (dCons (dC (.int 7)) (dNil)))) (gdName 2))
  (k8__law_bent A)
abbrev N__law_bent : List Str := ["_law_box_here", "_law_deed_here", "_law_way", "_law_at"]
def t__law_other_kind (A : Ad) : DTS :=
  dSeq (dAsg (dLst (dCons (dC .non) (dCons (dC (.int 7)) (dCons (dC (.str "gain")) (dCons (dDict0) (dCons (dC (.bl true)) (dCons (dTup (dNil)) (dCons (dLstM (dNil)) (dCons (dCB dTuple (dCons (dVar 1) (dNil))) (dCons (dOp dAddM (dOp dAdd2 (dOp dAdd2 (dVar 1) (dVar 1)) (dVar 1)) (dVar 1)) (dNil))))))))))) (gdName 3))
  (dRet (dOp dIx (dOp dAdd2 (dVar 3) (dLst (dCons (dVar 2) (dCons (dDisp [(dC (.str "a"), dVar 1)]) (dNil))))) (dCall (sp__law_take A) (dCons (dVar 0) (dCons (dC (.int 11)) (dNil))))))
abbrev N__law_other_kind : List Str := ["_law_box_here", "_law_things", "_law_some", "_law_odd_here"]
def b1__law_spoilt (A : Ad) : DTS :=
  dSeq (dAsg (dCall (sp__law_take A) (dCons (dVar 0) (dCons (dCB dLen (dCons (dVar 2) (dNil))) (dNil)))) (gdName 4))
  (dSeq (dAsg (dOp dIx (dVar 2) (dVar 4)) (gdName 5))
  (dIf (dAnd (dTruth (dIsi .lst (dVar 5))) (dAnd (dTest (dOp (dE0 not) (dVar 5) (dLst (dNil)))) (dTest (dOp dGt (dCall (sp__law_take A) (dCons (dVar 0) (dCons (dC (.int 4)) (dNil)))) (dC (.int 0)))))) (dSeq (dAsg (dCall (sp__law_take A) (dCons (dVar 0) (dCons (dCB dLen (dCons (dVar 5) (dNil))) (dNil)))) (gdName 6))
  (dIf (dTruth (dCall (sp__law_is_deed A) (dCons (dOp dIx (dVar 5) (dVar 6)) (dNil)))) (dAsg (dOp dAddM (dOp dAdd2 (dSlA dSl4 (dVar 5) (oNone) (oSome (dVar 6))) (dLst (dCons (dCall (sp__law_bent A) (dCons (dVar 0) (dCons (dOp dIx (dVar 5) (dVar 6)) (dNil)))) (dNil)))) (dSlA dSl4 (dVar 5) (oSome (dOp dAdd2 (dVar 6) (dC (.int 1)))) (oNone))) (gdSubL (dVar 2) (dVar 4))) (dNext))) (dIf (dTruth (dIsi .lst (dVar 5))) (dAsg (dCall (sp__law_other_kind A) (dCons (dVar 0) (dCons (dVar 5) (dCons (dTup (dCons (dC (.str "look")) (dNil))) (dNil))))) (gdSubL (dVar 2) (dVar 4))) (dNext))))
def t__law_spoilt (A : Ad) : DTS :=
  dSeq (dAsg (dLcM (iL (dVar 1)) (.one 5) dYes (dCB dListM (dCons (dVar 5) (dNil))) [5]) (gdName 2))
  (dSeq (dFor (iR1 (dCons (dOp dAdd2 (dC (.int 1)) (dCall (sp__law_take A) (dCons (dVar 0) (dCons (dC (.int 2)) (dNil))))) (dNil))) (gdName 3) (b1__law_spoilt A))
  (dRet (dIfE (dTest (dOp dEq (dCall (sp__law_take A) (dCons (dVar 0) (dCons (dC (.int 5)) (dNil)))) (dC (.int 0)))) (dCall (sp__law_other_kind A) (dCons (dVar 0) (dCons (dVar 2) (dCons (dVar 2) (dNil))))) (dVar 2))))
abbrev N__law_spoilt : List Str := ["_law_box_here", "_law_tasks", "_law_found", "_law_turn", "_law_at", "_law_task", "_law_place"]
def t_is_name (A : Ad) : DTS :=
  dRet (dAndV (dIsi .str (dVar 0)) (dAndV (dChain dLe dLe (dC (.int 1)) (dCB dLen (dCons (dVar 0) (dNil))) (dC (.int 8))) (dCB dAll (dCons (dLc (iS (dVar 0)) (.one 1) dYes (dOp dInS (dVar 1) (dC (.str "abcdefghijklmnopqrstuvwxyz"))) [1]) (dNil)))))
abbrev N_is_name : List Str := ["thing", "sign"]
def t_is_whole (A : Ad) : DTS :=
  dRet (dAndV (dIsi .int (dVar 0)) (dAndV (dNotV (dIsi .bl (dVar 0))) (dChain dLe dLe (dVar 1) (dVar 0) (dVar 2))))
abbrev N_is_whole : List Str := ["thing", "low", "high"]
def t_are_parts (A : Ad) : DTS :=
  dSeq (dIf (dTest (dOp dEq (dVar 0) (dC (.str "")))) (dRet (dOp (dE0 id) (dVar 1) (dLst (dNil)))) (dNext))
  (dSeq (dIf (dTest (dOp dNe (dCB dLen (dCons (dVar 1) (dNil))) (dC (.int 1)))) (dRet (dC (.bl false))) (dNext))
  (dRet (dIfE (dTest (dOp dEq (dVar 0) (dC (.str "name")))) (dCall (sp_is_name A) (dCons (dOp dIx (dVar 1) (dC (.int 0))) (dNil))) (dCall (sp_is_whole A) (dCons (dOp dIx (dVar 1) (dC (.int 0))) (dCons (dC (.int 1)) (dCons (dC (.int 100)) (dNil))))))))
abbrev N_are_parts : List Str := ["kind", "parts"]
def t_is_deed (A : Ad) : DTS :=
  dSeq (dIf (dOr (dNot (dTruth (dIsi .tup (dVar 0)))) (dOr (dTest (dOp dEq (dCB dLen (dCons (dVar 0) (dNil))) (dC (.int 0)))) (dNot (dTruth (dIsi .str (dOp dIx (dVar 0) (dC (.int 0)))))))) (dRet (dC (.bl false))) (dNext))
  (dSeq (dAsg (dVar 0) (gdStar 2 1 (gdNames [1, 2])))
  (dRet (dAndV (dMd (dVar 1) (inMd id md_DEEDS)) (dCall (sp_are_parts A) (dCons (dMd (dVar 1) (ixMd md_DEEDS)) (dCons (dVar 2) (dNil)))))))
abbrev N_is_deed : List Str := ["thing", "word", "parts"]
def b1_deeds_of (A : Ad) : DTS :=
  dIf (dNot (dTruth (dCall (sp_is_deed A) (dCons (dVar 1) (dNil))))) (dRaise A.c_NoTask "found" (dVar 1)) (dNext)
def t_deeds_of (A : Ad) : DTS :=
  dSeq (dIf (dOr (dNot (dTruth (dIsi2E .lst .tup (dVar 0)))) (dTest (dOp dGt (dCB dLen (dCons (dVar 0) (dNil))) (dC (.int 8))))) (dRaise A.c_NoList "found" (dVar 0)) (dNext))
  (dSeq (dFor (iQ (dVar 0)) (gdName 1) (b1_deeds_of A))
  (dRet (dCB dListM (dCons (dVar 0) (dNil)))))
abbrev N_deeds_of : List Str := ["task", "deed"]
def t_tasks_of (A : Ad) : DTS :=
  dSeq (dIf (dOr (dNot (dTruth (dIsi2E .lst .tup (dVar 0)))) (dNot (dTest (dChain dLe dLe (dC (.int 1)) (dCB dLen (dCons (dVar 0) (dNil))) (dC (.int 3)))))) (dRaise A.c_NoList "found" (dVar 0)) (dNext))
  (dRet (dLcXM (iQ (dVar 0)) (.one 1) (dCall (sp_deeds_of A) (dCons (dVar 1) (dNil))) [1]))
abbrev N_tasks_of : List Str := ["tasks", "task"]
def t__law_caught (A : Ad) : DTS :=
  dTry A.xm [⟨[.ref A.c_NoList], some 2, fun a cls d => dRet (dLst (dCons (dC (.str "list")) (dCons (dXF a cls d A.c_NoList "found" (dVar 2)) (dNil))))⟩, ⟨[.ref A.c_NoTask], some 2, fun a cls d => dRet (dLst (dCons (dC (.str "task")) (dCons (dXF a cls d A.c_NoTask "found" (dVar 2)) (dNil))))⟩, ⟨[.ref A.c_WakeError, .ref A.c_StateError], none, fun a cls d => dRet (dLst (dCons (dC (.str "another")) (dCons (dC .non) (dNil))))⟩] (dRet (dLst (dCons (dC (.str "told")) (dCons (dCallV 1 0 [(A.f_tasks_of, sp_tasks_of A, plainG), (A.f_deeds_of, sp_deeds_of A, plainG)] (dVar 0) (dCons (dVar 1) (dNil)) (dNil)) (dNil)))))
abbrev N__law_caught : List Str := ["_law_ask", "_law_thing", "e"]
def k1__law_holds (A : Ad) : DTS :=
  dRet (dOp dEq (dShow (dOp dIx (dVar 4) (dC (.int 1)))) (dShow (dOp dIx (dVar 2) (dC (.int 1)))))
def k2__law_holds (A : Ad) : DTS :=
  dSeq (dIf (dTruth (dIsi .lst (dOp dIx (dVar 2) (dC (.int 1))))) (dDrop (dAppend (dOp dIx (dVar 2) (dC (.int 1))) (dC (.str "more")))) (dNext))
  (k1__law_holds A)
def k3__law_holds (A : Ad) : DTS :=
  dSeq (dIf (dTest (dOp dEq (dOp dIx (dVar 2) (dC (.int 0))) (dC (.str "told")))) (dSeq (dDrop (dAppend (dOp dIx (dVar 4) (dC (.int 1))) (dC (.str "more"))))
  (dRet (dAndV (dOp dEq (dShow (dCall (sp__law_caught A) (dCons (dVar 0) (dCons (dVar 1) (dNil))))) (dShow (dVar 2))) (dOp dEq (dShow (dVar 1)) (dVar 3))))) (dNext))
  (k2__law_holds A)
def k4__law_holds (A : Ad) : DTS :=
  dSeq (dIf (dOr (dTest (dOp dNe (dOp dIx (dVar 4) (dC (.int 0))) (dOp dIx (dVar 2) (dC (.int 0))))) (dOr (dTest (dOp dNe (dShow (dOp dIx (dVar 4) (dC (.int 1)))) (dShow (dOp dIx (dVar 2) (dC (.int 1)))))) (dTest (dOp dNe (dShow (dVar 1)) (dVar 3))))) (dRet (dC (.bl false))) (dNext))
  (k3__law_holds A)
def k5__law_holds (A : Ad) : DTS :=
  dSeq (dAsg (dCall (sp__law_caught A) (dCons (dVar 0) (dCons (dVar 1) (dNil)))) (gdName 4))
  (k4__law_holds A)
def t__law_holds (A : Ad) : DTS :=
  dSeq (dAsg (dShow (dVar 1)) (gdName 3))
  (k5__law_holds A)
abbrev N__law_holds : List Str := ["_law_ask", "_law_thing", "_law_due_here", "_law_kept", "_law_found"]
def b1__law_due_of_task (A : Ad) : DTS :=
  dIf (dNot (dTruth (dCall (sp__law_is_deed A) (dCons (dVar 1) (dNil))))) (dRet (dLst (dCons (dC (.str "task")) (dCons (dVar 1) (dNil))))) (dNext)
def t__law_due_of_task (A : Ad) : DTS :=
  dSeq (dIf (dOr (dNot (dTruth (dIsi2E .lst .tup (dVar 0)))) (dTest (dOp dGt (dCB dLen (dCons (dVar 0) (dNil))) (dC (.int 8))))) (dRet (dLst (dCons (dC (.str "list")) (dCons (dVar 0) (dNil))))) (dNext))
  (dSeq (dFor (iQ (dVar 0)) (gdName 1) (b1__law_due_of_task A))
  (dRet (dLst (dCons (dC (.str "told")) (dCons (dCB dList (dCons (dVar 0) (dNil))) (dNil))))))
abbrev N__law_due_of_task : List Str := ["_law_task", "_law_deed_here"]
def b1__law_due (A : Ad) : DTS :=
  dSeq (dAsg (dCall (sp__law_due_of_task A) (dCons (dVar 2) (dNil))) (gdName 3))
  (dSeq (dIf (dTest (dOp dNe (dOp dIx (dVar 3) (dC (.int 0))) (dC (.str "told")))) (dRet (dVar 3)) (dNext))
  (dDrop (dAppend (dVar 1) (dOp dIx (dVar 3) (dC (.int 1))))))
def t__law_due (A : Ad) : DTS :=
  dSeq (dIf (dOr (dNot (dTruth (dIsi2E .lst .tup (dVar 0)))) (dNot (dTest (dChain dLt dLt (dC (.int 0)) (dCB dLen (dCons (dVar 0) (dNil))) (dC (.int 4)))))) (dRet (dLst (dCons (dC (.str "list")) (dCons (dVar 0) (dNil))))) (dNext))
  (dSeq (dAsg (dLstM (dNil)) (gdName 1))
  (dSeq (dFor (iQ (dVar 0)) (gdName 2) (b1__law_due A))
  (dRet (dLst (dCons (dC (.str "told")) (dCons (dVar 1) (dNil)))))))
abbrev N__law_due : List Str := ["_law_tasks", "_law_found", "_law_task", "_law_due_here"]
def b2_law (A : Ad) : DTS :=
  dSeq (dAsg (dOp dIx (dLst (dCons (dC (.int 0)) (dCons (dC (.int 8)) (dCons (dCall (sp__law_take A) (dCons (dVar 2) (dCons (dC (.int 9)) (dNil)))) (dNil))))) (dCall (sp__law_take A) (dCons (dVar 2) (dCons (dC (.int 3)) (dNil))))) (gdName 6))
  (dSeq (dAsg (dLc (iR1 (dCons (dVar 6) (dNil))) (.one 12) dYes (dCall (sp__law_deed A) (dCons (dVar 2) (dCons (dVar 3) (dNil)))) [12]) (gdName 7))
  (dDrop (dAppend (dVar 4) (dOp dIx (dLst (dCons (dVar 7) (dCons (dCB dTuple (dCons (dVar 7) (dNil))) (dNil)))) (dCall (sp__law_take A) (dCons (dVar 2) (dCons (dC (.int 2)) (dNil))))))))
def b3_law (A : Ad) : DTS :=
  dIf (dNot (dTruth (dCall (sp__law_holds A) (dCons (dC (.ref A.f_tasks_of)) (dCons (dVar 8) (dCons (dCall (sp__law_due A) (dCons (dVar 8) (dNil))) (dNil))))))) (dRet (dC (.bl false))) (dNext)
def b4_law (A : Ad) : DTS :=
  dIf (dNot (dTruth (dCall (sp__law_holds A) (dCons (dC (.ref A.f_deeds_of)) (dCons (dVar 7) (dCons (dCall (sp__law_due_of_task A) (dCons (dVar 7) (dNil))) (dNil))))))) (dRet (dC (.bl false))) (dNext)
def b5_law (A : Ad) : DTS :=
  dSeq (dAsg (dShow (dVar 8)) (gdName 10))
  (dSeq (dAsg (dShow (dCall (sp__law_is_deed A) (dCons (dVar 8) (dNil)))) (gdName 11))
  (dIf (dOr (dTest (dOp dNe (dShow (dCall (sp_is_deed A) (dCons (dVar 8) (dNil)))) (dVar 11))) (dOr (dTest (dOp dNe (dShow (dCall (sp_is_deed A) (dCons (dVar 8) (dNil)))) (dVar 11))) (dTest (dOp dNe (dShow (dVar 8)) (dVar 10))))) (dRet (dC (.bl false))) (dNext)))
def k1_law (A : Ad) : DTS :=
  dFor (iL (dLst (dCons (dVar 9) (dCons (dCall (sp__law_bent A) (dCons (dVar 2) (dCons (dVar 9) (dNil)))) (dCons (dCall (sp__law_odd A) (dCons (dVar 2) (dNil))) (dCons (dTup (dNil)) (dCons (dVar 4) (dNil)))))))) (gdName 8) (b5_law A)
def k2_law (A : Ad) : DTS :=
  dSeq (dAsg (dCall (sp__law_deed A) (dCons (dVar 2) (dCons (dVar 3) (dNil)))) (gdName 9))
  (k1_law A)
def k3_law (A : Ad) : DTS :=
  dSeq (dFor (iL (dOp dAdd2 (dVar 4) (dLst (dCons (dCall (sp__law_spoilt A) (dCons (dVar 2) (dCons (dVar 4) (dNil)))) (dNil))))) (gdName 7) (b4_law A))
  (k2_law A)
def k4_law (A : Ad) : DTS :=
  dSeq (dFor (iL (dLst (dCons (dVar 4) (dCons (dCB dTuple (dCons (dVar 4) (dNil))) (dCons (dCall (sp__law_spoilt A) (dCons (dVar 2) (dCons (dVar 4) (dNil)))) (dNil)))))) (gdName 8) (b3_law A))
  (k3_law A)
def k5_law (A : Ad) : DTS :=
  dSeq (dFor (iR1 (dCons (dOp dAdd2 (dC (.int 1)) (dCall (sp__law_take A) (dCons (dVar 2) (dCons (dC (.int 3)) (dNil))))) (dNil))) (gdName 5) (b2_law A))
  (k4_law A)
def k6_law (A : Ad) : DTS :=
  dSeq (dAsg (dLstM (dNil)) (gdName 4))
  (k5_law A)
def k7_law (A : Ad) : DTS :=
  dSeq (dAsg (dCall (sp__law_names A) (dCons (dVar 2) (dCons (dC (.int 3)) (dNil)))) (gdName 3))
  (k6_law A)
def b1_law (A : Ad) : DTS :=
  dSeq (dAsg (dCall (sp__law_box A) (dCons (dCall (sp__law_cell A) (dCons (dVar 0) (dCons (dVar 1) (dNil)))) (dNil))) (gdName 2))
  (k7_law A)
def t_law (A : Ad) : DTS :=
  dSeq (dFor (iR1 (dCons (dCB dMax (dCons (dC (.int 2)) (dCons (dCB dMin (dCons (dC (.int 12)) (dCons (dCB dLen (dCons (dVar 0) (dNil))) (dNil)))) (dNil)))) (dNil))) (gdName 1) (b1_law A))
  (dRet (dC (.bl true)))
abbrev N_law : List Str := ["_law_script", "_law_k", "_law_box_here", "_law_names_here", "_law_tasks", "_law_turn", "_law_many", "_law_task", "_law_thing", "_law_deed_here", "_law_kept", "_law_due_here", "_law_place"]
end K51
set_option Elab.async false
set_option linter.all false
set_option maxRecDepth 100000
set_option maxHeartbeats 4000000
namespace K51
open PySem L2 DL
theorem Al.mono {Z Z' : Option Addr → Prop} {M M' : Mp} {x : D} (f : ∀ a u, Z (some a) → M a = some u → M' a = some u) (z : ∀ a, Z a → Z' a) (h : Al Z M x) : Al Z' M' x := by
  induction h with
  | non => exact .non
  | bl b => exact .bl b
  | int i => exact .int i
  | str l o => exact .str l o
  | lst z0 l _ ih => exact .lst (z _ z0) l ih
  | tup l _ ih => exact .tup l ih
  | dct _ ih => exact .dct ih
  | ref za e l _ ih => exact .ref (z _ za) (f _ _ za e) l ih
  | exs za e => exact .exs (z _ za) (f _ _ za e)
theorem Al.ext {Z : Option Addr → Prop} {M M' : Mp} {x : D} (e : Ext M M') (h : Al Z M x) : Al Z M' x := h.mono (fun a u _ z => e a u z) fun _ z => z
theorem Al.th {Z : Option Addr → Prop} {M : Mp} {x : D} (h : Al Z M x) : Th M x := by
  cases h with
  | non => trivial
  | bl b => trivial
  | int i => trivial
  | str l o => exact ⟨by omega, o⟩
  | lst _ l _ => trivial
  | tup l _ => trivial
  | dct _ => trivial
  | ref _ e _ _ => exact ⟨_, e, trivial⟩
  | exs _ e => exact ⟨_, e, trivial⟩
theorem Al.seq {Z : Option Addr → Prop} {M : Mp} {x : D} {xs : List D} (h : Al Z M x) (e : seqD M x = some xs) : xs.length ≤ 16000 ∧ ∀ y ∈ xs, Al Z M y := by
  cases h with
  | lst _ l a => cases e; exact ⟨l, a⟩
  | tup l a => cases e; exact ⟨l, a⟩
  | ref _ m l a => simp only [seqD, m] at e; cases e; exact ⟨l, a⟩
  | exs _ m => simp only [seqD, m] at e; cases e
  | _ => cases e
theorem Al.seqE {Z : Option Addr → Prop} {M M' : Mp} {x : D} (f : ∀ a u, Z (some a) → M a = some u → M' a = some u) (h : Al Z M x) : seqD M' x = seqD M x := by
  cases h with
  | ref z m _ _ => simp only [seqD, m, f _ _ z m]
  | exs z m => simp only [seqD, m, f _ _ z m]
  | _ => rfl
def tyA (M : Mp) : D → Ty
  | .non => .non | .bl _ => .bl | .int _ => .int | .str _ => .str | .lst _ => .lst | .tup _ => .tup | .dct _ => .dct
  | .ref a => match M a with | some (.lst _) => .lst | _ => .own
  | _ => .own
theorem Al.ty {Z : Option Addr → Prop} {M : Mp} {x : D} {k : Ty → Prop} (h : Al Z M x) (q : k (tyA M x)) : tyD x M k := by
  cases h with
  | ref _ m _ _ => exact ⟨_, m, by simp only [tyA, m] at q; exact q⟩
  | exs _ m => exact ⟨_, m, by simp only [tyA, m] at q; exact q⟩
  | _ => exact q
theorem tyA_two {Z : Option Addr → Prop} {M : Mp} {x : D} (h : Al Z M x) : (isT (tyA M x) .lst || isT (tyA M x) .tup) = (seqD M x).isSome := by
  cases h with
  | ref _ m _ _ => simp only [tyA, seqD, m]; rfl
  | exs _ m => simp only [tyA, seqD, m]; rfl
  | _ => rfl
def isTup : D → Bool
  | .tup _ => true
  | _ => false
def isStr : D → Bool
  | .str _ => true
  | _ => false
theorem tyA_tup {Z : Option Addr → Prop} {M : Mp} {x : D} (h : Al Z M x) : isT (tyA M x) .tup = isTup x := by
  cases h with
  | ref _ m _ _ => simp only [tyA, m]; rfl
  | exs _ m => simp only [tyA, m]; rfl
  | _ => rfl
theorem tyA_str {Z : Option Addr → Prop} {M : Mp} {x : D} (h : Al Z M x) : isT (tyA M x) .str = isStr x := by
  cases h with
  | ref _ m _ _ => simp only [tyA, m]; rfl
  | exs _ m => simp only [tyA, m]; rfl
  | _ => rfl
theorem shs_imp {M M' : Mp} : ∀ {xs : List D} {ss : List Sh}, (∀ x ∈ xs, ∀ s, ShOf M x s → ShOf M' x s) → ShOfs M xs ss → ShOfs M' xs ss
  | _, _, _, .nil => .nil
  | _, _, h, .cons a r => .cons (h _ List.mem_cons_self _ a) (shs_imp (fun x hx => h x (List.mem_cons_of_mem _ hx)) r)
theorem shs_key {M M' : Mp} : ∀ {kvs : List (Key × D)} {ss : List Sh}, ShOfs M (kvs.map fun kv => kD kv.1) ss → ShOfs M' (kvs.map fun kv => kD kv.1) ss
  | [], _, .nil => .nil
  | (.inl i, _) :: r, _, .cons a t => .cons (by cases a with | int h => exact .int h) (shs_key t)
  | (.inr x, _) :: r, _, .cons a t => .cons (by cases a with | str h => exact .str h) (shs_key t)
theorem Al.sh {Z : Option Addr → Prop} {M M' : Mp} {x : D} (f : ∀ a u, Z (some a) → M a = some u → M' a = some u) (h : Al Z M x) : ∀ {s : Sh}, ShOf M x s → ShOf M' x s := by
  induction h with
  | non => intro s r; cases r; exact .non
  | bl b => intro s r; cases r; exact .bl b
  | int i => intro s r; cases r with | int h => exact .int h
  | str _ _ => intro s r; cases r with | str h => exact .str h
  | lst _ _ _ ih => intro s r; cases r with | lst rs => exact .lst (shs_imp (fun x hx s z => ih x hx z) rs)
  | tup _ _ ih => intro s r; cases r with | tup rs => exact .tup (shs_imp (fun x hx s z => ih x hx z) rs)
  | dct _ ih =>
    intro s r
    cases r with
    | dct a b =>
      refine .dct (shs_key a) (shs_imp (fun x hx s z => ?_) b)
      obtain ⟨kv, hk, rfl⟩ := List.mem_map.mp hx
      exact ih kv hk z
  | ref z e _ _ ih =>
    intro s r
    cases r with
    | lstM e' rs => rw [e] at e'; cases e'; exact .lstM (f _ _ z e) (shs_imp (fun x hx s z => ih x hx z) rs)
    | dctM e' _ _ => rw [e] at e'; cases e'
    | exs e' _ _ => rw [e] at e'; cases e'
  | exs z e =>
    intro s r
    cases r with
    | lstM e' rs => rw [e] at e'; cases e'
    | dctM e' _ _ => rw [e] at e'; cases e'
    | exs e' a b => exact .exs (f _ _ z e') a b
theorem Al.shw {Z : Option Addr → Prop} {M M' : Mp} {x : D} {n c : Nat} (f : ∀ a u, Z (some a) → M a = some u → M' a = some u) (h : Al Z M x) (w : Shw M x n c) : Shw M' x n c := let ⟨t, a, b, k⟩ := w; ⟨t, h.sh f a, b, k⟩
mutual
theorem sh_dep {M : Mp} : ∀ {x : D} {s s' : Sh}, ShOf M x s → ShOf M x s' → s.dep = s'.dep
  | _, _, _, .non, r => by cases r; rfl
  | _, _, _, .bl b, r => by cases r; rfl
  | _, _, _, .int _, r => by cases r; rfl
  | _, _, _, .str _, r => by cases r; rfl
  | _, _, _, .lst rs, r => by
    cases r with
    | lst rs' => simp only [Sh.dep, shs_dep rs rs']
  | _, _, _, .sq rs, r => by
    cases r with
    | sq rs' => simp only [Sh.dep, shs_dep rs rs']
  | _, _, _, .tup rs, r => by
    cases r with
    | tup rs' => simp only [Sh.dep, shs_dep rs rs']
  | _, _, _, .dct a b, r => by
    cases r with
    | dct a' b' => simp only [Sh.dep, shs_dep a a', shs_dep b b']
  | _, _, _, .lstM e rs, r => by
    cases r with
    | lstM e' rs' => rw [e] at e'; cases e'; simp only [Sh.dep, shs_dep rs rs']
    | dctM e' _ _ => rw [e] at e'; cases e'
    | exs e' _ _ => rw [e] at e'; cases e'
  | _, _, _, .dctM e a b, r => by
    cases r with
    | lstM e' rs' => rw [e] at e'; cases e'
    | dctM e' a' b' => rw [e] at e'; cases e'; simp only [Sh.dep, shs_dep a a', shs_dep b b']
    | exs e' _ _ => rw [e] at e'; cases e'
  | _, _, _, .exs e _ _, r => by
    cases r with
    | lstM e' rs' => rw [e] at e'; cases e'
    | dctM e' _ _ => rw [e] at e'; cases e'
    | exs e' _ _ => rfl
theorem shs_dep {M : Mp} : ∀ {xs : List D} {ss ss' : List Sh}, ShOfs M xs ss → ShOfs M xs ss' → Sh.deps ss = Sh.deps ss'
  | _, _, _, .nil, r => by cases r; rfl
  | _, _, _, .cons a b, r => by
    cases r with
    | cons a' b' => simp only [Sh.deps, sh_dep a a', shs_dep b b']
end
theorem dep_mem {ss : List Sh} {s : Sh} (h : s ∈ ss) : s.dep ≤ Sh.deps ss := by
  induction ss with
  | nil => cases h
  | cons a r ih =>
    simp only [Sh.deps]
    rcases List.mem_cons.mp h with rfl | h
    · exact Nat.le_max_left _ _
    · exact Nat.le_trans (ih h) (Nat.le_max_right _ _)
mutual
theorem sh_upd {M : Mp} {p : Addr} {S : Sh} {o : MO} (hp : ShOf M (.ref p) S) : ∀ {x : D} {s : Sh}, ShOf M x s → s.dep < S.dep → ShOf (updM M p o) x s
  | _, _, .non, _ => .non
  | _, _, .bl b, _ => .bl b
  | _, _, .int l, _ => .int l
  | _, _, .str l, _ => .str l
  | _, _, .lst rs, h => .lst (shs_upd hp rs (by simp only [Sh.dep] at h; omega))
  | _, _, .sq rs, h => .sq (shs_upd hp rs (by simp only [Sh.dep] at h; omega))
  | _, _, .tup rs, h => .tup (shs_upd hp rs (by simp only [Sh.dep] at h; omega))
  | _, _, .dct a b, h => .dct (shs_upd hp a (by simp only [Sh.dep] at h; omega)) (shs_upd hp b (by simp only [Sh.dep] at h; omega))
  | _, _, .lstM (a := a) e rs, h => .lstM (by
      rw [updM_ne fun z => by subst z; have := sh_dep hp (.lstM e rs); omega]
      exact e) (shs_upd hp rs (by simp only [Sh.dep] at h; omega))
  | _, _, .dctM (a := a) e k v, h => .dctM (by
      rw [updM_ne fun z => by subst z; have := sh_dep hp (.dctM e k v); omega]
      exact e) (shs_upd hp k (by simp only [Sh.dep] at h; omega)) (shs_upd hp v (by simp only [Sh.dep] at h; omega))
  | _, _, .exs (a := a) e u v, h => .exs (by
      rw [updM_ne fun z => by subst z; have := sh_dep hp (.exs e u v); omega]
      exact e) u v
theorem shs_upd {M : Mp} {p : Addr} {S : Sh} {o : MO} (hp : ShOf M (.ref p) S) : ∀ {xs : List D} {ss : List Sh}, ShOfs M xs ss → Sh.deps ss < S.dep → ShOfs (updM M p o) xs ss
  | _, _, .nil, _ => .nil
  | _, _, .cons a r, h => .cons (sh_upd hp a (by simp only [Sh.deps] at h; omega)) (shs_upd hp r (by simp only [Sh.deps] at h; omega))
end
theorem shs_app {M : Mp} : ∀ {xs ys : List D} {ss ts : List Sh}, ShOfs M xs ss → ShOfs M ys ts → ShOfs M (xs ++ ys) (ss ++ ts)
  | _, _, _, _, .nil, r => r
  | _, _, _, _, .cons a b, r => .cons a (shs_app b r)
theorem ws_app : ∀ {ss ts : List Sh}, Sh.ws (ss ++ ts) = Sh.ws ss + Sh.ws ts
  | [], _ => by simp only [List.nil_append, Sh.ws, Nat.zero_add]
  | s :: r, ts => by simp only [List.cons_append, Sh.ws, ws_app (ss := r)]; omega
theorem deps_app : ∀ {ss ts : List Sh}, Sh.deps (ss ++ ts) = max (Sh.deps ss) (Sh.deps ts)
  | [], _ => by simp only [List.nil_append, Sh.deps, Nat.zero_max]
  | s :: r, ts => by simp only [List.cons_append, Sh.deps, deps_app (ss := r)]; omega
theorem shw_more {M : Mp} {p : Addr} {xs : List D} {y : D} {n c : Nat} (e : M p = some (.lst xs)) (h : Shw M (.ref p) n c) (hy : ∀ M', Shw M' y 0 c) : Shw (updM M p (.lst (xs ++ [y]))) (.ref p) n (2 * c + 10) := by
  obtain ⟨S, sh, d, w⟩ := h
  cases id sh with
  | lstM e' rs =>
    rw [e] at e'; cases e'
    obtain ⟨t, ht, td, tw⟩ := hy (updM M p (.lst (xs ++ [y])))
    simp only [Sh.dep, Sh.w] at d w
    refine ⟨_, .lstM updM_same (shs_app (shs_upd sh rs (by simp only [Sh.dep]; omega)) (.cons ht .nil)), ?_, ?_⟩
    · simp only [Sh.dep, deps_app, Sh.deps]; omega
    · simp only [Sh.w, ws_app, Sh.ws]; omega
  | dctM e' _ _ => rw [e] at e'; cases e'
  | exs e' _ _ => rw [e] at e'; cases e'
theorem shw_seq {M : Mp} {x : D} {xs : List D} {n c : Nat} (h : Shw M x n c) (e : seqD M x = some xs) : ∃ ss, ShOfs M xs ss ∧ Sh.deps ss + 1 ≤ n ∧ Sh.ws ss + 3 ≤ c := by
  obtain ⟨t, sh, d, w⟩ := h
  cases sh with
  | lst rs => cases e; exact ⟨_, rs, by simpa only [Sh.dep] using d, by simpa only [Sh.w] using w⟩
  | tup rs => cases e; exact ⟨_, rs, by simpa only [Sh.dep] using d, by simpa only [Sh.w] using w⟩
  | lstM m rs => simp only [seqD, m] at e; cases e; exact ⟨_, rs, by simpa only [Sh.dep] using d, by simpa only [Sh.w] using w⟩
  | dctM m _ _ => simp only [seqD, m] at e; cases e
  | exs m _ _ => simp only [seqD, m] at e; cases e
  | _ => cases e
theorem shs_mem {M : Mp} : ∀ {xs : List D} {ss : List Sh}, ShOfs M xs ss → ∀ x ∈ xs, ∃ s, ShOf M x s ∧ s.dep ≤ Sh.deps ss ∧ s.w ≤ Sh.ws ss
  | _, _, .nil, _, h => nomatch h
  | _, _, .cons a r, x, h => by
    simp only [Sh.deps, Sh.ws]
    rcases List.mem_cons.mp h with rfl | h
    · exact ⟨_, a, Nat.le_max_left _ _, by omega⟩
    · obtain ⟨s, h1, h2, h3⟩ := shs_mem r x h
      exact ⟨s, h1, Nat.le_trans h2 (Nat.le_max_right _ _), by omega⟩
theorem shw_item {M : Mp} {x y : D} {xs : List D} {n c : Nat} (h : Shw M x n c) (e : seqD M x = some xs) (hy : y ∈ xs) : Shw M y n c := by
  obtain ⟨ss, rs, d, w⟩ := shw_seq h e
  obtain ⟨s, h1, h2, h3⟩ := shs_mem rs y hy
  exact ⟨s, h1, by omega, by omega⟩
theorem shw_asl {M : Mp} {x : D} {xs : List D} {n c : Nat} (h : Shw M x n c) (e : seqD M x = some xs) : Shw M (.lst xs) n c := by
  obtain ⟨ss, rs, d, w⟩ := shw_seq h e
  exact ⟨_, .lst rs, by simp only [Sh.dep]; omega, by simp only [Sh.w]; omega⟩
theorem Sam.refl (M : Mp) (d : D) : Sam M d d := fun _ _ _ h => h
theorem Sam.ext {M M' : Mp} {x d : D} (e : Ext M M') (h : Sam M x d) : Sam M' x d := fun M2 s x2 r => h M2 s (e.trans x2) r
end K51
set_option Elab.async false
set_option linter.all false
set_option maxRecDepth 100000
set_option maxHeartbeats 4000000
namespace K51
open PySem L2 DL
theorem rd__law_box (A : Ad) (hA : AdOk A) : ∀ ds M Qd Ed, sp__law_box A ds M Qd Ed → t__law_box A (ends Qd Ed) (dstart N__law_box ds) M := bag_ok
theorem rd__law_cell (A : Ad) (hA : AdOk A) : ∀ ds M Qd Ed, sp__law_cell A ds M Qd Ed → t__law_cell A (ends Qd Ed) (dstart N__law_cell ds) M := cell_ok 7919 51 (by decide) (by decide)
theorem rd__law_take (A : Ad) (hA : AdOk A) : ∀ ds M Qd Ed, sp__law_take A ds M Qd Ed → t__law_take A (ends Qd Ed) (dstart N__law_take ds) M := take_c 7919 71 96581 3 536870909 (by decide) (by decide) (by decide) (by decide) (by decide) (by decide) (by decide) (by decide) (by decide) (by decide)
theorem rd__law_names (A : Ad) (hA : AdOk A) : ∀ ds M Qd Ed, sp__law_names A ds M Qd Ed → t__law_names A (ends Qd Ed) (dstart N__law_names ds) M := names_c
theorem rd_is_name (A : Ad) (hA : AdOk A) : ∀ ds M Qd Ed, sp_is_name A ds M Qd Ed → t_is_name A (ends Qd Ed) (dstart N_is_name ds) M := is_name_ok
theorem rd_is_whole (A : Ad) (hA : AdOk A) : ∀ ds M Qd Ed, sp_is_whole A ds M Qd Ed → t_is_whole A (ends Qd Ed) (dstart N_is_whole ds) M := is_whole_ok
theorem rd__law_is_name (A : Ad) (hA : AdOk A) : ∀ ds M Qd Ed, sp__law_is_name A ds M Qd Ed → t__law_is_name A (ends Qd Ed) (dstart N__law_is_name ds) M := by
  intro ds M Qd Ed h
  obtain ⟨d, rfl, th, q⟩ := h
  cases d with
  | str s =>
    have hs := cl_of th.1
    have no : ¬ (1 ≤ s.length ∧ s.length ≤ 8) → Qd (.bl false) M := fun n => by
      rw [name_bad n] at q
      exact q
    refine ⟨_, rfl, _, rfl, sl_of th.1, ?_⟩
    refine br2 (fun e => ?_) (fun e => ?_)
    · have e := of_decide_eq_true e
      refine br2 (fun e2 => no (fun z => ?_)) (fun e2 => ?_)
      · simp only [Bool.not_eq_true', decide_eq_false_iff_not] at e2
        omega
      have e2 : (s.length : Int) < 9 := by simpa using e2
      refine ⟨_, rfl, ?_, ?_⟩
      · show (sgn s).length < sizeLine
        unfold sgn
        rw [List.length_map]
        exact Nat.lt_of_le_of_lt hs (by decide)
      refine comp_sgn (fun c => !decide (c ∈ letters.cps.toList)) s.cps.toList (fun c hc Q q => ⟨_, rfl, c, rfl, q⟩) (fun c hc Q q => ⟨_, rfl, q⟩) (Nat.le_trans hs (by decide)) ?_
      refine ⟨(by show 0 ≤ sizeLine; decide), rfl, ?_⟩
      show Qd (.bl ((s.cps.toList.filter fun c => !decide (c ∈ letters.cps.toList)).map fun c => D.str (sg1 c)).isEmpty) M
      rw [name_empty (by omega) (by omega)]
      exact q
    · have e := of_decide_eq_false e
      exact no (fun z => by omega)
  | ref a =>
    obtain ⟨m, e, t⟩ := th
    cases m with
    | lst _ => exact ⟨_, rfl, _, e, q⟩
    | dct _ => exact ⟨_, rfl, _, e, q⟩
    | exc _ _ => exact ⟨_, rfl, _, e, q⟩
    | _ => exact t.elim
  | non => exact ⟨_, rfl, q⟩
  | bl b => exact ⟨_, rfl, q⟩
  | int i => exact ⟨_, rfl, q⟩
  | lst xs => exact ⟨_, rfl, q⟩
  | tup xs => exact ⟨_, rfl, q⟩
  | dct xs => exact ⟨_, rfl, q⟩
  | _ => exact th.elim
theorem rd_are_parts (A : Ad) (hA : AdOk A) : ∀ ds M Qd Ed, sp_are_parts A ds M Qd Ed → t_are_parts A (ends Qd Ed) (dstart N_are_parts ds) M := by
  intro ds M Qd Ed h
  obtain ⟨k, ps, rfl, l, th, q⟩ := h
  refine ⟨_, rfl, ?_⟩
  refine br2 (fun e => ?_) (fun e => ?_)
  · have e := of_decide_eq_true e
    unfold partsOk at q
    rw [if_pos e] at q
    exact ⟨_, rfl, (by show 0 ≤ sizeLine; decide), rfl, q⟩
  have e := of_decide_eq_false e
  unfold partsOk at q
  rw [if_neg e] at q
  refine ⟨_, rfl, ?_⟩
  cases ps with
  | nil => exact q
  | cons x r => cases r with
    | cons y r =>
      exact q
    | nil =>
      refine ⟨_, rfl, ?_⟩
      refine br2 (fun e2 => ?_) (fun e2 => ?_)
      · have e2 := of_decide_eq_true e2
        simp only [if_pos e2] at q
        exact ⟨_, rfl, _, rfl, x, rfl, th x List.mem_cons_self, q⟩
      · have e2 := of_decide_eq_false e2
        simp only [if_neg e2] at q
        exact ⟨_, rfl, _, rfl, x, 1, 100, rfl, th x List.mem_cons_self, q⟩
end K51
set_option Elab.async false
set_option linter.all false
set_option maxRecDepth 100000
set_option maxHeartbeats 4000000
namespace K51
open PySem L2 DL
theorem deed_str {w : Str} {r : List D} : isDeed (.tup (.str w :: r)) = match getMd md_DEEDS w with
    | some k => partsOk k r
    | none => false := rfl
theorem star_two {x : D} {r : List D} {δ : DS} {M : Mp} {Q : DS → Mp → Prop} {E : DXK} {i j : Nat} (l : r.length + 1 ≤ 16384) (q : Q ((δ.set i (some x)).set j (some (.lst r))) M) : gdStar 2 1 (gdNames [i, j]) (.tup (x :: r)) δ M Q E := by
  refine ⟨(by show 2 ≤ r.length + 1 + 1; omega), l, ?_⟩
  have e1 : stF 1 (x :: r) = [x] := rfl
  have e2 : stM 2 1 (x :: r) = r := by
    show r.take (r.length + 1 + 1 - 2) = r
    rw [show r.length + 1 + 1 - 2 = r.length by omega, List.take_length]
  have e3 : stL 2 1 (x :: r) = [] := by
    show r.drop (r.length + 1 + 1 - 2) = []
    rw [show r.length + 1 + 1 - 2 = r.length by omega, List.drop_length]
  rw [e1, e2, e3]
  exact ⟨rfl, q⟩
theorem rd_is_deed (A : Ad) (hA : AdOk A) : ∀ ds M Qd Ed, sp_is_deed A ds M Qd Ed → t_is_deed A (ends Qd Ed) (dstart N_is_deed ds) M := by
  intro ds M Qd Ed h
  obtain ⟨d, Z, rfl, al, q⟩ := h
  have no : isDeed d = false → Qd (.bl false) M := fun e => by rw [e] at q; exact q
  have nt : isTup d = false → t_is_deed A (ends Qd Ed) (dstart N_is_deed [d]) M := fun e => by
    refine ⟨_, rfl, al.ty ?_⟩
    rw [tyA_tup al, e]
    exact no (by cases d <;> first | rfl | cases e)
  cases d with
  | tup xs =>
    cases xs with
    | nil => exact ⟨_, rfl, _, rfl, no rfl⟩
    | cons x r =>
      obtain ⟨l, ha⟩ := al.seq (xs := x :: r) rfl
      have ax := ha x List.mem_cons_self
      simp only [List.length_cons] at l
      refine ⟨_, rfl, _, rfl, _, rfl, x, at0, ax.ty ?_⟩
      rw [tyA_str ax]
      cases x with
      | str w =>
        refine ⟨_, rfl, star_two (by omega) ?_⟩
        rw [deed_str] at q
        cases hm : getMd md_DEEDS w with
        | none =>
          rw [hm] at q
          refine ⟨_, rfl, brF (by rw [hm]; rfl) ?_⟩
          exact q
        | some k =>
          rw [hm] at q
          refine ⟨_, rfl, brT (by rw [hm]; rfl) ?_⟩
          exact ⟨_, rfl, k, hm, _, rfl, k, r, rfl, by omega, fun p hp => (ha p (List.mem_cons_of_mem _ hp)).th, q⟩
      | _ => exact no rfl
  | _ => exact nt rfl
theorem md_none {w : Str} (h1 : w ∉ oneW) (h2 : w ∉ nameW) (h3 : w ≠ "tick") : getMd md_DEEDS w = none := by
  simp only [oneW, nameW, List.mem_cons, List.mem_nil_iff, or_false, not_or] at h1 h2
  unfold getMd md_DEEDS
  simp only [List.find?, decide_eq_false (Ne.symm h2.1), decide_eq_false (Ne.symm h2.2.1), decide_eq_false (Ne.symm h2.2.2.1), decide_eq_false (Ne.symm h2.2.2.2), decide_eq_false (Ne.symm h3), decide_eq_false (Ne.symm h1.1), decide_eq_false (Ne.symm h1.2.1), decide_eq_false (Ne.symm h1.2.2)]
  rfl
theorem md_one {w : Str} (h : w ∈ oneW) : getMd md_DEEDS w = some "" := by
  have e : ∀ w ∈ oneW, getMd md_DEEDS w = some "" := by decide +kernel
  exact e w h
theorem md_nm {w : Str} (h : w ∈ nameW) : getMd md_DEEDS w = some "name" := by
  have e : ∀ w ∈ nameW, getMd md_DEEDS w = some "name" := by decide +kernel
  exact e w h
theorem md_tick : getMd md_DEEDS "tick" = some "turns" := by decide +kernel
theorem parts_one (r : List D) : partsOk "" r = r.isEmpty := by unfold partsOk; rw [if_pos rfl]
theorem parts_nm (r : List D) : partsOk "name" r = match r with
    | [x] => nameD x
    | _ => false := by
  unfold partsOk
  rw [if_neg (by decide +kernel)]
  cases r with
  | nil => rfl
  | cons x r => cases r with
    | nil => exact if_pos rfl
    | cons y r => rfl
theorem parts_tk (r : List D) : partsOk "turns" r = match r with
    | [x] => wholeD x 1 100
    | _ => false := by
  unfold partsOk
  rw [if_neg (by decide +kernel)]
  cases r with
  | nil => rfl
  | cons x r => cases r with
    | nil => exact if_neg (by decide +kernel)
    | cons y r => rfl
theorem one_no {w : Str} (h : w ∈ oneW) : w ∉ nameW ∧ w ≠ "tick" := by
  have e : ∀ w ∈ oneW, w ∉ nameW ∧ w ≠ "tick" := by decide +kernel
  exact e w h
theorem tick_no : ("tick" : Str) ∉ nameW ∧ ("tick" : Str) ∉ oneW := by decide +kernel
def isInt : D → Bool
  | .int _ => true
  | .bl _ => true
  | _ => false
theorem tyA_int {Z : Option Addr → Prop} {M : Mp} {x : D} (h : Al Z M x) : isT (tyA M x) .int = isInt x := by
  cases h with
  | ref _ m _ _ => simp only [tyA, m]; rfl
  | exs _ m => simp only [tyA, m]; rfl
  | _ => rfl
theorem rd__law_is_deed (A : Ad) (hA : AdOk A) : ∀ ds M Qd Ed, sp__law_is_deed A ds M Qd Ed → t__law_is_deed A (ends Qd Ed) (dstart N__law_is_deed ds) M := by
  intro ds M Qd Ed h
  obtain ⟨d, Z, rfl, al, q⟩ := h
  have no : isDeed d = false → Qd (.bl false) M := fun e => by rw [e] at q; exact q
  have nt : isTup d = false → t__law_is_deed A (ends Qd Ed) (dstart N__law_is_deed [d]) M := fun e => by
    refine ⟨_, rfl, al.ty ?_⟩
    rw [tyA_tup al, e]
    exact no (by cases d <;> first | rfl | cases e)
  cases d with
  | tup xs =>
    cases xs with
    | nil => exact ⟨_, rfl, _, rfl, (by show 0 ≤ sizeLine; decide), rfl, _, rfl, no rfl⟩
    | cons x r =>
      obtain ⟨l, ha⟩ := al.seq (xs := x :: r) rfl
      have ax := ha x List.mem_cons_self
      simp only [List.length_cons] at l
      refine ⟨_, rfl, _, rfl, (by show 0 ≤ sizeLine; decide), rfl, _, rfl, _, rfl, x, at0, ax.ty ?_⟩
      rw [tyA_str ax]
      cases x with
      | str w =>
        rw [deed_str] at q
        refine ⟨_, rfl, _, at0, (by show 3 ≤ sizeLine; decide), oneW, rfl, rfl, ?_⟩
        show br (decide (w ∈ oneW)) _ _
        refine br2 (fun e => ?_) fun e => ?_
        · have e := of_decide_eq_true e
          rw [md_one e] at q
          have q : Qd (.bl (partsOk "" r)) M := q
          rw [parts_one] at q
          refine ⟨_, rfl, ?_⟩
          cases r with
          | nil => exact q
          | cons y r => exact q
        have e1 := of_decide_eq_false e
        by_cases h2 : w = "tick"
        · subst h2
          rw [md_tick] at q
          have q : Qd (.bl (partsOk "turns" r)) M := q
          rw [parts_tk] at q
          match r, q with
          | [], q => exact ⟨_, rfl, q⟩
          | [y], q =>
            have ay := ha y (List.mem_cons_of_mem _ List.mem_cons_self)
            refine ⟨_, rfl, _, rfl, _, at0, ?_⟩
            refine ⟨_, rfl, _, at1, ay.ty ?_⟩
            rw [tyA_int ay]
            cases y with
            | int i =>
              refine ⟨_, rfl, _, at1, ?_⟩
              refine ⟨_, rfl, _, at1, ?_⟩
              have q : Qd (.bl (decide (1 ≤ i) && decide (i ≤ 100))) M := q
              by_cases i1 : 0 < i
              · refine brT (decide_eq_true i1) ?_
                rw [decide_eq_true (by omega : 1 ≤ i), Bool.true_and, show decide (i ≤ 100) = decide (i < 101) from decide_eq_decide.mpr (by omega)] at q
                exact q
              · refine brF (decide_eq_false i1) ?_
                rw [decide_eq_false (by omega : ¬ 1 ≤ i), Bool.false_and] at q
                exact q
            | bl b => exact ⟨_, rfl, _, at1, q⟩
            | _ => exact q
          | y :: z :: r, q => exact ⟨_, rfl, q⟩
        by_cases h3 : w ∈ nameW
        · rw [md_nm h3] at q
          have q : Qd (.bl (partsOk "name" r)) M := q
          rw [parts_nm] at q
          match r, q with
          | [], q => exact ⟨_, rfl, q⟩
          | [y], q =>
            have ay := ha y (List.mem_cons_of_mem _ List.mem_cons_self)
            refine ⟨_, rfl, _, rfl, _, at0, ?_⟩
            refine brF (decide_eq_false h2) ?_
            refine ⟨_, rfl, _, at0, (by show 4 ≤ sizeLine; decide), nameW, rfl, rfl, ?_⟩
            refine brT (decide_eq_true h3) ?_
            exact ⟨_, rfl, _, at1, y, rfl, ay.th, q⟩
          | y :: z :: r, q => exact ⟨_, rfl, q⟩
        · rw [md_none e1 h3 h2] at q
          match r, q with
          | [], q => exact ⟨_, rfl, q⟩
          | [y], q =>
            refine ⟨_, rfl, _, rfl, _, at0, ?_⟩
            refine brF (decide_eq_false h2) ?_
            refine ⟨_, rfl, _, at0, (by show 4 ≤ sizeLine; decide), nameW, rfl, rfl, ?_⟩
            refine brF (decide_eq_false h3) ?_
            exact q
          | y :: z :: r, q => exact ⟨_, rfl, q⟩
      | _ => exact no rfl
  | _ => exact nt rfl
end K51
set_option Elab.async false
set_option linter.all false
set_option maxRecDepth 100000
set_option maxHeartbeats 4000000
namespace K51
open PySem L2 DL
theorem clsX_list (A : Ad) : clsX A "list" = A.c_NoList := if_pos rfl
theorem clsX_task (A : Ad) : clsX A "task" = A.c_NoTask := if_neg (by decide +kernel)
abbrev notD : D → Bool := fun x => !isDeed x
section
variable {M : Mp} {t : D} {xs : List D}
theorem dueT_none (e : seqD M t = none) : dueT M t = .inl ("list", t) := by unfold dueT; rw [e]
theorem dueT_long (e : seqD M t = some xs) (h : 8 < xs.length) : dueT M t = .inl ("list", t) := by unfold dueT; rw [e]; exact if_pos h
theorem dueT_bad {x : D} (e : seqD M t = some xs) (h : xs.length ≤ 8) (hx : xs.find? notD = some x) : dueT M t = .inl ("task", x) := by
  unfold dueT
  rw [e]
  dsimp only
  rw [if_neg (by omega), hx]
theorem dueT_ok (e : seqD M t = some xs) (h : xs.length ≤ 8) (hx : xs.find? notD = none) : dueT M t = .inr xs := by
  unfold dueT
  rw [e]
  dsimp only
  rw [if_neg (by omega), hx]
end
theorem find_yes {x : D} {r : List D} (h : isDeed x = true) : (x :: r).find? notD = r.find? notD := by
  rw [List.find?_cons]
  show (match !isDeed x with | true => _ | false => _) = _
  rw [h]
  rfl
theorem find_no {x : D} {r : List D} (h : isDeed x = false) : (x :: r).find? notD = some x := by
  rw [List.find?_cons]
  show (match !isDeed x with | true => _ | false => _) = _
  rw [h]
  rfl
theorem rd_deeds_of (A : Ad) (hA : AdOk A) : ∀ ds M Qd Ed, sp_deeds_of A ds M Qd Ed → t_deeds_of A (ends Qd Ed) (dstart N_deeds_of ds) M := by
  intro ds M Qd Ed h
  obtain ⟨t, Z, rfl, al, q⟩ := h
  have long : dueT M t = .inl ("list", t) → Ed (.ref A.c_NoList) (some [("found", t)]) M := fun e => by
    rw [e] at q
    have q : Ed (.ref (clsX A "list")) (some [("found", t)]) M := q
    rw [clsX_list] at q
    exact q
  refine ⟨_, rfl, al.ty ?_⟩
  rw [tyA_two al]
  cases e : seqD M t with
  | none => exact ⟨_, rfl, long (dueT_none e)⟩
  | some xs =>
    refine ⟨_, rfl, ?_⟩
    dsimp only [dNil, dLen, one]
    refine seq_len e ?_
    refine br2 (fun e3 => ?_) (fun e3 => ?_)
    · have e3 := of_decide_eq_true e3
      exact ⟨_, rfl, long (dueT_long e (by omega))⟩
    have e3 := of_decide_eq_false e3
    have l8 : xs.length ≤ 8 := by omega
    have q1 : ∀ x, xs.find? notD = some x → Ed (.ref A.c_NoTask) (some [("found", x)]) M := fun x hx => by
      rw [dueT_bad e l8 hx] at q
      have q : Ed (.ref (clsX A "task")) (some [("found", x)]) M := q
      rw [clsX_task] at q
      exact q
    have q2 : xs.find? notD = none → ∀ M' p, Ext M M' → M p = none → M' p = some (.lst xs) → Qd (.ref p) M' := fun hx => by
      rw [dueT_ok e l8 hx] at q
      exact q
    refine ⟨_, rfl, ?_⟩
    refine seq_it e fun src hs => ?_
    refine loop_inv (fun rem δ M1 => M1 = M ∧ (∀ x ∈ rem, Al Z M x) ∧ rem.find? notD = xs.find? notD ∧ ∃ w, δ = [some t, w]) (fun y r δ M1 N h next => ?_) (fun δ M1 h => ?_) _ _ _ ⟨rfl, (al.seq e).2, rfl, none, rfl⟩
    · obtain ⟨rfl, ha, hf, w, rfl⟩ := h
      refine Src.okI hs ?_
      refine ⟨_, rfl, y, Z, rfl, ha y List.mem_cons_self, ?_⟩
      cases hd : isDeed y with
      | true =>
        rw [find_yes hd] at hf
        exact next _ _ ⟨rfl, fun x hx => ha x (List.mem_cons_of_mem _ hx), hf, _, rfl⟩
      | false =>
        rw [find_no hd] at hf
        exact ⟨_, rfl, q1 y hf.symm⟩
    · obtain ⟨rfl, _, hf, w, rfl⟩ := h
      refine Src.okI hs ?_
      refine ⟨_, rfl, ?_⟩
      dsimp only [dNil, dListM, one]
      refine seq_q e fun p hp => q2 hf.symm _ p (Ext.new hp) hp updM_same
theorem rd__law_due_of_task (A : Ad) (hA : AdOk A) : ∀ ds M Qd Ed, sp__law_due_of_task A ds M Qd Ed → t__law_due_of_task A (ends Qd Ed) (dstart N__law_due_of_task ds) M := by
  intro ds M Qd Ed h
  obtain ⟨t, Z, rfl, al, q⟩ := h
  have long : dueT M t = .inl ("list", t) → Qd (.lst [.str "list", t]) M := fun e => by
    unfold outT at q
    rw [e] at q
    exact q
  refine ⟨_, rfl, al.ty ?_⟩
  rw [tyA_two al]
  cases e : seqD M t with
  | none => exact ⟨_, rfl, (by show 2 ≤ sizeLine; decide), long (dueT_none e)⟩
  | some xs =>
    refine ⟨_, rfl, ?_⟩
    dsimp only [dNil, dLen, one]
    refine seq_len e ?_
    refine br2 (fun e3 => ?_) (fun e3 => ?_)
    · have e3 := of_decide_eq_true e3
      exact ⟨_, rfl, (by show 2 ≤ sizeLine; decide), long (dueT_long e (by omega))⟩
    have e3 := of_decide_eq_false e3
    have l8 : xs.length ≤ 8 := by omega
    refine ⟨_, rfl, ?_⟩
    refine seq_it e fun src hs => ?_
    refine loop_inv (fun rem δ M1 => M1 = M ∧ (∀ x ∈ rem, Al Z M x) ∧ rem.find? notD = xs.find? notD ∧ ∃ w, δ = [some t, w]) (fun y r δ M1 N h next => ?_) (fun δ M1 h => ?_) _ _ _ ⟨rfl, (al.seq e).2, rfl, none, rfl⟩
    · obtain ⟨rfl, ha, hf, w, rfl⟩ := h
      refine Src.okI hs ?_
      refine ⟨_, rfl, y, Z, rfl, ha y List.mem_cons_self, ?_⟩
      cases hd : isDeed y with
      | true =>
        rw [find_yes hd] at hf
        exact next _ _ ⟨rfl, fun x hx => ha x (List.mem_cons_of_mem _ hx), hf, _, rfl⟩
      | false =>
        rw [find_no hd] at hf
        unfold outT at q
        rw [dueT_bad e l8 hf.symm] at q
        exact ⟨_, rfl, (by show 2 ≤ sizeLine; decide), q⟩
    · obtain ⟨rfl, _, hf, w, rfl⟩ := h
      refine Src.okI hs ?_
      unfold outT at q
      rw [dueT_ok e l8 hf.symm] at q
      refine ⟨_, rfl, ?_⟩
      dsimp only [dNil, dList, one]
      refine seq_q e ?_
      exact ⟨(by show 2 ≤ sizeLine; decide), q⟩
end K51
set_option Elab.async false
set_option linter.all false
set_option maxRecDepth 100000
set_option maxHeartbeats 4000000
namespace K51
open PySem L2 DL
theorem Al.seqX {Z : Option Addr → Prop} {M M' : Mp} {x : D} (e : Ext M M') (h : Al Z M x) : seqD M' x = seqD M x := h.seqE fun a u _ z => e a u z
theorem dueT_eq {M M' : Mp} {x : D} (h : seqD M' x = seqD M x) : dueT M' x = dueT M x := by unfold dueT; rw [h]
theorem dueT_ext {Z : Option Addr → Prop} {M M' : Mp} {x : D} (e : Ext M M') (h : Al Z M x) : dueT M' x = dueT M x := dueT_eq (h.seqX e)
theorem dueL_ext {Z : Option Addr → Prop} {M M' : Mp} (e : Ext M M') : ∀ {ts : List D}, (∀ t ∈ ts, Al Z M t) → dueL M' ts = dueL M ts
  | [], _ => rfl
  | t :: r, h => by
    unfold dueL
    rw [dueT_ext e (h t List.mem_cons_self), dueL_ext e fun x hx => h x (List.mem_cons_of_mem _ hx)]
theorem dueS_ext {Z : Option Addr → Prop} {M M' : Mp} {t : D} (e : Ext M M') (h : Al Z M t) : dueS M' t = dueS M t := by
  unfold dueS
  rw [h.seqX e]
  cases q : seqD M t with
  | none => rfl
  | some ts =>
    dsimp only
    rw [dueL_ext e (h.seq q).2]
theorem outT_ext {Z : Option Addr → Prop} {M M' : Mp} {t : D} (e : Ext M M') (h : Al Z M t) : outT M' t = outT M t := by unfold outT; rw [dueT_ext e h]
theorem outS_ext {Z : Option Addr → Prop} {M M' : Mp} {t : D} (e : Ext M M') (h : Al Z M t) : outS M' t = outS M t := by unfold outS; rw [dueS_ext e h]
theorem dueL_bad {M : Mp} {t : D} {r : List D} {b : Bad} (h : dueT M t = .inl b) : dueL M (t :: r) = .inl b := by show (match dueT M t with | .inl e => _ | .inr xs => _) = _; rw [h]
theorem dueL_good {M : Mp} {t : D} {r : List D} {xs : List D} (h : dueT M t = .inr xs) : dueL M (t :: r) = match dueL M r with | .inl e => .inl e | .inr ys => .inr (xs :: ys) := by
  show (match dueT M t with | .inl e => _ | .inr xs => _) = _
  rw [h] <;> rfl
def Left (M : Mp) (ts : List D) (done : List (List D)) (rem : List D) : Prop := (∀ b, dueL M rem = .inl b → dueL M ts = .inl b) ∧ ∀ ys, dueL M rem = .inr ys → dueL M ts = .inr (done ++ ys)
theorem Left.start {M : Mp} {ts : List D} : Left M ts [] ts := ⟨fun _ h => h, fun _ h => h⟩
theorem Left.bad {M : Mp} {ts r : List D} {done : List (List D)} {t : D} {b : Bad} (h : Left M ts done (t :: r)) (e : dueT M t = .inl b) : dueL M ts = .inl b := h.1 b (dueL_bad e)
theorem Left.next {M : Mp} {ts r : List D} {done : List (List D)} {t : D} {xs : List D} (h : Left M ts done (t :: r)) (e : dueT M t = .inr xs) : Left M ts (done ++ [xs]) r := by
  refine ⟨fun b hb => h.1 b (by rw [dueL_good e, hb]), fun ys hy => ?_⟩
  rw [h.2 (xs :: ys) (by rw [dueL_good e, hy]), List.append_assoc]
  rfl
theorem Left.fin {M : Mp} {ts : List D} {done : List (List D)} (h : Left M ts done []) : dueL M ts = .inr done := by
  have := h.2 [] rfl
  rwa [List.append_nil] at this
theorem kind_of {M : Mp} {t x : D} {k : Str} (h : dueT M t = .inl (k, x)) : k = "list" ∨ k = "task" := by
  unfold dueT at h
  split at h
  · cases h; exact .inl rfl
  · split at h
    · cases h; exact .inl rfl
    · split at h
      · cases h; exact .inr rfl
      · cases h
section
variable {t : TgI} {te : DTE} {src : Src} {vs : List Nat} {δ : DS} {k : List D → Mp → Prop} {E : DXK}
theorem comp_invX (J : List D → List D → Mp → Prop)
    (step : ∀ x r acc M (R : DK), J (x :: r) acc M → (∀ y M', J r (acc ++ [y]) M' → R y M') → src.ok M (t.d x (dwipe δ vs) fun δ2 => te δ2 M R E))
    (fin : ∀ acc M, J [] acc M → src.ok M (acc.length ≤ sizeLine ∧ k acc M)) : ∀ (xs acc : List D) (M : Mp), J xs acc M → dCompX t te src vs δ k E xs acc M
  | [], acc, M, h => fin acc M h
  | x :: r, acc, M, h => step x r acc M _ h fun y M' h' => comp_invX J step fin r (acc ++ [y]) M' h'
end
theorem shs_pairs {M : Mp} : ∀ {zs : List (Addr × List D)} {ss : List Sh}, (∀ z ∈ zs, M z.1 = some (.lst z.2)) → ShOfs M (zs.map fun z => .lst z.2) ss → ShOfs M (zs.map fun z => .ref z.1) ss
  | [], _, _, h => by cases h; exact .nil
  | z :: r, _, h, q => by
    cases q with
    | cons a b =>
      cases a with
      | lst rs => exact .cons (.lstM (h z List.mem_cons_self) rs) (shs_pairs (fun y hy => h y (List.mem_cons_of_mem _ hy)) b)
theorem dueS_list {M : Mp} {t : D} (h : ∀ ts, seqD M t = some ts → ¬ (1 ≤ ts.length ∧ ts.length ≤ 3)) : dueS M t = .inl ("list", t) := by
  unfold dueS
  cases e : seqD M t with
  | none => rfl
  | some ts => exact if_neg (h ts e)
theorem dueS_some {M : Mp} {t : D} {ts : List D} (e : seqD M t = some ts) (h : 1 ≤ ts.length ∧ ts.length ≤ 3) : dueS M t = dueL M ts := by
  unfold dueS
  rw [e]
  exact if_pos h
theorem rd_tasks_of (A : Ad) (hA : AdOk A) : ∀ ds M Qd Ed, sp_tasks_of A ds M Qd Ed → t_tasks_of A (ends Qd Ed) (dstart N_tasks_of ds) M := by
  intro ds M Qd Ed h
  obtain ⟨t, Z, rfl, al, q⟩ := h
  have q1 : ∀ k x, dueS M t = .inl (k, x) → ∀ M', Ext M M' → Ed (.ref (clsX A k)) (some [("found", x)]) M' := fun k x e => by
    rw [e] at q
    exact q
  have q2 : ∀ ys, dueS M t = .inr ys → ∀ M' p zs, Ext M M' → M p = none → M' p = some (.lst zs) → zs.length ≤ 3 → Sam M' (.ref p) (.lst (ys.map D.lst)) → Qd (.ref p) M' := fun ys e => by
    rw [e] at q
    exact q
  have long : dueS M t = .inl ("list", t) → Ed (.ref A.c_NoList) (some [("found", t)]) M := fun e => by
    have q := q1 _ _ e M (Ext.refl M)
    rwa [clsX_list] at q
  refine ⟨_, rfl, al.ty ?_⟩
  rw [tyA_two al]
  cases e : seqD M t with
  | none => exact ⟨_, rfl, long (dueS_list fun ts h => by rw [e] at h; cases h)⟩
  | some ts =>
    have main : 1 ≤ ts.length ∧ ts.length ≤ 3 → (dRet (dLcXM (iQ (dVar 0)) (.one 1) (dCall (sp_deeds_of A) (dCons (dVar 1) (dNil))) [1])) (ends Qd Ed) [some t, none] M := fun hl => by
      have es := dueS_some e hl
      refine ⟨_, rfl, ?_⟩
      refine seq_it3 e fun src hs => ?_
      refine ⟨Nat.lt_of_le_of_lt hl.2 (by decide), ?_⟩
      refine comp_invX (fun rem acc M1 => Ext M M1 ∧ (∀ x ∈ rem, Al Z M x) ∧ ∃ zs : List (Addr × List D), acc = zs.map (fun z => D.ref z.1) ∧ (∀ z ∈ zs, M1 z.1 = some (.lst z.2)) ∧ Left M ts (zs.map (·.2)) rem ∧ zs.length + rem.length ≤ 3) (fun x r acc M1 R h next => ?_) (fun acc M1 h => ?_) _ _ _ ⟨Ext.refl M, (al.seq e).2, [], rfl, (fun _ z => nomatch z), Left.start, by simpa using hl.2⟩
      · obtain ⟨x1, ha, zs, rfl, hz, lf, hc⟩ := h
        refine Src.okI (hs M1 x1) ?_
        have ax := ha x List.mem_cons_self
        refine ⟨_, rfl, x, Z, rfl, ax.ext x1, ?_⟩
        rw [dueT_ext x1 ax]
        cases hd : dueT M x with
        | inl b =>
          obtain ⟨k, y⟩ := b
          exact q1 k y (es.trans (lf.bad hd)) M1 x1
        | inr xs =>
          intro M2 p x2 hp hm
          refine next _ _ ⟨x1.trans x2, fun y hy => ha y (List.mem_cons_of_mem _ hy), zs ++ [(p, xs)], by rw [List.map_append]; rfl, fun z hz' => ?_, by rw [List.map_append]; exact lf.next hd, by rw [List.length_append]; simp only [List.length_cons, List.length_nil] at hc ⊢; omega⟩
          rcases List.mem_append.mp hz' with h | h
          · exact x2 _ _ (hz z h)
          · rw [List.mem_singleton.mp h]; exact hm
      · obtain ⟨x1, _, zs, rfl, hz, lf, hc⟩ := h
        refine Src.okI (hs M1 x1) ⟨?_, fun p hp => ?_⟩
        · rw [List.length_map]
          exact Nat.le_trans (by simpa using hc : zs.length ≤ 3) (by decide)
        · have x2 : Ext M1 (updM M1 p (.lst (zs.map fun z => D.ref z.1))) := Ext.new hp
          have hp0 : M p = none := by
            cases z : M p with
            | none => rfl
            | some o => rw [x1 p o z] at hp; cases hp
          refine q2 _ (es.trans lf.fin) _ p _ (x1.trans x2) hp0 updM_same (by rw [List.length_map]; simpa using hc) fun M3 s x3 sh => ?_
          cases sh with
          | lst rs =>
            refine .lstM (x3 _ _ updM_same) (shs_pairs (fun z h => x3 _ _ (x2 _ _ (hz z h))) ?_)
            rw [List.map_map] at rs
            exact rs
    have no : ¬ (1 ≤ ts.length ∧ ts.length ≤ 3) → Ed (.ref A.c_NoList) (some [("found", t)]) M := fun n => long (dueS_list fun ts' h => by rw [e] at h; cases h; exact n)
    refine ⟨_, rfl, ?_⟩
    dsimp only [dNil, dLen, one]
    refine seq_len e ?_
    refine br2 (fun e1 => ?_) (fun e1 => ?_)
    · have e1 := of_decide_eq_true e1
      refine br2 (fun e2 => ?_) (fun e2 => ?_)
      · simp only [Bool.not_eq_true', decide_eq_false_iff_not] at e2
        exact ⟨_, rfl, no (by omega)⟩
      · have e2 : (ts.length : Int) ≤ 3 := by simpa using e2
        exact main (by omega)
    · have e1 := of_decide_eq_false e1
      exact ⟨_, rfl, no (by omega)⟩
end K51
set_option Elab.async false
set_option linter.all false
set_option maxRecDepth 100000
set_option maxHeartbeats 4000000
namespace K51
open PySem L2 DL
theorem seq_it4 {M M' : Mp} {d : D} {xs : List D} {R : List D → Src → Prop} (x : Ext M M') (h : seqD M d = some xs) (q : ∀ src : Src, (∀ M'', Ext M M'' → src.holds M'') → R xs src) : asS M' d R := by
  cases d with
  | ref a =>
    unfold seqD at h
    dsimp only at h
    split at h
    · rename_i ys e
      cases h
      exact ⟨_, x a _ e, q (.at a _) fun M'' y => y a _ e⟩
    · cases h
  | lst ys => cases h; exact q .data fun _ _ => trivial
  | tup ys => cases h; exact q .data fun _ _ => trivial
  | _ => cases h
theorem rd__law_due (A : Ad) (hA : AdOk A) : ∀ ds M Qd Ed, sp__law_due A ds M Qd Ed → t__law_due A (ends Qd Ed) (dstart N__law_due ds) M := by
  intro ds M Qd Ed h
  obtain ⟨t, Z, rfl, al, q⟩ := h
  have q1 : ∀ k x, dueS M t = .inl (k, x) → ∀ M', Ext M M' → Qd (.lst [.str k, x]) M' := fun k x e => by
    unfold outS at q
    rw [e] at q
    exact q
  have q2 : ∀ ys, dueS M t = .inr ys → ∀ M' p, Ext M M' → Sam M' (.ref p) (.lst (ys.map D.lst)) → Qd (.lst [.str "told", .ref p]) M' := fun ys e => by
    unfold outS at q
    rw [e] at q
    exact q
  have two : ∀ a b : D, [a, b].length ≤ sizeLine := fun a b => by show 2 ≤ sizeLine; decide
  refine ⟨_, rfl, al.ty ?_⟩
  rw [tyA_two al]
  cases e : seqD M t with
  | none => exact ⟨_, rfl, two _ _, q1 _ _ (dueS_list fun ts h => by rw [e] at h; cases h) M (Ext.refl M)⟩
  | some ts =>
    have no : ¬ (1 ≤ ts.length ∧ ts.length ≤ 3) → Qd (.lst [.str "list", t]) M := fun n => q1 _ _ (dueS_list fun ts' h => by rw [e] at h; cases h; exact n) M (Ext.refl M)
    refine ⟨_, rfl, ?_⟩
    dsimp only [dNil, dLen, one]
    refine seq_len e ?_
    have main : 1 ≤ ts.length ∧ ts.length ≤ 3 → (dSeq (dAsg (dLstM (dNil)) (gdName 1)) (dSeq (dFor (iQ (dVar 0)) (gdName 2) (b1__law_due A)) (dRet (dLst (dCons (dC (.str "told")) (dCons (dVar 1) (dNil))))))) (ends Qd Ed) [some t, none, none, none] M := fun hl => by
      have es := dueS_some e hl
      refine ⟨(by show 0 ≤ sizeLine; decide), fun p hp => ?_⟩
      have x0 : Ext M (updM M p (.lst [])) := Ext.new hp
      refine ⟨_, rfl, ?_⟩
      refine seq_it4 x0 e fun src hs => ?_
      have offP : ∀ {M1 : Mp} {o : MO}, Ext M M1 → Ext M (updM M1 p o) := fun {M1 o} x a u z => by
        rw [updM_ne fun w => by rw [w, hp] at z; cases z]
        exact x a u z
      refine loop_inv (fun rem δ M1 => Ext M M1 ∧ (∀ x ∈ rem, Al Z M x) ∧ ∃ (done : List (List D)) (w2 w3 : Option D), M1 p = some (.lst (done.map D.lst)) ∧ Left M ts done rem ∧ done.length + rem.length ≤ 3 ∧ δ = [some t, some (.ref p), w2, w3]) (fun y r δ M1 N h next => ?_) (fun δ M1 h => ?_) _ _ _ ⟨x0, (al.seq e).2, [], none, none, updM_same, Left.start, by simpa using hl.2, rfl⟩
      · obtain ⟨x1, ha, done, w2, w3, hm, lf, hc, rfl⟩ := h
        refine Src.okI (hs M1 x1) ?_
        have ay := ha y List.mem_cons_self
        simp only [List.length_cons] at hc
        refine ⟨_, rfl, y, Z, rfl, ay.ext x1, ?_⟩
        rw [outT_ext x1 ay]
        unfold outT
        cases hd : dueT M y with
        | inl b =>
          obtain ⟨k, x⟩ := b
          refine ⟨_, rfl, _, rfl, ?_⟩
          refine brT (b := !decide (k = ("told" : Str))) (by
            have kk : k ≠ "told" := by
              rcases kind_of hd with rfl | rfl <;> decide +kernel
            rw [decide_eq_false kk]; rfl) ?_
          exact ⟨_, rfl, q1 k x (es.trans (lf.bad hd)) M1 x1⟩
        | inr xs =>
          refine ⟨_, rfl, _, rfl, ?_⟩
          refine ⟨_, rfl, ⟨_, hm⟩, _, rfl, _, rfl, _, hm, Nat.lt_of_le_of_lt (by rw [List.length_map]; omega : _ ≤ 3) (by decide), ?_⟩
          refine next _ _ ⟨offP x1, fun z hz => ha z (List.mem_cons_of_mem _ hz), done ++ [xs], _, _, by rw [updM_same, List.map_append]; rfl, lf.next hd, by rw [List.length_append, List.length_singleton]; omega, rfl⟩
      · obtain ⟨x1, _, done, w2, w3, hm, lf, hc, rfl⟩ := h
        refine Src.okI (hs M1 x1) ?_
        refine ⟨_, rfl, two _ _, q2 _ (es.trans lf.fin) M1 p x1 fun M2 s x2 sh => ?_⟩
        cases sh with
        | lst rs => exact .lstM (x2 _ _ hm) rs
    refine br2 (fun e1 => ?_) (fun e1 => ?_)
    · have e1 := of_decide_eq_true e1
      refine br2 (fun e2 => ?_) (fun e2 => ?_)
      · simp only [Bool.not_eq_true', decide_eq_false_iff_not] at e2
        exact ⟨_, rfl, two _ _, no (by omega)⟩
      · have e2 : (ts.length : Int) < 4 := by simpa using e2
        exact main (by omega)
    · have e1 := of_decide_eq_false e1
      exact ⟨_, rfl, two _ _, no (by omega)⟩
end K51
set_option Elab.async false
set_option linter.all false
set_option maxRecDepth 100000
set_option maxHeartbeats 4000000
namespace K51
open PySem L2 DL
theorem kindL {M : Mp} {x : D} {k : Str} : ∀ {ts : List D}, dueL M ts = .inl (k, x) → k = "list" ∨ k = "task"
  | [], h => by cases h
  | t :: r, h => by
    cases e : dueT M t with
    | inl b => rw [dueL_bad e] at h; cases h; exact kind_of e
    | inr xs =>
      rw [dueL_good e] at h
      cases e2 : dueL M r with
      | inl b => rw [e2] at h; cases h; exact kindL e2
      | inr ys => rw [e2] at h; cases h
theorem kindS {M : Mp} {t x : D} {k : Str} (h : dueS M t = .inl (k, x)) : k = "list" ∨ k = "task" := by
  unfold dueS at h
  split at h
  · cases h; exact .inl rfl
  · split at h
    · exact kindL h
    · cases h; exact .inl rfl
theorem out_kind {A : Ad} {M : Mp} {f : Addr} {t x : D} {k : Str} {o : Bad ⊕ D} (h : OutOf A M f t o) (e : o = .inl (k, x)) : k = "list" ∨ k = "task" := by
  rcases h with ⟨_, h⟩ | ⟨_, h⟩
  · rw [h] at e
    unfold outS at e
    cases q : dueS M t with
    | inl b => rw [q] at e; cases e; exact kindS q
    | inr ys => rw [q] at e; cases e
  · rw [h] at e
    unfold outT at e
    cases q : dueT M t with
    | inl b => rw [q] at e; cases e; exact kind_of q
    | inr ys => rw [q] at e; cases e
theorem OutOf.ext {A : Ad} {Z : Option Addr → Prop} {M M' : Mp} {f : Addr} {t : D} {o : Bad ⊕ D} (x : Ext M M') (al : Al Z M t) (h : OutOf A M f t o) : OutOf A M' f t o := by
  rcases h with ⟨a, b⟩ | ⟨a, b⟩
  · exact .inl ⟨a, b.trans (outS_ext x al).symm⟩
  · exact .inr ⟨a, b.trans (outT_ext x al).symm⟩
theorem two_ok (a b : D) : [a, b].length ≤ sizeLine := by show 2 ≤ sizeLine; decide
theorem rd__law_caught (A : Ad) (hA : AdOk A) : ∀ ds M Qd Ed, sp__law_caught A ds M Qd Ed → t__law_caught A (ends Qd Ed) (dstart N__law_caught ds) M := by
  intro ds M Qd Ed h
  obtain ⟨f, t, Z, o, rfl, al, oo, q⟩ := h
  have bad : ∀ (k : Str) (x : D) (M1 : Mp), (k = "list" ∨ k = "task") → (∀ M', Ext M1 M' → Qd (.lst [.str k, x]) M') → dClauses A.xm (ends Qd Ed) [⟨[.ref A.c_NoList], some 2, fun a cls d => dRet (dLst (dCons (dC (.str "list")) (dCons (dXF a cls d A.c_NoList "found" (dVar 2)) (dNil))))⟩, ⟨[.ref A.c_NoTask], some 2, fun a cls d => dRet (dLst (dCons (dC (.str "task")) (dCons (dXF a cls d A.c_NoTask "found" (dVar 2)) (dNil))))⟩, ⟨[.ref A.c_WakeError, .ref A.c_StateError], none, fun a cls d => dRet (dLst (dCons (dC (.str "another")) (dCons (dC .non) (dNil))))⟩] (.ref (clsX A k)) (some [("found", x)]) [some (.ref f), some t, none] M1 := fun k x M1 hk qq => by
    rcases hk with rfl | rfl
    · rw [clsX_list]
      refine ⟨true, hA.xm_NoList_NoList, fun a dd ha hd ne => ?_⟩
      exact ⟨_, rfl, rfl, rfl, dd, _, _, rfl, updM_same, rfl, two_ok _ _, qq _ (Ext.new hd)⟩
    · rw [clsX_task]
      refine ⟨false, hA.xm_NoTask_NoList, true, hA.xm_NoTask_NoTask, fun a dd ha hd ne => ?_⟩
      exact ⟨_, rfl, rfl, rfl, dd, _, _, rfl, updM_same, rfl, two_ok _ _, qq _ (Ext.new hd)⟩
  rcases oo with ⟨rfl, eo⟩ | ⟨rfl, eo⟩
  · refine ⟨_, rfl, _, rfl, .inl ⟨rfl, _, rfl, rfl, rfl, t, Z, rfl, al, ?_⟩⟩
    subst eo
    unfold outS at q
    cases e : dueS M t with
    | inl b =>
      obtain ⟨k, x⟩ := b
      rw [e] at q
      intro M1 x1
      exact bad k x M1 (kindS e) fun M' x2 => q M' (x1.trans x2)
    | inr ys =>
      rw [e] at q
      intro M1 p zs x1 hp hm hz sam
      exact ⟨two_ok _ _, q M1 p zs x1 hp hm (by omega) sam⟩
  · refine ⟨_, rfl, _, rfl, .inr ⟨rfl, _, rfl, rfl, rfl, t, Z, rfl, al, ?_⟩⟩
    subst eo
    unfold outT at q
    cases e : dueT M t with
    | inl b =>
      obtain ⟨k, x⟩ := b
      rw [e] at q
      exact bad k x M (kind_of e) fun M' x2 => q M' x2
    | inr xs =>
      rw [e] at q
      intro M1 p x1 hp hm
      have l8 : xs.length ≤ 8 := by
        unfold dueT at e
        split at e
        · cases e
        · split at e
          · cases e
          · split at e
            · cases e
            · cases e; omega
      refine ⟨two_ok _ _, q M1 p xs x1 hp hm l8 fun M2 s x2 sh => ?_⟩
      cases sh with
      | lst rs => exact .lstM (x2 _ _ hm) rs
end K51
set_option Elab.async false
set_option linter.all false
set_option maxRecDepth 100000
set_option maxHeartbeats 4000000
namespace K51
open PySem L2 DL
section
variable {Z : Option Addr → Prop} {M : Mp} {n c : Nat}
theorem bad_thing {t x : D} {k : Str} (al : Al Z M t) (sw : Shw M t n c) (h : dueT M t = .inl (k, x)) : Al Z M x ∧ Shw M x n c := by
  cases e : seqD M t with
  | none => rw [dueT_none e] at h; cases h; exact ⟨al, sw⟩
  | some xs =>
    by_cases l : 8 < xs.length
    · rw [dueT_long e l] at h; cases h; exact ⟨al, sw⟩
    · cases hx : xs.find? notD with
      | some y =>
        rw [dueT_bad e (by omega) hx] at h
        cases h
        have hm := List.mem_of_find?_eq_some hx
        exact ⟨(al.seq e).2 _ hm, shw_item sw e hm⟩
      | none => rw [dueT_ok e (by omega) hx] at h; cases h
theorem badL {x : D} {k : Str} : ∀ {ts : List D}, (∀ t ∈ ts, Al Z M t ∧ Shw M t n c) → dueL M ts = .inl (k, x) → Al Z M x ∧ Shw M x n c
  | [], _, h => by cases h
  | t :: r, hh, h => by
    cases e : dueT M t with
    | inl b =>
      rw [dueL_bad e] at h; cases h
      obtain ⟨a, s⟩ := hh t List.mem_cons_self
      exact bad_thing a s e
    | inr xs =>
      rw [dueL_good e] at h
      cases e2 : dueL M r with
      | inl b => rw [e2] at h; cases h; exact badL (fun y hy => hh y (List.mem_cons_of_mem _ hy)) e2
      | inr ys => rw [e2] at h; cases h
theorem out_bad {A : Ad} {f : Addr} {t x : D} {k : Str} {o : Bad ⊕ D} (al : Al Z M t) (sw : Shw M t n c) (h : OutOf A M f t o) (eo : o = .inl (k, x)) : Al Z M x ∧ Shw M x n c := by
  rcases h with ⟨_, h⟩ | ⟨_, h⟩
  · rw [h] at eo
    unfold outS at eo
    cases q : dueS M t with
    | inr ys => rw [q] at eo; cases eo
    | inl b =>
      rw [q] at eo; cases eo
      unfold dueS at q
      split at q
      · cases q; exact ⟨al, sw⟩
      · rename_i ts e
        split at q
        · exact badL (fun y hy => ⟨(al.seq e).2 y hy, shw_item sw e hy⟩) q
        · cases q; exact ⟨al, sw⟩
  · rw [h] at eo
    unfold outT at eo
    cases q : dueT M t with
    | inl b => rw [q] at eo; cases eo; exact bad_thing al sw q
    | inr ys => rw [q] at eo; cases eo
theorem told_seq {t : D} {xs : List D} (h : dueT M t = .inr xs) : seqD M t = some xs := by
  unfold dueT at h
  split at h
  · cases h
  · rename_i ys e
    split at h
    · cases h
    · split at h
      · cases h
      · cases h; exact e
theorem toldL {ts : List D} {ss : List Sh} {ys : List (List D)} (h : ShOfs M ts ss) (e : dueL M ts = .inr ys) : ∃ rs, ShOfs M (ys.map D.lst) rs ∧ Sh.deps rs = Sh.deps ss ∧ Sh.ws rs = Sh.ws ss := by
  induction h using ShOfs.rec (motive_1 := fun _ _ _ => True) generalizing ys with
  | nil => cases e; exact ⟨[], .nil, rfl, rfl⟩
  | @cons d s ds ss a b _ ih =>
    cases e1 : dueT M d with
    | inl b => rw [dueL_bad e1] at e; cases e
    | inr xs =>
      rw [dueL_good e1] at e
      cases e2 : dueL M ds with
      | inl b => rw [e2] at e; cases e
      | inr zs =>
        rw [e2] at e
        cases e
        obtain ⟨rs, r1, r2, r3⟩ := ih e2
        have e3 := told_seq e1
        cases a with
        | lst q => cases e3; exact ⟨_, .cons (.lst q) r1, by simp only [Sh.deps, r2], by simp only [Sh.ws, r3]⟩
        | tup q => cases e3; exact ⟨_, .cons (.lst q) r1, by simp only [Sh.deps, Sh.dep, r2], by simp only [Sh.ws, Sh.w, r3]⟩
        | lstM m q => simp only [seqD, m] at e3; cases e3; exact ⟨_, .cons (.lst q) r1, by simp only [Sh.deps, r2], by simp only [Sh.ws, r3]⟩
        | dctM m _ _ => simp only [seqD, m] at e3; cases e3
        | exs m _ _ => simp only [seqD, m] at e3; cases e3
        | _ => cases e3
  | _ => trivial
theorem out_told {A : Ad} {f : Addr} {t d : D} {o : Bad ⊕ D} (sw : Shw M t n c) (h : OutOf A M f t o) (eo : o = .inr d) : Shw M d n c := by
  rcases h with ⟨_, h⟩ | ⟨_, h⟩
  · rw [h] at eo
    unfold outS at eo
    cases q : dueS M t with
    | inl b => rw [q] at eo; cases eo
    | inr ys =>
      rw [q] at eo; cases eo
      unfold dueS at q
      split at q
      · cases q
      · rename_i ts e
        split at q
        · obtain ⟨ss, r, d, w⟩ := shw_seq sw e
          obtain ⟨rs, r1, r2, r3⟩ := toldL r q
          exact ⟨_, .lst r1, by simp only [Sh.dep]; omega, by simp only [Sh.w]; omega⟩
        · cases q
  · rw [h] at eo
    unfold outT at eo
    cases q : dueT M t with
    | inl b => rw [q] at eo; cases eo
    | inr xs => rw [q] at eo; cases eo; exact shw_asl sw (told_seq q)
end
end K51
set_option Elab.async false
set_option linter.all false
set_option maxRecDepth 100000
set_option maxHeartbeats 4000000
namespace K51
open PySem L2 DL
theorem tyA_lst {Z : Option Addr → Prop} {M : Mp} {x : D} (h : Al Z M x) (nz : ¬ Z none) : (isT (tyA M x) .lst = false) ∨ ∃ p ys, x = .ref p ∧ Z (some p) ∧ M p = some (.lst ys) ∧ ys.length ≤ 16000 ∧ isT (tyA M x) .lst = true := by
  cases h with
  | lst z _ _ => exact absurd z nz
  | ref z m l _ => exact .inr ⟨_, _, rfl, z, m, l, by simp only [tyA, m]; rfl⟩
  | exs _ m => exact .inl (by simp only [tyA, m]; rfl)
  | _ => exact .inl rfl
theorem shw_more_str {M : Mp} : Shw M (.str "more") 0 1000000 := (shw_str (n := 4) (ok_of "more") (by decide +kernel) (by decide)).mono (Nat.le_refl _) (by decide)
theorem shw_get {M : Mp} {d : D} {n c : Nat} (h : Shw M d n c) (hn : n ≤ 60) (hc : c ≤ 16000000) : ∃ t, ShOf M d t ∧ t.dep ≤ 60 ∧ t.text.length ≤ sizeLine := by
  obtain ⟨t, a, b, k, _⟩ := show_big (Q := fun _ _ => True) h hn hc fun _ _ _ _ => trivial
  exact ⟨t, a, b, k⟩
theorem rd__law_holds (A : Ad) (hA : AdOk A) : ∀ ds M Qd Ed, sp__law_holds A ds M Qd Ed → t__law_holds A (ends Qd Ed) (dstart N__law_holds ds) M := by
  intro ds M Qd Ed h
  obtain ⟨f, t, k, x, Z, o, rfl, al, sw, oo, ko, q⟩ := h
  obtain ⟨s, sh, sd, sl⟩ := shw_get sw (by decide) (by decide)
  refine ⟨_, rfl, s, sh, sd, sl, ?_⟩
  refine ⟨_, rfl, _, rfl, f, t, Z, o, rfl, al, oo, ?_⟩
  cases o with
  | inl b =>
    obtain ⟨k', y⟩ := b
    obtain ⟨rfl, rfl, nz⟩ := ko
    have kk : k ≠ "told" := by rcases out_kind oo rfl with rfl | rfl <;> decide +kernel
    obtain ⟨ax, sx⟩ := out_bad al sw oo rfl
    intro M1 x1
    have al1 := al.ext x1
    have ax1 := ax.ext x1
    refine ⟨_, rfl, _, rfl, _, rfl, _, rfl, ?_⟩
    refine brF (b := !decide (k = k)) (by simp) ?_
    obtain ⟨s1, sh1, sd1, sl1⟩ := shw_get (sx.ext x1) (by decide) (by decide)
    refine ⟨_, rfl, _, rfl, s1, sh1, sd1, sl1, _, rfl, _, rfl, s1, sh1, sd1, sl1, ?_⟩
    refine brF (b := !decide (s1.text = s1.text)) (by simp) ?_
    refine ⟨_, rfl, s, sh.ext x1, sd, sl, _, rfl, ?_⟩
    refine brF (b := !decide (s.text = s.text)) (by simp) ?_
    refine ⟨_, rfl, _, rfl, ?_⟩
    refine brF (b := decide (k = ("told" : Str))) (decide_eq_false kk) ?_
    refine ⟨_, rfl, _, rfl, ax1.ty ?_⟩
    rcases tyA_lst ax1 nz with e | ⟨p, ys, rfl, zp, hm, hl, e⟩
    · rw [e]
      refine ⟨_, rfl, _, rfl, s1, sh1, sd1, sl1, _, rfl, _, rfl, s1, sh1, sd1, sl1, ?_⟩
      show Qd (.bl (decide (s1.text = s1.text))) M1
      rw [decide_eq_true rfl]
      exact q M1 fun a u h z => x1 a u z
    · rw [e]
      refine ⟨_, rfl, _, rfl, ⟨_, hm⟩, _, hm, Nat.lt_of_le_of_lt hl (by decide), ?_⟩
      obtain ⟨s2, sh2, sd2, sl2⟩ := shw_get (shw_more hm (sx.ext x1) fun M' => shw_more_str) (by decide) (by decide)
      refine ⟨_, rfl, _, rfl, s2, sh2, sd2, sl2, _, rfl, _, rfl, s2, sh2, sd2, sl2, ?_⟩
      show Qd (.bl (decide (s2.text = s2.text))) _
      rw [decide_eq_true rfl]
      refine q _ fun a u h z => ?_
      have na : a ≠ p := fun w => by
        subst w
        rcases h with h | h
        · cases h
        · exact h zp
      rw [updM_ne na]
      exact x1 a u z
  | inr d =>
    obtain ⟨hk, sam⟩ := ko
    obtain ⟨s2, sh2, sd2, sw2⟩ := out_told sw oo rfl
    have sl2 : s2.text.length ≤ sizeLine := Nat.le_trans (Sh.text_le _) (Nat.le_trans sw2 (by decide))
    intro M1 p zs x1 hp hm hz sam1
    have a1 := sam1 M1 s2 (Ext.refl _) (sh2.ext x1)
    have b1 := sam M1 s2 x1 (sh2.ext x1)
    refine ⟨_, rfl, _, rfl, _, rfl, _, rfl, ?_⟩
    refine brF (b := !decide (("told" : Str) = k)) (by rw [hk]; simp) ?_
    refine ⟨_, rfl, _, rfl, s2, a1, by omega, sl2, _, rfl, _, rfl, s2, b1, by omega, sl2, ?_⟩
    refine brF (b := !decide (s2.text = s2.text)) (by simp) ?_
    refine ⟨_, rfl, s, sh.ext x1, sd, sl, _, rfl, ?_⟩
    refine brF (b := !decide (s.text = s.text)) (by simp) ?_
    refine ⟨_, rfl, _, rfl, ?_⟩
    refine brT (b := decide (k = ("told" : Str))) (decide_eq_true hk) ?_
    refine ⟨_, rfl, _, rfl, ⟨_, hm⟩, _, hm, Nat.lt_of_le_of_lt hz (by decide), ?_⟩
    have x2 : Ext M (updM M1 p (.lst (zs ++ [.str "more"]))) := fun a u z => by
      rw [updM_ne fun w => by rw [w, hp] at z; cases z]
      exact x1 a u z
    refine ⟨_, rfl, _, rfl, f, t, Z, .inr d, rfl, al.ext x2, oo.ext x2 al, ?_⟩
    intro M3 p3 zs3 x3 hp3 hm3 hz3 sam3
    have x4 := x2.trans x3
    have a3 := sam3 M3 s2 (Ext.refl _) (sh2.ext x4)
    have b3 := sam M3 s2 x4 (sh2.ext x4)
    have t1 : (reprText ("told" : Str)).length ≤ 100 := by decide +kernel
    have t2 : (reprText ("told" : Str)).length ≤ sizeLine := Nat.le_trans t1 (by decide)
    have hT : ShOf M3 (.lst [.str "told", .ref p3]) (.lst [.leaf (reprText "told"), s2]) := .lst (.cons (.str t2) (.cons a3 .nil))
    have hT2 : ShOf M3 (.lst [.str k, x]) (.lst [.leaf (reprText "told"), s2]) := by
      rw [hk]
      exact .lst (.cons (.str t2) (.cons b3 .nil))
    have dT : (Sh.lst [.leaf (reprText "told"), s2]).dep ≤ 60 := by simp only [Sh.dep, Sh.deps]; omega
    have lT : (Sh.lst [.leaf (reprText "told"), s2]).text.length ≤ sizeLine := Nat.le_trans (Sh.text_le _) (Nat.le_trans (by simp only [Sh.w, Sh.ws]; omega : _ ≤ 1000200) (by decide))
    refine ⟨_, hT, dT, lT, _, rfl, _, hT2, dT, lT, ?_⟩
    refine brT (b := decide ((Sh.lst [.leaf (reprText "told"), s2]).text = (Sh.lst [.leaf (reprText "told"), s2]).text)) (decide_eq_true rfl) ?_
    refine ⟨_, rfl, s, sh.ext x4, sd, sl, _, rfl, ?_⟩
    show Qd (.bl (decide (s.text = s.text))) M3
    rw [decide_eq_true rfl]
    exact q M3 fun a u _ z => x4 a u z
end K51
set_option Elab.async false
set_option linter.all false
set_option maxRecDepth 100000
set_option maxHeartbeats 4000000
namespace K51
open PySem L2 DL
def wordsW : List Str := ["gain", "release", "use", "bell", "tick", "look", "sleep", "rise"]
theorem words_of : ∀ w ∈ wordsW, w ∈ nameW ∨ w = "tick" ∨ w ∈ oneW := by decide +kernel
theorem name_no {w : Str} (h : w ∈ nameW) : w ∉ oneW ∧ w ≠ "tick" := by
  have e : ∀ w ∈ nameW, w ∉ oneW ∧ w ≠ "tick" := by decide +kernel
  exact e w h
theorem rd__law_deed (A : Ad) (hA : AdOk A) : ∀ ds M Qd Ed, sp__law_deed A ds M Qd Ed → t__law_deed A (ends Qd Ed) (dstart N__law_deed ds) M := by
  intro ds M Qd Ed h
  obtain ⟨b, ss, n, rfl, hb, hn, ne, sl, nm, q⟩ := h
  refine ⟨(by show 8 ≤ sizeLine; decide), _, rfl, b, 8, n, rfl, hb, by omega, by decide, by decide, fun M1 v s1 hb1 v0 v1 => ?_⟩
  obtain ⟨wd, ew, mw⟩ := at_some (xs := wordsW.map D.str) v0 (by show _ < 8; exact v1)
  obtain ⟨w, hw, rfl⟩ := List.mem_map.mp mw
  refine ⟨_, ew, ?_⟩
  refine ⟨_, rfl, ?_⟩
  rcases words_of w hw with h | h | h
  · obtain ⟨h1, h2⟩ := name_no h
    refine brF (b := decide (w = ("tick" : Str))) (decide_eq_false h2) ?_
    refine ⟨_, rfl, (by show 3 ≤ sizeLine; decide), oneW, rfl, rfl, ?_⟩
    refine brF (b := decide (w ∈ oneW)) (decide_eq_false h1) ?_
    refine ⟨_, rfl, _, rfl, _, rfl, _, rfl, b, ((ss.map D.str).length : Nat), n + 1, rfl, hb1, by omega, ?_, ?_, fun M2 u s2 hb2 u0 u1 => ?_⟩
    · have : 0 < ss.length := by cases ss with | nil => exact absurd rfl ne | cons _ _ => simp
      rw [List.length_map]; omega
    · rw [List.length_map]
      have : ss.length ≤ 100 := sl
      omega
    obtain ⟨d, ed, md⟩ := at_some (xs := ss.map D.str) u0 u1
    obtain ⟨s, hs, rfl⟩ := List.mem_map.mp md
    refine ⟨_, ed, (by show 2 ≤ sizeLine; decide), ?_⟩
    exact q M2 (.nm w s) (s1.trans s2) (hb2.mono (by omega)) ⟨h, nm s hs⟩
  · refine brT (b := decide (w = ("tick" : Str))) (decide_eq_true h) ?_
    refine ⟨_, rfl, _, rfl, b, 100, n + 1, rfl, hb1, by omega, by decide, by decide, fun M2 u s2 hb2 u0 u1 => ?_⟩
    refine ⟨(by show 3 ≤ sizeLine; decide), _, rfl, b, 3, n + 2, rfl, hb2, by omega, by decide, by decide, fun M3 z s3 hb3 z0 z1 => ?_⟩
    obtain ⟨i, ei, i1, i2⟩ : ∃ i : Int, atI [D.int 1, .int 100, .int (1 + u)] z = some (.int i) ∧ 1 ≤ i ∧ i ≤ 100 := by
      rcases (by omega : z = 0 ∨ z = 1 ∨ z = 2) with rfl | rfl | rfl
      · exact ⟨_, rfl, by decide, by decide⟩
      · exact ⟨_, rfl, by decide, by decide⟩
      · exact ⟨_, rfl, by omega, by omega⟩
    refine ⟨_, ei, (by show 2 ≤ sizeLine; decide), ?_⟩
    subst h
    exact q M3 (.tick i) ((s1.trans s2).trans s3) (hb3.mono (by omega)) ⟨i1, i2⟩
  · obtain ⟨_, h2⟩ := one_no h
    refine brF (b := decide (w = ("tick" : Str))) (decide_eq_false h2) ?_
    refine ⟨_, rfl, (by show 3 ≤ sizeLine; decide), oneW, rfl, rfl, ?_⟩
    refine brT (b := decide (w ∈ oneW)) (decide_eq_true h) ?_
    exact ⟨_, rfl, (by show 1 ≤ sizeLine; decide), q M1 (.one w) s1 (hb1.mono (by omega)) h⟩
theorem odd_str {Z : Option Addr → Prop} {M : Mp} {s : Str} (l : s.length ≤ 10) (o : Ok s) : Al Z M (.str s) ∧ Shw M (.str s) 2 120 :=
  ⟨.str (by omega) o, (shw_str o l (by decide)).mono (by decide) (by decide)⟩
theorem odd_int {Z : Option Addr → Prop} {M : Mp} {i : Int} (h0 : -(10 ^ 30) ≤ i) (h1 : i ≤ 10 ^ 30) : Al Z M (.int i) ∧ Shw M (.int i) 2 120 := ⟨.int i, (shw_int32 h0 h1).mono (by decide) (by decide)⟩
theorem odd_bl {Z : Option Addr → Prop} {M : Mp} (b : Bool) : Al Z M (.bl b) ∧ Shw M (.bl b) 2 120 := ⟨.bl b, (shw_bl b).mono (by decide) (by decide)⟩
theorem odd_ex {Z : Option Addr → Prop} {M : Mp} {p C : Addr} (z : Z (some p)) (e : M p = some (.exc C [("*", .tup [.str "NoTask", .str "a"])])) : Al Z M (.ref p) ∧ Shw M (.ref p) 2 120 := by
  have l : (exText "NoTask" "a").length ≤ 120 := by decide +kernel
  refine ⟨.exs z e, _, .exs e (Nat.le_trans l (by decide)) (by decide +kernel), (by show 0 ≤ 2; decide), ?_⟩
  unfold Sh.w
  exact l
theorem rd__law_odd (A : Ad) (hA : AdOk A) : ∀ ds M Qd Ed, sp__law_odd A ds M Qd Ed → t__law_odd A (ends Qd Ed) (dstart N__law_odd ds) M := by
  intro ds M Qd Ed h
  obtain ⟨b, n, rfl, hb, hn, q⟩ := h
  refine ⟨(by show 0 ≤ sizeLine; decide), fun p1 hp1 => ?_⟩
  refine ⟨(by show 1 ≤ sizeLine; decide), fun p2 hp2 => ?_⟩
  refine ⟨(by show 0 ≤ sizeLine; decide), ?_⟩
  refine ⟨⟨by decide, by decide, by decide⟩, by decide, (by show 18 ≤ sizeLine; decide), ?_⟩
  refine ⟨_, rfl, _, rfl, fun p3 hp3 => ?_⟩
  refine ⟨(by show 4 ≤ sizeLine; decide), (by show 18 + 4 ≤ sizeLine; decide), ?_⟩
  have n21 : p2 ≠ p1 := fun z => by rw [z, updM_same] at hp2; cases hp2
  have n32 : p3 ≠ p2 := fun z => by rw [z, updM_same] at hp3; cases hp3
  have n31 : p3 ≠ p1 := fun z => by rw [z, updM_ne (Ne.symm n21), updM_same] at hp3; cases hp3
  have h2 : M p2 = none := by rw [updM_ne n21] at hp2; exact hp2
  have h3 : M p3 = none := by rw [updM_ne n32, updM_ne n31] at hp3; exact hp3
  have e1 : Ext M (updM M p1 (.lst [])) := Ext.new hp1
  have e3 : Ext M (updM (updM (updM M p1 (.lst [])) p2 (.lst [.str "a"])) p3 (.exc A.c_NoTask [("*", .tup [.str "NoTask", .str "a"])])) := (e1.trans (Ext.new hp2)).trans (Ext.new hp3)
  refine ⟨_, rfl, b, 22, n, rfl, hb.ext e3, by omega, by decide, by decide, fun M2 v s2 hb2 v0 v1 => ?_⟩
  have m1 : ∀ {p : Addr} {o : MO}, M p = none → (updM (updM (updM M p1 (.lst [])) p2 (.lst [.str "a"])) p3 (.exc A.c_NoTask [("*", .tup [.str "NoTask", .str "a"])])) p = some o → M2 p = some o := fun {p o} h e => s2 p o (fun z => by
    obtain ⟨_, _, _, hm, _⟩ := hb
    rw [← z, h] at hm
    cases hm) e
  have g1 : M2 p1 = some (.lst []) := m1 hp1 (by rw [updM_ne (Ne.symm n31), updM_ne (Ne.symm n21)]; exact updM_same)
  have g2 : M2 p2 = some (.lst [.str "a"]) := m1 h2 (by rw [updM_ne (Ne.symm n32)]; exact updM_same)
  have g3 : M2 p3 = some (.exc A.c_NoTask [("*", .tup [.str "NoTask", .str "a"])]) := m1 h3 updM_same
  have bt : But b M M2 := fun a o na e => s2 a o na (e3 a o e)
  obtain ⟨x, ex, mx⟩ := at_some (xs := [D.non, .bl true, .bl false, .int 7, .str "", .str "gain", .str "A", .str "ninechars", .str "a b", .ref p1, .ref p2, .tup [], .dct [], .int (10 ^ 29), .int 0, .int 101, .int (-1), .tup [.str "a"]] ++ [D.str "a1", .ref p3, .int 100, .str "100"]) v0 (by show _ < 22; exact v1)
  refine ⟨x, ex, ?_⟩
  have ok : Al (Fsh M) M2 x ∧ Shw M2 x 2 120 := by
    have sa : Al (Fsh M) M2 (.str "a") ∧ Shw M2 (.str "a") 2 120 := odd_str (by decide +kernel) (ok_of "a")
    have sa1 : ∀ y ∈ [D.str "a"], Shw M2 y 0 102 := fun y hy => by
      rw [List.mem_singleton.mp hy]
      exact shw_str (n := 10) (ok_of "a") (by decide +kernel) (by decide)
    have la : ∀ y ∈ [D.str "a"], Al (Fsh M) M2 y := fun y hy => by
      rw [List.mem_singleton.mp hy]
      exact sa.1
    simp only [List.cons_append, List.nil_append, List.mem_cons, List.mem_nil_iff, or_false] at mx
    rcases mx with rfl | rfl | rfl | rfl | rfl | rfl | rfl | rfl | rfl | rfl | rfl | rfl | rfl | rfl | rfl | rfl | rfl | rfl | rfl | rfl | rfl | rfl
    · exact ⟨.non, shw_non.mono (by decide) (by decide)⟩
    · exact odd_bl true
    · exact odd_bl false
    · exact odd_int (by decide) (by decide)
    · exact odd_str (by decide +kernel) (ok_of "")
    · exact odd_str (by decide +kernel) (ok_of "gain")
    · exact odd_str (by decide +kernel) (ok_of "A")
    · exact odd_str (by decide +kernel) (ok_of "ninechars")
    · exact odd_str (by decide +kernel) (ok_of "a b")
    · exact ⟨.ref hp1 g1 (by decide) (fun _ z => nomatch z), (shw_ref (n := 0) (c := 1) g1 (fun _ z => nomatch z)).mono (by decide) (by decide)⟩
    · exact ⟨.ref h2 g2 (by decide) la, (shw_ref g2 sa1).mono (by decide) (by decide)⟩
    · exact ⟨.tup (by decide) (fun _ z => nomatch z), (shw_tup (n := 0) (c := 1) (ds := []) (fun _ z => nomatch z)).mono (by decide) (by decide)⟩
    · exact ⟨.dct (fun _ z => nomatch z), shw_dct0.mono (by decide) (by decide)⟩
    · exact odd_int (by decide) (by decide)
    · exact odd_int (by decide) (by decide)
    · exact odd_int (by decide) (by decide)
    · exact odd_int (by decide) (by decide)
    · exact ⟨.tup (by decide) la, (shw_tup sa1).mono (by decide) (by decide)⟩
    · exact odd_str (by decide +kernel) (ok_of "a1")
    · exact odd_ex h3 g3
    · exact odd_int (by decide) (by decide)
    · exact odd_str (by decide +kernel) (ok_of "100")
  exact q M2 x bt hb2 ok.1 ok.2
end K51
set_option Elab.async false
set_option linter.all false
set_option maxRecDepth 100000
set_option maxHeartbeats 4000000
namespace K51
open PySem L2 DL
def De.its : De → List D
  | .nm w n => [.str w, .str n]
  | .one w => [.str w]
  | .tick i => [.str "tick", .int i]
theorem De.d_its (d : De) : d.d = .tup d.its := by cases d <;> rfl
theorem De.its_len (d : De) : 1 ≤ d.its.length ∧ d.its.length ≤ 2 := by cases d <;> exact ⟨by simp [De.its], by simp [De.its]⟩
theorem word_shw {M : Mp} {w : Str} (h : w ∈ wordsW) : Shw M (.str w) 0 120 ∧ w.length ≤ 10 ∧ Ok w := by
  have e : ∀ w ∈ wordsW, w.length ≤ 10 := by decide +kernel
  have o : Ok w := by
    simp only [wordsW, List.mem_cons, List.mem_nil_iff, or_false] at h
    rcases h with rfl | rfl | rfl | rfl | rfl | rfl | rfl | rfl <;> exact ok_of _
  exact ⟨(shw_str o (e w h) (by decide)).mono (Nat.le_refl _) (by decide), e w h, o⟩
theorem nm_ok {s : Str} (h : Nm s) : s.length ≤ 8 ∧ Ok s := ⟨h.2.1, h.2.2.ok⟩
theorem De.its_ok {Z : Option Addr → Prop} {M : Mp} {d : De} (h : d.ok) : ∀ y ∈ d.its, Al Z M y ∧ Shw M y 0 120 := by
  have str : ∀ {s : Str}, s.length ≤ 10 → Ok s → Al Z M (.str s) ∧ Shw M (.str s) 0 120 := fun l o => ⟨.str (by omega) o, (shw_str o l (by decide)).mono (Nat.le_refl _) (by decide)⟩
  intro y hy
  cases d with
  | nm w n =>
    obtain ⟨hw, hn⟩ := h
    have hw : w ∈ wordsW := by
      have e : ∀ w ∈ nameW, w ∈ wordsW := by decide +kernel
      exact e w hw
    rcases List.mem_cons.mp hy with rfl | hy
    · exact str (word_shw (M := M) hw).2.1 (word_shw (M := M) hw).2.2
    · rw [List.mem_singleton.mp hy]
      exact str (by have := (nm_ok hn).1; omega) (nm_ok hn).2
  | one w =>
    have hw : w ∈ wordsW := by
      have e : ∀ w ∈ oneW, w ∈ wordsW := by decide +kernel
      exact e w h
    rw [List.mem_singleton.mp hy]
    exact str (word_shw (M := M) hw).2.1 (word_shw (M := M) hw).2.2
  | tick i =>
    rcases List.mem_cons.mp hy with rfl | hy
    · exact str (by decide +kernel) (ok_of "tick")
    · rw [List.mem_singleton.mp hy]
      obtain ⟨a, b⟩ := h
      exact ⟨.int i, (shw_int32 (by omega) (by omega)).mono (by decide) (by decide)⟩
theorem De.al {Z : Option Addr → Prop} {M : Mp} {d : De} (h : d.ok) : Al Z M d.d ∧ Shw M d.d 1 247 := by
  rw [d.d_its]
  have l := d.its_len
  refine ⟨.tup (by omega) fun y hy => (De.its_ok h y hy).1, (shw_tup fun y hy => (De.its_ok (Z := Z) h y hy).2).mono (Nat.le_refl _) ?_⟩
  have := Nat.mul_le_mul_right 122 l.2
  show d.its.length * 122 + 3 ≤ 247
  omega
theorem tup_of {Z : Option Addr → Prop} {M : Mp} {xs : List D} (l : xs.length ≤ 3) (h : ∀ y ∈ xs, Al Z M y ∧ Shw M y 3 160) : Al Z M (.tup xs) ∧ Shw M (.tup xs) 4 500 := by
  refine ⟨.tup (by omega) fun y hy => (h y hy).1, (shw_tup fun y hy => (h y hy).2).mono (Nat.le_refl _) ?_⟩
  have := Nat.mul_le_mul_right 162 l
  show xs.length * 162 + 3 ≤ 500
  omega
theorem fsh_up {M Ma : Mp} {b : Addr} (s : But b M Ma) (h : ∃ o, Ma b = some o) (a : Option Addr) (f : Fsh Ma a) : Fsh M a := by
  cases a with
  | none => exact f
  | some a =>
    show M a = none
    cases e : M a with
    | none => rfl
    | some o =>
      have f : Ma a = none := f
      by_cases na : a = b
      · obtain ⟨o', h⟩ := h
        rw [na, h] at f; cases f
      · rw [s a o na e] at f; cases f
theorem _root_.DL.Bag.there {M : Mp} {b : Addr} {n : Nat} (h : Bag M b n) : ∃ o, M b = some o := let ⟨_, _, _, e, _⟩ := h; ⟨_, e⟩
theorem rd__law_bent (A : Ad) (hA : AdOk A) : ∀ ds M Qd Ed, sp__law_bent A ds M Qd Ed → t__law_bent A (ends Qd Ed) (dstart N__law_bent ds) M := by
  intro ds M Qd Ed h
  obtain ⟨b, d, n, rfl, ok, hb, hn, q⟩ := h
  have dl := d.its_len
  rw [d.d_its]
  refine ⟨_, rfl, b, 7, n, rfl, hb, by omega, by decide, by decide, fun M1 way s1 hb1 w0 w1 => ?_⟩
  refine ⟨_, rfl, _, rfl, b, (d.its.length : Nat), n + 1, rfl, hb1, by omega, by omega, by omega, fun M2 at' s2 hb2 a0 a1 => ?_⟩
  obtain ⟨at_, rfl⟩ := Int.eq_ofNat_of_zero_le a0
  have s12 := s1.trans s2
  have itk : ∀ {M' : Mp}, ∀ y ∈ d.its, Al (Fsh M) M' y ∧ Shw M' y 3 160 := fun {M'} y hy => ⟨(De.its_ok ok y hy).1, (De.its_ok (Z := Fsh M) ok y hy).2.mono (by decide) (by decide)⟩
  have fin : ∀ (M' : Mp) (xs : List D), xs.length ≤ 3 → (∀ y ∈ xs, y ∈ d.its ∨ (Al (Fsh M) M' y ∧ Shw M' y 3 160)) → But b M M' → Bag M' b (n + 4) → Qd (.tup xs) M' := fun M' xs l h s hb' => by
    obtain ⟨r1, r2⟩ := tup_of (Z := Fsh M) (M := M') l fun y hy => (h y hy).elim (fun z => itk y z) id
    exact q M' _ s hb' r1 (r2.mono (Nat.le_refl _) (by decide))
  have odd : ∀ {M3 : Mp} {o : D}, Al (Fsh M2) M3 o → Shw M3 o 2 120 → Al (Fsh M) M3 o ∧ Shw M3 o 3 160 := fun a w => ⟨a.mono (fun _ _ _ e => e) (fsh_up s12 hb2.there), w.mono (by decide) (by decide)⟩
  have c1 : cutD d.its none (some (at_ : Int)) = d.its.take at_ := cutD_to
  have c2 : cutD d.its (some ((at_ : Int) + 1)) none = d.its.drop (at_ + 1) := by
    rw [show (at_ : Int) + 1 = ((at_ + 1 : Nat) : Int) by omega]
    exact cutD_from
  refine ⟨_, rfl, ?_⟩
  refine br2 (fun _ => ?_) (fun _ => ?_)
  · refine ⟨_, rfl, _, rfl, b, n + 2, rfl, hb2, by omega, fun M3 o s3 hb3 ao so => ?_⟩
    refine ⟨(by show 1 ≤ sizeLine; decide), Nat.le_trans (by show d.its.length + 1 ≤ 3; omega) (by decide), ?_⟩
    refine fin M3 (d.its ++ [o]) (by rw [List.length_append, List.length_singleton]; omega) (fun y hy => ?_) (s12.trans s3) (hb3.mono (by omega))
    rcases List.mem_append.mp hy with h | h
    · exact .inl h
    · rw [List.mem_singleton.mp h]; exact .inr (odd ao so)
  refine ⟨_, rfl, ?_⟩
  refine br2 (fun _ => ?_) (fun _ => ?_)
  · refine ⟨_, rfl, _, rfl, _, rfl, _, rfl, ?_⟩
    show dAdd2 (.tup (cutD d.its none (some (at_ : Int)))) (.tup (cutD d.its (some ((at_ : Int) + 1)) none)) M2 Qd
    rw [c1, c2]
    refine ⟨Nat.le_trans (by rw [List.length_take, List.length_drop]; omega : _ ≤ 3) (by decide), ?_⟩
    refine fin M2 _ (by rw [List.length_append, List.length_take, List.length_drop]; omega) (fun y hy => .inl ?_) s12 (hb2.mono (by omega))
    exact (List.mem_append.mp hy).elim List.mem_of_mem_take List.mem_of_mem_drop
  refine ⟨_, rfl, ?_⟩
  refine br2 (fun _ => ?_) (fun _ => ?_)
  · refine ⟨_, rfl, _, rfl, _, rfl, b, n + 2, rfl, hb2, by omega, fun M3 o s3 hb3 ao so => ?_⟩
    refine ⟨(by show 1 ≤ sizeLine; decide), ?_⟩
    show dAdd2 (.tup (cutD d.its none (some (at_ : Int)))) (.tup [o]) M3 _
    rw [c1]
    refine ⟨Nat.le_trans (by rw [List.length_take]; simp only [List.length_cons, List.length_nil]; omega : _ ≤ 3) (by decide), ?_⟩
    refine ⟨_, rfl, _, rfl, ?_⟩
    show dAdd2 (.tup (d.its.take at_ ++ [o])) (.tup (cutD d.its (some ((at_ : Int) + 1)) none)) M3 Qd
    rw [c2]
    refine ⟨Nat.le_trans (by rw [List.length_append, List.length_take, List.length_drop, List.length_singleton]; omega : _ ≤ 3) (by decide), ?_⟩
    refine fin M3 _ (by rw [List.length_append, List.length_append, List.length_take, List.length_drop, List.length_singleton]; omega) (fun y hy => ?_) (s12.trans s3) (hb3.mono (by omega))
    rcases List.mem_append.mp hy with h | h
    · rcases List.mem_append.mp h with h | h
      · exact .inl (List.mem_of_mem_take h)
      · rw [List.mem_singleton.mp h]; exact .inr (odd ao so)
    · exact .inl (List.mem_of_mem_drop h)
  refine ⟨_, rfl, ?_⟩
  refine br2 (fun _ => ?_) (fun _ => ?_)
  · refine ⟨_, rfl, fun p hp => ?_⟩
    have x2 : Ext M2 (updM M2 p (.lst d.its)) := Ext.new hp
    refine q _ (.ref p) (fun a o na e => x2 a o (s12 a o na e)) ((hb2.ext x2).mono (by omega)) (.ref (fsh_up s12 hb2.there (some p) hp) updM_same (by omega) fun y hy => (itk y hy).1) ?_
    refine (shw_ref (n := 3) (c := 160) updM_same fun y hy => (itk y hy).2).mono (Nat.le_refl _) ?_
    have := Nat.mul_le_mul_right 162 dl.2
    show d.its.length * 162 + 3 ≤ 501
    omega
  refine ⟨_, rfl, ?_⟩
  refine br2 (fun _ => ?_) (fun _ => ?_)
  · refine ⟨(by show 7 ≤ sizeLine; decide), _, rfl, b, 7, n + 2, rfl, hb2, by omega, by decide, by decide, fun M3 v s3 hb3 v0 v1 => ?_⟩
    obtain ⟨wd, ew, mw⟩ := at_some (xs := [D.str "Gain", .str "gains", .str "wake", .str "tick", .str "rise", .str "use", .str "gain "]) v0 (by show _ < 7; exact v1)
    refine ⟨wd, ew, (by show 1 ≤ sizeLine; decide), ?_⟩
    refine ⟨_, rfl, ?_⟩
    show dAdd2 (.tup [wd]) (.tup (cutD d.its (some ((1 : Nat) : Int)) none)) M3 Qd
    rw [cutD_from]
    refine ⟨Nat.le_trans (by rw [List.length_drop]; simp only [List.length_cons, List.length_nil]; omega : _ ≤ 3) (by decide), ?_⟩
    refine fin M3 _ (by rw [List.length_append, List.length_drop, List.length_singleton]; omega) (fun y hy => ?_) (s12.trans s3) (hb3.mono (by omega))
    rcases List.mem_append.mp hy with h | h
    · rw [List.mem_singleton.mp h]
      refine .inr ?_
      have st : ∀ {s : Str}, s.length ≤ 10 → Ok s → Al (Fsh M) M3 (.str s) ∧ Shw M3 (.str s) 3 160 := fun l o => ⟨.str (by omega) o, (shw_str o l (by decide)).mono (by decide) (by decide)⟩
      simp only [List.mem_cons, List.mem_nil_iff, or_false] at mw
      rcases mw with rfl | rfl | rfl | rfl | rfl | rfl | rfl <;> exact st (by decide +kernel) (ok_of _)
    · exact .inl (List.mem_of_mem_drop h)
  refine ⟨_, rfl, ?_⟩
  refine br2 (fun _ => ?_) (fun _ => ?_)
  · refine ⟨_, rfl, b, n + 2, rfl, hb2, by omega, fun M3 o s3 hb3 ao so => ?_⟩
    obtain ⟨r1, r2⟩ := odd ao so
    exact q M3 o (s12.trans s3) (hb3.mono (by omega)) r1 (r2.mono (by decide) (by decide))
  · obtain ⟨x0, e0, m0⟩ := at_some (xs := d.its) (i := 0) (by decide) (by omega)
    refine ⟨_, rfl, _, rfl, x0, e0, (by show 2 ≤ sizeLine; decide), ?_⟩
    have dd := De.al (Z := Fsh M) (M := M2) ok
    rw [d.d_its] at dd
    obtain ⟨i1, i2⟩ := itk (M' := M2) x0 m0
    refine q M2 _ s12 (hb2.mono (by omega)) (.tup (by show 2 ≤ 16000; decide) fun y hy => ?_) ?_
    · rcases List.mem_cons.mp hy with rfl | hy
      · exact dd.1
      · rw [List.mem_singleton.mp hy]; exact i1
    · refine (shw_tup (n := 3) (c := 247) fun y hy => ?_).mono (Nat.le_refl _) (by show 2 * 249 + 3 ≤ 501; decide)
      rcases List.mem_cons.mp hy with rfl | hy
      · exact dd.2.mono (by decide) (Nat.le_refl _)
      · rw [List.mem_singleton.mp hy]; exact i2.mono (Nat.le_refl _) (by decide)
end K51
set_option Elab.async false
set_option linter.all false
set_option maxRecDepth 100000
set_option maxHeartbeats 4000000
namespace K51
open PySem L2 DL
theorem add_lr {M : Mp} {r : Addr} {xs ys : List D} {Q : DK} (h : M r = some (.lst xs)) (l : ys.length + xs.length ≤ sizeLine) (q : Q (.lst (ys ++ xs)) M) : dAdd2 (.lst ys) (.ref r) M Q := ⟨_, h, l, q⟩
theorem add_rr {M : Mp} {r : Addr} {xs : List D} {Q : DK} (h : M r = some (.lst xs)) (l : xs.length + xs.length ≤ sizeLine) (q : Q (.lst (xs ++ xs)) M) : dAdd2 (.ref r) (.ref r) M Q := ⟨_, h, _, h, l, q⟩
theorem rd__law_other_kind (A : Ad) (hA : AdOk A) : ∀ ds M Qd Ed, sp__law_other_kind A ds M Qd Ed → t__law_other_kind A (ends Qd Ed) (dstart N__law_other_kind ds) M := by
  intro ds M Qd Ed h
  obtain ⟨b, r, so, xs, n, rfl, hb, hn, hm, hl, q⟩ := h
  refine ⟨(by show 0 ≤ sizeLine; decide), (by show 0 ≤ sizeLine; decide), fun p1 hp1 => ?_⟩
  have e1 : Ext M (updM M p1 (.lst [])) := Ext.new hp1
  have hm1 := e1 r _ hm
  refine ⟨_, rfl, _, hm1, ?_⟩
  refine ⟨_, rfl, _, rfl, ?_⟩
  refine add_rr hm1 (Nat.le_trans (by omega : _ ≤ 4000) (by decide)) ?_
  refine ⟨_, rfl, ?_⟩
  refine add_lr hm1 (Nat.le_trans (by rw [List.length_append]; omega : _ ≤ 6000) (by decide)) ?_
  refine ⟨_, rfl, ?_⟩
  refine ⟨_, hm1, Nat.le_trans (by rw [List.length_append, List.length_append]; omega : _ ≤ 8000) (by decide), fun p2 hp2 => ?_⟩
  have e2 : Ext M (updM (updM M p1 (.lst [])) p2 (.lst (xs ++ xs ++ xs ++ xs))) := e1.trans (Ext.new hp2)
  have n21 : p2 ≠ p1 := fun z => by rw [z, updM_same] at hp2; cases hp2
  have h2 : M p2 = none := by rw [updM_ne n21] at hp2; exact hp2
  refine ⟨(by show 9 ≤ sizeLine; decide), ?_⟩
  refine ⟨_, rfl, _, rfl, _, rfl, ?_⟩
  refine ⟨[(.inr "a", .ref r)], rfl, (by show 1 ≤ 15; decide), (by show 2 ≤ sizeLine; decide), (by show 9 + 2 ≤ sizeLine; decide), ?_⟩
  refine ⟨_, rfl, b, 11, n, rfl, hb.ext e2, by omega, by decide, by decide, fun M2 v s2 hb2 v0 v1 => ?_⟩
  have off : ∀ {p : Addr}, M p = none → p ≠ b := fun h z => by
    obtain ⟨o, e⟩ := hb.there
    rw [z, e] at h; cases h
  have g1 : M2 p1 = some (.lst []) := s2 p1 _ (off hp1) (by rw [updM_ne (Ne.symm n21)]; exact updM_same)
  have g2 : M2 p2 = some (.lst (xs ++ xs ++ xs ++ xs)) := s2 p2 _ (off h2) updM_same
  obtain ⟨t, et, mt⟩ := at_some (xs := [D.non, .int 7, .str "gain", .dct [], .bl true, .tup [], .ref p1, .tup xs, .ref p2] ++ [so, .dct [(.inr "a", .ref r)]]) v0 (by show _ < 11; exact v1)
  refine ⟨t, et, q M2 t (fun a o na e => s2 a o na (e2 a o e)) hb2 ?_⟩
  simp only [List.cons_append, List.nil_append, List.mem_cons, List.mem_nil_iff, or_false] at mt
  rcases mt with rfl | rfl | rfl | rfl | rfl | rfl | rfl | rfl | rfl | rfl | rfl
  · exact .inl (by simp)
  · exact .inl (by simp)
  · exact .inl (by simp)
  · exact .inl (by simp)
  · exact .inl (by simp)
  · exact .inl (by simp)
  · exact .inr (.inl ⟨p1, rfl, hp1, .inl g1⟩)
  · exact .inr (.inr (.inl rfl))
  · exact .inr (.inl ⟨p2, rfl, h2, .inr g2⟩)
  · exact .inr (.inr (.inr (.inl rfl)))
  · exact .inr (.inr (.inr (.inr rfl)))
end K51
set_option Elab.async false
set_option linter.all false
set_option maxRecDepth 100000
set_option maxHeartbeats 4000000
namespace K51
open PySem L2 DL
theorem md_inv {w k : Str} (h : getMd md_DEEDS w = some k) : w ∈ nameW ∧ k = "name" ∨ w = "tick" ∧ k = "turns" ∨ w ∈ oneW ∧ k = "" := by
  by_cases h1 : w ∈ nameW
  · rw [md_nm h1] at h; cases h; exact .inl ⟨h1, rfl⟩
  by_cases h2 : w = "tick"
  · subst h2; rw [md_tick] at h; cases h; exact .inr (.inl ⟨rfl, rfl⟩)
  by_cases h3 : w ∈ oneW
  · rw [md_one h3] at h; cases h; exact .inr (.inr ⟨h3, rfl⟩)
  · rw [md_none h3 h1 h2] at h; cases h
theorem nameD_inv {y : D} (h : nameD y = true) : ∃ s, y = .str s ∧ Nm s := by
  cases y with
  | str s =>
    have h : (decide (1 ≤ s.length) && decide (s.length ≤ 8) && s.cps.toList.all (fun c => decide (c ∈ letters.cps.toList))) = true := h
    simp only [Bool.and_eq_true, decide_eq_true_eq, List.all_eq_true] at h
    exact ⟨s, rfl, h.1.1, h.1.2, h.2⟩
  | _ => cases h
theorem wholeD_inv {y : D} (h : wholeD y 1 100 = true) : ∃ i, y = .int i ∧ 1 ≤ i ∧ i ≤ 100 := by
  cases y with
  | int i =>
    have h : (decide (1 ≤ i) && decide (i ≤ 100)) = true := h
    simp only [Bool.and_eq_true, decide_eq_true_eq] at h
    exact ⟨i, rfl, h.1, h.2⟩
  | _ => cases h
theorem deed_inv {x : D} (h : isDeed x = true) : ∃ d : De, x = d.d ∧ d.ok := by
  cases x with
  | tup xs =>
    cases xs with
    | nil => cases h
    | cons y r =>
      cases y with
      | str w =>
        rw [deed_str] at h
        cases hm : getMd md_DEEDS w with
        | none => rw [hm] at h; cases h
        | some k =>
          rw [hm] at h
          have h : partsOk k r = true := h
          rcases md_inv hm with ⟨hw, rfl⟩ | ⟨rfl, rfl⟩ | ⟨hw, rfl⟩
          · rw [parts_nm] at h
            match r, h with
            | [y], h =>
              obtain ⟨s, rfl, hs⟩ := nameD_inv h
              exact ⟨.nm w s, rfl, hw, hs⟩
          · rw [parts_tk] at h
            match r, h with
            | [y], h =>
              obtain ⟨i, rfl, hs⟩ := wholeD_inv h
              exact ⟨.tick i, rfl, hs⟩
          · rw [parts_one] at h
            match r, h with
            | [], _ => exact ⟨.one w, rfl, hw⟩
      | _ => cases h
  | _ => cases h
def Zr (M0 : Mp) (r : Addr) : Option Addr → Prop := fun a => Fsh M0 a ∧ a ≠ some r
structure TK (M0 : Mp) (r : Addr) (M : Mp) (L : Nat) (y : D) : Prop where
  al : Al (Zr M0 r) M y
  sw : Shw M y 6 (L * 503 + 60)
  its : ∀ p xs, y = .ref p → M p = some (.lst xs) → xs.length ≤ L ∧ ∀ x ∈ xs, Shw M x 4 501
theorem Zr.no {M0 : Mp} {r : Addr} : ¬ Zr M0 r none := fun h => h.1
theorem TK.keep {M0 M M' : Mp} {r : Addr} {L : Nat} {y : D} (h : TK M0 r M L y) (f : ∀ a u, Zr M0 r (some a) → M a = some u → M' a = some u) : TK M0 r M' L y := by
  refine ⟨h.al.mono f fun _ z => z, h.al.shw f h.sw, fun p xs e hm => ?_⟩
  subst e
  cases id h.al with
  | ref z m _ a =>
    rw [f _ _ z m] at hm
    cases hm
    obtain ⟨l, s⟩ := h.its p _ rfl m
    exact ⟨l, fun x hx => (a x hx).shw f (s x hx)⟩
  | exs z m => rw [f _ _ z m] at hm; cases hm
theorem TK.up {M0 M : Mp} {r : Addr} {L L' : Nat} {y : D} (h : TK M0 r M L y) (l : L ≤ L') : TK M0 r M L' y :=
  ⟨h.al, h.sw.mono (Nat.le_refl _) (by have := Nat.mul_le_mul_right 503 l; omega), fun p xs e hm => ⟨Nat.le_trans (h.its p xs e hm).1 l, (h.its p xs e hm).2⟩⟩
theorem other_ok {Z : Option Addr → Prop} {M M' : Mp} {r : Addr} {xs : List D} {so t : D} {n c L C : Nat} (h : OtherK M M' r xs so t) (al : ∀ x ∈ xs, Al Z M' x) (sw : ∀ x ∈ xs, Shw M' x n c) (hr : M' r = some (.lst xs)) (zr : Z (some r)) (zf : ∀ p, M p = none → Z (some p))
    (hl : xs.length ≤ L) (h4 : L ≤ 4000) (hC : 4 * L * (c + 2) + 60 ≤ C) (so1 : Al Z M' so) (so2 : Shw M' so (n + 2) C) : Al Z M' t ∧ Shw M' t (n + 2) C := by
  have b1 : xs.length * (c + 2) ≤ L * (c + 2) := Nat.mul_le_mul_right _ hl
  have b4 : (xs ++ xs ++ xs ++ xs).length * (c + 2) ≤ 4 * L * (c + 2) := Nat.mul_le_mul_right _ (by simp only [List.length_append]; omega)
  have bb : L * (c + 2) ≤ 4 * L * (c + 2) := Nat.mul_le_mul_right _ (by omega)
  have m4 : ∀ x ∈ xs ++ xs ++ xs ++ xs, x ∈ xs := fun x hx => by
    simp only [List.mem_append] at hx
    rcases hx with ((h | h) | h) | h <;> exact h
  rcases h with h | ⟨p, rfl, hp, e | e⟩ | rfl | rfl | rfl
  · simp only [List.mem_cons, List.mem_nil_iff, or_false] at h
    rcases h with rfl | rfl | rfl | rfl | rfl | rfl
    · exact ⟨.non, shw_non.mono (by omega) (by omega)⟩
    · exact ⟨.int 7, (shw_int32 (by decide) (by decide)).mono (by omega) (by omega)⟩
    · exact ⟨.str (by decide +kernel) (ok_of "gain"), (shw_str (n := 4) (ok_of "gain") (by decide +kernel) (by decide)).mono (by omega) (by omega)⟩
    · exact ⟨.dct (fun _ z => nomatch z), shw_dct0.mono (by omega) (by omega)⟩
    · exact ⟨.bl true, (shw_bl true).mono (by omega) (by omega)⟩
    · exact ⟨.tup (by decide) (fun _ z => nomatch z), (shw_tup (n := 0) (c := 1) (ds := []) (fun _ z => nomatch z)).mono (by omega) (by show 0 * 3 + 3 ≤ C; omega)⟩
  · exact ⟨.ref (zf p hp) e (by decide) (fun _ z => nomatch z), (shw_ref (n := 0) (c := 1) e (fun _ z => nomatch z)).mono (by omega) (by show 0 * 3 + 3 ≤ C; omega)⟩
  · exact ⟨.ref (zf p hp) e (by simp only [List.length_append]; omega) fun x hx => al x (m4 x hx), (shw_ref e fun x hx => sw x (m4 x hx)).mono (by omega) (by omega)⟩
  · exact ⟨.tup (by omega) al, (shw_tup sw).mono (by omega) (by omega)⟩
  · exact ⟨so1, so2⟩
  · have ar : Al Z M' (.ref r) := .ref zr hr (by omega) al
    refine ⟨.dct fun kv hk => ?_, ?_⟩
    · rw [List.mem_singleton.mp hk]; exact ar
    · obtain ⟨s, s1, s2, s3⟩ := shw_ref hr sw
      have la : (reprText ("a" : Str)).length ≤ 10 := by decide +kernel
      refine ⟨.dct [.leaf (reprText "a")] [s], .dct (.cons (.str (Nat.le_trans la (by decide))) .nil) (.cons s1 .nil), ?_, ?_⟩
      · simp only [Sh.dep, Sh.deps]; omega
      · simp only [Sh.w, Sh.ws]; omega
end K51
set_option Elab.async false
set_option linter.all false
set_option maxRecDepth 100000
set_option maxHeartbeats 4000000
namespace K51
open PySem L2 DL
theorem ixN_at {n k : Nat} (h : k < n) : ixN n (k : Int) = some k := by
  unfold ixN
  rw [if_pos (by omega)]
  simp [h]
def lof : Nat → Nat
  | 0 => 128
  | 1 => 32
  | _ => 8
theorem lof_step (k : Nat) (h : k < 2) : 4 * lof (k + 1) = lof k := by
  match k, h with
  | 0, _ => rfl
  | 1, _ => rfl
theorem lof_le (k : Nat) (h : k < 2) : lof (k + 1) ≤ 32 := by
  match k, h with
  | 0, _ => decide
  | 1, _ => decide
theorem lof_ge (k : Nat) (h : k < 2) : 8 ≤ lof (k + 1) := by
  match k, h with
  | 0, _ => decide
  | 1, _ => decide
theorem other_its {M M' : Mp} {r : Addr} {xs : List D} {so t : D} {L : Nat} (h : OtherK M M' r xs so t) (ns : ∀ p, so ≠ .ref p) (sw : ∀ x ∈ xs, Shw M' x 4 501) (hl : xs.length ≤ L) : ∀ p ys, t = .ref p → M' p = some (.lst ys) → ys.length ≤ 4 * L ∧ ∀ x ∈ ys, Shw M' x 4 501 := by
  intro p ys e hm
  rcases h with h | ⟨p', e', hp, h | h⟩ | e' | e' | e'
  · subst e
    simp at h
  · rw [e] at e'; cases e'
    rw [h] at hm; cases hm
    exact ⟨Nat.zero_le _, fun _ z => nomatch z⟩
  · rw [e] at e'; cases e'
    rw [h] at hm; cases hm
    refine ⟨by simp only [List.length_append]; omega, fun x hx => sw x ?_⟩
    simp only [List.mem_append] at hx
    rcases hx with ((h | h) | h) | h <;> exact h
  · rw [e] at e'; cases e'
  · exact absurd (e'.symm.trans e) (ns p)
  · rw [e] at e'; cases e'
theorem look_ok {Z : Option Addr → Prop} {M : Mp} : Al Z M (.tup [.str "look"]) ∧ Shw M (.tup [.str "look"]) 1 247 := De.al (d := .one "look") (show ("look" : Str) ∈ oneW by decide +kernel)
theorem rd__law_spoilt (A : Ad) (hA : AdOk A) : ∀ ds M Qd Ed, sp__law_spoilt A ds M Qd Ed → t__law_spoilt A (ends Qd Ed) (dstart N__law_spoilt ds) M := by
  intro ds M Qd Ed h
  obtain ⟨b, q, ts, n, rfl, hb, hn, hq, qb, l1, l3, ht, post⟩ := h
  refine ⟨_, rfl, ts, hq, Nat.lt_of_le_of_lt l3 (by decide), ?_⟩
  refine comp_inv (fun rem acc M1 => Ext M M1 ∧ (∀ x ∈ rem, TaskA x) ∧ acc.length + rem.length = ts.length ∧ ∀ y ∈ acc, ∃ p, ∃ xs : List De, y = .ref p ∧ M p = none ∧ M1 p = some (.lst (xs.map De.d)) ∧ xs.length ≤ 8 ∧ ∀ d ∈ xs, d.ok) (fun x r acc M1 R h next => ?_) (fun acc M1 h => ?_) _ _ _ ⟨Ext.refl M, ht, by simp, (fun _ z => nomatch z)⟩
  · obtain ⟨x1, ha, hl, hy⟩ := h
    obtain ⟨xs, hx, xl, xo⟩ := ha x List.mem_cons_self
    refine ⟨x1 _ _ hq, _, rfl, ?_⟩
    have es : seqD M1 x = some (xs.map De.d) := by rcases hx with rfl | rfl <;> rfl
    refine seq_q es fun p hp => ?_
    have hp0 : M p = none := by
      cases z : M p with
      | none => rfl
      | some o => rw [x1 p o z] at hp; cases hp
    refine next _ _ ⟨x1.trans (Ext.new hp), fun y hy => ha y (List.mem_cons_of_mem _ hy), by simp only [List.length_append, List.length_cons, List.length_nil] at hl ⊢; omega, fun y h => ?_⟩
    rcases List.mem_append.mp h with h | h
    · obtain ⟨p', xs', e, h1, h2, h3⟩ := hy y h
      exact ⟨p', xs', e, h1, Ext.new hp _ _ h2, h3⟩
    · rw [List.mem_singleton.mp h]
      exact ⟨p, xs, rfl, hp0, updM_same, xl, xo⟩
  obtain ⟨x1, _, hl, hy⟩ := h
  refine ⟨x1 _ _ hq, ?_, fun r hr => ?_⟩
  · simp only [List.length_nil] at hl
    exact Nat.le_trans (by omega : _ ≤ 3) (by decide)
  have x2 : Ext M (updM M1 r (.lst acc)) := x1.trans (Ext.new hr)
  have hr0 : M r = none := by
    cases z : M r with
    | none => rfl
    | some o => rw [x1 r o z] at hr; cases hr
  have la : acc.length = ts.length := by simpa using hl
  obtain ⟨ob, eb⟩ := hb.there
  have rb : r ≠ b := fun z => by rw [z, eb] at hr0; cases hr0
  have tk0 : ∀ y ∈ acc, TK M r (updM M1 r (.lst acc)) 8 y := fun y h => by
    obtain ⟨p, xs, rfl, hp, hm, xl, xo⟩ := hy y h
    have pr : p ≠ r := fun z => by rw [z, hr] at hm; cases hm
    have hm' : updM M1 r (.lst acc) p = some (.lst (xs.map De.d)) := by rw [updM_ne pr]; exact hm
    have dd : ∀ x ∈ xs.map De.d, Al (Zr M r) (updM M1 r (.lst acc)) x ∧ Shw (updM M1 r (.lst acc)) x 1 247 := fun x hx => by
      obtain ⟨d, hd, rfl⟩ := List.mem_map.mp hx
      exact De.al (xo d hd)
    have ll : (xs.map De.d).length ≤ 8 := by rw [List.length_map]; exact xl
    refine ⟨.ref ⟨hp, fun z => pr (by cases z; rfl)⟩ hm' (by omega) fun x hx => (dd x hx).1, (shw_ref hm' fun x hx => (dd x hx).2).mono (by decide) ?_, fun p' xs' e' hm2 => ?_⟩
    · have := Nat.mul_le_mul_right 249 ll
      show (xs.map De.d).length * 249 + 3 ≤ _
      omega
    · cases e'
      rw [hm'] at hm2; cases hm2
      exact ⟨ll, fun x hx => (dd x hx).2.mono (by decide) (by decide)⟩
  refine ⟨_, rfl, b, 2, n, rfl, hb.ext x2, by omega, by decide, by decide, fun M2 v s2 hb2 v0 v1 => ?_⟩
  have bt2 : But b M M2 := fun a o na e => s2 a o na (x2 a o e)
  have m2r : M2 r = some (.lst acc) := s2 r _ rb updM_same
  have keepB : ∀ {Ma Mb : Mp}, But b Ma Mb → ∀ a u, Zr M r (some a) → Ma a = some u → Mb a = some u := fun s a u z e => s a u (fun w => by
    have z : M a = none := z.1
    rw [w, eb] at z; cases z) e
  have tk2 : ∀ y ∈ acc, TK M r M2 8 y := fun y h => (tk0 y h).keep (keepB s2)
  refine ⟨⟨by omega, by omega⟩, ?_⟩
  refine loop_inv (fun rem δ M3 => ∃ ys w3 w4 w5 w6, δ = [some (.ref b), some (.ref q), some (.ref r), w3, w4, w5, w6] ∧ rem.length ≤ 2 ∧ But b M M3 ∧ Bag M3 b (n + 1 + 7 * (2 - rem.length)) ∧ M3 r = some (.lst ys) ∧ 1 ≤ ys.length ∧ ys.length ≤ 3 ∧ ∀ y ∈ ys, TK M r M3 (lof rem.length) y) (fun x rem δ M3 N h next => ?_) (fun δ M3 h => ?_) _ _ _ ⟨acc, none, none, none, none, rfl, ?_, bt2, hb2.mono (by omega), m2r, by omega, by omega, fun y h => ?_⟩
  · obtain ⟨ys, w3, w4, w5, w6, rfl, rl, s3, hb3, m3, y1, y3, tk3⟩ := h
    simp only [List.length_cons] at rl hb3 tk3
    have rl' : rem.length < 2 := by omega
    have ls := lof_step rem.length rl'
    have lle := lof_le rem.length rl'
    have lge := lof_ge rem.length rl'
    generalize lof (rem.length + 1) = L at ls lle lge tk3
    generalize hm1 : n + 1 + 7 * (2 - (rem.length + 1)) = m1 at hb3
    have hm2 : n + 1 + 7 * (2 - rem.length) = m1 + 7 := by omega
    refine ⟨_, rfl, _, rfl, _, m3, b, (ys.length : Nat), m1, rfl, hb3, by omega, by omega, by omega, fun M4 at' s4 hb4 a0 a1 => ?_⟩
    obtain ⟨at_, rfl⟩ := Int.eq_ofNat_of_zero_le a0
    have m4 := s4 r _ rb m3
    obtain ⟨y, ey, hy⟩ := at_some a0 a1
    refine ⟨_, rfl, _, rfl, _, m4, y, ey, ?_⟩
    have tk4 : ∀ y ∈ ys, TK M r M4 L y := fun y h => (tk3 y h).keep (keepB s4)
    have s04 : But b M M4 := fun a o na e => s4 a o na (s3 a o na e)
    have ty := tk4 y hy
    have al := ty.al
    -- what is stored
    have store : ∀ (Ma : Mp) (t : D) (c5 : Option D) (c6 : Option D), But b M Ma → Bag Ma b (m1 + 7) → Ma r = some (.lst ys) → (∀ y ∈ ys, TK M r Ma L y) → TK M r Ma (4 * L) t →
        N [some (.ref b), some (.ref q), some (.ref r), some x, some (.int (at_ : Nat)), c5, c6] (updM Ma r (.lst (ys.set at_ t))) := fun Ma t c5 c6 sa ba ma tka tt => by
      have kp : ∀ a u, Zr M r (some a) → Ma a = some u → updM Ma r (.lst (ys.set at_ t)) a = some u := fun a u z e => by
        rw [updM_ne fun w => z.2 (by rw [w])]
        exact e
      refine next _ _ ⟨ys.set at_ t, _, _, _, _, rfl, by omega, fun a o na e => ?_, by rw [hm2]; exact ba.upd (Ne.symm rb), updM_same, by rw [List.length_set]; exact y1, by rw [List.length_set]; exact y3, fun y' h' => ?_⟩
      · rw [updM_ne fun w => by rw [w, hr0] at e; cases e]
        exact sa a o na e
      · rw [← ls]
        rcases List.mem_or_eq_of_mem_set h' with h | h
        · exact ((tka y' h).keep kp).up (by omega)
        · rw [h]; exact tt.keep kp
    have same : ∀ (Ma : Mp) (c5 c6 : Option D), But b M Ma → Bag Ma b (m1 + 7) → Ma r = some (.lst ys) → (∀ y ∈ ys, TK M r Ma L y) → N [some (.ref b), some (.ref q), some (.ref r), some x, some (.int (at_ : Nat)), c5, c6] Ma := fun Ma c5 c6 sa ba ma tka =>
      next _ _ ⟨ys, _, _, _, _, rfl, by omega, sa, by rw [hm2]; exact ba, ma, y1, y3, fun y' h' => by rw [← ls]; exact (tka y' h').up (by omega)⟩
    refine ⟨_, rfl, al.ty ?_⟩
    rcases tyA_lst al Zr.no with e | ⟨p, zs, rfl, zp, hm, hl, e⟩
    · rw [e]
      refine ⟨_, rfl, al.ty ?_⟩
      rw [e]
      exact same M4 _ _ s04 (hb4.mono (by omega)) m4 tk4
    rw [e]
    have pr : p ≠ r := fun z => zp.2 (by rw [z])
    have pb : p ≠ b := fun w => by
      have z : M p = none := zp.1
      rw [w, eb] at z; cases z
    have zl := (ty.its p zs rfl hm).1
    -- one of another kind
    have oth : ∀ (Ma : Mp) (D6 : Option D), But b M Ma → Bag Ma b (m1 + 6) → Ma r = some (.lst ys) → (∀ y ∈ ys, TK M r Ma L y) → Ma p = some (.lst zs) →
        (dAsg (dCall (sp__law_other_kind A) (dCons (dVar 0) (dCons (dVar 5) (dCons (dTup (dCons (dC (.str "look")) (dNil))) (dNil))))) (gdSubL (dVar 2) (dVar 4))) { (ends Qd Ed) with nx := N, ct := N, bk := fun δ M => True } [some (.ref b), some (.ref q), some (.ref r), some x, some (.int (at_ : Nat)), some (.ref p), D6] Ma := fun Ma D6 sa ba ma tka pa => by
      have tp := tka _ hy
      refine ⟨_, rfl, _, rfl, (by show 1 ≤ sizeLine; decide), b, p, _, zs, m1 + 6, rfl, ba, by omega, pa, by omega, fun Mb t sb bb ok => ?_⟩
      have mb := sb r _ rb ma
      have pb' := sb p _ pb pa
      have tkb : ∀ y ∈ ys, TK M r Mb L y := fun y h => (tka y h).keep (keepB sb)
      have tpb := tkb _ hy
      obtain ⟨zl2, zi⟩ := tpb.its p zs rfl pb'
      have zr : ∀ p', Ma p' = none → Zr M r (some p') := fun p' h => ⟨fsh_up sa ba.there (some p') h, fun w => by cases w; rw [ma] at h; cases h⟩
      have lk := look_ok (Z := Zr M r) (M := Mb)
      obtain ⟨o1, o2⟩ := other_ok (Z := Zr M r) (n := 4) (c := 501) (L := L) (C := 4 * L * 503 + 60) ok (tpb.al.seq (by simp only [seqD, pb'])).2 zi pb' zp zr zl2 (by omega) (Nat.le_refl _) lk.1 (lk.2.mono (by decide) (by omega))
      have o3 := other_its (L := L) ok (fun _ z => nomatch z) zi zl2
      refine ⟨_, rfl, _, rfl, ys, mb, at_, ixN_at (by omega), ?_⟩
      exact store Mb t _ _ (fun a o na e => sb a o na (sa a o na e)) bb mb tkb ⟨o1, o2, o3⟩
    have elim : ∀ (Ma : Mp) (D6 : Option D), But b M Ma → Bag Ma b (m1 + 6) → Ma r = some (.lst ys) → (∀ y ∈ ys, TK M r Ma L y) → Ma p = some (.lst zs) →
        (dIf (dTruth (dIsi .lst (dVar 5))) (dAsg (dCall (sp__law_other_kind A) (dCons (dVar 0) (dCons (dVar 5) (dCons (dTup (dCons (dC (.str "look")) (dNil))) (dNil))))) (gdSubL (dVar 2) (dVar 4))) (dNext)) { (ends Qd Ed) with nx := N, ct := N, bk := fun δ M => True } [some (.ref b), some (.ref q), some (.ref r), some x, some (.int (at_ : Nat)), some (.ref p), D6] Ma := fun Ma D6 sa ba ma tka pa => by
      have tp := tka _ hy
      refine ⟨_, rfl, tp.al.ty ?_⟩
      rcases tyA_lst tp.al Zr.no with e | ⟨p', zs', e1, _, _, _, e⟩
      · exfalso
        simp only [tyA, pa] at e
        cases e
      · rw [e]
        exact oth Ma D6 sa ba ma tka pa
    refine ⟨_, rfl, (by show 0 ≤ sizeLine; decide), rfl, zs, hm, ?_⟩
    refine br2 (fun ez => ?_) (fun ez => elim M4 _ s04 (hb4.mono (by omega)) m4 tk4 hm)
    have z1 : 1 ≤ zs.length := by
      cases zs with
      | nil => cases ez
      | cons _ _ => simp
    refine ⟨_, rfl, b, 4, m1 + 1, rfl, hb4, by omega, by decide, by decide, fun M5 v5 s5 hb5 v50 v51 => ?_⟩
    have m5 := s5 r _ rb m4
    have p5 := s5 p _ pb hm
    have s05 : But b M M5 := fun a o na e => s5 a o na (s04 a o na e)
    have tk5 : ∀ y ∈ ys, TK M r M5 L y := fun y h => (tk4 y h).keep (keepB s5)
    refine br2 (fun e5 => ?_) (fun e5 => elim M5 _ s05 (hb5.mono (by omega)) m5 tk5 p5)
    refine ⟨_, rfl, _, rfl, _, p5, b, (zs.length : Nat), m1 + 2, rfl, hb5, by omega, by omega, by omega, fun M6 pl s6 hb6 l0 l1 => ?_⟩
    obtain ⟨pl, rfl⟩ := Int.eq_ofNat_of_zero_le l0
    have m6 := s6 r _ rb m5
    have p6 := s6 p _ pb p5
    have s06 : But b M M6 := fun a o na e => s6 a o na (s05 a o na e)
    have tk6 : ∀ y ∈ ys, TK M r M6 L y := fun y h => (tk5 y h).keep (keepB s6)
    obtain ⟨d, ed, hd⟩ := at_some l0 l1
    have ty6 := tk6 _ hy
    have ad := (ty6.al.seq (show seqD M6 (.ref p) = some zs by simp only [seqD, p6])).2 d hd
    refine ⟨_, rfl, _, rfl, _, p6, d, ed, d, _, rfl, ad, ?_⟩
    cases edd : isDeed d with
    | false => exact same M6 _ _ s06 (hb6.mono (by omega)) m6 tk6
    | true =>
      obtain ⟨de, rfl, dok⟩ := deed_inv edd
      refine ⟨_, rfl, _, rfl, _, p6, _, rfl, _, rfl, _, rfl, _, p6, _, ed, b, de, m1 + 3, rfl, dok, hb6, by omega, fun M7 o s7 hb7 ao so => ?_⟩
      have m7 := s7 r _ rb m6
      have p7 := s7 p _ pb p6
      have s07 : But b M M7 := fun a o na e => s7 a o na (s06 a o na e)
      have tk7 : ∀ y ∈ ys, TK M r M7 L y := fun y h => (tk6 y h).keep (keepB s7)
      have c1 : cutD zs none (some (pl : Int)) = zs.take pl := cutD_to
      have c2 : cutD zs (some ((pl : Int) + 1)) none = zs.drop (pl + 1) := by
        rw [show (pl : Int) + 1 = ((pl + 1 : Nat) : Int) by omega]
        exact cutD_from
      refine ⟨(by show 1 ≤ sizeLine; decide), ?_⟩
      show dAdd2 (.lst (cutD zs none (some (pl : Int)))) (.lst [o]) M7 _
      rw [c1]
      refine ⟨Nat.le_trans (by rw [List.length_take]; simp only [List.length_cons, List.length_nil]; omega : _ ≤ 16001) (by decide), ?_⟩
      refine ⟨_, rfl, _, rfl, _, p7, ?_⟩
      show dAddM (.lst (zs.take pl ++ [o])) (.lst (cutD zs (some ((pl : Int) + 1)) none)) M7 _
      rw [c2]
      refine ⟨Nat.le_trans (by rw [List.length_append, List.length_take, List.length_drop, List.length_singleton]; omega : _ ≤ 16001) (by decide), fun p8 hp8 => ?_⟩
      have x8 : Ext M7 (updM M7 p8 (.lst (zs.take pl ++ [o] ++ zs.drop (pl + 1)))) := Ext.new hp8
      have s08 : But b M (updM M7 p8 (.lst (zs.take pl ++ [o] ++ zs.drop (pl + 1)))) := fun a o na e => x8 a o (s07 a o na e)
      have p80 : M p8 = none := fsh_up s07 hb7.there (some p8) hp8
      have p8r : p8 ≠ r := fun w => by rw [w, m7] at hp8; cases hp8
      have tk8 : ∀ y ∈ ys, TK M r (updM M7 p8 (.lst (zs.take pl ++ [o] ++ zs.drop (pl + 1)))) L y := fun y h => (tk7 y h).keep fun a u _ e => x8 a u e
      have ty8 := tk8 _ hy
      have p8p := x8 p _ p7
      have i8 := (ty8.al.seq (show seqD _ (.ref p) = some zs by simp only [seqD, p8p])).2
      have w8 := (ty8.its p zs rfl p8p).2
      have zup : ∀ a, Fsh M6 a → Zr M r a := fun a f => ⟨fsh_up s06 hb6.there a f, fun w => by subst w; have f : M6 r = none := f; rw [m6] at f; cases f⟩
      have ln : (zs.take pl ++ [o] ++ zs.drop (pl + 1)).length = zs.length := by
        rw [List.length_append, List.length_append, List.length_take, List.length_drop, List.length_singleton]; omega
      have it : ∀ y ∈ zs.take pl ++ [o] ++ zs.drop (pl + 1), Al (Zr M r) (updM M7 p8 (.lst (zs.take pl ++ [o] ++ zs.drop (pl + 1)))) y ∧ Shw (updM M7 p8 (.lst (zs.take pl ++ [o] ++ zs.drop (pl + 1)))) y 4 501 := fun y h => by
        rcases List.mem_append.mp h with h | h
        · rcases List.mem_append.mp h with h | h
          · have h := List.mem_of_mem_take h
            exact ⟨i8 y h, w8 y h⟩
          · rw [List.mem_singleton.mp h]
            exact ⟨ao.mono (fun a u _ e => x8 a u e) zup, so.ext x8⟩
        · have h := List.mem_of_mem_drop h
          exact ⟨i8 y h, w8 y h⟩
      refine ⟨_, rfl, _, rfl, ys, x8 r _ m7, at_, ixN_at (by omega), ?_⟩
      refine store _ (.ref p8) _ _ s08 ((hb7.ext x8).mono (by omega)) (x8 r _ m7) tk8 ⟨.ref ⟨p80, fun w => p8r (by cases w; rfl)⟩ updM_same (by rw [ln]; exact hl) fun y h => (it y h).1, (shw_ref (n := 4) (c := 501) updM_same fun y h => (it y h).2).mono (by decide) ?_, fun p' ys' e' hm' => ?_⟩
      · rw [ln]
        have := Nat.mul_le_mul_right 503 zl
        omega
      · cases e'
        rw [updM_same] at hm'
        cases hm'
        exact ⟨by rw [ln]; omega, fun y h => (it y h).2⟩
  · obtain ⟨ys, w3, w4, w5, w6, rfl, _, s3, hb3, m3, y1, y3, tk3⟩ := h
    simp only [List.length_nil] at hb3 tk3
    have zs : ∀ a, Zr M r a → Fsh M a := fun a z => z.1
    refine ⟨_, rfl, b, 5, n + 15, rfl, hb3.mono (by omega), by omega, by decide, by decide, fun M4 v4 s4 hb4 a0 a1 => ?_⟩
    have m4 := s4 r _ rb m3
    have s04 : But b M M4 := fun a o na e => s4 a o na (s3 a o na e)
    have tk4 : ∀ y ∈ ys, TK M r M4 128 y := fun y h => (tk3 y h).keep (keepB s4)
    have fin : ∀ {M' : Mp}, (∀ y ∈ ys, TK M r M' 128 y) → M' r = some (.lst ys) → Al (Fsh M) M' (.ref r) ∧ Shw M' (.ref r) 8 800000 := fun {M'} tk m => by
      refine ⟨.ref hr0 m (by omega) fun y h => (tk y h).al.mono (fun _ _ _ e => e) zs, (shw_ref m fun y h => (tk y h).sw).mono (by decide) ?_⟩
      have e : 128 * 503 + 60 + 2 = 64446 := by decide
      rw [e]
      exact Nat.le_trans (Nat.add_le_add_right (Nat.mul_le_mul_right 64446 y3) 3) (by decide)
    refine br2 (fun _ => ?_) (fun _ => ?_)
    · refine ⟨_, rfl, _, rfl, _, rfl, b, r, _, ys, n + 16, rfl, hb4, by omega, m4, by omega, fun M5 t s5 hb5 ok => ?_⟩
      have m5 := s5 r _ rb m4
      have tk5 : ∀ y ∈ ys, TK M r M5 128 y := fun y h => (tk4 y h).keep (keepB s5)
      have s05 : But b M M5 := fun a o na e => s5 a o na (s04 a o na e)
      obtain ⟨f1, f2⟩ := fin tk5 m5
      obtain ⟨o1, o2⟩ := other_ok (Z := Fsh M) (n := 6) (c := 128 * 503 + 60) (L := 3) (C := 800000) ok (fun y h => (tk5 y h).al.mono (fun _ _ _ e => e) zs) (fun y h => (tk5 y h).sw) m5 hr0 (fun p' h => fsh_up s04 hb4.there (some p') h) y3 (by decide) (by decide) f1 f2
      exact post M5 t s05 (hb5.mono (by omega)) o1 (o2.mono (by decide) (by decide))
    · obtain ⟨f1, f2⟩ := fin tk4 m4
      exact ⟨_, rfl, post M4 _ s04 (hb4.mono (by omega)) f1 (f2.mono (by decide) (by decide))⟩
  · rw [rng_len]; omega
  · have := tk2 y h
    exact this.up (by rw [rng_len]; rcases (by omega : (1 + v).toNat = 1 ∨ (1 + v).toNat = 2) with e | e <;> rw [e] <;> decide)
end K51
set_option Elab.async false
set_option linter.all false
set_option maxRecDepth 100000
set_option maxHeartbeats 4000000
namespace K51
open PySem L2 DL
theorem De.isD {d : De} (h : d.ok) : isDeed d.d = true := by
  cases d with
  | nm w n =>
    show isDeed (.tup (.str w :: [.str n])) = true
    rw [deed_str, md_nm h.1]
    show partsOk "name" [.str n] = true
    rw [parts_nm]
    exact h.2.name
  | one w =>
    show isDeed (.tup (.str w :: [])) = true
    rw [deed_str, md_one h]
    show partsOk "" [] = true
    rw [parts_one]
    rfl
  | tick i =>
    show isDeed (.tup (.str "tick" :: [.int i])) = true
    rw [deed_str, md_tick]
    show partsOk "turns" [.int i] = true
    rw [parts_tk]
    show (decide (1 ≤ i) && decide (i ≤ 100)) = true
    rw [decide_eq_true h.1, decide_eq_true h.2]
    rfl
abbrev Any : Option Addr → Prop := fun _ => True
theorem TaskA.seq {M : Mp} {t : D} (h : TaskA t) : ∃ xs : List De, seqD M t = some (xs.map De.d) ∧ xs.length ≤ 8 ∧ ∀ d ∈ xs, d.ok := by
  obtain ⟨xs, e | e, l, o⟩ := h
  · subst e; exact ⟨xs, rfl, l, o⟩
  · subst e; exact ⟨xs, rfl, l, o⟩
theorem TaskA.told {M : Mp} {t : D} (h : TaskA t) : ∃ xs, dueT M t = .inr xs := by
  obtain ⟨xs, e, l, o⟩ := h.seq (M := M)
  refine ⟨_, dueT_ok e (by rw [List.length_map]; exact l) (List.find?_eq_none.mpr fun x hx => ?_)⟩
  obtain ⟨d, hd, rfl⟩ := List.mem_map.mp hx
  simp [notD, De.isD (o d hd)]
theorem TaskA.al {M : Mp} {t : D} (h : TaskA t) : Al Any M t ∧ Shw M t 2 2000 := by
  obtain ⟨xs, e, l, o⟩ := h
  have it : ∀ x ∈ xs.map De.d, Al Any M x ∧ Shw M x 1 247 := fun x hx => by
    obtain ⟨d, hd, rfl⟩ := List.mem_map.mp hx
    exact De.al (o d hd)
  have ll : (xs.map De.d).length ≤ 8 := by rw [List.length_map]; exact l
  have lb := Nat.mul_le_mul_right 249 ll
  obtain ⟨ss, a, b, k⟩ := shw_list fun x hx => (it x hx).2
  have k : Sh.ws ss ≤ (xs.map De.d).length * 249 := k
  rcases e with rfl | rfl
  · exact ⟨.lst trivial (by omega) fun x hx => (it x hx).1, _, .lst a, by simp only [Sh.dep]; omega, by simp only [Sh.w]; omega⟩
  · exact ⟨.tup (by omega) fun x hx => (it x hx).1, _, .tup a, by simp only [Sh.dep]; omega, by simp only [Sh.w]; omega⟩
theorem toldL_all {M : Mp} : ∀ {ts : List D}, (∀ t ∈ ts, TaskA t) → ∃ ys, dueL M ts = .inr ys
  | [], _ => ⟨[], rfl⟩
  | t :: r, h => by
    obtain ⟨xs, e⟩ := (h t List.mem_cons_self).told (M := M)
    obtain ⟨ys, e2⟩ := toldL_all (M := M) fun x hx => h x (List.mem_cons_of_mem _ hx)
    exact ⟨xs :: ys, by rw [dueL_good e, e2]⟩
theorem toldS {M : Mp} {x : D} {ts : List D} (e : seqD M x = some ts) (l1 : 1 ≤ ts.length) (l3 : ts.length ≤ 3) (h : ∀ t ∈ ts, TaskA t) : (outS M x).isRight = true := by
  obtain ⟨ys, e2⟩ := toldL_all (M := M) h
  unfold outS
  rw [dueS_some e ⟨l1, l3⟩, e2]
  rfl
theorem toldT {M : Mp} {t : D} (h : TaskA t) : (outT M t).isRight = true := by
  obtain ⟨xs, e⟩ := h.told (M := M)
  unfold outT
  rw [e]
  rfl
section
variable {A : Ad} {M : Mp} {y : D} {Z : Option Addr → Prop} {Dd : DEnds} {δ : DS}
theorem b3_ok (hi : δ[8]? = some (some y)) (al : Al Z M y) (sw : Shw M y 10 1000000) (nz : (outS M y).isRight = true ∨ ¬ Z none) (q : ∀ M', (∀ a u, ((outS M y).isRight = true ∨ ¬ Z (some a)) → M a = some u → M' a = some u) → Dd.nx δ M') : b3_law A Dd δ M := by
  refine ⟨_, hi, _, hi, y, Z, rfl, al, ?_⟩
  cases e : outS M y with
  | inl b =>
    obtain ⟨k, x⟩ := b
    intro M' x1
    refine ⟨_, y, k, x, Z, outS M' y, rfl, al.ext x1, sw.ext x1, .inl ⟨rfl, rfl⟩, ?_, fun M2 h => q M2 fun a u c z => h a u ?_ (x1 a u z)⟩
    · rw [outS_ext x1 al, e]
      exact ⟨rfl, rfl, nz.resolve_left (by rw [e]; exact Bool.false_ne_true)⟩
    · rw [outS_ext x1 al]; exact c
  | inr d =>
    intro M' p x1 sam
    refine ⟨_, y, _, _, Z, outS M' y, rfl, al.ext x1, sw.ext x1, .inl ⟨rfl, rfl⟩, ?_, fun M2 h => q M2 fun a u c z => h a u ?_ (x1 a u z)⟩
    · rw [outS_ext x1 al, e]
      exact ⟨rfl, sam⟩
    · rw [outS_ext x1 al]; exact c
theorem b4_ok (hi : δ[7]? = some (some y)) (al : Al Z M y) (sw : Shw M y 10 1000000) (nz : (outT M y).isRight = true ∨ ¬ Z none) (q : ∀ M', (∀ a u, ((outT M y).isRight = true ∨ ¬ Z (some a)) → M a = some u → M' a = some u) → Dd.nx δ M') : b4_law A Dd δ M := by
  refine ⟨_, hi, _, hi, y, Z, rfl, al, ?_⟩
  cases e : outT M y with
  | inl b =>
    obtain ⟨k, x⟩ := b
    refine ⟨_, y, k, x, Z, outT M y, rfl, al, sw, .inr ⟨rfl, rfl⟩, ?_, q⟩
    rw [e]
    exact ⟨rfl, rfl, nz.resolve_left (by rw [e]; exact Bool.false_ne_true)⟩
  | inr d =>
    refine ⟨_, y, _, _, Z, outT M y, rfl, al, sw, .inr ⟨rfl, rfl⟩, ?_, q⟩
    rw [e]
    exact ⟨rfl, Sam.refl M d⟩
end
theorem bag_of {M M' : Mp} {b : Addr} {n : Nat} (h : Bag M b n) (f : ∀ u, M b = some u → M' b = some u) : Bag M' b n := by
  obtain ⟨x, y, z, e, k⟩ := h
  exact ⟨x, y, z, f _ e, k⟩
section
variable {A : Ad} {Dd : DEnds} {M : Mp} {c0 c1 c3 c5 c6 c7 c8 c9 c10 c11 c12 : Option D} {b q : Addr} {ts : List D} {n : Nat} {ss : List Str}
structure TS (M : Mp) (b q : Addr) (n : Nat) (ts : List D) : Prop where
  bag : Bag M b n
  m : M q = some (.lst ts)
  ne : q ≠ b
  l1 : 1 ≤ ts.length
  l3 : ts.length ≤ 3
  ok : ∀ t ∈ ts, TaskA t
theorem TS.by {M' : Mp} (h : TS M b q n ts) (s : But b M M') {n' : Nat} (hb : Bag M' b n') : TS M' b q n' ts := ⟨hb, s q _ h.ne h.m, h.ne, h.l1, h.l3, h.ok⟩
theorem TS.keep {M' : Mp} (h : TS M b q n ts) (s : ∀ a u, M a = some u → M' a = some u) : TS M' b q n ts := ⟨bag_of h.bag (s b), s q _ h.m, h.ne, h.l1, h.l3, h.ok⟩
theorem TS.al (h : TS M b q n ts) : (Al Any M (.ref q) ∧ Shw M (.ref q) 10 1000000) ∧ Al Any M (.tup ts) ∧ Shw M (.tup ts) 10 1000000 := by
  have l3 := h.l3
  have lb := Nat.mul_le_mul_right 2002 l3
  refine ⟨⟨.ref trivial h.m (by omega) fun t ht => (h.ok t ht).al.1, (shw_ref h.m fun t ht => (h.ok t ht).al.2).mono (by decide) ?_⟩, .tup (by omega) fun t ht => (h.ok t ht).al.1, (shw_tup fun t ht => (h.ok t ht).al.2).mono (by decide) ?_⟩
  · show ts.length * 2002 + 3 ≤ 1000000
    omega
  · show ts.length * 2002 + 3 ≤ 1000000
    omega
abbrev Nx (c0 : Option D) (Dd : DEnds) : Prop := ∀ M c1 c2 c3 c4 c5 c6 c7 c8 c9 c10 c11 c12, Dd.nx [c0, c1, c2, c3, c4, c5, c6, c7, c8, c9, c10, c11, c12] M
theorem k1_ok (h : TS M b q n ts) (hn : n < 600000) {d : De} (hd : d.ok) (nx : Nx c0 Dd) : k1_law A Dd [c0, c1, some (.ref b), c3, some (.ref q), c5, c6, c7, c8, some d.d, c10, c11, c12] M := by
  refine ⟨_, rfl, _, rfl, _, rfl, b, d, n, rfl, hd, h.bag, by omega, fun M2 x s2 hb2 ax sx => ?_⟩
  refine ⟨_, rfl, b, n + 4, rfl, hb2, by omega, fun M3 y s3 hb3 ay sy => ?_⟩
  refine ⟨(by show 0 ≤ sizeLine; decide), _, rfl, (by show 5 ≤ sizeLine; decide), ?_⟩
  have h3 : TS M3 b q (n + 4 + 1) ts := (h.by s2 hb2).by s3 hb3
  obtain ⟨ob, eb⟩ := h.bag.there
  have kx : ∀ a u, Fsh M (some a) → M2 a = some u → M3 a = some u := fun a u z e => s3 a u (fun w => by
    have z : M a = none := z
    rw [w, eb] at z; cases z) e
  refine loop_inv (fun rem δ M4 => M4 = M3 ∧ (∀ z ∈ rem, ∃ Z, Al Z M3 z ∧ Shw M3 z 10 1000000) ∧ ∃ w8 w10 w11, δ = [c0, c1, some (.ref b), c3, some (.ref q), c5, c6, c7, w8, some d.d, w10, w11, c12]) (fun z r δ M4 N hh next => ?_) (fun δ M4 hh => ?_) _ _ _ ⟨rfl, fun z hz => ?_, _, _, _, rfl⟩
  · obtain ⟨rfl, hz, w8, w10, w11, rfl⟩ := hh
    obtain ⟨Z, al, sw⟩ := hz z List.mem_cons_self
    obtain ⟨s, sh, sd, sl⟩ := shw_get sw (by decide) (by decide)
    obtain ⟨u, uh, ud, ul⟩ := shw_get (shw_bl (M := M4) (isDeed z)) (by decide) (by decide)
    refine ⟨_, rfl, s, sh, sd, sl, ?_⟩
    refine ⟨_, rfl, z, Z, rfl, al, u, uh, ud, ul, ?_⟩
    refine ⟨_, rfl, z, Z, rfl, al, u, uh, ud, ul, _, rfl, ?_⟩
    refine brF (b := !decide (u.text = u.text)) (by simp) ?_
    refine ⟨_, rfl, z, Z, rfl, al, u, uh, ud, ul, _, rfl, ?_⟩
    refine brF (b := !decide (u.text = u.text)) (by simp) ?_
    refine ⟨_, rfl, s, sh, sd, sl, _, rfl, ?_⟩
    refine brF (b := !decide (s.text = s.text)) (by simp) ?_
    exact next _ _ ⟨rfl, fun z' hz' => hz z' (List.mem_cons_of_mem _ hz'), _, _, _, rfl⟩
  · obtain ⟨rfl, _, w8, w10, w11, rfl⟩ := hh
    exact nx _ _ _ _ _ _ _ _ _ _ _ _ _
  · simp only [List.mem_cons, List.mem_nil_iff, or_false] at hz
    rcases hz with rfl | rfl | rfl | rfl | rfl
    · obtain ⟨d1, d2⟩ := De.al (Z := Any) (M := M3) hd
      exact ⟨_, d1, d2.mono (by decide) (by decide)⟩
    · exact ⟨_, ax.mono kx fun _ z => z, (ax.shw kx sx).mono (by decide) (by decide)⟩
    · exact ⟨_, ay, sy.mono (by decide) (by decide)⟩
    · exact ⟨Any, .tup (by decide) (fun _ z => nomatch z), (shw_tup (n := 0) (c := 1) (ds := []) (fun _ z => nomatch z)).mono (by decide) (by decide)⟩
    · exact ⟨_, h3.al.1⟩
theorem k2_ok (h : TS M b q n ts) (hn : n < 500000) (ne : ss ≠ []) (sl : ss.length ≤ 100) (nm : ∀ s ∈ ss, Nm s) (nx : Nx c0 Dd) : k2_law A Dd [c0, c1, some (.ref b), some (.lst (ss.map D.str)), some (.ref q), c5, c6, c7, c8, c9, c10, c11, c12] M := by
  refine ⟨_, rfl, _, rfl, b, ss, n, rfl, h.bag, by omega, ne, sl, nm, fun M2 d s2 hb2 hd => ?_⟩
  exact k1_ok (h.by s2 hb2) (by omega) hd nx
theorem k3_ok (h : TS M b q n ts) (hn : n < 400000) (ne : ss ≠ []) (sl : ss.length ≤ 100) (nm : ∀ s ∈ ss, Nm s) (nx : Nx c0 Dd) : k3_law A Dd [c0, c1, some (.ref b), some (.lst (ss.map D.str)), some (.ref q), c5, c6, c7, c8, c9, c10, c11, c12] M := by
  have l3 := h.l3
  refine ⟨_, rfl, _, rfl, _, rfl, b, q, ts, n, rfl, h.bag, by omega, h.m, h.ne, h.l1, h.l3, h.ok, fun M1 x s1 hb1 ax sx => ?_⟩
  refine ⟨(by show 1 ≤ sizeLine; decide), _, s1 q _ h.ne h.m, Nat.le_trans (by simp only [List.length_cons, List.length_nil]; omega : _ ≤ 4) (by decide), ?_⟩
  have h1 : TS M1 b q (n + 60) ts := h.by s1 hb1
  refine loop_inv (fun rem δ M2 => (∃ w7, δ = [c0, c1, some (.ref b), some (.lst (ss.map D.str)), some (.ref q), c5, c6, w7, c8, c9, c10, c11, c12]) ∧ ((∃ rs, rem = rs ++ [x] ∧ (∀ t ∈ rs, TaskA t) ∧ Ext M1 M2) ∨ rem = [] ∧ TS M2 b q (n + 60) ts)) (fun z r δ M2 N hh next => ?_) (fun δ M2 hh => ?_) _ _ _ ⟨⟨_, rfl⟩, .inl ⟨ts, rfl, h.ok, Ext.refl M1⟩⟩
  · obtain ⟨⟨w7, rfl⟩, hh⟩ := hh
    rcases hh with ⟨rs, e, tk, x2⟩ | ⟨e, _⟩
    · cases rs with
      | nil =>
        cases e
        refine b4_ok rfl (ax.ext x2) (sx.ext x2) (.inr id) fun M3 k => ?_
        refine next _ _ ⟨⟨_, rfl⟩, .inr ⟨rfl, ⟨bag_of hb1 fun u e => k b u (.inr fun z => ?_) (x2 b u e), k q _ (.inr fun z => ?_) (x2 q _ h1.m), h.ne, h.l1, h.l3, h.ok⟩⟩⟩
        · obtain ⟨ob, eb⟩ := h.bag.there
          have z : M b = none := z
          rw [eb] at z; cases z
        · have z : M q = none := z
          rw [h.m] at z; cases z
      | cons t rs =>
        cases e
        have ht := tk z List.mem_cons_self
        refine b4_ok rfl ht.al.1 (ht.al.2.mono (by decide) (by decide)) (.inl (toldT ht)) fun M3 k => ?_
        exact next _ _ ⟨⟨_, rfl⟩, .inl ⟨rs, rfl, fun t' h' => tk t' (List.mem_cons_of_mem _ h'), fun a u e => k a u (.inl (toldT ht)) (x2 a u e)⟩⟩
    · cases e
  · obtain ⟨⟨w7, rfl⟩, hh⟩ := hh
    rcases hh with ⟨rs, e, _⟩ | ⟨_, h2⟩
    · exact absurd e.symm (by simp)
    · exact k2_ok h2 (by omega) ne sl nm nx
theorem k4_ok (h : TS M b q n ts) (hn : n < 300000) (ne : ss ≠ []) (sl : ss.length ≤ 100) (nm : ∀ s ∈ ss, Nm s) (nx : Nx c0 Dd) : k4_law A Dd [c0, c1, some (.ref b), some (.lst (ss.map D.str)), some (.ref q), c5, c6, c7, c8, c9, c10, c11, c12] M := by
  have l3 := h.l3
  refine ⟨_, rfl, _, rfl, _, h.m, _, rfl, _, rfl, b, q, ts, n, rfl, h.bag, by omega, h.m, h.ne, h.l1, h.l3, h.ok, fun M1 x s1 hb1 ax sx => ?_⟩
  refine ⟨(by show 3 ≤ sizeLine; decide), ?_⟩
  have h1 : TS M1 b q (n + 60) ts := h.by s1 hb1
  refine loop_inv (fun rem δ M2 => (∃ w8, δ = [c0, c1, some (.ref b), some (.lst (ss.map D.str)), some (.ref q), c5, c6, c7, w8, c9, c10, c11, c12]) ∧ ((∃ rs, rem = rs ++ [x] ∧ (∀ t ∈ rs, t = .ref q ∨ t = .tup ts) ∧ Ext M1 M2) ∨ rem = [] ∧ TS M2 b q (n + 60) ts)) (fun z r δ M2 N hh next => ?_) (fun δ M2 hh => ?_) _ _ _ ⟨⟨_, rfl⟩, .inl ⟨[.ref q, .tup ts], rfl, fun t ht => by simpa using ht, Ext.refl M1⟩⟩
  · obtain ⟨⟨w8, rfl⟩, hh⟩ := hh
    rcases hh with ⟨rs, e, tk, x2⟩ | ⟨e, _⟩
    · cases rs with
      | nil =>
        cases e
        refine b3_ok rfl (ax.ext x2) (sx.ext x2) (.inr id) fun M3 k => ?_
        refine next _ _ ⟨⟨_, rfl⟩, .inr ⟨rfl, ⟨bag_of hb1 fun u e => k b u (.inr fun z => ?_) (x2 b u e), k q _ (.inr fun z => ?_) (x2 q _ h1.m), h.ne, h.l1, h.l3, h.ok⟩⟩⟩
        · obtain ⟨ob, eb⟩ := h.bag.there
          have z : M b = none := z
          rw [eb] at z; cases z
        · have z : M q = none := z
          rw [h.m] at z; cases z
      | cons t rs =>
        cases e
        have h2 := h1.keep fun a u e => x2 a u e
        have ht : (Al Any M2 z ∧ Shw M2 z 10 1000000) ∧ seqD M2 z = some ts := by
          rcases tk z List.mem_cons_self with rfl | rfl
          · exact ⟨h2.al.1, by simp only [seqD, h2.m]⟩
          · exact ⟨h2.al.2, rfl⟩
        have rt := toldS ht.2 h.l1 h.l3 h.ok
        refine b3_ok rfl ht.1.1 ht.1.2 (.inl rt) fun M3 k => ?_
        exact next _ _ ⟨⟨_, rfl⟩, .inl ⟨rs, rfl, fun t' h' => tk t' (List.mem_cons_of_mem _ h'), fun a u e => k a u (.inl rt) (x2 a u e)⟩⟩
    · cases e
  · obtain ⟨⟨w8, rfl⟩, hh⟩ := hh
    rcases hh with ⟨rs, e, _⟩ | ⟨_, h2⟩
    · exact absurd e.symm (by simp)
    · exact k3_ok h2 (by omega) ne sl nm nx
theorem k5_ok (hb : Bag M b n) (hn : n < 200000) (hq : M q = some (.lst [])) (qb : q ≠ b) (ne : ss ≠ []) (sl : ss.length ≤ 100) (nm : ∀ s ∈ ss, Nm s) (nx : Nx c0 Dd) : k5_law A Dd [c0, c1, some (.ref b), some (.lst (ss.map D.str)), some (.ref q), c5, c6, c7, c8, c9, c10, c11, c12] M := by
  refine ⟨_, rfl, b, 3, n, rfl, hb, by omega, by decide, by decide, fun M1 v s1 hb1 v0 v1 => ?_⟩
  refine ⟨⟨by omega, by omega⟩, ?_⟩
  have qk : ∀ {Ma Mb : Mp} {o : MO}, But b Ma Mb → Ma q = some o → Mb q = some o := fun s e => s q _ qb e
  refine loop_inv (fun rem δ M2 => (∃ w5 w6 w7 w12, δ = [c0, c1, some (.ref b), some (.lst (ss.map D.str)), some (.ref q), w5, w6, w7, c8, c9, c10, c11, w12]) ∧ Bag M2 b (n + 1 + 50 * (3 - rem.length)) ∧ ∃ ts, M2 q = some (.lst ts) ∧ ts.length + rem.length ≤ 3 ∧ 1 ≤ ts.length + rem.length ∧ ∀ t ∈ ts, TaskA t) (fun x r δ M2 N hh next => ?_) (fun δ M2 hh => ?_) _ _ _ ⟨⟨_, _, _, _, rfl⟩, hb1.mono (by omega), [], qk s1 hq, ?_, ?_, fun _ z => nomatch z⟩
  · obtain ⟨⟨w5, w6, w7, w12, rfl⟩, hb2, ts, m2, hl, _, ok⟩ := hh
    simp only [List.length_cons] at hb2 hl
    generalize hm : n + 1 + 50 * (3 - (r.length + 1)) = m at hb2
    have hm2 : n + 1 + 50 * (3 - r.length) = m + 50 := by omega
    refine ⟨_, rfl, b, 9, m, rfl, hb2, by omega, by decide, by decide, fun M3 y s3 hb3 y0 y1 => ?_⟩
    refine ⟨(by show 3 ≤ sizeLine; decide), _, rfl, b, 3, m + 1, rfl, hb3, by omega, by decide, by decide, fun M4 w s4 hb4 w0 w1 => ?_⟩
    obtain ⟨sz, e2, q0, q1⟩ : ∃ s : Int, atI [D.int 0, .int 8, .int y] w = some (.int s) ∧ 0 ≤ s ∧ s ≤ 8 := by
      rcases (by omega : w = 0 ∨ w = 1 ∨ w = 2) with rfl | rfl | rfl
      · exact ⟨_, rfl, by decide, by decide⟩
      · exact ⟨_, rfl, by decide, by decide⟩
      · exact ⟨_, rfl, by omega, by omega⟩
    refine ⟨_, e2, ?_⟩
    refine ⟨_, rfl, ⟨by omega, by omega⟩, (by rw [rng_len]; exact Nat.lt_of_le_of_lt (by omega : _ ≤ 8) (by decide)), ?_⟩
    refine comp_inv (fun rem acc M5 => But b M2 M5 ∧ Bag M5 b (m + 34 - 4 * rem.length) ∧ ∃ ds : List De, acc = ds.map De.d ∧ (∀ d ∈ ds, d.ok) ∧ ds.length + rem.length ≤ 8) (fun x2 r2 acc M5 R h5 next5 => ?_) (fun acc M5 h5 => ?_) _ _ _ ⟨fun a o na e => s4 a o na (s3 a o na e), hb4.mono (by rw [rng_len]; omega), [], rfl, (fun _ z => nomatch z), by rw [rng_len]; simp only [List.length_nil]; omega⟩
    · obtain ⟨s5, hb5, ds, rfl, od, ld⟩ := h5
      simp only [List.length_cons] at hb5 ld
      refine ⟨_, rfl, _, rfl, b, ss, _, rfl, hb5, by omega, ne, sl, nm, fun M6 d s6 hb6 hd => ?_⟩
      refine next5 _ _ ⟨fun a o na e => s6 a o na (s5 a o na e), hb6.mono (by omega), ds ++ [d], by rw [List.map_append]; rfl, fun d' h' => ?_, by rw [List.length_append, List.length_singleton]; omega⟩
      rcases List.mem_append.mp h' with h | h
      · exact od d' h
      · rw [List.mem_singleton.mp h]; exact hd
    · obtain ⟨s5, hb5, ds, rfl, od, ld⟩ := h5
      simp only [List.length_nil] at hb5 ld
      have m5 := qk s5 m2
      refine ⟨Nat.le_trans (by rw [List.length_map]; omega : _ ≤ 8) (by decide), ?_⟩
      refine ⟨_, rfl, ⟨_, m5⟩, ?_⟩
      refine ⟨_, rfl, _, rfl, (by show 2 ≤ sizeLine; decide), _, rfl, b, 2, m + 34, rfl, hb5, by omega, by decide, by decide, fun M6 u s6 hb6 u0 u1 => ?_⟩
      obtain ⟨t, et, mt⟩ := at_some (xs := [D.lst (ds.map De.d), .tup (ds.map De.d)]) u0 (by show _ < 2; exact u1)
      have tk : TaskA t := by
        simp only [List.mem_cons, List.mem_nil_iff, or_false] at mt
        exact ⟨ds, mt, by omega, od⟩
      have m6 := qk s6 m5
      refine ⟨t, et, ts, m6, Nat.lt_of_le_of_lt (by omega : _ ≤ 3) (by decide), ?_⟩
      refine next _ _ ⟨⟨_, _, _, _, rfl⟩, by rw [hm2]; exact (hb6.upd (Ne.symm qb)).mono (by omega), ts ++ [t], updM_same, by rw [List.length_append, List.length_singleton]; omega, by rw [List.length_append, List.length_singleton]; omega, fun t' h' => ?_⟩
      rcases List.mem_append.mp h' with h | h
      · exact ok t' h
      · rw [List.mem_singleton.mp h]; exact tk
  · obtain ⟨⟨w5, w6, w7, w12, rfl⟩, hb2, ts, m2, hl, hl1, ok⟩ := hh
    simp only [List.length_nil] at hb2 hl hl1
    exact k4_ok ⟨hb2, m2, qb, by omega, by omega, ok⟩ (by omega) ne sl nm nx
  · rw [rng_len, List.length_nil]; omega
  · rw [rng_len, List.length_nil]; omega
theorem b1_ok {ns : List Int} {k : Int} (hl : ns.length ≤ 63) (k0 : 0 ≤ k) (k1 : k < 100) {c2 c4 : Option D} (nx : Nx (some (.sq (ns.map D.int))) Dd) :
    b1_law A Dd [some (.sq (ns.map D.int)), some (.int k), c2, c3, c4, c5, c6, c7, c8, c9, c10, c11, c12] M := by
  refine ⟨_, rfl, _, rfl, ns, k, rfl, k0, k1, hl, fun c => ?_⟩
  refine ⟨c, rfl, fun b M1 hb0 s1 hb1 => ?_⟩
  refine ⟨_, rfl, b, 3, 0, rfl, hb1, by decide, by decide, by decide, fun M2 ss s2 hb2 sl nm => ?_⟩
  refine ⟨(by show 0 ≤ sizeLine; decide), fun p hp => ?_⟩
  have pb : p ≠ b := fun z => by
    obtain ⟨o, e⟩ := hb2.there
    rw [z, e] at hp; cases hp
  refine k5_ok (hb2.upd (Ne.symm pb)) (by decide) updM_same pb (fun e => ?_) (by omega) nm nx
  rw [e] at sl
  exact absurd sl (by decide)
end
theorem rd_law (A : Ad) (hA : AdOk A) : ∀ ds M Qd Ed, spLaw ds M Qd Ed → t_law A (ends Qd Ed) (dstart N_law ds) M := by
  intro ds M Qd Ed h
  obtain ⟨ns, rfl, hl, q⟩ := h
  refine ⟨_, rfl, ?_⟩
  have bd : ∀ j : Int, 0 ≤ j → j ≤ 12 → (-(2 ^ 62) ≤ j ∧ j < 2 ^ 62) ∧ dLoop (gdName 1) (b1_law A) .data (rngD 0 j.toNat) { ends Qd Ed with nx := dRet (dC (.bl true)) (ends Qd Ed) } (dstart N_law [.sq (ns.map D.int)]) M := by
    intro j j0 j1
    refine ⟨by omega, ?_⟩
    refine loop_inv (fun xs δ M => (∀ d ∈ xs, ∃ k : Int, d = .int k ∧ 0 ≤ k ∧ k < 100) ∧ ∃ c1 c2 c3 c4 c5 c6 c7 c8 c9 c10 c11 c12, δ = [some (.sq (ns.map D.int)), c1, c2, c3, c4, c5, c6, c7, c8, c9, c10, c11, c12]) ?_ ?_ _ _ _ ⟨fun d hd => ?_, _, _, _, _, _, _, _, _, _, _, _, _, rfl⟩
    · rintro x rs δ M' N ⟨hx, c1, c2, c3, c4, c5, c6, c7, c8, c9, c10, c11, c12, rfl⟩ h
      obtain ⟨k, rfl, k0, k1⟩ := hx x List.mem_cons_self
      exact b1_ok hl k0 k1 fun M2 d1 d2 d3 d4 d5 d6 d7 d8 d9 d10 d11 d12 => h _ _ ⟨fun d hd => hx d (List.mem_cons_of_mem _ hd), _, _, _, _, _, _, _, _, _, _, _, _, rfl⟩
    · exact fun δ M' _ => q M'
    · obtain ⟨k, rfl, k0, k1⟩ := rng_mem hd
      exact ⟨k, rfl, by omega, by omega⟩
  refine bd _ ?_ ?_
  all_goals (split <;> (try split) <;> omega)
end K51
set_option Elab.async false
set_option linter.all false
set_option maxRecDepth 100000
set_option maxHeartbeats 4000000
namespace K51
open PySem L2 DL
def topS (i : Nat) : Stmt := PySem.Challenge.pw_drowsetree_k51_tasks_told.main.body.getD i (.Pass ⟨0, 0, 0, 0⟩)
structure Txt (P : Program) (w : World) (K : PySem.W.Frag) (mg : Str → Option Value) (base : Heap) (A : Ad) : Prop where
  xm : A.xm = PySem.W.exmAny K
  b_max : mg "max" = none
  b_len : mg "len" = none
  b_sum : mg "sum" = none
  b_range : mg "range" = none
  b_isinstance : mg "isinstance" = none
  b_str : mg "str" = none
  b_tuple : mg "tuple" = none
  b_int : mg "int" = none
  b_bool : mg "bool" = none
  x_NoTask : ExcT P w K mg base 1 "NoTask" "found" A.c_NoTask
  xT_NoTask : ExcTS P w K mg base 1 "NoTask" "found" "NoTask" A.c_NoTask
  b_list : mg "list" = none
  g_MOST_LETTERS : ∃ t, mg "MOST_LETTERS" = some (.int 8 t)
  b_all : mg "all" = none
  g_LETTERS : ∃ t, mg "LETTERS" = some (.str "abcdefghijklmnopqrstuvwxyz" t)
  g_MOST_TICK : ∃ t, mg "MOST_TICK" = some (.int 100 t)
  g_DEEDS : ∃ q, mg "DEEDS" = some (.ref q) ∧ MDict K w q md_DEEDS
  g_MOST_DEEDS : ∃ t, mg "MOST_DEEDS" = some (.int 8 t)
  x_NoList : ExcT P w K mg base 1 "NoList" "found" A.c_NoList
  g_MOST_TASKS : ∃ t, mg "MOST_TASKS" = some (.int 3 t)
  n_WakeError : mg "WakeError" = some (.ref A.c_WakeError)
  n_StateError : mg "StateError" = some (.ref A.c_StateError)
  n_NoTask : mg "NoTask" = some (.ref A.c_NoTask)
  xf_NoTask : XfC K A.c_NoTask
  xn_NoTask_found : PySem.W.findIn K (.ref A.c_NoTask) "found" = some none
  n_NoList : mg "NoList" = some (.ref A.c_NoList)
  xf_NoList : XfC K A.c_NoList
  xn_NoList_found : PySem.W.findIn K (.ref A.c_NoList) "found" = some none
  b_repr : mg "repr" = none
  b_min : mg "min" = none
section
variable {P : Program} {w : World} {K : PySem.W.Frag} {mg : Str → Option Value} {base : Heap} {A : Ad}
abbrev s_NoTask_init : Stmt := inClass (topS 4) 0
theorem sc_NoTask_init : FnScope ["self", "found"] ["self", "found"] (defScope s_NoTask_init) := ⟨rfl, rfl, rfl, by decide +kernel, rfl, by decide +kernel, by decide +kernel⟩
theorem init_NoTask {C f : Addr} {fd : FuncData} (F : L2.Fun K "__init__" "NoTask.__init__" s_NoTask_init f fd) (oe : OexC K C) (no : PySem.W.findIn K (.ref C) "found" = some none) : FnG P w K mg base (L2.CX P w) 1 f fd ["self", "found"] (spI C "found") := by
  obtain ⟨oc, od, kV, doc, pm, an, cdv, ct, osl, rfl, lk, hcd⟩ := F.ex
  refine fng_of lk hcd sc_NoTask_init (fun vs H Q E h => ?_) fun A l s H vs Q E ng rm h => ?_
  · obtain ⟨a, v, rfl, _⟩ := h
    rfl
  · obtain ⟨a, v, rfl, ha, q⟩ := h
    exact ⟨_, pss_one (ps_ost (pv 0) (pv 1)), _, rfl, _, rfl, a, C, rfl, oe, no, Or.inl ⟨ha, fun dx hd ne => q dx hd ne⟩⟩
theorem initT_NoTask {C f : Addr} {fd : FuncData} (F : L2.Fun K "__init__" "NoTask.__init__" s_NoTask_init f fd) (oe : OexC K C) (no : PySem.W.findIn K (.ref C) "found" = some none) : FnG P w K mg base (L2.CX P w) 1 f fd ["self", "found"] (spIT C "found") := by
  obtain ⟨oc, od, kV, doc, pm, an, cdv, ct, osl, rfl, lk, hcd⟩ := F.ex
  refine fng_of lk hcd sc_NoTask_init (fun vs H Q E h => ?_) fun A l s H vs Q E ng rm h => ?_
  · obtain ⟨a, t, v, rfl, _⟩ := h
    rfl
  · obtain ⟨a, t, v, rfl, ha, q⟩ := h
    exact ⟨_, pss_one (ps_sx (pv 0) (pv 1)), _, rfl, _, rfl, a, C, t, rfl, oe, no, ha, fun dx hd ne => q dx hd ne⟩
abbrev s_NoList_init : Stmt := inClass (topS 3) 0
theorem sc_NoList_init : FnScope ["self", "found"] ["self", "found"] (defScope s_NoList_init) := ⟨rfl, rfl, rfl, by decide +kernel, rfl, by decide +kernel, by decide +kernel⟩
theorem init_NoList {C f : Addr} {fd : FuncData} (F : L2.Fun K "__init__" "NoList.__init__" s_NoList_init f fd) (oe : OexC K C) (no : PySem.W.findIn K (.ref C) "found" = some none) : FnG P w K mg base (L2.CX P w) 1 f fd ["self", "found"] (spI C "found") := by
  obtain ⟨oc, od, kV, doc, pm, an, cdv, ct, osl, rfl, lk, hcd⟩ := F.ex
  refine fng_of lk hcd sc_NoList_init (fun vs H Q E h => ?_) fun A l s H vs Q E ng rm h => ?_
  · obtain ⟨a, v, rfl, _⟩ := h
    rfl
  · obtain ⟨a, v, rfl, ha, q⟩ := h
    exact ⟨_, pss_one (ps_ost (pv 0) (pv 1)), _, rfl, _, rfl, a, C, rfl, oe, no, Or.inl ⟨ha, fun dx hd ne => q dx hd ne⟩⟩
abbrev s__law_box : Stmt := topS 21
theorem sc__law_box : FnScope N__law_box ["_law_cell_here"] (defScope s__law_box) := ⟨rfl, rfl, rfl, by decide +kernel, rfl, by decide +kernel, by decide +kernel⟩
theorem kb__law_box_0 {f : Addr} {fd : FuncData} (F : FunD K "_law_box" "_law_box" (defArgs s__law_box) (defBody s__law_box) (defScope s__law_box) [] [] f fd) : KBd K fd ["_law_cell_here"] 1 [] plainG := by
  obtain ⟨oc, od, dV, kV, doc, pm, an, cdv, ct, osl, rfl, lk, hcd, hD, hK⟩ := F.ex
  obtain ⟨_, rfl⟩ | ⟨e, _⟩ := hD
  rotate_left
  · exact absurd rfl e
  exact kb_plain rfl fun us hl => match us, hl with | [_], _ => rfl
theorem ok__law_box {f : Addr} {fd : FuncData} (hA : AdOk A) (F : FunD K "_law_box" "_law_box" (defArgs s__law_box) (defBody s__law_box) (defScope s__law_box) [] [] f fd) (T : Txt P w K mg base A) : FnA P w K mg base 1 f ["_law_cell_here"] (sp__law_box A) [⟨1, [], plainG⟩] := by
  have nd := (sc__law_box).nd
  refine dfunA (ps := ["_law_cell_here"]) F (pats_cons (kb__law_box_0 F) (pats_nil)) sc__law_box (len__law_box A) fun cdv Ar l s H E g rm => ⟨t__law_box A, ?_, rd__law_box A hA⟩
  exact s_one (s_ret (d_lstM (a_cons (d_max g T.b_max (a_cons (d_int) (a_cons (d_sub (d_var 0) (d_pow (d_int) (d_int))) (a_nil)))) (a_cons (d_mod (d_var 0) (d_int)) (a_cons (d_int) (a_nil))))))
abbrev s__law_cell : Stmt := topS 20
theorem sc__law_cell : FnScope N__law_cell ["_law_script", "_law_k"] (defScope s__law_cell) := ⟨rfl, rfl, rfl, by decide +kernel, rfl, by decide +kernel, by decide +kernel⟩
theorem kb__law_cell_0 {f : Addr} {fd : FuncData} (F : FunD K "_law_cell" "_law_cell" (defArgs s__law_cell) (defBody s__law_cell) (defScope s__law_cell) [] [] f fd) : KBd K fd ["_law_script", "_law_k"] 2 [] plainG := by
  obtain ⟨oc, od, dV, kV, doc, pm, an, cdv, ct, osl, rfl, lk, hcd, hD, hK⟩ := F.ex
  obtain ⟨_, rfl⟩ | ⟨e, _⟩ := hD
  rotate_left
  · exact absurd rfl e
  exact kb_plain rfl fun us hl => match us, hl with | [_, _], _ => rfl
theorem ok__law_cell {f : Addr} {fd : FuncData} (hA : AdOk A) (F : FunD K "_law_cell" "_law_cell" (defArgs s__law_cell) (defBody s__law_cell) (defScope s__law_cell) [] [] f fd) (T : Txt P w K mg base A) : FnA P w K mg base 1 f ["_law_script", "_law_k"] (sp__law_cell A) [⟨2, [], plainG⟩] := by
  have nd := (sc__law_cell).nd
  refine dfunA (ps := ["_law_script", "_law_k"]) F (pats_cons (kb__law_cell_0 F) (pats_nil)) sc__law_cell (len__law_cell A) fun cdv Ar l s H E g rm => ⟨t__law_cell A, ?_, rd__law_cell A hA⟩
  exact s_cons (s_if (t_cmp op_lt lr_lt (d_var 1) (d_len T.b_len (a_cons (d_var 0) (a_nil))) (nomark _)) (s_one (s_ret (d_sub_ix (d_var 0) (d_var 1)))) (s_nil))
    (s_one (s_ret (d_add5 (d_add5 (d_mul (d_int) (d_var 1)) (d_int)) (d_mod (d_sum g T.b_sum (a_cons (d_sl4 (d_var 0) (o_none) (o_some (d_int))) (a_nil))) (d_int)))))
abbrev s__law_take : Stmt := topS 22
theorem sc__law_take : FnScope N__law_take ["_law_box_here", "_law_many"] (defScope s__law_take) := ⟨rfl, rfl, rfl, by decide +kernel, rfl, by decide +kernel, by decide +kernel⟩
theorem kb__law_take_0 {f : Addr} {fd : FuncData} (F : FunD K "_law_take" "_law_take" (defArgs s__law_take) (defBody s__law_take) (defScope s__law_take) [] [] f fd) : KBd K fd ["_law_box_here", "_law_many"] 2 [] plainG := by
  obtain ⟨oc, od, dV, kV, doc, pm, an, cdv, ct, osl, rfl, lk, hcd, hD, hK⟩ := F.ex
  obtain ⟨_, rfl⟩ | ⟨e, _⟩ := hD
  rotate_left
  · exact absurd rfl e
  exact kb_plain rfl fun us hl => match us, hl with | [_, _], _ => rfl
theorem ok__law_take {f : Addr} {fd : FuncData} (hA : AdOk A) (F : FunD K "_law_take" "_law_take" (defArgs s__law_take) (defBody s__law_take) (defScope s__law_take) [] [] f fd) (T : Txt P w K mg base A) : FnA P w K mg base 1 f ["_law_box_here", "_law_many"] (sp__law_take A) [⟨2, [], plainG⟩] := by
  have nd := (sc__law_take).nd
  refine dfunA (ps := ["_law_box_here", "_law_many"]) F (pats_cons (kb__law_take_0 F) (pats_nil)) sc__law_take (len__law_take A) fun cdv Ar l s H E g rm => ⟨t__law_take A, ?_, rd__law_take A hA⟩
  exact s_cons (s_if (t_cmp op_gt lr_gt (d_sub_ix (d_var 0) (d_int)) (d_int) (nomark _)) (s_cons (s_set 2 nd (d_mod (d_sub_ix (d_var 0) (d_int)) (d_var 1)))
    (s_cons (s_asg (d_div (d_sub_ix (d_var 0) (d_int)) (d_var 1)) (g_subL (d_var 0) (d_int)))
    (s_one (s_ret (d_var 2))))) (s_nil))
    (s_cons (s_asg (d_add5 (d_sub_ix (d_var 0) (d_int)) (d_int)) (g_subL (d_var 0) (d_int)))
    (s_cons (s_set 3 nd (d_mod (d_pow (d_add5 (d_add5 (d_sub_ix (d_var 0) (d_int)) (d_mul (d_int) (d_sub_ix (d_var 0) (d_int)))) (d_int)) (d_int)) (d_int)))
    (s_cons (s_set 4 nd (d_mod (d_pow (d_add5 (d_add5 (d_div (d_var 3) (d_int)) (d_mul (d_mul (d_int) (d_sub_ix (d_var 0) (d_int))) (d_sub_ix (d_var 0) (d_int)))) (d_int)) (d_int)) (d_int)))
    (s_one (s_ret (d_mod (d_add5 (d_div (d_var 3) (d_int)) (d_mul (d_int) (d_div (d_var 4) (d_int)))) (d_var 1)))))))
abbrev s__law_names : Stmt := topS 23
theorem sc__law_names : FnScope N__law_names ["_law_box_here", "_law_many"] (defScope s__law_names) := ⟨rfl, rfl, rfl, by decide +kernel, rfl, by decide +kernel, by decide +kernel⟩
theorem kb__law_names_0 {f : Addr} {fd : FuncData} (F : FunD K "_law_names" "_law_names" (defArgs s__law_names) (defBody s__law_names) (defScope s__law_names) [] [] f fd) : KBd K fd ["_law_box_here", "_law_many"] 2 [] plainG := by
  obtain ⟨oc, od, dV, kV, doc, pm, an, cdv, ct, osl, rfl, lk, hcd, hD, hK⟩ := F.ex
  obtain ⟨_, rfl⟩ | ⟨e, _⟩ := hD
  rotate_left
  · exact absurd rfl e
  exact kb_plain rfl fun us hl => match us, hl with | [_, _], _ => rfl
theorem ok__law_names {f : Addr} {fd : FuncData} (hA : AdOk A) (F : FunD K "_law_names" "_law_names" (defArgs s__law_names) (defBody s__law_names) (defScope s__law_names) [] [] f fd) (T : Txt P w K mg base A) (f__law_take : FnN P w K mg base 1 "_law_take" ["_law_box_here", "_law_many"] (sp__law_take A) [⟨2, [], plainG⟩]) : FnA P w K mg base 2 f ["_law_box_here", "_law_many"] (sp__law_names A) [⟨2, [], plainG⟩] := by
  have nd := (sc__law_names).nd
  refine dfunA (ps := ["_law_box_here", "_law_many"]) F (pats_cons (kb__law_names_0 F) (pats_nil)) sc__law_names (len__law_names A) fun cdv Ar l s H E g rm => ⟨t__law_names A, ?_, rd__law_names A hA⟩
  exact s_cons (s_set 2 nd (d_str))
    (s_cons (s_asg (d_tup (a_cons (d_fnP 0 f__law_take g (rm.mono (by decide)) (a_cons (d_var 0) (a_cons (d_int) (a_nil)))) (a_cons (d_fnP 0 f__law_take g (rm.mono (by decide)) (a_cons (d_var 0) (a_cons (d_int) (a_nil)))) (a_nil)))) (g_tup (n := 2) g.calm (gs_cons 3 nd (gs_cons 4 nd (gs_nil)))))
    (s_cons (s_asg (d_tup (a_cons (d_add5 (d_int) (d_fnP 0 f__law_take g (rm.mono (by decide)) (a_cons (d_var 0) (a_cons (d_int) (a_nil))))) (a_cons (d_sub_ix (d_lst (a_cons (d_int) (a_cons (d_int) (a_cons (d_int) (a_cons (d_int) (a_cons (d_int) (a_cons (d_int) (a_cons (d_int) (a_nil))))))))) (d_fnP 0 f__law_take g (rm.mono (by decide)) (a_cons (d_var 0) (a_cons (d_int) (a_nil))))) (a_nil)))) (g_tup (n := 2) g.calm (gs_cons 5 nd (gs_cons 6 nd (gs_nil)))))
    (s_cons (s_set 7 nd (d_fnP 0 f__law_take g (rm.mono (by decide)) (a_cons (d_var 0) (a_cons (d_var 5) (a_nil)))))
    (s_cons (s_set 8 nd (d_join (d_str) (d_lc N__law_names (defScope s__law_names) [("_law_k", 12)] g nd (i_range1 T.b_range (a_cons (d_int) (a_nil))) (by decide +kernel) (t := (.one 12)) rfl (fun _ _ _ _ _ g => v_one 12 nd) (fun _ _ _ _ _ g => ts_nil) (fun _ _ _ _ _ g => d_sub_ix (d_var 2) (d_fnP 0 f__law_take g (rm.mono (by decide)) (a_cons (d_var 0) (a_cons (d_int) (a_nil))))))))
    (s_cons (s_if (t_cmp (op_eq2 rm) lr_eq (d_var 3) (d_int) (nomark _)) (s_cons (s_set 9 nd (d_split (d_str) (d_str)))
    (s_cons (s_set 6 nd (d_sub_ix (d_lst (a_cons (d_int) (a_cons (d_int) (a_cons (d_int) (a_cons (d_int) (a_cons (d_int) (a_cons (d_int) (a_cons (d_int) (a_nil))))))))) (d_mod (d_var 6) (d_int))))
    (s_one (s_ret (d_lc N__law_names (defScope s__law_names) [("_law_k", 12)] g nd (i_range1 T.b_range (a_cons (d_var 1) (a_nil))) (by decide +kernel) (t := (.one 12)) rfl (fun _ _ _ _ _ g => v_one 12 nd) (fun _ _ _ _ _ g => ts_nil) (fun _ _ _ _ _ g => d_sub_ix (d_var 9) (d_mod (d_add5 (d_var 4) (d_mul (d_var 6) (d_var 12))) (d_int)))))))) (s_nil))
    (s_cons (s_if (t_cmp (op_eq2 rm) lr_eq (d_var 3) (d_int) (nomark _)) (s_cons (s_set 8 nd (d_add5 (d_var 8) (d_sub_ix (d_var 2) (d_var 4))))
    (s_one (s_ret (d_lc N__law_names (defScope s__law_names) [("_law_k", 12)] g nd (i_range1 T.b_range (a_cons (d_var 1) (a_nil))) (by decide +kernel) (t := (.one 12)) rfl (fun _ _ _ _ _ g => v_one 12 nd) (fun _ _ _ _ _ g => ts_nil) (fun _ _ _ _ _ g => d_sl4 (d_var 8) (o_none) (o_some (d_add5 (d_int) (d_mod (d_add5 (d_var 7) (d_var 12)) (d_int))))))))) (s_nil))
    (s_cons (s_setLc 10 N__law_names (defScope s__law_names) [("_law_k", 12)] g nd (i_range1 T.b_range (a_cons (d_var 1) (a_nil))) (by decide +kernel) (t := (.one 12)) rfl (fun _ _ _ _ _ g => v_one 12 nd) (fun _ _ _ _ _ g => ts_nil) (fun _ _ _ _ _ g => d_sub_ix (d_var 2) (d_mod (d_add5 (d_var 4) (d_mul (d_var 6) (d_var 12))) (d_int))) (sw_true rfl rfl rfl (by decide +kernel)))
    (s_cons (s_set 11 nd (d_sl4 (d_var 8) (o_some (d_var 7)) (o_some (d_sub (d_var 5) (d_int)))))
    (s_one (s_ret (d_lc N__law_names (defScope s__law_names) [("_law_sign", 13)] g nd (i_list (d_var 10)) (by decide +kernel) (t := (.one 13)) rfl (fun _ _ _ _ _ g => v_one 13 nd) (fun _ _ _ _ _ g => ts_nil) (fun _ _ _ _ _ g => d_add5 (d_add5 (d_sl4 (d_var 8) (o_none) (o_some (d_var 7))) (d_var 13)) (d_var 11)))))))))))))
abbrev s__law_deed : Stmt := topS 24
theorem sc__law_deed : FnScope N__law_deed ["_law_box_here", "_law_names_here"] (defScope s__law_deed) := ⟨rfl, rfl, rfl, by decide +kernel, rfl, by decide +kernel, by decide +kernel⟩
theorem kb__law_deed_0 {f : Addr} {fd : FuncData} (F : FunD K "_law_deed" "_law_deed" (defArgs s__law_deed) (defBody s__law_deed) (defScope s__law_deed) [] [] f fd) : KBd K fd ["_law_box_here", "_law_names_here"] 2 [] plainG := by
  obtain ⟨oc, od, dV, kV, doc, pm, an, cdv, ct, osl, rfl, lk, hcd, hD, hK⟩ := F.ex
  obtain ⟨_, rfl⟩ | ⟨e, _⟩ := hD
  rotate_left
  · exact absurd rfl e
  exact kb_plain rfl fun us hl => match us, hl with | [_, _], _ => rfl
theorem ok__law_deed {f : Addr} {fd : FuncData} (hA : AdOk A) (F : FunD K "_law_deed" "_law_deed" (defArgs s__law_deed) (defBody s__law_deed) (defScope s__law_deed) [] [] f fd) (T : Txt P w K mg base A) (f__law_take : FnN P w K mg base 1 "_law_take" ["_law_box_here", "_law_many"] (sp__law_take A) [⟨2, [], plainG⟩]) : FnA P w K mg base 2 f ["_law_box_here", "_law_names_here"] (sp__law_deed A) [⟨2, [], plainG⟩] := by
  have nd := (sc__law_deed).nd
  refine dfunA (ps := ["_law_box_here", "_law_names_here"]) F (pats_cons (kb__law_deed_0 F) (pats_nil)) sc__law_deed (len__law_deed A) fun cdv Ar l s H E g rm => ⟨t__law_deed A, ?_, rd__law_deed A hA⟩
  exact s_cons (s_set 2 nd (d_sub_ix (d_lst (a_cons (d_str) (a_cons (d_str) (a_cons (d_str) (a_cons (d_str) (a_cons (d_str) (a_cons (d_str) (a_cons (d_str) (a_cons (d_str) (a_nil)))))))))) (d_fnP 0 f__law_take g (rm.mono (by decide)) (a_cons (d_var 0) (a_cons (d_int) (a_nil))))))
    (s_cons (s_if (t_cmp (op_eq2 rm) lr_eq (d_var 2) (d_str) (nomark _)) (s_one (s_ret (d_tup (a_cons (d_var 2) (a_cons (d_sub_ix (d_lst (a_cons (d_int) (a_cons (d_int) (a_cons (d_add5 (d_int) (d_fnP 0 f__law_take g (rm.mono (by decide)) (a_cons (d_var 0) (a_cons (d_int) (a_nil))))) (a_nil))))) (d_fnP 0 f__law_take g (rm.mono (by decide)) (a_cons (d_var 0) (a_cons (d_int) (a_nil))))) (a_nil)))))) (s_nil))
    (s_cons (s_if (t_cmp op_in_seq lr_inW1 (d_var 2) (d_tup (a_cons (d_str) (a_cons (d_str) (a_cons (d_str) (a_nil))))) rfl) (s_one (s_ret (d_tup (a_cons (d_var 2) (a_nil))))) (s_nil))
    (s_one (s_ret (d_tup (a_cons (d_var 2) (a_cons (d_sub_ix (d_var 1) (d_fnP 0 f__law_take g (rm.mono (by decide)) (a_cons (d_var 0) (a_cons (d_len T.b_len (a_cons (d_var 1) (a_nil))) (a_nil))))) (a_nil))))))))
abbrev s__law_is_name : Stmt := topS 27
theorem sc__law_is_name : FnScope N__law_is_name ["_law_thing"] (defScope s__law_is_name) := ⟨rfl, rfl, rfl, by decide +kernel, rfl, by decide +kernel, by decide +kernel⟩
theorem kb__law_is_name_0 {f : Addr} {fd : FuncData} (F : FunD K "_law_is_name" "_law_is_name" (defArgs s__law_is_name) (defBody s__law_is_name) (defScope s__law_is_name) [] [] f fd) : KBd K fd ["_law_thing"] 1 [] plainG := by
  obtain ⟨oc, od, dV, kV, doc, pm, an, cdv, ct, osl, rfl, lk, hcd, hD, hK⟩ := F.ex
  obtain ⟨_, rfl⟩ | ⟨e, _⟩ := hD
  rotate_left
  · exact absurd rfl e
  exact kb_plain rfl fun us hl => match us, hl with | [_], _ => rfl
theorem ok__law_is_name {f : Addr} {fd : FuncData} (hA : AdOk A) (F : FunD K "_law_is_name" "_law_is_name" (defArgs s__law_is_name) (defBody s__law_is_name) (defScope s__law_is_name) [] [] f fd) (T : Txt P w K mg base A) : FnA P w K mg base 1 f ["_law_thing"] (sp__law_is_name A) [⟨1, [], plainG⟩] := by
  have nd := (sc__law_is_name).nd
  refine dfunA (ps := ["_law_thing"]) F (pats_cons (kb__law_is_name_0 F) (pats_nil)) sc__law_is_name (len__law_is_name A) fun cdv Ar l s H E g rm => ⟨t__law_is_name A, ?_, rd__law_is_name A hA⟩
  exact s_cons (s_if (t_w (w_or (t_not (t_truth (d_isi .str (fun z => nomatch z) (fun z => nomatch z) T.b_isinstance T.b_str (by decide +kernel) (d_var 0)))) (w_or1 (t_not (t_chain op_lt op_lt lr_lt lr_lt (d_int) (d_len T.b_len (a_cons (d_var 0) (a_nil))) (d_int)))))) (s_one (s_ret (d_bl))) (s_nil))
    (s_one (s_ret (d_cmp (op_e0 rm) lr_e0 (d_lc N__law_is_name (defScope s__law_is_name) [("_law_sign", 1)] g nd (i_str (d_var 0)) (by decide +kernel) (t := (.one 1)) rfl (fun _ _ _ _ _ g => v_one 1 nd) (fun _ _ _ _ _ g => ts_one (t_cmp op_notIn_sign lr_notInS (d_var 1) (d_str) rfl)) (fun _ _ _ _ _ g => d_var 1)) (d_lst (a_nil)) (nomark _))))
abbrev s__law_is_deed : Stmt := topS 28
theorem sc__law_is_deed : FnScope N__law_is_deed ["_law_thing"] (defScope s__law_is_deed) := ⟨rfl, rfl, rfl, by decide +kernel, rfl, by decide +kernel, by decide +kernel⟩
theorem kb__law_is_deed_0 {f : Addr} {fd : FuncData} (F : FunD K "_law_is_deed" "_law_is_deed" (defArgs s__law_is_deed) (defBody s__law_is_deed) (defScope s__law_is_deed) [] [] f fd) : KBd K fd ["_law_thing"] 1 [] plainG := by
  obtain ⟨oc, od, dV, kV, doc, pm, an, cdv, ct, osl, rfl, lk, hcd, hD, hK⟩ := F.ex
  obtain ⟨_, rfl⟩ | ⟨e, _⟩ := hD
  rotate_left
  · exact absurd rfl e
  exact kb_plain rfl fun us hl => match us, hl with | [_], _ => rfl
theorem ok__law_is_deed {f : Addr} {fd : FuncData} (hA : AdOk A) (F : FunD K "_law_is_deed" "_law_is_deed" (defArgs s__law_is_deed) (defBody s__law_is_deed) (defScope s__law_is_deed) [] [] f fd) (T : Txt P w K mg base A) (f__law_is_name : FnN P w K mg base 1 "_law_is_name" ["_law_thing"] (sp__law_is_name A) [⟨1, [], plainG⟩]) : FnA P w K mg base 2 f ["_law_thing"] (sp__law_is_deed A) [⟨1, [], plainG⟩] := by
  have nd := (sc__law_is_deed).nd
  refine dfunA (ps := ["_law_thing"]) F (pats_cons (kb__law_is_deed_0 F) (pats_nil)) sc__law_is_deed (len__law_is_deed A) fun cdv Ar l s H E g rm => ⟨t__law_is_deed A, ?_, rd__law_is_deed A hA⟩
  exact s_cons (s_if (t_w (w_or (t_not (t_truth (d_isi .tup (fun z => nomatch z) (fun z => nomatch z) T.b_isinstance T.b_tuple (by decide +kernel) (d_var 0)))) (w_or (t_cmp (op_e0T rm) lr_e0T (d_var 0) (d_tup (a_nil)) (nomark _)) (w_or1 (t_not (t_truth (d_isi .str (fun z => nomatch z) (fun z => nomatch z) T.b_isinstance T.b_str (by decide +kernel) (d_sub_ix (d_var 0) (d_int))))))))) (s_one (s_ret (d_bl))) (s_nil))
    (s_cons (s_if (t_cmp op_in_seq lr_inW1 (d_sub_ix (d_var 0) (d_int)) (d_tup (a_cons (d_str) (a_cons (d_str) (a_cons (d_str) (a_nil))))) rfl) (s_one (s_ret (d_cmp (op_eq2 rm) lr_eq (d_len T.b_len (a_cons (d_var 0) (a_nil))) (d_int) (nomark _)))) (s_nil))
    (s_cons (s_if (t_cmp (op_ne2 rm) lr_ne (d_len T.b_len (a_cons (d_var 0) (a_nil))) (d_int) (nomark _)) (s_one (s_ret (d_bl))) (s_nil))
    (s_cons (s_if (t_cmp (op_eq2 rm) lr_eq (d_sub_ix (d_var 0) (d_int)) (d_str) (nomark _)) (s_one (s_ret (d_and (d_isi .int (fun z => nomatch z) (fun z => nomatch z) T.b_isinstance T.b_int (by decide +kernel) (d_sub_ix (d_var 0) (d_int))) (d_and (d_not (d_isi .bl (fun z => nomatch z) (fun z => nomatch z) T.b_isinstance T.b_bool (by decide +kernel) (d_sub_ix (d_var 0) (d_int)))) (d_one (d_chain op_lt op_lt lr_lt lr_lt (d_int) (d_sub_ix (d_var 0) (d_int)) (d_int))))))) (s_nil))
    (s_one (s_ret (d_and (d_cmp op_in_seq lr_inW1 (d_sub_ix (d_var 0) (d_int)) (d_tup (a_cons (d_str) (a_cons (d_str) (a_cons (d_str) (a_cons (d_str) (a_nil)))))) rfl) (d_one (d_fnP 0 f__law_is_name g (rm.mono (by decide)) (a_cons (d_sub_ix (d_var 0) (d_int)) (a_nil))))))))))
abbrev s__law_odd : Stmt := topS 25
theorem sc__law_odd : FnScope N__law_odd ["_law_box_here"] (defScope s__law_odd) := ⟨rfl, rfl, rfl, by decide +kernel, rfl, by decide +kernel, by decide +kernel⟩
theorem kb__law_odd_0 {f : Addr} {fd : FuncData} (F : FunD K "_law_odd" "_law_odd" (defArgs s__law_odd) (defBody s__law_odd) (defScope s__law_odd) [] [] f fd) : KBd K fd ["_law_box_here"] 1 [] plainG := by
  obtain ⟨oc, od, dV, kV, doc, pm, an, cdv, ct, osl, rfl, lk, hcd, hD, hK⟩ := F.ex
  obtain ⟨_, rfl⟩ | ⟨e, _⟩ := hD
  rotate_left
  · exact absurd rfl e
  exact kb_plain rfl fun us hl => match us, hl with | [_], _ => rfl
theorem ok__law_odd {f : Addr} {fd : FuncData} (hA : AdOk A) (F : FunD K "_law_odd" "_law_odd" (defArgs s__law_odd) (defBody s__law_odd) (defScope s__law_odd) [] [] f fd) (T : Txt P w K mg base A) (f__law_take : FnN P w K mg base 1 "_law_take" ["_law_box_here", "_law_many"] (sp__law_take A) [⟨2, [], plainG⟩]) : FnA P w K mg base 3 f ["_law_box_here"] (sp__law_odd A) [⟨1, [], plainG⟩] := by
  have nd := (sc__law_odd).nd
  refine dfunA (ps := ["_law_box_here"]) F (pats_cons (kb__law_odd_0 F) (pats_nil)) sc__law_odd (len__law_odd A) fun cdv Ar l s H E g rm => ⟨t__law_odd A, ?_, rd__law_odd A hA⟩
  exact s_cons (s_set 1 nd (d_lst (a_cons (d_non) (a_cons (d_bl) (a_cons (d_bl) (a_cons (d_int) (a_cons (d_str) (a_cons (d_str) (a_cons (d_str) (a_cons (d_str) (a_cons (d_str) (a_cons (d_lstM (a_nil)) (a_cons (d_lstM (a_cons (d_str) (a_nil))) (a_cons (d_tup (a_nil)) (a_cons (d_dict0) (a_cons (d_pow (d_int) (d_int)) (a_cons (d_int) (a_cons (d_int) (a_cons (d_neg (d_int)) (a_cons (d_tup (a_cons (d_str) (a_nil))) (a_nil)))))))))))))))))))))
    (s_one (s_ret (d_sub_ix (d_add5 (d_var 1) (d_lst (a_cons (d_str) (a_cons (d_excT T.xT_NoTask g (rm.mono (by decide)) (d_str)) (a_cons (d_int) (a_cons (d_str) (a_nil))))))) (d_fnP 0 f__law_take g (rm.mono (by decide)) (a_cons (d_var 0) (a_cons (d_int) (a_nil)))))))
abbrev s__law_bent : Stmt := topS 26
theorem sc__law_bent : FnScope N__law_bent ["_law_box_here", "_law_deed_here"] (defScope s__law_bent) := ⟨rfl, rfl, rfl, by decide +kernel, rfl, by decide +kernel, by decide +kernel⟩
theorem kb__law_bent_0 {f : Addr} {fd : FuncData} (F : FunD K "_law_bent" "_law_bent" (defArgs s__law_bent) (defBody s__law_bent) (defScope s__law_bent) [] [] f fd) : KBd K fd ["_law_box_here", "_law_deed_here"] 2 [] plainG := by
  obtain ⟨oc, od, dV, kV, doc, pm, an, cdv, ct, osl, rfl, lk, hcd, hD, hK⟩ := F.ex
  obtain ⟨_, rfl⟩ | ⟨e, _⟩ := hD
  rotate_left
  · exact absurd rfl e
  exact kb_plain rfl fun us hl => match us, hl with | [_, _], _ => rfl
theorem ok__law_bent {f : Addr} {fd : FuncData} (hA : AdOk A) (F : FunD K "_law_bent" "_law_bent" (defArgs s__law_bent) (defBody s__law_bent) (defScope s__law_bent) [] [] f fd) (T : Txt P w K mg base A) (f__law_take : FnN P w K mg base 1 "_law_take" ["_law_box_here", "_law_many"] (sp__law_take A) [⟨2, [], plainG⟩]) (f__law_odd : FnN P w K mg base 3 "_law_odd" ["_law_box_here"] (sp__law_odd A) [⟨1, [], plainG⟩]) : FnA P w K mg base 4 f ["_law_box_here", "_law_deed_here"] (sp__law_bent A) [⟨2, [], plainG⟩] := by
  have nd := (sc__law_bent).nd
  refine dfunA (ps := ["_law_box_here", "_law_deed_here"]) F (pats_cons (kb__law_bent_0 F) (pats_nil)) sc__law_bent (len__law_bent A) fun cdv Ar l s H E g rm => ⟨t__law_bent A, ?_, rd__law_bent A hA⟩
  exact s_cons (s_set 2 nd (d_fnP 0 f__law_take g (rm.mono (by decide)) (a_cons (d_var 0) (a_cons (d_int) (a_nil)))))
    (s_cons (s_set 3 nd (d_fnP 0 f__law_take g (rm.mono (by decide)) (a_cons (d_var 0) (a_cons (d_len T.b_len (a_cons (d_var 1) (a_nil))) (a_nil)))))
    (s_cons (s_if (t_cmp (op_eq2 rm) lr_eq (d_var 2) (d_int) (nomark _)) (s_one (s_ret (d_add5 (d_var 1) (d_tup (a_cons (d_fnP 0 f__law_odd g (rm.mono (by decide)) (a_cons (d_var 0) (a_nil))) (a_nil)))))) (s_nil))
    (s_cons (s_if (t_cmp (op_eq2 rm) lr_eq (d_var 2) (d_int) (nomark _)) (s_one (s_ret (d_add5 (d_sl4 (d_var 1) (o_none) (o_some (d_var 3))) (d_sl4 (d_var 1) (o_some (d_add5 (d_var 3) (d_int))) (o_none))))) (s_nil))
    (s_cons (s_if (t_cmp (op_eq2 rm) lr_eq (d_var 2) (d_int) (nomark _)) (s_one (s_ret (d_add5 (d_add5 (d_sl4 (d_var 1) (o_none) (o_some (d_var 3))) (d_tup (a_cons (d_fnP 0 f__law_odd g (rm.mono (by decide)) (a_cons (d_var 0) (a_nil))) (a_nil)))) (d_sl4 (d_var 1) (o_some (d_add5 (d_var 3) (d_int))) (o_none))))) (s_nil))
    (s_cons (s_if (t_cmp (op_eq2 rm) lr_eq (d_var 2) (d_int) (nomark _)) (s_one (s_ret (d_listM T.b_list (a_cons (d_var 1) (a_nil))))) (s_nil))
    (s_cons (s_if (t_cmp (op_eq2 rm) lr_eq (d_var 2) (d_int) (nomark _)) (s_one (s_ret (d_add5 (d_tup (a_cons (d_sub_ix (d_lst (a_cons (d_str) (a_cons (d_str) (a_cons (d_str) (a_cons (d_str) (a_cons (d_str) (a_cons (d_str) (a_cons (d_str) (a_nil))))))))) (d_fnP 0 f__law_take g (rm.mono (by decide)) (a_cons (d_var 0) (a_cons (d_int) (a_nil))))) (a_nil))) (d_sl4 (d_var 1) (o_some (d_int)) (o_none))))) (s_nil))
    (s_cons (s_if (t_cmp (op_eq2 rm) lr_eq (d_var 2) (d_int) (nomark _)) (s_one (s_ret (d_fnP 0 f__law_odd g (rm.mono (by decide)) (a_cons (d_var 0) (a_nil))))) (s_nil))
    (s_one (s_ret (d_tup (a_cons (d_var 1) (a_cons (d_sub_ix (d_var 1) (d_int)) (a_nil)))))))))))))
abbrev s__law_other_kind : Stmt := topS 33
theorem sc__law_other_kind : FnScope N__law_other_kind ["_law_box_here", "_law_things", "_law_some"] (defScope s__law_other_kind) := ⟨rfl, rfl, rfl, by decide +kernel, rfl, by decide +kernel, by decide +kernel⟩
theorem kb__law_other_kind_0 {f : Addr} {fd : FuncData} (F : FunD K "_law_other_kind" "_law_other_kind" (defArgs s__law_other_kind) (defBody s__law_other_kind) (defScope s__law_other_kind) [] [] f fd) : KBd K fd ["_law_box_here", "_law_things", "_law_some"] 3 [] plainG := by
  obtain ⟨oc, od, dV, kV, doc, pm, an, cdv, ct, osl, rfl, lk, hcd, hD, hK⟩ := F.ex
  obtain ⟨_, rfl⟩ | ⟨e, _⟩ := hD
  rotate_left
  · exact absurd rfl e
  exact kb_plain rfl fun us hl => match us, hl with | [_, _, _], _ => rfl
theorem ok__law_other_kind {f : Addr} {fd : FuncData} (hA : AdOk A) (F : FunD K "_law_other_kind" "_law_other_kind" (defArgs s__law_other_kind) (defBody s__law_other_kind) (defScope s__law_other_kind) [] [] f fd) (T : Txt P w K mg base A) (f__law_take : FnN P w K mg base 1 "_law_take" ["_law_box_here", "_law_many"] (sp__law_take A) [⟨2, [], plainG⟩]) : FnA P w K mg base 2 f ["_law_box_here", "_law_things", "_law_some"] (sp__law_other_kind A) [⟨3, [], plainG⟩] := by
  have nd := (sc__law_other_kind).nd
  refine dfunA (ps := ["_law_box_here", "_law_things", "_law_some"]) F (pats_cons (kb__law_other_kind_0 F) (pats_nil)) sc__law_other_kind (len__law_other_kind A) fun cdv Ar l s H E g rm => ⟨t__law_other_kind A, ?_, rd__law_other_kind A hA⟩
  exact s_cons (s_set 3 nd (d_lst (a_cons (d_non) (a_cons (d_int) (a_cons (d_str) (a_cons (d_dict0) (a_cons (d_bl) (a_cons (d_tup (a_nil)) (a_cons (d_lstM (a_nil)) (a_cons (d_tuple T.b_tuple (a_cons (d_var 1) (a_nil))) (a_cons (d_addM (d_add5 (d_add5 (d_var 1) (d_var 1)) (d_var 1)) (d_var 1)) (a_nil))))))))))))
    (s_one (s_ret (d_sub_ix (d_add5 (d_var 3) (d_lst (a_cons (d_var 2) (a_cons (d_disp (ps_cons (d_str) (d_var 1) (ps_nil))) (a_nil))))) (d_fnP 0 f__law_take g (rm.mono (by decide)) (a_cons (d_var 0) (a_cons (d_int) (a_nil)))))))
abbrev s__law_spoilt : Stmt := topS 34
theorem sc__law_spoilt : FnScope N__law_spoilt ["_law_box_here", "_law_tasks"] (defScope s__law_spoilt) := ⟨rfl, rfl, rfl, by decide +kernel, rfl, by decide +kernel, by decide +kernel⟩
theorem kb__law_spoilt_0 {f : Addr} {fd : FuncData} (F : FunD K "_law_spoilt" "_law_spoilt" (defArgs s__law_spoilt) (defBody s__law_spoilt) (defScope s__law_spoilt) [] [] f fd) : KBd K fd ["_law_box_here", "_law_tasks"] 2 [] plainG := by
  obtain ⟨oc, od, dV, kV, doc, pm, an, cdv, ct, osl, rfl, lk, hcd, hD, hK⟩ := F.ex
  obtain ⟨_, rfl⟩ | ⟨e, _⟩ := hD
  rotate_left
  · exact absurd rfl e
  exact kb_plain rfl fun us hl => match us, hl with | [_, _], _ => rfl
theorem ok__law_spoilt {f : Addr} {fd : FuncData} (hA : AdOk A) (F : FunD K "_law_spoilt" "_law_spoilt" (defArgs s__law_spoilt) (defBody s__law_spoilt) (defScope s__law_spoilt) [] [] f fd) (T : Txt P w K mg base A) (f__law_take : FnN P w K mg base 1 "_law_take" ["_law_box_here", "_law_many"] (sp__law_take A) [⟨2, [], plainG⟩]) (f__law_is_deed : FnN P w K mg base 2 "_law_is_deed" ["_law_thing"] (sp__law_is_deed A) [⟨1, [], plainG⟩]) (f__law_bent : FnN P w K mg base 4 "_law_bent" ["_law_box_here", "_law_deed_here"] (sp__law_bent A) [⟨2, [], plainG⟩]) (f__law_other_kind : FnN P w K mg base 2 "_law_other_kind" ["_law_box_here", "_law_things", "_law_some"] (sp__law_other_kind A) [⟨3, [], plainG⟩]) : FnA P w K mg base 5 f ["_law_box_here", "_law_tasks"] (sp__law_spoilt A) [⟨2, [], plainG⟩] := by
  have nd := (sc__law_spoilt).nd
  refine dfunA (ps := ["_law_box_here", "_law_tasks"]) F (pats_cons (kb__law_spoilt_0 F) (pats_nil)) sc__law_spoilt (len__law_spoilt A) fun cdv Ar l s H E g rm => ⟨t__law_spoilt A, ?_, rd__law_spoilt A hA⟩
  exact s_cons (s_setLcM 2 N__law_spoilt (defScope s__law_spoilt) [("_law_task", 5)] g nd (i_list (d_var 1)) (by decide +kernel) (t := (.one 5)) rfl (fun _ _ _ _ _ g => v_one 5 nd) (fun _ _ _ _ _ g => ts_nil) (fun _ _ _ _ _ g => d_listM T.b_list (a_cons (d_var 5) (a_nil))) (sw_true rfl rfl rfl (by decide +kernel)))
    (s_cons (s_for g (i_range1 T.b_range (a_cons (d_add5 (d_int) (d_fnP 0 f__law_take g (rm.mono (by decide)) (a_cons (d_var 0) (a_cons (d_int) (a_nil))))) (a_nil))) (g_name 3 nd) (s_cons (s_set 4 nd (d_fnP 0 f__law_take g (rm.mono (by decide)) (a_cons (d_var 0) (a_cons (d_len T.b_len (a_cons (d_var 2) (a_nil))) (a_nil)))))
    (s_cons (s_set 5 nd (d_sub_ix (d_var 2) (d_var 4)))
    (s_one (s_if (t_w (w_and (t_truth (d_isi .lst (fun z => nomatch z) (fun z => nomatch z) T.b_isinstance T.b_list (by decide +kernel) (d_var 5))) (w_and (t_cmp (op_n0 rm) lr_e0 (d_var 5) (d_lst (a_nil)) (nomark _)) (w_and1 (t_cmp op_gt lr_gt (d_fnP 0 f__law_take g (rm.mono (by decide)) (a_cons (d_var 0) (a_cons (d_int) (a_nil)))) (d_int) (nomark _)))))) (s_cons (s_set 6 nd (d_fnP 0 f__law_take g (rm.mono (by decide)) (a_cons (d_var 0) (a_cons (d_len T.b_len (a_cons (d_var 5) (a_nil))) (a_nil)))))
    (s_one (s_if (t_truth (d_fnP 0 f__law_is_deed g (rm.mono (by decide)) (a_cons (d_sub_ix (d_var 5) (d_var 6)) (a_nil)))) (s_one (s_asg (d_addM (d_add5 (d_sl4 (d_var 5) (o_none) (o_some (d_var 6))) (d_lst (a_cons (d_fnP 0 f__law_bent g (rm.mono (by decide)) (a_cons (d_var 0) (a_cons (d_sub_ix (d_var 5) (d_var 6)) (a_nil)))) (a_nil)))) (d_sl4 (d_var 5) (o_some (d_add5 (d_var 6) (d_int))) (o_none))) (g_subL (d_var 2) (d_var 4)))) (s_nil)))) (s_one (s_if (t_truth (d_isi .lst (fun z => nomatch z) (fun z => nomatch z) T.b_isinstance T.b_list (by decide +kernel) (d_var 5))) (s_one (s_asg (d_fnP 0 f__law_other_kind g (rm.mono (by decide)) (a_cons (d_var 0) (a_cons (d_var 5) (a_cons (d_tup (a_cons (d_str) (a_nil))) (a_nil))))) (g_subL (d_var 2) (d_var 4)))) (s_nil))))))))
    (s_one (s_ret (d_ifExp (t_cmp (op_eq2 rm) lr_eq (d_fnP 0 f__law_take g (rm.mono (by decide)) (a_cons (d_var 0) (a_cons (d_int) (a_nil)))) (d_int) (nomark _)) (d_fnP 0 f__law_other_kind g (rm.mono (by decide)) (a_cons (d_var 0) (a_cons (d_var 2) (a_cons (d_var 2) (a_nil))))) (d_var 2)))))
abbrev s_is_name : Stmt := topS 9
theorem sc_is_name : FnScope N_is_name ["thing"] (defScope s_is_name) := ⟨rfl, rfl, rfl, by decide +kernel, rfl, by decide +kernel, by decide +kernel⟩
theorem kb_is_name_0 {f : Addr} {fd : FuncData} (F : FunD K "is_name" "is_name" (defArgs s_is_name) (defBody s_is_name) (defScope s_is_name) [] [] f fd) : KBd K fd ["thing"] 1 [] plainG := by
  obtain ⟨oc, od, dV, kV, doc, pm, an, cdv, ct, osl, rfl, lk, hcd, hD, hK⟩ := F.ex
  obtain ⟨_, rfl⟩ | ⟨e, _⟩ := hD
  rotate_left
  · exact absurd rfl e
  exact kb_plain rfl fun us hl => match us, hl with | [_], _ => rfl
theorem ok_is_name {f : Addr} {fd : FuncData} (hA : AdOk A) (F : FunD K "is_name" "is_name" (defArgs s_is_name) (defBody s_is_name) (defScope s_is_name) [] [] f fd) (T : Txt P w K mg base A) : FnA P w K mg base 1 f ["thing"] (sp_is_name A) [⟨1, [], plainG⟩] := by
  have nd := (sc_is_name).nd
  refine dfunA (ps := ["thing"]) F (pats_cons (kb_is_name_0 F) (pats_nil)) sc_is_name (len_is_name A) fun cdv Ar l s H E g rm => ⟨t_is_name A, ?_, rd_is_name A hA⟩
  exact s_one (s_ret (d_and (d_isi .str (fun z => nomatch z) (fun z => nomatch z) T.b_isinstance T.b_str (by decide +kernel) (d_var 0)) (d_and (d_chain op_le op_le lr_le lr_le (d_int) (d_len T.b_len (a_cons (d_var 0) (a_nil))) (d_gInt T.g_MOST_LETTERS)) (d_one (d_all g T.b_all (a_cons (d_lc N_is_name (defScope s_is_name) [("sign", 1)] g nd (i_str (d_var 0)) (by decide +kernel) (t := (.one 1)) rfl (fun _ _ _ _ _ g => v_one 1 nd) (fun _ _ _ _ _ g => ts_nil) (fun _ _ _ _ _ g => d_cmp op_in_sign lr_inS (d_var 1) (d_gStr T.g_LETTERS) rfl)) (a_nil)))))))
abbrev s_is_whole : Stmt := topS 8
theorem sc_is_whole : FnScope N_is_whole ["thing", "low", "high"] (defScope s_is_whole) := ⟨rfl, rfl, rfl, by decide +kernel, rfl, by decide +kernel, by decide +kernel⟩
theorem kb_is_whole_0 {f : Addr} {fd : FuncData} (F : FunD K "is_whole" "is_whole" (defArgs s_is_whole) (defBody s_is_whole) (defScope s_is_whole) [] [] f fd) : KBd K fd ["thing", "low", "high"] 3 [] plainG := by
  obtain ⟨oc, od, dV, kV, doc, pm, an, cdv, ct, osl, rfl, lk, hcd, hD, hK⟩ := F.ex
  obtain ⟨_, rfl⟩ | ⟨e, _⟩ := hD
  rotate_left
  · exact absurd rfl e
  exact kb_plain rfl fun us hl => match us, hl with | [_, _, _], _ => rfl
theorem ok_is_whole {f : Addr} {fd : FuncData} (hA : AdOk A) (F : FunD K "is_whole" "is_whole" (defArgs s_is_whole) (defBody s_is_whole) (defScope s_is_whole) [] [] f fd) (T : Txt P w K mg base A) : FnA P w K mg base 1 f ["thing", "low", "high"] (sp_is_whole A) [⟨3, [], plainG⟩] := by
  have nd := (sc_is_whole).nd
  refine dfunA (ps := ["thing", "low", "high"]) F (pats_cons (kb_is_whole_0 F) (pats_nil)) sc_is_whole (len_is_whole A) fun cdv Ar l s H E g rm => ⟨t_is_whole A, ?_, rd_is_whole A hA⟩
  exact s_one (s_ret (d_and (d_isi .int (fun z => nomatch z) (fun z => nomatch z) T.b_isinstance T.b_int (by decide +kernel) (d_var 0)) (d_and (d_not (d_isi .bl (fun z => nomatch z) (fun z => nomatch z) T.b_isinstance T.b_bool (by decide +kernel) (d_var 0))) (d_one (d_chain op_le op_le lr_le lr_le (d_var 1) (d_var 0) (d_var 2))))))
abbrev s_are_parts : Stmt := topS 15
theorem sc_are_parts : FnScope N_are_parts ["kind", "parts"] (defScope s_are_parts) := ⟨rfl, rfl, rfl, by decide +kernel, rfl, by decide +kernel, by decide +kernel⟩
theorem kb_are_parts_0 {f : Addr} {fd : FuncData} (F : FunD K "are_parts" "are_parts" (defArgs s_are_parts) (defBody s_are_parts) (defScope s_are_parts) [] [] f fd) : KBd K fd ["kind", "parts"] 2 [] plainG := by
  obtain ⟨oc, od, dV, kV, doc, pm, an, cdv, ct, osl, rfl, lk, hcd, hD, hK⟩ := F.ex
  obtain ⟨_, rfl⟩ | ⟨e, _⟩ := hD
  rotate_left
  · exact absurd rfl e
  exact kb_plain rfl fun us hl => match us, hl with | [_, _], _ => rfl
theorem ok_are_parts {f : Addr} {fd : FuncData} (hA : AdOk A) (F : FunD K "are_parts" "are_parts" (defArgs s_are_parts) (defBody s_are_parts) (defScope s_are_parts) [] [] f fd) (T : Txt P w K mg base A) (f_is_name : FnN P w K mg base 1 "is_name" ["thing"] (sp_is_name A) [⟨1, [], plainG⟩]) (f_is_whole : FnN P w K mg base 1 "is_whole" ["thing", "low", "high"] (sp_is_whole A) [⟨3, [], plainG⟩]) : FnA P w K mg base 2 f ["kind", "parts"] (sp_are_parts A) [⟨2, [], plainG⟩] := by
  have nd := (sc_are_parts).nd
  refine dfunA (ps := ["kind", "parts"]) F (pats_cons (kb_are_parts_0 F) (pats_nil)) sc_are_parts (len_are_parts A) fun cdv Ar l s H E g rm => ⟨t_are_parts A, ?_, rd_are_parts A hA⟩
  exact s_cons (s_if (t_cmp (op_eq2 rm) lr_eq (d_var 0) (d_str) (nomark _)) (s_one (s_ret (d_cmp (op_e0 rm) lr_e0 (d_var 1) (d_lst (a_nil)) (nomark _)))) (s_nil))
    (s_cons (s_if (t_cmp (op_ne2 rm) lr_ne (d_len T.b_len (a_cons (d_var 1) (a_nil))) (d_int) (nomark _)) (s_one (s_ret (d_bl))) (s_nil))
    (s_one (s_ret (d_ifExp (t_cmp (op_eq2 rm) lr_eq (d_var 0) (d_str) (nomark _)) (d_fnP 0 f_is_name g (rm.mono (by decide)) (a_cons (d_sub_ix (d_var 1) (d_int)) (a_nil))) (d_fnP 0 f_is_whole g (rm.mono (by decide)) (a_cons (d_sub_ix (d_var 1) (d_int)) (a_cons (d_int) (a_cons (d_gInt T.g_MOST_TICK) (a_nil)))))))))
abbrev s_is_deed : Stmt := topS 16
theorem sc_is_deed : FnScope N_is_deed ["thing"] (defScope s_is_deed) := ⟨rfl, rfl, rfl, by decide +kernel, rfl, by decide +kernel, by decide +kernel⟩
theorem kb_is_deed_0 {f : Addr} {fd : FuncData} (F : FunD K "is_deed" "is_deed" (defArgs s_is_deed) (defBody s_is_deed) (defScope s_is_deed) [] [] f fd) : KBd K fd ["thing"] 1 [] plainG := by
  obtain ⟨oc, od, dV, kV, doc, pm, an, cdv, ct, osl, rfl, lk, hcd, hD, hK⟩ := F.ex
  obtain ⟨_, rfl⟩ | ⟨e, _⟩ := hD
  rotate_left
  · exact absurd rfl e
  exact kb_plain rfl fun us hl => match us, hl with | [_], _ => rfl
theorem ok_is_deed {f : Addr} {fd : FuncData} (hA : AdOk A) (F : FunD K "is_deed" "is_deed" (defArgs s_is_deed) (defBody s_is_deed) (defScope s_is_deed) [] [] f fd) (T : Txt P w K mg base A) (f_are_parts : FnN P w K mg base 2 "are_parts" ["kind", "parts"] (sp_are_parts A) [⟨2, [], plainG⟩]) : FnA P w K mg base 3 f ["thing"] (sp_is_deed A) [⟨1, [], plainG⟩] := by
  have nd := (sc_is_deed).nd
  refine dfunA (ps := ["thing"]) F (pats_cons (kb_is_deed_0 F) (pats_nil)) sc_is_deed (len_is_deed A) fun cdv Ar l s H E g rm => ⟨t_is_deed A, ?_, rd_is_deed A hA⟩
  exact s_cons (s_if (t_w (w_or (t_not (t_truth (d_isi .tup (fun z => nomatch z) (fun z => nomatch z) T.b_isinstance T.b_tuple (by decide +kernel) (d_var 0)))) (w_or (t_cmp (op_eq2 rm) lr_eq (d_len T.b_len (a_cons (d_var 0) (a_nil))) (d_int) (nomark _)) (w_or1 (t_not (t_truth (d_isi .str (fun z => nomatch z) (fun z => nomatch z) T.b_isinstance T.b_str (by decide +kernel) (d_sub_ix (d_var 0) (d_int))))))))) (s_one (s_ret (d_bl))) (s_nil))
    (s_cons (s_asg (d_var 0) (g_star (n := 2) (i := 1) g.calm (gs_cons 1 nd (gs_consS 2 nd (gs_nil)))))
    (s_one (s_ret (d_and (d_inMd T.g_DEEDS (d_var 1)) (d_one (d_fnP 0 f_are_parts g (rm.mono (by decide)) (a_cons (d_ixMd T.g_DEEDS (d_var 1)) (a_cons (d_var 2) (a_nil)))))))))
abbrev s_deeds_of : Stmt := topS 17
theorem sc_deeds_of : FnScope N_deeds_of ["task"] (defScope s_deeds_of) := ⟨rfl, rfl, rfl, by decide +kernel, rfl, by decide +kernel, by decide +kernel⟩
theorem kb_deeds_of_0 {f : Addr} {fd : FuncData} (F : FunD K "deeds_of" "deeds_of" (defArgs s_deeds_of) (defBody s_deeds_of) (defScope s_deeds_of) [] [] f fd) : KBd K fd ["task"] 1 [] plainG := by
  obtain ⟨oc, od, dV, kV, doc, pm, an, cdv, ct, osl, rfl, lk, hcd, hD, hK⟩ := F.ex
  obtain ⟨_, rfl⟩ | ⟨e, _⟩ := hD
  rotate_left
  · exact absurd rfl e
  exact kb_plain rfl fun us hl => match us, hl with | [_], _ => rfl
theorem ok_deeds_of {f : Addr} {fd : FuncData} (hA : AdOk A) (F : FunD K "deeds_of" "deeds_of" (defArgs s_deeds_of) (defBody s_deeds_of) (defScope s_deeds_of) [] [] f fd) (T : Txt P w K mg base A) (f_is_deed : FnN P w K mg base 3 "is_deed" ["thing"] (sp_is_deed A) [⟨1, [], plainG⟩]) : FnA P w K mg base 4 f ["task"] (sp_deeds_of A) [⟨1, [], plainG⟩] := by
  have nd := (sc_deeds_of).nd
  refine dfunA (ps := ["task"]) F (pats_cons (kb_deeds_of_0 F) (pats_nil)) sc_deeds_of (len_deeds_of A) fun cdv Ar l s H E g rm => ⟨t_deeds_of A, ?_, rd_deeds_of A hA⟩
  exact s_cons (s_if (t_w (w_or (t_not (t_truth (d_isi2E .lst .tup (fun z => nomatch z) (fun z => nomatch z) (fun z => nomatch z) (fun z => nomatch z) T.b_isinstance T.b_list T.b_tuple (by decide +kernel) (by decide +kernel) (d_var 0)))) (w_or1 (t_cmp op_gt lr_gt (d_len T.b_len (a_cons (d_var 0) (a_nil))) (d_gInt T.g_MOST_DEEDS) (nomark _))))) (s_one (s_raise T.x_NoList g (rm.mono (by decide)) (d_var 0))) (s_nil))
    (s_cons (s_for g (i_seq (d_var 0)) (g_name 1 nd) (s_one (s_if (t_not (t_truth (d_fnP 0 f_is_deed g (rm.mono (by decide)) (a_cons (d_var 1) (a_nil))))) (s_one (s_raise T.x_NoTask g (rm.mono (by decide)) (d_var 1))) (s_nil))))
    (s_one (s_ret (d_listM T.b_list (a_cons (d_var 0) (a_nil))))))
abbrev s_tasks_of : Stmt := topS 18
theorem sc_tasks_of : FnScope N_tasks_of ["tasks"] (defScope s_tasks_of) := ⟨rfl, rfl, rfl, by decide +kernel, rfl, by decide +kernel, by decide +kernel⟩
theorem kb_tasks_of_0 {f : Addr} {fd : FuncData} (F : FunD K "tasks_of" "tasks_of" (defArgs s_tasks_of) (defBody s_tasks_of) (defScope s_tasks_of) [] [] f fd) : KBd K fd ["tasks"] 1 [] plainG := by
  obtain ⟨oc, od, dV, kV, doc, pm, an, cdv, ct, osl, rfl, lk, hcd, hD, hK⟩ := F.ex
  obtain ⟨_, rfl⟩ | ⟨e, _⟩ := hD
  rotate_left
  · exact absurd rfl e
  exact kb_plain rfl fun us hl => match us, hl with | [_], _ => rfl
theorem ok_tasks_of {f : Addr} {fd : FuncData} (hA : AdOk A) (F : FunD K "tasks_of" "tasks_of" (defArgs s_tasks_of) (defBody s_tasks_of) (defScope s_tasks_of) [] [] f fd) (T : Txt P w K mg base A) (f_deeds_of : FnN P w K mg base 4 "deeds_of" ["task"] (sp_deeds_of A) [⟨1, [], plainG⟩]) : FnA P w K mg base 5 f ["tasks"] (sp_tasks_of A) [⟨1, [], plainG⟩] := by
  have nd := (sc_tasks_of).nd
  refine dfunA (ps := ["tasks"]) F (pats_cons (kb_tasks_of_0 F) (pats_nil)) sc_tasks_of (len_tasks_of A) fun cdv Ar l s H E g rm => ⟨t_tasks_of A, ?_, rd_tasks_of A hA⟩
  exact s_cons (s_if (t_w (w_or (t_not (t_truth (d_isi2E .lst .tup (fun z => nomatch z) (fun z => nomatch z) (fun z => nomatch z) (fun z => nomatch z) T.b_isinstance T.b_list T.b_tuple (by decide +kernel) (by decide +kernel) (d_var 0)))) (w_or1 (t_not (t_chain op_le op_le lr_le lr_le (d_int) (d_len T.b_len (a_cons (d_var 0) (a_nil))) (d_gInt T.g_MOST_TASKS)))))) (s_one (s_raise T.x_NoList g (rm.mono (by decide)) (d_var 0))) (s_nil))
    (s_one (s_ret (d_lcXM N_tasks_of (defScope s_tasks_of) [("task", 1)] g nd (i_seq (d_var 0)) (by decide +kernel) (t := (.one 1)) rfl (fun _ _ _ _ _ g => v_one 1 nd) (fun _ _ _ _ _ _ _ hx => d_fnPX 0 f_deeds_of g.ng hx (rm.mono (by decide)) (a_cons (d_var 1) (a_nil))))))
abbrev s__law_caught : Stmt := topS 31
theorem sc__law_caught : FnScope N__law_caught ["_law_ask", "_law_thing"] (defScope s__law_caught) := ⟨rfl, rfl, rfl, by decide +kernel, rfl, by decide +kernel, by decide +kernel⟩
theorem kb__law_caught_0 {f : Addr} {fd : FuncData} (F : FunD K "_law_caught" "_law_caught" (defArgs s__law_caught) (defBody s__law_caught) (defScope s__law_caught) [] [] f fd) : KBd K fd ["_law_ask", "_law_thing"] 2 [] plainG := by
  obtain ⟨oc, od, dV, kV, doc, pm, an, cdv, ct, osl, rfl, lk, hcd, hD, hK⟩ := F.ex
  obtain ⟨_, rfl⟩ | ⟨e, _⟩ := hD
  rotate_left
  · exact absurd rfl e
  exact kb_plain rfl fun us hl => match us, hl with | [_, _], _ => rfl
theorem ok__law_caught {f : Addr} {fd : FuncData} (hA : AdOk A) (F : FunD K "_law_caught" "_law_caught" (defArgs s__law_caught) (defBody s__law_caught) (defScope s__law_caught) [] [] f fd) (T : Txt P w K mg base A) (v_deeds_of : FvOk P w K mg base 4 "deeds_of" A.f_deeds_of ["task"] (sp_deeds_of A) [⟨1, [], plainG⟩]) (v_tasks_of : FvOk P w K mg base 5 "tasks_of" A.f_tasks_of ["tasks"] (sp_tasks_of A) [⟨1, [], plainG⟩]) : FnA P w K mg base 6 f ["_law_ask", "_law_thing"] (sp__law_caught A) [⟨2, [], plainG⟩] := by
  have nd := (sc__law_caught).nd
  refine dfunA (ps := ["_law_ask", "_law_thing"]) F (pats_cons (kb__law_caught_0 F) (pats_nil)) sc__law_caught (len__law_caught A) fun cdv Ar l s H E g rm => ⟨t__law_caught A, ?_, rd__law_caught A hA⟩
  exact s_one (s_tryA T.xm g (fun V pn xe g => s_one (s_ret (d_lst (a_cons (d_str) (a_cons (d_callV (d_var 0) (.cons 0 v_tasks_of (rm.mono (by decide)) rfl (.cons 0 v_deeds_of (rm.mono (by decide)) rfl .nil)) g (args_p (a_cons (d_var 1) (a_nil)))) (a_nil)))))) (.cons (h := ⟨[.ref A.c_NoList], some 2, fun a cls d => dRet (dLst (dCons (dC (.str "list")) (dCons (dXF a cls d A.c_NoList "found" (dVar 2)) (dNil))))⟩) (.one ⟨by rfl, by decide, Or.inl T.n_NoList⟩) ⟨nd, rfl, rfl⟩ (fun a oe cls d pn hz hf => s_one (s_ret (d_lst (a_cons (d_str) (a_cons (d_xf T.xf_NoList T.xn_NoList_found hz hf (d_var 2)) (a_nil)))))) (.cons (h := ⟨[.ref A.c_NoTask], some 2, fun a cls d => dRet (dLst (dCons (dC (.str "task")) (dCons (dXF a cls d A.c_NoTask "found" (dVar 2)) (dNil))))⟩) (.one ⟨by rfl, by decide, Or.inl T.n_NoTask⟩) ⟨nd, rfl, rfl⟩ (fun a oe cls d pn hz hf => s_one (s_ret (d_lst (a_cons (d_str) (a_cons (d_xf T.xf_NoTask T.xn_NoTask_found hz hf (d_var 2)) (a_nil)))))) (.cons (h := ⟨[.ref A.c_WakeError, .ref A.c_StateError], none, fun a cls d => dRet (dLst (dCons (dC (.str "another")) (dCons (dC .non) (dNil))))⟩) (.tup (.cons ⟨by rfl, by decide, Or.inl T.n_WakeError⟩ (.cons ⟨by rfl, by decide, Or.inl T.n_StateError⟩ .nil)) (show 2 ≤ sizeLine from by decide)) trivial (fun a oe cls d pn hz hf => s_one (s_ret (d_lst (a_cons (d_str) (a_cons (d_non) (a_nil)))))) .nil))))
abbrev s__law_holds : Stmt := topS 32
theorem sc__law_holds : FnScope N__law_holds ["_law_ask", "_law_thing", "_law_due_here"] (defScope s__law_holds) := ⟨rfl, rfl, rfl, by decide +kernel, rfl, by decide +kernel, by decide +kernel⟩
theorem kb__law_holds_0 {f : Addr} {fd : FuncData} (F : FunD K "_law_holds" "_law_holds" (defArgs s__law_holds) (defBody s__law_holds) (defScope s__law_holds) [] [] f fd) : KBd K fd ["_law_ask", "_law_thing", "_law_due_here"] 3 [] plainG := by
  obtain ⟨oc, od, dV, kV, doc, pm, an, cdv, ct, osl, rfl, lk, hcd, hD, hK⟩ := F.ex
  obtain ⟨_, rfl⟩ | ⟨e, _⟩ := hD
  rotate_left
  · exact absurd rfl e
  exact kb_plain rfl fun us hl => match us, hl with | [_, _, _], _ => rfl
theorem ok__law_holds {f : Addr} {fd : FuncData} (hA : AdOk A) (F : FunD K "_law_holds" "_law_holds" (defArgs s__law_holds) (defBody s__law_holds) (defScope s__law_holds) [] [] f fd) (T : Txt P w K mg base A) (f__law_caught : FnN P w K mg base 6 "_law_caught" ["_law_ask", "_law_thing"] (sp__law_caught A) [⟨2, [], plainG⟩]) : FnA P w K mg base 7 f ["_law_ask", "_law_thing", "_law_due_here"] (sp__law_holds A) [⟨3, [], plainG⟩] := by
  have nd := (sc__law_holds).nd
  refine dfunA (ps := ["_law_ask", "_law_thing", "_law_due_here"]) F (pats_cons (kb__law_holds_0 F) (pats_nil)) sc__law_holds (len__law_holds A) fun cdv Ar l s H E g rm => ⟨t__law_holds A, ?_, rd__law_holds A hA⟩
  exact s_cons (s_set 3 nd (d_show g.ng rm T.b_repr (d_var 1)))
    (s_cons (s_set 4 nd (d_fnP 0 f__law_caught g (rm.mono (by decide)) (a_cons (d_var 0) (a_cons (d_var 1) (a_nil)))))
    (s_cons (s_if (t_w (w_or (t_cmp (op_ne2 rm) lr_ne (d_sub_ix (d_var 4) (d_int)) (d_sub_ix (d_var 2) (d_int)) (nomark _)) (w_or (t_cmp (op_ne2 rm) lr_ne (d_show g.ng rm T.b_repr (d_sub_ix (d_var 4) (d_int))) (d_show g.ng rm T.b_repr (d_sub_ix (d_var 2) (d_int))) (nomark _)) (w_or1 (t_cmp (op_ne2 rm) lr_ne (d_show g.ng rm T.b_repr (d_var 1)) (d_var 3) (nomark _)))))) (s_one (s_ret (d_bl))) (s_nil))
    (s_cons (s_if (t_cmp (op_eq2 rm) lr_eq (d_sub_ix (d_var 2) (d_int)) (d_str) (nomark _)) (s_cons (s_expr (d_append (d_sub_ix (d_var 4) (d_int)) (d_str)))
    (s_one (s_ret (d_and (d_cmp (op_eq2 rm) lr_eq (d_show g.ng rm T.b_repr (d_fnP 0 f__law_caught g (rm.mono (by decide)) (a_cons (d_var 0) (a_cons (d_var 1) (a_nil))))) (d_show g.ng rm T.b_repr (d_var 2)) (nomark _)) (d_one (d_cmp (op_eq2 rm) lr_eq (d_show g.ng rm T.b_repr (d_var 1)) (d_var 3) (nomark _))))))) (s_nil))
    (s_cons (s_if (t_truth (d_isi .lst (fun z => nomatch z) (fun z => nomatch z) T.b_isinstance T.b_list (by decide +kernel) (d_sub_ix (d_var 2) (d_int)))) (s_one (s_expr (d_append (d_sub_ix (d_var 2) (d_int)) (d_str)))) (s_nil))
    (s_one (s_ret (d_cmp (op_eq2 rm) lr_eq (d_show g.ng rm T.b_repr (d_sub_ix (d_var 4) (d_int))) (d_show g.ng rm T.b_repr (d_sub_ix (d_var 2) (d_int))) (nomark _))))))))
abbrev s__law_due_of_task : Stmt := topS 29
theorem sc__law_due_of_task : FnScope N__law_due_of_task ["_law_task"] (defScope s__law_due_of_task) := ⟨rfl, rfl, rfl, by decide +kernel, rfl, by decide +kernel, by decide +kernel⟩
theorem kb__law_due_of_task_0 {f : Addr} {fd : FuncData} (F : FunD K "_law_due_of_task" "_law_due_of_task" (defArgs s__law_due_of_task) (defBody s__law_due_of_task) (defScope s__law_due_of_task) [] [] f fd) : KBd K fd ["_law_task"] 1 [] plainG := by
  obtain ⟨oc, od, dV, kV, doc, pm, an, cdv, ct, osl, rfl, lk, hcd, hD, hK⟩ := F.ex
  obtain ⟨_, rfl⟩ | ⟨e, _⟩ := hD
  rotate_left
  · exact absurd rfl e
  exact kb_plain rfl fun us hl => match us, hl with | [_], _ => rfl
theorem ok__law_due_of_task {f : Addr} {fd : FuncData} (hA : AdOk A) (F : FunD K "_law_due_of_task" "_law_due_of_task" (defArgs s__law_due_of_task) (defBody s__law_due_of_task) (defScope s__law_due_of_task) [] [] f fd) (T : Txt P w K mg base A) (f__law_is_deed : FnN P w K mg base 2 "_law_is_deed" ["_law_thing"] (sp__law_is_deed A) [⟨1, [], plainG⟩]) : FnA P w K mg base 3 f ["_law_task"] (sp__law_due_of_task A) [⟨1, [], plainG⟩] := by
  have nd := (sc__law_due_of_task).nd
  refine dfunA (ps := ["_law_task"]) F (pats_cons (kb__law_due_of_task_0 F) (pats_nil)) sc__law_due_of_task (len__law_due_of_task A) fun cdv Ar l s H E g rm => ⟨t__law_due_of_task A, ?_, rd__law_due_of_task A hA⟩
  exact s_cons (s_if (t_w (w_or (t_not (t_truth (d_isi2E .lst .tup (fun z => nomatch z) (fun z => nomatch z) (fun z => nomatch z) (fun z => nomatch z) T.b_isinstance T.b_list T.b_tuple (by decide +kernel) (by decide +kernel) (d_var 0)))) (w_or1 (t_cmp op_gt lr_gt (d_len T.b_len (a_cons (d_var 0) (a_nil))) (d_int) (nomark _))))) (s_one (s_ret (d_lst (a_cons (d_str) (a_cons (d_var 0) (a_nil)))))) (s_nil))
    (s_cons (s_for g (i_seq (d_var 0)) (g_name 1 nd) (s_one (s_if (t_not (t_truth (d_fnP 0 f__law_is_deed g (rm.mono (by decide)) (a_cons (d_var 1) (a_nil))))) (s_one (s_ret (d_lst (a_cons (d_str) (a_cons (d_var 1) (a_nil)))))) (s_nil))))
    (s_one (s_ret (d_lst (a_cons (d_str) (a_cons (d_list T.b_list (a_cons (d_var 0) (a_nil))) (a_nil)))))))
abbrev s__law_due : Stmt := topS 30
theorem sc__law_due : FnScope N__law_due ["_law_tasks"] (defScope s__law_due) := ⟨rfl, rfl, rfl, by decide +kernel, rfl, by decide +kernel, by decide +kernel⟩
theorem kb__law_due_0 {f : Addr} {fd : FuncData} (F : FunD K "_law_due" "_law_due" (defArgs s__law_due) (defBody s__law_due) (defScope s__law_due) [] [] f fd) : KBd K fd ["_law_tasks"] 1 [] plainG := by
  obtain ⟨oc, od, dV, kV, doc, pm, an, cdv, ct, osl, rfl, lk, hcd, hD, hK⟩ := F.ex
  obtain ⟨_, rfl⟩ | ⟨e, _⟩ := hD
  rotate_left
  · exact absurd rfl e
  exact kb_plain rfl fun us hl => match us, hl with | [_], _ => rfl
theorem ok__law_due {f : Addr} {fd : FuncData} (hA : AdOk A) (F : FunD K "_law_due" "_law_due" (defArgs s__law_due) (defBody s__law_due) (defScope s__law_due) [] [] f fd) (T : Txt P w K mg base A) (f__law_due_of_task : FnN P w K mg base 3 "_law_due_of_task" ["_law_task"] (sp__law_due_of_task A) [⟨1, [], plainG⟩]) : FnA P w K mg base 4 f ["_law_tasks"] (sp__law_due A) [⟨1, [], plainG⟩] := by
  have nd := (sc__law_due).nd
  refine dfunA (ps := ["_law_tasks"]) F (pats_cons (kb__law_due_0 F) (pats_nil)) sc__law_due (len__law_due A) fun cdv Ar l s H E g rm => ⟨t__law_due A, ?_, rd__law_due A hA⟩
  exact s_cons (s_if (t_w (w_or (t_not (t_truth (d_isi2E .lst .tup (fun z => nomatch z) (fun z => nomatch z) (fun z => nomatch z) (fun z => nomatch z) T.b_isinstance T.b_list T.b_tuple (by decide +kernel) (by decide +kernel) (d_var 0)))) (w_or1 (t_not (t_chain op_lt op_lt lr_lt lr_lt (d_int) (d_len T.b_len (a_cons (d_var 0) (a_nil))) (d_int)))))) (s_one (s_ret (d_lst (a_cons (d_str) (a_cons (d_var 0) (a_nil)))))) (s_nil))
    (s_cons (s_set 1 nd (d_lstM (a_nil)))
    (s_cons (s_for g (i_seq (d_var 0)) (g_name 2 nd) (s_cons (s_set 3 nd (d_fnP 0 f__law_due_of_task g (rm.mono (by decide)) (a_cons (d_var 2) (a_nil))))
    (s_cons (s_if (t_cmp (op_ne2 rm) lr_ne (d_sub_ix (d_var 3) (d_int)) (d_str) (nomark _)) (s_one (s_ret (d_var 3))) (s_nil))
    (s_one (s_expr (d_append (d_var 1) (d_sub_ix (d_var 3) (d_int))))))))
    (s_one (s_ret (d_lst (a_cons (d_str) (a_cons (d_var 1) (a_nil))))))))
abbrev s_law : Stmt := topS 35
theorem sc_law : FnScope N_law ["_law_script"] (defScope s_law) := ⟨rfl, rfl, rfl, by decide +kernel, rfl, by decide +kernel, by decide +kernel⟩
theorem ok_law {f : Addr} {fd : FuncData} (hA : AdOk A) (F : L2.Fun K "law" "law" s_law f fd) (hm : mg "law" = some (.ref f)) (T : Txt P w K mg base A) (f__law_box : FnN P w K mg base 1 "_law_box" ["_law_cell_here"] (sp__law_box A) [⟨1, [], plainG⟩]) (f__law_cell : FnN P w K mg base 1 "_law_cell" ["_law_script", "_law_k"] (sp__law_cell A) [⟨2, [], plainG⟩]) (f__law_names : FnN P w K mg base 2 "_law_names" ["_law_box_here", "_law_many"] (sp__law_names A) [⟨2, [], plainG⟩]) (f__law_take : FnN P w K mg base 1 "_law_take" ["_law_box_here", "_law_many"] (sp__law_take A) [⟨2, [], plainG⟩]) (f__law_deed : FnN P w K mg base 2 "_law_deed" ["_law_box_here", "_law_names_here"] (sp__law_deed A) [⟨2, [], plainG⟩]) (f__law_spoilt : FnN P w K mg base 5 "_law_spoilt" ["_law_box_here", "_law_tasks"] (sp__law_spoilt A) [⟨2, [], plainG⟩]) (f__law_holds : FnN P w K mg base 7 "_law_holds" ["_law_ask", "_law_thing", "_law_due_here"] (sp__law_holds A) [⟨3, [], plainG⟩]) (f__law_due : FnN P w K mg base 4 "_law_due" ["_law_tasks"] (sp__law_due A) [⟨1, [], plainG⟩]) (v_tasks_of : FvOk P w K mg base 5 "tasks_of" A.f_tasks_of ["tasks"] (sp_tasks_of A) [⟨1, [], plainG⟩]) (f__law_due_of_task : FnN P w K mg base 3 "_law_due_of_task" ["_law_task"] (sp__law_due_of_task A) [⟨1, [], plainG⟩]) (v_deeds_of : FvOk P w K mg base 4 "deeds_of" A.f_deeds_of ["task"] (sp_deeds_of A) [⟨1, [], plainG⟩]) (f__law_odd : FnN P w K mg base 3 "_law_odd" ["_law_box_here"] (sp__law_odd A) [⟨1, [], plainG⟩]) (f__law_bent : FnN P w K mg base 4 "_law_bent" ["_law_box_here", "_law_deed_here"] (sp__law_bent A) [⟨2, [], plainG⟩]) (f__law_is_deed : FnN P w K mg base 2 "_law_is_deed" ["_law_thing"] (sp__law_is_deed A) [⟨1, [], plainG⟩]) (f_is_deed : FnN P w K mg base 3 "is_deed" ["thing"] (sp_is_deed A) [⟨1, [], plainG⟩]) : Fn P w K mg base 8 "law" ["_law_script"] spLaw := by
  have nd := (sc_law).nd
  refine dfun (ps := ["_law_script"]) F hm (fun _ _ _ _ _ _ us hl => match us, hl with | [_], _ => rfl) sc_law (len_law A) fun cdv Ar l s H E g rm => ⟨t_law A, ?_, rd_law A hA⟩
  exact s_cons (s_for g (i_range1 T.b_range (a_cons (d_max g T.b_max (a_cons (d_int) (a_cons (d_min g T.b_min (a_cons (d_int) (a_cons (d_len T.b_len (a_cons (d_var 0) (a_nil))) (a_nil)))) (a_nil)))) (a_nil))) (g_name 1 nd) (s_cons (s_set 2 nd (d_fnP 0 f__law_box g (rm.mono (by decide)) (a_cons (d_fnP 0 f__law_cell g (rm.mono (by decide)) (a_cons (d_var 0) (a_cons (d_var 1) (a_nil)))) (a_nil))))
    (s_cons (s_set 3 nd (d_fnP 0 f__law_names g (rm.mono (by decide)) (a_cons (d_var 2) (a_cons (d_int) (a_nil)))))
    (s_cons (s_set 4 nd (d_lstM (a_nil)))
    (s_cons (s_for g (i_range1 T.b_range (a_cons (d_add5 (d_int) (d_fnP 0 f__law_take g (rm.mono (by decide)) (a_cons (d_var 2) (a_cons (d_int) (a_nil))))) (a_nil))) (g_name 5 nd) (s_cons (s_set 6 nd (d_sub_ix (d_lst (a_cons (d_int) (a_cons (d_int) (a_cons (d_fnP 0 f__law_take g (rm.mono (by decide)) (a_cons (d_var 2) (a_cons (d_int) (a_nil)))) (a_nil))))) (d_fnP 0 f__law_take g (rm.mono (by decide)) (a_cons (d_var 2) (a_cons (d_int) (a_nil))))))
    (s_cons (s_setLc 7 N_law (defScope s_law) [("_law_place", 12)] g nd (i_range1 T.b_range (a_cons (d_var 6) (a_nil))) (by decide +kernel) (t := (.one 12)) rfl (fun _ _ _ _ _ g => v_one 12 nd) (fun _ _ _ _ _ g => ts_nil) (fun _ _ _ _ _ g => d_fnP 0 f__law_deed g (rm.mono (by decide)) (a_cons (d_var 2) (a_cons (d_var 3) (a_nil)))) (sw_true rfl rfl rfl (by decide +kernel)))
    (s_one (s_expr (d_append (d_var 4) (d_sub_ix (d_lst (a_cons (d_var 7) (a_cons (d_tuple T.b_tuple (a_cons (d_var 7) (a_nil))) (a_nil)))) (d_fnP 0 f__law_take g (rm.mono (by decide)) (a_cons (d_var 2) (a_cons (d_int) (a_nil)))))))))))
    (s_cons (s_for g (i_list (d_lst (a_cons (d_var 4) (a_cons (d_tuple T.b_tuple (a_cons (d_var 4) (a_nil))) (a_cons (d_fnP 0 f__law_spoilt g (rm.mono (by decide)) (a_cons (d_var 2) (a_cons (d_var 4) (a_nil)))) (a_nil)))))) (g_name 8 nd) (s_one (s_if (t_not (t_truth (d_fnP 0 f__law_holds g (rm.mono (by decide)) (a_cons (d_fv v_tasks_of) (a_cons (d_var 8) (a_cons (d_fnP 0 f__law_due g (rm.mono (by decide)) (a_cons (d_var 8) (a_nil))) (a_nil))))))) (s_one (s_ret (d_bl))) (s_nil))))
    (s_cons (s_for g (i_list (d_add5 (d_var 4) (d_lst (a_cons (d_fnP 0 f__law_spoilt g (rm.mono (by decide)) (a_cons (d_var 2) (a_cons (d_var 4) (a_nil)))) (a_nil))))) (g_name 7 nd) (s_one (s_if (t_not (t_truth (d_fnP 0 f__law_holds g (rm.mono (by decide)) (a_cons (d_fv v_deeds_of) (a_cons (d_var 7) (a_cons (d_fnP 0 f__law_due_of_task g (rm.mono (by decide)) (a_cons (d_var 7) (a_nil))) (a_nil))))))) (s_one (s_ret (d_bl))) (s_nil))))
    (s_cons (s_set 9 nd (d_fnP 0 f__law_deed g (rm.mono (by decide)) (a_cons (d_var 2) (a_cons (d_var 3) (a_nil)))))
    (s_one (s_for g (i_list (d_lst (a_cons (d_var 9) (a_cons (d_fnP 0 f__law_bent g (rm.mono (by decide)) (a_cons (d_var 2) (a_cons (d_var 9) (a_nil)))) (a_cons (d_fnP 0 f__law_odd g (rm.mono (by decide)) (a_cons (d_var 2) (a_nil))) (a_cons (d_tup (a_nil)) (a_cons (d_var 4) (a_nil)))))))) (g_name 8 nd) (s_cons (s_set 10 nd (d_show g.ng rm T.b_repr (d_var 8)))
    (s_cons (s_set 11 nd (d_show g.ng rm T.b_repr (d_fnP 0 f__law_is_deed g (rm.mono (by decide)) (a_cons (d_var 8) (a_nil)))))
    (s_one (s_if (t_w (w_or (t_cmp (op_ne2 rm) lr_ne (d_show g.ng rm T.b_repr (d_fnP 0 f_is_deed g (rm.mono (by decide)) (a_cons (d_var 8) (a_nil)))) (d_var 11) (nomark _)) (w_or (t_cmp (op_ne2 rm) lr_ne (d_show g.ng rm T.b_repr (d_fnP 0 f_is_deed g (rm.mono (by decide)) (a_cons (d_var 8) (a_nil)))) (d_var 11) (nomark _)) (w_or1 (t_cmp (op_ne2 rm) lr_ne (d_show g.ng rm T.b_repr (d_var 8)) (d_var 10) (nomark _)))))) (s_one (s_ret (d_bl))) (s_nil)))))))))))))))
    (s_one (s_ret (d_bl)))
end
theorem all_mk {P : Program} {w : World} {K : PySem.W.Frag} {h : Heap} {mg : Str → Option Value} {fa : Addr} {C_NoTask : Addr} {C_NoList : Addr} {C_WakeError : Addr} {C_StateError : Addr} {fI_NoTask W_NoTask N_NoTask_ : Addr} {nm_NoTask q_NoTask : Str} {bs_NoTask : List Value} {sn_NoTask : List Str} {sub_NoTask : List Value} {ab_NoTask : Bool} {col_NoTask : Option Bool} {dd_NoTask : Option Addr} {m0_NoTask m1_NoTask m2_NoTask m3_NoTask m5_NoTask : Option Value} {od_NoTask an_NoTask : Option Addr} {sl_NoTask : Array (Option Value)} {oc_NoTask kV_NoTask dc_NoTask pm_NoTask cd_NoTask ct_NoTask : Value} {fI_NoList W_NoList N_NoList_ : Addr} {nm_NoList q_NoList : Str} {bs_NoList : List Value} {sn_NoList : List Str} {sub_NoList : List Value} {ab_NoList : Bool} {col_NoList : Option Bool} {dd_NoList : Option Addr} {m0_NoList m1_NoList m2_NoList m3_NoList m5_NoList : Option Value} {od_NoList an_NoList : Option Addr} {sl_NoList : Array (Option Value)} {oc_NoList kV_NoList dc_NoList pm_NoList cd_NoList ct_NoList : Value} {tk_g_MOST_LETTERS : Tok} {tk_g_LETTERS : Tok} {tk_g_MOST_TICK : Tok} {Md_DEEDS : Addr} {Es_DEEDS : Array DictEntry} {Ne_DEEDS : Nat} {tk_g_MOST_DEEDS : Tok} {tk_g_MOST_TASKS : Tok} {f0 : Addr} {od0 an0 : Option Addr} {sl0 : Array (Option Value)} {oc0 kV0 dc0 pm0 cd0 ct0 : Value} {f1 : Addr} {od1 an1 : Option Addr} {sl1 : Array (Option Value)} {oc1 kV1 dc1 pm1 cd1 ct1 : Value} {f2 : Addr} {od2 an2 : Option Addr} {sl2 : Array (Option Value)} {oc2 kV2 dc2 pm2 cd2 ct2 : Value} {f3 : Addr} {od3 an3 : Option Addr} {sl3 : Array (Option Value)} {oc3 kV3 dc3 pm3 cd3 ct3 : Value} {f4 : Addr} {od4 an4 : Option Addr} {sl4 : Array (Option Value)} {oc4 kV4 dc4 pm4 cd4 ct4 : Value} {f5 : Addr} {od5 an5 : Option Addr} {sl5 : Array (Option Value)} {oc5 kV5 dc5 pm5 cd5 ct5 : Value} {f6 : Addr} {od6 an6 : Option Addr} {sl6 : Array (Option Value)} {oc6 kV6 dc6 pm6 cd6 ct6 : Value} {f7 : Addr} {od7 an7 : Option Addr} {sl7 : Array (Option Value)} {oc7 kV7 dc7 pm7 cd7 ct7 : Value} {f8 : Addr} {od8 an8 : Option Addr} {sl8 : Array (Option Value)} {oc8 kV8 dc8 pm8 cd8 ct8 : Value} {f9 : Addr} {od9 an9 : Option Addr} {sl9 : Array (Option Value)} {oc9 kV9 dc9 pm9 cd9 ct9 : Value} {f10 : Addr} {od10 an10 : Option Addr} {sl10 : Array (Option Value)} {oc10 kV10 dc10 pm10 cd10 ct10 : Value} {f11 : Addr} {od11 an11 : Option Addr} {sl11 : Array (Option Value)} {oc11 kV11 dc11 pm11 cd11 ct11 : Value} {f12 : Addr} {od12 an12 : Option Addr} {sl12 : Array (Option Value)} {oc12 kV12 dc12 pm12 cd12 ct12 : Value} {f13 : Addr} {od13 an13 : Option Addr} {sl13 : Array (Option Value)} {oc13 kV13 dc13 pm13 cd13 ct13 : Value} {f14 : Addr} {od14 an14 : Option Addr} {sl14 : Array (Option Value)} {oc14 kV14 dc14 pm14 cd14 ct14 : Value} {f15 : Addr} {od15 an15 : Option Addr} {sl15 : Array (Option Value)} {oc15 kV15 dc15 pm15 cd15 ct15 : Value} {f16 : Addr} {od16 an16 : Option Addr} {sl16 : Array (Option Value)} {oc16 kV16 dc16 pm16 cd16 ct16 : Value} {f17 : Addr} {od17 an17 : Option Addr} {sl17 : Array (Option Value)} {oc17 kV17 dc17 pm17 cd17 ct17 : Value} {f18 : Addr} {od18 an18 : Option Addr} {sl18 : Array (Option Value)} {oc18 kV18 dc18 pm18 cd18 ct18 : Value} {f19 : Addr} {od19 an19 : Option Addr} {sl19 : Array (Option Value)} {oc19 kV19 dc19 pm19 cd19 ct19 : Value} {f20 : Addr} {od20 an20 : Option Addr} {sl20 : Array (Option Value)} {oc20 kV20 dc20 pm20 cd20 ct20 : Value} {f21 : Addr} {od21 an21 : Option Addr} {sl21 : Array (Option Value)} {oc21 kV21 dc21 pm21 cd21 ct21 : Value} (X : K.In h) (G : h.Ns mainGlobals mg) (hfa : mg "law" = some (.ref fa)) (aC_NoTask : PySem.W.nsIn K mainGlobals "NoTask" = some (some (.ref C_NoTask))) (xL_NoTask : K.lookup C_NoTask = some (PySem.excClassObj nm_NoTask q_NoTask C_NoTask N_NoTask_ bs_NoTask (.ref W_NoTask :: [.type "ValueError", .type "Exception", .type "BaseException", .type "object"]) true sn_NoTask sub_NoTask ab_NoTask col_NoTask dd_NoTask m0_NoTask m1_NoTask m2_NoTask m3_NoTask m5_NoTask "ValueError.__new__")) (sa_NoTask : PySem.W.findIn K (.ref C_NoTask) "__setattr__" = some (some (.builtin "object.__setattr__"))) (ga_NoTask : PySem.W.findIn K (.ref C_NoTask) "__getattribute__" = some (some (.builtin "BaseException.__getattribute__"))) (gg_NoTask : PySem.W.findIn K (.ref C_NoTask) "__getattr__" = some none) (nb_NoTask : PySem.W.findIn K (.ref C_NoTask) "found" = some none) (iC_NoTask : PySem.W.findIn K (.ref C_NoTask) "__init__" = some (some (.ref fI_NoTask))) (tI_NoTask : PySem.W.typeIn K (.ref fI_NoTask) = some (.type "function")) (lI_NoTask : K.lookup fI_NoTask = some ⟨oc_NoTask, od_NoTask, .func (PySem.W.fnOf "__init__" "NoTask.__init__" (defArgs s_NoTask_init) (defBody s_NoTask_init) (defScope s_NoTask_init) .none kV_NoTask dc_NoTask pm_NoTask an_NoTask cd_NoTask ct_NoTask), sl_NoTask⟩) (cI_NoTask : PySem.W.codeIn K cd_NoTask "NoTask.__init__" = true) (kI_NoTask : PySem.W.keepIn K (.ref fI_NoTask) = true) (kC_NoTask : PySem.W.keepIn K (.ref C_NoTask) = true) (eC_NoTask : PySem.W.subIn K (.ref C_NoTask) (.type "BaseException") = some true) (tC_NoTask : PySem.W.typeIn K (.ref C_NoTask) = some (.type "type")) (cS_NoTask : PySem.W.isClsIn K C_NoTask = true) (cA_NoTask : PySem.W.findIn K (.ref C_NoTask) "__class__" = some (some (.builtin "object.__class__"))) (cP_NoTask : PySem.W.specialIn K (.builtin "object.__class__") "__get__" = some (some (.builtin "getset_descriptor.__get__"))) (cT_NoTask : PySem.W.takesIn K (.builtin "object.__class__") = some true) (cM_NoTask : PySem.W.mroIn K C_NoTask (.type "object") = some true) (kbool_NoTask : PySem.W.subIn K (.ref C_NoTask) (.type "bool") = some false) (kint_NoTask : PySem.W.subIn K (.ref C_NoTask) (.type "int") = some false) (kstr_NoTask : PySem.W.subIn K (.ref C_NoTask) (.type "str") = some false) (klist_NoTask : PySem.W.subIn K (.ref C_NoTask) (.type "list") = some false) (ktuple_NoTask : PySem.W.subIn K (.ref C_NoTask) (.type "tuple") = some false) (kdict_NoTask : PySem.W.subIn K (.ref C_NoTask) (.type "dict") = some false) (aC_NoList : PySem.W.nsIn K mainGlobals "NoList" = some (some (.ref C_NoList))) (xL_NoList : K.lookup C_NoList = some (PySem.excClassObj nm_NoList q_NoList C_NoList N_NoList_ bs_NoList (.ref W_NoList :: [.type "ValueError", .type "Exception", .type "BaseException", .type "object"]) true sn_NoList sub_NoList ab_NoList col_NoList dd_NoList m0_NoList m1_NoList m2_NoList m3_NoList m5_NoList "ValueError.__new__")) (sa_NoList : PySem.W.findIn K (.ref C_NoList) "__setattr__" = some (some (.builtin "object.__setattr__"))) (ga_NoList : PySem.W.findIn K (.ref C_NoList) "__getattribute__" = some (some (.builtin "BaseException.__getattribute__"))) (gg_NoList : PySem.W.findIn K (.ref C_NoList) "__getattr__" = some none) (nb_NoList : PySem.W.findIn K (.ref C_NoList) "found" = some none) (iC_NoList : PySem.W.findIn K (.ref C_NoList) "__init__" = some (some (.ref fI_NoList))) (tI_NoList : PySem.W.typeIn K (.ref fI_NoList) = some (.type "function")) (lI_NoList : K.lookup fI_NoList = some ⟨oc_NoList, od_NoList, .func (PySem.W.fnOf "__init__" "NoList.__init__" (defArgs s_NoList_init) (defBody s_NoList_init) (defScope s_NoList_init) .none kV_NoList dc_NoList pm_NoList an_NoList cd_NoList ct_NoList), sl_NoList⟩) (cI_NoList : PySem.W.codeIn K cd_NoList "NoList.__init__" = true) (kI_NoList : PySem.W.keepIn K (.ref fI_NoList) = true) (kC_NoList : PySem.W.keepIn K (.ref C_NoList) = true) (eC_NoList : PySem.W.subIn K (.ref C_NoList) (.type "BaseException") = some true) (tC_NoList : PySem.W.typeIn K (.ref C_NoList) = some (.type "type")) (cS_NoList : PySem.W.isClsIn K C_NoList = true) (cA_NoList : PySem.W.findIn K (.ref C_NoList) "__class__" = some (some (.builtin "object.__class__"))) (cP_NoList : PySem.W.specialIn K (.builtin "object.__class__") "__get__" = some (some (.builtin "getset_descriptor.__get__"))) (cT_NoList : PySem.W.takesIn K (.builtin "object.__class__") = some true) (cM_NoList : PySem.W.mroIn K C_NoList (.type "object") = some true) (kbool_NoList : PySem.W.subIn K (.ref C_NoList) (.type "bool") = some false) (kint_NoList : PySem.W.subIn K (.ref C_NoList) (.type "int") = some false) (kstr_NoList : PySem.W.subIn K (.ref C_NoList) (.type "str") = some false) (klist_NoList : PySem.W.subIn K (.ref C_NoList) (.type "list") = some false) (ktuple_NoList : PySem.W.subIn K (.ref C_NoList) (.type "tuple") = some false) (kdict_NoList : PySem.W.subIn K (.ref C_NoList) (.type "dict") = some false) (aC_WakeError : PySem.W.nsIn K mainGlobals "WakeError" = some (some (.ref C_WakeError))) (aC_StateError : PySem.W.nsIn K mainGlobals "StateError" = some (some (.ref C_StateError))) (eb_WakeError : PySem.W.subIn K (.ref C_WakeError) (.type "BaseException") = some true) (ei_WakeError : PySem.W.isClsIn K C_WakeError = true) (et_WakeError : PySem.W.typeIn K (.ref C_WakeError) = some (.type "type")) (eb_StateError : PySem.W.subIn K (.ref C_StateError) (.type "BaseException") = some true) (ei_StateError : PySem.W.isClsIn K C_StateError = true) (et_StateError : PySem.W.typeIn K (.ref C_StateError) = some (.type "type")) (eb_NoTask : PySem.W.subIn K (.ref C_NoTask) (.type "BaseException") = some true) (ei_NoTask : PySem.W.isClsIn K C_NoTask = true) (et_NoTask : PySem.W.typeIn K (.ref C_NoTask) = some (.type "type")) (eb_NoList : PySem.W.subIn K (.ref C_NoList) (.type "BaseException") = some true) (ei_NoList : PySem.W.isClsIn K C_NoList = true) (et_NoList : PySem.W.typeIn K (.ref C_NoList) = some (.type "type")) (xs_NoList_WakeError : PySem.W.subIn K (.ref C_NoList) (.ref C_WakeError) = some true) (xs_NoList_StateError : PySem.W.subIn K (.ref C_NoList) (.ref C_StateError) = some false) (xs_NoList_NoTask : PySem.W.subIn K (.ref C_NoList) (.ref C_NoTask) = some false) (xs_NoList_NoList : PySem.W.subIn K (.ref C_NoList) (.ref C_NoList) = some true) (xs_NoTask_WakeError : PySem.W.subIn K (.ref C_NoTask) (.ref C_WakeError) = some true) (xs_NoTask_StateError : PySem.W.subIn K (.ref C_NoTask) (.ref C_StateError) = some false) (xs_NoTask_NoTask : PySem.W.subIn K (.ref C_NoTask) (.ref C_NoTask) = some true) (xs_NoTask_NoList : PySem.W.subIn K (.ref C_NoTask) (.ref C_NoList) = some false) (z_b_max : PySem.W.nsIn K mainGlobals "max" = some none) (z_b_len : PySem.W.nsIn K mainGlobals "len" = some none) (z_b_sum : PySem.W.nsIn K mainGlobals "sum" = some none) (z_b_range : PySem.W.nsIn K mainGlobals "range" = some none) (z_b_isinstance : PySem.W.nsIn K mainGlobals "isinstance" = some none) (z_b_str : PySem.W.nsIn K mainGlobals "str" = some none) (z_b_tuple : PySem.W.nsIn K mainGlobals "tuple" = some none) (z_b_int : PySem.W.nsIn K mainGlobals "int" = some none) (z_b_bool : PySem.W.nsIn K mainGlobals "bool" = some none) (rp_NoTask : PySem.W.findIn K (.ref C_NoTask) "__repr__" = some (some (.builtin "BaseException.__repr__"))) (ze_nm_NoTask : nm_NoTask = "NoTask") (z_b_list : PySem.W.nsIn K mainGlobals "list" = some none) (z_g_MOST_LETTERS : PySem.W.nsIn K mainGlobals "MOST_LETTERS" = some (some (.int 8 tk_g_MOST_LETTERS))) (z_b_all : PySem.W.nsIn K mainGlobals "all" = some none) (z_g_LETTERS : PySem.W.nsIn K mainGlobals "LETTERS" = some (some (.str "abcdefghijklmnopqrstuvwxyz" tk_g_LETTERS))) (z_g_MOST_TICK : PySem.W.nsIn K mainGlobals "MOST_TICK" = some (some (.int 100 tk_g_MOST_TICK))) (zm_g_DEEDS : PySem.W.nsIn K mainGlobals "DEEDS" = some (some (.ref Md_DEEDS))) (zl_g_DEEDS : K.lookup Md_DEEDS = some ⟨.type "dict", none, .dict Es_DEEDS Ne_DEEDS, #[]⟩) (zw_g_DEEDS : (Md_DEEDS == sysModules) = false) (ze_g_DEEDS : Es_DEEDS.toList.map mdRow = mdOf w.params md_DEEDS) (z_g_MOST_DEEDS : PySem.W.nsIn K mainGlobals "MOST_DEEDS" = some (some (.int 8 tk_g_MOST_DEEDS))) (z_g_MOST_TASKS : PySem.W.nsIn K mainGlobals "MOST_TASKS" = some (some (.int 3 tk_g_MOST_TASKS))) (hx_NoTask : PySem.W.hasDictIn K C_NoTask = true) (z_xn_NoTask_found : PySem.W.findIn K (.ref C_NoTask) "found" = some none) (hx_NoList : PySem.W.hasDictIn K C_NoList = true) (z_xn_NoList_found : PySem.W.findIn K (.ref C_NoList) "found" = some none) (z_b_repr : PySem.W.nsIn K mainGlobals "repr" = some none) (z_b_min : PySem.W.nsIn K mainGlobals "min" = some none) (a0 : PySem.W.nsIn K mainGlobals "_law_box" = some (some (.ref f0))) (l0 : K.lookup f0 = some ⟨oc0, od0, .func (PySem.W.fnOf "_law_box" "_law_box" (defArgs s__law_box) (defBody s__law_box) (defScope s__law_box) .none kV0 dc0 pm0 an0 cd0 ct0), sl0⟩) (c0 : PySem.W.codeIn K cd0 "_law_box" = true) (k0 : PySem.W.keepIn K (.ref f0) = true) (a1 : PySem.W.nsIn K mainGlobals "_law_cell" = some (some (.ref f1))) (l1 : K.lookup f1 = some ⟨oc1, od1, .func (PySem.W.fnOf "_law_cell" "_law_cell" (defArgs s__law_cell) (defBody s__law_cell) (defScope s__law_cell) .none kV1 dc1 pm1 an1 cd1 ct1), sl1⟩) (c1 : PySem.W.codeIn K cd1 "_law_cell" = true) (k1 : PySem.W.keepIn K (.ref f1) = true) (a2 : PySem.W.nsIn K mainGlobals "_law_take" = some (some (.ref f2))) (l2 : K.lookup f2 = some ⟨oc2, od2, .func (PySem.W.fnOf "_law_take" "_law_take" (defArgs s__law_take) (defBody s__law_take) (defScope s__law_take) .none kV2 dc2 pm2 an2 cd2 ct2), sl2⟩) (c2 : PySem.W.codeIn K cd2 "_law_take" = true) (k2 : PySem.W.keepIn K (.ref f2) = true) (a3 : PySem.W.nsIn K mainGlobals "_law_names" = some (some (.ref f3))) (l3 : K.lookup f3 = some ⟨oc3, od3, .func (PySem.W.fnOf "_law_names" "_law_names" (defArgs s__law_names) (defBody s__law_names) (defScope s__law_names) .none kV3 dc3 pm3 an3 cd3 ct3), sl3⟩) (c3 : PySem.W.codeIn K cd3 "_law_names" = true) (k3 : PySem.W.keepIn K (.ref f3) = true) (a4 : PySem.W.nsIn K mainGlobals "_law_deed" = some (some (.ref f4))) (l4 : K.lookup f4 = some ⟨oc4, od4, .func (PySem.W.fnOf "_law_deed" "_law_deed" (defArgs s__law_deed) (defBody s__law_deed) (defScope s__law_deed) .none kV4 dc4 pm4 an4 cd4 ct4), sl4⟩) (c4 : PySem.W.codeIn K cd4 "_law_deed" = true) (k4 : PySem.W.keepIn K (.ref f4) = true) (a5 : PySem.W.nsIn K mainGlobals "_law_is_name" = some (some (.ref f5))) (l5 : K.lookup f5 = some ⟨oc5, od5, .func (PySem.W.fnOf "_law_is_name" "_law_is_name" (defArgs s__law_is_name) (defBody s__law_is_name) (defScope s__law_is_name) .none kV5 dc5 pm5 an5 cd5 ct5), sl5⟩) (c5 : PySem.W.codeIn K cd5 "_law_is_name" = true) (k5 : PySem.W.keepIn K (.ref f5) = true) (a6 : PySem.W.nsIn K mainGlobals "_law_is_deed" = some (some (.ref f6))) (l6 : K.lookup f6 = some ⟨oc6, od6, .func (PySem.W.fnOf "_law_is_deed" "_law_is_deed" (defArgs s__law_is_deed) (defBody s__law_is_deed) (defScope s__law_is_deed) .none kV6 dc6 pm6 an6 cd6 ct6), sl6⟩) (c6 : PySem.W.codeIn K cd6 "_law_is_deed" = true) (k6 : PySem.W.keepIn K (.ref f6) = true) (a7 : PySem.W.nsIn K mainGlobals "_law_odd" = some (some (.ref f7))) (l7 : K.lookup f7 = some ⟨oc7, od7, .func (PySem.W.fnOf "_law_odd" "_law_odd" (defArgs s__law_odd) (defBody s__law_odd) (defScope s__law_odd) .none kV7 dc7 pm7 an7 cd7 ct7), sl7⟩) (c7 : PySem.W.codeIn K cd7 "_law_odd" = true) (k7 : PySem.W.keepIn K (.ref f7) = true) (a8 : PySem.W.nsIn K mainGlobals "_law_bent" = some (some (.ref f8))) (l8 : K.lookup f8 = some ⟨oc8, od8, .func (PySem.W.fnOf "_law_bent" "_law_bent" (defArgs s__law_bent) (defBody s__law_bent) (defScope s__law_bent) .none kV8 dc8 pm8 an8 cd8 ct8), sl8⟩) (c8 : PySem.W.codeIn K cd8 "_law_bent" = true) (k8 : PySem.W.keepIn K (.ref f8) = true) (a9 : PySem.W.nsIn K mainGlobals "_law_other_kind" = some (some (.ref f9))) (l9 : K.lookup f9 = some ⟨oc9, od9, .func (PySem.W.fnOf "_law_other_kind" "_law_other_kind" (defArgs s__law_other_kind) (defBody s__law_other_kind) (defScope s__law_other_kind) .none kV9 dc9 pm9 an9 cd9 ct9), sl9⟩) (c9 : PySem.W.codeIn K cd9 "_law_other_kind" = true) (k9 : PySem.W.keepIn K (.ref f9) = true) (a10 : PySem.W.nsIn K mainGlobals "_law_spoilt" = some (some (.ref f10))) (l10 : K.lookup f10 = some ⟨oc10, od10, .func (PySem.W.fnOf "_law_spoilt" "_law_spoilt" (defArgs s__law_spoilt) (defBody s__law_spoilt) (defScope s__law_spoilt) .none kV10 dc10 pm10 an10 cd10 ct10), sl10⟩) (c10 : PySem.W.codeIn K cd10 "_law_spoilt" = true) (k10 : PySem.W.keepIn K (.ref f10) = true) (a11 : PySem.W.nsIn K mainGlobals "is_name" = some (some (.ref f11))) (l11 : K.lookup f11 = some ⟨oc11, od11, .func (PySem.W.fnOf "is_name" "is_name" (defArgs s_is_name) (defBody s_is_name) (defScope s_is_name) .none kV11 dc11 pm11 an11 cd11 ct11), sl11⟩) (c11 : PySem.W.codeIn K cd11 "is_name" = true) (k11 : PySem.W.keepIn K (.ref f11) = true) (a12 : PySem.W.nsIn K mainGlobals "is_whole" = some (some (.ref f12))) (l12 : K.lookup f12 = some ⟨oc12, od12, .func (PySem.W.fnOf "is_whole" "is_whole" (defArgs s_is_whole) (defBody s_is_whole) (defScope s_is_whole) .none kV12 dc12 pm12 an12 cd12 ct12), sl12⟩) (c12 : PySem.W.codeIn K cd12 "is_whole" = true) (k12 : PySem.W.keepIn K (.ref f12) = true) (a13 : PySem.W.nsIn K mainGlobals "are_parts" = some (some (.ref f13))) (l13 : K.lookup f13 = some ⟨oc13, od13, .func (PySem.W.fnOf "are_parts" "are_parts" (defArgs s_are_parts) (defBody s_are_parts) (defScope s_are_parts) .none kV13 dc13 pm13 an13 cd13 ct13), sl13⟩) (c13 : PySem.W.codeIn K cd13 "are_parts" = true) (k13 : PySem.W.keepIn K (.ref f13) = true) (a14 : PySem.W.nsIn K mainGlobals "is_deed" = some (some (.ref f14))) (l14 : K.lookup f14 = some ⟨oc14, od14, .func (PySem.W.fnOf "is_deed" "is_deed" (defArgs s_is_deed) (defBody s_is_deed) (defScope s_is_deed) .none kV14 dc14 pm14 an14 cd14 ct14), sl14⟩) (c14 : PySem.W.codeIn K cd14 "is_deed" = true) (k14 : PySem.W.keepIn K (.ref f14) = true) (a15 : PySem.W.nsIn K mainGlobals "deeds_of" = some (some (.ref f15))) (l15 : K.lookup f15 = some ⟨oc15, od15, .func (PySem.W.fnOf "deeds_of" "deeds_of" (defArgs s_deeds_of) (defBody s_deeds_of) (defScope s_deeds_of) .none kV15 dc15 pm15 an15 cd15 ct15), sl15⟩) (c15 : PySem.W.codeIn K cd15 "deeds_of" = true) (k15 : PySem.W.keepIn K (.ref f15) = true) (a16 : PySem.W.nsIn K mainGlobals "tasks_of" = some (some (.ref f16))) (l16 : K.lookup f16 = some ⟨oc16, od16, .func (PySem.W.fnOf "tasks_of" "tasks_of" (defArgs s_tasks_of) (defBody s_tasks_of) (defScope s_tasks_of) .none kV16 dc16 pm16 an16 cd16 ct16), sl16⟩) (c16 : PySem.W.codeIn K cd16 "tasks_of" = true) (k16 : PySem.W.keepIn K (.ref f16) = true) (a17 : PySem.W.nsIn K mainGlobals "_law_caught" = some (some (.ref f17))) (l17 : K.lookup f17 = some ⟨oc17, od17, .func (PySem.W.fnOf "_law_caught" "_law_caught" (defArgs s__law_caught) (defBody s__law_caught) (defScope s__law_caught) .none kV17 dc17 pm17 an17 cd17 ct17), sl17⟩) (c17 : PySem.W.codeIn K cd17 "_law_caught" = true) (k17 : PySem.W.keepIn K (.ref f17) = true) (a18 : PySem.W.nsIn K mainGlobals "_law_holds" = some (some (.ref f18))) (l18 : K.lookup f18 = some ⟨oc18, od18, .func (PySem.W.fnOf "_law_holds" "_law_holds" (defArgs s__law_holds) (defBody s__law_holds) (defScope s__law_holds) .none kV18 dc18 pm18 an18 cd18 ct18), sl18⟩) (c18 : PySem.W.codeIn K cd18 "_law_holds" = true) (k18 : PySem.W.keepIn K (.ref f18) = true) (a19 : PySem.W.nsIn K mainGlobals "_law_due_of_task" = some (some (.ref f19))) (l19 : K.lookup f19 = some ⟨oc19, od19, .func (PySem.W.fnOf "_law_due_of_task" "_law_due_of_task" (defArgs s__law_due_of_task) (defBody s__law_due_of_task) (defScope s__law_due_of_task) .none kV19 dc19 pm19 an19 cd19 ct19), sl19⟩) (c19 : PySem.W.codeIn K cd19 "_law_due_of_task" = true) (k19 : PySem.W.keepIn K (.ref f19) = true) (a20 : PySem.W.nsIn K mainGlobals "_law_due" = some (some (.ref f20))) (l20 : K.lookup f20 = some ⟨oc20, od20, .func (PySem.W.fnOf "_law_due" "_law_due" (defArgs s__law_due) (defBody s__law_due) (defScope s__law_due) .none kV20 dc20 pm20 an20 cd20 ct20), sl20⟩) (c20 : PySem.W.codeIn K cd20 "_law_due" = true) (k20 : PySem.W.keepIn K (.ref f20) = true) (a21 : PySem.W.nsIn K mainGlobals "law" = some (some (.ref f21))) (l21 : K.lookup f21 = some ⟨oc21, od21, .func (PySem.W.fnOf "law" "law" (defArgs s_law) (defBody s_law) (defScope s_law) .none kV21 dc21 pm21 an21 cd21 ct21), sl21⟩) (c21 : PySem.W.codeIn K cd21 "law" = true) (k21 : PySem.W.keepIn K (.ref f21) = true) :
    ∀ base : Heap, Fn P w K mg base 8 "law" ["_law_script"] spLaw := by
  have oe_NoTask : OexC K C_NoTask := ⟨⟨_, _, _, _, _, _, _, _, _, _, _, _, _, _, _, xL_NoTask, rfl⟩, sa_NoTask, eC_NoTask, tC_NoTask, kC_NoTask⟩
  have ec_NoTask : ExcCls K C_NoTask := ⟨cS_NoTask, ga_NoTask, gg_NoTask, eC_NoTask, cA_NoTask, cP_NoTask, cT_NoTask, cM_NoTask, fun n hn => by
    simp only [List.mem_cons, List.mem_nil_iff, or_false] at hn
    rcases hn with rfl | rfl | rfl | rfl | rfl | rfl
    · exact kit_sub (by decide +kernel) kbool_NoTask
    · exact kit_sub (by decide +kernel) kint_NoTask
    · exact kit_sub (by decide +kernel) kstr_NoTask
    · exact kit_sub (by decide +kernel) klist_NoTask
    · exact kit_sub (by decide +kernel) ktuple_NoTask
    · exact kit_sub (by decide +kernel) kdict_NoTask⟩
  have FI_NoTask := fun_mk (st := s_NoTask_init) lI_NoTask cI_NoTask kI_NoTask
  have x_NoTask : ∀ base : Heap, ExcT P w K mg base 1 "NoTask" "found" C_NoTask := fun base => ⟨PySem.W.mg_of X G aC_NoTask, oe_NoTask, ec_NoTask, fI_NoTask, _, iC_NoTask, tI_NoTask, FI_NoTask.binds (ps := ["self", "found"]) fun _ _ _ _ _ _ us hl => match us, hl with | [_, _], _ => rfl, init_NoTask FI_NoTask oe_NoTask nb_NoTask⟩
  have oe_NoList : OexC K C_NoList := ⟨⟨_, _, _, _, _, _, _, _, _, _, _, _, _, _, _, xL_NoList, rfl⟩, sa_NoList, eC_NoList, tC_NoList, kC_NoList⟩
  have ec_NoList : ExcCls K C_NoList := ⟨cS_NoList, ga_NoList, gg_NoList, eC_NoList, cA_NoList, cP_NoList, cT_NoList, cM_NoList, fun n hn => by
    simp only [List.mem_cons, List.mem_nil_iff, or_false] at hn
    rcases hn with rfl | rfl | rfl | rfl | rfl | rfl
    · exact kit_sub (by decide +kernel) kbool_NoList
    · exact kit_sub (by decide +kernel) kint_NoList
    · exact kit_sub (by decide +kernel) kstr_NoList
    · exact kit_sub (by decide +kernel) klist_NoList
    · exact kit_sub (by decide +kernel) ktuple_NoList
    · exact kit_sub (by decide +kernel) kdict_NoList⟩
  have FI_NoList := fun_mk (st := s_NoList_init) lI_NoList cI_NoList kI_NoList
  have x_NoList : ∀ base : Heap, ExcT P w K mg base 1 "NoList" "found" C_NoList := fun base => ⟨PySem.W.mg_of X G aC_NoList, oe_NoList, ec_NoList, fI_NoList, _, iC_NoList, tI_NoList, FI_NoList.binds (ps := ["self", "found"]) fun _ _ _ _ _ _ us hl => match us, hl with | [_, _], _ => rfl, init_NoList FI_NoList oe_NoList nb_NoList⟩
  have xo_NoList_WakeError := exm_ref eb_WakeError ei_WakeError et_WakeError xs_NoList_WakeError
  have xo_NoList_StateError := exm_ref eb_StateError ei_StateError et_StateError xs_NoList_StateError
  have xo_NoList_NoTask := exm_ref eb_NoTask ei_NoTask et_NoTask xs_NoList_NoTask
  have xo_NoList_NoList := exm_ref eb_NoList ei_NoList et_NoList xs_NoList_NoList
  have xo_NoTask_WakeError := exm_ref eb_WakeError ei_WakeError et_WakeError xs_NoTask_WakeError
  have xo_NoTask_StateError := exm_ref eb_StateError ei_StateError et_StateError xs_NoTask_StateError
  have xo_NoTask_NoTask := exm_ref eb_NoTask ei_NoTask et_NoTask xs_NoTask_NoTask
  have xo_NoTask_NoList := exm_ref eb_NoList ei_NoList et_NoList xs_NoTask_NoList
  have xT_NoTask : ∀ base : Heap, ExcTS P w K mg base 1 "NoTask" "found" "NoTask" C_NoTask := fun base => ⟨PySem.W.mg_of X G aC_NoTask, oe_NoTask, ec_NoTask, ⟨rp_NoTask, cls_nm xL_NoTask ⟨_, rfl, ze_nm_NoTask⟩⟩, fI_NoTask, _, iC_NoTask, tI_NoTask, FI_NoTask.binds (ps := ["self", "found"]) fun _ _ _ _ _ _ us hl => match us, hl with | [_, _], _ => rfl, initT_NoTask FI_NoTask oe_NoTask nb_NoTask⟩
  have hA : AdOk (⟨PySem.W.exmAny K, C_NoTask, C_NoList, C_WakeError, C_StateError, f16, f15⟩ : Ad) := { tt := trivial, xm_NoList_WakeError_StateError := exm_cons xo_NoList_WakeError (exm_cons xo_NoList_StateError (exm_nil)), xm_NoList_NoTask := exm_cons xo_NoList_NoTask (exm_nil), xm_NoList_NoList := exm_cons xo_NoList_NoList (exm_nil), xm_NoTask_WakeError_StateError := exm_cons xo_NoTask_WakeError (exm_cons xo_NoTask_StateError (exm_nil)), xm_NoTask_NoTask := exm_cons xo_NoTask_NoTask (exm_nil), xm_NoTask_NoList := exm_cons xo_NoTask_NoList (exm_nil) }
  have T : ∀ base : Heap, Txt P w K mg base (⟨PySem.W.exmAny K, C_NoTask, C_NoList, C_WakeError, C_StateError, f16, f15⟩ : Ad) := fun base => { xm := rfl, b_max := PySem.W.mg_none_of X G z_b_max, b_len := PySem.W.mg_none_of X G z_b_len, b_sum := PySem.W.mg_none_of X G z_b_sum, b_range := PySem.W.mg_none_of X G z_b_range, b_isinstance := PySem.W.mg_none_of X G z_b_isinstance, b_str := PySem.W.mg_none_of X G z_b_str, b_tuple := PySem.W.mg_none_of X G z_b_tuple, b_int := PySem.W.mg_none_of X G z_b_int, b_bool := PySem.W.mg_none_of X G z_b_bool, x_NoTask := x_NoTask base, xT_NoTask := xT_NoTask base, b_list := PySem.W.mg_none_of X G z_b_list, g_MOST_LETTERS := ⟨_, PySem.W.mg_of X G z_g_MOST_LETTERS⟩, b_all := PySem.W.mg_none_of X G z_b_all, g_LETTERS := ⟨_, PySem.W.mg_of X G z_g_LETTERS⟩, g_MOST_TICK := ⟨_, PySem.W.mg_of X G z_g_MOST_TICK⟩, g_DEEDS := ⟨Md_DEEDS, PySem.W.mg_of X G zm_g_DEEDS, md_ok2 zl_g_DEEDS zw_g_DEEDS ze_g_DEEDS⟩, g_MOST_DEEDS := ⟨_, PySem.W.mg_of X G z_g_MOST_DEEDS⟩, x_NoList := x_NoList base, g_MOST_TASKS := ⟨_, PySem.W.mg_of X G z_g_MOST_TASKS⟩, n_WakeError := PySem.W.mg_of X G aC_WakeError, n_StateError := PySem.W.mg_of X G aC_StateError, n_NoTask := PySem.W.mg_of X G aC_NoTask, xf_NoTask := ⟨ga_NoTask, gg_NoTask, eC_NoTask, hx_NoTask⟩, xn_NoTask_found := z_xn_NoTask_found, n_NoList := PySem.W.mg_of X G aC_NoList, xf_NoList := ⟨ga_NoList, gg_NoList, eC_NoList, hx_NoList⟩, xn_NoList_found := z_xn_NoList_found, b_repr := PySem.W.mg_none_of X G z_b_repr, b_min := PySem.W.mg_none_of X G z_b_min }
  have F0 : FunD K "_law_box" "_law_box" (defArgs s__law_box) (defBody s__law_box) (defScope s__law_box) [] [] f0 _ := ⟨⟨_, _, _, _, _, _, _, _, _, _, rfl, l0, c0, Or.inl ⟨rfl, rfl⟩, Or.inl rfl⟩, k0⟩
  have F1 : FunD K "_law_cell" "_law_cell" (defArgs s__law_cell) (defBody s__law_cell) (defScope s__law_cell) [] [] f1 _ := ⟨⟨_, _, _, _, _, _, _, _, _, _, rfl, l1, c1, Or.inl ⟨rfl, rfl⟩, Or.inl rfl⟩, k1⟩
  have F2 : FunD K "_law_take" "_law_take" (defArgs s__law_take) (defBody s__law_take) (defScope s__law_take) [] [] f2 _ := ⟨⟨_, _, _, _, _, _, _, _, _, _, rfl, l2, c2, Or.inl ⟨rfl, rfl⟩, Or.inl rfl⟩, k2⟩
  have F3 : FunD K "_law_names" "_law_names" (defArgs s__law_names) (defBody s__law_names) (defScope s__law_names) [] [] f3 _ := ⟨⟨_, _, _, _, _, _, _, _, _, _, rfl, l3, c3, Or.inl ⟨rfl, rfl⟩, Or.inl rfl⟩, k3⟩
  have F4 : FunD K "_law_deed" "_law_deed" (defArgs s__law_deed) (defBody s__law_deed) (defScope s__law_deed) [] [] f4 _ := ⟨⟨_, _, _, _, _, _, _, _, _, _, rfl, l4, c4, Or.inl ⟨rfl, rfl⟩, Or.inl rfl⟩, k4⟩
  have F5 : FunD K "_law_is_name" "_law_is_name" (defArgs s__law_is_name) (defBody s__law_is_name) (defScope s__law_is_name) [] [] f5 _ := ⟨⟨_, _, _, _, _, _, _, _, _, _, rfl, l5, c5, Or.inl ⟨rfl, rfl⟩, Or.inl rfl⟩, k5⟩
  have F6 : FunD K "_law_is_deed" "_law_is_deed" (defArgs s__law_is_deed) (defBody s__law_is_deed) (defScope s__law_is_deed) [] [] f6 _ := ⟨⟨_, _, _, _, _, _, _, _, _, _, rfl, l6, c6, Or.inl ⟨rfl, rfl⟩, Or.inl rfl⟩, k6⟩
  have F7 : FunD K "_law_odd" "_law_odd" (defArgs s__law_odd) (defBody s__law_odd) (defScope s__law_odd) [] [] f7 _ := ⟨⟨_, _, _, _, _, _, _, _, _, _, rfl, l7, c7, Or.inl ⟨rfl, rfl⟩, Or.inl rfl⟩, k7⟩
  have F8 : FunD K "_law_bent" "_law_bent" (defArgs s__law_bent) (defBody s__law_bent) (defScope s__law_bent) [] [] f8 _ := ⟨⟨_, _, _, _, _, _, _, _, _, _, rfl, l8, c8, Or.inl ⟨rfl, rfl⟩, Or.inl rfl⟩, k8⟩
  have F9 : FunD K "_law_other_kind" "_law_other_kind" (defArgs s__law_other_kind) (defBody s__law_other_kind) (defScope s__law_other_kind) [] [] f9 _ := ⟨⟨_, _, _, _, _, _, _, _, _, _, rfl, l9, c9, Or.inl ⟨rfl, rfl⟩, Or.inl rfl⟩, k9⟩
  have F10 : FunD K "_law_spoilt" "_law_spoilt" (defArgs s__law_spoilt) (defBody s__law_spoilt) (defScope s__law_spoilt) [] [] f10 _ := ⟨⟨_, _, _, _, _, _, _, _, _, _, rfl, l10, c10, Or.inl ⟨rfl, rfl⟩, Or.inl rfl⟩, k10⟩
  have F11 : FunD K "is_name" "is_name" (defArgs s_is_name) (defBody s_is_name) (defScope s_is_name) [] [] f11 _ := ⟨⟨_, _, _, _, _, _, _, _, _, _, rfl, l11, c11, Or.inl ⟨rfl, rfl⟩, Or.inl rfl⟩, k11⟩
  have F12 : FunD K "is_whole" "is_whole" (defArgs s_is_whole) (defBody s_is_whole) (defScope s_is_whole) [] [] f12 _ := ⟨⟨_, _, _, _, _, _, _, _, _, _, rfl, l12, c12, Or.inl ⟨rfl, rfl⟩, Or.inl rfl⟩, k12⟩
  have F13 : FunD K "are_parts" "are_parts" (defArgs s_are_parts) (defBody s_are_parts) (defScope s_are_parts) [] [] f13 _ := ⟨⟨_, _, _, _, _, _, _, _, _, _, rfl, l13, c13, Or.inl ⟨rfl, rfl⟩, Or.inl rfl⟩, k13⟩
  have F14 : FunD K "is_deed" "is_deed" (defArgs s_is_deed) (defBody s_is_deed) (defScope s_is_deed) [] [] f14 _ := ⟨⟨_, _, _, _, _, _, _, _, _, _, rfl, l14, c14, Or.inl ⟨rfl, rfl⟩, Or.inl rfl⟩, k14⟩
  have F15 : FunD K "deeds_of" "deeds_of" (defArgs s_deeds_of) (defBody s_deeds_of) (defScope s_deeds_of) [] [] f15 _ := ⟨⟨_, _, _, _, _, _, _, _, _, _, rfl, l15, c15, Or.inl ⟨rfl, rfl⟩, Or.inl rfl⟩, k15⟩
  have F16 : FunD K "tasks_of" "tasks_of" (defArgs s_tasks_of) (defBody s_tasks_of) (defScope s_tasks_of) [] [] f16 _ := ⟨⟨_, _, _, _, _, _, _, _, _, _, rfl, l16, c16, Or.inl ⟨rfl, rfl⟩, Or.inl rfl⟩, k16⟩
  have F17 : FunD K "_law_caught" "_law_caught" (defArgs s__law_caught) (defBody s__law_caught) (defScope s__law_caught) [] [] f17 _ := ⟨⟨_, _, _, _, _, _, _, _, _, _, rfl, l17, c17, Or.inl ⟨rfl, rfl⟩, Or.inl rfl⟩, k17⟩
  have F18 : FunD K "_law_holds" "_law_holds" (defArgs s__law_holds) (defBody s__law_holds) (defScope s__law_holds) [] [] f18 _ := ⟨⟨_, _, _, _, _, _, _, _, _, _, rfl, l18, c18, Or.inl ⟨rfl, rfl⟩, Or.inl rfl⟩, k18⟩
  have F19 : FunD K "_law_due_of_task" "_law_due_of_task" (defArgs s__law_due_of_task) (defBody s__law_due_of_task) (defScope s__law_due_of_task) [] [] f19 _ := ⟨⟨_, _, _, _, _, _, _, _, _, _, rfl, l19, c19, Or.inl ⟨rfl, rfl⟩, Or.inl rfl⟩, k19⟩
  have F20 : FunD K "_law_due" "_law_due" (defArgs s__law_due) (defBody s__law_due) (defScope s__law_due) [] [] f20 _ := ⟨⟨_, _, _, _, _, _, _, _, _, _, rfl, l20, c20, Or.inl ⟨rfl, rfl⟩, Or.inl rfl⟩, k20⟩
  have F21 := fun_mk (st := s_law) l21 c21 k21
  have e := hfa.symm.trans (PySem.W.mg_of X G a21)
  cases e
  have fa__law_box : ∀ base : Heap, FnA P w K mg base 1 f0 ["_law_cell_here"] (sp__law_box (⟨PySem.W.exmAny K, C_NoTask, C_NoList, C_WakeError, C_StateError, f16, f15⟩ : Ad)) [⟨1, [], plainG⟩] := fun base => ok__law_box hA F0 (T base)
  have fa__law_cell : ∀ base : Heap, FnA P w K mg base 1 f1 ["_law_script", "_law_k"] (sp__law_cell (⟨PySem.W.exmAny K, C_NoTask, C_NoList, C_WakeError, C_StateError, f16, f15⟩ : Ad)) [⟨2, [], plainG⟩] := fun base => ok__law_cell hA F1 (T base)
  have fa__law_take : ∀ base : Heap, FnA P w K mg base 1 f2 ["_law_box_here", "_law_many"] (sp__law_take (⟨PySem.W.exmAny K, C_NoTask, C_NoList, C_WakeError, C_StateError, f16, f15⟩ : Ad)) [⟨2, [], plainG⟩] := fun base => ok__law_take hA F2 (T base)
  have fa__law_names : ∀ base : Heap, FnA P w K mg base 2 f3 ["_law_box_here", "_law_many"] (sp__law_names (⟨PySem.W.exmAny K, C_NoTask, C_NoList, C_WakeError, C_StateError, f16, f15⟩ : Ad)) [⟨2, [], plainG⟩] := fun base => ok__law_names hA F3 (T base) ⟨_, PySem.W.mg_of X G a2, k2, fa__law_take base⟩
  have fa__law_deed : ∀ base : Heap, FnA P w K mg base 2 f4 ["_law_box_here", "_law_names_here"] (sp__law_deed (⟨PySem.W.exmAny K, C_NoTask, C_NoList, C_WakeError, C_StateError, f16, f15⟩ : Ad)) [⟨2, [], plainG⟩] := fun base => ok__law_deed hA F4 (T base) ⟨_, PySem.W.mg_of X G a2, k2, fa__law_take base⟩
  have fa__law_is_name : ∀ base : Heap, FnA P w K mg base 1 f5 ["_law_thing"] (sp__law_is_name (⟨PySem.W.exmAny K, C_NoTask, C_NoList, C_WakeError, C_StateError, f16, f15⟩ : Ad)) [⟨1, [], plainG⟩] := fun base => ok__law_is_name hA F5 (T base)
  have fa__law_is_deed : ∀ base : Heap, FnA P w K mg base 2 f6 ["_law_thing"] (sp__law_is_deed (⟨PySem.W.exmAny K, C_NoTask, C_NoList, C_WakeError, C_StateError, f16, f15⟩ : Ad)) [⟨1, [], plainG⟩] := fun base => ok__law_is_deed hA F6 (T base) ⟨_, PySem.W.mg_of X G a5, k5, fa__law_is_name base⟩
  have fa__law_odd : ∀ base : Heap, FnA P w K mg base 3 f7 ["_law_box_here"] (sp__law_odd (⟨PySem.W.exmAny K, C_NoTask, C_NoList, C_WakeError, C_StateError, f16, f15⟩ : Ad)) [⟨1, [], plainG⟩] := fun base => ok__law_odd hA F7 (T base) ⟨_, PySem.W.mg_of X G a2, k2, fa__law_take base⟩
  have fa__law_bent : ∀ base : Heap, FnA P w K mg base 4 f8 ["_law_box_here", "_law_deed_here"] (sp__law_bent (⟨PySem.W.exmAny K, C_NoTask, C_NoList, C_WakeError, C_StateError, f16, f15⟩ : Ad)) [⟨2, [], plainG⟩] := fun base => ok__law_bent hA F8 (T base) ⟨_, PySem.W.mg_of X G a2, k2, fa__law_take base⟩ ⟨_, PySem.W.mg_of X G a7, k7, fa__law_odd base⟩
  have fa__law_other_kind : ∀ base : Heap, FnA P w K mg base 2 f9 ["_law_box_here", "_law_things", "_law_some"] (sp__law_other_kind (⟨PySem.W.exmAny K, C_NoTask, C_NoList, C_WakeError, C_StateError, f16, f15⟩ : Ad)) [⟨3, [], plainG⟩] := fun base => ok__law_other_kind hA F9 (T base) ⟨_, PySem.W.mg_of X G a2, k2, fa__law_take base⟩
  have fa__law_spoilt : ∀ base : Heap, FnA P w K mg base 5 f10 ["_law_box_here", "_law_tasks"] (sp__law_spoilt (⟨PySem.W.exmAny K, C_NoTask, C_NoList, C_WakeError, C_StateError, f16, f15⟩ : Ad)) [⟨2, [], plainG⟩] := fun base => ok__law_spoilt hA F10 (T base) ⟨_, PySem.W.mg_of X G a2, k2, fa__law_take base⟩ ⟨_, PySem.W.mg_of X G a6, k6, fa__law_is_deed base⟩ ⟨_, PySem.W.mg_of X G a8, k8, fa__law_bent base⟩ ⟨_, PySem.W.mg_of X G a9, k9, fa__law_other_kind base⟩
  have fa_is_name : ∀ base : Heap, FnA P w K mg base 1 f11 ["thing"] (sp_is_name (⟨PySem.W.exmAny K, C_NoTask, C_NoList, C_WakeError, C_StateError, f16, f15⟩ : Ad)) [⟨1, [], plainG⟩] := fun base => ok_is_name hA F11 (T base)
  have fa_is_whole : ∀ base : Heap, FnA P w K mg base 1 f12 ["thing", "low", "high"] (sp_is_whole (⟨PySem.W.exmAny K, C_NoTask, C_NoList, C_WakeError, C_StateError, f16, f15⟩ : Ad)) [⟨3, [], plainG⟩] := fun base => ok_is_whole hA F12 (T base)
  have fa_are_parts : ∀ base : Heap, FnA P w K mg base 2 f13 ["kind", "parts"] (sp_are_parts (⟨PySem.W.exmAny K, C_NoTask, C_NoList, C_WakeError, C_StateError, f16, f15⟩ : Ad)) [⟨2, [], plainG⟩] := fun base => ok_are_parts hA F13 (T base) ⟨_, PySem.W.mg_of X G a11, k11, fa_is_name base⟩ ⟨_, PySem.W.mg_of X G a12, k12, fa_is_whole base⟩
  have fa_is_deed : ∀ base : Heap, FnA P w K mg base 3 f14 ["thing"] (sp_is_deed (⟨PySem.W.exmAny K, C_NoTask, C_NoList, C_WakeError, C_StateError, f16, f15⟩ : Ad)) [⟨1, [], plainG⟩] := fun base => ok_is_deed hA F14 (T base) ⟨_, PySem.W.mg_of X G a13, k13, fa_are_parts base⟩
  have fa_deeds_of : ∀ base : Heap, FnA P w K mg base 4 f15 ["task"] (sp_deeds_of (⟨PySem.W.exmAny K, C_NoTask, C_NoList, C_WakeError, C_StateError, f16, f15⟩ : Ad)) [⟨1, [], plainG⟩] := fun base => ok_deeds_of hA F15 (T base) ⟨_, PySem.W.mg_of X G a14, k14, fa_is_deed base⟩
  have fa_tasks_of : ∀ base : Heap, FnA P w K mg base 5 f16 ["tasks"] (sp_tasks_of (⟨PySem.W.exmAny K, C_NoTask, C_NoList, C_WakeError, C_StateError, f16, f15⟩ : Ad)) [⟨1, [], plainG⟩] := fun base => ok_tasks_of hA F16 (T base) ⟨_, PySem.W.mg_of X G a15, k15, fa_deeds_of base⟩
  have fa__law_caught : ∀ base : Heap, FnA P w K mg base 6 f17 ["_law_ask", "_law_thing"] (sp__law_caught (⟨PySem.W.exmAny K, C_NoTask, C_NoList, C_WakeError, C_StateError, f16, f15⟩ : Ad)) [⟨2, [], plainG⟩] := fun base => ok__law_caught hA F17 (T base) ⟨PySem.W.mg_of X G a15, k15, fa_deeds_of base⟩ ⟨PySem.W.mg_of X G a16, k16, fa_tasks_of base⟩
  have fa__law_holds : ∀ base : Heap, FnA P w K mg base 7 f18 ["_law_ask", "_law_thing", "_law_due_here"] (sp__law_holds (⟨PySem.W.exmAny K, C_NoTask, C_NoList, C_WakeError, C_StateError, f16, f15⟩ : Ad)) [⟨3, [], plainG⟩] := fun base => ok__law_holds hA F18 (T base) ⟨_, PySem.W.mg_of X G a17, k17, fa__law_caught base⟩
  have fa__law_due_of_task : ∀ base : Heap, FnA P w K mg base 3 f19 ["_law_task"] (sp__law_due_of_task (⟨PySem.W.exmAny K, C_NoTask, C_NoList, C_WakeError, C_StateError, f16, f15⟩ : Ad)) [⟨1, [], plainG⟩] := fun base => ok__law_due_of_task hA F19 (T base) ⟨_, PySem.W.mg_of X G a6, k6, fa__law_is_deed base⟩
  have fa__law_due : ∀ base : Heap, FnA P w K mg base 4 f20 ["_law_tasks"] (sp__law_due (⟨PySem.W.exmAny K, C_NoTask, C_NoList, C_WakeError, C_StateError, f16, f15⟩ : Ad)) [⟨1, [], plainG⟩] := fun base => ok__law_due hA F20 (T base) ⟨_, PySem.W.mg_of X G a19, k19, fa__law_due_of_task base⟩
  exact fun base => ok_law hA F21 hfa (T base) ⟨_, PySem.W.mg_of X G a0, k0, fa__law_box base⟩ ⟨_, PySem.W.mg_of X G a1, k1, fa__law_cell base⟩ ⟨_, PySem.W.mg_of X G a3, k3, fa__law_names base⟩ ⟨_, PySem.W.mg_of X G a2, k2, fa__law_take base⟩ ⟨_, PySem.W.mg_of X G a4, k4, fa__law_deed base⟩ ⟨_, PySem.W.mg_of X G a10, k10, fa__law_spoilt base⟩ ⟨_, PySem.W.mg_of X G a18, k18, fa__law_holds base⟩ ⟨_, PySem.W.mg_of X G a20, k20, fa__law_due base⟩ ⟨PySem.W.mg_of X G a16, k16, fa_tasks_of base⟩ ⟨_, PySem.W.mg_of X G a19, k19, fa__law_due_of_task base⟩ ⟨PySem.W.mg_of X G a15, k15, fa_deeds_of base⟩ ⟨_, PySem.W.mg_of X G a7, k7, fa__law_odd base⟩ ⟨_, PySem.W.mg_of X G a8, k8, fa__law_bent base⟩ ⟨_, PySem.W.mg_of X G a6, k6, fa__law_is_deed base⟩ ⟨_, PySem.W.mg_of X G a14, k14, fa_is_deed base⟩
end K51
set_option Elab.async false
set_option maxRecDepth 100000
namespace K51
open PySem L2 DL
theorem walk {l : PySem.W.OpenLaw} {q : Program} {loose : List Str} {XP : (Str → Option Value) → Heap → Prop} {YP : World → Heap → Prop} {d : DefRec} {K : Params → PySem.W.Frag} (hn : l.most = some 63) (hdf : d.params.defaults = []) (hY : ∀ (w : World) (h : Heap), YP w h → (K w.params).In h)
    (F : ∀ (w : World) (mg : Str → Option Value) (fa : Addr) (h : Heap), (K w.params).In h → h.Ns mainGlobals mg → mg d.name = some (.ref fa) → mg "law" = some (.ref fa) ∧ ∀ base : Heap, Fn l.prog w (K w.params) mg base 8 "law" ["_law_script"] spLaw) : PySem.W.WalkO q loose XP YP l.row.toRowW d [] (fun f vs => PySem.call f vs) :=
  walk_fn hn hdf ⟨rfl, by decide, by decide⟩ hY F fun hl hS => law_pr hl hS
end K51
open PySem PySem.W PyProof.Rows in
set_option maxRecDepth 100000 in
set_option maxHeartbeats 0 in
theorem PySem.Challenge.cw_drowsetree_k51_tasks_told_holds : PySem.Challenge.rw_drowsetree_k51_tasks_told.Holds := by
  w_on; o_law; k_head; (case hw => w_witness2)
  k_fill
  refine K51.walk (l := PySem.Challenge.rw_drowsetree_k51_tasks_told) rfl rfl (fun w h Y => PySem.W.kIn_of Y) ?F
  case F =>
    intro w mg fa h KX G hmg
    refine ⟨hmg, ?_⟩
    refine' K51.all_mk KX G hmg ?aC_NoTask ?xL_NoTask ?sa_NoTask ?ga_NoTask ?gg_NoTask ?nb_NoTask ?iC_NoTask ?tI_NoTask ?lI_NoTask ?cI_NoTask ?kI_NoTask ?kC_NoTask ?eC_NoTask ?tC_NoTask ?cS_NoTask ?cA_NoTask ?cP_NoTask ?cT_NoTask ?cM_NoTask ?kbool_NoTask ?kint_NoTask ?kstr_NoTask ?klist_NoTask ?ktuple_NoTask ?kdict_NoTask ?aC_NoList ?xL_NoList ?sa_NoList ?ga_NoList ?gg_NoList ?nb_NoList ?iC_NoList ?tI_NoList ?lI_NoList ?cI_NoList ?kI_NoList ?kC_NoList ?eC_NoList ?tC_NoList ?cS_NoList ?cA_NoList ?cP_NoList ?cT_NoList ?cM_NoList ?kbool_NoList ?kint_NoList ?kstr_NoList ?klist_NoList ?ktuple_NoList ?kdict_NoList ?aC_WakeError ?aC_StateError ?eb_WakeError ?ei_WakeError ?et_WakeError ?eb_StateError ?ei_StateError ?et_StateError ?eb_NoTask ?ei_NoTask ?et_NoTask ?eb_NoList ?ei_NoList ?et_NoList ?xs_NoList_WakeError ?xs_NoList_StateError ?xs_NoList_NoTask ?xs_NoList_NoList ?xs_NoTask_WakeError ?xs_NoTask_StateError ?xs_NoTask_NoTask ?xs_NoTask_NoList ?z_b_max ?z_b_len ?z_b_sum ?z_b_range ?z_b_isinstance ?z_b_str ?z_b_tuple ?z_b_int ?z_b_bool ?rp_NoTask ?ze_nm_NoTask ?z_b_list ?z_g_MOST_LETTERS ?z_b_all ?z_g_LETTERS ?z_g_MOST_TICK ?zm_g_DEEDS ?zl_g_DEEDS ?zw_g_DEEDS ?ze_g_DEEDS ?z_g_MOST_DEEDS ?z_g_MOST_TASKS ?hx_NoTask ?z_xn_NoTask_found ?hx_NoList ?z_xn_NoList_found ?z_b_repr ?z_b_min ?a0 ?l0 ?c0 ?k0 ?a1 ?l1 ?c1 ?k1 ?a2 ?l2 ?c2 ?k2 ?a3 ?l3 ?c3 ?k3 ?a4 ?l4 ?c4 ?k4 ?a5 ?l5 ?c5 ?k5 ?a6 ?l6 ?c6 ?k6 ?a7 ?l7 ?c7 ?k7 ?a8 ?l8 ?c8 ?k8 ?a9 ?l9 ?c9 ?k9 ?a10 ?l10 ?c10 ?k10 ?a11 ?l11 ?c11 ?k11 ?a12 ?l12 ?c12 ?k12 ?a13 ?l13 ?c13 ?k13 ?a14 ?l14 ?c14 ?k14 ?a15 ?l15 ?c15 ?k15 ?a16 ?l16 ?c16 ?k16 ?a17 ?l17 ?c17 ?k17 ?a18 ?l18 ?c18 ?k18 ?a19 ?l19 ?c19 ?k19 ?a20 ?l20 ?c20 ?k20 ?a21 ?l21 ?c21 ?k21
    (case aC_NoTask => k_is)
    (case aC_NoList => k_is)
    (case aC_WakeError => k_is)
    (case aC_StateError => k_is)
    (case a0 => k_is)
    (case a1 => k_is)
    (case a2 => k_is)
    (case a3 => k_is)
    (case a4 => k_is)
    (case a5 => k_is)
    (case a6 => k_is)
    (case a7 => k_is)
    (case a8 => k_is)
    (case a9 => k_is)
    (case a10 => k_is)
    (case a11 => k_is)
    (case a12 => k_is)
    (case a13 => k_is)
    (case a14 => k_is)
    (case a15 => k_is)
    (case a16 => k_is)
    (case a17 => k_is)
    (case a18 => k_is)
    (case a19 => k_is)
    (case a20 => k_is)
    (case a21 => k_is)
    (case iC_NoTask => k_is)
    (case iC_NoList => k_is)
    (case xL_NoTask => k_is)
    (case sa_NoTask => k_is)
    (case ga_NoTask => k_is)
    (case gg_NoTask => k_is)
    (case nb_NoTask => k_is)
    (case tI_NoTask => k_is)
    (case lI_NoTask => k_is)
    (case cI_NoTask => k_is)
    (case kI_NoTask => k_is)
    (case kC_NoTask => k_is)
    (case eC_NoTask => k_is)
    (case tC_NoTask => k_is)
    (case cS_NoTask => k_is)
    (case cA_NoTask => k_is)
    (case cP_NoTask => k_is)
    (case cT_NoTask => k_is)
    (case cM_NoTask => k_is)
    (case kbool_NoTask => k_is)
    (case kint_NoTask => k_is)
    (case kstr_NoTask => k_is)
    (case klist_NoTask => k_is)
    (case ktuple_NoTask => k_is)
    (case kdict_NoTask => k_is)
    (case xL_NoList => k_is)
    (case sa_NoList => k_is)
    (case ga_NoList => k_is)
    (case gg_NoList => k_is)
    (case nb_NoList => k_is)
    (case tI_NoList => k_is)
    (case lI_NoList => k_is)
    (case cI_NoList => k_is)
    (case kI_NoList => k_is)
    (case kC_NoList => k_is)
    (case eC_NoList => k_is)
    (case tC_NoList => k_is)
    (case cS_NoList => k_is)
    (case cA_NoList => k_is)
    (case cP_NoList => k_is)
    (case cT_NoList => k_is)
    (case cM_NoList => k_is)
    (case kbool_NoList => k_is)
    (case kint_NoList => k_is)
    (case kstr_NoList => k_is)
    (case klist_NoList => k_is)
    (case ktuple_NoList => k_is)
    (case kdict_NoList => k_is)
    (case eb_WakeError => k_is)
    (case ei_WakeError => k_is)
    (case et_WakeError => k_is)
    (case eb_StateError => k_is)
    (case ei_StateError => k_is)
    (case et_StateError => k_is)
    (case eb_NoTask => k_is)
    (case ei_NoTask => k_is)
    (case et_NoTask => k_is)
    (case eb_NoList => k_is)
    (case ei_NoList => k_is)
    (case et_NoList => k_is)
    (case xs_NoList_WakeError => k_is)
    (case xs_NoList_StateError => k_is)
    (case xs_NoList_NoTask => k_is)
    (case xs_NoList_NoList => k_is)
    (case xs_NoTask_WakeError => k_is)
    (case xs_NoTask_StateError => k_is)
    (case xs_NoTask_NoTask => k_is)
    (case xs_NoTask_NoList => k_is)
    (case z_b_max => k_is)
    (case z_b_len => k_is)
    (case z_b_sum => k_is)
    (case z_b_range => k_is)
    (case z_b_isinstance => k_is)
    (case z_b_str => k_is)
    (case z_b_tuple => k_is)
    (case z_b_int => k_is)
    (case z_b_bool => k_is)
    (case rp_NoTask => k_is)
    (case z_b_list => k_is)
    (case z_g_MOST_LETTERS => k_is)
    (case z_b_all => k_is)
    (case z_g_LETTERS => k_is)
    (case z_g_MOST_TICK => k_is)
    (case zm_g_DEEDS => k_is)
    (case z_g_MOST_DEEDS => k_is)
    (case z_g_MOST_TASKS => k_is)
    (case hx_NoTask => k_is)
    (case z_xn_NoTask_found => k_is)
    (case hx_NoList => k_is)
    (case z_xn_NoList_found => k_is)
    (case z_b_repr => k_is)
    (case z_b_min => k_is)
    (case l0 => k_is)
    (case c0 => k_is)
    (case k0 => k_is)
    (case l1 => k_is)
    (case c1 => k_is)
    (case k1 => k_is)
    (case l2 => k_is)
    (case c2 => k_is)
    (case k2 => k_is)
    (case l3 => k_is)
    (case c3 => k_is)
    (case k3 => k_is)
    (case l4 => k_is)
    (case c4 => k_is)
    (case k4 => k_is)
    (case l5 => k_is)
    (case c5 => k_is)
    (case k5 => k_is)
    (case l6 => k_is)
    (case c6 => k_is)
    (case k6 => k_is)
    (case l7 => k_is)
    (case c7 => k_is)
    (case k7 => k_is)
    (case l8 => k_is)
    (case c8 => k_is)
    (case k8 => k_is)
    (case l9 => k_is)
    (case c9 => k_is)
    (case k9 => k_is)
    (case l10 => k_is)
    (case c10 => k_is)
    (case k10 => k_is)
    (case l11 => k_is)
    (case c11 => k_is)
    (case k11 => k_is)
    (case l12 => k_is)
    (case c12 => k_is)
    (case k12 => k_is)
    (case l13 => k_is)
    (case c13 => k_is)
    (case k13 => k_is)
    (case l14 => k_is)
    (case c14 => k_is)
    (case k14 => k_is)
    (case l15 => k_is)
    (case c15 => k_is)
    (case k15 => k_is)
    (case l16 => k_is)
    (case c16 => k_is)
    (case k16 => k_is)
    (case l17 => k_is)
    (case c17 => k_is)
    (case k17 => k_is)
    (case l18 => k_is)
    (case c18 => k_is)
    (case k18 => k_is)
    (case l19 => k_is)
    (case c19 => k_is)
    (case k19 => k_is)
    (case l20 => k_is)
    (case c20 => k_is)
    (case k20 => k_is)
    (case l21 => k_is)
    (case c21 => k_is)
    (case k21 => k_is)
    (case zl_g_DEEDS => k_is)
    (case ze_nm_NoTask => first | rfl | kernel_rfl | decide +kernel)
    (case zw_g_DEEDS => first | rfl | kernel_rfl | decide +kernel)
    (case ze_g_DEEDS => first | rfl | kernel_rfl | decide +kernel)
