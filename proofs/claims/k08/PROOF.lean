import PyProof.Rows.All
import Wide.All
import OpenK.AllK
import Wide.FinOn
import HandS.ForMost
import HandS.ForExc
import HandS.CallSlots
import HandS.Walk
import HandS.Wide
import HandS.IsInst
import HandS.Style
import HandS.ExcInit
import KE.KExcIs
import HandS.Defaults
import HandS.Replace
import HandS.StrMore
import PyProof.ReprLen
import HandS.TryMany
import KE.KTryMore
import HandS.ExcField
import PyProof.ReprRoads
import HandS.TupAny
import HandS.TupMul
import KE.KUnpackStar
import PyProof.StrBlock2
import HandS.RaiseMore
import PyProof.EqAt
import PyProof.NeKinds
import HandS.Small
import HandS.Deep
import HandS.TupLen
import HandS.More
import HandS.DictTup
import KE.DataFind
import HandS.DictComp
import KE.KDictList
import HandS.Sort
import PyProof.Conv_int_bool
import HandS.OwnEq
import KE.KCallOwn
import HandS.TryOnly
import PyProof.FactsAll.dict
import PyProof.P3Eq
import KE.IntTextLaws
import KE.KDictLaws
import HandS.FStr
import PyProof.FactsAll.subtypes_4
import KE.KIntText
import HandS.Flow
import HandS.Finally
import PyProof.ExcBaseAll.LookupError
import HandS.ListItems
import HandS.HeadHook4
import HandS.HeadEnd
import HandS.Head0
import HandS.Head1
import HandS.Head2
import KE.KDictKeyed
import HandS.SetBool
import HandS.SetKeys
import KE.GoesMore
import KE.GoesEnum
import PySem.Challenge.RW_drowsetree_k08_orders_of_needs
set_option Elab.async false
set_option linter.all false
set_option maxRecDepth 100000
set_option maxHeartbeats 0

namespace DL
open PySem PySem.Spec PyProof.Rows L2
def ledV : Value → List Addr
  | .ref a => [a]
  | _ => []
def ledO (o : Obj) : List Addr := match o.data with
  | .func fd => ledV fd.code ++ (ledV fd.defaults ++ ledV fd.kwdefaults)
  | .cls cd => [cd.ns]
  | .dict es _ => es.toList.flatMap fun e => ledV e.val
  | .seq its _ => its.toList.flatMap ledV
  | _ => []
def ledA (g : Addr → Option Obj) (as : List Addr) : List Addr := as.flatMap fun a => match g a with
  | some o => ledO o
  | none => []
def isCl (g : Addr → Option Obj) (a : Addr) : Bool := match g a with
  | some ⟨_, _, .cls _, _⟩ => true
  | _ => false
def ledK (g : Addr → Option Obj) : List Addr :=
  let as := ledA g [mainGlobals]
  let cs := as.filter (isCl g)
  let fs := as.filter fun a => !isCl g a
  let ns := ledA g cs
  let ms := ledA g ns
  mainGlobals :: (cs ++ (ns ++ (fs ++ (ms ++ (ledA g fs ++ (ledA g ms ++ ledA g (ledA g fs ++ ledA g ms)))))))
def frcL {α : Type} : List (Addr × Obj) → (PySem.W.Frag → α) → α
  | [], k => k []
  | (a, o) :: r, k => HandSHeadRun.frNat a fun a => frcL r fun r => k ((a, o) :: r)
theorem frcL_eq {α : Type} : ∀ (l : List (Addr × Obj)) (k : PySem.W.Frag → α), frcL l k = k l
  | [], k => rfl
  | (a, o) :: r, k => by
    show HandSHeadRun.frNat a (fun a => frcL r fun r => k ((a, o) :: r)) = _
    rw [HandSHeadRun.frNat_eq, frcL_eq r]
abbrev AlL : Type := He.AlT × Bool
def frcA {α : Type} : List Addr → (List Addr → α) → α
  | [], k => k []
  | a :: r, k => HandSHeadRun.frNat a fun a => frcA r fun r => k (a :: r)
theorem frcA_eq {α : Type} : ∀ (l : List Addr) (k : List Addr → α), frcA l k = k l
  | [], k => rfl
  | a :: r, k => by
    show HandSHeadRun.frNat a (fun a => frcA r fun r => k (a :: r)) = _
    rw [HandSHeadRun.frNat_eq, frcA_eq r]
def atK {α : Type} (g : Addr → Option Obj) (k : PySem.W.Frag → α) : α := frcA (ledK g) fun as => frcL (He.frG g as) k
theorem atK_eq {α : Type} (g : Addr → Option Obj) (k : PySem.W.Frag → α) : atK g k = k (He.frG g (ledK g)) := by
  unfold atK
  rw [frcA_eq, frcL_eq]
def obsL (fa : List He.Fa) (fn : List He.DefD) (ts : List He.Tab) (ex : List (PySem.W.Frag → Bool)) (g : Addr → Option Obj) : AlL := atK g fun K => (He.obsT fa fn ts K, ex.all fun f => f K)
def hookL (fa : List He.Fa) (fn : List He.DefD) (ts : List He.Tab) (ex : List (PySem.W.Frag → Bool)) : PySem.W.Hook where
  α := AlL
  obs := fun s => obsL fa fn ts ex s.heap.get?
  val := fun w => (He.valT fn ts w, true)
  says := fun w h => ∃ K : PySem.W.Frag, K.In h ∧ He.SaysT fa fn ts w K ∧ ∀ f ∈ ex, f K = true
  of := fun w s e => by
    have e : atK s.heap.get? (fun K => (He.obsT fa fn ts K, ex.all fun f => f K)) = (He.valT fn ts w, true) := e
    rw [atK_eq] at e
    have e1 : He.obsT fa fn ts _ = He.valT fn ts w := congrArg (fun z : AlL => z.1) e
    have e2 : (ex.all fun f => f _) = true := congrArg (fun z : AlL => z.2) e
    exact ⟨_, He.frG_in, e1, fun f hf => List.all_eq_true.mp e2 f hf⟩
  keeps := fun w h h' y k => by
    obtain ⟨K, hK, c⟩ := y
    exact ⟨K, PySem.W.Frag.In.keeps hK k, c⟩
theorem obsL_eq {fa : List He.Fa} {fn : List He.DefD} {ts : List He.Tab} {ex : List (PySem.W.Frag → Bool)} {g : Addr → Option Obj} {s : Shared} (h : ∀ a, g a = s.heap.get? a) : obsL fa fn ts ex g = (hookL fa fn ts ex).obs s := by
  have eg : g = s.heap.get? := funext h
  rw [eg]
  rfl
open HandSHeadRun in
def PartEq (r : PySem.W.OpenRow) (ex : List (PySem.W.Frag → Bool)) (M : Nat) (w : World) : Prop :=
  ∀ os : OsState, (endF (stepQ (denQ tabQ) r.prog w) M r.prog w os).map (fun s => atK (getT s) fun K => ex.all fun f => f K) = some true
open HandSHeadRun in
theorem part_join {r : PySem.W.OpenRow} {q : Program} {fa : List He.Fa} {fn : List He.DefD} {ts : List He.Tab} {e1 e2 : List (PySem.W.Frag → Bool)} {M : Nat} {loose : List PySem.Str} {w : World}
    (h1 : RunEq r q (hookL fa fn ts e1) (fun s => obsL fa fn ts e1 (getT s)) M loose w) (h2 : PartEq r e2 M w) : RunEq r q (hookL fa fn ts (e1 ++ e2)) (fun s => obsL fa fn ts (e1 ++ e2) (getT s)) M loose w := fun os => by
  obtain ⟨s, es, v⟩ := Option.map_eq_some_iff.mp (h1 os)
  obtain ⟨s', es', v'⟩ := Option.map_eq_some_iff.mp (h2 os)
  rw [es] at es'
  cases es'
  rw [es]
  rw [atK_eq] at v'
  refine congrArg some ?_
  obtain ⟨a1, a23⟩ := Prod.mk.inj v
  obtain ⟨a2, a3⟩ := Prod.mk.inj a23
  have a3 : atK (getT s) (fun K => (He.obsT fa fn ts K, e1.all fun f => f K)) = (He.valT fn ts w, true) := a3
  rw [atK_eq] at a3
  obtain ⟨b1, b2⟩ := Prod.mk.inj a3
  refine Prod.ext a1 (Prod.ext a2 ?_)
  show atK (getT s) (fun K => (He.obsT fa fn ts K, (e1 ++ e2).all fun f => f K)) = (He.valT fn ts w, true)
  rw [atK_eq, List.all_append, b2, b1, v']
  rfl
def oexB (K : PySem.W.Frag) (C W : Addr) (tl : List Value) (nid : String) : Bool := match K.lookup C with
  | some ⟨.type "type", _, .cls cd, sl⟩ => (match cd.mro, sl.toList with
    | .ref C' :: .ref W' :: bm, [_, _, _, _, some (.builtin n), _] => C' == C && W' == W && n == nid && bm == tl && !cd.hasDel && cd.hasDict
    | _, _ => false)
  | _ => false
def oexB0 (K : PySem.W.Frag) (C : Addr) : Bool := match K.lookup C with
  | some ⟨.type "type", _, .cls cd, sl⟩ => (match cd.mro, sl.toList with
    | .ref C' :: bm, [_, _, _, _, some (.builtin n), _] => C' == C && n == "LookupError.__new__" && bm == [.type "KeyError", .type "LookupError", .type "Exception", .type "BaseException", .type "object"] && !cd.hasDel && cd.hasDict
    | _, _ => false)
  | _ => false
def etB (K : PySem.W.Frag) (a : Addr) : Bool := match K.lookup a with
  | some ⟨.type n, _, .seq its _, _⟩ => decide (n = "tuple") && its.toList.isEmpty
  | _ => false
def kvT (e : DictEntry) : Option (Str × Str) := match e.key, e.val with
  | .str x _, .str y _ => some (x, y)
  | _, _ => none
def kvA (e : DictEntry) : Option (Str × Addr) := match e.key, e.val with
  | .str x _, .ref y => some (x, y)
  | _, _ => none
def esIn (K : PySem.W.Frag) (a : Addr) : List DictEntry := match K.lookup a with
  | some ⟨_, _, .dict es _, _⟩ => es.toList
  | _ => []
def mdB (K : PySem.W.Frag) (a : Addr) (kvs : List (Str × Str)) : Bool := decide ((esIn K a).map kvT = kvs.map some)
def mfB (K : PySem.W.Frag) (a : Addr) (kvs : List (Str × Addr)) : Bool := decide ((esIn K a).map kvA = kvs.map some)
open HandSHeadRun in
def PartT (r : PySem.W.OpenRow) (fa : List He.Fa) (fn : List He.DefD) (ts : List He.Tab) (M : Nat) (w : World) : Prop :=
  ∀ os : OsState, (endF (stepQ (denQ tabQ) r.prog w) M r.prog w os).map (fun s => atK (getT s) fun K => He.obsT fa fn ts K) = some (He.valT fn ts w)
end DL
namespace K08
open PySem PySem.Spec PyProof.Rows L2 DL
def topS (i : Nat) : Stmt := PySem.Challenge.pw_drowsetree_k08_orders_of_needs.main.body.getD i (.Pass ⟨0, 0, 0, 0⟩)
abbrev s_NoNumber_init : Stmt := inClass (topS 5) 0
abbrev s_NoName_init : Stmt := inClass (topS 4) 0
abbrev s_Ring_init : Stmt := inClass (topS 9) 0
abbrev s__law_bag : Stmt := topS 44
abbrev s__law_cell : Stmt := topS 43
abbrev s__law_take : Stmt := topS 45
abbrev s__law_names : Stmt := topS 46
abbrev s__law_rows : Stmt := topS 47
abbrev s__law_links : Stmt := topS 48
abbrev s_is_name : Stmt := topS 15
abbrev s_is_whole : Stmt := topS 14
abbrev s_need_number : Stmt := topS 25
abbrev s_m_Device_init : Stmt := inClass (topS 26) 0
abbrev s__law_made : Stmt := topS 49
abbrev s__law_needs : Stmt := topS 50
abbrev s__law_order : Stmt := topS 52
abbrev s_m_Device_name : Stmt := inClass (topS 26) 1
abbrev s_m_Device_parent : Stmt := inClass (topS 26) 2
abbrev s_need_devices : Stmt := topS 30
abbrev s_need_link : Stmt := topS 31
abbrev s_need_parts : Stmt := topS 32
abbrev s_needs_by : Stmt := topS 33
abbrev s_needs_of : Stmt := topS 37
abbrev s_first_ring : Stmt := topS 34
abbrev s_order_by : Stmt := topS 35
abbrev s_order_of : Stmt := topS 38
abbrev s_m_Machine_init : Stmt := inClass (topS 41) 0
abbrev s_m_Machine_order : Stmt := inClass (topS 41) 4
abbrev s__law_asked : Stmt := topS 56
abbrev s__law_far : Stmt := topS 51
abbrev s__law_ring_right : Stmt := topS 57
abbrev s__law_other_order : Stmt := topS 54
abbrev s__law_forged : Stmt := topS 55
abbrev s_are_names : Stmt := topS 36
abbrev s_shows_order : Stmt := topS 39
abbrev s__law_is_order : Stmt := topS 53
abbrev s__law_right : Stmt := topS 58
abbrev s_law : Stmt := topS 59
def dd0 : He.DefD := ⟨("_law_bag", none), "_law_bag", "_law_bag", defArgs s__law_bag, defBody s__law_bag, defScope s__law_bag, [], []⟩
def dd1 : He.DefD := ⟨("_law_cell", none), "_law_cell", "_law_cell", defArgs s__law_cell, defBody s__law_cell, defScope s__law_cell, [], []⟩
def dd2 : He.DefD := ⟨("_law_take", none), "_law_take", "_law_take", defArgs s__law_take, defBody s__law_take, defScope s__law_take, [], []⟩
def dd3 : He.DefD := ⟨("_law_names", none), "_law_names", "_law_names", defArgs s__law_names, defBody s__law_names, defScope s__law_names, [], []⟩
def dd4 : He.DefD := ⟨("_law_rows", none), "_law_rows", "_law_rows", defArgs s__law_rows, defBody s__law_rows, defScope s__law_rows, [], []⟩
def dd5 : He.DefD := ⟨("_law_links", none), "_law_links", "_law_links", defArgs s__law_links, defBody s__law_links, defScope s__law_links, [], []⟩
def dd6 : He.DefD := ⟨("is_name", none), "is_name", "is_name", defArgs s_is_name, defBody s_is_name, defScope s_is_name, [], []⟩
def dd7 : He.DefD := ⟨("is_whole", none), "is_whole", "is_whole", defArgs s_is_whole, defBody s_is_whole, defScope s_is_whole, [], []⟩
def dd8 : He.DefD := ⟨("need_number", none), "need_number", "need_number", defArgs s_need_number, defBody s_need_number, defScope s_need_number, [], []⟩
def dd9 : He.DefD := ⟨("Device", some "__init__"), "__init__", "Device.__init__", defArgs s_m_Device_init, defBody s_m_Device_init, defScope s_m_Device_init, [], [("parent", .non), ("burn", .int 5), ("sip", .int 1), ("wake", .int 1), ("fall", .int 1), ("rest", .int 0)]⟩
def dd10 : He.DefD := ⟨("_law_made", none), "_law_made", "_law_made", defArgs s__law_made, defBody s__law_made, defScope s__law_made, [], []⟩
def dd11 : He.DefD := ⟨("_law_needs", none), "_law_needs", "_law_needs", defArgs s__law_needs, defBody s__law_needs, defScope s__law_needs, [], []⟩
def dd12 : He.DefD := ⟨("_law_order", none), "_law_order", "_law_order", defArgs s__law_order, defBody s__law_order, defScope s__law_order, [], []⟩
def dd13 : He.DefD := ⟨("Device", some "name"), "name", "Device.name", defArgs s_m_Device_name, defBody s_m_Device_name, defScope s_m_Device_name, [], []⟩
def dd14 : He.DefD := ⟨("Device", some "parent"), "parent", "Device.parent", defArgs s_m_Device_parent, defBody s_m_Device_parent, defScope s_m_Device_parent, [], []⟩
def dd15 : He.DefD := ⟨("need_devices", none), "need_devices", "need_devices", defArgs s_need_devices, defBody s_need_devices, defScope s_need_devices, [], []⟩
def dd16 : He.DefD := ⟨("need_link", none), "need_link", "need_link", defArgs s_need_link, defBody s_need_link, defScope s_need_link, [], []⟩
def dd17 : He.DefD := ⟨("need_parts", none), "need_parts", "need_parts", defArgs s_need_parts, defBody s_need_parts, defScope s_need_parts, [], []⟩
def dd18 : He.DefD := ⟨("needs_by", none), "needs_by", "needs_by", defArgs s_needs_by, defBody s_needs_by, defScope s_needs_by, [], []⟩
def dd19 : He.DefD := ⟨("needs_of", none), "needs_of", "needs_of", defArgs s_needs_of, defBody s_needs_of, defScope s_needs_of, [.adr (He.dflAt ("needs_of", none) 0)], []⟩
def dd20 : He.DefD := ⟨("first_ring", none), "first_ring", "first_ring", defArgs s_first_ring, defBody s_first_ring, defScope s_first_ring, [], []⟩
def dd21 : He.DefD := ⟨("order_by", none), "order_by", "order_by", defArgs s_order_by, defBody s_order_by, defScope s_order_by, [], []⟩
def dd22 : He.DefD := ⟨("order_of", none), "order_of", "order_of", defArgs s_order_of, defBody s_order_of, defScope s_order_of, [.adr (He.dflAt ("order_of", none) 0)], []⟩
def dd23 : He.DefD := ⟨("Machine", some "__init__"), "__init__", "Machine.__init__", defArgs s_m_Machine_init, defBody s_m_Machine_init, defScope s_m_Machine_init, [.adr (He.dflAt ("Machine", some "__init__") 0)], []⟩
def dd24 : He.DefD := ⟨("Machine", some "order"), "order", "Machine.order", defArgs s_m_Machine_order, defBody s_m_Machine_order, defScope s_m_Machine_order, [], []⟩
def dd25 : He.DefD := ⟨("_law_asked", none), "_law_asked", "_law_asked", defArgs s__law_asked, defBody s__law_asked, defScope s__law_asked, [], []⟩
def dd26 : He.DefD := ⟨("_law_far", none), "_law_far", "_law_far", defArgs s__law_far, defBody s__law_far, defScope s__law_far, [], []⟩
def dd27 : He.DefD := ⟨("_law_ring_right", none), "_law_ring_right", "_law_ring_right", defArgs s__law_ring_right, defBody s__law_ring_right, defScope s__law_ring_right, [], []⟩
def dd28 : He.DefD := ⟨("_law_other_order", none), "_law_other_order", "_law_other_order", defArgs s__law_other_order, defBody s__law_other_order, defScope s__law_other_order, [], []⟩
def dd29 : He.DefD := ⟨("_law_forged", none), "_law_forged", "_law_forged", defArgs s__law_forged, defBody s__law_forged, defScope s__law_forged, [], []⟩
def dd30 : He.DefD := ⟨("are_names", none), "are_names", "are_names", defArgs s_are_names, defBody s_are_names, defScope s_are_names, [], []⟩
def dd31 : He.DefD := ⟨("shows_order", none), "shows_order", "shows_order", defArgs s_shows_order, defBody s_shows_order, defScope s_shows_order, [], []⟩
def dd32 : He.DefD := ⟨("_law_is_order", none), "_law_is_order", "_law_is_order", defArgs s__law_is_order, defBody s__law_is_order, defScope s__law_is_order, [], []⟩
def dd33 : He.DefD := ⟨("_law_right", none), "_law_right", "_law_right", defArgs s__law_right, defBody s__law_right, defScope s__law_right, [], []⟩
def dd34 : He.DefD := ⟨("law", none), "law", "law", defArgs s_law, defBody s_law, defScope s_law, [], []⟩
def dx_NoNumber : He.DefD := ⟨("NoNumber", some "__init__"), "__init__", "NoNumber.__init__", defArgs s_NoNumber_init, defBody s_NoNumber_init, defScope s_NoNumber_init, [], []⟩
def dx_NoName : He.DefD := ⟨("NoName", some "__init__"), "__init__", "NoName.__init__", defArgs s_NoName_init, defBody s_NoName_init, defScope s_NoName_init, [], []⟩
def dx_Ring : He.DefD := ⟨("Ring", some "__init__"), "__init__", "Ring.__init__", defArgs s_Ring_init, defBody s_Ring_init, defScope s_Ring_init, [], []⟩
def fnP1_0 : List He.DefD := [dd0, dd1, dd2, dd3, dd4, dd5, dd6, dd7, dd8, dd9, dd10, dd11, dd12, dd13, dd14, dd15, dd16, dd17, dd18, dd19]
def fnP1_1 : List He.DefD := [dd20, dd21, dd22, dd23, dd24, dd25, dd26, dd27, dd28, dd29, dd30, dd31, dd32, dd33, dd34, dx_NoNumber, dx_NoName, dx_Ring]
def fnP1_ : List He.DefD := fnP1_0 ++ (fnP1_1)
def fnL : List He.DefD := ([] ++ fnP1_)
def faB0 : List He.Fa := [.int "MOST_LETTERS" 8, .str "LETTERS" "abcdefghijklmnopqrstuvwxyz", .int "MOST_BURN" 100, .int "MOST_STEPS" 5, .int "MOST_REST" 9, .int "MOST_DEVICES" 8, .int "MOST_LINKS" 16]
def faB : List He.Fa := faB0
def faL : List He.Fa := ([] ++ faB)
def tsB : List He.Tab := []
def tsL : List He.Tab := ([] ++ tsB)
def ex0 : List (PySem.W.Frag → Bool) := [fun K => decide (PySem.W.nsIn K mainGlobals "NoNumber" = some (some (.ref (He.ga K "NoNumber")))), fun K => decide (PySem.W.findIn K (.ref (He.ga K "NoNumber")) "__setattr__" = some (some (.builtin "object.__setattr__"))), fun K => decide (PySem.W.findIn K (.ref (He.ga K "NoNumber")) "__getattribute__" = some (some (.builtin "BaseException.__getattribute__"))), fun K => decide (PySem.W.findIn K (.ref (He.ga K "NoNumber")) "__getattr__" = some none), fun K => decide (PySem.W.findIn K (.ref (He.ga K "NoNumber")) "found" = some none), fun K => decide (PySem.W.findIn K (.ref (He.ga K "NoNumber")) "__init__" = some (some (.ref (He.fAd K ("NoNumber", some "__init__"))))), fun K => decide (PySem.W.typeIn K (.ref (He.fAd K ("NoNumber", some "__init__"))) = some (.type "function")), fun K => PySem.W.keepIn K (.ref (He.ga K "NoNumber")), fun K => decide (PySem.W.subIn K (.ref (He.ga K "NoNumber")) (.type "BaseException") = some true), fun K => decide (PySem.W.typeIn K (.ref (He.ga K "NoNumber")) = some (.type "type")), fun K => PySem.W.isClsIn K (He.ga K "NoNumber"), fun K => decide (PySem.W.findIn K (.ref (He.ga K "NoNumber")) "__class__" = some (some (.builtin "object.__class__"))), fun K => decide (PySem.W.specialIn K (.builtin "object.__class__") "__get__" = some (some (.builtin "getset_descriptor.__get__"))), fun K => decide (PySem.W.takesIn K (.builtin "object.__class__") = some true), fun K => decide (PySem.W.mroIn K (He.ga K "NoNumber") (.type "object") = some true), fun K => decide (PySem.W.subIn K (.ref (He.ga K "NoNumber")) (.type "bool") = some false), fun K => decide (PySem.W.subIn K (.ref (He.ga K "NoNumber")) (.type "int") = some false), fun K => decide (PySem.W.subIn K (.ref (He.ga K "NoNumber")) (.type "str") = some false), fun K => decide (PySem.W.subIn K (.ref (He.ga K "NoNumber")) (.type "list") = some false), fun K => decide (PySem.W.subIn K (.ref (He.ga K "NoNumber")) (.type "tuple") = some false)]
def ex1 : List (PySem.W.Frag → Bool) := [fun K => decide (PySem.W.subIn K (.ref (He.ga K "NoNumber")) (.type "dict") = some false), fun K => oexB K (He.ga K "NoNumber") (He.ga K "WakeError") [.type "ValueError", .type "Exception", .type "BaseException", .type "object"] "ValueError.__new__", fun K => decide (PySem.W.nsIn K mainGlobals "NoName" = some (some (.ref (He.ga K "NoName")))), fun K => decide (PySem.W.findIn K (.ref (He.ga K "NoName")) "__setattr__" = some (some (.builtin "object.__setattr__"))), fun K => decide (PySem.W.findIn K (.ref (He.ga K "NoName")) "__getattribute__" = some (some (.builtin "BaseException.__getattribute__"))), fun K => decide (PySem.W.findIn K (.ref (He.ga K "NoName")) "__getattr__" = some none), fun K => decide (PySem.W.findIn K (.ref (He.ga K "NoName")) "found" = some none), fun K => decide (PySem.W.findIn K (.ref (He.ga K "NoName")) "__init__" = some (some (.ref (He.fAd K ("NoName", some "__init__"))))), fun K => decide (PySem.W.typeIn K (.ref (He.fAd K ("NoName", some "__init__"))) = some (.type "function")), fun K => PySem.W.keepIn K (.ref (He.ga K "NoName")), fun K => decide (PySem.W.subIn K (.ref (He.ga K "NoName")) (.type "BaseException") = some true), fun K => decide (PySem.W.typeIn K (.ref (He.ga K "NoName")) = some (.type "type")), fun K => PySem.W.isClsIn K (He.ga K "NoName"), fun K => decide (PySem.W.findIn K (.ref (He.ga K "NoName")) "__class__" = some (some (.builtin "object.__class__"))), fun K => decide (PySem.W.specialIn K (.builtin "object.__class__") "__get__" = some (some (.builtin "getset_descriptor.__get__"))), fun K => decide (PySem.W.takesIn K (.builtin "object.__class__") = some true), fun K => decide (PySem.W.mroIn K (He.ga K "NoName") (.type "object") = some true), fun K => decide (PySem.W.subIn K (.ref (He.ga K "NoName")) (.type "bool") = some false), fun K => decide (PySem.W.subIn K (.ref (He.ga K "NoName")) (.type "int") = some false), fun K => decide (PySem.W.subIn K (.ref (He.ga K "NoName")) (.type "str") = some false)]
def ex2 : List (PySem.W.Frag → Bool) := [fun K => decide (PySem.W.subIn K (.ref (He.ga K "NoName")) (.type "list") = some false), fun K => decide (PySem.W.subIn K (.ref (He.ga K "NoName")) (.type "tuple") = some false), fun K => decide (PySem.W.subIn K (.ref (He.ga K "NoName")) (.type "dict") = some false), fun K => oexB K (He.ga K "NoName") (He.ga K "WakeError") [.type "ValueError", .type "Exception", .type "BaseException", .type "object"] "ValueError.__new__", fun K => decide (PySem.W.nsIn K mainGlobals "Ring" = some (some (.ref (He.ga K "Ring")))), fun K => decide (PySem.W.findIn K (.ref (He.ga K "Ring")) "__setattr__" = some (some (.builtin "object.__setattr__"))), fun K => decide (PySem.W.findIn K (.ref (He.ga K "Ring")) "__getattribute__" = some (some (.builtin "BaseException.__getattribute__"))), fun K => decide (PySem.W.findIn K (.ref (He.ga K "Ring")) "__getattr__" = some none), fun K => decide (PySem.W.findIn K (.ref (He.ga K "Ring")) "found" = some none), fun K => decide (PySem.W.findIn K (.ref (He.ga K "Ring")) "__init__" = some (some (.ref (He.fAd K ("Ring", some "__init__"))))), fun K => decide (PySem.W.typeIn K (.ref (He.fAd K ("Ring", some "__init__"))) = some (.type "function")), fun K => PySem.W.keepIn K (.ref (He.ga K "Ring")), fun K => decide (PySem.W.subIn K (.ref (He.ga K "Ring")) (.type "BaseException") = some true), fun K => decide (PySem.W.typeIn K (.ref (He.ga K "Ring")) = some (.type "type")), fun K => PySem.W.isClsIn K (He.ga K "Ring"), fun K => decide (PySem.W.findIn K (.ref (He.ga K "Ring")) "__class__" = some (some (.builtin "object.__class__"))), fun K => decide (PySem.W.specialIn K (.builtin "object.__class__") "__get__" = some (some (.builtin "getset_descriptor.__get__"))), fun K => decide (PySem.W.takesIn K (.builtin "object.__class__") = some true), fun K => decide (PySem.W.mroIn K (He.ga K "Ring") (.type "object") = some true), fun K => decide (PySem.W.subIn K (.ref (He.ga K "Ring")) (.type "bool") = some false)]
def ex3 : List (PySem.W.Frag → Bool) := [fun K => decide (PySem.W.subIn K (.ref (He.ga K "Ring")) (.type "int") = some false), fun K => decide (PySem.W.subIn K (.ref (He.ga K "Ring")) (.type "str") = some false), fun K => decide (PySem.W.subIn K (.ref (He.ga K "Ring")) (.type "list") = some false), fun K => decide (PySem.W.subIn K (.ref (He.ga K "Ring")) (.type "tuple") = some false), fun K => decide (PySem.W.subIn K (.ref (He.ga K "Ring")) (.type "dict") = some false), fun K => oexB K (He.ga K "Ring") (He.ga K "WakeError") [.type "ValueError", .type "Exception", .type "BaseException", .type "object"] "ValueError.__new__", fun K => decide (PySem.W.nsIn K mainGlobals "WakeError" = some (some (.ref (He.ga K "WakeError")))), fun K => decide (PySem.W.nsIn K mainGlobals "StateError" = some (some (.ref (He.ga K "StateError")))), fun K => decide (PySem.W.subIn K (.ref (He.ga K "WakeError")) (.type "BaseException") = some true), fun K => PySem.W.isClsIn K (He.ga K "WakeError"), fun K => decide (PySem.W.typeIn K (.ref (He.ga K "WakeError")) = some (.type "type")), fun K => decide (PySem.W.subIn K (.ref (He.ga K "StateError")) (.type "BaseException") = some true), fun K => PySem.W.isClsIn K (He.ga K "StateError"), fun K => decide (PySem.W.typeIn K (.ref (He.ga K "StateError")) = some (.type "type")), fun K => decide (PySem.W.subIn K (.ref (He.ga K "Ring")) (.type "BaseException") = some true), fun K => PySem.W.isClsIn K (He.ga K "Ring"), fun K => decide (PySem.W.typeIn K (.ref (He.ga K "Ring")) = some (.type "type")), fun K => decide (PySem.W.subIn K (.ref (He.ga K "NoName")) (.ref (He.ga K "WakeError")) = some true), fun K => decide (PySem.W.subIn K (.ref (He.ga K "NoName")) (.ref (He.ga K "StateError")) = some false), fun K => decide (PySem.W.exmOne K (.ref (He.ga K "NoName")) (.type "KeyError") = some false)]
def ex4 : List (PySem.W.Frag → Bool) := [fun K => decide (PySem.W.subIn K (.ref (He.ga K "NoName")) (.ref (He.ga K "Ring")) = some false), fun K => decide (PySem.W.subIn K (.ref (He.ga K "NoNumber")) (.ref (He.ga K "WakeError")) = some true), fun K => decide (PySem.W.subIn K (.ref (He.ga K "NoNumber")) (.ref (He.ga K "StateError")) = some false), fun K => decide (PySem.W.exmOne K (.ref (He.ga K "NoNumber")) (.type "KeyError") = some false), fun K => decide (PySem.W.subIn K (.ref (He.ga K "NoNumber")) (.ref (He.ga K "Ring")) = some false), fun K => decide (PySem.W.subIn K (.ref (He.ga K "Ring")) (.ref (He.ga K "WakeError")) = some true), fun K => decide (PySem.W.subIn K (.ref (He.ga K "Ring")) (.ref (He.ga K "StateError")) = some false), fun K => decide (PySem.W.exmOne K (.ref (He.ga K "Ring")) (.type "KeyError") = some false), fun K => decide (PySem.W.subIn K (.ref (He.ga K "Ring")) (.ref (He.ga K "Ring")) = some true), fun K => decide (PySem.W.nsIn K mainGlobals "Device" = some (some (.ref (He.ga K "Device")))), fun K => PySem.W.plainGet K (He.ga K "Device") Str.empty, fun K => PySem.W.hasDictIn K (He.ga K "Device"), fun K => PySem.W.plainOver K (He.ga K "Device"), fun K => decide (PySem.W.findIn K (.ref (He.ga K "Device")) "__setattr__" = some (some (.builtin "object.__setattr__"))), fun K => decide (PySem.W.nsIn K mainGlobals "Machine" = some (some (.ref (He.ga K "Machine")))), fun K => PySem.W.plainGet K (He.ga K "Machine") Str.empty, fun K => PySem.W.hasDictIn K (He.ga K "Machine"), fun K => PySem.W.plainOver K (He.ga K "Machine"), fun K => decide (PySem.W.findIn K (.ref (He.ga K "Machine")) "__setattr__" = some (some (.builtin "object.__setattr__"))), fun K => decide (PySem.W.nsIn K mainGlobals "max" = some none)]
def ex5 : List (PySem.W.Frag → Bool) := [fun K => decide (PySem.W.nsIn K mainGlobals "len" = some none), fun K => decide (PySem.W.nsIn K mainGlobals "sum" = some none), fun K => decide (PySem.W.nsIn K mainGlobals "range" = some none), fun K => decide (PySem.W.nsIn K mainGlobals "list" = some none), fun K => decide (PySem.W.nsIn K mainGlobals "isinstance" = some none), fun K => decide (PySem.W.nsIn K mainGlobals "str" = some none), fun K => decide (PySem.W.nsIn K mainGlobals "all" = some none), fun K => decide (PySem.W.nsIn K mainGlobals "int" = some none), fun K => decide (PySem.W.nsIn K mainGlobals "bool" = some none), fun K => decide (PySem.W.findIn K (.ref (He.ga K "Device")) "whole" = some none), fun K => decide (PySem.W.nsIn K mainGlobals "tuple" = some none), fun K => decide (PySem.W.findIn K (.ref (He.ga K "Device")) "__class__" = some (some (.builtin "object.__class__"))), fun K => decide (PySem.W.specialIn K (.builtin "object.__class__") "__get__" = some (some (.builtin "getset_descriptor.__get__"))), fun K => decide (PySem.W.takesIn K (.builtin "object.__class__") = some true), fun K => decide (PySem.W.mroIn K (He.ga K "Device") (.type "object") = some true), fun K => PySem.W.isClsIn K (He.ga K "Device"), fun K => decide (PySem.W.typeIn K (.ref (He.ga K "Device")) = some (.type "type")), fun K => decide (PySem.W.subIn K (.type "NoneType") (.ref (He.ga K "Device")) = some false), fun K => decide (PySem.W.subIn K (.type "bool") (.ref (He.ga K "Device")) = some false), fun K => decide (PySem.W.subIn K (.type "int") (.ref (He.ga K "Device")) = some false)]
def ex6 : List (PySem.W.Frag → Bool) := [fun K => decide (PySem.W.subIn K (.type "str") (.ref (He.ga K "Device")) = some false), fun K => decide (PySem.W.subIn K (.type "list") (.ref (He.ga K "Device")) = some false), fun K => decide (PySem.W.subIn K (.type "tuple") (.ref (He.ga K "Device")) = some false), fun K => decide (PySem.W.subIn K (.type "dict") (.ref (He.ga K "Device")) = some false), fun K => decide (PySem.W.nsIn K mainGlobals "enumerate" = some none), fun K => decide (PySem.W.findIn K (.ref (He.ga K "Machine")) "in_order" = some none), fun K => decide (PySem.W.findIn K (.ref (He.ga K "Machine")) "parts" = some none), fun K => decide (PySem.W.findIn K (.ref (He.ga K "Machine")) "pairs" = some none), fun K => decide (PySem.W.findIn K (.ref (He.ga K "Machine")) "wants" = some none), fun K => decide (PySem.W.nsIn K mainGlobals "KeyError" = some none), fun K => PySem.W.hasDictIn K (He.ga K "Ring"), fun K => decide (PySem.W.findIn K (.ref (He.ga K "Ring")) "found" = some none), fun K => decide (PySem.W.nsIn K mainGlobals "repr" = some none), fun K => decide (PySem.W.nsIn K mainGlobals "min" = some none), fun K => decide (PySem.W.nsIn K mainGlobals "_law_bag" = some (some (.ref (He.fAd K ("_law_bag", none))))), fun K => PySem.W.keepIn K (.ref (He.fAd K ("_law_bag", none))), fun K => decide (PySem.W.nsIn K mainGlobals "_law_cell" = some (some (.ref (He.fAd K ("_law_cell", none))))), fun K => PySem.W.keepIn K (.ref (He.fAd K ("_law_cell", none))), fun K => decide (PySem.W.nsIn K mainGlobals "_law_take" = some (some (.ref (He.fAd K ("_law_take", none))))), fun K => PySem.W.keepIn K (.ref (He.fAd K ("_law_take", none)))]
def ex7 : List (PySem.W.Frag → Bool) := [fun K => decide (PySem.W.nsIn K mainGlobals "_law_names" = some (some (.ref (He.fAd K ("_law_names", none))))), fun K => PySem.W.keepIn K (.ref (He.fAd K ("_law_names", none))), fun K => decide (PySem.W.nsIn K mainGlobals "_law_rows" = some (some (.ref (He.fAd K ("_law_rows", none))))), fun K => PySem.W.keepIn K (.ref (He.fAd K ("_law_rows", none))), fun K => decide (PySem.W.nsIn K mainGlobals "_law_links" = some (some (.ref (He.fAd K ("_law_links", none))))), fun K => PySem.W.keepIn K (.ref (He.fAd K ("_law_links", none))), fun K => decide (PySem.W.nsIn K mainGlobals "is_name" = some (some (.ref (He.fAd K ("is_name", none))))), fun K => PySem.W.keepIn K (.ref (He.fAd K ("is_name", none))), fun K => decide (PySem.W.nsIn K mainGlobals "is_whole" = some (some (.ref (He.fAd K ("is_whole", none))))), fun K => PySem.W.keepIn K (.ref (He.fAd K ("is_whole", none))), fun K => decide (PySem.W.nsIn K mainGlobals "need_number" = some (some (.ref (He.fAd K ("need_number", none))))), fun K => PySem.W.keepIn K (.ref (He.fAd K ("need_number", none))), fun K => decide (PySem.W.findIn K (.ref (He.ga K "Device")) "__init__" = some (some (.ref (He.fAd K ("Device", some "__init__"))))), fun K => PySem.W.isFn K (.ref (He.fAd K ("Device", some "__init__"))), fun K => PySem.W.keepIn K (.ref (He.fAd K ("Device", some "__init__"))), fun K => decide (PySem.W.nsIn K mainGlobals "_law_made" = some (some (.ref (He.fAd K ("_law_made", none))))), fun K => PySem.W.keepIn K (.ref (He.fAd K ("_law_made", none))), fun K => decide (PySem.W.nsIn K mainGlobals "_law_needs" = some (some (.ref (He.fAd K ("_law_needs", none))))), fun K => PySem.W.keepIn K (.ref (He.fAd K ("_law_needs", none))), fun K => decide (PySem.W.nsIn K mainGlobals "_law_order" = some (some (.ref (He.fAd K ("_law_order", none)))))]
def ex8 : List (PySem.W.Frag → Bool) := [fun K => PySem.W.keepIn K (.ref (He.fAd K ("_law_order", none))), fun K => decide (PySem.W.findIn K (.ref (He.ga K "Device")) "name" = some (some (.ref (He.fAd K ("Device", some "name"))))), fun K => PySem.W.isFn K (.ref (He.fAd K ("Device", some "name"))), fun K => PySem.W.keepIn K (.ref (He.fAd K ("Device", some "name"))), fun K => decide (PySem.W.findIn K (.ref (He.ga K "Device")) "parent" = some (some (.ref (He.fAd K ("Device", some "parent"))))), fun K => PySem.W.isFn K (.ref (He.fAd K ("Device", some "parent"))), fun K => PySem.W.keepIn K (.ref (He.fAd K ("Device", some "parent"))), fun K => decide (PySem.W.nsIn K mainGlobals "need_devices" = some (some (.ref (He.fAd K ("need_devices", none))))), fun K => PySem.W.keepIn K (.ref (He.fAd K ("need_devices", none))), fun K => decide (PySem.W.nsIn K mainGlobals "need_link" = some (some (.ref (He.fAd K ("need_link", none))))), fun K => PySem.W.keepIn K (.ref (He.fAd K ("need_link", none))), fun K => decide (PySem.W.nsIn K mainGlobals "need_parts" = some (some (.ref (He.fAd K ("need_parts", none))))), fun K => PySem.W.keepIn K (.ref (He.fAd K ("need_parts", none))), fun K => decide (PySem.W.nsIn K mainGlobals "needs_by" = some (some (.ref (He.fAd K ("needs_by", none))))), fun K => PySem.W.keepIn K (.ref (He.fAd K ("needs_by", none))), fun K => decide (PySem.W.nsIn K mainGlobals "needs_of" = some (some (.ref (He.fAd K ("needs_of", none))))), fun K => etB K (He.dflAt ("needs_of", none) 0 K), fun K => PySem.W.keepIn K (.ref (He.fAd K ("needs_of", none))), fun K => decide (PySem.W.nsIn K mainGlobals "first_ring" = some (some (.ref (He.fAd K ("first_ring", none))))), fun K => PySem.W.keepIn K (.ref (He.fAd K ("first_ring", none)))]
def ex9 : List (PySem.W.Frag → Bool) := [fun K => decide (PySem.W.nsIn K mainGlobals "order_by" = some (some (.ref (He.fAd K ("order_by", none))))), fun K => PySem.W.keepIn K (.ref (He.fAd K ("order_by", none))), fun K => decide (PySem.W.nsIn K mainGlobals "order_of" = some (some (.ref (He.fAd K ("order_of", none))))), fun K => etB K (He.dflAt ("order_of", none) 0 K), fun K => PySem.W.keepIn K (.ref (He.fAd K ("order_of", none))), fun K => decide (PySem.W.findIn K (.ref (He.ga K "Machine")) "__init__" = some (some (.ref (He.fAd K ("Machine", some "__init__"))))), fun K => PySem.W.isFn K (.ref (He.fAd K ("Machine", some "__init__"))), fun K => etB K (He.dflAt ("Machine", some "__init__") 0 K), fun K => PySem.W.keepIn K (.ref (He.fAd K ("Machine", some "__init__"))), fun K => decide (PySem.W.findIn K (.ref (He.ga K "Machine")) "order" = some (some (.ref (He.fAd K ("Machine", some "order"))))), fun K => PySem.W.isFn K (.ref (He.fAd K ("Machine", some "order"))), fun K => PySem.W.keepIn K (.ref (He.fAd K ("Machine", some "order"))), fun K => decide (PySem.W.nsIn K mainGlobals "_law_asked" = some (some (.ref (He.fAd K ("_law_asked", none))))), fun K => PySem.W.keepIn K (.ref (He.fAd K ("_law_asked", none))), fun K => decide (PySem.W.nsIn K mainGlobals "_law_far" = some (some (.ref (He.fAd K ("_law_far", none))))), fun K => PySem.W.keepIn K (.ref (He.fAd K ("_law_far", none))), fun K => decide (PySem.W.nsIn K mainGlobals "_law_ring_right" = some (some (.ref (He.fAd K ("_law_ring_right", none))))), fun K => PySem.W.keepIn K (.ref (He.fAd K ("_law_ring_right", none))), fun K => decide (PySem.W.nsIn K mainGlobals "_law_other_order" = some (some (.ref (He.fAd K ("_law_other_order", none))))), fun K => PySem.W.keepIn K (.ref (He.fAd K ("_law_other_order", none)))]
def ex10 : List (PySem.W.Frag → Bool) := [fun K => decide (PySem.W.nsIn K mainGlobals "_law_forged" = some (some (.ref (He.fAd K ("_law_forged", none))))), fun K => PySem.W.keepIn K (.ref (He.fAd K ("_law_forged", none))), fun K => decide (PySem.W.nsIn K mainGlobals "are_names" = some (some (.ref (He.fAd K ("are_names", none))))), fun K => PySem.W.keepIn K (.ref (He.fAd K ("are_names", none))), fun K => decide (PySem.W.nsIn K mainGlobals "shows_order" = some (some (.ref (He.fAd K ("shows_order", none))))), fun K => PySem.W.keepIn K (.ref (He.fAd K ("shows_order", none))), fun K => decide (PySem.W.nsIn K mainGlobals "_law_is_order" = some (some (.ref (He.fAd K ("_law_is_order", none))))), fun K => PySem.W.keepIn K (.ref (He.fAd K ("_law_is_order", none))), fun K => decide (PySem.W.nsIn K mainGlobals "_law_right" = some (some (.ref (He.fAd K ("_law_right", none))))), fun K => PySem.W.keepIn K (.ref (He.fAd K ("_law_right", none))), fun K => decide (PySem.W.nsIn K mainGlobals "law" = some (some (.ref (He.fAd K ("law", none))))), fun K => PySem.W.makesIn K (He.ga K "Device"), fun K => PySem.W.keepIn K (.ref (He.ga K "Device")), fun K => PySem.W.makesIn K (He.ga K "Machine"), fun K => PySem.W.keepIn K (.ref (He.ga K "Machine"))]
def exP1 : List (PySem.W.Frag → Bool) := [fun K => ex0.all fun f => f K, fun K => ex1.all fun f => f K, fun K => ex2.all fun f => f K, fun K => ex3.all fun f => f K, fun K => ex4.all fun f => f K, fun K => ex5.all fun f => f K, fun K => ex6.all fun f => f K, fun K => ex7.all fun f => f K, fun K => ex8.all fun f => f K, fun K => ex9.all fun f => f K, fun K => ex10.all fun f => f K]
def exL : List (PySem.W.Frag → Bool) := ([] ++ exP1)
open PySem.W in
abbrev R : OpenRow := OpenLaw.row PySem.Challenge.rw_drowsetree_k08_orders_of_needs
def nmL0 : List PySem.Str := [PySem.Str.ofString "_wall", PySem.Str.ofString "WakeError", PySem.Str.ofString "StateError", PySem.Str.ofString "NoName", PySem.Str.ofString "NoNumber", PySem.Str.ofString "NoList", PySem.Str.ofString "NoLink", PySem.Str.ofString "Doubled", PySem.Str.ofString "Ring", PySem.Str.ofString "NoDevice", PySem.Str.ofString "LETTERS", PySem.Str.ofString "MOST_LETTERS", PySem.Str.ofString "is_whole", PySem.Str.ofString "is_name", PySem.Str.ofString "BURN"]
def nmL1 : List PySem.Str := [PySem.Str.ofString "SIP", PySem.Str.ofString "WAKE", PySem.Str.ofString "FALL", PySem.Str.ofString "REST", PySem.Str.ofString "MOST_BURN", PySem.Str.ofString "MOST_STEPS", PySem.Str.ofString "MOST_REST", PySem.Str.ofString "need_number", PySem.Str.ofString "Device", PySem.Str.ofString "MOST_DEVICES", PySem.Str.ofString "MOST_LINKS", PySem.Str.ofString "need_devices", PySem.Str.ofString "need_link", PySem.Str.ofString "need_parts", PySem.Str.ofString "needs_by"]
def nmL2 : List PySem.Str := [PySem.Str.ofString "first_ring", PySem.Str.ofString "order_by", PySem.Str.ofString "are_names", PySem.Str.ofString "needs_of", PySem.Str.ofString "order_of", PySem.Str.ofString "shows_order", PySem.Str.ofString "Machine", PySem.Str.ofString "_law_cell", PySem.Str.ofString "_law_bag", PySem.Str.ofString "_law_take", PySem.Str.ofString "_law_names", PySem.Str.ofString "_law_rows", PySem.Str.ofString "_law_links", PySem.Str.ofString "_law_made", PySem.Str.ofString "_law_needs"]
def nmL3 : List PySem.Str := [PySem.Str.ofString "_law_far", PySem.Str.ofString "_law_order", PySem.Str.ofString "_law_is_order", PySem.Str.ofString "_law_other_order", PySem.Str.ofString "_law_forged", PySem.Str.ofString "_law_asked", PySem.Str.ofString "_law_ring_right", PySem.Str.ofString "_law_right"]
def nmL : List PySem.Str := nmL0 ++ (nmL1 ++ (nmL2 ++ (nmL3)))
theorem run0_false (w : World) : HandSHeadRun.RunEq R (PySem.W.view R.prog [59]) (hookL [] [] [] exL) (fun s => obsL [] [] [] exL (HandSHeadRun.getT s)) 30000 nmL (w.withFollow "special-get-raises" false) := by
  intro os
  kernel_rfl
theorem runf1_false (w : World) : PartT R faB fnP1_ tsB 30000 (w.withFollow "special-get-raises" false) := by
  intro os
  kernel_rfl
theorem run0_true (w : World) : HandSHeadRun.RunEq R (PySem.W.view R.prog [59]) (hookL [] [] [] exL) (fun s => obsL [] [] [] exL (HandSHeadRun.getT s)) 30000 nmL (w.withFollow "special-get-raises" true) := by
  intro os
  kernel_rfl
theorem runf1_true (w : World) : PartT R faB fnP1_ tsB 30000 (w.withFollow "special-get-raises" true) := by
  intro os
  kernel_rfl
end K08
namespace DL
open PySem L2
inductive D where
  | non | bl (b : Bool) | int (i : Int) | str (x : Str) | ref (a : Addr) | ty (n : String)
  | lst (xs : List D) | sq (xs : List D) | tup (xs : List D) | dct (kvs : List (Key × D)) | ins (C : Addr) (fs : List (Str × D))
mutual
inductive Rep (K : PySem.W.Frag) (I : Hp) : V → D → Prop
  | non : Rep K I .non .non
  | bl (b : Bool) : Rep K I (.bl b) (.bl b)
  | int (i : Int) : Rep K I (.int i) (.int i)
  | str (x : Str) : Rep K I (.str x) (.str x)
  | ref (a : Addr) : Rep K I (.ref a) (.ref a)
  | ty (n : String) : Rep K I (.ty n) (.ty n)
  | lst {a : Addr} {vs : List V} {ds : List D} : I a = some (.lst vs) → Reps K I vs ds → Rep K I (.ref a) (.lst ds)
  | sq {a : Addr} {vs : List V} {ds : List D} : SqL K I a vs → Reps K I vs ds → Rep K I (.ref a) (.sq ds)
  | tup {a : Addr} {vs : List V} {ds : List D} : SqT K I a vs → Reps K I vs ds → Rep K I (.ref a) (.tup ds)
  | dct {a : Addr} {kvs : List (Key × V)} {kds : List (Key × D)} : I a = some (.dK kvs) → RepK K I kvs kds → Rep K I (.ref a) (.dct kds)
  | ins {a C dx : Addr} {fs : List (Str × V)} {fds : List (Str × D)} : I a = some (.ins C dx fs) → RepF K I fs fds → Rep K I (.ref a) (.ins C fds)
inductive Reps (K : PySem.W.Frag) (I : Hp) : List V → List D → Prop
  | nil : Reps K I [] []
  | cons {v : V} {d : D} {vs : List V} {ds : List D} : Rep K I v d → Reps K I vs ds → Reps K I (v :: vs) (d :: ds)
inductive RepK (K : PySem.W.Frag) (I : Hp) : List (Key × V) → List (Key × D) → Prop
  | nil : RepK K I [] []
  | cons {k : Key} {v : V} {d : D} {vs : List (Key × V)} {ds : List (Key × D)} : Rep K I v d → RepK K I vs ds → RepK K I ((k, v) :: vs) ((k, d) :: ds)
inductive RepF (K : PySem.W.Frag) (I : Hp) : List (Str × V) → List (Str × D) → Prop
  | nil : RepF K I [] []
  | cons {k : Str} {v : V} {d : D} {vs : List (Str × V)} {ds : List (Str × D)} : Rep K I v d → RepF K I vs ds → RepF K I ((k, v) :: vs) ((k, d) :: ds)
end
theorem sq_mono {K : PySem.W.Frag} {I I' : Hp} (e : Same I I') {a : Addr} {xs : List V} (h : SqL K I a xs) : SqL K I' a xs := e.seq h
theorem st_mono {K : PySem.W.Frag} {I I' : Hp} (e : Same I I') {a : Addr} {xs : List V} (h : SqT K I a xs) : SqT K I' a xs := by
  rcases h with (h | ⟨o, h⟩) | h
  · exact .inl (.inl (e _ _ h))
  · exact .inl (.inr ⟨o, e _ _ h⟩)
  · exact .inr h
mutual
theorem Rep.mono {K : PySem.W.Frag} {I I' : Hp} (e : Same I I') : ∀ {v : V} {d : D}, Rep K I v d → Rep K I' v d
  | _, _, .non => .non
  | _, _, .bl b => .bl b
  | _, _, .int i => .int i
  | _, _, .str x => .str x
  | _, _, .ref a => .ref a
  | _, _, .ty n => .ty n
  | _, _, .lst h r => .lst (e _ _ h) (Reps.mono e r)
  | _, _, .sq h r => .sq (sq_mono e h) (Reps.mono e r)
  | _, _, .tup h r => .tup (st_mono e h) (Reps.mono e r)
  | _, _, .dct h r => .dct (e _ _ h) (RepK.mono e r)
  | _, _, .ins h r => .ins (e _ _ h) (RepF.mono e r)
theorem Reps.mono {K : PySem.W.Frag} {I I' : Hp} (e : Same I I') : ∀ {vs : List V} {ds : List D}, Reps K I vs ds → Reps K I' vs ds
  | _, _, .nil => .nil
  | _, _, .cons h r => .cons (Rep.mono e h) (Reps.mono e r)
theorem RepK.mono {K : PySem.W.Frag} {I I' : Hp} (e : Same I I') : ∀ {vs : List (Key × V)} {ds : List (Key × D)}, RepK K I vs ds → RepK K I' vs ds
  | _, _, .nil => .nil
  | _, _, .cons h r => .cons (Rep.mono e h) (RepK.mono e r)
theorem RepF.mono {K : PySem.W.Frag} {I I' : Hp} (e : Same I I') : ∀ {vs : List (Str × V)} {ds : List (Str × D)}, RepF K I vs ds → RepF K I' vs ds
  | _, _, .nil => .nil
  | _, _, .cons h r => .cons (Rep.mono e h) (RepF.mono e r)
end
inductive RepT (K : PySem.W.Frag) (I : Hp) : List (List Key × V) → List (List Key × D) → Prop
  | nil : RepT K I [] []
  | cons {k : List Key} {v : V} {d : D} {vs : List (List Key × V)} {ds : List (List Key × D)} : Rep K I v d → RepT K I vs ds → RepT K I ((k, v) :: vs) ((k, d) :: ds)
theorem RepT.mono {K : PySem.W.Frag} {I I' : Hp} (e : Same I I') : ∀ {vs : List (List Key × V)} {ds : List (List Key × D)}, RepT K I vs ds → RepT K I' vs ds
  | _, _, .nil => .nil
  | _, _, .cons h r => .cons (Rep.mono e h) (RepT.mono e r)
inductive MO where
  | lst (xs : List D) | dct (kvs : List (Key × D)) | ins (C : Addr) (fs : List (Str × D)) | exc (C : Addr) (fs : List (Str × D)) | xd (fs : List (Str × D)) | dT (kvs : List (List Key × D)) | dctL (od : Obj) (us : List (Key × V)) (kvs : List (Key × D)) | dTL (od : Obj) (us : List (List Key × V)) (kvs : List (List Key × D))
abbrev Mp := Addr → Option MO
def updM (M : Mp) (a : Addr) (o : MO) : Mp := fun b => if b = a then some o else M b
structure ExcCls (K : PySem.W.Frag) (C : Addr) : Prop where
  cl : (PySem.W.clsIn K C).isSome = true
  ga : PySem.W.findIn K (.ref C) "__getattribute__" = some (some (.builtin "BaseException.__getattribute__"))
  gt : PySem.W.findIn K (.ref C) "__getattr__" = some none
  sub : PySem.W.subIn K (.ref C) (.type "BaseException") = some true
  ca : PySem.W.findIn K (.ref C) "__class__" = some (some (.builtin "object.__class__"))
  sp : PySem.W.specialIn K (.builtin "object.__class__") "__get__" = some (some (.builtin "getset_descriptor.__get__"))
  tk : PySem.W.takesIn K (.builtin "object.__class__") = some true
  mr : PySem.W.mroIn K C (.type "object") = some true
  kit : ∀ n ∈ ["bool", "int", "str", "list", "tuple", "dict"], PySem.W.kitOne K (.ref C) (.type n) = some false
def RepO (K : PySem.W.Frag) (I H : Hp) (a : Addr) (o : HO) : MO → Prop
  | .lst ds => ∃ vs, o = .lst vs ∧ Reps K I vs ds
  | .dct ds => ∃ vs, o = .dK vs ∧ RepK K I vs ds
  | .ins C ds => ∃ dx fs, o = .ins C dx fs ∧ RepF K I fs ds
  | .xd ds => ∃ vs, o = .xd vs ∧ RepF K I vs ds
  | .dT ds => ∃ vs, o = .dT vs ∧ RepT K I vs ds
  | .dctL od us ds => o = .frz od (.dK us) ∧ RepK K I us ds
  | .dTL od us ds => o = .frz od (.dT us) ∧ RepT K I us ds
  | .exc C ds => ExcCls K C ∧ ∃ d vs, o = exo a C (some d) ∧ H d = some (exd d vs) ∧ RepF K I vs ds
theorem RepO.mono {K : PySem.W.Frag} {I I' H H' : Hp} {a : Addr} (e : Same I I') {o : HO} {m : MO} (h : RepO K I H a o m) (k : ∀ d φ, H d = some (.ext φ) → H' d = some (.ext φ)) : RepO K I' H' a o m := by
  cases m with
  | lst ds => obtain ⟨vs, e1, r⟩ := h; exact ⟨vs, e1, r.mono e⟩
  | dct ds => obtain ⟨vs, e1, r⟩ := h; exact ⟨vs, e1, r.mono e⟩
  | ins C ds => obtain ⟨dx, vs, e1, r⟩ := h; exact ⟨dx, vs, e1, r.mono e⟩
  | exc C ds => obtain ⟨c, d, vs, e1, e2, r⟩ := h; exact ⟨c, d, vs, e1, k _ _ e2, r.mono e⟩
  | xd ds => obtain ⟨vs, e1, r⟩ := h; exact ⟨vs, e1, r.mono e⟩
  | dT ds => obtain ⟨vs, e1, r⟩ := h; exact ⟨vs, e1, r.mono e⟩
  | dctL od us ds => exact ⟨h.1, h.2.mono e⟩
  | dTL od us ds => exact ⟨h.1, h.2.mono e⟩
structure HR (K : PySem.W.Frag) (I : Hp) (M : Mp) (F : Hp) (H : Hp) : Prop where
  imm : ∀ a o, I a = some o → H a = some o
  mu : ∀ a m, M a = some m → I a = none ∧ ∃ o, H a = some o ∧ RepO K I H a o m
  frm : ∀ a o, F a = some o → H a = some o ∧ I a = none ∧ M a = none
  ft : ∀ a vs, F a ≠ some (.tup vs)
theorem ft_upd {F : Hp} {p : Addr} {o : HO} (h : ∀ a vs, F a ≠ some (.tup vs)) (ho : ∀ vs, o ≠ .tup vs) : ∀ a vs, upd F p o a ≠ some (.tup vs) := fun a vs e => by
  by_cases q : a = p
  · subst q; rw [upd_same] at e; cases e; exact ho vs rfl
  · rw [upd_ne q] at e; exact h a vs e
theorem ft_off {F : Hp} {p : Addr} {o : HO} (h : ∀ a vs, upd F p o a ≠ some (.tup vs)) (hF : F p = none) : ∀ a vs, F a ≠ some (.tup vs) := fun a vs e => by
  have q : a ≠ p := fun z => by rw [z, hF] at e; cases e
  exact h a vs (by rw [upd_ne q]; exact e)
theorem HR.fresh {K : PySem.W.Frag} {I : Hp} {M : Mp} {F H : Hp} (h : HR K I M F H) {p : Addr} (hp : H p = none) : I p = none ∧ M p = none ∧ F p = none := by
  refine ⟨?_, ?_, ?_⟩
  · cases q : I p with
    | none => rfl
    | some o => rw [h.imm p o q] at hp; cases hp
  · cases q : M p with
    | none => rfl
    | some o => obtain ⟨_, u, e, _⟩ := h.mu p o q; rw [e] at hp; cases hp
  · cases q : F p with
    | none => rfl
    | some o => rw [(h.frm p o q).1] at hp; cases hp
theorem same_new {I : Hp} {p : Addr} {o : HO} (h : I p = none) : Same I (upd I p o) := fun a u e => by
  rw [upd_ne (ne_of_none e h)]; exact e
theorem HR.newI {K : PySem.W.Frag} {I : Hp} {M : Mp} {F H : Hp} (h : HR K I M F H) {p : Addr} (hp : H p = none) (o : HO) : HR K (upd I p o) M F (upd H p o) := by
  obtain ⟨h1, h2, h3⟩ := h.fresh hp
  refine ⟨fun a u e => ?_, fun a m e => ?_, fun a u e => ?_, h.ft⟩
  · by_cases q : a = p
    · subst q; rw [upd_same] at e; rw [upd_same]; exact e
    · rw [upd_ne q] at e; rw [upd_ne q]; exact h.imm a u e
  · have q : a ≠ p := fun z => by rw [z, h2] at e; cases e
    obtain ⟨x, u, y, z⟩ := h.mu a m e
    rw [upd_ne q, upd_ne q]
    exact ⟨x, u, y, z.mono (same_new h1) fun d φ e => by rw [upd_ne (ne_of_none e hp)]; exact e⟩
  · have q : a ≠ p := fun z => by rw [z, h3] at e; cases e
    obtain ⟨x, y, z⟩ := h.frm a u e
    rw [upd_ne q, upd_ne q]
    exact ⟨x, y, z⟩
theorem updM_same {M : Mp} {a : Addr} {o : MO} : updM M a o a = some o := if_pos rfl
theorem updM_ne {M : Mp} {a b : Addr} {o : MO} (h : b ≠ a) : updM M a o b = M b := if_neg h
theorem HR.newM {K : PySem.W.Frag} {I : Hp} {M : Mp} {F H : Hp} (h : HR K I M F H) {p : Addr} (hp : H p = none) {o : HO} {m : MO} (r : RepO K I H p o m) : HR K I (updM M p m) F (upd H p o) := by
  obtain ⟨h1, h2, h3⟩ := h.fresh hp
  have kp : ∀ d φ, H d = some (.ext φ) → upd H p o d = some (.ext φ) := fun d φ e => by rw [upd_ne (ne_of_none e hp)]; exact e
  refine ⟨fun a u e => ?_, fun a n e => ?_, fun a u e => ?_, h.ft⟩
  · have q : a ≠ p := fun z => by rw [z, h1] at e; cases e
    rw [upd_ne q]; exact h.imm a u e
  · by_cases q : a = p
    · subst q; rw [updM_same] at e; cases e; rw [upd_same]; exact ⟨h1, o, rfl, r.mono (Same.refl I) kp⟩
    · rw [updM_ne q] at e; rw [upd_ne q]
      obtain ⟨x, y, z, t⟩ := h.mu a n e
      exact ⟨x, y, z, t.mono (Same.refl I) kp⟩
  · have q : a ≠ p := fun z => by rw [z, h3] at e; cases e
    rw [upd_ne q, updM_ne q]; exact h.frm a u e
theorem HR.write {K : PySem.W.Frag} {I : Hp} {M : Mp} {F H : Hp} (h : HR K I M F H) {p : Addr} {m0 : MO} (hp : M p = some m0) (nx : ∀ C fs, m0 ≠ .exc C fs) {o : HO} {m : MO} (r : RepO K I H p o m) : HR K I (updM M p m) F (upd H p o) := by
  obtain ⟨h1, o0, ho, r0⟩ := h.mu p m0 hp
  have kp : ∀ d φ, H d = some (.ext φ) → upd H p o d = some (.ext φ) := fun d φ e => by
    rw [upd_ne (ne_of e ho ?_)]
    · exact e
    · cases m0 with
      | lst ds => obtain ⟨vs, e1, _⟩ := r0; rw [e1]; exact fun z => nomatch z
      | dct ds => obtain ⟨vs, e1, _⟩ := r0; rw [e1]; exact fun z => nomatch z
      | ins C ds => obtain ⟨dx, vs, e1, _⟩ := r0; rw [e1]; exact fun z => nomatch z
      | exc C ds => exact absurd rfl (nx C ds)
      | xd ds => obtain ⟨vs, e1, _⟩ := r0; rw [e1]; exact fun z => nomatch z
      | dT ds => obtain ⟨vs, e1, _⟩ := r0; rw [e1]; exact fun z => nomatch z
      | dctL od us ds => rw [r0.1]; exact fun z => nomatch z
      | dTL od us ds => rw [r0.1]; exact fun z => nomatch z
  refine ⟨fun a u e => ?_, fun a n e => ?_, fun a u e => ?_, h.ft⟩
  · have q : a ≠ p := fun z => by rw [z, h1] at e; cases e
    rw [upd_ne q]; exact h.imm a u e
  · by_cases q : a = p
    · subst q; rw [updM_same] at e; cases e; rw [upd_same]; exact ⟨h1, o, rfl, r.mono (Same.refl I) kp⟩
    · rw [updM_ne q] at e; rw [upd_ne q]
      obtain ⟨x, y, z, t⟩ := h.mu a n e
      exact ⟨x, y, z, t.mono (Same.refl I) kp⟩
  · obtain ⟨x, y, z⟩ := h.frm a u e
    have q : a ≠ p := fun z' => by rw [z', hp] at z; cases z
    rw [upd_ne q, updM_ne q]; exact ⟨x, y, z⟩
abbrev DS := List (Option D)
abbrev DK := D → Mp → Prop
abbrev DXK := Value → Option (List (Str × D)) → Mp → Prop
abbrev DTE := DS → Mp → DK → DXK → Prop
abbrev DTT := DS → Mp → (Bool → Mp → Prop) → DXK → Prop
abbrev DTA := DS → Mp → (List D → Mp → Prop) → DXK → Prop
structure RepS (K : PySem.W.Frag) (I : Hp) (σ : St) (δ : DS) : Prop where
  len : σ.length = δ.length
  get : ∀ (i : Nat) (d : D), δ[i]? = some (some d) → ∃ v, σ[i]? = some (some v) ∧ Rep K I v d
theorem RepS.mono {K : PySem.W.Frag} {I I' : Hp} (e : Same I I') {σ : St} {δ : DS} (h : RepS K I σ δ) : RepS K I' σ δ :=
  ⟨h.len, fun i d q => let ⟨v, a, b⟩ := h.get i d q; ⟨v, a, b.mono e⟩⟩
theorem RepS.set {K : PySem.W.Frag} {I : Hp} {σ : St} {δ : DS} {v : V} {d : D} (h : RepS K I σ δ) (i : Nat) (r : Rep K I v d) : RepS K I (σ.set i (some v)) (δ.set i (some d)) := by
  refine ⟨by rw [List.length_set, List.length_set]; exact h.len, fun j x e => ?_⟩
  by_cases q : i = j
  · subst q
    have hl : i < δ.length := by
      have := (List.getElem?_eq_some_iff.mp e).1
      rwa [List.length_set] at this
    rw [List.getElem?_set_self hl] at e
    cases e
    exact ⟨v, List.getElem?_set_self (by rw [h.len]; exact hl), r⟩
  · rw [List.getElem?_set_ne q] at e
    rw [List.getElem?_set_ne q]
    exact h.get j x e
theorem RepS.forget {K : PySem.W.Frag} {I : Hp} {σ : St} {δ : DS} {u : Option V} (h : RepS K I σ δ) (i : Nat) : RepS K I (σ.set i u) (δ.set i none) := by
  refine ⟨by rw [List.length_set, List.length_set]; exact h.len, fun j x e => ?_⟩
  by_cases q : i = j
  · subst q
    have hl : i < δ.length := by
      have := (List.getElem?_eq_some_iff.mp e).1
      rwa [List.length_set] at this
    rw [List.getElem?_set_self hl] at e
    cases e
  · rw [List.getElem?_set_ne q] at e
    rw [List.getElem?_set_ne q]
    exact h.get j x e
def XD (K : PySem.W.Frag) (I : Hp) (M : Mp) (F H : Hp) : Option Addr → Option (List (Str × D)) → Prop
  | none, none => True
  | some d, some fs => (∃ vs, H d = some (.xd vs) ∧ RepF K I vs fs) ∧ I d = none ∧ M d = none ∧ F d = none
  | _, _ => False
def Fin (K : PySem.W.Frag) (I F : Hp) (Qd : DK) (Q : VK) : Prop := ∀ d M' I' H' v, Qd d M' → Same I I' → HR K I' M' F H' → Rep K I' v d → Q v H'
def FinT (K : PySem.W.Frag) (I F : Hp) (Qd : Bool → Mp → Prop) (Q : Bool → Hp → Prop) : Prop := ∀ b M' I' H', Qd b M' → Same I I' → HR K I' M' F H' → Q b H'
def FinA (K : PySem.W.Frag) (I F : Hp) (Qd : List D → Mp → Prop) (Q : List V → Hp → Prop) : Prop := ∀ ds M' I' H' vs, Qd ds M' → Same I I' → HR K I' M' F H' → Reps K I' vs ds → Q vs H'
def FinX (K : PySem.W.Frag) (I F : Hp) (Ed : DXK) (E : XK) : Prop := ∀ cls fo M' I' H' dd, Ed cls fo M' → Same I I' → HR K I' M' F H' → XD K I' M' F H' dd fo → E cls dd H'
theorem FinX.mono {K : PySem.W.Frag} {I I' F : Hp} {Ed : DXK} {E : XK} (h : FinX K I F Ed E) (e : Same I I') : FinX K I' F Ed E := fun c fo M' I2 H' dd a b r x => h c fo M' I2 H' dd a (e.trans b) r x
theorem Fin.mono {K : PySem.W.Frag} {I I' F : Hp} {Qd : DK} {Q : VK} (h : Fin K I F Qd Q) (e : Same I I') : Fin K I' F Qd Q := fun d M' I2 H' v a b r x => h d M' I2 H' v a (e.trans b) r x
structure DEnds where
  nx : DS → Mp → Prop
  rt : DK
  ex : Value → Option (List (Str × D)) → DS → Mp → Prop
  bk : DS → Mp → Prop := fun _ _ => False
  ct : DS → Mp → Prop := fun _ _ => False
abbrev DTS := DEnds → DS → Mp → Prop
structure FinS (K : PySem.W.Frag) (W : WX) (I F : Hp) (Dd : DEnds) (Dn : Ends) : Prop where
  nx : ∀ δ' M' I' H' σ', Dd.nx δ' M' → Same I I' → HR K I' M' F H' → RepS K I' σ' δ' → Dn.nx σ' H'
  rt : Fin K I F Dd.rt Dn.rt
  ex : ∀ cls fo δ' M' I' H' σ' dd, Dd.ex cls fo δ' M' → Same I I' → HR K I' M' F H' → RepS K I' σ' δ' → XD K I' M' F H' dd fo → W cls dd σ' H'
  bk : ∀ δ' M' I' H' σ', Dd.bk δ' M' → Same I I' → HR K I' M' F H' → RepS K I' σ' δ' → Dn.bk σ' H'
  ct : ∀ δ' M' I' H' σ', Dd.ct δ' M' → Same I I' → HR K I' M' F H' → RepS K I' σ' δ' → Dn.ct σ' H'
theorem FinS.mono {K : PySem.W.Frag} {W : WX} {I I' F : Hp} {Dd : DEnds} {Dn : Ends} (h : FinS K W I F Dd Dn) (e : Same I I') : FinS K W I' F Dd Dn :=
  ⟨fun a b c d f q s => h.nx a b c d f q (e.trans s), h.rt.mono e, fun a b c d f g x y q s => h.ex a b c d f g x y q (e.trans s), fun a b c d f q s => h.bk a b c d f q (e.trans s), fun a b c d f q s => h.ct a b c d f q (e.trans s)⟩
def lE (K : PySem.W.Frag) (W : WX) (t : DTE) : TE := fun σ H Q => ∃ I M F δ Qd Ed, HR K I M F H ∧ RepS K I σ δ ∧ t δ M Qd Ed ∧ Fin K I F Qd Q ∧ FinX K I F Ed (WE W σ)
def lT (K : PySem.W.Frag) (W : WX) (t : DTT) : TT := fun σ H Q => ∃ I M F δ Qd Ed, HR K I M F H ∧ RepS K I σ δ ∧ t δ M Qd Ed ∧ FinT K I F Qd Q ∧ FinX K I F Ed (WE W σ)
def lA (K : PySem.W.Frag) (W : WX) (t : DTA) : TA := fun σ H Q => ∃ I M F δ Qd Ed, HR K I M F H ∧ RepS K I σ δ ∧ t δ M Qd Ed ∧ FinA K I F Qd Q ∧ FinX K I F Ed (WE W σ)
def lS (K : PySem.W.Frag) (W : WX) (t : DTS) : TS := fun Dn σ H => ∃ I M F δ Dd, HR K I M F H ∧ RepS K I σ δ ∧ t Dd δ M ∧ FinS K W I F Dd Dn
def DE (X : Cx) (W : WX) (e : Expr) (t : DTE) : Prop := PE X e (lE X.K W t)
def DT (X : Cx) (W : WX) (e : Expr) (t : DTT) : Prop := PT X e (lT X.K W t)
def DW (X : Cx) (W : WX) (e : Expr) (t : DTT) : Prop := PW X e (lT X.K W t)
def DA (X : Cx) (W : WX) (es : List Expr) (t : DTA) : Prop := PA X es (lA X.K W t)
def DSt (X : Cx) (W : WX) (s : Stmt) (t : DTS) : Prop := PS X s (lS X.K W t)
def DSs (X : Cx) (W : WX) (s : List Stmt) (t : DTS) : Prop := PSs X s (lS X.K W t)
theorem pe_imp {X : Cx} {e : Expr} {t t' : TE} (h : PE X e t) (i : ∀ σ H Q, t' σ H Q → t σ H Q) : PE X e t' := ⟨fun pins s σ H Q I q => h.run pins s σ H Q I (i σ H Q q)⟩
theorem pt_imp {X : Cx} {e : Expr} {t t' : TT} (h : PT X e t) (i : ∀ σ H Q, t' σ H Q → t σ H Q) : PT X e t' := ⟨fun pins s σ H Q I q => h.run pins s σ H Q I (i σ H Q q)⟩
theorem pw_imp {X : Cx} {e : Expr} {t t' : TT} (h : PW X e t) (i : ∀ σ H Q, t' σ H Q → t σ H Q) : PW X e t' := ⟨fun wh pins s σ H Q I q => h.run wh pins s σ H Q I (i σ H Q q)⟩
theorem pa_imp {X : Cx} {e : List Expr} {t t' : TA} (h : PA X e t) (i : ∀ σ H Q, t' σ H Q → t σ H Q) : PA X e t' := ⟨fun ps pins s σ H Q I q => h.run ps pins s σ H Q I (i σ H Q q)⟩
theorem ps_imp {X : Cx} {e : Stmt} {t t' : TS} (h : PS X e t) (i : ∀ Dn σ H, t' Dn σ H → t Dn σ H) : PS X e t' := ⟨fun pins s σ H D I q => h.run pins s σ H D I (i D σ H q)⟩
theorem pss_imp {X : Cx} {e : List Stmt} {t t' : TS} (h : PSs X e t) (i : ∀ Dn σ H, t' Dn σ H → t Dn σ H) : PSs X e t' := ⟨fun pins s σ H D I q => h.run pins s σ H D I (i D σ H q)⟩
section
variable {X : Cx} {W : WX} {e a b : Expr} {ta tb te : DTE} {pos : Pos}
def dVar (i : Nat) : DTE := fun δ M Q _ => ∃ d, δ[i]? = some (some d) ∧ Q d M
def dC (d : D) : DTE := fun _ M Q _ => Q d M
theorem dvr (i : Nat) {x : Str} (hN : X.N[i]? = some x := by rfl) (hv : Vis X.env.scope x := by first | exact Or.inl rfl | exact Or.inr (Or.inl rfl) | exact Or.inr (Or.inr rfl)) (hd : (x == ("__debug__" : Str)) = false := by decide)
    (hcd : (x == ("__classdict__" : Str)) = false := by decide) : DE X W (.Name x pos) (dVar i) := by
  refine pe_imp (pe_var hN hv hd hcd) fun σ H Q h => ?_
  obtain ⟨I, M, F, δ, Qd, Ed, hr, rs, ⟨d, e1, q⟩, fq, fx⟩ := h
  obtain ⟨v, e2, r⟩ := rs.get i d e1
  exact ⟨v, e2, fq d M I H v q (Same.refl I) hr r⟩
theorem d_const {u : V} {d : D} (h : PE X e (tC u)) (r : ∀ I, Rep X.K I u d) : DE X W e (dC d) := by
  refine pe_imp h fun σ H Q h => ?_
  obtain ⟨I, M, F, δ, Qd, Ed, hr, rs, q, fq, fx⟩ := h
  exact fq d M I H u q (Same.refl I) hr (r I)
theorem d_int {i j} : DE X W (.Constant (.int i) j pos) (dC (.int i)) := d_const pe_int fun _ => .int i
theorem d_bl {b j} : DE X W (.Constant (.bool b) j pos) (dC (.bl b)) := d_const pe_bl fun _ => .bl b
theorem d_non {j} : DE X W (.Constant .none j pos) (dC .non) := d_const pe_non fun _ => .non
theorem d_str {x j} : DE X W (.Constant (.str x) j pos) (dC (.str x)) := d_const pe_str fun _ => .str x
theorem d_glob {x : Str} {v : V} {u : Value} {d : D} (hg : Gl X x) (hm : X.mg x = some u) (r : RelV v u) (rr : ∀ I, Rep X.K I v d) (hd : (x == ("__debug__" : Str)) = false := by decide) : DE X W (.Name x pos) (dC d) := d_const (pe_glob hg hm r hd) rr
abbrev DR2 := D → D → Mp → DK → Prop
def LR (K : PySem.W.Frag) (r' : R2) (r : DR2) : Prop := ∀ I M F H x y dx dy Qd Q, HR K I M F H → Rep K I x dx → Rep K I y dy → r dx dy M Qd → Fin K I F Qd Q → r' x y H Q
def dOp (r : DR2) (ta tb : DTE) : DTE := fun δ M Q E => ta δ M (fun x M1 => tb δ M1 (fun y M2 => r x y M2 Q) E) E
theorem op_lift {ta tb : DTE} {r : DR2} {r' : R2} {K : PySem.W.Frag} (hl : LR K r' r) : ∀ σ H Q, lE K W (dOp r ta tb) σ H Q → tOp r' (lE K W ta) (lE K W tb) σ H Q := by
  intro σ H Q h
  obtain ⟨I, M, F, δ, Qd, Ed, hr, rs, q, fq, fx⟩ := h
  refine ⟨I, M, F, δ, _, Ed, hr, rs, q, fun x M1 I1 H1 v q1 s1 hr1 r1 => ?_, fx⟩
  refine ⟨I1, M1, F, δ, _, Ed, hr1, rs.mono s1, q1, fun y M2 I2 H2 w q2 s2 hr2 r2 => ?_, fx.mono s1⟩
  exact hl I2 M2 F H2 v w x y Qd Q hr2 (r1.mono s2) r2 q2 (fq.mono (s1.trans s2))
theorem d_op {op : Operator} {r : DR2} {r' : R2} (ho : OpR X (binaryOp op) r') (hl : LR X.K r' r) (ha : DE X W a ta) (hb : DE X W b tb) : DE X W (.BinOp a op b pos) (dOp r ta tb) :=
  pe_imp (pe_op ho ha hb) (op_lift hl)
theorem d_cmp {op : CmpOp} {r : DR2} {r' : R2} (ho : OpR X (compareOp op) r') (hl : LR X.K r' r) (ha : DE X W a ta) (hb : DE X W b tb) (hm : behindInMarks op b = false) : DE X W (.Compare a [op] [b] pos) (dOp r ta tb) :=
  pe_imp (pe_cmpR ho ha hb hm) (op_lift hl)
theorem d_ix {r : DR2} {r' : R2} (hr : IxR X r') (hl : LR X.K r' r) (ha : DE X W a ta) (hb : DE X W b tb) (hs : PlainIx b) : DE X W (.Subscript a b pos) (dOp r ta tb) :=
  pe_imp (pe_ix hr ha hb hs) (op_lift hl)
end
end DL
namespace DL
open PySem PySem.Spec PyProof.Rows L2
abbrev NoGd (A : Around) : Prop := A.guards = some []
theorem nogd_deeper {A : Around} (h : NoGd A) (env : Env) : NoGd (A.deeper env) := by
  have e : (A.deeper env).guards = A.guards := by first | rfl | simp [Around.deeper]
  exact e.trans h
structure FnG (P : Program) (w : World) (K : PySem.W.Frag) (mg : Str → Option Value) (base : Heap) (C : CXT) (k : Nat) (f : Addr) (fd : FuncData) (ps : List Str) (sp : Sp) : Prop where
  len : ∀ vs H Q E, sp vs H Q E → vs.length = ps.length
  run : ∀ (A : Around) (l : List Env) (s : Shared) (H : Hp) (g : Args) (us : List Value) (vs : List V) (Q : VK) (E : XK),
    NoGd A → Room k A → Env0 P w K mg base A l s H → BindsTo s fd g (ps.zip us) → Vals vs us → sp vs H Q E → codeAny (model P w) A (.call (.ref f) g) (CR C l P w H s Q E) s
section
variable {P : Program} {w : World} {K : PySem.W.Frag} {mg : Str → Option Value} {base : Heap} {C : CXT} {k : Nat} {f : Addr}
theorem FnG.up {j : Nat} {fd : FuncData} {ps : List Str} {sp : Sp} (F : FnG P w K mg base C j f fd ps sp) (h : j ≤ k) : FnG P w K mg base C k f fd ps sp :=
  ⟨F.len, fun A l s H g us vs Q E n r => F.run A l s H g us vs Q E n (r.mono h)⟩
theorem fng_of {nm qn : Str} {pa : Arguments} {bd : List Stmt} {sc : Scope} {dV kV dc pm cv ct oc : Value} {an od : Option Addr} {sl : Array (Option Value)} {N ps : List Str} {sp : Sp}
    (lk : K.lookup f = some ⟨oc, od, .func (PySem.W.fnOf nm qn pa bd sc dV kV dc pm an cv ct), sl⟩) (hc : PySem.W.codeIn K cv qn = true) (S : FnScope N ps sc) (len : ∀ vs H Q E, sp vs H Q E → vs.length = ps.length)
    (hbd : ∀ (A : Around) (l : List Env) (s : Shared) (H : Hp) (vs : List V) (Q : VK) (E : XK), NoGd A → Room k (A.deeper (envOfC qn sc s.heap.objs.size f cv)) → sp vs H Q E →
      ∃ t, PSs (cxOf C P w K mg base N qn sc f cv A l s H E) bd t ∧ t { nx := fun _ H' => Q .non H', rt := Q } (start N vs) H) :
    FnG P w K mg base C (k + 1) f (PySem.W.fnOf nm qn pa bd sc dV kV dc pm an cv ct) ps sp := by
  constructor
  · exact len
  intro A l s H g us vs Q E ng rm en bt rv pr
  have inK : K.In s.heap := en.mod.kin.keeps (fun b o z => (en.bs b o z).1)
  have kinds : ∀ y ∈ ps.zip us, sc.names.lookup y.1 = some .local ∨ (sc.names.lookup y.1 = some .cell ∧ ((cellsFrom (s.heap.objs.size + 1) sc.names []).lookup y.1).isSome = true) := by
    intro y hy
    cases S.par y.1 (List.of_mem_zip (a := y.1) (b := y.2) hy).1 with
    | inl q => exact Or.inl q
    | inr q => exact Or.inr ⟨q, PySem.W.cellsFrom_some _ _ _ (Or.inl q)⟩
  refine codeAny_call_function rm.depth (inK _ _ lk) rfl S.co S.gen rfl (PySem.W.codeRec_of inK hc) (bt _ _ _ _ ?_)
  refine wpAny_newFunctionEnv_cells S.kind kinds (fun env ev s1 ic => ?_)
  subst ev
  refine ⟨(en.mod.nolimit.keeps (fun b o z => (en.bs b o z).1)).keeps ic.toInCall.keep, codeAny_func ?_⟩
  obtain ⟨t, pt, tq⟩ := hbd A l s H vs Q E ng (rm.deeper _) pr
  have iv : Inv (cxOf C P w K mg base N qn sc f cv A l s H E) [] (start N vs) H s1 := inv_start S rm.hd en (len _ _ _ _ pr) rv ic
  refine wpAny_mono (pt.run [] s1 (start N vs) H _ iv tq) ?_ (fun _ _ z => z)
  intro fl s' z
  cases fl with
  | ret u => obtain ⟨v, σ', H', J, a, b⟩ := z; exact ⟨v, H', J.os, J.bare, J.base, J.hok, a, b⟩
  | next => obtain ⟨σ', H', J, b⟩ := z; exact ⟨V.non, H', J.os, J.bare, J.base, J.hok, rfl, b⟩
  | brk => obtain ⟨_, _, _, b⟩ := z; cases b
  | cont => obtain ⟨_, _, _, b⟩ := z; cases b
end
section
variable {X : Cx} {C : CXT} {k : Nat} {f : Addr} {fd : FuncData} {ps : List Str} {sp : Sp} {dvs : List V} {ds : List Value} {E : L2.St → XK}
theorem goG {pins : List (Addr × Obj)} {σ : L2.St} {H : Hp} {s : Shared} {Q : VK} {g : Args} {bs : List Value} {xs : List V} (F : FnG X.prog X.w X.K X.mg X.base C k f fd ps sp) (ng : NoGd X.A) (rm : Room k X.A)
    (hx : PassesAt C X σ (E σ)) (I : Inv X pins σ H s) (bt : BindsTo s fd g (ps.zip bs)) (rv : Vals xs bs) (h : sp xs H Q (E σ)) : codeAny (model X.prog X.w) X.A (.call (.ref f) g) (fun r s' => match r with | .ok (.ret u) => EP X pins σ Q u s' | .ok _ => False | .error e => X.xe e s') s := by
  refine codeAny_mono (F.run X.A X.stack s H g bs xs Q (E σ) ng rm I.env0 bt rv h) (fun r s' z => ?_)
  cases r with
  | error e => exact hx pins H s e s' I z
  | ok fl => cases fl with
    | ret u => exact I.after z
    | next => cases z
    | brk => cases z
    | cont => cases z
end
theorem law_callG {P : Program} {w : World} {K : PySem.W.Frag} {mg mb : Str → Option Value} {C : CXT} {k : Nat} {fa a : Addr} {fd : FuncData} {x : Str} {sp : Sp} {s1 : Shared} {vs : List Value} {ns : List Int}
    (KX : K.In s1.heap) (n1 : s1.heap.Ns mainGlobals mg) (n2 : s1.heap.Ns builtinsNs mb) (n3 : ∀ x : Str, x ≠ "__name__" → mb x = bootBuiltins x) (nl : s1.heap.NoLimit) (ge : s1.gens = #[])
    (ha : s1.heap.get? a = some { cls := .type "list", data := .seq vs.toArray }) (hi : IntsAre vs ns) (hl : ns.length ≤ sizeLine) (rm : Room k callerA)
    (F : ∀ b : Heap, K.In b → b.Ns mainGlobals mg → FnG P w K mg b C k fa fd [x] sp) (bt : ∀ (s : Shared) (u : Value), BindsTo s fd ⟨[u], []⟩ [(x, u)])
    (pr : ∀ H : Hp, Only H → SqL K H a (ns.map V.int) → sp [.ref a] H (fun v _ => v = .bl true) fun _ _ _ => False) (noX : ∀ H e s', C [] H s1 (fun _ _ _ => False) e s' → False) :
    codeAny (model P w) callerA (.call (.ref fa) ⟨[.ref a], []⟩) (fun r s' => r = .ok (.ret (.bool true)) ∧ OldK s1.heap s'.heap ∧ s'.os = s1.os ∧ AllBare s'.gens) s1 := by
  have main : ∀ H : Hp, Only H → SqL K H a (ns.map V.int) → HOk P w H s1.heap → (∀ b u, H b = some u → b = a ∧ K.lookup a = none) →
      codeAny (model P w) callerA (.call (.ref fa) ⟨[.ref a], []⟩) (fun r s' => r = .ok (.ret (.bool true)) ∧ OldK s1.heap s'.heap ∧ s'.os = s1.os ∧ AllBare s'.gens) s1 := by
    intro H only sq ok one
    have ndict : ∀ {b : Addr} {o : Obj} {es : Array DictEntry} {ep : Nat}, s1.heap.get? b = some o → o.data = .dict es ep → H b = none := by
      intro b o es ep g d
      cases z : H b with
      | none => rfl
      | some u =>
        cases (one b u z).1
        rw [ha] at g
        cases g
        exact nomatch (show Data.seq vs.toArray _ = Data.dict es ep from d)
    have toB : ∀ {b : Addr} {m : Str → Option Value}, s1.heap.Ns b m → (hidT s1.heap H).Ns b m := by
      intro b m z
      obtain ⟨o, es, ep, g, d, r⟩ := z
      exact ⟨o, es, ep, hidT_get g (ndict g d), d, r⟩
    have inB : K.In (hidT s1.heap H) := by
      intro b o g
      refine hidT_get (KX b o g) ?_
      cases z : H b with
      | none => rfl
      | some u =>
        obtain ⟨e1, e2⟩ := one b u z
        cases e1
        rw [e2] at g
        cases g
    obtain ⟨mc, c1, c2⟩ := nl
    have en : Env0 P w K mg (hidT s1.heap H) callerA [] s1 H :=
      { frames := rfl, mod := ⟨inB, toB n1, ⟨mb, toB n2, n3⟩, ⟨mc, toB c1, c2⟩⟩, bs := fun b o g => of_hidT g, bsz := Nat.le_of_eq (hidT_size _ _), funs := trivial, frf := fun b z => (nomatch (show b ∈ ([] : List Addr) from z)), hok := ok, bare := .of_eq ge }
    refine codeAny_mono ((F _ inB (toB n1)).run callerA [] s1 H ⟨[.ref a], []⟩ [.ref a] [.ref a] _ _ rfl rm en (bt s1 (.ref a)) (.cons rfl .nil) (pr H only sq)) ?_
    intro r s' z
    cases r with
    | error e => exact (noX H e s' z).elim
    | ok fl => cases fl with
      | next => cases z
      | brk => cases z
      | cont => cases z
      | ret u =>
        obtain ⟨v, H', o1, o2, un, ok2, rr, vv⟩ := z
        cases (show v = .bl true from vv)
        cases (show u = Value.bool true from rr)
        refine ⟨rfl, OldK.of_keep (fun b o g => ?_), o1, o2⟩
        rcases only b with y | ⟨ob, xs, y⟩
        · exact un.keep b o g y (fun q => nomatch (show b ∈ ([] : List Addr) from q)) (fun q => nomatch q)
        · have g1 := (ok b _ y).1
          have g2 := (ok2 b _ (un.frzs b ob _ y)).1
          rw [g] at g1
          cases g1
          exact g2
  have rv := vals_ints hi
  cases hk : K.lookup a with
  | some o =>
    have g := KX a o hk
    rw [ha] at g
    cases g
    exact main (fun _ => none) (fun _ => Or.inl rfl) (Or.inr ⟨_, vs.toArray, _, hk, rfl, rfl, rfl, by rw [List.size_toArray, hi.length]; exact hl, by simpa using rv⟩) (fun b u z => nomatch z) (fun b u z => nomatch z)
  | none =>
    have at1 : (upd (fun _ => none) a (.frz { cls := .type "list", data := .seq vs.toArray } (.lst (ns.map V.int))) : Hp) a = some (.frz { cls := .type "list", data := .seq vs.toArray } (.lst (ns.map V.int))) := upd_same
    have off : ∀ b u, (upd (fun _ => none) a (.frz { cls := .type "list", data := .seq vs.toArray } (.lst (ns.map V.int))) : Hp) b = some u → b = a := by
      intro b u z
      by_cases q : b = a
      · exact q
      · rw [upd_ne q] at z; cases z
    refine main (upd (fun _ => none) a (.frz { cls := .type "list", data := .seq vs.toArray } (.lst (ns.map V.int)))) (fun b => ?_) (Or.inl (Or.inr ⟨_, at1⟩)) (fun b u z => ?_) (fun b u z => ⟨off b u z, hk⟩)
    · by_cases q : b = a
      · subst q; exact Or.inr ⟨_, _, at1⟩
      · exact Or.inl (upd_ne q)
    · cases off b u z
      rw [at1] at z
      cases z
      exact ⟨ha, by rw [List.length_map]; exact hl, vs, _, rv, ha⟩
end DL
namespace DL
open PySem L2
def br (b : Bool) (A B : Prop) : Prop := match b with | true => A | false => B
theorem br2 {b : Bool} {A B : Prop} (h1 : b = true → A) (h2 : b = false → B) : br b A B := by
  cases b with
  | true => exact h1 rfl
  | false => exact h2 rfl
theorem brT {A B : Prop} {b : Bool} (e : b = true) (h : A) : br b A B := by subst e; exact h
theorem brF {A B : Prop} {b : Bool} (e : b = false) (h : B) : br b A B := by subst e; exact h
def dB (d : D) (k : Bool → Prop) : Prop := match d with | .bl b => k b | _ => False
theorem dB_out {K : PySem.W.Frag} {I : Hp} {v : V} {d : D} {k : Bool → Prop} (r : Rep K I v d) (h : dB d k) : ∃ b, v = .bl b ∧ k b := by
  cases r <;> first | exact ⟨_, rfl, h⟩ | exact h.elim
def dTru (d : D) (M : Mp) (k : Bool → Prop) : Prop := match d with
  | .non => k false
  | .bl b => k b
  | .int i => k (i != 0)
  | .str y => y.length ≤ sizeLine ∧ k ((y.length : Int) != 0)
  | .lst xs => k (!xs.isEmpty)
  | .sq xs => k (!xs.isEmpty)
  | .tup xs => k (!xs.isEmpty)
  | .dct xs => k (!xs.isEmpty)
  | .ref a => ∃ m, M a = some m ∧ (match m with | .lst xs => k (!xs.isEmpty) | .dct xs => k (!xs.isEmpty) | _ => False)
  | _ => False
theorem Reps.len {K : PySem.W.Frag} {I : Hp} : ∀ {vs : List V} {ds : List D}, Reps K I vs ds → vs.length = ds.length
  | _, _, .nil => rfl
  | _, _, .cons _ r => congrArg (· + 1) r.len
theorem Reps.isE {K : PySem.W.Frag} {I : Hp} {vs : List V} {ds : List D} (r : Reps K I vs ds) : vs.isEmpty = ds.isEmpty := by cases r <;> rfl
theorem RepK.isE {K : PySem.W.Frag} {I : Hp} {vs : List (Key × V)} {ds : List (Key × D)} (r : RepK K I vs ds) : vs.isEmpty = ds.isEmpty := by cases r <;> rfl
theorem HR.sq {K : PySem.W.Frag} {I : Hp} {M : Mp} {F H : Hp} (h : HR K I M F H) {a : Addr} {vs : List V} (q : SqL K I a vs) : SqL K H a vs := sq_mono h.imm q
theorem HR.st {K : PySem.W.Frag} {I : Hp} {M : Mp} {F H : Hp} (h : HR K I M F H) {a : Addr} {vs : List V} (q : SqT K I a vs) : SqT K H a vs := st_mono h.imm q
theorem HR.lst {K : PySem.W.Frag} {I : Hp} {M : Mp} {F H : Hp} (h : HR K I M F H) {a : Addr} {ds : List D} (q : M a = some (.lst ds)) : ∃ vs, H a = some (.lst vs) ∧ Reps K I vs ds := by
  obtain ⟨_, o, e, vs, rfl, r⟩ := h.mu a _ q
  exact ⟨vs, e, r⟩
theorem HR.dct {K : PySem.W.Frag} {I : Hp} {M : Mp} {F H : Hp} (h : HR K I M F H) {a : Addr} {ds : List (Key × D)} (q : M a = some (.dct ds)) : ∃ vs, H a = some (.dK vs) ∧ RepK K I vs ds := by
  obtain ⟨_, o, e, vs, rfl, r⟩ := h.mu a _ q
  exact ⟨vs, e, r⟩
theorem HR.ins {K : PySem.W.Frag} {I : Hp} {M : Mp} {F H : Hp} (h : HR K I M F H) {a C : Addr} {ds : List (Str × D)} (q : M a = some (.ins C ds)) : ∃ dx fs, H a = some (.ins C dx fs) ∧ RepF K I fs ds := by
  obtain ⟨_, o, e, dx, vs, rfl, r⟩ := h.mu a _ q
  exact ⟨dx, vs, e, r⟩
theorem dTru_out {K : PySem.W.Frag} {I : Hp} {M : Mp} {F H : Hp} (h : HR K I M F H) {v : V} {d : D} {k : Bool → Prop} (r : Rep K I v d) (q : dTru d M k) : ∃ b, TruV K v H b ∧ k b := by
  cases r with
  | non => exact ⟨false, rfl, q⟩
  | bl b => exact ⟨b, rfl, q⟩
  | int i => exact ⟨_, rfl, q⟩
  | str x => exact ⟨_, ⟨q.1, rfl⟩, q.2⟩
  | ty n => exact q.elim
  | lst s rs => exact ⟨_, .inl ⟨_, SqL.of (h.imm _ _ s), rfl⟩, by rw [rs.isE]; exact q⟩
  | sq s rs => exact ⟨_, .inl ⟨_, h.sq s, rfl⟩, by rw [rs.isE]; exact q⟩
  | tup s rs => exact ⟨_, .inr (.inl ⟨_, h.st s, rfl⟩), by rw [rs.isE]; exact q⟩
  | dct s rs => exact ⟨_, .inr (.inr ⟨_, h.imm _ _ s, rfl⟩), by rw [rs.isE]; exact q⟩
  | ins s rs => exact q.elim
  | ref a =>
    obtain ⟨m, e, q⟩ := q
    cases m with
    | lst xs => obtain ⟨vs, e1, rs⟩ := h.lst e; exact ⟨_, .inl ⟨_, SqL.of e1, rfl⟩, by rw [rs.isE]; exact q⟩
    | dct xs => obtain ⟨vs, e1, rs⟩ := h.dct e; exact ⟨_, .inr (.inr ⟨_, e1, rfl⟩), by rw [rs.isE]; exact q⟩
    | ins C fs => exact q.elim
    | exc C fs => exact q.elim
    | xd fs => exact q.elim
    | dT fs => exact q.elim
    | dctL od us fs => exact q.elim
    | dTL od us fs => exact q.elim
section
variable {X : Cx} {W : WX} {e a b c : Expr} {ta tb tc te : DTE} {pos : Pos} {tA tB' : DTT} {rest : List Expr}
def dTest (t : DTE) : DTT := fun δ M Q E => t δ M (fun d M1 => dB d fun b => Q b M1) E
def dTruth (t : DTE) : DTT := fun δ M Q E => t δ M (fun d M1 => dTru d M1 fun b => Q b M1) E
theorem test_lift {K : PySem.W.Frag} {t : DTE} {σ : L2.St} {H : Hp} {Q : Bool → Hp → Prop} (h : lT K W (dTest t) σ H Q) : lE K W t σ H (fun x H' => ∃ k, x = .bl k ∧ Q k H') := by
  obtain ⟨I, M, F, δ, Qd, Ed, hr, rs, q, fq, fx⟩ := h
  refine ⟨I, M, F, δ, _, Ed, hr, rs, q, fun d M' I' H' v q' s' hr' r' => ?_, fx⟩
  obtain ⟨b, e1, e2⟩ := dB_out r' q'
  exact ⟨b, e1, fq b M' I' H' e2 s' hr'⟩
theorem t_truth (h : DE X W e te) (he : ∀ whole, isTrue e X.env whole = (do let v ← whole; standAt e.pos; holding [v] (truthy v)) := by intro _; rfl) : DT X W e (dTruth te) := by
  refine pt_imp (pt_truth h he) fun σ H Q q => ?_
  obtain ⟨I, M, F, δ, Qd, Ed, hr, rs, q, fq, fx⟩ := q
  refine ⟨I, M, F, δ, _, Ed, hr, rs, q, fun d M' I' H' v q' s' hr' r' => ?_, fx⟩
  obtain ⟨b, e1, e2⟩ := dTru_out hr' r' q'
  exact ⟨b, e1, fq b M' I' H' e2 s' hr'⟩
theorem t_cmp {op : CmpOp} {r : DR2} {r' : R2} (ho : OpR X (compareOp op) r') (hl : LR X.K r' r) (ha : DE X W a ta) (hb : DE X W b tb) (hm : behindInMarks op b = false) : DT X W (.Compare a [op] [b] pos) (dTest (dOp r ta tb)) :=
  pt_imp (pt_cmpR ho ha hb hm) fun _ _ _ q => op_lift hl _ _ _ (test_lift q)
def dChain (r r' : DR2) (ta tb tc : DTE) : DTE := fun δ M Q E => ta δ M (fun x M1 => tb δ M1 (fun y M2 => r x y M2 fun z M3 => dB z fun k => br k (tc δ M3 (fun w M4 => r' y w M4 Q) E) (Q (.bl false) M3)) E) E
theorem chain_lift {K : PySem.W.Frag} {r1 r2 : R2} {d1 d2 : DR2} (h1 : LR K r1 d1) (h2 : LR K r2 d2) : ∀ σ H Q, lE K W (dChain d1 d2 ta tb tc) σ H Q → tChain r1 r2 (lE K W ta) (lE K W tb) (lE K W tc) σ H Q := by
  intro σ H Q h
  obtain ⟨I, M, F, δ, Qd, Ed, hr, rs, q, fq, fx⟩ := h
  refine ⟨I, M, F, δ, _, Ed, hr, rs, q, fun x M1 I1 H1 v q1 s1 hr1 e1 => ?_, fx⟩
  refine ⟨I1, M1, F, δ, _, Ed, hr1, rs.mono s1, q1, fun y M2 I2 H2 w q2 s2 hr2 e2 => ?_, fx.mono s1⟩
  refine h1 I2 M2 F H2 v w x y _ _ hr2 (e1.mono s2) e2 q2 fun z M3 I3 H3 u q3 s3 hr3 e3 => ?_
  obtain ⟨k, ek, q4⟩ := dB_out e3 q3
  refine ⟨k, ek, ?_⟩
  have s13 := (s1.trans s2).trans s3
  cases k with
  | false => exact (if_neg Bool.false_ne_true).mpr (fq _ _ _ _ _ q4 s13 hr3 (.bl false))
  | true =>
    refine (if_pos rfl).mpr ⟨I3, M3, F, δ, _, Ed, hr3, rs.mono s13, q4, fun y' M4 I4 H4 w' q5 s4 hr4 e4 => ?_, fx.mono s13⟩
    exact h2 I4 M4 F H4 w w' y y' Qd Q hr4 ((e2.mono s3).mono s4) e4 q5 (fq.mono (s13.trans s4))
theorem d_chain {op op' : CmpOp} {r r' : DR2} {q q' : R2} (ho : OpR X (compareOp op) q) (ho' : OpR X (compareOp op') q') (hl : LR X.K q r) (hl' : LR X.K q' r') (ha : DE X W a ta) (hb : DE X W b tb) (hc : DE X W c tc)
    (hm : lastMarks [op, op'] [b, c] = false := by with_unfolding_all rfl) : DE X W (.Compare a [op, op'] [b, c] pos) (dChain r r' ta tb tc) := pe_imp (pe_chain ho ho' ha hb hc hm) (chain_lift hl hl')
theorem t_chain {op op' : CmpOp} {r r' : DR2} {q q' : R2} (ho : OpR X (compareOp op) q) (ho' : OpR X (compareOp op') q') (hl : LR X.K q r) (hl' : LR X.K q' r') (ha : DE X W a ta) (hb : DE X W b tb) (hc : DE X W c tc)
    (hm : lastMarks [op, op'] [b, c] = false := by with_unfolding_all rfl) : DT X W (.Compare a [op, op'] [b, c] pos) (dTest (dChain r r' ta tb tc)) := pt_imp (pt_chain ho ho' ha hb hc hm) fun _ _ _ q => chain_lift hl hl' _ _ _ (test_lift q)
def dAnd (t u : DTT) : DTT := fun δ M Q E => t δ M (fun b M1 => br b (u δ M1 Q E) (Q false M1)) E
def dOr (t u : DTT) : DTT := fun δ M Q E => t δ M (fun b M1 => br b (Q true M1) (u δ M1 Q E)) E
def dNot (t : DTT) : DTT := fun δ M Q E => t δ M (fun b M1 => Q (!b) M1) E
theorem w_and1 (h : DT X W a tA) : DW X W (.BoolOp .And [a] pos) tA := pw_and1 h
theorem w_or1 (h : DT X W a tA) : DW X W (.BoolOp .Or [a] pos) tA := pw_or1 h
theorem w_and (h : DT X W a tA) (h2 : DW X W (.BoolOp .And (b :: rest) pos) tB') : DW X W (.BoolOp .And (a :: b :: rest) pos) (dAnd tA tB') := by
  refine pw_imp (pw_and h h2) fun σ H Q q => ?_
  obtain ⟨I, M, F, δ, Qd, Ed, hr, rs, q, fq, fx⟩ := q
  refine ⟨I, M, F, δ, _, Ed, hr, rs, q, fun b M1 I1 H1 q1 s1 hr1 => ?_, fx⟩
  cases b with
  | true => exact (if_pos rfl).mpr ⟨I1, M1, F, δ, Qd, Ed, hr1, rs.mono s1, q1, fun b M2 I2 H2 q2 s2 hr2 => fq b M2 I2 H2 q2 (s1.trans s2) hr2, fx.mono s1⟩
  | false => exact (if_neg Bool.false_ne_true).mpr (fq false M1 I1 H1 q1 s1 hr1)
theorem w_or (h : DT X W a tA) (h2 : DW X W (.BoolOp .Or (b :: rest) pos) tB') : DW X W (.BoolOp .Or (a :: b :: rest) pos) (dOr tA tB') := by
  refine pw_imp (pw_or h h2) fun σ H Q q => ?_
  obtain ⟨I, M, F, δ, Qd, Ed, hr, rs, q, fq, fx⟩ := q
  refine ⟨I, M, F, δ, _, Ed, hr, rs, q, fun b M1 I1 H1 q1 s1 hr1 => ?_, fx⟩
  cases b with
  | true => exact (if_pos rfl).mpr (fq true M1 I1 H1 q1 s1 hr1)
  | false => exact (if_neg Bool.false_ne_true).mpr ⟨I1, M1, F, δ, Qd, Ed, hr1, rs.mono s1, q1, fun b M2 I2 H2 q2 s2 hr2 => fq b M2 I2 H2 q2 (s1.trans s2) hr2, fx.mono s1⟩
theorem t_w (h : DW X W e tA) : DT X W e tA := PW.pt h
theorem t_not (h : DT X W a tA) : DT X W (.UnaryOp .Not a pos) (dNot tA) := by
  refine pt_imp (pt_not h) fun σ H Q q => ?_
  obtain ⟨I, M, F, δ, Qd, Ed, hr, rs, q, fq, fx⟩ := q
  exact ⟨I, M, F, δ, _, Ed, hr, rs, q, fun b M1 I1 H1 q1 s1 hr1 => fq _ M1 I1 H1 q1 s1 hr1, fx⟩
def dAndV (ta tb : DTE) : DTE := fun δ M Q E => ta δ M (fun x M1 => dB x fun c => br c (tb δ M1 Q E) (Q (.bl false) M1)) E
def dNotV (ta : DTE) : DTE := fun δ M Q E => ta δ M (fun x M1 => dB x fun c => Q (.bl (!c)) M1) E
theorem d_one {op} (h : DE X W a ta) : DE X W (.BoolOp op [a] pos) ta := pe_one h
theorem d_and (h : DE X W a ta) (h2 : DE X W (.BoolOp .And (b :: rest) pos) tb) : DE X W (.BoolOp .And (a :: b :: rest) pos) (dAndV ta tb) := by
  refine pe_imp (pe_and h h2) fun σ H Q q => ?_
  obtain ⟨I, M, F, δ, Qd, Ed, hr, rs, q, fq, fx⟩ := q
  refine ⟨I, M, F, δ, _, Ed, hr, rs, q, fun x M1 I1 H1 v q1 s1 hr1 r1 => ?_, fx⟩
  obtain ⟨c, e1, e2⟩ := dB_out r1 q1
  refine ⟨c, e1, ?_⟩
  cases c with
  | true => exact (if_pos rfl).mpr ⟨I1, M1, F, δ, Qd, Ed, hr1, rs.mono s1, e2, fq.mono s1, fx.mono s1⟩
  | false => exact (if_neg Bool.false_ne_true).mpr (fq _ M1 I1 H1 _ e2 s1 hr1 (.bl false))
theorem d_not (h : DE X W a ta) : DE X W (.UnaryOp .Not a pos) (dNotV ta) := by
  refine pe_imp (pe_not h) fun σ H Q q => ?_
  obtain ⟨I, M, F, δ, Qd, Ed, hr, rs, q, fq, fx⟩ := q
  refine ⟨I, M, F, δ, _, Ed, hr, rs, q, fun x M1 I1 H1 v q1 s1 hr1 r1 => ?_, fx⟩
  obtain ⟨c, e1, e2⟩ := dB_out r1 q1
  exact ⟨c, e1, fq _ M1 I1 H1 _ e2 s1 hr1 (.bl _)⟩
def dIfE (t : DTT) (ta tb : DTE) : DTE := fun δ M Q E => t δ M (fun b M1 => br b (ta δ M1 Q E) (tb δ M1 Q E)) E
theorem d_ifExp (h : DT X W c tA) (ha : DE X W a ta) (hb : DE X W b tb) : DE X W (.IfExp c a b pos) (dIfE tA ta tb) := by
  refine pe_imp (pe_ifExp h ha hb) fun σ H Q q => ?_
  obtain ⟨I, M, F, δ, Qd, Ed, hr, rs, q, fq, fx⟩ := q
  refine ⟨I, M, F, δ, _, Ed, hr, rs, q, fun c M1 I1 H1 q1 s1 hr1 => ?_, fx⟩
  cases c with
  | true => exact (if_pos rfl).mpr ⟨I1, M1, F, δ, Qd, Ed, hr1, rs.mono s1, q1, fq.mono s1, fx.mono s1⟩
  | false => exact (if_neg Bool.false_ne_true).mpr ⟨I1, M1, F, δ, Qd, Ed, hr1, rs.mono s1, q1, fq.mono s1, fx.mono s1⟩
end
section
variable {X : Cx} {W : WX} {st : Stmt} {rest : List Stmt} {t u : DTS} {e : Expr} {te : DTE} {pos : Pos}
def dNext : DTS := fun Dd δ M => Dd.nx δ M
def dSeq (t u : DTS) : DTS := fun Dd δ M => t { Dd with nx := u Dd } δ M
theorem s_nil : DSs X W [] dNext := pss_imp pss_nil fun Dn σ H h => by
  obtain ⟨I, M, F, δ, Dd, hr, rs, q, f⟩ := h
  exact f.nx δ M I H σ q (Same.refl I) hr rs
theorem scn (h1 : DSt X W st t) (h2 : DSs X W rest u) : DSs X W (st :: rest) (dSeq t u) := pss_imp (pss_cons h1 h2) fun Dn σ H h => by
  obtain ⟨I, M, F, δ, Dd, hr, rs, q, f⟩ := h
  refine ⟨I, M, F, δ, _, hr, rs, q, ⟨fun δ' M' I' H' σ' q' s' hr' rs' => ⟨I', M', F, δ', Dd, hr', rs', q', f.mono s'⟩, f.rt, f.ex, f.bk, f.ct⟩⟩
theorem s_one (h1 : DSt X W st t) : DSs X W [st] t := pss_one h1
theorem FinS.x {K : PySem.W.Frag} {I F : Hp} {Dd : DEnds} {Dn : Ends} (f : FinS K W I F Dd Dn) {σ : L2.St} {δ : DS} (rs : RepS K I σ δ) : FinX K I F (fun c fo M => Dd.ex c fo δ M) (WE W σ) :=
  fun c fo M' I' H' dd q s hr x => f.ex c fo δ M' I' H' σ dd q s hr (rs.mono s) x
def dDrop (te : DTE) : DTS := fun Dd δ M => te δ M (fun _ M1 => Dd.nx δ M1) (fun c fo M' => Dd.ex c fo δ M')
theorem s_expr (he : DE X W e te) (hs : swapsWith e none pos.line X.env = pure false := by rfl) : DSt X W (.Expr e pos) (dDrop te) := ps_imp (ps_expr he hs) fun Dn σ H h => by
  obtain ⟨I, M, F, δ, Dd, hr, rs, q, f⟩ := h
  exact ⟨I, M, F, δ, _, _, hr, rs, q, fun d M' I' H' v q' s' hr' r' => f.nx δ M' I' H' σ q' s' hr' (rs.mono s'), f.x rs⟩
def dRet (te : DTE) : DTS := fun Dd δ M => te δ M Dd.rt (fun c fo M' => Dd.ex c fo δ M')
theorem s_ret (he : DE X W e te) : DSt X W (.Return (some e) pos) (dRet te) := ps_imp (ps_ret he) fun Dn σ H h => by
  obtain ⟨I, M, F, δ, Dd, hr, rs, q, f⟩ := h
  exact ⟨I, M, F, δ, _, _, hr, rs, q, f.rt, f.x rs⟩
def dIf (c : DTT) (t u : DTS) : DTS := fun Dd δ M => c δ M (fun b M1 => br b (t Dd δ M1) (u Dd δ M1)) (fun c fo M' => Dd.ex c fo δ M')
theorem s_if {c : Expr} {a b : List Stmt} {tc : DTT} (hc : DT X W c tc) (ha : DSs X W a t) (hb : DSs X W b u) : DSt X W (.If c a b pos) (dIf tc t u) := ps_imp (ps_if hc ha hb) fun Dn σ H h => by
  obtain ⟨I, M, F, δ, Dd, hr, rs, q, f⟩ := h
  refine ⟨I, M, F, δ, _, _, hr, rs, q, fun c M1 I1 H1 q1 s1 hr1 => ?_, f.x rs⟩
  cases c with
  | true => exact (if_pos rfl).mpr ⟨I1, M1, F, δ, Dd, hr1, rs.mono s1, q1, f.mono s1⟩
  | false => exact (if_neg Bool.false_ne_true).mpr ⟨I1, M1, F, δ, Dd, hr1, rs.mono s1, q1, f.mono s1⟩
theorem s_never : DSt X W st (fun _ _ _ => False) := ps_imp ps_never fun Dn σ H h => by
  obtain ⟨I, M, F, δ, Dd, hr, rs, q, f⟩ := h
  exact q.elim
end
abbrev DTG := D → DS → Mp → (DS → Mp → Prop) → DXK → Prop
abbrev DTGs := List D → DS → Mp → (DS → Mp → Prop) → DXK → Prop
def FinG (K : PySem.W.Frag) (I F : Hp) (Qd : DS → Mp → Prop) (Q : L2.St → Hp → Prop) : Prop := ∀ δ' M' I' H' σ', Qd δ' M' → Same I I' → HR K I' M' F H' → RepS K I' σ' δ' → Q σ' H'
def lG (K : PySem.W.Frag) (W : WX) (g : DTG) : TG := fun v σ H Q => ∃ I M F δ d Qd Ed, HR K I M F H ∧ RepS K I σ δ ∧ Rep K I v d ∧ g d δ M Qd Ed ∧ FinG K I F Qd Q ∧ FinX K I F Ed (WE W σ)
def lGs (K : PySem.W.Frag) (W : WX) (g : DTGs) : TGs := fun vs σ H Q => ∃ I M F δ ds Qd Ed, HR K I M F H ∧ RepS K I σ δ ∧ Reps K I vs ds ∧ g ds δ M Qd Ed ∧ FinG K I F Qd Q ∧ FinX K I F Ed (WE W σ)
def DG (X : Cx) (W : WX) (tg : Expr) (g : DTG) : Prop := PG X tg (lG X.K W g)
def DGs (X : Cx) (W : WX) (tg : List Expr) (g : DTGs) : Prop := PGs X tg (lGs X.K W g)
theorem pg_imp {X : Cx} {e : Expr} {t t' : TG} (h : PG X e t) (i : ∀ v σ H Q, t' v σ H Q → t v σ H Q) : PG X e t' := ⟨fun pins s σ H v u Q I r q => h.run pins s σ H v u Q I r (i v σ H Q q)⟩
theorem pgs_imp {X : Cx} {e : List Expr} {t t' : TGs} (h : PGs X e t) (i : ∀ v σ H Q, t' v σ H Q → t v σ H Q) : PGs X e t' := ⟨fun pins s σ H v u Q I r q => h.run pins s σ H v u Q I r (i v σ H Q q)⟩
section
variable {X : Cx} {W : WX} {pos : Pos} {e : Expr} {te : DTE}
def gdName (i : Nat) : DTG := fun d δ M Q _ => Q (δ.set i (some d)) M
theorem g_name (i : Nat) {x : Str} (hN : X.N.Nodup) (hi : X.N[i]? = some x := by rfl) (hx : Loc X.env.scope x := by first | exact Or.inl rfl | exact Or.inr rfl) (hf : X.fn x = true ∨ X.env.scope.names.lookup x = some .local := by first | exact .inl rfl | exact .inr rfl | assumption) : DG X W (.Name x pos) (gdName i) :=
  pg_imp (pg_name hN hi hx hf) fun v σ H Q h => by
    obtain ⟨I, M, F, δ, d, Qd, Ed, hr, rs, r, q, fq, fx⟩ := h
    exact fq _ M I H _ q (Same.refl I) hr (rs.set i r)
def gdTup (n : Nat) (t : DTGs) : DTG := fun d δ M Q E => match d with
  | .tup ds => ds.length = n ∧ t ds δ M Q E
  | _ => False
def gdNames : List Nat → DTGs
  | [] => fun ds δ M Q _ => ds = [] ∧ Q δ M
  | i :: is => fun ds δ M Q E => match ds with
    | d :: r => gdNames is r (δ.set i (some d)) M Q E
    | [] => False
theorem gdNames_E : ∀ (is : List Nat) (ds : List D) (δ : DS) (M : Mp) (Q : DS → Mp → Prop) (E E' : DXK), gdNames is ds δ M Q E → gdNames is ds δ M Q E'
  | [], _, _, _, _, _, _, h => h
  | i :: is, [], _, _, _, _, _, h => h.elim
  | i :: is, d :: r, δ, M, Q, E, E', h => gdNames_E is r (δ.set i (some d)) M Q E E' h
theorem gs_nil : DGs X W [] (gdNames []) := pgs_imp pgs_nil fun v σ H Q h => by
  obtain ⟨I, M, F, δ, ds, Qd, Ed, hr, rs, r, ⟨e, q⟩, fq, fx⟩ := h
  subst e
  cases r
  exact ⟨rfl, fq _ M I H _ q (Same.refl I) hr rs⟩
theorem gs_cons (i : Nat) {x : Str} {es : List Expr} {is : List Nat} (hN : X.N.Nodup) (h2 : DGs X W es (gdNames is)) (hi : X.N[i]? = some x := by rfl) (hx : Loc X.env.scope x := by first | exact Or.inl rfl | exact Or.inr rfl) (hf : X.fn x = true ∨ X.env.scope.names.lookup x = some .local := by first | exact .inl rfl | exact .inr rfl | assumption)
    (hs : (assignEach (.Name x pos :: es) X.env).map (·.2) = assign (.Name x pos) X.env :: (assignEach es X.env).map (·.2) := by rfl) : DGs X W (.Name x pos :: es) (gdNames (i :: is)) :=
  pgs_imp (pgs_cons (pg_name hN hi hx hf) h2 hs) fun v σ H Q h => by
    obtain ⟨I, M, F, δ, ds, Qd, Ed, hr, rs, r, q, fq, fx⟩ := h
    cases r with
    | nil => exact q.elim
    | @cons v1 d1 vr dr r1 rr => exact ⟨v1, vr, rfl, I, M, F, _, dr, Qd, fun _ _ _ => False, hr, rs.set i r1, rr, gdNames_E is dr _ M Qd Ed _ q, fq, fun _ _ _ _ _ _ z => z.elim⟩
theorem g_tup {es : List Expr} {k : Nat} {t : List Nat} {n : Nat} (hc : X.calm = true) (h : DGs X W es (gdNames t))
    (hn : (assignEach es X.env).length = n := by rfl) (hst : (assignEach es X.env).findIdx? (·.1) = none := by rfl) : DG X W (.Tuple es k pos) (gdTup n (gdNames t)) :=
  pg_imp (pg_tup hc h hn hst) fun v σ H Q h => by
    obtain ⟨I, M, F, δ, d, Qd, Ed, hr, rs, r, q, fq, fx⟩ := h
    cases r with
    | @tup a vs ds s rr => exact ⟨a, vs, rfl, hr.st s, by rw [rr.len]; exact q.1, I, M, F, δ, ds, Qd, Ed, hr, rs, rr, q.2, fq, fx⟩
    | _ => exact q.elim
def dAsg (te : DTE) (g : DTG) : DTS := fun Dd δ M => te δ M (fun d M1 => g d δ M1 Dd.nx (fun c fo M' => Dd.ex c fo δ M')) (fun c fo M' => Dd.ex c fo δ M')
theorem s_asg {tg : Expr} {g : DTG} (he : DE X W e te) (hg : DG X W tg g) (hs : swapsWithSole [tg] e pos.line X.env = pure false := by rfl) (hw : swappedStores [tg] e X.env = pure none := by rfl) (h1 : (assignEach [tg] X.env).map (·.2) = [assign tg X.env] := by rfl) : DSt X W (.Assign [tg] e pos) (dAsg te g) :=
  ps_imp (ps_asg he hg hs hw (h1 := h1)) fun Dn σ H h => by
    obtain ⟨I, M, F, δ, Dd, hr, rs, q, f⟩ := h
    refine ⟨I, M, F, δ, _, _, hr, rs, q, fun d M1 I1 H1 v q1 s1 hr1 r1 => ?_, f.x rs⟩
    exact ⟨I1, M1, F, δ, d, _, _, hr1, rs.mono s1, r1, q1, fun δ' M' I' H' σ' q' s' hr' rs' => f.nx δ' M' I' H' σ' q' (s1.trans s') hr' rs', (f.x rs).mono s1⟩
theorem s_set (i : Nat) {x : Str} {pos' : Pos} (hN : X.N.Nodup) (he : DE X W e te) (hi : X.N[i]? = some x := by rfl) (hx : Loc X.env.scope x := by first | exact Or.inl rfl | exact Or.inr rfl) (hs : swapsWith e (some (.Name x pos')) pos.line X.env = pure false := by rfl)
    (hf : X.fn x = true ∨ X.env.scope.names.lookup x = some .local := by first | exact .inl rfl | exact .inr rfl | assumption) : DSt X W (.Assign [.Name x pos'] e pos) (dAsg te (gdName i)) :=
  ps_imp (ps_set (i := i) hN hi hx he hs hf) fun Dn σ H h => by
    obtain ⟨I, M, F, δ, Dd, hr, rs, q, f⟩ := h
    refine ⟨I, M, F, δ, _, _, hr, rs, q, fun d M1 I1 H1 v q1 s1 hr1 r1 => ?_, f.x rs⟩
    exact f.nx _ M1 I1 H1 _ q1 s1 hr1 ((rs.mono s1).set i r1)
end
end DL
namespace DL
open PySem PySem.Spec PyProof.Rows L2
section
variable {X : Cx} {W : WX} {e : Expr} {es : List Expr} {te : DTE} {ta : DTA} {pos : Pos}
def dNil : DTA := fun _ M Q _ => Q [] M
def dCn (te : DTE) (ta : DTA) : DTA := fun δ M Q E => te δ M (fun d M1 => ta δ M1 (fun ds M2 => Q (d :: ds) M2) E) E
theorem anl : DA X W [] dNil := pa_imp pa_nil fun σ H Q h => by
  obtain ⟨I, M, F, δ, Qd, Ed, hr, rs, q, fq, fx⟩ := h
  exact fq [] M I H [] q (Same.refl I) hr .nil
theorem acn (he : DE X W e te) (ha : DA X W es ta) (hs : starEach (e :: es) X.env = (false, eval e X.env) :: starEach es X.env := by rfl) : DA X W (e :: es) (dCn te ta) := pa_imp (pa_cons he ha hs) fun σ H Q h => by
  obtain ⟨I, M, F, δ, Qd, Ed, hr, rs, q, fq, fx⟩ := h
  refine ⟨I, M, F, δ, _, Ed, hr, rs, q, fun d M1 I1 H1 v q1 s1 hr1 r1 => ?_, fx⟩
  refine ⟨I1, M1, F, δ, _, Ed, hr1, rs.mono s1, q1, fun ds M2 I2 H2 vs q2 s2 hr2 r2 => ?_, fx.mono s1⟩
  exact fq _ M2 I2 H2 _ q2 (s1.trans s2) hr2 (.cons (r1.mono s2) r2)
def dLst (ta : DTA) : DTE := fun δ M Q E => ta δ M (fun ds M1 => ds.length ≤ sizeLine ∧ Q (.lst ds) M1) E
def dLstM (ta : DTA) : DTE := fun δ M Q E => ta δ M (fun ds M1 => ds.length ≤ sizeLine ∧ ∀ p, M1 p = none → Q (.ref p) (updM M1 p (.lst ds))) E
def dTup (ta : DTA) : DTE := fun δ M Q E => ta δ M (fun ds M1 => ds.length ≤ sizeLine ∧ Q (.tup ds) M1) E
theorem fin_lst {K : PySem.W.Frag} {I F : Hp} {M : Mp} {H : Hp} {Qd : DK} {Q : VK} (fq : Fin K I F Qd Q) (hr : HR K I M F H) {vs : List V} {ds : List D} (r : Reps K I vs ds) (q : Qd (.lst ds) M) : ∀ p, H p = none → Q (.ref p) (upd H p (.lst vs)) := fun p hp => by
  have s := same_new (o := .lst vs) (hr.fresh hp).1
  exact fq _ M _ _ _ q s (hr.newI hp _) (.lst upd_same (r.mono s))
theorem fin_tup {K : PySem.W.Frag} {I F : Hp} {M : Mp} {H : Hp} {Qd : DK} {Q : VK} (fq : Fin K I F Qd Q) (hr : HR K I M F H) {vs : List V} {ds : List D} (r : Reps K I vs ds) (q : Qd (.tup ds) M) : ∀ p, H p = none → Q (.ref p) (upd H p (.tup vs)) := fun p hp => by
  have s := same_new (o := .tup vs) (hr.fresh hp).1
  exact fq _ M _ _ _ q s (hr.newI hp _) (.tup (SqT.of upd_same) (r.mono s))
theorem fin_lstM {K : PySem.W.Frag} {I F : Hp} {M : Mp} {H : Hp} {Qd : DK} {Q : VK} (fq : Fin K I F Qd Q) (hr : HR K I M F H) {vs : List V} {ds : List D} (r : Reps K I vs ds) (q : ∀ p, M p = none → Qd (.ref p) (updM M p (.lst ds))) : ∀ p, H p = none → Q (.ref p) (upd H p (.lst vs)) := fun p hp =>
  fq _ _ _ _ _ (q p (hr.fresh hp).2.1) (Same.refl I) (hr.newM hp (o := .lst vs) (m := .lst ds) ⟨vs, rfl, r⟩) (.ref p)
theorem d_lst (ha : DA X W es ta) : DE X W (.List es pos) (dLst ta) := pe_imp (pe_lst ha) fun σ H Q h => by
  obtain ⟨I, M, F, δ, Qd, Ed, hr, rs, q, fq, fx⟩ := h
  refine ⟨I, M, F, δ, _, Ed, hr, rs, q, fun ds M1 I1 H1 vs q1 s1 hr1 r1 => ⟨by rw [r1.len]; exact q1.1, fin_lst (fq.mono s1) hr1 r1 q1.2⟩, fx⟩
theorem d_lstM (ha : DA X W es ta) : DE X W (.List es pos) (dLstM ta) := pe_imp (pe_lst ha) fun σ H Q h => by
  obtain ⟨I, M, F, δ, Qd, Ed, hr, rs, q, fq, fx⟩ := h
  refine ⟨I, M, F, δ, _, Ed, hr, rs, q, fun ds M1 I1 H1 vs q1 s1 hr1 r1 => ⟨by rw [r1.len]; exact q1.1, fin_lstM (fq.mono s1) hr1 r1 q1.2⟩, fx⟩
theorem d_tup {x1} (ha : DA X W es ta) : DE X W (.Tuple es x1 pos) (dTup ta) := pe_imp (pe_tup ha) fun σ H Q h => by
  obtain ⟨I, M, F, δ, Qd, Ed, hr, rs, q, fq, fx⟩ := h
  refine ⟨I, M, F, δ, _, Ed, hr, rs, q, fun ds M1 I1 H1 vs q1 s1 hr1 r1 => ⟨by rw [r1.len]; exact q1.1, fin_tup (fq.mono s1) hr1 r1 q1.2⟩, fx⟩
end
abbrev DSp := List D → Mp → DK → DXK → Prop
def lSp (K : PySem.W.Frag) (sp : DSp) : Sp := fun vs H Q E => ∃ I M F ds Qd Ed, HR K I M F H ∧ Reps K I vs ds ∧ sp ds M Qd Ed ∧ Fin K I F Qd Q ∧ FinX K I F Ed E
structure Fn (P : Program) (w : World) (K : PySem.W.Frag) (mg : Str → Option Value) (base : Heap) (k : Nat) (x : Str) (ps : List Str) (sp : DSp) : Prop where
  ex : ∃ (f : Addr) (fd : FuncData), mg x = some (.ref f) ∧ PySem.W.keepIn K (.ref f) = true ∧ ((∀ us : List Value, us.length = ps.length → bindArgs fd ⟨us, []⟩ = pure (ps.zip us)) ∧ ∃ o, K.lookup f = some o ∧ o.data = .func fd) ∧ FnG P w K mg base (L2.CX P w) k f fd ps (lSp K sp)
theorem Fn.up {P : Program} {w : World} {K : PySem.W.Frag} {mg : Str → Option Value} {base : Heap} {j k : Nat} {x : Str} {ps : List Str} {sp : DSp} (h : Fn P w K mg base j x ps sp) (l : j ≤ k) : Fn P w K mg base k x ps sp :=
  let ⟨f, fd, a, b, c, d⟩ := h.ex
  ⟨f, fd, a, b, c, d.up l⟩
structure Good (X : Cx) (W : WX) : Prop where
  calm : X.calm = true
  tk : Takes X W
  own : PassesOwn (model X.prog X.w) X.A X.env X.xe
  ng : NoGd X.A
section
variable {X : Cx} {W : WX} {e : Expr} {es : List Expr} {te : DTE} {ta : DTA} {pos p : Pos} {k : Nat} {x : Str} {ps : List Str} {sp : DSp}
def dCall (sp : DSp) (ta : DTA) : DTE := fun δ M Q E => ta δ M (fun ds M1 => sp ds M1 Q E) E
end
def dstart (N : List Str) (ds : List D) : DS := ds.map some ++ List.replicate (N.length - ds.length) none
theorem reps_get {K : PySem.W.Frag} {I : Hp} : ∀ {vs : List V} {ds : List D}, Reps K I vs ds → ∀ (i : Nat) (d : D), ds[i]? = some d → ∃ v, vs[i]? = some v ∧ Rep K I v d
  | _, _, .nil, i, d, h => by simp at h
  | _, _, .cons r _, 0, d, h => by simp at h; subst h; exact ⟨_, rfl, r⟩
  | _, _, .cons _ rr, i + 1, d, h => by
    obtain ⟨v, a, b⟩ := reps_get rr i d (by simpa using h)
    exact ⟨v, by simpa using a, b⟩
theorem reps_start {K : PySem.W.Frag} {I : Hp} {N : List Str} {vs : List V} {ds : List D} (r : Reps K I vs ds) : RepS K I (L2.start N vs) (dstart N ds) := by
  refine ⟨by simp [L2.start, dstart, r.len], fun i d h => ?_⟩
  unfold dstart at h
  by_cases hi : i < ds.length
  · rw [List.getElem?_append_left (by simpa using hi), List.getElem?_map] at h
    cases e : ds[i]? with
    | none => rw [e] at h; cases h
    | some d' =>
      rw [e] at h
      cases h
      obtain ⟨v, a, b⟩ := reps_get r i _ e
      refine ⟨v, ?_, b⟩
      unfold L2.start
      rw [List.getElem?_append_left (by simpa [r.len] using hi), List.getElem?_map, a]
      rfl
  · rw [List.getElem?_append_right (by simpa using hi), List.getElem?_replicate] at h
    split at h <;> cases h
section
variable {P : Program} {w : World} {K : PySem.W.Frag} {mg : Str → Option Value} {base : Heap}
theorem good_of {N : List Str} {qual : Str} {sc : Scope} {f : Addr} {cdv : Value} {A : Around} {l : List Env} {s : Shared} {H : Hp} {E : XK} (ng : NoGd A) : Good (cxOf (L2.CX P w) P w K mg base N qual sc f cdv A l s H E) (fun cls d _ H => E cls d H) :=
  ⟨rfl, takes_of rfl rfl rfl rfl, passes_of rfl, nogd_deeper ng _⟩
theorem dfun {x qual : Str} {st : Stmt} {f : Addr} {fd : FuncData} {N ps : List Str} {k : Nat} {sp : DSp} (F : L2.Fun K x qual st f fd) (hm : mg x = some (.ref f)) (hb : ∀ (kV doc pm : Value) (an : Option Addr) (cdv ct : Value) (us : List Value), us.length = ps.length → bindArgs (PySem.W.fnOf x qual (defArgs st) (defBody st) (defScope st) .none kV doc pm an cdv ct) ⟨us, []⟩ = pure (ps.zip us)) (S : FnScope N ps (defScope st)) (len : ∀ ds M Q E, sp ds M Q E → ds.length = ps.length)
    (body : ∀ (cdv : Value) (A : Around) (l : List Env) (s : Shared) (H : Hp) (E : XK), Good (cxOf (L2.CX P w) P w K mg base N qual (defScope st) f cdv A l s H E) (fun cls d _ H => E cls d H) → Room k (A.deeper (envOfC qual (defScope st) s.heap.objs.size f cdv)) →
      ∃ t, DSs (cxOf (L2.CX P w) P w K mg base N qual (defScope st) f cdv A l s H E) (fun cls d _ H => E cls d H) (defBody st) t ∧ ∀ ds M Qd Ed, sp ds M Qd Ed → t { nx := fun _ M' => Qd .non M', rt := Qd, ex := fun c fo _ M' => Ed c fo M' } (dstart N ds) M) :
    Fn P w K mg base (k + 1) x ps sp := by
  have kp := F.kp
  obtain ⟨oc, od, kV, doc, pm, an, cdv, ct, osl, rfl, lk, hcd⟩ := F.ex
  refine ⟨f, _, hm, kp, ⟨hb kV doc pm an cdv ct, _, lk, rfl⟩, fng_of lk hcd S (fun vs H Q E h => ?_) fun A l s H vs Q E ng rm h => ?_⟩
  · obtain ⟨I, M, Fr, ds, Qd, Ed, hr, rs, q, _, _⟩ := h
    rw [rs.len]
    exact len _ _ _ _ q
  · obtain ⟨t, ht, hq⟩ := body cdv A l s H E (good_of ng) rm
    refine ⟨_, ht, ?_⟩
    obtain ⟨I, M, Fr, ds, Qd, Ed, hr, rs, q, fq, fx⟩ := h
    refine ⟨I, M, Fr, _, _, hr, reps_start rs, hq ds M Qd Ed q, ⟨fun δ' M' I' H' σ' q' s' hr' rs' => fq _ M' I' H' _ q' s' hr' .non, fq, fun c fo δ' M' I' H' σ' dd q' s' hr' rs' xd => fx c fo M' I' H' dd q' s' hr' xd, fun _ _ _ _ _ z => z.elim, fun _ _ _ _ _ z => z.elim⟩⟩
end
inductive Src where
  | data | at (a : Addr) (xs : List D) | lk (a : Addr) (m : MO) | two (a : Addr) (xs : List D) (b : Addr) (ys : List D)
def Src.ok : Src → Mp → Prop → Prop
  | .data, _, P => P
  | .at a xs, M, P => M a = some (.lst xs) ∧ P
  | .lk a m, M, P => M a = some m ∧ P
  | .two a xs b ys, M, P => (M a = some (.lst xs) ∧ M b = some (.lst ys)) ∧ P
def Src.holds : Src → Mp → Prop
  | .data, _ => True
  | .at a xs, M => M a = some (.lst xs)
  | .lk a m, M => M a = some m
  | .two a xs b ys, M => M a = some (.lst xs) ∧ M b = some (.lst ys)
theorem Src.ok_iff {s : Src} {M : Mp} {P : Prop} (h : s.ok M P) : s.holds M ∧ P := by
  cases s with
  | data => exact ⟨trivial, h⟩
  | «at» a xs => exact h
  | lk a m => exact h
  | two a xs b ys => exact h
abbrev DTI := DS → Mp → (List D → Src → Mp → Prop) → DXK → Prop
structure DWalk (K : PySem.W.Frag) (I : Hp) (J : It) (xs : List D) (src : Src) : Prop where
  goes : ∀ i I' M' F H, i < xs.length → Same I I' → HR K I' M' F H → src.holds M' → J.go i H
  stops : ∀ I' M' F H, Same I I' → HR K I' M' F H → src.holds M' → J.stop xs.length H
  yields : ∀ i x I' M' F H H', i < xs.length → Same I I' → HR K I' M' F H → src.holds M' → J.yld i H x H' → ∃ I2 d, Same I' I2 ∧ HR K I2 M' F H' ∧ xs[i]? = some d ∧ Rep K I2 x d
def lI (K : PySem.W.Frag) (W : WX) (di : DTI) : TI := fun σ H R => ∃ I M F δ Rd Ed, HR K I M F H ∧ RepS K I σ δ ∧ di δ M Rd Ed ∧ (∀ xs src M' I' H' J, Rd xs src M' → src.holds M' → Same I I' → HR K I' M' F H' → DWalk K I' J xs src → R J H') ∧ FinX K I F Ed (WE W σ)
def DI (X : Cx) (W : WX) (tg iter : Expr) (di : DTI) : Prop := PI X tg iter (lI X.K W di)
theorem pi_imp {X : Cx} {tg iter : Expr} {t t' : TI} (h : PI X tg iter t) (i : ∀ σ H R, t' σ H R → t σ H R) : PI X tg iter t' := ⟨fun pins s σ H R I q => h.run pins s σ H R I (i σ H R q)⟩
def dLoop (g : DTG) (tb : DTS) (src : Src) : List D → DTS
  | [] => fun Dd δ M => src.ok M (Dd.nx δ M)
  | x :: r => fun Dd δ M => src.ok M (g x δ M (fun δ1 M1 => tb { Dd with nx := dLoop g tb src r Dd, ct := dLoop g tb src r Dd, bk := Dd.nx } δ1 M1) (fun c fo M' => Dd.ex c fo δ M'))
def dFor (di : DTI) (g : DTG) (tb : DTS) : DTS := fun Dd δ M => di δ M (fun xs src M1 => dLoop g tb src xs Dd δ M1) (fun c fo M' => Dd.ex c fo δ M')
section
variable {X : Cx} {W : WX} {tg iter : Expr} {body : List Stmt} {di : DTI} {g : DTG} {tb : DTS} {pos : Pos}
theorem s_for (gd : Good X W) (hi : DI X W tg iter di) (hg : DG X W tg g) (hb : DSs X W body tb) (hs : ∀ x, foldedSetIterable iter X.env x = pure x := by intro _; rfl) : DSt X W (.For tg iter body [] pos) (dFor di g tb) := by
  refine ps_imp (ps_for gd.own gd.calm hi hg hb hs) fun Dn σ H h => ?_
  obtain ⟨I, M, F, δ, Dd, hr, rs, q, f⟩ := h
  refine ⟨I, M, F, δ, _, _, hr, rs, q, fun xs src M1 I1 H1 J q1 ho s1 hr1 wk => ?_, f.x rs⟩
  refine ⟨fun i m σ' H' => m = xs.length - i ∧ i ≤ xs.length ∧ ∃ I' M' δ', Same I1 I' ∧ HR X.K I' M' F H' ∧ RepS X.K I' σ' δ' ∧ dLoop g tb src (xs.drop i) Dd δ' M', ⟨xs.length, by simp, Nat.zero_le _, I1, M1, δ, Same.refl I1, hr1, rs.mono s1, q1⟩, ?_⟩
  rintro i m σ' H' ⟨rfl, hi, I', M', δ', s', hr', rs', q'⟩
  by_cases hlt : i < xs.length
  · right
    rw [List.drop_eq_getElem_cons hlt] at q'
    obtain ⟨ho', q'⟩ := Src.ok_iff q'
    refine ⟨wk.goes i I' M' F H' hlt s' hr' ho', fun σ2 H2 => ∃ I2 M2 δ2, Same I1 I2 ∧ HR X.K I2 M2 F H2 ∧ RepS X.K I2 σ2 δ2 ∧ dLoop g tb src (xs.drop (i + 1)) Dd δ2 M2, fun σ2 H2 z => ⟨xs.length - (i + 1), by omega, rfl, hlt, z⟩, fun x H2 y => ?_⟩
    obtain ⟨I2, d, s2, hr2, e, r⟩ := wk.yields i x I' M' F H' H2 hlt s' hr' ho' y
    rw [List.getElem?_eq_getElem hlt] at e
    cases e
    have s12 := s'.trans s2
    refine ⟨I2, M', F, δ', _, _, _, hr2, rs'.mono s2, r, q', fun δ3 M3 I3 H3 σ3 q3 s3 hr3 rs3 => ?_, fun c fo M3 I3 H3 dd z s3 hr3 xd => f.ex c fo δ' M3 I3 H3 σ' dd z ((s1.trans s12).trans s3) hr3 ((rs'.mono s2).mono s3) xd⟩
    have f3 := f.mono ((s1.trans s12).trans s3)
    exact ⟨I3, M3, F, δ3, _, hr3, rs3, q3, ⟨fun δ4 M4 I4 H4 σ4 q4 s4 hr4 rs4 => ⟨I4, M4, δ4, (s12.trans s3).trans s4, hr4, rs4, q4⟩, f3.rt, f3.ex, f3.nx, fun δ4 M4 I4 H4 σ4 q4 s4 hr4 rs4 => ⟨I4, M4, δ4, (s12.trans s3).trans s4, hr4, rs4, q4⟩⟩⟩
  · left
    have e : i = xs.length := by omega
    subst e
    rw [List.drop_length] at q'
    obtain ⟨ho', q'⟩ := Src.ok_iff q'
    exact ⟨wk.stops I' M' F H' s' hr' ho', f.nx δ' M' I' H' σ' q' (s1.trans s') hr' rs'⟩
end
section
variable {K : PySem.W.Frag} {I : Hp} {M : Mp} {F H : Hp} {p : Addr} {o o' : HO}
theorem HR.newF (h : HR K I M F H) (hp : H p = none) (o : HO) (ho : ∀ vs, o ≠ .tup vs := by intro _ z; cases z) : HR K I M (upd F p o) (upd H p o) := by
  obtain ⟨h1, h2, h3⟩ := h.fresh hp
  have kp : ∀ d φ, H d = some (.ext φ) → upd H p o d = some (.ext φ) := fun d φ e => by rw [upd_ne (ne_of_none e hp)]; exact e
  refine ⟨fun a u e => ?_, fun a m e => ?_, fun a u e => ?_, ft_upd h.ft ho⟩
  · have q : a ≠ p := fun z => by rw [z, h1] at e; cases e
    rw [upd_ne q]; exact h.imm a u e
  · have q : a ≠ p := fun z => by rw [z, h2] at e; cases e
    rw [upd_ne q]
    obtain ⟨x, y, z, t⟩ := h.mu a m e
    exact ⟨x, y, z, t.mono (Same.refl I) kp⟩
  · by_cases q : a = p
    · subst q; rw [upd_same] at e; rw [upd_same]; exact ⟨e, h1, h2⟩
    · rw [upd_ne q] at e; rw [upd_ne q]; exact h.frm a u e
theorem HR.atF (h : HR K I M (upd F p o) H) : H p = some o ∧ I p = none ∧ M p = none := h.frm p o upd_same
theorem HR.reF (h : HR K I M (upd F p o) H) (nx : ∀ φ, o ≠ .ext φ) (o' : HO) (ho : ∀ vs, o' ≠ .tup vs := by intro _ z; cases z) : HR K I M (upd F p o') (upd H p o') := by
  obtain ⟨h0, h1, h2⟩ := h.atF
  have kp : ∀ d φ, H d = some (.ext φ) → upd H p o' d = some (.ext φ) := fun d φ e => by rw [upd_ne (ne_of e h0 (fun z => nx φ z.symm))]; exact e
  refine ⟨fun a u e => ?_, fun a m e => ?_, fun a u e => ?_, fun a vs e => ?_⟩
  · have q : a ≠ p := fun z => by rw [z, h1] at e; cases e
    rw [upd_ne q]; exact h.imm a u e
  · have q : a ≠ p := fun z => by rw [z, h2] at e; cases e
    rw [upd_ne q]
    obtain ⟨x, y, z, t⟩ := h.mu a m e
    exact ⟨x, y, z, t.mono (Same.refl I) kp⟩
  · by_cases q : a = p
    · subst q; rw [upd_same] at e; rw [upd_same]; exact ⟨e, h1, h2⟩
    · rw [upd_ne q] at e; rw [upd_ne q]; exact h.frm a u (by rw [upd_ne q]; exact e)
  · by_cases q : a = p
    · subst q; rw [upd_same] at e; cases e; exact ho vs rfl
    · rw [upd_ne q] at e; exact h.ft a vs (by rw [upd_ne q]; exact e)
theorem HR.frzF (h : HR K I M (upd F p o) H) (hF : F p = none) : Same I (upd I p o) ∧ HR K (upd I p o) M F H := by
  obtain ⟨h0, h1, h2⟩ := h.atF
  have s := same_new (o := o) h1
  refine ⟨s, fun a u e => ?_, fun a m e => ?_, fun a u e => ?_, ft_off h.ft hF⟩
  · by_cases q : a = p
    · subst q; rw [upd_same] at e; rw [← e]; exact h0
    · rw [upd_ne q] at e; exact h.imm a u e
  · have q : a ≠ p := fun z => by rw [z, h2] at e; cases e
    obtain ⟨x, u, y, z⟩ := h.mu a m e
    rw [upd_ne q]
    exact ⟨x, u, y, z.mono s fun _ _ e => e⟩
  · have q : a ≠ p := fun z => by rw [z, hF] at e; cases e
    rw [upd_ne q]; exact h.frm a u (by rw [upd_ne q]; exact e)
theorem HR.mutF (h : HR K I M (upd F p o) H) (hF : F p = none) {m : MO} (r : RepO K I H p o m) : HR K I (updM M p m) F H := by
  obtain ⟨h0, h1, h2⟩ := h.atF
  refine ⟨h.imm, fun a n e => ?_, fun a u e => ?_, ft_off h.ft hF⟩
  · by_cases q : a = p
    · subst q; rw [updM_same] at e; cases e; exact ⟨h1, o, h0, r⟩
    · rw [updM_ne q] at e; exact h.mu a n e
  · have q : a ≠ p := fun z => by rw [z, hF] at e; cases e
    rw [updM_ne q]; exact h.frm a u (by rw [upd_ne q]; exact e)
end
theorem Reps.snoc {K : PySem.W.Frag} {I : Hp} {v : V} {d : D} (r : Rep K I v d) : ∀ {vs : List V} {ds : List D}, Reps K I vs ds → Reps K I (vs ++ [v]) (ds ++ [d])
  | _, _, .nil => .cons r .nil
  | _, _, .cons a b => .cons a (Reps.snoc r b)
theorem wipe_get (σ : L2.St) (j : Nat) : ∀ vs : List Nat, (wipe σ vs)[j]? = if j ∈ vs then σ[j]?.map (fun _ => none) else σ[j]?
  | [] => by simp [wipe]
  | v :: vs => by
    show ((wipe σ vs).set v none)[j]? = _
    rw [List.getElem?_set]
    by_cases h : v = j
    · subst h
      by_cases hl : v < σ.length
      · simp [wipe_length, hl]
      · simp [wipe_length, hl]
    · rw [if_neg h, wipe_get σ j vs]
      have h' : ¬ j = v := fun z => h z.symm
      simp [h']
theorem wipe_set {σ : L2.St} {i : Nat} {u : Option V} {vs : List Nat} (h : i ∈ vs) : wipe (σ.set i u) vs = wipe σ vs := by
  apply List.ext_getElem?
  intro j
  rw [wipe_get, wipe_get, List.getElem?_set]
  by_cases q : j ∈ vs
  · rw [if_pos q, if_pos q]
    by_cases z : i = j
    · subst z
      by_cases hl : i < σ.length <;> simp [hl]
    · rw [if_neg z]
  · have z : i ≠ j := fun e => q (e ▸ h)
    rw [if_neg q, if_neg q, if_neg z]
theorem wipe_wipe (σ : L2.St) (vs : List Nat) : wipe (wipe σ vs) vs = wipe σ vs := by
  apply List.ext_getElem?
  intro j
  rw [wipe_get, wipe_get]
  by_cases q : j ∈ vs
  · rw [if_pos q, if_pos q]
    cases σ[j]? <;> rfl
  · rw [if_neg q, if_neg q]
def dwipe (δ : DS) : List Nat → DS
  | [] => δ
  | v :: vs => (dwipe δ vs).set v none
theorem RepS.wipe {K : PySem.W.Frag} {I : Hp} {σ : L2.St} {δ : DS} (h : RepS K I σ δ) : ∀ vs : List Nat, RepS K I (L2.wipe σ vs) (dwipe δ vs)
  | [] => h
  | v :: vs => (RepS.wipe h vs).forget v
inductive TgI where
  | one (i : Nat) | tup (is : List Nat)
def gNV : List Nat → TGs
  | [] => gNil
  | i :: is => gCons (gName i) (gNV is)
def setAll : DS → List Nat → List D → DS
  | δ, i :: is, d :: ds => setAll (δ.set i (some d)) is ds
  | δ, _, _ => δ
def setAllV : L2.St → List Nat → List V → L2.St
  | σ, i :: is, v :: vs => setAllV (σ.set i (some v)) is vs
  | σ, _, _ => σ
theorem gNV_of : ∀ (is : List Nat) (vs : List V) (σ : L2.St) (H : Hp) (Q : L2.St → Hp → Prop), vs.length = is.length → Q (setAllV σ is vs) H → gNV is vs σ H Q
  | [], [], σ, H, Q, _, q => ⟨rfl, q⟩
  | i :: is, v :: vs, σ, H, Q, l, q => ⟨v, vs, rfl, gNV_of is vs _ H Q (by simpa using l) q⟩
  | [], _ :: _, _, _, _, l, _ => by simp at l
  | _ :: _, [], _, _, _, l, _ => by simp at l
theorem RepS.setAll {K : PySem.W.Frag} {I : Hp} : ∀ {is : List Nat} {vs : List V} {ds : List D} {σ : L2.St} {δ : DS}, RepS K I σ δ → Reps K I vs ds → RepS K I (setAllV σ is vs) (DL.setAll δ is ds)
  | [], _, _, _, _, h, _ => h
  | i :: is, _, _, _, _, h, .nil => h
  | i :: is, _, _, _, _, h, .cons r rr => by
    have z := RepS.setAll (is := is) (h.set i r) rr
    exact z
theorem wipe_setAll {vs : List Nat} : ∀ {is : List Nat} {xs : List V} {σ : L2.St}, (∀ i ∈ is, i ∈ vs) → wipe (setAllV σ is xs) vs = wipe σ vs
  | [], _, _, _ => rfl
  | i :: is, [], _, _ => rfl
  | i :: is, x :: xs, σ, h => by
    show wipe (setAllV (σ.set i (some x)) is xs) vs = _
    rw [wipe_setAll fun j hj => h j (List.mem_cons_of_mem _ hj), wipe_set (h i List.mem_cons_self)]
def TgI.v (K : PySem.W.Frag) : TgI → TG
  | .one i => gName i
  | .tup is => gTup K is.length (gNV is)
def TgI.in (vs : List Nat) : TgI → Bool
  | .one i => decide (i ∈ vs)
  | .tup is => decide (∀ i ∈ is, i ∈ vs)
def TgI.d (t : TgI) (d : D) (δ : DS) (k : DS → Prop) : Prop := match t with
  | .one i => k (δ.set i (some d))
  | .tup is => match d with | .tup ds => ds.length = is.length ∧ k (setAll δ is ds) | _ => False
theorem TgI.run {K : PySem.W.Frag} {I : Hp} {M : Mp} {F H : Hp} {vs : List Nat} {t : TgI} (hin : t.in vs = true) (hr : HR K I M F H) {x : V} {d : D} (r : Rep K I x d) {σ : L2.St} {δ : DS} (rs : RepS K I σ δ) {k : DS → Prop} (h : t.d d (dwipe δ vs) k) {Q : L2.St → Hp → Prop}
    (hQ : ∀ σ2 δ2, RepS K I σ2 δ2 → wipe σ2 vs = wipe σ vs → k δ2 → Q σ2 H) : t.v K x (wipe σ vs) H Q := by
  cases t with
  | one i =>
    have hi : i ∈ vs := of_decide_eq_true hin
    exact hQ _ _ ((rs.wipe vs).set i r) (by rw [wipe_set hi, wipe_wipe]) h
  | tup is =>
    have hi : ∀ i ∈ is, i ∈ vs := of_decide_eq_true hin
    cases r with
    | @tup a xs ds s rr =>
      refine ⟨a, xs, rfl, hr.st s, by rw [rr.len]; exact h.1, gNV_of is xs _ H Q (by rw [rr.len]; exact h.1) (hQ _ _ ((rs.wipe vs).setAll rr) (by rw [wipe_setAll hi, wipe_wipe]) h.2)⟩
    | _ => exact h.elim
section
variable {X : Cx}
theorem vn_nil : PGs X [] (gNV []) := pgs_nil
theorem vn_cons (i : Nat) {x : Str} {pos : Pos} {es : List Expr} {is : List Nat} (hN : X.N.Nodup) (h : PGs X es (gNV is)) (hi : X.N[i]? = some x := by rfl) (hx : Loc X.env.scope x := by first | exact Or.inl rfl | exact Or.inr rfl)
    (hf : X.fn x = true ∨ X.env.scope.names.lookup x = some .local := by first | exact .inl rfl | exact .inr rfl | assumption) (hs : (assignEach (.Name x pos :: es) X.env).map (·.2) = assign (.Name x pos) X.env :: (assignEach es X.env).map (·.2) := by rfl) : PGs X (.Name x pos :: es) (gNV (i :: is)) :=
  pgs_cons (pg_name hN hi hx hf) h hs
theorem v_one (i : Nat) {x : Str} {pos : Pos} (hN : X.N.Nodup) (hi : X.N[i]? = some x := by rfl) (hx : Loc X.env.scope x := by first | exact Or.inl rfl | exact Or.inr rfl)
    (hf : X.fn x = true ∨ X.env.scope.names.lookup x = some .local := by first | exact .inl rfl | exact .inr rfl | assumption) : PG X (.Name x pos) ((TgI.one i).v X.K) := pg_name hN hi hx hf
theorem v_tup {es : List Expr} {k : Nat} {pos : Pos} {is : List Nat} (hc : X.calm = true) (h : PGs X es (gNV is)) (hn : (assignEach es X.env).length = is.length := by rfl) (hst : (assignEach es X.env).findIdx? (·.1) = none := by rfl) : PG X (.Tuple es k pos) ((TgI.tup is).v X.K) := pg_tup hc h hn hst
end
abbrev W0 : WX := fun _ _ _ _ => False
abbrev E0d : DXK := fun _ _ _ => False
def dYes : DTT := fun _ M Q _ => Q true M
def dComp (t : TgI) (tt : DTT) (te : DTE) (src : Src) (vs : List Nat) (δ : DS) (k : List D → Mp → Prop) : List D → List D → Mp → Prop
  | [], acc, M => src.ok M (acc.length ≤ sizeLine ∧ k acc M)
  | x :: r, acc, M => src.ok M (t.d x (dwipe δ vs) fun δ2 => tt δ2 M (fun b M3 => br b (te δ2 M3 (fun y M4 => dComp t tt te src vs δ k r (acc ++ [y]) M4) E0d) (dComp t tt te src vs δ k r acc M3)) E0d)
def dLc (di : DTI) (t : TgI) (tt : DTT) (te : DTE) (vs : List Nat) : DTE := fun δ M Q E => di δ M (fun xs src M1 => xs.length < sizeLine ∧ dComp t tt te src vs δ (fun acc M2 => Q (.lst acc) M2) xs [] M1) E
section
variable {X : Cx} {W : WX}
theorem lc_lift {K : PySem.W.Frag} {t : TgI} {tt : DTT} {te : DTE} {src : Src} {vs : List Nat} {δ : DS} {k : List D → Mp → Prop} {xs : List D} {J : It} {I1 F H1 : Hp} {M1 : Mp} {σ : L2.St} {Qd : Addr → Hp → Prop}
    (hin : t.in vs = true) (hl : xs.length < sizeLine) (hr1 : HR K I1 M1 F H1) (rs : RepS K I1 σ δ) (wk : DWalk K I1 J xs src) (q : dComp t tt te src vs δ k xs [] M1)
    (fin : ∀ p I' M' H' accV acc, F p = none → Same I1 I' → HR K I' M' (upd F p (.lst accV)) H' → Reps K I' accV acc → k acc M' → Qd p H') (D : Addr) (hD : H1 D = none) :
    ∃ Wv : Nat → Nat → Hp → Prop, (∃ m, Wv 0 m (upd H1 D (.lst []))) ∧ ∀ i m H, Wv i m H →
      (J.stop i H ∧ Qd D H) ∨ (J.go i H ∧ ∃ Nx : Hp → Prop, (∀ H', Nx H' → ∃ m', m' < m ∧ Wv (i + 1) m' H') ∧ ∀ x H', J.yld i H x H' → t.v K x (wipe σ vs) H' fun σ2 H2 => wipe σ2 vs = wipe σ vs ∧ lT K W0 tt σ2 H2 fun b H3 =>
        if b = true then lE K W0 te σ2 H3 fun y H4 => ∃ acc, H4 D = some (.lst acc) ∧ acc.length < sizeLine ∧ Nx (upd H4 D (.lst (acc ++ [y]))) else Nx H3) := by
  have hF := (hr1.fresh hD).2.2
  refine ⟨fun i m H => m = xs.length - i ∧ i ≤ xs.length ∧ ∃ I' M' accV acc, Same I1 I' ∧ HR K I' M' (upd F D (.lst accV)) H ∧ Reps K I' accV acc ∧ acc.length ≤ i ∧ dComp t tt te src vs δ k (xs.drop i) acc M',
    ⟨xs.length, by simp, Nat.zero_le _, I1, M1, [], [], Same.refl I1, hr1.newF hD _, .nil, Nat.le_refl _, q⟩, ?_⟩
  rintro i m H ⟨rfl, hi, I', M', accV, acc, s', hr', ra, la, q'⟩
  by_cases hlt : i < xs.length
  · right
    rw [List.drop_eq_getElem_cons hlt] at q'
    obtain ⟨ho, q'⟩ := Src.ok_iff q'
    refine ⟨wk.goes i I' M' _ H hlt s' hr' ho, fun H2 => ∃ I2 M2 aV a, Same I1 I2 ∧ HR K I2 M2 (upd F D (.lst aV)) H2 ∧ Reps K I2 aV a ∧ a.length ≤ i + 1 ∧ dComp t tt te src vs δ k (xs.drop (i + 1)) a M2, fun H2 z => ⟨xs.length - (i + 1), by omega, rfl, hlt, z⟩, fun x H2 y => ?_⟩
    obtain ⟨I2, d, s2, hr2, e, r⟩ := wk.yields i x I' M' _ H H2 hlt s' hr' ho y
    rw [List.getElem?_eq_getElem hlt] at e
    cases e
    have s12 := s'.trans s2
    refine TgI.run hin hr2 r (rs.mono s12) q' fun σ2 δ2 rs2 ew q2 => ⟨ew, I2, M', upd F D (.lst accV), δ2, _, _, hr2, rs2, q2, fun b M3 I3 H3 q3 s3 hr3 => ?_, fun _ _ _ _ _ _ z => z.elim⟩
    cases b with
    | false => exact (if_neg Bool.false_ne_true).mpr ⟨I3, M3, accV, acc, s12.trans s3, hr3, (ra.mono s2).mono s3, Nat.le_succ_of_le la, q3⟩
    | true =>
      refine (if_pos rfl).mpr ⟨I3, M3, upd F D (.lst accV), δ2, _, _, hr3, rs2.mono s3, q3, fun y4 M4 I4 H4 v4 q4 s4 hr4 r4 => ?_, fun _ _ _ _ _ _ z => z.elim⟩
      have ra4 := ((ra.mono s2).mono s3).mono s4
      refine ⟨accV, hr4.atF.1, by rw [ra4.len]; omega, I4, M4, accV ++ [v4], acc ++ [y4], (s12.trans s3).trans s4, hr4.reF (fun _ z => nomatch z) _, ra4.snoc r4, by rw [List.length_append]; simpa using la, q4⟩
  · left
    have e : i = xs.length := by omega
    subst e
    rw [List.drop_length] at q'
    obtain ⟨ho, q'⟩ := Src.ok_iff q'
    exact ⟨wk.stops I' M' _ H s' hr' ho, fin D I' M' H accV acc hF s' hr' ra q'.2⟩
variable {elt tg iter : Expr} {ifs : List Expr} {scope : Scope} {own : List (Str × Nat)} {pos : Pos} {di : DTI} {t : TgI} {tt : DTT} {te : DTE}
theorem good_blk (g : Good X W) (s : Shared) (H : Hp) (sc : Scope) (ev : Env) (fp : List Addr) : Good (X.blk s H sc ev fp) W0 := ⟨g.calm, takes0, PassesOwn.never, g.ng⟩
def DTs (X : Cx) (ifs : List Expr) (tt : DTT) : Prop := PTs X ifs (lT X.K W0 tt)
theorem ts_nil : DTs X [] dYes := ⟨fun pins s σ H Q I h => pts_nil.run pins s σ H Q I (by
  obtain ⟨I, M, F, δ, Qd, Ed, hr, rs, q, fq, fx⟩ := h
  exact fq true M I H q (Same.refl I) hr)⟩
theorem ts_one {c : Expr} (h : DT X W0 c tt) : DTs X [c] tt := pts_one h
theorem d_lc (N : List Str) (sc : Scope) (own : List (Str × Nat)) (g : Good X W) (hN : X.N.Nodup) (hi : DI X W tg iter di) (ok : blkC N sc scope own = true) (hin : t.in (own.map (·.2)) = true)
    (hg : ∀ (s : Shared) (H : Hp) (C : Addr) (cl : List (Str × Addr)) (fp : List Addr), Good (X.blk s H scope (compEnvC scope cl C X.env) fp) W0 → PG (X.blk s H scope (compEnvC scope cl C X.env) fp) tg (t.v X.K))
    (ht : ∀ (s : Shared) (H : Hp) (C : Addr) (cl : List (Str × Addr)) (fp : List Addr), Good (X.blk s H scope (compEnvC scope cl C X.env) fp) W0 → DTs (X.blk s H scope (compEnvC scope cl C X.env) fp) ifs tt)
    (he : ∀ (s : Shared) (H : Hp) (C : Addr) (cl : List (Str × Addr)) (fp : List Addr), Good (X.blk s H scope (compEnvC scope cl C X.env) fp) W0 → DE (X.blk s H scope (compEnvC scope cl C X.env) fp) W0 elt te) (hs : ∀ x, foldedSetIterable iter X.env x = pure x := by intro _; rfl) (eN : X.N = N := by rfl) (es : X.env.scope = sc := by rfl) :
    DE X W (.ListComp elt [⟨tg, iter, ifs, 0⟩] scope pos) (dLc di t tt te (own.map (·.2))) := by
  refine pe_imp (pe_lc (own := own) (g := t.v X.K) (tt := lT X.K W0 tt) (te := lE X.K W0 te) g.calm hN hi (by rw [eN, es]; exact blkOk_by ok) (fun s H C cl fp => hg s H C cl fp (good_blk g ..)) (fun s H C cl fp => ht s H C cl fp (good_blk g ..)) (fun s H C cl fp => he s H C cl fp (good_blk g ..)) hs) fun σ H Q h => ?_
  obtain ⟨I, M, F, δ, Qd, Ed, hr, rs, q, fq, fx⟩ := h
  refine ⟨I, M, F, δ, _, Ed, hr, rs, q, fun xs src M1 I1 H1 J q1 ho s1 hr1 wk D hD => ?_, fx⟩
  refine lc_lift hin q1.1 hr1 (rs.mono s1) wk q1.2 (Qd := fun p H' => Q (.ref p) H') (fun p I' M' H' aV a hF s' hr' ra q' => ?_) D hD
  obtain ⟨z1, z2⟩ := hr'.frzF hF
  exact fq _ M' _ H' _ q' ((s1.trans s').trans z1) z2 (.lst upd_same (ra.mono z1))
theorem s_setLc (i : Nat) (N : List Str) (sc : Scope) (own : List (Str × Nat)) {y : Str} {py spos : Pos} (g : Good X W) (hN : X.N.Nodup) (hi : DI X W tg iter di) (ok : blkC N sc scope own = true) (hin : t.in (own.map (·.2)) = true)
    (hg : ∀ (s : Shared) (H : Hp) (C : Addr) (cl : List (Str × Addr)) (fp : List Addr), Good (X.blk s H scope (compEnvC scope cl C X.env) fp) W0 → PG (X.blk s H scope (compEnvC scope cl C X.env) fp) tg (t.v X.K))
    (ht : ∀ (s : Shared) (H : Hp) (C : Addr) (cl : List (Str × Addr)) (fp : List Addr), Good (X.blk s H scope (compEnvC scope cl C X.env) fp) W0 → DTs (X.blk s H scope (compEnvC scope cl C X.env) fp) ifs tt)
    (he : ∀ (s : Shared) (H : Hp) (C : Addr) (cl : List (Str × Addr)) (fp : List Addr), Good (X.blk s H scope (compEnvC scope cl C X.env) fp) W0 → DE (X.blk s H scope (compEnvC scope cl C X.env) fp) W0 elt te)
    (hsw : swapsWith (.ListComp elt [⟨tg, iter, ifs, 0⟩] scope pos) (some (.Name y py)) spos.line X.env = pure true) (hy : X.N[i]? = some y := by rfl) (hyl : X.env.scope.names.lookup y = some .local := by rfl) (hs : ∀ x, foldedSetIterable iter X.env x = pure x := by intro _; rfl) (eN : X.N = N := by rfl) (es : X.env.scope = sc := by rfl) :
    DSt X W (.Assign [.Name y py] (.ListComp elt [⟨tg, iter, ifs, 0⟩] scope pos) spos) (dAsg (dLc di t tt te (own.map (·.2))) (gdName i)) := by
  refine ps_imp (ps_setLc (i := i) (own := own) (g := t.v X.K) (tt := lT X.K W0 tt) (te := lE X.K W0 te) g.calm hN hy hyl hsw hi (by rw [eN, es]; exact blkOk_by ok) (fun s H C cl fp => hg s H C cl fp (good_blk g ..)) (fun s H C cl fp => ht s H C cl fp (good_blk g ..)) (fun s H C cl fp => he s H C cl fp (good_blk g ..)) hs) fun Dn σ H h => ?_
  obtain ⟨I, M, F, δ, Dd, hr, rs, q, f⟩ := h
  refine ⟨I, M, F, δ, _, _, hr, rs, q, fun xs src M1 I1 H1 J q1 ho s1 hr1 wk D hD => ?_, f.x rs⟩
  refine lc_lift hin q1.1 hr1 (rs.mono s1) wk q1.2 (Qd := fun p H' => Dn.nx (σ.set i (some (.ref p))) H') (fun p I' M' H' aV a hF s' hr' ra q' => ?_) D hD
  obtain ⟨z1, z2⟩ := hr'.frzF hF
  have sA := (s1.trans s').trans z1
  exact f.nx _ M' _ H' _ q' sA z2 ((rs.mono sA).set i (.lst upd_same (ra.mono z1)))
end
def asL (M : Mp) (d : D) (k : List D → Src → Prop) : Prop := match d with
  | .lst xs => k xs .data
  | .sq xs => k xs .data
  | .ref a => ∃ xs, M a = some (.lst xs) ∧ k xs (.at a xs)
  | _ => False
def iL (te : DTE) : DTI := fun δ M R E => te δ M (fun d M1 => asL M1 d fun xs src => R xs src M1) E
def iT (te : DTE) : DTI := fun δ M R E => te δ M (fun d M1 => match d with | .tup xs => R xs .data M1 | _ => False) E
section
variable {X : Cx} {W : WX} {tg e : Expr} {te : DTE} {ta : DTA} {pos p : Pos}
theorem Reps.get {K : PySem.W.Frag} {I : Hp} {vs : List V} {ds : List D} (r : Reps K I vs ds) {i : Nat} {v : V} (h : vs[i]? = some v) : ∃ d, ds[i]? = some d ∧ Rep K I v d := by
  have hl : i < ds.length := by rw [← r.len]; exact (List.getElem?_eq_some_iff.mp h).1
  obtain ⟨v', a, b⟩ := reps_get r i ds[i] (List.getElem?_eq_getElem hl)
  rw [h] at a
  cases a
  exact ⟨_, List.getElem?_eq_getElem hl, b⟩
theorem dwalk_list {K : PySem.W.Frag} {I : Hp} {a : Addr} {vs : List V} {ds : List D} {src : Src} (r : Reps K I vs ds) (h : ∀ I' M' F H, Same I I' → HR K I' M' F H → src.holds M' → ∃ vs', SqL K H a vs' ∧ Reps K I' vs' ds) : DWalk K I (Itl K a) ds src := by
  refine ⟨fun i I' M' F H hi s hr ho => ?_, fun I' M' F H s hr ho => ?_, fun i x I' M' F H H' hi s hr ho y => ?_⟩
  · obtain ⟨vs', q, r'⟩ := h I' M' F H s hr ho
    have hi' : i < vs'.length := by rw [r'.len]; exact hi
    exact walk_list.goes i H hi' q
  · obtain ⟨vs', q, r'⟩ := h I' M' F H s hr ho
    rw [← r'.len]
    exact walk_list.stops H q
  · obtain ⟨vs', q, r'⟩ := h I' M' F H s hr ho
    have hi' : i < vs'.length := by rw [r'.len]; exact hi
    obtain ⟨e1, e2⟩ := walk_list.yields i H x H' hi' q y
    subst e1
    obtain ⟨d, e3, e4⟩ := r'.get e2
    exact ⟨I', d, Same.refl I', hr, e3, e4⟩
theorem i_list (h : DE X W e te) : DI X W tg e (iL te) := pi_imp (pi_list h) fun σ H R q => by
  obtain ⟨I, M, F, δ, Rd, Ed, hr, rs, q, fq, fx⟩ := q
  refine ⟨I, M, F, δ, _, Ed, hr, rs, q, fun d M1 I1 H1 v q1 s1 hr1 r1 => ?_, fx⟩
  cases r1 with
  | @lst a vs ds s rr => exact ⟨a, rfl, ⟨vs, SqL.of (hr1.imm _ _ s)⟩, fq ds .data M1 I1 H1 _ q1 trivial s1 hr1 (dwalk_list rr fun I' M' F' H' s' hr' _ => ⟨vs, SqL.of (hr'.imm _ _ (s' _ _ s)), rr.mono s'⟩)⟩
  | @sq a vs ds s rr => exact ⟨a, rfl, ⟨vs, hr1.sq s⟩, fq ds .data M1 I1 H1 _ q1 trivial s1 hr1 (dwalk_list rr fun I' M' F' H' s' hr' _ => ⟨vs, hr'.sq (sq_mono s' s), rr.mono s'⟩)⟩
  | ref a =>
    obtain ⟨ds, e1, q1⟩ := q1
    obtain ⟨vs, e2, rr⟩ := hr1.lst e1
    exact ⟨a, rfl, ⟨vs, SqL.of e2⟩, fq ds (.at a ds) M1 I1 H1 _ q1 e1 s1 hr1 (dwalk_list rr fun I' M' F' H' s' hr' ho => by
      obtain ⟨vs', e3, r3⟩ := hr'.lst ho
      exact ⟨vs', SqL.of e3, r3⟩)⟩
  | _ => exact q1.elim
theorem i_tup (h : DE X W e te) : DI X W tg e (iT te) := pi_imp (pi_tup h) fun σ H R q => by
  obtain ⟨I, M, F, δ, Rd, Ed, hr, rs, q, fq, fx⟩ := q
  refine ⟨I, M, F, δ, _, Ed, hr, rs, q, fun d M1 I1 H1 v q1 s1 hr1 r1 => ?_, fx⟩
  cases r1 with
  | @tup a vs ds s rr =>
    refine ⟨a, rfl, ⟨vs, hr1.st s⟩, fq ds .data M1 I1 H1 _ q1 trivial s1 hr1 ⟨fun i I' M' F H hi s' hr' ho => walk_tup.goes i H (by rw [rr.len]; exact hi) (hr'.st (st_mono s' s)), fun I' M' F H s' hr' ho => by rw [← rr.len]; exact walk_tup.stops H (hr'.st (st_mono s' s)), fun i x I' M' F H H' hi s' hr' ho y => ?_⟩⟩
    obtain ⟨e1, e2⟩ := walk_tup.yields i H x H' (by rw [rr.len]; exact hi) (hr'.st (st_mono s' s)) y
    subst e1
    obtain ⟨d, e3, e4⟩ := rr.get e2
    exact ⟨I', d, Same.refl I', hr', e3, e4.mono s'⟩
  | _ => exact q1.elim
def rngD (lo : Int) (n : Nat) : List D := (List.range n).map fun i => D.int (lo + (i : Nat))
theorem dwalk_range {K : PySem.W.Frag} {I : Hp} {lo : Int} {n : Nat} : DWalk K I (Itr lo n) (rngD lo n) .data := by
  have hl : (rngD lo n).length = n := by simp [rngD]
  refine ⟨fun i I' M' F H hi _ _ _ => walk_range.goes i H (hl ▸ hi) trivial, fun I' M' F H _ _ _ => by rw [hl]; exact walk_range.stops H trivial, fun i x I' M' F H H' hi s hr _ y => ?_⟩
  obtain ⟨e1, e2⟩ := walk_range.yields i H x H' (hl ▸ hi) trivial y
  subst e1
  subst e2
  refine ⟨I', .int (lo + (i : Nat)), Same.refl I', hr, ?_, .int _⟩
  rw [hl] at hi
  simp [rngD, hi]
def iR1 (ta : DTA) : DTI := fun δ M R E => ta δ M (fun ds M1 => match ds with
  | [.int j] => (-(2 ^ 62) ≤ j ∧ j < 2 ^ 62) ∧ R (rngD 0 j.toNat) .data M1
  | _ => False) E
theorem i_range1 {a : Expr} (hm : X.mg "range" = none) (ha : DA X W [a] ta) (hg : Gl X "range" := by rfl) (hs : starEach [a] X.env = [(false, eval a X.env)] := by rfl) : DI X W tg (.Call (.Name "range" p) [a] [] pos) (iR1 ta) := pi_imp (pi_range1 hg hm ha hs) fun σ H R q => by
  obtain ⟨I, M, F, δ, Rd, Ed, hr, rs, q, fq, fx⟩ := q
  refine ⟨I, M, F, δ, _, Ed, hr, rs, q, fun ds M1 I1 H1 vs q1 s1 hr1 r1 => ?_, fx⟩
  dsimp only at q1
  split at q1
  · cases r1 with
    | cons r rr =>
      cases rr
      cases r
      exact ⟨_, rfl, q1.1.1, q1.1.2, fq _ .data M1 I1 H1 _ q1.2 trivial s1 hr1 dwalk_range⟩
  · exact q1.elim
def sgn (z : Str) : List D := z.cps.toList.map fun c => D.str ⟨#[c]⟩
def iS (te : DTE) : DTI := fun δ M R E => te δ M (fun d M1 => match d with | .str z => R (sgn z) .data M1 | _ => False) E
theorem i_str (h : DE X W e te) : DI X W tg e (iS te) := pi_imp (pi_str h) fun σ H R q => by
  obtain ⟨I, M, F, δ, Rd, Ed, hr, rs, q, fq, fx⟩ := q
  refine ⟨I, M, F, δ, _, Ed, hr, rs, q, fun d M1 I1 H1 v q1 s1 hr1 r1 => ?_, fx⟩
  cases r1 with
  | str z =>
    have hl : (sgn z).length = z.cps.size := by simp [sgn]
    refine ⟨z, rfl, fq _ .data M1 I1 H1 _ q1 trivial s1 hr1 ⟨fun i I' M' F H hi _ _ _ => walk_str.goes i H (hl ▸ hi) trivial, fun I' M' F H _ _ _ => by rw [hl]; exact walk_str.stops H trivial, fun i x I' M' F H H' hi s hr _ y => ?_⟩⟩
    obtain ⟨e1, c, e2, e3⟩ := walk_str.yields i H x H' (hl ▸ hi) trivial y
    subst e1
    subst e3
    refine ⟨I', .str ⟨#[c]⟩, Same.refl I', hr, ?_, .str _⟩
    simp [sgn, e2]
  | _ => exact q1.elim
end
def i2 (x y : D) (k : Int → Int → Prop) : Prop := match x, y with | .int i, .int j => k i j | _, _ => False
theorem i2_out {K : PySem.W.Frag} {I : Hp} {v w : V} {x y : D} {k : Int → Int → Prop} (rx : Rep K I v x) (ry : Rep K I w y) (h : i2 x y k) : ∃ i j, v = .int i ∧ w = .int j ∧ k i j := by
  cases rx <;> first | exact h.elim | (cases ry <;> first | exact h.elim | exact ⟨_, _, rfl, rfl, h⟩)
def dI (C : Int → Int → Prop) (g : Int → Int → D) : DR2 := fun x y M Q => i2 x y fun i j => C i j ∧ Q (g i j) M
def dI0 (g : Int → Int → D) : DR2 := fun x y M Q => i2 x y fun i j => Q (g i j) M
theorem lr_I {K : PySem.W.Frag} {C : Int → Int → Prop} {g : Int → Int → V} {g' : Int → Int → D} (h : ∀ I i j, Rep K I (g i j) (g' i j)) : LR K (rI C g) (dI C g') := fun I M F H x y dx dy Qd Q hr rx ry q fq => by
  obtain ⟨i, j, e1, e2, c, q⟩ := i2_out rx ry q
  exact ⟨i, j, e1, e2, c, fq _ M I H _ q (Same.refl I) hr (h I i j)⟩
theorem lr_I0 {K : PySem.W.Frag} {g : Int → Int → V} {g' : Int → Int → D} (h : ∀ I i j, Rep K I (g i j) (g' i j)) : LR K (rI0 g) (dI0 g') := fun I M F H x y dx dy Qd Q hr rx ry q fq => by
  obtain ⟨i, j, e1, e2, q⟩ := i2_out rx ry q
  exact ⟨i, j, e1, e2, fq _ M I H _ q (Same.refl I) hr (h I i j)⟩
def asX (M : Mp) (d : D) (k : List D → Prop) : Prop := match d with
  | .lst xs => k xs
  | .ref a => ∃ xs, M a = some (.lst xs) ∧ k xs
  | _ => False
theorem asX_out {K : PySem.W.Frag} {I : Hp} {M : Mp} {F H : Hp} (hr : HR K I M F H) {v : V} {d : D} {k : List D → Prop} (r : Rep K I v d) (h : asX M d k) : ∃ a vs ds, v = .ref a ∧ H a = some (.lst vs) ∧ Reps K I vs ds ∧ k ds := by
  cases r with
  | lst s rr => exact ⟨_, _, _, rfl, hr.imm _ _ s, rr, h⟩
  | ref a =>
    obtain ⟨xs, e, q⟩ := h
    obtain ⟨vs, e1, r1⟩ := hr.lst e
    exact ⟨_, _, _, rfl, e1, r1, q⟩
  | _ => exact h.elim
def asR (M : Mp) (d : D) (k : List D → Prop) : Prop := match d with
  | .lst xs => k xs
  | .sq xs => k xs
  | .ref a => ∃ xs, M a = some (.lst xs) ∧ k xs
  | _ => False
theorem asR_out {K : PySem.W.Frag} {I : Hp} {M : Mp} {F H : Hp} (hr : HR K I M F H) {v : V} {d : D} {k : List D → Prop} (r : Rep K I v d) (h : asR M d k) : ∃ a vs ds, v = .ref a ∧ SqL K H a vs ∧ Reps K I vs ds ∧ k ds := by
  cases r with
  | lst s rr => exact ⟨_, _, _, rfl, SqL.of (hr.imm _ _ s), rr, h⟩
  | sq s rr => exact ⟨_, _, _, rfl, hr.sq s, rr, h⟩
  | ref a =>
    obtain ⟨xs, e, q⟩ := h
    obtain ⟨vs, e1, r1⟩ := hr.lst e
    exact ⟨_, _, _, rfl, SqL.of e1, r1, q⟩
  | _ => exact h.elim
theorem Reps.app {K : PySem.W.Frag} {I : Hp} : ∀ {vs ws : List V} {ds es : List D}, Reps K I vs ds → Reps K I ws es → Reps K I (vs ++ ws) (ds ++ es)
  | _, _, _, _, .nil, s => s
  | _, _, _, _, .cons r t, s => .cons r (Reps.app t s)
def dAdd : DR2 := fun x y M Q => match x, y with
  | .int i, .int j => Q (.int (i + j)) M
  | .str a, .str b => a.length + b.length ≤ sizeLine ∧ Q (.str (a ++ b)) M
  | x, y => asX M x fun xs => asX M y fun ys => xs.length + ys.length ≤ sizeLine ∧ Q (.lst (xs ++ ys)) M
abbrev rAdd4 (K : PySem.W.Frag) : R2 := fun x y H Q => (rI0 fun i j => .int (i + j)) x y H Q ∨ ((∃ i j, x = .str i ∧ y = .str j ∧ i.length + j.length ≤ sizeLine ∧ Q (.str (i ++ j)) H) ∨ rCat x y H Q)
theorem op_add4 {X : Cx} : OpR X (binaryOp .Add) (rAdd4 X.K) := op_add.or (op_add_str.or op_cat)
theorem lr_add {K : PySem.W.Frag} : LR K (rAdd4 K) dAdd := fun I M F H x y dx dy Qd Q hr rx ry q fq => by
  unfold dAdd at q
  split at q
  · cases rx; cases ry
    exact .inl ⟨_, _, rfl, rfl, fq _ M I H _ q (Same.refl I) hr (.int _)⟩
  · cases rx; cases ry
    exact .inr (.inl ⟨_, _, rfl, rfl, q.1, fq _ M I H _ q.2 (Same.refl I) hr (.str _)⟩)
  · obtain ⟨a, vs, ds, e1, h1, r1, q⟩ := asX_out hr rx q
    obtain ⟨b, ws, es, e2, h2, r2, q⟩ := asX_out hr ry q
    refine .inr (.inr ⟨a, b, vs, ws, e1, e2, h1, h2, by rw [r1.len, r2.len]; exact q.1, ?_⟩)
    exact fin_lst fq hr (r1.app r2) q.2
def dSub : DR2 := dI0 fun i j => .int (i - j)
def dMul : DR2 := dI CMulW fun i j => .int (i * j)
def dDiv : DR2 := dI CDivW fun i j => .int (i / j)
def dMod : DR2 := dI (fun _ j => 0 < j) fun i j => .int (i % j)
def dPow : DR2 := dI CPow fun i j => .int (i ^ j.toNat)
section
variable {X : Cx} {W : WX} {e a b c : Expr} {es : List Expr} {ta tb te tc : DTE} {tr : DTA} {pos p : Pos}
theorem d_sub (ha : DE X W a ta) (hb : DE X W b tb) : DE X W (.BinOp a .Sub b pos) (dOp dSub ta tb) := d_op op_sub (lr_I0 fun _ _ _ => .int _) ha hb
theorem d_mul (ha : DE X W a ta) (hb : DE X W b tb) : DE X W (.BinOp a .Mult b pos) (dOp dMul ta tb) := d_op op_mulW (lr_I fun _ _ _ => .int _) ha hb
theorem d_div (ha : DE X W a ta) (hb : DE X W b tb) : DE X W (.BinOp a .FloorDiv b pos) (dOp dDiv ta tb) := d_op op_fdivW (lr_I fun _ _ _ => .int _) ha hb
theorem d_mod (ha : DE X W a ta) (hb : DE X W b tb) : DE X W (.BinOp a .Mod b pos) (dOp dMod ta tb) := d_op op_mod (lr_I fun _ _ _ => .int _) ha hb
theorem d_pow (ha : DE X W a ta) (hb : DE X W b tb) : DE X W (.BinOp a .Pow b pos) (dOp dPow ta tb) := d_op op_pow (lr_I fun _ _ _ => .int _) ha hb
def dNeg (ta : DTE) : DTE := fun δ M Q E => ta δ M (fun x M1 => match x with | .int i => Q (.int (-i)) M1 | _ => False) E
theorem d_neg (ha : DE X W a ta) : DE X W (.UnaryOp .USub a pos) (dNeg ta) := pe_imp (pe_un un_neg ha) fun σ H Q h => by
  obtain ⟨I, M, F, δ, Qd, Ed, hr, rs, q, fq, fx⟩ := h
  refine ⟨I, M, F, δ, _, Ed, hr, rs, q, fun d M1 I1 H1 v q1 s1 hr1 r1 => ?_, fx⟩
  cases r1 with
  | int i => exact ⟨i, rfl, fq _ M1 I1 H1 _ q1 s1 hr1 (.int _)⟩
  | _ => exact q1.elim
def dLt : DR2 := dI0 fun i j => .bl (decide (i < j))
def dLe : DR2 := dI0 fun i j => .bl (decide (i ≤ j))
def dGt : DR2 := dI0 fun i j => .bl (decide (j < i))
theorem lr_lt {K : PySem.W.Frag} : LR K (rI0 fun i j => .bl (decide (i < j))) dLt := lr_I0 fun _ _ _ => .bl _
theorem lr_le {K : PySem.W.Frag} : LR K (rI0 fun i j => .bl (decide (i ≤ j))) dLe := lr_I0 fun _ _ _ => .bl _
theorem lr_gt {K : PySem.W.Frag} : LR K (rI0 fun i j => .bl (decide (j < i))) dGt := lr_I0 fun _ _ _ => .bl _
inductive PyOf (M : Mp) : D → PyData → Prop
  | non : PyOf M .non .none
  | bl (b : Bool) : PyOf M (.bl b) (.bool b)
  | int (i : Int) : PyOf M (.int i) (.int i)
  | str (x : Str) : PyOf M (.str x) (.str x)
  | lst {ds : List D} {ps : List PyData} : Paired (PyOf M) ds ps → PyOf M (.lst ds) (.list ps)
  | sq {ds : List D} {ps : List PyData} : Paired (PyOf M) ds ps → PyOf M (.sq ds) (.list ps)
  | tup {ds : List D} {ps : List PyData} : Paired (PyOf M) ds ps → PyOf M (.tup ds) (.tuple ps)
  | ref {a : Addr} {ds : List D} {ps : List PyData} : M a = some (.lst ds) → Paired (PyOf M) ds ps → PyOf M (.ref a) (.list ps)
theorem dp_of {K : PySem.W.Frag} {I : Hp} {M : Mp} {F H : Hp} (hr : HR K I M F H) : ∀ (p : PyData) {v : V} {d : D}, Rep K I v d → PyOf M d p → Dp K H v p := by
  intro p
  refine PyData.rec (motive_1 := fun p => ∀ {v : V} {d : D}, Rep K I v d → PyOf M d p → Dp K H v p) (motive_2 := fun ps => ∀ {vs : List V} {ds : List D}, Reps K I vs ds → Paired (PyOf M) ds ps → DpAll K H vs ps) (motive_3 := fun _ => True) (motive_4 := fun _ => True) ?_ ?_ ?_ ?_ ?_ ?_ ?_ ?_ ?_ ?_ ?_ ?_ p
  · intro v d r h; cases h; cases r; exact .non
  · intro b v d r h; cases h; cases r; exact .bl b
  · intro i v d r h; cases h; cases r; exact .int i
  · intro x v d r h; cases h; cases r; exact .str x
  · intro ps ih v d r h
    cases h with
    | lst z => cases r with | lst s rr => exact .lst (SqL.of (hr.imm _ _ s)) (ih rr z)
    | sq z => cases r with | sq s rr => exact .lst (hr.sq s) (ih rr z)
    | ref e z =>
      cases r
      obtain ⟨vs, e1, rr⟩ := hr.lst e
      exact .lst (SqL.of e1) (ih rr z)
  · intro ps ih v d r h
    cases h with
    | tup z => cases r with | tup s rr => exact .tup (hr.st s) (ih rr z)
  · intro kvs _ v d r h; cases h
  · intro vs ds r z; cases z; cases r; exact .nil
  · intro p ps ih1 ih2 vs ds r z
    cases z with
    | cons a b => cases r with | cons r1 r2 => exact .cons (ih1 r1 a) (ih2 r2 b)
  all_goals intros; trivial
def deq (M : Mp) (x y : D) (k : Bool → Prop) : Prop := match x, y with
  | .int i, .int j => k (decide (i = j))
  | .str i, .str j => k (decide (i = j))
  | .bl i, .bl j => k (decide (i = j))
  | .non, .non => k true
  | x, y => ∃ p q, PyOf M x p ∧ PyOf M y q ∧ SeqAt.shaped p = true ∧ SeqAt.shaped q = true ∧ k (PyData.eqv p q)
def dEq : DR2 := fun x y M Q => deq M x y fun b => Q (.bl b) M
def dNe : DR2 := fun x y M Q => deq M x y fun b => Q (.bl (!b)) M
theorem deq_out {K : PySem.W.Frag} {I : Hp} {M : Mp} {F H : Hp} (hr : HR K I M F H) {v w : V} {x y : D} {k : Bool → Prop} (rx : Rep K I v x) (ry : Rep K I w y) (h : deq M x y k) : (scal v w = true ∧ k (decide (v = w))) ∨ ∃ d e, Dp K H v d ∧ Dp K H w e ∧ SeqAt.shaped d = true ∧ SeqAt.shaped e = true ∧ k (PyData.eqv d e) := by
  unfold deq at h
  split at h
  · cases rx; cases ry; exact .inl ⟨rfl, by rw [dec_int]; rw [← Bool.beq_eq_decide_eq] at h; exact h⟩
  · cases rx; cases ry; exact .inl ⟨rfl, by rw [dec_str]; rw [← Bool.beq_eq_decide_eq] at h; exact h⟩
  · cases rx; cases ry; exact .inl ⟨rfl, by rw [dec_bl]; rw [← Bool.beq_eq_decide_eq] at h; exact h⟩
  · cases rx; cases ry; exact .inl ⟨rfl, by rw [decide_eq_true rfl]; exact h⟩
  · obtain ⟨p, q, h1, h2, h3, h4, h5⟩ := h
    exact .inr ⟨p, q, dp_of hr p rx h1, dp_of hr q ry h2, h3, h4, h5⟩
abbrev rEq2 (K : PySem.W.Frag) : R2 := fun x y H Q => rEq x y H Q ∨ rEqD K x y H Q
abbrev rNe2 (K : PySem.W.Frag) : R2 := fun x y H Q => rNe x y H Q ∨ rNeD K x y H Q
theorem op_eq2 {k : Nat} (rm : Room k X.A) : OpR X (compareOp .Eq) (rEq2 X.K) := op_eq.or (op_eqD rm.units)
theorem op_ne2 {k : Nat} (rm : Room k X.A) : OpR X (compareOp .NotEq) (rNe2 X.K) := op_ne.or (op_neD rm.units)
theorem lr_eq {K : PySem.W.Frag} : LR K (rEq2 K) dEq := fun I M F H x y dx dy Qd Q hr rx ry q fq => by
  rcases deq_out hr rx ry q with ⟨h1, h2⟩ | ⟨d, e, h1, h2, h3, h4, h5⟩
  · exact .inl ⟨h1, fq _ M I H _ h2 (Same.refl I) hr (.bl _)⟩
  · exact .inr ⟨d, e, h1, h2, h3, h4, fq _ M I H _ h5 (Same.refl I) hr (.bl _)⟩
theorem lr_ne {K : PySem.W.Frag} : LR K (rNe2 K) dNe := fun I M F H x y dx dy Qd Q hr rx ry q fq => by
  rcases deq_out hr rx ry q with ⟨h1, h2⟩ | ⟨d, e, h1, h2, h3, h4, h5⟩
  · exact .inl ⟨h1, fq _ M I H _ h2 (Same.refl I) hr (.bl _)⟩
  · exact .inr ⟨d, e, h1, h2, h3, h4, fq _ M I H _ h5 (Same.refl I) hr (.bl _)⟩
def dInS : DR2 := fun x y M Q => match x, y with | .str u, .str z => ∃ c, u = ⟨#[c]⟩ ∧ Q (.bl (decide (c ∈ z.cps.toList))) M | _, _ => False
theorem lr_inS {K : PySem.W.Frag} : LR K (fun x y H Q => ∃ (c : Nat) (z : Str), x = .str ⟨#[c]⟩ ∧ y = .str z ∧ Q (.bl (decide (c ∈ z.cps.toList))) H) dInS := fun I M F H x y dx dy Qd Q hr rx ry q fq => by
  unfold dInS at q
  split at q
  · cases rx; cases ry
    obtain ⟨c, e, q⟩ := q
    exact ⟨c, _, by rw [e], rfl, fq _ M I H _ q (Same.refl I) hr (.bl _)⟩
  · exact q.elim
def dIx : DR2 := fun x y M Q => match y with
  | .int i => match x with
    | .lst xs => ∃ d, atI xs i = some d ∧ Q d M
    | .sq xs => ∃ d, atI xs i = some d ∧ Q d M
    | .tup xs => ∃ d, atI xs i = some d ∧ Q d M
    | .str z => z.length ≤ sizeLine ∧ ∃ c, atI z.cps.toList i = some c ∧ Q (.str ⟨#[c]⟩) M
    | .ref a => ∃ xs, M a = some (.lst xs) ∧ ∃ d, atI xs i = some d ∧ Q d M
    | _ => False
  | _ => False
theorem atI_reps {K : PySem.W.Frag} {I : Hp} {vs : List V} {ds : List D} (r : Reps K I vs ds) {i : Int} {d : D} (h : atI ds i = some d) : ∃ v, atI vs i = some v ∧ Rep K I v d := by
  unfold atI at h ⊢
  rw [r.len]
  cases e : ixN ds.length i with
  | none => rw [e] at h; cases h
  | some j =>
    rw [e] at h
    exact reps_get r j d h
theorem lr_ix {K : PySem.W.Frag} : LR K (rIx K) dIx := fun I M F H x y dx dy Qd Q hr rx ry q fq => by
  unfold dIx at q
  split at q
  · cases ry
    split at q
    · obtain ⟨d, e, q⟩ := q
      cases rx with
      | lst s rr => obtain ⟨v, e1, r1⟩ := atI_reps rr e; exact .inl ⟨_, _, _, v, rfl, rfl, SqL.of (hr.imm _ _ s), e1, fq _ M I H _ q (Same.refl I) hr r1⟩
    · obtain ⟨d, e, q⟩ := q
      cases rx with
      | sq s rr => obtain ⟨v, e1, r1⟩ := atI_reps rr e; exact .inl ⟨_, _, _, v, rfl, rfl, hr.sq s, e1, fq _ M I H _ q (Same.refl I) hr r1⟩
    · obtain ⟨d, e, q⟩ := q
      cases rx with
      | tup s rr => obtain ⟨v, e1, r1⟩ := atI_reps rr e; exact .inr (.inl ⟨_, _, _, v, rfl, rfl, hr.st s, e1, fq _ M I H _ q (Same.refl I) hr r1⟩)
    · obtain ⟨z, c, e, q⟩ := q
      cases rx
      exact .inr (.inr ⟨_, _, c, rfl, rfl, z, e, fq _ M I H _ q (Same.refl I) hr (.str _)⟩)
    · obtain ⟨xs, e0, d, e, q⟩ := q
      cases rx
      obtain ⟨vs, e1, rr⟩ := hr.lst e0
      obtain ⟨v, e2, r1⟩ := atI_reps rr e
      exact .inl ⟨_, _, _, v, rfl, rfl, SqL.of e1, e2, fq _ M I H _ q (Same.refl I) hr r1⟩
    · exact q.elim
  · exact q.elim
theorem d_sub_ix (ha : DE X W a ta) (hb : DE X W b tb) (hs : PlainIx b := by intro _ _; rfl) : DE X W (.Subscript a b pos) (dOp dIx ta tb) := d_ix ix_seq lr_ix ha hb hs
abbrev DTO := DS → Mp → (Option Int → Mp → Prop) → DXK → Prop
def lO (K : PySem.W.Frag) (W : WX) (t : DTO) : TO := fun σ H Q => ∃ I M F δ Qd Ed, HR K I M F H ∧ RepS K I σ δ ∧ t δ M Qd Ed ∧ (∀ o M' I' H', Qd o M' → Same I I' → HR K I' M' F H' → Q o H') ∧ FinX K I F Ed (WE W σ)
def DO (X : Cx) (W : WX) (e : Option Expr) (t : DTO) : Prop := PO X e (lO X.K W t)
def oNone : DTO := fun _ M Q _ => Q none M
def oSome (te : DTE) : DTO := fun δ M Q E => te δ M (fun d M1 => match d with | .int i => Q (some i) M1 | _ => False) E
theorem o_none : DO X W none oNone := ⟨fun pins s σ H Q I h => po_none.run pins s σ H Q I (by
  obtain ⟨I, M, F, δ, Qd, Ed, hr, rs, q, fq, fx⟩ := h
  exact fq none M I H q (Same.refl I) hr)⟩
theorem o_some (h : DE X W e te) : DO X W (some e) (oSome te) := ⟨fun pins s σ H Q I q => (po_some h).run pins s σ H Q I (by
  obtain ⟨I, M, F, δ, Qd, Ed, hr, rs, q, fq, fx⟩ := q
  refine ⟨I, M, F, δ, _, Ed, hr, rs, q, fun d M1 I1 H1 v q1 s1 hr1 r1 => ?_, fx⟩
  cases r1 with
  | int i => exact ⟨i, rfl, fq _ M1 I1 H1 q1 s1 hr1⟩
  | _ => exact q1.elim)⟩
def cutD (xs : List D) (lo hi : Option Int) : List D := (xs.drop (HT.sIx xs.length 0 lo)).take (HT.sIx xs.length xs.length hi - HT.sIx xs.length 0 lo)
theorem Reps.drop {K : PySem.W.Frag} {I : Hp} : ∀ {vs : List V} {ds : List D} (n : Nat), Reps K I vs ds → Reps K I (vs.drop n) (ds.drop n)
  | _, _, 0, r => r
  | _, _, _ + 1, .nil => .nil
  | _, _, n + 1, .cons _ t => Reps.drop n t
theorem Reps.take {K : PySem.W.Frag} {I : Hp} : ∀ {vs : List V} {ds : List D} (n : Nat), Reps K I vs ds → Reps K I (vs.take n) (ds.take n)
  | _, _, 0, _ => .nil
  | _, _, _ + 1, .nil => .nil
  | _, _, n + 1, .cons r t => .cons r (Reps.take n t)
theorem Reps.rev {K : PySem.W.Frag} {I : Hp} : ∀ {vs : List V} {ds : List D}, Reps K I vs ds → Reps K I vs.reverse ds.reverse
  | _, _, .nil => .nil
  | _, _, .cons r t => by
    rw [List.reverse_cons, List.reverse_cons]
    exact (Reps.rev t).app (.cons r .nil)
theorem Reps.cut {K : PySem.W.Frag} {I : Hp} {vs : List V} {ds : List D} (r : Reps K I vs ds) (lo hi : Option Int) : Reps K I (cutV vs lo hi) (cutD ds lo hi) := by
  unfold cutV cutD
  rw [r.len]
  exact (r.drop _).take _
def dSl3 (x : D) (lo hi : Option Int) (M : Mp) (Q : DK) : Prop := match x with
  | .str z => z.length ≤ sizeLine ∧ Q (.str (cutS z lo hi)) M
  | x => asR M x fun xs => Q (.lst (cutD xs lo hi)) M
def dRev (te : DTE) : DTE := fun δ M Q E => te δ M (fun x M1 => asR M1 x fun xs => Q (.lst xs.reverse) M1) E
theorem d_rev {k : Nat} {p1 p2 p3 : Pos} (he : DE X W e te) : DE X W (.Subscript e (.Slice none none (some (.UnaryOp .USub (.Constant (.int 1) k p1) p2)) p3) pos) (dRev te) := pe_imp (pe_revL he) fun σ H Q h => by
  obtain ⟨I, M, F, δ, Qd, Ed, hr, rs, q, fq, fx⟩ := h
  refine ⟨I, M, F, δ, _, Ed, hr, rs, q, fun x M1 I1 H1 v q1 s1 hr1 r1 => ?_, fx⟩
  obtain ⟨a, vs, ds, e1, sq, rr, q⟩ := asR_out hr1 r1 q1
  exact ⟨a, vs, e1, sq, fin_lst (fq.mono s1) hr1 rr.rev q⟩
def gdSubL (to ti : DTE) : DTG := fun d δ M Q E => to δ M (fun o M1 => ti δ M1 (fun i M2 => match o, i with
  | .ref a, .int i => ∃ xs, M2 a = some (.lst xs) ∧ ∃ j, ixN xs.length i = some j ∧ Q δ (updM M2 a (.lst (xs.set j d)))
  | _, _ => False) E) E
theorem Reps.setN {K : PySem.W.Frag} {I : Hp} {v : V} {d : D} (r : Rep K I v d) : ∀ {vs : List V} {ds : List D} (j : Nat), Reps K I vs ds → Reps K I (vs.set j v) (ds.set j d)
  | _, _, _, .nil => .nil
  | _, _, 0, .cons _ t => .cons r t
  | _, _, j + 1, .cons q t => .cons q (Reps.setN r j t)
theorem g_subL {o i : Expr} {to ti : DTE} (ho : DE X W o to) (hi : DE X W i ti)
    (hq : ∀ z, assign (.Subscript o i pos) X.env z = (do let x1 ← holding [z] (eval o X.env); let x2 ← holding [z, x1] (eval i X.env); standAt pos; holding [z, x1, x2] (setItem x1 x2 z); release [z, x1, x2] []) := by intro _; rfl) : DG X W (.Subscript o i pos) (gdSubL to ti) := pg_imp (pg_sub ho hi set_list hq) fun v σ H Q h => by
  obtain ⟨I, M, F, δ, d, Qd, Ed, hr, rs, r, q, fq, fx⟩ := h
  refine ⟨I, M, F, δ, _, Ed, hr, rs, q, fun o M1 I1 H1 vo q1 s1 hr1 r1 => ?_, fx⟩
  refine ⟨I1, M1, F, δ, _, Ed, hr1, rs.mono s1, q1, fun i M2 I2 H2 vi q2 s2 hr2 r2 => ?_, fx.mono s1⟩
  dsimp only at q2
  split at q2
  · cases r1; cases r2
    obtain ⟨xs, e1, j, e2, q⟩ := q2
    obtain ⟨vs, e3, rr⟩ := hr2.lst e1
    refine ⟨_, vs, _, j, rfl, rfl, e3, by rw [rr.len]; exact e2, ?_⟩
    have r' := (r.mono s1).mono s2
    exact fq _ _ I2 _ _ q (s1.trans s2) (hr2.write e1 (fun _ _ z => nomatch z) (o := .lst (vs.set j v)) (m := .lst (xs.set j d)) ⟨_, rfl, rr.setN r' j⟩) ((rs.mono s1).mono s2)
  · exact q2.elim
end
abbrev DRC := List D → Mp → DK → Prop
def LC (K : PySem.W.Frag) (r' : List V → Hp → VK → Prop) (r : DRC) : Prop := ∀ I M F H vs ds Qd Q, HR K I M F H → Reps K I vs ds → r ds M Qd → Fin K I F Qd Q → r' vs H Q
def dCB (r : DRC) (ta : DTA) : DTE := fun δ M Q E => ta δ M (fun ds M1 => r ds M1 Q) E
theorem CallR.or {X : Cx} {f : Value} {r r' : List V → Hp → VK → Prop} (h : CallR X f r) (h' : CallR X f r') : CallR X f (fun xs H Q => r xs H Q ∨ r' xs H Q) := by
  intro pins s σ H xs us Q I rv z
  rcases z with z | z
  · exact h pins s σ H xs us Q I rv z
  · exact h' pins s σ H xs us Q I rv z
section
variable {X : Cx} {W : WX} {e a b c : Expr} {es : List Expr} {ta tb te tc : DTE} {tr : DTA} {pos p : Pos} {x : Str} {bid T : String} {r : DRC} {r' : List V → Hp → VK → Prop}
theorem cb_lift {K : PySem.W.Frag} (hl : LC K r' r) : ∀ σ H Q, lE K W (dCB r tr) σ H Q → tCB r' (lA K W tr) σ H Q := by
  intro σ H Q h
  obtain ⟨I, M, F, δ, Qd, Ed, hr, rs, q, fq, fx⟩ := h
  exact ⟨I, M, F, δ, _, Ed, hr, rs, q, fun ds M1 I1 H1 vs q1 s1 hr1 r1 => hl I1 M1 F H1 vs ds Qd Q hr1 r1 q1 (fq.mono s1), fx⟩
theorem d_callB (hc : CallR X (.builtin bid) r') (hl : LC X.K r' r) (hm : X.mg x = none) (hv : bootBuiltins x = some (.builtin bid)) (ha : DA X W (e :: es) tr) (hg : Gl X x := by rfl) (hn : x ≠ "__name__" := by decide) (hdb : (x == ("__debug__" : Str)) = false := by decide)
    (he : starEach (e :: es) X.env = (false, eval e X.env) :: starEach es X.env := by rfl) (hpl : (backTo pos (starEach es X.env)).any (·.1) = false := by rfl) : DE X W (.Call (.Name x p) (e :: es) [] pos) (dCB r tr) :=
  pe_imp (pe_callB hc hg hm hv ha hn hdb he hpl) (cb_lift hl)
theorem d_callTy (hc : CallR X (.type T) r') (hl : LC X.K r' r) (hm : X.mg x = none) (hv : bootBuiltins x = some (.type T)) (ha : DA X W (e :: es) tr) (hg : Gl X x := by rfl) (hn : x ≠ "__name__" := by decide) (hdb : (x == ("__debug__" : Str)) = false := by decide)
    (he : starEach (e :: es) X.env = (false, eval e X.env) :: starEach es X.env := by rfl) (hpl : (backTo pos (starEach es X.env)).any (·.1) = false := by rfl) : DE X W (.Call (.Name x p) (e :: es) [] pos) (dCB r tr) :=
  pe_imp (pe_callTy hc hg hm hv ha hn hdb he hpl) (cb_lift hl)
def dLen1 (d : D) (M : Mp) (Q : DK) : Prop := match d with
  | .str z => z.length ≤ sizeLine ∧ Q (.int (z.length : Nat)) M
  | .lst xs => Q (.int (xs.length : Nat)) M
  | .sq xs => Q (.int (xs.length : Nat)) M
  | .tup xs => Q (.int (xs.length : Nat)) M
  | .dct xs => Q (.int (xs.length : Nat)) M
  | .ref a => ∃ m, M a = some m ∧ (match m with | .lst xs => Q (.int (xs.length : Nat)) M | .dct xs => Q (.int (xs.length : Nat)) M | _ => False)
  | _ => False
def one (ds : List D) (k : D → Prop) : Prop := match ds with | [d] => k d | _ => False
def two (ds : List D) (k : D → D → Prop) : Prop := match ds with | [d, e] => k d e | _ => False
theorem one_out {K : PySem.W.Frag} {I : Hp} {vs : List V} {ds : List D} {k : D → Prop} (r : Reps K I vs ds) (h : one ds k) : ∃ v d, vs = [v] ∧ Rep K I v d ∧ k d := by
  unfold one at h
  split at h
  · cases r with | cons a b => cases b; exact ⟨_, _, rfl, a, h⟩
  · exact h.elim
theorem two_out {K : PySem.W.Frag} {I : Hp} {vs : List V} {ds : List D} {k : D → D → Prop} (r : Reps K I vs ds) (h : two ds k) : ∃ v w d e, vs = [v, w] ∧ Rep K I v d ∧ Rep K I w e ∧ k d e := by
  unfold two at h
  split at h
  · cases r with | cons a b => cases b with | cons b c => cases c; exact ⟨_, _, _, _, rfl, a, b, h⟩
  · exact h.elim
def dLen : DRC := fun ds M Q => one ds fun d => dLen1 d M Q
theorem RepK.len {K : PySem.W.Frag} {I : Hp} : ∀ {vs : List (Key × V)} {ds : List (Key × D)}, RepK K I vs ds → vs.length = ds.length
  | _, _, .nil => rfl
  | _, _, .cons _ r => congrArg (· + 1) r.len
theorem lc_len {K : PySem.W.Frag} : LC K (fun xs H Q => (∃ x n, xs = [x] ∧ LenV K x H n ∧ Q (.int n) H) ∨ ∃ d kvs, xs = [.ref d] ∧ H d = some (.dK kvs) ∧ Q (.int kvs.length) H) dLen := fun I M F H vs ds Qd Q hr rs q fq => by
  obtain ⟨v, d, rfl, r, q⟩ := one_out rs q
  have fin : ∀ n : Nat, Qd (.int n) M → Q (.int n) H := fun n z => fq _ M I H _ z (Same.refl I) hr (.int _)
  cases r with
  | str z => exact .inl ⟨_, _, rfl, ⟨q.1, rfl⟩, fin _ q.2⟩
  | lst s rr => exact .inl ⟨_, _, rfl, .inl ⟨_, SqL.of (hr.imm _ _ s), rfl⟩, by rw [rr.len]; exact fin _ q⟩
  | sq s rr => exact .inl ⟨_, _, rfl, .inl ⟨_, hr.sq s, rfl⟩, by rw [rr.len]; exact fin _ q⟩
  | tup s rr => exact .inl ⟨_, _, rfl, .inr ⟨_, hr.st s, rfl⟩, by rw [rr.len]; exact fin _ q⟩
  | dct s rr => exact .inr ⟨_, _, rfl, hr.imm _ _ s, by rw [rr.len]; exact fin _ q⟩
  | ref a =>
    obtain ⟨m, e, q⟩ := q
    cases m with
    | lst xs => obtain ⟨vs, e1, rr⟩ := hr.lst e; exact .inl ⟨_, _, rfl, .inl ⟨_, SqL.of e1, rfl⟩, by rw [rr.len]; exact fin _ q⟩
    | dct xs => obtain ⟨vs, e1, rr⟩ := hr.dct e; exact .inr ⟨_, _, rfl, e1, by rw [rr.len]; exact fin _ q⟩
    | ins C fs => exact q.elim
    | exc C fs => exact q.elim
    | xd fs => exact q.elim
    | dT fs => exact q.elim
    | dctL od us fs => exact q.elim
    | dTL od us fs => exact q.elim
  | _ => exact q.elim
theorem d_len (hm : X.mg "len" = none) (ha : DA X W [e] tr) (he : starEach [e] X.env = (false, eval e X.env) :: starEach [] X.env := by rfl) (hg : Gl X "len" := by rfl) : DE X W (.Call (.Name "len" p) [e] [] pos) (dCB dLen tr) :=
  d_callB (CallR.or call_len call_lenD) lc_len hm PySem.boot_len ha hg (he := he)
def dMax : DRC := fun ds M Q => two ds fun x y => i2 x y fun i j => Q (.int (if j > i then j else i)) M
def dMin : DRC := fun ds M Q => two ds fun x y => i2 x y fun i j => Q (.int (if j < i then j else i)) M
theorem lc_max {K : PySem.W.Frag} : LC K (fun xs H Q => ∃ i j, xs = [.int i, .int j] ∧ Q (.int (if j > i then j else i)) H) dMax := fun I M F H vs ds Qd Q hr rs q fq => by
  obtain ⟨v, w, d, e, rfl, r1, r2, q⟩ := two_out rs q
  obtain ⟨i, j, rfl, rfl, q⟩ := i2_out r1 r2 q
  exact ⟨i, j, rfl, fq _ M I H _ q (Same.refl I) hr (.int _)⟩
theorem lc_min {K : PySem.W.Frag} : LC K (fun xs H Q => ∃ i j, xs = [.int i, .int j] ∧ Q (.int (if j < i then j else i)) H) dMin := fun I M F H vs ds Qd Q hr rs q fq => by
  obtain ⟨v, w, d, e, rfl, r1, r2, q⟩ := two_out rs q
  obtain ⟨i, j, rfl, rfl, q⟩ := i2_out r1 r2 q
  exact ⟨i, j, rfl, fq _ M I H _ q (Same.refl I) hr (.int _)⟩
theorem d_max (g : Good X W) (hm : X.mg "max" = none) (ha : DA X W [a, b] tr) (he : starEach [a, b] X.env = (false, eval a X.env) :: starEach [b] X.env := by rfl) (hpl : (backTo pos (starEach [b] X.env)).any (·.1) = false := by rfl) (hg : Gl X "max" := by rfl) : DE X W (.Call (.Name "max" p) [a, b] [] pos) (dCB dMax tr) :=
  d_callB (call_max2 g.calm) lc_max hm (by decide +kernel) ha hg (he := he) (hpl := hpl)
theorem d_min (g : Good X W) (hm : X.mg "min" = none) (ha : DA X W [a, b] tr) (he : starEach [a, b] X.env = (false, eval a X.env) :: starEach [b] X.env := by rfl) (hpl : (backTo pos (starEach [b] X.env)).any (·.1) = false := by rfl) (hg : Gl X "min" := by rfl) : DE X W (.Call (.Name "min" p) [a, b] [] pos) (dCB dMin tr) :=
  d_callB (call_min2 g.calm) lc_min hm (by decide +kernel) ha hg (he := he) (hpl := hpl)
theorem reps_ints {K : PySem.W.Frag} {I : Hp} : ∀ {ns : List Int} {vs : List V}, Reps K I vs (ns.map D.int) → vs = ns.map V.int
  | [], _, .nil => rfl
  | n :: ns, _, .cons r rr => by
    cases r
    rw [reps_ints rr]
    rfl
theorem reps_bls {K : PySem.W.Frag} {I : Hp} : ∀ {ns : List Bool} {vs : List V}, Reps K I vs (ns.map D.bl) → vs = ns.map V.bl
  | [], _, .nil => rfl
  | n :: ns, _, .cons r rr => by
    cases r
    rw [reps_bls rr]
    rfl
theorem reps_strs {K : PySem.W.Frag} {I : Hp} : ∀ {ns : List Str} {vs : List V}, Reps K I vs (ns.map D.str) → vs = ns.map V.str
  | [], _, .nil => rfl
  | n :: ns, _, .cons r rr => by
    cases r
    rw [reps_strs rr]
    rfl
def dSum : DRC := fun ds M Q => one ds fun d => asR M d fun xs => ∃ ns : List Int, xs = ns.map D.int ∧ Q (.int ns.sum) M
def dAll : DRC := fun ds M Q => one ds fun d => asR M d fun xs => ∃ ns : List Bool, xs = ns.map D.bl ∧ Q (.bl (ns.all id)) M
theorem lc_sum {K : PySem.W.Frag} : LC K (rSum K) dSum := fun I M F H vs ds Qd Q hr rs q fq => by
  obtain ⟨v, d, rfl, r, q⟩ := one_out rs q
  obtain ⟨a, ws, es, rfl, s, rr, ns, rfl, q⟩ := asR_out hr r q
  cases reps_ints rr
  exact ⟨a, ns, rfl, s, fq _ M I H _ q (Same.refl I) hr (.int _)⟩
theorem lc_all {K : PySem.W.Frag} : LC K (rAll K) dAll := fun I M F H vs ds Qd Q hr rs q fq => by
  obtain ⟨v, d, rfl, r, q⟩ := one_out rs q
  obtain ⟨a, ws, es, rfl, s, rr, ns, rfl, q⟩ := asR_out hr r q
  cases reps_bls rr
  exact ⟨a, ns, rfl, s, fq _ M I H _ q (Same.refl I) hr (.bl _)⟩
theorem d_sum (g : Good X W) (hm : X.mg "sum" = none) (ha : DA X W [e] tr) (he : starEach [e] X.env = (false, eval e X.env) :: starEach [] X.env := by rfl) (hg : Gl X "sum" := by rfl) : DE X W (.Call (.Name "sum" p) [e] [] pos) (dCB dSum tr) :=
  d_callB (cr_sum g.calm) lc_sum hm (by decide +kernel) ha hg (he := he)
theorem d_all (g : Good X W) (hm : X.mg "all" = none) (ha : DA X W [e] tr) (he : starEach [e] X.env = (false, eval e X.env) :: starEach [] X.env := by rfl) (hg : Gl X "all" := by rfl) : DE X W (.Call (.Name "all" p) [e] [] pos) (dCB dAll tr) :=
  d_callB (cr_all g.calm) lc_all hm (by decide +kernel) ha hg (he := he)
inductive Ty where
  | non | bl | int | str | lst | tup | dct | own
def Ty.nm : Ty → String
  | .non => "NoneType" | .bl => "bool" | .int => "int" | .str => "str" | .lst => "list" | .tup => "tuple" | .dct => "dict" | .own => ""
def isT : Ty → Ty → Bool
  | .bl, .bl => true | .bl, .int => true | .int, .int => true | .str, .str => true | .lst, .lst => true | .tup, .tup => true | .dct, .dct => true | _, _ => false
theorem kit_all (K : PySem.W.Frag) : ∀ t u : Ty, t ≠ .own → u ≠ .non → u ≠ .own → PySem.W.kitOne K (.type t.nm) (.type u.nm) = some (isT t u) := by
  intro t u h1 h h2
  cases u <;> first | exact absurd rfl h | exact absurd rfl h2 | (cases t <;> first | exact absurd rfl h1 | exact kit_ty (by decide +kernel))
def tyD (d : D) (M : Mp) (k : Ty → Prop) : Prop := match d with
  | .non => k .non | .bl _ => k .bl | .int _ => k .int | .str _ => k .str | .lst _ => k .lst | .sq _ => k .lst | .tup _ => k .tup | .dct _ => k .dct
  | .ref a => ∃ m, M a = some m ∧ (match m with | .lst _ => k .lst | .dct _ => k .dct | .exc _ _ => k .own | _ => False)
  | _ => False
theorem call_isiE {X : Cx} : CallR X (.builtin "isinstance") (fun xs H Q => ∃ (a C d : Addr) (vs : List (Str × V)) (n : String), xs = [.ref a, .ty n] ∧ ExcCls X.K C ∧ H a = some (exo a C (some d)) ∧ H d = some (exd d vs) ∧ PySem.W.kitOne X.K (.ref C) (.type n) = some false ∧ Q (.bl false) H) := by
  intro pins s σ H xs us Q I r h
  obtain ⟨a, C, d, vs, n, rfl, c, ha, hd, hk, q⟩ := h
  obtain ⟨u1, u2, rfl, r1, r2⟩ := vals2 r
  cases (show u1 = Value.ref a from r1)
  cases (show u2 = Value.type n from r2)
  obtain ⟨t1, g1⟩ := exo_at I.hok ha
  obtain ⟨mA, ⟨od, es, ep, g2, _⟩, _⟩ := exd_at I.hok hd
  refine PySem.W.kia_one (PySem.W.kitx_exc (od := some od) c.cl c.ga c.gt c.sub c.ca c.sp c.tk c.mr) I.kIn ⟨g1, rfl, rfl, ?_⟩ hk (fun z => nomatch z) fun tk => ⟨.bl false, H, I.tok tk, rfl, q⟩
  exact g2
theorem tyD_out {K : PySem.W.Frag} {I : Hp} {M : Mp} {F H : Hp} (hr : HR K I M F H) {v : V} {d : D} {k : Ty → Prop} (r : Rep K I v d) (h : tyD d M k) : (∃ t : Ty, t ≠ .own ∧ TyX K H v (.type t.nm) ∧ k t) ∨ ∃ a C ds d vs, v = .ref a ∧ RepO K I H a (exo a C (some d)) (.exc C ds) ∧ H a = some (exo a C (some d)) ∧ H d = some (exd d vs) ∧ k .own := by
  cases r with
  | non => exact .inl ⟨.non, (fun z => nomatch z), .base .non, h⟩
  | bl b => exact .inl ⟨.bl, (fun z => nomatch z), .base (.bl b), h⟩
  | int i => exact .inl ⟨.int, (fun z => nomatch z), .base (.int i), h⟩
  | str x => exact .inl ⟨.str, (fun z => nomatch z), .base (.str x), h⟩
  | lst s rr => exact .inl ⟨.lst, (fun z => nomatch z), .base (.lst (hr.imm _ _ s)), h⟩
  | sq s rr =>
    rcases hr.sq s with (z | ⟨o, z⟩) | ⟨o, _, _, z, c, _⟩
    · exact .inl ⟨.lst, (fun z => nomatch z), .base (.lst z), h⟩
    · exact .inl ⟨.lst, (fun z => nomatch z), .base (.frz z), h⟩
    · exact .inl ⟨.lst, (fun z => nomatch z), .kList z c, h⟩
  | tup s rr =>
    rcases hr.st s with (z | ⟨o, z⟩) | ⟨o, _, _, z, c, _⟩
    · exact .inl ⟨.tup, (fun z => nomatch z), .base (.tup z), h⟩
    · exact .inl ⟨.tup, (fun z => nomatch z), .fTuple z, h⟩
    · exact .inl ⟨.tup, (fun z => nomatch z), .kTuple z c, h⟩
  | dct s rr => exact .inl ⟨.dct, (fun z => nomatch z), .base (.dK (hr.imm _ _ s)), h⟩
  | ins s rr => exact h.elim
  | ty n => exact h.elim
  | ref a =>
    obtain ⟨m, e, q⟩ := h
    cases m with
    | lst xs => obtain ⟨vs, e1, rr⟩ := hr.lst e; exact .inl ⟨.lst, (fun z => nomatch z), .base (.lst e1), q⟩
    | dct xs => obtain ⟨vs, e1, rr⟩ := hr.dct e; exact .inl ⟨.dct, (fun z => nomatch z), .base (.dK e1), q⟩
    | ins C fs => exact q.elim
    | xd fs => exact q.elim
    | dT fs => exact q.elim
    | dctL od us fs => exact q.elim
    | dTL od us fs => exact q.elim
    | exc C fs =>
      obtain ⟨_, o, e1, c, d, vs, rfl, e2, rr⟩ := hr.mu a _ e
      exact .inr ⟨a, C, fs, d, vs, rfl, ⟨c, d, vs, rfl, e2, rr⟩, e1, e2, q⟩
def dIsi (u : Ty) (te : DTE) : DTE := fun δ M Q E => te δ M (fun d M1 => tyD d M1 fun t => Q (.bl (isT t u)) M1) E
theorem d_isi (u : Ty) {y : Str} {p' : Pos} (hu : u ≠ .non) (hu2 : u ≠ .own) (hm : X.mg "isinstance" = none) (hmy : X.mg y = none) (hy : bootBuiltins y = some (.type u.nm)) (he : DE X W e te) (hs : starEach [e, .Name y p'] X.env = (false, eval e X.env) :: starEach [.Name y p'] X.env := by rfl) (hgy : Gl X y := by rfl) (hny : y ≠ "__name__" := by decide) (hdy : (y == ("__debug__" : Str)) = false := by decide)
    (hs2 : starEach [.Name y p'] X.env = (false, eval (.Name y p') X.env) :: starEach [] X.env := by rfl) (hpl : (backTo pos (starEach [.Name y p'] X.env)).any (·.1) = false := by rfl) (hg : Gl X "isinstance" := by rfl) : DE X W (.Call (.Name "isinstance" p) [e, .Name y p'] [] pos) (dIsi u te) := by
  refine pe_imp (pe_callB (CallR.or call_isi call_isiE) hg hm (by decide +kernel) (pa_cons he (pa_cons (pe_bltn hgy hmy hy (v := .ty u.nm) rfl hny hdy) pa_nil hs2) hs) (by decide) (by decide) hs hpl) fun σ H Q h => ?_
  obtain ⟨I, M, F, δ, Qd, Ed, hr, rs, q, fq, fx⟩ := h
  refine ⟨I, M, F, δ, _, Ed, hr, rs, q, fun d M1 I1 H1 v q1 s1 hr1 r1 => ?_, fx⟩
  rcases tyD_out hr1 r1 q1 with ⟨t, ht, ty, q⟩ | ⟨a, C, ds, dd, vs, rfl, ro, e1, e2, q⟩
  · exact .inl ⟨v, .ty u.nm, _, _, _, rfl, .ty _, ty, kit_all X.K t u ht hu hu2, fq _ M1 I1 H1 _ q s1 hr1 (.bl _)⟩
  · refine .inr ⟨a, C, dd, vs, u.nm, rfl, ro.1, e1, e2, ro.1.kit u.nm ?_, ?_⟩
    · cases u <;> first | exact absurd rfl hu | exact absurd rfl hu2 | exact (by decide)
    · have e0 : isT .own u = false := by cases u <;> rfl
      rw [e0] at q
      exact fq _ M1 I1 H1 _ q s1 hr1 (.bl _)
def dJoin (to te : DTE) : DTE := fun δ M Q E => to δ M (fun x M1 => match x with
  | .str z => te δ M1 (fun d M2 => asR M2 d fun xs => ∃ ys : List Str, xs = ys.map D.str ∧ (ys.map (·.length)).sum + ys.length * z.length ≤ 16777216 ∧ Q (.str (Txt.join z ys)) M2) E
  | _ => False) E
theorem d_join {o : Expr} {to : DTE} {apos : Pos} (ho : DE X W o to) (he : DE X W e te) (hs : starEach [e] X.env = [(false, eval e X.env)] := by rfl) (hbase : attributeBase o "join" X.env (eval o X.env) = eval o X.env := by rfl) (hline : (apos.endLine == pos.line) = true := by rfl) :
    DE X W (.Call (.Attribute o "join" apos) [e] [] pos) (dJoin to te) := pe_imp (pe_join ho he hs hbase hline) fun σ H Q h => by
  obtain ⟨I, M, F, δ, Qd, Ed, hr, rs, q, fq, fx⟩ := h
  refine ⟨I, M, F, δ, _, Ed, hr, rs, q, fun d M1 I1 H1 v q1 s1 hr1 r1 => ?_, fx⟩
  cases r1 with
  | str z =>
    refine ⟨⟨z, rfl⟩, I1, M1, F, δ, _, Ed, hr1, rs.mono s1, q1, fun y M2 I2 H2 w q2 s2 hr2 r2 => ?_, fx.mono s1⟩
    obtain ⟨a, vs, es, rfl, s, rr, ys, rfl, hz, q⟩ := asR_out hr2 r2 q2
    cases reps_strs rr
    exact ⟨z, a, ys, rfl, rfl, .inl s, hz, fq _ M2 I2 H2 _ q (s1.trans s2) hr2 (.str _)⟩
  | _ => exact q1.elim
def dAppend (to te : DTE) : DTE := fun δ M Q E => to δ M (fun x M1 => match x with
  | .ref a => (∃ ys, M1 a = some (.lst ys)) ∧ te δ M1 (fun d M2 => ∃ xs, M2 a = some (.lst xs) ∧ xs.length < sizeLine ∧ Q .non (updM M2 a (.lst (xs ++ [d])))) E
  | _ => False) E
theorem d_append {o : Expr} {to : DTE} {apos : Pos} (ho : DE X W o to) (he : DE X W e te) (hs : starEach [e] X.env = (false, eval e X.env) :: starEach [] X.env := by rfl) (hbase : attributeBase o "append" X.env (eval o X.env) = eval o X.env := by rfl) (hline : (apos.endLine == pos.line) = true := by rfl)
    (hfew : ((backTo pos (starEach [e] X.env)).all (fun x => !x.1) && (backToKw pos (keywordEach [] X.env)).all (fun x => x.1.isSome) && decide ([e].length + ([] : List Keyword).length + (if ([] : List Keyword).isEmpty then 0 else 1) < 30)) = true := by rfl) :
    DE X W (.Call (.Attribute o "append" apos) [e] [] pos) (dAppend to te) := by
  refine pe_imp (pe_bm PySem.F.plainAttrs_list PySem.F.slot_list_append PySem.F.type_list_append mt_append ho (pa_cons he pa_nil hs) hbase hfew hline hs) fun σ H Q h => ?_
  obtain ⟨I, M, F, δ, Qd, Ed, hr, rs, q, fq, fx⟩ := h
  refine ⟨I, M, F, δ, _, Ed, hr, rs, q, fun d M1 I1 H1 v q1 s1 hr1 r1 => ?_, fx⟩
  cases r1 with
  | ref a =>
    obtain ⟨⟨ys, e0⟩, q1⟩ := q1
    obtain ⟨vs0, e1, rr0⟩ := hr1.lst e0
    refine ⟨.inl ⟨rfl, vs0, SqL.of e1⟩, I1, M1, F, δ, _, Ed, hr1, rs.mono s1, q1, fun y M2 I2 H2 w q2 s2 hr2 r2 => ?_, fx.mono s1⟩
    obtain ⟨xs, e2, hl, q⟩ := q2
    obtain ⟨vs, e3, rr⟩ := hr2.lst e2
    exact ⟨a, vs, w, rfl, rfl, e3, by rw [rr.len]; exact hl, fq _ _ I2 _ _ q (s1.trans s2) (hr2.write e2 (fun _ _ z => nomatch z) (o := .lst (vs ++ [w])) (m := .lst (xs ++ [y])) ⟨_, rfl, rr.snoc r2⟩) .non⟩
  | _ => exact q1.elim
end
def rNotC : R2 := fun x y H Q => (y = .non ∨ ∃ b, y = .bl b) ∧ Q (.bl (!decide (x = y))) H
section
variable {X : Cx}
theorem op_notC : OpR X (compareOp .IsNot) rNotC := by
  intro pins s σ H x y v u Q I rx ry h
  obtain ⟨h | ⟨b, h⟩, q⟩ := h
  · subst h
    exact op_notN pins s σ H x .non v u Q I rx ry ⟨rfl, q⟩
  · subst h
    cases (show u = Value.bool b from ry)
    by_cases e : x = .bl b
    · subst e
      cases (show v = Value.bool b from rx)
      exact wpAny_isNot_self rfl ⟨.bl false, H, I, rfl, by simpa using q⟩
    · refine wpAny_isNot_other ?_ ?_ ⟨.bl true, H, I, rfl, by simpa [e] using q⟩
      · cases x <;> first | (cases rx; rfl) | (obtain ⟨t, rfl⟩ := rx; rfl)
      · intro z
        subst z
        exact e (Option.some.inj (rx.abs.symm.trans rfl))
end
def isN : D → Bool
  | .non => true
  | _ => false
def isB (b : Bool) : D → Bool
  | .bl a => decide (a = b)
  | _ => false
def isc (x y : D) (k : Bool → Prop) : Prop := match y with
  | .non => k (isN x)
  | .bl b => k (isB b x)
  | _ => False
def dIsNot : DR2 := fun x y M Q => isc x y fun b => Q (.bl (!b)) M
theorem isc_out {K : PySem.W.Frag} {I : Hp} {v w : V} {x y : D} {k : Bool → Prop} (rx : Rep K I v x) (ry : Rep K I w y) (h : isc x y k) : (w = .non ∨ ∃ b, w = .bl b) ∧ k (decide (v = w)) := by
  cases ry <;> first | exact h.elim | skip
  · refine ⟨.inl rfl, ?_⟩
    cases rx <;> first | exact h | (rw [decide_eq_false (fun z => nomatch z)]; exact h)
  · rename_i b
    refine ⟨.inr ⟨b, rfl⟩, ?_⟩
    cases rx <;> first
      | (rw [decide_eq_false (fun z => nomatch z)]; exact h)
      | (rename_i a
         have e : decide (V.bl a = V.bl b) = decide (a = b) := by
           rw [dec_bl, Bool.beq_eq_decide_eq]
         rw [e]; exact h)
theorem lr_isNot {K : PySem.W.Frag} : LR K rNotC dIsNot := fun I M F H x y dx dy Qd Q hr rx ry q fq => by
  obtain ⟨h1, h2⟩ := isc_out rx ry q
  exact ⟨h1, fq _ M I H _ h2 (Same.refl I) hr (.bl _)⟩
theorem HR.bump {K : PySem.W.Frag} {I : Hp} {M : Mp} {F H : Hp} (h : HR K I M F H) {p : Addr} (hp : H p = none) (o : HO) : HR K I M F (upd H p o) := by
  obtain ⟨h1, h2, h3⟩ := h.fresh hp
  have kp : ∀ d φ, H d = some (.ext φ) → upd H p o d = some (.ext φ) := fun d φ e => by rw [upd_ne (ne_of_none e hp)]; exact e
  refine ⟨fun a u e => ?_, fun a m e => ?_, fun a u e => ?_, h.ft⟩
  · have q : a ≠ p := fun z => by rw [z, h1] at e; cases e
    rw [upd_ne q]; exact h.imm a u e
  · have q : a ≠ p := fun z => by rw [z, h2] at e; cases e
    rw [upd_ne q]
    obtain ⟨x, y, z, t⟩ := h.mu a m e
    exact ⟨x, y, z, t.mono (Same.refl I) kp⟩
  · have q : a ≠ p := fun z => by rw [z, h3] at e; cases e
    rw [upd_ne q]; exact h.frm a u e
theorem kit_sub {K : PySem.W.Frag} {C : Addr} {n : String} {b : Bool} (h : PySem.W.kitMeta n = true) (e : PySem.W.subIn K (.ref C) (.type n) = some b) : PySem.W.kitOne K (.ref C) (.type n) = some b := by
  unfold PySem.W.kitOne
  rw [if_neg (show ¬ ((Value.ref C == Value.type n) = true) from fun z => nomatch (beq_iff_eq.mp z))]
  show (if PySem.W.kitMeta n = true then PySem.W.subIn K (.ref C) (.type n) else none) = some b
  rw [if_pos h]
  exact e
def spI (C : Addr) (f : Str) : Sp := fun vs H Q _ => ∃ (a : Addr) (v : V), vs = [.ref a, v] ∧ H a = some (exo a C none) ∧ ∀ dx, H dx = none → dx ≠ a → Q .non (upd (upd H dx (exd dx [(f, v)])) a (exo a C (some dx)))
structure ExcT (P : Program) (w : World) (K : PySem.W.Frag) (mg : Str → Option Value) (base : Heap) (k : Nat) (x f : Str) (C : Addr) : Prop where
  mgC : mg x = some (.ref C)
  oex : OexC K C
  cls : ExcCls K C
  ini : ∃ (fI : Addr) (fd : FuncData), PySem.W.findIn K (.ref C) "__init__" = some (some (.ref fI)) ∧ PySem.W.typeIn K (.ref fI) = some (.type "function") ∧ Binds K fd ["self", f] [] ∧ FnG P w K mg base (L2.CX P w) k fI fd ["self", f] (spI C f)
theorem nogd_make {A : Around} (h : NoGd A) (C : Addr) (us : List Value) (kw : List (Str × Value)) : NoGd (A.under (.builtin "type.__call__" ⟨.ref C :: us, kw⟩)) := by
  have e : (A.under (.builtin "type.__call__" ⟨.ref C :: us, kw⟩)).guards = A.guards := by
    first | rfl | simp [Around.under, Code.guards, Code.isGuard, guardIds, pushGuards]
  exact e.trans h
section
variable {X : Cx} {W : WX} {e : Expr} {te : TE} {td : DTE} {p pos : Pos} {x f : Str} {C : Addr} {k : Nat}
end
def putD (kvs : List (Key × D)) (k : Key) (v : D) : List (Key × D) :=
  if (kvs.any fun kv => decide (kv.1 = k)) = true then kvs.map (fun kv => if kv.1 = k then (kv.1, v) else kv) else kvs ++ [(k, v)]
theorem RepK.anyK {K : PySem.W.Frag} {I : Hp} (k : Key) : ∀ {vs : List (Key × V)} {ds : List (Key × D)}, RepK K I vs ds → (vs.any fun kv => decide (kv.1 = k)) = (ds.any fun kv => decide (kv.1 = k))
  | _, _, .nil => rfl
  | _, _, .cons _ r => by rw [List.any_cons, List.any_cons, RepK.anyK k r]
theorem RepK.mapP {K : PySem.W.Frag} {I : Hp} {k : Key} {v : V} {d : D} (r : Rep K I v d) : ∀ {vs : List (Key × V)} {ds : List (Key × D)}, RepK K I vs ds → RepK K I (vs.map fun kv => if kv.1 = k then (kv.1, v) else kv) (ds.map fun kv => if kv.1 = k then (kv.1, d) else kv)
  | _, _, .nil => .nil
  | _, _, .cons (k := k1) a b => by
    rw [List.map_cons, List.map_cons]
    by_cases e : k1 = k
    · rw [if_pos e, if_pos e]; exact .cons r (RepK.mapP r b)
    · rw [if_neg e, if_neg e]; exact .cons a (RepK.mapP r b)
theorem RepK.snoc {K : PySem.W.Frag} {I : Hp} {k : Key} {v : V} {d : D} (r : Rep K I v d) : ∀ {vs : List (Key × V)} {ds : List (Key × D)}, RepK K I vs ds → RepK K I (vs ++ [(k, v)]) (ds ++ [(k, d)])
  | _, _, .nil => .cons r .nil
  | _, _, .cons a b => .cons a (RepK.snoc r b)
theorem RepK.put {K : PySem.W.Frag} {I : Hp} {k : Key} {v : V} {d : D} (r : Rep K I v d) {vs : List (Key × V)} {ds : List (Key × D)} (h : RepK K I vs ds) : RepK K I (putK vs k v) (putD ds k d) := by
  unfold putK putD
  rw [h.anyK k]
  split
  · exact h.mapP r
  · exact h.snoc r
def kD : Key → D
  | .inl i => .int i
  | .inr x => .str x
inductive RepP (K : PySem.W.Frag) (I : Hp) : List (V × V) → List (D × D) → Prop
  | nil : RepP K I [] []
  | cons {x y : V} {d e : D} {ps : List (V × V)} {qs : List (D × D)} : Rep K I x d → Rep K I y e → RepP K I ps qs → RepP K I ((x, y) :: ps) ((d, e) :: qs)
theorem RepP.mono {K : PySem.W.Frag} {I I' : Hp} (e : Same I I') : ∀ {ps : List (V × V)} {qs : List (D × D)}, RepP K I ps qs → RepP K I' ps qs
  | _, _, .nil => .nil
  | _, _, .cons a b c => .cons (a.mono e) (b.mono e) (RepP.mono e c)
section
variable {X : Cx} {W : WX} {pos : Pos}
def dDict0 : DTE := fun _ M Q _ => Q (.dct []) M
theorem d_dict0 : DE X W (.Dict [] [] pos) dDict0 := pe_imp pe_dnewK fun σ H Q h => by
  obtain ⟨I, M, F, δ, Qd, Ed, hr, rs, q, fq, fx⟩ := h
  intro p hp
  have s := same_new (o := .dK []) (hr.fresh hp).1
  exact fq _ M _ _ _ q s (hr.newI hp _) (.dct upd_same .nil)
def dDict0M : DTE := fun _ M Q _ => ∀ p, M p = none → Q (.ref p) (updM M p (.dct []))
theorem d_dict0M : DE X W (.Dict [] [] pos) dDict0M := pe_imp pe_dnewK fun σ H Q h => by
  obtain ⟨I, M, F, δ, Qd, Ed, hr, rs, q, fq, fx⟩ := h
  intro p hp
  exact fq _ _ I _ _ (q p (hr.fresh hp).2.1) (Same.refl I) (hr.newM hp (o := .dK []) (m := .dct []) ⟨_, rfl, .nil⟩) (.ref p)
theorem d_gInt {x : Str} {i : Int} (hm : ∃ t, X.mg x = some (.int i t)) (hg : Gl X x := by rfl) (hd : (x == ("__debug__" : Str)) = false := by decide) : DE X W (.Name x pos) (dC (.int i)) := by
  obtain ⟨t, hm⟩ := hm
  exact d_glob hg hm (v := .int i) ⟨t, rfl⟩ (fun _ => .int i) hd
theorem d_gStr {x z : Str} (hm : ∃ t, X.mg x = some (.str z t)) (hg : Gl X x := by rfl) (hd : (x == ("__debug__" : Str)) = false := by decide) : DE X W (.Name x pos) (dC (.str z)) := by
  obtain ⟨t, hm⟩ := hm
  exact d_glob hg hm (v := .str z) ⟨t, rfl⟩ (fun _ => .str z) hd
end
theorem rep_ints {K : PySem.W.Frag} {I : Hp} : ∀ ns : List Int, Reps K I (ns.map V.int) (ns.map D.int)
  | [] => .nil
  | n :: ns => .cons (.int n) (rep_ints ns)
def KBd (K : PySem.W.Frag) (fd : FuncData) (ps : List Str) (n : Nat) (ks : List Str) (gD : List D → List D → List D) : Prop :=
  ∀ (s : Shared) (I : Hp) (us ws : List Value) (vs zs : List V) (ds es : List D), K.In s.heap → us.length = n → ws.length = ks.length → Vals vs us → Vals zs ws → Reps K I vs ds → Reps K I zs es →
    ∃ (bs : List Value) (xs : List V), BindsTo s fd ⟨us, ks.zip ws⟩ (ps.zip bs) ∧ Vals xs bs ∧ Reps K I xs (gD ds es)
structure Pat where
  n : Nat
  ks : List Str
  g : List D → List D → List D
structure FnK (P : Program) (w : World) (K : PySem.W.Frag) (mg : Str → Option Value) (base : Heap) (k : Nat) (x : Str) (ps : List Str) (sp : DSp) (pats : List Pat) : Prop where
  ex : ∃ (f : Addr) (fd : FuncData), mg x = some (.ref f) ∧ PySem.W.keepIn K (.ref f) = true ∧ (∀ (i : Nat) (p : Pat), pats[i]? = some p → KBd K fd ps p.n p.ks p.g) ∧ FnG P w K mg base (L2.CX P w) k f fd ps (lSp K sp)
def DKw (X : Cx) (W : WX) (kws : List Keyword) (t : DTA) : Prop := PK X kws (lA X.K W t)
section
variable {X : Cx} {W : WX} {e : Expr} {es : List Expr} {te : DTE} {ta tk : DTA} {pos p kpos : Pos} {k : Nat} {x : Str} {ps : List Str} {sp : DSp} {kws : List Keyword} {nm : Option Str}
theorem k_nil : DKw X W [] dNil := ⟨fun pos pins s σ H Q I h => pk_nil.run pos pins s σ H Q I (by
  obtain ⟨I, M, F, δ, Qd, Ed, hr, rs, q, fq, fx⟩ := h
  exact fq [] M I H [] q (Same.refl I) hr .nil)⟩
theorem k_cons (he : DE X W e te) (ha : DKw X W kws tk) : DKw X W (⟨nm, e, kpos⟩ :: kws) (dCn te tk) := ⟨fun pos pins s σ H Q I h => (pk_cons he ha).run pos pins s σ H Q I (by
  obtain ⟨I, M, F, δ, Qd, Ed, hr, rs, q, fq, fx⟩ := h
  refine ⟨I, M, F, δ, _, Ed, hr, rs, q, fun d M1 I1 H1 v q1 s1 hr1 r1 => ?_, fx⟩
  refine ⟨I1, M1, F, δ, _, Ed, hr1, rs.mono s1, q1, fun ds M2 I2 H2 vs q2 s2 hr2 r2 => ?_, fx.mono s1⟩
  exact fq _ M2 I2 H2 _ q2 (s1.trans s2) hr2 (.cons (r1.mono s2) r2))⟩
def dCallK (n m : Nat) (sp : DSp) (g : List D → List D → List D) (ta tk : DTA) : DTE := fun δ M Q E => ta δ M (fun ds M1 => tk δ M1 (fun es M2 => ds.length = n ∧ es.length = m ∧ sp (g ds es) M2 Q E) E) E
theorem run_k {pats : List Pat} {pt : Pat} {pins : List (Addr × Obj)} {σ : L2.St} {H : Hp} {s : Shared} {Q : VK} {us ws : List Value} {vs zs : List V} {ds es : List D} {Im F : Hp} {M : Mp} {Qd : DK} {Ed : DXK} {f : Addr} {fd : FuncData} (g : Good X W) (rm : Room k X.A)
    (kb : KBd X.K fd ps pt.n pt.ks pt.g) (G : FnG X.prog X.w X.K X.mg X.base (L2.CX X.prog X.w) k f fd ps (lSp X.K sp)) (J : L2.Inv X pins σ H s) (rv : Vals vs us) (rz : Vals zs ws) (hr : HR X.K Im M F H) (rd : Reps X.K Im vs ds) (re : Reps X.K Im zs es)
    (h1 : ds.length = pt.n) (h2 : es.length = pt.ks.length) (q : sp (pt.g ds es) M Qd Ed) (fq : Fin X.K Im F Qd Q) (fx : FinX X.K Im F Ed (WE W σ)) : wpAny (model X.prog X.w) X.A (call (.ref f) us (pt.ks.zip ws)) (EP X pins σ Q) X.xe s := by
  obtain ⟨bs, xs, bt, rb, rr⟩ := kb s Im us ws vs zs ds es J.kIn (by rw [← rv.length, rd.len]; exact h1) (by rw [← rz.length, re.len]; exact h2) rv rz rd re
  have pr : lSp X.K sp xs H Q (WE W σ) := ⟨Im, M, F, _, Qd, Ed, hr, rr, q, fq, fx⟩
  refine wpAny_call (codeAny_mono (goG (E := WE W) G g.ng rm (passAt g.tk σ) J bt rb pr) fun r s2 y => ?_)
  cases r with
  | error e => exact y
  | ok fl => cases fl <;> exact y
end
section
variable {P : Program} {w : World} {K : PySem.W.Frag} {mg : Str → Option Value} {base : Heap}
theorem pats_nil {Φ : Pat → Prop} : ∀ (i : Nat) (p : Pat), ([] : List Pat)[i]? = some p → Φ p := fun i p e => by simp at e
theorem pats_cons {Φ : Pat → Prop} {q : Pat} {r : List Pat} (h : Φ q) (hr : ∀ (i : Nat) (p : Pat), r[i]? = some p → Φ p) : ∀ (i : Nat) (p : Pat), (q :: r)[i]? = some p → Φ p
  | 0, p, e => by simp at e; exact e ▸ h
  | i + 1, p, e => hr i p (by simpa using e)
end
end DL
namespace DL
open PySem L2
theorem len_cons {α : Type} {n : Nat} {l : List α} (h : l.length = n + 1) : ∃ a r, l = a :: r ∧ r.length = n := by
  cases l with
  | nil => cases h
  | cons a r => exact ⟨a, r, rfl, by simpa using h⟩
theorem len_nil {α : Type} {l : List α} (h : l.length = 0) : l = [] := List.eq_nil_of_length_eq_zero h
theorem vals_cons {x : V} {xs : List V} {us : List Value} (r : Vals (x :: xs) us) : ∃ u us', us = u :: us' ∧ RelV x u ∧ Vals xs us' := by
  cases r with
  | cons a b => exact ⟨_, _, rfl, a, b⟩
theorem vals_consR {xs : List V} {u : Value} {us : List Value} (r : Vals xs (u :: us)) : ∃ x xs', xs = x :: xs' ∧ RelV x u ∧ Vals xs' us := by
  cases r with
  | cons a b => exact ⟨_, _, rfl, a, b⟩
theorem reps_consL {K : PySem.W.Frag} {I : Hp} {x : V} {xs : List V} {ds : List D} (r : Reps K I (x :: xs) ds) : ∃ d ds', ds = d :: ds' ∧ Rep K I x d ∧ Reps K I xs ds' := by
  cases r with
  | cons a b => exact ⟨_, _, rfl, a, b⟩
end DL
namespace DL
open PySem PySem.Spec PyProof.Rows L2
section
variable {X : Cx} {W : WX} {o e : Expr} {to te : DTE} {pos apos : Pos} {name : Str} {bid : String} {r' : V → List V → Hp → VK → Prop}
def s1 (y : D) (k : Str → Prop) : Prop := match y with | .str b => k b | _ => False
end
def dPar2 (i j : Nat) (ta : DTA) : DTS := fun Dd δ M => ta δ M (fun ds M1 => match ds with | [v, w] => Dd.nx ((δ.set i (some v)).set j (some w)) M1 | _ => False) (fun c fo M' => Dd.ex c fo δ M')
section
variable {X : Cx} {W : WX} {a b c : Expr} {ta : DTA} {pos px py pz pt : Pos} {kt k2 pt2} {x y z : Str}
theorem s_par2 (i j : Nat) (g : Good X W) (hN : X.N.Nodup) (ha : DA X W [a, b] ta) (hi : X.N[i]? = some x := by rfl) (hj : X.N[j]? = some y := by rfl) (hij : i ≠ j := by decide) (hx : X.env.scope.names.lookup x = some .local := by rfl) (hy : X.env.scope.names.lookup y = some .local := by rfl)
    (hw : swappedStores [.Tuple [.Name x px, .Name y py] kt pt] (.Tuple [a, b] k2 pt2) X.env = pure (some [x, y]) := by rfl) (hs : swapsWithSole [.Tuple [.Name x px, .Name y py] kt pt] (.Tuple [a, b] k2 pt2) pos.line X.env = pure false := by rfl) :
    DSt X W (.Assign [.Tuple [.Name x px, .Name y py] kt pt] (.Tuple [a, b] k2 pt2) pos) (dPar2 i j ta) := ps_imp (ps_par g.calm hN hi hj hij hx hy ha hw hs) fun Dn σ H h => by
  obtain ⟨I, M, F, δ, Dd, hr, rs, q, f⟩ := h
  refine ⟨I, M, F, δ, _, _, hr, rs, q, fun ds M1 I1 H1 vs q1 s1 hr1 r1 => ?_, f.x rs⟩
  dsimp only at q1
  split at q1
  · obtain ⟨v1, vs1, rfl, ra, r1⟩ := (by cases r1 with | cons p q => exact ⟨_, _, rfl, p, q⟩ : ∃ v vs', vs = v :: vs' ∧ Rep X.K I1 v _ ∧ Reps X.K I1 vs' _)
    cases r1 with
    | cons rb r1 =>
      cases r1
      exact ⟨_, _, rfl, f.nx _ M1 I1 H1 _ q1 s1 hr1 (((rs.mono s1).set i ra).set j rb)⟩
  · exact q1.elim
end
inductive NmsOk (X : Cx) : List Expr → List Value → Prop
  | nil : NmsOk X [] []
  | cons {x : Str} {c : Value} {np : Pos} {es : List Expr} {cs : List Value} : Names X x c → NmsOk X es cs → NmsOk X (.Name x np :: es) (c :: cs)
theorem exm_any1 {K : PySem.W.Frag} {cls c : Value} {b : Bool} (h : PySem.W.exmAny K cls [c] = some b) : PySem.W.exmOne K cls c = some b := by
  obtain ⟨b1, d1, h1, h2, rfl⟩ := PySem.W.exmAny_cons h
  have w : some false = some d1 := h2
  cases w
  rw [Bool.or_false]
  exact h1
theorem all_exc {M : Model} {K : PySem.W.Frag} {h : Heap} {cls : Value} (X : K.In h) : ∀ (cs : List Value) (b : Bool), PySem.W.exmAny K cls cs = some b →
    (∀ c ∈ cs, PySem.W.Looks M h (isExcClass c) true ∧ ∃ v, PySem.W.exmOne K cls c = some v ∧ PySem.W.Looks M h (isSubtype cls c) v)
  | [], _, _ => fun _ z => nomatch z
  | c :: r, b, e => by
    obtain ⟨b1, d1, h1, h2, _⟩ := PySem.W.exmAny_cons e
    intro x hx
    rcases List.mem_cons.mp hx with rfl | hx
    · obtain ⟨p, q⟩ := PySem.W.exm_cls (M := M) X h1
      exact ⟨p, b1, h1, q⟩
    · exact all_exc X r d1 h2 x hx
theorem any_exm {K : PySem.W.Frag} {cls : Value} : ∀ (cs : List Value) (b : Bool), PySem.W.exmAny K cls cs = some b → cs.any (fun c => PySem.W.exmOne K cls c == some true) = b
  | [], b, h => by
    have w : some false = some b := h
    cases w
    rfl
  | c :: r, b, h => by
    obtain ⟨b1, d1, h1, h2, rfl⟩ := PySem.W.exmAny_cons h
    rw [List.any_cons, any_exm r d1 h2, h1]
    cases b1 <;> rfl
section
variable {M : Model} {A : Around} {E : Value → Shared → Prop} {s : Shared}
theorem forIn_find {β : Type} {f : Value → β → Sem (ForInStep β)} {b x : β} {v : Value → Bool} {Q : β → Shared → Prop} : ∀ cs : List Value, (∀ c ∈ cs, ∀ R : ForInStep β → Shared → Prop, R (if v c = true then .done x else .yield b) s → wpAny M A (f c b) R E s) →
    Q (if cs.any v = true then x else b) s → wpAny M A (forIn cs b f) Q E s
  | [], _, q => by
    rw [List.forIn_nil]
    exact wpAny_pure q
  | c :: r, h, q => by
    rw [List.forIn_cons]
    refine wpAny_bind (h c List.mem_cons_self _ ?_)
    rw [List.any_cons] at q
    cases hv : v c with
    | true =>
      rw [hv, Bool.true_or, if_pos rfl] at q
      rw [if_pos rfl]
      exact wpAny_pure q
    | false =>
      rw [hv, Bool.false_or] at q
      rw [if_neg Bool.false_ne_true]
      exact forIn_find r (fun y hy => h y (List.mem_cons_of_mem _ hy)) q
end
theorem exm_tupN {M : Model} {K : PySem.W.Frag} {cs : List Value} {cls : Value} {tp e : Addr} {b : Bool} {h : Heap} (X : K.In h) (LT : PySem.W.Looks M h (typeOf (.ref e)) cls) (hp : h.get? tp = some { cls := .type "tuple", data := .seq cs.toArray }) (hx : PySem.W.exmAny K cls cs = some b) :
    PySem.W.Looks M h (excMatches (.ref e) (.ref tp)) b := by
  intro A Q E s k₀ q
  obtain ⟨hh, g, d, tk, os⟩ := s
  have k : ∀ b o, h.get? b = some o → hh.get? b = some o := k₀
  have LT0 : PySem.W.Looks M h (isInstance (.ref tp) (.type "tuple")) true := ((PySem.W.Looks.ld hp).andThen .now).andThen (PySem.W.Looks.of_pure isSubtype_tuple_tuple)
  have LT := LT.keeps k
  have LT0 := LT0.keeps k
  have hp' := k _ _ hp
  have al := all_exc (M := M) X cs b hx
  have an := any_exm cs b hx
  unfold excMatches
  refine wpAny_bind (LT0.at ?_)
  dsimp only
  rw [if_pos rfl]
  first
    | refine wpAny_bind (wpAny_seqItems hp' rfl ?_)
    | refine wpAny_bind (wpAny_bind (wpAny_seqItems hp' rfl (wpAny_pure ?_)))
  dsimp only [Option.getD_some, Option.getD]
  refine wpAny_bind (wpAny_pure ?_)
  refine wpAny_bind (forIn_find (v := fun _ => false) (x := PUnit.unit) cs (fun c hc R r => ?_) ?_)
  · refine wpAny_bind (((al c hc).1.keeps k).here ?_)
    exact wpAny_pure r
  · refine wpAny_bind (LT.here ?_)
    refine wpAny_bind (forIn_find (v := fun c => PySem.W.exmOne K cls c == some true) (x := ((some true, ()) : Option Bool × Unit)) cs (fun c hc R r => ?_) ?_)
    · obtain ⟨_, v, hv, L⟩ := al c hc
      refine wpAny_bind ((L.keeps k).here ?_)
      rw [hv] at r
      cases v
      · exact wpAny_pure r
      · exact wpAny_pure r
    · rw [an]
      cases b
      · exact wpAny_pure q
      · exact wpAny_pure q
structure Down (X : Cx) (pins : List (Addr × Obj)) (σ : L2.St) (H : Hp) (cls : Value) (d : Option Addr) (a : Addr) (s : Shared) : Prop where
  ex : ∃ (G : Heap) (s0 : Shared), Inv X pins σ H s0 ∧ (∀ b o, s0.heap.get? b = some o → b ∉ frs X.stack → G.get? b = some o) ∧ s0.heap.UpToSlots s.heap ∧ HandSPX.FlyingZ G (X.env :: X.outer) a (Zc cls d) s.heap ∧ s.os = s0.os ∧ AllBare s.gens
  no : H a = none
section
variable {X : Cx} {pins : List (Addr × Obj)} {σ : L2.St} {H : Hp} {cls : Value} {d : Option Addr} {a : Addr} {s : Shared}
theorem Down.inv (D : Down X pins σ H cls d a s) : Inv X pins σ H s := by
  obtain ⟨G, s0, J, nb, up, fl, os, ag⟩ := D.ex
  exact J.landed nb fl.1 up os ag
theorem Down.keeps {h' : Heap} (D : Down X pins σ H cls d a s) (k : ∀ b o, s.heap.get? b = some o → h'.get? b = some o) : Down X pins σ H cls d a { s with heap := h' } := by
  obtain ⟨G, s0, J, nb, up, ⟨f1, f2, f3, oe, ws, T, oT, ts, he, hz, hd, g1, hn, hne, hT, hdT, g3⟩, os, ag⟩ := D.ex
  exact ⟨⟨G, s0, J, nb, up.trans (Heap.UpToSlots.of_keeps k), ⟨fun b o q => k b o (f1 b o q), f2, f3.of_keeps fun b o q _ => ⟨o, k b o q, rfl⟩, oe, ws, T, oT, ts, k _ _ he, hz, hd, g1, hn, hne, k _ _ hT, hdT, g3⟩, os, ag⟩, D.no⟩
theorem Down.again {M : Model} {A : Around} {E : Value → Shared → Prop} {Q : Unit → Shared → Prop} (D : Down X pins σ H cls d a s) (q : ∀ h', Down X pins σ H cls d a { s with heap := h' } → Q () { s with heap := h' }) : wpAny M A (setFlight (.ref a) none) Q E s := by
  obtain ⟨G, s0, J, nb, up, fl, os, ag⟩ := D.ex
  exact HandSPX.lands_againZ fl fun h' fl' up' => q h' ⟨⟨G, s0, J, nb, up.trans up', fl', os, ag⟩, D.no⟩
theorem Down.there (D : Down X pins σ H cls d a s) : ∃ oe vs, s.heap.get? a = some oe ∧ Zc cls d oe ∧ oe.data = .fields vs := by
  obtain ⟨_, _, _, _, _, fl, _, _⟩ := D.ex
  exact fl.there
theorem Down.suite (hf : X.env.frame = some X.env.locals) (D : Down X pins σ H cls d a s) : ∃ oe, Zc cls d oe ∧ (∃ vs, oe.data = .fields vs) ∧ s.heap.get? a = some oe ∧ Inv (X.suite a ((a, oe) :: (X.pn ++ pins))) [] σ H s := by
  obtain ⟨oe, vs, he, hz, hd⟩ := D.there
  obtain ⟨G, s0, _, _, _, fl, _, _⟩ := D.ex
  have off : a ∉ frs (X.env :: X.outer) := fun m => by
    obtain ⟨_, o2, e2, n2⟩ := fl.2.2.1.mem m
    exact n2 vs (by rw [← Option.some.inj (he.symm.trans e2)]; exact hd)
  exact ⟨oe, hz, ⟨vs, hd⟩, he, D.inv.suite he hd D.no (fun z => off (List.mem_filterMap.mpr ⟨X.env, List.mem_cons_self, z ▸ hf⟩)) fun m => by
    obtain ⟨en, h1, h2⟩ := List.mem_filterMap.mp m
    exact off (List.mem_filterMap.mpr ⟨en, List.mem_cons_of_mem _ h1, h2⟩)⟩
theorem Down.pass {W : WX} {D : Ends} (hs : X.stack = X.env :: X.outer) (hf : X.env.frame = some X.env.locals) (tk : Takes X W) (Dn : Down X pins σ H cls d a s) (w : W cls d σ H) : wpAny (model X.prog X.w) X.A (handleBy (.ref a) X.env []) (SP X pins D) X.xe s := by
  obtain ⟨G, s0, J, nb, up, fl, os, ag⟩ := Dn.ex
  have go : wpAny (model X.prog X.w) X.A (setFlight (.ref a) X.env.frame) (fun _ s1 => wpAny (model X.prog X.w) X.A (throw (.ref a) : Sem Flow) (SP X pins D) X.xe s1) X.xe s := hf ▸ HandSPX.setFlight_upZ fl fun h1 held up1 =>
    wpAny_throw (tk _ _ ⟨a, G, s0, pins, σ, H, cls, d, rfl, J, nb, up.trans up1, .inr (.inr (hs ▸ held)), Dn.no, os, ag, w⟩)
  obtain ⟨_, _, _, oe, vs, T, _, _, he, _, hd, h1, _⟩ := fl
  refine wpAny_handleBy_nil ?_
  unfold PySem.passOn
  refine wpAny_bind (wpAny_field he hd h1 ?_)
  rw [if_neg (show ¬ ((Value.ref T == Value.none) = true) from fun z => nomatch beq_iff_eq.mp z)]
  first | exact wpAny_bind go | exact wpAny_bind (wpAny_pure (wpAny_bind go))
theorem Down.first {W : WX} {u : Value} {xe : Value → Shared → Prop} {Q : Unit → Shared → Prop} (ok : X.Ok) (hs : X.stack = X.env :: X.outer) (hf : X.env.frame = some X.env.locals) (x : XE (X.tr (X.pn ++ pins) xe) W u s)
    (q : ∀ σ H cls d a s', u = .ref a → Down X pins σ H cls d a s' → W cls d σ H → Q () s') : wpAny (model X.prog X.w) X.A (noteFrame u X.env) (fun _ s2 => wpAny (model X.prog X.w) X.A (setFlight u none) Q X.xe s2) X.xe s := by
  obtain ⟨a, G, s0, p0, σ, H, cls, d, rfl, J, nb, up, sky, na, os, ag, w⟩ := x
  have sk : Sky G (X.env :: X.outer) a (Zc cls d) X.env.locals s.heap := hs ▸ sky
  exact Sky.land Zc.steady (ok.frames.trans (congrArg some hs)) hf sk fun h' fl up' => q σ H cls d a _ rfl ⟨⟨G, s0, J.ofTry ok, nb, up.trans up', fl, os, ag⟩, na⟩ w
end
inductive TstOk (X : Cx) : Expr → List Value → Prop
  | one {x : Str} {c : Value} {np : Pos} : Names X x c → TstOk X (.Name x np) [c]
  | tup {es : List Expr} {cs : List Value} {kk : Nat} {tp : Pos} : NmsOk X es cs → cs.length ≤ sizeLine → TstOk X (.Tuple es kk tp) cs
theorem NmsOk.suite {X : Cx} {a : Addr} {pn : List (Addr × Obj)} : ∀ {es : List Expr} {cs : List Value}, NmsOk X es cs → NmsOk (X.suite a pn) es cs
  | _, _, .nil => .nil
  | _, _, .cons h r => .cons h r.suite
theorem TstOk.suite {X : Cx} {a : Addr} {pn : List (Addr × Obj)} {t : Expr} {cs : List Value} (h : TstOk X t cs) : TstOk (X.suite a pn) t cs := by
  cases h with
  | one h => exact .one h
  | tup h hl => exact .tup h.suite hl
section
variable {X : Cx} {pins : List (Addr × Obj)} {σ : L2.St} {H : Hp} {s : Shared}
theorem nm_eval {x : Str} {c : Value} {np : Pos} {Q : Value → Shared → Prop} {E : Value → Shared → Prop} (I : Inv X pins σ H s) (hc : Names X x c) (q : Q c s) : wpAny (model X.prog X.w) X.A (eval (.Name x np) X.env) Q E s := by
  obtain ⟨g, db, m | ⟨m, v, n⟩⟩ := hc
  · exact ld_glob I g m q db
  · exact ld_blt I g m v q n db
theorem nms_eval {E : Value → Shared → Prop} {pos : Pos} (I : Inv X pins σ H s) : ∀ {es : List Expr} {cs : List Value}, NmsOk X es cs → ∀ {Q : List Value → Shared → Prop}, Q cs s → wpAny (model X.prog X.w) X.A (spliced (backTo pos (starEach es X.env))) Q E s
  | _, _, .nil, _, q => wpAny_items_nil q
  | _, _, .cons hc r, _, q => wpAny_items_cons (nm_eval I hc (nms_eval I r q))
theorem tst_run {t : Expr} {cs : List Value} {a : Addr} {cls : Value} {b : Bool} {Q : Bool → Shared → Prop} {E : Value → Shared → Prop} (I : Inv X pins σ H s) (hc : TstOk X t cs) (LT : PySem.W.Looks (model X.prog X.w) s.heap (typeOf (.ref a)) cls) (hx : PySem.W.exmAny X.K cls cs = some b)
    (q : ∀ h', (∀ c o, s.heap.get? c = some o → h'.get? c = some o) → Q b { s with heap := h' }) : wpAny (model X.prog X.w) X.A (eval t X.env) (fun c s₁ => wpAny (model X.prog X.w) X.A (excMatches (.ref a) c) Q E s₁) E s := by
  cases hc with
  | one hc => exact nm_eval I hc ((PySem.W.exm_one I.kIn LT (exm_any1 hx)).here (q s.heap fun _ _ z => z))
  | tup hn hl =>
    refine wpAny_Tuple (nms_eval I hn ⟨hl, ?_⟩)
    have kp : ∀ c o, s.heap.get? c = some o → (s.heap.push { cls := .type "tuple", data := .seq cs.toArray }).get? c = some o := fun _ _ z => Heap.get?_push_of_some _ z
    exact (exm_tupN (I.kIn.keeps kp) (LT.keeps kp) (Heap.get?_push_size s.heap rfl) hx).here (q _ kp)
end
structure Hd where
  cs : List Value
  nm : Option Nat
  ts : Addr → Value → Option Addr → TS
def Hd.put (h : Hd) (a : Addr) (σ : L2.St) : L2.St := match h.nm with | some i => σ.set i (some (.ref a)) | none => σ
def Hd.clr (h : Hd) (σ : L2.St) : L2.St := match h.nm with | some i => σ.set i none | none => σ
def Hd.ends (h : Hd) (D : Ends) : Ends := { nx := fun σ' H' => D.nx (h.clr σ') H', rt := D.rt, bk := fun σ' H' => D.bk (h.clr σ') H', ct := fun σ' H' => D.ct (h.clr σ') H' }
def wHs (K : PySem.W.Frag) (Wout : WX) (D : Ends) : List Hd → WX
  | [] => Wout
  | h :: r => fun cls d σ H => ∃ b, PySem.W.exmAny K cls h.cs = some b ∧ (b = true → ∀ a, H a = none → h.ts a cls d (h.ends D) (h.put a σ) H) ∧ (b = false → wHs K Wout D r cls d σ H)
def NmOk (X : Cx) : Option Str → Option Nat → Prop
  | none, none => True
  | some n, some i => X.N.Nodup ∧ X.N[i]? = some n ∧ X.env.kindOf n = some .local
  | _, _ => False
inductive HdsG (X : Cx) : List ExceptHandler → List Hd → Prop
  | nil : HdsG X [] []
  | cons {t : Expr} {h : Hd} {nm : Option Str} {b0 : Stmt} {suite : List Stmt} {pos' : Pos} {hds : List ExceptHandler} {l : List Hd} (hc : TstOk X t h.cs) (hn : NmOk X nm h.nm)
      (hsu : ∀ (a : Addr) (oe : Obj) (cls : Value) (d : Option Addr) (pn : List (Addr × Obj)), Zc cls d oe → (∃ vs, oe.data = .fields vs) → PSs (X.suite a ((a, oe) :: pn)) (b0 :: suite) (h.ts a cls d)) (r : HdsG X hds l) :
      HdsG X (.ExceptHandler (some t) nm (b0 :: suite) pos' :: hds) (h :: l)
section
variable {X : Cx} {pins pn' : List (Addr × Obj)} {s : Shared} {a : Addr} {D : Ends} {f : Flow}
theorem sp_try {xe : Value → Shared → Prop} (ok : X.Ok) (h : SP (X.tr (X.pn ++ pins) xe) pn' D f s) : SP X pins D f s := by
  cases f with
  | ret u => obtain ⟨v, σ, H, J, z⟩ := h; exact ⟨v, σ, H, J.ofTry ok, z⟩
  | _ => obtain ⟨σ, H, J, z⟩ := h; exact ⟨σ, H, J.ofTry ok, z⟩
theorem sp_out {q : Addr × Obj} (ok : X.Ok) (h : SP (X.suite a (q :: (X.pn ++ pins))) pn' D f s) : SP X pins D f s := by
  cases f with
  | ret u => obtain ⟨v, σ, H, J, z⟩ := h; exact ⟨v, σ, H, J.unsuite ok, z⟩
  | _ => obtain ⟨σ, H, J, z⟩ := h; exact ⟨σ, H, J.unsuite ok, z⟩
theorem sp_gone {q : Addr × Obj} {hd : Hd} {i : Nat} {n : Str} {pos : Pos} (ok : X.Ok) (hi : hd.nm = some i) (hn : NmOk X (some n) hd.nm) (h : SP (X.suite a (q :: (X.pn ++ pins))) pn' (hd.ends D) f s) :
    wpAny (model X.prog X.w) X.A (do bindName X.env n .none; unbindBehindTheSuite X.env n pos) (fun _ s2 => SP X pins D f s2) X.xe s := by
  rw [hi] at hn
  obtain ⟨h1, h2, h3⟩ := hn
  have cl : ∀ σ, hd.clr σ = σ.set i none := fun σ => by unfold Hd.clr; rw [hi]
  cases f with
  | ret u => obtain ⟨v, σ, H, J, r, z⟩ := h; exact gone_ok (J.unsuite ok) h1 h2 h3 fun s2 J2 => ⟨v, _, H, J2, r, z⟩
  | _ => obtain ⟨σ, H, J, z⟩ := h; exact gone_ok (J.unsuite ok) h1 h2 h3 fun s2 J2 => ⟨_, H, J2, cl σ ▸ z⟩
theorem clauses {W : WX} {σ : L2.St} {H : Hp} {cls : Value} {d : Option Addr} (ok : X.Ok) (hs : X.stack = X.env :: X.outer) (hf : X.env.frame = some X.env.locals) (tk : Takes X W) : ∀ {hds : List ExceptHandler} {l : List Hd}, HdsG X hds l → ∀ {s : Shared}, Down X pins σ H cls d a s →
    wHs X.K W D l cls d σ H → wpAny (model X.prog X.w) X.A (handleBy (.ref a) X.env hds) (SP X pins D) X.xe s
  | _, _, .nil, s, dn, w => dn.pass hs hf tk w
  | _, _, .cons (h := hd) (nm := nm) hc hn hsu r, s, dn, ⟨b, hb, yes, no⟩ => by
    obtain ⟨oe, z1, _, e1, S⟩ := dn.suite hf
    refine wpAny_handleBy_cons (codeAny_handlers_test (tst_run (X := X.suite a ((a, oe) :: (X.pn ++ pins))) S hc.suite (fun A Q E s' k q => wpAny_typeOf_ref (k _ _ e1) (z1.1.symm ▸ q)) hb fun h1 kp => ?_)) (fun z => nomatch z)
    have dn1 := dn.keeps kp
    cases b with
    | false => exact clauses ok hs hf tk r dn1 (no rfl)
    | true =>
      cases nm with
      | none =>
        refine codeAny_handlers_suite (dn1.again fun h2 dn2 => ?_)
        obtain ⟨o2, z2, d2, _, S2⟩ := dn2.suite hf
        have hnm : hd.nm = none := by cases q : hd.nm with
          | none => rfl
          | some i => rw [q] at hn; exact hn.elim
        have y := yes rfl a dn.no
        rw [show hd.put a σ = σ from by unfold Hd.put; rw [hnm]] at y
        rw [show hd.ends D = D from by unfold Hd.ends Hd.clr; rw [hnm]] at y
        exact wpAny_mono ((hsu a o2 cls d (X.pn ++ pins) z2 d2).run [] _ σ H D S2 y) (fun f s3 z => sp_out ok z) fun _ _ z => z.elim
      | some n =>
        cases hi : hd.nm with
        | none => rw [hi] at hn; exact hn.elim
        | some i =>
          have hn' := hn
          rw [hi] at hn'
          obtain ⟨g1, g2, g3⟩ := hn'
          refine codeAny_handlers_suite_as (dn1.again fun h2 dn2 => ?_)
          obtain ⟨o2, z2, d2, _, S2⟩ := dn2.suite hf
          have y := yes rfl a dn.no
          rw [show hd.put a σ = σ.set i (some (.ref a)) from by unfold Hd.put; rw [hi]] at y
          refine store_ok (X := X.suite a ((a, o2) :: (X.pn ++ pins))) (v := .ref a) S2 g1 g2 (.inl g3) rfl (fun s3 S3 => ?_) (.inr g3)
          exact wpAny_mono ((hsu a o2 cls d (X.pn ++ pins) z2 d2).run [] s3 _ H _ S3 y) (fun f s4 z => sp_gone ok hi hn z) fun _ _ z => z.elim
end
theorem ps_tryG {X : Cx} {body : List Stmt} {h0 : ExceptHandler} {hds : List ExceptHandler} {l : List Hd} {pos : Pos} {tb : WX → TS} {W : WX} (hs : X.stack = X.env :: X.outer) (hf : X.env.frame = some X.env.locals) (tk : Takes X W)
    (hb : ∀ (V : WX) (pn : List (Addr × Obj)) (xe : Value → Shared → Prop), Takes (X.tr pn xe) V → PassesOwn (model X.prog X.w) X.A X.env xe → PSs (X.tr pn xe) body (tb V)) (hh : HdsG X (h0 :: hds) l) : PS X (.Try body (h0 :: hds) [] [] pos) (fun D σ H => tb (wHs X.K W D l) D σ H) :=
  ⟨fun pins s σ H D I h => wpAny_Try_except (wpAny_mono ((hb (wHs X.K W D l) (X.pn ++ pins) (fun e s1 => wpAny (model X.prog X.w) X.A (noteFrame e X.env) (fun _ s2 => wpAny (model X.prog X.w) X.A (setFlight e none) (fun _ s3 => wpAny (model X.prog X.w) X.A (handleBy e X.env (h0 :: hds)) (SP X pins D) X.xe s3) X.xe s2) X.xe s1)
    (fun u s' x => Down.first I.ok hs hf x fun σ1 H1 cls d a s1 e dn w => e ▸ clauses I.ok hs hf tk hh dn w) PassesOwn.looking).run [] s σ H D (I.toTry _) h)
    (fun f s1 z => by
      have z := sp_try I.ok z
      cases f with
      | next => exact wpAny_execs_nil z
      | _ => exact z) fun e s1 z => z)⟩
section
variable {X : Cx} {W : WX} {e : Expr} {te : TE} {td : DTE} {p pos pos' : Pos} {x f : Str} {C : Addr} {k : Nat}
theorem pmk_one (T : ExcT X.prog X.w X.K X.mg X.base k x f C) (ng : NoGd X.A) (rm : Room (k + 1) X.A) (he : PE X e te) (hg : Gl X x := by rfl) (hdb : (x == ("__debug__" : Str)) = false := by decide) (hs : starEach [e] X.env = (false, eval e X.env) :: starEach [] X.env := by rfl)
    (hpl : (backTo pos (starEach [] X.env)).any (·.1) = false := by rfl) : PMk X (.Call (.Name x p) [e] [] pos) (fun σ H Q => te σ H fun v H1 => ∀ d, H1 d = none → Q (.ref C) (some d) (upd H1 d (.xd [(f, v)]))) := by
  obtain ⟨fI, fd, i1, i2, hb, F1⟩ := T.ini
  intro pins s σ H Q I h
  obtain ⟨nm, q, N, bs, bm, sn, sub, ab, col, dd, k0, k1, k2, k3, k5, hC, hbm⟩ := T.oex.cls
  refine wpAny_Call_Name_kw (ld_glob I hg T.mgC ?_ hdb)
  refine PySem.W.callWith_K (h₀ := X.base) I.ok.mod.kin T.oex.kC (thn (PA.run (pa_cons he pa_nil hs) pos pins s σ H (fun vs H1 => ∃ v, vs = [v] ∧ ∀ d, H1 d = none → Q (.ref C) (some d) (upd H1 d (.xd [(f, v)]))) I (show tCons te tNil σ H _ from (show te σ H _ from by simpa [tCons, tNil] using h))) fun us s1 z => ?_) hs hpl
  obtain ⟨vs, H1, J, rv, v, ev, q1⟩ := z
  subst ev
  refine ⟨J.kIn, ?_⟩
  obtain ⟨u, rfl, ru⟩ := vals1 rv
  obtain ⟨hp, g, dr, tk, os⟩ := s1
  show wpAny _ _ (call (.ref C) [u]) _ _ _
  generalize ha : hp.objs.size + 1 = a
  have hsz : hp.objs.size ≤ a := by omega
  have hn : H1 a = none := J.hok.fresh hsz
  have kk : ∀ b o, hp.get? b = some o → ((hp.push (PySem.W.kdv_tup [u])).push (PySem.HandSPX.excO C hp.objs.size)).get? b = some o := fun b o z => Heap.get?_push_of_some _ (Heap.get?_push_of_some _ z)
  have hget : ((hp.push (PySem.W.kdv_tup [u])).push (PySem.HandSPX.excO C hp.objs.size)).get? a = some (PySem.HandSPX.excO C hp.objs.size) := by rw [← ha]; heap_get
  have I2 : L2.Inv X pins σ (upd H1 a (exo a C none)) ⟨(hp.push (PySem.W.kdv_tup [u])).push (PySem.HandSPX.excO C hp.objs.size), g, dr, tk, os⟩ := J.laid (t' := tk) (a := a) (o := exo a C none) (h' := (hp.push (PySem.W.kdv_tup [u])).push (PySem.HandSPX.excO C hp.objs.size)) kk hsz (exo_ok hget)
  have r2 : Vals [V.ref a, v] [Value.ref a, u] := .cons rfl (.cons ru .nil)
  have pr : spI C f [.ref a, v] (upd H1 a (exo a C none)) (fun r H2 => r = .non ∧ ∃ d, H1 d = none ∧ H2 a = some (exo a C (some d)) ∧ H2 d = some (exd d [(f, v)]) ∧ upd (del H2 a) d (.xd [(f, v)]) = upd H1 d (.xd [(f, v)])) (fun _ _ _ => False) := by
    refine ⟨a, v, rfl, upd_same, fun dx hd ne => ⟨rfl, dx, ?_, upd_same, ?_, ?_⟩⟩
    · rw [upd_ne ne] at hd; exact hd
    · rw [upd_ne ne, upd_same]
    · funext b
      by_cases e2 : b = dx
      · subst e2; rw [upd_same, upd_same]
      · rw [upd_ne e2, upd_ne e2]
        by_cases e1 : b = a
        · subst e1; rw [del_same, hn]
        · rw [del_ne e1, upd_ne e1, upd_ne e2, upd_ne e1]
  have bt := hb ⟨(hp.push (PySem.W.kdv_tup [u])).push (PySem.HandSPX.excO C hp.objs.size), g, dr, tk, os⟩ [Value.ref a, u] I2.kIn rfl
  rw [List.append_nil] at bt
  refine wpAny_call (PySem.HandSPX.call_own F.excBase_ValueError (fun Y => PySem.HandSPX.refsVE_contains Y bm hbm) (J.kIn _ _ hC) (PySem.W.looks_findIn J.kIn i1) (fun self => PySem.W.bind_fn J.kIn self i2) (by show 1 ≤ sizeLine; decide)
    (codeAny_mono (F1.run _ X.stack _ _ ⟨[Value.ref _, u], []⟩ [Value.ref _, u] _ _ (fun _ _ _ => False) (nogd_make ng C [u] []) (rm.make C [u] []) (I2.env0.make C [u] []) (by first | exact bt | (rw [ha]; exact bt)) (by first | exact r2 | (rw [ha]; exact r2)) (by first | exact pr | (rw [ha]; exact pr))) fun r s' hq' => ?_))
  cases r with
  | error er => exact passL pins σ _ _ er s' I2 hq'
  | ok fl => cases fl with
    | ret w =>
      obtain ⟨v', H2, o1, o2, un, ok2, rr, e1, d, hd1, ea, ed, eH⟩ := hq'
      subst e1
      obtain ⟨h2, g2, d2, t2, os'⟩ := s'
      refine ⟨rr, ?_⟩
      have qq := q1 d hd1
      rw [← eH] at qq
      have fin := mk_end (d2 := d2) (t2 := t2) (raises_own T.oex.exC T.oex.tyC) J hsz kk un ok2 o1 o2 ea ed hd1 qq
      first | exact fin | (rw [ha]; exact fin)
    | next => cases hq'
    | brk => cases hq'
    | cont => cases hq'
theorem HR.xdN {K : PySem.W.Frag} {I : Hp} {M : Mp} {F H : Hp} (h : HR K I M F H) {d : Addr} {vs : List (Str × V)} {fs : List (Str × D)} (hd : H d = none) (r : RepF K I vs fs) : XD K I M F (upd H d (.xd vs)) (some d) (some fs) := by
  obtain ⟨a, b, c⟩ := h.fresh hd
  exact ⟨⟨vs, upd_same, r⟩, a, b, c⟩
def dRaise (C : Addr) (f : Str) (td : DTE) : DTS := fun Dd δ M => td δ M (fun d M1 => Dd.ex (.ref C) (some [(f, d)]) δ M1) (fun c fo M' => Dd.ex c fo δ M')
theorem s_raise (T : ExcT X.prog X.w X.K X.mg X.base k x f C) (g : Good X W) (rm : Room (k + 1) X.A) (he : DE X W e td) (hg : Gl X x := by rfl) (hdb : (x == ("__debug__" : Str)) = false := by decide) (hs : starEach [e] X.env = (false, eval e X.env) :: starEach [] X.env := by rfl)
    (hpl : (backTo pos (starEach [] X.env)).any (·.1) = false := by rfl) : DSt X W (.Raise (some (.Call (.Name x p) [e] [] pos)) none pos') (dRaise C f td) := ps_imp (ps_raise g.calm g.tk (pmk_one T g.ng rm he hg hdb hs hpl)) fun Dn σ H h => by
  obtain ⟨I, M, F, δ, Dd, hr, rs, q, fs⟩ := h
  refine ⟨I, M, F, δ, _, _, hr, rs, q, fun d M1 I1 H1 v q1 s1 hr1 r1 dx hd => ?_, fs.x rs⟩
  exact fs.ex _ _ δ M1 I1 _ σ (some dx) q1 s1 (hr1.bump hd _) (rs.mono s1) (hr1.xdN hd (.cons r1 .nil))
end
structure DHd where
  cs : List Value
  nm : Option Nat
  ts : Addr → Value → Option Addr → DTS
def DHd.put (h : DHd) (a : Addr) (δ : DS) : DS := match h.nm with | some i => δ.set i (some (.ref a)) | none => δ
def DHd.clr (h : DHd) (δ : DS) : DS := match h.nm with | some i => δ.set i none | none => δ
def DHd.ends (h : DHd) (D : DEnds) : DEnds := { nx := fun δ M => D.nx (h.clr δ) M, rt := D.rt, ex := fun _ _ _ _ => False, bk := fun δ M => D.bk (h.clr δ) M, ct := fun δ M => D.ct (h.clr δ) M }
def DHd.hit (h : DHd) (Dd : DEnds) (cls : Value) (fo : Option (List (Str × D))) (δ : DS) (M : Mp) : Prop := match fo with
  | none => ∀ a, M a = none → h.ts a cls none (h.ends Dd) (h.put a δ) M
  | some fs => ∀ a d, M a = none → M d = none → a ≠ d → h.ts a cls (some d) (h.ends Dd) (h.put a δ) (updM M d (.xd fs))
def dClauses (xm : Value → List Value → Option Bool) (Dd : DEnds) : List DHd → Value → Option (List (Str × D)) → DS → Mp → Prop
  | [] => Dd.ex
  | h :: r => fun cls fo δ M => ∃ b, xm cls h.cs = some b ∧ br b (h.hit Dd cls fo δ M) (dClauses xm Dd r cls fo δ M)
def dTry (xm : Value → List Value → Option Bool) (hs : List DHd) (tb : DTS) : DTS := fun Dd δ M => tb { Dd with ex := dClauses xm Dd hs } δ M
def noW : WX := fun _ _ _ _ => False
def DHd.lift (K : PySem.W.Frag) (h : DHd) : Hd := ⟨h.cs, h.nm, fun a cls d => lS K noW (h.ts a cls d)⟩
theorem HR.adopt {K : PySem.W.Frag} {I : Hp} {M : Mp} {F H : Hp} (h : HR K I M F H) {d : Addr} {fs : List (Str × D)} (x : XD K I M F H (some d) (some fs)) : HR K I (updM M d (.xd fs)) F H := by
  obtain ⟨⟨vs, e, r⟩, a1, a2, a3⟩ := x
  refine ⟨h.imm, fun a m q => ?_, fun a u q => ?_, h.ft⟩
  · by_cases z : a = d
    · subst z; rw [updM_same] at q; cases q; exact ⟨a1, _, e, vs, rfl, r⟩
    · rw [updM_ne z] at q; exact h.mu a m q
  · have z : a ≠ d := fun z => by rw [z, a3] at q; cases q
    rw [updM_ne z]; exact h.frm a u q
theorem put_rep {K : PySem.W.Frag} {I : Hp} {σ : L2.St} {δ : DS} (h : DHd) (a : Addr) (r : RepS K I σ δ) : RepS K I ((h.lift K).put a σ) (h.put a δ) := by
  unfold Hd.put DHd.put DHd.lift
  cases h.nm with
  | none => exact r
  | some i => exact r.set i (.ref a)
theorem clr_rep {K : PySem.W.Frag} {I : Hp} {σ : L2.St} {δ : DS} (h : DHd) (r : RepS K I σ δ) : RepS K I ((h.lift K).clr σ) (h.clr δ) := by
  unfold Hd.clr DHd.clr DHd.lift
  cases h.nm with
  | none => exact r
  | some i => exact r.forget i
theorem hit_fin {K : PySem.W.Frag} {W : WX} {I F : Hp} {Dd : DEnds} {Dn : Ends} (h : DHd) (f : FinS K W I F Dd Dn) : FinS K noW I F (h.ends Dd) ((h.lift K).ends Dn) :=
  ⟨fun δ' M' I' H' σ' q s hr rs => f.nx _ M' I' H' _ q s hr (clr_rep h rs), f.rt, fun _ _ _ _ _ _ _ _ z => z.elim, fun δ' M' I' H' σ' q s hr rs => f.bk _ M' I' H' _ q s hr (clr_rep h rs), fun δ' M' I' H' σ' q s hr rs => f.ct _ M' I' H' _ q s hr (clr_rep h rs)⟩
theorem clauses_lift {K : PySem.W.Frag} {W : WX} {I F H : Hp} {M : Mp} {Dd : DEnds} {Dn : Ends} {σ : L2.St} {δ : DS} {cls : Value} {dd : Option Addr} {fo : Option (List (Str × D))} (f : FinS K W I F Dd Dn) (hr : HR K I M F H) (rs : RepS K I σ δ) (x : XD K I M F H dd fo) :
    ∀ hs : List DHd, dClauses (PySem.W.exmAny K) Dd hs cls fo δ M → wHs K W Dn (hs.map (DHd.lift K)) cls dd σ H
  | [], q => f.ex cls fo δ M I H σ dd q (Same.refl I) hr rs x
  | h :: r, ⟨b, e, q⟩ => by
    refine ⟨b, e, fun eb a ha => ?_, fun eb => ?_⟩
    · subst eb
      have na := (hr.fresh ha).2.1
      match dd, fo, x with
      | none, none, _ => exact ⟨I, M, F, _, _, hr, put_rep h a rs, q a na, hit_fin h f⟩
      | some d, some fs, x =>
        have ne : a ≠ d := fun z => by
          obtain ⟨⟨vs, e, _⟩, _⟩ := x
          rw [z, e] at ha; cases ha
        exact ⟨I, _, F, _, _, hr.adopt x, put_rep h a rs, q a d na x.2.2.1 ne, hit_fin h f⟩
    · subst eb
      exact clauses_lift f hr rs x r q
inductive DHds (X : Cx) : List ExceptHandler → List DHd → Prop
  | nil : DHds X [] []
  | cons {t : Expr} {h : DHd} {nm : Option Str} {b0 : Stmt} {suite : List Stmt} {pos' : Pos} {hds : List ExceptHandler} {l : List DHd} (hc : TstOk X t h.cs) (hn : NmOk X nm h.nm)
      (hsu : ∀ (a : Addr) (oe : Obj) (cls : Value) (d : Option Addr) (pn : List (Addr × Obj)), Zc cls d oe → (∃ vs, oe.data = .fields vs) → DSs (X.suite a ((a, oe) :: pn)) noW (b0 :: suite) (h.ts a cls d)) (r : DHds X hds l) :
      DHds X (.ExceptHandler (some t) nm (b0 :: suite) pos' :: hds) (h :: l)
theorem DHds.lift {X : Cx} : ∀ {hds : List ExceptHandler} {l : List DHd}, DHds X hds l → HdsG X hds (l.map (DHd.lift X.K))
  | _, _, .nil => .nil
  | _, _, .cons hc hn hsu r => .cons (h := DHd.lift X.K _) hc hn hsu r.lift
theorem s_try {X : Cx} {W : WX} {body : List Stmt} {h0 : ExceptHandler} {hds : List ExceptHandler} {l : List DHd} {pos : Pos} {tb : DTS} (g : Good X W) (hb : ∀ (V : WX) (pn : List (Addr × Obj)) (xe : Value → Shared → Prop), Good (X.tr pn xe) V → DSs (X.tr pn xe) V body tb) (hh : DHds X (h0 :: hds) l)
    (hs : X.stack = X.env :: X.outer := by rfl) (hf : X.env.frame = some X.env.locals := by rfl) : DSt X W (.Try body (h0 :: hds) [] [] pos) (dTry (PySem.W.exmAny X.K) l tb) :=
  ps_imp (ps_tryG (tb := fun V => lS X.K V tb) hs hf g.tk (fun V pn xe tk own => hb V pn xe ⟨g.calm, tk, own, g.ng⟩) hh.lift) fun Dn σ H h => by
    obtain ⟨I, M, F, δ, Dd, hr, rs, q, f⟩ := h
    exact ⟨I, M, F, δ, _, hr, rs, q, ⟨f.nx, f.rt, fun cls fo δ' M' I' H' σ' dd z s hr' rs' x => clauses_lift (f.mono s) hr' rs' x l z, f.bk, f.ct⟩⟩
def dXF (a : Addr) (cls : Value) (d : Option Addr) (C : Addr) (f : Str) (te : DTE) : DTE := fun δ M Q E => te δ M (fun x M1 => x = .ref a ∧ cls = .ref C ∧ ∃ dd fs v, d = some dd ∧ M1 dd = some (.xd fs) ∧ fs.lookup f = some v ∧ Q v M1) E
theorem RepF.get {K : PySem.W.Frag} {I : Hp} {f : Str} {d : D} : ∀ {vs : List (Str × V)} {fs : List (Str × D)}, RepF K I vs fs → fs.lookup f = some d → ∃ v, vs.lookup f = some v ∧ Rep K I v d
  | _, _, .nil, h => nomatch h
  | _, _, .cons (k := k) r rr, h => by
    rw [List.lookup_cons] at h ⊢
    cases e : f == k with
    | true => rw [e] at h; cases h; exact ⟨_, rfl, r⟩
    | false => rw [e] at h; exact RepF.get rr h
theorem d_xf {X : Cx} {W : WX} {a C : Addr} {oe : Obj} {cls : Value} {d : Option Addr} {pn : List (Addr × Obj)} {e : Expr} {te : DTE} {pos : Pos} {n : Str} (T : XfC X.K C) (hno : PySem.W.findIn X.K (.ref C) n = some none)
    (hz : Zc cls d oe) (hf : ∃ vs, oe.data = .fields vs) (he : DE (X.suite a ((a, oe) :: pn)) W e te) (hb : attributeBase e n X.env (eval e X.env) = eval e X.env := by rfl) : DE (X.suite a ((a, oe) :: pn)) W (.Attribute e n pos) (dXF a cls d C n te) :=
  pe_imp (pe_xf T hno hz hf he hb) fun σ H Q h => by
    obtain ⟨I, M, F, δ, Qd, Ed, hr, rs, q, fq, fx⟩ := h
    refine ⟨I, M, F, δ, _, Ed, hr, rs, q, fun x M1 I1 H1 v q1 s1 hr1 r1 => ?_, fx⟩
    obtain ⟨e1, e2, dd, fs, w, e3, e4, e5, q2⟩ := q1
    subst e1
    cases r1
    obtain ⟨_, o, e6, vs, rfl, rf⟩ := hr1.mu dd _ e4
    obtain ⟨u, e7, ru⟩ := rf.get e5
    exact ⟨rfl, e2, dd, vs, u, e3, e6, e7, fq _ M1 I1 H1 _ q2 s1 hr1 ru⟩
def ArgsOk (X : Cx) (W : WX) (pos : Pos) (es : List Expr) (kws : List Keyword) (ks : List Str) (ta tk : DTA) : Prop :=
  ∀ (pins : List (Addr × Obj)) (s : Shared) (σ : L2.St) (H : Hp) (f : Value) (first : List Value) (Q : Value → Shared → Prop) (R : List D → List D → Mp → Prop) (I : Hp) (M : Mp) (F : Hp) (δ : DS) (Ed : DXK), PySem.W.keepIn X.K f = true → L2.Inv X pins σ H s → HR X.K I M F H → RepS X.K I σ δ →
    ta δ M (fun ds M1 => tk δ M1 (fun es M2 => R ds es M2) Ed) Ed → FinX X.K I F Ed (WE W σ) →
    (∀ us ws vs zs ds es I2 M2 H2 s2, L2.Inv X pins σ H2 s2 → Vals vs us → Vals zs ws → Same I I2 → HR X.K I2 M2 F H2 → Reps X.K I2 vs ds → Reps X.K I2 zs es → R ds es M2 → wpAny (model X.prog X.w) X.A (call f (first ++ us) (ks.zip ws)) Q X.xe s2) →
    wpAny (model X.prog X.w) X.A (callWith pos f first (backTo pos (starEach es X.env)) (backToKw pos (keywordEach kws X.env))) Q X.xe s
section
variable {X : Cx} {W : WX} {e : Expr} {es : List Expr} {te : DTE} {ta tk : DTA} {pos p : Pos} {kws : List Keyword} {ks : List Str}
theorem args_0 : ArgsOk X W pos [] [] [] dNil dNil := fun pins s σ H f first Q R I M F δ Ed hk J hr rs q fx h =>
  PySem.W.callWith_K0 J.kIn hk (h [] [] [] [] [] [] I M H s J .nil .nil (Same.refl I) hr .nil .nil q)
theorem args_p (ha : DA X W (e :: es) ta) (he : starEach (e :: es) X.env = (false, eval e X.env) :: starEach es X.env := by rfl) (hpl : (backTo pos (starEach es X.env)).any (·.1) = false := by rfl) : ArgsOk X W pos (e :: es) [] [] ta dNil := fun pins s σ H f first Q R I M F δ Ed hk J hr rs q fx h => by
  refine PySem.W.callWith_K (h₀ := X.base) J.ok.mod.kin hk (thn (PA.run ha pos pins s σ H (fun vs H1 => ∃ I1 M1 ds, Same I I1 ∧ HR X.K I1 M1 F H1 ∧ Reps X.K I1 vs ds ∧ R ds [] M1) J ⟨I, M, F, δ, _, Ed, hr, rs, q, fun ds M1 I1 H1 vs q1 s1 hr1 r1 => ⟨I1, M1, ds, s1, hr1, r1, q1⟩, fx⟩) fun us s1 z => ?_) he hpl
  obtain ⟨vs, H1, J1, rv, I1, M1, ds, e1, hr1, rd, q1⟩ := z
  exact ⟨J1.kIn, h us [] vs [] ds [] I1 M1 H1 s1 J1 rv .nil e1 hr1 rd .nil q1⟩
theorem args_pk (ha : DA X W (e :: es) ta) (hkw : DKw X W kws tk) (hall : (backToKw pos (keywordEach kws X.env)).all (·.1.isSome) = true := by rfl) (hks : (backToKw pos (keywordEach kws X.env)).filterMap (·.1) = ks := by rfl) (he : starEach (e :: es) X.env = (false, eval e X.env) :: starEach es X.env := by rfl)
    (hpl : ((backTo pos (starEach (e :: es) X.env)).any (·.1) || (backToKw pos (keywordEach kws X.env)).any (·.1.isNone)) = false := by rfl) : ArgsOk X W pos (e :: es) kws ks ta tk := fun pins s σ H f first Q R I M F δ Ed hk J hr rs q fx h => by
  refine PySem.W.callWith_KW (h₀ := X.base) J.ok.mod.kin hk hall (thn (PA.run ha pos pins s σ H (fun vs H1 => ∃ I1 M1 ds, Same I I1 ∧ HR X.K I1 M1 F H1 ∧ Reps X.K I1 vs ds ∧ tk δ M1 (fun es M2 => R ds es M2) Ed) J ⟨I, M, F, δ, _, Ed, hr, rs, q, fun ds M1 I1 H1 vs q1 s1 hr1 r1 => ⟨I1, M1, ds, s1, hr1, r1, q1⟩, fx⟩) fun us s1 z => ?_) hpl he
  obtain ⟨vs, H1, J1, rv, I1, M1, ds, e1, hr1, rd, q1⟩ := z
  refine thn (PK.run hkw pos pins s1 σ H1 (fun zs H2 => ∃ I2 M2 es, Same I1 I2 ∧ HR X.K I2 M2 F H2 ∧ Reps X.K I2 zs es ∧ R ds es M2) J1 ⟨I1, M1, F, δ, _, Ed, hr1, rs.mono e1, q1, fun es M2 I2 H2 zs q2 s2 hr2 r2 => ⟨I2, M2, es, s2, hr2, r2, q2⟩, fx.mono e1⟩) fun ws s2 z => ?_
  obtain ⟨zs, H2, J2, rz, I2, M2, es, e2, hr2, re, q2⟩ := z
  rw [hks]
  exact ⟨J2.kIn, h us ws vs zs ds es I2 M2 H2 s2 J2 rv rz (e1.trans e2) hr2 (rd.mono e2) re q2⟩
end
structure FnA (P : Program) (w : World) (K : PySem.W.Frag) (mg : Str → Option Value) (base : Heap) (k : Nat) (f : Addr) (ps : List Str) (sp : DSp) (pats : List Pat) : Prop where
  ex : ∃ fd : FuncData, (∀ (i : Nat) (p : Pat), pats[i]? = some p → KBd K fd ps p.n p.ks p.g) ∧ FnG P w K mg base (L2.CX P w) k f fd ps (lSp K sp)
theorem dfunA {P : Program} {w : World} {K : PySem.W.Frag} {mg : Str → Option Value} {base : Heap} {x qual : Str} {st : Stmt} {f : Addr} {fd : FuncData} {N ps : List Str} {k : Nat} {sp : DSp} {dvs : List V} {kws : List (Str × V)} {pats : List Pat} (F : FunD K x qual (defArgs st) (defBody st) (defScope st) dvs kws f fd)
    (hb : ∀ (i : Nat) (p : Pat), pats[i]? = some p → KBd K fd ps p.n p.ks p.g) (S : FnScope N ps (defScope st)) (len : ∀ ds M Q E, sp ds M Q E → ds.length = ps.length)
    (body : ∀ (cdv : Value) (A : Around) (l : List Env) (s : Shared) (H : Hp) (E : XK), Good (cxOf (L2.CX P w) P w K mg base N qual (defScope st) f cdv A l s H E) (fun cls d _ H => E cls d H) → Room k (A.deeper (envOfC qual (defScope st) s.heap.objs.size f cdv)) →
      ∃ t, DSs (cxOf (L2.CX P w) P w K mg base N qual (defScope st) f cdv A l s H E) (fun cls d _ H => E cls d H) (defBody st) t ∧ ∀ ds M Qd Ed, sp ds M Qd Ed → t { nx := fun _ M' => Qd .non M', rt := Qd, ex := fun c fo _ M' => Ed c fo M' } (dstart N ds) M) :
    FnA P w K mg base (k + 1) f ps sp pats := by
  obtain ⟨oc, od, dV, kV, doc, pm, an, cdv, ct, osl, rfl, lk, hcd, _, _⟩ := F.ex
  refine ⟨_, hb, fng_of lk hcd S (fun vs H Q E h => ?_) fun A l s H vs Q E ng rm h => ?_⟩
  · obtain ⟨I, M, Fr, ds, Qd, Ed, hr, rs, q, _, _⟩ := h
    exact rs.len.trans (len _ _ _ _ q)
  · obtain ⟨t, ht, hq⟩ := body cdv A l s H E (good_of ng) rm
    obtain ⟨I, M, Fr, ds, Qd, Ed, hr, rs, q, fq, fx⟩ := h
    exact ⟨_, ht, I, M, Fr, _, _, hr, reps_start rs, hq ds M Qd Ed q, ⟨fun δ' M' I' H' σ' q' s' hr' rs' => fq _ M' I' H' _ q' s' hr' .non, fq, fun c fo δ' M' I' H' σ' dd q' s' hr' rs' xd => fx c fo M' I' H' dd q' s' hr' xd, fun _ _ _ _ _ z => z.elim, fun _ _ _ _ _ z => z.elim⟩⟩
theorem kb_plain {K : PySem.W.Frag} {fd : FuncData} {ps : List Str} {n : Nat} (hn : ps.length = n) (h : ∀ us : List Value, us.length = ps.length → bindArgs fd ⟨us, []⟩ = pure (ps.zip us)) : KBd K fd ps n [] (fun ds _ => ds) := fun s I us ws vs zs ds es hK l1 l2 rv rz rd re => by
  have e : ws = [] := len_nil l2
  subst e
  exact ⟨us, vs, .of_eq (h us (l1.trans hn.symm)), rv, rd⟩
structure FnN (P : Program) (w : World) (K : PySem.W.Frag) (mg : Str → Option Value) (base : Heap) (k : Nat) (x : Str) (ps : List Str) (sp : DSp) (pats : List Pat) : Prop where
  ex : ∃ f : Addr, mg x = some (.ref f) ∧ PySem.W.keepIn K (.ref f) = true ∧ FnA P w K mg base k f ps sp pats
section
variable {X : Cx} {W : WX} {es : List Expr} {kws : List Keyword} {ks ps : List Str} {ta tk : DTA} {pos p apos : Pos} {x m : Str} {k n j : Nat} {sp : DSp} {pats : List Pat} {gg : List D → List D → List D} {C : Addr} {o : Expr} {to : DTE}
theorem run_a {pins : List (Addr × Obj)} {σ : L2.St} {H : Hp} {s : Shared} {Q : VK} {us ws : List Value} {vs zs : List V} {ds es : List D} {I F : Hp} {M : Mp} {Qd : DK} {Ed : DXK} {f : Addr} (i : Nat) (g : Good X W) (rm : Room k X.A) (Fa : FnA X.prog X.w X.K X.mg X.base k f ps sp pats) (hi : pats[i]? = some ⟨n, ks, gg⟩)
    (J : L2.Inv X pins σ H s) (rv : Vals vs us) (rz : Vals zs ws) (hr : HR X.K I M F H) (rd : Reps X.K I vs ds) (re : Reps X.K I zs es) (h1 : ds.length = n) (h2 : es.length = ks.length) (q : sp (gg ds es) M Qd Ed) (fq : Fin X.K I F Qd Q) (fx : FinX X.K I F Ed (WE W σ)) :
    wpAny (model X.prog X.w) X.A (call (.ref f) us (ks.zip ws)) (EP X pins σ Q) X.xe s := by
  obtain ⟨fd, kb, G⟩ := Fa.ex
  exact run_k (pats := pats) (pt := ⟨n, ks, gg⟩) g rm (kb i _ hi) G J rv rz hr rd re h1 h2 q fq fx
theorem d_fn (i : Nat) (Fx : FnN X.prog X.w X.K X.mg X.base k x ps sp pats) (g : Good X W) (rm : Room k X.A) (ha : ArgsOk X W pos es kws ks ta tk) (hi : pats[i]? = some ⟨n, ks, gg⟩ := by rfl) (hj : ks.length = j := by rfl) (hg : Gl X x := by rfl) (hdb : (x == ("__debug__" : Str)) = false := by decide) :
    DE X W (.Call (.Name x p) es kws pos) (dCallK n j sp gg ta tk) := by
  subst hj
  obtain ⟨f, hm, hk, Fa⟩ := Fx.ex
  refine ⟨fun pins s σ H Q J h => wpAny_Call_Name_kw (ld_glob J hg hm ?_ hdb)⟩
  obtain ⟨I, M, F, δ, Qd, Ed, hr, rs, q, fq, fx⟩ := h
  exact ha pins s σ H _ [] _ _ I M F δ Ed hk J hr rs q fx fun us ws vs zs ds es I2 M2 H2 s2 J2 rv rz e2 hr2 rd re q2 => run_a i g rm Fa hi J2 rv rz hr2 rd re q2.1 q2.2.1 q2.2.2 (fq.mono e2) (fx.mono e2)
structure MtOk (P : Program) (w : World) (K : PySem.W.Frag) (mg : Str → Option Value) (base : Heap) (k : Nat) (C : Addr) (m : Str) (ps : List Str) (sp : DSp) (pats : List Pat) : Prop where
  cls : Cls K C
  ex : ∃ f, Meth K C m f ∧ FnA P w K mg base k f ps sp pats
def insD (d : D) (M : Mp) (k : Addr → List (Str × D) → Prop) : Prop := match d with
  | .ins C fs => k C fs
  | .ref a => ∃ C fs, M a = some (.ins C fs) ∧ k C fs
  | _ => False
theorem insD_out {K : PySem.W.Frag} {I : Hp} {M : Mp} {F H : Hp} (hr : HR K I M F H) {v : V} {d : D} {k : Addr → List (Str × D) → Prop} (r : Rep K I v d) (h : insD d M k) : ∃ a C dx vs fs, v = .ref a ∧ H a = some (.ins C dx vs) ∧ RepF K I vs fs ∧ k C fs := by
  cases r with
  | ins s rr => exact ⟨_, _, _, _, _, rfl, hr.imm _ _ s, rr, h⟩
  | ref a =>
    obtain ⟨C, fs, e, h⟩ := h
    obtain ⟨dx, vs, e1, rr⟩ := hr.ins e
    exact ⟨a, C, dx, vs, fs, rfl, e1, rr, h⟩
  | _ => exact h.elim
theorem RepF.no {K : PySem.W.Frag} {I : Hp} {f : Str} : ∀ {vs : List (Str × V)} {fs : List (Str × D)}, RepF K I vs fs → fs.lookup f = none → vs.lookup f = none
  | _, _, .nil, _ => rfl
  | _, _, .cons (k := k) r rr, h => by
    rw [List.lookup_cons] at h ⊢
    cases e : f == k with
    | true => rw [e] at h; cases h
    | false => rw [e] at h; exact RepF.no rr h
abbrev Ent := Addr × DSp × (List D → List D → List D)
def dTab : List Ent → Addr → (DSp → (List D → List D → List D) → Prop) → Prop
  | [], _, _ => False
  | [(c, sp, gg)], C, k => C = c ∧ k sp gg
  | (c, sp, gg) :: r, C, k => (C = c ∧ k sp gg) ∨ dTab r C k
inductive Tab (X : Cx) (m : Str) (n : Nat) (ks : List Str) : List Ent → Prop
  | nil : Tab X m n ks []
  | cons {k : Nat} {C : Addr} {ps : List Str} {sp : DSp} {pats : List Pat} {gg : List D → List D → List D} {r : List Ent} (i : Nat) (h : MtOk X.prog X.w X.K X.mg X.base k C m ps sp pats) (rm : Room k X.A) (hi : pats[i]? = some ⟨n, ks, gg⟩) (hr : Tab X m n ks r) : Tab X m n ks ((C, sp, gg) :: r)
theorem Tab.get {ks : List Str} : ∀ {tab : List Ent}, Tab X m n ks tab → ∀ {C : Addr} {Φ : DSp → (List D → List D → List D) → Prop}, dTab tab C Φ → ∃ (k : Nat) (ps : List Str) (sp : DSp) (pats : List Pat) (i : Nat) (gg : List D → List D → List D), MtOk X.prog X.w X.K X.mg X.base k C m ps sp pats ∧ Room k X.A ∧ pats[i]? = some ⟨n, ks, gg⟩ ∧ Φ sp gg
  | _, .nil, _, _, h => h.elim
  | _, .cons i h rm hi .nil, _, _, ⟨e, q⟩ => ⟨_, _, _, _, i, _, e ▸ h, rm, hi, q⟩
  | _, .cons i h rm hi (.cons i2 h2 rm2 hi2 r), _, _, q => by
    rcases q with ⟨e, q⟩ | q
    · exact ⟨_, _, _, _, i, _, e ▸ h, rm, hi, q⟩
    · exact Tab.get (.cons i2 h2 rm2 hi2 r) q
def dMeth (m : Str) (n j : Nat) (tab : List Ent) (to : DTE) (ta tk : DTA) : DTE := fun δ M Q E => to δ M (fun d M1 => insD d M1 fun C fs => fs.lookup m = none ∧ dTab tab C fun sp gg => ta δ M1 (fun ds M2 => tk δ M2 (fun es M3 => ds.length + 1 = n ∧ es.length = j ∧ sp (gg (d :: ds) es) M3 Q E) E) E) E
theorem d_meth {tab : List Ent} {pl : Sem Bool} (ho : DE X W o to) (ht : Tab X m n ks tab) (g : Good X W) (ha : ArgsOk X W pos es kws ks ta tk) (hj : ks.length = j := by rfl)
    (hc : eval (.Call (.Attribute o m apos) es kws pos) X.env = (do
      let ov ← eval o X.env
      standAt apos.atName
      let (f, first) ← holding [ov] (getMethod ov m pl)
      callWith pos f first (backTo pos (starEach es X.env)) (backToKw pos (keywordEach kws X.env))) := by rfl) : DE X W (.Call (.Attribute o m apos) es kws pos) (dMeth m n j tab to ta tk) := by
  subst hj
  refine ⟨fun pins s σ H Q J h => ?_⟩
  obtain ⟨I, M, F, δ, Qd, Ed, hr, rs, q, fq, fx⟩ := h
  refine PySem.W.methodCall_KW (pl := pl) (thn (PE.run ho pins s σ H (fun v H1 => ∃ I1 M1 d, Same I I1 ∧ HR X.K I1 M1 F H1 ∧ Rep X.K I1 v d ∧ insD d M1 fun C fs => fs.lookup m = none ∧ dTab tab C fun sp gg => ta δ M1 (fun ds M2 => tk δ M2 (fun es M3 => ds.length + 1 = n ∧ es.length = ks.length ∧ sp (gg (d :: ds) es) M3 Qd Ed) Ed) Ed) J
    ⟨I, M, F, δ, _, Ed, hr, rs, q, fun d M1 I1 H1 v q1 s1 hr1 r1 => ⟨I1, M1, d, s1, hr1, r1, q1⟩, fx⟩) fun u s1 z => ?_) hc
  obtain ⟨v, H1, J1, rv, I1, M1, d, e1, hr1, r1, q1⟩ := z
  obtain ⟨a, C, dx, vs0, fs, rfl, hH, rf, hno, q1⟩ := insD_out hr1 r1 q1
  obtain rfl : u = Value.ref a := rv
  obtain ⟨k, ps, sp, pats, i, gg, mt, rm, hi, q1⟩ := ht.get q1
  obtain ⟨f, me, Fa⟩ := mt.ex
  refine getmeth_ok J1 hH mt.cls me (rf.no hno) ?_
  refine ha pins s1 σ H1 (.ref f) [.ref a] _ _ I1 M1 F δ Ed me.kp J1 hr1 (rs.mono e1) q1 (fx.mono e1) fun us ws vs zs ds es' I2 M2 H2 s2 J2 rv rz e2 hr2 rd re q2 => ?_
  exact run_a i g rm Fa hi (us := .ref a :: us) (vs := .ref a :: vs) J2 (.cons rfl rv) rz hr2 (.cons (r1.mono e2) rd) re (by rw [List.length_cons]; exact q2.1) q2.2.1 q2.2.2 (fq.mono (e1.trans e2)) (fx.mono (e1.trans e2))
structure MkOk (P : Program) (w : World) (K : PySem.W.Frag) (mg : Str → Option Value) (base : Heap) (k : Nat) (x : Str) (C : Addr) (ps : List Str) (sp : DSp) (pats : List Pat) : Prop where
  mgC : mg x = some (.ref C)
  ex : ∃ f, Mk K C f ∧ FnA P w K mg base k f ps sp pats
def delM (M : Mp) (a : Addr) : Mp := fun b => if b = a then none else M b
theorem delM_same {M : Mp} {a : Addr} : delM M a a = none := if_pos rfl
theorem delM_ne {M : Mp} {a b : Addr} (h : b ≠ a) : delM M a b = M b := if_neg h
theorem HR.freeze {K : PySem.W.Frag} {I : Hp} {M : Mp} {F H : Hp} (h : HR K I M F H) {a C : Addr} {fs : List (Str × D)} (e : M a = some (.ins C fs)) : ∃ I', Same I I' ∧ HR K I' (delM M a) F H ∧ Rep K I' (.ref a) (.ins C fs) := by
  obtain ⟨h1, o, h2, dx, vs, rfl, rf⟩ := h.mu a _ e
  have sm : Same I (upd I a (.ins C dx vs)) := same_new h1
  refine ⟨upd I a (.ins C dx vs), sm, ⟨fun b u q => ?_, fun b m q => ?_, fun b u q => ?_, h.ft⟩, .ins upd_same (rf.mono sm)⟩
  · by_cases z : b = a
    · subst z; rw [upd_same] at q; cases q; exact h2
    · rw [upd_ne z] at q; exact h.imm b u q
  · have z : b ≠ a := fun z => by rw [z, delM_same] at q; cases q
    rw [delM_ne z] at q
    obtain ⟨x, y, w, r⟩ := h.mu b m q
    exact ⟨by rw [upd_ne z]; exact x, y, w, r.mono sm fun _ _ e => e⟩
  · obtain ⟨x, y, z⟩ := h.frm b u q
    have ne : b ≠ a := fun w => by rw [w, e] at z; cases z
    exact ⟨x, by rw [upd_ne ne]; exact y, by rw [delM_ne ne]; exact z⟩
def dMakeF (C : Addr) (n j : Nat) (sp : DSp) (gg : List D → List D → List D) (ta tk : DTA) : DTE := fun δ M Q E => ta δ M (fun ds M1 => tk δ M1 (fun es M2 => ds.length + 1 = n ∧ es.length = j ∧ ∀ x, M2 x = none → sp (gg (.ref x :: ds) es) (updM M2 x (.ins C [])) (fun v M3 => v = .non ∧ ∃ fs, M3 x = some (.ins C fs) ∧ Q (.ins C fs) (delM M3 x)) E) E) E
theorem run_mk {pins : List (Addr × Obj)} {σ : L2.St} {H : Hp} {s : Shared} {Q : VK} {us ws : List Value} {vs zs : List V} {ds es : List D} {I F : Hp} {M : Mp} {Ed : DXK} {R : Addr → Mp → Prop} {f : Addr} (i : Nat) (g : Good X W) (rm : Room (k + 1) X.A) (mk : Mk X.K C f) (Fa : FnA X.prog X.w X.K X.mg X.base k f ps sp pats) (hi : pats[i]? = some ⟨n, ks, gg⟩)
    (J : L2.Inv X pins σ H s) (rv : Vals vs us) (rz : Vals zs ws) (hr : HR X.K I M F H) (rd : Reps X.K I vs ds) (re : Reps X.K I zs es) (h1 : ds.length + 1 = n) (h2 : es.length = ks.length) (q : ∀ x, M x = none → sp (gg (.ref x :: ds) es) (updM M x (.ins C [])) (fun v M3 => v = .non ∧ R x M3) Ed)
    (fq : ∀ x M' I' H', R x M' → Same I I' → HR X.K I' M' F H' → Q (.ref x) H') (fx : FinX X.K I F Ed (WE W σ)) : wpAny (model X.prog X.w) X.A (call (.ref C) us (ks.zip ws)) (EP X pins σ Q) X.xe s := by
  obtain ⟨fd, kb, G⟩ := Fa.ex
  generalize hx : s.heap.objs.size + 1 = x at *
  have hfx : H x = none := J.hok.fresh (by omega)
  have hfd : H s.heap.objs.size = none := J.hok.fresh (Nat.le_refl _)
  have ne : s.heap.objs.size ≠ x := by omega
  have J2 := L2.Inv.made (C := C) J
  rw [hx] at J2
  have hr1 := hr.bump hfd (.own x)
  have hfx1 : upd H s.heap.objs.size (HO.own x) x = none := by rw [upd_ne (Ne.symm ne)]; exact hfx
  have hr2 : HR X.K I (updM M x (.ins C [])) F (upd (upd H s.heap.objs.size (.own x)) x (.ins C s.heap.objs.size [])) := hr1.newM hfx1 (o := .ins C s.heap.objs.size []) (m := .ins C []) ⟨_, [], rfl, .nil⟩
  obtain ⟨bs, xs, bt, rb, rr⟩ := kb i _ hi { s with heap := (s.heap.push PySem.W.emptyDict).push (PySem.W.instObj C s.heap.objs.size) } I (.ref x :: us) ws (.ref x :: vs) zs (.ref x :: ds) es J2.kIn (by rw [List.length_cons, ← rv.length, rd.len]; exact h1) (by rw [← rz.length, re.len]; exact h2) (.cons rfl rv) rz (.cons (.ref x) rd) re
  have pr : lSp X.K sp xs (upd (upd H s.heap.objs.size (.own x)) x (.ins C s.heap.objs.size [])) (fun v H2 => v = .non ∧ Q (.ref x) H2) (WE W σ) :=
    ⟨I, _, F, _, _, Ed, hr2, rr, q x (hr.fresh hfx).2.1, fun d M' I' H' v z s' hr' r' => by
      obtain ⟨e, z⟩ := z
      subst e
      cases r'
      exact ⟨rfl, fq x M' I' H' z s' hr'⟩, fx⟩
  refine wpAny_call (make_map (f := f) J.kIn mk.makes mk.init (beq_iff_eq.mp mk.fn) ?_)
  rw [hx]
  refine codeAny_mono (G.run _ X.stack _ _ ⟨.ref x :: us, ks.zip ws⟩ bs xs _ (WE W σ) (nogd_make g.ng C us (ks.zip ws)) (rm.make C us (ks.zip ws)) (J2.env0.make C us (ks.zip ws)) bt rb pr) fun r s' z => ?_
  cases r with
  | error er => exact passAt g.tk σ pins _ _ er s' J2 z
  | ok fl => cases fl with
    | ret u =>
      obtain ⟨v, H', J3, rv', ev, q3⟩ := J2.after z
      subst ev
      exact ⟨rv', ⟨V.ref x, H', J3, rfl, q3⟩⟩
    | next => cases z
    | brk => cases z
    | cont => cases z
theorem d_makeF (i : Nat) (mk : MkOk X.prog X.w X.K X.mg X.base k x C ps sp pats) (g : Good X W) (rm : Room (k + 1) X.A) (ha : ArgsOk X W pos es kws ks ta tk) (hi : pats[i]? = some ⟨n, ks, gg⟩ := by rfl) (hj : ks.length = j := by rfl) (hg : Gl X x := by rfl) (hdb : (x == ("__debug__" : Str)) = false := by decide) :
    DE X W (.Call (.Name x p) es kws pos) (dMakeF C n j sp gg ta tk) := by
  subst hj
  obtain ⟨f, m1, Fa⟩ := mk.ex
  refine ⟨fun pins s σ H Q J h => wpAny_Call_Name_kw (ld_glob J hg mk.mgC ?_ hdb)⟩
  obtain ⟨I, M, F, δ, Qd, Ed, hr, rs, q, fq, fx⟩ := h
  refine ha pins s σ H _ [] _ _ I M F δ Ed m1.kp J hr rs q fx fun us ws vs zs ds es I2 M2 H2 s2 J2 rv rz e2 hr2 rd re q2 => run_mk (R := fun x M => ∃ fs, M x = some (.ins C fs) ∧ Qd (.ins C fs) (delM M x)) i g rm m1 Fa hi J2 rv rz hr2 rd re q2.1 q2.2.1 q2.2.2 (fun x M' I' H' z s' hr' => ?_) (fx.mono e2)
  obtain ⟨fs, e, z⟩ := z
  obtain ⟨I3, s3, hr3, r3⟩ := hr'.freeze e
  exact fq _ _ I3 H' _ z ((e2.trans s').trans s3) hr3 r3
def dFld (Cs : List Addr) (f : Str) (to : DTE) : DTE := fun δ M Q E => to δ M (fun d M1 => insD d M1 fun C fs => C ∈ Cs ∧ ∃ v, fs.lookup f = some v ∧ Q v M1) E
theorem d_fld {Cs : List Addr} {f : Str} (hC : ∀ C ∈ Cs, Cls X.K C ∧ NoAttr X.K C f) (ho : DE X W o to) (hb : attributeBase o f X.env (eval o X.env) = eval o X.env := by rfl) : DE X W (.Attribute o f pos) (dFld Cs f to) := pe_imp (pe_fld ho hb) fun σ H Q h => by
  obtain ⟨I, M, F, δ, Qd, Ed, hr, rs, q, fq, fx⟩ := h
  refine ⟨I, M, F, δ, _, Ed, hr, rs, q, fun d M1 I1 H1 v q1 s1 hr1 r1 => ?_, fx⟩
  obtain ⟨a, C, dx, vs, fs, e, hH, rf, hm, w, hw, q2⟩ := insD_out hr1 r1 q1
  obtain ⟨u, hu, ru⟩ := rf.get hw
  obtain ⟨c1, c2⟩ := hC C hm
  exact ⟨a, C, dx, vs, u, e, hH, c1, c2, hu, fq _ M1 I1 H1 _ q2 s1 hr1 ru⟩
def putFD (f : Str) (d : D) : List (Str × D) → List (Str × D)
  | [] => [(f, d)]
  | (g, x) :: r => if g = f then (g, d) :: r else (g, x) :: putFD f d r
theorem RepF.put {K : PySem.W.Frag} {I : Hp} {f : Str} {v : V} {d : D} (r : Rep K I v d) : ∀ {vs : List (Str × V)} {fs : List (Str × D)}, RepF K I vs fs → RepF K I (putF f v vs) (putFD f d fs)
  | _, _, .nil => .cons r .nil
  | _, _, .cons (k := g) a b => by
    unfold putF putFD
    by_cases e : g = f
    · rw [if_pos e, if_pos e]; exact .cons r b
    · rw [if_neg e, if_neg e]; exact .cons a (RepF.put r b)
theorem RepF.len {K : PySem.W.Frag} {I : Hp} : ∀ {vs : List (Str × V)} {fs : List (Str × D)}, RepF K I vs fs → vs.length = fs.length
  | _, _, .nil => rfl
  | _, _, .cons _ r => congrArg (· + 1) r.len
def dSetF (Cs : List Addr) (f : Str) (to te : DTE) : DTS := fun Dd δ M => te δ M (fun y M1 => to δ M1 (fun d M2 => match d with
  | .ref a => ∃ C fs, M2 a = some (.ins C fs) ∧ C ∈ Cs ∧ fs.length < 1000 ∧ Dd.nx δ (updM M2 a (.ins C (putFD f y fs)))
  | _ => False) (fun c fo M' => Dd.ex c fo δ M')) (fun c fo M' => Dd.ex c fo δ M')
theorem s_fld {Cs : List Addr} {f : Str} {v : Expr} {tv : DTE} {pos' : Pos} (hC : ∀ C ∈ Cs, Cls X.K C ∧ NoAttr X.K C f) (ho : DE X W o to) (hv : DE X W v tv) (hs : swapsWith v (some (.Attribute o f pos')) pos.line X.env = pure false := by rfl) : DSt X W (.Assign [.Attribute o f pos'] v pos) (dSetF Cs f to tv) := ps_imp (ps_fld ho hv hs) fun Dn σ H h => by
  obtain ⟨I, M, F, δ, Dd, hr, rs, q, fs⟩ := h
  refine ⟨I, M, F, δ, _, _, hr, rs, q, fun y M1 I1 H1 vy q1 s1 hr1 r1 => ?_, fs.x rs⟩
  refine ⟨I1, M1, F, δ, _, _, hr1, rs.mono s1, q1, fun d M2 I2 H2 vd q2 s2 hr2 r2 => ?_, (fs.x rs).mono s1⟩
  cases r2 with
  | ref a =>
    obtain ⟨C, ff, e, hm, hl, q3⟩ := q2
    obtain ⟨dx, vs, e1, rf⟩ := hr2.ins e
    obtain ⟨c1, c2⟩ := hC C hm
    exact ⟨a, C, dx, vs, rfl, e1, c1, c2, by rw [rf.len]; exact hl, fs.nx δ _ I2 _ σ q3 (s1.trans s2) (hr2.write e (fun _ _ z => nomatch z) (o := .ins C dx (putF f vy vs)) ⟨dx, _, rfl, rf.put (r1.mono s2)⟩) (rs.mono (s1.trans s2))⟩
  | _ => exact q2.elim
end
inductive Sh where
  | leaf (t : Str) | lst (xs : List Sh) | tup (xs : List Sh) | dct (ks vs : List Sh)
mutual
def Sh.text : Sh → Str
  | .leaf t => t
  | .lst xs => listText (Sh.texts xs)
  | .tup xs => tupleText (Sh.texts xs)
  | .dct ks vs => dictText (List.zipWith (fun k v : Str => k ++ ": " ++ v) (Sh.texts ks) (Sh.texts vs))
def Sh.texts : List Sh → List Str
  | [] => []
  | x :: r => x.text :: Sh.texts r
end
mutual
def Sh.dep : Sh → Nat
  | .leaf _ => 0
  | .lst xs => Sh.deps xs + 1
  | .tup xs => Sh.deps xs + 1
  | .dct ks vs => max (Sh.deps ks) (Sh.deps vs) + 1
def Sh.deps : List Sh → Nat
  | [] => 0
  | x :: r => max x.dep (Sh.deps r)
end
mutual
def Sh.w : Sh → Nat
  | .leaf t => t.length
  | .lst xs => Sh.ws xs + 3
  | .tup xs => Sh.ws xs + 3
  | .dct ks vs => Sh.ws ks + Sh.ws vs + 3
def Sh.ws : List Sh → Nat
  | [] => 0
  | x :: r => x.w + 2 + Sh.ws r
end
theorem zip_len : ∀ (a b : List Str), ((List.zipWith (fun k v : Str => k ++ ": " ++ v) a b).map (·.length)).sum + 2 * (List.zipWith (fun k v : Str => k ++ ": " ++ v) a b).length ≤ (a.map (·.length)).sum + 2 * a.length + ((b.map (·.length)).sum + 2 * b.length)
  | [], b => by simp
  | a :: r, [] => by simp
  | a :: r, b :: s => by
    have ih := zip_len r s
    simp only [List.zipWith_cons_cons, List.map_cons, List.sum_cons, List.length_cons]
    have e : (a ++ Str.ofString ": " ++ b).length = a.length + 2 + b.length := by rw [Str.length_append, Str.length_append]; rfl
    omega
mutual
theorem Sh.text_le : ∀ s : Sh, s.text.length ≤ s.w
  | .leaf t => by unfold Sh.text Sh.w; exact Nat.le_refl _
  | .lst xs => by
    have a := listText_len_le (Sh.texts xs)
    have b := Sh.texts_le xs
    unfold Sh.text Sh.w
    omega
  | .tup xs => by
    have a := tupleText_len_le (Sh.texts xs)
    have b := Sh.texts_le xs
    unfold Sh.text Sh.w
    omega
  | .dct ks vs => by
    have a := dictText_len_le (List.zipWith (fun k v : Str => k ++ ": " ++ v) (Sh.texts ks) (Sh.texts vs))
    have b := Sh.texts_le ks
    have c := Sh.texts_le vs
    have d := zip_len (Sh.texts ks) (Sh.texts vs)
    unfold Sh.text Sh.w
    omega
theorem Sh.texts_le : ∀ xs : List Sh, ((Sh.texts xs).map (·.length)).sum + 2 * (Sh.texts xs).length ≤ Sh.ws xs
  | [] => by simp [Sh.texts, Sh.ws]
  | x :: r => by
    have a := Sh.text_le x
    have b := Sh.texts_le r
    simp only [Sh.texts, Sh.ws, List.map_cons, List.sum_cons, List.length_cons]
    omega
end
def RepB (P : Program) (w : World) (h : Heap) (v : Value) (t : Str) : Prop := ∀ (A : Around) (E : Value → Shared → Prop) (s : Shared) (Q : Value → Shared → Prop), A.guards = some [] → A.units + 2 < cLine → (∀ b o, h.get? b = some o → s.heap.get? b = some o) →
  (∀ h' u tk, (∀ b o, s.heap.get? b = some o → h'.get? b = some o) → Q (.str t u) { s with heap := h', toks := tk }) → wpAny (model P w) A (call (.builtin "repr") [v]) Q E s
mutual
inductive Rsh (P : Program) (w : World) (h : Heap) : Value → Sh → Prop
  | leaf {v : Value} {t : Str} : (∀ b, v ≠ .ref b) → ReprIs P w v t → RepB P w h v t → Rsh P w h v (.leaf t)
  | opq {a : Addr} {o : Obj} {t : Str} : h.get? a = some o → (∀ vs n, o.data ≠ .seq vs n) → (∀ es n, o.data ≠ .dict es n) → ReprK P w [] h 0 (.ref a) t → RepB P w h (.ref a) t → Rsh P w h (.ref a) (.leaf t)
  | lst {a : Addr} {o : Obj} {vs : Array Value} {n : Nat} {xs : List Sh} : h.get? a = some o → o.cls = .type "list" → o.data = .seq vs n → Rshs P w h vs.toList xs → Rsh P w h (.ref a) (.lst xs)
  | tup {a : Addr} {o : Obj} {vs : Array Value} {n : Nat} {xs : List Sh} : h.get? a = some o → o.cls = .type "tuple" → o.data = .seq vs n → Rshs P w h vs.toList xs → Rsh P w h (.ref a) (.tup xs)
  | dct {a : Addr} {o : Obj} {es : Array DictEntry} {n : Nat} {ks vs : List Sh} : h.get? a = some o → o.cls = .type "dict" → o.data = .dict es n → (a == sysModules) = false → Rshs P w h (es.toList.map (·.key)) ks → Rshs P w h (es.toList.map (·.val)) vs → Rsh P w h (.ref a) (.dct ks vs)
inductive Rshs (P : Program) (w : World) (h : Heap) : List Value → List Sh → Prop
  | nil : Rshs P w h [] []
  | cons {v : Value} {s : Sh} {vs : List Value} {ss : List Sh} : Rsh P w h v s → Rshs P w h vs ss → Rshs P w h (v :: vs) (s :: ss)
end
section
variable {P : Program} {w : World} {h : Heap}
mutual
theorem Rsh.same : ∀ {v : Value} {s s' : Sh}, Rsh P w h v s → Rsh P w h v s' → s.dep = s'.dep
  | _, _, _, .leaf n _ _, r => by
    cases r with
    | leaf _ _ _ => rfl
    | _ => exact absurd rfl (n _)
  | _, _, _, .opq e n1 n2 _ _, r => by
    cases r with
    | leaf n _ _ => exact absurd rfl (n _)
    | opq _ _ _ _ _ => rfl
    | lst e' _ d _ => rw [e] at e'; cases e'; exact absurd d (n1 _ _)
    | tup e' _ d _ => rw [e] at e'; cases e'; exact absurd d (n1 _ _)
    | dct e' _ d _ _ _ => rw [e] at e'; cases e'; exact absurd d (n2 _ _)
  | _, _, _, .lst e c d rs, r => by
    cases r with
    | leaf n _ _ => exact absurd rfl (n _)
    | opq e' n1 _ _ _ => rw [e] at e'; cases e'; exact absurd d (n1 _ _)
    | lst e' _ d' rs' =>
      rw [e] at e'; cases e'
      rw [d] at d'; cases d'
      simp only [Sh.dep, Rshs.same rs rs']
    | tup e' c' _ _ => rw [e] at e'; cases e'; rw [c] at c'; exact absurd (Value.type.inj c') (by decide)
    | dct e' _ d' _ _ _ => rw [e] at e'; cases e'; rw [d] at d'; cases d'
  | _, _, _, .tup e c d rs, r => by
    cases r with
    | leaf n _ _ => exact absurd rfl (n _)
    | opq e' n1 _ _ _ => rw [e] at e'; cases e'; exact absurd d (n1 _ _)
    | tup e' _ d' rs' =>
      rw [e] at e'; cases e'
      rw [d] at d'; cases d'
      simp only [Sh.dep, Rshs.same rs rs']
    | lst e' c' _ _ => rw [e] at e'; cases e'; rw [c] at c'; exact absurd (Value.type.inj c') (by decide)
    | dct e' _ d' _ _ _ => rw [e] at e'; cases e'; rw [d] at d'; cases d'
  | _, _, _, .dct e c d _ r1 r2, r => by
    cases r with
    | leaf n _ _ => exact absurd rfl (n _)
    | opq e' _ n2 _ _ => rw [e] at e'; cases e'; exact absurd d (n2 _ _)
    | lst e' _ d' _ => rw [e] at e'; cases e'; rw [d] at d'; cases d'
    | tup e' _ d' _ => rw [e] at e'; cases e'; rw [d] at d'; cases d'
    | dct e' _ d' _ q1 q2 =>
      rw [e] at e'; cases e'
      rw [d] at d'; cases d'
      simp only [Sh.dep, Rshs.same r1 q1, Rshs.same r2 q2]
theorem Rshs.same : ∀ {vs : List Value} {ss ss' : List Sh}, Rshs P w h vs ss → Rshs P w h vs ss' → Sh.deps ss = Sh.deps ss'
  | _, _, _, .nil, r => by cases r; rfl
  | _, _, _, .cons a b, r => by
    cases r with
    | cons a' b' => simp only [Sh.deps, Rsh.same a a', Rshs.same b b']
end
def Below (P : Program) (w : World) (h : Heap) (n : Nat) (bs : List Addr) : Prop := ∀ b ∈ bs, ∃ s, Rsh P w h (.ref b) s ∧ s.dep ≤ n
theorem Below.off {n : Nat} {bs : List Addr} {a : Addr} {s : Sh} (b : Below P w h n bs) (r : Rsh P w h (.ref a) s) (l : n < s.dep) : a ∉ bs := fun m => by
  obtain ⟨s', r', l'⟩ := b a m
  rw [Rsh.same r r'] at l
  omega
theorem Below.up {n m : Nat} {bs : List Addr} (b : Below P w h n bs) (l : n ≤ m) : Below P w h m bs := fun a ha => let ⟨s, r, q⟩ := b a ha; ⟨s, r, Nat.le_trans q l⟩
theorem Below.app {n : Nat} {bs cs : List Addr} (b : Below P w h n bs) (c : Below P w h n cs) : Below P w h n (bs ++ cs) := fun a ha => (List.mem_append.mp ha).elim (b a) (c a)
theorem Below.add {n : Nat} {bs : List Addr} {a : Addr} {s : Sh} (b : Below P w h n bs) (r : Rsh P w h (.ref a) s) (l : n ≤ s.dep) : Below P w h s.dep (a :: bs) := fun c hc => by
  rcases List.mem_cons.mp hc with e | hc
  · exact ⟨s, e ▸ r, Nat.le_refl _⟩
  · exact b.up l c hc
theorem texts_len : ∀ xs : List Sh, (Sh.texts xs).length = xs.length
  | [] => rfl
  | _ :: r => congrArg (· + 1) (texts_len r)
theorem Rshs.len : ∀ {vs : List Value} {ss : List Sh}, Rshs P w h vs ss → vs.length = ss.length
  | _, _, .nil => rfl
  | _, _, .cons _ r => congrArg (· + 1) r.len
theorem zip_mem : ∀ {a b : List Str}, a.length = b.length → (∀ t ∈ a, ∃ p ∈ List.zipWith (fun k v : Str => k ++ ": " ++ v) a b, t.length ≤ p.length) ∧ (∀ t ∈ b, ∃ p ∈ List.zipWith (fun k v : Str => k ++ ": " ++ v) a b, t.length ≤ p.length)
  | [], [], _ => ⟨(fun _ z => nomatch z), fun _ z => nomatch z⟩
  | x :: r, y :: s, l => by
    obtain ⟨i1, i2⟩ := zip_mem (a := r) (b := s) (by simpa using l)
    have e : (x ++ Str.ofString ": " ++ y).length = x.length + 2 + y.length := by rw [Str.length_append, Str.length_append]; rfl
    rw [List.zipWith_cons_cons]
    refine ⟨fun t ht => ?_, fun t ht => ?_⟩
    · rcases List.mem_cons.mp ht with rfl | ht
      · exact ⟨_, List.mem_cons_self, by omega⟩
      · obtain ⟨p, hp, q⟩ := i1 t ht; exact ⟨p, List.mem_cons_of_mem _ hp, q⟩
    · rcases List.mem_cons.mp ht with rfl | ht
      · exact ⟨_, List.mem_cons_self, by omega⟩
      · obtain ⟨p, hp, q⟩ := i2 t ht; exact ⟨p, List.mem_cons_of_mem _ hp, q⟩
mutual
theorem Rsh.reprK : ∀ {v : Value} {s : Sh}, Rsh P w h v s → s.text.length ≤ sizeLine → ∃ bs, Below P w h s.dep bs ∧ ReprK P w bs h s.dep v s.text
  | _, _, .leaf _ i _, _ => ⟨[], (fun _ z => nomatch z), by unfold Sh.text; exact .of_is i _ _ _⟩
  | _, _, .opq _ _ _ k _, _ => ⟨[], (fun _ z => nomatch z), by unfold Sh.text; exact k⟩
  | _, _, .lst (a := a) (vs := vs) (xs := xs) e c d rs, z => by
    have z' : (listText (Sh.texts xs)).length ≤ sizeLine := by unfold Sh.text at z; exact z
    obtain ⟨bs, b, k⟩ := Rshs.reprK rs fun t ht => Nat.le_trans (listText_mem_le ht) z'
    have r : Rsh P w h (.ref a) (.lst xs) := .lst e c d rs
    refine ⟨a :: bs, b.add r (by unfold Sh.dep; omega), ?_⟩
    have off := b.off r (by unfold Sh.dep; omega)
    unfold Sh.dep Sh.text
    obtain ⟨l⟩ := vs
    cases l with
    | nil =>
      have rs' : Rshs P w h [] xs := rs
      cases rs'
      rw [show listText (Sh.texts []) = (Str.ofString "[]") from listText_nil]
      exact ReprK.listEmpty e c d
    | cons x l => exact ReprK.list e c d off (by simpa using k.length_eq) fun i y q => k.item i y (by simpa using q)
  | _, _, .tup (a := a) (xs := xs) e c d rs, z => by
    have z' : (tupleText (Sh.texts xs)).length ≤ sizeLine := by unfold Sh.text at z; exact z
    obtain ⟨bs, b, k⟩ := Rshs.reprK rs fun t ht => Nat.le_trans (tupleText_mem_le ht) z'
    have r : Rsh P w h (.ref a) (.tup xs) := .tup e c d rs
    refine ⟨a :: bs, b.add r (by unfold Sh.dep; omega), ?_⟩
    have off := b.off r (by unfold Sh.dep; omega)
    unfold Sh.dep Sh.text
    exact ReprK.tuple e c d off k
  | _, _, .dct (a := a) (es := es) (ks := ks) (vs := vs) e c d sy r1 r2, z => by
    have z' : (dictText (List.zipWith (fun k v : Str => k ++ ": " ++ v) (Sh.texts ks) (Sh.texts vs))).length ≤ sizeLine := by unfold Sh.text at z; exact z
    have ll : (Sh.texts ks).length = (Sh.texts vs).length := by
      have := r1.len; have := r2.len
      rw [texts_len, texts_len]
      simp only [List.length_map] at *
      omega
    obtain ⟨m1, m2⟩ := zip_mem ll
    obtain ⟨b1, c1, k1⟩ := Rshs.reprK r1 fun t ht => let ⟨p, hp, q⟩ := m1 t ht; Nat.le_trans q (Nat.le_trans (dictText_mem_le hp) z')
    obtain ⟨b2, c2, k2⟩ := Rshs.reprK r2 fun t ht => let ⟨p, hp, q⟩ := m2 t ht; Nat.le_trans q (Nat.le_trans (dictText_mem_le hp) z')
    have r : Rsh P w h (.ref a) (.dct ks vs) := .dct e c d sy r1 r2
    have b := (c1.up (Nat.le_max_left (Sh.deps ks) (Sh.deps vs))).app (c2.up (Nat.le_max_right (Sh.deps ks) (Sh.deps vs)))
    refine ⟨a :: (b1 ++ b2), b.add r (by unfold Sh.dep; omega), ?_⟩
    have off := b.off r (by unfold Sh.dep; omega)
    unfold Sh.dep Sh.text
    exact ReprK.dict e c d sy off (ReprEntriesK.of_two es.toList _ _ (k1.more_le (fun _ m => List.mem_append_left _ m) (Nat.le_max_left _ _)) (k2.more_le (fun _ m => List.mem_append_right _ m) (Nat.le_max_right _ _)))
theorem Rshs.reprK : ∀ {vs : List Value} {ss : List Sh}, Rshs P w h vs ss → (∀ t ∈ Sh.texts ss, t.length ≤ sizeLine) → ∃ bs, Below P w h (Sh.deps ss) bs ∧ ReprAllK P w bs h (Sh.deps ss) vs (Sh.texts ss)
  | _, _, .nil, _ => ⟨[], (fun _ z => nomatch z), .nil⟩
  | _, _, .cons (s := s) (ss := ss) r rs, z => by
    obtain ⟨b1, c1, k1⟩ := Rsh.reprK r (z _ (by unfold Sh.texts; exact List.mem_cons_self))
    obtain ⟨b2, c2, k2⟩ := Rshs.reprK rs fun t ht => z t (by unfold Sh.texts; exact List.mem_cons_of_mem _ ht)
    unfold Sh.deps Sh.texts
    exact ⟨b1 ++ b2, (c1.up (Nat.le_max_left _ _)).app (c2.up (Nat.le_max_right _ _)), .cons ((k1.more fun _ m => List.mem_append_left _ m).level_le (Nat.le_max_left _ _)) (k2.more_le (fun _ m => List.mem_append_right _ m) (Nat.le_max_right _ _))⟩
end
theorem Rsh.call {v : Value} {t : Sh} (r : Rsh P w h v t) (z : t.text.length ≤ sizeLine) {A : Around} {E : Value → Shared → Prop} {s : Shared} {Q : Value → Shared → Prop} (hg : A.guards = some []) (hu : A.units + (t.dep + 2) < cLine) (k0 : ∀ b o, h.get? b = some o → s.heap.get? b = some o)
    (q : ∀ h' u tk, (∀ b o, s.heap.get? b = some o → h'.get? b = some o) → Q (.str t.text u) { s with heap := h', toks := tk }) : wpAny (model P w) A (PySem.call (.builtin "repr") [v]) Q E s := by
  have go : ∀ {a : Addr} {o : Obj} {T idr : String}, h.get? a = some o → o.cls = .type T → SlotG T "__repr__" idr → wpAny (model P w) A.in1 (PySem.call (.builtin idr) [.ref a]) (fun r s₁ => ∃ x t, r = .str x t ∧ Q r s₁) E s → wpAny (model P w) A (PySem.call (.builtin "repr") [.ref a]) Q E s :=
    fun e c sl hc => call_repr_slot (by omega) ⟨_, k0 _ _ e, c⟩ sl hc
  have qq : ∀ h' u tk, (∀ b o, s.heap.get? b = some o → h'.get? b = some o) → ∃ x y, Value.str t.text u = .str x y ∧ Q (.str t.text u) { s with heap := h', toks := tk } := fun h' u tk k => ⟨_, _, rfl, q h' u tk k⟩
  cases r with
  | leaf _ _ b => unfold Sh.text at q; exact b A E s Q hg (by omega) k0 q
  | opq _ _ _ _ b => unfold Sh.text at q; exact b A E s Q hg (by omega) k0 q
  | @lst a o vs n xs e c d rs =>
    have z' : (listText (Sh.texts xs)).length ≤ sizeLine := by unfold Sh.text at z; exact z
    have u' : A.units + (Sh.deps xs + 1 + 2) < cLine := by unfold Sh.dep at hu; exact hu
    obtain ⟨bs, b, k⟩ := Rshs.reprK rs fun t ht => Nat.le_trans (listText_mem_le ht) z'
    have off := b.off (.lst e c d rs) (by unfold Sh.dep; omega)
    refine go e c F.slot_list_repr.toG ?_
    obtain ⟨l⟩ := vs
    cases l with
    | nil =>
      have rs' : Rshs P w h [] xs := rs
      cases rs'
      exact call_list_repr_empty ⟨o, k0 _ _ e, c⟩ (k0 _ _ e) d (by
        have y := qq s.heap s.toks (s.toks + 1) fun _ _ e => e
        rw [show (Sh.lst []).text = (Str.ofString "[]") from by unfold Sh.text; exact listText_nil] at y
        exact y)
    | cons x l => exact call_list_reprK e c d off (by simpa using k.length_eq) (fun i y q => k.item i y (by simpa using q)) hg (fun b _ => Clear.nil b) (by show A.units + 1 + (Sh.deps xs + 1) < cLine; omega) k0 (by unfold Sh.text at qq; exact qq) z'
  | @tup a o vs n xs e c d rs =>
    have z' : (tupleText (Sh.texts xs)).length ≤ sizeLine := by unfold Sh.text at z; exact z
    have u' : A.units + (Sh.deps xs + 1 + 2) < cLine := by unfold Sh.dep at hu; exact hu
    obtain ⟨bs, b, k⟩ := Rshs.reprK rs fun t ht => Nat.le_trans (tupleText_mem_le ht) z'
    have off := b.off (.tup e c d rs) (by unfold Sh.dep; omega)
    refine go e c F.slot_tuple_repr ?_
    exact call_tuple_reprK e c d off k hg (fun b _ => Clear.nil b) (by show A.units + 1 + (Sh.deps xs + 1) < cLine; omega) k0 (by unfold Sh.text at qq; exact qq) z'
  | @dct a o es n ks vs e c d sy r1 r2 =>
    have z' : (dictText (List.zipWith (fun k v : Str => k ++ ": " ++ v) (Sh.texts ks) (Sh.texts vs))).length ≤ sizeLine := by unfold Sh.text at z; exact z
    have u' : A.units + (max (Sh.deps ks) (Sh.deps vs) + 1 + 2) < cLine := by unfold Sh.dep at hu; exact hu
    have ll : (Sh.texts ks).length = (Sh.texts vs).length := by
      have := r1.len; have := r2.len
      rw [texts_len, texts_len]
      simp only [List.length_map] at *
      omega
    obtain ⟨m1, m2⟩ := zip_mem ll
    obtain ⟨b1, c1, k1⟩ := Rshs.reprK r1 fun t ht => let ⟨p, hp, q⟩ := m1 t ht; Nat.le_trans q (Nat.le_trans (dictText_mem_le hp) z')
    obtain ⟨b2, c2, k2⟩ := Rshs.reprK r2 fun t ht => let ⟨p, hp, q⟩ := m2 t ht; Nat.le_trans q (Nat.le_trans (dictText_mem_le hp) z')
    have b := (c1.up (Nat.le_max_left (Sh.deps ks) (Sh.deps vs))).app (c2.up (Nat.le_max_right (Sh.deps ks) (Sh.deps vs)))
    have off := b.off (.dct e c d sy r1 r2) (by unfold Sh.dep; omega)
    refine go e c F.slot_dict_repr ?_
    exact call_dict_reprK e c d sy off (ReprEntriesK.of_two es.toList _ _ (k1.more_le (fun _ m => List.mem_append_left _ m) (Nat.le_max_left _ _)) (k2.more_le (fun _ m => List.mem_append_right _ m) (Nat.le_max_right _ _))) hg (fun b _ => Clear.nil b) (by show A.units + 1 + (max (Sh.deps ks) (Sh.deps vs) + 1) < cLine; omega) k0 (by unfold Sh.text at qq; exact qq) z'
end
end DL
namespace DL
open PySem PySem.Spec PyProof.Rows L2
def blText (b : Bool) : Str := if b then "True" else "False"
mutual
inductive ShOf (M : Mp) : D → Sh → Prop
  | non : ShOf M .non (.leaf "None")
  | bl (b : Bool) : ShOf M (.bl b) (.leaf (blText b))
  | int {i : Int} : i.natAbs.log2 < 1920 → ShOf M (.int i) (.leaf (toString i))
  | str {x : Str} : (reprText x).length ≤ sizeLine → ShOf M (.str x) (.leaf (reprText x))
  | lst {ds : List D} {ss : List Sh} : ShOfs M ds ss → ShOf M (.lst ds) (.lst ss)
  | sq {ds : List D} {ss : List Sh} : ShOfs M ds ss → ShOf M (.sq ds) (.lst ss)
  | tup {ds : List D} {ss : List Sh} : ShOfs M ds ss → ShOf M (.tup ds) (.tup ss)
  | dct {kvs : List (Key × D)} {ks vs : List Sh} : ShOfs M (kvs.map fun kv => kD kv.1) ks → ShOfs M (kvs.map (·.2)) vs → ShOf M (.dct kvs) (.dct ks vs)
  | lstM {a : Addr} {ds : List D} {ss : List Sh} : M a = some (.lst ds) → ShOfs M ds ss → ShOf M (.ref a) (.lst ss)
  | dctM {a : Addr} {kvs : List (Key × D)} {ks vs : List Sh} : M a = some (.dct kvs) → ShOfs M (kvs.map fun kv => kD kv.1) ks → ShOfs M (kvs.map (·.2)) vs → ShOf M (.ref a) (.dct ks vs)
inductive ShOfs (M : Mp) : List D → List Sh → Prop
  | nil : ShOfs M [] []
  | cons {d : D} {s : Sh} {ds : List D} {ss : List Sh} : ShOf M d s → ShOfs M ds ss → ShOfs M (d :: ds) (s :: ss)
end
theorem RepK.vals {K : PySem.W.Frag} {I : Hp} : ∀ {vs : List (Key × V)} {ds : List (Key × D)}, RepK K I vs ds → Reps K I (vs.map (·.2)) (ds.map (·.2)) ∧ Reps K I (vs.map fun kv => kV kv.1) (ds.map fun kv => kD kv.1)
  | _, _, .nil => ⟨.nil, .nil⟩
  | _, _, .cons (k := k) r rr => ⟨.cons r (RepK.vals rr).1, .cons (by cases k with | inl i => exact .int i | inr x => exact .str x) (RepK.vals rr).2⟩
theorem pairs_vals {P : Program} {w : World} : ∀ {es : List DictEntry} {vs : List (Key × Value)} {kvs : List (Key × V)}, KV kvs vs → Pairs (mixKind P w) es vs → Vals (kvs.map (·.2)) (es.map (·.val)) ∧ Vals (kvs.map fun kv => kV kv.1) (es.map (·.key))
  | _, _, _, .nil, .nil => ⟨.nil, .nil⟩
  | _, _, _, .cons a r, .cons h1 h2 t => by
    obtain ⟨i1, i2⟩ := pairs_vals r t
    refine ⟨.cons (by dsimp only; rw [h2]; exact a.2) i1, .cons ?_ i2⟩
    dsimp only
    rw [a.1]
    rcases keyIs_shape h1 with ⟨i, t, e1, e2⟩ | ⟨x, t, e1, e2⟩
    · rw [e1]; exact ⟨t, e2⟩
    · rw [e1]; exact ⟨t, e2⟩
section
variable {X : Cx} {pins : List (Addr × Obj)} {σ : L2.St} {H I F : Hp} {M : Mp} {s : Shared} {Pg : Program} {wd : World}
theorem dct_sh (J : L2.Inv X pins σ H s) {a : Addr} {kvs : List (Key × V)} (e : H a = some (.dK kvs)) : ∃ o es n, s.heap.get? a = some o ∧ o.cls = .type "dict" ∧ o.data = .dict es n ∧ (a == sysModules) = false ∧ Vals (kvs.map (·.2)) (es.toList.map (·.val)) ∧ Vals (kvs.map fun kv => kV kv.1) (es.toList.map (·.key)) := by
  obtain ⟨_, sy, vs, rel, o, es, ep, eo, ex, hd, _, pr, _⟩ := dk_of J.hok e
  obtain ⟨i1, i2⟩ := pairs_vals rel pr
  exact ⟨o, es, ep, eo, ex.1, hd, sy, i1, i2⟩
mutual
theorem ShOf.rsh (J : L2.Inv X pins σ H s) (hr : HR X.K I M F H) : ∀ {d : D} {t : Sh}, ShOf M d t → ∀ {v : V} {u : Value}, Rep X.K I v d → RelV v u → Rsh Pg wd s.heap u t
  | _, _, .non, _, _, r, q => by
    cases r; cases (show _ = Value.none from q)
    exact .leaf (fun _ z => nomatch z) ReprIs.none fun A E s Q hg hu k0 h => P.repr_of_none (h s.heap _ _ fun _ _ e => e)
  | _, _, .bl b, _, _, r, q => by
    cases r; cases (show _ = Value.bool b from q)
    have e : blText b = (if b then Str.ofString "True" else Str.ofString "False") := by cases b <;> rfl
    rw [e]
    exact .leaf (fun _ z => nomatch z) (ReprIs.bool b) fun A E s Q hg hu k0 h => P.repr_of_bool (h s.heap _ _ fun _ _ e => e)
  | _, _, .int l, _, _, r, q => by
    cases r
    obtain ⟨tk, rfl⟩ := q
    exact .leaf (fun _ z => nomatch z) (ReprIs.int tk l) fun A E s Q hg hu k0 h => P.repr_of_int l (h s.heap _ _ fun _ _ e => e)
  | _, _, .str l, _, _, r, q => by
    cases r
    obtain ⟨tk, rfl⟩ := q
    exact .leaf (fun _ z => nomatch z) (ReprIs.str _ tk l) fun A E s Q hg hu k0 h => P.repr_of_str (h s.heap _ _ fun _ _ e => e) l
  | _, _, .lst ss, _, _, r, q => by
    cases r with
    | lst e rr =>
      cases (show _ = Value.ref _ from q)
      obtain ⟨its, rv, ⟨o, n, ho, hc, _, hd⟩, _⟩ := J.list (SqL.of (hr.imm _ _ e))
      exact .lst ho hc hd (ShOfs.rsh J hr ss rr (by simpa using rv))
  | _, _, .sq ss, _, _, r, q => by
    cases r with
    | sq e rr =>
      cases (show _ = Value.ref _ from q)
      obtain ⟨its, rv, ⟨o, n, ho, hc, _, hd⟩, _⟩ := J.list (hr.sq e)
      exact .lst ho hc hd (ShOfs.rsh J hr ss rr (by simpa using rv))
  | _, _, .tup ss, _, _, r, q => by
    cases r with
    | tup e rr =>
      cases (show _ = Value.ref _ from q)
      obtain ⟨its, rv, ⟨o, ho, hc, n, hd⟩, _⟩ := J.tuple (hr.st e)
      exact .tup ho hc hd (ShOfs.rsh J hr ss rr (by simpa using rv))
  | _, _, .dct s1 s2, _, _, r, q => by
    cases r with
    | dct e rr =>
      cases (show _ = Value.ref _ from q)
      obtain ⟨o, es, n, ho, hc, hd, sy, i1, i2⟩ := dct_sh J (hr.imm _ _ e)
      exact .dct ho hc hd sy (ShOfs.rsh J hr s1 rr.vals.2 i2) (ShOfs.rsh J hr s2 rr.vals.1 i1)
  | _, _, .lstM e ss, _, _, r, q => by
    cases r
    cases (show _ = Value.ref _ from q)
    obtain ⟨vs, e1, rr⟩ := hr.lst e
    obtain ⟨its, rv, ⟨o, n, ho, hc, _, hd⟩, _⟩ := J.list (SqL.of e1)
    exact .lst ho hc hd (ShOfs.rsh J hr ss rr (by simpa using rv))
  | _, _, .dctM e s1 s2, _, _, r, q => by
    cases r
    cases (show _ = Value.ref _ from q)
    obtain ⟨vs, e1, rr⟩ := hr.dct e
    obtain ⟨o, es, n, ho, hc, hd, sy, i1, i2⟩ := dct_sh J e1
    exact .dct ho hc hd sy (ShOfs.rsh J hr s1 rr.vals.2 i2) (ShOfs.rsh J hr s2 rr.vals.1 i1)
theorem ShOfs.rsh (J : L2.Inv X pins σ H s) (hr : HR X.K I M F H) : ∀ {ds : List D} {ts : List Sh}, ShOfs M ds ts → ∀ {vs : List V} {us : List Value}, Reps X.K I vs ds → Vals vs us → Rshs Pg wd s.heap us ts
  | _, _, .nil, _, _, r, q => by cases r; cases q; exact .nil
  | _, _, .cons a b, _, _, r, q => by
    cases r with
    | cons r1 r2 => cases q with
      | cons q1 q2 => exact .cons (ShOf.rsh J hr a r1 q1) (ShOfs.rsh J hr b r2 q2)
end
end
section
variable {X : Cx} {W : WX} {e : Expr} {te : DTE} {p pos : Pos}
def dShow (te : DTE) : DTE := fun δ M Q E => te δ M (fun d M1 => ∃ t, ShOf M1 d t ∧ t.dep ≤ 60 ∧ t.text.length ≤ sizeLine ∧ Q (.str t.text) M1) E
theorem d_show {k : Nat} (ng : NoGd X.A) (rm : Room k X.A) (hm : X.mg "repr" = none) (he : DE X W e te) (hs : starEach [e] X.env = (false, eval e X.env) :: starEach [] X.env := by rfl) (hg : Gl X "repr" := by rfl) (hpl : (backTo pos (starEach [] X.env)).any (·.1) = false := by rfl) : DE X W (.Call (.Name "repr" p) [e] [] pos) (dShow te) := by
  refine ⟨fun pins s σ H Q J h => ?_⟩
  obtain ⟨I, M, F, δ, Qd, Ed, hr, rs, q, fq, fx⟩ := h
  have key : CallR X (.builtin "repr") (fun xs H1 Q1 => ∃ x I1 M1 F1 d t, xs = [x] ∧ HR X.K I1 M1 F1 H1 ∧ Rep X.K I1 x d ∧ ShOf M1 d t ∧ t.dep ≤ 60 ∧ t.text.length ≤ sizeLine ∧ Q1 (.str t.text) H1) := by
    intro pins s σ H xs us Q J rv h
    obtain ⟨x, I1, M1, F1, d, t, rfl, hr, r, sh, h1, h2, q⟩ := h
    obtain ⟨u, rfl, ru⟩ := vals1 rv
    have hu := rm.un
    exact (sh.rsh J hr r ru).call h2 ng (by omega) (fun _ _ e => e) fun h' u tk hk => ⟨.str _, H, J.kept (t' := tk) hk, ⟨u, rfl⟩, q⟩
  refine (pe_callB key hg hm (by decide +kernel) (pa_cons he pa_nil hs) (by decide) (by decide) hs hpl).run pins s σ H Q J ?_
  refine ⟨I, M, F, δ, _, Ed, hr, rs, q, fun d M1 I1 H1 v q1 s1 hr1 r1 => ?_, fx⟩
  obtain ⟨t, sh, h1, h2, q2⟩ := q1
  exact ⟨v, I1, M1, F, d, t, rfl, hr1, r1, sh, h1, h2, fq _ M1 I1 H1 _ q2 s1 hr1 (.str _)⟩
end
end DL
namespace DL
open PySem PySem.Spec PyProof.Rows L2
abbrev plG : List D → List D → List D := fun ds _ => ds
section
variable {X : Cx} {W : WX} {e : Expr} {es : List Expr} {ta : DTA} {te to : DTE} {pos p : Pos} {x : Str} {k n : Nat} {ps : List Str} {sp : DSp} {pats : List Pat}
theorem d_fnP (i : Nat) (Fx : FnN X.prog X.w X.K X.mg X.base k x ps sp pats) (g : Good X W) (rm : Room k X.A) (ha : DA X W (e :: es) ta) (hi : pats[i]? = some ⟨ps.length, [], plG⟩ := by rfl) (hg : Gl X x := by rfl) (hdb : (x == ("__debug__" : Str)) = false := by decide) (he : starEach (e :: es) X.env = (false, eval e X.env) :: starEach es X.env := by rfl)
    (hpl : (backTo pos (starEach es X.env)).any (·.1) = false := by rfl) : DE X W (.Call (.Name x p) (e :: es) [] pos) (dCall sp ta) := by
  obtain ⟨f, hm, hk, Fa⟩ := Fx.ex
  refine ⟨fun pins s σ H Q J h => wpAny_Call_Name_kw (ld_glob J hg hm ?_ hdb)⟩
  obtain ⟨I, M, F, δ, Qd, Ed, hr, rs, q, fq, fx⟩ := h
  refine args_p ha he hpl pins s σ H _ [] _ (fun ds _ M2 => sp ds M2 Qd Ed) I M F δ Ed hk J hr rs q fx fun us ws vs zs ds es I2 M2 H2 s2 J2 rv rz e2 hr2 rd re q2 => ?_
  obtain ⟨fd, kb, G⟩ := Fa.ex
  have ln := G.len vs H2 Q (WE W σ) ⟨I2, M2, F, ds, Qd, Ed, hr2, rd, q2, fq.mono e2, fx.mono e2⟩
  exact run_a i g rm Fa hi (ws := []) (zs := []) (es := []) J2 rv .nil hr2 rd .nil (rd.len.symm.trans ln) rfl q2 (fq.mono e2) (fx.mono e2)
def asQ (M : Mp) (d : D) (k : List D → Prop) : Prop := match d with
  | .lst xs => k xs
  | .sq xs => k xs
  | .tup xs => k xs
  | .ref a => ∃ xs, M a = some (.lst xs) ∧ k xs
  | _ => False
theorem asQ_out {K : PySem.W.Frag} {I : Hp} {M : Mp} {F H : Hp} (hr : HR K I M F H) {v : V} {d : D} {k : List D → Prop} (r : Rep K I v d) (h : asQ M d k) : ∃ a vs ds, v = .ref a ∧ (SqL K H a vs ∨ (SqT K H a vs ∧ d = .tup ds)) ∧ Reps K I vs ds ∧ k ds := by
  cases r with
  | lst s rr => exact ⟨_, _, _, rfl, .inl (SqL.of (hr.imm _ _ s)), rr, h⟩
  | sq s rr => exact ⟨_, _, _, rfl, .inl (hr.sq s), rr, h⟩
  | tup s rr => exact ⟨_, _, _, rfl, .inr ⟨hr.st s, rfl⟩, rr, h⟩
  | ref a =>
    obtain ⟨xs, e, q⟩ := h
    obtain ⟨vs, e1, r1⟩ := hr.lst e
    exact ⟨_, _, _, rfl, .inl (SqL.of e1), r1, q⟩
  | _ => exact h.elim
def dList : DRC := fun ds M Q => one ds fun d => asQ M d fun xs => Q (.lst xs) M
def dListM : DRC := fun ds M Q => one ds fun d => asQ M d fun xs => ∀ p, M p = none → Q (.ref p) (updM M p (.lst xs))
def dTuple : DRC := fun ds M Q => one ds fun d => asQ M d fun xs => Q (.tup xs) M
abbrev rListOf (K : PySem.W.Frag) : List V → Hp → VK → Prop := fun xs H Q => ∃ p ys, xs = [.ref p] ∧ (SqL K H p ys ∨ SqT K H p ys) ∧ ∀ l, H l = none → Q (.ref l) (upd H l (.lst ys))
theorem lc_list {K : PySem.W.Frag} : LC K (rListOf K) dList := fun I M F H vs ds Qd Q hr rs q fq => by
  obtain ⟨v, d, rfl, r, q⟩ := one_out rs q
  obtain ⟨a, vs, xs, rfl, h, rr, q⟩ := asQ_out hr r q
  exact ⟨a, vs, rfl, h.imp id And.left, fin_lst fq hr rr q⟩
theorem lc_listM {K : PySem.W.Frag} : LC K (rListOf K) dListM := fun I M F H vs ds Qd Q hr rs q fq => by
  obtain ⟨v, d, rfl, r, q⟩ := one_out rs q
  obtain ⟨a, vs, xs, rfl, h, rr, q⟩ := asQ_out hr r q
  exact ⟨a, vs, rfl, h.imp id And.left, fin_lstM fq hr rr q⟩
theorem lc_tuple {K : PySem.W.Frag} : LC K (fun xs H Q => ∃ p ys, xs = [.ref p] ∧ ((SqL K H p ys ∧ ∀ l, H l = none → Q (.ref l) (upd H l (.tup ys))) ∨ (SqT K H p ys ∧ Q (.ref p) H))) dTuple := fun I M F H vs ds Qd Q hr rs q fq => by
  obtain ⟨v, d, rfl, r, q⟩ := one_out rs q
  obtain ⟨a, vs, xs, rfl, h, rr, q⟩ := asQ_out hr r q
  rcases h with h | ⟨h, e⟩
  · exact ⟨a, vs, rfl, .inl ⟨h, fin_tup fq hr rr q⟩⟩
  · subst e
    exact ⟨a, vs, rfl, .inr ⟨h, fq _ M I H _ q (Same.refl I) hr r⟩⟩
theorem d_list (hm : X.mg "list" = none) (ha : DA X W [e] ta) (he : starEach [e] X.env = (false, eval e X.env) :: starEach [] X.env := by rfl) (hg : Gl X "list" := by rfl) : DE X W (.Call (.Name "list" p) [e] [] pos) (dCB dList ta) := d_callTy call_list_of lc_list hm (by decide +kernel) ha hg (he := he)
theorem d_listM (hm : X.mg "list" = none) (ha : DA X W [e] ta) (he : starEach [e] X.env = (false, eval e X.env) :: starEach [] X.env := by rfl) (hg : Gl X "list" := by rfl) : DE X W (.Call (.Name "list" p) [e] [] pos) (dCB dListM ta) := d_callTy call_list_of lc_listM hm (by decide +kernel) ha hg (he := he)
theorem d_tuple (hm : X.mg "tuple" = none) (ha : DA X W [e] ta) (he : starEach [e] X.env = (false, eval e X.env) :: starEach [] X.env := by rfl) (hg : Gl X "tuple" := by rfl) : DE X W (.Call (.Name "tuple" p) [e] [] pos) (dCB dTuple ta) := d_callTy call_tuple_of lc_tuple hm (by decide +kernel) ha hg (he := he)
def dAdd2 : DR2 := fun x y M Q => match x, y with
  | .tup xs, .tup ys => xs.length + ys.length ≤ sizeLine ∧ Q (.tup (xs ++ ys)) M
  | x, y => dAdd x y M Q
def dAddM : DR2 := fun x y M Q => asX M x fun xs => asX M y fun ys => xs.length + ys.length ≤ sizeLine ∧ ∀ p, M p = none → Q (.ref p) (updM M p (.lst (xs ++ ys)))
theorem op_add5 : OpR X (binaryOp .Add) (fun x y H Q => rAdd4 X.K x y H Q ∨ rCatA X.K x y H Q) := op_add4.or op_catA
theorem lr_add5 {K : PySem.W.Frag} : LR K (fun x y H Q => rAdd4 K x y H Q ∨ rCatA K x y H Q) dAdd2 := fun I M F H x y dx dy Qd Q hr rx ry q fq => by
  unfold dAdd2 at q
  split at q
  · rename_i xs ys
    cases rx with
    | @tup a vs _ s1 r1 => cases ry with
      | @tup b ws _ s2 r2 =>
        refine .inr ⟨a, b, vs, ws, rfl, rfl, hr.st s1, hr.st s2, by rw [r1.len, r2.len]; exact q.1, fun e => ?_, fun n e => ?_, fun _ _ => fin_tup fq hr (r1.app r2) q.2⟩
        · subst e; cases r1; exact fq _ M I H _ q.2 (Same.refl I) hr (.tup s2 r2)
        · subst e; cases r2; exact fq _ M I H _ (by rw [List.append_nil] at q; exact q.2) (Same.refl I) hr (.tup s1 r1)
  · exact .inl (lr_add I M F H x y _ _ Qd Q hr rx ry q fq)
theorem d_add5 {a b : Expr} {ta tb : DTE} (ha : DE X W a ta) (hb : DE X W b tb) : DE X W (.BinOp a .Add b pos) (dOp dAdd2 ta tb) := d_op op_add5 lr_add5 ha hb
theorem lr_addM {K : PySem.W.Frag} : LR K (rAdd4 K) dAddM := fun I M F H x y dx dy Qd Q hr rx ry q fq => by
  obtain ⟨a, vs, ds, e1, h1, r1, q⟩ := asX_out hr rx q
  obtain ⟨b, ws, es, e2, h2, r2, q⟩ := asX_out hr ry q
  exact .inr (.inr ⟨a, b, vs, ws, e1, e2, h1, h2, by rw [r1.len, r2.len]; exact q.1, fin_lstM fq hr (r1.app r2) q.2⟩)
theorem d_addM {a b : Expr} {ta tb : DTE} (ha : DE X W a ta) (hb : DE X W b tb) : DE X W (.BinOp a .Add b pos) (dOp dAddM ta tb) := d_op op_add4 lr_addM ha hb
def dSl4 (x : D) (lo hi : Option Int) (M : Mp) (Q : DK) : Prop := match x with
  | .tup xs => Q (.tup (cutD xs lo hi)) M
  | x => dSl3 x lo hi M Q
def dSl4M (x : D) (lo hi : Option Int) (M : Mp) (Q : DK) : Prop := asR M x fun xs => ∀ p, M p = none → Q (.ref p) (updM M p (.lst (cutD xs lo hi)))
def dSlA (r : D → Option Int → Option Int → Mp → DK → Prop) (te : DTE) (tl th : DTO) : DTE := fun δ M Q E => te δ M (fun x M1 => tl δ M1 (fun l M2 => th δ M2 (fun u M3 => r x l u M3 Q) E) E) E
theorem cutD_all {xs : List D} {lo hi : Option Int} (h : HT.sIx xs.length 0 lo = 0 ∧ HT.sIx xs.length xs.length hi = xs.length) : cutD xs lo hi = xs := by
  unfold cutD
  rw [h.1, h.2]
  simp
def LSl (K : PySem.W.Frag) (r' : V → Option Int → Option Int → Hp → VK → Prop) (r : D → Option Int → Option Int → Mp → DK → Prop) : Prop := ∀ I M F H v d lo hi Qd Q, HR K I M F H → Rep K I v d → r d lo hi M Qd → Fin K I F Qd Q → r' v lo hi H Q
theorem d_slA {lo hi : Option Expr} {tl th : DTO} {p2 : Pos} {r : D → Option Int → Option Int → Mp → DK → Prop} {r' : V → Option Int → Option Int → Hp → VK → Prop} (hs : SlR X r') (hL : LSl X.K r' r) (he : DE X W e te) (hl : DO X W lo tl) (hu : DO X W hi th) : DE X W (.Subscript e (.Slice lo hi none p2) pos) (dSlA r te tl th) := pe_imp (pe_slice hs he hl hu) fun σ H Q h => by
  obtain ⟨I, M, F, δ, Qd, Ed, hr, rs, q, fq, fx⟩ := h
  refine ⟨I, M, F, δ, _, Ed, hr, rs, q, fun x M1 I1 H1 v q1 s1 hr1 r1 => ?_, fx⟩
  refine ⟨I1, M1, F, δ, _, Ed, hr1, rs.mono s1, q1, fun l M2 I2 H2 q2 s2 hr2 => ?_, fx.mono s1⟩
  refine ⟨I2, M2, F, δ, _, Ed, hr2, (rs.mono s1).mono s2, q2, fun u M3 I3 H3 q3 s3 hr3 => ?_, (fx.mono s1).mono s2⟩
  exact hL I3 M3 F H3 v x l u Qd Q hr3 ((r1.mono s2).mono s3) q3 (fq.mono ((s1.trans s2).trans s3))
theorem SlR.or {r r' : V → Option Int → Option Int → Hp → VK → Prop} (h : SlR X r) (h' : SlR X r') : SlR X (fun x lo hi H Q => r x lo hi H Q ∨ r' x lo hi H Q) := by
  intro pins s σ H x v vl vu lo hi sl Q I rx hs pl pu z
  rcases z with z | z
  · exact h pins s σ H x v vl vu lo hi sl Q I rx hs pl pu z
  · exact h' pins s σ H x v vl vu lo hi sl Q I rx hs pl pu z
theorem d_sl4 {lo hi : Option Expr} {tl th : DTO} {p2 : Pos} (he : DE X W e te) (hl : DO X W lo tl) (hu : DO X W hi th) : DE X W (.Subscript e (.Slice lo hi none p2) pos) (dSlA dSl4 te tl th) := d_slA (SlR.or sl_list (SlR.or sl_str sl_tupA)) (fun I M F H v d lo hi Qd Q hr r q fq => by
  unfold dSl4 at q
  split at q
  · cases r with
    | @tup a vs ds s rr =>
      refine .inr (.inr ⟨a, vs, rfl, hr.st s, fun z => ?_, fun _ => fin_tup fq hr (rr.cut lo hi) q⟩)
      rw [cutD_all (by rw [← rr.len]; exact z)] at q
      exact fq _ M I H _ q (Same.refl I) hr (.tup s rr)
  · unfold dSl3 at q
    split at q
    · cases r
      exact .inr (.inl ⟨_, rfl, q.1, fq _ M I H _ q.2 (Same.refl _) hr (.str _)⟩)
    · obtain ⟨a, vs, ds, e1, sq, rr, q⟩ := asR_out hr r q
      exact .inl ⟨a, vs, e1, sq, fin_lst fq hr (rr.cut lo hi) q⟩) he hl hu
theorem d_sl4M {lo hi : Option Expr} {tl th : DTO} {p2 : Pos} (he : DE X W e te) (hl : DO X W lo tl) (hu : DO X W hi th) : DE X W (.Subscript e (.Slice lo hi none p2) pos) (dSlA dSl4M te tl th) := d_slA sl_list (fun I M F H v d lo hi Qd Q hr r q fq => by
  obtain ⟨a, vs, ds, e1, sq, rr, q⟩ := asR_out hr r q
  exact ⟨a, vs, e1, sq, fin_lstM fq hr (rr.cut lo hi) q⟩) he hl hu
def dIsi2 (u v : Ty) (te : DTE) : DTE := fun δ M Q E => te δ M (fun d M1 => tyD d M1 fun t => t ≠ .own ∧ Q (.bl (isT t u || isT t v)) M1) E
theorem kit_two (K : PySem.W.Frag) (t u v : Ty) (h : t ≠ .own) (hu : u ≠ .non) (hu2 : u ≠ .own) (hv : v ≠ .non) (hv2 : v ≠ .own) : PySem.W.kitAny K (.type t.nm) [.type u.nm, .type v.nm] = some (isT t u || isT t v) := by
  refine kitAny_cons (kit_all K t u h hu hu2) (fun e => ?_) (fun e => by rw [e]; rfl)
  refine kitAny_cons (kit_all K t v h hv hv2) (fun e2 => ?_) (fun e2 => by rw [e2, Bool.or_true])
  rw [e, e2]
  exact kitAny_nil
theorem d_isi2 (u v : Ty) {y z : Str} {p1 p2 p3 : Pos} {x1 : Nat} (hu : u ≠ .non) (hu2 : u ≠ .own) (hv : v ≠ .non) (hv2 : v ≠ .own) (hm : X.mg "isinstance" = none) (hmy : X.mg y = none) (hmz : X.mg z = none) (hy : bootBuiltins y = some (.type u.nm)) (hz : bootBuiltins z = some (.type v.nm)) (he : DE X W e te)
    (hs : starEach [e, .Tuple [.Name y p1, .Name z p2] x1 p3] X.env = (false, eval e X.env) :: starEach [.Tuple [.Name y p1, .Name z p2] x1 p3] X.env := by rfl) (hgy : Gl X y := by rfl) (hny : y ≠ "__name__" := by decide) (hdy : (y == ("__debug__" : Str)) = false := by decide) (hgz : Gl X z := by rfl) (hnz : z ≠ "__name__" := by decide) (hdz : (z == ("__debug__" : Str)) = false := by decide)
    (hs2 : starEach [.Tuple [.Name y p1, .Name z p2] x1 p3] X.env = (false, eval (.Tuple [.Name y p1, .Name z p2] x1 p3) X.env) :: starEach [] X.env := by rfl) (hs3 : starEach [.Name y p1, .Name z p2] X.env = (false, eval (.Name y p1) X.env) :: starEach [.Name z p2] X.env := by rfl) (hs4 : starEach [.Name z p2] X.env = (false, eval (.Name z p2) X.env) :: starEach [] X.env := by rfl)
    (hpl : (backTo pos (starEach [.Tuple [.Name y p1, .Name z p2] x1 p3] X.env)).any (·.1) = false := by rfl) (hg : Gl X "isinstance" := by rfl) : DE X W (.Call (.Name "isinstance" p) [e, .Tuple [.Name y p1, .Name z p2] x1 p3] [] pos) (dIsi2 u v te) := by
  refine pe_imp (pe_callB call_isiT hg hm (by decide +kernel) (pa_cons he (pa_cons (pe_tup (pa_cons (pe_bltn hgy hmy hy (v := .ty u.nm) rfl hny hdy) (pa_cons (pe_bltn hgz hmz hz (v := .ty v.nm) rfl hnz hdz) pa_nil hs4) hs3)) pa_nil hs2) hs) (by decide) (by decide) hs hpl) fun σ H Q h => ?_
  obtain ⟨I, M, F, δ, Qd, Ed, hr, rs, q, fq, fx⟩ := h
  refine ⟨I, M, F, δ, _, Ed, hr, rs, q, fun d M1 I1 H1 x q1 s1 hr1 r1 => ?_, fx⟩
  refine ⟨by show 2 ≤ sizeLine; decide, fun tp htp => ?_⟩
  have hr2 := hr1.bump htp (.tup [.ty u.nm, .ty v.nm])
  rcases tyD_out hr2 r1 q1 with ⟨t, ht, ty, q⟩ | ⟨_, _, _, _, _, _, _, _, _, q⟩
  · exact ⟨x, tp, _, _, _, _, rfl, upd_same, .cons (.ty _) (.cons (.ty _) .nil), ty, kit_two X.K t u v ht hu hu2 hv hv2, fq _ M1 I1 _ _ q.2 s1 hr2 (.bl _)⟩
  · exact absurd rfl q.1
end
def ends (Qd : DK) (Ed : DXK) : DEnds := { nx := fun _ M' => Qd .non M', rt := Qd, ex := fun c fo _ M' => Ed c fo M' }
theorem s_tryA {X : Cx} {W : WX} {body : List Stmt} {h0 : ExceptHandler} {hds : List ExceptHandler} {l : List DHd} {pos : Pos} {tb : DTS} {xm : Value → List Value → Option Bool} (hx : xm = PySem.W.exmAny X.K) (g : Good X W) (hb : ∀ (V : WX) (pn : List (Addr × Obj)) (xe : Value → Shared → Prop), Good (X.tr pn xe) V → DSs (X.tr pn xe) V body tb) (hh : DHds X (h0 :: hds) l)
    (hs : X.stack = X.env :: X.outer := by rfl) (hf : X.env.frame = some X.env.locals := by rfl) : DSt X W (.Try body (h0 :: hds) [] [] pos) (dTry xm l tb) := by
  subst hx
  exact s_try g hb hh hs hf
theorem exm_nil {K : PySem.W.Frag} {t : Value} : PySem.W.exmAny K t [] = some false := rfl
theorem exm_cons {K : PySem.W.Frag} {t c : Value} {cs : List Value} {a b : Bool} (h : PySem.W.exmOne K t c = some a) (hr : PySem.W.exmAny K t cs = some b) : PySem.W.exmAny K t (c :: cs) = some (a || b) := by
  unfold PySem.W.exmAny
  rw [h, hr]
theorem fc_nil {K : PySem.W.Frag} {f : Str} : ∀ C ∈ ([] : List Addr), Cls K C ∧ NoAttr K C f := fun _ z => nomatch z
theorem fc_cons {K : PySem.W.Frag} {f : Str} {C : Addr} {Cs : List Addr} (h1 : Cls K C) (h2 : NoAttr K C f) (r : ∀ C ∈ Cs, Cls K C ∧ NoAttr K C f) : ∀ D ∈ C :: Cs, Cls K D ∧ NoAttr K D f := fun D hD => by
  rcases List.mem_cons.mp hD with e | hD
  · subst e; exact ⟨h1, h2⟩
  · exact r D hD
end DL
namespace DL
open PySem L2
def spLaw : DSp := fun ds M Q _ => ∃ (ns : List Int), ds = [.sq (ns.map D.int)] ∧ ns.length ≤ 63 ∧ ∀ M', Q (.bl true) M'
theorem law_pr {K : PySem.W.Frag} {H : Hp} {a : Addr} {ns : List Int} (hl : ns.length ≤ 63) (hS : SqL K H a (ns.map V.int)) : lSp K spLaw [.ref a] H (fun v _ => v = .bl true) (fun _ _ _ => False) := by
  refine ⟨H, fun _ => none, fun _ => none, [.sq (ns.map D.int)], fun d _ => d = .bl true, fun _ _ _ => False, ⟨fun _ _ e => e, fun _ _ e => (nomatch e), fun _ _ e => (nomatch e), fun _ _ e => (nomatch e)⟩, .cons (.sq hS (rep_ints ns)) .nil, ⟨ns, rfl, hl, fun _ => rfl⟩, fun d M' I' H' v e _ _ r => ?_, fun _ _ _ _ _ _ z => z.elim⟩
  subst e
  cases r
  rfl
def Bag (M : Mp) (b : Addr) (n : Nat) : Prop := ∃ x y z : Int, M b = some (.lst [.int x, .int y, .int z]) ∧ 0 ≤ y ∧ y < 2147483629 ∧ 0 ≤ z ∧ z ≤ n
def But (b : Addr) (M M' : Mp) : Prop := ∀ a o, a ≠ b → M a = some o → M' a = some o
def spTake : DSp := fun ds M Q _ => ∃ (b : Addr) (w : Int) (n : Nat), ds = [.ref b, .int w] ∧ Bag M b n ∧ n < 1000000 ∧ 0 < w ∧ w ≤ 10 ^ 30 ∧ ∀ M' d, But b M M' → Bag M' b (n + 1) → 0 ≤ d → d < w → Q (.int d) M'
def spBag : DSp := fun ds M Q _ => ∃ (c : Int), ds = [.int c] ∧ ∀ b M', M b = none → But b M M' → Bag M' b 0 → Q (.ref b) M'
def spCell : DSp := fun ds M Q _ => ∃ (ns : List Int) (k : Int), ds = [.sq (ns.map D.int), .int k] ∧ 0 ≤ k ∧ k < 100 ∧ ns.length ≤ 63 ∧ ∀ i, Q (.int i) M
theorem len_spTake : ∀ ds M Q E, spTake ds M Q E → ds.length = 2 := fun _ _ _ _ h => by obtain ⟨_, _, _, rfl, _⟩ := h; rfl
theorem len_spBag : ∀ ds M Q E, spBag ds M Q E → ds.length = 1 := fun _ _ _ _ h => by obtain ⟨_, rfl, _⟩ := h; rfl
theorem len_spCell : ∀ ds M Q E, spCell ds M Q E → ds.length = 2 := fun _ _ _ _ h => by obtain ⟨_, _, rfl, _⟩ := h; rfl
theorem len_spLaw : ∀ ds M Q E, spLaw ds M Q E → ds.length = 1 := fun _ _ _ _ h => by obtain ⟨_, rfl, _⟩ := h; rfl
abbrev sg1 (c : Nat) : Str := ⟨#[c]⟩
theorem But.refl (b : Addr) (M : Mp) : But b M M := fun _ _ _ e => e
theorem But.trans {b : Addr} {M M1 M2 : Mp} (h : But b M M1) (k : But b M1 M2) : But b M M2 := fun a o n e => k a o n (h a o n e)
theorem Bag.mono {M : Mp} {b : Addr} {n m : Nat} (h : Bag M b n) (l : n ≤ m) : Bag M b m := by
  obtain ⟨x, y, z, a, b, c, d, e⟩ := h
  exact ⟨x, y, z, a, b, c, d, by omega⟩
theorem at_some {α : Type} {xs : List α} {i : Int} (h0 : 0 ≤ i) (h1 : i < xs.length) : ∃ d, atI xs i = some d ∧ d ∈ xs := by
  obtain ⟨j, rfl⟩ := Int.eq_ofNat_of_zero_le h0
  have hj : j < xs.length := by omega
  exact ⟨xs[j], atI_nat (List.getElem?_eq_getElem hj), List.getElem_mem hj⟩
theorem cut_map {ns : List Int} {lo hi : Option Int} : ∃ ms : List Int, cutD (ns.map D.int) lo hi = ms.map D.int := by
  unfold cutD
  exact ⟨_, by rw [← List.map_drop, ← List.map_take]⟩
theorem cdiv {i w : Int} (h0 : 0 < w) (h1 : w ≤ 10 ^ 30) : CDivW i w := wide_div (b := 100) h0 (by
  have e : w.natAbs ≤ 10 ^ 30 := by omega
  exact Nat.lt_of_le_of_lt e (by decide)) (by decide) (by decide)
theorem cpow {i : Int} {k : Int} (h0 : 0 ≤ i) (h1 : i < 2 ^ 60) (h2 : 0 ≤ k) (h3 : k ≤ 10) : CPow i k := ⟨h2, by omega, by omega⟩
theorem cmul {i j : Int} (h0 : 0 ≤ i) (h1 : i < 2 ^ 30) (h2 : -(2 ^ 120) < j) (h3 : j < 2 ^ 120) : CMulW i j := wide_mul (a := 30) (b := 120) (by omega) (by omega) (by decide) (by decide) (by decide)
theorem Bag.upd {M : Mp} {b r : Addr} {n : Nat} {o : MO} (h : Bag M b n) (ne : b ≠ r) : Bag (updM M r o) b n := by
  obtain ⟨x, y, z, a, t⟩ := h
  exact ⟨x, y, z, by rw [updM_ne ne]; exact a, t⟩
theorem But.new {b r : Addr} {M : Mp} {o : MO} (h : M r = none) : But b M (updM M r o) := fun a u _ e => by
  rw [updM_ne (fun z => by rw [z, h] at e; cases e)]; exact e
theorem Bag.at {M : Mp} {b r : Addr} {n : Nat} (h : Bag M b n) (hr : M r = none) : b ≠ r := fun z => by
  obtain ⟨x, y, w, a, t⟩ := h
  rw [z, hr] at a
  cases a
theorem ix_nn {n : Nat} {i : Int} (h0 : 0 ≤ i) (h1 : i < n) : ixN n i = some i.toNat := by
  unfold ixN
  rw [if_pos h0, if_pos h1]
theorem num_log {i : Int} (h0 : -(10 ^ 30) ≤ i) (h1 : i ≤ 10 ^ 30) : i.natAbs.log2 < 1920 := by
  have h : i.natAbs < 2 ^ 1920 := Nat.lt_of_le_of_lt (by omega : i.natAbs ≤ 10 ^ 30) (by decide +kernel)
  by_cases z : i.natAbs = 0
  · rw [z]; decide
  · exact (Nat.log2_lt z).mpr h
def Ok (s : Str) : Prop := ∀ c ∈ s.cps.toList, c < 0x110000
def letters : Str := "abcdefghijklmnopqrstuvwxyz"
def okM : MO → Prop
  | .lst _ => True | .dct _ => True | .exc _ _ => True | _ => False
def Th (M : Mp) : D → Prop
  | .non => True | .bl _ => True | .int _ => True | .str s => s.length ≤ 100000 ∧ Ok s | .lst _ => True | .tup _ => True | .dct _ => True
  | .ref a => ∃ m, M a = some m ∧ okM m
  | _ => False
def wholeD (d : D) (l h : Int) : Bool := match d with | .int i => decide (l ≤ i) && decide (i ≤ h) | _ => false
def nameD (d : D) : Bool := match d with | .str s => decide (1 ≤ s.length) && decide (s.length ≤ 8) && s.cps.toList.all (fun c => decide (c ∈ letters.cps.toList)) | _ => false
def spW : DSp := fun ds M Q _ => ∃ (d : D) (l h : Int), ds = [d, .int l, .int h] ∧ Th M d ∧ Q (.bl (wholeD d l h)) M
def spN : DSp := fun ds M Q _ => ∃ (d : D), ds = [d] ∧ Th M d ∧ Q (.bl (nameD d)) M
theorem len_spW : ∀ ds M Q E, spW ds M Q E → ds.length = 3 := fun _ _ _ _ h => by obtain ⟨_, _, _, rfl, _⟩ := h; rfl
theorem len_spN : ∀ ds M Q E, spN ds M Q E → ds.length = 1 := fun _ _ _ _ h => by obtain ⟨_, rfl, _⟩ := h; rfl
def rIsName : DTS := dRet (dAndV (dIsi .str (dVar 0)) (dAndV (dChain dLe dLe (dC (.int 1)) (dCB dLen (dCn (dVar 0) (dNil))) (dC (.int 8))) (dCB dAll (dCn (dLc (iS (dVar 0)) (.one 1) dYes (dOp dInS (dVar 1) (dC (.str letters))) [1]) (dNil)))))
def rIsWhole : DTS := dRet (dAndV (dIsi .int (dVar 0)) (dAndV (dNotV (dIsi .bl (dVar 0))) (dChain dLe dLe (dVar 1) (dVar 0) (dVar 2))))
theorem join_len : ∀ cs : List Nat, (Txt.join "" (cs.map sg1)).length = cs.length := by
  intro cs
  rw [TL.join_eq]
  induction cs with
  | nil => rfl
  | cons c r ih =>
    cases r with
    | nil => rfl
    | cons d r =>
      show (sg1 c ++ ("" : Str) ++ Str.join "" ((d :: r).map sg1)).length = _
      rw [Str.length_append, Str.length_append, ih]
      show 1 + 0 + (d :: r).length = (c :: d :: r).length
      simp only [List.length_cons]
      omega
theorem sum_len : ∀ cs : List Nat, ((cs.map sg1).map (·.length)).sum = cs.length
  | [] => rfl
  | c :: r => by
    show 1 + ((r.map sg1).map (·.length)).sum = _
    rw [sum_len r, List.length_cons]
    omega
theorem join_cps : ∀ cs : List Nat, (Txt.join "" (cs.map sg1)).cps.toList = cs := by
  intro cs
  rw [TL.join_eq]
  have h := TL.tl_join "" (cs.map sg1)
  refine Eq.trans h ?_
  induction cs with
  | nil => rfl
  | cons c r ih =>
    cases r with
    | nil => rfl
    | cons d r =>
      have h2 := TL.tl_join "" ((d :: r).map sg1)
      show [c] ++ ([] ++ TL.joinL [] (((d :: r).map sg1).map TL.tl)) = _
      rw [List.nil_append]
      show c :: TL.joinL [] (((d :: r).map sg1).map TL.tl) = _
      rw [show TL.joinL [] (((d :: r).map sg1).map TL.tl) = d :: r from ih h2]
theorem letters_ok : ∀ c ∈ letters.cps.toList, c < 0x110000 := by decide +kernel
theorem ok_of (t : String) : Ok (Str.ofString t) := by
  intro c hc
  rw [Str.ofString_eq_toList] at hc
  have hc : c ∈ (t.toList.map Char.toNat) := by simpa using hc
  obtain ⟨ch, _, rfl⟩ := List.mem_map.mp hc
  have h : ch.toNat.isValidChar := ch.valid
  rcases h with h | ⟨_, h⟩ <;> omega
theorem comp_in {δ0 : Option D} {k : List D → Mp → Prop} {M : Mp} : ∀ (cs : List Nat) (bs : List Bool), bs.length + cs.length ≤ 5000 → k ((bs ++ cs.map fun c => decide (c ∈ letters.cps.toList)).map D.bl) M →
    dComp (.one 1) dYes (dOp dInS (dVar 1) (dC (.str letters))) .data [1] [δ0, none] k (cs.map fun c => D.str (sg1 c)) (bs.map D.bl) M
  | [], bs, hl, q => by
    refine ⟨?_, ?_⟩
    · rw [List.length_map]; exact Nat.le_trans hl (by decide)
    · rw [List.map_nil, List.append_nil] at q; exact q
  | c :: r, bs, hl, q => by
    simp only [List.length_cons] at hl
    refine ⟨_, rfl, c, rfl, ?_⟩
    have e : (bs.map D.bl) ++ [D.bl (decide (c ∈ letters.cps.toList))] = (bs ++ [decide (c ∈ letters.cps.toList)]).map D.bl := by rw [List.map_append]; rfl
    show dComp _ _ _ _ _ _ _ (r.map fun c => D.str (sg1 c)) ((bs.map D.bl) ++ [D.bl (decide (c ∈ letters.cps.toList))]) M
    rw [e]
    refine comp_in r _ (by rw [List.length_append, List.length_singleton]; omega) ?_
    rw [List.append_assoc]
    exact q
theorem sl_of {s : Str} (h : s.length ≤ 100000) : s.length ≤ sizeLine := Nat.le_trans h (by decide)
theorem cl_of {s : Str} (h : s.length ≤ 100000) : s.cps.toList.length ≤ 100000 := by simpa [Str.length] using h
theorem is_whole_ok : ∀ ds M Qd Ed, spW ds M Qd Ed → rIsWhole (ends Qd Ed) (dstart ["thing", "low", "high"] ds) M := by
  intro ds M Qd Ed h
  obtain ⟨d, l, h, rfl, th, q⟩ := h
  cases d with
  | non => exact ⟨_, rfl, q⟩
  | bl b => exact ⟨_, rfl, _, rfl, q⟩
  | int i =>
    refine ⟨_, rfl, _, rfl, _, rfl, _, rfl, ?_⟩
    refine br2 (fun e => ?_) (fun e => ?_)
    · refine ⟨_, rfl, ?_⟩
      have e2 : wholeD (.int i) l h = decide (i ≤ h) := by simp [wholeD, of_decide_eq_true e]
      rw [e2] at q
      exact q
    · have e2 : wholeD (.int i) l h = false := by simp [wholeD, of_decide_eq_false e]
      rw [e2] at q
      exact q
  | str s => exact ⟨_, rfl, q⟩
  | lst s => exact ⟨_, rfl, q⟩
  | tup s => exact ⟨_, rfl, q⟩
  | dct s => exact ⟨_, rfl, q⟩
  | ref a =>
    obtain ⟨m, e, th⟩ := th
    cases m <;> first | exact th.elim | exact ⟨_, rfl, _, e, q⟩
  | sq s => exact th.elim
  | ty n => exact th.elim
  | ins C fs => exact th.elim
theorem is_name_ok : ∀ ds M Qd Ed, spN ds M Qd Ed → rIsName (ends Qd Ed) (dstart ["thing", "sign"] ds) M := by
  intro ds M Qd Ed h
  obtain ⟨d, rfl, th, q⟩ := h
  cases d with
  | str s =>
    have hs := cl_of th.1
    refine ⟨_, rfl, _, rfl, sl_of th.1, ?_⟩
    refine br2 (fun e => ?_) (fun e => ?_)
    · have e := of_decide_eq_true e
      refine br2 (fun e2 => ?_) (fun e2 => ?_)
      · have e2 := of_decide_eq_true e2
        refine ⟨_, rfl, ?_, ?_⟩
        · show (sgn s).length < sizeLine
          unfold sgn
          rw [List.length_map]
          exact Nat.lt_of_le_of_lt hs (by decide)
        · refine comp_in s.cps.toList [] (by rw [List.length_nil, show s.cps.toList.length = s.length by simp [Str.length]]; omega) ⟨_, rfl, ?_⟩
          have e3 : nameD (.str s) = (([] ++ s.cps.toList.map fun c => decide (c ∈ letters.cps.toList)).all id) := by
            dsimp only [nameD]
            rw [List.nil_append, List.all_map, decide_eq_true (by omega : 1 ≤ s.length), decide_eq_true (by omega : s.length ≤ 8)]
            rfl
          rw [e3] at q
          exact q
      · have e2 := of_decide_eq_false e2
        have e3 : nameD (.str s) = false := by
          dsimp only [nameD]
          rw [decide_eq_false (by omega : ¬ s.length ≤ 8), Bool.and_false, Bool.false_and]
        rw [e3] at q
        exact q
    · have e := of_decide_eq_false e
      have e3 : nameD (.str s) = false := by
        dsimp only [nameD]
        rw [decide_eq_false (by omega : ¬ 1 ≤ s.length), Bool.false_and, Bool.false_and]
      rw [e3] at q
      exact q
  | non => exact ⟨_, rfl, q⟩
  | bl b => exact ⟨_, rfl, q⟩
  | int i => exact ⟨_, rfl, q⟩
  | lst s => exact ⟨_, rfl, q⟩
  | tup s => exact ⟨_, rfl, q⟩
  | dct s => exact ⟨_, rfl, q⟩
  | ref a =>
    obtain ⟨m, e, th⟩ := th
    cases m <;> first | exact th.elim | exact ⟨_, rfl, _, e, q⟩
  | sq s => exact th.elim
  | ty n => exact th.elim
  | ins C fs => exact th.elim
def rBag : DTS := dRet (dLstM (dCn (dCB dMax (dCn (dC (.int 0)) (dCn (dOp dSub (dVar 0) (dOp dPow (dC (.int 10)) (dC (.int 18)))) (dNil)))) (dCn (dOp dMod (dVar 0) (dC (.int 2147483629))) (dCn (dC (.int 0)) (dNil)))))
theorem bag_ok : ∀ ds M Qd Ed, spBag ds M Qd Ed → rBag (ends Qd Ed) (dstart ["_law_cell_here"] ds) M := by
  intro ds M Qd Ed h
  obtain ⟨c, rfl, q⟩ := h
  refine ⟨_, rfl, ⟨by decide, by decide, by decide⟩, _, rfl, (by show (0 : Int) < 2147483629; decide), (by show 3 ≤ sizeLine; decide), fun p hp => ?_⟩
  refine q p _ hp (fun a o ne e => by rw [updM_ne ne]; exact e) ⟨_, _, _, updM_same, ?_, ?_, by decide, by decide⟩
  · exact Int.emod_nonneg _ (by decide)
  · exact Int.emod_lt_of_pos _ (by decide)
def rCell (x y : Int) : DTS := dSeq (dIf (dTest (dOp dLt (dVar 1) (dCB dLen (dCn (dVar 0) (dNil))))) (dRet (dOp dIx (dVar 0) (dVar 1))) (dNext))
  (dRet (dOp dAdd2 (dOp dAdd2 (dOp dMul (dC (.int x)) (dVar 1)) (dC (.int y))) (dOp dMod (dCB dSum (dCn (dSlA dSl4 (dVar 0) (oNone) (oSome (dC (.int 1)))) (dNil))) (dC (.int 1000003)))))
theorem cell_ok (x y : Int) (hx : 0 ≤ x) (hx1 : x < 2 ^ 30) : ∀ ds M Qd Ed, spCell ds M Qd Ed → rCell x y (ends Qd Ed) (dstart ["_law_script", "_law_k"] ds) M := by
  intro ds M Qd Ed h
  obtain ⟨ns, k, rfl, k0, k1, hl, q⟩ := h
  refine ⟨_, rfl, _, rfl, ?_⟩
  refine br2 (fun e => ?_) (fun e => ?_)
  · have e := of_decide_eq_true e
    obtain ⟨d, h1, h2⟩ := at_some k0 e
    obtain ⟨i, _, rfl⟩ := List.mem_map.mp h2
    exact ⟨_, rfl, _, rfl, _, h1, q i⟩
  · refine ⟨_, rfl, cmul hx hx1 (by omega) (by omega), _, rfl, ?_⟩
    obtain ⟨ms, hm⟩ := cut_map (ns := ns) (lo := none) (hi := some 1)
    exact ⟨ms, hm, (by show (0 : Int) < 1000003; decide), q _⟩
def rTake (x y z : Int) : DTS := dSeq (dIf (dTest (dOp dGt (dOp dIx (dVar 0) (dC (.int 0))) (dC (.int 0)))) (dSeq (dAsg (dOp dMod (dOp dIx (dVar 0) (dC (.int 0))) (dVar 1)) (gdName 2))
  (dSeq (dAsg (dOp dDiv (dOp dIx (dVar 0) (dC (.int 0))) (dVar 1)) (gdSubL (dVar 0) (dC (.int 0))))
  (dRet (dVar 2)))) (dNext))
  (dSeq (dAsg (dOp dAdd2 (dOp dIx (dVar 0) (dC (.int 2))) (dC (.int 1))) (gdSubL (dVar 0) (dC (.int 2))))
  (dSeq (dAsg (dOp dMod (dOp dPow (dOp dAdd2 (dOp dAdd2 (dOp dIx (dVar 0) (dC (.int 1))) (dOp dMul (dC (.int x)) (dOp dIx (dVar 0) (dC (.int 2))))) (dC (.int y))) (dC (.int 5))) (dC (.int 2147483647))) (gdName 3))
  (dSeq (dAsg (dOp dMod (dOp dPow (dOp dAdd2 (dVar 3) (dOp dMul (dC (.int z)) (dOp dIx (dVar 0) (dC (.int 2))))) (dC (.int 3))) (dC (.int 2147483587))) (gdName 3))
  (dRet (dOp dMod (dOp dDiv (dVar 3) (dC (.int 16))) (dVar 1))))))
theorem mul_bd {x z : Int} {n : Nat} (hx : 0 ≤ x) (hx1 : x < 2 ^ 30) (z0 : 0 ≤ z) (z1 : z ≤ 2 ^ 20) : 0 ≤ x * z ∧ x * z < 2 ^ 51 := by
  refine ⟨Int.mul_nonneg hx z0, ?_⟩
  have h1 : x * z ≤ 2 ^ 30 * z := Int.mul_le_mul_of_nonneg_right (by omega) z0
  omega
theorem take_ok (x y z : Int) (hx : 0 ≤ x) (hx1 : x < 2 ^ 30) (hy : 0 ≤ y) (hy1 : y < 2 ^ 30) (hz : 0 ≤ z) (hz1 : z < 2 ^ 30) : ∀ ds M Qd Ed, spTake ds M Qd Ed → rTake x y z (ends Qd Ed) (dstart ["_law_bag_here", "_law_below", "_law_digit", "_law_number"] ds) M := by
  intro ds M Qd Ed h
  obtain ⟨b, w, n, rfl, ⟨x0, y0, z0, hb, y00, y01, z00, z01⟩, hn, w0, w1, q⟩ := h
  refine ⟨_, rfl, _, hb, _, rfl, ?_⟩
  refine br2 (fun e => ?_) (fun e => ?_)
  · refine ⟨_, rfl, _, hb, _, rfl, _, rfl, w0, ?_⟩
    refine ⟨_, rfl, _, hb, _, rfl, _, rfl, cdiv w0 w1, ?_⟩
    refine ⟨_, rfl, _, hb, _, rfl, _, rfl, ?_⟩
    exact q _ _ (fun a o ne e => by rw [updM_ne ne]; exact e) ⟨_, _, _, updM_same, y00, y01, z00, by omega⟩ (Int.emod_nonneg _ (by omega)) (Int.emod_lt_of_pos _ w0)
  · refine ⟨_, rfl, _, hb, _, rfl, ?_⟩
    refine ⟨_, rfl, _, hb, _, rfl, ?_⟩
    have hb2 : updM M b (.lst [.int x0, .int y0, .int (z0 + 1)]) b = some (.lst [.int x0, .int y0, .int (z0 + 1)]) := updM_same
    have m1 := mul_bd (n := 0) hx hx1 (by omega : 0 ≤ z0 + 1) (by omega)
    have m2 := mul_bd (n := 0) hz hz1 (by omega : 0 ≤ z0 + 1) (by omega)
    refine ⟨_, rfl, _, hb2, _, rfl, _, rfl, _, hb2, _, rfl, cmul hx hx1 (by omega) (by omega), ?_⟩
    refine ⟨cpow (by omega) (by omega) (by decide) (by decide), (by show (0 : Int) < 2147483647; decide), ?_⟩
    have r1 : ∀ t : Int, 0 ≤ t % 2147483647 ∧ t % 2147483647 < 2147483647 := fun t => ⟨Int.emod_nonneg _ (by decide), Int.emod_lt_of_pos _ (by decide)⟩
    generalize hm : (y0 + x * (z0 + 1) + y) ^ (5 : Int).toNat % 2147483647 = m
    have hm2 : 0 ≤ m ∧ m < 2147483647 := by rw [← hm]; exact r1 _
    refine ⟨_, rfl, _, rfl, _, hb2, _, rfl, cmul hz hz1 (by omega) (by omega), ?_⟩
    refine ⟨cpow (by omega) (by omega) (by decide) (by decide), (by show (0 : Int) < 2147483587; decide), ?_⟩
    refine ⟨_, rfl, cdiv (by decide) (by decide), _, rfl, w0, ?_⟩
    exact q _ _ (fun a o ne e => by rw [updM_ne ne]; exact e) ⟨_, _, _, updM_same, y00, y01, by omega, by omega⟩ (Int.emod_nonneg _ (by omega)) (Int.emod_lt_of_pos _ w0)
theorem str_len (s : Str) : s.length = s.cps.toList.length := by simp [Str.length]
theorem str_app (s t : Str) : (s ++ t).cps.toList = s.cps.toList ++ t.cps.toList := TL.tl_append s t
theorem cut_to {z : Str} {a : Int} (h : 0 ≤ a) : (cutS z none (some a)).cps.toList = z.cps.toList.take a.toNat := by
  obtain ⟨k, rfl⟩ := Int.eq_ofNat_of_zero_le h
  have e : (cutS z none (some (k : Int))).cps.toList = (z.cps.toList.drop (HT.sIx z.length 0 none)).take (HT.sIx z.length z.length (some (k : Int)) - HT.sIx z.length 0 none) := by simp [cutS]
  rw [e, HT.sIx_nat, HT.sIx_none, List.drop_zero, Nat.sub_zero, str_len]
  rw [List.take_eq_take_iff]
  omega
theorem cut_from {z : Str} {a : Int} (h : 0 ≤ a) : (cutS z (some a) none).cps.toList = z.cps.toList.drop a.toNat := by
  obtain ⟨k, rfl⟩ := Int.eq_ofNat_of_zero_le h
  have e : (cutS z (some (k : Int)) none).cps.toList = (z.cps.toList.drop (HT.sIx z.length 0 (some (k : Int)))).take (HT.sIx z.length z.length none - HT.sIx z.length 0 (some (k : Int))) := by simp [cutS]
  rw [e, HT.sIx_nat, HT.sIx_none, str_len]
  show _ = z.cps.toList.drop k
  by_cases hk : k ≤ z.cps.toList.length
  · rw [Nat.min_eq_left hk]
    rw [List.take_of_length_le (by rw [List.length_drop]; exact Nat.le_refl _)]
  · rw [Nat.min_eq_right (by omega), List.drop_eq_nil_of_le (Nat.le_refl _), List.drop_eq_nil_of_le (by omega), List.take_nil]
def Lt (s : Str) : Prop := ∀ c ∈ s.cps.toList, c ∈ letters.cps.toList
def Nm (s : Str) : Prop := 1 ≤ s.length ∧ s.length ≤ 8 ∧ Lt s
theorem Nm.name {s : Str} (h : Nm s) : nameD (.str s) = true := by
  obtain ⟨a, b, c⟩ := h
  show (decide (1 ≤ s.length) && decide (s.length ≤ 8) && s.cps.toList.all (fun c => decide (c ∈ letters.cps.toList))) = true
  rw [decide_eq_true a, decide_eq_true b, Bool.true_and, Bool.true_and, List.all_eq_true]
  exact fun x hx => decide_eq_true (c x hx)
theorem Lt.ok {s : Str} (h : Lt s) : Ok s := fun c hc => letters_ok c (h c hc)
theorem Nm.th {s : Str} (h : Nm s) {M : Mp} : Th M (.str s) := ⟨by have := h.2.1; omega, h.2.2.ok⟩
theorem Lt.to {s : Str} (h : Lt s) {a : Int} (ha : 0 ≤ a) : Lt (cutS s none (some a)) := fun c hc => by rw [cut_to ha] at hc; exact h c (List.mem_of_mem_take hc)
theorem Lt.from {s : Str} (h : Lt s) {a : Int} (ha : 0 ≤ a) : Lt (cutS s (some a) none) := fun c hc => by rw [cut_from ha] at hc; exact h c (List.mem_of_mem_drop hc)
theorem Lt.app {s t : Str} (h : Lt s) (k : Lt t) : Lt (s ++ t) := fun c hc => by rw [str_app] at hc; exact (List.mem_append.mp hc).elim (h c) (k c)
theorem Lt.one {c : Nat} (h : c ∈ letters.cps.toList) : Lt (sg1 c) := fun x hx => by
  have : x = c := by simpa using hx
  rw [this]; exact h
theorem to_len {s : Str} {a : Int} (ha : 0 ≤ a) : (cutS s none (some a)).length = min a.toNat s.length := by rw [str_len, cut_to ha, List.length_take, str_len]
theorem from_len {s : Str} {a : Int} (ha : 0 ≤ a) : (cutS s (some a) none).length = s.length - a.toNat := by rw [str_len, cut_from ha, List.length_drop, str_len]
theorem big_line {m : Nat} (h : m ≤ 10000) : m ≤ sizeLine := Nat.le_trans h (by decide)
theorem letters_len : letters.cps.toList.length = 26 := by decide +kernel
theorem letters_size : letters.length ≤ sizeLine := by decide +kernel
theorem comp_draw {b : Addr} {i j : Nat} {δ : DS} {k : List D → Mp → Prop} (h0 : (dwipe δ [i])[0]? = some (some (.ref b))) (hj : (dwipe δ [i])[j]? = some (some (.str letters))) (hi0 : i ≠ 0) (hij : i ≠ j) : ∀ (xs : List D) (cs : List Nat) (M : Mp) (n : Nat), Bag M b n → n + xs.length < 950000 → (∀ c ∈ cs, c ∈ letters.cps.toList) → cs.length + xs.length ≤ 100 →
    (∀ M' (cs' : List Nat), But b M M' → Bag M' b (n + xs.length) → cs'.length = cs.length + xs.length → (∀ c ∈ cs', c ∈ letters.cps.toList) → k (cs'.map fun c => D.str (sg1 c)) M') →
    dComp (.one i) dYes (dOp dIx (dVar j) (dCall spTake (dCn (dVar 0) (dCn (dC (.int 26)) dNil)))) .data [i] δ k xs (cs.map fun c => D.str (sg1 c)) M
  | [], cs, M, n, hb, hn, hc, hl, q => by
    refine ⟨?_, q M cs (But.refl b M) hb rfl hc⟩
    rw [List.length_map]
    exact big_line (by simp only [List.length_nil] at hl; omega)
  | x :: r, cs, M, n, hb, hn, hc, hl, q => by
    simp only [List.length_cons] at hn hl q
    have g0 : ((dwipe δ [i]).set i (some x))[0]? = some (some (.ref b)) := by rw [List.getElem?_set_ne hi0]; exact h0
    have gj : ((dwipe δ [i]).set i (some x))[j]? = some (some (.str letters)) := by rw [List.getElem?_set_ne hij]; exact hj
    refine ⟨_, gj, _, g0, b, 26, n, rfl, hb, by omega, by decide, by decide, fun M1 d s1 hb1 d0 d26 => ?_⟩
    obtain ⟨c, h1, h2⟩ := at_some (xs := letters.cps.toList) d0 (by rw [letters_len]; exact d26)
    refine ⟨letters_size, c, h1, ?_⟩
    have e : (cs.map fun c => D.str (sg1 c)) ++ [D.str (sg1 c)] = (cs ++ [c]).map fun c => D.str (sg1 c) := by rw [List.map_append]; rfl
    show dComp _ _ _ _ _ _ _ r ((cs.map fun c => D.str (sg1 c)) ++ [D.str (sg1 c)]) M1
    rw [e]
    refine comp_draw h0 hj hi0 hij r (cs ++ [c]) M1 (n + 1) hb1 (by omega) (fun y hy => ?_) (by rw [List.length_append, List.length_singleton]; omega) fun M' cs' t1 t2 t3 t4 => ?_
    · rcases List.mem_append.mp hy with hy | hy
      · exact hc y hy
      · rw [List.mem_singleton.mp hy]; exact h2
    · refine q M' cs' (s1.trans t1) (t2.mono (by omega)) ?_ t4
      rw [t3, List.length_append, List.length_singleton]
      omega
theorem comp_rec {i : Nat} {te : DTE} {δ : DS} {k : List D → Mp → Prop} (J : List D → List D → Mp → Prop) (fin : ∀ acc M, J [] acc M → acc.length ≤ sizeLine ∧ k acc M)
    (step : ∀ x r acc M (R : DK), J (x :: r) acc M → (∀ y M', J r (acc ++ [y]) M' → R y M') → te ((dwipe δ [i]).set i (some x)) M R E0d) : ∀ xs acc M, J xs acc M → dComp (.one i) dYes te .data [i] δ k xs acc M
  | [], acc, M, j => fin acc M j
  | x :: r, acc, M, j => step x r acc M _ j fun y M' j' => comp_rec J fin step r (acc ++ [y]) M' j'
theorem rng_len (lo : Int) (n : Nat) : (rngD lo n).length = n := by simp [rngD]
theorem rng_mem {lo : Int} {n : Nat} {d : D} (h : d ∈ rngD lo n) : ∃ k : Int, d = .int k ∧ lo ≤ k ∧ k < lo + n := by
  obtain ⟨i, hi, rfl⟩ := List.mem_map.mp h
  have := List.mem_range.mp hi
  exact ⟨_, rfl, by omega, by omega⟩
theorem map_snoc {α : Type} (f : α → D) (xs : List α) (x : α) : xs.map f ++ [f x] = (xs ++ [x]).map f := by rw [List.map_append]; rfl
def rNamesA : DTS :=
  dSeq (dAsg (dC (.str letters)) (gdName 2))
  (dSeq (dAsg (dCall spTake (dCn (dVar 0) (dCn (dC (.int 3)) (dNil)))) (gdName 3))
  (dSeq (dAsg (dCall spTake (dCn (dVar 0) (dCn (dC (.int 26)) (dNil)))) (gdName 4))
  (dSeq (dAsg (dOp dIx (dLst (dCn (dC (.int 1)) (dCn (dC (.int 5)) (dCn (dC (.int 7)) (dCn (dC (.int 11)) (dNil)))))) (dCall spTake (dCn (dVar 0) (dCn (dC (.int 4)) (dNil))))) (gdName 5))
  (dSeq (dAsg (dJoin (dC (.str "")) (dLc (iR1 (dCn (dC (.int 7)) (dNil))) (.one 10) dYes (dOp dIx (dVar 2) (dCall spTake (dCn (dVar 0) (dCn (dC (.int 26)) (dNil))))) [10])) (gdName 6))
  (dSeq (dAsg (dCall spTake (dCn (dVar 0) (dCn (dC (.int 8)) (dNil)))) (gdName 7))
  (dSeq (dIf (dTest (dOp dEq (dVar 3) (dC (.int 0)))) (dRet (dLc (iR1 (dCn (dVar 1) (dNil))) (.one 10) dYes (dOp dAdd2 (dOp dIx (dVar 2) (dVar 4)) (dSlA dSl4 (dVar 6) (oNone) (oSome (dOp dMod (dOp dAdd2 (dVar 7) (dOp dMul (dC (.int 3)) (dVar 10))) (dC (.int 8)))))) [10])) (dNext))
  (dSeq (dAsg (dSlA dSl4 (dVar 6) (oNone) (oSome (dCall spTake (dCn (dVar 0) (dCn (dC (.int 8)) (dNil)))))) (gdName 6))
  (dSeq (dAsg (dTup (dCn (dSlA dSl4 (dVar 6) (oNone) (oSome (dVar 7))) (dCn (dSlA dSl4 (dVar 6) (oSome (dVar 7)) (oNone)) (dNil)))) (gdTup 2 (gdNames [8, 9])))
  (dRet (dLc (iR1 (dCn (dVar 1) (dNil))) (.one 10) dYes (dOp dAdd2 (dOp dAdd2 (dVar 8) (dOp dIx (dVar 2) (dOp dMod (dOp dAdd2 (dVar 4) (dOp dMul (dVar 5) (dVar 10))) (dC (.int 26))))) (dVar 9)) [10]))))))))))
theorem sg_len (c : Nat) : (sg1 c).length = 1 := rfl
theorem letter_at {i : Int} (h0 : 0 ≤ i) (h1 : i < 26) : ∃ c, atI letters.cps.toList i = some c ∧ c ∈ letters.cps.toList := at_some h0 (by rw [letters_len]; exact h1)
def Ext (M M' : Mp) : Prop := ∀ a o, M a = some o → M' a = some o
theorem Ext.refl (M : Mp) : Ext M M := fun _ _ e => e
theorem Ext.trans {M M1 M2 : Mp} (h : Ext M M1) (k : Ext M1 M2) : Ext M M2 := fun a o e => k a o (h a o e)
theorem Ext.new {M : Mp} {p : Addr} {o : MO} (h : M p = none) : Ext M (updM M p o) := fun a u e => by
  rw [updM_ne (fun z => by rw [z, h] at e; cases e)]; exact e
theorem Ext.del {M M1 : Mp} {p : Addr} (h : M p = none) (k : Ext M M1) : Ext M (delM M1 p) := fun a u e => by
  rw [delM_ne (fun z => by rw [z, h] at e; cases e)]; exact k a u e
mutual
theorem ShOf.ext {M M' : Mp} (h : Ext M M') : ∀ {d : D} {t : Sh}, ShOf M d t → ShOf M' d t
  | _, _, .non => .non
  | _, _, .bl b => .bl b
  | _, _, .int l => .int l
  | _, _, .str l => .str l
  | _, _, .lst s => .lst (ShOfs.ext h s)
  | _, _, .sq s => .sq (ShOfs.ext h s)
  | _, _, .tup s => .tup (ShOfs.ext h s)
  | _, _, .dct a b => .dct (ShOfs.ext h a) (ShOfs.ext h b)
  | _, _, .lstM e s => .lstM (h _ _ e) (ShOfs.ext h s)
  | _, _, .dctM e a b => .dctM (h _ _ e) (ShOfs.ext h a) (ShOfs.ext h b)
theorem ShOfs.ext {M M' : Mp} (h : Ext M M') : ∀ {ds : List D} {ts : List Sh}, ShOfs M ds ts → ShOfs M' ds ts
  | _, _, .nil => .nil
  | _, _, .cons a b => .cons (ShOf.ext h a) (ShOfs.ext h b)
end
def Shw (M : Mp) (d : D) (n c : Nat) : Prop := ∃ t, ShOf M d t ∧ t.dep ≤ n ∧ t.w ≤ c
theorem Shw.mono {M : Mp} {d : D} {n m c e : Nat} (h : Shw M d n c) (h1 : n ≤ m) (h2 : c ≤ e) : Shw M d m e := let ⟨t, a, b, k⟩ := h; ⟨t, a, Nat.le_trans b h1, Nat.le_trans k h2⟩
theorem Shw.ext {M M' : Mp} {d : D} {n c : Nat} (x : Ext M M') (h : Shw M d n c) : Shw M' d n c := let ⟨t, a, b, k⟩ := h; ⟨t, a.ext x, b, k⟩
theorem shw_non {M : Mp} : Shw M .non 0 4 := ⟨_, .non, Nat.le_refl _, by decide +kernel⟩
theorem shw_bl {M : Mp} (b : Bool) : Shw M (.bl b) 0 5 := ⟨_, .bl b, Nat.le_refl _, by cases b <;> decide +kernel⟩
theorem shw_str {M : Mp} {s : Str} {n : Nat} (h : Ok s) (l : s.length ≤ n) (l2 : n ≤ 100000) : Shw M (.str s) 0 (10 * n + 2) := by
  have z : (reprText s).length ≤ 10 * s.length + 2 := by
    have := StrLaws.reprText_len s (fun c hc => Nat.lt_trans (h c hc) (by decide))
    omega
  exact ⟨_, .str (Nat.le_trans z (Nat.le_trans (by omega : _ ≤ 1000002) (by decide))), Nat.le_refl _, by unfold Sh.w; omega⟩
theorem shw_list {M : Mp} {n c : Nat} : ∀ {ds : List D}, (∀ d ∈ ds, Shw M d n c) → ∃ ts, ShOfs M ds ts ∧ Sh.deps ts ≤ n ∧ Sh.ws ts ≤ ds.length * (c + 2)
  | [], _ => ⟨[], .nil, Nat.zero_le _, by simp [Sh.ws]⟩
  | d :: r, h => by
    obtain ⟨t, a, b, k⟩ := h d List.mem_cons_self
    obtain ⟨ts, a2, b2, k2⟩ := shw_list fun x hx => h x (List.mem_cons_of_mem _ hx)
    refine ⟨t :: ts, .cons a a2, ?_, ?_⟩
    · unfold Sh.deps; omega
    · unfold Sh.ws
      rw [List.length_cons, Nat.add_mul, Nat.one_mul]
      omega
theorem shw_lst {M : Mp} {n c : Nat} {ds : List D} (h : ∀ d ∈ ds, Shw M d n c) : Shw M (.lst ds) (n + 1) (ds.length * (c + 2) + 3) := by
  obtain ⟨ts, a, b, k⟩ := shw_list h
  exact ⟨_, .lst a, by unfold Sh.dep; omega, by unfold Sh.w; omega⟩
theorem shw_tup {M : Mp} {n c : Nat} {ds : List D} (h : ∀ d ∈ ds, Shw M d n c) : Shw M (.tup ds) (n + 1) (ds.length * (c + 2) + 3) := by
  obtain ⟨ts, a, b, k⟩ := shw_list h
  exact ⟨_, .tup a, by unfold Sh.dep; omega, by unfold Sh.w; omega⟩
theorem shw_dct0 {M : Mp} : Shw M (.dct []) 1 3 := ⟨_, .dct .nil .nil, by decide +kernel, by decide +kernel⟩
end DL
namespace DL
open PySem L2
theorem exm_ref {K : PySem.W.Frag} {t : Value} {C : Addr} {b : Bool} (h1 : PySem.W.subIn K (.ref C) (.type "BaseException") = some true) (h2 : PySem.W.isClsIn K C = true) (h3 : PySem.W.typeIn K (.ref C) = some (.type "type")) (h4 : PySem.W.subIn K t (.ref C) = some b) : PySem.W.exmOne K t (.ref C) = some b := by
  unfold PySem.W.exmOne
  rw [h1, if_pos (by simp)]
  unfold PySem.W.kitCls
  dsimp only
  rw [h3]
  have : (PySem.W.clsIn K C).isSome = true := h2
  rw [this, if_pos (by simp)]
  exact h4
end DL
namespace DL
open PySem PySem.Spec PyProof.Rows L2
def stF {α : Type} (i : Nat) (xs : List α) : List α := xs.take i
def stM {α : Type} (n i : Nat) (xs : List α) : List α := (xs.drop i).take (xs.length + 1 - n)
def stL {α : Type} (n i : Nat) (xs : List α) : List α := (xs.drop i).drop (xs.length + 1 - n)
section
variable {prog : Program} {w : World} {A : Around} {E : Value → Shared → Prop} {s : Shared} {a : Addr} {its : List Value} {n i : Nat} {Q : List Value → Shared → Prop}
theorem st_end {it : Addr} {T : String} {St : Nat → Heap → Prop} {g : Heap} {bad : List Value → Sem (List Value)} (hT : T = "str_ascii_iterator" ∨ T = "str_iterator" ∨ T = "list_iterator" ∨ T = "tuple_iterator") (Wk : Walks prog w A.in1 it [it, a] [it] its.toArray.size (fun j v => its.toArray[j]? = some v) St) (ty : ∀ j (u : Shared), St j u.heap → u.TypeIs (.ref it) T)
    (st : St i g) (l1 : it < g.objs.size) (l2 : a < g.objs.size) (hi : i < n) (hn : n ≤ its.length + 1) (hz : its.length ≤ 16384) (kp : ∀ b o, b ≠ it → s.heap.get? b = some o → g.get? b = some o)
    (hQ : ∀ (h2 : Heap) (tk : Nat), (∀ b o, b ≠ it → s.heap.get? b = some o → h2.get? b = some o) → Q (stF i its ++ [.ref h2.objs.size] ++ stL n i its) { s with heap := h2.push { cls := .type "list", data := .seq (stM n i its).toArray }, toks := tk }) :
    wpAny (model prog w) A (holding (stF i its) (collect (.ref it)) >>= fun rest => if rest.length < n - 1 - i then bad rest else (do return stF i its ++ [← newList (rest.take (rest.length - (n - 1 - i)))] ++ rest.drop (rest.length - (n - 1 - i)))) Q E { s with heap := g } := by
  have sz : its.toArray.size = its.length := by simp
  refine wpAny_bind (wpAny_holding (PySem.W.kun_collect (k := i) hT Wk ty (by rw [sz]; omega) st l1 l2 (fun h2 tk k2 => ?_) (by rw [sizeLine_eq, sz]; omega)))
  have ln : (its.drop i).length = its.length - i := List.length_drop
  have e : (its.drop i).length - (n - 1 - i) = its.length + 1 - n := by omega
  rw [if_neg (by omega : ¬ (its.drop i).length < n - 1 - i), e]
  exact wpAny_bind (wpAny_newList (wpAny_pure (hQ h2 tk fun b o nb q => k2 b o nb (kp b o nb q))) (by rw [List.length_take, sizeLine_eq]; omega))
theorem st_lst (hh : A.handled = none) (pl : s.heap.IsList a its.toArray) (hi : i < n) (hn : n ≤ its.length + 1) (hz : its.length ≤ 16384)
    (hQ : ∀ (h2 : Heap) (tk : Nat), (∀ b o, s.heap.get? b = some o → h2.get? b = some o) → Q (stF i its ++ [.ref h2.objs.size] ++ stL n i its) { s with heap := h2.push { cls := .type "list", data := .seq (stM n i its).toArray }, toks := tk }) : wpAny (model prog w) A (unpackItems (.ref a) n (some i)) Q E s := by
  have la : a < s.heap.objs.size := let ⟨_, e, _⟩ := pl; Heap.lt_size e
  have sz : its.toArray.size = its.length := by simp
  unfold unpackItems notIterableAtAll
  refine wpAny_bind (wpAny_bind (wpAny_specialOf pl.typeIs slot_list_iter.lookup (wpAny_pure ?_)))
  rw [if_neg Bool.false_ne_true]
  refine wpAny_bind (wpAny_holding (wpAny_pyIter_list pl (wpAny_bind (wpAny_holding (PySem.W.kun_draw (Nat.ne_of_lt la) i 0 _ _ ⟨_, Heap.get?_push_size _ rfl, rfl, rfl⟩ (pl.push _) (by rw [sz]; omega) fun g gi gs => ?_)))))
  have gl : g.IsList a its.toArray := (pl.push _).extBut gs.extBut (Nat.ne_of_lt la)
  rw [Nat.zero_add] at gi
  have lg : s.heap.objs.size < g.objs.size := let ⟨_, e, _⟩ := gi; Heap.lt_size e
  have e0 : (its.toArray.toList.drop 0).take i = stF i its := rfl
  rw [e0, if_neg (by show ¬ (its.take i).length < i; rw [List.length_take]; omega)]
  dsimp only
  refine st_end (T := "list_iterator") (.inr (.inr (.inl rfl))) (Walks.list (A := A.in1) hh s.heap.objs.size a (Nat.ne_of_lt la) its.toArray) (fun j u st => st.1.typeIs) ⟨gi, gl⟩ lg (Nat.lt_trans la lg) hi hn hz (fun b o nb q => gs.extBut b o nb (Heap.get?_push_of_some _ q)) fun h2 tk kp => hQ h2 tk fun b o q => kp b o (Nat.ne_of_lt (Heap.lt_size q)) q
theorem st_tup (hh : A.handled = none) (pl : IsTup s.heap a its.toArray) (hi : i < n) (hn : n ≤ its.length + 1) (hz : its.length ≤ 16384)
    (hQ : ∀ (h2 : Heap) (tk : Nat), (∀ b o, s.heap.get? b = some o → h2.get? b = some o) → Q (stF i its ++ [.ref h2.objs.size] ++ stL n i its) { s with heap := h2.push { cls := .type "list", data := .seq (stM n i its).toArray }, toks := tk }) : wpAny (model prog w) A (unpackItems (.ref a) n (some i)) Q E s := by
  have la : a < s.heap.objs.size := let ⟨_, e, _⟩ := pl; Heap.lt_size e
  have sz : its.toArray.size = its.length := by simp
  unfold unpackItems notIterableAtAll
  refine wpAny_bind (wpAny_bind (wpAny_specialOf pl.typeIs slot_tuple_iter.lookup (wpAny_pure ?_)))
  rw [if_neg Bool.false_ne_true]
  refine wpAny_bind (wpAny_holding (iter_tuple pl (wpAny_bind (wpAny_holding (draw_tuple (Nat.ne_of_lt la) i 0 _ _ ⟨_, Heap.get?_push_size _ rfl, rfl, rfl⟩ (pl.push _) (by rw [sz]; omega) fun g gi gs => ?_)))))
  have gl : IsTup g a its.toArray := (pl.push _).extBut gs.extBut (Nat.ne_of_lt la)
  rw [Nat.zero_add] at gi
  have lg : s.heap.objs.size < g.objs.size := let ⟨_, e, _⟩ := gi; Heap.lt_size e
  have e0 : (its.toArray.toList.drop 0).take i = stF i its := rfl
  rw [e0, if_neg (by show ¬ (its.take i).length < i; rw [List.length_take]; omega)]
  dsimp only
  refine st_end (T := "tuple_iterator") (.inr (.inr (.inr rfl))) (Walks.tuple (A := A.in1) hh s.heap.objs.size a (Nat.ne_of_lt la) its.toArray) (fun j u st => st.1.typeIs) ⟨gi, gl⟩ lg (Nat.lt_trans la lg) hi hn hz (fun b o nb q => gs.extBut b o nb (Heap.get?_push_of_some _ q)) fun h2 tk kp => hQ h2 tk fun b o q => kp b o (Nat.ne_of_lt (Heap.lt_size q)) q
end
theorem vals_take : ∀ {xs : List V} {us : List Value} (i : Nat), Vals xs us → Vals (xs.take i) (us.take i)
  | _, _, 0, _ => .nil
  | _, _, _ + 1, .nil => .nil
  | _, _, i + 1, .cons a r => .cons a (vals_take i r)
theorem vals_drop : ∀ {xs : List V} {us : List Value} (i : Nat), Vals xs us → Vals (xs.drop i) (us.drop i)
  | _, _, 0, r => r
  | _, _, _ + 1, .nil => .nil
  | _, _, i + 1, .cons _ r => vals_drop i r
theorem vals_app : ∀ {xs ys : List V} {us ws : List Value}, Vals xs us → Vals ys ws → Vals (xs ++ ys) (us ++ ws)
  | _, _, _, _, .nil, r => r
  | _, _, _, _, .cons a q, r => .cons a (vals_app q r)
theorem reps_take {K : PySem.W.Frag} {I : Hp} : ∀ {xs : List V} {us : List D} (i : Nat), Reps K I xs us → Reps K I (xs.take i) (us.take i)
  | _, _, 0, _ => .nil
  | _, _, _ + 1, .nil => .nil
  | _, _, i + 1, .cons a r => .cons a (reps_take i r)
theorem reps_drop {K : PySem.W.Frag} {I : Hp} : ∀ {xs : List V} {us : List D} (i : Nat), Reps K I xs us → Reps K I (xs.drop i) (us.drop i)
  | _, _, 0, r => r
  | _, _, _ + 1, .nil => .nil
  | _, _, i + 1, .cons _ r => reps_drop i r
section
variable {X : Cx} {W : WX} {pos : Pos} {e : Expr} {te : DTE}
def gStar (K : PySem.W.Frag) (n i : Nat) (t : TGs) : TG := fun v σ H Q => ∃ a xs, v = .ref a ∧ (SqL K H a xs ∨ SqT K H a xs) ∧ n ≤ xs.length + 1 ∧ xs.length ≤ 16384 ∧ ∀ l, H l = none → t (stF i xs ++ [.ref l] ++ stL n i xs) σ (upd H l (.lst (stM n i xs))) Q
theorem pg_star {es : List Expr} {k n i : Nat} {t : TGs} (hc : X.calm = true) (h : PGs X es t) (hi : i < n) (hn : (assignEach es X.env).length = n := by rfl) (hst : (assignEach es X.env).findIdx? (·.1) = some i := by rfl) : PG X (.Tuple es k pos) (gStar X.K n i t) := by
  refine ⟨fun pins s σ H v u Q I r hw => ?_⟩
  obtain ⟨a, xs, rfl, hq, h1, h2, hw⟩ := hw
  cases r
  rw [assign_Tuple]
  refine wpAny_bind (wpAny_standAt ?_)
  unfold unpack
  rw [hn, hst]
  have fin : ∀ its : List Value, Vals xs its → ∀ (g : Heap) (tk : Nat), (∀ b o, s.heap.get? b = some o → g.get? b = some o) → wpAny (model X.prog X.w) X.A (assignInOrder ((assignEach es X.env).map (·.2)) (stF i its ++ [.ref g.objs.size] ++ stL n i its)) (fun _ s' => ∃ σ' H', Inv X pins σ' H' s' ∧ Q σ' H') X.xe { s with heap := g.push { cls := .type "list", data := .seq (stM n i its).toArray }, toks := tk } := fun its rv g tk kp => by
    have J : Inv X pins σ H { s with heap := g, toks := tk } := I.kept kp
    have ln := rv.length
    have rm : Vals (stM n i xs) (stM n i its) := by
      have := vals_take (xs.length + 1 - n) (vals_drop i rv)
      unfold stM
      rw [← ln]
      exact this
    have rl : Vals (stL n i xs) (stL n i its) := by
      have := vals_drop (xs.length + 1 - n) (vals_drop i rv)
      unfold stL
      rw [← ln]
      exact this
    have zz : (stM n i xs).length ≤ sizeLine := by
      unfold stM
      rw [List.length_take, List.length_drop, sizeLine_eq]
      omega
    refine h.run pins _ σ _ _ _ Q (J.laid (a := g.objs.size) (o := .lst (stM n i xs)) (t' := tk) (fun b u q => Heap.get?_push_of_some _ q) (Nat.le_refl _) (show ObjOk X.prog X.w _ _ _ (.lst _) from ⟨zz, _, 0, rm, Heap.get?_push_size _ rfl⟩)) (vals_app (vals_app (vals_take i rv) (.cons (show RelV (.ref g.objs.size) (.ref g.objs.size) from rfl) .nil)) rl) (hw _ (J.hok.fresh (Nat.le_refl _)))
  rcases hq with hq | hq
  · obtain ⟨its, rv, pl, _⟩ := I.list hq
    have ln := rv.length
    exact wpAny_bind (wpAny_holding (st_lst (I.ok.hd hc) pl.isList hi (by omega) (by omega) fun g tk kp => fin its rv g tk kp))
  · obtain ⟨its, rv, pl, _⟩ := I.tuple hq
    have ln := rv.length
    exact wpAny_bind (wpAny_holding (st_tup (I.ok.hd hc) pl hi (by omega) (by omega) fun g tk kp => fin its rv g tk kp))
theorem pgs_cons2 {t : Expr} {es : List Expr} {g : TG} {u : TGs} {p : Pos} (h1 : PG X t g) (h2 : PGs X es u) (hs : (assignEach (.Starred t p :: es) X.env).map (·.2) = assign t X.env :: (assignEach es X.env).map (·.2) := by rfl) : PGs X (.Starred t p :: es) (gCons g u) := ⟨fun pins s σ H vs us Q I r h => by
  obtain ⟨v, vr, rfl, h⟩ := h
  cases r with
  | cons r rr =>
    rw [hs]
    exact assignInOrder_cons (thn (h1.run pins s σ H _ _ _ I r h) fun _ s1 ⟨σ1, H1, I1, q1⟩ => h2.run pins s1 σ1 H1 _ _ Q I1 rr q1)⟩
theorem gs_consS (i : Nat) {x : Str} {es : List Expr} {is : List Nat} {p : Pos} (hN : X.N.Nodup) (h2 : DGs X W es (gdNames is)) (hi : X.N[i]? = some x := by rfl) (hx : Loc X.env.scope x := by first | exact Or.inl rfl | exact Or.inr rfl) (hf : X.fn x = true ∨ X.env.scope.names.lookup x = some .local := by first | exact .inl rfl | exact .inr rfl | assumption)
    (hs : (assignEach (.Starred (.Name x pos) p :: es) X.env).map (·.2) = assign (.Name x pos) X.env :: (assignEach es X.env).map (·.2) := by rfl) : DGs X W (.Starred (.Name x pos) p :: es) (gdNames (i :: is)) :=
  pgs_imp (pgs_cons2 (pg_name hN hi hx hf) h2 hs) fun v σ H Q h => by
    obtain ⟨I, M, F, δ, ds, Qd, Ed, hr, rs, r, q, fq, fx⟩ := h
    cases r with
    | nil => exact q.elim
    | @cons v1 d1 vr dr r1 rr => exact ⟨v1, vr, rfl, I, M, F, _, dr, Qd, fun _ _ _ => False, hr, rs.set i r1, rr, gdNames_E is dr _ M Qd Ed _ q, fq, fun _ _ _ _ _ _ z => z.elim⟩
def gdStarM (n i : Nat) (t : DTGs) : DTG := fun d δ M Q E => asQ M d fun xs => n ≤ xs.length + 1 ∧ xs.length ≤ 16384 ∧ ∀ p, M p = none → t (stF i xs ++ [.ref p] ++ stL n i xs) δ (updM M p (.lst (stM n i xs))) Q E
theorem reps_st {K : PySem.W.Frag} {I : Hp} {vs : List V} {ds : List D} {n i : Nat} (r : Reps K I vs ds) : Reps K I (stF i vs) (stF i ds) ∧ Reps K I (stM n i vs) (stM n i ds) ∧ Reps K I (stL n i vs) (stL n i ds) := by
  unfold stF stM stL
  rw [r.len]
  exact ⟨reps_take i r, reps_take _ (reps_drop i r), reps_drop _ (reps_drop i r)⟩
theorem g_starM {es : List Expr} {k n i : Nat} {t : List Nat} (hc : X.calm = true) (h : DGs X W es (gdNames t)) (hi : i < n := by decide) (hn : (assignEach es X.env).length = n := by rfl) (hst : (assignEach es X.env).findIdx? (·.1) = some i := by rfl) : DG X W (.Tuple es k pos) (gdStarM n i (gdNames t)) :=
  pg_imp (pg_star hc h hi hn hst) fun v σ H Q h => by
    obtain ⟨I, M, F, δ, d, Qd, Ed, hr, rs, r, q, fq, fx⟩ := h
    obtain ⟨a, vs, ds, rfl, hs, rr, q1, q2, q⟩ := asQ_out hr r q
    obtain ⟨r1, r2, r3⟩ := reps_st (n := n) (i := i) rr
    refine ⟨a, vs, rfl, hs.imp id And.left, by rw [rr.len]; exact q1, by rw [rr.len]; exact q2, fun l hl => ?_⟩
    exact ⟨I, _, F, δ, _, Qd, Ed, hr.newM hl (o := .lst _) (m := .lst _) ⟨_, rfl, r2⟩, rs, (r1.app (.cons (.ref l) .nil)).app r3, q l (hr.fresh hl).2.1, fq, fx⟩
end
section
variable {X : Cx} {W : WX} {a b e o : Expr} {ta tb te to : DTE} {pos apos p : Pos}
theorem Reps.reps {K : PySem.W.Frag} {I : Hp} {vs : List V} {ds : List D} (r : Reps K I vs ds) : ∀ m : Nat, Reps K I (List.replicate m vs).flatten (List.replicate m ds).flatten
  | 0 => .nil
  | m + 1 => by
    rw [List.replicate_succ, List.replicate_succ, List.flatten_cons, List.flatten_cons]
    exact r.app (Reps.reps r m)
def dMulM : DR2 := fun x y M Q => match x, y with
  | .lst xs, .int n => -(2 ^ 63) ≤ n ∧ n < 2 ^ 63 ∧ xs.length * n.toNat ≤ sizeLine ∧ ∀ p, M p = none → Q (.ref p) (updM M p (.lst (List.replicate n.toNat xs).flatten))
  | _, _ => False
theorem d_mulM (ha : DE X W a ta) (hb : DE X W b tb) : DE X W (.BinOp a .Mult b pos) (dOp dMulM ta tb) := d_op op_rep (fun I M F H x y dx dy Qd Q hr rx ry q fq => by
  unfold dMulM at q
  split at q
  · cases ry
    cases rx with
    | lst s rr => exact ⟨_, _, _, rfl, rfl, hr.imm _ _ s, q.1, q.2.1, by rw [rr.len]; exact q.2.2.1, fin_lstM fq hr (rr.reps _) q.2.2.2⟩
  · exact q.elim) ha hb
def asS (M : Mp) (d : D) (R : List D → Src → Prop) : Prop := match d with | .tup xs => R xs .data | d => asL M d R
def iQ (te : DTE) : DTI := fun δ M R E => te δ M (fun d M1 => asS M1 d fun xs src => R xs src M1) E
theorem pi_seq {l tg : Expr} {tl : TE} (hl : PE X l tl) : PI X tg l (fun σ H R => tl σ H fun x H1 => ∃ a, x = .ref a ∧ (((∃ xs, SqL X.K H1 a xs) ∧ R (Itl X.K a) H1) ∨ ((∃ xs, SqT X.K H1 a xs) ∧ R (Itt X.K a) H1))) := ⟨fun pins s σ H R I h => by
  refine thn (hl.run pins s σ H _ I h) fun v s1 ⟨x, H1, J, r1, a, e1, q1⟩ => ?_
  subst e1
  cases r1
  have fp : ∀ b ∈ [s1.heap.objs.size], _ := fun b hb => (List.mem_singleton.mp hb) ▸ J.fpOk (Nat.le_refl _) (J.hok.fresh (Nat.le_refl _))
  rcases q1 with ⟨⟨xs, hq⟩, q⟩ | ⟨⟨xs, hq⟩, q⟩
  · obtain ⟨its, rv, pl, hz⟩ := J.list hq
    exact wpAny_pyIter_list pl.isList ⟨_, [s1.heap.objs.size], _, _, H1, rfl, J.kept (t' := s1.toks) fun b o q => Heap.get?_push_of_some _ q, turn_list a _, ⟨_, Heap.get?_push_size _ rfl, rfl, rfl⟩, fp, q⟩
  · obtain ⟨its, rv, pl, hz⟩ := J.tuple hq
    exact wpAny_pyIter_tuple (show s1.heap.IsTuple a its.toArray from pl) ⟨_, [s1.heap.objs.size], _, _, H1, rfl, J.kept (t' := s1.toks) fun b o q => Heap.get?_push_of_some _ q, turn_tuple a _, ⟨_, Heap.get?_push_size _ rfl, rfl, rfl⟩, fp, q⟩⟩
theorem i_seq {tg : Expr} (h : DE X W e te) : DI X W tg e (iQ te) := pi_imp (pi_seq h) fun σ H R q => by
  obtain ⟨I, M, F, δ, Rd, Ed, hr, rs, q, fq, fx⟩ := q
  refine ⟨I, M, F, δ, _, Ed, hr, rs, q, fun d M1 I1 H1 v q1 s1 hr1 r1 => ?_, fx⟩
  cases r1 with
  | @lst a vs ds s rr => exact ⟨a, rfl, .inl ⟨⟨vs, SqL.of (hr1.imm _ _ s)⟩, fq ds .data M1 I1 H1 _ q1 trivial s1 hr1 (dwalk_list rr fun I' M' F' H' s' hr' _ => ⟨vs, SqL.of (hr'.imm _ _ (s' _ _ s)), rr.mono s'⟩)⟩⟩
  | @sq a vs ds s rr => exact ⟨a, rfl, .inl ⟨⟨vs, hr1.sq s⟩, fq ds .data M1 I1 H1 _ q1 trivial s1 hr1 (dwalk_list rr fun I' M' F' H' s' hr' _ => ⟨vs, hr'.sq (sq_mono s' s), rr.mono s'⟩)⟩⟩
  | ref a =>
    obtain ⟨ds, e1, q1⟩ := q1
    obtain ⟨vs, e2, rr⟩ := hr1.lst e1
    exact ⟨a, rfl, .inl ⟨⟨vs, SqL.of e2⟩, fq ds (.at a ds) M1 I1 H1 _ q1 e1 s1 hr1 (dwalk_list rr fun I' M' F' H' s' hr' ho => by
      obtain ⟨vs', e3, r3⟩ := hr'.lst ho
      exact ⟨vs', SqL.of e3, r3⟩)⟩⟩
  | @tup a vs ds s rr =>
    refine ⟨a, rfl, .inr ⟨⟨vs, hr1.st s⟩, fq ds .data M1 I1 H1 _ q1 trivial s1 hr1 ⟨fun i I' M' F H hi s' hr' ho => walk_tup.goes i H (by rw [rr.len]; exact hi) (hr'.st (st_mono s' s)), fun I' M' F H s' hr' ho => by rw [← rr.len]; exact walk_tup.stops H (hr'.st (st_mono s' s)), fun i x I' M' F H H' hi s' hr' ho y => ?_⟩⟩⟩
    obtain ⟨e1, e2⟩ := walk_tup.yields i H x H' (by rw [rr.len]; exact hi) (hr'.st (st_mono s' s)) y
    subst e1
    obtain ⟨d, e3, e4⟩ := rr.get e2
    exact ⟨I', d, Same.refl I', hr', e3, e4.mono s'⟩
  | _ => exact q1.elim
end
section
variable {P : Program} {w : World} {h : Heap}
end
section
variable {X : Cx} {W : WX} {e : Expr} {te : DTE} {p pos : Pos}
end
def dE0 (g : Bool → Bool) : DR2 := fun x y M Q => y = .lst [] ∧ asX M x fun xs => Q (.bl (g xs.isEmpty)) M
def rE0 (K : PySem.W.Frag) (g : Bool → Bool) : R2 := fun x y H Q => ∃ a b xs, x = .ref a ∧ y = .ref b ∧ SqL K H a xs ∧ SqL K H b [] ∧ Q (.bl (g xs.isEmpty)) H
section
variable {X : Cx}
theorem op_e0 {k : Nat} (rm : Room k X.A) : OpR X (compareOp .Eq) (rE0 X.K id) := fun pins s σ H x y v u Q J rx ry h => by
  obtain ⟨a, b, xs, rfl, rfl, h1, h2, q⟩ := h
  cases rx; cases ry
  obtain ⟨i1, r1, p1, _⟩ := J.list h1
  obtain ⟨i2, r2, p2, _⟩ := J.list h2
  cases r2
  have hu := rm.un
  have l1 := r1.length
  show wpAny _ _ (richCompare .Eq _ _) _ _ _
  cases xs with
  | nil =>
    cases r1
    refine PySem.SeqAt.RcAt.lists (e := fun _ => true) p1.isList p2.isList rfl (by omega) (fun j h1 _ => absurd h1 (Nat.not_lt_zero j)) _ _ _ _ ⟨.bl true, H, J, ?_, q⟩
    rfl
  | cons c r =>
    refine PySem.SeqAt.RcAt.lists_lengths p1.isList p2.isList ?_ (by omega) _ _ _ _ ⟨.bl false, H, J, rfl, q⟩
    rw [List.length_cons] at l1
    simp only [List.size_toArray, bne_iff_ne, ne_eq]
    show ¬ i1.length = 0
    omega
theorem op_n0 {k : Nat} (rm : Room k X.A) : OpR X (compareOp .NotEq) (rE0 X.K not) := fun pins s σ H x y v u Q J rx ry h => by
  obtain ⟨a, b, xs, rfl, rfl, h1, h2, q⟩ := h
  cases rx; cases ry
  obtain ⟨i1, r1, p1, _⟩ := J.list h1
  obtain ⟨i2, r2, p2, _⟩ := J.list h2
  cases r2
  have hu := rm.un
  have l1 := r1.length
  show wpAny _ _ (richCompare .NotEq _ _) _ _ _
  cases xs with
  | nil =>
    cases r1
    refine PySem.SeqAt.RcNeAt.lists (e := fun _ => true) p1.isList p2.isList rfl (by omega) (fun j h1 _ => absurd h1 (Nat.not_lt_zero j)) _ _ _ _ ⟨.bl false, H, J, ?_, q⟩
    rfl
  | cons c r =>
    refine PySem.SeqAt.RcNeAt.lists_lengths p1.isList p2.isList ?_ (by omega) _ _ _ _ ⟨.bl true, H, J, rfl, q⟩
    rw [List.length_cons] at l1
    simp only [List.size_toArray, bne_iff_ne, ne_eq]
    show ¬ i1.length = 0
    omega
theorem lr_e0 {K : PySem.W.Frag} {g : Bool → Bool} : LR K (rE0 K g) (dE0 g) := fun I M F H x y dx dy Qd Q hr rx ry q fq => by
  obtain ⟨e, q⟩ := q
  subst e
  obtain ⟨a, vs, ds, e1, h1, r1, q⟩ := asX_out hr rx q
  cases ry with
  | lst s rr =>
    cases rr
    refine ⟨a, _, vs, e1, rfl, SqL.of h1, SqL.of (hr.imm _ _ s), ?_⟩
    have e2 : vs.isEmpty = ds.isEmpty := by cases r1 <;> rfl
    rw [e2]
    exact fq _ M I H _ q (Same.refl I) hr (.bl _)
end
end DL
namespace DL
open PySem L2
theorem Src.okI {src : Src} {M : Mp} {P : Prop} (h : src.holds M) (p : P) : src.ok M P := by
  cases src with
  | data => exact p
  | «at» a xs => exact ⟨h, p⟩
  | lk a m => exact ⟨h, p⟩
  | two a xs b ys => exact ⟨h, p⟩
def seqD (M : Mp) : D → Option (List D)
  | .lst xs => some xs
  | .tup xs => some xs
  | .ref a => match M a with | some (.lst xs) => some xs | _ => none
  | _ => none
theorem comp_pure {t : TgI} {tt : DTT} {te : DTE} {src : Src} {vs : List Nat} {δ : DS} {k : List D → Mp → Prop} {M : Mp} (g : D → DS) (p : D → Bool) (f : D → D) (hs : src.holds M) : ∀ (xs acc : List D),
    (∀ x ∈ xs, ∀ k' : DS → Prop, k' (g x) → t.d x (dwipe δ vs) k') →
    (∀ x ∈ xs, ∀ Q : Bool → Mp → Prop, Q (p x) M → tt (g x) M Q E0d) →
    (∀ x ∈ xs, p x = true → ∀ Q : DK, Q (f x) M → te (g x) M Q E0d) →
    acc.length + xs.length ≤ sizeLine → k (acc ++ (xs.filter p).map f) M → dComp t tt te src vs δ k xs acc M
  | [], acc, ht, hp, hf, hl, q => by
    refine Src.okI hs ⟨by simpa using hl, ?_⟩
    rw [List.filter_nil, List.map_nil, List.append_nil] at q
    exact q
  | x :: r, acc, ht, hp, hf, hl, q => by
    simp only [List.length_cons] at hl
    have ht' := fun y hy => ht y (List.mem_cons_of_mem x hy)
    have hp' := fun y hy => hp y (List.mem_cons_of_mem x hy)
    have hf' := fun y hy => hf y (List.mem_cons_of_mem x hy)
    refine Src.okI hs (ht x List.mem_cons_self _ (hp x List.mem_cons_self _ (br2 (fun e => ?_) (fun e => ?_))))
    · refine hf x List.mem_cons_self e _ (comp_pure g p f hs r _ ht' hp' hf' (by rw [List.length_append, List.length_singleton]; omega) ?_)
      rw [List.filter_cons, if_pos e, List.map_cons] at q
      rw [List.append_assoc]
      exact q
    · refine comp_pure g p f hs r _ ht' hp' hf' (by omega) ?_
      rw [List.filter_cons, if_neg (by rw [e]; exact Bool.false_ne_true)] at q
      exact q
theorem comp_map {t : TgI} {te : DTE} {src : Src} {vs : List Nat} {δ : DS} {k : List D → Mp → Prop} {M : Mp} (g : D → DS) (f : D → D) (hs : src.holds M) (xs : List D)
    (ht : ∀ x ∈ xs, ∀ k' : DS → Prop, k' (g x) → t.d x (dwipe δ vs) k') (hf : ∀ x ∈ xs, ∀ Q : DK, Q (f x) M → te (g x) M Q E0d) (hl : xs.length ≤ sizeLine) (q : k (xs.map f) M) : dComp t dYes te src vs δ k xs [] M := by
  refine comp_pure g (fun _ => true) f hs xs [] ht (fun _ _ _ h => h) (fun x hx _ => hf x hx) (by rw [List.length_nil]; omega) ?_
  rw [List.nil_append, List.filter_eq_self.mpr (fun _ _ => rfl)]
  exact q
theorem comp_map1 {i : Nat} {te : DTE} {src : Src} {vs : List Nat} {δ : DS} {k : List D → Mp → Prop} {M : Mp} (f : D → D) (hs : src.holds M) (xs : List D)
    (hf : ∀ x ∈ xs, ∀ Q : DK, Q (f x) M → te ((dwipe δ vs).set i (some x)) M Q E0d) (hl : xs.length ≤ sizeLine) (q : k (xs.map f) M) : dComp (.one i) dYes te src vs δ k xs [] M :=
  comp_map (fun x => (dwipe δ vs).set i (some x)) f hs xs (fun _ _ _ h => h) hf hl q
theorem comp_filt1 {i : Nat} {tt : DTT} {te : DTE} {src : Src} {vs : List Nat} {δ : DS} {k : List D → Mp → Prop} {M : Mp} (p : D → Bool) (f : D → D) (hs : src.holds M) (xs : List D)
    (hp : ∀ x ∈ xs, ∀ Q : Bool → Mp → Prop, Q (p x) M → tt ((dwipe δ vs).set i (some x)) M Q E0d)
    (hf : ∀ x ∈ xs, p x = true → ∀ Q : DK, Q (f x) M → te ((dwipe δ vs).set i (some x)) M Q E0d) (hl : xs.length ≤ sizeLine) (q : k ((xs.filter p).map f) M) : dComp (.one i) tt te src vs δ k xs [] M :=
  comp_pure (fun x => (dwipe δ vs).set i (some x)) p f hs xs [] (fun _ _ _ h => h) hp hf (by rw [List.length_nil]; omega) (by rw [List.nil_append]; exact q)
theorem comp_inv {t : TgI} {te : DTE} {src : Src} {vs : List Nat} {δ : DS} {k : List D → Mp → Prop} (J : List D → List D → Mp → Prop)
    (step : ∀ x r acc M (R : DK), J (x :: r) acc M → (∀ y M', J r (acc ++ [y]) M' → R y M') → src.ok M (t.d x (dwipe δ vs) fun δ2 => te δ2 M R E0d))
    (fin : ∀ acc M, J [] acc M → src.ok M (acc.length ≤ sizeLine ∧ k acc M)) : ∀ (xs acc : List D) (M : Mp), J xs acc M → dComp t dYes te src vs δ k xs acc M
  | [], acc, M, h => fin acc M h
  | x :: r, acc, M, h => step x r acc M _ h fun y M' h' => comp_inv J step fin r (acc ++ [y]) M' h'
theorem ixN_last {n : Nat} : ixN (n + 1) (-1) = some n := by
  unfold ixN
  rw [if_neg (by decide), if_pos (by omega)]
  congr 1
  omega
theorem atI_last {α : Type} {xs : List α} {x : α} : atI (xs ++ [x]) (-1) = some x := by
  unfold atI
  rw [List.length_append, List.length_singleton, ixN_last]
  show (xs ++ [x])[xs.length]? = _
  simp
theorem cutD_to {xs : List D} {k : Nat} : cutD xs none (some (k : Int)) = xs.take k := by
  unfold cutD
  rw [HT.sIx_nat, HT.sIx_none, List.drop_zero, Nat.sub_zero]
  rcases Nat.le_total k xs.length with h | h
  · rw [Nat.min_eq_left h]
  · rw [Nat.min_eq_right h, List.take_of_length_le (Nat.le_refl _), List.take_of_length_le h]
theorem But.upd {b p : Addr} {M M' : Mp} {o : MO} (h : But b M M') (hp : p = b) : But b M (updM M' p o) := fun a u ne e => by
  rw [updM_ne (fun z => ne (z.trans hp))]
  exact h a u ne e
theorem Ext.upd {p : Addr} {M M' : Mp} {o : MO} (h : Ext M M') (hp : M p = none) : Ext M (updM M' p o) := fun a u e => by
  rw [updM_ne (fun z => by rw [z, hp] at e; cases e)]
  exact h a u e
theorem Ext.none {p : Addr} {M M' : Mp} (h : Ext M M') (hp : M' p = none) : M p = none := by
  cases e : M p with
  | none => rfl
  | some o => rw [h p o e] at hp; cases hp
theorem Ext.but {b : Addr} {M M' : Mp} (h : Ext M M') : But b M M' := fun a o _ e => h a o e
theorem But.none {b p : Addr} {M M' : Mp} (h : But b M M') (n : p ≠ b) (hp : M' p = none) : M p = none := by
  cases e : M p with
  | none => rfl
  | some o => rw [h p o n e] at hp; cases hp
end DL
namespace DL
open PySem PySem.Spec PyProof.Rows L2
theorem Ok.app {s t : Str} (h : Ok s) (k : Ok t) : Ok (s ++ t) := fun c hc => by rw [str_app] at hc; exact (List.mem_append.mp hc).elim (h c) (k c)
theorem Bag.ext {M M' : Mp} {b : Addr} {n : Nat} (h : Bag M b n) (x : Ext M M') : Bag M' b n := by
  obtain ⟨i, j, k, e, r⟩ := h
  exact ⟨i, j, k, x b _ e, r⟩
abbrev sL (l : List Nat) : Str := ⟨l.toArray⟩
theorem map_sL (ls : List (List Nat)) : (ls.map sL).map TL.tl = ls := by
  rw [List.map_map]
  refine Eq.trans (List.map_congr_left fun x _ => ?_) (List.map_id ls)
  simp [TL.tl]
section
variable {X : Cx} {W : WX} {pos : Pos} {a b o e : Expr} {ta tb to te : DTE}
theorem seqD_out {K : PySem.W.Frag} {I : Hp} {M : Mp} {F H : Hp} (hr : HR K I M F H) {v : V} {d : D} {xs : List D} (r : Rep K I v d) (h : seqD M d = some xs) : ∃ p vs, v = .ref p ∧ (SqL K H p vs ∨ SqT K H p vs) ∧ Reps K I vs xs := by
  cases r with
  | lst s rr => cases h; exact ⟨_, _, rfl, .inl (SqL.of (hr.imm _ _ s)), rr⟩
  | tup s rr => cases h; exact ⟨_, _, rfl, .inr (hr.st s), rr⟩
  | ref p =>
    unfold seqD at h
    dsimp only at h
    split at h
    · rename_i ys e
      cases h
      obtain ⟨vs, e1, rr⟩ := hr.lst e
      exact ⟨_, vs, rfl, .inl (SqL.of e1), rr⟩
    · cases h
  | _ => cases h
def flatD : D → Bool
  | .non => true | .bl _ => true | .int _ => true | .str _ => true | _ => false
def wordIn : D → List Str → Bool
  | .str s, ss => decide (s ∈ ss)
  | _, _ => false
def dInW (g : Bool → Bool) : DR2 := fun x y M Q => ∃ ss : List Str, seqD M y = some (ss.map D.str) ∧ flatD x = true ∧ Q (.bl (g (wordIn x ss))) M
theorem flatD_out {K : PySem.W.Frag} {I : Hp} {v : V} {d : D} (r : Rep K I v d) (h : flatD d = true) : flatV v = true := by
  cases r <;> first | rfl | cases h
theorem reps_words {K : PySem.W.Frag} {I : Hp} : ∀ {ss : List Str} {vs : List V}, Reps K I vs (ss.map D.str) → vs = ss.map V.str
  | [], _, .nil => rfl
  | s :: r, _, .cons h t => by cases h; rw [reps_words t]; rfl
theorem all_flat : ∀ ss : List Str, (ss.map V.str).all flatV = true
  | [] => rfl
  | s :: r => by rw [List.map_cons, List.all_cons, all_flat r]; rfl
theorem inV_words {K : PySem.W.Frag} {I : Hp} {v : V} {d : D} (r : Rep K I v d) (h : flatD d = true) : ∀ ss : List Str, inV v (ss.map V.str) = wordIn d ss := by
  intro ss
  have no : (∀ s : Str, eqV (.str s) v = false) → inV v (ss.map V.str) = false := fun hn => by
    unfold inV
    rw [List.any_map, List.any_eq_false]
    exact fun s _ => by rw [Function.comp_apply, hn s]; exact Bool.false_ne_true
  cases r with
  | str x =>
    clear no
    unfold inV
    induction ss with
    | nil => rfl
    | cons s r ih =>
      rw [List.map_cons, List.any_cons, ih]
      show ((s == x) || decide (x ∈ r)) = decide (x ∈ s :: r)
      by_cases q : x = s
      · subst q; simp
      · rw [show (s == x) = false from by simpa using fun z => q z.symm, Bool.false_or]
        simp [q]
  | non => exact no fun _ => rfl
  | bl x => exact no fun _ => rfl
  | int x => exact no fun _ => rfl
  | _ => cases h
theorem lr_inW {K : PySem.W.Frag} {neg : Bool} {g : Bool → Bool} (hg : ∀ c, g c = if neg = true then !c else c) : LR K (rIn K neg) (dInW g) := fun I M F H x y dx dy Qd Q hr rx ry q fq => by
  obtain ⟨ss, e, fl, q⟩ := q
  obtain ⟨p, vs, rfl, hs, rr⟩ := seqD_out hr ry e
  cases reps_words rr
  refine ⟨p, _, rfl, hs, flatD_out rx fl, all_flat ss, ?_⟩
  have e2 : (if neg then !inV x (ss.map V.str) else inV x (ss.map V.str)) = g (wordIn dx ss) := by
    rw [hg, inV_words rx fl]
  rw [e2]
  exact fq _ M I H _ q (Same.refl I) hr (.bl _)
theorem lr_inW1 {K : PySem.W.Frag} : LR K (rIn K false) (dInW id) := lr_inW fun c => rfl
theorem lr_inW2 {K : PySem.W.Frag} : LR K (rIn K true) (dInW not) := lr_inW fun c => rfl
def dInD (g : Bool → Bool) : DR2 := fun x y M Q => ∃ p ps, PyOf M x p ∧ PyOf M y (.list ps) ∧ SeqAt.shaped p = true ∧ SeqAt.shaped (.list ps) = true ∧ Q (.bl (g (ps.any fun z => PyData.eqv z p))) M
theorem lr_inD2 {K : PySem.W.Frag} : LR K (rNotInD K) (dInD not) := fun I M F H x y dx dy Qd Q hr rx ry q fq => by
  obtain ⟨p, ps, h1, h2, h3, h4, q⟩ := q
  exact ⟨p, ps, dp_of hr p rx h1, dp_of hr _ ry h2, h3, h4, fq _ M I H _ q (Same.refl I) hr (.bl _)⟩
theorem op_ninDk {k : Nat} (rm : Room k X.A) : OpR X (compareOp .NotIn) (rNotInD X.K) := op_notInD (by have := rm.un; omega)
end
abbrev LOp := List D → List D → (D → List D → Prop) → Prop
def dML (r : LOp) (to : DTE) (ta : DTA) : DTE := fun δ M Q E => to δ M (fun x M1 => match x with
  | .ref a => (∃ ys, M1 a = some (.lst ys)) ∧ ta δ M1 (fun ds M2 => ∃ xs, M2 a = some (.lst xs) ∧ r xs ds fun y zs => Q y (updM M2 a (.lst zs))) E
  | _ => False) E
def LLift (K : PySem.W.Frag) (r' : V → List V → Hp → VK → Prop) (r : LOp) : Prop := ∀ (I H : Hp) (a : Addr) (vs : List V) (xs : List D) (us : List V) (ds : List D) (k : D → List D → Prop) (Q : VK), H a = some (.lst vs) → Reps K I vs xs → Reps K I us ds → r xs ds k →
  (∀ y zs v ws, k y zs → Rep K I v y → Reps K I ws zs → Q v (upd H a (.lst ws))) → r' (.ref a) us H Q
section
variable {X : Cx} {W : WX} {pos apos : Pos} {o e : Expr} {es : List Expr} {to : DTE} {ta : DTA} {name : Str} {bid : String} {r' : V → List V → Hp → VK → Prop} {r : LOp}
theorem d_ml (slot : Slot "list" name bid) (ty : typeOf (.builtin bid) = pure (.type "method_descriptor")) (rule : MtR X bid r') (hl : LLift X.K r' r) (ho : DE X W o to) (ha : DA X W (e :: es) ta) (hs : starEach (e :: es) X.env = (false, eval e X.env) :: starEach es X.env := by rfl)
    (hplain : (backTo pos (starEach es X.env)).any (·.1) = false := by rfl) (hbase : attributeBase o name X.env (eval o X.env) = eval o X.env := by rfl) (hline : (apos.endLine == pos.line) = true := by rfl)
    (hfew : ((backTo pos (starEach (e :: es) X.env)).all (fun x => !x.1) && (backToKw pos (keywordEach [] X.env)).all (fun x => x.1.isSome) && decide ((e :: es).length + ([] : List Keyword).length + (if ([] : List Keyword).isEmpty then 0 else 1) < 30)) = true := by rfl) :
    DE X W (.Call (.Attribute o name apos) (e :: es) [] pos) (dML r to ta) := by
  refine pe_imp (pe_bm PySem.F.plainAttrs_list slot ty rule ho ha hbase hfew hline hs hplain) fun σ H Q h => ?_
  obtain ⟨I, M, F, δ, Qd, Ed, hr, rs, q, fq, fx⟩ := h
  refine ⟨I, M, F, δ, _, Ed, hr, rs, q, fun d M1 I1 H1 v q1 s1 hr1 r1 => ?_, fx⟩
  cases r1 with
  | ref a =>
    obtain ⟨⟨ys, e0⟩, q1⟩ := q1
    obtain ⟨vs0, e1, rr0⟩ := hr1.lst e0
    refine ⟨.inl ⟨rfl, vs0, SqL.of e1⟩, I1, M1, F, δ, _, Ed, hr1, rs.mono s1, q1, fun ds M2 I2 H2 us q2 s2 hr2 r2 => ?_, fx.mono s1⟩
    obtain ⟨xs, e2, q⟩ := q2
    obtain ⟨vs, e3, rr⟩ := hr2.lst e2
    refine hl I2 H2 a vs xs us ds _ _ e3 rr r2 q fun y zs w ws q ry rz => ?_
    exact fq _ _ I2 _ _ q (s1.trans s2) (hr2.write e2 (fun _ _ z => nomatch z) (o := .lst ws) (m := .lst zs) ⟨_, rfl, rz⟩) ry
  | _ => exact q1.elim
theorem Reps.eraseN {K : PySem.W.Frag} {I : Hp} : ∀ {vs : List V} {ds : List D} (n : Nat), Reps K I vs ds → Reps K I (vs.eraseIdx n) (ds.eraseIdx n)
  | _, _, _, .nil => .nil
  | _, _, 0, .cons _ t => t
  | _, _, n + 1, .cons h t => .cons h (Reps.eraseN n t)
def opInsert : LOp := fun xs ds k => match ds with
  | [.int i, y] => xs.length < sizeLine ∧ 0 ≤ i ∧ i < 2 ^ 63 ∧ k .non (xs.take i.toNat ++ [y] ++ xs.drop i.toNat)
  | _ => False
def opPopAt : LOp := fun xs ds k => match ds with
  | [.int i] => 0 ≤ i ∧ i < 2 ^ 63 ∧ ∃ y, xs[i.toNat]? = some y ∧ k y (xs.eraseIdx i.toNat)
  | _ => False
theorem d_insert {e2 : Expr} (ho : DE X W o to) (ha : DA X W [e, e2] ta) (hs : starEach [e, e2] X.env = (false, eval e X.env) :: starEach [e2] X.env := by rfl) (hplain : (backTo pos (starEach [e2] X.env)).any (·.1) = false := by rfl)
    (hbase : attributeBase o "insert" X.env (eval o X.env) = eval o X.env := by rfl) (hline : (apos.endLine == pos.line) = true := by rfl)
    (hfew : ((backTo pos (starEach [e, e2] X.env)).all (fun x => !x.1) && (backToKw pos (keywordEach [] X.env)).all (fun x => x.1.isSome) && decide ([e, e2].length + ([] : List Keyword).length + (if ([] : List Keyword).isEmpty then 0 else 1) < 30)) = true := by rfl) :
    DE X W (.Call (.Attribute o "insert" apos) [e, e2] [] pos) (dML opInsert to ta) :=
  d_ml PySem.F.slot_list_insert PySem.F.type_list_insert mt_insert (fun I H a vs xs us ds k Q ha rr ru q fq => by
    unfold opInsert at q
    split at q
    · cases ru with
      | cons h1 t => cases h1; cases t with
        | cons h2 t => cases t; exact ⟨_, _, _, _, rfl, rfl, ha, by rw [rr.len]; exact q.1, q.2.1, q.2.2.1, fq _ _ _ _ q.2.2.2 .non (((rr.take _).app (.cons h2 .nil)).app (rr.drop _))⟩
    · exact q.elim) ho ha hs hplain hbase hline hfew
theorem d_popAt (ho : DE X W o to) (ha : DA X W [e] ta) (hs : starEach [e] X.env = (false, eval e X.env) :: starEach [] X.env := by rfl) (hplain : (backTo pos (starEach [] X.env)).any (·.1) = false := by rfl)
    (hbase : attributeBase o "pop" X.env (eval o X.env) = eval o X.env := by rfl) (hline : (apos.endLine == pos.line) = true := by rfl)
    (hfew : ((backTo pos (starEach [e] X.env)).all (fun x => !x.1) && (backToKw pos (keywordEach [] X.env)).all (fun x => x.1.isSome) && decide ([e].length + ([] : List Keyword).length + (if ([] : List Keyword).isEmpty then 0 else 1) < 30)) = true := by rfl) :
    DE X W (.Call (.Attribute o "pop" apos) [e] [] pos) (dML opPopAt to ta) :=
  d_ml PySem.F.slot_list_pop PySem.F.type_list_pop mt_popAt (fun I H a vs xs us ds k Q ha rr ru q fq => by
    unfold opPopAt at q
    split at q
    · rename_i i
      obtain ⟨q0, q1, y, e, q⟩ := q
      cases ru with
      | cons h1 t => cases h1; cases t; 
                     obtain ⟨v, e1, r1⟩ := reps_get rr _ _ e
                     have hl : i.toNat < vs.length := (List.getElem?_eq_some_iff.mp e1).1
                     refine ⟨_, _, i, i.toNat, v, rfl, rfl, ha, by omega, q1, ?_, e1, fq _ _ _ _ q r1 (rr.eraseN _)⟩
                     have hi : (i.toNat : Int) = i := Int.toNat_of_nonneg q0
                     show (if 0 ≤ (if i < 0 then i + (vs.length : Int) else i) && (if i < 0 then i + (vs.length : Int) else i) < vs.length then some (if i < 0 then i + (vs.length : Int) else i).toNat else none) = some i.toNat
                     rw [if_neg (by omega : ¬ i < 0), if_pos (by simp only [Bool.and_eq_true, decide_eq_true_eq]; omega)]
    · exact q.elim) ho ha hs hplain hbase hline hfew
end
def keyD : D → Option Key
  | .int i => some (.inl i)
  | .str s => some (.inr s)
  | _ => none
def valD {κ : Type} [DecidableEq κ] (kvs : List (κ × D)) (k : κ) : Option D := (kvs.find? fun kv => decide (kv.1 = k)).map (·.2)
def putT (kvs : List (List Key × D)) (k : List Key) (v : D) : List (List Key × D) :=
  if (kvs.any fun kv => decide (kv.1 = k)) = true then kvs.map (fun kv => if kv.1 = k then (kv.1, v) else kv) else kvs ++ [(k, v)]
section
variable {K : PySem.W.Frag} {I : Hp} {M : Mp} {F H : Hp}
theorem keyD_out {v : V} {d : D} {k : Key} (r : Rep K I v d) (h : keyD d = some k) : v = kV k := by
  cases r <;> first | cases h | skip
  · rfl
  · rfl
theorem RepK.val (k : Key) : ∀ {vs : List (Key × V)} {ds : List (Key × D)}, RepK K I vs ds → (valD ds k = none ∧ valV vs k = none) ∨ ∃ v d, valD ds k = some d ∧ valV vs k = some v ∧ Rep K I v d
  | _, _, .nil => .inl ⟨rfl, rfl⟩
  | _, _, .cons (k := k1) (v := v) (d := d) a b => by
    unfold valD valV
    rw [List.find?_cons, List.find?_cons]
    by_cases e : k1 = k
    · rw [decide_eq_true e]; exact .inr ⟨v, d, rfl, rfl, a⟩
    · rw [decide_eq_false e]; exact RepK.val k b
theorem RepT.len : ∀ {vs : List (List Key × V)} {ds : List (List Key × D)}, RepT K I vs ds → vs.length = ds.length
  | _, _, .nil => rfl
  | _, _, .cons _ t => congrArg (· + 1) (RepT.len t)
theorem RepT.val (k : List Key) : ∀ {vs : List (List Key × V)} {ds : List (List Key × D)}, RepT K I vs ds → (valD ds k = none ∧ valV vs k = none) ∨ ∃ v d, valD ds k = some d ∧ valV vs k = some v ∧ Rep K I v d
  | _, _, .nil => .inl ⟨rfl, rfl⟩
  | _, _, .cons (k := k1) (v := v) (d := d) a b => by
    unfold valD valV
    rw [List.find?_cons, List.find?_cons]
    by_cases e : k1 = k
    · rw [decide_eq_true e]; exact .inr ⟨v, d, rfl, rfl, a⟩
    · rw [decide_eq_false e]; exact RepT.val k b
theorem RepT.anyK (k : List Key) : ∀ {vs : List (List Key × V)} {ds : List (List Key × D)}, RepT K I vs ds → (vs.any fun kv => decide (kv.1 = k)) = (ds.any fun kv => decide (kv.1 = k))
  | _, _, .nil => rfl
  | _, _, .cons _ r => by rw [List.any_cons, List.any_cons, RepT.anyK k r]
theorem RepT.mapP {k : List Key} {v : V} {d : D} (r : Rep K I v d) : ∀ {vs : List (List Key × V)} {ds : List (List Key × D)}, RepT K I vs ds → RepT K I (vs.map fun kv => if kv.1 = k then (kv.1, v) else kv) (ds.map fun kv => if kv.1 = k then (kv.1, d) else kv)
  | _, _, .nil => .nil
  | _, _, .cons (k := k1) a b => by
    simp only [List.map_cons]
    by_cases e : k1 = k
    · simp only [if_pos e]; exact .cons r (RepT.mapP r b)
    · simp only [if_neg e]; exact .cons a (RepT.mapP r b)
theorem RepT.snoc {k : List Key} {v : V} {d : D} (r : Rep K I v d) : ∀ {vs : List (List Key × V)} {ds : List (List Key × D)}, RepT K I vs ds → RepT K I (vs ++ [(k, v)]) (ds ++ [(k, d)])
  | _, _, .nil => .cons r .nil
  | _, _, .cons a b => .cons a (RepT.snoc r b)
theorem RepT.put {k : List Key} {v : V} {d : D} (r : Rep K I v d) {vs : List (List Key × V)} {ds : List (List Key × D)} (h : RepT K I vs ds) : RepT K I (putK vs k v) (putT ds k d) := by
  unfold putK putT
  rw [h.anyK k]
  split
  · exact h.mapP r
  · exact h.snoc r
def asD (M : Mp) (d : D) (k : List (Key × D) → Prop) : Prop := match d with
  | .dct kvs => k kvs
  | .ref a => (∃ kvs, M a = some (.dct kvs) ∧ k kvs) ∨ ∃ od us kvs, M a = some (.dctL od us kvs) ∧ k kvs
  | _ => False
theorem asD_out (hr : HR K I M F H) {v : V} {d : D} {k : List (Key × D) → Prop} (r : Rep K I v d) (h : asD M d k) : ∃ a vs kvs, v = .ref a ∧ Rd H a (.dK vs) ∧ RepK K I vs kvs ∧ k kvs := by
  cases r with
  | dct s rr => exact ⟨_, _, _, rfl, .inl (hr.imm _ _ s), rr, h⟩
  | ref a =>
    rcases h with ⟨kvs, e, q⟩ | ⟨od, us, kvs, e, q⟩
    · obtain ⟨vs, e1, rr⟩ := hr.dct e
      exact ⟨a, vs, kvs, rfl, .inl e1, rr, q⟩
    · obtain ⟨_, o, e1, rfl, rr⟩ := hr.mu a _ e
      exact ⟨a, us, kvs, rfl, .inr ⟨od, e1⟩, rr, q⟩
  | _ => exact h.elim
end
def dGetK : DR2 := fun x y M Q => asD M x fun kvs => ∃ k v, keyD y = some k ∧ valD kvs k = some v ∧ Q v M
def dInK (g : Bool → Bool) : DR2 := fun x y M Q => asD M y fun kvs => ∃ k, keyD x = some k ∧ Q (.bl (g (valD kvs k).isSome)) M
section
variable {X : Cx} {W : WX} {pos apos tpos : Pos} {a b o e f i : Expr} {ta tb to te tf ti : DTE}
theorem d_dget {k : Nat} (rm : Room k X.A) (ho : DE X W o to) (hi : DE X W i ti) (hs : NoSl i := by intro _ _; rfl) : DE X W (.Subscript o i pos) (dOp dGetK to ti) := by
  refine pe_imp (pe_dget (by have := rm.un; omega) ho hi hs) fun σ H Q h => ?_
  obtain ⟨I, M, F, δ, Qd, Ed, hr, rs, q, fq, fx⟩ := h
  refine ⟨I, M, F, δ, _, Ed, hr, rs, q, fun x M1 I1 H1 v q1 s1 hr1 r1 => ?_, fx⟩
  refine ⟨I1, M1, F, δ, _, Ed, hr1, rs.mono s1, q1, fun y M2 I2 H2 w q2 s2 hr2 r2 => ?_, fx.mono s1⟩
  obtain ⟨p, vs, kvs, rfl, rd, rr, kk, u, e1, e2, q⟩ := asD_out hr2 (r1.mono s2) q2
  cases keyD_out r2 e1
  rcases rr.val kk with ⟨z, _⟩ | ⟨v, d, z1, z2, z3⟩
  · rw [z] at e2; cases e2
  · rw [z1] at e2
    cases e2
    exact ⟨p, v, rfl, .inl ⟨vs, kk, rd, rfl, z2.symm⟩, fq _ M2 I2 H2 v q (s1.trans s2) hr2 z3⟩
theorem op_inK {k : Nat} (rm : Room k X.A) : OpR X (compareOp .In) (fun x y H Q => ∃ p o, y = .ref p ∧ DGet H p x o ∧ Q (.bl o.isSome) H) := fun pins s σ H x y v u Q J rx ry h => by
  obtain ⟨p, o, rfl, g, q⟩ := h
  cases ry
  exact d_in (by have := rm.un; omega) J g rx fun s' J' => ⟨.bl _, H, J', rfl, q⟩
theorem op_ninK {k : Nat} (rm : Room k X.A) : OpR X (compareOp .NotIn) (fun x y H Q => ∃ p o, y = .ref p ∧ DGet H p x o ∧ Q (.bl (!o.isSome)) H) := fun pins s σ H x y v u Q J rx ry h => by
  obtain ⟨p, o, rfl, g, q⟩ := h
  cases ry
  exact d_notIn (by have := rm.un; omega) J g rx fun s' J' => ⟨.bl _, H, J', rfl, q⟩
theorem lr_inK {K : PySem.W.Frag} {g : Bool → Bool} : LR K (fun x y H Q => ∃ p o, y = .ref p ∧ DGet H p x o ∧ Q (.bl (g o.isSome)) H) (dInK g) := fun I M F H x y dx dy Qd Q hr rx ry q fq => by
  obtain ⟨p, vs, kvs, rfl, rd, rr, kk, e1, q⟩ := asD_out hr ry q
  cases keyD_out rx e1
  refine ⟨p, valV vs kk, rfl, .inl ⟨vs, kk, rd, rfl, rfl⟩, ?_⟩
  have e2 : (valV vs kk).isSome = (valD kvs kk).isSome := by
    rcases rr.val kk with ⟨z1, z2⟩ | ⟨v, d, z1, z2, _⟩ <;> rw [z1, z2] <;> rfl
  rw [e2]
  exact fq _ M I H _ q (Same.refl I) hr (.bl _)
theorem lr_inK1 {K : PySem.W.Frag} : LR K (fun x y H Q => ∃ p o, y = .ref p ∧ DGet H p x o ∧ Q (.bl o.isSome) H) (dInK id) := lr_inK (g := id)
theorem lr_inK2 {K : PySem.W.Frag} : LR K (fun x y H Q => ∃ p o, y = .ref p ∧ DGet H p x o ∧ Q (.bl (!o.isSome)) H) (dInK not) := lr_inK (g := not)
def gdSubD (to ti : DTE) : DTG := fun d δ M Q E => to δ M (fun x M1 => ti δ M1 (fun y M2 => ∃ p kvs k, x = .ref p ∧ M2 p = some (.dct kvs) ∧ keyD y = some k ∧ kvs.length < sizeLine ∧ Q δ (updM M2 p (.dct (putD kvs k d)))) E) E
theorem g_subD {k : Nat} (rm : Room k X.A) (ho : DE X W o to) (hi : DE X W i ti)
    (hq : ∀ z, assign (.Subscript o i pos) X.env z = (do let x1 ← holding [z] (eval o X.env); let x2 ← holding [z, x1] (eval i X.env); standAt pos; holding [z, x1, x2] (setItem x1 x2 z); release [z, x1, x2] []) := by intro _; rfl) : DG X W (.Subscript o i pos) (gdSubD to ti) := pg_imp (pg_sub ho hi (set_dict (by have := rm.un; omega)) hq) fun v σ H Q h => by
  obtain ⟨I, M, F, δ, d, Qd, Ed, hr, rs, r, q, fq, fx⟩ := h
  refine ⟨I, M, F, δ, _, Ed, hr, rs, q, fun x M1 I1 H1 vo q1 s1 hr1 r1 => ?_, fx⟩
  refine ⟨I1, M1, F, δ, _, Ed, hr1, rs.mono s1, q1, fun y M2 I2 H2 vi q2 s2 hr2 r2 => ?_, fx.mono s1⟩
  obtain ⟨p, kvs, kk, rfl, e, e1, hl, q⟩ := q2
  cases r1
  cases keyD_out r2 e1
  obtain ⟨vs, e2, rr⟩ := hr2.dct e
  have s12 := s1.trans s2
  exact ⟨p, _, rfl, .inl ⟨vs, kk, e2, rfl, by rw [rr.len]; exact hl, rfl⟩, fq _ _ I2 _ _ q s12 (hr2.write e (fun _ _ z => nomatch z) (o := .dK (putK vs kk v)) (m := .dct (putD kvs kk d)) ⟨_, rfl, rr.put (r.mono s12)⟩) (rs.mono s12)⟩
end
section
variable {X : Cx} {W : WX} {pos apos tpos p : Pos} {a b o e f i : Expr} {es : List Expr} {ta tk : DTA} {tb to te tf ti tv : DTE}
end
def DEnds.lk (Dd : DEnds) (a : Addr) (mL m : MO) : DEnds := { nx := fun δ M => M a = some mL ∧ Dd.nx δ (updM M a m), rt := fun v M => M a = some mL ∧ Dd.rt v (updM M a m), ex := Dd.ex, bk := fun δ M => M a = some mL ∧ Dd.bk δ (updM M a m), ct := fun δ M => M a = some mL ∧ Dd.ct δ (updM M a m) }
def dLockK (t : DTS) : DTS := fun Dd δ M => ∃ a kvs, M a = some (.dct kvs) ∧ ∀ od us, t (Dd.lk a (.dctL od us kvs) (.dct kvs)) δ (updM M a (.dctL od us kvs))
theorem lk_fin {K : PySem.W.Frag} {W : WX} {I F : Hp} {Dd : DEnds} {Dn : Ends} {a : Addr} {u : HO} {od : Obj} {mL m : MO} (f : FinS K W I F Dd Dn) (hL : ∀ I' H' o, RepO K I' H' a o mL → o = .frz od u ∧ RepO K I' H' a u m) (nx : ∀ C fs, mL ≠ .exc C fs) :
    FinS K W I F (Dd.lk a mL m) ⟨fun σ' H' => H' a = some (.frz od u) ∧ Dn.nx σ' (upd H' a u), fun v H' => H' a = some (.frz od u) ∧ Dn.rt v (upd H' a u), fun σ' H' => H' a = some (.frz od u) ∧ Dn.bk σ' (upd H' a u), fun σ' H' => H' a = some (.frz od u) ∧ Dn.ct σ' (upd H' a u)⟩ := by
  have key : ∀ {M' I' H'}, HR K I' M' F H' → M' a = some mL → H' a = some (.frz od u) ∧ HR K I' (updM M' a m) F (upd H' a u) := fun hr e => by
    obtain ⟨_, o, e1, r⟩ := hr.mu a _ e
    obtain ⟨rfl, r2⟩ := hL _ _ _ r
    exact ⟨e1, hr.write e nx r2⟩
  refine ⟨fun δ' M' I' H' σ' q s hr rs => ?_, fun d M' I' H' v q s hr r => ?_, f.ex, fun δ' M' I' H' σ' q s hr rs => ?_, fun δ' M' I' H' σ' q s hr rs => ?_⟩
  · obtain ⟨k1, k2⟩ := key hr q.1
    exact ⟨k1, f.nx _ _ _ _ _ q.2 s k2 rs⟩
  · obtain ⟨k1, k2⟩ := key hr q.1
    exact ⟨k1, f.rt _ _ _ _ _ q.2 s k2 r⟩
  · obtain ⟨k1, k2⟩ := key hr q.1
    exact ⟨k1, f.bk _ _ _ _ _ q.2 s k2 rs⟩
  · obtain ⟨k1, k2⟩ := key hr q.1
    exact ⟨k1, f.ct _ _ _ _ _ q.2 s k2 rs⟩
section
variable {X : Cx} {W : WX} {st : Stmt} {t : DTS}
theorem s_lockK (h : DSt X W st t) : DSt X W st (dLockK t) := ps_imp (ps_lock h) fun Dn σ H q => by
  obtain ⟨I, M, F, δ, Dd, hr, rs, ⟨a, kvs, em, q⟩, f⟩ := q
  obtain ⟨_, o, e1, us, rfl, rr⟩ := hr.mu a _ em
  refine ⟨a, _, e1, trivial, fun od => ⟨I, _, F, δ, _, hr.write em (fun _ _ z => nomatch z) (m := .dctL od us kvs) ⟨rfl, rr⟩, rs, q od us, lk_fin f (fun I' H' o r => ⟨r.1, us, rfl, r.2⟩) fun _ _ z => nomatch z⟩⟩
end
theorem rep_key {K : PySem.W.Frag} {I : Hp} (k : Key) : Rep K I (kV k) (kD k) := by
  cases k with
  | inl i => exact .int i
  | inr s => exact .str s
section
variable {X : Cx} {pins : List (Addr × Obj)} {σ : L2.St} {H : Hp} {s : Shared} {d : Addr} {od : Obj} {us : List (List Key × V)}
end
section
variable {X : Cx} {W : WX} {apos cpos tpos : Pos} {e : Expr} {te : DTE} {elts : List Expr} {kk : Nat}
end
section
variable {X : Cx} {W : WX} {pos p : Pos} {e : Expr} {te : DTE} {k : Nat} {C : Addr} {ps : List Str} {sp : DSp} {pats : List Pat} {gg : List D → List D → List D}
end
def gdList : List DTG → DTGs
  | [] => fun ds δ M Q _ => ds = [] ∧ Q δ M
  | g :: gs => fun ds δ M Q E => match ds with
    | d :: r => g d δ M (fun δ1 M1 => gdList gs r δ1 M1 Q E) (fun _ _ _ => False)
    | [] => False
section
variable {X : Cx} {W : WX} {pos : Pos} {e : Expr} {es : List Expr} {g : DTG} {gs : List DTG} {t : DTGs}
theorem gl_nil : DGs X W [] (gdList []) := pgs_imp pgs_nil fun v σ H Q h => by
  obtain ⟨I, M, F, δ, ds, Qd, Ed, hr, rs, r, ⟨e, q⟩, fq, fx⟩ := h
  subst e
  cases r
  exact ⟨rfl, fq _ M I H _ q (Same.refl I) hr rs⟩
theorem gl_E : ∀ (gs : List DTG) (ds : List D) (δ : DS) (M : Mp) (Q : DS → Mp → Prop) (E E' : DXK), (∀ g ∈ gs, ∀ d δ M (Q Q' : DS → Mp → Prop), (∀ δ M, Q δ M → Q' δ M) → g d δ M Q (fun _ _ _ => False) → g d δ M Q' (fun _ _ _ => False)) → gdList gs ds δ M Q E → gdList gs ds δ M Q E'
  | [], _, _, _, _, _, _, _, h => h
  | g :: gs, [], _, _, _, _, _, _, h => False.elim h
  | g :: gs, d :: r, δ, M, Q, E, E', hm, h => hm g List.mem_cons_self _ _ _ _ _ (fun δ1 M1 h1 => gl_E gs r δ1 M1 Q E E' (fun g hg => hm g (List.mem_cons_of_mem _ hg)) h1) h
theorem gl_cons (h1 : DG X W e g) (h2 : DGs X W es (gdList gs)) (mo : ∀ g ∈ gs, ∀ d δ M (Q Q' : DS → Mp → Prop), (∀ δ M, Q δ M → Q' δ M) → g d δ M Q (fun _ _ _ => False) → g d δ M Q' (fun _ _ _ => False))
    (hs : (assignEach (e :: es) X.env).map (·.2) = assign e X.env :: (assignEach es X.env).map (·.2) := by rfl) : DGs X W (e :: es) (gdList (g :: gs)) :=
  pgs_imp (pgs_cons h1 h2 hs) fun v σ H Q h => by
    obtain ⟨I, M, F, δ, ds, Qd, Ed, hr, rs, r, q, fq, fx⟩ := h
    cases r with
    | nil => exact False.elim q
    | @cons v1 d1 vr dr r1 rr => exact ⟨v1, vr, rfl, I, M, F, δ, d1, _, fun _ _ _ => False, hr, rs, r1, q, fun δ' M' I' H' σ' q' s' hr' rs' => ⟨I', M', F, δ', dr, Qd, fun _ _ _ => False, hr', rs', rr.mono s', gl_E gs dr _ _ _ _ _ mo q', fun a b c d e f g h i => fq a b c d e f (s'.trans g) h i, fun _ _ _ _ _ _ z => False.elim z⟩, fun _ _ _ _ _ _ z => False.elim z⟩
def MonoG (g : DTG) : Prop := ∀ d δ M (Q Q' : DS → Mp → Prop), (∀ δ M, Q δ M → Q' δ M) → g d δ M Q (fun _ _ _ => False) → g d δ M Q' (fun _ _ _ => False)
theorem mono_nil : ∀ g ∈ ([] : List DTG), MonoG g := fun _ z => nomatch z
theorem mono_cons {g : DTG} {gs : List DTG} (h : MonoG g) (r : ∀ g ∈ gs, MonoG g) : ∀ k ∈ g :: gs, MonoG k := fun k hk => by
  rcases List.mem_cons.mp hk with rfl | hk
  · exact h
  · exact r k hk
theorem g_tupG {k n : Nat} (hc : X.calm = true) (h : DGs X W es t) (hn : (assignEach es X.env).length = n := by rfl) (hst : (assignEach es X.env).findIdx? (·.1) = none := by rfl) : DG X W (.Tuple es k pos) (gdTup n t) :=
  pg_imp (pg_tup hc h hn hst) fun v σ H Q h => by
    obtain ⟨I, M, F, δ, d, Qd, Ed, hr, rs, r, q, fq, fx⟩ := h
    cases r with
    | @tup a vs ds s rr => exact ⟨a, vs, rfl, hr.st s, by rw [rr.len]; exact q.1, I, M, F, δ, ds, Qd, Ed, hr, rs, rr, q.2, fq, fx⟩
    | _ => exact False.elim q
end
end DL
namespace DL
open PySem L2
def deedsW : List Str := ["wake", "doze", "ready", "sleep", "late", "still"]
def endsW : List Str := ["busy", "broken"]
def fD (n d : Str) (k : Int) (w : Str) : D := .tup [.str n, .str d, .int k, .str w]
def k3 : D → List Key
  | .tup [.str n, .str d, .int k, _] => [.inr n, .inr d, .inl k]
  | _ => []
def w4 : D → D
  | .tup [_, _, _, w] => w
  | _ => .non
def FsP : D → Prop
  | .str s => s.length ≤ 100000 ∧ Ok s
  | .non => True | .bl _ => True | .int _ => True | .lst _ => True | .tup _ => True | .dct _ => True
  | _ => False
def Fs (M : Mp) : D → Prop
  | .tup xs => xs.length ≤ 16000 ∧ ∀ x ∈ xs, FsP x
  | .ref a => ∃ m, M a = some m ∧ okM m
  | .str s => s.length ≤ 100000 ∧ Ok s
  | .non => True | .bl _ => True | .int _ => True | .lst _ => True | .dct _ => True
  | _ => False
theorem FsP.th {M : Mp} {d : D} (h : FsP d) : Th M d := by
  cases d <;> first | exact h | trivial
theorem Fs.ext {M M' : Mp} (x : Ext M M') {d : D} (h : Fs M d) : Fs M' d := by
  cases d with
  | ref a => obtain ⟨m, e, t⟩ := h; exact ⟨m, x a m e, t⟩
  | _ => exact h
structure Drv (C : Addr) (M : Mp) (x d1 d2 : Addr) (kvs tms : List (List Key × D)) : Prop where
  ins : M x = some (.ins C [("fault_words", .ref d1), ("times", .ref d2)])
  fw : M d1 = some (.dT kvs)
  tm : M d2 = some (.dT tms)
  n1 : d1 ≠ x
  n2 : d2 ≠ x
  n12 : d1 ≠ d2
def hasK (k : List Key) (ks : List (List Key)) : Bool := ks.any fun z => decide (z = k)
inductive Dv where
  | list | fault (d : D) | doubled (ks : List Key) | told
def Bk (M : Mp) : D → Prop
  | .non => True | .bl _ => True | .int _ => True | .str _ => True | .lst _ => True | .tup _ => True | .dct _ => True
  | .ref a => ∃ xs, M a = some (.lst xs)
  | _ => False
def Fg (M : Mp) (d : D) : Prop := Bk M d ∧ ∀ xs, seqD M d = some xs → xs.length ≤ 100000 ∧ ∀ x ∈ xs, Fs M x
theorem Bk.ext {M M' : Mp} (x : Ext M M') {d : D} (h : Bk M d) : Bk M' d := by
  cases d with
  | ref a => obtain ⟨ys, e⟩ := h; exact ⟨ys, x a _ e⟩
  | _ => exact h
theorem seqD_bk {M M' : Mp} (x : Ext M M') {d : D} (h : Bk M d) : seqD M' d = seqD M d := by
  cases d with
  | ref a => obtain ⟨xs, e⟩ := h; simp only [seqD, e, x a _ e]
  | _ => rfl
theorem Fg.ext {M M' : Mp} (x : Ext M M') {d : D} (h : Fg M d) : Fg M' d := ⟨h.1.ext x, fun xs e => by
  rw [seqD_bk x h.1] at e
  obtain ⟨a, b⟩ := h.2 xs e
  exact ⟨a, fun y hy => (b y hy).ext x⟩⟩
def pk : Key → PyData
  | .inl i => .int i
  | .inr s => .str s
def PyK (ks : List Key) : PyData := .tuple (ks.map pk)
theorem pyOf_keys {M : Mp} : ∀ ks : List Key, Paired (PyOf M) (ks.map kD) (ks.map pk)
  | [] => .nil
  | .inl i :: r => .cons (.int i) (pyOf_keys r)
  | .inr s :: r => .cons (.str s) (pyOf_keys r)
theorem pyOf_k {M : Mp} (ks : List Key) : PyOf M (.tup (ks.map kD)) (PyK ks) := .tup (pyOf_keys ks)
theorem pyOf_ks {M : Mp} : ∀ l : List (List Key), Paired (PyOf M) (l.map fun ks => .tup (ks.map kD)) (l.map PyK)
  | [] => .nil
  | ks :: r => .cons (pyOf_k ks) (pyOf_ks r)
theorem pk_eqv (a b : Key) : PyData.eqv (pk a) (pk b) = decide (a = b) := by
  cases a with
  | inl i => cases b with
    | inl j =>
      simp only [pk, PyData.eqv]
      by_cases h : i = j
      · subst h; simp
      · simp [h]
    | inr s => simp [pk, PyData.eqv]
  | inr s => cases b with
    | inl j => simp [pk, PyData.eqv]
    | inr t =>
      simp only [pk, PyData.eqv]
      by_cases h : s = t
      · subst h; simp
      · simp [h]
theorem pks_eqv : ∀ a b : List Key, PyData.eqvAll (a.map pk) (b.map pk) = decide (a = b)
  | [], [] => by simp [PyData.eqvAll]
  | [], _ :: _ => by simp [PyData.eqvAll]
  | _ :: _, [] => by simp [PyData.eqvAll]
  | x :: a, y :: b => by
    simp only [List.map_cons, PyData.eqvAll, pk_eqv, pks_eqv a b]
    by_cases h : x = y
    · by_cases k : a = b
      · simp [h, k]
      · simp [h, k]
    · simp [h]
theorem PyK_eqv (a b : List Key) : PyData.eqv (PyK a) (PyK b) = decide (a = b) := by
  unfold PyK
  rw [show PyData.eqv (.tuple (a.map pk)) (.tuple (b.map pk)) = PyData.eqvAll (a.map pk) (b.map pk) from by simp [PyData.eqv]]
  exact pks_eqv a b
def OkK : Key → Prop
  | .inl _ => True
  | .inr s => Ok s
theorem pks_lay : ∀ ks : List Key, (∀ k ∈ ks, OkK k) → PyData.canLayAll0 (ks.map pk) = true ∧ PyData.depthAll (ks.map pk) = 0
  | [], _ => ⟨by simp [PyData.canLayAll0], by simp [PyData.depthAll]⟩
  | k :: r, h => by
    obtain ⟨a, b⟩ := pks_lay r fun x hx => h x (List.mem_cons_of_mem _ hx)
    have hk := h k List.mem_cons_self
    cases k with
    | inl i => exact ⟨by simp [PyData.canLayAll0, PyData.canLay0, pk, a], by simp [PyData.depthAll, PyData.depth, pk, b]⟩
    | inr s =>
      have e : PyData.strOk s = true := by
        unfold PyData.strOk
        rw [← Array.all_toList, List.all_eq_true]
        exact fun c hc => decide_eq_true (hk c hc)
      exact ⟨by simp [PyData.canLayAll0, PyData.canLay0, e, pk, a], by simp [PyData.depthAll, PyData.depth, pk, b]⟩
theorem PyK_lay {ks : List Key} (h : ∀ k ∈ ks, OkK k) : PyData.canLay0 (PyK ks) = true ∧ PyData.depth (PyK ks) = 1 := by
  obtain ⟨a, b⟩ := pks_lay ks h
  unfold PyK
  exact ⟨by simp [PyData.canLay0, a], by simp [PyData.depth, b]⟩
theorem PyK_shaped {ks : List Key} (h : ∀ k ∈ ks, OkK k) : SeqAt.shaped (PyK ks) = true := by
  obtain ⟨a, b⟩ := PyK_lay h
  unfold SeqAt.shaped
  rw [a, b]
  rfl
theorem PyKs_lay : ∀ l : List (List Key), (∀ ks ∈ l, ∀ k ∈ ks, OkK k) → PyData.canLayAll0 (l.map PyK) = true ∧ PyData.depthAll (l.map PyK) ≤ 1
  | [], _ => ⟨by simp [PyData.canLayAll0], by simp [PyData.depthAll]⟩
  | ks :: r, h => by
    obtain ⟨a, b⟩ := PyKs_lay r fun x hx => h x (List.mem_cons_of_mem _ hx)
    obtain ⟨c, d⟩ := PyK_lay (h ks List.mem_cons_self)
    refine ⟨by simp [PyData.canLayAll0, a, c], ?_⟩
    simp only [List.map_cons, PyData.depthAll, d]
    omega
theorem PyKs_shaped {l : List (List Key)} (h : ∀ ks ∈ l, ∀ k ∈ ks, OkK k) : SeqAt.shaped (.list (l.map PyK)) = true := by
  obtain ⟨a, b⟩ := PyKs_lay l h
  unfold SeqAt.shaped
  rw [show PyData.canLay0 (.list (l.map PyK)) = true from by simp [PyData.canLay0, a], Bool.true_and]
  refine decide_eq_true ?_
  simp only [PyData.depth]
  omega
theorem any_keys (k : List Key) : ∀ l : List (List Key), ((l.map PyK).any fun z => PyData.eqv z (PyK k)) = hasK k l
  | [] => rfl
  | a :: r => by
    have ih := any_keys k r
    unfold hasK at ih ⊢
    rw [List.map_cons, List.any_cons, List.any_cons, ih, PyK_eqv]
def GF (d : D) : Prop := ∃ n dd k w, d = fD n dd k w ∧ Nm n ∧ dd ∈ deedsW ∧ 1 ≤ k ∧ k ≤ 30 ∧ w ∈ endsW
theorem GF.first {d : D} (h : GF d) : ∃ xs, d = .tup xs ∧ cutD xs none (some 3) = (k3 d).map kD := by
  obtain ⟨n, dd, k, w, rfl, _⟩ := h
  exact ⟨_, rfl, rfl⟩
end DL
namespace DL
open PySem PySem.Spec PyProof.Rows L2
def getMd (kvs : List (Str × Str)) (z : Str) : Option Str := (kvs.find? fun p => decide (p.1 = z)).map (·.2)
structure MDict (K : PySem.W.Frag) (w : World) (a : Addr) (kvs : List (Str × Str)) : Prop where
  kd : ∃ es n, KDict K w a es n
  has : ∀ z y, getMd kvs z = some y → ∃ t, PySem.W.nsIn K a z = some (some (.str y t))
  no : ∀ z, getMd kvs z = none → PySem.W.nsIn K a z = some none
section
variable {X : Cx} {W : WX} {pos p apos : Pos} {a e o : Expr} {ta te to : DTE} {x : Str} {kvs : List (Str × Str)}
end
def dDcL (t : TgI) (tk tv : DTE) (src : Src) (vs : List Nat) (δ : DS) (k : List (Key × D) → Mp → Prop) : List D → List (Key × D) → Mp → Prop
  | [], acc, M => src.ok M (k acc M)
  | x :: r, acc, M => src.ok M (t.d x (dwipe δ vs) fun δ2 => tk δ2 M (fun y M3 => tv δ2 M3 (fun z M4 => ∃ kk, keyD y = some kk ∧ dDcL t tk tv src vs δ k r (putD acc kk z) M4) E0d) E0d)
def dDc (di : DTI) (t : TgI) (tk tv : DTE) (vs : List Nat) : DTE := fun δ M Q E => di δ M (fun xs src M1 => xs.length < sizeLine ∧ dDcL t tk tv src vs δ (fun acc M2 => ∀ p, M2 p = none → Q (.ref p) (updM M2 p (.dct acc))) xs [] M1) E
section
variable {X : Cx} {W : WX} {kx vx tg iter : Expr} {scope : Scope} {own : List (Str × Nat)} {pos : Pos} {di : DTI} {t : TgI} {tk tv : DTE}
end
section
variable {X : Cx} {W : WX} {o i value : Expr} {to ti tv : DTE} {pos tpos : Pos} {op : Operator} {r : DR2} {r' : R2}
end
section
variable {X : Cx} {W : WX} {o : Expr} {p pos apos mpos : Pos} {td : TE} {to : DTE}
end
theorem mono_subV (i j : Nat) : MonoG (gdSubL (dVar i) (dVar j)) := fun d δ M Q Q' h q => by
  obtain ⟨x, e1, y, e2, q⟩ := q
  refine ⟨x, e1, y, e2, ?_⟩
  cases x with
  | ref a => cases y with
    | int k => obtain ⟨xs, f1, l, f2, q⟩ := q; exact ⟨xs, f1, l, f2, h _ _ q⟩
    | _ => exact False.elim q
  | _ => exact False.elim q
def boolI (b : Bool) : Int := if b then 1 else 0
section
variable {X : Cx} {W : WX} {e : Expr} {tr : DTA} {pos p : Pos}
theorem call_intB : CallR X (.type "int") (fun xs H Q => ∃ b, xs = [.bl b] ∧ Q (.int (boolI b)) H) := by
  intro pins s σ H xs us Q J r h
  obtain ⟨b, rfl, q⟩ := h
  obtain ⟨u, rfl, ru⟩ := vals1 r
  cases (show u = Value.bool b from ru)
  exact call_int_bool ⟨.int (boolI b), H, J.tok _, ⟨_, rfl⟩, q⟩
def dIntB : DRC := fun ds M Q => one ds fun d => match d with | .bl b => Q (.int (boolI b)) M | _ => False
theorem lc_intB {K : PySem.W.Frag} : LC K (fun xs H Q => ∃ b, xs = [.bl b] ∧ Q (.int (boolI b)) H) dIntB := fun I M F H vs ds Qd Q hr rs q fq => by
  obtain ⟨v, d, rfl, r, q⟩ := one_out rs q
  cases r with
  | bl b => exact ⟨b, rfl, fq _ M I H _ q (Same.refl I) hr (.int _)⟩
  | _ => exact False.elim q
theorem d_intB (hm : X.mg "int" = none) (ha : DA X W [e] tr) (he : starEach [e] X.env = (false, eval e X.env) :: starEach [] X.env := by rfl) (hg : Gl X "int" := by rfl) : DE X W (.Call (.Name "int" p) [e] [] pos) (dCB dIntB tr) :=
  d_callTy call_intB lc_intB hm (by decide +kernel) ha hg (he := he)
end
section
variable {X : Cx} {W : WX} {kx vx tg iter : Expr} {scope : Scope} {own : List (Str × Nat)} {pos : Pos} {di : DTI} {t : TgI} {tk tv : DTE}
theorem dc_lift {K : PySem.W.Frag} {src : Src} {vs : List Nat} {δ : DS} {k : List (Key × D) → Mp → Prop} {xs : List D} {J : It} {I1 F H1 : Hp} {M1 : Mp} {σ : L2.St} {Qd : Addr → Hp → Prop}
    (hin : t.in vs = true) (hl : xs.length < sizeLine) (hr1 : HR K I1 M1 F H1) (rs : RepS K I1 σ δ) (wk : DWalk K I1 J xs src) (q1 : dDcL t tk tv src vs δ k xs [] M1)
    (fin : ∀ p I' M' H' aV acc, F p = none → Same I1 I' → HR K I' M' (upd F p (.dK aV)) H' → RepK K I' aV acc → k acc M' → Qd p H') (P : Addr) (hP : H1 P = none) :
    ∃ Wv : Nat → Nat → Hp → Prop, (∃ m, Wv 0 m (upd H1 P (.dK []))) ∧ ∀ i m H, Wv i m H →
      (J.stop i H ∧ Qd P H) ∨ (J.go i H ∧ ∃ Nx : Hp → Prop, (∀ H', Nx H' → ∃ m', m' < m ∧ Wv (i + 1) m' H') ∧ ∀ x H', J.yld i H x H' → t.v K x (wipe σ vs) H' fun σ2 H2 => wipe σ2 vs = wipe σ vs ∧ lT K W0 dYes σ2 H2 fun b H3 =>
        if b = true then lE K W0 tk σ2 H3 fun y H4 => lE K W0 tv σ2 H4 fun z H5 => ∃ kvs k, y = kV k ∧ H5 P = some (.dK kvs) ∧ kvs.length < sizeLine ∧ Nx (upd H5 P (.dK (putK kvs k z))) else Nx H3) := by
  have hF := (hr1.fresh hP).2.2
  refine ⟨fun i m H => m = xs.length - i ∧ i ≤ xs.length ∧ ∃ I' M' aV acc, Same I1 I' ∧ HR K I' M' (upd F P (.dK aV)) H ∧ RepK K I' aV acc ∧ acc.length ≤ i ∧ dDcL t tk tv src vs δ k (xs.drop i) acc M',
    ⟨xs.length, by simp, Nat.zero_le _, I1, M1, [], [], Same.refl I1, hr1.newF hP _, .nil, Nat.le_refl _, q1⟩, ?_⟩
  rintro i m H ⟨rfl, hi, I', M', aV, acc, s', hr', ra, la, q'⟩
  by_cases hlt : i < xs.length
  · right
    rw [List.drop_eq_getElem_cons hlt] at q'
    obtain ⟨ho, q'⟩ := Src.ok_iff q'
    refine ⟨wk.goes i I' M' _ H hlt s' hr' ho, fun H2 => ∃ I2 M2 bV b, Same I1 I2 ∧ HR K I2 M2 (upd F P (.dK bV)) H2 ∧ RepK K I2 bV b ∧ b.length ≤ i + 1 ∧ dDcL t tk tv src vs δ k (xs.drop (i + 1)) b M2, fun H2 z => ⟨xs.length - (i + 1), by omega, rfl, hlt, z⟩, fun x H2 y => ?_⟩
    obtain ⟨I2, d, s2, hr2, e, r⟩ := wk.yields i x I' M' _ H H2 hlt s' hr' ho y
    rw [List.getElem?_eq_getElem hlt] at e
    cases e
    have s12 := s'.trans s2
    refine TgI.run hin hr2 r (rs.mono s12) q' fun σ2 δ2 rs2 ew q2 => ⟨ew, I2, M', upd F P (.dK aV), δ2, (fun b M3 => b = true ∧ M3 = M'), _, hr2, rs2, ⟨rfl, rfl⟩, fun b M3 I3 H3 q3 s3 hr3 => ?_, fun _ _ _ _ _ _ z => False.elim z⟩
    obtain ⟨rfl, rfl⟩ := q3
    refine (if_pos rfl).mpr ⟨I3, M3, upd F P (.dK aV), δ2, _, _, hr3, rs2.mono s3, q2, fun y4 M4 I4 H4 v4 q4 s4 hr4 r4 => ?_, fun _ _ _ _ _ _ z => False.elim z⟩
    refine ⟨I4, M4, upd F P (.dK aV), δ2, _, _, hr4, (rs2.mono s3).mono s4, q4, fun z5 M5 I5 H5 v5 q5 s5 hr5 r5 => ?_, fun _ _ _ _ _ _ z => False.elim z⟩
    obtain ⟨kk, ek, q5⟩ := q5
    have ra5 := (((ra.mono s2).mono s3).mono s4).mono s5
    cases keyD_out (r4.mono s5) ek
    refine ⟨aV, kk, rfl, hr5.atF.1, by rw [ra5.len]; omega, I5, M5, putK aV kk v5, putD acc kk z5, ((s12.trans s3).trans s4).trans s5, hr5.reF (fun _ z => nomatch z) _, ra5.put r5, ?_, q5⟩
    have l1 := length_putK aV kk v5
    have l2 := (ra5.put (k := kk) r5).len
    rw [← l2]
    have l3 := ra5.len
    omega
  · left
    have e : i = xs.length := by omega
    subst e
    rw [List.drop_length] at q'
    obtain ⟨ho, q'⟩ := Src.ok_iff q'
    exact ⟨wk.stops I' M' _ H s' hr' ho, fin P I' M' H aV acc hF s' hr' ra q'⟩
theorem sw_dc {kx vx : Expr} {gs : List Comprehension} {y : Str} {py : Pos} {l : Nat} {env : Env} (fk : env.scope.kind = .function) (ly : env.scope.names.lookup y = some .local) (same : (py.line == pos.line) = true)
    (no : (scope.names.any fun (n, k) => n == y && (k == .local || k == .cell)) = false) : swapsWith (.DictComp kx vx gs scope pos) (some (.Name y py)) l env = pure true := by
  have k1 : env.blockKind = .function := by unfold Env.blockKind; rw [fk]; rfl
  have k2 : env.kindOf y = some .local := ly
  unfold swapsWith
  simp only [k1, k2, no, Expr.pos, same]
  rfl
theorem ps_setDc {i : Nat} {y : Str} {py spos : Pos} {wi : TI} {g : TG} {tk tv : TE} (cm : X.calm = true) (nd : X.N.Nodup) (hy : X.N[i]? = some y) (ly : X.env.scope.names.lookup y = some .local)
    (sw : swapsWith (.DictComp kx vx [⟨tg, iter, [], 0⟩] scope pos) (some (.Name y py)) spos.line X.env = pure true) (hi : PI X tg iter wi) (ok : BlkOk X.N X.env.scope scope own)
    (pg : ∀ (s : Shared) (H : Hp) (C : Addr) (cl : List (Str × Addr)) (fp : List Addr), PG (X.blk s H scope (compEnvC scope cl C X.env) fp) tg g)
    (pk : ∀ (s : Shared) (H : Hp) (C : Addr) (cl : List (Str × Addr)) (fp : List Addr), PE (X.blk s H scope (compEnvC scope cl C X.env) fp) kx tk)
    (pv : ∀ (s : Shared) (H : Hp) (C : Addr) (cl : List (Str × Addr)) (fp : List Addr), PE (X.blk s H scope (compEnvC scope cl C X.env) fp) vx tv) (fo : ∀ x, foldedSetIterable iter X.env x = pure x) :
    PS X (.Assign [.Name y py] (.DictComp kx vx [⟨tg, iter, [], 0⟩] scope pos) spos) (tAsg (tDc wi g (lT X.K W0 dYes) tk tv (own.map (·.2))) (gName i)) := by
  refine ⟨fun pins s σ H D J q => ?_⟩
  rw [exec_Assign_Name_used _ _ _ _ sw]
  refine wpAny_bind (wpAny_standAt (wpAny_bind ?_))
  show wpAny _ X.A (do let _ ← comprehension (.DictComp kx vx [⟨tg, iter, [], 0⟩] scope pos) scope X.env (firstIterPos [⟨tg, iter, [], 0⟩] pos) newDict false (eval iter X.env) (some (assign (.Name y py) X.env))) _ _ s
  have q : tDc wi g (lT X.K W0 dYes) tk tv (own.map (·.2)) σ H (fun x H1 => gName i x σ H1 D.nx) := q
  have pt : ∀ (s : Shared) (H : Hp) (C : Addr) (cl : List (Str × Addr)) (fp : List Addr), PTs (X.blk s H scope (compEnvC scope cl C X.env) fp) [] (lT X.K W0 dYes) := fun s H C cl fp => (ts_nil : DTs (X.blk s H scope (compEnvC scope cl C X.env) fp) [] dYes)
  refine wpAny_bind (thn (dc_core (Qf := fun _ s' => SP X pins D .next s') (tt := lT X.K W0 dYes) cm nd J hi ok pg pt pk pv fo q fun P C s' m H' J' z hm f => ?_) fun _ s' hq => wpAny_pure (wpAny_pure hq))
  show wpAny _ _ (assign (.Name y py) X.env (.ref P)) _ _ _
  refine wpAny_assign_Name (store_ok2 (v := V.ref P) J' nd hy (.inl ly) rfl (fun s2 J2 ⟨a, sb, ha⟩ => ?_) (.inr ly))
  obtain ⟨f0, f1, f2, f3, f4, f5⟩ := f
  have ne : C ≠ a := by
    rcases ha with e | e
    · rw [e]; exact f1
    · exact fun e2 => f4 y a e e2.symm
  exact ⟨m, hm.sameBut sb ne, fun h3 sb3 => ⟨_, H', J2.turned (t' := s2.toks) (fun b o hb e => (sb3.2 b hb).trans e) f0 f1 f3 f4 f5, z⟩⟩
theorem s_setDc (i : Nat) (N : List Str) (sc : Scope) (own : List (Str × Nat)) {y : Str} {py spos : Pos} (g : Good X W) (hN : X.N.Nodup) (hi : DI X W tg iter di) (ok : blkC N sc scope own = true) (hin : t.in (own.map (·.2)) = true)
    (hg : ∀ (s : Shared) (H : Hp) (C : Addr) (cl : List (Str × Addr)) (fp : List Addr), Good (X.blk s H scope (compEnvC scope cl C X.env) fp) W0 → PG (X.blk s H scope (compEnvC scope cl C X.env) fp) tg (t.v X.K))
    (hk : ∀ (s : Shared) (H : Hp) (C : Addr) (cl : List (Str × Addr)) (fp : List Addr), Good (X.blk s H scope (compEnvC scope cl C X.env) fp) W0 → DE (X.blk s H scope (compEnvC scope cl C X.env) fp) W0 kx tk)
    (hv : ∀ (s : Shared) (H : Hp) (C : Addr) (cl : List (Str × Addr)) (fp : List Addr), Good (X.blk s H scope (compEnvC scope cl C X.env) fp) W0 → DE (X.blk s H scope (compEnvC scope cl C X.env) fp) W0 vx tv)
    (hsw : swapsWith (.DictComp kx vx [⟨tg, iter, [], 0⟩] scope pos) (some (.Name y py)) spos.line X.env = pure true) (hy : X.N[i]? = some y := by rfl) (hyl : X.env.scope.names.lookup y = some .local := by rfl) (hs : ∀ x, foldedSetIterable iter X.env x = pure x := by intro _; rfl) (eN : X.N = N := by rfl) (es : X.env.scope = sc := by rfl) :
    DSt X W (.Assign [.Name y py] (.DictComp kx vx [⟨tg, iter, [], 0⟩] scope pos) spos) (dAsg (dDc di t tk tv (own.map (·.2))) (gdName i)) := by
  refine ps_imp (ps_setDc (i := i) (own := own) (g := t.v X.K) (tk := lE X.K W0 tk) (tv := lE X.K W0 tv) g.calm hN hy hyl hsw hi (by rw [eN, es]; exact blkOk_by ok) (fun s H C cl fp => hg s H C cl fp (good_blk g ..)) (fun s H C cl fp => hk s H C cl fp (good_blk g ..)) (fun s H C cl fp => hv s H C cl fp (good_blk g ..)) hs) fun Dn σ H h => ?_
  obtain ⟨I, M, F, δ, Dd, hr, rs, q, f⟩ := h
  refine ⟨I, M, F, δ, _, _, hr, rs, q, fun xs src M1 I1 H1 J q1 ho s1 hr1 wk P hP => ?_, f.x rs⟩
  refine dc_lift hin q1.1 hr1 (rs.mono s1) wk q1.2 (Qd := fun p H' => Dn.nx (σ.set i (some (.ref p))) H') (fun p I' M' H' aV a hF s' hr' ra q' => ?_) P hP
  exact f.nx _ _ _ H' _ (q' p hr'.atF.2.2) (s1.trans s') (hr'.mutF hF (m := .dct a) ⟨aV, rfl, ra⟩) ((rs.mono (s1.trans s')).set i (.ref p))
end
structure ClsI (K : PySem.W.Frag) (C : Addr) : Prop where
  cls : Cls K C
  oc : PySem.W.findIn K (.ref C) "__class__" = some (some (.builtin "object.__class__"))
  gt : PySem.W.specialIn K (.builtin "object.__class__") "__get__" = some (some (.builtin "getset_descriptor.__get__"))
  tk : PySem.W.takesIn K (.builtin "object.__class__") = some true
  mro : PySem.W.mroIn K C (.type "object") = some true
  isC : PySem.W.isClsIn K C = true
  ty : PySem.W.typeIn K (.ref C) = some (.type "type")
  sub : ∀ t : Ty, t ≠ .own → PySem.W.subIn K (.type t.nm) (.ref C) = some false
theorem kit_no {K : PySem.W.Frag} {C : Addr} (c : ClsI K C) (t : Ty) (ht : t ≠ .own) : PySem.W.kitOne K (.type t.nm) (.ref C) = some false := by
  unfold PySem.W.kitOne
  rw [if_neg (by simp)]
  unfold PySem.W.kitCls
  dsimp only
  have h : (PySem.W.clsIn K C).isSome = true := c.isC
  rw [h, c.ty, if_pos (by simp)]
  exact c.sub t ht
theorem kit_self {K : PySem.W.Frag} {C : Addr} : PySem.W.kitOne K (.ref C) (.ref C) = some true := by
  unfold PySem.W.kitOne
  rw [if_pos (by simp)]
def isiC (C : Addr) (d : D) (M : Mp) (k : Bool → Prop) : Prop := match d with
  | .ins C' _ => C' = C ∧ k true
  | .ref a => (∃ fs, M a = some (.ins C fs) ∧ k true) ∨ tyD (.ref a) M (fun t => t ≠ .own ∧ k false)
  | d => tyD d M (fun t => t ≠ .own ∧ k false)
theorem isiC_out {K : PySem.W.Frag} {I : Hp} {M : Mp} {F H : Hp} {C : Addr} (c : ClsI K C) (hr : HR K I M F H) {v : V} {d : D} {k : Bool → Prop} (r : Rep K I v d) (h : isiC C d M k) : ∃ t b, TyX K H v t ∧ PySem.W.kitOne K t (.ref C) = some b ∧ k b ∧ (t = .ref C ∧ b = true ∨ ∃ u : Ty, u ≠ .own ∧ t = .type u.nm ∧ b = false) := by
  have base : tyD d M (fun t => t ≠ .own ∧ k false) → ∃ t b, TyX K H v t ∧ PySem.W.kitOne K t (.ref C) = some b ∧ k b ∧ (t = .ref C ∧ b = true ∨ ∃ u : Ty, u ≠ .own ∧ t = .type u.nm ∧ b = false) := fun q => by
    rcases tyD_out hr r q with ⟨t, ht, ty, _, q⟩ | ⟨a, C', ds, dd, vs, _, _, _, _, q, _⟩
    · exact ⟨_, false, ty, kit_no c t ht, q, .inr ⟨t, ht, rfl, rfl⟩⟩
    · exact absurd rfl q
  have own : ∀ {a dx : Addr} {vs : List (Str × V)}, H a = some (.ins C dx vs) → TyX K H (.ref a) (.ref C) := fun e => .base (.ins e c.cls c.oc c.gt c.tk c.mro)
  cases d with
  | ins C' fs =>
    obtain ⟨rfl, q⟩ := h
    cases r with
    | ins s rr => exact ⟨_, true, own (hr.imm _ _ s), kit_self, q, .inl ⟨rfl, rfl⟩⟩
  | ref a =>
    rcases h with ⟨fs, e, q⟩ | h
    · cases r
      obtain ⟨dx, vs, e1, rr⟩ := hr.ins e
      exact ⟨_, true, own e1, kit_self, q, .inl ⟨rfl, rfl⟩⟩
    · exact base h
  | non => exact base h
  | bl b => exact base h
  | int i => exact base h
  | str s => exact base h
  | lst xs => exact base h
  | sq xs => exact base h
  | tup xs => exact base h
  | dct xs => exact base h
  | ty n => exact base h
def dIsiC (C : Addr) (te : DTE) : DTE := fun δ M Q E => te δ M (fun d M1 => isiC C d M1 fun b => Q (.bl b) M1) E
section
variable {X : Cx} {W : WX} {pos p : Pos} {e a b : Expr} {te ta tb : DTE} {C : Addr}
theorem d_isiC {y : Str} {p' : Pos} (c : ClsI X.K C) (hmy : X.mg y = some (.ref C)) (hm : X.mg "isinstance" = none) (he : DE X W e te) (hs : starEach [e, .Name y p'] X.env = (false, eval e X.env) :: starEach [.Name y p'] X.env := by rfl) (hgy : Gl X y := by rfl) (hdy : (y == ("__debug__" : Str)) = false := by decide)
    (hs2 : starEach [.Name y p'] X.env = (false, eval (.Name y p') X.env) :: starEach [] X.env := by rfl) (hpl : (backTo pos (starEach [.Name y p'] X.env)).any (·.1) = false := by rfl) (hg : Gl X "isinstance" := by rfl) : DE X W (.Call (.Name "isinstance" p) [e, .Name y p'] [] pos) (dIsiC C te) := by
  refine pe_imp (pe_callB call_isi hg hm (by decide +kernel) (pa_cons he (pa_cons (pe_glob (v := .ref C) hgy hmy rfl hdy) pa_nil hs2) hs) (by decide) (by decide) hs hpl) fun σ H Q h => ?_
  obtain ⟨I, M, F, δ, Qd, Ed, hr, rs, q, fq, fx⟩ := h
  refine ⟨I, M, F, δ, _, Ed, hr, rs, q, fun d M1 I1 H1 v q1 s1 hr1 r1 => ?_, fx⟩
  obtain ⟨t, b, ty, k, q, _⟩ := isiC_out c hr1 r1 q1
  exact ⟨v, .ref C, t, .ref C, b, rfl, .own C, ty, k, fq _ M1 I1 H1 _ q s1 hr1 (.bl _)⟩
end
def gdU (n : Nat) (t : DTGs) : DTG := fun d δ M Q E => asQ M d fun xs => xs.length = n ∧ t xs δ M Q E
theorem g_tupU {X : Cx} {W : WX} {es : List Expr} {t : DTGs} {pos : Pos} {k n : Nat} (hc : X.calm = true) (h : DGs X W es t) (hn : (assignEach es X.env).length = n := by rfl) (hst : (assignEach es X.env).findIdx? (·.1) = none := by rfl) : DG X W (.Tuple es k pos) (gdU n t) := by
  have one := pg_tup (k := k) (pos := pos) hc h hn hst
  have two := pg_lst (k := k) (pos := pos) hc h hn hst
  have both : PG X (.Tuple es k pos) (fun v σ H Q => gTup X.K n (lGs X.K W t) v σ H Q ∨ gLst X.K n (lGs X.K W t) v σ H Q) := ⟨fun pins s σ H v u Q I r q => q.elim (one.run pins s σ H v u Q I r) (two.run pins s σ H v u Q I r)⟩
  refine pg_imp both fun v σ H Q h => ?_
  obtain ⟨I, M, F, δ, d, Qd, Ed, hr, rs, r, q, fq, fx⟩ := h
  obtain ⟨a, vs, ds, rfl, hs, rr, hl, q⟩ := asQ_out hr r q
  rcases hs with hs | ⟨hs, _⟩
  · exact .inr ⟨a, vs, rfl, hs, by rw [rr.len]; exact hl, I, M, F, δ, ds, Qd, Ed, hr, rs, rr, q, fq, fx⟩
  · exact .inl ⟨a, vs, rfl, hs, by rw [rr.len]; exact hl, I, M, F, δ, ds, Qd, Ed, hr, rs, rr, q, fq, fx⟩
end DL
namespace DL
open PySem L2
theorem But.put {b p : Addr} {M M1 : Mp} {o : MO} (h : But b M M1) (hp : M p = Option.none) : But b M (updM M1 p o) := fun a u n e => by
  rw [updM_ne (fun z => by rw [z, hp] at e; cases e)]; exact h a u n e
theorem at0 {x : D} {r : List D} : atI (x :: r) 0 = some x := atI_nat (show (x :: r)[0]? = _ from rfl)
theorem at1 {x y : D} {r : List D} : atI (x :: y :: r) 1 = some y := atI_nat (show (x :: y :: r)[1]? = _ from rfl)
theorem rng_from (n : Nat) : rngD 0 n = (List.range' 0 n).map fun i : Nat => D.int (i : Nat) := by
  unfold rngD
  rw [List.range_eq_range']
  exact List.map_congr_left fun i _ => by rw [Int.zero_add]
theorem comp_namesP {i : Nat} {te : DTE} {δ : DS} {k : List D → Mp → Prop} {M : Mp} {N : Nat} {P : Nat → Str → Prop} (hN : N ≤ 100) (el : ∀ (j : Nat) (R : DK), j < N → (∀ s, P j s → R (.str s) M) → te ((dwipe δ [i]).set i (some (.int (j : Nat)))) M R E0d)
    (q : ∀ ss : List Str, ss.length = N → (∀ (j : Nat) (s : Str), ss[j]? = some s → P j s) → k (ss.map D.str) M) : dComp (.one i) dYes te .data [i] δ k (rngD 0 N) [] M := by
  refine comp_rec (fun r acc M' => M' = M ∧ ∃ ss : List Str, acc = ss.map D.str ∧ ss.length + r.length = N ∧ r = (List.range' ss.length r.length).map (fun i : Nat => D.int (i : Nat)) ∧ ∀ (j : Nat) (s : Str), ss[j]? = some s → P j s) (fun acc M' j => ?_) (fun x r acc M' R j h => ?_) _ _ _ ⟨rfl, [], rfl, by rw [List.length_nil, rng_len]; omega, ?_, fun j s z => by simp at z⟩
  · obtain ⟨rfl, ss, rfl, h2, _, h1⟩ := j
    rw [List.length_nil] at h2
    exact ⟨by rw [List.length_map]; exact big_line (by omega), q ss (by omega) h1⟩
  · obtain ⟨rfl, ss, rfl, h2, h3, h1⟩ := j
    rw [List.length_cons, List.range'_succ, List.map_cons] at h3
    rw [List.length_cons] at h2
    injection h3 with e1 e2
    subst e1
    refine el ss.length R (by omega) fun s hs => h _ _ ⟨rfl, ss ++ [s], map_snoc D.str ss s, ?_, ?_, fun j t z => ?_⟩
    · rw [List.length_append, List.length_singleton]; omega
    · rw [List.length_append, List.length_singleton]; exact e2
    · rcases Nat.lt_trichotomy j ss.length with l | l | l
      · rw [List.getElem?_append_left l] at z; exact h1 j t z
      · subst l
        rw [List.getElem?_append_right (Nat.le_refl _), Nat.sub_self] at z
        cases z; exact hs
      · rw [List.getElem?_append_right (by omega)] at z
        have : ([s] : List Str)[j - ss.length]? = none := List.getElem?_eq_none (by rw [List.length_singleton]; omega)
        rw [this] at z; cases z
  · rw [List.length_nil, rng_len]; exact rng_from N
theorem nodup_of {P : Nat → Str → Prop} {ss : List Str} (h : ∀ (j : Nat) (s : Str), ss[j]? = some s → P j s) (d : ∀ i j s, i < j → j < ss.length → P i s → P j s → False) : ss.Nodup := by
  rw [List.nodup_iff_pairwise_ne, List.pairwise_iff_getElem]
  intro i j hi hj l e
  refine d i j _ l hj (h i _ (List.getElem?_eq_getElem hi)) ?_
  rw [e]
  exact h j _ (List.getElem?_eq_getElem hj)
theorem letter_code : ∀ i : _root_.Fin 26, atI letters.cps.toList ((i : Nat) : Int) = some (97 + (i : Nat)) := by decide +kernel
theorem letter_num {i : Int} {c : Nat} (h0 : 0 ≤ i) (h1 : i < 26) (h : atI letters.cps.toList i = some c) : c = 97 + i.toNat := by
  have z := letter_code ⟨i.toNat, by omega⟩
  rw [show ((i.toNat : Nat) : Int) = i by omega, h] at z
  cases z; rfl
theorem mid_inj {u t : Str} {c d : Nat} (h : u ++ sg1 c ++ t = u ++ sg1 d ++ t) : c = d := by
  have e := congrArg (fun s : Str => s.cps.toList) h
  simp only [str_app] at e
  have e := List.append_cancel_right e
  have e := List.append_cancel_left e
  simpa using e
def spNamesD (cost : Nat) : DSp := fun ds M Q _ => ∃ (b : Addr) (sz : Int) (n : Nat), ds = [.ref b, .int sz] ∧ Bag M b n ∧ n < 900000 ∧ 0 ≤ sz ∧ sz ≤ 100 ∧ ∀ (M' : Mp) (ss : List Str), But b M M' → Bag M' b (n + cost) → (ss.length : Int) = sz → (∀ s ∈ ss, Nm s) → (sz ≤ 8 → ss.Nodup) → Q (.lst (ss.map D.str)) M'
theorem len_spNamesD {c : Nat} : ∀ ds M Q E, spNamesD c ds M Q E → ds.length = 2 := fun _ _ _ _ h => by obtain ⟨_, _, _, rfl, _⟩ := h; rfl
theorem mem_get {P : Str → Prop} {Q : Nat → Str → Prop} {ss : List Str} (h : ∀ (j : Nat) (s : Str), ss[j]? = some s → Q j s) (k : ∀ j s, Q j s → P s) : ∀ s ∈ ss, P s := fun s hs => by
  obtain ⟨j, hj⟩ := List.getElem?_of_mem hs
  exact k j s (h j s hj)
theorem names_aD : ∀ ds M Qd Ed, spNamesD 14 ds M Qd Ed → rNamesA (ends Qd Ed) (dstart ["_law_bag_here", "_law_size", "_law_letters", "_law_way", "_law_first", "_law_step", "_law_stem", "_law_at", "_law_head", "_law_tail", "_law_k"] ds) M := by
  intro ds M Qd Ed h
  obtain ⟨b, sz, n, rfl, hb, hn, s0, s8, q⟩ := h
  refine ⟨_, rfl, b, 3, n, rfl, hb, by omega, by decide, by decide, fun M1 way s1 hb1 w0 w1 => ?_⟩
  refine ⟨_, rfl, b, 26, n + 1, rfl, hb1, by omega, by decide, by decide, fun M2 fi s2 hb2 f0 f1 => ?_⟩
  refine ⟨(by show 4 ≤ sizeLine; decide), _, rfl, b, 4, n + 2, rfl, hb2, by omega, by decide, by decide, fun M3 v s3 hb3 v0 v1 => ?_⟩
  obtain ⟨st, e1, st0⟩ : ∃ s : Int, atI [D.int 1, .int 5, .int 7, .int 11] v = some (.int s) ∧ (s = 1 ∨ s = 5 ∨ s = 7 ∨ s = 11) := by
    rcases (by omega : v = 0 ∨ v = 1 ∨ v = 2 ∨ v = 3) with rfl | rfl | rfl | rfl <;> exact ⟨_, rfl, by decide⟩
  refine ⟨_, e1, ?_⟩
  refine ⟨⟨by decide, by decide⟩, (by show (rngD 0 7).length < sizeLine; decide +kernel), ?_⟩
  refine comp_draw (b := b) (i := 10) (j := 2) rfl rfl (by decide) (by decide) (rngD 0 7) [] M3 (n + 3) hb3 (by rw [rng_len]; omega) (fun _ z => nomatch z) (by rw [rng_len]; decide) fun M4 cs s4 hb4 l4 hc => ?_
  rw [rng_len] at hb4 l4
  simp only [List.length_nil, Nat.zero_add] at l4
  refine ⟨cs.map sg1, by rw [List.map_map]; rfl, ?_, ?_⟩
  · rw [sum_len, List.length_map, l4]; decide
  have lt : Lt (Txt.join "" (cs.map sg1)) := fun c h => by rw [join_cps] at h; exact hc c h
  have ll : (Txt.join "" (cs.map sg1)).length = 7 := by rw [join_len, l4]
  generalize Txt.join "" (cs.map sg1) = stem at *
  refine ⟨_, rfl, b, 8, n + 10, rfl, hb4, by omega, by decide, by decide, fun M5 at5 s5 hb5 a0 a1 => ?_⟩
  have s5 := (((s1.trans s2).trans s3).trans s4).trans s5
  have e100 : sz.toNat ≤ 100 := by omega
  have rl : ∀ k : Nat, k ≤ 100 → (rngD 0 k).length < sizeLine := fun k hk => by rw [rng_len]; exact Nat.lt_of_le_of_lt hk (by decide)
  have m8 : ∀ t : Int, 0 ≤ t % 8 ∧ t % 8 < 8 := fun t => ⟨Int.emod_nonneg _ (by decide), Int.emod_lt_of_pos _ (by decide)⟩
  have m26 : ∀ t : Int, 0 ≤ t % 26 ∧ t % 26 < 26 := fun t => ⟨Int.emod_nonneg _ (by decide), Int.emod_lt_of_pos _ (by decide)⟩
  refine ⟨_, rfl, ?_⟩
  refine br2 (fun e => ?_) (fun e => ?_)
  · refine ⟨_, rfl, ⟨by omega, by omega⟩, rl _ e100, ?_⟩
    obtain ⟨c, c1, c2⟩ := letter_at f0 f1
    refine comp_namesP (P := fun j s => Nm s ∧ s.length = 1 + ((at5 + 3 * (j : Nat)) % 8).toNat) e100 (fun j R j1 h => ?_) (fun ss hl hs => q M5 ss s5 (hb5.mono (by omega)) (by omega) (mem_get hs fun _ _ z => z.1) fun l8 => nodup_of hs fun i j s l1 l2 p1 p2 => ?_)
    · refine ⟨_, rfl, _, rfl, letters_size, c, c1, _, rfl, _, rfl, _, rfl, cmul (by decide) (by decide) (by omega) (by omega), (by show (0 : Int) < 8; decide), big_line (by omega), ?_, h _ ?_⟩
      · rw [sg_len, to_len (m8 _).1]; exact big_line (by omega)
      · have ln : (sg1 c ++ cutS stem none (some ((at5 + 3 * (j : Nat)) % 8))).length = 1 + ((at5 + 3 * (j : Nat)) % 8).toNat := by
          have := m8 (at5 + 3 * (j : Nat))
          rw [Str.length_append, sg_len, to_len (m8 _).1]; omega
        refine ⟨⟨?_, ?_, (Lt.one c2).app (lt.to (m8 _).1)⟩, ln⟩
        · rw [ln]; omega
        · have := m8 (at5 + 3 * (j : Nat))
          rw [ln]; omega
    · have := p1.2.symm.trans p2.2
      omega
  · refine ⟨_, rfl, _, rfl, b, 8, n + 11, rfl, hb5, by omega, by decide, by decide, fun M6 c6 s6 hb6 c0 c1 => ?_⟩
    refine ⟨big_line (by omega), ?_⟩
    have lt2 := lt.to c0
    have ll2 : (cutS stem none (some c6)).length ≤ 7 := by rw [to_len c0]; omega
    generalize cutS stem none (some c6) = stm at *
    refine ⟨_, rfl, _, rfl, big_line (by omega), _, rfl, _, rfl, big_line (by omega), (by show 2 ≤ sizeLine; decide), rfl, rfl, ?_⟩
    have hd := to_len (s := stm) a0
    have tl := from_len (s := stm) a0
    refine ⟨_, rfl, ⟨by omega, by omega⟩, rl _ e100, ?_⟩
    refine comp_namesP (P := fun j s => Nm s ∧ ∃ c, atI letters.cps.toList ((fi + st * (j : Nat)) % 26) = some c ∧ s = cutS stm none (some at5) ++ sg1 c ++ cutS stm (some at5) none) e100 (fun j R j1 h => ?_) (fun ss hl hs => q M6 ss (s5.trans s6) (hb6.mono (by omega)) (by omega) (mem_get hs fun _ _ z => z.1) fun l8 => nodup_of hs fun i j s l1 l2 p1 p2 => ?_)
    · have mb : 0 ≤ st * j ∧ st * j < 2000 := by
        rcases st0 with rfl | rfl | rfl | rfl <;> omega
      obtain ⟨c, c1, c2⟩ := letter_at (m26 (fi + st * j)).1 (m26 (fi + st * j)).2
      refine ⟨_, rfl, _, rfl, _, rfl, _, rfl, _, rfl, cmul (by omega) (by omega) (by omega) (by omega), (by show (0 : Int) < 26; decide), letters_size, c, c1, ?_, _, rfl, ?_, h _ ⟨?_, c, c1, rfl⟩⟩
      · rw [sg_len]; exact big_line (by omega)
      · rw [Str.length_append, sg_len]; exact big_line (by omega)
      · refine ⟨?_, ?_, ((lt2.to a0).app (Lt.one c2)).app (lt2.from a0)⟩
        · rw [Str.length_append, Str.length_append, sg_len]; omega
        · rw [Str.length_append, Str.length_append, sg_len]; omega
    · obtain ⟨_, c, h1, h2⟩ := p1
      obtain ⟨_, d, h3, h4⟩ := p2
      have e := mid_inj (h2.symm.trans h4)
      rw [letter_num (m26 _).1 (m26 _).2 h1, letter_num (m26 _).1 (m26 _).2 h3] at e
      have k1 := m26 (fi + st * (i : Nat))
      have k2 := m26 (fi + st * (j : Nat))
      rcases st0 with rfl | rfl | rfl | rfl <;> omega
end DL
namespace DL
open PySem PySem.Spec PyProof.Rows L2
def getMf (kvs : List (Str × Addr)) (z : Str) : Option Addr := (kvs.find? fun p => decide (p.1 = z)).map (·.2)
structure MFun (K : PySem.W.Frag) (w : World) (a : Addr) (kvs : List (Str × Addr)) : Prop where
  kd : ∃ es n, KDict K w a es n
  has : ∀ z y, getMf kvs z = some y → PySem.W.nsIn K a z = some (some (.ref y))
  no : ∀ z, getMf kvs z = none → PySem.W.nsIn K a z = some none
section
variable {X : Cx} {W : WX} {pos p apos : Pos} {a e o : Expr} {ta te to : DTE} {x : Str} {kvs : List (Str × Addr)}
end
structure FvOk (P : Program) (w : World) (K : PySem.W.Frag) (mg : Str → Option Value) (base : Heap) (k : Nat) (x : Str) (f : Addr) (ps : List Str) (sp : DSp) (pats : List Pat) : Prop where
  at_ : mg x = some (.ref f)
  kp : PySem.W.keepIn K (.ref f) = true
  ok : FnA P w K mg base k f ps sp pats
inductive TabV (X : Cx) (n : Nat) (ks : List Str) : List Ent → Prop
  | nil : TabV X n ks []
  | cons {k : Nat} {x : Str} {f : Addr} {ps : List Str} {sp : DSp} {pats : List Pat} {gg : List D → List D → List D} {r : List Ent} (i : Nat) (h : FvOk X.prog X.w X.K X.mg X.base k x f ps sp pats) (rm : Room k X.A) (hi : pats[i]? = some ⟨n, ks, gg⟩) (hr : TabV X n ks r) : TabV X n ks ((f, sp, gg) :: r)
section
variable {X : Cx} {W : WX} {es : List Expr} {kws : List Keyword} {ks ps : List Str} {ta tk : DTA} {pos p : Pos} {x : Str} {k n j : Nat} {to : DTE}
theorem TabV.get : ∀ {tab : List Ent}, TabV X n ks tab → ∀ {f : Addr} {Φ : DSp → (List D → List D → List D) → Prop}, dTab tab f Φ → ∃ (k : Nat) (x : Str) (ps : List Str) (sp : DSp) (pats : List Pat) (i : Nat) (gg : List D → List D → List D), FvOk X.prog X.w X.K X.mg X.base k x f ps sp pats ∧ Room k X.A ∧ pats[i]? = some ⟨n, ks, gg⟩ ∧ Φ sp gg
  | _, .nil, _, _, h => h.elim
  | _, .cons i h rm hi .nil, _, _, ⟨e, q⟩ => ⟨_, _, _, _, _, i, _, e ▸ h, rm, hi, q⟩
  | _, .cons i h rm hi (.cons i2 h2 rm2 hi2 r), _, _, q => by
    rcases q with ⟨e, q⟩ | q
    · exact ⟨_, _, _, _, _, i, _, e ▸ h, rm, hi, q⟩
    · exact TabV.get (.cons i2 h2 rm2 hi2 r) q
end
def enumD (xs : List D) : List D := xs.zipIdx.map fun p => D.tup [.int (p.2 : Nat), p.1]
def iE (ta : DTA) : DTI := fun δ M R E => ta δ M (fun ds M1 => one ds fun x => asL M1 x fun xs src => R (enumD xs) src M1) E
section
variable {K : PySem.W.Frag} {I : Hp}
theorem enum_len {xs : List D} : (enumD xs).length = xs.length := by unfold enumD; rw [List.length_map, List.length_zipIdx]
theorem get_of {α : Type} {xs : List α} {i : Nat} (h : i < xs.length) : ∃ x, xs[i]? = some x := ⟨xs[i], List.getElem?_eq_getElem h⟩
theorem dwalk_enum {a : Addr} {ds : List D} {src : Src} (h : ∀ I' M' F H, Same I I' → HR K I' M' F H → src.holds M' → ∃ vs, SqL K H a vs ∧ Reps K I' vs ds) : DWalk K I (Ite K a) (enumD ds) src := by
  refine ⟨fun i I' M' F H hi s hr ho => ?_, fun I' M' F H s hr ho => ?_, fun i x I' M' F H H' hi s hr ho y => ?_⟩
  · obtain ⟨vs, q1, r1⟩ := h I' M' F H s hr ho
    rw [enum_len] at hi
    obtain ⟨v, hv⟩ := get_of (xs := vs) (i := i) (by rw [r1.len]; omega)
    exact ⟨vs, v, q1, hv⟩
  · obtain ⟨vs, q1, r1⟩ := h I' M' F H s hr ho
    rw [enum_len]
    exact ⟨vs, q1, by rw [r1.len]; omega⟩
  · obtain ⟨vs, q1, r1⟩ := h I' M' F H s hr ho
    obtain ⟨T, v, rfl, hT, rfl, k1⟩ := y
    obtain ⟨d, e3, e4⟩ := r1.get (k1 vs q1)
    have s3 := same_new (o := .tup [.int (i : Nat), v]) (hr.fresh hT).1
    refine ⟨_, .tup [.int (i : Nat), d], s3, hr.newI hT _, ?_, .tup (.inl (.inl upd_same)) (.cons (.int _) (.cons (e4.mono s3) .nil))⟩
    unfold enumD
    rw [List.getElem?_map, List.getElem?_zipIdx, e3]
    simp
end
section
variable {X : Cx} {W : WX} {e e2 : Expr} {ta : DTA} {p pos tpos : Pos} {elts : List Expr} {kk : Nat}
theorem i_enum (hm : X.mg "enumerate" = none) (ha : DA X W [e] ta) (hg : Gl X "enumerate" := by rfl) (hs : starEach [e] X.env = [(false, eval e X.env)] := by rfl) :
    DI X W (.Tuple elts kk tpos) (.Call (.Name "enumerate" p) [e] [] pos) (iE ta) := pi_imp (pi_enum hg hm ha hs) fun σ H R q => by
  obtain ⟨I, M, F, δ, Rd, Ed, hr, rs, q, fq, fx⟩ := q
  refine ⟨I, M, F, δ, _, Ed, hr, rs, q, fun ds M1 I1 H1 vs q1 s1 hr1 r1 => ?_, fx⟩
  obtain ⟨v, d, rfl, rv, q1⟩ := one_out r1 q1
  cases rv with
  | @lst a us xs s rr => exact ⟨a, us, rfl, SqL.of (hr1.imm _ _ s), fq _ .data M1 I1 H1 _ q1 trivial s1 hr1 (dwalk_enum fun I' M' F' H' s' hr' _ => ⟨us, SqL.of (hr'.imm _ _ (s' _ _ s)), rr.mono s'⟩)⟩
  | @sq a us xs s rr => exact ⟨a, us, rfl, hr1.sq s, fq _ .data M1 I1 H1 _ q1 trivial s1 hr1 (dwalk_enum fun I' M' F' H' s' hr' _ => ⟨us, hr'.sq (sq_mono s' s), rr.mono s'⟩)⟩
  | ref a =>
    obtain ⟨xs, e1, q1⟩ := q1
    obtain ⟨us, e2, rr⟩ := hr1.lst e1
    exact ⟨a, us, rfl, SqL.of e2, fq _ (.at a xs) M1 I1 H1 _ q1 e1 s1 hr1 (dwalk_enum fun I' M' F' H' s' hr' ho => by
      obtain ⟨us', e3, r3⟩ := hr'.lst ho
      exact ⟨us', SqL.of e3, r3⟩)⟩
  | _ => exact False.elim q1
end
section
open AutoSeq1 (wpAny_loadPart')
open MeetsSeq SeqAt
variable {A : Around} {s : Shared}
end
section
variable {X : Cx} {pins : List (Addr × Obj)} {σ : L2.St} {H : Hp} {s : Shared} {A : Around}
end
section
variable {X : Cx}
end
def kindD (M : Mp) : D → Prop
  | .ref a => ∃ m, M a = some m ∧ (match m with | .lst _ => True | .dct _ => True | _ => False)
  | .ty _ => False
  | .ins _ _ => False
  | _ => True
def isSD (z : Str) : D → Bool
  | .str t => t == z
  | _ => false
section
variable {K : PySem.W.Frag} {I F H : Hp} {M : Mp}
end
end DL
namespace DL
open PySem PySem.Spec PyProof.Rows L2
inductive Du where
  | nm (d : D) | num (d : D) | ok
def intO : D → Int
  | .int i => i
  | _ => 0
def due (d0 d1 d2 d3 d4 d5 d6 : D) : Du :=
  bif !nameD d0 then .nm d0 else bif !isN d1 && !nameD d1 then .nm d1 else bif !wholeD d2 0 100 then .num d2 else bif !wholeD d3 0 (intO d2) then .num d3 else
  bif !wholeD d4 0 5 then .num d4 else bif !wholeD d5 0 5 then .num d5 else bif !wholeD d6 0 9 then .num d6 else .ok
def spNeed (cNum : Addr) : DSp := fun ds M Q E => ∃ d h, ds = [d, .int h] ∧ Th M d ∧ br (wholeD d 0 h) (Q .non M) (E (.ref cNum) (some [("found", d)]) M)
def spDev (C cNm cNum : Addr) : DSp := fun ds M Q E => ∃ x d0 d1 d2 d3 d4 d5 d6, ds = [.ref x, d0, d1, d2, d3, d4, d5, d6] ∧ M x = some (.ins C []) ∧ (∀ d ∈ [d0, d1, d2, d3, d4, d5, d6], Th M d) ∧
  (match due d0 d1 d2 d3 d4 d5 d6 with
    | .nm d => E (.ref cNm) (some [("found", d)]) M
    | .num d => E (.ref cNum) (some [("found", d)]) M
    | .ok => Q .non (updM M x (.ins C [("whole", .tup [d0, d1, d2, d3, d4, d5, d6])])))
theorem len_spNeed {c : Addr} : ∀ ds M Q E, spNeed c ds M Q E → ds.length = 2 := fun _ _ _ _ h => by obtain ⟨_, _, rfl, _⟩ := h; rfl
theorem len_spDev {a b c : Addr} : ∀ ds M Q E, spDev a b c ds M Q E → ds.length = 8 := fun _ _ _ _ h => by obtain ⟨_, _, _, _, _, _, _, _, rfl, _⟩ := h; rfl
def rNeed (cNum : Addr) : DTS := dIf (dNot (dTruth (dCall spW (dCn (dVar 0) (dCn (dC (.int 0)) (dCn (dVar 1) (dNil))))))) (dRaise cNum "found" (dVar 0)) (dNext)
def rDev2 (C cNum : Addr) : DTS :=
  (dSeq (dDrop (dCall (spNeed cNum) (dCn (dVar 3) (dCn (dC (.int 100)) (dNil)))))
  (dSeq (dDrop (dCall (spNeed cNum) (dCn (dVar 4) (dCn (dVar 3) (dNil)))))
  (dSeq (dDrop (dCall (spNeed cNum) (dCn (dVar 5) (dCn (dC (.int 5)) (dNil)))))
  (dSeq (dDrop (dCall (spNeed cNum) (dCn (dVar 6) (dCn (dC (.int 5)) (dNil)))))
  (dSeq (dDrop (dCall (spNeed cNum) (dCn (dVar 7) (dCn (dC (.int 9)) (dNil)))))
  (dSetF [C] "whole" (dVar 0) (dTup (dCn (dVar 1) (dCn (dVar 2) (dCn (dVar 3) (dCn (dVar 4) (dCn (dVar 5) (dCn (dVar 6) (dCn (dVar 7) (dNil)))))))))))))))
def rDev (C cNm cNum : Addr) : DTS :=
  dSeq (dIf (dNot (dTruth (dCall spN (dCn (dVar 1) (dNil))))) (dRaise cNm "found" (dVar 1)) (dNext))
  (dSeq (dIf (dAnd (dTest (dOp dIsNot (dVar 2) (dC .non))) (dNot (dTruth (dCall spN (dCn (dVar 2) (dNil)))))) (dRaise cNm "found" (dVar 2)) (dNext))
  (rDev2 C cNum))
theorem need_ok {c : Addr} : ∀ ds M Qd Ed, spNeed c ds M Qd Ed → rNeed c (ends Qd Ed) (dstart ["thing", "high"] ds) M := by
  intro ds M Qd Ed h
  obtain ⟨d, h, rfl, th, q⟩ := h
  refine ⟨_, rfl, _, rfl, d, 0, h, rfl, th, ?_⟩
  cases hw : wholeD d 0 h with
  | true => rw [hw] at q; exact q
  | false => rw [hw] at q; exact ⟨_, rfl, q⟩
theorem mem7 {P : D → Prop} {d0 d1 d2 d3 d4 d5 d6 : D} (h : ∀ d ∈ [d0, d1, d2, d3, d4, d5, d6], P d) : P d0 ∧ P d1 ∧ P d2 ∧ P d3 ∧ P d4 ∧ P d5 ∧ P d6 :=
  ⟨h _ (by simp), h _ (by simp), h _ (by simp), h _ (by simp), h _ (by simp), h _ (by simp), h _ (by simp)⟩
theorem whole_int {d : D} {l h : Int} (e : wholeD d l h = true) : ∃ i, d = .int i ∧ l ≤ i ∧ i ≤ h := by
  cases d with
  | int i =>
    have e : (decide (l ≤ i) && decide (i ≤ h)) = true := e
    rw [Bool.and_eq_true, decide_eq_true_eq, decide_eq_true_eq] at e
    exact ⟨i, rfl, e.1, e.2⟩
  | _ => cases e
theorem dev_ok {C cNm cNum : Addr} : ∀ ds M Qd Ed, spDev C cNm cNum ds M Qd Ed → rDev C cNm cNum (ends Qd Ed) (dstart ["self", "name", "parent", "burn", "sip", "wake", "fall", "rest"] ds) M := by
  intro ds M Qd Ed h
  obtain ⟨x, d0, d1, d2, d3, d4, d5, d6, rfl, hx, th, q⟩ := h
  obtain ⟨h0, h1, h2, h3, h4, h5, h6⟩ := mem7 th
  unfold due at q
  refine ⟨_, rfl, d0, rfl, h0, ?_⟩
  cases c0 : nameD d0 with
  | false => rw [c0] at q; exact ⟨_, rfl, q⟩
  | true =>
  rw [c0] at q
  have rest : (match (bif !wholeD d2 0 100 then Du.num d2 else bif !wholeD d3 0 (intO d2) then .num d3 else bif !wholeD d4 0 5 then .num d4 else bif !wholeD d5 0 5 then .num d5 else bif !wholeD d6 0 9 then .num d6 else .ok) with
    | .nm d => Ed (.ref cNm) (some [("found", d)]) M
    | .num d => Ed (.ref cNum) (some [("found", d)]) M
    | .ok => Qd .non (updM M x (.ins C [("whole", .tup [d0, d1, d2, d3, d4, d5, d6])]))) → rDev2 C cNum (ends Qd Ed) [some (.ref x), some d0, some d1, some d2, some d3, some d4, some d5, some d6] M := by
    intro q
    refine ⟨_, rfl, d2, 100, rfl, h2, ?_⟩
    cases c2 : wholeD d2 0 100 with
    | false => rw [c2] at q; exact q
    | true =>
    rw [c2] at q
    obtain ⟨i2, rfl, i20, i21⟩ := whole_int c2
    refine ⟨_, rfl, _, rfl, d3, i2, rfl, h3, ?_⟩
    cases c3 : wholeD d3 0 i2 with
    | false => rw [show intO (.int i2) = i2 from rfl, c3] at q; exact q
    | true =>
    rw [show intO (.int i2) = i2 from rfl, c3] at q
    refine ⟨_, rfl, d4, 5, rfl, h4, ?_⟩
    cases c4 : wholeD d4 0 5 with
    | false => rw [c4] at q; exact q
    | true =>
    rw [c4] at q
    refine ⟨_, rfl, d5, 5, rfl, h5, ?_⟩
    cases c5 : wholeD d5 0 5 with
    | false => rw [c5] at q; exact q
    | true =>
    rw [c5] at q
    refine ⟨_, rfl, d6, 9, rfl, h6, ?_⟩
    cases c6 : wholeD d6 0 9 with
    | false => rw [c6] at q; exact q
    | true =>
    rw [c6] at q
    exact ⟨_, rfl, _, rfl, _, rfl, _, rfl, _, rfl, _, rfl, _, rfl, (Nat.le_of_ble_eq_true rfl), _, rfl, _, _, hx, List.mem_cons_self, (Nat.le_of_ble_eq_true rfl), q⟩
  refine ⟨_, rfl, ?_⟩
  refine br2 (fun e => ?_) (fun e => ?_)
  · have c1 : isN d1 = false := by simpa using e
    rw [c1] at q
    refine ⟨_, rfl, d1, rfl, h1, ?_⟩
    cases c1' : nameD d1 with
    | false => rw [c1'] at q; exact ⟨_, rfl, q⟩
    | true => rw [c1'] at q; exact rest q
  · have c1 : isN d1 = true := by simpa using e
    rw [c1] at q
    exact rest q
def Tk (M : Mp) (d : D) : Prop := Th M d ∧ kindD M d
def Dq : Nat → Mp → D → Prop
  | 0, M, d => Tk M d
  | n + 1, M, d => Tk M d ∧ ∀ xs, d = .tup xs → xs.length ≤ 16384 ∧ ∀ x ∈ xs, Dq n M x
theorem Dq.tk {n : Nat} {M : Mp} {d : D} (h : Dq n M d) : Tk M d := by
  cases n with
  | zero => exact h
  | succ n => exact h.1
theorem Dq.th {n : Nat} {M : Mp} {d : D} (h : Dq n M d) : Th M d := h.tk.1
theorem Dq.in {n : Nat} {M : Mp} {xs : List D} (h : Dq (n + 1) M (.tup xs)) {x : D} (m : x ∈ xs) : Dq n M x := (h.2 xs rfl).2 x m
theorem Dq.tup {n : Nat} {M : Mp} {xs : List D} (l : xs.length ≤ 16384) (h : ∀ x ∈ xs, Dq n M x) : Dq (n + 1) M (.tup xs) := ⟨⟨trivial, trivial⟩, fun ys e => by cases e; exact ⟨l, h⟩⟩
theorem Dq.flat {n : Nat} {M : Mp} {d : D} (h : Tk M d) (t : ∀ xs, d ≠ .tup xs) : Dq n M d := by
  cases n with
  | zero => exact h
  | succ n => exact ⟨h, fun xs e => absurd e (t xs)⟩
theorem Th.ext {M M' : Mp} (x : Ext M M') {d : D} (h : Th M d) : Th M' d := by
  cases d with
  | ref a => obtain ⟨m, e, k⟩ := h; exact ⟨m, x _ _ e, k⟩
  | _ => exact h
theorem Tk.ext {M M' : Mp} (x : Ext M M') {d : D} (h : Tk M d) : Tk M' d := by
  refine ⟨h.1.ext x, ?_⟩
  have k := h.2
  cases d with
  | ref a => obtain ⟨m, e, k⟩ := k; exact ⟨m, x _ _ e, k⟩
  | _ => exact k
theorem Dq.ext {M M' : Mp} (x : Ext M M') : ∀ {n : Nat} {d : D}, Dq n M d → Dq n M' d
  | 0, _, h => Tk.ext x h
  | n + 1, _, h => ⟨Tk.ext x h.1, fun xs e => ⟨(h.2 xs e).1, fun y hy => ((h.2 xs e).2 y hy).ext x⟩⟩
def deedOf (d n : D) : Bool := if isN n then wordIn d ["tick", "sleep", "rise"] else nameD n && wordIn d ["gain", "release"]
def areBegin : List D → Bool
  | [_, d, n] => deedOf d n
  | _ => false
def areEnd : List D → Bool
  | [_, d, n, e] => deedOf d n && (if isSD "bell" e then isSD "sleep" d else wordIn e ["done", "busy", "broken"])
  | _ => false
def areMissed : List D → Bool
  | [_, a, b] => nameD a && nameD b
  | _ => false
def areBell : List D → Bool
  | [_, a, b] => nameD a && wordIn b ["unheard", "noted", "broke", "woke"]
  | _ => false
def difD (a b : D) : Bool := match a with
  | .str s => !isSD s b
  | _ => true
def pairOk : D → Bool
  | .tup [a, b] => nameD a && nameD b && difD a b
  | _ => false
def linksD : D → Bool
  | .tup xs => decide (xs.length ≤ 16) && xs.all pairOk
  | _ => false
def isOk : Du → Bool
  | .ok => true
  | _ => false
def devD : D → Bool
  | .tup [d0, d1, d2, d3, d4, d5, d6] => isOk (due d0 d1 d2 d3 d4 d5 d6)
  | _ => false
def arePlug : List D → Bool
  | [_, a, b] => devD a && linksD b
  | _ => false
def named : List Str := ["waking", "wake", "falling", "doze", "stays", "off", "use", "reset", "unplug", "ready", "sleep", "late", "still", "unready", "unsleep", "unlate", "unstill"]
def areWords : D → Bool
  | .tup (.str s :: r) =>
    if s = "begin" then areBegin (.str s :: r) else if s = "end" then areEnd (.str s :: r) else if s = "missed" then areMissed (.str s :: r) else if s = "bell" then areBell (.str s :: r) else if s = "plug" then arePlug (.str s :: r) else
    (match r with | [n] => wordIn (.str s) named && nameD n | _ => false)
  | _ => false
end DL
set_option pp.maxSteps 1500
namespace DL
open PySem PySem.Spec PyProof.Rows L2
def leafD (m : Nat) : D → Prop
  | .non => True | .bl _ => True | .int i => -(10 ^ 30) ≤ i ∧ i ≤ 10 ^ 30 | .str s => s.length ≤ m ∧ Ok s | _ => False
def Pl (m : Nat) : List Nat → D → Prop
  | [], d => leafD m d
  | l :: ls, d => leafD m d ∨ ∃ xs, (d = .tup xs ∨ d = .lst xs) ∧ xs.length ≤ l ∧ ∀ x ∈ xs, Pl m ls x
def wid (m : Nat) : List Nat → Nat
  | [] => 10 * m + 32
  | l :: ls => max l 1 * (wid m ls + 2) + 3
theorem shw_int32 {M : Mp} {i : Int} (h0 : -(10 ^ 30) ≤ i) (h1 : i ≤ 10 ^ 30) : Shw M (.int i) 0 32 := ⟨_, .int (num_log h0 h1), Nat.le_refl _, by
  unfold Sh.w
  rw [PySem.ofString_length]
  exact PySem.int_text_length_le10 (k := 31) (by decide) (by
    have : i.natAbs ≤ 10 ^ 30 := by omega
    exact Nat.lt_of_le_of_lt this (by decide))⟩
theorem leaf_shw {m : Nat} (hm : m ≤ 100000) {M : Mp} {d : D} (h : leafD m d) : Shw M d 0 (10 * m + 32) := by
  cases d with
  | non => exact shw_non.mono (Nat.le_refl _) (by omega)
  | bl b => exact (shw_bl b).mono (Nat.le_refl _) (by omega)
  | int i => exact (shw_int32 h.1 h.2).mono (Nat.le_refl _) (by omega)
  | str s => exact (shw_str h.2 h.1 hm).mono (Nat.le_refl _) (by omega)
  | _ => exact h.elim
theorem wid_leaf (m : Nat) : ∀ ls, 10 * m + 32 ≤ wid m ls
  | [] => Nat.le_refl _
  | l :: ls => by
    have h := wid_leaf m ls
    have k := Nat.mul_le_mul_right (wid m ls + 2) (Nat.le_max_right l 1)
    unfold wid
    omega
theorem Pl.leaf {m : Nat} {ls : List Nat} {d : D} (h : leafD m d) : Pl m ls d := by
  cases ls with
  | nil => exact h
  | cons l ls => exact .inl h
theorem Pl.tup {m l : Nat} {ls : List Nat} {xs : List D} (hl : xs.length ≤ l) (h : ∀ x ∈ xs, Pl m ls x) : Pl m (l :: ls) (.tup xs) := .inr ⟨xs, .inl rfl, hl, h⟩
theorem Pl.lst {m l : Nat} {ls : List Nat} {xs : List D} (hl : xs.length ≤ l) (h : ∀ x ∈ xs, Pl m ls x) : Pl m (l :: ls) (.lst xs) := .inr ⟨xs, .inr rfl, hl, h⟩
theorem Pl.shw {m : Nat} (hm : m ≤ 100000) {M : Mp} : ∀ {ls : List Nat} {d : D}, Pl m ls d → Shw M d ls.length (wid m ls)
  | [], _, h => leaf_shw hm h
  | l :: ls, d, h => by
    rcases h with h | ⟨xs, e, hl, h⟩
    · exact (leaf_shw hm h).mono (Nat.zero_le _) (wid_leaf m _)
    · have b : xs.length * (wid m ls + 2) + 3 ≤ wid m (l :: ls) := by
        have := Nat.mul_le_mul_right (wid m ls + 2) (Nat.le_trans hl (Nat.le_max_left l 1))
        show _ ≤ max l 1 * (wid m ls + 2) + 3
        omega
      rcases e with rfl | rfl
      · exact (shw_tup fun x hx => (h x hx).shw hm).mono (Nat.le_refl _) b
      · exact (shw_lst fun x hx => (h x hx).shw hm).mono (Nat.le_refl _) b
theorem strOk_of {s : Str} (h : Ok s) : PyData.strOk s = true := by
  unfold PyData.strOk
  rw [← Array.all_toList, List.all_eq_true]
  exact fun c hc => decide_eq_true (h c hc)
structure Lg (C : Addr) (M : Mp) (x l : Addr) (rows : List D) : Prop where
  obj : M x = some (.ins C [("kept_rows", .ref l)])
  rw_ : M l = some (.lst rows)
theorem Lg.ext {C : Addr} {M M' : Mp} {x l : Addr} {rows : List D} (h : Lg C M x l rows) (e : Ext M M') : Lg C M' x l rows := ⟨e _ _ h.obj, e _ _ h.rw_⟩
inductive Au where | num | log | ok
def leafE (m : Nat) (d : D) : Prop := leafD m d ∨ d = .dct []
def Pe (m : Nat) : List Nat → D → Prop
  | [], d => leafE m d
  | l :: ls, d => leafE m d ∨ ∃ xs, (d = .tup xs ∨ d = .lst xs) ∧ xs.length ≤ l ∧ ∀ x ∈ xs, Pe m ls x
theorem leafE_shw {m : Nat} (hm : m ≤ 100000) {M : Mp} {d : D} (h : leafE m d) : Shw M d 1 (10 * m + 32) := by
  rcases h with h | rfl
  · exact (leaf_shw hm h).mono (by decide) (Nat.le_refl _)
  · exact shw_dct0.mono (Nat.le_refl _) (by omega)
theorem Pe.leaf {m : Nat} {ls : List Nat} {d : D} (h : leafE m d) : Pe m ls d := by
  cases ls with
  | nil => exact h
  | cons l ls => exact .inl h
theorem Pe.leafD {m : Nat} {ls : List Nat} {d : D} (h : leafD m d) : Pe m ls d := .leaf (.inl h)
theorem Pe.tup {m l : Nat} {ls : List Nat} {xs : List D} (hl : xs.length ≤ l) (h : ∀ x ∈ xs, Pe m ls x) : Pe m (l :: ls) (.tup xs) := .inr ⟨xs, .inl rfl, hl, h⟩
theorem Pe.lst {m l : Nat} {ls : List Nat} {xs : List D} (hl : xs.length ≤ l) (h : ∀ x ∈ xs, Pe m ls x) : Pe m (l :: ls) (.lst xs) := .inr ⟨xs, .inr rfl, hl, h⟩
theorem Pe.un {m l : Nat} {ls : List Nat} {xs : List D} (h : Pe m (l :: ls) (.tup xs)) : xs.length ≤ l ∧ ∀ x ∈ xs, Pe m ls x := by
  rcases h with h | ⟨ys, e | e, a, b⟩
  · rcases h with h | h
    · exact h.elim
    · cases h
  · cases e; exact ⟨a, b⟩
  · cases e
theorem Pe.shw {m : Nat} (hm : m ≤ 100000) {M : Mp} : ∀ {ls : List Nat} {d : D}, Pe m ls d → Shw M d (ls.length + 1) (wid m ls)
  | [], _, h => leafE_shw hm h
  | l :: ls, d, h => by
    rcases h with h | ⟨xs, e, hl, h⟩
    · exact (leafE_shw hm h).mono (by omega) (wid_leaf m _)
    · have b : xs.length * (wid m ls + 2) + 3 ≤ wid m (l :: ls) := by
        have := Nat.mul_le_mul_right (wid m ls + 2) (Nat.le_trans hl (Nat.le_max_left l 1))
        show _ ≤ max l 1 * (wid m ls + 2) + 3
        omega
      rcases e with rfl | rfl
      · exact (shw_tup fun x hx => (h x hx).shw hm).mono (Nat.le_refl _) b
      · exact (shw_lst fun x hx => (h x hx).shw hm).mono (Nat.le_refl _) b
def Lw (s : Str) : Prop := ∀ c ∈ s.cps.toList, 97 ≤ c ∧ c ≤ 122
def hd (s : Str) : Option Nat := s.cps.toList.head?
def cutC (k : Nat) : List Nat → List Nat → List (List Nat)
  | acc, [] => [acc]
  | acc, c :: r => if c = k then acc :: cutC k [] r else cutC k (acc ++ [c]) r
theorem spl_cutC (k : Nat) : ∀ (l acc : List Nat), TL.spl [k] 0 acc l = cutC k acc l
  | [], acc => rfl
  | c :: r, acc => by
    unfold cutC
    by_cases h : c = k
    · subst h
      rw [if_pos rfl, TL.spl_hit (by show ((c :: r).take 1 == [c]) = true; simp)]
      show acc :: TL.spl [c] 0 [] r = _
      rw [spl_cutC]
    · rw [if_neg h]
      show (if TL.pre [k] (c :: r) = true then _ else _) = _
      rw [if_neg (by
        show ¬ (((c :: r).take 1 == [k]) = true)
        simp [h]), spl_cutC]
theorem split_cutC {y : Str} {k : Nat} (ey : y.cps.toList = [k]) (hy : y.cps.all (· < 256) = true) (s : Str) : Txt.split s y = (cutC k [] s.cps.toList).map sL := by
  refine TL.map_tl_inj ?_
  rw [map_sL, ← spl_cutC, ← ey]
  exact TL.split_spl s y (by rw [show TL.tl y = [k] from ey]; simp) (TL.kind_ok hy)
theorem cut_sumC (k : Nat) : ∀ (l acc : List Nat), ((cutC k acc l).map (·.length)).sum + (cutC k acc l).length = acc.length + l.length + 1
  | [], acc => by simp [cutC]
  | c :: r, acc => by
    unfold cutC
    split
    · have := cut_sumC k r []
      simp only [List.map_cons, List.sum_cons, List.length_cons, List.length_nil] at this ⊢
      omega
    · have := cut_sumC k r (acc ++ [c])
      simp only [List.length_append, List.length_cons, List.length_nil] at this ⊢
      omega
theorem cut_memC (k : Nat) : ∀ (l acc : List Nat) (x : List Nat) (c : Nat), x ∈ cutC k acc l → c ∈ x → c ∈ acc ∨ c ∈ l
  | [], acc, x, c, h, hc => by
    rw [show cutC k acc [] = [acc] from rfl, List.mem_singleton] at h
    subst h
    exact .inl hc
  | d :: r, acc, x, c, h, hc => by
    unfold cutC at h
    split at h
    · rcases List.mem_cons.mp h with rfl | h
      · exact .inl hc
      · rcases cut_memC k r [] x c h hc with h | h
        · cases h
        · exact .inr (List.mem_cons_of_mem _ h)
    · rcases cut_memC k r _ x c h hc with h | h
      · rcases List.mem_append.mp h with h | h
        · exact .inl h
        · rw [List.mem_singleton.mp h]; exact .inr List.mem_cons_self
      · exact .inr (List.mem_cons_of_mem _ h)
theorem cut_neC (k : Nat) (l acc : List Nat) : cutC k acc l ≠ [] := by
  cases l with
  | nil => exact fun z => nomatch z
  | cons c r =>
    unfold cutC
    split
    · exact fun z => nomatch z
    · exact cut_neC k r _
theorem split_okC {y : Str} {k : Nat} (ey : y.cps.toList = [k]) (hy : y.cps.all (· < 256) = true) {s : Str} (ok : Ok s) : ((Txt.split s y).map (·.length)).sum + (Txt.split s y).length = s.length + 1 ∧ (∀ t ∈ Txt.split s y, t.length ≤ s.length ∧ Ok t) ∧ Txt.split s y ≠ [] := by
  have e := cut_sumC k s.cps.toList []
  rw [split_cutC ey hy]
  refine ⟨?_, fun t ht => ?_, fun z => cut_neC k _ _ (List.map_eq_nil_iff.mp z)⟩
  · rw [List.map_map, List.length_map, str_len]
    have e2 : ((fun x : Str => x.length) ∘ sL) = (fun x : List Nat => x.length) := by funext x; simp [str_len]
    rw [e2, e]
    simp
  · obtain ⟨x, hx, rfl⟩ := List.mem_map.mp ht
    refine ⟨?_, fun c hc => ?_⟩
    · have h1 : ∀ (ls : List (List Nat)), x ∈ ls → x.length + 1 ≤ (ls.map (·.length)).sum + ls.length := by
        intro ls
        induction ls with
        | nil => intro h; cases h
        | cons a b ih =>
          intro h
          simp only [List.map_cons, List.sum_cons, List.length_cons]
          rcases List.mem_cons.mp h with rfl | h
          · omega
          · have := ih h; omega
      have := h1 _ hx
      rw [str_len, str_len]
      simp only [List.length_nil] at e
      show x.length ≤ _
      omega
    · have hc : c ∈ x := by simpa using hc
      rcases cut_memC k _ _ x c hx hc with h | h
      · cases h
      · exact ok c h
def wdS (s : Str) : Bool := !s.cps.toList.isEmpty && !decide (32 ∈ s.cps.toList) && !decide (10 ∈ s.cps.toList)
theorem cl_eq {s : Str} : s.cps.toList.length = s.length := by simp [Str.length]
def isDig (c : Nat) : Bool := decide (48 ≤ c) && decide (c ≤ 57)
def val (cs : List Nat) : Int := cs.foldl (fun (a : Int) c => 10 * a + ((c - 48 : Nat) : Int)) 0
def readC (cs : List Nat) : Option Int := if cs = [] ∨ (cs.head? = some 48 ∧ cs ≠ [48]) then none else if cs.all isDig = true then some (val cs) else none
def valF (a : Int) (cs : List Nat) : Int := cs.foldl (fun (a : Int) c => 10 * a + ((c - 48 : Nat) : Int)) a
theorem str_eq {s t : Str} : (s = t) ↔ s.cps.toList = t.cps.toList := ⟨fun e => by rw [e], fun e => by
  cases s; cases t
  congr 1
  exact Array.toList_inj.mp e⟩
theorem nil_eq {s : Str} : (s = ("" : Str)) ↔ s.cps.toList = [] := by
  rw [str_eq, show (("" : Str)).cps.toList = [] from by decide +kernel]
theorem val_digits : ∀ (cs : List Nat) (a : Nat), valF (a : Int) cs = ((cs.foldl (fun acc c => acc * 10 + (c - 48)) a : Nat) : Int)
  | [], a => rfl
  | c :: r, a => by
    have ih := val_digits r (a * 10 + (c - 48))
    show valF (10 * (a : Int) + ((c - 48 : Nat) : Int)) r = _
    rw [List.foldl_cons, ← ih]
    congr 1
    rw [Int.natCast_add, Int.natCast_mul, Int.mul_comm]
    rfl
theorem int_of {s : Str} (h : s.cps.toList.all isDig = true) (h1 : s.cps.toList ≠ []) (h2 : s.length ≤ 100) : PySem.intText? s = some (val s.cps.toList) := by
  have hd : PySem.NumText.AllDigits s.cps.toList := fun c hc => by
    have := List.all_eq_true.mp h c hc
    simpa [isDig] using this
  rw [PySem.intText_digits hd h1 (by omega)]
  exact congrArg some (val_digits s.cps.toList 0).symm
def Rs (s : Str) : Prop := s.length ≤ 16383 ∧ Ok s
theorem Rs.th {M : Mp} {s : Str} (h : Rs s) : Th M (.str s) := ⟨Nat.le_trans h.1 (by decide), h.2⟩
structure Qn (n dd : Str) : Prop where
  nm : Nm n
  dd : dd ∈ deedsW
def numT (k : Int) : Str := Str.ofString (toString k)
theorem wd_no {s : Str} (h : wdS s = true) : 32 ∉ s.cps.toList ∧ 10 ∉ s.cps.toList ∧ s ≠ "" := by
  unfold wdS at h
  simp only [Bool.and_eq_true, Bool.not_eq_true', decide_eq_false_iff_not] at h
  refine ⟨h.1.2, h.2, fun e => ?_⟩
  have := h.1.1
  rw [nil_eq.mp e] at this
  cases this
theorem lw_wd {s : Str} (h1 : 1 ≤ s.length) (h : ∀ c ∈ s.cps.toList, c ∈ letters.cps.toList) : wdS s = true := by
  have e : letters.cps.toList.all (fun c => decide (c ≠ 32) && decide (c ≠ 10)) = true := by decide +kernel
  have no : ∀ c ∈ s.cps.toList, c ≠ 32 ∧ c ≠ 10 := fun c hc => by
    have := List.all_eq_true.mp e c (h c hc)
    simpa using this
  unfold wdS
  rw [decide_eq_false fun z => (no 32 z).1 rfl, decide_eq_false fun z => (no 10 z).2 rfl]
  cases z : s.cps.toList with
  | nil => rw [← cl_eq, z] at h1; simp at h1
  | cons c r => rfl
def mu (ps : List Str) : Nat := (ps.map (·.length)).sum + ps.length
def TLs (ds : List D) (m : Nat) : Prop := ∃ ps : List Str, ds = ps.map D.str ∧ mu ps ≤ m ∧ ∀ p ∈ ps, Ok p
theorem sum_set : ∀ (ps : List Str) (i : Nat) (w : Str), ((ps.set i w).map (·.length)).sum ≤ (ps.map (·.length)).sum + w.length
  | [], _, _ => by simp
  | p :: r, 0, w => by simp only [List.set_cons_zero, List.map_cons, List.sum_cons]; omega
  | p :: r, i + 1, w => by
    have := sum_set r i w
    simp only [List.set_cons_succ, List.map_cons, List.sum_cons]; omega
theorem sum_erase : ∀ (ps : List Str) (i : Nat), ((ps.eraseIdx i).map (·.length)).sum ≤ (ps.map (·.length)).sum
  | [], _ => by simp
  | p :: r, 0 => by simp only [List.eraseIdx_cons_zero, List.map_cons, List.sum_cons]; omega
  | p :: r, i + 1 => by
    have := sum_erase r i
    simp only [List.eraseIdx_cons_succ, List.map_cons, List.sum_cons]; omega
theorem TLs.mono {ds : List D} {m k : Nat} (h : TLs ds m) (l : m ≤ k) : TLs ds k := by
  obtain ⟨ps, e, a, b⟩ := h
  exact ⟨ps, e, Nat.le_trans a l, b⟩
theorem TLs.set {ds : List D} {m : Nat} (h : TLs ds m) {w : Str} (ok : Ok w) (i : Nat) : TLs (ds.set i (.str w)) (m + w.length) := by
  obtain ⟨ps, rfl, a, b⟩ := h
  refine ⟨ps.set i w, by rw [List.map_set], ?_, fun p hp => ?_⟩
  · have := sum_set ps i w
    unfold mu at a ⊢
    rw [List.length_set]
    omega
  · rcases List.mem_or_eq_of_mem_set hp with hp | rfl
    · exact b p hp
    · exact ok
theorem TLs.ins {ds : List D} {m : Nat} (h : TLs ds m) {w : Str} (ok : Ok w) (i : Nat) : TLs (ds.take i ++ [.str w] ++ ds.drop i) (m + w.length + 1) := by
  obtain ⟨ps, rfl, a, b⟩ := h
  refine ⟨ps.take i ++ [w] ++ ps.drop i, by rw [List.map_append, List.map_append, List.map_take, List.map_drop]; rfl, ?_, fun p hp => ?_⟩
  · unfold mu at a ⊢
    have e : (ps.map (·.length)).sum = ((ps.take i).map (·.length)).sum + ((ps.drop i).map (·.length)).sum := by
      rw [← List.sum_append, ← List.map_append, List.take_append_drop]
    have l : ps.length = (ps.take i).length + (ps.drop i).length := by rw [← List.length_append, List.take_append_drop]
    simp only [List.map_append, List.sum_append, List.map_cons, List.map_nil, List.sum_cons, List.sum_nil, List.length_append, List.length_singleton]
    omega
  · rcases List.mem_append.mp hp with hp | hp
    · rcases List.mem_append.mp hp with hp | hp
      · exact b p (List.mem_of_mem_take hp)
      · rw [List.mem_singleton.mp hp]; exact ok
    · exact b p (List.mem_of_mem_drop hp)
theorem map_erase {f : Str → D} : ∀ (ps : List Str) (i : Nat), (ps.map f).eraseIdx i = (ps.eraseIdx i).map f
  | [], _ => rfl
  | _ :: _, 0 => rfl
  | p :: r, i + 1 => by
    have := map_erase (f := f) r i
    simp only [List.map_cons, List.eraseIdx_cons_succ, this]
theorem TLs.erase {ds : List D} {m : Nat} (h : TLs ds m) (i : Nat) : TLs (ds.eraseIdx i) m := by
  obtain ⟨ps, rfl, a, b⟩ := h
  refine ⟨ps.eraseIdx i, ?_, ?_, fun p hp => b p (List.mem_of_mem_eraseIdx hp)⟩
  · exact map_erase ps i
  · have := sum_erase ps i
    have l : (ps.eraseIdx i).length ≤ ps.length := List.length_eraseIdx_le ps i
    unfold mu at a ⊢
    omega
theorem TLs.at {ds : List D} {m : Nat} (h : TLs ds m) {d : D} (hd : d ∈ ds) : ∃ w, d = .str w ∧ Ok w ∧ w.length + 1 ≤ m := by
  obtain ⟨ps, rfl, a, b⟩ := h
  obtain ⟨w, hw, rfl⟩ := List.mem_map.mp hd
  refine ⟨w, rfl, b w hw, ?_⟩
  have z : ∀ {l : List Str}, w ∈ l → w.length + 1 ≤ mu l := by
    intro l
    induction l with
    | nil => exact fun h => nomatch h
    | cons p r ih =>
      intro hw
      unfold mu at ih ⊢
      simp only [List.map_cons, List.sum_cons, List.length_cons]
      rcases List.mem_cons.mp hw with rfl | hw
      · omega
      · have := ih hw; omega
  exact Nat.le_trans (z hw) a
theorem TLs.split {y : Str} {k : Nat} (ey : y.cps.toList = [k]) (hy : y.cps.all (· < 256) = true) {s : Str} (ok : Ok s) : TLs ((Txt.split s y).map D.str) (s.length + 1) ∧ 0 < ((Txt.split s y).map D.str).length ∧ ((Txt.split s y).map D.str).length ≤ s.length + 1 := by
  obtain ⟨a, b, c⟩ := split_okC ey hy ok
  refine ⟨⟨_, rfl, by unfold mu; omega, fun t ht => (b t ht).2⟩, ?_, by rw [List.length_map]; omega⟩
  rw [List.length_map]
  exact List.length_pos_iff.mpr c
def dWhile (c : DTT) (tb : DTS) : DTS := fun Dd δ M => ∃ W : Nat → DS → Mp → Prop, (∃ m, W m δ M) ∧ ∀ m δ M, W m δ M →
  c δ M (fun b M1 => br b (tb { Dd with nx := fun δ' M' => ∃ m', m' < m ∧ W m' δ' M', ct := fun δ' M' => ∃ m', m' < m ∧ W m' δ' M', bk := Dd.nx } δ M1) (Dd.nx δ M1)) (fun c fo M' => Dd.ex c fo δ M')
theorem s_while {X : Cx} {W : WX} {e : Expr} {body : List Stmt} {c : DTT} {tb : DTS} {pos : Pos} (gd : Good X W) (hc : DT X W e c) (hb : DSs X W body tb) : DSt X W (.While e body [] pos) (dWhile c tb) := by
  refine ps_imp (ps_while gd.own hc hb) fun Dn σ H h => ?_
  obtain ⟨I, M, F, δ, Dd, hr, rs, ⟨V, ⟨m0, v0⟩, turn⟩, f⟩ := h
  refine ⟨fun m σ' H' => ∃ I' M' δ', Same I I' ∧ HR X.K I' M' F H' ∧ RepS X.K I' σ' δ' ∧ V m δ' M', ⟨m0, I, M, δ, Same.refl I, hr, rs, v0⟩, ?_⟩
  rintro m σ' H' ⟨I', M', δ', s', hr', rs', v⟩
  refine ⟨I', M', F, δ', _, _, hr', rs', turn m δ' M' v, fun b M1 I1 H1 q1 s1 hr1 => ?_, fun c fo M3 I3 H3 dd z s3 hr3 xd => f.ex c fo δ' M3 I3 H3 σ' dd z (s'.trans s3) hr3 (rs'.mono s3) xd⟩
  have f1 := f.mono (s'.trans s1)
  cases b with
  | false => exact f1.nx δ' M1 I1 H1 σ' q1 (Same.refl I1) hr1 (rs'.mono s1)
  | true =>
    refine ⟨fun σ2 H2 => ∃ m', m' < m ∧ ∃ I2 M2 δ2, Same I I2 ∧ HR X.K I2 M2 F H2 ∧ RepS X.K I2 σ2 δ2 ∧ V m' δ2 M2, fun σ2 H2 z => z, ?_⟩
    exact ⟨I1, M1, F, δ', _, hr1, rs'.mono s1, q1, ⟨fun δ4 M4 I4 H4 σ4 q4 s4 hr4 rs4 => let ⟨m', l, v'⟩ := q4; ⟨m', l, I4, M4, δ4, (s'.trans s1).trans s4, hr4, rs4, v'⟩, f1.rt, f1.ex, f1.nx, fun δ4 M4 I4 H4 σ4 q4 s4 hr4 rs4 => let ⟨m', l, v'⟩ := q4; ⟨m', l, I4, M4, δ4, (s'.trans s1).trans s4, hr4, rs4, v'⟩⟩⟩
theorem while_inv {c : DTT} {tb : DTS} {Dd : DEnds} {δ : DS} {M : Mp} (J : Nat → DS → Mp → Prop) (m : Nat) (h : J m δ M)
    (step : ∀ m δ M (N : DS → Mp → Prop), J m δ M → (∀ m' δ' M', m' < m → J m' δ' M' → N δ' M') → c δ M (fun b M1 => br b (tb { Dd with nx := N, ct := N, bk := Dd.nx } δ M1) (Dd.nx δ M1)) (fun c fo M' => Dd.ex c fo δ M')) : dWhile c tb Dd δ M :=
  ⟨J, ⟨m, h⟩, fun m δ M hj => step m δ M _ hj fun m' δ' M' l h' => ⟨m', l, h'⟩⟩
def dExtend (to te : DTE) : DTE := fun δ M Q E => to δ M (fun x M1 => match x with
  | .ref a => (∃ ys, M1 a = some (.lst ys)) ∧ te δ M1 (fun d M2 => ∃ xs, M2 a = some (.lst xs) ∧ (match d with
    | .lst zs => xs.length + zs.length ≤ sizeLine ∧ Q .non (updM M2 a (.lst (xs ++ zs)))
    | .ref b => ∃ zs, M2 b = some (.lst zs) ∧ xs.length + zs.length ≤ sizeLine ∧ Q .non (updM M2 a (.lst (xs ++ zs)))
    | _ => False)) E
  | _ => False) E
section
variable {X : Cx} {W : WX} {e : Expr} {te : DTE} {pos : Pos}
theorem d_extend {o : Expr} {to : DTE} {apos : Pos} (ho : DE X W o to) (he : DE X W e te) (hs : starEach [e] X.env = (false, eval e X.env) :: starEach [] X.env := by rfl) (hbase : attributeBase o "extend" X.env (eval o X.env) = eval o X.env := by rfl) (hline : (apos.endLine == pos.line) = true := by rfl)
    (hfew : ((backTo pos (starEach [e] X.env)).all (fun x => !x.1) && (backToKw pos (keywordEach [] X.env)).all (fun x => x.1.isSome) && decide ([e].length + ([] : List Keyword).length + (if ([] : List Keyword).isEmpty then 0 else 1) < 30)) = true := by rfl) :
    DE X W (.Call (.Attribute o "extend" apos) [e] [] pos) (dExtend to te) := by
  refine pe_imp (pe_bm PySem.F.plainAttrs_list PySem.F.slot_list_extend PySem.F.type_list_extend mt_extend ho (pa_cons he pa_nil hs) hbase hfew hline hs) fun σ H Q h => ?_
  obtain ⟨I, M, F, δ, Qd, Ed, hr, rs, q, fq, fx⟩ := h
  refine ⟨I, M, F, δ, _, Ed, hr, rs, q, fun d M1 I1 H1 v q1 s1 hr1 r1 => ?_, fx⟩
  cases r1 with
  | ref a =>
    obtain ⟨⟨ys, e0⟩, q1⟩ := q1
    obtain ⟨vs0, e1, rr0⟩ := hr1.lst e0
    refine ⟨.inl ⟨rfl, vs0, SqL.of e1⟩, I1, M1, F, δ, _, Ed, hr1, rs.mono s1, q1, fun y M2 I2 H2 w q2 s2 hr2 r2 => ?_, fx.mono s1⟩
    obtain ⟨xs, e2, q⟩ := q2
    obtain ⟨vs, e3, rr⟩ := hr2.lst e2
    cases r2 with
    | @lst b us zs s3 r3 =>
      obtain ⟨hl, q⟩ := q
      exact ⟨a, b, vs, us, rfl, rfl, e3, hr2.imm _ _ s3, by rw [rr.len, r3.len]; exact hl, fq _ _ I2 _ _ q (s1.trans s2) (hr2.write e2 (fun _ _ z => nomatch z) (o := .lst (vs ++ us)) (m := .lst (xs ++ zs)) ⟨_, rfl, rr.app r3⟩) .non⟩
    | ref b =>
      obtain ⟨zs, e4, hl, q⟩ := q
      obtain ⟨us, e5, r3⟩ := hr2.lst e4
      exact ⟨a, b, vs, us, rfl, rfl, e3, e5, by rw [rr.len, r3.len]; exact hl, fq _ _ I2 _ _ q (s1.trans s2) (hr2.write e2 (fun _ _ z => nomatch z) (o := .lst (vs ++ us)) (m := .lst (xs ++ zs)) ⟨_, rfl, rr.app r3⟩) .non⟩
    | _ => exact q.elim
  | _ => exact q1.elim
end
section
variable {X : Cx} {W : WX} {e : Expr} {te : DTE} {pos : Pos}
end
def iKy (te : DTE) : DTI := fun δ M R E => te δ M (fun d M1 => match d with
  | .ref a => ∃ od us kvs, M1 a = some (.dctL od us kvs) ∧ R (kvs.map fun kv => kD kv.1) (.lk a (.dctL od us kvs)) M1
  | _ => False) E
theorem RepK.get {K : PySem.W.Frag} {I : Hp} : ∀ {us : List (Key × V)} {kvs : List (Key × D)} {i : Nat} {k : Key} {v : V}, RepK K I us kvs → us[i]? = some (k, v) → ∃ d, kvs[i]? = some (k, d) ∧ Rep K I v d
  | _, _, i, _, _, .nil, z => by simp at z
  | _, _, 0, _, _, .cons a _, z => by cases z; exact ⟨_, rfl, a⟩
  | _, _, i + 1, _, _, .cons _ b, z => RepK.get (i := i) b z
section
variable {X : Cx} {W : WX} {tg e : Expr} {te : DTE} {ta : DTA} {pos p : Pos}
theorem i_keys (he : DE X W e te) : DI X W tg e (iKy te) := pi_imp (pi_keys he) fun σ H R q => by
  obtain ⟨I, M, F, δ, Rd, Ed, hr, rs, q, fq, fx⟩ := q
  refine ⟨I, M, F, δ, _, Ed, hr, rs, q, fun d M1 I1 H1 v q1 s1 hr1 r1 => ?_, fx⟩
  cases r1 with
  | ref a =>
    obtain ⟨od, us, kvs, em, q1⟩ := q1
    have at_ : ∀ {I' M' F' H'}, HR X.K I' M' F' H' → M' a = some (.dctL od us kvs) → H' a = some (.frz od (.dK us)) ∧ RepK X.K I' us kvs := fun hr em => by
      obtain ⟨_, o, e1, rfl, rt⟩ := hr.mu a _ em
      exact ⟨e1, rt⟩
    obtain ⟨e1, rt⟩ := at_ hr1 em
    have hl := rt.len
    refine ⟨a, od, rfl, .inl ⟨us, e1, fq _ (.lk a _) M1 I1 H1 _ q1 em s1 hr1 ⟨fun i I' M' F' H' hi s' hr' ho => ?_, fun I' M' F' H' s' hr' ho => ?_, fun i x I' M' F' H' H2 hi s' hr' ho y => ?_⟩⟩⟩
    · exact walk_keys.goes i H' (by rw [hl]; rw [List.length_map] at hi; exact hi) (at_ hr' ho).1
    · have := (walk_keys (kvs := us)).stops H' (at_ hr' ho).1
      rw [List.length_map, ← hl]
      exact this
    · obtain ⟨rfl, k, v, hkv, rfl⟩ := walk_keys.yields i H' x H2 (by rw [hl]; rw [List.length_map] at hi; exact hi) (at_ hr' ho).1 y
      obtain ⟨dv, e3, _⟩ := (at_ hr' ho).2.get hkv
      exact ⟨I', kD k, Same.refl I', hr', by rw [List.getElem?_map, e3]; rfl, rep_key k⟩
  | _ => exact q1.elim
end
section
variable {X : Cx} {W : WX} {e : Expr} {te : DTE} {pos : Pos}
inductive DJ (X : Cx) (W : WX) : List Expr → List DTE → Prop where
  | nil : DJ X W [] []
  | cons {e : Expr} {t : DTE} {es : List Expr} {ts : List DTE} (h : DE X W e t) (r : DJ X W es ts) : DJ X W (e :: es) (t :: ts)
end
theorem name_dash : nameD (.str "-") = false := by decide +kernel
theorem name_ne {s : Str} (h : nameD (.str s) = true) : s ≠ "-" := fun e => by rw [e, name_dash] at h; cases h
def seen (o : Option (List D)) : Option (List D) := match o with
  | none => none
  | some ws => if (decide (2 ≤ ws.length) && areWords (.tup ws)) = true then some ws else none
theorem aw (s : Str) (r : List D) : areWords (.tup (.str s :: r)) = (if s = "begin" then areBegin (.str s :: r) else if s = "end" then areEnd (.str s :: r) else if s = "missed" then areMissed (.str s :: r) else if s = "bell" then areBell (.str s :: r) else if s = "plug" then arePlug (.str s :: r) else
    (match r with | [n] => wordIn (.str s) named && nameD n | _ => false)) := rfl
theorem gtL : (">" : Str).cps.toList = [62] := by decide
theorem toDig_head : ∀ m : Nat, 0 < m → ∃ c r, Nat.toDigits 10 m = c :: r ∧ c.toNat ≠ 48 := by
  intro m
  induction m using Nat.strongRecOn with
  | _ m ih =>
    intro h0
    by_cases h : m < 10
    · rw [Nat.toDigits_of_lt_base h]
      refine ⟨_, [], rfl, ?_⟩
      have z : ∀ d : Nat, d < 10 → 0 < d → (Nat.digitChar d).toNat ≠ 48 := by decide
      exact z m h h0
    · have hm : m % 10 < 10 := Nat.mod_lt m (by decide)
      have t : Nat.toDigits 10 (m / 10) ++ Nat.toDigits 10 (m % 10) = Nat.toDigits 10 (10 * (m / 10) + m % 10) := Nat.toDigits_append_toDigits (by decide) (by omega) hm
      rw [Nat.div_add_mod] at t
      obtain ⟨c, r, e, k⟩ := ih (m / 10) (by omega) (by omega)
      rw [e] at t
      exact ⟨c, r ++ Nat.toDigits 10 (m % 10), t.symm, k⟩
theorem numT_read {t : Int} (h0 : 0 ≤ t) (h1 : t < 10 ^ 10) : readC (numT t).cps.toList = some t ∧ (numT t).length ≤ 10 ∧ (numT t).cps.toList.all isDig = true ∧ (numT t).cps.toList ≠ [] := by
  have hl : (numT t).length ≤ 10 := PySem.W.KT.len_num h0 h1
  have iv : PySem.intText? (numT t) = some t := PySem.W.KIN.num_reads h0 h1
  obtain ⟨m, rfl⟩ := Int.eq_ofNat_of_zero_le h0
  have sg : (numT ((m : Nat) : Int)).cps.toList = (Nat.toDigits 10 m).map Char.toNat := PySem.W.KIN.signs_num m
  have dg : (numT ((m : Nat) : Int)).cps.toList.all isDig = true := by
    rw [sg, List.all_eq_true]
    intro c hc
    obtain ⟨ch, hch, rfl⟩ := List.mem_map.mp hc
    have r := PyProof.Rows.digit_range (Nat.isDigit_of_mem_toDigits (by decide) (by decide) hch)
    unfold isDig
    rw [decide_eq_true r.1, decide_eq_true r.2]; rfl
  have hne : (numT ((m : Nat) : Int)).cps.toList ≠ [] := fun z => by
    rw [nil_eq.mpr z] at iv
    have e0 : PySem.intText? ("" : Str) = none := by decide +kernel
    rw [e0] at iv
    cases iv
  refine ⟨?_, hl, dg, hne⟩
  have v := int_of dg hne (by omega)
  rw [v] at iv
  unfold readC
  rw [if_neg, if_pos dg]
  · exact iv
  · rintro (z | ⟨z1, z2⟩)
    · exact hne z
    · rw [sg] at z1 z2
      rcases Nat.eq_zero_or_pos m with e | e
      · subst e
        exact z2 (by decide +kernel)
      · obtain ⟨c, r, e1, e2⟩ := toDig_head m e
        rw [e1, List.map_cons, List.head?_cons] at z1
        exact e2 (Option.some.inj z1)
theorem numT_wd {t : Int} (h0 : 0 ≤ t) (h1 : t < 10 ^ 10) : wdS (numT t) = true ∧ Ok (numT t) ∧ numT t ≠ "-" := by
  obtain ⟨_, _, a, b⟩ := numT_read h0 h1
  have d : ∀ c ∈ (numT t).cps.toList, 48 ≤ c ∧ c ≤ 57 := fun c hc => by
    have := List.all_eq_true.mp a c hc
    unfold isDig at this
    rw [Bool.and_eq_true, decide_eq_true_eq, decide_eq_true_eq] at this
    exact this
  refine ⟨?_, fun c hc => by have := d c hc; omega, fun e => ?_⟩
  · unfold wdS
    rw [decide_eq_false (fun z => by have := d 32 z; omega), decide_eq_false (fun z => by have := d 10 z; omega)]
    cases z : (numT t).cps.toList with
    | nil => exact absurd z b
    | cons c r => rfl
  · have : 45 ∈ (numT t).cps.toList := by rw [e]; decide +kernel
    have := d 45 this
    omega
structure Wd (s : Str) : Prop where
  wd : wdS s = true
  ok : Ok s
  nd : s ≠ "-"
  len : s.length ≤ 10
theorem Nm.wd {s : Str} (h : Nm s) : Wd s := ⟨lw_wd h.1 h.2.2, h.2.2.ok, name_ne h.name, by have := h.2.1; omega⟩
def parD : Option Str → D
  | none => .non
  | some s => .str s
def linkD (l : Str × Str) : D := .tup [.str l.1, .str l.2]
inductive GW : List D → Prop
  | flat {s : Str} {r : List D} (hs : Wd s) (np : s ≠ "plug") (hr : ∀ d ∈ r, d = .non ∨ ∃ t, d = .str t ∧ Wd t) (hl : 1 ≤ r.length ∧ r.length ≤ 3) (aw : areWords (.tup (.str s :: r)) = true) : GW (.str s :: r)
  | plug {n : Str} {p : Option Str} {a b c d e : Int} {ls : List (Str × Str)} (hn : Nm n) (hp : ∀ s, p = some s → Nm s) (ha : 0 ≤ a ∧ a ≤ 100) (hb : 0 ≤ b ∧ b ≤ a) (hc : 0 ≤ c ∧ c ≤ 5) (hd : 0 ≤ d ∧ d ≤ 5) (he : 0 ≤ e ∧ e ≤ 9) (hl : ls.length ≤ 16) (hls : ∀ l ∈ ls, Nm l.1 ∧ Nm l.2 ∧ l.1 ≠ l.2) :
      GW [.str "plug", .tup [.str n, parD p, .int a, .int b, .int c, .int d, .int e], .tup (ls.map linkD)]
def dT : D → Str
  | .non => "-"
  | .str s => s
  | .int i => numT i
  | _ => ""
def pT : D → Str
  | .tup [.str a, .str b] => a ++ ">" ++ b
  | _ => ""
def wordsT (ws : List D) : List Str := match ws with
  | [.str s, .tup d, .tup ls] => (s :: d.map dT) ++ ls.map pT
  | ws => ws.map dT
theorem flat_words {s : Str} {r : List D} (hr : ∀ d ∈ r, d = .non ∨ ∃ t, d = .str t ∧ Wd t) : wordsT (.str s :: r) = s :: r.map dT := by
  unfold wordsT
  split
  · rename_i h
    cases h
    rename_i d ls
    rcases hr (.tup d) (by simp) with e | ⟨_, e, _⟩ <;> cases e
  · rfl
theorem GW.all {ws : List D} (h : GW ws) : (∀ w ∈ wordsT ws, wdS w = true ∧ Ok w ∧ w.length ≤ 17) ∧ (wordsT ws).length ≤ 24 ∧ ((wordsT ws).map (·.length)).sum + (wordsT ws).length ≤ 325 := by
  cases h with
  | @flat s r hs np hr hl aw =>
    rw [flat_words hr]
    have al : ∀ w ∈ s :: r.map dT, wdS w = true ∧ Ok w ∧ w.length ≤ 10 := fun w hw => by
      rcases List.mem_cons.mp hw with rfl | hw
      · exact ⟨hs.wd, hs.ok, hs.len⟩
      · obtain ⟨d, hd, rfl⟩ := List.mem_map.mp hw
        rcases hr d hd with rfl | ⟨t, rfl, w⟩
        · exact ⟨by decide +kernel, ok_of "-", by decide +kernel⟩
        · exact ⟨w.wd, w.ok, w.len⟩
    have ln : (s :: r.map dT).length ≤ 4 := by rw [List.length_cons, List.length_map]; omega
    have sm : ∀ l : List Str, (∀ w ∈ l, w.length ≤ 10) → (l.map (·.length)).sum ≤ 10 * l.length := by
      intro l
      induction l with
      | nil => exact fun _ => Nat.le_refl _
      | cons x y ih =>
        intro h
        have := ih fun w hw => h w (List.mem_cons_of_mem _ hw)
        have := h x List.mem_cons_self
        simp only [List.map_cons, List.sum_cons, List.length_cons]; omega
    have := sm _ fun w hw => (al w hw).2.2
    exact ⟨fun w hw => ⟨(al w hw).1, (al w hw).2.1, by have := (al w hw).2.2; omega⟩, by omega, by omega⟩
  | @plug n p a b c d e ls hn hp ha hb hc hd he hl hls =>
    have num : ∀ {v : Int}, 0 ≤ v → v ≤ 100 → wdS (numT v) = true ∧ Ok (numT v) ∧ (numT v).length ≤ 3 := fun {v} h0 h1 => by
      obtain ⟨x, y, _⟩ := numT_wd h0 (by omega)
      refine ⟨x, y, ?_⟩
      have z : ∀ k : _root_.Fin 101, (numT (k.val : Int)).length ≤ 3 := by decide +kernel
      have z := z ⟨v.toNat, by omega⟩
      have e : ((v.toNat : Nat) : Int) = v := by omega
      have z : (numT ((v.toNat : Nat) : Int)).length ≤ 3 := z
      rw [e] at z; exact z
    have na := num ha.1 ha.2
    have nb := num hb.1 (by omega)
    have nc := num hc.1 (by omega)
    have nd := num hd.1 (by omega)
    have ne := num he.1 (by omega)
    have pp : wdS (dT (parD p)) = true ∧ Ok (dT (parD p)) ∧ (dT (parD p)).length ≤ 8 := by
      cases p with
      | none => exact ⟨by decide +kernel, ok_of "-", by decide +kernel⟩
      | some s => have := hp s rfl; exact ⟨this.wd.wd, this.wd.ok, this.2.1⟩
    have lk : ∀ l ∈ ls, wdS (pT (linkD l)) = true ∧ Ok (pT (linkD l)) ∧ (pT (linkD l)).length ≤ 17 := fun l h => by
      obtain ⟨h1, h2, _⟩ := hls l h
      have e : pT (linkD l) = l.1 ++ ">" ++ l.2 := rfl
      have i1 := wd_no h1.wd.wd
      have i2 := wd_no h2.wd.wd
      have mem : ∀ c, c ∈ (l.1 ++ ">" ++ l.2 : Str).cps.toList → c ∈ l.1.cps.toList ∨ c = 62 ∨ c ∈ l.2.cps.toList := fun c hc => by
        rw [str_app, str_app] at hc
        rcases List.mem_append.mp hc with hc | hc
        · rcases List.mem_append.mp hc with hc | hc
          · exact .inl hc
          · rw [gtL] at hc; exact .inr (.inl (List.mem_singleton.mp hc))
        · exact .inr (.inr hc)
      rw [e]
      refine ⟨?_, (h1.wd.ok.app (ok_of ">")).app h2.wd.ok, ?_⟩
      · unfold wdS
        rw [decide_eq_false (fun z => by rcases mem 32 z with z | z | z; exact i1.1 z; cases z; exact i2.1 z), decide_eq_false (fun z => by rcases mem 10 z with z | z | z; exact i1.2.1 z; cases z; exact i2.2.1 z)]
        have : (l.1 ++ ">" ++ l.2 : Str).cps.toList ≠ [] := fun z => by
          have : 62 ∈ (l.1 ++ ">" ++ l.2 : Str).cps.toList := by rw [str_app, str_app, gtL]; simp
          rw [z] at this; cases this
        cases z : (l.1 ++ ">" ++ l.2 : Str).cps.toList with
        | nil => exact absurd z this
        | cons c r => rfl
      · rw [Str.length_append, Str.length_append]
        have := h1.2.1
        have := h2.2.1
        have : (">" : Str).length = 1 := by decide +kernel
        omega
    show (∀ w ∈ (("plug" : Str) :: n :: dT (parD p) :: numT a :: numT b :: numT c :: numT d :: numT e :: (ls.map linkD).map pT : List Str), _) ∧ ("plug" :: n :: dT (parD p) :: numT a :: numT b :: numT c :: numT d :: numT e :: (ls.map linkD).map pT : List Str).length ≤ 24 ∧ (("plug" :: n :: dT (parD p) :: numT a :: numT b :: numT c :: numT d :: numT e :: (ls.map linkD).map pT : List Str).map (·.length)).sum + ("plug" :: n :: dT (parD p) :: numT a :: numT b :: numT c :: numT d :: numT e :: (ls.map linkD).map pT : List Str).length ≤ 325
    have sm : ∀ ls : List (Str × Str), (∀ l ∈ ls, (pT (linkD l)).length ≤ 17) → (((ls.map linkD).map pT).map (·.length)).sum ≤ 17 * ls.length := by
      intro l
      induction l with
      | nil => exact fun _ => Nat.le_refl _
      | cons x y ih =>
        intro h
        have := ih fun w hw => h w (List.mem_cons_of_mem _ hw)
        have := h x List.mem_cons_self
        simp only [List.map_cons, List.sum_cons, List.length_cons]; omega
    have sl := sm ls fun l h => (lk l h).2.2
    have lp : ("plug" : Str).length = 4 := by decide +kernel
    have ln := hn.2.1
    refine ⟨fun w hw => ?_, by simp only [List.length_cons, List.length_map]; omega, ?_⟩
    · simp only [List.mem_cons] at hw
      rcases hw with rfl | rfl | rfl | rfl | rfl | rfl | rfl | rfl | hw
      · exact ⟨by decide +kernel, ok_of "plug", by decide +kernel⟩
      · exact ⟨hn.wd.wd, hn.wd.ok, by omega⟩
      · exact ⟨pp.1, pp.2.1, by omega⟩
      · exact ⟨na.1, na.2.1, by omega⟩
      · exact ⟨nb.1, nb.2.1, by omega⟩
      · exact ⟨nc.1, nc.2.1, by omega⟩
      · exact ⟨nd.1, nd.2.1, by omega⟩
      · exact ⟨ne.1, ne.2.1, by omega⟩
      · rw [List.map_map] at hw
        obtain ⟨l, h, rfl⟩ := List.mem_map.mp hw
        exact lk l h
    · simp only [List.map_cons, List.sum_cons, List.length_cons, List.length_map]
      have := pp.2.2
      have := na.2.2
      have := nb.2.2
      have := nc.2.2
      have := nd.2.2
      have := ne.2.2
      have c1 : (numT c).length ≤ 1 := by
        have z : ∀ k : _root_.Fin 6, (numT (k.val : Int)).length ≤ 1 := by decide +kernel
        have z := z ⟨c.toNat, by omega⟩
        have e : ((c.toNat : Nat) : Int) = c := by omega
        have z : (numT ((c.toNat : Nat) : Int)).length ≤ 1 := z
        rw [e] at z; exact z
      have d1 : (numT d).length ≤ 1 := by
        have z : ∀ k : _root_.Fin 6, (numT (k.val : Int)).length ≤ 1 := by decide +kernel
        have z := z ⟨d.toNat, by omega⟩
        have e : ((d.toNat : Nat) : Int) = d := by omega
        have z : (numT ((d.toNat : Nat) : Int)).length ≤ 1 := z
        rw [e] at z; exact z
      have e1 : (numT e).length ≤ 1 := by
        have z : ∀ k : _root_.Fin 10, (numT (k.val : Int)).length ≤ 1 := by decide +kernel
        have z := z ⟨e.toNat, by omega⟩
        have k : ((e.toNat : Nat) : Int) = e := by omega
        have z : (numT ((e.toNat : Nat) : Int)).length ≤ 1 := z
        rw [k] at z; exact z
      rw [List.map_map] at sl ⊢
      omega
mutual
inductive Den (M : Mp) : D → D → Prop
  | non : Den M .non .non
  | bl (b : Bool) : Den M (.bl b) (.bl b)
  | int (i : Int) : Den M (.int i) (.int i)
  | str (s : Str) : Den M (.str s) (.str s)
  | lst {xs ys : List D} : Dens M xs ys → Den M (.lst xs) (.lst ys)
  | tup {xs ys : List D} : Dens M xs ys → Den M (.tup xs) (.tup ys)
  | dct {ks xs ys : List (Key × D)} : DenK M xs ys → Den M (.dct xs) (.dct ys)
  | ref {a : Addr} {xs ys : List D} : M a = some (.lst xs) → Dens M xs ys → Den M (.ref a) (.lst ys)
  | refK {a : Addr} {xs ys : List (Key × D)} : M a = some (.dct xs) → DenK M xs ys → Den M (.ref a) (.dct ys)
inductive Dens (M : Mp) : List D → List D → Prop
  | nil : Dens M [] []
  | cons {x y : D} {xs ys : List D} : Den M x y → Dens M xs ys → Dens M (x :: xs) (y :: ys)
inductive DenK (M : Mp) : List (Key × D) → List (Key × D) → Prop
  | nil : DenK M [] []
  | cons {k : Key} {x y : D} {xs ys : List (Key × D)} : Den M x y → DenK M xs ys → DenK M ((k, x) :: xs) ((k, y) :: ys)
end
mutual
theorem Den.ext {M M' : Mp} (h : Ext M M') : ∀ {x y : D}, Den M x y → Den M' x y
  | _, _, .non => .non
  | _, _, .bl b => .bl b
  | _, _, .int i => .int i
  | _, _, .str s => .str s
  | _, _, .lst r => .lst (Dens.ext h r)
  | _, _, .tup r => .tup (Dens.ext h r)
  | _, _, .dct (ks := ks) r => .dct (ks := ks) (DenK.ext h r)
  | _, _, .ref e r => .ref (h _ _ e) (Dens.ext h r)
  | _, _, .refK e r => .refK (h _ _ e) (DenK.ext h r)
theorem Dens.ext {M M' : Mp} (h : Ext M M') : ∀ {x y : List D}, Dens M x y → Dens M' x y
  | _, _, .nil => .nil
  | _, _, .cons a r => .cons (Den.ext h a) (Dens.ext h r)
theorem DenK.ext {M M' : Mp} (h : Ext M M') : ∀ {x y : List (Key × D)}, DenK M x y → DenK M' x y
  | _, _, .nil => .nil
  | _, _, .cons a r => .cons (Den.ext h a) (DenK.ext h r)
end
def shK : Key → Sh
  | .inl i => .leaf (toString i)
  | .inr s => .leaf (reprText s)
mutual
def shD : D → Sh
  | .non => .leaf "None"
  | .bl b => .leaf (blText b)
  | .int i => .leaf (toString i)
  | .str s => .leaf (reprText s)
  | .lst xs => .lst (shDs xs)
  | .tup xs => .tup (shDs xs)
  | .dct kvs => .dct (shKs kvs) (shVs kvs)
  | .ref _ => .leaf ""
  | .ty _ => .leaf ""
  | .sq _ => .leaf ""
  | .ins _ _ => .leaf ""
def shDs : List D → List Sh
  | [] => []
  | x :: r => shD x :: shDs r
def shKs : List (Key × D) → List Sh
  | [] => []
  | (k, _) :: r => shK k :: shKs r
def shVs : List (Key × D) → List Sh
  | [] => []
  | (_, x) :: r => shD x :: shVs r
end
def okK : Key → Prop
  | .inl i => i.natAbs.log2 < 1920
  | .inr s => (reprText s).length ≤ sizeLine
mutual
def okD : D → Prop
  | .non => True
  | .bl _ => True
  | .int i => i.natAbs.log2 < 1920
  | .str s => (reprText s).length ≤ sizeLine
  | .lst xs => okDs xs
  | .tup xs => okDs xs
  | .dct kvs => okKs kvs
  | _ => False
def okDs : List D → Prop
  | [] => True
  | x :: r => okD x ∧ okDs r
def okKs : List (Key × D) → Prop
  | [] => True
  | (k, x) :: r => okK k ∧ okD x ∧ okKs r
end
theorem shK_of {M : Mp} {k : Key} (h : okK k) : ShOf M (kD k) (shK k) := by
  cases k with
  | inl i => exact .int h
  | inr s => exact .str h
mutual
theorem Den.sh {M : Mp} : ∀ {x y : D}, Den M x y → okD y → ShOf M x (shD y)
  | _, _, .non, _ => .non
  | _, _, .bl b, _ => .bl b
  | _, _, .int i, h => .int h
  | _, _, .str s, h => .str h
  | _, _, .lst r, h => .lst (Dens.sh r h)
  | _, _, .tup r, h => .tup (Dens.sh r h)
  | _, _, .dct r, h => .dct (DenK.sh r h).1 (DenK.sh r h).2
  | _, _, .ref e r, h => .lstM e (Dens.sh r h)
  | _, _, .refK e r, h => .dctM e (DenK.sh r h).1 (DenK.sh r h).2
theorem Dens.sh {M : Mp} : ∀ {x y : List D}, Dens M x y → okDs y → ShOfs M x (shDs y)
  | _, _, .nil, _ => .nil
  | _, _, .cons a r, h => .cons (Den.sh a h.1) (Dens.sh r h.2)
theorem DenK.sh {M : Mp} : ∀ {x y : List (Key × D)}, DenK M x y → okKs y → ShOfs M (x.map fun kv => kD kv.1) (shKs y) ∧ ShOfs M (x.map (·.2)) (shVs y)
  | _, _, .nil, _ => ⟨.nil, .nil⟩
  | _, _, .cons a r, h => ⟨.cons (shK_of h.1) (DenK.sh r h.2.2).1, .cons (Den.sh a h.2.1) (DenK.sh r h.2.2).2⟩
end
structure Shb (d : D) : Prop where
  ok : okD d
  dep : (shD d).dep ≤ 60
  w : (shD d).w ≤ 16777216
mutual
def pyD : D → PyData
  | .non => .none
  | .bl b => .bool b
  | .int i => .int i
  | .str s => .str s
  | .lst xs => .list (pyDs xs)
  | .tup xs => .tuple (pyDs xs)
  | .ref _ => .none
  | .ty _ => .none
  | .sq _ => .none
  | .ins _ _ => .none
  | .dct _ => .none
def pyDs : List D → List PyData
  | [] => []
  | x :: r => pyD x :: pyDs r
end
mutual
def eqOk : Nat → D → Prop
  | _, .non => True
  | _, .bl _ => True
  | _, .int _ => True
  | _, .str s => Ok s
  | n, .lst xs => 1 ≤ n ∧ eqOks (n - 1) xs
  | n, .tup xs => 1 ≤ n ∧ eqOks (n - 1) xs
  | _, _ => False
def eqOks : Nat → List D → Prop
  | _, [] => True
  | n, x :: r => eqOk n x ∧ eqOks n r
end
mutual
theorem eqOk.lay : ∀ {n : Nat} {y : D}, eqOk n y → (pyD y).canLay0 = true ∧ (pyD y).depth ≤ n
  | _, .non, _ => ⟨rfl, Nat.zero_le _⟩
  | _, .bl _, _ => ⟨rfl, Nat.zero_le _⟩
  | _, .int _, _ => ⟨rfl, Nat.zero_le _⟩
  | _, .str s, h => ⟨by unfold pyD PyData.canLay0; exact strOk_of h, Nat.zero_le _⟩
  | n, .lst xs, h => by
    obtain ⟨a, b⟩ := eqOks.lay h.2
    refine ⟨by unfold pyD PyData.canLay0; exact a, ?_⟩
    unfold pyD PyData.depth
    have := h.1
    omega
  | n, .tup xs, h => by
    obtain ⟨a, b⟩ := eqOks.lay h.2
    refine ⟨by unfold pyD PyData.canLay0; exact a, ?_⟩
    unfold pyD PyData.depth
    have := h.1
    omega
  | _, .ref _, h => h.elim
  | _, .ty _, h => h.elim
  | _, .sq _, h => h.elim
  | _, .dct _, h => h.elim
  | _, .ins _ _, h => h.elim
theorem eqOks.lay : ∀ {n : Nat} {y : List D}, eqOks n y → PyData.canLayAll0 (pyDs y) = true ∧ PyData.depthAll (pyDs y) ≤ n
  | _, [], _ => ⟨rfl, Nat.zero_le _⟩
  | n, x :: r, h => by
    obtain ⟨a, b⟩ := eqOk.lay h.1
    obtain ⟨c, d⟩ := eqOks.lay h.2
    refine ⟨by unfold pyDs PyData.canLayAll0; rw [a, c]; rfl, ?_⟩
    unfold pyDs PyData.depthAll
    omega
end
theorem eqOk.shaped {n : Nat} {y : D} (h : eqOk n y) (hn : n ≤ 64) : SeqAt.shaped (pyD y) = true := by
  obtain ⟨a, b⟩ := h.lay
  unfold SeqAt.shaped
  rw [a, Bool.true_and]
  exact decide_eq_true (Nat.le_trans b hn)
end DL
namespace DL
open PySem PySem.Spec PyProof.Rows L2
mutual
inductive Fz : Mp → D → Mp → D → Prop
  | same (M : Mp) (d : D) : Fz M d M d
  | lst {M M' : Mp} {a : Addr} {xs ys : List D} : M a = some (.lst xs) → Fzs (delM M a) xs M' ys → Fz M (.ref a) M' (.lst ys)
  | dct {M M' : Mp} {a : Addr} {xs ys : List (Key × D)} : M a = some (.dct xs) → FzK (delM M a) xs M' ys → Fz M (.ref a) M' (.dct ys)
  | ins {M M' : Mp} {a C : Addr} {xs ys : List (Str × D)} : M a = some (.ins C xs) → FzF (delM M a) xs M' ys → Fz M (.ref a) M' (.ins C ys)
inductive Fzs : Mp → List D → Mp → List D → Prop
  | nil (M : Mp) : Fzs M [] M []
  | cons {M M1 M2 : Mp} {x y : D} {xs ys : List D} : Fz M x M1 y → Fzs M1 xs M2 ys → Fzs M (x :: xs) M2 (y :: ys)
inductive FzK : Mp → List (Key × D) → Mp → List (Key × D) → Prop
  | nil (M : Mp) : FzK M [] M []
  | cons {M M1 M2 : Mp} {k : Key} {x y : D} {xs ys : List (Key × D)} : Fz M x M1 y → FzK M1 xs M2 ys → FzK M ((k, x) :: xs) M2 ((k, y) :: ys)
inductive FzF : Mp → List (Str × D) → Mp → List (Str × D) → Prop
  | nil (M : Mp) : FzF M [] M []
  | cons {M M1 M2 : Mp} {k : Str} {x y : D} {xs ys : List (Str × D)} : Fz M x M1 y → FzF M1 xs M2 ys → FzF M ((k, x) :: xs) M2 ((k, y) :: ys)
end
theorem HR.drop {K : PySem.W.Frag} {I : Hp} {M : Mp} {F H : Hp} (h : HR K I M F H) (a : Addr) : HR K I (delM M a) F H := by
  refine ⟨h.imm, fun b m q => ?_, fun b u q => ?_, h.ft⟩
  · have z : b ≠ a := fun z => by rw [z, delM_same] at q; cases q
    rw [delM_ne z] at q
    exact h.mu b m q
  · obtain ⟨x, y, z⟩ := h.frm b u q
    refine ⟨x, y, ?_⟩
    by_cases e : b = a
    · rw [e]; exact delM_same
    · rw [delM_ne e]; exact z
theorem HR.addI {K : PySem.W.Frag} {I : Hp} {M : Mp} {F H : Hp} (h : HR K I M F H) {a : Addr} {o : HO} (e : H a = some o) (m : M a = none) (f : F a = none) : Same I (upd I a o) ∧ HR K (upd I a o) M F H := by
  have sm : Same I (upd I a o) := fun b u q => by
    by_cases z : b = a
    · subst z
      rw [upd_same]
      exact (h.imm b u q).symm.trans e |>.symm
    · rw [upd_ne z]; exact q
  refine ⟨sm, fun b u q => ?_, fun b n q => ?_, fun b u q => ?_, h.ft⟩
  · by_cases z : b = a
    · subst z; rw [upd_same] at q; cases q; exact e
    · rw [upd_ne z] at q; exact h.imm b u q
  · have z : b ≠ a := fun z => by rw [z, m] at q; cases q
    obtain ⟨x, y, w, r⟩ := h.mu b n q
    exact ⟨by rw [upd_ne z]; exact x, y, w, r.mono sm fun _ _ e => e⟩
  · have z : b ≠ a := fun z => by rw [z, f] at q; cases q
    obtain ⟨x, y, w⟩ := h.frm b u q
    exact ⟨x, by rw [upd_ne z]; exact y, w⟩
theorem HR.muF {K : PySem.W.Frag} {I : Hp} {M : Mp} {F H : Hp} (h : HR K I M F H) {a : Addr} {m : MO} (e : M a = some m) : F a = none := by
  cases q : F a with
  | none => rfl
  | some u => rw [(h.frm a u q).2.2] at e; cases e
def Less (M M' : Mp) : Prop := ∀ a, M a = none → M' a = none
theorem Less.del (M : Mp) (a : Addr) : Less M (delM M a) := fun b e => by
  by_cases z : b = a
  · rw [z]; exact delM_same
  · rw [delM_ne z]; exact e
mutual
theorem fz_ok {K : PySem.W.Frag} {F H : Hp} : ∀ {M M' : Mp} {d d' : D}, Fz M d M' d' → ∀ {I : Hp}, HR K I M F H → Less M M' ∧ ∃ I', Same I I' ∧ HR K I' M' F H ∧ ∀ v, Rep K I v d → Rep K I' v d'
  | _, _, _, _, .same M d, I, h => ⟨fun _ e => e, I, Same.refl I, h, fun _ r => r⟩
  | _, _, _, _, .lst (M := M) (a := a) e r, I, h => by
    obtain ⟨h1, o, h2, vs, rfl, rr⟩ := h.mu a _ e
    obtain ⟨l, I1, s1, k1, m1⟩ := fzs_ok r (h.drop a)
    obtain ⟨s2, k2⟩ := k1.addI h2 (l a delM_same) (h.muF e)
    exact ⟨fun b q => l b (Less.del M a b q), _, s1.trans s2, k2, fun v q => by cases q; exact .lst upd_same ((m1 _ rr).mono s2)⟩
  | _, _, _, _, .dct (M := M) (a := a) e r, I, h => by
    obtain ⟨h1, o, h2, vs, rfl, rr⟩ := h.mu a _ e
    obtain ⟨l, I1, s1, k1, m1⟩ := fzk_ok r (h.drop a)
    obtain ⟨s2, k2⟩ := k1.addI h2 (l a delM_same) (h.muF e)
    exact ⟨fun b q => l b (Less.del M a b q), _, s1.trans s2, k2, fun v q => by cases q; exact .dct upd_same ((m1 _ rr).mono s2)⟩
  | _, _, _, _, .ins (M := M) (a := a) e r, I, h => by
    obtain ⟨h1, o, h2, dx, vs, rfl, rr⟩ := h.mu a _ e
    obtain ⟨l, I1, s1, k1, m1⟩ := fzf_ok r (h.drop a)
    obtain ⟨s2, k2⟩ := k1.addI h2 (l a delM_same) (h.muF e)
    exact ⟨fun b q => l b (Less.del M a b q), _, s1.trans s2, k2, fun v q => by cases q; exact .ins upd_same ((m1 _ rr).mono s2)⟩
theorem fzs_ok {K : PySem.W.Frag} {F H : Hp} : ∀ {M M' : Mp} {d d' : List D}, Fzs M d M' d' → ∀ {I : Hp}, HR K I M F H → Less M M' ∧ ∃ I', Same I I' ∧ HR K I' M' F H ∧ ∀ vs, Reps K I vs d → Reps K I' vs d'
  | _, _, _, _, .nil M, I, h => ⟨fun _ e => e, I, Same.refl I, h, fun _ r => r⟩
  | _, _, _, _, .cons x r, I, h => by
    obtain ⟨l, I1, s1, k1, m1⟩ := fz_ok x h
    obtain ⟨l2, I2, s2, k2, m2⟩ := fzs_ok r k1
    exact ⟨fun b q => l2 b (l b q), I2, s1.trans s2, k2, fun vs q => by cases q with | cons a b => exact .cons ((m1 _ a).mono s2) (m2 _ (b.mono s1))⟩
theorem fzk_ok {K : PySem.W.Frag} {F H : Hp} : ∀ {M M' : Mp} {d d' : List (Key × D)}, FzK M d M' d' → ∀ {I : Hp}, HR K I M F H → Less M M' ∧ ∃ I', Same I I' ∧ HR K I' M' F H ∧ ∀ vs, RepK K I vs d → RepK K I' vs d'
  | _, _, _, _, .nil M, I, h => ⟨fun _ e => e, I, Same.refl I, h, fun _ r => r⟩
  | _, _, _, _, .cons x r, I, h => by
    obtain ⟨l, I1, s1, k1, m1⟩ := fz_ok x h
    obtain ⟨l2, I2, s2, k2, m2⟩ := fzk_ok r k1
    exact ⟨fun b q => l2 b (l b q), I2, s1.trans s2, k2, fun vs q => by cases q with | cons a b => exact .cons ((m1 _ a).mono s2) (m2 _ (b.mono s1))⟩
theorem fzf_ok {K : PySem.W.Frag} {F H : Hp} : ∀ {M M' : Mp} {d d' : List (Str × D)}, FzF M d M' d' → ∀ {I : Hp}, HR K I M F H → Less M M' ∧ ∃ I', Same I I' ∧ HR K I' M' F H ∧ ∀ vs, RepF K I vs d → RepF K I' vs d'
  | _, _, _, _, .nil M, I, h => ⟨fun _ e => e, I, Same.refl I, h, fun _ r => r⟩
  | _, _, _, _, .cons x r, I, h => by
    obtain ⟨l, I1, s1, k1, m1⟩ := fz_ok x h
    obtain ⟨l2, I2, s2, k2, m2⟩ := fzf_ok r k1
    exact ⟨fun b q => l2 b (l b q), I2, s1.trans s2, k2, fun vs q => by cases q with | cons a b => exact .cons ((m1 _ a).mono s2) (m2 _ (b.mono s1))⟩
end
def dFrzE (te : DTE) : DTE := fun δ M Q E => te δ M (fun x M1 => ∃ M2 y, Fz M1 x M2 y ∧ Q y M2) E
section
variable {X : Cx} {W : WX} {e o value : Expr} {te to tv : DTE} {pos tpos : Pos}
theorem d_frz (h : DE X W e te) : DE X W e (dFrzE te) := pe_imp h fun σ H Q q => by
  obtain ⟨I, M, F, δ, Qd, Ed, hr, rs, q, fq, fx⟩ := q
  refine ⟨I, M, F, δ, _, Ed, hr, rs, q, fun d M1 I1 H1 v q1 s1 hr1 r1 => ?_, fx⟩
  obtain ⟨M2, y, z, q2⟩ := q1
  obtain ⟨_, I2, s2, hr2, m⟩ := fz_ok z hr1
  exact fq y M2 I2 H1 v q2 (s1.trans s2) hr2 (m v r1)
theorem fz_lst {M : Mp} {a : Addr} {xs : List D} (h : M a = some (.lst xs)) : ∃ M', Fz M (.ref a) M' (.lst xs) ∧ ∀ b, b ≠ a → M' b = M b := by
  have k : ∀ (xs : List D) (M : Mp), Fzs M xs M xs := by
    intro xs
    induction xs with
    | nil => exact fun M => .nil M
    | cons x r ih => exact fun M => .cons (.same M x) (ih M)
  exact ⟨_, .lst h (k xs _), fun b e => delM_ne e⟩
end
end DL
namespace DL
open PySem PySem.Spec PyProof.Rows L2
def leRow : List Value := [.type "LookupError", .type "Exception", .type "BaseException", .type "object"]
def leRowB (b : Bool) : List Value := if b then .type "KeyError" :: leRow else leRow
def leMro (b : Bool) (rs : List Addr) : List Value := rs.map Value.ref ++ leRowB b
section
open PySem.HandSPX
variable {M : Model} {P : Program} {w : World} {A : Around} {E : Value → Shared → Prop} {R : Result → Shared → Prop} {hp : Heap} {gs : Array GenState} {dn : Drawn} {tt : Nat} {os : OsState}
variable {nm q : Str} {C N : Addr} {bs : List Value} {b : Bool} {rs : List Addr} {sn : List Str} {sub : List Value} {ab : Bool} {col : Option Bool} {dd : Option Addr} {k0 k1 k2 k3 k5 : Option Value} {us : List Value}
end
structure OexL (K : PySem.W.Frag) (C : Addr) : Prop where
  cls : ∃ b nm q N bs rs sn sub ab col dd k0 k1 k2 k3 k5, K.lookup C = some (excClassObj nm q C N bs (leMro b rs) true sn sub ab col dd k0 k1 k2 k3 k5 "LookupError.__new__")
  sa : PySem.W.findIn K (.ref C) "__setattr__" = some (some (.builtin "object.__setattr__"))
  be : PySem.W.subIn K (.ref C) (.type "BaseException") = some true
  ty : PySem.W.typeIn K (.ref C) = some (.type "type")
  kp : PySem.W.keepIn K (.ref C) = true
theorem OexL.cd {K : PySem.W.Frag} {C : Addr} (T : OexL K C) : ∃ cd b rs, PySem.W.clsIn K C = some cd ∧ cd.mro = leMro b (C :: rs) ∧ cd.hasDict = true := by
  obtain ⟨b, nm, q, N, bs, rs, sn, sub, ab, col, dd, k0, k1, k2, k3, k5, h⟩ := T.cls
  refine ⟨{ name := nm, bases := bs, mro := leMro b (C :: rs), ns := N, qualname := q, hasDict := true, slotNames := sn, subclasses := sub, abstract := ab, collection := col, hasDel := false }, b, rs, ?_, rfl, rfl⟩
  unfold PySem.W.clsIn
  rw [h] <;> rfl
section
open Builtin Builtin.ObjectAttr
variable {P : Program} {w : World} {A : Around} {E : Value → Shared → Prop} {R : Result → Shared → Prop} {hp : Heap} {gs : Array GenState} {dn : Drawn} {tt : Nat} {os : OsState}
end
section
variable {X : Cx} {pins : List (Addr × Obj)} {σ : L2.St} {H : Hp} {s : Shared} {a C : Addr} {f : Str} {y : V} {u : Value} {Q : Unit → Shared → Prop} {E : Value → Shared → Prop} {A : Around}
end
def spIL (C : Addr) (fs : List Str) : Sp := fun vs H Q _ => ∃ (a : Addr) (us : List V), vs = .ref a :: us ∧ us.length = fs.length ∧ H a = some (exo a C none) ∧ ∀ d, H d = none → d ≠ a → Q .non (upd (upd H d (exd d (fs.zip us).reverse)) a (exo a C (some d)))
structure ExcL (P : Program) (w : World) (K : PySem.W.Frag) (mg : Str → Option Value) (base : Heap) (k : Nat) (x : Str) (fs : List Str) (C : Addr) : Prop where
  mgC : mg x = some (.ref C)
  oex : OexL K C
  cls : ExcCls K C
  ini : ∃ (fI : Addr) (fd : FuncData), PySem.W.findIn K (.ref C) "__init__" = some (some (.ref fI)) ∧ PySem.W.typeIn K (.ref fI) = some (.type "function") ∧ Binds K fd ("self" :: fs) [] ∧ FnG P w K mg base (L2.CX P w) k fI fd ("self" :: fs) (spIL C fs)
section
variable {X : Cx} {W : WX} {e : Expr} {es : List Expr} {ta : TA} {td : DTA} {p pos pos' : Pos} {x : Str} {fs : List Str} {C : Addr} {k : Nat}
end
end DL
namespace DL
open PySem PySem.Spec PyProof.Rows L2
section
variable {X : Cx} {W : WX} {e : Expr} {te : DTE} {p pos apos mpos : Pos}
def dFrzD (te : DTE) : DTE := fun δ M Q E => te δ M (fun x M1 => ∃ a kvs M2 ys, x = .ref a ∧ M1 a = some (.dct kvs) ∧ FzK M1 kvs M2 ys ∧ M2 a = some (.dct kvs) ∧ Q x (updM M2 a (.dct ys))) E
theorem d_frzD (h : DE X W e te) : DE X W e (dFrzD te) := pe_imp h fun σ H Q q => by
  obtain ⟨I, M, F, δ, Qd, Ed, hr, rs, q, fq, fx⟩ := q
  refine ⟨I, M, F, δ, _, Ed, hr, rs, q, fun d M1 I1 H1 v q1 s1 hr1 r1 => ?_, fx⟩
  obtain ⟨a, kvs, M2, ys, rfl, e1, z, e2, q2⟩ := q1
  cases r1
  obtain ⟨_, I2, s2, hr2, m⟩ := fzk_ok z hr1
  obtain ⟨_, o, eo, vs, rfl, rv⟩ := hr1.mu a _ e1
  have key : HR X.K I2 (updM M2 a (.dct ys)) F H1 := by
    refine ⟨hr2.imm, fun b n w => ?_, fun b u w => ?_, hr2.ft⟩
    · by_cases x : b = a
      · subst x; rw [updM_same] at w; cases w
        exact ⟨(hr2.mu b _ e2).1, _, eo, vs, rfl, m vs rv⟩
      · rw [updM_ne x] at w; exact hr2.mu b n w
    · obtain ⟨x, y, t⟩ := hr2.frm b u w
      have x2 : b ≠ a := fun x2 => by rw [x2, e2] at t; cases t
      exact ⟨x, y, by rw [updM_ne x2]; exact t⟩
  exact fq (.ref a) _ I2 H1 _ q2 (s1.trans s2) key (.ref a)
theorem HR.more {K : PySem.W.Frag} {I I' : Hp} {M : Mp} {F H H' : Hp} (h : HR K I M F H) (k : ∀ b o, H b = some o → H' b = some o) (s : Same I I') (im : ∀ b o, I' b = some o → H' b = some o) (off : ∀ b o, H b = some o → I' b = I b) : HR K I' M F H' := by
  refine ⟨im, fun a m z => ?_, fun a u z => ?_, h.ft⟩
  · obtain ⟨x, o, y, r⟩ := h.mu a m z
    exact ⟨(off a o y).trans x, o, k a o y, r.mono s fun d φ w => k d _ w⟩
  · obtain ⟨x, y, w⟩ := h.frm a u z
    exact ⟨k a u x, (off a u x).trans y, w⟩
def dNever : DTS := fun _ _ _ => False
end
end DL
namespace DL
open PySem L2
structure Rw where
  nm : Str
  par : Option Str
  burn : Int
  sip : Int
  wake : Int
  fall : Int
  rest : Int
def oStr : Option Str → D
  | none => .non
  | some x => .str x
def Rw.d (r : Rw) : D := .tup [.str r.nm, oStr r.par, .int r.burn, .int r.sip, .int r.wake, .int r.fall, .int r.rest]
def prD (q : Str × Str) : D := .tup [.str q.1, .str q.2]
structure Mc where
  rows : List Rw
  links : List (Str × Str)
def Mc.names (m : Mc) : List Str := m.rows.map (·.nm)
def linkAdd (n : Str) (acc : List Str) (q : Str × Str) : List Str := if q.1 = n ∧ q.2 ∉ acc then acc ++ [q.2] else acc
def Mc.row (m : Mc) (n : Str) : Rw := (m.rows.find? fun r => decide (r.nm = n)).getD ⟨n, none, 0, 0, 0, 0, 0⟩
def Mc.needs (m : Mc) (n : Str) : List Str := m.links.foldl (linkAdd n) (m.row n).par.toList
def ripe (ns : List Str) (nd : Str → List Str) (fd : List Str) : List Str := ns.filter fun n => decide (n ∉ fd) && (nd n).all fun o => decide (o ∈ fd)
def ordN (ns : List Str) (nd : Str → List Str) : Nat → List Str
  | 0 => []
  | k + 1 => ordN ns nd k ++ (ripe ns nd (ordN ns nd k)).take 1
def Mc.order (m : Mc) : List Str := ordN m.names m.needs m.names.length
structure Ranked (ns : List Str) (nd : Str → List Str) : Prop where
  dup : ns.Nodup
  sub : ∀ n ∈ ns, ∀ o ∈ nd n, o ∈ ns
  rk : ∃ r : Str → Nat, ∀ n ∈ ns, ∀ o ∈ nd n, r o < r n
theorem least_of (r : Str → Nat) : ∀ l : List Str, l ≠ [] → ∃ x ∈ l, ∀ y ∈ l, r x ≤ r y
  | [], h => absurd rfl h
  | [x], _ => ⟨x, List.mem_cons_self, fun y hy => by rw [List.mem_singleton.mp hy]; exact Nat.le_refl _⟩
  | x :: y :: t, _ => by
    obtain ⟨z, hz, q⟩ := least_of r (y :: t) (fun z => nomatch z)
    by_cases h : r x ≤ r z
    · refine ⟨x, List.mem_cons_self, fun w hw => ?_⟩
      rcases List.mem_cons.mp hw with rfl | hw
      · exact Nat.le_refl _
      · exact Nat.le_trans h (q w hw)
    · refine ⟨z, List.mem_cons_of_mem _ hz, fun w hw => ?_⟩
      rcases List.mem_cons.mp hw with rfl | hw
      · omega
      · exact q w hw
theorem mem_ripe {ns : List Str} {nd : Str → List Str} {fd : List Str} {n : Str} : n ∈ ripe ns nd fd ↔ n ∈ ns ∧ n ∉ fd ∧ ∀ o ∈ nd n, o ∈ fd := by
  unfold ripe
  rw [List.mem_filter]
  simp only [Bool.and_eq_true, decide_eq_true_eq, List.all_eq_true]
theorem ripe_ne {ns : List Str} {nd : Str → List Str} (R : Ranked ns nd) {fd : List Str} (h : ∃ n ∈ ns, n ∉ fd) : ripe ns nd fd ≠ [] := by
  obtain ⟨r, hr⟩ := R.rk
  obtain ⟨n, hn, nf⟩ := h
  have ne : (ns.filter fun x => decide (x ∉ fd)) ≠ [] := fun z => by
    have : n ∈ (ns.filter fun x => decide (x ∉ fd)) := List.mem_filter.mpr ⟨hn, decide_eq_true nf⟩
    rw [z] at this
    exact nomatch this
  obtain ⟨x, hx, q⟩ := least_of r _ ne
  obtain ⟨x1, x2⟩ := List.mem_filter.mp hx
  have x2 : x ∉ fd := of_decide_eq_true x2
  intro z
  have : x ∈ ripe ns nd fd := mem_ripe.mpr ⟨x1, x2, fun o ho => by
    by_cases hf : o ∈ fd
    · exact hf
    · have := q o (List.mem_filter.mpr ⟨R.sub x x1 o ho, decide_eq_true hf⟩)
      have := hr x x1 o ho
      omega⟩
  rw [z] at this
  exact nomatch this
def Topo (nd : Str → List Str) : List Str → Prop
  | [] => True
  | o :: r => (∀ w ∈ o :: r, o ∉ nd w) ∧ Topo nd r
structure OrdOk (ns : List Str) (nd : Str → List Str) (k : Nat) (l : List Str) : Prop where
  len : l.length = k
  dup : l.Nodup
  sub : ∀ n ∈ l, n ∈ ns
  cl : ∀ n ∈ l, ∀ o ∈ nd n, o ∈ l
  topo : Topo nd l.reverse
theorem nodup_le : ∀ {a b : List Str}, a.Nodup → (∀ x ∈ a, x ∈ b) → a.length ≤ b.length
  | [], _, _, _ => Nat.zero_le _
  | x :: a, b, h, s => by
    obtain ⟨h1, h2⟩ := List.nodup_cons.mp h
    have hx := s x List.mem_cons_self
    have ih := nodup_le (b := b.erase x) h2 fun y hy => (List.mem_erase_of_ne (fun z : y = x => h1 (by rw [← z]; exact hy))).mpr (s y (List.mem_cons_of_mem _ hy))
    rw [List.length_erase_of_mem hx] at ih
    have := List.length_pos_of_mem hx
    rw [List.length_cons]
    omega
theorem more_left {ns l : List Str} (hn : ns.Nodup) (hl : l.Nodup) (h : l.length < ns.length) : ∃ n ∈ ns, n ∉ l := by
  refine Classical.byContradiction fun z => ?_
  have all : ∀ n ∈ ns, n ∈ l := fun n hn => Classical.byContradiction fun y => z ⟨n, hn, y⟩
  have : ns.length ≤ l.length := nodup_le hn all
  omega
theorem ord_ok {ns : List Str} {nd : Str → List Str} (R : Ranked ns nd) : ∀ k, k ≤ ns.length → OrdOk ns nd k (ordN ns nd k)
  | 0, _ => ⟨rfl, List.nodup_nil, (fun _ z => nomatch z), (fun _ z => nomatch z), True.intro⟩
  | k + 1, h => by
    have ih := ord_ok R k (by omega)
    have ne := ripe_ne R (more_left R.dup ih.dup (by rw [ih.len]; omega))
    unfold ordN
    generalize hl : ordN ns nd k = l at ih ne
    obtain ⟨x, t, e⟩ : ∃ x t, ripe ns nd l = x :: t := by
      cases q : ripe ns nd l with
      | nil => exact absurd q ne
      | cons x t => exact ⟨x, t, rfl⟩
    rw [e]
    show OrdOk ns nd (k + 1) (l ++ [x])
    obtain ⟨h1, h2, h3⟩ := mem_ripe.mp (show x ∈ ripe ns nd l by rw [e]; exact List.mem_cons_self)
    refine ⟨by rw [List.length_append, ih.len]; rfl, ?_, fun n hn => ?_, fun n hn o ho => ?_, ?_⟩
    · rw [List.nodup_append]
      exact ⟨ih.dup, by simp, fun a ha b hb e => by
        rw [List.mem_singleton.mp hb] at e
        exact h2 (e ▸ ha)⟩
    · rcases List.mem_append.mp hn with z | z
      · exact ih.sub n z
      · rw [List.mem_singleton.mp z]; exact h1
    · rcases List.mem_append.mp hn with z | z
      · exact List.mem_append_left _ (ih.cl n z o ho)
      · rw [List.mem_singleton.mp z] at ho; exact List.mem_append_left _ (h3 o ho)
    · rw [List.reverse_append]
      show Topo nd (x :: l.reverse)
      refine ⟨fun w hw z => ?_, ih.topo⟩
      rcases List.mem_cons.mp hw with rfl | hw
      · exact h2 (h3 _ z)
      · exact h2 (ih.cl w (List.mem_reverse.mp hw) x z)
def putW (nd : Str → List Str) (f : Str → Bool) (o : Str) : Str → Bool := fun x => f x || (f o && decide (x ∈ nd o))
def reachP (nd : Str → List Str) (one : Str) (rev : List Str) : Str → Bool := rev.foldl (putW nd) fun x => decide (x = one)
def Mc.way (m : Mc) (one : Str) : List Str := m.order.filter (reachP m.needs one m.order.reverse)
def tab (ns : List Str) (f : Str → D) : List (Key × D) := ns.map fun n => (.inr n, f n)
def upF {α : Type} (f : Str → α) (n : Str) (v : α) : Str → α := fun x => if x = n then v else f x
theorem upF_same {α : Type} {f : Str → α} {n : Str} {v : α} : upF f n v n = v := if_pos rfl
theorem upF_ne {α : Type} {f : Str → α} {n x : Str} {v : α} (h : x ≠ n) : upF f n v x = f x := if_neg h
theorem upF_map {α β : Type} (g : α → β) (f : Str → α) (n : Str) (v : α) : upF (fun x => g (f x)) n (g v) = fun x => g (upF f n v x) := by
  funext x
  unfold upF
  split <;> rfl
theorem tab_val : ∀ {ns : List Str} {f : Str → D} {n : Str}, n ∈ ns → valD (tab ns f) (.inr n) = some (f n)
  | m :: r, f, n, h => by
    unfold valD tab
    rw [List.map_cons, List.find?_cons]
    by_cases e : m = n
    · subst e
      rw [decide_eq_true rfl]
      rfl
    · rw [decide_eq_false (fun z => e (Sum.inr.inj z))]
      exact tab_val (by rcases List.mem_cons.mp h with z | z; exact absurd z.symm e; exact z)
theorem tab_none : ∀ {ns : List Str} {f : Str → D} {n : Str}, n ∉ ns → valD (tab ns f) (.inr n) = none
  | [], _, _, _ => rfl
  | m :: r, f, n, h => by
    unfold valD tab
    rw [List.map_cons, List.find?_cons, decide_eq_false (fun z => h (by rw [Sum.inr.inj z]; exact List.mem_cons_self))]
    exact tab_none fun z => h (List.mem_cons_of_mem _ z)
theorem tab_len {ns : List Str} {f : Str → D} : (tab ns f).length = ns.length := List.length_map _
theorem tab_congr {ns : List Str} {f g : Str → D} (h : ∀ n ∈ ns, f n = g n) : tab ns f = tab ns g := List.map_congr_left fun n hn => by rw [h n hn]
structure GoodM (m : Mc) : Prop where
  l1 : 1 ≤ m.rows.length
  l8 : m.rows.length ≤ 8
  row : ∀ r ∈ m.rows, Nm r.nm ∧ (∀ p, r.par = some p → p ∈ m.names) ∧ 0 ≤ r.burn ∧ r.burn ≤ 100 ∧ 0 ≤ r.sip ∧ r.sip ≤ r.burn ∧ 0 ≤ r.wake ∧ r.wake ≤ 5 ∧ 0 ≤ r.fall ∧ r.fall ≤ 5 ∧ 0 ≤ r.rest ∧ r.rest ≤ 9
  dup : m.names.Nodup
  l16 : m.links.length ≤ 16
  ldup : m.links.Nodup
  lnk : ∀ q ∈ m.links, q.1 ∈ m.names ∧ q.2 ∈ m.names ∧ q.1 ≠ q.2
  rk : ∃ k : Str → Nat, (∀ r ∈ m.rows, ∀ p, r.par = some p → k p < k r.nm) ∧ ∀ q ∈ m.links, k q.2 < k q.1
theorem row_at {rows : List Rw} {n : Str} (h : n ∈ rows.map (·.nm)) : ∃ r ∈ rows, r.nm = n ∧ rows.find? (fun r => decide (r.nm = n)) = some r := by
  cases q : rows.find? (fun r => decide (r.nm = n)) with
  | none =>
    obtain ⟨r, hr, e⟩ := List.mem_map.mp h
    exact absurd (decide_eq_true e) (List.find?_eq_none.mp q r hr)
  | some r =>
    have z := List.find?_some q
    exact ⟨r, List.mem_of_find?_eq_some q, of_decide_eq_true z, rfl⟩
theorem Mc.row_in {m : Mc} {n : Str} (h : n ∈ m.names) : m.row n ∈ m.rows ∧ (m.row n).nm = n := by
  obtain ⟨r, hr, e, q⟩ := row_at h
  unfold Mc.row
  rw [q]
  exact ⟨hr, e⟩
theorem row_self : ∀ {rows : List Rw}, (rows.map (·.nm)).Nodup → ∀ {r : Rw}, r ∈ rows → rows.find? (fun x => decide (x.nm = r.nm)) = some r
  | x :: t, hd, r, hr => by
    obtain ⟨h1, h2⟩ := List.nodup_cons.mp hd
    rw [List.find?_cons]
    by_cases e : x.nm = r.nm
    · rw [decide_eq_true e]
      rcases List.mem_cons.mp hr with z | z
      · rw [z]
      · exact absurd (List.mem_map.mpr ⟨r, z, e.symm⟩) h1
    · rw [decide_eq_false e]
      exact row_self h2 (by rcases List.mem_cons.mp hr with z | z; exact absurd (by rw [z]) e; exact z)
theorem Mc.row_eq {m : Mc} (hd : m.names.Nodup) {r : Rw} (hr : r ∈ m.rows) : m.row r.nm = r := by
  unfold Mc.row
  rw [row_self hd hr]
  rfl
theorem mem_links {n x : Str} : ∀ {l : List (Str × Str)} {acc : List Str}, x ∈ l.foldl (linkAdd n) acc ↔ x ∈ acc ∨ (n, x) ∈ l
  | [], acc => by simp
  | q :: t, acc => by
    rw [List.foldl_cons, mem_links]
    unfold linkAdd
    constructor
    · rintro (h | h)
      · split at h
        · rename_i c
          rcases List.mem_append.mp h with z | z
          · exact .inl z
          · refine .inr ?_
            rw [List.mem_singleton.mp z, ← c.1]
            exact List.mem_cons_self
        · exact .inl h
      · exact .inr (List.mem_cons_of_mem _ h)
    · rintro (h | h)
      · refine .inl ?_
        split
        · exact List.mem_append_left _ h
        · exact h
      · rcases List.mem_cons.mp h with z | z
        · refine .inl ?_
          rw [← z]
          split
          · exact List.mem_append_right _ List.mem_cons_self
          · rename_i c
            exact Classical.byContradiction fun w => c ⟨rfl, w⟩
        · exact .inr z
theorem GoodM.ranked {m : Mc} (g : GoodM m) : Ranked m.names m.needs := by
  obtain ⟨k, k1, k2⟩ := g.rk
  have key : ∀ n ∈ m.names, ∀ o ∈ m.needs n, ((m.row n).par = some o) ∨ (n, o) ∈ m.links := fun n hn o ho => by
    unfold Mc.needs at ho
    rcases mem_links.mp ho with z | z
    · exact .inl (Option.mem_toList.mp z)
    · exact .inr z
  refine ⟨g.dup, fun n hn o ho => ?_, k, fun n hn o ho => ?_⟩
  · obtain ⟨r1, r2⟩ := Mc.row_in hn
    rcases key n hn o ho with z | z
    · exact (g.row _ r1).2.1 o z
    · exact (g.lnk _ z).2.1
  · obtain ⟨r1, r2⟩ := Mc.row_in hn
    rcases key n hn o ho with z | z
    · have := k1 _ r1 o z
      rw [r2] at this
      exact this
    · exact k2 _ z
theorem GoodM.ord {m : Mc} (g : GoodM m) : OrdOk m.names m.needs m.names.length m.order := ord_ok g.ranked _ (Nat.le_refl _)
theorem Mc.way_sub {m : Mc} {one x : Str} (h : x ∈ m.way one) : x ∈ m.order := (List.mem_filter.mp h).1
structure PS where
  st : Str → Str
  cnt : Str → Int
  grp : Str → Int
  due : Str → Option Int
  clk : Int
  en : Int
  log : List D
  ask : List (List Key × D)
  flt : List (List Key × D)
def oInt : Option Int → D
  | none => .non
  | some i => .int i
def logRow (t : Int) (ws : List D) : D := .tup (.int t :: ws)
def PS.note (s : PS) (ws : List D) : PS := { s with log := s.log ++ [logRow s.clk ws] }
def rowCost (s : PS) (wk : Option Str) (r : Rw) : Int := if s.st r.nm = "on" ∨ wk = some r.nm then r.burn else if s.st r.nm = "doze" then r.sip else 0
def Mc.cost (m : Mc) (s : PS) (wk : Option Str) : Int := (m.rows.map (rowCost s wk)).sum
def Mc.pass (m : Mc) (s : PS) (k : Int) (wk : Option Str) : PS := { s with en := s.en + k * m.cost s wk, clk := s.clk + k }
def kAsk (n d : Str) : List Key := [.inr n, .inr d]
def kFlt (n d : Str) (i : Int) : List Key := [.inr n, .inr d, .inl i]
def PS.asked (s : PS) (n d : Str) : Int := match valD s.ask (kAsk n d) with | some (.int i) => i | _ => 0
def PS.ans (s : PS) (n d : Str) : Str := match valD s.flt (kFlt n d (s.asked n d + 1)) with | some (.str w) => w | _ => "done"
def PS.tell (s : PS) (n d : Str) : PS := { s with ask := putT s.ask (kAsk n d) (.int (s.asked n d + 1)) }
def Mc.held (m : Mc) (s : PS) (n : Str) : Bool := decide (0 < s.cnt n) || decide (0 < s.grp n) || m.names.any fun u => decide (n ∈ m.needs u) && decide (s.st u = "on")
def PS.setSt (s : PS) (n w : Str) : PS := { s with st := upF s.st n w }
def PS.setDue (s : PS) (n : Str) (v : Option Int) : PS := { s with due := upF s.due n v }
def w1 (a n : Str) : List D := [.str a, .str n]
def Mc.fallA (m : Mc) (s : PS) (n : Str) : PS := m.pass ((s.setDue n none).note (w1 "falling" n)) (m.row n).fall none
def Mc.fallB (m : Mc) (s : PS) (n : Str) : PS :=
  let w := s.ans n "doze"
  let s1 := s.tell n "doze"
  if w = "busy" then (s1.note (w1 "stays" n)).setDue n (some (s1.clk + max 1 (m.row n).rest))
  else
    let x : Str := if w = "done" then "doze" else "off"
    (s1.setSt n x).note (w1 x n)
def Mc.fall (m : Mc) (s : PS) (n : Str) : PS := m.fallB (m.fallA s n) n
def Mc.settle1 (m : Mc) (s : PS) (n : Str) : PS :=
  if s.st n ≠ "on" ∨ m.held s n = true then s.setDue n none
  else if s.due n = none ∧ 0 < (m.row n).rest then s.setDue n (some (s.clk + (m.row n).rest))
  else if s.due n = none ∨ ∃ t, s.due n = some t ∧ t ≤ s.clk then m.fall s n
  else s
def Mc.settle (m : Mc) (s : PS) : PS := m.order.reverse.foldl m.settle1 s
def Mc.left (m : Mc) (s : PS) (n : Str) : List Str := (m.way n).filter fun o => decide (s.st o ≠ "on")
def Mc.wakeA (m : Mc) (s : PS) (o : Str) : PS := m.pass (s.note (w1 "waking" o)) (m.row o).wake (some o)
def Mc.wakeD (m : Mc) (s : PS) (o : Str) : PS := (((m.wakeA s o).tell o "wake").setSt o "on").note (w1 "wake" o)
structure Calm (s : PS) : Prop where
  flt : s.flt = []
  st : ∀ n, s.st n = "on" ∨ s.st n = "doze"
theorem Calm.ans {s : PS} (c : Calm s) (n d : Str) : s.ans n d = "done" := by
  unfold PS.ans
  rw [c.flt]
  rfl
theorem Calm.setSt {s : PS} (c : Calm s) {n w : Str} (h : w = "on" ∨ w = "doze") : Calm (s.setSt n w) := ⟨c.flt, fun x => by
  show upF s.st n w x = "on" ∨ upF s.st n w x = "doze"
  unfold upF
  split
  · exact h
  · exact c.st x⟩
theorem Calm.same {s s' : PS} (c : Calm s) (h1 : s'.flt = s.flt) (h2 : s'.st = s.st) : Calm s' := ⟨h1.trans c.flt, fun n => by rw [h2]; exact c.st n⟩
structure LwR (N : Nat) (d : D) : Prop where
  ex : ∃ t ws, d = logRow t ws ∧ 0 ≤ t ∧ t ≤ 5 * N ∧ ws.length ≤ 4 ∧ ∀ w ∈ ws, w = .non ∨ ∃ x, w = .str x ∧ x.length ≤ 8 ∧ Lw x
def AskOk (N : Nat) (l : List (List Key × D)) : Prop := ∀ kv ∈ l, ∃ i : Int, kv.2 = .int i ∧ 0 ≤ i ∧ i ≤ N
structure Bd (s : PS) (N : Nat) : Prop where
  log : s.log.length ≤ N
  row : ∀ d ∈ s.log, LwR N d
  c0 : 0 ≤ s.clk
  c1 : s.clk ≤ 5 * N
  e0 : 0 ≤ s.en
  e1 : s.en ≤ 5000 * N
  k0 : ∀ n, -N ≤ s.cnt n
  k1 : ∀ n, s.cnt n ≤ N
  g0 : ∀ n, -N ≤ s.grp n
  g1 : ∀ n, s.grp n ≤ N
  d1 : ∀ n t, s.due n = some t → 0 ≤ t ∧ t ≤ 5 * N + 10
  al : s.ask.length ≤ N
  ask : AskOk N s.ask
  last : ∀ d ∈ s.log, ∃ t ws, d = logRow t ws ∧ t ≤ s.clk
theorem LwR.mono {N N' : Nat} (l : N ≤ N') {d : D} (h : LwR N d) : LwR N' d := by
  obtain ⟨t, ws, a, b, c, e, f⟩ := h.ex
  exact ⟨t, ws, a, b, by omega, e, f⟩
theorem Bd.mono {s : PS} {N N' : Nat} (h : Bd s N) (l : N ≤ N') : Bd s N' where
  log := Nat.le_trans h.log l
  row := fun d hd => (h.row d hd).mono l
  c0 := h.c0
  c1 := by have := h.c1; omega
  e0 := h.e0
  e1 := by have := h.e1; omega
  k0 := fun n => by have := h.k0 n; omega
  k1 := fun n => by have := h.k1 n; omega
  g0 := fun n => by have := h.g0 n; omega
  g1 := fun n => by have := h.g1 n; omega
  d1 := fun n t e => by have := h.d1 n t e; omega
  al := Nat.le_trans h.al l
  ask := fun kv m => by obtain ⟨i, a, b, c⟩ := h.ask kv m; exact ⟨i, a, b, by omega⟩
  last := h.last
def wOk (ws : List D) : Prop := ws.length ≤ 4 ∧ ∀ w ∈ ws, w = .non ∨ ∃ x, w = .str x ∧ x.length ≤ 8 ∧ Lw x
theorem Bd.note {s : PS} {N : Nat} (h : Bd s N) {ws : List D} (g : wOk ws) : Bd (s.note ws) (N + 1) := by
  have m := h.mono (Nat.le_succ N)
  refine { m with log := ?_, row := fun d hd => ?_, last := fun d hd => ?_ }
  · show (s.log ++ [logRow s.clk ws]).length ≤ N + 1
    rw [List.length_append]
    exact Nat.add_le_add_right h.log 1
  · rcases List.mem_append.mp hd with z | z
    · exact m.row d z
    · rw [List.mem_singleton.mp z]
      exact ⟨_, _, rfl, m.c0, m.c1, g.1, g.2⟩
  · rcases List.mem_append.mp hd with z | z
    · exact h.last d z
    · rw [List.mem_singleton.mp z]
      exact ⟨_, _, rfl, Int.le_refl _⟩
theorem Bd.pass {m : Mc} (gm : GoodM m) {s : PS} {N : Nat} (h : Bd s N) {k : Int} (k0 : 0 ≤ k) (k5 : k ≤ 5) (wk : Option Str) : Bd (m.pass s k wk) (N + 1) := by
  have x := h.mono (Nat.le_succ N)
  have c : ∀ l : List Rw, (∀ r ∈ l, r ∈ m.rows) → 0 ≤ (l.map (rowCost s wk)).sum ∧ (l.map (rowCost s wk)).sum ≤ 100 * l.length := by
    intro l
    induction l with
    | nil => exact fun _ => ⟨Int.le_refl _, Int.le_refl _⟩
    | cons r t ih =>
      intro hl
      obtain ⟨a, b⟩ := ih fun y hy => hl y (List.mem_cons_of_mem _ hy)
      obtain ⟨_, _, b0, b1, s0, s1, _⟩ := gm.row r (hl r List.mem_cons_self)
      have q : 0 ≤ rowCost s wk r ∧ rowCost s wk r ≤ 100 := by
        unfold rowCost
        split
        · omega
        · split <;> omega
      rw [List.map_cons, List.sum_cons, List.length_cons]
      omega
  obtain ⟨a, b⟩ := c m.rows fun _ z => z
  have l8 := gm.l8
  have e0 := h.e0
  have e1 := h.e1
  have c1 := h.c1
  have m0 : 0 ≤ k * m.cost s wk := Int.mul_nonneg k0 a
  have m1 : k * m.cost s wk ≤ 5 * 800 := by
    refine Int.le_trans (Int.mul_le_mul_of_nonneg_right k5 a) ?_
    show 5 * (m.rows.map (rowCost s wk)).sum ≤ 5 * 800
    omega
  refine { x with c0 := ?_, c1 := ?_, e0 := ?_, e1 := ?_, last := fun d hd => ?_ }
  · show 0 ≤ s.clk + k
    have := h.c0; omega
  · show s.clk + k ≤ _
    omega
  · show 0 ≤ s.en + k * m.cost s wk
    omega
  · show s.en + k * m.cost s wk ≤ _
    omega
  · obtain ⟨t, ws, e, l⟩ := h.last d hd
    exact ⟨t, ws, e, by show t ≤ s.clk + k; omega⟩
theorem Bd.setSt {s : PS} {N : Nat} (h : Bd s N) (n w : Str) : Bd (s.setSt n w) N := { h with }
theorem Bd.setDue {s : PS} {N : Nat} (h : Bd s N) (n : Str) {v : Option Int} (g : ∀ t, v = some t → 0 ≤ t ∧ t ≤ 5 * N + 10) : Bd (s.setDue n v) N := by
  refine { h with d1 := fun x t e => ?_ }
  have e : upF s.due n v x = some t := e
  unfold upF at e
  split at e
  · exact g t e
  · exact h.d1 x t e
theorem Bd.asked {s : PS} {N : Nat} (h : Bd s N) (n d : Str) : 0 ≤ s.asked n d ∧ s.asked n d ≤ N := by
  unfold PS.asked valD
  cases q : s.ask.find? fun kv => decide (kv.1 = kAsk n d) with
  | none => exact ⟨Int.le_refl _, Int.natCast_nonneg N⟩
  | some kv =>
    obtain ⟨i, a, b, c⟩ := h.ask kv (List.mem_of_find?_eq_some q)
    show 0 ≤ (match some kv.2 with | some (.int i) => i | _ => 0) ∧ (match some kv.2 with | some (.int i) => i | _ => 0) ≤ (N : Int)
    rw [a]
    exact ⟨b, c⟩
theorem Bd.tell {s : PS} {N : Nat} (h : Bd s N) (n d : Str) : Bd (s.tell n d) (N + 1) := by
  have x := h.mono (Nat.le_succ N)
  obtain ⟨a0, a1⟩ := h.asked n d
  refine { x with al := ?_, ask := fun kv hk => ?_ }
  · show (putT s.ask (kAsk n d) _).length ≤ N + 1
    unfold putT
    split
    · rw [List.length_map]; exact x.al
    · rw [List.length_append]; exact Nat.add_le_add_right h.al 1
  · have hk : kv ∈ putT s.ask (kAsk n d) (.int (s.asked n d + 1)) := hk
    unfold putT at hk
    split at hk
    · obtain ⟨u, hu, e⟩ := List.mem_map.mp hk
      split at e
      · rw [← e]; exact ⟨_, rfl, by omega, by omega⟩
      · rw [← e]; exact x.ask u hu
    · rcases List.mem_append.mp hk with z | z
      · exact x.ask kv z
      · rw [List.mem_singleton.mp z]; exact ⟨_, rfl, by omega, by omega⟩
theorem Nm.lw {s : Str} (h : Nm s) : Lw s := by
  intro c hc
  have z := h.2.2 c hc
  have q : ∀ c ∈ letters.cps.toList, 97 ≤ c ∧ c ≤ 122 := by decide +kernel
  exact q c z
theorem GoodM.nm {m : Mc} (g : GoodM m) {n : Str} (h : n ∈ m.names) : Nm n := by
  obtain ⟨r1, r2⟩ := Mc.row_in h
  rw [← r2]
  exact (g.row _ r1).1
section
variable {m : Mc} {s : PS} {N : Nat} {n o w : Str}
theorem GoodM.ol (g : GoodM m) : m.order.length ≤ 8 := by
  have a := g.ord.len
  have b : m.names.length = m.rows.length := List.length_map _
  have := g.l8
  omega
theorem Mc.way_len (m : Mc) (n : Str) : (m.way n).length ≤ m.order.length := List.length_filter_le _ _
theorem Calm.note (c : Calm s) (ws : List D) : Calm (s.note ws) := c.same rfl rfl
theorem Calm.pass (c : Calm s) (m : Mc) (k : Int) (wk : Option Str) : Calm (m.pass s k wk) := c.same rfl rfl
theorem Calm.tell (c : Calm s) (n d : Str) : Calm (s.tell n d) := c.same rfl rfl
theorem Calm.setDue (c : Calm s) (n : Str) (v : Option Int) : Calm (s.setDue n v) := c.same rfl rfl
theorem Calm.fold {α : Type} {f : PS → α → PS} (hf : ∀ s x, Calm s → Calm (f s x)) : ∀ (l : List α) {s : PS}, Calm s → Calm (l.foldl f s)
  | [], _, c => c
  | x :: t, s, c => Calm.fold hf t (hf s x c)
theorem Calm.fall (c : Calm s) (m : Mc) (n : Str) : Calm (m.fall s n) := by
  have a : Calm (m.fallA s n) := ((c.setDue n none).note _).pass m _ _
  unfold Mc.fall Mc.fallB
  dsimp only
  rw [a.ans]
  rw [if_neg (by decide), if_pos rfl]
  exact ((a.tell n "doze").setSt (.inr rfl)).note _
theorem Calm.settle1 (c : Calm s) (m : Mc) (n : Str) : Calm (m.settle1 s n) := by
  unfold Mc.settle1
  split
  · exact c.setDue n none
  · split
    · exact c.setDue n _
    · split
      · exact c.fall m n
      · exact c
theorem Calm.settle (c : Calm s) (m : Mc) : Calm (m.settle s) := Calm.fold (fun s x c => c.settle1 m x) _ c
theorem Calm.wake (c : Calm s) (m : Mc) (o : Str) : Calm (m.wakeD s o) := (((((c.note _).pass m _ _).tell o _).setSt (.inl rfl))).note _
end
structure CA where
  p : Addr
  l : Addr
  d : Addr
  m : Addr
  v : Addr
def devR (c : CA) (r : Rw) : D := .ins c.v [("whole", r.d)]
def machD (c : CA) (m : Mc) (w : Addr) : D := .ins c.m [("in_order", .lst (m.order.map D.str)), ("parts", .lst (m.rows.map (devR c))), ("pairs", .lst (m.links.map prD)), ("wants", .ref w)]
def wantsF (m : Mc) (n : Str) : D := .lst ((m.needs n).map D.str)
inductive PI where | self | drv | log | kept | flt | tim | st | cnt | grp | due | w
  deriving DecidableEq
def powFs (c : CA) (m : Mc) (p : PI → Addr) (s : PS) (b : Bool) : List (Str × D) :=
  [("own_machine", machD c m (p .w)), ("own_drivers", .ref (p .drv)), ("own_log", .ref (p .log)), ("turns_gone", .int s.clk), ("turns_cost", .int s.en), ("state_words", .ref (p .st)), ("count_numbers", .ref (p .cnt)), ("grip_numbers", .ref (p .grp)), ("due_turns", .ref (p .due)), ("in_midst", .bl b)]
def pCell (c : CA) (m : Mc) (p : PI → Addr) (s : PS) (b : Bool) : PI → MO
  | .self => .ins c.p (powFs c m p s b)
  | .drv => .ins c.d [("fault_words", .ref (p .flt)), ("times", .ref (p .tim))]
  | .log => .ins c.l [("kept_rows", .ref (p .kept))]
  | .kept => .lst s.log
  | .flt => .dT s.flt
  | .tim => .dT s.ask
  | .st => .dct (tab m.names fun n => .str (s.st n))
  | .cnt => .dct (tab m.names fun n => .int (s.cnt n))
  | .grp => .dct (tab m.names fun n => .int (s.grp n))
  | .due => .dct (tab m.names fun n => oInt (s.due n))
  | .w => .dct (tab m.names (wantsF m))
structure PowM (c : CA) (m : Mc) (M : Mp) (p : PI → Addr) (s : PS) (b : Bool) : Prop where
  inj : ∀ i j, p i = p j → i = j
  at' : ∀ i, M (p i) = some (pCell c m p s b i)
def Off {ι : Type} (p : ι → Addr) (M M' : Mp) : Prop := ∀ a o, (∀ i, a ≠ p i) → M a = some o → M' a = some o
theorem Off.refl {ι : Type} (p : ι → Addr) (M : Mp) : Off p M M := fun _ _ _ e => e
theorem Off.trans {ι : Type} {p : ι → Addr} {M M1 M2 : Mp} (h : Off p M M1) (k : Off p M1 M2) : Off p M M2 := fun a o n e => k a o n (h a o n e)
theorem Off.put {ι : Type} {p : ι → Addr} {M M1 : Mp} (h : Off p M M1) (i : ι) (o : MO) : Off p M (updM M1 (p i) o) := fun a u n e => by rw [updM_ne (n i)]; exact h a u n e
theorem Off.new {ι : Type} {p : ι → Addr} {M M1 : Mp} (h : Off p M M1) {a : Addr} (z : M1 a = none) (o : MO) : Off p M (updM M1 a o) := fun b u n e => by
  have q := h b u n e
  have ne : b ≠ a := fun y => by rw [y, z] at q; cases q
  rw [updM_ne ne]; exact q
theorem Off.ext {ι : Type} {p : ι → Addr} {M M1 M2 : Mp} (h : Off p M M1) (x : Ext M1 M2) : Off p M M2 := fun a u n e => x a u (h a u n e)
theorem PowM.put {c : CA} {m : Mc} {M : Mp} {p : PI → Addr} {s s' : PS} {b b' : Bool} (h : PowM c m M p s b) (i : PI) (o : MO) (eo : pCell c m p s' b' i = o) (e : ∀ j, j ≠ i → pCell c m p s' b' j = pCell c m p s b j) : PowM c m (updM M (p i) o) p s' b' :=
  ⟨h.inj, fun j => by
    by_cases z : j = i
    · subst z; rw [updM_same, eo]
    · rw [updM_ne (fun y => z (h.inj _ _ y)), h.at' j, e j z]⟩
theorem PowM.ext {c : CA} {m : Mc} {M M' : Mp} {p : PI → Addr} {s : PS} {b : Bool} (h : PowM c m M p s b) (x : Ext M M') : PowM c m M' p s b := ⟨h.inj, fun i => x _ _ (h.at' i)⟩
theorem PowM.off {ι : Type} {q : ι → Addr} {c : CA} {m : Mc} {M M' : Mp} {p : PI → Addr} {s : PS} {b : Bool} (h : PowM c m M p s b) (x : Off q M M') (n : ∀ i j, p i ≠ q j) : PowM c m M' p s b := ⟨h.inj, fun i => x _ _ (n i) (h.at' i)⟩
theorem PowM.new {c : CA} {m : Mc} {M : Mp} {p : PI → Addr} {s : PS} {b : Bool} (h : PowM c m M p s b) {a : Addr} (z : M a = none) (o : MO) : PowM c m (updM M a o) p s b := h.ext fun b u e => by
  have ne : b ≠ a := fun y => by rw [y, z] at e; cases e
  rw [updM_ne ne]; exact e
inductive LI where | own | rows | needs | log | ask | flt | st | cnt | grp | due
  deriving DecidableEq
def ownKs (m : Mc) (q : LI → Addr) (s : PS) : List (Key × D) :=
  [(.inr "rows", .ref (q .rows)), (.inr "names", .lst (m.names.map D.str)), (.inr "needs", .ref (q .needs)), (.inr "clock", .int s.clk), (.inr "energy", .int s.en), (.inr "order", .lst (m.order.map D.str)), (.inr "log", .ref (q .log)), (.inr "asked", .ref (q .ask)), (.inr "faults", .ref (q .flt)), (.inr "states", .ref (q .st)), (.inr "counts", .ref (q .cnt)), (.inr "grips", .ref (q .grp)), (.inr "dues", .ref (q .due))]
def lCell (m : Mc) (q : LI → Addr) (s : PS) : LI → MO
  | .own => .dct (ownKs m q s)
  | .rows => .dct (tab m.names fun n => (m.row n).d)
  | .needs => .dct (tab m.names (wantsF m))
  | .log => .lst s.log
  | .ask => .dT s.ask
  | .flt => .dT s.flt
  | .st => .dct (tab m.names fun n => .str (s.st n))
  | .cnt => .dct (tab m.names fun n => .int (s.cnt n))
  | .grp => .dct (tab m.names fun n => .int (s.grp n))
  | .due => .dct (tab m.names fun n => oInt (s.due n))
structure OwnM (m : Mc) (M : Mp) (q : LI → Addr) (s : PS) : Prop where
  inj : ∀ i j, q i = q j → i = j
  at' : ∀ i, M (q i) = some (lCell m q s i)
theorem OwnM.put {m : Mc} {M : Mp} {q : LI → Addr} {s s' : PS} (h : OwnM m M q s) (i : LI) (o : MO) (eo : lCell m q s' i = o) (e : ∀ j, j ≠ i → lCell m q s' j = lCell m q s j) : OwnM m (updM M (q i) o) q s' :=
  ⟨h.inj, fun j => by
    by_cases z : j = i
    · subst z; rw [updM_same, eo]
    · rw [updM_ne (fun y => z (h.inj _ _ y)), h.at' j, e j z]⟩
theorem OwnM.ext {m : Mc} {M M' : Mp} {q : LI → Addr} {s : PS} (h : OwnM m M q s) (x : Ext M M') : OwnM m M' q s := ⟨h.inj, fun i => x _ _ (h.at' i)⟩
theorem OwnM.off {ι : Type} {p : ι → Addr} {m : Mc} {M M' : Mp} {q : LI → Addr} {s : PS} (h : OwnM m M q s) (x : Off p M M') (n : ∀ i j, q i ≠ p j) : OwnM m M' q s := ⟨h.inj, fun i => x _ _ (n i) (h.at' i)⟩
theorem Ext.fresh {M : Mp} {a : Addr} (z : M a = Option.none) (o : MO) : Ext M (updM M a o) := fun b u e => by
  have ne : b ≠ a := fun y => by rw [y, z] at e; cases e
  rw [updM_ne ne]; exact e
end DL
namespace DL
open PySem PySem.Spec PyProof.Rows L2
theorem funD_fun {K : PySem.W.Frag} {x qual : Str} {st : Stmt} {f : Addr} {fd : FuncData} (F : FunD K x qual (defArgs st) (defBody st) (defScope st) [] [] f fd) : L2.Fun K x qual st f fd := by
  obtain ⟨oc, od, dV, kV, doc, pm, an, cdv, ct, osl, e, lk, cd, hD, hK⟩ := F.ex
  obtain ⟨_, rfl⟩ | ⟨z, _⟩ := hD
  · exact ⟨⟨oc, od, kV, doc, pm, an, cdv, ct, osl, e, lk, cd⟩, F.kp⟩
  · exact absurd rfl z
theorem oexB_ok {K : PySem.W.Frag} {C W : Addr} {tl : List Value} {nid : String} (h : oexB K C W tl nid = true) : ∃ nm q N bs sn sub ab col dd k0 k1 k2 k3 k5, K.lookup C = some (excClassObj nm q C N bs (.ref W :: tl) true sn sub ab col dd k0 k1 k2 k3 k5 nid) := by
  unfold oexB at h
  split at h
  · rename_i dd cd sl ho
    split at h
    · rename_i C' W' bm k0 k1 k2 k3 n k5 hm hs
      simp only [Bool.and_eq_true, beq_iff_eq, Bool.not_eq_true'] at h
      obtain ⟨⟨⟨⟨⟨rfl, rfl⟩, rfl⟩, rfl⟩, d1⟩, d2⟩ := h
      obtain ⟨nm, bs, mro, ns, qn, hd, sn, sub, ab, col, de⟩ := cd
      dsimp only at hm d1 d2
      subst hm d1 d2
      have es : sl = #[k0, k1, k2, k3, some (.builtin n), k5] := by
        obtain ⟨l⟩ := sl
        simp only at hs
        rw [hs]
      subst es
      exact ⟨nm, qn, ns, bs, sn, sub, ab, col, dd, k0, k1, k2, k3, k5, ho⟩
    · cases h
  · cases h
theorem oexC_of {K : PySem.W.Frag} {C W : Addr} (h : oexB K C W [.type "ValueError", .type "Exception", .type "BaseException", .type "object"] "ValueError.__new__" = true) (sa : PySem.W.findIn K (.ref C) "__setattr__" = some (some (.builtin "object.__setattr__"))) (be : PySem.W.subIn K (.ref C) (.type "BaseException") = some true)
    (ty : PySem.W.typeIn K (.ref C) = some (.type "type")) (kp : PySem.W.keepIn K (.ref C) = true) : OexC K C := by
  obtain ⟨nm, q, N, bs, sn, sub, ab, col, dd, k0, k1, k2, k3, k5, e⟩ := oexB_ok h
  exact ⟨⟨nm, q, N, bs, _, sn, sub, ab, col, dd, k0, k1, k2, k3, k5, e, rfl⟩, sa, be, ty, kp⟩
theorem etB_ok {K : PySem.W.Frag} {a : Addr} (h : etB K a = true) : SqT K (fun _ => none) a [] := by
  unfold etB at h
  split at h
  · rename_i n dd its m sl ho
    rw [Bool.and_eq_true, decide_eq_true_eq] at h
    obtain ⟨rfl, h2⟩ := h
    obtain ⟨l⟩ := its
    cases l with
    | nil => exact .inr ⟨_, _, _, ho, rfl, rfl, by decide, .nil⟩
    | cons x r => cases h2
  · cases h
theorem xat {K : PySem.W.Frag} {l : List (PySem.W.Frag → Bool)} (h : ∀ f ∈ l, f K = true) (i : Nat) {f : PySem.W.Frag → Bool} (e : l[i]? = some f := by rfl) : f K = true := h f (List.mem_of_getElem? e)
theorem walk_fnE {l : PySem.W.OpenLaw} {q : Program} {loose : List Str} {XP : (Str → Option Value) → Heap → Prop} {YP : World → Heap → Prop} {d : DefRec} {k : Nat} {x : Str} {sp : DSp} (hn : l.most = some 63) (hdf : d.params.defaults = []) (rm : Room k callerA)
    (F : ∀ (w : World) (mg : Str → Option Value) (fa : Addr) (h : Heap), YP w h → h.Ns mainGlobals mg → mg d.name = some (.ref fa) → ∃ K : PySem.W.Frag, K.In h ∧ mg "law" = some (.ref fa) ∧ ∀ base : Heap, Fn l.prog w K mg base k "law" [x] sp)
    (pr : ∀ {K : PySem.W.Frag} {H : Hp} {a : Addr} {ns : List Int}, ns.length ≤ 63 → SqL K H a (ns.map V.int) → lSp K sp [.ref a] H (fun v _ => v = .bl true) (fun _ _ _ => False)) : PySem.W.WalkO q loose XP YP l.row.toRowW d [] (fun f vs => PySem.call f vs) := by
  refine Att.attach_call hn hdf ?_
  intro w s0 s1 mg mb fa o pm cd doc a vs ns G Y h1 h2 h3 hmg hobj hints hlen hg
  obtain ⟨K, kin, e1, f1⟩ := F w mg fa _ Y G.T.g hmg
  obtain ⟨f, fd, m1, _, ⟨hb, o, lk, od⟩, _⟩ := (f1 s0.heap).ex
  rw [e1] at m1
  cases m1
  refine law_callG (C := L2.CX l.prog w) kin G.T.g G.T.b G.T.builtins G.T.nolimit hg hobj hints (Nat.le_trans hlen (by decide)) rm (fun b _ _ => ?_) (fun s u => .of_eq (hb [u] rfl)) (fun H _ s => pr hlen s) (fun H e s' z => ?_)
  · obtain ⟨f', fd', m2, _, ⟨_, o', lk', od'⟩, g2⟩ := (f1 b).ex
    rw [e1] at m2
    cases m2
    rw [lk] at lk'
    cases lk'
    rw [od] at od'
    cases od'
    exact g2
  · obtain ⟨_, _, _, _, _, _, _, _, _, _, _, _, z⟩ := z
    exact z
theorem obsT_app {fa fa2 : List He.Fa} {fn fn2 : List He.DefD} {ts ts2 : List He.Tab} {w : World} {K : PySem.W.Frag} (h1 : He.obsT fa fn ts K = He.valT fn ts w) (h2 : He.obsT fa2 fn2 ts2 K = He.valT fn2 ts2 w) : He.obsT (fa ++ fa2) (fn ++ fn2) (ts ++ ts2) K = He.valT (fn ++ fn2) (ts ++ ts2) w := by
  have b1 : ((fa.all fun f => f.ok K) && fn.all fun d => d.ok K) = true := congrArg (fun z : He.AlT => z.1.1) h1
  have b2 : ((fa2.all fun f => f.ok K) && fn2.all fun d => d.ok K) = true := congrArg (fun z : He.AlT => z.1.1) h2
  have l1 : (fn.map fun d => He.fnW K d.at_) = fn.map He.DefD.val := congrArg (fun z : He.AlT => z.1.2) h1
  have l2 : (fn2.map fun d => He.fnW K d.at_) = fn2.map He.DefD.val := congrArg (fun z : He.AlT => z.1.2) h2
  have t1 : (ts.map fun t => He.dicW K (t.1 K)) = ts.map fun t => some (He.keysIn w.params t.2) := congrArg (fun z : He.AlT => z.2) h1
  have t2 : (ts2.map fun t => He.dicW K (t.1 K)) = ts2.map fun t => some (He.keysIn w.params t.2) := congrArg (fun z : He.AlT => z.2) h2
  rw [Bool.and_eq_true] at b1 b2
  refine Prod.ext (Prod.ext ?_ ?_) ?_
  · show (((fa ++ fa2).all fun f => f.ok K) && (fn ++ fn2).all fun d => d.ok K) = true
    rw [List.all_append, List.all_append, b1.1, b1.2, b2.1, b2.2]
    rfl
  · show ((fn ++ fn2).map fun d => He.fnW K d.at_) = (fn ++ fn2).map He.DefD.val
    rw [List.map_append, List.map_append, l1, l2]
  · show ((ts ++ ts2).map fun t => He.dicW K (t.1 K)) = (ts ++ ts2).map fun t => some (He.keysIn w.params t.2)
    rw [List.map_append, List.map_append, t1, t2]
open HandSHeadRun in
theorem part_joinT {r : PySem.W.OpenRow} {q : Program} {fa fa2 : List He.Fa} {fn fn2 : List He.DefD} {ts ts2 : List He.Tab} {ex : List (PySem.W.Frag → Bool)} {M : Nat} {loose : List PySem.Str} {w : World}
    (h1 : RunEq r q (hookL fa fn ts ex) (fun s => obsL fa fn ts ex (getT s)) M loose w) (h2 : PartT r fa2 fn2 ts2 M w) : RunEq r q (hookL (fa ++ fa2) (fn ++ fn2) (ts ++ ts2) ex) (fun s => obsL (fa ++ fa2) (fn ++ fn2) (ts ++ ts2) ex (getT s)) M loose w := fun os => by
  obtain ⟨s, es, v⟩ := Option.map_eq_some_iff.mp (h1 os)
  obtain ⟨s', es', v'⟩ := Option.map_eq_some_iff.mp (h2 os)
  rw [es] at es'
  cases es'
  rw [es]
  rw [atK_eq] at v'
  refine congrArg some ?_
  obtain ⟨a1, a23⟩ := Prod.mk.inj v
  obtain ⟨a2, a3⟩ := Prod.mk.inj a23
  have a3 : atK (getT s) (fun K => (He.obsT fa fn ts K, ex.all fun f => f K)) = (He.valT fn ts w, true) := a3
  rw [atK_eq] at a3
  obtain ⟨b1, b2⟩ := Prod.mk.inj a3
  refine Prod.ext a1 (Prod.ext a2 ?_)
  show atK (getT s) (fun K => (He.obsT (fa ++ fa2) (fn ++ fn2) (ts ++ ts2) K, ex.all fun f => f K)) = (He.valT (fn ++ fn2) (ts ++ ts2) w, true)
  rw [atK_eq, b2, obsT_app b1 v']
end DL
namespace DL
open PySem L2
theorem cut_mid {z : Str} {a b : Int} (h : 0 ≤ a) (hb : 0 ≤ b) : (cutS z (some a) (some b)).cps.toList = (z.cps.toList.drop (min a.toNat z.length)).take (min b.toNat z.length - min a.toNat z.length) := by
  obtain ⟨k, rfl⟩ := Int.eq_ofNat_of_zero_le h
  obtain ⟨l, rfl⟩ := Int.eq_ofNat_of_zero_le hb
  have e : (cutS z (some (k : Int)) (some (l : Int))).cps.toList = (z.cps.toList.drop (HT.sIx z.length 0 (some (k : Int)))).take (HT.sIx z.length z.length (some (l : Int)) - HT.sIx z.length 0 (some (k : Int))) := by simp [cutS]
  rw [e, HT.sIx_nat, HT.sIx_nat]
  rfl
theorem Lt.mid {s : Str} (h : Lt s) {a b : Int} (ha : 0 ≤ a) (hb : 0 ≤ b) : Lt (cutS s (some a) (some b)) := fun c hc => by
  rw [cut_mid ha hb] at hc
  exact h c (List.mem_of_mem_drop (List.mem_of_mem_take hc))
def parPut (f : Str → List Str) (r : Rw) : Str → List Str := upF f r.nm (f r.nm ++ r.par.toList)
def lnkPut (f : Str → List Str) (q : Str × Str) : Str → List Str := if q.2 ∈ f q.1 then f else upF f q.1 (f q.1 ++ [q.2])
theorem par_fold : ∀ (l : List Rw) (f : Str → List Str) (n : Str), (l.map (·.nm)).Nodup → l.foldl parPut f n = f n ++ ((l.find? fun r => decide (r.nm = n)).bind (·.par)).toList
  | [], f, n, _ => by simp
  | r :: t, f, n, h => by
    obtain ⟨h1, h2⟩ := List.nodup_cons.mp h
    rw [List.foldl_cons, par_fold t _ n h2, List.find?_cons]
    by_cases e : r.nm = n
    · rw [decide_eq_true e]
      have z : t.find? (fun r => decide (r.nm = n)) = none := List.find?_eq_none.mpr fun x hx w => h1 (List.mem_map.mpr ⟨x, hx, (of_decide_eq_true w).trans e.symm⟩)
      rw [z]
      unfold parPut
      rw [← e, upF_same]
      simp
    · rw [decide_eq_false e]
      unfold parPut
      rw [upF_ne (fun z => e z.symm)]
theorem lnk_fold (n : Str) : ∀ (l : List (Str × Str)) (f : Str → List Str), l.foldl lnkPut f n = l.foldl (linkAdd n) (f n)
  | [], _ => rfl
  | q :: t, f => by
    rw [List.foldl_cons, List.foldl_cons, lnk_fold n t]
    congr 1
    by_cases e : q.1 = n
    · subst e
      by_cases z : q.2 ∈ f q.1
      · have a : lnkPut f q = f := if_pos z
        have b : linkAdd q.1 (f q.1) q = f q.1 := if_neg (fun w => w.2 z)
        rw [a, b]
      · have a : lnkPut f q = upF f q.1 (f q.1 ++ [q.2]) := if_neg z
        have b : linkAdd q.1 (f q.1) q = f q.1 ++ [q.2] := if_pos ⟨rfl, z⟩
        rw [a, b, upF_same]
    · have b : linkAdd n (f n) q = f n := if_neg (fun w => e w.1)
      rw [b]
      unfold lnkPut
      split
      · rfl
      · exact upF_ne (fun z => e z.symm)
structure Nb (M0 M : Mp) (ns : List Str) (w : Addr) (ad : Str → Addr) (cur : Str → List Str) : Prop where
  hw : M w = some (.dct (tab ns fun n => .ref (ad n)))
  hc : ∀ n ∈ ns, M (ad n) = some (.lst ((cur n).map D.str))
  inj : ∀ n ∈ ns, ∀ k ∈ ns, ad n = ad k → n = k
  fr : ∀ n ∈ ns, M0 (ad n) = none
  nw : ∀ n ∈ ns, ad n ≠ w
  fw : M0 w = none
  ex : Ext M0 M
theorem Nb.put {M0 M : Mp} {ns : List Str} {w : Addr} {ad : Str → Addr} {cur : Str → List Str} (h : Nb M0 M ns w ad cur) {n : Str} (hn : n ∈ ns) (xs : List Str) : Nb M0 (updM M (ad n) (.lst (xs.map D.str))) ns w ad (upF cur n xs) where
  hw := by rw [updM_ne (fun z => h.nw n hn z.symm)]; exact h.hw
  hc := fun k hk => by
    by_cases e : k = n
    · subst e; rw [updM_same, upF_same]
    · rw [updM_ne (fun z => e (h.inj k hk n hn z)), upF_ne e]; exact h.hc k hk
  inj := h.inj
  fr := h.fr
  nw := h.nw
  fw := h.fw
  ex := fun a o e => by
    have z : a ≠ ad n := fun z => by rw [z, h.fr n hn] at e; cases e
    rw [updM_ne z]; exact h.ex a o e
theorem fzk_tab {w : Addr} {ad : Str → Addr} {cur : Str → List Str} : ∀ (ns : List Str) (M : Mp), ns.Nodup → (∀ n ∈ ns, M (ad n) = some (.lst ((cur n).map D.str))) → (∀ n ∈ ns, ∀ k ∈ ns, ad n = ad k → n = k) →
    ∃ M', FzK M (tab ns fun n => .ref (ad n)) M' (tab ns fun n => .lst ((cur n).map D.str)) ∧ ∀ b, (∀ n ∈ ns, b ≠ ad n) → M' b = M b
  | [], M, _, _, _ => ⟨M, .nil M, fun _ _ => rfl⟩
  | n :: t, M, hd, hc, hi => by
    obtain ⟨h1, h2⟩ := List.nodup_cons.mp hd
    obtain ⟨M1, z, k⟩ := fz_lst (hc n List.mem_cons_self)
    have ne : ∀ x ∈ t, ad x ≠ ad n := fun x hx e => h1 (hi x (List.mem_cons_of_mem _ hx) n List.mem_cons_self e ▸ hx)
    obtain ⟨M2, z2, k2⟩ := fzk_tab (w := w) t M1 h2 (fun x hx => by rw [k _ (ne x hx)]; exact hc x (List.mem_cons_of_mem _ hx)) fun x hx y hy => hi x (List.mem_cons_of_mem _ hx) y (List.mem_cons_of_mem _ hy)
    refine ⟨M2, .cons z z2, fun b hb => ?_⟩
    rw [k2 b fun x hx => hb x (List.mem_cons_of_mem _ hx), k b (hb n List.mem_cons_self)]
theorem Nb.frz {M0 M : Mp} {ns : List Str} {w : Addr} {ad : Str → Addr} {cur : Str → List Str} (h : Nb M0 M ns w ad cur) (hd : ns.Nodup) : ∃ M2, FzK M (tab ns fun n => .ref (ad n)) M2 (tab ns fun n => .lst ((cur n).map D.str)) ∧ M2 w = some (.dct (tab ns fun n => .ref (ad n))) ∧ ∀ o, Ext M0 (updM M2 w o) := by
  obtain ⟨M2, z, k⟩ := fzk_tab (w := w) ns M hd h.hc h.inj
  refine ⟨M2, z, by rw [k w fun n hn e => h.nw n hn e.symm]; exact h.hw, fun o a u e => ?_⟩
  have n1 : a ≠ w := fun x => by rw [x, h.fw] at e; cases e
  rw [updM_ne n1, k a fun n hn x => by rw [x, h.fr n hn] at e; cases e]
  exact h.ex a u e
theorem tab_snoc {ns : List Str} {f : Str → D} {n : Str} {d : D} (h : n ∉ ns) : putD (tab ns f) (.inr n) d = tab (ns ++ [n]) (upF f n d) := by
  unfold putD
  have e : ((tab ns f).any fun kv => decide (kv.1 = .inr n)) = false := by
    rw [List.any_eq_false]
    intro kv hk w
    obtain ⟨x, hx, e⟩ := List.mem_map.mp hk
    rw [← e] at w
    exact h (by rw [← Sum.inr.inj (of_decide_eq_true w)]; exact hx)
  rw [if_neg (by rw [e]; decide)]
  unfold tab
  rw [List.map_append]
  congr 1
  · refine List.map_congr_left fun x hx => ?_
    have ne : x ≠ n := fun z => h (by rw [← z]; exact hx)
    rw [upF_ne ne]
  · show [((.inr n : Key), d)] = [(.inr n, upF f n d n)]
    rw [upF_same]
theorem dc_lists {i : Nat} {src : Src} {vs : List Nat} {δ : DS} {k : List (Key × D) → Mp → Prop} {M0 : Mp} {α : Type} {dv : α → D} {nm : α → Str} (tk : DTE) (hs : ∀ M, Ext M0 M → src.holds M)
    (hk : ∀ x : α, ∀ M, Ext M0 M → ∀ Q : DK, Q (.str (nm x)) M → tk ((dwipe δ vs).set i (some (dv x))) M Q E0d) :
    ∀ (xs : List α) (pre : List Str) (ad : Str → Addr) (M : Mp), (pre ++ xs.map nm).Nodup → Ext M0 M → (∀ n ∈ pre, M (ad n) = some (.lst [])) → (∀ n ∈ pre, ∀ k ∈ pre, ad n = ad k → n = k) → (∀ n ∈ pre, M0 (ad n) = none) →
      (∀ (M' : Mp) (ad' : Str → Addr), Ext M0 M' → (∀ n ∈ pre ++ xs.map nm, M' (ad' n) = some (.lst [])) → (∀ n ∈ pre ++ xs.map nm, ∀ k ∈ pre ++ xs.map nm, ad' n = ad' k → n = k) → (∀ n ∈ pre ++ xs.map nm, M0 (ad' n) = none) → k (tab (pre ++ xs.map nm) fun n => .ref (ad' n)) M') →
      dDcL (.one i) tk (dLstM dNil) src vs δ k (xs.map dv) (tab pre fun n => .ref (ad n)) M
  | [], pre, ad, M, hd, ex, h1, h2, h3, q => by
    rw [List.map_nil, List.append_nil] at q
    exact Src.okI (hs M ex) (q M ad ex h1 h2 h3)
  | x :: t, pre, ad, M, hd, ex, h1, h2, h3, q => by
    have e : pre ++ (x :: t).map nm = (pre ++ [nm x]) ++ t.map nm := by simp
    have np : nm x ∉ pre := fun z => by
      rw [List.map_cons, List.nodup_append] at hd
      exact hd.2.2 _ z _ List.mem_cons_self rfl
    refine Src.okI (hs M ex) (hk x M ex _ ⟨Nat.zero_le _, fun p hp => ⟨.inr (nm x), rfl, ?_⟩⟩)
    rw [tab_snoc np, upF_map (fun a => D.ref a) ad (nm x) p]
    have fp : M0 p = none := by
      cases z : M0 p with
      | none => rfl
      | some o => rw [ex p o z] at hp; cases hp
    have old : ∀ n ∈ pre, upF ad (nm x) p n = ad n := fun n hn => upF_ne (fun z => np (z ▸ hn))
    have nep : ∀ n ∈ pre, ad n ≠ p := fun n hn z => by have := h1 n hn; rw [z, hp] at this; cases this
    rw [e] at q hd
    refine dc_lists tk hs hk t (pre ++ [nm x]) (upF ad (nm x) p) (updM M p (.lst [])) hd (fun a o z => ?_) (fun n hn => ?_) (fun n hn c hc z => ?_) (fun n hn => ?_) q
    · have : a ≠ p := fun y => by rw [y, fp] at z; cases z
      rw [updM_ne this]; exact ex a o z
    · rcases List.mem_append.mp hn with z | z
      · rw [old n z, updM_ne (nep n z)]; exact h1 n z
      · rw [List.mem_singleton.mp z, upF_same, updM_same]
    · rcases List.mem_append.mp hn with y | y <;> rcases List.mem_append.mp hc with y2 | y2
      · rw [old n y, old c y2] at z; exact h2 n y c y2 z
      · rw [List.mem_singleton.mp y2, upF_same, old n y] at z; exact absurd z (nep n y)
      · rw [List.mem_singleton.mp y, upF_same, old c y2] at z; exact absurd z.symm (nep c y2)
      · rw [List.mem_singleton.mp y, List.mem_singleton.mp y2]
    · rcases List.mem_append.mp hn with z | z
      · rw [old n z]; exact h3 n z
      · rw [List.mem_singleton.mp z, upF_same]; exact fp
end DL
namespace DL
open PySem PySem.Spec PyProof.Rows L2
section
variable {X : Cx} {W : WX} {o e : Expr} {to te : DTE} {pos apos : Pos}
def dIdxL (to te : DTE) : DTE := fun δ M Q E => to δ M (fun x M1 => ∃ ss : List Str, x = .lst (ss.map D.str) ∧ te δ M1 (fun y M2 => ∃ (z : Str) (j : Nat), y = .str z ∧ ss[j]? = some z ∧ (∀ i, i < j → ss[i]? ≠ some z) ∧ Q (.int (j : Nat)) M2) E) E
theorem eqV_str (a b : Str) : eqV (.str a) (.str b) = decide (a = b) := by
  show (a == b) = decide (a = b)
  by_cases z : a = b
  · subst z; simp
  · rw [decide_eq_false z]; simp [z]
theorem d_idxL (ho : DE X W o to) (ha : DE X W e te) (hs : starEach [e] X.env = (false, eval e X.env) :: starEach [] X.env := by rfl) (hplain : (backTo pos (starEach [] X.env)).any (·.1) = false := by rfl)
    (hbase : attributeBase o "index" X.env (eval o X.env) = eval o X.env := by rfl) (hline : (apos.endLine == pos.line) = true := by rfl)
    (hfew : ((backTo pos (starEach [e] X.env)).all (fun x => !x.1) && (backToKw pos (keywordEach [] X.env)).all (fun x => x.1.isSome) && decide ([e].length + ([] : List Keyword).length + (if ([] : List Keyword).isEmpty then 0 else 1) < 30)) = true := by rfl) :
    DE X W (.Call (.Attribute o "index" apos) [e] [] pos) (dIdxL to te) := by
  refine pe_imp (pe_bm PySem.F.plainAttrs_list PySem.F.slot_list_index PySem.F.type_list_index mt_index ho (pa_cons ha pa_nil hs) hbase hfew hline hs hplain) fun σ H Q h => ?_
  obtain ⟨I, M, F, δ, Qd, Ed, hr, rs, q, fq, fx⟩ := h
  refine ⟨I, M, F, δ, _, Ed, hr, rs, q, fun d M1 I1 H1 v q1 s1 hr1 r1 => ?_, fx⟩
  obtain ⟨ss, rfl, q1⟩ := q1
  cases r1 with
  | lst s rr =>
    have ev := reps_words rr
    subst ev
    refine ⟨.inl ⟨rfl, _, SqL.of (hr1.imm _ _ s)⟩, I1, M1, F, δ, _, Ed, hr1, rs.mono s1, q1, fun y M2 I2 H2 u q2 s2 hr2 r2 => ?_, fx.mono s1⟩
    obtain ⟨z, j, rfl, hj, hno, q⟩ := q2
    cases r2
    refine ⟨_, ss.map V.str, .str z, j, .str z, rfl, rfl, SqL.of (hr2.imm _ _ (s2 _ _ s)), rfl, ?_, ?_, ?_, fun i z' hi hz => ?_, fq _ M2 I2 H2 _ q (s1.trans s2) hr2 (.int _)⟩
    · exact all_flat ss
    · rw [List.getElem?_map, hj]; rfl
    · rw [eqV_str]; exact decide_eq_true rfl
    · rw [List.getElem?_map] at hz
      cases e2 : ss[i]? with
      | none => rw [e2] at hz; cases hz
      | some w =>
        rw [e2] at hz
        cases hz
        rw [eqV_str]
        exact decide_eq_false fun y => hno i hi (by rw [e2, y])
end
end DL
namespace DL
open PySem L2
structure Fd (a : Addr) (M0 M : Mp) (o : MO) (L : List (Addr × MO)) : Prop where
  self : M a = some o
  fa : M0 a = none
  cel : ∀ x ∈ L, M x.1 = some x.2
  fr : ∀ x ∈ L, M0 x.1 = none
  nd : (a :: L.map (·.1)).Nodup
  ext : Ext M0 M
theorem Fd.put {a : Addr} {M0 M : Mp} {o : MO} {L : List (Addr × MO)} (h : Fd a M0 M o L) (o' : MO) : Fd a M0 (updM M a o') o' L where
  self := updM_same
  fa := h.fa
  cel := fun x hx => by
    have ne : x.1 ≠ a := fun z => (List.nodup_cons.mp h.nd).1 (by rw [← z]; exact List.mem_map.mpr ⟨x, hx, rfl⟩)
    rw [updM_ne ne]; exact h.cel x hx
  fr := h.fr
  nd := h.nd
  ext := h.ext.upd h.fa
theorem Fd.more {a : Addr} {M0 M M' : Mp} {o : MO} {L : List (Addr × MO)} (h : Fd a M0 M o L) (x : Ext M M') : Fd a M0 M' o L :=
  ⟨x _ _ h.self, h.fa, fun y hy => x _ _ (h.cel y hy), h.fr, h.nd, h.ext.trans x⟩
theorem Fd.new {a : Addr} {M0 M : Mp} {o : MO} {L : List (Addr × MO)} (h : Fd a M0 M o L) {p : Addr} (z : M p = none) (o1 : MO) : Fd a M0 (updM M p o1) o ((p, o1) :: L) := by
  have na : ∀ {b u}, M b = some u → b ≠ p := fun e y => by rw [y, z] at e; cases e
  refine ⟨by rw [updM_ne (na h.self)]; exact h.self, h.fa, fun x hx => ?_, fun x hx => ?_, ?_, h.ext.upd (h.ext.none z)⟩
  · cases hx with
    | head => exact updM_same
    | tail _ hx => rw [updM_ne (na (h.cel x hx))]; exact h.cel x hx
  · cases hx with
    | head => exact h.ext.none z
    | tail _ hx => exact h.fr x hx
  · obtain ⟨d1, d2⟩ := List.nodup_cons.mp h.nd
    rw [List.map_cons, List.nodup_cons, List.nodup_cons]
    refine ⟨fun y => ?_, fun y => ?_, d2⟩
    · rcases List.mem_cons.mp y with y | y
      · exact na h.self y
      · exact d1 y
    · obtain ⟨x, hx, e⟩ := List.mem_map.mp y
      exact na (h.cel x hx) e
theorem Nb.snoc {M0 M M' : Mp} {ns : List Str} {w : Addr} {ad : Str → Addr} {cur : Str → List Str} (h : Nb M0 M ns w ad cur) {n : Str} (hn : n ∉ ns) {p : Addr} (fp : M p = none) (keep : ∀ a, a ≠ p → M' a = M a) (hp : M' p = some (.lst ((cur n).map D.str))) :
    Nb M0 (updM M' w (.dct (putD (tab ns fun n => .ref (ad n)) (.inr n) (.ref p)))) (ns ++ [n]) w (upF ad n p) cur := by
  have old : ∀ x ∈ ns, upF ad n p x = ad x := fun x hx => upF_ne (fun z => hn (z ▸ hx))
  have nep : ∀ x ∈ ns, ad x ≠ p := fun x hx z => by have := h.hc x hx; rw [z, fp] at this; cases this
  have wp : w ≠ p := fun z => by have := h.hw; rw [z, fp] at this; cases this
  have f0 := h.ex.none fp
  refine ⟨?_, fun x hx => ?_, fun x hx y hy e => ?_, fun x hx => ?_, fun x hx => ?_, h.fw, fun a o e => ?_⟩
  · rw [updM_same, tab_snoc hn, upF_map (fun a => D.ref a) ad n p]
  · rcases List.mem_append.mp hx with z | z
    · rw [old x z, updM_ne (h.nw x z), keep _ (nep x z)]; exact h.hc x z
    · rw [List.mem_singleton.mp z, upF_same, updM_ne wp.symm]; exact hp
  · rcases List.mem_append.mp hx with z | z <;> rcases List.mem_append.mp hy with z2 | z2
    · rw [old x z, old y z2] at e; exact h.inj x z y z2 e
    · rw [List.mem_singleton.mp z2, upF_same, old x z] at e; exact absurd e (nep x z)
    · rw [List.mem_singleton.mp z, upF_same, old y z2] at e; exact absurd e.symm (nep y z2)
    · rw [List.mem_singleton.mp z, List.mem_singleton.mp z2]
  · rcases List.mem_append.mp hx with z | z
    · rw [old x z]; exact h.fr x z
    · rw [List.mem_singleton.mp z, upF_same]; exact f0
  · rcases List.mem_append.mp hx with z | z
    · rw [old x z]; exact h.nw x z
    · rw [List.mem_singleton.mp z, upF_same]; exact wp.symm
  · have n1 : a ≠ w := fun z => by rw [z, h.fw] at e; cases e
    have n2 : a ≠ p := fun z => by rw [z, f0] at e; cases e
    rw [updM_ne n1, keep a n2]; exact h.ex a o e
def Mc.turn (m : Mc) (s : PS) : PS := m.settle (m.pass s 1 none)
theorem Calm.turn {s : PS} (c : Calm s) (m : Mc) : Calm (m.turn s) := (c.pass m 1 none).settle m
structure Sane (s : PS) : Prop where
  flt : ∀ kv ∈ s.flt, ∃ w : Str, kv.2 = .str w ∧ (w = "busy" ∨ w = "broken")
  fl : s.flt.length ≤ 40
  st : ∀ n, s.st n = "on" ∨ s.st n = "doze" ∨ s.st n = "off"
theorem Sane.same {s s' : PS} (c : Sane s) (h1 : s'.flt = s.flt) (h2 : s'.st = s.st) : Sane s' := ⟨by rw [h1]; exact c.flt, by rw [h1]; exact c.fl, by rw [h2]; exact c.st⟩
theorem Sane.setSt {s : PS} (c : Sane s) {n w : Str} (h : w = "on" ∨ w = "doze" ∨ w = "off") : Sane (s.setSt n w) := ⟨c.flt, c.fl, fun x => by
  show upF s.st n w x = "on" ∨ upF s.st n w x = "doze" ∨ upF s.st n w x = "off"
  unfold upF
  split
  · exact h
  · exact c.st x⟩
section
variable {m : Mc} {s : PS}
theorem Sane.note (c : Sane s) (ws : List D) : Sane (s.note ws) := c.same rfl rfl
theorem Sane.pass (c : Sane s) (m : Mc) (k : Int) (wk : Option Str) : Sane (m.pass s k wk) := c.same rfl rfl
theorem Sane.tell (c : Sane s) (n d : Str) : Sane (s.tell n d) := c.same rfl rfl
theorem Sane.setDue (c : Sane s) (n : Str) (v : Option Int) : Sane (s.setDue n v) := c.same rfl rfl
theorem Sane.fold {α : Type} {f : PS → α → PS} (hf : ∀ s x, Sane s → Sane (f s x)) : ∀ (l : List α) {s : PS}, Sane s → Sane (l.foldl f s)
  | [], _, c => c
  | x :: t, s, c => Sane.fold hf t (hf s x c)
theorem Sane.fallA (c : Sane s) (m : Mc) (n : Str) : Sane (m.fallA s n) := ((c.setDue n none).note _).pass m _ _
theorem Sane.fall (c : Sane s) (m : Mc) (n : Str) : Sane (m.fall s n) := by
  have a := c.fallA m n
  unfold Mc.fall Mc.fallB
  dsimp only
  split
  · exact (((a.tell n "doze").note _)).setDue n _
  · refine ((a.tell n "doze").setSt ?_).note _
    split
    · exact .inr (.inl rfl)
    · exact .inr (.inr rfl)
theorem Sane.settle1 (c : Sane s) (m : Mc) (n : Str) : Sane (m.settle1 s n) := by
  unfold Mc.settle1
  split
  · exact c.setDue n none
  · split
    · exact c.setDue n _
    · split
      · exact c.fall m n
      · exact c
theorem Sane.settle (c : Sane s) (m : Mc) : Sane (m.settle s) := Sane.fold (fun s x c => c.settle1 m x) _ c
end
inductive Out where | done | busy (o : Str) | broken (o : Str)
section
variable {m : Mc} {s : PS} {N : Nat} {n o : Str}
end
theorem Sane.turn {s : PS} (c : Sane s) (m : Mc) : Sane (m.turn s) := (c.pass m 1 none).settle m
end DL
namespace DL
open PySem PySem.Spec PyProof.Rows L2
section
variable {X : Cx}
end
def FinP (K : PySem.W.Frag) (P : Hp → V → D → Prop) (I F : Hp) (Qd : DK) (Q : VK) : Prop := ∀ d M' I' H' v, Qd d M' → Same I I' → HR K I' M' F H' → Rep K I' v d → P I' v d → Q v H'
theorem FinP.mono {K : PySem.W.Frag} {P : Hp → V → D → Prop} {I I' F : Hp} {Qd : DK} {Q : VK} (h : FinP K P I F Qd Q) (e : Same I I') : FinP K P I' F Qd Q := fun d M' I2 H' v a b r x p => h d M' I2 H' v a (e.trans b) r x p
def TkT (K : PySem.W.Frag) (I : Hp) (v : V) (d : D) : Prop := ∃ t vs ds, v = .ref t ∧ d = .tup ds ∧ I t = some (.tup vs) ∧ Reps K I vs ds
def TkP (K : PySem.W.Frag) (I : Hp) (v : V) (d : D) : Prop := ∃ p t w vs ds y, v = .ref p ∧ d = .tup [.tup ds, y] ∧ I p = some (.tup [.ref t, w]) ∧ I t = some (.tup vs) ∧ Reps K I vs ds ∧ Rep K I w y
theorem TkT.mono {K : PySem.W.Frag} {I I' : Hp} {v : V} {d : D} (h : TkT K I v d) (e : Same I I') : TkT K I' v d := let ⟨t, vs, ds, a, b, c, r⟩ := h; ⟨t, vs, ds, a, b, e _ _ c, r.mono e⟩
theorem TkP.mono {K : PySem.W.Frag} {I I' : Hp} {v : V} {d : D} (h : TkP K I v d) (e : Same I I') : TkP K I' v d := let ⟨p, t, w, vs, ds, y, a, b, c, d, r, q⟩ := h; ⟨p, t, w, vs, ds, y, a, b, e _ _ c, e _ _ d, r.mono e, q.mono e⟩
section
variable {X : Cx} {W : WX} {e a b : Expr} {te ta tb : DTE} {pos : Pos}
end
section
variable {X : Cx} {W : WX}
variable {elt tg iter : Expr} {ifs : List Expr} {scope : Scope} {own : List (Str × Nat)} {pos p cpos : Pos} {di : DTI} {t : TgI} {tt : DTT} {te : DTE}
end
structure ExcN (K : PySem.W.Frag) (mg : Str → Option Value) (x : Str) (C : Addr) : Prop where
  mgC : mg x = some (.ref C)
  q : PySem.W.excIn K C leRow "LookupError.__new__" = true
  kp : PySem.W.keepIn K (.ref C) = true
  oex : OexL K C
section
variable {X : Cx} {W : WX} {p pos pos' : Pos} {x : Str} {C : Addr}
end
def tScK (P : Program) (w : World) (wi : TI) (g : TG) (te : TE) (vs : List Nat) : TE := fun σ H Q => wi σ H fun J H1 => ∀ D, H1 D = none →
  ∃ W : Nat → Nat → Hp → Prop, (∃ m, W 0 m (upd H1 D (SetK P w D (fun _ => false) 0))) ∧ ∀ i m Hi, W i m Hi → (J.stop i Hi ∧ Q (.ref D) Hi) ∨
    (J.go i Hi ∧ ∃ Nx : Hp → Prop, (∀ Hn, Nx Hn → ∃ m', m' < m ∧ W (i + 1) m' Hn) ∧ ∀ x Hy, J.yld i Hi x Hy → g x (wipe σ vs) Hy fun σ2 H2 => wipe σ2 vs = wipe σ vs ∧
      te σ2 H2 fun y H4 => ∃ (k : Key) (S : Key → Bool) (n : Nat), y = kV k ∧ H4 D = some (SetK P w D S n) ∧ n + 1 < scanBound ∧ Nx (upd H4 D (SetK P w D (fun j => S j || decide (j = k)) (if S k = true then n else n + 1))))
theorem addK_at {X : Cx} {pins : List (Addr × Obj)} {σ : L2.St} {H : Hp} {s : Shared} {E : Value → Shared → Prop} {D : Addr} {S : Key → Bool} {n : Nat} {k : Key} {v : Value} {Q : Value → Shared → Prop} (J : L2.Inv X pins σ H s) (rv : RelV (kV k) v) (e : H D = some (SetK X.prog X.w D S n)) (room : n + 1 < scanBound)
    (fin : ∀ v' s', L2.Inv X pins σ (upd H D (SetK X.prog X.w D (fun j => S j || decide (j = k)) (if S k = true then n else n + 1))) s' → Q v' s') (hx : X.xe = fun _ _ => False) : wpAny (model X.prog X.w) X.A (call (.builtin "set.add") [.ref D, v]) Q E s := by
  have z := mt_saddK (X := X) pins s σ H (.ref D) [kV k] (.ref D) [v] (fun r H' => H' = upd H D (SetK X.prog X.w D (fun j => S j || decide (j = k)) (if S k = true then n else n + 1))) J rfl (.cons rv .nil) ⟨D, k, S, n, rfl, rfl, e, room, rfl⟩
  rw [hx] at z
  exact thnF z fun v' s' ⟨r, H', J', _, eh⟩ => fin v' s' (eh ▸ J')
theorem setK0 {P : Program} {w : World} {h : Heap} {led : Bool} : (h.push { cls := .type "set", dict := none, data := .set #[] 0 (.fresh 0 0 led) }).SetOf (mixKind P w) h.objs.size (fun _ => false) 0 :=
  ⟨_, #[], 0, _, Heap.get?_push_size _ rfl, ⟨rfl, rfl, rfl⟩, rfl, (fun e he => by simp at he), (fun k => by simp), (by decide), (by rfl), rfl⟩
section
variable {X : Cx} {elt tg iter : Expr} {scope : Scope} {own : List (Str × Nat)} {pos : Pos} {wi : TI} {g : TG} {te : TE}
theorem pe_scK (cm : X.calm = true) (nd : X.N.Nodup) (hi : L2.PI X tg iter wi) (ok : BlkOk X.N X.env.scope scope own)
    (hg : ∀ (s : Shared) (H : Hp) (C : Addr) (cl : List (Str × Addr)) (fp : List Addr), PG (X.blk s H scope (compEnvC scope cl C X.env) fp) tg g)
    (he : ∀ (s : Shared) (H : Hp) (C : Addr) (cl : List (Str × Addr)) (fp : List Addr), PE (X.blk s H scope (compEnvC scope cl C X.env) fp) elt te) (fs : ∀ x, foldedSetIterable iter X.env x = pure x := by intro _; rfl) :
    PE X (.SetComp elt [⟨tg, iter, [], 0⟩] scope pos) (tScK X.prog X.w wi g te (own.map (·.2))) := ⟨fun pins s σ H Q J0 h => by
  have fr : ∀ y ∈ scope.names, y.2 = .free → ∃ c, X.env.cells.lookup y.1 = some c := fun y hy e => (ok.free y hy e).elim (fun k => J0.ok.has _ (.inl k)) fun k => J0.ok.has _ (.inr k)
  rw [PpSet.eval_SetComp]
  refine wpAny_comprehension_free (use := none) rfl fs (closure_ok fr) ok.kind (fun y hy e => by rw [ok.uniq y hy, e]) (thn (hi.run pins s σ H _ J0 h) fun xv s1 hx => thn hx fun itv s2 h2 => ?_)
  obtain ⟨it, fp, tn, Z, Ha, rfl, Ja, T, sta, fpa, q⟩ := h2
  refine PpSet.newSet_ok (newEnv_comp ?_)
  obtain ⟨D, eD⟩ : ∃ D, s2.heap.objs.size = D := ⟨_, rfl⟩
  obtain ⟨W, ⟨m0, w0⟩, turn⟩ := q D (Ja.hok.fresh (Nat.le_of_eq eD))
  obtain ⟨Hb, eHb⟩ : ∃ Hb, upd Ha D (SetK X.prog X.w D (fun _ => false) 0) = Hb := ⟨_, rfl⟩
  rw [eHb] at w0
  obtain ⟨sb, esb⟩ : ∃ sb : Shared, ({ s2 with heap := s2.heap.push { cls := .type "set", dict := none, data := .set #[] 0 (.fresh 0 0 (!X.w.params.followText "set-order")) } } : Shared) = sb := ⟨_, rfl⟩
  have grown : ∀ b o, s2.heap.get? b = some o → sb.heap.get? b = some o := fun b o e => by rw [← esb]; exact Heap.get?_push_of_some _ e
  have Jb : L2.Inv X pins σ Hb sb := by
    rw [← esb, ← eHb]
    refine Ja.laid (t' := s2.toks) (fun b o e => Heap.get?_push_of_some _ e) (Nat.le_of_eq eD) ?_
    rw [← eD]
    exact setK_new setK0
  have lt : ∀ b ∈ fp, b < s2.heap.objs.size := fun b hb => let ⟨o, e, _⟩ := T.obj _ _ sta b hb; Heap.lt_size e
  have fpb : ∀ b ∈ fp, FpOk X pins Hb b ∧ b < sb.heap.objs.size := fun b hb => by
    have l := lt b hb
    have ne : b ≠ D := by rw [← eD]; exact Nat.ne_of_lt l
    obtain ⟨f0, fr⟩ := fpa b hb
    exact ⟨⟨by rw [← eHb, upd_ne ne]; exact f0, fr⟩, by rw [← esb, Heap.size_push]; exact Nat.lt_succ_of_lt l⟩
  have stb : tn 0 sb.heap := T.keep _ _ _ sta fun b _ o e => grown b o e
  have Jc := block_start Jb ok nd fpb
  obtain ⟨cl, ecl⟩ : ∃ cl, cellsFrom (sb.heap.objs.size + 1) scope.names (cloFrom X.env.cells scope.names []) = cl := ⟨_, rfl⟩
  have pg := hg sb Hb sb.heap.objs.size cl fp
  have pe := he sb Hb sb.heap.objs.size cl fp
  rw [ecl] at Jc
  show codeAny _ _ (.compStart (.SetComp elt [⟨tg, iter, [], 0⟩] scope pos) 0 (.ref it) (.ref s2.heap.objs.size) (compEnvC scope (cellsFrom (_ + 1) scope.names (cloFrom X.env.cells scope.names [])) _ X.env)) _ _
  rw [esb, eD]
  obtain ⟨ce, ece⟩ : ∃ ce, compEnvC scope cl sb.heap.objs.size X.env = ce := ⟨_, rfl⟩
  rw [ecl]
  show codeAny _ _ (.compStart _ 0 (.ref it) (.ref D) (compEnvC scope cl sb.heap.objs.size X.env)) (compPost (model X.prog X.w) X.A X.xe none (EP X pins σ Q) (.ref D) sb.heap.objs.size) _
  rw [ece]
  rw [ece] at Jc pg pe
  have loc : ce.locals = sb.heap.objs.size := by rw [← ece]; rfl
  obtain ⟨sc, esc⟩ : ∃ sc : Shared, ({ sb with heap := pushCells (sb.heap.push { cls := .type "dict", data := .dict #[] }) scope.names } : Shared) = sc := ⟨_, rfl⟩
  rw [esc] at Jc ⊢
  have stc : tn 0 sc.heap := T.keep _ _ _ stb fun b _ o e => by rw [← esc]; exact pushCells_keeps _ _ _ _ (Heap.get?_push_of_some _ e)
  have still : ∀ {σ' : L2.St} {H' : Hp} {s' : Shared}, L2.Inv (X.blk sb Hb scope ce fp) [] σ' H' s' → (∀ b ∈ fp, H' b = none) → ∀ b ∈ fp, FpOk (X.blk sb Hb scope ce fp) [] H' b := fun J' hn b hb => ⟨hn b hb, (J'.ok.exf b hb).1, J'.ok.exfs b hb, .inl hb, fun x c e => (J'.ok.exf b hb).2 x c e, fun p hp => absurd (show p ∈ ([] : List (Addr × Obj)) ++ [] from hp) (by simp)⟩
  have whole : codeAny (model X.prog X.w) X.A (.compLoop (.SetComp elt [⟨tg, iter, [], 0⟩] scope pos) 0 (.ref it) (.ref D) ce) (compPost (model X.prog X.w) X.A X.xe none (EP X pins σ Q) (.ref D) sb.heap.objs.size) sc := by
    refine PpSet.compLoopS_any (fun n s' => ∃ i H', L2.Inv (X.blk sb Hb scope ce fp) [] (wipe σ (own.map (·.2))) H' s' ∧ tn i s'.heap ∧ (∀ b ∈ fp, H' b = none) ∧ W i n H') (fun n s5 J5 => ?_) m0 ⟨0, Hb, Jc, stc, fun b hb => (fpb b hb).1.1, w0⟩
    obtain ⟨i, H5, J5, st5, n5, w5⟩ := J5
    rcases turn i n H5 w5 with ⟨stop, qq⟩ | ⟨go, Nx, less, step⟩
    · refine thnF (T.done (X.blk sb Hb scope ce fp) rfl rfl rfl cm i [] s5 _ H5 (fun _ _ => False) J5 (still J5 n5) st5 stop) fun r s6 ⟨er, J6⟩ => ?_
      subst er
      have J7 : L2.Inv X pins σ H5 s6 := Jb.call' (ch := fp) J6.os J6.base J6.hok J6.bare fun b hb => let f := (fpb b hb).1.2; ⟨f.2.2.1, f.1, f.2.2.2.1, f.2.2.2.2⟩
      have free : H5 sb.heap.objs.size = none := by have z : H5 ce.locals = none := J6.free; rw [loc] at z; exact z
      obtain ⟨m, hn, _⟩ := J6.loc
      have hn : s6.heap.Ns ce.locals m := hn
      rw [loc] at hn
      obtain ⟨f0, f1, f2, f3, f4, f5⟩ := Jb.fpOk (Nat.le_refl _) free
      exact ⟨m, hn, fun h' sm => ⟨.ref D, H5, J7.turned (t' := s6.toks) (fun b o hb e => (sm.2 b hb).trans e) f0 f1 f3 f4 f5, rfl, qq⟩⟩
    · refine thnF (T.item (X.blk sb Hb scope ce fp) rfl rfl rfl cm i [] s5 _ H5 (fun _ _ => False) J5 (still J5 n5) st5 go) fun r s6 ⟨u, er, h6⟩ => ?_
      subst er
      refine thnF h6 fun _ s7 ⟨x, H7, J7, r7, y7, st7, n7⟩ => ?_
      refine thnF (pg.run _ s7 _ H7 x u _ (J7.pinned (still J7 n7) (T.obj _ _ st7)) r7 (step x H7 y7)) fun _ s8 ⟨σ8, H8, J8, ew, q8⟩ => wpAny_pure ?_
      rw [if_pos rfl]
      refine thnF (pe.run _ s8 σ8 H8 _ J8 q8) fun z s9 ⟨yv, H9, J9, r9, k, S0, n0, ey, e9, room, nx⟩ => ?_
      subst ey
      refine addK_at (X := X.blk sb Hb scope ce fp) J9 r9 e9 room (fun v' s' J' => ?_) rfl
      obtain ⟨m', l, w'⟩ := less _ nx
      have pin : ∀ b ∈ fp, ∀ o, s7.heap.get? b = some o → s'.heap.get? b = some o ∧ _ := fun b hb o e => J'.pin (b, o) (List.mem_append_right _ (List.mem_append_right _ (mem_pinsAt hb e)))
      refine ⟨m', l, i + 1, _, J'.unpinned (pins := []) |>.weak (by rw [← ew, wipe_length]) (fun j v e => ?_), T.keep _ _ _ st7 fun b hb o e => (pin b hb o e).1, fun b hb => ?_, w'⟩
      · rw [← ew] at e
        exact (wipe_some e).1
      · obtain ⟨o, e, _⟩ := T.obj _ _ st7 b hb
        exact (pin b hb o e).2.1
  exact PpSet.codeAny_compStart_set whole (T.self X.A 0 _ _ _ stc whole)⟩
end
end DL
namespace DL
open PySem L2
inductive Rch (nd : Str → List Str) : Str → Str → Prop
  | one {n x : Str} : x ∈ nd n → Rch nd n x
  | more {n x y : Str} : Rch nd n x → y ∈ nd x → Rch nd n y
theorem Rch.trans {nd : Str → List Str} {a b c : Str} (h : Rch nd a b) (g : Rch nd b c) : Rch nd a c := by
  induction g with
  | one e => exact .more h e
  | more _ e ih => exact .more ih e
theorem Rch.fst {nd : Str → List Str} {a b : Str} (h : Rch nd a b) : ∃ o ∈ nd a, o = b ∨ Rch nd o b := by
  induction h with
  | one e => exact ⟨_, e, .inl rfl⟩
  | more _ e ih =>
    obtain ⟨o, ho, z⟩ := ih
    refine ⟨o, ho, .inr ?_⟩
    rcases z with rfl | z
    · exact .one e
    · exact .more z e
theorem Rch.shut {nd : Str → List Str} {P : Str → Prop} (hp : ∀ x, P x → ∀ y ∈ nd x, P y) {a b : Str} (h : Rch nd a b) (ha : P a) : P b := by
  induction h with
  | one e => exact hp _ ha _ e
  | more _ e ih => exact hp _ ih _ e
def NoRing (ns : List Str) (nd : Str → List Str) : Prop := ∀ n ∈ ns, ¬ Rch nd n n
open Classical in
theorem rank_of {ns : List Str} {nd : Str → List Str} (hd : ns.Nodup) (hs : ∀ n ∈ ns, ∀ o ∈ nd n, o ∈ ns) (h : NoRing ns nd) : Ranked ns nd :=
  ⟨hd, hs, fun n => (ns.filter fun x => decide (Rch nd n x)).length, fun n hn o ho => by
    have z := nodup_le (a := o :: ns.filter fun x => decide (Rch nd o x)) (b := ns.filter fun x => decide (Rch nd n x)) (List.nodup_cons.mpr ⟨fun w => h o (hs n hn o ho) (of_decide_eq_true (List.mem_filter.mp w).2), hd.filter _⟩) fun x hx => by
      rcases List.mem_cons.mp hx with e | e
      · rw [e]; exact List.mem_filter.mpr ⟨hs n hn o ho, decide_eq_true (.one ho)⟩
      · obtain ⟨a, b⟩ := List.mem_filter.mp e
        exact List.mem_filter.mpr ⟨a, decide_eq_true (Rch.trans (.one ho) (of_decide_eq_true b))⟩
    rw [List.length_cons] at z
    exact z⟩
theorem Ranked.noRing {ns : List Str} {nd : Str → List Str} (R : Ranked ns nd) : NoRing ns nd := fun n hn h => by
  obtain ⟨r, hr⟩ := R.rk
  have : ∀ a b, Rch nd a b → a ∈ ns → b ∈ ns ∧ r b < r a := fun a b h => by
    induction h with
    | one e => exact fun ha => ⟨R.sub _ ha _ e, hr _ ha _ e⟩
    | more _ e ih => exact fun ha => let ⟨u, v⟩ := ih ha; ⟨R.sub _ u _ e, Nat.lt_trans (hr _ u _ e) v⟩
  exact absurd (this n n h hn).2 (Nat.lt_irrefl _)
structure OrdW (ns : List Str) (nd : Str → List Str) (l : List Str) : Prop where
  dup : l.Nodup
  sub : ∀ n ∈ l, n ∈ ns
  cl : ∀ n ∈ l, ∀ o ∈ nd n, o ∈ l
  nr : ∀ n ∈ l, ¬ Rch nd n n
theorem OrdW.snoc {ns : List Str} {nd : Str → List Str} {l : List Str} (h : OrdW ns nd l) {x : Str} (hx : x ∈ ripe ns nd l) : OrdW ns nd (l ++ [x]) := by
  obtain ⟨h1, h2, h3⟩ := mem_ripe.mp hx
  refine ⟨?_, fun n hn => ?_, fun n hn o ho => ?_, fun n hn z => ?_⟩
  · rw [List.nodup_append]
    exact ⟨h.dup, by simp, fun a ha b hb e => by
      rw [List.mem_singleton.mp hb] at e
      exact h2 (e ▸ ha)⟩
  · rcases List.mem_append.mp hn with z | z
    · exact h.sub n z
    · rw [List.mem_singleton.mp z]; exact h1
  · rcases List.mem_append.mp hn with z | z
    · exact List.mem_append_left _ (h.cl n z o ho)
    · rw [List.mem_singleton.mp z] at ho; exact List.mem_append_left _ (h3 o ho)
  · rcases List.mem_append.mp hn with y | y
    · exact h.nr n y z
    · rw [List.mem_singleton.mp y] at z
      obtain ⟨o, ho, w⟩ := z.fst
      rcases w with w | w
      · exact h2 (w ▸ h3 o ho)
      · exact h2 (Rch.shut (P := (· ∈ l)) (fun a ha b hb => h.cl a ha b hb) w (h3 o ho))
theorem OrdW.nil {ns : List Str} {nd : Str → List Str} : OrdW ns nd [] := ⟨List.nodup_nil, (fun _ z => nomatch z), (fun _ z => nomatch z), (fun _ z => nomatch z)⟩
theorem OrdW.len {ns : List Str} {nd : Str → List Str} {l : List Str} (h : OrdW ns nd l) : l.length ≤ ns.length := nodup_le h.dup h.sub
theorem ord_w {ns : List Str} {nd : Str → List Str} : ∀ k, OrdW ns nd (ordN ns nd k)
  | 0 => .nil
  | k + 1 => by
    have ih := ord_w (ns := ns) (nd := nd) k
    unfold ordN
    generalize ordN ns nd k = l at ih
    cases e : ripe ns nd l with
    | nil => rw [List.take_nil, List.append_nil]; exact ih
    | cons x t => exact ih.snoc (by rw [e]; exact List.mem_cons_self)
theorem ord_short {ns : List Str} {nd : Str → List Str} {n : Str} (hn : n ∈ ns) (h : Rch nd n n) (k : Nat) : (ordN ns nd k).length < ns.length := by
  have z := ord_w (ns := ns) (nd := nd) k
  have y := nodup_le (a := n :: ordN ns nd k) (b := ns) (List.nodup_cons.mpr ⟨fun w => z.nr n w h, z.dup⟩) fun x hx => by
    rcases List.mem_cons.mp hx with e | e
    · rw [e]; exact hn
    · exact z.sub x e
  rw [List.length_cons] at y
  exact y
def extF (nd : Str → List Str) (f : List Str) (o : Str) : List Str := f ++ (nd o).filter fun x => decide (x ∉ f)
def farT (nd : Str → List Str) (f : List Str) : List Str := f.foldl (extF nd) f
def farN (nd : Str → List Str) (f : List Str) : Nat → List Str
  | 0 => f
  | k + 1 => farT nd (farN nd f k)
theorem ext_pre {nd : Str → List Str} : ∀ (l f : List Str), ∃ t, l.foldl (extF nd) f = f ++ t
  | [], f => ⟨[], (List.append_nil f).symm⟩
  | o :: l, f => by
    obtain ⟨t, e⟩ := ext_pre l (extF nd f o)
    exact ⟨_, by rw [List.foldl_cons, e]; unfold extF; rw [List.append_assoc]⟩
theorem ext_all {nd : Str → List Str} : ∀ (l f : List Str), ∀ o ∈ l, ∀ x ∈ nd o, x ∈ l.foldl (extF nd) f
  | o :: l, f, p, hp, x, hx => by
    rw [List.foldl_cons]
    rcases List.mem_cons.mp hp with e | e
    · obtain ⟨t, q⟩ := ext_pre (nd := nd) l (extF nd f o)
      rw [q]
      refine List.mem_append_left _ ?_
      unfold extF
      by_cases z : x ∈ f
      · exact List.mem_append_left _ z
      · exact List.mem_append_right _ (List.mem_filter.mpr ⟨e ▸ hx, decide_eq_true z⟩)
    · exact ext_all l _ p e x hx
theorem ext_P {nd : Str → List Str} {P : Str → Prop} (hp : ∀ x, P x → ∀ y ∈ nd x, P y) : ∀ (l f : List Str), (∀ o ∈ l, P o) → (∀ x ∈ f, P x) → ∀ x ∈ l.foldl (extF nd) f, P x
  | [], f, _, hf => hf
  | o :: l, f, hl, hf => by
    rw [List.foldl_cons]
    refine ext_P hp l _ (fun x hx => hl x (List.mem_cons_of_mem _ hx)) fun x hx => ?_
    rcases List.mem_append.mp hx with z | z
    · exact hf x z
    · exact hp o (hl o List.mem_cons_self) x (List.mem_filter.mp z).1
theorem ext_dup {nd : Str → List Str} : ∀ (l f : List Str), (∀ o ∈ l, (nd o).Nodup) → f.Nodup → (l.foldl (extF nd) f).Nodup
  | [], f, _, hf => hf
  | o :: l, f, hl, hf => by
    rw [List.foldl_cons]
    refine ext_dup l _ (fun x hx => hl x (List.mem_cons_of_mem _ hx)) ?_
    unfold extF
    rw [List.nodup_append]
    exact ⟨hf, (hl o List.mem_cons_self).filter _, fun a ha b hb e => of_decide_eq_true (List.mem_filter.mp hb).2 (e ▸ ha)⟩
theorem far_pre {nd : Str → List Str} (f : List Str) : ∃ t, farT nd f = f ++ t := ext_pre f f
structure FarOk (ns : List Str) (nd : Str → List Str) (n : Str) (f : List Str) : Prop where
  dup : f.Nodup
  sub : ∀ x ∈ f, x ∈ ns
  rch : ∀ x ∈ f, Rch nd n x
  fst : ∀ x ∈ nd n, x ∈ f
theorem FarOk.len {ns : List Str} {nd : Str → List Str} {n : Str} {f : List Str} (h : FarOk ns nd n f) : f.length ≤ ns.length := nodup_le h.dup h.sub
theorem FarOk.ext {ns : List Str} {nd : Str → List Str} {n : Str} {f : List Str} (hs : ∀ n ∈ ns, ∀ o ∈ nd n, o ∈ ns) (hd : ∀ n ∈ ns, (nd n).Nodup) (h : FarOk ns nd n f) (l : List Str) (hl : ∀ o ∈ l, o ∈ f) : FarOk ns nd n (l.foldl (extF nd) f) where
  dup := ext_dup l f (fun o ho => hd o (h.sub o (hl o ho))) h.dup
  sub := ext_P (P := (· ∈ ns)) hs l f (fun o ho => h.sub o (hl o ho)) h.sub
  rch := ext_P (P := fun x => Rch nd n x) (fun _ h _ e => .more h e) l f (fun o ho => h.rch o (hl o ho)) h.rch
  fst := fun x hx => by
    obtain ⟨t, e⟩ := ext_pre (nd := nd) l f
    rw [e]; exact List.mem_append_left _ (h.fst x hx)
theorem far_ok {ns : List Str} {nd : Str → List Str} {n : Str} (hn : n ∈ ns) (hs : ∀ n ∈ ns, ∀ o ∈ nd n, o ∈ ns) (hd : ∀ n ∈ ns, (nd n).Nodup) : ∀ k, FarOk ns nd n (farN nd (nd n) k)
  | 0 => ⟨hd n hn, hs n hn, fun _ h => .one h, fun _ h => h⟩
  | k + 1 => (far_ok hn hs hd k).ext hs hd _ fun _ h => h
theorem far_shut {ns : List Str} {nd : Str → List Str} {n : Str} (hn : n ∈ ns) (hs : ∀ n ∈ ns, ∀ o ∈ nd n, o ∈ ns) (hd : ∀ n ∈ ns, (nd n).Nodup) : ∀ k, (∀ o ∈ farN nd (nd n) k, ∀ x ∈ nd o, x ∈ farN nd (nd n) k) ∨ k ≤ (farN nd (nd n) k).length
  | 0 => .inr (Nat.zero_le _)
  | k + 1 => by
    obtain ⟨t, e⟩ := far_pre (nd := nd) (farN nd (nd n) k)
    have ih := far_shut hn hs hd k
    have al := ext_all (nd := nd) (farN nd (nd n) k) (farN nd (nd n) k)
    show (∀ o ∈ farT nd (farN nd (nd n) k), ∀ x ∈ nd o, x ∈ farT nd (farN nd (nd n) k)) ∨ k + 1 ≤ (farT nd (farN nd (nd n) k)).length
    have al : ∀ o ∈ farN nd (nd n) k, ∀ x ∈ nd o, x ∈ farT nd (farN nd (nd n) k) := al
    rw [e] at al ⊢
    by_cases z : ∀ o ∈ farN nd (nd n) k, ∀ x ∈ nd o, x ∈ farN nd (nd n) k
    · refine .inl fun o ho x hx => ?_
      have : o ∈ farN nd (nd n) k := by
        have := ext_P (P := (· ∈ farN nd (nd n) k)) z (farN nd (nd n) k) (farN nd (nd n) k) (fun _ h => h) (fun _ h => h) o (by show o ∈ farT nd (farN nd (nd n) k); rw [e]; exact ho)
        exact this
      exact List.mem_append_left _ (z o this x hx)
    · refine .inr ?_
      rcases ih with ih | ih
      · exact absurd ih z
      · have ne : t ≠ [] := fun y => z fun o ho x hx => by
          have := al o ho x hx
          rwa [y, List.append_nil] at this
        have := List.length_pos_iff.mpr ne
        rw [List.length_append]
        omega
theorem far_iff {ns : List Str} {nd : Str → List Str} {n : Str} (hn : n ∈ ns) (hs : ∀ n ∈ ns, ∀ o ∈ nd n, o ∈ ns) (hd : ∀ n ∈ ns, (nd n).Nodup) {x : Str} : x ∈ farN nd (nd n) ns.length ↔ Rch nd n x := by
  have ok := far_ok hn hs hd ns.length
  refine ⟨ok.rch x, fun h => ?_⟩
  have cl : ∀ o ∈ farN nd (nd n) ns.length, ∀ x ∈ nd o, x ∈ farN nd (nd n) ns.length := by
    rcases far_shut hn hs hd ns.length with z | z
    · exact z
    · intro o ho x hx
      refine Classical.byContradiction fun w => ?_
      have xs := hs o (ok.sub o ho) x hx
      have y := nodup_le (a := x :: farN nd (nd n) ns.length) (b := ns) (List.nodup_cons.mpr ⟨w, ok.dup⟩) fun y hy => by
        rcases List.mem_cons.mp hy with e | e
        · rw [e]; exact xs
        · exact ok.sub y e
      rw [List.length_cons] at y
      omega
  obtain ⟨o, ho, z⟩ := h.fst
  have := ok.fst o ho
  rcases z with rfl | z
  · exact this
  · exact Rch.shut (P := (· ∈ farN nd (nd n) ns.length)) cl z this
structure Way (nd : Str → List Str) (n : Str) (w : List Str) : Prop where
  hd : w.head? = some n
  dup : w.Nodup
  nx : ∀ (i : Nat) (x y : Str), w[i]? = some x → w[i + 1]? = some y → y ∈ nd x
theorem Way.one {nd : Str → List Str} {n : Str} : Way nd n [n] := ⟨rfl, by simp, fun i x y _ h => by simp at h⟩
theorem Way.snoc {nd : Str → List Str} {n : Str} {w : List Str} {c o : Str} (h : Way nd n w) (hc : w.getLast? = some c) (ho : o ∈ nd c) (no : o ∉ w) : Way nd n (w ++ [o]) where
  hd := by rw [List.head?_append, h.hd]; rfl
  dup := by
    rw [List.nodup_append]
    exact ⟨h.dup, by simp, fun a ha b hb e => no (by rw [← List.mem_singleton.mp hb, ← e]; exact ha)⟩
  nx := fun i x y hx hy => by
    by_cases l : i + 1 < w.length
    · rw [List.getElem?_append_left l] at hy
      rw [List.getElem?_append_left (by omega)] at hx
      exact h.nx i x y hx hy
    · rw [List.getElem?_append_right (by omega)] at hy
      have z : i + 1 - w.length = 0 := by
        refine Classical.byContradiction fun q => ?_
        rw [List.getElem?_eq_none (by simp; omega)] at hy
        cases hy
      rw [z] at hy
      have e : o = y := by simpa using hy
      rw [List.getElem?_append_left (by omega)] at hx
      rw [List.getLast?_eq_getElem?, show w.length - 1 = i by omega, hx] at hc
      rw [← e, Option.some.inj hc]
      exact ho
theorem Way.ne {nd : Str → List Str} {n : Str} {w : List Str} (h : Way nd n w) : w ≠ [] := fun z => by have := h.hd; rw [z] at this; cases this
theorem Way.last {nd : Str → List Str} {n : Str} {w : List Str} (h : Way nd n w) : ∃ c, w.getLast? = some c := by
  cases e : w.getLast? with
  | none => exact absurd (List.getLast?_eq_none_iff.mp e) h.ne
  | some c => exact ⟨c, rfl⟩
theorem Way.rch {nd : Str → List Str} {n : Str} {w : List Str} (h : Way nd n w) : ∀ (i : Nat) (x : Str), w[i]? = some x → x = n ∨ Rch nd n x
  | 0, x, e => .inl (by have := h.hd; rw [List.head?_eq_getElem?, e] at this; exact Option.some.inj this)
  | i + 1, x, e => by
    obtain ⟨y, hy⟩ : ∃ y, w[i]? = some y := by
      have : i + 1 < w.length := (List.getElem?_eq_some_iff.mp e).1
      exact ⟨w[i], List.getElem?_eq_getElem (by omega)⟩
    have := h.nx i y x hy e
    rcases h.rch i y hy with z | z
    · rw [z] at this; exact .inr (.one this)
    · exact .inr (.more z this)
structure RingAt (nd : Str → List Str) (n : Str) (w : List Str) : Prop where
  way : Way nd n w
  cl : ∀ c, w.getLast? = some c → n ∈ nd c
theorem RingAt.rch {nd : Str → List Str} {n : Str} {w : List Str} (h : RingAt nd n w) : Rch nd n n := by
  obtain ⟨c, hc⟩ := h.way.last
  have := h.cl c hc
  rw [List.getLast?_eq_getElem?] at hc
  rcases h.way.rch _ c hc with z | z
  · rw [z] at this; exact .one this
  · exact .more z this
def Dn (nd : Str → List Str) (n : Str) (se : List Str) (x : Str) : Prop := n ∉ nd x ∧ ∀ y ∈ nd x, y ∈ se
structure Srch (ns : List Str) (nd : Str → List Str) (n : Str) (se : List Str) (ws : List (List Str)) (cur : Option (List Str × List Str)) : Prop where
  wy : ∀ w ∈ ws, Way nd n w ∧ ∀ x ∈ w, x ∈ ns ∧ (x = n ∨ x ∈ se)
  sd : se.Nodup
  ss : ∀ x ∈ se, x ∈ ns
  nn : n ∉ se
  cw : ∀ w p, cur = some (w, p) → (Way nd n w ∧ ∀ x ∈ w, x ∈ ns ∧ (x = n ∨ x ∈ se)) ∧ ∀ y ∈ p, y ≠ n ∧ y ∈ se
  dn : ∀ x, x = n ∨ x ∈ se → Dn nd n se x ∨ (∃ w ∈ ws, w.getLast? = some x) ∨ ∃ w p, cur = some (w, p) ∧ w.getLast? = some x
theorem Dn.mono {nd : Str → List Str} {n : Str} {se : List Str} {x o : Str} (h : Dn nd n se x) : Dn nd n (se ++ [o]) x := ⟨h.1, fun y hy => List.mem_append_left _ (h.2 y hy)⟩
section
variable {ns : List Str} {nd : Str → List Str} {n : Str} {se : List Str} {ws : List (List Str)}
theorem Srch.start (hn : n ∈ ns) : Srch ns nd n [] [[n]] none where
  wy := fun w hw => by
    rw [List.mem_singleton.mp hw]
    exact ⟨.one, fun x hx => by rw [List.mem_singleton.mp hx]; exact ⟨hn, .inl rfl⟩⟩
  sd := List.nodup_nil
  ss := fun _ z => nomatch z
  nn := fun z => nomatch z
  cw := fun _ _ z => nomatch z
  dn := fun x hx => .inr (.inl ⟨[n], List.mem_cons_self, by rcases hx with rfl | z; rfl; exact nomatch z⟩)
theorem Srch.stop (h : Srch ns nd n se [] none) : ¬ Rch nd n n := fun r => by
  have dn : ∀ x, x = n ∨ x ∈ se → Dn nd n se x := fun x hx => by
    rcases h.dn x hx with z | ⟨w, hw, _⟩ | ⟨w, p, e, _⟩
    · exact z
    · exact nomatch hw
    · exact nomatch e
  obtain ⟨o, ho, z⟩ := r.fst
  have os : o ∈ se := (dn n (.inl rfl)).2 o ho
  rcases z with rfl | z
  · exact h.nn os
  · exact h.nn (Rch.shut (P := (· ∈ se)) (fun x hx y hy => (dn x (.inr hx)).2 y hy) z os)
theorem Srch.pop {w : List Str} (h : Srch ns nd n se (w :: ws) none) : Srch ns nd n se ws (some (w, [])) where
  wy := fun v hv => h.wy v (List.mem_cons_of_mem _ hv)
  sd := h.sd
  ss := h.ss
  nn := h.nn
  cw := fun v p e => by
    cases e
    exact ⟨h.wy w List.mem_cons_self, fun _ z => nomatch z⟩
  dn := fun x hx => by
    rcases h.dn x hx with z | ⟨v, hv, e⟩ | ⟨v, p, e, _⟩
    · exact .inl z
    · rcases List.mem_cons.mp hv with q | q
      · exact .inr (.inr ⟨w, [], rfl, q ▸ e⟩)
      · exact .inr (.inl ⟨v, q, e⟩)
    · exact nomatch e
theorem Srch.skip {w p : List Str} {o : Str} (h : Srch ns nd n se ws (some (w, p))) (ne : o ≠ n) (hs : o ∈ se) : Srch ns nd n se ws (some (w, p ++ [o])) where
  wy := h.wy
  sd := h.sd
  ss := h.ss
  nn := h.nn
  cw := fun v q e => by
    cases e
    obtain ⟨a, b⟩ := h.cw w p rfl
    refine ⟨a, fun y hy => ?_⟩
    rcases List.mem_append.mp hy with z | z
    · exact b y z
    · rw [List.mem_singleton.mp z]; exact ⟨ne, hs⟩
  dn := fun x hx => by
    rcases h.dn x hx with z | z | ⟨v, q, e, l⟩
    · exact .inl z
    · exact .inr (.inl z)
    · cases e
      exact .inr (.inr ⟨w, _, rfl, l⟩)
theorem Srch.put {w p : List Str} {c o : Str} (h : Srch ns nd n se ws (some (w, p))) (hc : w.getLast? = some c) (ho : o ∈ nd c) (hn : o ∈ ns) (ne : o ≠ n) (hs : o ∉ se) : Srch ns nd n (se ++ [o]) (ws ++ [w ++ [o]]) (some (w, p ++ [o])) where
  wy := fun v hv => by
    rcases List.mem_append.mp hv with z | z
    · obtain ⟨a, b⟩ := h.wy v z
      exact ⟨a, fun x hx => ⟨(b x hx).1, (b x hx).2.imp id fun y => List.mem_append_left _ y⟩⟩
    · rw [List.mem_singleton.mp z]
      obtain ⟨⟨a, b⟩, _⟩ := h.cw w p rfl
      refine ⟨a.snoc hc ho fun y => (b o y).2.elim ne hs, fun x hx => ?_⟩
      rcases List.mem_append.mp hx with y | y
      · exact ⟨(b x y).1, (b x y).2.imp id fun y => List.mem_append_left _ y⟩
      · rw [List.mem_singleton.mp y]; exact ⟨hn, .inr (List.mem_append_right _ List.mem_cons_self)⟩
  sd := by
    rw [List.nodup_append]
    exact ⟨h.sd, by simp, fun a ha b hb e => hs (by rw [← List.mem_singleton.mp hb, ← e]; exact ha)⟩
  ss := fun x hx => by
    rcases List.mem_append.mp hx with z | z
    · exact h.ss x z
    · rw [List.mem_singleton.mp z]; exact hn
  nn := fun z => by
    rcases List.mem_append.mp z with y | y
    · exact h.nn y
    · exact ne (List.mem_singleton.mp y).symm
  cw := fun v q e => by
    cases e
    obtain ⟨⟨a, a'⟩, b⟩ := h.cw w p rfl
    refine ⟨⟨a, fun x hx => ⟨(a' x hx).1, (a' x hx).2.imp id fun y => List.mem_append_left _ y⟩⟩, fun y hy => ?_⟩
    rcases List.mem_append.mp hy with z | z
    · exact ⟨(b y z).1, List.mem_append_left _ (b y z).2⟩
    · rw [List.mem_singleton.mp z]; exact ⟨ne, List.mem_append_right _ List.mem_cons_self⟩
  dn := fun x hx => by
    have go : x = n ∨ x ∈ se → _ := fun hx => h.dn x hx
    by_cases q : x = n ∨ x ∈ se
    · rcases go q with z | ⟨v, hv, e⟩ | ⟨v, q, e, l⟩
      · exact .inl z.mono
      · exact .inr (.inl ⟨v, List.mem_append_left _ hv, e⟩)
      · cases e
        exact .inr (.inr ⟨w, _, rfl, l⟩)
    · rcases hx with e | e
      · exact absurd (.inl e) q
      · rcases List.mem_append.mp e with y | y
        · exact absurd (.inr y) q
        · exact .inr (.inl ⟨w ++ [o], List.mem_append_right _ List.mem_cons_self, by rw [List.mem_singleton.mp y, List.getLast?_append]; rfl⟩)
theorem Srch.back {w : List Str} {c : Str} (h : Srch ns nd n se ws (some (w, nd c))) (hc : w.getLast? = some c) : Srch ns nd n se ws none where
  wy := h.wy
  sd := h.sd
  ss := h.ss
  nn := h.nn
  cw := fun _ _ z => nomatch z
  dn := fun x hx => by
    rcases h.dn x hx with z | z | ⟨v, q, e, l⟩
    · exact .inl z
    · exact .inr (.inl z)
    · cases e
      rw [hc] at l
      obtain ⟨_, b⟩ := h.cw w (nd c) rfl
      rw [← Option.some.inj l]
      exact .inl ⟨fun y => (b n y).1 rfl, fun y hy => (b y hy).2⟩
theorem Srch.len {cur : Option (List Str × List Str)} (h : Srch ns nd n se ws cur) : se.length ≤ ns.length := nodup_le h.sd h.ss
end
end DL
namespace DL
open PySem PySem.Spec PyProof.Rows L2
def uqP (p : (Key → Bool) × Nat) (x : Str) : (Key → Bool) × Nat := (fun j => p.1 j || decide (j = .inr x), if p.1 (.inr x) = true then p.2 else p.2 + 1)
def uqS (ts : List Str) : (Key → Bool) × Nat := ts.foldl uqP (fun _ => false, 0)
theorem uq_snoc (ts : List Str) (x : Str) : uqS (ts ++ [x]) = uqP (uqS ts) x := by unfold uqS; rw [List.foldl_append]; rfl
theorem uq_le : ∀ (ts : List Str) (p : (Key → Bool) × Nat), (ts.foldl uqP p).2 ≤ p.2 + ts.length
  | [], p => Nat.le_refl _
  | x :: r, p => by
    have h := uq_le r (uqP p x)
    have k : (uqP p x).2 ≤ p.2 + 1 := by
      show (if p.1 (.inr x) = true then p.2 else p.2 + 1) ≤ _
      split <;> omega
    rw [List.foldl_cons, List.length_cons]
    omega
theorem uq_len (ts : List Str) : (uqS ts).2 ≤ ts.length := by have := uq_le ts (fun _ => false, 0); simpa [uqS] using this
theorem uq_full : ∀ (ts : List Str) (p : (Key → Bool) × Nat), (ts.foldl uqP p).2 = p.2 + ts.length ↔ ts.Nodup ∧ ∀ x ∈ ts, p.1 (.inr x) = false
  | [], p => by simp
  | x :: r, p => by
    have l := uq_le r (uqP p x)
    rw [List.foldl_cons, List.length_cons, List.nodup_cons]
    cases e : p.1 (.inr x) with
    | true =>
      have k : (uqP p x).2 = p.2 := if_pos e
      rw [k] at l
      constructor
      · intro h; omega
      · intro h
        have := h.2 x List.mem_cons_self
        rw [e] at this
        cases this
    | false =>
      have k : (uqP p x).2 = p.2 + 1 := if_neg (by rw [e]; decide)
      have ih := uq_full r (uqP p x)
      rw [k] at ih
      rw [show p.2 + (r.length + 1) = p.2 + 1 + r.length by omega, ih]
      have pt : ∀ y, (uqP p x).1 (.inr y) = (p.1 (.inr y) || decide ((.inr y : Key) = .inr x)) := fun _ => rfl
      constructor
      · rintro ⟨a, b⟩
        refine ⟨⟨fun z => ?_, a⟩, fun y hy => ?_⟩
        · have := b x z
          rw [pt, decide_eq_true rfl, Bool.or_true] at this
          cases this
        · rcases List.mem_cons.mp hy with z | z
          · rw [z]; exact e
          · have := b y z
            rw [pt, Bool.or_eq_false_iff] at this
            exact this.1
      · rintro ⟨⟨a, b⟩, c⟩
        refine ⟨b, fun y hy => ?_⟩
        rw [pt, c y (List.mem_cons_of_mem _ hy), Bool.false_or]
        exact decide_eq_false fun z => a (Sum.inr.inj z ▸ hy)
theorem uq_all (ts : List Str) : (uqS ts).2 = ts.length ↔ ts.Nodup := by
  have h := uq_full ts (fun _ => false, 0)
  rw [show ((fun _ => false, 0) : (Key → Bool) × Nat).2 + ts.length = ts.length from Nat.zero_add _] at h
  exact h.trans ⟨fun z => z.1, fun z => ⟨z, fun _ _ => rfl⟩⟩
def SeqW (K : PySem.W.Frag) (H : Hp) (a : Addr) (ts : List Str) : Prop := SqL K H a (ts.map V.str) ∨ SqT K H a (ts.map V.str)
theorem SeqW.upd {K : PySem.W.Frag} {H : Hp} {a D : Addr} {ts : List Str} {o : HO} (h : SeqW K H a ts) (hD : H D = none) : SeqW K (upd H D o) a ts := h.imp (sq_mono (same_new hD)) (st_mono (same_new hD))
section
variable {X : Cx} {W : WX} {tg iter : Expr} {scope : Scope} {own : List (Str × Nat)} {pos p cpos : Pos} {te : DTE} {ti : TE} {elt : Expr} {x : Str}
theorem call_lenK : CallR X (.builtin "len") (fun xs H Q => ∃ D S n, xs = [.ref D] ∧ H D = some (SetK X.prog X.w D S n) ∧ n < 2 ^ 62 ∧ Q (.int (n : Nat)) H) := by
  intro pins s σ H xs us Q I r h
  obtain ⟨D, S, n, rfl, e, hn, q⟩ := h
  obtain ⟨u, rfl, rx⟩ := vals1 r
  cases rx
  obtain ⟨o, es, ep, t, ho, hex, hd, _, _, _, hf, hs⟩ := setK_get I e
  exact call_len_set ho hex hd hf (by rw [hs]; omega) ⟨.int (n : Nat), H, I.tok _, ⟨_, by rw [hs]⟩, q⟩
theorem upd_upd {H : Hp} {D : Addr} {o o' : HO} : upd (upd H D o) D o' = upd H D o' := by
  funext b
  by_cases h : b = D
  · rw [h, upd_same, upd_same]
  · rw [upd_ne h, upd_ne h, upd_ne h]
theorem sc_words {K : PySem.W.Frag} {P : Program} {w : World} {i : Nat} {σ : L2.St} {H1 : Hp} {ts : List Str} {Q : VK} {J : It} {vs : List Nat} {G : Hp → Prop} (hi : i ∈ vs) (hl : ts.length < 4000) (hs : i < σ.length) (wk : Walk J ts.length G (YAt (ts.map V.str))) (hG : ∀ D o, H1 D = none → G (upd H1 D o))
    (q : ∀ D o, H1 D = none → (∀ vs, o ≠ .tup vs) → (∃ S, o = SetK P w D S (uqS ts).2) → Q (.ref D) (upd H1 D o)) : ∀ D, H1 D = none →
    ∃ W : Nat → Nat → Hp → Prop, (∃ m, W 0 m (upd H1 D (SetK P w D (fun _ => false) 0))) ∧ ∀ j m Hi, W j m Hi → (J.stop j Hi ∧ Q (.ref D) Hi) ∨
      (J.go j Hi ∧ ∃ Nx : Hp → Prop, (∀ Hn, Nx Hn → ∃ m', m' < m ∧ W (j + 1) m' Hn) ∧ ∀ x Hy, J.yld j Hi x Hy → (TgI.one i).v K x (wipe σ vs) Hy fun σ2 H2 => wipe σ2 vs = wipe σ vs ∧
        tVar i σ2 H2 fun y H4 => ∃ (k : Key) (S : Key → Bool) (n : Nat), y = kV k ∧ H4 D = some (SetK P w D S n) ∧ n + 1 < scanBound ∧ Nx (upd H4 D (SetK P w D (fun j => S j || decide (j = k)) (if S k = true then n else n + 1)))) := by
  intro D hD
  refine ⟨fun j m H => m = ts.length - j ∧ j ≤ ts.length ∧ H = upd H1 D (SetK P w D (uqS (ts.take j)).1 (uqS (ts.take j)).2), ⟨ts.length, rfl, Nat.zero_le _, rfl⟩, ?_⟩
  rintro j m Hi ⟨rfl, hj, rfl⟩
  by_cases hlt : j < ts.length
  · refine .inr ⟨wk.goes j _ hlt (hG D _ hD), fun H => H = upd H1 D (SetK P w D (uqS (ts.take (j + 1))).1 (uqS (ts.take (j + 1))).2), fun Hn e => ⟨ts.length - (j + 1), by omega, rfl, hlt, e⟩, fun x Hy y => ?_⟩
    obtain ⟨e1, e2⟩ := wk.yields j _ x Hy hlt (hG D _ hD) y
    subst e1
    rw [List.getElem?_map, List.getElem?_eq_getElem hlt] at e2
    have e2 : V.str ts[j] = x := Option.some.inj e2
    subst e2
    refine ⟨by rw [wipe_set hi, wipe_wipe], .str ts[j], List.getElem?_set_self (by rw [wipe_length]; exact hs), .inr ts[j], _, _, rfl, upd_same, ?_, ?_⟩
    · have := uq_len (ts.take j)
      rw [List.length_take] at this
      show _ < 4096
      omega
    · show upd (upd H1 D _) D _ = _
      rw [upd_upd, List.take_succ_eq_append_getElem hlt, uq_snoc]
      rfl
  · have e : j = ts.length := by omega
    subst e
    refine .inl ⟨wk.stops _ (hG D _ hD), ?_⟩
    rw [List.take_length]
    exact q D _ hD (fun _ z => nomatch z) ⟨_, rfl⟩
def dLenSc (i : Nat) (te : DTE) : DTE := fun δ M Q E => te δ M (fun d M1 => asS M1 d fun xs _ => ∃ ts : List Str, xs = ts.map D.str ∧ ts.length < 4000 ∧ i < δ.length ∧ Q (.int ((uqS ts).2 : Nat)) M1) E
theorem d_lenSc (i : Nat) (N : List Str) (sc : Scope) (own : List (Str × Nat)) (g : Good X W) (nd : X.N.Nodup) (hm : X.mg "len" = none) (h : DE X W iter te) (ok : blkC N sc scope own = true) (hin : i ∈ own.map (·.2))
    (hg : ∀ (s : Shared) (H : Hp) (C : Addr) (cl : List (Str × Addr)) (fp : List Addr), PG (X.blk s H scope (compEnvC scope cl C X.env) fp) tg ((TgI.one i).v X.K))
    (he : ∀ (s : Shared) (H : Hp) (C : Addr) (cl : List (Str × Addr)) (fp : List Addr), PE (X.blk s H scope (compEnvC scope cl C X.env) fp) elt (tVar i)) (fs : ∀ x, foldedSetIterable iter X.env x = pure x := by intro _; rfl) (hgl : Gl X "len" := by rfl)
    (hst : starEach [.SetComp elt [⟨tg, iter, [], 0⟩] scope cpos] X.env = (false, eval (.SetComp elt [⟨tg, iter, [], 0⟩] scope cpos) X.env) :: starEach [] X.env := by rfl) (hpl : (backTo pos (starEach [] X.env)).any (·.1) = false := by rfl) (eN : X.N = N := by rfl) (es : X.env.scope = sc := by rfl) :
    DE X W (.Call (.Name "len" p) [.SetComp elt [⟨tg, iter, [], 0⟩] scope cpos] [] pos) (dLenSc i te) := by
  refine pe_imp (pe_callB call_lenK hgl hm PySem.boot_len (pa_cons (pe_scK g.calm nd (pi_seq (tg := tg) h) (by rw [eN, es]; exact blkOk_by ok) hg he fs) pa_nil hst) (by decide) (by decide) hst hpl) fun σ H Q h => ?_
  obtain ⟨I, M, F, δ, Qd, Ed, hr, rs, q, fq, fx⟩ := h
  refine ⟨I, M, F, δ, _, Ed, hr, rs, q, fun d M1 I1 H1 v q1 s1 hr1 r1 => ?_, fx⟩
  have hs : ∀ n, n < δ.length → n < σ.length := fun n h => by rw [rs.len]; exact h
  have fin : ∀ (n : Nat) (D : Addr) (o : HO) (S : Key → Bool), H1 D = none → (∀ vs, o ≠ .tup vs) → o = SetK X.prog X.w D S n → n < 4096 → Qd (.int (n : Nat)) M1 → ∃ D' S' n', [V.ref D] = [V.ref D'] ∧ upd H1 D o D' = some (SetK X.prog X.w D' S' n') ∧ n' < 2 ^ 62 ∧ Q (.int (n' : Nat)) (upd H1 D o) := fun n D o S hD nt e hn q2 => by
    obtain ⟨z1, z2⟩ := (hr1.newF hD o nt).frzF (hr1.fresh hD).2.2
    exact ⟨D, S, n, rfl, by rw [upd_same, e], by omega, fq _ M1 _ _ _ q2 (s1.trans z1) z2 (.int _)⟩
  have wl : ∀ {a : Addr} {ts : List Str}, Walk (Itl X.K a) ts.length (fun H => SqL X.K H a (ts.map V.str)) (YAt (ts.map V.str)) := fun {a ts} => by have := walk_list (K := X.K) (a := a) (xs := ts.map V.str); rwa [List.length_map] at this
  have wt : ∀ {a : Addr} {ts : List Str}, Walk (Itt X.K a) ts.length (fun H => SqT X.K H a (ts.map V.str)) (YAt (ts.map V.str)) := fun {a ts} => by have := walk_tup (K := X.K) (a := a) (xs := ts.map V.str); rwa [List.length_map] at this
  cases r1 with
  | @lst a vs ds s rr =>
    obtain ⟨ts, rfl, hl, hi, q2⟩ := q1
    rw [reps_words rr] at s
    have sq : SqL X.K H1 a (ts.map V.str) := SqL.of (hr1.imm _ _ s)
    exact ⟨a, rfl, .inl ⟨⟨_, sq⟩, fun D hD => sc_words (K := X.K) (P := X.prog) (w := X.w) (i := i) (σ := σ) (H1 := H1) (Q := fun y H4 => ∃ D' S' n', [y] = [V.ref D'] ∧ H4 D' = some (SetK X.prog X.w D' S' n') ∧ n' < 2 ^ 62 ∧ Q (.int (n' : Nat)) H4) (vs := own.map (·.2)) hin hl (hs _ hi) (wl (a := a)) (fun D o hD => sq_mono (same_new hD) sq) (fun D o hD nt ⟨S, e⟩ => fin _ D o S hD nt e (by have := uq_len ts; omega) q2) D hD⟩⟩
  | @sq a vs ds s rr =>
    obtain ⟨ts, rfl, hl, hi, q2⟩ := q1
    rw [reps_words rr] at s
    have sq : SqL X.K H1 a (ts.map V.str) := hr1.sq s
    exact ⟨a, rfl, .inl ⟨⟨_, sq⟩, fun D hD => sc_words (K := X.K) (P := X.prog) (w := X.w) (i := i) (σ := σ) (H1 := H1) (Q := fun y H4 => ∃ D' S' n', [y] = [V.ref D'] ∧ H4 D' = some (SetK X.prog X.w D' S' n') ∧ n' < 2 ^ 62 ∧ Q (.int (n' : Nat)) H4) (vs := own.map (·.2)) hin hl (hs _ hi) (wl (a := a)) (fun D o hD => sq_mono (same_new hD) sq) (fun D o hD nt ⟨S, e⟩ => fin _ D o S hD nt e (by have := uq_len ts; omega) q2) D hD⟩⟩
  | ref a =>
    obtain ⟨ds, e1, ts, rfl, hl, hi, q2⟩ := q1
    obtain ⟨vs, e2, rr⟩ := hr1.lst e1
    rw [reps_words rr] at e2
    have sq : SqL X.K H1 a (ts.map V.str) := SqL.of e2
    exact ⟨a, rfl, .inl ⟨⟨_, sq⟩, fun D hD => sc_words (K := X.K) (P := X.prog) (w := X.w) (i := i) (σ := σ) (H1 := H1) (Q := fun y H4 => ∃ D' S' n', [y] = [V.ref D'] ∧ H4 D' = some (SetK X.prog X.w D' S' n') ∧ n' < 2 ^ 62 ∧ Q (.int (n' : Nat)) H4) (vs := own.map (·.2)) hin hl (hs _ hi) (wl (a := a)) (fun D o hD => sq_mono (same_new hD) sq) (fun D o hD nt ⟨S, e⟩ => fin _ D o S hD nt e (by have := uq_len ts; omega) q2) D hD⟩⟩
  | @tup a vs ds s rr =>
    obtain ⟨ts, rfl, hl, hi, q2⟩ := q1
    rw [reps_words rr] at s
    have sq : SqT X.K H1 a (ts.map V.str) := hr1.st s
    exact ⟨a, rfl, .inr ⟨⟨_, sq⟩, fun D hD => sc_words (K := X.K) (P := X.prog) (w := X.w) (i := i) (σ := σ) (H1 := H1) (Q := fun y H4 => ∃ D' S' n', [y] = [V.ref D'] ∧ H4 D' = some (SetK X.prog X.w D' S' n') ∧ n' < 2 ^ 62 ∧ Q (.int (n' : Nat)) H4) (vs := own.map (·.2)) hin hl (hs _ hi) (wt (a := a)) (fun D o hD => st_mono (same_new hD) sq) (fun D o hD nt ⟨S, e⟩ => fin _ D o S hD nt e (by have := uq_len ts; omega) q2) D hD⟩⟩
  | _ => exact q1.elim
end
def dCompI (t1 : TgI) (te : DTE) (src1 : Src) (vs1 : List Nat) (δ : DS) (k : List D → Mp → Prop) : List D → List D → Mp → Prop
  | [], acc, M => src1.ok M (k acc M)
  | x :: r, acc, M => src1.ok M (t1.d x (dwipe δ vs1) fun δ2 => te δ2 M (fun y M2 => acc.length < sizeLine ∧ dCompI t1 te src1 vs1 δ k r (acc ++ [y]) M2) E0d)
def dComp2 (t : TgI) (di1 : DTI) (t1 : TgI) (te : DTE) (src : Src) (vs vs1 : List Nat) (δ : DS) (k : List D → Mp → Prop) : List D → List D → Mp → Prop
  | [], acc, M => src.ok M (k acc M)
  | x :: r, acc, M => src.ok M (t.d x (dwipe δ vs) fun δ2 => di1 δ2 M (fun xs1 src1 M1 => dCompI t1 te src1 vs1 δ2 (fun acc2 M2 => dComp2 t di1 t1 te src vs vs1 δ k r acc2 M2) xs1 acc M1) E0d)
def dLc2 (di : DTI) (t : TgI) (di1 : DTI) (t1 : TgI) (te : DTE) (vs vs1 : List Nat) : DTE := fun δ M Q E => di δ M (fun xs src M1 => dComp2 t di1 t1 te src vs vs1 δ (fun acc M2 => Q (.lst acc) M2) xs [] M1) E
section
variable {X : Cx} {W : WX}
theorem lc2_lift {K : PySem.W.Frag} {t t1 : TgI} {di1 : DTI} {te : DTE} {src : Src} {vs vs1 : List Nat} {δ : DS} {k : List D → Mp → Prop} {xs : List D} {J : It} {I1 F H1 : Hp} {M1 : Mp} {σ : L2.St} {Qd : Addr → Hp → Prop}
    (hin : t.in vs = true) (hin1 : t1.in vs1 = true) (hr1 : HR K I1 M1 F H1) (rs : RepS K I1 σ δ) (wk : DWalk K I1 J xs src) (q : dComp2 t di1 t1 te src vs vs1 δ k xs [] M1)
    (fin : ∀ p I' M' H' accV acc, F p = none → Same I1 I' → HR K I' M' (upd F p (.lst accV)) H' → Reps K I' accV acc → k acc M' → Qd p H') (D : Addr) (hD : H1 D = none) :
    ∃ Wv : Nat → Nat → Hp → Prop, (∃ m, Wv 0 m (upd H1 D (.lst []))) ∧ ∀ i m H, Wv i m H →
      (J.stop i H ∧ Qd D H) ∨ (J.go i H ∧ ∃ Nx : Hp → Prop, (∀ H', Nx H' → ∃ m', m' < m ∧ Wv (i + 1) m' H') ∧ ∀ x H', J.yld i H x H' → t.v K x (wipe σ vs) H' fun σ2 H2 => wipe σ2 vs = wipe σ vs ∧ lT K W0 dYes σ2 H2 fun b H3 =>
        if b = true then lI K W0 di1 σ2 H3 fun J1 H4 => ∃ W1 : Nat → Nat → Hp → Prop, (∃ m, W1 0 m H4) ∧ ∀ j k H, W1 j k H →
          (J1.stop j H ∧ Nx H) ∨ (J1.go j H ∧ ∃ Nx1 : Hp → Prop, (∀ H', Nx1 H' → ∃ k', k' < k ∧ W1 (j + 1) k' H') ∧ ∀ x H', J1.yld j H x H' → t1.v K x (wipe σ2 vs1) H' fun σ3 H5 => wipe σ3 vs1 = wipe σ2 vs1 ∧ lT K W0 dYes σ3 H5 fun b H6 =>
            if b = true then lE K W0 te σ3 H6 fun y H7 => ∃ acc, H7 D = some (.lst acc) ∧ acc.length < sizeLine ∧ Nx1 (upd H7 D (.lst (acc ++ [y]))) else Nx1 H6)
        else Nx H3) := by
  have hF := (hr1.fresh hD).2.2
  refine ⟨fun i m H => m = xs.length - i ∧ i ≤ xs.length ∧ ∃ I' M' accV acc, Same I1 I' ∧ HR K I' M' (upd F D (.lst accV)) H ∧ Reps K I' accV acc ∧ dComp2 t di1 t1 te src vs vs1 δ k (xs.drop i) acc M',
    ⟨xs.length, by simp, Nat.zero_le _, I1, M1, [], [], Same.refl I1, hr1.newF hD _, .nil, q⟩, ?_⟩
  rintro i m H ⟨rfl, hi, I', M', accV, acc, s', hr', ra, q'⟩
  by_cases hlt : i < xs.length
  · right
    rw [List.drop_eq_getElem_cons hlt] at q'
    obtain ⟨ho, q'⟩ := Src.ok_iff q'
    refine ⟨wk.goes i I' M' _ H hlt s' hr' ho, fun H2 => ∃ I2 M2 aV a, Same I1 I2 ∧ HR K I2 M2 (upd F D (.lst aV)) H2 ∧ Reps K I2 aV a ∧ dComp2 t di1 t1 te src vs vs1 δ k (xs.drop (i + 1)) a M2, fun H2 z => ⟨xs.length - (i + 1), by omega, rfl, hlt, z⟩, fun x H2 y => ?_⟩
    obtain ⟨I2, d, s2, hr2, e, r⟩ := wk.yields i x I' M' _ H H2 hlt s' hr' ho y
    rw [List.getElem?_eq_getElem hlt] at e
    cases e
    have s12 := s'.trans s2
    refine TgI.run hin hr2 r (rs.mono s12) q' fun σ2 δ2 rs2 ew q2 => ⟨ew, I2, M', upd F D (.lst accV), δ2, fun b M3 => b = true ∧ M3 = M', E0d, hr2, rs2, ⟨rfl, rfl⟩, fun b M3 I3 H3 q3 s3 hr3 => ?_, fun _ _ _ _ _ _ z => z.elim⟩
    obtain ⟨rfl, rfl⟩ := q3
    refine (if_pos rfl).mpr ⟨I3, M3, upd F D (.lst accV), δ2, _, _, hr3, rs2.mono s3, q2, fun xs1 src1 M4 I4 H4 J1 q4 ho4 s4 hr4 wk1 => ?_, fun _ _ _ _ _ _ z => z.elim⟩
    have sI := (s12.trans s3).trans s4
    have ra4 := ((ra.mono s2).mono s3).mono s4
    have rs4 := (rs2.mono s3).mono s4
    refine ⟨fun j m H => m = xs1.length - j ∧ j ≤ xs1.length ∧ ∃ I5 M5 aV a, Same I4 I5 ∧ HR K I5 M5 (upd F D (.lst aV)) H ∧ Reps K I5 aV a ∧ dCompI t1 te src1 vs1 δ2 (fun acc2 M2 => dComp2 t di1 t1 te src vs vs1 δ k (xs.drop (i + 1)) acc2 M2) (xs1.drop j) a M5,
      ⟨xs1.length, by simp, Nat.zero_le _, I4, M4, accV, acc, Same.refl I4, hr4, ra4, q4⟩, ?_⟩
    rintro j m1 H5 ⟨rfl, hj, I5, M5, aV, a, s5, hr5, ra5, q5⟩
    by_cases hlj : j < xs1.length
    · right
      rw [List.drop_eq_getElem_cons hlj] at q5
      obtain ⟨ho5, q5⟩ := Src.ok_iff q5
      refine ⟨wk1.goes j I5 M5 _ H5 hlj s5 hr5 ho5, fun H6 => ∃ I6 M6 aV a, Same I4 I6 ∧ HR K I6 M6 (upd F D (.lst aV)) H6 ∧ Reps K I6 aV a ∧ dCompI t1 te src1 vs1 δ2 (fun acc2 M2 => dComp2 t di1 t1 te src vs vs1 δ k (xs.drop (i + 1)) acc2 M2) (xs1.drop (j + 1)) a M6, fun H6 z => ⟨xs1.length - (j + 1), by omega, rfl, hlj, z⟩, fun x1 H6 y1 => ?_⟩
      obtain ⟨I6, d1, s6, hr6, e1, r6⟩ := wk1.yields j x1 I5 M5 _ H5 H6 hlj s5 hr5 ho5 y1
      rw [List.getElem?_eq_getElem hlj] at e1
      cases e1
      have s56 := s5.trans s6
      refine TgI.run hin1 hr6 r6 (rs4.mono s56) q5 fun σ3 δ3 rs3 ew3 q6 => ⟨ew3, I6, M5, upd F D (.lst aV), δ3, fun b M3 => b = true ∧ M3 = M5, E0d, hr6, rs3, ⟨rfl, rfl⟩, fun b M7 I7 H7 q7 s7 hr7 => ?_, fun _ _ _ _ _ _ z => z.elim⟩
      obtain ⟨rfl, rfl⟩ := q7
      refine (if_pos rfl).mpr ⟨I7, M7, upd F D (.lst aV), δ3, _, _, hr7, rs3.mono s7, q6, fun y8 M8 I8 H8 v8 q8 s8 hr8 r8 => ?_, fun _ _ _ _ _ _ z => z.elim⟩
      have ra8 := ((ra5.mono s6).mono s7).mono s8
      exact ⟨aV, hr8.atF.1, by rw [ra8.len]; exact q8.1, I8, M8, aV ++ [v8], a ++ [y8], (s56.trans s7).trans s8, hr8.reF (fun _ z => nomatch z) _, ra8.snoc r8, q8.2⟩
    · left
      have e : j = xs1.length := by omega
      subst e
      rw [List.drop_length] at q5
      obtain ⟨ho5, q5⟩ := Src.ok_iff q5
      exact ⟨wk1.stops I5 M5 _ H5 s5 hr5 ho5, I5, M5, aV, a, sI.trans s5, hr5, ra5, q5⟩
  · left
    have e : i = xs.length := by omega
    subst e
    rw [List.drop_length] at q'
    obtain ⟨ho, q'⟩ := Src.ok_iff q'
    exact ⟨wk.stops I' M' _ H s' hr' ho, fin D I' M' H accV acc hF s' hr' ra q'⟩
variable {elt tg iter tg1 iter1 : Expr} {scope : Scope} {pos : Pos} {di di1 : DTI} {t t1 : TgI} {te : DTE}
theorem d_lc2 (N : List Str) (sc : Scope) (own : List (Str × Nat)) (vs1 : List Nat) (g : Good X W) (hN : X.N.Nodup) (hi : DI X W tg iter di) (ok : blkC N sc scope own = true) (hin : t.in (own.map (·.2)) = true) (hin1 : t1.in vs1 = true) (hv : ∀ i ∈ vs1, i ∈ own.map (·.2))
    (hg : ∀ (s : Shared) (H : Hp) (C : Addr) (cl : List (Str × Addr)) (fp : List Addr), Good (X.blk s H scope (compEnvC scope cl C X.env) fp) W0 → PG (X.blk s H scope (compEnvC scope cl C X.env) fp) tg (t.v X.K))
    (hi1 : ∀ (s : Shared) (H : Hp) (C : Addr) (cl : List (Str × Addr)) (fp : List Addr), Good (X.blk s H scope (compEnvC scope cl C X.env) fp) W0 → DI (X.blk s H scope (compEnvC scope cl C X.env) fp) W0 tg1 iter1 di1)
    (hg1 : ∀ (s : Shared) (H : Hp) (C : Addr) (cl : List (Str × Addr)) (fp : List Addr), Good (X.blk s H scope (compEnvC scope cl C X.env) fp) W0 → PG (X.blk s H scope (compEnvC scope cl C X.env) fp) tg1 (t1.v X.K))
    (he : ∀ (s : Shared) (H : Hp) (C : Addr) (cl : List (Str × Addr)) (fp : List Addr), Good (X.blk s H scope (compEnvC scope cl C X.env) fp) W0 → DE (X.blk s H scope (compEnvC scope cl C X.env) fp) W0 elt te) (hs : ∀ x, foldedSetIterable iter X.env x = pure x := by intro _; rfl) (hs1 : ∀ env x, foldedSetIterable iter1 env x = pure x := by intro _ _; rfl) (eN : X.N = N := by rfl) (es : X.env.scope = sc := by rfl) :
    DE X W (.ListComp elt [⟨tg, iter, [], 0⟩, ⟨tg1, iter1, [], 0⟩] scope pos) (dLc2 di t di1 t1 te (own.map (·.2)) vs1) := by
  refine pe_imp (pe_lc2 (own := own) (vs1 := vs1) (g := t.v X.K) (g1 := t1.v X.K) (tt := lT X.K W0 dYes) (tt1 := lT X.K W0 dYes) (wi1 := lI X.K W0 di1) (te := lE X.K W0 te) g.calm hN hi (by rw [eN, es]; exact blkOk_by ok) hv (fun s H C cl fp => hg s H C cl fp (good_blk g ..)) (fun s H C cl fp => ts_nil) (fun s H C cl fp => hi1 s H C cl fp (good_blk g ..)) (fun s H C cl fp => hg1 s H C cl fp (good_blk g ..)) (fun s H C cl fp => ts_nil) (fun s H C cl fp => he s H C cl fp (good_blk g ..)) hs hs1) fun σ H Q h => ?_
  obtain ⟨I, M, F, δ, Qd, Ed, hr, rs, q, fq, fx⟩ := h
  refine ⟨I, M, F, δ, _, Ed, hr, rs, q, fun xs src M1 I1 H1 J q1 ho s1 hr1 wk D hD => ?_, fx⟩
  refine lc2_lift hin hin1 hr1 (rs.mono s1) wk q1 (Qd := fun p H' => Q (.ref p) H') (fun p I' M' H' aV a hF s' hr' ra q' => ?_) D hD
  obtain ⟨z1, z2⟩ := hr'.frzF hF
  exact fq _ M' _ H' _ q' ((s1.trans s').trans z1) z2 (.lst upd_same (ra.mono z1))
end
end DL
namespace PySem
open Sem (wp)
set_option maxHeartbeats 1000000 in
theorem own_enum1 {v : Value} {o : Obj} {H : Heap → Prop} (B : Begins v o H) :
    Meets (Builtin.«enumerate.__new__» ⟨[.type "enumerate", v], []⟩) (fun _ R s => H s.heap ∧
      R (.ok (.ret (.ref (s.heap.push o).objs.size))) { s with heap := (s.heap.push o).push { cls := .type "enumerate", data := .fields #[.none, .bool false, .ref s.heap.objs.size, rawInt 0, .none, .none] } }) :=
  .of_wp fun prog w A R s h => by
    obtain ⟨hp, g, d, tk, os⟩ := s; obtain ⟨h1, h⟩ := h
    have hsub := sub_enumerate
    have q1 : ∀ {A' : Around} {E : Value → Shared → Prop} {Q : Value → Shared → Prop}, Q (.ref hp.objs.size) ⟨hp.push o, g, d, tk, os⟩ → wpAny (model prog w) A' (pyIter v) Q E ⟨hp, g, d, tk, os⟩ :=
      fun q => B.iter prog w _ _ ⟨hp, g, d, tk, os⟩ _ h1 q
    wp_walk using q1
    refine wpAny_stack_any fun st => wpAny_pure ?_
    split
    · rename_i c _ _ _ _ _
      cases (c == Value.type "enumerate")
      · wp_walk using q1
        exact ⟨_, rfl, h⟩
      · wp_walk using q1
        exact ⟨_, rfl, h⟩
    · wp_walk using q1
      exact ⟨_, rfl, h⟩
theorem own_enumB {prog : Program} {w : World} {A : Around} {E : Value → Shared → Prop} {s : Shared} {v : Value} {o : Obj} {H : Heap → Prop} {Q : Value → Shared → Prop} (B : Begins v o H) (h1 : H s.heap)
    (h : ∀ h', IsEnum h' (s.heap.objs.size + 1) s.heap.objs.size 0 .none → h'.get? s.heap.objs.size = some o → h'.objs.size = s.heap.objs.size + 2 →
      (∀ b o, s.heap.get? b = some o → h'.get? b = some o) → Q (.ref (s.heap.objs.size + 1)) { s with heap := h' }) :
    wpAny (model prog w) A (call (.type "enumerate") [v]) Q E s := by
  refine callType_new F.called_enumerate (by decide) (F.typeCall_enumerate_1 _) (F.newCall_enumerate_1 _) (fun obj => F.args_object_init_2 obj _) F.entry_enumerate_new
    (own_enum1 B) ⟨h1, ?_⟩
  have hz : (s.heap.push o).objs.size = s.heap.objs.size + 1 := Heap.size_push ..
  show _ ∧ _
  rw [hz]
  have he : IsEnum ((s.heap.push o).push { cls := .type "enumerate", data := .fields #[.none, .bool false, .ref s.heap.objs.size, rawInt 0, .none, .none] }) (s.heap.objs.size + 1) s.heap.objs.size 0 .none := by
    have := Heap.get?_push_size (s.heap.push o) (o := { cls := .type "enumerate", data := .fields #[.none, .bool false, .ref s.heap.objs.size, rawInt 0, .none, .none] }) rfl
    rw [hz] at this; exact this
  refine ⟨⟨_, he, rfl⟩, h _ he (Heap.get?_push_of_some _ (Heap.get?_push_size _ B.free)) (by rw [Heap.size_push, hz]) fun b o x => Heap.get?_push_of_some _ (Heap.get?_push_of_some _ x)⟩
theorem own_enum_endU {prog : Program} {w : World} {A : Around} {E : Value → Shared → Prop} {s : Shared} {e it t : Addr} {i : Nat} {k : Int} {items : Array Value} {old : Value} {Q : Option Value → Shared → Prop} (hh : A.in1.handled = none)
    (he : IsEnum s.heap e it k old) (hit : s.heap.IsTupleIter it t i) (ht : s.heap.IsTuple t items) (hx : items[i]? = none)
    (hQ : ∀ h', Heap.ExtBut it s.heap h' → Q none { s with heap := h' }) : wpAny (model prog w) A (pyNext (.ref e)) Q E s := by
  have hT : s.TypeIs (.ref e) "enumerate" := ⟨_, he, rfl⟩
  unfold pyNext
  refine wpAny_bind (wpAny_attempt (wpAny_callSpecial?_slot (name := Str.ofString "__next__") hT F.slot_enumerate_next
    (wpAny_call_entry F.slot_enumerate_next hT F.entry_enumerate_next ?_ (F.args_enumerate_next_1 _))))
  show wpAny _ _ (field (.ref e) 2 >>= _) _ _ _
  refine wpAny_bind (wpAny_field he rfl (x := .ref it) rfl ?_)
  refine wpAny_bind (wpAny_nextOf_tuple_end hh hit ht hx fun h' x he' hx' => ?_)
  obtain ⟨o, ho, hc⟩ := hx'
  refine wpAny_bind (wpAny_isInstance (T := "StopIteration") (b := true) ⟨o, ho, hc⟩ isSubtype_stop ?_)
  exact wpAny_pure (hQ _ he')
end PySem
namespace DL
open PySem PySem.Spec PyProof.Rows L2
def ItU (K : PySem.W.Frag) (a : Addr) : It :=
  ⟨fun i H => ∃ (xs : List V) (x : V), SqT K H a xs ∧ xs[i]? = some x, fun i H v H' => ∃ T x, v = .ref T ∧ H T = none ∧ H' = upd H T (.tup [.int (i : Nat), x]) ∧ ∀ xs, SqT K H a xs → xs[i]? = some x, fun i H => ∃ xs : List V, SqT K H a xs ∧ xs.length ≤ i⟩
theorem turn_enumU {P : Program} {w : World} {K : PySem.W.Frag} {elts : List Expr} {kk : Nat} {tpos : Pos} (a e it : Addr) :
    Turn P w K (.Tuple elts kk tpos) (ItU K a) [e, it] e (fun i h => (∃ old, IsEnum h e it ((i : Nat) : Int) old) ∧ h.IsTupleIter it a i ∧ e ≠ it ∧ a ≠ e ∧ a ≠ it) where
  mem := by simp
  obj := fun i h st b hb => by
    obtain ⟨⟨old, he⟩, ⟨o, ho, hc, hd⟩, _⟩ := st
    have e' : b = e ∨ b = it := by simpa using hb
    rcases e' with z | z
    · rw [z]; exact ⟨_, he, fun v q => nomatch q⟩
    · rw [z]; exact ⟨o, ho, fun v q => by rw [hd] at q; cases q⟩
  keep := fun i h h' st k => let ⟨⟨old, he⟩, hi, hne⟩ := st; ⟨⟨old, k e (by simp) _ he⟩, hi.at fun o q => k it (by simp) o q, hne⟩
  item := by
    intro X hP hw hK hc i pins s σ H E I hf st hg
    subst hP hw hK
    obtain ⟨⟨old, he⟩, hit, hne, nae, nai⟩ := st
    obtain ⟨xs, x, hq, hx⟩ := hg
    obtain ⟨its, rv, p, hz⟩ := I.tuple hq
    obtain ⟨u, hu, ru⟩ := rv.get hx
    have hel : e < s.heap.objs.size := Heap.lt_size he
    have hil : it < s.heap.objs.size := by obtain ⟨_, q, _⟩ := hit; exact Heap.lt_size q
    have hil' : i < its.toArray.size := by
      have := (List.getElem?_eq_some_iff.mp hu).1
      simpa using this
    refine wpAny_pyNext_enum_itemD (Draws.tuple (show X.A.in1.handled = none from I.ok.hd hc) it a nai its.toArray) he ⟨hit, p⟩ hil' hne (by simp [hne, Ne.symm nae]) fun y h' tk hy ho hit' hT hsz hk => ?_
    have ey : y = u := by
      have : its[i]? = some y := by simpa using hy
      rw [hu] at this
      exact (Option.some.inj this).symm
    subst ey
    refine ⟨_, rfl, wpAny_letOwnedTupleGo_enum (s := { s with heap := h', toks := tk + 1 }) ho fun h'' he' sb => ?_⟩
    have hT2 : h''.get? s.heap.objs.size = some { cls := .type "tuple", data := .seq #[.int i tk, y] } := (sb.2 _ (Nat.ne_of_gt hel)).trans hT
    have new : ObjOk X.prog X.w (upd H s.heap.objs.size (.tup [.int (i : Nat), x])) h'' s.heap.objs.size (.tup [.int (i : Nat), x]) :=
      ⟨by show 2 ≤ sizeLine; decide, [.int i tk, y], .cons ⟨_, rfl⟩ (.cons ru .nil), ⟨_, hT2, rfl, _, rfl⟩⟩
    have I1 : Inv X pins σ (upd H s.heap.objs.size (.tup [.int (i : Nat), x])) { s with heap := h'', toks := tk + 1 } :=
      I.turnedNew (ch := [e, it]) (fun b ob hb q => (sb.2 b (fun z => hb (by simp [z]))).trans (hk b ob (fun z => hb (by simp [z])) (fun z => hb (by simp [z])) q)) hf (Nat.le_refl _) new
    refine ⟨.ref s.heap.objs.size, _, I1, rfl, ⟨_, x, rfl, I.hok.fresh (Nat.le_refl _), rfl, fun ys hy => by rw [I.tuple_inj hy hq]; exact hx⟩, ⟨⟨y, ?_⟩, hit'.1.at fun o q => (sb.2 it (Ne.symm hne)).trans q, hne, nae, nai⟩, fun b hb => ?_⟩
    · have e1 : ((i + 1 : Nat) : Int) = (i : Int) + 1 := by omega
      rw [e1]; exact he'
    · have hb' : b < s.heap.objs.size := by
        have e' : b = e ∨ b = it := by simpa using hb
        rcases e' with z | z
        · rw [z]; exact hel
        · rw [z]; exact hil
      rw [upd_ne (Nat.ne_of_lt hb')]
      exact (hf b hb).1
  done := by
    intro X hP hw hK hc i pins s σ H E I hf st hg
    subst hP hw hK
    obtain ⟨⟨old, he⟩, hit, hne, nae, nai⟩ := st
    obtain ⟨xs, hq, hx⟩ := hg
    obtain ⟨its, rv, p, hz⟩ := I.tuple hq
    obtain ⟨f0, f1, f2, f3, f4, f5⟩ := hf it (by simp)
    have hl := rv.length
    exact own_enum_endU (show X.A.in1.handled = none from I.ok.hd hc) he hit p (by simp; omega) fun h' eb => ⟨rfl, I.turned (t' := s.toks) (fun b o hb q => eb b o hb q) f0 f1 f3 f4 f5⟩
  self := fun A i s Q E st h => let ⟨⟨_, he⟩, _⟩ := st; wpAny_pyIter_enum he h
def iEnumQ (K : PySem.W.Frag) (ta : TA) : TI := fun σ H R => ta σ H fun vs H1 => ∃ a, vs = [.ref a] ∧ ((∃ xs, SqL K H1 a xs ∧ R (Ite K a) H1) ∨ (∃ xs, SqT K H1 a xs ∧ R (ItU K a) H1))
theorem pi_enumQ {X : Cx} {e : Expr} {ta : TA} {p pos tpos : Pos} {elts : List Expr} {kk : Nat} (hg : Gl X "enumerate") (hm : X.mg "enumerate" = none) (ha : PA X [e] ta) (hs : starEach [e] X.env = [(false, eval e X.env)] := by rfl) :
    L2.PI X (.Tuple elts kk tpos) (.Call (.Name "enumerate" p) [e] [] pos) (iEnumQ X.K ta) := by
  refine ⟨fun pins s σ H R I h => ?_⟩
  refine Call_ (ld_blt I hg hm boot_enumerate (PyProof.Rows.callWith_type1 (thn (ha.run pos pins s σ H _ I h) fun us s1 ⟨vs, H1, I1, r1, q1⟩ => ?_) hs rfl))
  obtain ⟨a, ex, q⟩ := q1
  subst ex
  have fpo : ∀ b ∈ [s1.heap.objs.size + 1, s1.heap.objs.size], FpOk X pins H1 b := fun b hb => by
    have e' : b = s1.heap.objs.size + 1 ∨ b = s1.heap.objs.size := by simpa using hb
    have hle : s1.heap.objs.size ≤ b := by
      rcases e' with z | z
      · rw [z]; exact Nat.le_add_right _ _
      · rw [z]; exact Nat.le_refl _
    exact I1.fpOk hle (I1.hok.fresh hle)
  cases r1 with
  | cons r rr =>
    cases rr
    cases r
    rcases q with ⟨xs, hq, q⟩ | ⟨xs, hq, q⟩
    · obtain ⟨its, rv, p', hz⟩ := I1.list hq
      refine call_enumerate_list p'.isList fun h' he hit hsz hk => wpAny_pyIter_enum he ?_
      have I2 : Inv X pins σ H1 { s1 with heap := h' } := I1.kept (t' := s1.toks) hk
      exact ⟨s1.heap.objs.size + 1, [s1.heap.objs.size + 1, s1.heap.objs.size], _, _, H1, rfl, I2, turn_enum a (s1.heap.objs.size + 1) s1.heap.objs.size, ⟨⟨.none, he⟩, hit, Nat.succ_ne_self _⟩, fpo, q⟩
    · obtain ⟨its, rv, p', hz⟩ := I1.tuple hq
      have p' : s1.heap.IsTuple a its.toArray := p'
      have al : a < s1.heap.objs.size := by obtain ⟨_, z, _⟩ := p'; exact Heap.lt_size z
      refine own_enumB (begins_tuple a its.toArray) p' fun h' he hit hsz hk => wpAny_pyIter_enum he ?_
      have I2 : Inv X pins σ H1 { s1 with heap := h' } := I1.kept (t' := s1.toks) hk
      exact ⟨s1.heap.objs.size + 1, [s1.heap.objs.size + 1, s1.heap.objs.size], _, _, H1, rfl, I2, turn_enumU a (s1.heap.objs.size + 1) s1.heap.objs.size, ⟨⟨.none, he⟩, ⟨_, hit, rfl, rfl⟩, Nat.succ_ne_self _, Nat.ne_of_lt (Nat.lt_succ_of_lt al), Nat.ne_of_lt al⟩, fpo, q⟩
def iEQ (ta : DTA) : DTI := fun δ M R E => ta δ M (fun ds M1 => one ds fun x => asS M1 x fun xs src => R (enumD xs) src M1) E
section
variable {K : PySem.W.Frag} {I : Hp}
theorem dwalk_enumU {a : Addr} {ds : List D} {src : Src} (h : ∀ I' M' F H, Same I I' → HR K I' M' F H → src.holds M' → ∃ vs, SqT K H a vs ∧ Reps K I' vs ds) : DWalk K I (ItU K a) (enumD ds) src := by
  refine ⟨fun i I' M' F H hi s hr ho => ?_, fun I' M' F H s hr ho => ?_, fun i x I' M' F H H' hi s hr ho y => ?_⟩
  · obtain ⟨vs, q1, r1⟩ := h I' M' F H s hr ho
    rw [enum_len] at hi
    obtain ⟨v, hv⟩ := get_of (xs := vs) (i := i) (by rw [r1.len]; omega)
    exact ⟨vs, v, q1, hv⟩
  · obtain ⟨vs, q1, r1⟩ := h I' M' F H s hr ho
    rw [enum_len]
    exact ⟨vs, q1, by rw [r1.len]; omega⟩
  · obtain ⟨vs, q1, r1⟩ := h I' M' F H s hr ho
    obtain ⟨T, v, rfl, hT, rfl, k1⟩ := y
    obtain ⟨d, e3, e4⟩ := r1.get (k1 vs q1)
    have s3 := same_new (o := .tup [.int (i : Nat), v]) (hr.fresh hT).1
    refine ⟨_, .tup [.int (i : Nat), d], s3, hr.newI hT _, ?_, .tup (.inl (.inl upd_same)) (.cons (.int _) (.cons (e4.mono s3) .nil))⟩
    unfold enumD
    rw [List.getElem?_map, List.getElem?_zipIdx, e3]
    simp
end
section
variable {X : Cx} {W : WX} {e : Expr} {ta : DTA} {p pos tpos : Pos} {elts : List Expr} {kk : Nat}
theorem i_enumQ (hm : X.mg "enumerate" = none) (ha : DA X W [e] ta) (hg : Gl X "enumerate" := by rfl) (hs : starEach [e] X.env = [(false, eval e X.env)] := by rfl) :
    DI X W (.Tuple elts kk tpos) (.Call (.Name "enumerate" p) [e] [] pos) (iEQ ta) := pi_imp (pi_enumQ hg hm ha hs) fun σ H R q => by
  obtain ⟨I, M, F, δ, Rd, Ed, hr, rs, q, fq, fx⟩ := q
  refine ⟨I, M, F, δ, _, Ed, hr, rs, q, fun ds M1 I1 H1 vs q1 s1 hr1 r1 => ?_, fx⟩
  obtain ⟨v, d, rfl, rv, q1⟩ := one_out r1 q1
  cases rv with
  | @lst a us xs s rr => exact ⟨a, rfl, .inl ⟨us, SqL.of (hr1.imm _ _ s), fq _ .data M1 I1 H1 _ q1 trivial s1 hr1 (dwalk_enum fun I' M' F' H' s' hr' _ => ⟨us, SqL.of (hr'.imm _ _ (s' _ _ s)), rr.mono s'⟩)⟩⟩
  | @sq a us xs s rr => exact ⟨a, rfl, .inl ⟨us, hr1.sq s, fq _ .data M1 I1 H1 _ q1 trivial s1 hr1 (dwalk_enum fun I' M' F' H' s' hr' _ => ⟨us, hr'.sq (sq_mono s' s), rr.mono s'⟩)⟩⟩
  | ref a =>
    obtain ⟨xs, e1, q1⟩ := q1
    obtain ⟨us, e2, rr⟩ := hr1.lst e1
    exact ⟨a, rfl, .inl ⟨us, SqL.of e2, fq _ (.at a xs) M1 I1 H1 _ q1 e1 s1 hr1 (dwalk_enum fun I' M' F' H' s' hr' ho => by
      obtain ⟨us', e3, r3⟩ := hr'.lst ho
      exact ⟨us', SqL.of e3, r3⟩)⟩⟩
  | @tup a us xs s rr => exact ⟨a, rfl, .inr ⟨us, hr1.st s, fq _ .data M1 I1 H1 _ q1 trivial s1 hr1 (dwalk_enumU fun I' M' F' H' s' hr' _ => ⟨us, hr'.st (st_mono s' s), rr.mono s'⟩)⟩⟩
  | _ => exact False.elim q1
end
section
variable {X : Cx}
def rInQ (K : PySem.W.Frag) (neg : Bool) : R2 := fun x y H Q => ∃ d ds, Dp K H x d ∧ (Dp K H y (.list ds) ∨ Dp K H y (.tuple ds)) ∧ SeqAt.shaped d = true ∧ SeqAt.shaped (.list ds) = true ∧ Q (.bl (if neg = true then !ds.any fun z => PyData.eqv z d else ds.any fun z => PyData.eqv z d)) H
theorem op_inQ {k : Nat} (rm : Room k X.A) : OpR X (compareOp .In) (rInQ X.K false) := by
  have hu : X.A.units + 65 < cLine := by have := rm.un; omega
  intro pins s σ H x y v u Q I rx ry h
  obtain ⟨d, ds, hd, he, sd, se, q⟩ := h
  obtain ⟨as, r1⟩ := Dp.reads I d x v hd rx
  rcases he with he | he
  · obtain ⟨bs, r2⟩ := Dp.reads I (.list ds) y u he ry
    exact SeqAt.in_list_reads r2 r1 (SeqAt.canLay_of_shaped se) (SeqAt.canLay_of_shaped sd) (room_in_shaped sd hu) ⟨.bl _, H, I, rfl, q⟩
  · obtain ⟨bs, r2⟩ := Dp.reads I (.tuple ds) y u he ry
    exact SeqAt.in_tuple_reads r2 r1 (SeqAt.canLay_of_shaped se) (SeqAt.canLay_of_shaped sd) (room_in_shaped sd hu) ⟨.bl _, H, I, rfl, q⟩
def dInQ (g : Bool → Bool) : DR2 := fun x y M Q => ∃ p ps, PyOf M x p ∧ (PyOf M y (.list ps) ∨ PyOf M y (.tuple ps)) ∧ SeqAt.shaped p = true ∧ SeqAt.shaped (.list ps) = true ∧ Q (.bl (g (ps.any fun z => PyData.eqv z p))) M
theorem lr_inQ1 {K : PySem.W.Frag} : LR K (rInQ K false) (dInQ id) := fun I M F H x y dx dy Qd Q hr rx ry q fq => by
  obtain ⟨p, ps, h1, h2, h3, h4, q⟩ := q
  exact ⟨p, ps, dp_of hr p rx h1, h2.imp (dp_of hr _ ry) (dp_of hr _ ry), h3, h4, fq _ M I H _ q (Same.refl I) hr (.bl _)⟩
end
section
variable {X : Cx} {W : WX} {e : Expr} {ta : DTA} {p pos : Pos}
def dLenR : DRC := fun ds M Q => one ds fun x => match x with
  | .ref d => ∃ kvs, (M d = some (.dct kvs) ∨ ∃ od us, M d = some (.dctL od us kvs)) ∧ Q (.int (kvs.length : Nat)) M
  | _ => False
theorem call_lenR : CallR X (.builtin "len") (fun xs H Q => ∃ a kvs, xs = [V.ref a] ∧ Rd H a (.dK kvs) ∧ Q (.int kvs.length) H) := by
  intro pins s σ H xs us Q I r h
  obtain ⟨a, kvs, rfl, ha, q⟩ := h
  obtain ⟨u, rfl, ru⟩ := vals1 r
  cases ru
  exact L2.d_len I ha fun t s' I' => ⟨.int kvs.length, H, I', ⟨t, rfl⟩, q⟩
theorem d_lenR (hm : X.mg "len" = none) (ha : DA X W [e] ta) (he : starEach [e] X.env = (false, eval e X.env) :: starEach [] X.env := by rfl) (hg : Gl X "len" := by rfl) : DE X W (.Call (.Name "len" p) [e] [] pos) (dCB dLenR ta) :=
  d_callB call_lenR (fun I M F H vs ds Qd Q hr rs q fq => by
    obtain ⟨v, d, rfl, r, q⟩ := one_out rs q
    cases r with
    | ref d =>
      obtain ⟨kvs, em, q⟩ := q
      rcases em with em | ⟨od, us, em⟩
      · obtain ⟨_, o, e3, us, rfl, rt⟩ := hr.mu d _ em
        refine ⟨d, us, rfl, .inl e3, ?_⟩
        rw [rt.len]
        exact fq _ M I H _ q (Same.refl I) hr (.int _)
      · obtain ⟨_, o, e3, rfl, rt⟩ := hr.mu d _ em
        refine ⟨d, us, rfl, .inr ⟨od, e3⟩, ?_⟩
        rw [rt.len]
        exact fq _ M I H _ q (Same.refl I) hr (.int _)
    | _ => exact q.elim) hm PySem.boot_len ha hg (he := he)
end
structure FairM (m : Mc) : Prop where
  l1 : 1 ≤ m.rows.length
  l8 : m.rows.length ≤ 8
  row : ∀ r ∈ m.rows, Nm r.nm ∧ (∀ p, r.par = some p → p ∈ m.names) ∧ 0 ≤ r.burn ∧ r.burn ≤ 100 ∧ 0 ≤ r.sip ∧ r.sip ≤ r.burn ∧ 0 ≤ r.wake ∧ r.wake ≤ 5 ∧ 0 ≤ r.fall ∧ r.fall ≤ 5 ∧ 0 ≤ r.rest ∧ r.rest ≤ 9
  dup : m.names.Nodup
  l16 : m.links.length ≤ 16
  ldup : m.links.Nodup
  lnk : ∀ q ∈ m.links, q.1 ∈ m.names ∧ q.2 ∈ m.names ∧ q.1 ≠ q.2
theorem GoodM.fair {m : Mc} (g : GoodM m) : FairM m := ⟨g.l1, g.l8, g.row, g.dup, g.l16, g.ldup, g.lnk⟩
theorem mem_needs {m : Mc} {n o : Str} : o ∈ m.needs n ↔ (m.row n).par = some o ∨ (n, o) ∈ m.links := by
  unfold Mc.needs
  rw [mem_links, Option.mem_toList]
theorem linkAdd_nodup {n : Str} {acc : List Str} {q : Str × Str} (h : acc.Nodup) : (linkAdd n acc q).Nodup := by
  unfold linkAdd
  split
  · rename_i c
    rw [List.nodup_append]
    exact ⟨h, by simp, fun a ha b hb e => c.2 (by rw [← List.mem_singleton.mp hb, ← e]; exact ha)⟩
  · exact h
theorem links_nodup {n : Str} : ∀ {l : List (Str × Str)} {acc : List Str}, acc.Nodup → (l.foldl (linkAdd n) acc).Nodup
  | [], _, h => h
  | q :: t, _, h => links_nodup (l := t) (linkAdd_nodup h)
theorem needs_nodup {m : Mc} {n : Str} : (m.needs n).Nodup := by
  unfold Mc.needs
  refine links_nodup ?_
  cases (m.row n).par with
  | none => exact List.nodup_nil
  | some x => exact List.nodup_cons.mpr ⟨List.not_mem_nil, List.nodup_nil⟩
namespace FairM
variable {m : Mc} (g : FairM m)
include g
theorem ln : m.names.length = m.rows.length := List.length_map _
theorem n8 : m.names.length ≤ 8 := by rw [g.ln]; exact g.l8
theorem n1 : 1 ≤ m.names.length := by rw [g.ln]; exact g.l1
theorem nm {n : Str} (h : n ∈ m.names) : Nm n := by
  obtain ⟨r, hr, e⟩ := List.mem_map.mp h
  rw [← e]
  exact (g.row r hr).1
theorem sub : ∀ n ∈ m.names, ∀ o ∈ m.needs n, o ∈ m.names := fun n hn o ho => by
  obtain ⟨r1, r2⟩ := Mc.row_in hn
  rcases mem_needs.mp ho with z | z
  · exact (g.row _ r1).2.1 o z
  · exact (g.lnk _ z).2.1
theorem nl {n : Str} (hn : n ∈ m.names) : (m.needs n).length ≤ 8 := Nat.le_trans (nodup_le needs_nodup (g.sub n hn)) g.n8
theorem fold {n : Str} (hn : n ∈ m.names) : m.links.foldl lnkPut (m.rows.foldl parPut fun _ => []) n = m.needs n := by
  rw [lnk_fold, par_fold _ _ _ g.dup]
  unfold Mc.needs Mc.row
  obtain ⟨r, hr, e, q⟩ := row_at hn
  rw [q]
  rfl
theorem good (h : NoRing m.names m.needs) : GoodM m := by
  obtain ⟨k, hk⟩ := (rank_of g.dup g.sub h).rk
  refine ⟨g.l1, g.l8, g.row, g.dup, g.l16, g.ldup, g.lnk, k, fun r hr p hp => ?_, fun q hq => ?_⟩
  · exact hk r.nm (List.mem_map.mpr ⟨r, hr, rfl⟩) p (mem_needs.mpr (.inl (by rw [Mc.row_eq g.dup hr]; exact hp)))
  · exact hk q.1 (g.lnk q hq).1 q.2 (mem_needs.mpr (.inr hq))
theorem way_sub {n : Str} {w : List Str} (hn : n ∈ m.names) (h : Way m.needs n w) : ∀ x ∈ w, x ∈ m.names := fun x hx => by
  obtain ⟨i, hi, e⟩ := List.getElem_of_mem hx
  rcases h.rch i x (by rw [List.getElem?_eq_getElem hi, e]) with z | z
  · rw [z]; exact hn
  · exact Rch.shut (P := (· ∈ m.names)) g.sub z hn
theorem way_len {n : Str} {w : List Str} (hn : n ∈ m.names) (h : Way m.needs n w) : w.length ≤ 8 := Nat.le_trans (nodup_le h.dup (g.way_sub hn h)) g.n8
end FairM
theorem GoodM.noRing {m : Mc} (g : GoodM m) : NoRing m.names m.needs := g.ranked.noRing
structure FirstR (m : Mc) (n : Str) (w : List Str) : Prop where
  hn : n ∈ m.names
  fst : ∀ i, m.names[i]? = some n → ∀ (j : Nat) (y : Str), j < i → m.names[j]? = some y → ¬ Rch m.needs y y
  ring : RingAt m.needs n w
theorem FirstR.ng {m : Mc} {n : Str} {w : List Str} (h : FirstR m n w) : ¬ GoodM m := fun g => g.noRing n h.hn h.ring.rch
end DL
namespace DL
open PySem PySem.Spec PyProof.Rows L2
section
variable {X : Cx} {W : WX} {e : Expr} {ta : DTA} {p pos : Pos}
def dListK : DRC := fun ds M Q => one ds fun x => match x with
  | .ref d => ∃ kvs, (M d = some (.dct kvs) ∨ ∃ od us, M d = some (.dctL od us kvs)) ∧ Q (.lst (kvs.map fun kv => kD kv.1)) M
  | _ => False
theorem d_listK (g : Good X W) (hm : X.mg "list" = none) (ha : DA X W [e] ta) (he : starEach [e] X.env = (false, eval e X.env) :: starEach [] X.env := by rfl) (hg : Gl X "list" := by rfl) : DE X W (.Call (.Name "list" p) [e] [] pos) (dCB dListK ta) :=
  d_callTy (call_listD g.calm) (fun I M F H vs ds Qd Q hr rs q fq => by
    obtain ⟨v, d, rfl, r, q⟩ := one_out rs q
    cases r with
    | ref d =>
      obtain ⟨kvs, em, q⟩ := q
      rcases em with em | ⟨od, us, em⟩
      · obtain ⟨_, o, e3, us, rfl, rt⟩ := hr.mu d _ em
        exact ⟨d, us, rfl, .inl e3, fin_lst fq hr rt.vals.2 q⟩
      · obtain ⟨_, o, e3, rfl, rt⟩ := hr.mu d _ em
        exact ⟨d, us, rfl, .inr ⟨od, e3⟩, fin_lst fq hr rt.vals.2 q⟩
    | _ => exact q.elim) hm (by decide +kernel) ha hg (he := he)
end
end DL
namespace K08
open PySem L2 DL
structure Ad where
  xm : Value → List Value → Option Bool
  c_NoNumber : Addr
  c_NoName : Addr
  c_Device : Addr
  c_Ring : Addr
  c_Machine : Addr
  c_WakeError : Addr
  c_StateError : Addr
structure AdOk (A : Ad) : Prop where
  tt : True
  xm_NoName_WakeError_StateError_KeyError : A.xm (.ref A.c_NoName) [.ref A.c_WakeError, .ref A.c_StateError, .type "KeyError"] = some true
  xm_NoName_Ring : A.xm (.ref A.c_NoName) [.ref A.c_Ring] = some false
  xm_NoNumber_WakeError_StateError_KeyError : A.xm (.ref A.c_NoNumber) [.ref A.c_WakeError, .ref A.c_StateError, .type "KeyError"] = some true
  xm_NoNumber_Ring : A.xm (.ref A.c_NoNumber) [.ref A.c_Ring] = some false
  xm_Ring_WakeError_StateError_KeyError : A.xm (.ref A.c_Ring) [.ref A.c_WakeError, .ref A.c_StateError, .type "KeyError"] = some true
  xm_Ring_Ring : A.xm (.ref A.c_Ring) [.ref A.c_Ring] = some true
def cA (A : Ad) : CA := ⟨0, 0, 0, A.c_Machine, A.c_Device⟩
def DvD (A : Ad) (m : Mc) (d : D) : Prop := d = .lst (m.rows.map (devR (cA A))) ∨ d = .tup (m.rows.map (devR (cA A)))
def LkD (m : Mc) (d : D) : Prop := d = .lst (m.links.map DL.prD) ∨ d = .tup (m.links.map DL.prD)
def wtO (m : Mc) : MO := .dct (tab m.names (wantsF m))
def rwL (r : Rw) : MO := .lst [.str r.nm, oStr r.par, .int r.burn, .int r.sip, .int r.wake, .int r.fall, .int r.rest]
structure RowsAt (M : Mp) (ra : Addr) (ps : List Addr) (rs : List Rw) : Prop where
  hd : M ra = some (.lst (ps.map D.ref))
  len : ps.length = rs.length
  at' : ∀ (i : Nat) (p : Addr) (r : Rw), ps[i]? = some p → rs[i]? = some r → M p = some (rwL r)
structure Drawn (rs : List Rw) (os : List Str) : Prop where
  l1 : 1 ≤ rs.length
  l8 : rs.length ≤ 8
  row : ∀ r ∈ rs, Nm r.nm ∧ (∀ p, r.par = some p → p ∈ rs.map (·.nm)) ∧ 0 ≤ r.burn ∧ r.burn ≤ 100 ∧ 0 ≤ r.sip ∧ r.sip ≤ r.burn ∧ 0 ≤ r.wake ∧ r.wake ≤ 5 ∧ 0 ≤ r.fall ∧ r.fall ≤ 5 ∧ 0 ≤ r.rest ∧ r.rest ≤ 9
  dup : (rs.map (·.nm)).Nodup
  od : os.Nodup
  om : ∀ n, n ∈ os ↔ n ∈ rs.map (·.nm)
  up : ∀ r ∈ rs, ∀ p, r.par = some p → os.idxOf p < os.idxOf r.nm
structure Links (os : List Str) (rg : Bool) (ls : List (Str × Str)) : Prop where
  l16 : ls.length ≤ 16
  dup : ls.Nodup
  mem : ∀ q ∈ ls, q.1 ∈ os ∧ q.2 ∈ os ∧ q.1 ≠ q.2
  up : rg = false → ∀ q ∈ ls, os.idxOf q.2 < os.idxOf q.1
def IsOrd (m : Mc) (d : D) : Prop := ∃ ts : List Str, (d = .lst (ts.map D.str) ∨ d = .tup (ts.map D.str)) ∧ ts.length = m.names.length ∧ (∀ t ∈ ts, t ∈ m.names) ∧ ts.Nodup ∧ ∀ (k : Nat) (x : Str), ts[k]? = some x → ∀ o ∈ m.needs x, o ∈ ts.take k
abbrev Th08 (d : D) : Prop := Pe 20 [17, 1] d
def ordW (m : Mc) : List Str := ordN m.names m.needs m.names.length
def sp__law_bag (_ : Ad) : DSp := spBag
def sp__law_cell (_ : Ad) : DSp := spCell
def sp__law_take (_ : Ad) : DSp := spTake
def sp__law_names (_ : Ad) : DSp := spNamesD 14
def sp_is_name (_ : Ad) : DSp := spN
def sp_is_whole (_ : Ad) : DSp := spW
def sp_need_number (A : Ad) : DSp := spNeed A.c_NoNumber
def sp_m_Device_init (A : Ad) : DSp := spDev A.c_Device A.c_NoName A.c_NoNumber
def spPart (A : Ad) (f : Rw → D) : DSp := fun ds M Q _ => ∃ r, ds = [devR (cA A) r] ∧ Q (f r) M
def sp_m_Device_name (A : Ad) : DSp := spPart A fun r => .str r.nm
def sp_m_Device_parent (A : Ad) : DSp := spPart A fun r => oStr r.par
def sp__law_made (A : Ad) : DSp := fun ds M Q _ => ∃ p r, ds = [.ref p] ∧ M p = some (rwL r) ∧ (Nm r.nm ∧ (∀ p, r.par = some p → Nm p) ∧ 0 ≤ r.burn ∧ r.burn ≤ 100 ∧ 0 ≤ r.sip ∧ r.sip ≤ r.burn ∧ 0 ≤ r.wake ∧ r.wake ≤ 5 ∧ 0 ≤ r.fall ∧ r.fall ≤ 5 ∧ 0 ≤ r.rest ∧ r.rest ≤ 9) ∧ Q (devR (cA A) r) M
def sp_need_devices (A : Ad) : DSp := fun ds M Q _ => ∃ m dv, ds = [dv] ∧ FairM m ∧ DvD A m dv ∧ Q .non M
def sp_need_link (_ : Ad) : DSp := fun ds M Q _ => ∃ (m : Mc) (q : Str × Str), ds = [DL.prD q, .lst (m.names.map D.str)] ∧ FairM m ∧ q ∈ m.links ∧ Q .non M
def sp_need_parts (A : Ad) : DSp := fun ds M Q _ => ∃ m dv lv, ds = [dv, lv] ∧ FairM m ∧ DvD A m dv ∧ LkD m lv ∧ Q .non M
def sp_needs_by (A : Ad) : DSp := fun ds M Q _ => ∃ m dv lv, ds = [dv, lv] ∧ FairM m ∧ DvD A m dv ∧ LkD m lv ∧ ∀ w M', M w = none → M' w = some (wtO m) → Ext M M' → Q (.ref w) M'
def sp_needs_of (A : Ad) : DSp := fun ds M Q _ => ∃ m dv lv, ds = [dv, lv] ∧ FairM m ∧ DvD A m dv ∧ LkD m lv ∧ ∀ w M', M w = none → M' w = some (wtO m) → Ext M M' → Q (.ref w) M'
def RingQ (m : Mc) (M : Mp) (k : D → Mp → Prop) : Prop := ∀ n w p M', FirstR m n w → M p = none → M' p = some (.lst (w.map D.str)) → Ext M M' → k (.ref p) M'
def OrdQ (m : Mc) (M : Mp) (k : D → Mp → Prop) : Prop := GoodM m → ∀ p M', M p = none → M' p = some (.lst (m.order.map D.str)) → Ext M M' → k (.ref p) M'
def sp_first_ring (_ : Ad) : DSp := fun ds M Q _ => ∃ m w, ds = [.ref w] ∧ FairM m ∧ M w = some (wtO m) ∧ (GoodM m → ∀ M', Ext M M' → Q .non M') ∧ RingQ m M Q
def sp_order_by (_ : Ad) : DSp := fun ds M Q _ => ∃ m w, ds = [.ref w] ∧ GoodM m ∧ M w = some (wtO m) ∧ ∀ p M', M p = none → M' p = some (.lst (m.order.map D.str)) → Ext M M' → Q (.ref p) M'
def sp_order_of (A : Ad) : DSp := fun ds M Q E => ∃ m dv lv, ds = [dv, lv] ∧ FairM m ∧ DvD A m dv ∧ LkD m lv ∧ OrdQ m M Q ∧ RingQ m M fun d => E (.ref A.c_Ring) (some [("found", d)])
def sp_m_Machine_init (A : Ad) : DSp := fun ds M Q E => ∃ m dv lv x, ds = [.ref x, dv, lv] ∧ FairM m ∧ DvD A m dv ∧ LkD m lv ∧ M x = some (.ins A.c_Machine []) ∧
  (GoodM m → ∀ (p : Addr) (fs : List (Str × D)) (M' : Mp), M p = none → p ≠ x → M' p = some (.lst (m.order.map D.str)) → M' x = some (.ins A.c_Machine (("in_order", .ref p) :: fs)) → List.lookup ("order" : Str) ((("in_order" : Str), D.ref p) :: fs) = none → But x M M' → Q .non M') ∧ RingQ m M fun d => E (.ref A.c_Ring) (some [("found", d)])
def sp_m_Machine_order (A : Ad) : DSp := fun ds M Q _ => ∃ (p : Addr) (fs : List (Str × D)) (xs : List D), ds = [.ins A.c_Machine (("in_order", .ref p) :: fs)] ∧ M p = some (.lst xs) ∧ xs.length ≤ 100 ∧ ∀ p' M', M p' = none → M' p' = some (.lst xs) → Ext M M' → Q (.ref p') M'
def sp__law_asked (A : Ad) : DSp := fun ds M Q _ => ∃ m dv lv i, ds = [.int i, dv, lv] ∧ FairM m ∧ DvD A m dv ∧ LkD m lv ∧ OrdQ m M (fun d => Q (.lst [.str "told", d])) ∧ RingQ m M fun d => Q (.lst [.str "ring", d])
def sp__law_needs (_ : Ad) : DSp := fun ds M Q _ => ∃ m ra ps la, ds = [.ref ra, la] ∧ FairM m ∧ RowsAt M ra ps m.rows ∧ (la = .lst (m.links.map DL.prD) ∨ ∃ a, la = .ref a ∧ M a = some (.lst (m.links.map DL.prD))) ∧ ∀ w M', M w = none → M' w = some (wtO m) → Ext M M' → Q (.ref w) M'
def sp__law_order (_ : Ad) : DSp := fun ds M Q _ => ∃ m w, ds = [.ref w] ∧ FairM m ∧ M w = some (wtO m) ∧ ∀ M', Ext M M' → Q (.lst ((ordW m).map D.str)) M'
def sp__law_far (_ : Ad) : DSp := fun ds M Q _ => ∃ m w n od us, ds = [.ref w, .str n] ∧ FairM m ∧ n ∈ m.names ∧ M w = some (.dctL od us (tab m.names (wantsF m))) ∧ ∀ M', Ext M M' → Q (.lst ((farN m.needs (m.needs n) m.names.length).map D.str)) M'
def sp__law_ring_right (_ : Ad) : DSp := fun ds M Q _ => ∃ m w p n way, ds = [.ref w, .ref p] ∧ FairM m ∧ M w = some (wtO m) ∧ M p = some (.lst (way.map D.str)) ∧ FirstR m n way ∧ ∀ M', Ext M M' → Q (.bl true) M'
def sp__law_other_order (_ : Ad) : DSp := fun ds M Q _ => ∃ m b w k, ds = [.ref b, .ref w] ∧ FairM m ∧ Bag M b k ∧ k < 900000 ∧ M w = some (wtO m) ∧ ∀ (xs : List Str) (M' : Mp), (∀ x ∈ xs, x ∈ m.names) → xs.length ≤ 8 → But b M M' → Bag M' b (k + 8) → Q (.lst (xs.map D.str)) M'
def sp__law_forged (_ : Ad) : DSp := fun ds M Q _ => ∃ (m : Mc) (b w : Addr) (k : Nat) (os : List Str), ds = [.ref b, .ref w, .lst (os.map D.str)] ∧ FairM m ∧ Bag M b k ∧ k < 800000 ∧ M w = some (wtO m) ∧ os.length ≤ 8 ∧ (∀ x ∈ os, x ∈ m.names) ∧ ∀ d M', Th08 d → But b M M' → Bag M' b (k + 20) → Q d M'
def sp_are_names (_ : Ad) : DSp := fun ds M Q _ => ∃ m w d, ds = [.ref w, d] ∧ FairM m ∧ M w = some (wtO m) ∧ Th08 d ∧ ∀ b, (b = true ↔ ∃ ts : List Str, (d = .lst (ts.map D.str) ∨ d = .tup (ts.map D.str)) ∧ (∀ t ∈ ts, t ∈ m.names) ∧ ts.Nodup) → Q (.bl b) M
def sp_shows_order (A : Ad) : DSp := fun ds M Q _ => ∃ m dv lv d, ds = [dv, lv, d] ∧ FairM m ∧ DvD A m dv ∧ LkD m lv ∧ Th08 d ∧ ∀ b M', (b = true ↔ IsOrd m d) → Ext M M' → Q (.bl b) M'
def sp__law_is_order (_ : Ad) : DSp := fun ds M Q _ => ∃ m w d, ds = [.ref w, d] ∧ FairM m ∧ M w = some (wtO m) ∧ Th08 d ∧ ∀ b M', (b = true ↔ IsOrd m d) → Ext M M' → Q (.bl b) M'
def sp__law_right (A : Ad) : DSp := fun ds M Q _ => ∃ m b dv lv w k, ds = [.ref b, dv, lv, .ref w] ∧ FairM m ∧ DvD A m dv ∧ LkD m lv ∧ Bag M b k ∧ k < 500000 ∧ M w = some (wtO m) ∧ ∀ M', But b M M' → Bag M' b (k + 300) → Q (.bl true) M'
def sp__law_rows (_ : Ad) : DSp := fun ds M Q _ => ∃ b k, ds = [.ref b, .int 1, .int 8] ∧ Bag M b k ∧ k < 700000 ∧ ∀ rs os ra ps M', Drawn rs os → But b M M' → Bag M' b (k + 200) → M ra = none → ra ≠ b → (∀ p ∈ ps, M p = none ∧ p ≠ b ∧ p ≠ ra) → ps.Nodup → RowsAt M' ra ps rs → Q (.lst [.ref ra, .lst (os.map D.str)]) M'
def sp__law_links (_ : Ad) : DSp := fun ds M Q _ => ∃ (b : Addr) (k : Nat) (os : List Str) (rg : Bool), ds = [.ref b, .lst (os.map D.str), .bl rg] ∧ Bag M b k ∧ k < 700000 ∧ 1 ≤ os.length ∧ os.length ≤ 8 ∧ os.Nodup ∧ (∀ n ∈ os, Nm n) ∧ ∀ (ls : List (Str × Str)) (la : Addr) (M' : Mp), Links os rg ls → But b M M' → Bag M' b (k + 40) → M la = none → la ≠ b → M' la = some (.lst (ls.map DL.prD)) → Q (.ref la) M'
def sp_law (_ : Ad) : DSp := spLaw
theorem len__law_bag (A : Ad) : ∀ ds M Q E, sp__law_bag A ds M Q E → ds.length = 1 := len_spBag
theorem len__law_cell (A : Ad) : ∀ ds M Q E, sp__law_cell A ds M Q E → ds.length = 2 := len_spCell
theorem len__law_take (A : Ad) : ∀ ds M Q E, sp__law_take A ds M Q E → ds.length = 2 := len_spTake
theorem len__law_names (A : Ad) : ∀ ds M Q E, sp__law_names A ds M Q E → ds.length = 2 := len_spNamesD
theorem len__law_rows (A : Ad) : ∀ ds M Q E, sp__law_rows A ds M Q E → ds.length = 3 := by
  intro ds M Q E h
  repeat (first | (obtain ⟨e, _⟩ := h; rw [show ds = _ from e]; rfl) | obtain ⟨_, h⟩ := h)
theorem len__law_links (A : Ad) : ∀ ds M Q E, sp__law_links A ds M Q E → ds.length = 3 := by
  intro ds M Q E h
  repeat (first | (obtain ⟨e, _⟩ := h; rw [show ds = _ from e]; rfl) | obtain ⟨_, h⟩ := h)
theorem len_is_name (A : Ad) : ∀ ds M Q E, sp_is_name A ds M Q E → ds.length = 1 := len_spN
theorem len_is_whole (A : Ad) : ∀ ds M Q E, sp_is_whole A ds M Q E → ds.length = 3 := len_spW
theorem len_need_number (A : Ad) : ∀ ds M Q E, sp_need_number A ds M Q E → ds.length = 2 := len_spNeed
theorem len_m_Device_init (A : Ad) : ∀ ds M Q E, sp_m_Device_init A ds M Q E → ds.length = 8 := len_spDev
theorem len__law_made (A : Ad) : ∀ ds M Q E, sp__law_made A ds M Q E → ds.length = 1 := by
  intro ds M Q E h
  repeat (first | (obtain ⟨e, _⟩ := h; rw [show ds = _ from e]; rfl) | obtain ⟨_, h⟩ := h)
theorem len__law_needs (A : Ad) : ∀ ds M Q E, sp__law_needs A ds M Q E → ds.length = 2 := by
  intro ds M Q E h
  repeat (first | (obtain ⟨e, _⟩ := h; rw [show ds = _ from e]; rfl) | obtain ⟨_, h⟩ := h)
theorem len__law_order (A : Ad) : ∀ ds M Q E, sp__law_order A ds M Q E → ds.length = 1 := by
  intro ds M Q E h
  repeat (first | (obtain ⟨e, _⟩ := h; rw [show ds = _ from e]; rfl) | obtain ⟨_, h⟩ := h)
theorem len_m_Device_name (A : Ad) : ∀ ds M Q E, sp_m_Device_name A ds M Q E → ds.length = 1 := by
  intro ds M Q E h
  repeat (first | (obtain ⟨e, _⟩ := h; rw [show ds = _ from e]; rfl) | obtain ⟨_, h⟩ := h)
theorem len_m_Device_parent (A : Ad) : ∀ ds M Q E, sp_m_Device_parent A ds M Q E → ds.length = 1 := by
  intro ds M Q E h
  repeat (first | (obtain ⟨e, _⟩ := h; rw [show ds = _ from e]; rfl) | obtain ⟨_, h⟩ := h)
theorem len_need_devices (A : Ad) : ∀ ds M Q E, sp_need_devices A ds M Q E → ds.length = 1 := by
  intro ds M Q E h
  repeat (first | (obtain ⟨e, _⟩ := h; rw [show ds = _ from e]; rfl) | obtain ⟨_, h⟩ := h)
theorem len_need_link (A : Ad) : ∀ ds M Q E, sp_need_link A ds M Q E → ds.length = 2 := by
  intro ds M Q E h
  repeat (first | (obtain ⟨e, _⟩ := h; rw [show ds = _ from e]; rfl) | obtain ⟨_, h⟩ := h)
theorem len_need_parts (A : Ad) : ∀ ds M Q E, sp_need_parts A ds M Q E → ds.length = 2 := by
  intro ds M Q E h
  repeat (first | (obtain ⟨e, _⟩ := h; rw [show ds = _ from e]; rfl) | obtain ⟨_, h⟩ := h)
theorem len_needs_by (A : Ad) : ∀ ds M Q E, sp_needs_by A ds M Q E → ds.length = 2 := by
  intro ds M Q E h
  repeat (first | (obtain ⟨e, _⟩ := h; rw [show ds = _ from e]; rfl) | obtain ⟨_, h⟩ := h)
theorem len_needs_of (A : Ad) : ∀ ds M Q E, sp_needs_of A ds M Q E → ds.length = 2 := by
  intro ds M Q E h
  repeat (first | (obtain ⟨e, _⟩ := h; rw [show ds = _ from e]; rfl) | obtain ⟨_, h⟩ := h)
theorem len_first_ring (A : Ad) : ∀ ds M Q E, sp_first_ring A ds M Q E → ds.length = 1 := by
  intro ds M Q E h
  repeat (first | (obtain ⟨e, _⟩ := h; rw [show ds = _ from e]; rfl) | obtain ⟨_, h⟩ := h)
theorem len_order_by (A : Ad) : ∀ ds M Q E, sp_order_by A ds M Q E → ds.length = 1 := by
  intro ds M Q E h
  repeat (first | (obtain ⟨e, _⟩ := h; rw [show ds = _ from e]; rfl) | obtain ⟨_, h⟩ := h)
theorem len_order_of (A : Ad) : ∀ ds M Q E, sp_order_of A ds M Q E → ds.length = 2 := by
  intro ds M Q E h
  repeat (first | (obtain ⟨e, _⟩ := h; rw [show ds = _ from e]; rfl) | obtain ⟨_, h⟩ := h)
theorem len_m_Machine_init (A : Ad) : ∀ ds M Q E, sp_m_Machine_init A ds M Q E → ds.length = 3 := by
  intro ds M Q E h
  repeat (first | (obtain ⟨e, _⟩ := h; rw [show ds = _ from e]; rfl) | obtain ⟨_, h⟩ := h)
theorem len_m_Machine_order (A : Ad) : ∀ ds M Q E, sp_m_Machine_order A ds M Q E → ds.length = 1 := by
  intro ds M Q E h
  repeat (first | (obtain ⟨e, _⟩ := h; rw [show ds = _ from e]; rfl) | obtain ⟨_, h⟩ := h)
theorem len__law_asked (A : Ad) : ∀ ds M Q E, sp__law_asked A ds M Q E → ds.length = 3 := by
  intro ds M Q E h
  repeat (first | (obtain ⟨e, _⟩ := h; rw [show ds = _ from e]; rfl) | obtain ⟨_, h⟩ := h)
theorem len__law_far (A : Ad) : ∀ ds M Q E, sp__law_far A ds M Q E → ds.length = 2 := by
  intro ds M Q E h
  repeat (first | (obtain ⟨e, _⟩ := h; rw [show ds = _ from e]; rfl) | obtain ⟨_, h⟩ := h)
theorem len__law_ring_right (A : Ad) : ∀ ds M Q E, sp__law_ring_right A ds M Q E → ds.length = 2 := by
  intro ds M Q E h
  repeat (first | (obtain ⟨e, _⟩ := h; rw [show ds = _ from e]; rfl) | obtain ⟨_, h⟩ := h)
theorem len__law_other_order (A : Ad) : ∀ ds M Q E, sp__law_other_order A ds M Q E → ds.length = 2 := by
  intro ds M Q E h
  repeat (first | (obtain ⟨e, _⟩ := h; rw [show ds = _ from e]; rfl) | obtain ⟨_, h⟩ := h)
theorem len__law_forged (A : Ad) : ∀ ds M Q E, sp__law_forged A ds M Q E → ds.length = 3 := by
  intro ds M Q E h
  repeat (first | (obtain ⟨e, _⟩ := h; rw [show ds = _ from e]; rfl) | obtain ⟨_, h⟩ := h)
theorem len_are_names (A : Ad) : ∀ ds M Q E, sp_are_names A ds M Q E → ds.length = 2 := by
  intro ds M Q E h
  repeat (first | (obtain ⟨e, _⟩ := h; rw [show ds = _ from e]; rfl) | obtain ⟨_, h⟩ := h)
theorem len_shows_order (A : Ad) : ∀ ds M Q E, sp_shows_order A ds M Q E → ds.length = 3 := by
  intro ds M Q E h
  repeat (first | (obtain ⟨e, _⟩ := h; rw [show ds = _ from e]; rfl) | obtain ⟨_, h⟩ := h)
theorem len__law_is_order (A : Ad) : ∀ ds M Q E, sp__law_is_order A ds M Q E → ds.length = 2 := by
  intro ds M Q E h
  repeat (first | (obtain ⟨e, _⟩ := h; rw [show ds = _ from e]; rfl) | obtain ⟨_, h⟩ := h)
theorem len__law_right (A : Ad) : ∀ ds M Q E, sp__law_right A ds M Q E → ds.length = 4 := by
  intro ds M Q E h
  repeat (first | (obtain ⟨e, _⟩ := h; rw [show ds = _ from e]; rfl) | obtain ⟨_, h⟩ := h)
theorem len_law (A : Ad) : ∀ ds M Q E, spLaw ds M Q E → ds.length = 1 := len_spLaw
def t__law_bag (A : Ad) : DTS :=
  dRet (dLstM (dCn (dCB dMax (dCn (dC (.int 0)) (dCn (dOp dSub (dVar 0) (dOp dPow (dC (.int 10)) (dC (.int 18)))) (dNil)))) (dCn (dOp dMod (dVar 0) (dC (.int 2147483629))) (dCn (dC (.int 0)) (dNil)))))
abbrev N__law_bag : List Str := ["_law_cell_here"]
def t__law_cell (A : Ad) : DTS :=
  dSeq (dIf (dTest (dOp dLt (dVar 1) (dCB dLen (dCn (dVar 0) (dNil))))) (dRet (dOp dIx (dVar 0) (dVar 1))) (dNext))
  (dRet (dOp dAdd2 (dOp dAdd2 (dOp dMul (dC (.int 104729)) (dVar 1)) (dC (.int 71))) (dOp dMod (dCB dSum (dCn (dSlA dSl4 (dVar 0) (oNone) (oSome (dC (.int 1)))) (dNil))) (dC (.int 1000003)))))
abbrev N__law_cell : List Str := ["_law_script", "_law_k"]
def t__law_take (A : Ad) : DTS :=
  dSeq (dIf (dTest (dOp dGt (dOp dIx (dVar 0) (dC (.int 0))) (dC (.int 0)))) (dSeq (dAsg (dOp dMod (dOp dIx (dVar 0) (dC (.int 0))) (dVar 1)) (gdName 2))
  (dSeq (dAsg (dOp dDiv (dOp dIx (dVar 0) (dC (.int 0))) (dVar 1)) (gdSubL (dVar 0) (dC (.int 0))))
  (dRet (dVar 2)))) (dNext))
  (dSeq (dAsg (dOp dAdd2 (dOp dIx (dVar 0) (dC (.int 2))) (dC (.int 1))) (gdSubL (dVar 0) (dC (.int 2))))
  (dSeq (dAsg (dOp dMod (dOp dPow (dOp dAdd2 (dOp dAdd2 (dOp dIx (dVar 0) (dC (.int 1))) (dOp dMul (dC (.int 7919)) (dOp dIx (dVar 0) (dC (.int 2))))) (dC (.int 8))) (dC (.int 5))) (dC (.int 2147483647))) (gdName 3))
  (dSeq (dAsg (dOp dMod (dOp dPow (dOp dAdd2 (dVar 3) (dOp dMul (dC (.int 15485863)) (dOp dIx (dVar 0) (dC (.int 2))))) (dC (.int 3))) (dC (.int 2147483587))) (gdName 3))
  (dRet (dOp dMod (dOp dDiv (dVar 3) (dC (.int 16))) (dVar 1))))))
abbrev N__law_take : List Str := ["_law_bag_here", "_law_below", "_law_digit", "_law_number"]
def t__law_names (A : Ad) : DTS :=
  dSeq (dAsg (dC (.str "abcdefghijklmnopqrstuvwxyz")) (gdName 2))
  (dSeq (dAsg (dCall (sp__law_take A) (dCn (dVar 0) (dCn (dC (.int 3)) (dNil)))) (gdName 3))
  (dSeq (dAsg (dCall (sp__law_take A) (dCn (dVar 0) (dCn (dC (.int 26)) (dNil)))) (gdName 4))
  (dSeq (dAsg (dOp dIx (dLst (dCn (dC (.int 1)) (dCn (dC (.int 5)) (dCn (dC (.int 7)) (dCn (dC (.int 11)) (dNil)))))) (dCall (sp__law_take A) (dCn (dVar 0) (dCn (dC (.int 4)) (dNil))))) (gdName 5))
  (dSeq (dAsg (dJoin (dC (.str "")) (dLc (iR1 (dCn (dC (.int 7)) (dNil))) (.one 10) dYes (dOp dIx (dVar 2) (dCall (sp__law_take A) (dCn (dVar 0) (dCn (dC (.int 26)) (dNil))))) [10])) (gdName 6))
  (dSeq (dAsg (dCall (sp__law_take A) (dCn (dVar 0) (dCn (dC (.int 8)) (dNil)))) (gdName 7))
  (dSeq (dIf (dTest (dOp dEq (dVar 3) (dC (.int 0)))) (dRet (dLc (iR1 (dCn (dVar 1) (dNil))) (.one 10) dYes (dOp dAdd2 (dOp dIx (dVar 2) (dVar 4)) (dSlA dSl4 (dVar 6) (oNone) (oSome (dOp dMod (dOp dAdd2 (dVar 7) (dOp dMul (dC (.int 3)) (dVar 10))) (dC (.int 8)))))) [10])) (dNext))
  (dSeq (dAsg (dSlA dSl4 (dVar 6) (oNone) (oSome (dCall (sp__law_take A) (dCn (dVar 0) (dCn (dC (.int 8)) (dNil)))))) (gdName 6))
  (dSeq (dAsg (dTup (dCn (dSlA dSl4 (dVar 6) (oNone) (oSome (dVar 7))) (dCn (dSlA dSl4 (dVar 6) (oSome (dVar 7)) (oNone)) (dNil)))) (gdTup 2 (gdNames [8, 9])))
  (dRet (dLc (iR1 (dCn (dVar 1) (dNil))) (.one 10) dYes (dOp dAdd2 (dOp dAdd2 (dVar 8) (dOp dIx (dVar 2) (dOp dMod (dOp dAdd2 (dVar 4) (dOp dMul (dVar 5) (dVar 10))) (dC (.int 26))))) (dVar 9)) [10]))))))))))
abbrev N__law_names : List Str := ["_law_bag_here", "_law_size", "_law_letters", "_law_way", "_law_first", "_law_step", "_law_stem", "_law_at", "_law_head", "_law_tail", "_law_k"]
def k1__law_rows (A : Ad) : DTS :=
  dDrop (dAppend (dVar 7) (dOp dAddM (dLst (dCn (dVar 8) (dCn (dVar 10) (dNil)))) (dVar 12)))
def k2__law_rows (A : Ad) : DTS :=
  dSeq (dAsg (dOp dAdd2 (dVar 12) (dLst (dCn (dCall (sp__law_take A) (dCn (dVar 0) (dCn (dC (.int 6)) (dNil)))) (dCn (dCall (sp__law_take A) (dCn (dVar 0) (dCn (dC (.int 6)) (dNil)))) (dCn (dCall (sp__law_take A) (dCn (dVar 0) (dCn (dC (.int 10)) (dNil)))) (dNil)))))) (gdName 12))
  (k1__law_rows A)
def k3__law_rows (A : Ad) : DTS :=
  dSeq (dAsg (dLst (dCn (dVar 11) (dCn (dOp dIx (dLst (dCn (dC (.int 0)) (dCn (dVar 11) (dCn (dCall (sp__law_take A) (dCn (dVar 0) (dCn (dOp dAdd2 (dVar 11) (dC (.int 1))) (dNil)))) (dNil))))) (dCall (sp__law_take A) (dCn (dVar 0) (dCn (dC (.int 3)) (dNil))))) (dNil)))) (gdName 12))
  (k2__law_rows A)
def k4__law_rows (A : Ad) : DTS :=
  dSeq (dAsg (dOp dIx (dLst (dCn (dC (.int 0)) (dCn (dC (.int 100)) (dCn (dCall (sp__law_take A) (dCn (dVar 0) (dCn (dC (.int 101)) (dNil)))) (dCn (dOp dAdd2 (dC (.int 1)) (dCall (sp__law_take A) (dCn (dVar 0) (dCn (dC (.int 9)) (dNil))))) (dNil)))))) (dCall (sp__law_take A) (dCn (dVar 0) (dCn (dC (.int 4)) (dNil))))) (gdName 11))
  (k3__law_rows A)
def k5__law_rows (A : Ad) : DTS :=
  dSeq (dIf (dAnd (dTest (dOp (dE0 not) (dVar 9) (dLst (dNil)))) (dTest (dOp dGt (dCall (sp__law_take A) (dCn (dVar 0) (dCn (dC (.int 3)) (dNil)))) (dC (.int 0))))) (dAsg (dOp dIx (dVar 9) (dCall (sp__law_take A) (dCn (dVar 0) (dCn (dCB dLen (dCn (dVar 9) (dNil))) (dNil))))) (gdName 10)) (dNext))
  (k4__law_rows A)
def k6__law_rows (A : Ad) : DTS :=
  dSeq (dAsg (dC .non) (gdName 10))
  (k5__law_rows A)
def b1__law_rows (A : Ad) : DTS :=
  dSeq (dAsg (dSlA dSl4 (dVar 6) (oNone) (oSome (dIdxL (dVar 6) (dVar 8)))) (gdName 9))
  (k6__law_rows A)
def k7__law_rows (A : Ad) : DTS :=
  dRet (dLst (dCn (dVar 7) (dCn (dVar 6) (dNil))))
def k8__law_rows (A : Ad) : DTS :=
  dSeq (dFor (iL (dVar 4)) (gdName 8) (b1__law_rows A))
  (k7__law_rows A)
def k9__law_rows (A : Ad) : DTS :=
  dSeq (dAsg (dLstM (dNil)) (gdName 7))
  (k8__law_rows A)
def k10__law_rows (A : Ad) : DTS :=
  dSeq (dAsg (dLc (iR1 (dCn (dVar 3) (dNil))) (.one 13) dYes (dML opPopAt (dVar 5) (dCn (dCall (sp__law_take A) (dCn (dVar 0) (dCn (dCB dLen (dCn (dVar 5) (dNil))) (dNil)))) (dNil))) [13]) (gdName 6))
  (k9__law_rows A)
def k11__law_rows (A : Ad) : DTS :=
  dSeq (dAsg (dCB dListM (dCn (dVar 4) (dNil))) (gdName 5))
  (k10__law_rows A)
def k12__law_rows (A : Ad) : DTS :=
  dSeq (dAsg (dCall (sp__law_names A) (dCn (dVar 0) (dCn (dVar 3) (dNil)))) (gdName 4))
  (k11__law_rows A)
def t__law_rows (A : Ad) : DTS :=
  dSeq (dAsg (dOp dAdd2 (dVar 1) (dCall (sp__law_take A) (dCn (dVar 0) (dCn (dOp dAdd2 (dOp dSub (dVar 2) (dVar 1)) (dC (.int 1))) (dNil))))) (gdName 3))
  (k12__law_rows A)
abbrev N__law_rows : List Str := ["_law_bag_here", "_law_least", "_law_most", "_law_size", "_law_names_here", "_law_left", "_law_order_here", "_law_found", "_law_name", "_law_up", "_law_above", "_law_cost", "_law_numbers", "_law_k"]
def b1__law_links (A : Ad) : DTS :=
  dSeq (dAsg (dCall (sp__law_take A) (dCn (dVar 0) (dCn (dCB dLen (dCn (dVar 1) (dNil))) (dNil)))) (gdName 5))
  (dSeq (dAsg (dCall (sp__law_take A) (dCn (dVar 0) (dCn (dCB dLen (dCn (dVar 1) (dNil))) (dNil)))) (gdName 6))
  (dSeq (dIf (dAnd (dNot (dTruth (dVar 2))) (dTest (dOp dLt (dVar 5) (dVar 6)))) (dPar2 5 6 (dCn (dVar 6) (dCn (dVar 5) (dNil)))) (dNext))
  (dSeq (dAsg (dTup (dCn (dOp dIx (dVar 1) (dVar 5)) (dCn (dOp dIx (dVar 1) (dVar 6)) (dNil)))) (gdName 7))
  (dIf (dAnd (dTest (dOp dNe (dVar 5) (dVar 6))) (dTest (dOp (dInD not) (dVar 7) (dVar 3)))) (dDrop (dAppend (dVar 3) (dVar 7))) (dNext)))))
def t__law_links (A : Ad) : DTS :=
  dSeq (dAsg (dLstM (dNil)) (gdName 3))
  (dSeq (dFor (iR1 (dCn (dOp dIx (dLst (dCn (dCall (sp__law_take A) (dCn (dVar 0) (dCn (dC (.int 17)) (dNil)))) (dCn (dCall (sp__law_take A) (dCn (dVar 0) (dCn (dC (.int 4)) (dNil)))) (dCn (dC (.int 16)) (dNil))))) (dCall (sp__law_take A) (dCn (dVar 0) (dCn (dC (.int 3)) (dNil))))) (dNil))) (gdName 4) (b1__law_links A))
  (dRet (dVar 3)))
abbrev N__law_links : List Str := ["_law_bag_here", "_law_order_here", "_law_rings", "_law_found", "_law_turn", "_law_one", "_law_other", "_law_pair"]
def t_is_name (A : Ad) : DTS :=
  dRet (dAndV (dIsi .str (dVar 0)) (dAndV (dChain dLe dLe (dC (.int 1)) (dCB dLen (dCn (dVar 0) (dNil))) (dC (.int 8))) (dCB dAll (dCn (dLc (iS (dVar 0)) (.one 1) dYes (dOp dInS (dVar 1) (dC (.str "abcdefghijklmnopqrstuvwxyz"))) [1]) (dNil)))))
abbrev N_is_name : List Str := ["thing", "sign"]
def t_is_whole (A : Ad) : DTS :=
  dRet (dAndV (dIsi .int (dVar 0)) (dAndV (dNotV (dIsi .bl (dVar 0))) (dChain dLe dLe (dVar 1) (dVar 0) (dVar 2))))
abbrev N_is_whole : List Str := ["thing", "low", "high"]
def t_need_number (A : Ad) : DTS :=
  dIf (dNot (dTruth (dCall (sp_is_whole A) (dCn (dVar 0) (dCn (dC (.int 0)) (dCn (dVar 1) (dNil))))))) (dRaise A.c_NoNumber "found" (dVar 0)) (dNext)
abbrev N_need_number : List Str := ["thing", "high"]
def pg_m_Device_init_0 : List D → List D → List D := fun ds es => match ds, es with
  | [a0, a1], [b0, b1, b2, b3, b4, b5] => [a0, a1, b0, b1, b2, b3, b4, b5]
  | _, _ => []
def t_m_Device_init (A : Ad) : DTS :=
  dSeq (dIf (dNot (dTruth (dCall (sp_is_name A) (dCn (dVar 1) (dNil))))) (dRaise A.c_NoName "found" (dVar 1)) (dNext))
  (dSeq (dIf (dAnd (dTest (dOp dIsNot (dVar 2) (dC .non))) (dNot (dTruth (dCall (sp_is_name A) (dCn (dVar 2) (dNil)))))) (dRaise A.c_NoName "found" (dVar 2)) (dNext))
  (dSeq (dDrop (dCall (sp_need_number A) (dCn (dVar 3) (dCn (dC (.int 100)) (dNil)))))
  (dSeq (dDrop (dCall (sp_need_number A) (dCn (dVar 4) (dCn (dVar 3) (dNil)))))
  (dSeq (dDrop (dCall (sp_need_number A) (dCn (dVar 5) (dCn (dC (.int 5)) (dNil)))))
  (dSeq (dDrop (dCall (sp_need_number A) (dCn (dVar 6) (dCn (dC (.int 5)) (dNil)))))
  (dSeq (dDrop (dCall (sp_need_number A) (dCn (dVar 7) (dCn (dC (.int 9)) (dNil)))))
  (dSetF [A.c_Device] "whole" (dVar 0) (dTup (dCn (dVar 1) (dCn (dVar 2) (dCn (dVar 3) (dCn (dVar 4) (dCn (dVar 5) (dCn (dVar 6) (dCn (dVar 7) (dNil))))))))))))))))
abbrev N_m_Device_init : List Str := ["self", "name", "parent", "burn", "sip", "wake", "fall", "rest"]
def t__law_made (A : Ad) : DTS :=
  dRet (dMakeF A.c_Device 2 6 (sp_m_Device_init A) pg_m_Device_init_0 (dCn (dOp dIx (dVar 0) (dC (.int 0))) (dNil)) (dCn (dOp dIx (dVar 0) (dC (.int 1))) (dCn (dOp dIx (dVar 0) (dC (.int 2))) (dCn (dOp dIx (dVar 0) (dC (.int 3))) (dCn (dOp dIx (dVar 0) (dC (.int 4))) (dCn (dOp dIx (dVar 0) (dC (.int 5))) (dCn (dOp dIx (dVar 0) (dC (.int 6))) (dNil))))))))
abbrev N__law_made : List Str := ["_law_row"]
def b2__law_needs (A : Ad) : DTS :=
  dIf (dAnd (dTest (dOp dEq (dVar 5) (dOp dIx (dVar 3) (dC (.int 0))))) (dTest (dOp (dInW not) (dVar 6) (dVar 4)))) (dDrop (dAppend (dVar 4) (dVar 6))) (dNext)
def b1__law_needs (A : Ad) : DTS :=
  dSeq (dAsg (dOp dMulM (dLst (dCn (dOp dIx (dVar 3) (dC (.int 1))) (dNil))) (dCB dIntB (dCn (dOp dIsNot (dOp dIx (dVar 3) (dC (.int 1))) (dC .non)) (dNil)))) (gdName 4))
  (dSeq (dFor (iL (dVar 1)) (gdTup 2 (gdNames [5, 6])) (b2__law_needs A))
  (dAsg (dVar 4) (gdSubD (dVar 2) (dOp dIx (dVar 3) (dC (.int 0))))))
def t__law_needs (A : Ad) : DTS :=
  dSeq (dAsg (dDict0M) (gdName 2))
  (dSeq (dFor (iL (dVar 0)) (gdName 3) (b1__law_needs A))
  (dRet (dFrzD (dVar 2))))
abbrev N__law_needs : List Str := ["_law_rows_here", "_law_links_here", "_law_found", "_law_row", "_law_some", "_law_user", "_law_supplier"]
def b1__law_order (A : Ad) : DTS :=
  dSeq (dLockK (dAsg (dLc (iKy (dVar 0)) (.one 4) (dAnd (dTest (dOp (dInW not) (dVar 4) (dVar 1))) (dTest (dOp (dE0 id) (dLc (iL (dOp dGetK (dVar 0) (dVar 4))) (.one 5) (dTest (dOp (dInW not) (dVar 5) (dVar 1))) (dVar 5) [5]) (dLst (dNil))))) (dVar 4) [4]) (gdName 3)))
  (dDrop (dExtend (dVar 1) (dSlA dSl4 (dVar 3) (oNone) (oSome (dC (.int 1))))))
def t__law_order (A : Ad) : DTS :=
  dSeq (dAsg (dLstM (dNil)) (gdName 1))
  (dSeq (dFor (iR1 (dCn (dCB dLen (dCn (dVar 0) (dNil))) (dNil))) (gdName 2) (b1__law_order A))
  (dRet (dFrzE (dVar 1))))
abbrev N__law_order : List Str := ["_law_needs_here", "_law_found", "_law_turn", "_law_ripe", "_law_name", "_law_one"]
def t_m_Device_name (A : Ad) : DTS :=
  dRet (dOp dIx (dFld [A.c_Device] "whole" (dVar 0)) (dC (.int 0)))
abbrev N_m_Device_name : List Str := ["self"]
def t_m_Device_parent (A : Ad) : DTS :=
  dRet (dOp dIx (dFld [A.c_Device] "whole" (dVar 0)) (dC (.int 1)))
abbrev N_m_Device_parent : List Str := ["self"]
def b1_need_devices (A : Ad) : DTS :=
  dIf (dTest (dOp (dInW id) (dVar 3) (dSlA dSl4 (dVar 1) (oNone) (oSome (dVar 2))))) (dNever) (dNext)
def b2_need_devices (A : Ad) : DTS :=
  dIf (dAnd (dTest (dOp dIsNot (dMeth "parent" 1 0 [(A.c_Device, sp_m_Device_parent A, plG)] (dVar 4) (dNil) (dNil)) (dC .non))) (dTest (dOp (dInW not) (dMeth "parent" 1 0 [(A.c_Device, sp_m_Device_parent A, plG)] (dVar 4) (dNil) (dNil)) (dVar 1)))) (dNever) (dNext)
def t_need_devices (A : Ad) : DTS :=
  dSeq (dIf (dOr (dNot (dTruth (dIsi2 .lst .tup (dVar 0)))) (dNot (dTest (dChain dLe dLe (dC (.int 1)) (dCB dLen (dCn (dVar 0) (dNil))) (dC (.int 8)))))) (dNever) (dNext))
  (dSeq (dIf (dNot (dTruth (dCB dAll (dCn (dLc (iQ (dVar 0)) (.one 4) dYes (dIsiC A.c_Device (dVar 4)) [4]) (dNil))))) (dNever) (dNext))
  (dSeq (dAsg (dLc (iQ (dVar 0)) (.one 4) dYes (dMeth "name" 1 0 [(A.c_Device, sp_m_Device_name A, plG)] (dVar 4) (dNil) (dNil)) [4]) (gdName 1))
  (dSeq (dFor (iE (dCn (dVar 1) (dNil))) (gdTup 2 (gdNames [2, 3])) (b1_need_devices A))
  (dFor (iQ (dVar 0)) (gdName 4) (b2_need_devices A)))))
abbrev N_need_devices : List Str := ["devices", "names", "at", "name", "device"]
def b1_need_link (A : Ad) : DTS :=
  dIf (dTest (dOp (dInW not) (dVar 2) (dVar 1))) (dNever) (dNext)
def t_need_link (A : Ad) : DTS :=
  dSeq (dIf (dOr (dNot (dTruth (dIsi .tup (dVar 0)))) (dOr (dTest (dOp dNe (dCB dLen (dCn (dVar 0) (dNil))) (dC (.int 2)))) (dNot (dTruth (dCB dAll (dCn (dLc (iT (dVar 0)) (.one 2) dYes (dCall (sp_is_name A) (dCn (dVar 2) (dNil))) [2]) (dNil))))))) (dNever) (dNext))
  (dSeq (dIf (dTest (dOp dEq (dOp dIx (dVar 0) (dC (.int 0))) (dOp dIx (dVar 0) (dC (.int 1))))) (dNever) (dNext))
  (dFor (iT (dVar 0)) (gdName 2) (b1_need_link A)))
abbrev N_need_link : List Str := ["link", "names", "name"]
def b1_need_parts (A : Ad) : DTS :=
  dSeq (dDrop (dCall (sp_need_link A) (dCn (dVar 4) (dCn (dVar 2) (dNil)))))
  (dIf (dTest (dOp (dInQ id) (dVar 4) (dSlA dSl4 (dVar 1) (oNone) (oSome (dVar 3))))) (dNever) (dNext))
def t_need_parts (A : Ad) : DTS :=
  dSeq (dDrop (dCall (sp_need_devices A) (dCn (dVar 0) (dNil))))
  (dSeq (dIf (dOr (dNot (dTruth (dIsi2 .lst .tup (dVar 1)))) (dTest (dOp dGt (dCB dLen (dCn (dVar 1) (dNil))) (dC (.int 16))))) (dNever) (dNext))
  (dSeq (dAsg (dLc (iQ (dVar 0)) (.one 5) dYes (dMeth "name" 1 0 [(A.c_Device, sp_m_Device_name A, plG)] (dVar 5) (dNil) (dNil)) [5]) (gdName 2))
  (dFor (iEQ (dCn (dVar 1) (dNil))) (gdTup 2 (gdNames [3, 4])) (b1_need_parts A))))
abbrev N_need_parts : List Str := ["devices", "links", "names", "at", "link", "device"]
def b1_needs_by (A : Ad) : DTS :=
  dIf (dTest (dOp dIsNot (dMeth "parent" 1 0 [(A.c_Device, sp_m_Device_parent A, plG)] (dVar 3) (dNil) (dNil)) (dC .non))) (dDrop (dAppend (dOp dGetK (dVar 2) (dMeth "name" 1 0 [(A.c_Device, sp_m_Device_name A, plG)] (dVar 3) (dNil) (dNil))) (dMeth "parent" 1 0 [(A.c_Device, sp_m_Device_parent A, plG)] (dVar 3) (dNil) (dNil)))) (dNext)
def b2_needs_by (A : Ad) : DTS :=
  dIf (dTest (dOp (dInW not) (dVar 5) (dOp dGetK (dVar 2) (dVar 4)))) (dDrop (dAppend (dOp dGetK (dVar 2) (dVar 4)) (dVar 5))) (dNext)
def t_needs_by (A : Ad) : DTS :=
  dSeq (dAsg (dDc (iQ (dVar 0)) (.one 3) (dMeth "name" 1 0 [(A.c_Device, sp_m_Device_name A, plG)] (dVar 3) (dNil) (dNil)) (dLstM (dNil)) [3]) (gdName 2))
  (dSeq (dFor (iQ (dVar 0)) (gdName 3) (b1_needs_by A))
  (dSeq (dFor (iQ (dVar 1)) (gdTup 2 (gdNames [4, 5])) (b2_needs_by A))
  (dRet (dFrzD (dVar 2)))))
abbrev N_needs_by : List Str := ["devices", "links", "found", "device", "user", "supplier"]
def pg_needs_of_0 : List D → List D → List D := fun ds es => match ds, es with
  | [a0, a1], [] => [a0, a1]
  | _, _ => []
def t_needs_of (A : Ad) : DTS :=
  dSeq (dDrop (dCall (sp_need_parts A) (dCn (dVar 0) (dCn (dVar 1) (dNil)))))
  (dRet (dCall (sp_needs_by A) (dCn (dVar 0) (dCn (dVar 1) (dNil)))))
abbrev N_needs_of : List Str := ["devices", "links"]
def b3_first_ring (A : Ad) : DTS :=
  dSeq (dIf (dTest (dOp dEq (dVar 5) (dVar 1))) (dRet (dVar 4)) (dNext))
  (dIf (dTest (dOp (dInK not) (dVar 5) (dVar 2))) (dSeq (dAsg (dC (.bl true)) (gdSubD (dVar 2) (dVar 5)))
  (dDrop (dAppend (dVar 3) (dOp dAddM (dVar 4) (dLst (dCn (dVar 5) (dNil))))))) (dNext))
def b2_first_ring (A : Ad) : DTS :=
  dSeq (dAsg (dVar 3) (gdStarM 2 1 (gdNames [4, 3])))
  (dFor (iL (dOp dGetK (dVar 0) (dOp dIx (dVar 4) (dNeg (dC (.int 1)))))) (gdName 5) (b3_first_ring A))
def b1_first_ring (A : Ad) : DTS :=
  dSeq (dAsg (dDict0M) (gdName 2))
  (dSeq (dAsg (dLstM (dCn (dLstM (dCn (dVar 1) (dNil))) (dNil))) (gdName 3))
  (dWhile (dTest (dOp (dE0 not) (dVar 3) (dLst (dNil)))) (b2_first_ring A)))
def t_first_ring (A : Ad) : DTS :=
  dSeq (dLockK (dFor (iKy (dVar 0)) (gdName 1) (b1_first_ring A)))
  (dRet (dC .non))
abbrev N_first_ring : List Str := ["needs", "name", "seen", "ways", "way", "other"]
def b1_order_by (A : Ad) : DTS :=
  dSeq (dLockK (dAsg (dLc (iKy (dVar 0)) (.one 3) (dAnd (dTest (dOp (dInW not) (dVar 3) (dVar 1))) (dTruth (dCB dAll (dCn (dLc (iL (dOp dGetK (dVar 0) (dVar 3))) (.one 4) dYes (dOp (dInW id) (dVar 4) (dVar 1)) [4]) (dNil))))) (dVar 3) [3]) (gdName 2)))
  (dDrop (dAppend (dVar 1) (dOp dIx (dVar 2) (dC (.int 0)))))
def t_order_by (A : Ad) : DTS :=
  dSeq (dAsg (dLstM (dNil)) (gdName 1))
  (dSeq (dWhile (dTest (dOp dLt (dCB dLen (dCn (dVar 1) (dNil))) (dCB dLen (dCn (dVar 0) (dNil))))) (b1_order_by A))
  (dRet (dVar 1)))
abbrev N_order_by : List Str := ["needs", "found", "ripe", "name", "other"]
def pg_order_of_0 : List D → List D → List D := fun ds es => match ds, es with
  | [a0], [] => [a0, (.tup [])]
  | _, _ => []
def pg_order_of_1 : List D → List D → List D := fun ds es => match ds, es with
  | [a0, a1], [] => [a0, a1]
  | _, _ => []
def t_order_of (A : Ad) : DTS :=
  dSeq (dAsg (dCallK 2 0 (sp_needs_of A) pg_needs_of_0 (dCn (dVar 0) (dCn (dVar 1) (dNil))) (dNil)) (gdName 2))
  (dSeq (dAsg (dCall (sp_first_ring A) (dCn (dVar 2) (dNil))) (gdName 3))
  (dSeq (dIf (dTest (dOp dIsNot (dVar 3) (dC .non))) (dRaise A.c_Ring "found" (dVar 3)) (dNext))
  (dRet (dCall (sp_order_by A) (dCn (dVar 2) (dNil))))))
abbrev N_order_of : List Str := ["devices", "links", "needs", "ring"]
def pg_m_Machine_init_0 : List D → List D → List D := fun ds es => match ds, es with
  | [a0, a1, a2], [] => [a0, a1, a2]
  | _, _ => []
def t_m_Machine_init (A : Ad) : DTS :=
  dSeq (dSetF [A.c_Machine] "in_order" (dVar 0) (dCallK 2 0 (sp_order_of A) pg_order_of_1 (dCn (dVar 1) (dCn (dVar 2) (dNil))) (dNil)))
  (dSeq (dSetF [A.c_Machine] "parts" (dVar 0) (dCB dList (dCn (dVar 1) (dNil))))
  (dSeq (dSetF [A.c_Machine] "pairs" (dVar 0) (dCB dList (dCn (dVar 2) (dNil))))
  (dSetF [A.c_Machine] "wants" (dVar 0) (dCall (sp_needs_by A) (dCn (dVar 1) (dCn (dVar 2) (dNil)))))))
abbrev N_m_Machine_init : List Str := ["self", "devices", "links"]
def t_m_Machine_order (A : Ad) : DTS :=
  dRet (dCB dListM (dCn (dFld [A.c_Machine] "in_order" (dVar 0)) (dNil)))
abbrev N_m_Machine_order : List Str := ["self"]
def b1__law_asked (A : Ad) : DTS :=
  dSeq (dIf (dTest (dOp dEq (dVar 0) (dC (.int 1)))) (dRet (dLst (dCn (dC (.str "told")) (dCn (dMeth "order" 1 0 [(A.c_Machine, sp_m_Machine_order A, plG)] (dMakeF A.c_Machine 3 0 (sp_m_Machine_init A) pg_m_Machine_init_0 (dCn (dVar 1) (dCn (dVar 2) (dNil))) (dNil)) (dNil) (dNil)) (dNil))))) (dNext))
  (dRet (dLst (dCn (dC (.str "told")) (dCn (dCallK 2 0 (sp_order_of A) pg_order_of_1 (dCn (dVar 1) (dCn (dVar 2) (dNil))) (dNil)) (dNil)))))
def t__law_asked (A : Ad) : DTS :=
  dTry A.xm [⟨[.ref A.c_Ring], some 3, fun a cls d => dRet (dLst (dCn (dC (.str "ring")) (dCn (dXF a cls d A.c_Ring "found" (dVar 3)) (dNil))))⟩, ⟨[.ref A.c_WakeError, .ref A.c_StateError, .type "KeyError"], none, fun a cls d => dRet (dLst (dCn (dC (.str "another")) (dCn (dC .non) (dNil))))⟩] (b1__law_asked A)
abbrev N__law_asked : List Str := ["_law_door", "_law_made_here", "_law_links_here", "e"]
def b2__law_far (A : Ad) : DTS :=
  dDrop (dExtend (dVar 2) (dLc (iL (dOp dGetK (dVar 0) (dVar 4))) (.one 5) (dTest (dOp (dInW not) (dVar 5) (dVar 2))) (dVar 5) [5]))
def b1__law_far (A : Ad) : DTS :=
  dFor (iL (dCB dList (dCn (dVar 2) (dNil)))) (gdName 4) (b2__law_far A)
def t__law_far (A : Ad) : DTS :=
  dSeq (dAsg (dCB dListM (dCn (dOp dGetK (dVar 0) (dVar 1)) (dNil))) (gdName 2))
  (dSeq (dFor (iR1 (dCn (dCB dLenR (dCn (dVar 0) (dNil))) (dNil))) (gdName 3) (b1__law_far A))
  (dRet (dFrzE (dVar 2))))
abbrev N__law_far : List Str := ["_law_needs_here", "_law_name", "_law_found", "_law_turn", "_law_other", "_law_more"]
def t__law_ring_right (A : Ad) : DTS :=
  dSeq (dLockK (dAsg (dLc (iKy (dVar 0)) (.one 3) (dTest (dOp (dInW id) (dVar 3) (dCall (sp__law_far A) (dCn (dVar 0) (dCn (dVar 3) (dNil)))))) (dVar 3) [3]) (gdName 2)))
  (dSeq (dIf (dOr (dNot (dTruth (dIsi .lst (dVar 1)))) (dOr (dTest (dOp (dE0 id) (dVar 1) (dLst (dNil)))) (dOr (dTest (dOp (dE0 id) (dVar 2) (dLst (dNil)))) (dTest (dOp dNe (dOp dIx (dVar 1) (dC (.int 0))) (dOp dIx (dVar 2) (dC (.int 0)))))))) (dRet (dC (.bl false))) (dNext))
  (dSeq (dIf (dTest (dOp (dE0 not) (dLc (iR1 (dCn (dCB dLen (dCn (dVar 1) (dNil))) (dNil))) (.one 4) (dTest (dOp (dInW id) (dOp dIx (dVar 1) (dVar 4)) (dSlA dSl4 (dVar 1) (oNone) (oSome (dVar 4))))) (dVar 4) [4]) (dLst (dNil)))) (dRet (dC (.bl false))) (dNext))
  (dRet (dOp (dE0 id) (dLc (iR1 (dCn (dCB dLen (dCn (dVar 1) (dNil))) (dNil))) (.one 4) (dTest (dOp (dInW not) (dOp dIx (dVar 1) (dVar 4)) (dOp dGetK (dVar 0) (dOp dIx (dVar 1) (dOp dSub (dVar 4) (dC (.int 1))))))) (dVar 4) [4]) (dLst (dNil))))))
abbrev N__law_ring_right : List Str := ["_law_needs_here", "_law_ring", "_law_inner", "_law_name", "_law_k"]
def b1__law_other_order (A : Ad) : DTS :=
  dSeq (dLockK (dAsg (dLc (iKy (dVar 1)) (.one 5) (dAnd (dTest (dOp (dInW not) (dVar 5) (dVar 2))) (dTest (dOp (dE0 id) (dLc (iL (dOp dGetK (dVar 1) (dVar 5))) (.one 6) (dTest (dOp (dInW not) (dVar 6) (dVar 2))) (dVar 6) [6]) (dLst (dNil))))) (dVar 5) [5]) (gdName 4)))
  (dIf (dTest (dOp (dE0 not) (dVar 4) (dLst (dNil)))) (dDrop (dAppend (dVar 2) (dOp dIx (dVar 4) (dCall (sp__law_take A) (dCn (dVar 0) (dCn (dCB dLen (dCn (dVar 4) (dNil))) (dNil))))))) (dNext))
def t__law_other_order (A : Ad) : DTS :=
  dSeq (dAsg (dLstM (dNil)) (gdName 2))
  (dSeq (dFor (iR1 (dCn (dCB dLen (dCn (dVar 1) (dNil))) (dNil))) (gdName 3) (b1__law_other_order A))
  (dRet (dFrzE (dVar 2))))
abbrev N__law_other_order : List Str := ["_law_bag_here", "_law_needs_here", "_law_found", "_law_turn", "_law_ripe", "_law_name", "_law_one"]
def k1__law_forged (A : Ad) : DTS :=
  dRet (dFrzE (dVar 7))
def k2__law_forged (A : Ad) : DTS :=
  dSeq (dIf (dTest (dOp dEq (dVar 3) (dC (.int 8)))) (dRet (dFrzE (dOp dIx (dLst (dCn (dC .non) (dCn (dLst (dNil)) (dCn (dC (.str "")) (dCn (dDict0) (dCn (dC (.int 0)) (dCn (dC (.bl true)) (dCn (dVar 4) (dCn (dOp dAdd2 (dVar 7) (dLst (dCn (dOp dIx (dVar 7) (dVar 5)) (dNil)))) (dNil)))))))))) (dCall (sp__law_take A) (dCn (dVar 0) (dCn (dC (.int 8)) (dNil))))))) (dNext))
  (k1__law_forged A)
def k3__law_forged (A : Ad) : DTS :=
  dSeq (dIf (dTest (dOp dEq (dVar 3) (dC (.int 7)))) (dAsg (dOp dIx (dLst (dCn (dC .non) (dCn (dC (.int 7)) (dCn (dC (.bl true)) (dCn (dLst (dCn (dOp dIx (dVar 7) (dVar 5)) (dNil))) (dCn (dTup (dCn (dOp dIx (dVar 7) (dVar 5)) (dNil))) (dCn (dOp dAdd2 (dOp dIx (dVar 7) (dVar 5)) (dC (.str "x"))) (dCn (dC (.str "")) (dCn (dDict0) (dNil)))))))))) (dCall (sp__law_take A) (dCn (dVar 0) (dCn (dC (.int 8)) (dNil))))) (gdSubL (dVar 7) (dVar 5))) (dNext))
  (k2__law_forged A)
def k4__law_forged (A : Ad) : DTS :=
  dSeq (dIf (dTest (dOp dEq (dVar 3) (dC (.int 6)))) (dRet (dFrzE (dCB dTuple (dCn (dVar 7) (dNil))))) (dNext))
  (k3__law_forged A)
def k5__law_forged (A : Ad) : DTS :=
  dSeq (dIf (dTest (dOp dEq (dVar 3) (dC (.int 5)))) (dRet (dFrzE (dCall (sp__law_other_order A) (dCn (dVar 0) (dCn (dVar 1) (dNil)))))) (dNext))
  (k4__law_forged A)
def k6__law_forged (A : Ad) : DTS :=
  dSeq (dIf (dTest (dOp dEq (dVar 3) (dC (.int 4)))) (dRet (dFrzE (dRev (dVar 7)))) (dNext))
  (k5__law_forged A)
def k7__law_forged (A : Ad) : DTS :=
  dSeq (dIf (dTest (dOp dEq (dVar 3) (dC (.int 3)))) (dAsg (dOp dIx (dVar 7) (dVar 6)) (gdSubL (dVar 7) (dVar 5))) (dNext))
  (k6__law_forged A)
def k8__law_forged (A : Ad) : DTS :=
  dSeq (dIf (dTest (dOp dEq (dVar 3) (dC (.int 2)))) (dDrop (dML opPopAt (dVar 7) (dCn (dVar 5) (dNil)))) (dNext))
  (k7__law_forged A)
def k9__law_forged (A : Ad) : DTS :=
  dSeq (dIf (dTest (dOp dEq (dVar 3) (dC (.int 1)))) (dDrop (dML opInsert (dVar 7) (dCn (dVar 6) (dCn (dML opPopAt (dVar 7) (dCn (dVar 5) (dNil))) (dNil))))) (dNext))
  (k8__law_forged A)
def k10__law_forged (A : Ad) : DTS :=
  dSeq (dIf (dTest (dOp dEq (dVar 3) (dC (.int 0)))) (dAsg (dTup (dCn (dOp dIx (dVar 7) (dVar 6)) (dCn (dOp dIx (dVar 7) (dVar 5)) (dNil)))) (gdTup 2 (gdList [(gdSubL (dVar 7) (dVar 5)), (gdSubL (dVar 7) (dVar 6))]))) (dNext))
  (k9__law_forged A)
def k11__law_forged (A : Ad) : DTS :=
  dSeq (dAsg (dSlA dSl4M (dOp dAdd2 (dCB dList (dCn (dVar 2) (dNil))) (dVar 4)) (oNone) (oSome (dCB dLen (dCn (dVar 4) (dNil))))) (gdName 7))
  (k10__law_forged A)
def k12__law_forged (A : Ad) : DTS :=
  dSeq (dPar2 5 6 (dCn (dCall (sp__law_take A) (dCn (dVar 0) (dCn (dCB dLen (dCn (dVar 4) (dNil))) (dNil)))) (dCn (dCall (sp__law_take A) (dCn (dVar 0) (dCn (dCB dLen (dCn (dVar 4) (dNil))) (dNil)))) (dNil))))
  (k11__law_forged A)
def k13__law_forged (A : Ad) : DTS :=
  dSeq (dAsg (dCB dListK (dCn (dVar 1) (dNil))) (gdName 4))
  (k12__law_forged A)
def t__law_forged (A : Ad) : DTS :=
  dSeq (dAsg (dCall (sp__law_take A) (dCn (dVar 0) (dCn (dC (.int 9)) (dNil)))) (gdName 3))
  (k13__law_forged A)
abbrev N__law_forged : List Str := ["_law_bag_here", "_law_needs_here", "_law_order_here", "_law_way", "_law_names_here", "_law_at", "_law_to", "_law_some"]
def t_are_names (A : Ad) : DTS :=
  dSeq (dIf (dOr (dNot (dTruth (dIsi2 .lst .tup (dVar 1)))) (dNot (dTruth (dCB dAll (dCn (dLc (iQ (dVar 1)) (.one 2) dYes (dAndV (dIsi .str (dVar 2)) (dOp (dInK id) (dVar 2) (dVar 0))) [2]) (dNil)))))) (dRet (dC (.bl false))) (dNext))
  (dRet (dOp dEq (dLenSc 2 (dVar 1)) (dCB dLen (dCn (dVar 1) (dNil)))))
abbrev N_are_names : List Str := ["needs", "thing", "name"]
def t_shows_order (A : Ad) : DTS :=
  dSeq (dAsg (dCallK 2 0 (sp_needs_of A) pg_needs_of_0 (dCn (dVar 0) (dCn (dVar 1) (dNil))) (dNil)) (gdName 3))
  (dSeq (dIf (dOr (dNot (dTruth (dCall (sp_are_names A) (dCn (dVar 3) (dCn (dVar 2) (dNil)))))) (dTest (dOp dNe (dCB dLen (dCn (dVar 2) (dNil))) (dCB dLen (dCn (dVar 3) (dNil)))))) (dRet (dC (.bl false))) (dNext))
  (dRet (dCB dAll (dCn (dLc2 (iEQ (dCn (dVar 2) (dNil))) (.tup [4, 5]) (iL (dOp dGetK (dVar 3) (dVar 5))) (.one 6) (dOp (dInW id) (dVar 6) (dSlA dSl4 (dVar 2) (oNone) (oSome (dVar 4)))) [4, 5, 6] [6]) (dNil)))))
abbrev N_shows_order : List Str := ["devices", "links", "thing", "needs", "at", "name", "other"]
def t__law_is_order (A : Ad) : DTS :=
  dSeq (dIf (dOr (dNot (dTruth (dIsi2 .lst .tup (dVar 1)))) (dTest (dOp dNe (dCB dLen (dCn (dVar 1) (dNil))) (dCB dLen (dCn (dVar 0) (dNil)))))) (dRet (dC (.bl false))) (dNext))
  (dSeq (dIf (dTest (dOp (dE0 not) (dLc (iQ (dVar 1)) (.one 2) (dOr (dNot (dTruth (dIsi .str (dVar 2)))) (dTest (dOp (dInK not) (dVar 2) (dVar 0)))) (dVar 2) [2]) (dLst (dNil)))) (dRet (dC (.bl false))) (dNext))
  (dSeq (dIf (dTest (dOp (dE0 not) (dLc (iR1 (dCn (dCB dLen (dCn (dVar 1) (dNil))) (dNil))) (.one 3) (dTest (dOp (dInW id) (dOp dIx (dVar 1) (dVar 3)) (dSlA dSl4 (dVar 1) (oNone) (oSome (dVar 3))))) (dVar 3) [3]) (dLst (dNil)))) (dRet (dC (.bl false))) (dNext))
  (dRet (dOp (dE0 id) (dLc (iR1 (dCn (dCB dLen (dCn (dVar 1) (dNil))) (dNil))) (.one 3) (dTest (dOp (dE0 not) (dLc (iL (dOp dGetK (dVar 0) (dOp dIx (dVar 1) (dVar 3)))) (.one 2) (dTest (dOp (dInW not) (dVar 2) (dSlA dSl4 (dVar 1) (oNone) (oSome (dVar 3))))) (dVar 2) [2]) (dLst (dNil)))) (dVar 3) [3]) (dLst (dNil))))))
abbrev N__law_is_order : List Str := ["_law_needs_here", "_law_thing", "_law_one", "_law_k"]
def b1__law_right (A : Ad) : DTS :=
  dSeq (dAsg (dCall (sp__law_asked A) (dCn (dVar 5) (dCn (dVar 1) (dCn (dVar 2) (dNil))))) (gdU 2 (gdNames [6, 7])))
  (dSeq (dIf (dTest (dOp dLt (dCB dLen (dCn (dVar 4) (dNil))) (dCB dLen (dCn (dVar 3) (dNil))))) (dIf (dOr (dTest (dOp dNe (dVar 6) (dC (.str "ring")))) (dNot (dTruth (dCall (sp__law_ring_right A) (dCn (dVar 3) (dCn (dVar 7) (dNil))))))) (dRet (dC (.bl false))) (dNext)) (dIf (dOr (dTest (dOp dNe (dVar 6) (dC (.str "told")))) (dTest (dOp dNe (dShow (dVar 7)) (dShow (dVar 4))))) (dRet (dC (.bl false))) (dNext)))
  (dDrop (dAppend (dVar 7) (dC (.str "more")))))
def b2__law_right (A : Ad) : DTS :=
  dSeq (dAsg (dIfE (dTest (dOp dEq (dVar 5) (dC (.int 0)))) (dVar 4) (dCall (sp__law_forged A) (dCn (dVar 0) (dCn (dVar 3) (dCn (dVar 4) (dNil)))))) (gdName 8))
  (dSeq (dAsg (dShow (dVar 8)) (gdName 9))
  (dSeq (dAsg (dShow (dCall (sp_shows_order A) (dCn (dVar 1) (dCn (dVar 2) (dCn (dVar 8) (dNil)))))) (gdName 7))
  (dIf (dOr (dTest (dOp dNe (dVar 7) (dShow (dCall (sp__law_is_order A) (dCn (dVar 3) (dCn (dVar 8) (dNil))))))) (dTest (dOp dNe (dShow (dVar 8)) (dVar 9)))) (dRet (dC (.bl false))) (dNext))))
def t__law_right (A : Ad) : DTS :=
  dSeq (dAsg (dCall (sp__law_order A) (dCn (dVar 3) (dNil))) (gdName 4))
  (dSeq (dFor (iL (dLst (dCn (dC (.int 0)) (dCn (dC (.int 1)) (dCn (dC (.int 0)) (dNil)))))) (gdName 5) (b1__law_right A))
  (dSeq (dFor (iR1 (dCn (dC (.int 10)) (dNil))) (gdName 5) (b2__law_right A))
  (dRet (dC (.bl true)))))
abbrev N__law_right : List Str := ["_law_bag_here", "_law_made_here", "_law_links_here", "_law_needs_here", "_law_order_here", "_law_turn", "_law_word", "_law_told", "_law_thing", "_law_kept"]
def k1_law (A : Ad) : DTS :=
  dIf (dAnd (dNot (dTruth (dVar 3))) (dTest (dOp dNe (dShow (dCallK 1 0 (sp_order_of A) pg_order_of_0 (dCn (dVar 8) (dNil)) (dNil))) (dShow (dCall (sp__law_order A) (dCn (dVar 11) (dNil))))))) (dRet (dC (.bl false))) (dNext)
def k2_law (A : Ad) : DTS :=
  dSeq (dAsg (dCall (sp__law_needs A) (dCn (dVar 4) (dCn (dLst (dNil)) (dNil)))) (gdName 11))
  (k1_law A)
def k3_law (A : Ad) : DTS :=
  dSeq (dIf (dOr (dNot (dTruth (dCall (sp__law_right A) (dCn (dVar 2) (dCn (dOp dIx (dVar 9) (dC (.int 0))) (dCn (dOp dIx (dVar 9) (dC (.int 1))) (dCn (dVar 10) (dNil)))))))) (dTest (dOp dNe (dCB dList (dCn (dOp dIx (dVar 9) (dC (.int 1))) (dNil))) (dVar 6)))) (dRet (dC (.bl false))) (dNext))
  (k2_law A)
def k4_law (A : Ad) : DTS :=
  dSeq (dAsg (dCall (sp__law_needs A) (dCn (dVar 4) (dCn (dVar 6) (dNil)))) (gdName 10))
  (k3_law A)
def k5_law (A : Ad) : DTS :=
  dSeq (dIf (dTest (dOp dEq (dCall (sp__law_take A) (dCn (dVar 2) (dCn (dC (.int 2)) (dNil)))) (dC (.int 0)))) (dAsg (dLst (dCn (dCB dTuple (dCn (dVar 8) (dNil))) (dCn (dCB dTuple (dCn (dVar 6) (dNil))) (dNil)))) (gdName 9)) (dNext))
  (k4_law A)
def k6_law (A : Ad) : DTS :=
  dSeq (dAsg (dLst (dCn (dVar 8) (dCn (dCB dList (dCn (dVar 6) (dNil))) (dNil)))) (gdName 9))
  (k5_law A)
def k7_law (A : Ad) : DTS :=
  dSeq (dAsg (dLc (iL (dVar 4)) (.one 12) dYes (dCall (sp__law_made A) (dCn (dVar 12) (dNil))) [12]) (gdName 8))
  (k6_law A)
def k8_law (A : Ad) : DTS :=
  dSeq (dIf (dAnd (dTruth (dVar 3)) (dTest (dOp dEq (dCall (sp__law_take A) (dCn (dVar 2) (dCn (dC (.int 2)) (dNil)))) (dC (.int 0))))) (dSeq (dAsg (dCall (sp__law_take A) (dCn (dVar 2) (dCn (dCB dLen (dCn (dVar 4) (dNil))) (dNil)))) (gdName 7))
  (dAsg (dOp dIx (dOp dIx (dVar 4) (dOp dIx (dLst (dCn (dVar 7) (dCn (dCall (sp__law_take A) (dCn (dVar 2) (dCn (dCB dLen (dCn (dVar 4) (dNil))) (dNil)))) (dNil)))) (dCall (sp__law_take A) (dCn (dVar 2) (dCn (dC (.int 2)) (dNil)))))) (dC (.int 0))) (gdSubL (dOp dIx (dVar 4) (dVar 7)) (dC (.int 1))))) (dNext))
  (k7_law A)
def k9_law (A : Ad) : DTS :=
  dSeq (dAsg (dCall (sp__law_links A) (dCn (dVar 2) (dCn (dVar 5) (dCn (dVar 3) (dNil))))) (gdName 6))
  (k8_law A)
def k10_law (A : Ad) : DTS :=
  dSeq (dAsg (dCall (sp__law_rows A) (dCn (dVar 2) (dCn (dC (.int 1)) (dCn (dC (.int 8)) (dNil))))) (gdU 2 (gdNames [4, 5])))
  (k9_law A)
def k11_law (A : Ad) : DTS :=
  dSeq (dAsg (dOp dEq (dCall (sp__law_take A) (dCn (dVar 2) (dCn (dC (.int 3)) (dNil)))) (dC (.int 0))) (gdName 3))
  (k10_law A)
def b1_law (A : Ad) : DTS :=
  dSeq (dAsg (dCall (sp__law_bag A) (dCn (dCall (sp__law_cell A) (dCn (dVar 0) (dCn (dVar 1) (dNil)))) (dNil))) (gdName 2))
  (k11_law A)
def t_law (A : Ad) : DTS :=
  dSeq (dFor (iR1 (dCn (dCB dMax (dCn (dC (.int 2)) (dCn (dCB dMin (dCn (dC (.int 8)) (dCn (dCB dLen (dCn (dVar 0) (dNil))) (dNil)))) (dNil)))) (dNil))) (gdName 1) (b1_law A))
  (dRet (dC (.bl true)))
abbrev N_law : List Str := ["_law_script", "_law_k", "_law_bag_here", "_law_rings", "_law_rows_here", "_law_order_here", "_law_links_here", "_law_spot", "_law_made_here", "_law_handed", "_law_needs_here", "_law_alone", "_law_row"]
theorem rd__law_bag (A : Ad) (hA : AdOk A) : ∀ ds M Qd Ed, sp__law_bag A ds M Qd Ed → t__law_bag A (ends Qd Ed) (dstart N__law_bag ds) M := bag_ok
theorem rd__law_cell (A : Ad) (hA : AdOk A) : ∀ ds M Qd Ed, sp__law_cell A ds M Qd Ed → t__law_cell A (ends Qd Ed) (dstart N__law_cell ds) M := (cell_ok 104729 71 (by decide) (by decide))
theorem rd__law_take (A : Ad) (hA : AdOk A) : ∀ ds M Qd Ed, sp__law_take A ds M Qd Ed → t__law_take A (ends Qd Ed) (dstart N__law_take ds) M := (take_ok 7919 8 15485863 (by decide) (by decide) (by decide) (by decide) (by decide) (by decide))
theorem rd__law_names (A : Ad) (hA : AdOk A) : ∀ ds M Qd Ed, sp__law_names A ds M Qd Ed → t__law_names A (ends Qd Ed) (dstart N__law_names ds) M := names_aD
theorem rd_is_name (A : Ad) (hA : AdOk A) : ∀ ds M Qd Ed, sp_is_name A ds M Qd Ed → t_is_name A (ends Qd Ed) (dstart N_is_name ds) M := is_name_ok
theorem rd_is_whole (A : Ad) (hA : AdOk A) : ∀ ds M Qd Ed, sp_is_whole A ds M Qd Ed → t_is_whole A (ends Qd Ed) (dstart N_is_whole ds) M := is_whole_ok
theorem rd_need_number (A : Ad) (hA : AdOk A) : ∀ ds M Qd Ed, sp_need_number A ds M Qd Ed → t_need_number A (ends Qd Ed) (dstart N_need_number ds) M := need_ok
theorem rd_m_Device_init (A : Ad) (hA : AdOk A) : ∀ ds M Qd Ed, sp_m_Device_init A ds M Qd Ed → t_m_Device_init A (ends Qd Ed) (dstart N_m_Device_init ds) M := dev_ok
theorem rd_m_Device_name (A : Ad) (hA : AdOk A) : ∀ ds M Qd Ed, sp_m_Device_name A ds M Qd Ed → t_m_Device_name A (ends Qd Ed) (dstart N_m_Device_name ds) M := by
  intro ds M Qd Ed h
  obtain ⟨r, rfl, q⟩ := h
  exact ⟨_, rfl, List.mem_cons_self, _, rfl, _, rfl, q⟩
theorem rd_m_Device_parent (A : Ad) (hA : AdOk A) : ∀ ds M Qd Ed, sp_m_Device_parent A ds M Qd Ed → t_m_Device_parent A (ends Qd Ed) (dstart N_m_Device_parent ds) M := by
  intro ds M Qd Ed h
  obtain ⟨r, rfl, q⟩ := h
  exact ⟨_, rfl, List.mem_cons_self, _, rfl, _, rfl, q⟩
theorem whole_i {i l h : Int} (h0 : l ≤ i) (h1 : i ≤ h) : wholeD (.int i) l h = true := by
  show (decide (l ≤ i) && decide (i ≤ h)) = true
  rw [decide_eq_true h0, decide_eq_true h1]
  rfl
theorem due_row {r : Rw} (h : Nm r.nm ∧ (∀ p, r.par = some p → Nm p) ∧ 0 ≤ r.burn ∧ r.burn ≤ 100 ∧ 0 ≤ r.sip ∧ r.sip ≤ r.burn ∧ 0 ≤ r.wake ∧ r.wake ≤ 5 ∧ 0 ≤ r.fall ∧ r.fall ≤ 5 ∧ 0 ≤ r.rest ∧ r.rest ≤ 9) : due (.str r.nm) (oStr r.par) (.int r.burn) (.int r.sip) (.int r.wake) (.int r.fall) (.int r.rest) = .ok := by
  obtain ⟨n, p, b0, b1, s0, s1, w0, w1, f0, f1, t0, t1⟩ := h
  unfold due
  have e1 : (!isN (oStr r.par) && !nameD (oStr r.par)) = false := by
    cases e : r.par with
    | none => rfl
    | some x =>
      have := (p x e).name
      show (!isN (D.str x) && !nameD (.str x)) = false
      rw [this, Bool.not_true, Bool.and_false]
  rw [n.name, e1, whole_i b0 b1, show intO (D.int r.burn) = r.burn from rfl, whole_i s0 s1, whole_i w0 w1, whole_i f0 f1, whole_i t0 t1]
  rfl
theorem del_back {M : Mp} {x : Addr} {o1 o2 : MO} (h : M x = none) : delM (updM (updM M x o1) x o2) x = M := by
  funext b
  by_cases z : b = x
  · rw [z, delM_same, h]
  · rw [delM_ne z, updM_ne z, updM_ne z]
theorem rd__law_made (A : Ad) (hA : AdOk A) : ∀ ds M Qd Ed, sp__law_made A ds M Qd Ed → t__law_made A (ends Qd Ed) (dstart N__law_made ds) M := by
  intro ds M Qd Ed h
  obtain ⟨p, r, rfl, hp, ok, q⟩ := h
  have hp : M p = some (.lst [.str r.nm, oStr r.par, .int r.burn, .int r.sip, .int r.wake, .int r.fall, .int r.rest]) := hp
  refine ⟨_, rfl, _, hp, _, rfl, _, rfl, _, hp, _, rfl, _, rfl, _, hp, _, rfl, _, rfl, _, hp, _, rfl, _, rfl, _, hp, _, rfl, _, rfl, _, hp, _, rfl, _, rfl, _, hp, _, rfl, rfl, rfl, fun x fx => ?_⟩
  refine ⟨x, .str r.nm, oStr r.par, .int r.burn, .int r.sip, .int r.wake, .int r.fall, .int r.rest, rfl, updM_same, fun d hd => ?_, ?_⟩
  · simp only [List.mem_cons, List.mem_nil_iff, or_false] at hd
    rcases hd with rfl | rfl | rfl | rfl | rfl | rfl | rfl
    · exact ok.1.th
    · cases e : r.par with
      | none => exact trivial
      | some x => exact (ok.2.1 x e).th
    all_goals exact trivial
  · rw [due_row ok]
    refine ⟨rfl, _, updM_same, ?_⟩
    rw [del_back fx]
    exact q
theorem names_at {A : Ad} {m : Mc} : m.rows.map (fun r => D.str r.nm) = m.names.map D.str := by
  unfold Mc.names
  rw [List.map_map]
  rfl
theorem dv_asS {A : Ad} {m : Mc} {dv : D} (h : DvD A m dv) {M : Mp} {k : List D → Src → Prop} (q : k (m.rows.map (devR (cA A))) .data) : asS M dv k := by
  rcases h with rfl | rfl <;> exact q
theorem lk_asS {m : Mc} {lv : D} (h : LkD m lv) {M : Mp} {k : List D → Src → Prop} (q : k (m.links.map DL.prD) .data) : asS M lv k := by
  rcases h with rfl | rfl <;> exact q
theorem comp_nm {A : Ad} {m : Mc} (g : FairM m) {i : Nat} {te : DTE} {src : Src} {vs : List Nat} {δ : DS} {k : List D → Mp → Prop} {M : Mp} (hs : src.holds M)
    (hf : ∀ r ∈ m.rows, ∀ Q : DK, Q (.str r.nm) M → te ((dwipe δ vs).set i (some (devR (cA A) r))) M Q E0d) (q : k (m.names.map D.str) M) : dComp (.one i) dYes te src vs δ k (m.rows.map (devR (cA A))) [] M := by
  have l8 := g.l8
  refine comp_map1 (fun d => match d with | .ins _ [(_, .tup (.str n :: _))] => .str n | _ => .non) hs _ (fun x hx Q z => ?_) (by rw [List.length_map]; exact Nat.le_trans l8 (by decide)) ?_
  · obtain ⟨r, hr, rfl⟩ := List.mem_map.mp hx
    exact hf r hr Q z
  · rw [List.map_map]
    rw [← names_at (A := A)] at q
    exact q
theorem nd_loop1 (A : Ad) {dv : D} {Dd : DEnds} {M : Mp} : ∀ (xs pre : List Str) (o2 o3 : Option D), (pre ++ xs).Nodup → (∀ o2 o3, Dd.nx [some dv, some (.lst ((pre ++ xs).map D.str)), o2, o3, none] M) →
    dLoop (gdTup 2 (gdNames [2, 3])) (b1_need_devices A) .data (((xs.map D.str).zipIdx pre.length).map fun p => D.tup [.int (p.2 : Nat), p.1]) Dd [some dv, some (.lst ((pre ++ xs).map D.str)), o2, o3, none] M
  | [], pre, o2, o3, _, q => q o2 o3
  | x :: t, pre, o2, o3, hd, q => by
    have e : pre ++ x :: t = (pre ++ [x]) ++ t := by simp
    have nx : x ∉ pre := fun z => by
      rw [List.nodup_append] at hd
      exact hd.2.2 x z x List.mem_cons_self rfl
    refine ⟨rfl, rfl, _, rfl, _, rfl, _, rfl, pre, ?_, rfl, ?_⟩
    · rw [cutD_to, List.map_append]
      show some _ = some _
      rw [List.take_left' (List.length_map _)]
    · show br (decide (x ∈ pre)) _ _
      refine brF (decide_eq_false nx) ?_
      have z := nd_loop1 A t (pre ++ [x]) (some (.int (pre.length : Nat))) (some (.str x)) (by rw [← e]; exact hd) (by rw [← e]; exact q) (Dd := Dd) (M := M) (dv := dv)
      rw [← e, List.length_append, List.length_singleton] at z
      exact z
theorem nd_loop2 (A : Ad) {m : Mc} {dv : D} {Dd : DEnds} {M : Mp} : ∀ (l : List Rw) (o2 o3 o4 : Option D), (∀ r ∈ l, ∀ p, r.par = some p → p ∈ m.names) → (∀ o4, Dd.nx [some dv, some (.lst (m.names.map D.str)), o2, o3, o4] M) →
    dLoop (gdName 4) (b2_need_devices A) .data (l.map (devR (cA A))) Dd [some dv, some (.lst (m.names.map D.str)), o2, o3, o4] M
  | [], o2, o3, o4, _, q => q o4
  | r :: t, o2, o3, o4, hl, q => by
    refine ⟨_, rfl, rfl, rfl, rfl, rfl, ⟨r, rfl, ?_⟩⟩
    have ih := nd_loop2 A t o2 o3 (some (devR (cA A) r)) (fun x hx => hl x (List.mem_cons_of_mem _ hx)) q
    show br (!isN (oStr r.par)) _ _
    cases e : r.par with
    | none => exact ih
    | some p =>
      have ep : oStr r.par = .str p := by rw [e]; rfl
      refine ⟨_, rfl, rfl, rfl, rfl, rfl, ⟨r, rfl, ?_⟩⟩
      refine ⟨_, rfl, ?_⟩
      show dInW not (oStr r.par) (.lst (m.names.map D.str)) M _
      rw [ep]
      refine ⟨m.names, rfl, rfl, ?_⟩
      show br (!decide (p ∈ m.names)) _ _
      refine brF (by rw [decide_eq_true (hl r List.mem_cons_self p e)]; rfl) ?_
      exact ih
theorem rd_need_devices (A : Ad) (hA : AdOk A) : ∀ ds M Qd Ed, sp_need_devices A ds M Qd Ed → t_need_devices A (ends Qd Ed) (dstart N_need_devices ds) M := by
  intro ds M Qd Ed h
  obtain ⟨m, dv, rfl, g, hd, q⟩ := h
  have l8 := g.l8
  have l1 := g.l1
  rcases id hd with rfl | rfl
  all_goals
    refine ⟨_, rfl, (fun z => nomatch z), _, rfl, ?_⟩
    show br (decide ((1 : Int) ≤ ((m.rows.map (devR (cA A))).length : Nat))) _ _
    rw [List.length_map]
    refine brT (decide_eq_true (show (1 : Int) ≤ (m.rows.length : Nat) by omega)) ?_
    show br (!decide (((m.rows.length : Nat) : Int) ≤ 8)) _ _
    refine brF (by rw [decide_eq_true (by omega)]; rfl) ?_
    refine ⟨_, rfl, ⟨by rw [List.length_map]; exact Nat.lt_of_le_of_lt l8 (by decide), ?_⟩⟩
    refine comp_map1 (fun d => .bl true) (by exact trivial) _ (fun x hx Q z => ?_) (by rw [List.length_map]; exact Nat.le_trans l8 (by decide)) ?_
    · obtain ⟨r, hr, rfl⟩ := List.mem_map.mp hx
      exact ⟨_, rfl, rfl, z⟩
    refine ⟨m.rows.map fun _ => true, by rw [List.map_map, List.map_map]; rfl, ?_⟩
    refine brF (by show (!((m.rows.map fun _ => true).all id)) = false; rw [List.all_map]; simp) ?_
    refine ⟨_, rfl, ⟨by rw [List.length_map]; exact Nat.lt_of_le_of_lt l8 (by decide), ?_⟩⟩
    refine comp_nm g (by exact trivial) (fun r hr Q z => ⟨_, rfl, rfl, rfl, rfl, rfl, ⟨r, rfl, z⟩⟩) ?_
    refine ⟨_, rfl, ?_⟩
    refine nd_loop1 A m.names [] none none g.dup fun o2 o3 => ?_
    refine ⟨_, rfl, ?_⟩
    exact nd_loop2 A m.rows o2 o3 none (fun r hr => (g.row r hr).2.1) fun _ => q
theorem pr_keys (q : Str × Str) : DL.prD q = .tup (([.inr q.1, .inr q.2] : List Key).map kD) := rfl
def prK (q : Str × Str) : List Key := [.inr q.1, .inr q.2]
theorem prs_keys : ∀ qs : List (Str × Str), qs.map DL.prD = (qs.map prK).map fun ks => D.tup (ks.map kD)
  | [] => rfl
  | q :: t => by rw [List.map_cons, List.map_cons, List.map_cons, prs_keys t]; rfl
theorem prK_ok {q : Str × Str} (h : Nm q.1 ∧ Nm q.2) : ∀ k ∈ prK q, OkK k := fun k hk => by
  rcases List.mem_cons.mp hk with rfl | hk
  · exact h.1.2.2.ok
  · rw [List.mem_singleton.mp hk]; exact h.2.2.2.ok
theorem prK_inj {q r : Str × Str} (h : prK q = prK r) : q = r := by
  have h1 : q.1 = r.1 := Sum.inr.inj (List.cons.inj h).1
  have h2 : q.2 = r.2 := Sum.inr.inj (List.cons.inj (List.cons.inj h).2).1
  exact Prod.ext h1 h2
theorem pr_has (q : Str × Str) : ∀ qs : List (Str × Str), hasK (prK q) (qs.map prK) = decide (q ∈ qs)
  | [] => rfl
  | r :: t => by
    have ih := pr_has q t
    unfold hasK at ih ⊢
    rw [List.map_cons, List.any_cons, ih]
    by_cases e : q = r
    · subst e; simp
    · have : ¬ prK r = prK q := fun z => e (prK_inj z).symm
      simp [this, e]
theorem inQ_pairs {g : Bool → Bool} {M : Mp} {Q : DK} {q : Str × Str} {qs : List (Str × Str)} {d : D} (hd : d = .lst (qs.map DL.prD) ∨ d = .tup (qs.map DL.prD)) (hq : Nm q.1 ∧ Nm q.2) (hqs : ∀ r ∈ qs, Nm r.1 ∧ Nm r.2) (z : Q (.bl (g (decide (q ∈ qs)))) M) : dInQ g (DL.prD q) d M Q := by
  refine ⟨PyK (prK q), (qs.map prK).map PyK, ?_, ?_, PyK_shaped (prK_ok hq), PyKs_shaped (fun ks hk => ?_), ?_⟩
  · rw [pr_keys]; exact pyOf_k _
  · rcases hd with rfl | rfl
    · rw [prs_keys]; exact .inl (.lst (pyOf_ks _))
    · rw [prs_keys]; exact .inr (.tup (pyOf_ks _))
  · obtain ⟨r, hr, rfl⟩ := List.mem_map.mp hk
    exact prK_ok (hqs r hr)
  · rw [any_keys, pr_has]; exact z
theorem inD_pairs {g : Bool → Bool} {M : Mp} {Q : DK} {q : Str × Str} {qs : List (Str × Str)} {d : D} (hd : d = .lst (qs.map DL.prD) ∨ ∃ a, d = .ref a ∧ M a = some (.lst (qs.map DL.prD))) (hq : Nm q.1 ∧ Nm q.2) (hqs : ∀ r ∈ qs, Nm r.1 ∧ Nm r.2) (z : Q (.bl (g (decide (q ∈ qs)))) M) : dInD g (DL.prD q) d M Q := by
  refine ⟨PyK (prK q), (qs.map prK).map PyK, ?_, ?_, PyK_shaped (prK_ok hq), PyKs_shaped (fun ks hk => ?_), ?_⟩
  · rw [pr_keys]; exact pyOf_k _
  · rcases hd with rfl | ⟨a, rfl, e⟩
    · rw [prs_keys]; exact .lst (pyOf_ks _)
    · rw [prs_keys] at e; exact .ref e (pyOf_ks _)
  · obtain ⟨r, hr, rfl⟩ := List.mem_map.mp hk
    exact prK_ok (hqs r hr)
  · rw [any_keys, pr_has]; exact z
theorem lnk_nm {m : Mc} (g : FairM m) : ∀ q ∈ m.links, Nm q.1 ∧ Nm q.2 := fun q hq => ⟨g.nm (g.lnk q hq).1, g.nm (g.lnk q hq).2.1⟩
theorem rd_need_link (A : Ad) (hA : AdOk A) : ∀ ds M Qd Ed, sp_need_link A ds M Qd Ed → t_need_link A (ends Qd Ed) (dstart N_need_link ds) M := by
  intro ds M Qd Ed h
  obtain ⟨m, q, rfl, g, hq, z⟩ := h
  obtain ⟨n1, n2⟩ := lnk_nm g q hq
  obtain ⟨i1, i2, ne⟩ := g.lnk q hq
  refine ⟨_, rfl, _, rfl, _, rfl, (show 2 < sizeLine by decide), ?_⟩
  refine comp_map1 (fun d => .bl true) (by exact trivial) _ (fun x hx Q z => ?_) (show 2 ≤ sizeLine by decide) ?_
  · rcases List.mem_cons.mp hx with rfl | hx
    · refine ⟨_, rfl, ⟨_, rfl, n1.th, ?_⟩⟩
      rw [n1.name]; exact z
    · rw [List.mem_singleton.mp hx]
      refine ⟨_, rfl, ⟨_, rfl, n2.th, ?_⟩⟩
      rw [n2.name]; exact z
  refine ⟨[true, true], rfl, ?_⟩
  refine ⟨_, rfl, _, at0, _, rfl, _, at1, ?_⟩
  show br (decide (q.1 = q.2)) _ _
  refine brF (decide_eq_false ne) ?_
  refine ⟨_, rfl, ?_⟩
  refine ⟨_, rfl, _, rfl, m.names, rfl, rfl, ?_⟩
  show br (!decide (q.1 ∈ m.names)) _ _
  refine brF (by rw [decide_eq_true i1]; rfl) ?_
  refine ⟨_, rfl, _, rfl, m.names, rfl, rfl, ?_⟩
  show br (!decide (q.2 ∈ m.names)) _ _
  refine brF (by rw [decide_eq_true i2]; rfl) ?_
  exact z
theorem sl4_lst {xs : List D} {lo hi : Option Int} {M : Mp} {Q : DK} (h : Q (.lst (cutD xs lo hi)) M) : dSl4 (.lst xs) lo hi M Q := h
theorem sl4_tup {xs : List D} {lo hi : Option Int} {M : Mp} {Q : DK} (h : Q (.tup (cutD xs lo hi)) M) : dSl4 (.tup xs) lo hi M Q := h
theorem np_loop (A : Ad) {m : Mc} (g : FairM m) {dv lv : D} (hl : LkD m lv) {Dd : DEnds} {M : Mp} : ∀ (xs pre : List (Str × Str)) (o3 o4 : Option D), pre ++ xs = m.links → (∀ o3 o4, Dd.nx [some dv, some lv, some (.lst (m.names.map D.str)), o3, o4, none] M) →
    dLoop (gdTup 2 (gdNames [3, 4])) (b1_need_parts A) .data (((xs.map DL.prD).zipIdx pre.length).map fun p => D.tup [.int (p.2 : Nat), p.1]) Dd [some dv, some lv, some (.lst (m.names.map D.str)), o3, o4, none] M
  | [], pre, o3, o4, _, q => q o3 o4
  | x :: t, pre, o3, o4, hd, q => by
    have e : pre ++ x :: t = (pre ++ [x]) ++ t := by simp
    have nx : x ∉ pre := fun z => by
      have d := g.ldup
      rw [← hd, List.nodup_append] at d
      exact d.2.2 x z x List.mem_cons_self rfl
    have hx : x ∈ m.links := by rw [← hd]; exact List.mem_append_right _ List.mem_cons_self
    have hp : ∀ r ∈ pre, Nm r.1 ∧ Nm r.2 := fun r hr => lnk_nm g r (by rw [← hd]; exact List.mem_append_left _ hr)
    refine ⟨rfl, rfl, _, rfl, _, rfl, ⟨m, x, rfl, g, hx, ?_⟩⟩
    refine ⟨_, rfl, _, rfl, _, rfl, ?_⟩
    have ec : cutD (m.links.map DL.prD) none (some ((pre.length : Nat) : Int)) = pre.map DL.prD := by rw [cutD_to, ← hd, List.map_append, List.take_left' (List.length_map _)]
    have z := np_loop A g hl t (pre ++ [x]) (some (.int (pre.length : Nat))) (some (DL.prD x)) (by rw [← e]; exact hd) q (Dd := Dd) (M := M) (dv := dv)
    rw [List.length_append, List.length_singleton] at z
    rcases id hl with rfl | rfl
    · refine sl4_lst ?_
      rw [ec]
      refine inQ_pairs (.inl rfl) (lnk_nm g x hx) hp ?_
      show br (decide (x ∈ pre)) _ _
      exact brF (decide_eq_false nx) z
    · refine sl4_tup ?_
      rw [ec]
      refine inQ_pairs (.inr rfl) (lnk_nm g x hx) hp ?_
      show br (decide (x ∈ pre)) _ _
      exact brF (decide_eq_false nx) z
theorem rd_need_parts (A : Ad) (hA : AdOk A) : ∀ ds M Qd Ed, sp_need_parts A ds M Qd Ed → t_need_parts A (ends Qd Ed) (dstart N_need_parts ds) M := by
  intro ds M Qd Ed h
  obtain ⟨m, dv, lv, rfl, g, hd, hl, q⟩ := h
  have l8 := g.l8
  have l16 := g.l16
  refine ⟨_, rfl, ⟨m, dv, rfl, g, hd, ?_⟩⟩
  have go : dSeq (dAsg (dLc (iQ (dVar 0)) (.one 5) dYes (dMeth "name" 1 0 [(A.c_Device, sp_m_Device_name A, plG)] (dVar 5) (dNil) (dNil)) [5]) (gdName 2)) (dFor (iEQ (dCn (dVar 1) (dNil))) (gdTup 2 (gdNames [3, 4])) (b1_need_parts A)) (ends Qd Ed) [some dv, some lv, none, none, none, none] M := by
    refine ⟨_, rfl, dv_asS hd ⟨by rw [List.length_map]; exact Nat.lt_of_le_of_lt l8 (by decide), ?_⟩⟩
    refine comp_nm g (by exact trivial) (fun r hr Q z => ⟨_, rfl, rfl, rfl, rfl, rfl, ⟨r, rfl, z⟩⟩) ?_
    refine ⟨_, rfl, ?_⟩
    rcases id hl with rfl | rfl
    all_goals exact np_loop A g hl m.links [] none none rfl fun _ _ => q
  rcases id hl with rfl | rfl
  all_goals
    refine ⟨_, rfl, (fun z => nomatch z), _, rfl, ?_⟩
    refine brF (by show decide ((16 : Int) < ((m.links.map DL.prD).length : Nat)) = false; rw [List.length_map]; exact decide_eq_false (by omega)) ?_
    exact go
theorem nb_loop1 (A : Ad) {m : Mc} {dv lv : D} {w : Addr} {ad : Str → Addr} {M0 : Mp} {Dd : DEnds} : ∀ (l : List Rw) (M : Mp) (cur : Str → List Str) (o3 : Option D), (∀ r ∈ l, r.nm ∈ m.names) → (∀ r ∈ l, (cur r.nm).length = 0) → (l.map (·.nm)).Nodup → Nb M0 M m.names w ad cur →
    (∀ M' o3, Nb M0 M' m.names w ad (l.foldl parPut cur) → Dd.nx [some dv, some lv, some (.ref w), o3, none, none] M') →
    dLoop (gdName 3) (b1_needs_by A) .data (l.map (devR (cA A))) Dd [some dv, some lv, some (.ref w), o3, none, none] M
  | [], M, cur, o3, _, _, _, nb, q => q M o3 nb
  | r :: t, M, cur, o3, hl, hc, hd, nb, q => by
    have hr := hl r List.mem_cons_self
    have h0 := hc r List.mem_cons_self
    obtain ⟨d1, d2⟩ := List.nodup_cons.mp hd
    have rest : ∀ x ∈ t, x.nm ≠ r.nm := fun x hx z => d1 (List.mem_map.mpr ⟨x, hx, z⟩)
    refine ⟨_, rfl, rfl, rfl, rfl, rfl, ⟨r, rfl, ?_⟩⟩
    show br (!isN (oStr r.par)) _ _
    cases e : r.par with
    | none =>
      have ec : parPut cur r = cur := by
        unfold parPut
        rw [e]
        funext x
        unfold upF
        split
        · rename_i z; rw [z]; exact List.append_nil _
        · rfl
      refine nb_loop1 A t M cur _ (fun x hx => hl x (List.mem_cons_of_mem _ hx)) (fun x hx => hc x (List.mem_cons_of_mem _ hx)) d2 nb fun M' o3 z => q M' o3 ?_
      rw [List.foldl_cons, ec]; exact z
    | some p =>
      refine ⟨_, rfl, _, rfl, rfl, rfl, rfl, rfl, ⟨r, rfl, .inl ⟨_, nb.hw, _, _, rfl, tab_val hr, ?_⟩⟩⟩
      refine ⟨⟨_, nb.hc _ hr⟩, _, rfl, rfl, rfl, rfl, rfl, ⟨r, rfl, _, nb.hc _ hr, ?_, ?_⟩⟩
      · rw [List.length_map, h0]; exact Nat.succ_le_of_lt (Nat.zero_lt_of_lt (by decide : 1 < sizeLine))
      · have ep : oStr r.par = .str p := by rw [e]; rfl
        show dLoop (gdName 3) (b1_needs_by A) .data (t.map (devR (cA A))) Dd _ (updM M (ad r.nm) (.lst ((cur r.nm).map D.str ++ [oStr r.par])))
        rw [ep, map_snoc]
        refine nb_loop1 A t _ (parPut cur r) _ (fun x hx => hl x (List.mem_cons_of_mem _ hx)) (fun x hx => ?_) d2 ?_ q
        · unfold parPut
          rw [upF_ne (rest x hx)]
          exact hc x (List.mem_cons_of_mem _ hx)
        · unfold parPut
          rw [e]
          exact nb.put hr (cur r.nm ++ [p])
theorem nb_loop2 (A : Ad) {m : Mc} (g : FairM m) {dv lv : D} {w : Addr} {ad : Str → Addr} {M0 : Mp} {Dd : DEnds} : ∀ (l : List (Str × Str)) (M : Mp) (cur : Str → List Str) (o3 o4 o5 : Option D), (∀ q ∈ l, q.1 ∈ m.names) → (∀ n, (cur n).length + l.length ≤ 100) → Nb M0 M m.names w ad cur →
    (∀ M' o3 o4 o5, Nb M0 M' m.names w ad (l.foldl lnkPut cur) → Dd.nx [some dv, some lv, some (.ref w), o3, o4, o5] M') →
    dLoop (gdTup 2 (gdNames [4, 5])) (b2_needs_by A) .data (l.map DL.prD) Dd [some dv, some lv, some (.ref w), o3, o4, o5] M
  | [], M, cur, o3, o4, o5, _, _, nb, q => q M o3 o4 o5 nb
  | x :: t, M, cur, o3, o4, o5, hl, hc, nb, q => by
    have hx := hl x List.mem_cons_self
    refine ⟨rfl, rfl, _, rfl, _, rfl, _, rfl, .inl ⟨_, nb.hw, _, _, rfl, tab_val hx, ?_⟩⟩
    refine ⟨cur x.1, ?_, rfl, ?_⟩
    · show (match M (ad x.1) with | some (.lst xs) => some xs | _ => none) = _
      rw [nb.hc _ hx]
    · show br (!decide (x.2 ∈ cur x.1)) _ _
      have lc : ∀ n, (cur n).length + t.length ≤ 100 := fun n => by have := hc n; rw [List.length_cons] at this; omega
      by_cases z : x.2 ∈ cur x.1
      · refine brF (by rw [decide_eq_true z]; rfl) ?_
        refine nb_loop2 A g t M cur _ _ _ (fun y hy => hl y (List.mem_cons_of_mem _ hy)) lc nb fun M' o3 o4 o5 y => q M' o3 o4 o5 ?_
        have ec : lnkPut cur x = cur := if_pos z
        rw [List.foldl_cons, ec]; exact y
      · refine brT (by rw [decide_eq_false z]; rfl) ?_
        refine ⟨_, rfl, _, rfl, .inl ⟨_, nb.hw, _, _, rfl, tab_val hx, ?_⟩⟩
        have lx := hc x.1
        rw [List.length_cons] at lx
        refine ⟨⟨_, nb.hc _ hx⟩, _, rfl, _, nb.hc _ hx, ?_, ?_⟩
        · rw [List.length_map]; exact Nat.succ_le_of_lt (Nat.lt_of_le_of_lt (by omega : _ ≤ 100) (by decide))
        · rw [map_snoc]
          have ec : lnkPut cur x = upF cur x.1 (cur x.1 ++ [x.2]) := if_neg z
          refine nb_loop2 A g t _ (lnkPut cur x) _ _ _ (fun y hy => hl y (List.mem_cons_of_mem _ hy)) (fun n => ?_) (by rw [ec]; exact nb.put hx _) q
          rw [ec]
          unfold upF
          split
          · rw [List.length_append, List.length_singleton]; omega
          · exact lc n
theorem rd_needs_by (A : Ad) (hA : AdOk A) : ∀ ds M Qd Ed, sp_needs_by A ds M Qd Ed → t_needs_by A (ends Qd Ed) (dstart N_needs_by ds) M := by
  intro ds M Qd Ed h
  obtain ⟨m, dv, lv, rfl, g, hd, hl, q⟩ := h
  have l8 := g.l8
  have l16 := g.l16
  refine ⟨_, rfl, dv_asS hd ⟨by rw [List.length_map]; exact Nat.lt_of_le_of_lt l8 (by decide), ?_⟩⟩
  refine dc_lists (src := .data) (dv := devR (cA A)) (nm := fun r : Rw => r.nm) (M0 := M) _ (fun M' ex => trivial) (fun r M' ex Q z => ⟨_, rfl, rfl, rfl, rfl, rfl, ⟨r, rfl, z⟩⟩) m.rows [] (fun _ => 0) M (by rw [List.nil_append]; exact g.dup) (fun _ _ e => e) (fun _ z => nomatch z) (fun _ z => nomatch z) (fun _ z => nomatch z) fun M1 ad e1 c1 i1 f1 => ?_
  rw [List.nil_append] at c1 i1 f1 ⊢
  intro w hw
  have fw : M w = none := by
    cases z : M w with
    | none => rfl
    | some o => rw [e1 w o z] at hw; cases hw
  have nb : Nb M (updM M1 w (.dct (tab m.names fun n => .ref (ad n)))) m.names w ad fun _ => [] := by
    have ne : ∀ n ∈ m.names, ad n ≠ w := fun n hn z => by have := c1 n hn; rw [z, hw] at this; cases this
    exact ⟨updM_same, fun n hn => by rw [updM_ne (ne n hn)]; exact c1 n hn, i1, f1, ne, fw, fun b o e => by
      have : b ≠ w := fun z => by rw [z, fw] at e; cases e
      rw [updM_ne this]; exact e1 b o e⟩
  refine ⟨_, rfl, dv_asS hd ?_⟩
  refine nb_loop1 A m.rows _ _ none (fun r hr => List.mem_map.mpr ⟨r, hr, rfl⟩) (fun _ _ => rfl) g.dup nb fun M2 o3 nb2 => ?_
  refine ⟨_, rfl, lk_asS hl ?_⟩
  have lp : ∀ n, (m.rows.foldl parPut (fun _ => []) n).length ≤ 1 := fun n => by
    rw [par_fold _ _ _ g.dup, List.nil_append]
    cases (m.rows.find? fun r => decide (r.nm = n)).bind (·.par) with
    | none => exact Nat.zero_le _
    | some _ => exact Nat.le_refl _
  refine nb_loop2 A g m.links _ _ o3 none none (fun x hx => (g.lnk x hx).1) (fun n => by have := lp n; omega) nb2 fun M3 o3 o4 o5 nb3 => ?_
  obtain ⟨M4, z, k, ex⟩ := nb3.frz g.dup
  refine ⟨_, rfl, w, _, M4, _, rfl, nb3.hw, z, k, ?_⟩
  refine q w _ fw ?_ (ex _)
  rw [updM_same]
  exact congrArg (fun l => some (MO.dct l)) (tab_congr fun n hn => by rw [g.fold hn]; rfl)
theorem rd_needs_of (A : Ad) (hA : AdOk A) : ∀ ds M Qd Ed, sp_needs_of A ds M Qd Ed → t_needs_of A (ends Qd Ed) (dstart N_needs_of ds) M := by
  intro ds M Qd Ed h
  obtain ⟨m, dv, lv, rfl, g, hd, hl, q⟩ := h
  refine ⟨_, rfl, _, rfl, ⟨m, dv, lv, rfl, g, hd, hl, ?_⟩⟩
  exact ⟨_, rfl, _, rfl, ⟨m, dv, lv, rfl, g, hd, hl, q⟩⟩
theorem tab_keys {ns : List Str} {f : Str → D} : (tab ns f).map (fun kv => kD kv.1) = ns.map D.str := by
  unfold tab
  rw [List.map_map]
  rfl
theorem filt_str {p : D → Bool} {q : Str → Bool} : ∀ {ns : List Str}, (∀ n ∈ ns, p (.str n) = q n) → ((ns.map D.str).filter p).map id = (ns.filter q).map D.str
  | [], _ => rfl
  | n :: t, h => by
    have e := h n List.mem_cons_self
    have ih := filt_str (p := p) (q := q) (ns := t) fun x hx => h x (List.mem_cons_of_mem _ hx)
    rw [List.map_cons, List.filter_cons, List.filter_cons, e]
    split
    · rw [List.map_cons, List.map_cons, ih]; rfl
    · exact ih
theorem get_inj {α : Type} {l : List α} (hd : l.Nodup) {i j : Nat} {x : α} (h : l[i]? = some x) (k : l[j]? = some x) : i = j := by
  obtain ⟨a, ha⟩ := List.getElem?_eq_some_iff.mp h
  obtain ⟨b, hb⟩ := List.getElem?_eq_some_iff.mp k
  exact (List.getElem_inj hd).mp (ha.trans hb.symm)
def wyD (w : List Str) : MO := .lst (w.map D.str)
structure WyAt (B M : Mp) (s p : Addr) (x : Addr × List Str) : Prop where
  at' : M x.1 = some (wyD x.2)
  fr : B x.1 = none
  ns : x.1 ≠ s
  np : x.1 ≠ p
structure Rg (B M : Mp) (s p : Addr) (ks : List Str) (ws : List (Addr × List Str)) : Prop where
  ex : Ext B M
  hs : M s = some (.dct (tab ks fun _ => .bl true))
  hp : M p = some (.lst (ws.map fun x => D.ref x.1))
  sp : s ≠ p
  fs : B s = none
  fp : B p = none
  wm : ∀ x ∈ ws, WyAt B M s p x
theorem WyAt.upS {B M : Mp} {s p : Addr} {x : Addr × List Str} (h : WyAt B M s p x) (o : MO) : WyAt B (updM M s o) s p x := ⟨by rw [updM_ne h.ns]; exact h.at', h.fr, h.ns, h.np⟩
theorem WyAt.upP {B M : Mp} {s p : Addr} {x : Addr × List Str} (h : WyAt B M s p x) (o : MO) : WyAt B (updM M p o) s p x := ⟨by rw [updM_ne h.np]; exact h.at', h.fr, h.ns, h.np⟩
theorem WyAt.upN {B M : Mp} {s p q : Addr} {x : Addr × List Str} (h : WyAt B M s p x) (hq : M q = none) (o : MO) : WyAt B (updM M q o) s p x := ⟨by rw [updM_ne (fun z => by have := h.at'; rw [z, hq] at this; cases this)]; exact h.at', h.fr, h.ns, h.np⟩
theorem fr_loop3 (A : Ad) {m : Mc} (g : FairM m) {B : Mp} {w s p cp : Addr} {n c : Str} {cw : List Str} {Dd : DEnds} {k : Nat} (k20 : k ≤ 20) (hn : n ∈ m.names) (hc : cw.getLast? = some c) (hcn : c ∈ m.names)
    (rt : n ∈ m.needs c → ∀ M', Ext B M' → M' cp = some (wyD cw) → B cp = none → Dd.rt (.ref cp) M') : ∀ (xs pre ks : List Str) (ws : List (Addr × List Str)) (M : Mp) (o5 : Option D), pre ++ xs = m.needs c → Rg B M s p ks ws → WyAt B M s p (cp, cw) → Srch m.names m.needs n ks (ws.map (·.2)) (some (cw, pre)) → ws.length + m.names.length ≤ k + ks.length →
    (∀ M' ks' ws' o5, Rg B M' s p ks' ws' → Srch m.names m.needs n ks' (ws'.map (·.2)) none → ws'.length + m.names.length ≤ k + ks'.length → Dd.nx [some (.ref w), some (.str n), some (.ref s), some (.ref p), some (.ref cp), o5] M') →
    dLoop (gdName 5) (b3_first_ring A) .data (xs.map D.str) Dd [some (.ref w), some (.str n), some (.ref s), some (.ref p), some (.ref cp), o5] M
  | [], pre, ks, ws, M, o5, e, R, C, S, hk, q => by
    rw [List.append_nil] at e
    subst e
    exact q M ks ws o5 R (S.back hc) hk
  | x :: t, pre, ks, ws, M, o5, e, R, C, S, hk, q => by
    have xc : x ∈ m.needs c := by rw [← e]; exact List.mem_append_right _ List.mem_cons_self
    have xn := g.sub c hcn x xc
    have ln := g.n8
    have lk : ks.length ≤ m.names.length := S.len
    have e2 : (pre ++ [x]) ++ t = m.needs c := by rw [← e]; simp
    refine ⟨_, rfl, _, rfl, ?_⟩
    show br (decide (x = n)) _ _
    by_cases ne : x = n
    · refine brT (decide_eq_true ne) ?_
      exact ⟨_, rfl, rt (ne ▸ xc) M R.ex C.at' C.fr⟩
    refine brF (decide_eq_false ne) ?_
    refine ⟨_, rfl, _, rfl, .inl ⟨_, R.hs, _, rfl, ?_⟩⟩
    by_cases z : x ∈ ks
    · rw [tab_val z]
      exact fr_loop3 A g k20 hn hc hcn rt t (pre ++ [x]) ks ws M _ e2 R C (S.skip ne z) hk q
    · rw [tab_none z]
      refine ⟨_, rfl, _, rfl, s, _, _, rfl, R.hs, rfl, by rw [tab_len]; exact Nat.lt_of_le_of_lt (Nat.le_trans lk ln) (by decide), ?_⟩
      have e1 : putD (tab ks fun _ => .bl true) (.inr x) (.bl true) = tab (ks ++ [x]) fun _ => .bl true := by
        rw [tab_snoc z]
        refine congrArg (tab (ks ++ [x])) ?_
        funext y
        unfold upF
        split <;> rfl
      rw [e1]
      have hp2 : updM M s (.dct (tab (ks ++ [x]) fun _ => .bl true)) p = some (.lst (ws.map fun x => D.ref x.1)) := by rw [updM_ne R.sp.symm]; exact R.hp
      have C2 := C.upS (.dct (tab (ks ++ [x]) fun _ => .bl true))
      have lw := g.way_len hn (S.cw cw pre rfl).1.1
      refine ⟨_, rfl, ⟨_, hp2⟩, _, rfl, _, rfl, (by show 1 ≤ sizeLine; decide), ?_⟩
      refine ⟨_, C2.at', ?_, fun r hr => ?_⟩
      · rw [List.length_map]; exact Nat.le_trans (by show cw.length + 1 ≤ 20; omega) (by decide)
      have rs : r ≠ s := fun y => by rw [y, updM_same] at hr; cases hr
      have rp : r ≠ p := fun y => by rw [y, hp2] at hr; cases hr
      have fr : B r = none := R.ex.none (by rw [updM_ne rs] at hr; exact hr)
      generalize hM2 : updM M s (.dct (tab (ks ++ [x]) fun _ => .bl true)) = M2 at hp2 C2 hr
      have hs2 : M2 s = some (.dct (tab (ks ++ [x]) fun _ => .bl true)) := by rw [← hM2, updM_same]
      have ex2 : Ext B M2 := fun b o eb => by
        have n1 : b ≠ s := fun z => by rw [z, R.fs] at eb; cases eb
        rw [← hM2, updM_ne n1]; exact R.ex b o eb
      have wm2 : ∀ y ∈ ws, WyAt B M2 s p y := fun y hy => by rw [← hM2]; exact (R.wm y hy).upS _
      have ew : cw.map D.str ++ [.str x] = (cw ++ [x]).map D.str := by rw [List.map_append]; rfl
      rw [ew]
      refine ⟨_, by rw [updM_ne rp.symm]; exact hp2, by rw [List.length_map]; exact Nat.lt_of_le_of_lt (by omega : _ ≤ 28) (by decide), ?_⟩
      have el : (ws.map fun x => D.ref x.1) ++ [D.ref r] = (ws ++ [(r, cw ++ [x])]).map fun x => D.ref x.1 := by rw [List.map_append]; rfl
      rw [el]
      refine fr_loop3 A g k20 hn hc hcn rt t (pre ++ [x]) (ks ++ [x]) (ws ++ [(r, cw ++ [x])]) _ _ e2 ⟨fun b o eb => ?_, ?_, updM_same, R.sp, R.fs, R.fp, fun y hy => ?_⟩ ((C2.upN hr _).upP _) ?_ (by rw [List.length_append, List.length_append, List.length_singleton, List.length_singleton]; omega) q
      · have n1 : b ≠ r := fun z => by rw [z, fr] at eb; cases eb
        have n2 : b ≠ p := fun z => by rw [z, R.fp] at eb; cases eb
        rw [updM_ne n2, updM_ne n1]; exact ex2 b o eb
      · rw [updM_ne R.sp, updM_ne rs.symm]; exact hs2
      · rcases List.mem_append.mp hy with y1 | y1
        · exact ((wm2 y y1).upN hr _).upP _
        · rw [List.mem_singleton.mp y1]
          exact ⟨by show updM _ p _ r = _; rw [updM_ne rp, updM_same]; rfl, fr, rs, rp⟩
      · rw [List.map_append]
        exact S.put hc xc xn ne z
theorem fr_while (A : Ad) {m : Mc} (g : FairM m) {B : Mp} {w s p : Addr} {n : Str} {Dd : DEnds} {od us} (hw : B w = some (.dctL od us (tab m.names (wantsF m)))) (hn : n ∈ m.names) {M : Mp} {o4 o5 : Option D} {p0 : Addr} (R : Rg B M s p [] [(p0, [n])])
    (q : ¬ Rch m.needs n n → ∀ M' δ, δ.length = 6 → δ[0]? = some (some (.ref w)) → Ext B M' → Dd.nx δ M')
    (rt : ∀ cp cw, RingAt m.needs n cw → ∀ M', Ext B M' → M' cp = some (wyD cw) → B cp = none → Dd.rt (.ref cp) M') :
    dWhile (dTest (dOp (dE0 not) (dVar 3) (dLst (dNil)))) (b2_first_ring A) Dd [some (.ref w), some (.str n), some (.ref s), some (.ref p), o4, o5] M := by
  have ln := g.n8
  refine while_inv (fun k δ M => ∃ p ks ws o4 o5, δ = [some (.ref w), some (.str n), some (.ref s), some (.ref p), o4, o5] ∧ Rg B M s p ks ws ∧ Srch m.names m.needs n ks (ws.map (·.2)) none ∧ ws.length + m.names.length ≤ k + ks.length ∧ k ≤ 20) 20 ⟨p, [], [(p0, [n])], o4, o5, rfl, R, Srch.start hn, by show 1 + _ ≤ 20 + 0; omega, Nat.le_refl _⟩ (fun k δ M NN J nx => ?_)
  obtain ⟨p, ks, ws, o4, o5, rfl, R, S, hk, k20⟩ := J
  refine ⟨_, rfl, (Nat.zero_le _), rfl, _, R.hp, ?_⟩
  cases ws with
  | nil => exact q S.stop M _ rfl rfl R.ex
  | cons x t =>
    obtain ⟨cp, cw⟩ := x
    have S1 : Srch m.names m.needs n ks (t.map (·.2)) (some (cw, [])) := S.pop
    obtain ⟨way, wsub⟩ := (S1.cw cw [] rfl).1
    obtain ⟨c, hc⟩ := way.last
    have hcn : c ∈ m.names := (wsub c (List.mem_of_getLast? hc)).1
    have C := R.wm (cp, cw) List.mem_cons_self
    have lk2 : ks.length ≤ m.names.length := S.len
    rw [List.length_cons] at hk
    refine ⟨_, rfl, _, R.hp, ?_, ?_, fun p' hp' => ?_⟩
    · rw [List.map_cons, List.length_cons]; omega
    · rw [List.map_cons, List.length_cons, List.length_map]; omega
    have es : stF 1 (((cp, cw) :: t).map fun x => D.ref x.1) ++ [D.ref p'] ++ stL 2 1 (((cp, cw) :: t).map fun x => D.ref x.1) = [.ref cp, .ref p'] := by
      unfold stF stL
      simp
    have em : DL.stM 2 1 (((cp, cw) :: t).map fun x => D.ref x.1) = t.map fun x => D.ref x.1 := by
      unfold DL.stM
      rw [List.length_map, List.length_cons, List.map_cons]
      show (t.map fun x => D.ref x.1).take (t.length + 1 + 1 - 2) = _
      exact List.take_of_length_le (by rw [List.length_map]; omega)
    rw [es, em]
    refine ⟨rfl, ?_⟩
    have fp' : B p' = none := R.ex.none hp'
    have sp' : s ≠ p' := fun z => by have := R.hs; rw [z, hp'] at this; cases this
    have wy' : ∀ x, WyAt B M s p x → WyAt B (updM M p' (.lst (t.map fun x => D.ref x.1))) s p' x := fun x h => ⟨(h.upN hp' _).at', h.fr, h.ns, fun z => by have := h.at'; rw [z, hp'] at this; cases this⟩
    have R2 : Rg B (updM M p' (.lst (t.map fun x => D.ref x.1))) s p' ks t := ⟨fun b o e => by
      have : b ≠ p' := fun z => by rw [z, fp'] at e; cases e
      rw [updM_ne this]; exact R.ex b o e, by rw [updM_ne sp']; exact R.hs, updM_same, sp', R.fs, fp', fun x hx => wy' x (R.wm x (List.mem_cons_of_mem _ hx))⟩
    have C2 := wy' _ C
    have la : atI (cw.map D.str) (-1) = some (.str c) := by
      obtain ⟨u, e⟩ := List.getLast?_eq_some_iff.mp hc
      rw [e, List.map_append]
      exact atI_last
    refine ⟨_, rfl, _, rfl, _, C2.at', _, la, .inr ⟨od, us, _, R2.ex _ _ hw, _, _, rfl, tab_val hcn, ?_⟩⟩
    refine fr_loop3 A g (k := k - 1) (by omega) hn hc hcn ?_ (m.needs c) [] ks t _ o5 rfl R2 C2 S1 (by omega) ?_
    · exact fun h M' ex h1 h2 => rt cp cw ⟨way, fun c' h' => by rw [hc] at h'; rw [← Option.some.inj h']; exact h⟩ M' ex h1 h2
    intro M' ks' ws' o5 R3 S3 h3
    exact nx (k - 1) _ M' (by omega) ⟨p', ks', ws', _, o5, rfl, R3, S3, h3, by omega⟩
theorem fr_loop1 (A : Ad) {m : Mc} (g : FairM m) {B : Mp} {w : Addr} {Dd : DEnds} {od us} (hw : B w = some (.dctL od us (tab m.names (wantsF m)))) (q : NoRing m.names m.needs → ∀ M' δ, Ext B M' → Dd.nx δ M')
    (rt : ∀ n cp cw, FirstR m n cw → ∀ M', Ext B M' → M' cp = some (wyD cw) → B cp = none → Dd.rt (.ref cp) M') :
    ∀ (xs pre : List Str) (M : Mp) (δ : DS), pre ++ xs = m.names → (∀ x ∈ pre, ¬ Rch m.needs x x) → δ.length = 6 → δ[0]? = some (some (.ref w)) → Ext B M →
    dLoop (gdName 1) (b1_first_ring A) (.lk w (.dctL od us (tab m.names (wantsF m)))) (xs.map D.str) Dd δ M
  | [], pre, M, δ, e, hp, _, _, ex => by
    rw [List.append_nil] at e
    exact ⟨ex _ _ hw, q (fun n hn => hp n (by rw [e]; exact hn)) M δ ex⟩
  | x :: t, pre, M, δ, e, hp, l6, h0, ex => by
    have hx : x ∈ m.names := by rw [← e]; exact List.mem_append_right _ List.mem_cons_self
    match δ, l6 with
    | [a0, a1, a2, a3, a4, a5], _ =>
    cases h0
    refine ⟨ex _ _ hw, fun s hs => ⟨_, rfl, (by show 1 ≤ sizeLine; decide), fun p0 hp0 => ⟨(by show 1 ≤ sizeLine; decide), fun p hp1 => ?_⟩⟩⟩
    have fs : B s = none := ex.none hs
    have s0 : p0 ≠ s := fun z => by rw [z, updM_same] at hp0; cases hp0
    have f0 : B p0 = none := by rw [updM_ne s0] at hp0; exact ex.none hp0
    have p0p : p0 ≠ p := fun z => by rw [← z, updM_same] at hp1; cases hp1
    have sp : s ≠ p := fun z => by rw [← z, updM_ne s0.symm, updM_same] at hp1; cases hp1
    have fp : B p = none := by rw [updM_ne p0p.symm, updM_ne sp.symm] at hp1; exact ex.none hp1
    refine fr_while A g hw hx (s := s) (p := p) (p0 := p0) ⟨fun b o e => ?_, ?_, updM_same, sp, fs, fp, fun y hy => ?_⟩ (fun nr M' δ l6 h0 ex' => ?_) fun cp cw r M' ex' h1 h2 => ?_
    · have n1 : b ≠ s := fun z => by rw [z, fs] at e; cases e
      have n2 : b ≠ p := fun z => by rw [z, fp] at e; cases e
      have n3 : b ≠ p0 := fun z => by rw [z, f0] at e; cases e
      rw [updM_ne n2, updM_ne n3, updM_ne n1]; exact ex b o e
    · rw [updM_ne sp, updM_ne s0.symm]; exact updM_same
    · rw [List.mem_singleton.mp hy]
      exact ⟨by show updM _ p _ p0 = _; rw [updM_ne p0p, updM_same]; rfl, f0, s0, p0p⟩
    · exact fr_loop1 A g hw q rt t (pre ++ [x]) M' δ (by rw [← e]; simp) (fun y hy => by
        rcases List.mem_append.mp hy with z | z
        · exact hp y z
        · rw [List.mem_singleton.mp z]; exact nr) l6 h0 ex'
    · refine rt x cp cw ⟨hx, fun i hi j y hj hy => ?_, r⟩ M' ex' h1 h2
      have hd := g.dup
      rw [← e] at hi hy
      have il : i = pre.length := by
        refine get_inj (by rw [e]; exact hd) hi ?_
        rw [List.getElem?_append_right (Nat.le_refl _), Nat.sub_self]
        rfl
      rw [List.getElem?_append_left (by omega)] at hy
      exact hp y (List.mem_of_getElem? hy)
theorem rd_first_ring (A : Ad) (hA : AdOk A) : ∀ ds M Qd Ed, sp_first_ring A ds M Qd Ed → t_first_ring A (ends Qd Ed) (dstart N_first_ring ds) M := by
  intro ds M Qd Ed h
  obtain ⟨m, w, rfl, g, hw, q, rt⟩ := h
  refine ⟨w, _, hw, fun od us => ?_⟩
  have h1 : updM M w (.dctL od us (tab m.names (wantsF m))) w = some (.dctL od us (tab m.names (wantsF m))) := updM_same
  have bk : ∀ M', Ext (updM M w (.dctL od us (tab m.names (wantsF m)))) M' → Ext M (updM M' w (.dct (tab m.names (wantsF m)))) := fun M' ex b o e => by
    by_cases z : b = w
    · rw [z, updM_same, ← e, z, hw]; rfl
    · rw [updM_ne z]; exact ex b o (by rw [updM_ne z]; exact e)
  refine ⟨_, rfl, od, us, _, h1, ?_⟩
  rw [tab_keys]
  refine fr_loop1 A g h1 ?_ ?_ m.names [] _ _ rfl (fun _ z => nomatch z) rfl rfl (Ext.refl _)
  · exact fun nr M' δ ex => ⟨ex _ _ h1, q (g.good nr) _ (bk M' ex)⟩
  · intro n cp cw F M' ex h2 h3
    refine ⟨ex _ _ h1, ?_⟩
    have cw' : cp ≠ w := fun z => by rw [z, h1] at h3; cases h3
    exact rt n cw cp _ F (by rw [updM_ne cw'] at h3; exact h3) (by rw [updM_ne cw']; exact h2) (bk M' ex)
theorem ripe_head {m : Mc} (g : GoodM m) {i : Nat} (hi : i < m.names.length) : ∃ x t, ripe m.names m.needs (ordN m.names m.needs i) = x :: t := by
  have o := ord_ok g.ranked i (Nat.le_of_lt hi)
  have ne := ripe_ne g.ranked (more_left g.dup o.dup (by rw [o.len]; exact hi))
  cases q : ripe m.names m.needs (ordN m.names m.needs i) with
  | nil => exact absurd q ne
  | cons x t => exact ⟨x, t, rfl⟩
theorem order_loop (A : Ad) {m : Mc} (g : GoodM m) {M0 : Mp} {w f : Addr} {Dd : DEnds} (hw : M0 w = some (wtO m)) (ff : M0 f = none) {M : Mp} (ex : Ext M0 M) (hf : M f = some (.lst [])) {o2 o3 o4 : Option D}
    (q : ∀ M' o2 o3 o4, Ext M0 M' → M' f = some (.lst (m.order.map D.str)) → Dd.nx [some (.ref w), some (.ref f), o2, o3, o4] M') :
    dWhile (dTest (dOp dLt (dCB dLen (dCn (dVar 1) (dNil))) (dCB dLen (dCn (dVar 0) (dNil))))) (b1_order_by A) Dd [some (.ref w), some (.ref f), o2, o3, o4] M := by
  have ln := g.fair.n8
  refine while_inv (fun k δ M => ∃ i o2 o3 o4, k = m.names.length - i ∧ i ≤ m.names.length ∧ δ = [some (.ref w), some (.ref f), o2, o3, o4] ∧ M f = some (.lst ((ordN m.names m.needs i).map D.str)) ∧ Ext M0 M) m.names.length ⟨0, o2, o3, o4, rfl, Nat.zero_le _, rfl, hf, ex⟩ (fun k δ M NN J nx => ?_)
  obtain ⟨i, o2, o3, o4, rfl, hi, rfl, hf, ex⟩ := J
  have hw1 : M w = some (.dct (tab m.names (wantsF m))) := ex _ _ hw
  have ol := (ord_ok g.ranked i hi).len
  refine ⟨_, rfl, _, hf, _, rfl, _, hw1, ?_⟩
  show br (decide (((((ordN m.names m.needs i).map D.str).length : Nat) : Int) < ((tab m.names (wantsF m)).length : Nat))) _ _
  rw [List.length_map, tab_len, ol]
  show br (decide (((i : Nat) : Int) < (m.names.length : Nat))) _ _
  have wf : w ≠ f := fun z => by rw [← z, hw] at ff; cases ff
  refine br2 (fun c => ?_) (fun c => ?_)
  · have lt : i < m.names.length := by have := of_decide_eq_true c; omega
    refine ⟨w, _, hw1, fun od us => ?_⟩
    have h1 : updM M w (.dctL od us (tab m.names (wantsF m))) w = some (.dctL od us (tab m.names (wantsF m))) := updM_same
    have hf1 : updM M w (.dctL od us (tab m.names (wantsF m))) f = some (.lst ((ordN m.names m.needs i).map D.str)) := by rw [updM_ne wf.symm]; exact hf
    have back : updM (updM M w (.dctL od us (tab m.names (wantsF m)))) w (.dct (tab m.names (wantsF m))) = M := by
      funext b
      by_cases z : b = w
      · rw [z, updM_same, hw1]
      · rw [updM_ne z, updM_ne z]
    generalize updM M w (.dctL od us (tab m.names (wantsF m))) = M1 at h1 hf1 back ⊢
    refine ⟨_, rfl, od, us, _, h1, ?_⟩
    rw [tab_keys]
    refine ⟨by rw [List.length_map]; exact Nat.lt_of_le_of_lt ln (by decide), ?_⟩
    obtain ⟨x, t, er⟩ := ripe_head g lt
    have es : seqD M1 (.ref f) = some ((ordN m.names m.needs i).map D.str) := by
      show (match M1 f with | some (.lst xs) => some xs | _ => none) = _
      rw [hf1]
    obtain ⟨fd, efd⟩ : ∃ fd, ordN m.names m.needs i = fd := ⟨_, rfl⟩
    rw [efd] at hf1 er es ol hf
    refine comp_filt1 (fun d => match d with | .str n => decide (n ∉ fd) && (m.needs n).all fun o => decide (o ∈ fd) | _ => false) id (by exact h1) _ (fun d hd Q z => ?_) (fun d hd _ Q z => ⟨_, rfl, z⟩) (by rw [List.length_map]; exact Nat.le_trans ln (by decide)) ⟨h1, ?_⟩
    · obtain ⟨n, hn, rfl⟩ := List.mem_map.mp hd
      have z : Q (decide (n ∉ fd) && (m.needs n).all fun o => decide (o ∈ fd)) M1 := z
      refine ⟨_, rfl, _, rfl, fd, es, rfl, ?_⟩
      show br (!decide (n ∈ fd)) _ _
      by_cases c2 : n ∈ fd
      · refine brF (by rw [decide_eq_true c2]; rfl) ?_
        rw [show (decide (n ∉ fd)) = false from decide_eq_false (fun z => z c2)] at z
        exact z
      · refine brT (by rw [decide_eq_false c2]; rfl) ?_
        rw [show (decide (n ∉ fd)) = true from decide_eq_true c2, Bool.true_and] at z
        have nl := g.fair.nl hn
        refine ⟨_, rfl, _, rfl, .inr ⟨od, us, _, h1, _, _, rfl, tab_val hn, ?_⟩⟩
        refine ⟨by rw [List.length_map]; exact Nat.lt_of_le_of_lt nl (by decide), ?_⟩
        refine comp_map1 (fun d => match d with | .str o => .bl (decide (o ∈ fd)) | _ => .non) (by exact trivial) _ (fun d hd Q z => ?_) (by rw [List.length_map]; exact Nat.le_trans nl (by decide)) ?_
        · obtain ⟨o, ho, rfl⟩ := List.mem_map.mp hd
          exact ⟨_, rfl, _, rfl, fd, es, rfl, z⟩
        · refine ⟨(m.needs n).map fun o => decide (o ∈ fd), by rw [List.map_map, List.map_map]; rfl, ?_⟩
          rw [List.all_map]
          exact z
    · rw [back, filt_str (q := fun n => decide (n ∉ fd) && (m.needs n).all fun o => decide (o ∈ fd)) fun _ _ => rfl]
      rw [show (m.names.filter fun n => decide (n ∉ fd) && (m.needs n).all fun o => decide (o ∈ fd)) = x :: t from er]
      refine ⟨_, rfl, ⟨_, hf⟩, _, rfl, _, at0, _, hf, ?_, ?_⟩
      · rw [List.length_map, ol]; exact Nat.lt_of_le_of_lt (Nat.le_trans hi ln) (by decide)
      · rw [map_snoc]
        refine nx (m.names.length - (i + 1)) _ _ (by omega) ⟨i + 1, _, _, _, rfl, lt, rfl, ?_, ex.upd ff⟩
        rw [updM_same]
        show _ = some (MO.lst (((ordN m.names m.needs i) ++ (ripe m.names m.needs (ordN m.names m.needs i)).take 1).map D.str))
        rw [efd, er]
        rfl
  · have eq : i = m.names.length := by have := of_decide_eq_false c; omega
    refine q M _ _ _ ex ?_
    rw [hf, eq]
    rfl
theorem rd_order_by (A : Ad) (hA : AdOk A) : ∀ ds M Qd Ed, sp_order_by A ds M Qd Ed → t_order_by A (ends Qd Ed) (dstart N_order_by ds) M := by
  intro ds M Qd Ed h
  obtain ⟨m, w, rfl, g, hw, q⟩ := h
  refine ⟨Nat.zero_le _, fun f hf => ?_⟩
  refine order_loop A g hw hf (Ext.fresh hf _) updM_same fun M' o2 o3 o4 ex e => ?_
  exact ⟨_, rfl, q f M' hf e ex⟩
theorem RingQ.up {m : Mc} {M M1 : Mp} {k : D → Mp → Prop} (h : RingQ m M k) (ex : Ext M M1) : RingQ m M1 k := fun n w p M' F hp hm e => h n w p M' F (ex.none hp) hm (ex.trans e)
theorem rd_order_of (A : Ad) (hA : AdOk A) : ∀ ds M Qd Ed, sp_order_of A ds M Qd Ed → t_order_of A (ends Qd Ed) (dstart N_order_of ds) M := by
  intro ds M Qd Ed h
  obtain ⟨m, dv, lv, rfl, g, hd, hl, q, rt⟩ := h
  refine ⟨_, rfl, _, rfl, rfl, rfl, ⟨m, dv, lv, rfl, g, hd, hl, fun w M1 fw hw ex => ?_⟩⟩
  refine ⟨_, rfl, ⟨m, w, rfl, g, hw, fun gm M2 ex2 => ?_, fun n way p M2 F hp hm ex2 => ?_⟩⟩
  · refine ⟨_, rfl, ?_⟩
    exact ⟨_, rfl, ⟨m, w, rfl, gm, ex2 _ _ hw, fun p M3 hp h3 ex3 => q gm p M3 ((ex.trans ex2).none hp) h3 ((ex.trans ex2).trans ex3)⟩⟩
  · refine ⟨_, rfl, ?_⟩
    exact ⟨_, rfl, rt n way p M2 F (ex.none hp) hm (ex.trans ex2)⟩
structure Fill (C a : Addr) (M0 M : Mp) (fs : List (Str × D)) (L : List (Addr × MO)) : Prop where
  self : M a = some (.ins C fs)
  cel : ∀ x ∈ L, M x.1 = some x.2 ∧ x.1 ≠ a
  but : But a M0 M
theorem Fill.put {C a : Addr} {M0 M : Mp} {fs : List (Str × D)} {L : List (Addr × MO)} (h : Fill C a M0 M fs L) (fs' : List (Str × D)) : Fill C a M0 (updM M a (.ins C fs')) fs' L :=
  ⟨updM_same, fun x hx => ⟨by rw [updM_ne (h.cel x hx).2]; exact (h.cel x hx).1, (h.cel x hx).2⟩, fun b o n e => by rw [updM_ne n]; exact h.but b o n e⟩
theorem Fill.ext {C a : Addr} {M0 M M' : Mp} {fs : List (Str × D)} {L : List (Addr × MO)} (h : Fill C a M0 M fs L) (x : Ext M M') : Fill C a M0 M' fs L :=
  ⟨x _ _ h.self, fun y hy => ⟨x _ _ (h.cel y hy).1, (h.cel y hy).2⟩, fun b o n e => x _ _ (h.but b o n e)⟩
theorem rd_m_Machine_init (A : Ad) (hA : AdOk A) : ∀ ds M Qd Ed, sp_m_Machine_init A ds M Qd Ed → t_m_Machine_init A (ends Qd Ed) (dstart N_m_Machine_init ds) M := by
  intro ds M Qd Ed h
  obtain ⟨m, dv, lv, x, rfl, g, hd, hl, hx, q, rt⟩ := h
  refine ⟨_, rfl, _, rfl, rfl, rfl, ⟨m, dv, lv, rfl, g, hd, hl, fun gm p M1 fp hp e1 => ?_, rt⟩⟩
  have px : p ≠ x := fun z => by rw [z, hx] at fp; cases fp
  have F1 : Fill A.c_Machine x M M1 [] [(p, .lst (m.order.map D.str))] := ⟨e1 _ _ hx, (fun y hy => by rw [List.mem_singleton.mp hy]; exact ⟨hp, px⟩), fun b o n e => e1 _ _ e⟩
  refine ⟨_, rfl, _, _, F1.self, List.mem_cons_self, (show 0 < 1000 by decide), ?_⟩
  have F2 := F1.put (putFD "in_order" (.ref p) [])
  have fin : ∀ d1 d2, dSetF [A.c_Machine] "wants" (dVar 0) (dCall (sp_needs_by A) (dCn (dVar 1) (dCn (dVar 2) (dNil)))) (ends Qd Ed) [some (.ref x), some dv, some lv] (updM (updM (updM M1 x (.ins A.c_Machine (putFD "in_order" (.ref p) []))) x (.ins A.c_Machine (putFD "parts" d1 (putFD "in_order" (.ref p) [])))) x (.ins A.c_Machine (putFD "pairs" d2 (putFD "parts" d1 (putFD "in_order" (.ref p) []))))) := fun d1 d2 => by
    have F3 := F2.put (putFD "parts" d1 (putFD "in_order" (.ref p) []))
    have F4 := F3.put (putFD "pairs" d2 (putFD "parts" d1 (putFD "in_order" (.ref p) [])))
    refine ⟨_, rfl, _, rfl, ⟨m, dv, lv, rfl, g, hd, hl, fun w M5 fw hw ex => ?_⟩⟩
    have F5 := F4.ext ex
    refine ⟨_, rfl, _, _, F5.self, List.mem_cons_self, (show 3 < 1000 by decide), ?_⟩
    have F6 := F5.put (putFD "wants" (.ref w) (putFD "pairs" d2 (putFD "parts" d1 (putFD "in_order" (.ref p) []))))
    exact q gm p _ _ fp px (F6.cel _ List.mem_cons_self).1 F6.self rfl F6.but
  have F3 := fun d1 => F2.put (putFD "parts" d1 (putFD "in_order" (.ref p) []))
  have mid : ∀ d1, dSeq (dSetF [A.c_Machine] "pairs" (dVar 0) (dCB dList (dCn (dVar 2) (dNil)))) (dSetF [A.c_Machine] "wants" (dVar 0) (dCall (sp_needs_by A) (dCn (dVar 1) (dCn (dVar 2) (dNil))))) (ends Qd Ed) [some (.ref x), some dv, some lv] (updM (updM M1 x (.ins A.c_Machine (putFD "in_order" (.ref p) []))) x (.ins A.c_Machine (putFD "parts" d1 (putFD "in_order" (.ref p) [])))) := fun d1 => by
    rcases id hl with rfl | rfl
    all_goals exact ⟨_, rfl, _, rfl, _, _, (F3 d1).self, List.mem_cons_self, (show 2 < 1000 by decide), fin d1 _⟩
  rcases id hd with rfl | rfl
  all_goals exact ⟨_, rfl, _, rfl, _, _, F2.self, List.mem_cons_self, (show 1 < 1000 by decide), mid _⟩
theorem rd_m_Machine_order (A : Ad) (hA : AdOk A) : ∀ ds M Qd Ed, sp_m_Machine_order A ds M Qd Ed → t_m_Machine_order A (ends Qd Ed) (dstart N_m_Machine_order ds) M := by
  intro ds M Qd Ed h
  obtain ⟨p, fs, xs, rfl, hp, hl, q⟩ := h
  exact ⟨_, rfl, List.mem_cons_self, _, rfl, _, hp, fun p' fp => q p' _ fp updM_same (Ext.fresh fp _)⟩
theorem rd__law_asked (A : Ad) (hA : AdOk A) : ∀ ds M Qd Ed, sp__law_asked A ds M Qd Ed → t__law_asked A (ends Qd Ed) (dstart N__law_asked ds) M := by
  intro ds M Qd Ed h
  obtain ⟨m, dv, lv, i, rfl, g, hd, hl, q, rt⟩ := h
  have rt' : ∀ M1, Ext M M1 → RingQ m M1 fun d M' => ∀ dd : Addr, M' dd = none → Qd (.lst [.str "ring", d]) (updM M' dd (.xd [("found", d)])) := fun M1 e1 n w p M' F hp hm ex dd hdd => by
    have pd : p ≠ dd := fun z => by rw [z, hdd] at hm; cases hm
    exact rt n w p _ F (e1.none hp) (by rw [updM_ne pd]; exact hm) ((e1.trans ex).trans (Ext.new hdd))
  refine ⟨_, rfl, ?_⟩
  refine br2 (fun c => ?_) (fun c => ?_)
  · refine ⟨_, rfl, _, rfl, rfl, rfl, fun x hx => ?_⟩
    have ex0 : Ext M (updM M x (.ins A.c_Machine [])) := Ext.new hx
    refine ⟨m, dv, lv, x, rfl, g, hd, hl, updM_same, fun gm p fs M' fp px hp hx' lo bt => ⟨rfl, _, hx', ?_⟩, fun n w p M' F hp hm ex => ⟨true, hA.xm_Ring_Ring, fun a dd ha hdd ne => ⟨_, rfl, rfl, rfl, dd, _, _, rfl, updM_same, rfl, (show 2 ≤ sizeLine by decide), rt' _ ex0 n w p M' F hp hm ex dd hdd⟩⟩⟩
    rw [updM_ne px] at fp
    have bx : ∀ b o, M b = some o → b ≠ x := fun b o e z => by rw [z, hx] at e; cases e
    have exd : Ext M (delM M' x) := fun b o e => by rw [delM_ne (bx b o e)]; exact bt b o (bx b o e) (by rw [updM_ne (bx b o e)]; exact e)
    refine ⟨lo, rfl, rfl, rfl, ⟨p, fs, _, rfl, by rw [delM_ne px]; exact hp, by rw [List.length_map]; exact Nat.le_trans (by rw [gm.ord.len]; exact g.n8) (by decide), fun p' M2 fp' hp' ex2 => ⟨(show 2 ≤ sizeLine by decide), q gm p' M2 (exd.none fp') hp' (exd.trans ex2)⟩⟩⟩
  · refine ⟨_, rfl, _, rfl, rfl, rfl, ⟨m, dv, lv, rfl, g, hd, hl, fun gm p M' fp hp ex => ⟨(show 2 ≤ sizeLine by decide), q gm p M' fp hp ex⟩, fun n w p M' F hp hm ex => ⟨true, hA.xm_Ring_Ring, fun a dd ha hdd ne => ⟨_, rfl, rfl, rfl, dd, _, _, rfl, updM_same, rfl, (show 2 ≤ sizeLine by decide), rt' _ (Ext.refl _) n w p M' F hp hm ex dd hdd⟩⟩⟩⟩
theorem RowsAt.zip {M : Mp} {ra : Addr} {ps : List Addr} {rs : List Rw} (h : RowsAt M ra ps rs) : ∃ l : List (Addr × Rw), ps = l.map (·.1) ∧ rs = l.map (·.2) ∧ ∀ x ∈ l, M x.1 = some (rwL x.2) := by
  refine ⟨ps.zip rs, ?_, ?_, fun x hx => ?_⟩
  · rw [List.map_fst_zip]; exact Nat.le_of_eq h.len
  · rw [List.map_snd_zip]; exact Nat.le_of_eq h.len.symm
  · obtain ⟨i, hi, e⟩ := List.getElem_of_mem hx
    have e2 : (ps.zip rs)[i]? = some x := by rw [List.getElem?_eq_getElem hi, e]
    obtain ⟨a, b⟩ := List.getElem?_zip_eq_some.mp e2
    exact h.at' i _ _ a b
theorem ln_loop2 (A : Ad) {ra rp w p : Addr} {la : D} {src : Src} {r : Rw} {Dd : DEnds} {M0 : Mp} (hsrc : ∀ M, (∀ a, a ≠ p → M a = M0 a) → src.holds M) (hrp : M0 rp = some (rwL r)) (rpp : rp ≠ p) : ∀ (l : List (Str × Str)) (M : Mp) (acc : List Str) (o5 o6 : Option D), acc.length + l.length ≤ 100 → (∀ a, a ≠ p → M a = M0 a) → M p = some (.lst (acc.map D.str)) →
    (∀ M' o5 o6, (∀ a, a ≠ p → M' a = M0 a) → M' p = some (.lst ((l.foldl (linkAdd r.nm) acc).map D.str)) → Dd.nx [some (.ref ra), some la, some (.ref w), some (.ref rp), some (.ref p), o5, o6] M') →
    dLoop (gdTup 2 (gdNames [5, 6])) (b2__law_needs A) src (l.map DL.prD) Dd [some (.ref ra), some la, some (.ref w), some (.ref rp), some (.ref p), o5, o6] M
  | [], M, acc, o5, o6, _, hm, hp, q => Src.okI (hsrc M hm) (q M o5 o6 hm hp)
  | x :: t, M, acc, o5, o6, hl, hm, hp, q => by
    rw [List.length_cons] at hl
    have hrp1 : M rp = some (.lst [.str r.nm, oStr r.par, .int r.burn, .int r.sip, .int r.wake, .int r.fall, .int r.rest]) := by rw [hm rp rpp]; exact hrp
    refine Src.okI (hsrc M hm) ⟨rfl, rfl, _, rfl, _, rfl, _, hrp1, _, rfl, ?_⟩
    show br (decide (x.1 = r.nm)) _ _
    have skip : ∀ o5 o6, linkAdd r.nm acc x = acc → dLoop (gdTup 2 (gdNames [5, 6])) (b2__law_needs A) src (t.map DL.prD) Dd [some (.ref ra), some la, some (.ref w), some (.ref rp), some (.ref p), o5, o6] M := fun o5 o6 e =>
      ln_loop2 A hsrc hrp rpp t M acc o5 o6 (by omega) hm hp fun M' o5 o6 k h => q M' o5 o6 k (by rw [List.foldl_cons, e]; exact h)
    refine br2 (fun c => ?_) (fun c => ?_)
    · have c := of_decide_eq_true c
      refine ⟨_, rfl, _, rfl, acc, ?_, rfl, ?_⟩
      · show (match M p with | some (.lst xs) => some xs | _ => none) = _
        rw [hp]
      show br (!decide (x.2 ∈ acc)) _ _
      by_cases z : x.2 ∈ acc
      · refine brF (by rw [decide_eq_true z]; rfl) ?_
        exact skip _ _ (if_neg (fun y => y.2 z))
      · refine brT (by rw [decide_eq_false z]; rfl) ?_
        have e : linkAdd r.nm acc x = acc ++ [x.2] := if_pos ⟨c, z⟩
        refine ⟨_, rfl, ⟨_, hp⟩, _, rfl, _, hp, by rw [List.length_map]; exact Nat.lt_of_le_of_lt (by omega : _ ≤ 100) (by decide), ?_⟩
        rw [map_snoc]
        refine ln_loop2 A hsrc hrp rpp t _ (acc ++ [x.2]) _ _ (by rw [List.length_append, List.length_singleton]; omega) (fun a n => by rw [updM_ne n]; exact hm a n) updM_same fun M' o5 o6 k h => q M' o5 o6 k (by rw [List.foldl_cons, e]; exact h)
    · have c := of_decide_eq_false c
      exact skip _ _ (if_neg (fun y => c y.1))
theorem ln_loop1 (A : Ad) {m : Mc} (g : FairM m) {ra w : Addr} {la : D} {ps : List Addr} {M0 : Mp} {Dd : DEnds} (hra : M0 ra = some (.lst (ps.map D.ref))) (hla : la = .lst (m.links.map DL.prD) ∨ ∃ a, la = .ref a ∧ M0 a = some (.lst (m.links.map DL.prD))) (q : ∀ M' ad o3 o4 o5 o6, Nb M0 M' m.names w ad m.needs → Dd.nx [some (.ref ra), some la, some (.ref w), o3, o4, o5, o6] M') :
    ∀ (l : List (Addr × Rw)) (pre : List Rw) (M : Mp) (ad : Str → Addr) (o3 o4 o5 o6 : Option D), pre ++ l.map (·.2) = m.rows → (∀ x ∈ l, M0 x.1 = some (rwL x.2)) → Nb M0 M (pre.map (·.nm)) w ad m.needs → dLoop (gdName 3) (b1__law_needs A) (.at ra (ps.map D.ref)) (l.map fun x => D.ref x.1) Dd [some (.ref ra), some la, some (.ref w), o3, o4, o5, o6] M
  | [], pre, M, ad, o3, o4, o5, o6, e, _, nb => by
    rw [List.map_nil, List.append_nil] at e
    subst e
    exact ⟨nb.ex _ _ hra, q M ad o3 o4 o5 o6 nb⟩
  | (rp, r) :: t, pre, M, ad, o3, o4, o5, o6, e, hx, nb => by
    have hr : r ∈ m.rows := by rw [← e]; exact List.mem_append_right _ List.mem_cons_self
    have l16 := g.l16
    have dn := g.dup
    have dn : ((pre ++ r :: t.map (·.2)).map (·.nm)).Nodup := by have := e; rw [List.map_cons] at this; rw [this]; exact dn
    have nr : r.nm ∉ pre.map (·.nm) := fun z => by
      rw [List.map_append, List.nodup_append] at dn
      exact dn.2.2 _ z _ List.mem_cons_self rfl
    have lp : pre.length ≤ 8 := by
      have := congrArg List.length e
      have := g.l8
      rw [List.length_append] at *
      omega
    have hrp0 := hx (rp, r) List.mem_cons_self
    have hrp1 : M rp = some (.lst [.str r.nm, oStr r.par, .int r.burn, .int r.sip, .int r.wake, .int r.fall, .int r.rest]) := nb.ex _ _ hrp0
    have key : ∀ p, M p = none → dFor (iL (dVar 1)) (gdTup 2 (gdNames [5, 6])) (b2__law_needs A) { Dd with nx := fun δ M => dAsg (dVar 4) (gdSubD (dVar 2) (dOp dIx (dVar 3) (dC (.int 0)))) { Dd with nx := dLoop (gdName 3) (b1__law_needs A) (.at ra (ps.map D.ref)) (t.map fun x => D.ref x.1) Dd, bk := Dd.nx, ct := dLoop (gdName 3) (b1__law_needs A) (.at ra (ps.map D.ref)) (t.map fun x => D.ref x.1) Dd } δ M, bk := Dd.nx, ct := dLoop (gdName 3) (b1__law_needs A) (.at ra (ps.map D.ref)) (t.map fun x => D.ref x.1) Dd } [some (.ref ra), some la, some (.ref w), some (.ref rp), some (.ref p), o5, o6] (updM M p (.lst (r.par.toList.map D.str))) := fun p fp => by
      have wp : w ≠ p := fun z => by have := nb.hw; rw [z, fp] at this; cases this
      have rpp : rp ≠ p := fun z => by rw [z, fp] at hrp1; cases hrp1
      have lpar : r.par.toList.length ≤ 1 := by
        cases r.par with
        | none => exact Nat.zero_le _
        | some _ => exact Nat.le_refl _
      have fin : ∀ (src : Src), (∀ M1, (∀ a, a ≠ p → M1 a = M a) → src.holds M1) → dLoop (gdTup 2 (gdNames [5, 6])) (b2__law_needs A) src (m.links.map DL.prD) { Dd with nx := fun δ M => dAsg (dVar 4) (gdSubD (dVar 2) (dOp dIx (dVar 3) (dC (.int 0)))) { Dd with nx := dLoop (gdName 3) (b1__law_needs A) (.at ra (ps.map D.ref)) (t.map fun x => D.ref x.1) Dd, bk := Dd.nx, ct := dLoop (gdName 3) (b1__law_needs A) (.at ra (ps.map D.ref)) (t.map fun x => D.ref x.1) Dd } δ M, bk := Dd.nx, ct := dLoop (gdName 3) (b1__law_needs A) (.at ra (ps.map D.ref)) (t.map fun x => D.ref x.1) Dd } [some (.ref ra), some la, some (.ref w), some (.ref rp), some (.ref p), o5, o6] (updM M p (.lst (r.par.toList.map D.str))) := fun src hs => by
        refine ln_loop2 A (M0 := M) hs (nb.ex _ _ hrp0) rpp m.links _ r.par.toList o5 o6 (by omega) (fun a n => updM_ne n) updM_same fun M1 o5 o6 k2 hp => ?_
        have en : m.links.foldl (linkAdd r.nm) r.par.toList = m.needs r.nm := by unfold Mc.needs; rw [Mc.row_eq g.dup hr]
        rw [en] at hp
        have nb2 := nb.snoc nr fp k2 hp
        have hrp2 : M1 rp = some (.lst [.str r.nm, oStr r.par, .int r.burn, .int r.sip, .int r.wake, .int r.fall, .int r.rest]) := by rw [k2 rp rpp]; exact hrp1
        refine ⟨_, rfl, _, rfl, _, rfl, _, hrp2, _, rfl, w, _, _, rfl, (by rw [k2 w wp]; exact nb.hw), rfl, by rw [tab_len, List.length_map]; exact Nat.lt_of_le_of_lt lp (by decide), ?_⟩
        have em : pre.map (·.nm) ++ [r.nm] = (pre ++ [r]).map (·.nm) := by rw [List.map_append]; rfl
        rw [em] at nb2
        exact ln_loop1 A g hra hla q t (pre ++ [r]) _ _ _ _ _ _ (by rw [← e]; simp) (fun x hx' => hx x (List.mem_cons_of_mem _ hx')) nb2
      rcases id hla with rfl | ⟨a, rfl, ha⟩
      · exact ⟨_, rfl, fin .data fun _ _ => trivial⟩
      · have ha1 := nb.ex _ _ ha
        have ap : a ≠ p := fun z => by rw [z, fp] at ha1; cases ha1
        exact ⟨_, rfl, _, (by rw [updM_ne ap]; exact ha1), fin (.at a (m.links.map DL.prD)) fun M1 k => by show M1 a = _; rw [k a ap]; exact ha1⟩
    have hra1 := nb.ex _ _ hra
    clear q
    obtain ⟨nm, par, b1, b2, b3, b4, b5⟩ := r
    cases par with
    | none => exact ⟨hra1, _, rfl, _, hrp1, _, rfl, (show 1 ≤ sizeLine by decide), _, rfl, _, hrp1, _, rfl, (show -(2 ^ 63) ≤ (0 : Int) by decide), (show (0 : Int) < 2 ^ 63 by decide), Nat.zero_le _, fun p fp => key p fp⟩
    | some x => exact ⟨hra1, _, rfl, _, hrp1, _, rfl, (show 1 ≤ sizeLine by decide), _, rfl, _, hrp1, _, rfl, (show -(2 ^ 63) ≤ (1 : Int) by decide), (show (1 : Int) < 2 ^ 63 by decide), (show 1 ≤ sizeLine by decide), fun p fp => key p fp⟩
theorem rd__law_needs (A : Ad) (hA : AdOk A) : ∀ ds M Qd Ed, sp__law_needs A ds M Qd Ed → t__law_needs A (ends Qd Ed) (dstart N__law_needs ds) M := by
  intro ds M Qd Ed h
  obtain ⟨m, ra, ps, la, rfl, g, hra, hla, q⟩ := h
  obtain ⟨l, e1, e2, hx⟩ := hra.zip
  have hr0 := hra.hd
  intro w fw
  have nb : Nb M (updM M w (.dct [])) [] w (fun _ => 0) m.needs := ⟨updM_same, (fun _ z => nomatch z), (fun _ z => nomatch z), (fun _ z => nomatch z), (fun _ z => nomatch z), fw, Ext.fresh fw _⟩
  refine ⟨_, rfl, _, nb.ex _ _ hr0, ?_⟩
  have el : ps.map D.ref = l.map fun x => D.ref x.1 := by rw [e1, List.map_map]; rfl
  have z := ln_loop1 A g hr0 hla (Dd := { ends Qd Ed with nx := fun δ M => dRet (dFrzD (dVar 2)) (ends Qd Ed) δ M }) (w := w) (fun M3 ad o3 o4 o5 o6 nb3 => ?_) l [] _ _ none none none none e2.symm hx nb
  · rw [← el] at z
    exact z
  obtain ⟨M4, z, k, ex⟩ := nb3.frz g.dup
  refine ⟨_, rfl, w, _, M4, _, rfl, nb3.hw, z, k, ?_⟩
  refine q w _ fw ?_ (ex _)
  rw [updM_same]
  rfl
theorem ripe_all (fd : List Str) : ∀ l : List Str, ((l.filter fun o => decide (o ∉ fd)).map D.str).isEmpty = l.all fun o => decide (o ∈ fd)
  | [] => rfl
  | y :: l => by
    have ih := ripe_all fd l
    rw [List.filter_cons, List.all_cons]
    by_cases c : y ∈ fd
    · rw [decide_eq_true c, show decide (y ∉ fd) = false from decide_eq_false (fun z => z c), Bool.true_and]; exact ih
    · rw [decide_eq_false c, show decide (y ∉ fd) = true from decide_eq_true c]; rfl
theorem cut_one (l : List Str) : cutD (l.map D.str) none (some 1) = (l.take 1).map D.str := by
  rw [show (1 : Int) = ((1 : Nat) : Int) from rfl, cutD_to, List.map_take]
theorem sl1_lst {i : Nat} {δ : DS} {M : Mp} {Q : DK} {E : DXK} {xs : List D} (h : δ[i]? = some (some (.lst xs))) (q : Q (.lst (cutD xs none (some 1))) M) : dSlA dSl4 (dVar i) oNone (oSome (dC (.int 1))) δ M Q E := ⟨_, h, q⟩
theorem lo_loop (A : Ad) {m : Mc} (g : FairM m) {M0 : Mp} {w f : Addr} {Dd : DEnds} (hw : M0 w = some (wtO m)) (ff : M0 f = none) {n : Nat}
    (q : ∀ M' o2 o3, Ext M0 M' → M' f = some (.lst ((ordN m.names m.needs n).map D.str)) → Dd.nx [some (.ref w), some (.ref f), o2, o3, none, none] M') :
    ∀ (xs : List D) (i : Nat) (M : Mp) (o2 o3 : Option D), i + xs.length = n → Ext M0 M → M f = some (.lst ((ordN m.names m.needs i).map D.str)) → dLoop (gdName 2) (b1__law_order A) .data xs Dd [some (.ref w), some (.ref f), o2, o3, none, none] M
  | [], i, M, o2, o3, e, ex, hf => by
    have e : i = n := e
    subst e
    exact q M o2 o3 ex hf
  | x :: t, i, M, o2, o3, e, ex, hf => by
    rw [List.length_cons] at e
    have ln := g.n8
    have hw1 : M w = some (.dct (tab m.names (wantsF m))) := ex _ _ hw
    have wf : w ≠ f := fun z => by rw [← z, hw] at ff; cases ff
    have ol := (ord_w (ns := m.names) (nd := m.needs) i).len
    refine ⟨w, _, hw1, fun od us => ?_⟩
    have h1 : updM M w (.dctL od us (tab m.names (wantsF m))) w = some (.dctL od us (tab m.names (wantsF m))) := updM_same
    have hf1 : updM M w (.dctL od us (tab m.names (wantsF m))) f = some (.lst ((ordN m.names m.needs i).map D.str)) := by rw [updM_ne wf.symm]; exact hf
    have back : updM (updM M w (.dctL od us (tab m.names (wantsF m)))) w (.dct (tab m.names (wantsF m))) = M := by
      funext b
      by_cases z : b = w
      · rw [z, updM_same, hw1]
      · rw [updM_ne z, updM_ne z]
    generalize updM M w (.dctL od us (tab m.names (wantsF m))) = M1 at h1 hf1 back ⊢
    refine ⟨_, rfl, od, us, _, h1, ?_⟩
    rw [tab_keys]
    refine ⟨by rw [List.length_map]; exact Nat.lt_of_le_of_lt ln (by decide), ?_⟩
    have es : seqD M1 (.ref f) = some ((ordN m.names m.needs i).map D.str) := by
      show (match M1 f with | some (.lst xs) => some xs | _ => none) = _
      rw [hf1]
    obtain ⟨fd, efd⟩ : ∃ fd, ordN m.names m.needs i = fd := ⟨_, rfl⟩
    rw [efd] at hf1 es ol hf
    refine comp_filt1 (fun d => match d with | .str n => decide (n ∉ fd) && (m.needs n).all fun o => decide (o ∈ fd) | _ => false) id (by exact h1) _ (fun d hd Q z => ?_) (fun d hd _ Q z => ⟨_, rfl, z⟩) (by rw [List.length_map]; exact Nat.le_trans ln (by decide)) ⟨h1, ?_⟩
    · obtain ⟨n, hn, rfl⟩ := List.mem_map.mp hd
      have z : Q (decide (n ∉ fd) && (m.needs n).all fun o => decide (o ∈ fd)) M1 := z
      refine ⟨_, rfl, _, rfl, fd, es, rfl, ?_⟩
      show br (!decide (n ∈ fd)) _ _
      by_cases c2 : n ∈ fd
      · refine brF (by rw [decide_eq_true c2]; rfl) ?_
        rw [show (decide (n ∉ fd)) = false from decide_eq_false (fun z => z c2)] at z
        exact z
      · refine brT (by rw [decide_eq_false c2]; rfl) ?_
        rw [show (decide (n ∉ fd)) = true from decide_eq_true c2, Bool.true_and] at z
        have nl := g.nl hn
        refine ⟨_, rfl, _, rfl, .inr ⟨od, us, _, h1, _, _, rfl, tab_val hn, ?_⟩⟩
        refine ⟨by rw [List.length_map]; exact Nat.lt_of_le_of_lt nl (by decide), ?_⟩
        refine comp_filt1 (fun d => match d with | .str o => decide (o ∉ fd) | _ => false) id (by exact trivial) _ (fun d hd Q z => ?_) (fun d hd _ Q z => ⟨_, rfl, z⟩) (by rw [List.length_map]; exact Nat.le_trans nl (by decide)) ?_
        · obtain ⟨o, ho, rfl⟩ := List.mem_map.mp hd
          have z : Q (decide (o ∉ fd)) M1 := z
          refine ⟨_, rfl, _, rfl, fd, es, rfl, ?_⟩
          show Q (!decide (o ∈ fd)) M1
          rw [← decide_not]; exact z
        · rw [filt_str (q := fun n => decide (n ∉ fd)) fun _ _ => rfl]
          refine ⟨Nat.zero_le _, rfl, ?_⟩
          show Q (((m.needs n).filter fun o => decide (o ∉ fd)).map D.str).isEmpty M1
          rw [ripe_all]; exact z
    · rw [back, filt_str (q := fun n => decide (n ∉ fd) && (m.needs n).all fun o => decide (o ∈ fd)) fun _ _ => rfl]
      rw [show (m.names.filter fun n => decide (n ∉ fd) && (m.needs n).all fun o => decide (o ∈ fd)) = ripe m.names m.needs fd from rfl]
      refine ⟨_, rfl, ⟨_, hf⟩, sl1_lst rfl ?_⟩
      rw [cut_one]
      refine ⟨_, hf, ?_, ?_⟩
      · rw [List.length_map, List.length_map]; exact Nat.le_trans (by have := List.length_take_le 1 (ripe m.names m.needs fd); omega : _ ≤ 9) (by decide)
      rw [← List.map_append]
      refine lo_loop A g hw ff q t (i + 1) _ _ _ (by omega) (ex.upd ff) ?_
      rw [updM_same]
      show _ = some (MO.lst (((ordN m.names m.needs i) ++ (ripe m.names m.needs (ordN m.names m.needs i)).take 1).map D.str))
      rw [efd]
theorem rd__law_order (A : Ad) (hA : AdOk A) : ∀ ds M Qd Ed, sp__law_order A ds M Qd Ed → t__law_order A (ends Qd Ed) (dstart N__law_order ds) M := by
  intro ds M Qd Ed h
  obtain ⟨m, w, rfl, g, hw, q⟩ := h
  have ln := g.n8
  refine ⟨Nat.zero_le _, fun f hf => ?_⟩
  have hw1 : updM M f (.lst []) w = some (.dct (tab m.names (wantsF m))) := Ext.fresh hf _ _ _ hw
  refine ⟨_, rfl, _, hw1, ⟨by rw [tab_len]; omega, by rw [tab_len]; omega⟩, ?_⟩
  refine lo_loop A g hw hf (n := m.names.length) (fun M' o2 o3 ex e => ?_) _ 0 _ none none (by rw [rng_len, tab_len]; omega) (Ext.fresh hf _) updM_same
  obtain ⟨M2, z, k⟩ := fz_lst e
  refine ⟨_, rfl, M2, _, z, q M2 fun b o eb => ?_⟩
  have nb : b ≠ f := fun y => by rw [y, hf] at eb; cases eb
  rw [k b nb]; exact ex b o eb
theorem fa_loop2 (A : Ad) {m : Mc} (g : FairM m) {M0 : Mp} {w fa : Addr} {n : Str} {od us} {o3 : Option D} {Dd : DEnds} (hw : M0 w = some (.dctL od us (tab m.names (wantsF m)))) (ff : M0 fa = none) : ∀ (l f : List Str) (M : Mp) (o4 : Option D), FarOk m.names m.needs n f → (∀ o ∈ l, o ∈ f) → Ext M0 M → M fa = some (.lst (f.map D.str)) →
    (∀ M' o4, Ext M0 M' → FarOk m.names m.needs n (l.foldl (extF m.needs) f) → M' fa = some (.lst ((l.foldl (extF m.needs) f).map D.str)) → Dd.nx [some (.ref w), some (.str n), some (.ref fa), o3, o4, none] M') →
    dLoop (gdName 4) (b2__law_far A) .data (l.map D.str) Dd [some (.ref w), some (.str n), some (.ref fa), o3, o4, none] M
  | [], f, M, o4, ok, _, ex, hf, q => q M o4 ex ok hf
  | o :: t, f, M, o4, ok, hl, ex, hf, q => by
    have on := ok.sub o (hl o List.mem_cons_self)
    have nl := g.nl on
    have fl := ok.len
    have ln := g.n8
    have es : seqD M (.ref fa) = some (f.map D.str) := by
      show (match M fa with | some (.lst xs) => some xs | _ => none) = _
      rw [hf]
    refine ⟨_, rfl, ⟨_, hf⟩, _, rfl, _, rfl, .inr ⟨od, us, _, ex _ _ hw, _, _, rfl, tab_val on, ?_⟩⟩
    refine ⟨by rw [List.length_map]; exact Nat.lt_of_le_of_lt nl (by decide), ?_⟩
    refine comp_filt1 (fun d => match d with | .str x => decide (x ∉ f) | _ => false) id (by exact trivial) _ (fun d hd Q z => ?_) (fun d hd _ Q z => ⟨_, rfl, z⟩) (by rw [List.length_map]; exact Nat.le_trans nl (by decide)) ?_
    · obtain ⟨x, hx, rfl⟩ := List.mem_map.mp hd
      have z : Q (decide (x ∉ f)) M := z
      refine ⟨_, rfl, _, rfl, f, es, rfl, ?_⟩
      show Q (!decide (x ∈ f)) M
      rw [← decide_not]; exact z
    rw [filt_str (q := fun x => decide (x ∉ f)) fun _ _ => rfl]
    have lf : ((m.needs o).filter fun x => decide (x ∉ f)).length ≤ 8 := Nat.le_trans (List.length_filter_le _ _) nl
    refine ⟨_, hf, by rw [List.length_map, List.length_map]; exact Nat.le_trans (by omega : _ ≤ 16) (by decide), ?_⟩
    rw [← List.map_append]
    have ok2 : FarOk m.names m.needs n (extF m.needs f o) := ok.ext g.sub (fun _ _ => needs_nodup) [o] fun x hx => by rw [List.mem_singleton.mp hx]; exact hl o List.mem_cons_self
    exact fa_loop2 A g hw ff t (extF m.needs f o) _ _ ok2 (fun x hx => by
      unfold extF
      exact List.mem_append_left _ (hl x (List.mem_cons_of_mem _ hx))) (ex.upd ff) updM_same q
theorem fa_loop1 (A : Ad) {m : Mc} (g : FairM m) {M0 : Mp} {w fa : Addr} {n : Str} {od us} {Dd : DEnds} (hw : M0 w = some (.dctL od us (tab m.names (wantsF m)))) (ff : M0 fa = none) {k : Nat}
    (q : ∀ M' o3 o4, Ext M0 M' → M' fa = some (.lst ((farN m.needs (m.needs n) k).map D.str)) → Dd.nx [some (.ref w), some (.str n), some (.ref fa), o3, o4, none] M') :
    ∀ (xs : List D) (i : Nat) (M : Mp) (o3 o4 : Option D), i + xs.length = k → FarOk m.names m.needs n (farN m.needs (m.needs n) i) → Ext M0 M → M fa = some (.lst ((farN m.needs (m.needs n) i).map D.str)) →
    dLoop (gdName 3) (b1__law_far A) .data xs Dd [some (.ref w), some (.str n), some (.ref fa), o3, o4, none] M
  | [], i, M, o3, o4, e, ok, ex, hf => by
    have e : i = k := e
    subst e
    exact q M o3 o4 ex hf
  | x :: t, i, M, o3, o4, e, ok, ex, hf => by
    rw [List.length_cons] at e
    refine ⟨_, rfl, _, hf, ?_⟩
    exact fa_loop2 A g hw ff _ _ M o4 ok (fun _ h => h) ex hf fun M' o4 ex' ok' hf' => fa_loop1 A g hw ff q t (i + 1) M' _ o4 (by omega) ok' ex' hf'
theorem rd__law_far (A : Ad) (hA : AdOk A) : ∀ ds M Qd Ed, sp__law_far A ds M Qd Ed → t__law_far A (ends Qd Ed) (dstart N__law_far ds) M := by
  intro ds M Qd Ed h
  obtain ⟨m, w, n, od, us, rfl, g, hn, hw, q⟩ := h
  have ln := g.n8
  refine ⟨_, rfl, _, rfl, .inr ⟨od, us, _, hw, _, _, rfl, tab_val hn, fun f hf => ?_⟩⟩
  have hw1 : updM M f (.lst ((m.needs n).map D.str)) w = some (.dctL od us (tab m.names (wantsF m))) := Ext.fresh hf _ _ _ hw
  refine ⟨_, rfl, _, .inr ⟨od, us, hw1⟩, ⟨by rw [tab_len]; omega, by rw [tab_len]; omega⟩, ?_⟩
  refine fa_loop1 A g hw hf (k := m.names.length) (fun M' o2 o3 ex e => ?_) _ 0 _ none none (by rw [rng_len, tab_len]; omega) (far_ok hn g.sub (fun _ _ => needs_nodup) 0) (Ext.fresh hf _) updM_same
  obtain ⟨M2, z, k⟩ := fz_lst e
  refine ⟨_, rfl, M2, _, z, q M2 fun b o eb => ?_⟩
  have nb : b ≠ f := fun y => by rw [y, hf] at eb; cases eb
  rw [k b nb]; exact ex b o eb
theorem comp_sel {ix : Nat} {tt : DTT} {te : DTE} {src : Src} {vs : List Nat} {δ : DS} {k : List D → Mp → Prop} (J : Mp → Prop) (hs : ∀ M, J M → src.holds M) (p : D → Bool) (f : D → D) : ∀ (xs acc : List D) (M : Mp),
    (∀ x ∈ xs, ∀ M, J M → ∀ Q : Bool → Mp → Prop, (∀ M', J M' → Q (p x) M') → tt ((dwipe δ vs).set ix (some x)) M Q E0d) → (∀ x ∈ xs, ∀ M, J M → ∀ Q : DK, Q (f x) M → te ((dwipe δ vs).set ix (some x)) M Q E0d) →
    acc.length + xs.length ≤ sizeLine → J M → (∀ M', J M' → k (acc ++ (xs.filter p).map f) M') → dComp (.one ix) tt te src vs δ k xs acc M
  | [], acc, M, _, _, hl, h, q => Src.okI (hs M h) ⟨by rw [List.length_nil] at hl; omega, by have := q M h; rwa [List.filter_nil, List.map_nil, List.append_nil] at this⟩
  | x :: r, acc, M, hp, hf, hl, h, q => by
    rw [List.length_cons] at hl
    refine Src.okI (hs M h) (hp x List.mem_cons_self M h _ fun M' h' => ?_)
    have hp' : ∀ y ∈ r, _ := fun y hy => hp y (List.mem_cons_of_mem _ hy)
    have hf' : ∀ y ∈ r, _ := fun y hy => hf y (List.mem_cons_of_mem _ hy)
    cases e : p x with
    | true =>
      refine hf x List.mem_cons_self M' h' _ ?_
      refine comp_sel J hs p f r (acc ++ [f x]) M' hp' hf' (by rw [List.length_append, List.length_singleton]; omega) h' fun M2 h2 => ?_
      have := q M2 h2
      rw [List.filter_cons, e, if_pos rfl, List.map_cons] at this
      rw [List.append_assoc]; exact this
    | false =>
      refine comp_sel J hs p f r acc M' hp' hf' (by omega) h' fun M2 h2 => ?_
      have := q M2 h2
      rwa [List.filter_cons, e, if_neg (by decide)] at this
theorem filt_fst {p : Str → Bool} {l : List Str} {n : Str} {i : Nat} (hi : l[i]? = some n) (hp : p n = true) (h : ∀ (j : Nat) (y : Str), j < i → l[j]? = some y → p y = false) : ∃ t, l.filter p = n :: t := by
  induction l generalizing i with
  | nil => cases hi
  | cons x t ih =>
    cases i with
    | zero =>
      cases hi
      exact ⟨t.filter p, by rw [List.filter_cons, hp, if_pos rfl]⟩
    | succ i =>
      have hx := h 0 x (Nat.zero_lt_succ _) rfl
      obtain ⟨u, e⟩ := ih hi fun j y hj hy => h (j + 1) y (Nat.succ_lt_succ hj) hy
      exact ⟨u, by rw [List.filter_cons, hx, if_neg (by decide), e]⟩
theorem filt_none {α : Type} (p : α → Bool) (l : List α) (h : ∀ x ∈ l, p x = false) : l.filter p = [] := List.filter_eq_nil_iff.mpr fun x hx => by rw [h x hx]; decide
theorem rd__law_ring_right (A : Ad) (hA : AdOk A) : ∀ ds M Qd Ed, sp__law_ring_right A ds M Qd Ed → t__law_ring_right A (ends Qd Ed) (dstart N__law_ring_right ds) M := by
  intro ds M Qd Ed h
  obtain ⟨m, w, p, n, way, rfl, g, hw, hp, F, q⟩ := h
  have ln := g.n8
  have lw := g.way_len F.hn F.ring.way
  have far : ∀ {x}, x ∈ m.names → ∀ y, (y ∈ farN m.needs (m.needs x) m.names.length ↔ Rch m.needs x y) := fun hx y => far_iff hx g.sub fun _ _ => needs_nodup
  have wp : p ≠ w := fun z => by rw [z, hw] at hp; cases hp
  refine ⟨w, _, hw, fun od us => ?_⟩
  have h1 : updM M w (.dctL od us (tab m.names (wantsF m))) w = some (.dctL od us (tab m.names (wantsF m))) := updM_same
  have bk : ∀ M', Ext (updM M w (.dctL od us (tab m.names (wantsF m)))) M' → Ext M (updM M' w (.dct (tab m.names (wantsF m)))) := fun M' ex b o e => by
    by_cases z : b = w
    · rw [z, updM_same, ← e, z, hw]; rfl
    · rw [updM_ne z]; exact ex b o (by rw [updM_ne z]; exact e)
  refine ⟨_, rfl, od, us, _, h1, ?_⟩
  rw [tab_keys]
  refine ⟨by rw [List.length_map]; exact Nat.lt_of_le_of_lt ln (by decide), ?_⟩
  refine comp_sel (fun M' => Ext (updM M w (.dctL od us (tab m.names (wantsF m)))) M') (fun M' ex => by exact ex _ _ h1) (fun d => match d with | .str x => decide (x ∈ farN m.needs (m.needs x) m.names.length) | _ => false) id _ [] _ (fun d hd M' ex Q z => ?_) (fun d hd M' ex Q z => ⟨_, rfl, z⟩) (by rw [List.length_nil, List.length_map, Nat.zero_add]; exact Nat.le_trans ln (by decide)) (Ext.refl _) fun M' ex => ⟨ex _ _ h1, ?_⟩
  · obtain ⟨x, hx, rfl⟩ := List.mem_map.mp hd
    refine ⟨_, rfl, _, rfl, _, rfl, ⟨m, w, x, od, us, rfl, g, hx, ex _ _ h1, fun M2 ex2 => ⟨_, rfl, rfl, z M2 (ex.trans ex2)⟩⟩⟩
  rw [List.nil_append, filt_str (q := fun x => decide (x ∈ farN m.needs (m.needs x) m.names.length)) fun _ _ => rfl]
  obtain ⟨i, hi⟩ := List.getElem?_of_mem F.hn
  obtain ⟨t, et⟩ := filt_fst (p := fun x => decide (x ∈ farN m.needs (m.needs x) m.names.length)) hi (decide_eq_true ((far F.hn n).mpr F.ring.rch)) fun j y hj hy => decide_eq_false fun z => F.fst i hi j y hj hy ((far (List.mem_of_getElem? hy) y).mp z)
  rw [et]
  have ex2 := bk M' ex
  generalize updM M' w (.dct (tab m.names (wantsF m))) = M2 at ex2 ⊢
  have hp2 := ex2 _ _ hp
  have hw2 : M2 w = some (.dct (tab m.names (wantsF m))) := ex2 _ _ hw
  obtain ⟨wt, ew⟩ : ∃ wt, way = n :: wt := by
    have := F.ring.way.hd
    cases way with
    | nil => cases this
    | cons a wt => exact ⟨wt, by rw [Option.some.inj this]⟩
  have hp3 : M2 p = some (.lst (.str n :: wt.map D.str)) := by rw [hp2, ew]; rfl
  refine ⟨_, rfl, _, hp2, ?_⟩
  refine ⟨_, rfl, Nat.zero_le _, rfl, _, hp3, ?_⟩
  refine ⟨_, rfl, Nat.zero_le _, rfl, ?_⟩
  refine ⟨_, rfl, _, hp3, _, at0, _, rfl, _, at0, ?_⟩
  show br (!decide (n = n)) _ _
  refine brF (by rw [decide_eq_true rfl]; rfl) ?_
  have lr : (rngD 0 way.length).length ≤ 8 := by rw [rng_len]; exact lw
  have at' : ∀ {k : Nat} {x : Str}, way[k]? = some x → atI (way.map D.str) (k : Int) = some (.str x) := fun h => atI_nat (by rw [List.getElem?_map, h]; rfl)
  refine ⟨_, rfl, _, hp2, ?_⟩
  show (_ ∧ _) ∧ (rngD 0 (Int.toNat ((way.map D.str).length : Nat))).length < sizeLine ∧ _
  rw [List.length_map, Int.toNat_natCast]
  refine ⟨⟨by omega, by omega⟩, Nat.lt_of_le_of_lt lr (by decide), ?_⟩
  refine comp_filt1 (fun _ => false) id (by exact trivial) _ (fun d hd Q z => ?_) (fun d hd _ Q z => ⟨_, rfl, z⟩) (Nat.le_trans lr (by decide)) ?_
  · obtain ⟨k, rfl, k0, k1⟩ := rng_mem hd
    obtain ⟨k, rfl⟩ := Int.eq_ofNat_of_zero_le k0
    have kl : k < way.length := by omega
    have ek := List.getElem?_eq_getElem kl
    refine ⟨_, rfl, _, rfl, _, hp2, _, at' ek, _, rfl, _, rfl, _, hp2, ?_⟩
    refine ⟨way.take k, by show some (cutD (way.map D.str) none (some (k : Int))) = _; rw [cutD_to, List.map_take], rfl, ?_⟩
    show Q (decide (way[k] ∈ way.take k)) M2
    rw [decide_eq_false fun y => by
      obtain ⟨j, hj, e⟩ := List.getElem_of_mem y
      rw [List.length_take] at hj
      rw [List.getElem_take] at e
      have := (List.getElem_inj F.ring.way.dup).mp e
      omega]
    exact z
  rw [filt_none _ _ fun _ _ => rfl]
  refine ⟨Nat.zero_le _, rfl, ?_⟩
  refine ⟨_, rfl, _, hp2, ?_⟩
  show (_ ∧ _) ∧ (rngD 0 (Int.toNat ((way.map D.str).length : Nat))).length < sizeLine ∧ _
  rw [List.length_map, Int.toNat_natCast]
  refine ⟨⟨by omega, by omega⟩, Nat.lt_of_le_of_lt lr (by decide), ?_⟩
  refine comp_filt1 (fun _ => false) id (by exact trivial) _ (fun d hd Q z => ?_) (fun d hd _ Q z => ⟨_, rfl, z⟩) (Nat.le_trans lr (by decide)) ?_
  · obtain ⟨k, rfl, k0, k1⟩ := rng_mem hd
    obtain ⟨k, rfl⟩ := Int.eq_ofNat_of_zero_le k0
    have kl : k < way.length := by omega
    have ek := List.getElem?_eq_getElem kl
    obtain ⟨pv, e1, e2⟩ : ∃ pv, atI (way.map D.str) ((k : Int) - 1) = some (.str pv) ∧ way[k] ∈ m.needs pv ∧ pv ∈ m.names := by
      cases k with
      | zero =>
        obtain ⟨c, hc⟩ := F.ring.way.last
        obtain ⟨u, e⟩ := List.getLast?_eq_some_iff.mp hc
        refine ⟨c, ?_, ?_, g.way_sub F.hn F.ring.way c (List.mem_of_getLast? hc)⟩
        · rw [e, List.map_append]
          exact atI_last
        · have h0 := F.ring.cl c hc
          have : way[0] = n := by
            have := F.ring.way.hd
            rw [List.head?_eq_getElem?, ek] at this
            exact Option.some.inj this
          rw [this]; exact h0
      | succ j =>
        have ej := List.getElem?_eq_getElem (l := way) (i := j) (by omega)
        refine ⟨way[j], ?_, F.ring.way.nx j _ _ ej ek, g.way_sub F.hn F.ring.way _ (List.getElem_mem _)⟩
        rw [show ((j + 1 : Nat) : Int) - 1 = (j : Int) by omega]
        exact at' ej
    refine ⟨_, rfl, _, rfl, _, hp2, _, at' ek, _, rfl, _, rfl, _, rfl, _, hp2, _, e1, .inl ⟨_, hw2, _, _, rfl, tab_val e2.2, ?_⟩⟩
    refine ⟨m.needs pv, rfl, rfl, ?_⟩
    show Q (!decide (way[k] ∈ m.needs pv)) M2
    rw [decide_eq_true e2.1]
    exact z
  rw [filt_none _ _ fun _ _ => rfl]
  refine ⟨Nat.zero_le _, rfl, ?_⟩
  exact q M2 ex2
theorem Bag.ne {M : Mp} {b w : Addr} {n : Nat} {kvs : List (Key × D)} (h : Bag M b n) (hw : M w = some (.dct kvs)) : w ≠ b := fun z => by
  obtain ⟨x, y, u, a, _⟩ := h
  rw [z, a] at hw
  cases hw
theorem oo_loop (A : Ad) {m : Mc} (g : FairM m) {M0 : Mp} {b w f : Addr} {c n : Nat} {Dd : DEnds} (hw : M0 w = some (wtO m)) (ff : M0 f = none) (fb : f ≠ b) (wb : w ≠ b) (cn : c + n < 950000) (n8 : n ≤ 8)
    (q : ∀ (M' : Mp) (fd : List Str) (o3 o4 : Option D), (∀ x ∈ fd, x ∈ m.names) → fd.length ≤ 8 → But b M0 M' → Bag M' b (c + n) → M' f = some (.lst (fd.map D.str)) → Dd.nx [some (.ref b), some (.ref w), some (.ref f), o3, o4, none, none] M') :
    ∀ (xs : List D) (i : Nat) (M : Mp) (fd : List Str) (o3 o4 : Option D), i + xs.length = n → (∀ x ∈ fd, x ∈ m.names) → fd.length ≤ i → But b M0 M → Bag M b (c + i) → M f = some (.lst (fd.map D.str)) → dLoop (gdName 3) (b1__law_other_order A) .data xs Dd [some (.ref b), some (.ref w), some (.ref f), o3, o4, none, none] M
  | [], i, M, fd, o3, o4, e, fn, fl, bt, hb, hf => by
    have e : i = n := e
    subst e
    exact q M fd o3 o4 fn (by omega) bt hb hf
  | x :: t, i, M, fd, o3, o4, e, fn, fl, bt, hb, hf => by
    rw [List.length_cons] at e
    have ln := g.n8
    have hw1 : M w = some (.dct (tab m.names (wantsF m))) := bt w _ wb hw
    have wf : w ≠ f := fun z => by rw [← z, hw] at ff; cases ff
    refine ⟨w, _, hw1, fun od us => ?_⟩
    have h1 : updM M w (.dctL od us (tab m.names (wantsF m))) w = some (.dctL od us (tab m.names (wantsF m))) := updM_same
    have hf1 : updM M w (.dctL od us (tab m.names (wantsF m))) f = some (.lst (fd.map D.str)) := by rw [updM_ne wf.symm]; exact hf
    have back : updM (updM M w (.dctL od us (tab m.names (wantsF m)))) w (.dct (tab m.names (wantsF m))) = M := by
      funext b
      by_cases z : b = w
      · rw [z, updM_same, hw1]
      · rw [updM_ne z, updM_ne z]
    generalize updM M w (.dctL od us (tab m.names (wantsF m))) = M1 at h1 hf1 back ⊢
    refine ⟨_, rfl, od, us, _, h1, ?_⟩
    rw [tab_keys]
    refine ⟨by rw [List.length_map]; exact Nat.lt_of_le_of_lt ln (by decide), ?_⟩
    have es : seqD M1 (.ref f) = some (fd.map D.str) := by
      show (match M1 f with | some (.lst xs) => some xs | _ => none) = _
      rw [hf1]
    refine comp_filt1 (fun d => match d with | .str n => decide (n ∉ fd) && (m.needs n).all fun o => decide (o ∈ fd) | _ => false) id (by exact h1) _ (fun d hd Q z => ?_) (fun d hd _ Q z => ⟨_, rfl, z⟩) (by rw [List.length_map]; exact Nat.le_trans ln (by decide)) ⟨h1, ?_⟩
    · obtain ⟨n, hn, rfl⟩ := List.mem_map.mp hd
      have z : Q (decide (n ∉ fd) && (m.needs n).all fun o => decide (o ∈ fd)) M1 := z
      refine ⟨_, rfl, _, rfl, fd, es, rfl, ?_⟩
      show br (!decide (n ∈ fd)) _ _
      by_cases c2 : n ∈ fd
      · refine brF (by rw [decide_eq_true c2]; rfl) ?_
        rw [show (decide (n ∉ fd)) = false from decide_eq_false (fun z => z c2)] at z
        exact z
      · refine brT (by rw [decide_eq_false c2]; rfl) ?_
        rw [show (decide (n ∉ fd)) = true from decide_eq_true c2, Bool.true_and] at z
        have nl := g.nl hn
        refine ⟨_, rfl, _, rfl, .inr ⟨od, us, _, h1, _, _, rfl, tab_val hn, ?_⟩⟩
        refine ⟨by rw [List.length_map]; exact Nat.lt_of_le_of_lt nl (by decide), ?_⟩
        refine comp_filt1 (fun d => match d with | .str o => decide (o ∉ fd) | _ => false) id (by exact trivial) _ (fun d hd Q z => ?_) (fun d hd _ Q z => ⟨_, rfl, z⟩) (by rw [List.length_map]; exact Nat.le_trans nl (by decide)) ?_
        · obtain ⟨o, ho, rfl⟩ := List.mem_map.mp hd
          have z : Q (decide (o ∉ fd)) M1 := z
          refine ⟨_, rfl, _, rfl, fd, es, rfl, ?_⟩
          show Q (!decide (o ∈ fd)) M1
          rw [← decide_not]; exact z
        · rw [filt_str (q := fun n => decide (n ∉ fd)) fun _ _ => rfl]
          refine ⟨Nat.zero_le _, rfl, ?_⟩
          show Q (((m.needs n).filter fun o => decide (o ∉ fd)).map D.str).isEmpty M1
          rw [ripe_all]; exact z
    · rw [back, filt_str (q := fun n => decide (n ∉ fd) && (m.needs n).all fun o => decide (o ∈ fd)) fun _ _ => rfl]
      rw [show (m.names.filter fun n => decide (n ∉ fd) && (m.needs n).all fun o => decide (o ∈ fd)) = ripe m.names m.needs fd from rfl]
      have lr : (ripe m.names m.needs fd).length ≤ 8 := Nat.le_trans (List.length_filter_le _ _) ln
      refine ⟨_, rfl, Nat.zero_le _, rfl, ?_⟩
      show br (!((ripe m.names m.needs fd).map D.str).isEmpty) _ _
      refine br2 (fun cc => ?_) (fun _ => ?_)
      · have pos : 0 < (ripe m.names m.needs fd).length := by
          cases hr : ripe m.names m.needs fd with
          | nil => rw [hr] at cc; cases cc
          | cons _ _ => exact Nat.zero_lt_succ _
        refine ⟨_, rfl, ⟨_, hf⟩, _, rfl, _, rfl, _, rfl, b, _, _, rfl, hb, by omega, by rw [List.length_map]; omega, by rw [List.length_map]; omega, fun M2 v b2 hb2 v0 v1 => ?_⟩
        rw [List.length_map] at v1
        obtain ⟨j, rfl⟩ := Int.eq_ofNat_of_zero_le v0
        have lj : j < (ripe m.names m.needs fd).length := by omega
        have hf2 := b2 f _ fb hf
        refine ⟨_, atI_nat (by rw [List.getElem?_map, List.getElem?_eq_getElem lj]; rfl), _, hf2, by rw [List.length_map]; exact Nat.lt_of_le_of_lt (by omega : _ ≤ 8) (by decide), ?_⟩
        show dLoop (gdName 3) (b1__law_other_order A) .data t Dd _ (updM M2 f (.lst (fd.map D.str ++ [D.str (ripe m.names m.needs fd)[j]])))
        rw [map_snoc]
        refine oo_loop A g hw ff fb wb cn n8 q t (i + 1) _ (fd ++ [(ripe m.names m.needs fd)[j]]) _ _ (by omega) (fun y hy => ?_) (by rw [List.length_append, List.length_singleton]; omega) (fun a o na ea => ?_) (hb2.upd fb.symm) updM_same
        · rcases List.mem_append.mp hy with z | z
          · exact fn y z
          · rw [List.mem_singleton.mp z]; exact (mem_ripe.mp (List.getElem_mem lj)).1
        · have af : a ≠ f := fun z => by rw [z, ff] at ea; cases ea
          rw [updM_ne af]; exact b2 a o na (bt a o na ea)
      · exact oo_loop A g hw ff fb wb cn n8 q t (i + 1) M fd _ _ (by omega) fn (by omega) bt (hb.mono (by omega)) hf
theorem rd__law_other_order (A : Ad) (hA : AdOk A) : ∀ ds M Qd Ed, sp__law_other_order A ds M Qd Ed → t__law_other_order A (ends Qd Ed) (dstart N__law_other_order ds) M := by
  intro ds M Qd Ed h
  obtain ⟨m, b, w, k, rfl, g, hb, hk, hw, q⟩ := h
  have ln := g.n8
  have wb := Bag.ne hb hw
  refine ⟨Nat.zero_le _, fun f hf => ?_⟩
  have fb : f ≠ b := (hb.at hf).symm
  have hw1 : updM M f (.lst []) w = some (.dct (tab m.names (wantsF m))) := Ext.fresh hf _ _ _ hw
  refine ⟨_, rfl, _, hw1, ⟨by rw [tab_len]; omega, by rw [tab_len]; omega⟩, ?_⟩
  refine oo_loop A g hw hf fb wb (c := k) (n := m.names.length) (by omega) ln (fun M' fd o3 o4 fn fl bt hb' e => ?_) _ 0 _ [] none none (by rw [rng_len, tab_len]; omega) (fun _ z => nomatch z) (Nat.le_refl _) (But.new hf) (hb.upd fb.symm) updM_same
  obtain ⟨M2, z, kk⟩ := fz_lst e
  refine ⟨_, rfl, M2, _, z, q fd M2 fn fl (fun a o na ea => ?_) ?_⟩
  · have af : a ≠ f := fun y => by rw [y, hf] at ea; cases ea
    rw [kk a af]; exact bt a o na ea
  · obtain ⟨x, y, z, a, b0, b1, b2, b3⟩ := hb'
    exact ⟨x, y, z, by rw [kk b fb.symm]; exact a, b0, b1, b2, by omega⟩
theorem erase_map : ∀ (l : List Str) (i : Nat), (l.map D.str).eraseIdx i = (l.eraseIdx i).map D.str
  | [], _ => rfl
  | x :: t, 0 => rfl
  | x :: t, i + 1 => by
    show D.str x :: (t.map D.str).eraseIdx i = D.str x :: (t.eraseIdx i).map D.str
    rw [erase_map t i]
theorem erase_perm : ∀ {l : List Str} {i : Nat} (h : i < l.length), List.Perm (l[i] :: l.eraseIdx i) l
  | x :: t, 0, _ => List.Perm.refl _
  | x :: t, i + 1, h => by
    have ih := erase_perm (l := t) (i := i) (Nat.lt_of_succ_lt_succ h)
    show List.Perm (t[i]'(Nat.lt_of_succ_lt_succ h) :: x :: t.eraseIdx i) (x :: t)
    exact (List.Perm.swap _ _ _).trans (List.Perm.cons x ih)
theorem idx_of {l : List Str} (hd : l.Nodup) {j : Nat} {x : Str} (h : l[j]? = some x) : l.idxOf x = j := by
  have hx := List.mem_of_getElem? h
  have lt := List.idxOf_lt_length_of_mem hx
  refine get_inj hd (i := l.idxOf x) (x := x) ?_ h
  rw [List.getElem?_eq_getElem lt, List.getElem_idxOf lt]
theorem But.none {b p : Addr} {M M' : Mp} (h : But b M M') (n : p ≠ b) (z : M' p = none) : M p = none := by
  cases e : M p with
  | none => rfl
  | some o => rw [h p o n e] at z; cases z
structure RowP (os : List Str) (r : Rw) : Prop where
  nm : r.nm ∈ os
  par : ∀ p, r.par = some p → p ∈ os ∧ os.idxOf p < os.idxOf r.nm
  b0 : 0 ≤ r.burn
  b1 : r.burn ≤ 100
  s0 : 0 ≤ r.sip
  s1 : r.sip ≤ r.burn
  w0 : 0 ≤ r.wake
  w1 : r.wake ≤ 5
  f0 : 0 ≤ r.fall
  f1 : r.fall ≤ 5
  t0 : 0 ≤ r.rest
  t1 : r.rest ≤ 9
structure Ln (M0 M : Mp) (b ra : Addr) (l : List (Addr × Rw)) : Prop where
  hd : M ra = some (.lst (l.map fun x => D.ref x.1))
  at' : ∀ x ∈ l, M x.1 = some (rwL x.2)
  fr : ∀ x ∈ l, M0 x.1 = none ∧ x.1 ≠ b ∧ x.1 ≠ ra
  nd : (l.map (·.1)).Nodup
theorem Ln.mono {M0 M M' : Mp} {b ra : Addr} {l : List (Addr × Rw)} (h : Ln M0 M b ra l) (rb : ra ≠ b) (bt : But b M M') : Ln M0 M' b ra l := ⟨bt ra _ rb h.hd, fun x hx => bt x.1 _ (h.fr x hx).2.1 (h.at' x hx), h.fr, h.nd⟩
theorem Ln.snoc {M0 M : Mp} {b ra p : Addr} {l : List (Addr × Rw)} {r : Rw} (h : Ln M0 M b ra l) (hp : M p = none) (p0 : M0 p = none) (pb : p ≠ b) : Ln M0 (updM (updM M p (rwL r)) ra (.lst ((l ++ [(p, r)]).map fun x => D.ref x.1))) b ra (l ++ [(p, r)]) := by
  have pr : p ≠ ra := fun z => by have := h.hd; rw [← z, hp] at this; cases this
  have np : ∀ x ∈ l, x.1 ≠ p := fun x hx z => by have := h.at' x hx; rw [z, hp] at this; cases this
  refine ⟨updM_same, fun x hx => ?_, fun x hx => ?_, ?_⟩
  · rcases List.mem_append.mp hx with z | z
    · rw [updM_ne (h.fr x z).2.2, updM_ne (np x z)]; exact h.at' x z
    · rw [List.mem_singleton.mp z]
      show updM _ ra _ p = _
      rw [updM_ne pr, updM_same]
  · rcases List.mem_append.mp hx with z | z
    · exact h.fr x z
    · rw [List.mem_singleton.mp z]; exact ⟨p0, pb, pr⟩
  · rw [List.map_append, List.nodup_append]
    refine ⟨h.nd, by simp, fun a ha c hc e => ?_⟩
    obtain ⟨x, hx, rfl⟩ := List.mem_map.mp ha
    obtain ⟨y, hy, rfl⟩ := List.mem_map.mp hc
    rw [List.mem_singleton.mp hy] at e
    exact np x hx e
theorem lr_loop (A : Ad) {b ra : Addr} {ns os : List Str} {M0 : Mp} {Dd : DEnds} {n : Nat} (n8 : ns.length ≤ 8) (nk : n < 800000) (od : os.Nodup) (l8 : os.length ≤ 8) (sub : ∀ x ∈ ns, x ∈ os) (rb : ra ≠ b) (r0 : M0 ra = none) {o1 o2 o3 o5 : Option D} :
    ∀ (xs : List Str) (pre : List (Addr × Rw)) (M : Mp) (o8 o9 o10 o11 o12 : Option D), pre.map (·.2.nm) ++ xs = ns → (∀ x ∈ pre, RowP os x.2) → But b M0 M → Bag M b (n + 12 * pre.length) → Ln M0 M b ra pre →
      (∀ (M' : Mp) (l : List (Addr × Rw)) (o8 o9 o10 o11 o12 : Option D), l.map (·.2.nm) = ns → (∀ x ∈ l, RowP os x.2) → But b M0 M' → Bag M' b (n + 12 * l.length) → Ln M0 M' b ra l → Dd.nx [some (.ref b), o1, o2, o3, some (.lst (ns.map D.str)), o5, some (.lst (os.map D.str)), some (.ref ra), o8, o9, o10, o11, o12, none] M') →
      dLoop (gdName 8) (b1__law_rows A) .data (xs.map D.str) Dd [some (.ref b), o1, o2, o3, some (.lst (ns.map D.str)), o5, some (.lst (os.map D.str)), some (.ref ra), o8, o9, o10, o11, o12, none] M
  | [], pre, M, o8, o9, o10, o11, o12, e, ro, bt, hb, hra, q => by
    rw [List.append_nil] at e
    exact q M pre o8 o9 o10 o11 o12 e ro bt hb hra
  | x :: t, pre, M, o8, o9, o10, o11, o12, e, ro, bt, hb, hra, q => by
    have xn : x ∈ ns := by rw [← e]; exact List.mem_append_right _ List.mem_cons_self
    obtain ⟨j, hj⟩ := List.getElem?_of_mem (sub x xn)
    have lj : j < os.length := (List.getElem?_eq_some_iff.mp hj).1
    have xj := idx_of od hj
    have lp : pre.length < 8 := by
      have := congrArg List.length e
      rw [List.length_append, List.length_map, List.length_cons] at this
      omega
    have la : (os.take j).length = j := by rw [List.length_take]; omega
    refine ⟨_, rfl, _, rfl, os, rfl, _, rfl, x, j, rfl, hj, fun i hi z => absurd (get_inj od z hj) (by omega), ?_⟩
    refine sl4_lst ?_
    rw [cutD_to, ← List.map_take]
    have tail : ∀ (o : Option Str) (M1 : Mp), (∀ p, o = some p → p ∈ os ∧ os.idxOf p < os.idxOf x) → But b M M1 → Bag M1 b (n + 12 * pre.length + 2) → k4__law_rows A { Dd with nx := dLoop (gdName 8) (b1__law_rows A) .data (t.map D.str) Dd, ct := dLoop (gdName 8) (b1__law_rows A) .data (t.map D.str) Dd, bk := Dd.nx } [some (.ref b), o1, o2, o3, some (.lst (ns.map D.str)), o5, some (.lst (os.map D.str)), some (.ref ra), some (.str x), some (.lst ((os.take j).map D.str)), some (oStr o), o11, o12, none] M1 := fun o M1 oo b1 hb1 => by
      refine ⟨_, rfl, b, 101, _, rfl, hb1, by omega, by decide, by decide, fun M2 v1 b2 hb2 a0 a1 => ?_⟩
      refine ⟨_, rfl, b, 9, _, rfl, hb2, by omega, by decide, by decide, fun M3 v2 b3 hb3 c0 c1 => ?_⟩
      refine ⟨(show 4 ≤ sizeLine by decide), _, rfl, b, 4, _, rfl, hb3, by omega, by decide, by decide, fun M4 v3 b4 hb4 d0 d1 => ?_⟩
      obtain ⟨bu, e1, bu0, bu1⟩ : ∃ bu : Int, atI [D.int 0, .int 100, .int v1, .int (1 + v2)] v3 = some (.int bu) ∧ 0 ≤ bu ∧ bu ≤ 100 := by
        rcases (by omega : v3 = 0 ∨ v3 = 1 ∨ v3 = 2 ∨ v3 = 3) with rfl | rfl | rfl | rfl
        · exact ⟨0, rfl, by decide, by decide⟩
        · exact ⟨100, rfl, by decide, by decide⟩
        · exact ⟨v1, rfl, by omega, by omega⟩
        · exact ⟨1 + v2, rfl, by omega, by omega⟩
      refine ⟨_, e1, ?_⟩
      refine ⟨_, rfl, _, rfl, _, rfl, _, rfl, b, bu + 1, _, rfl, hb4, by omega, by omega, by omega, fun M5 v4 b5 hb5 f0 f1 => ?_⟩
      refine ⟨(show 3 ≤ sizeLine by decide), _, rfl, b, 3, _, rfl, hb5, by omega, by decide, by decide, fun M6 v5 b6 hb6 g0 g1 => ?_⟩
      obtain ⟨si, e2, si0, si1⟩ : ∃ si : Int, atI [D.int 0, .int bu, .int v4] v5 = some (.int si) ∧ 0 ≤ si ∧ si ≤ bu := by
        rcases (by omega : v5 = 0 ∨ v5 = 1 ∨ v5 = 2) with rfl | rfl | rfl
        · exact ⟨0, rfl, by decide, bu0⟩
        · exact ⟨bu, rfl, bu0, Int.le_refl _⟩
        · exact ⟨v4, rfl, f0, by omega⟩
      refine ⟨_, e2, (show 2 ≤ sizeLine by decide), ?_⟩
      refine ⟨_, rfl, _, rfl, b, 6, _, rfl, hb6, by omega, by decide, by decide, fun M7 v6 b7 hb7 h0 h1 => ?_⟩
      refine ⟨_, rfl, b, 6, _, rfl, hb7, by omega, by decide, by decide, fun M8 v7 b8 hb8 i0 i1 => ?_⟩
      refine ⟨_, rfl, b, 10, _, rfl, hb8, by omega, by decide, by decide, fun M9 v8 b9 hb9 m0 m1 => ?_⟩
      refine ⟨(show 3 ≤ sizeLine by decide), (show 5 ≤ sizeLine by decide), ?_⟩
      have bM := (((((((b1.trans b2).trans b3).trans b4).trans b5).trans b6).trans b7).trans b8).trans b9
      have hra9 := hra.mono rb bM
      refine ⟨_, rfl, ⟨_, hra9.hd⟩, _, rfl, _, rfl, (show 2 ≤ sizeLine by decide), _, rfl, (show 7 ≤ sizeLine by decide), fun p hp => ?_⟩
      have pb : p ≠ b := (hb9.at hp).symm
      have pr : ra ≠ p := fun z => by have := hra9.hd; rw [z, hp] at this; cases this
      have bt9 := bt.trans bM
      have p0 : M0 p = none := bt9.none pb hp
      refine ⟨_, by rw [updM_ne pr]; exact hra9.hd, by rw [List.length_map]; exact Nat.lt_of_lt_of_le lp (by decide), ?_⟩
      have ln := hra9.snoc (r := ⟨x, o, bu, si, v6, v7, v8⟩) hp p0 pb
      have el : (pre.map fun x => D.ref x.1) ++ [D.ref p] = (pre ++ [(p, (⟨x, o, bu, si, v6, v7, v8⟩ : Rw))]).map fun x => D.ref x.1 := by rw [List.map_append]; rfl
      show dLoop (gdName 8) (b1__law_rows A) .data (t.map D.str) Dd _ (updM (updM M9 p (rwL ⟨x, o, bu, si, v6, v7, v8⟩)) ra (.lst ((pre.map fun x => D.ref x.1) ++ [D.ref p])))
      rw [el]
      refine lr_loop A n8 nk od l8 sub rb r0 t (pre ++ [(p, ⟨x, o, bu, si, v6, v7, v8⟩)]) _ _ _ _ _ _ (by rw [← e, List.map_append, List.append_assoc]; rfl) (fun y hy => ?_) (fun a u na ea => ?_) ?_ ln q
      · rcases List.mem_append.mp hy with z | z
        · exact ro y z
        · rw [List.mem_singleton.mp z]
          exact ⟨sub x xn, oo, bu0, bu1, si0, si1, h0, by show v6 ≤ 5; omega, i0, by show v7 ≤ 5; omega, m0, by show v8 ≤ 9; omega⟩
      · have na1 : a ≠ ra := fun z => by rw [z, r0] at ea; cases ea
        have na2 : a ≠ p := fun z => by rw [z, p0] at ea; cases ea
        rw [updM_ne na1, updM_ne na2]
        exact bt9 a u na ea
      · rw [List.length_append, List.length_singleton]
        exact ((hb9.upd pb.symm).upd rb.symm).mono (by omega)
    refine ⟨_, rfl, Nat.zero_le _, rfl, ?_⟩
    show br (!((os.take j).map D.str).isEmpty) _ _
    have z0 : dNext { Dd with nx := fun δ M => k4__law_rows A { Dd with nx := dLoop (gdName 8) (b1__law_rows A) .data (t.map D.str) Dd, ct := dLoop (gdName 8) (b1__law_rows A) .data (t.map D.str) Dd, bk := Dd.nx } δ M } [some (.ref b), o1, o2, o3, some (.lst (ns.map D.str)), o5, some (.lst (os.map D.str)), some (.ref ra), some (.str x), some (.lst ((os.take j).map D.str)), some .non, o11, o12, none] M := tail none M (fun _ z => nomatch z) (But.refl b M) (hb.mono (by omega))
    refine br2 (fun c => ?_) (fun _ => z0)
    have j0 : 0 < j := by
      cases j with
      | zero => rw [List.take_zero] at c; cases c
      | succ j => exact Nat.zero_lt_succ _
    refine ⟨_, rfl, b, 3, _, rfl, hb, by omega, by decide, by decide, fun M1 u b1 hb1 u0 u1 => ?_⟩
    show br (decide (u > 0)) _ _
    refine br2 (fun _ => ?_) (fun _ => tail none M1 (fun _ z => nomatch z) b1 (hb1.mono (by omega)))
    refine ⟨_, rfl, _, rfl, _, rfl, b, _, _, rfl, hb1, by omega, by rw [List.length_map]; omega, by rw [List.length_map]; omega, fun M2 i b2 hb2 i0 i1 => ?_⟩
    rw [List.length_map, la] at i1
    obtain ⟨i, rfl⟩ := Int.eq_ofNat_of_zero_le i0
    have il : i < os.length := by omega
    have ei : os[i]? = some os[i] := List.getElem?_eq_getElem il
    refine ⟨_, atI_nat (v := .str os[i]) (by rw [List.getElem?_map, List.getElem?_take_of_lt (by omega), ei]; rfl), ?_⟩
    exact tail (some os[i]) M2 (fun p hp => by
      cases hp
      refine ⟨List.getElem_mem il, ?_⟩
      rw [idx_of od ei, xj]
      omega) (b1.trans b2) (hb2.mono (by omega))
theorem rd__law_rows (A : Ad) (hA : AdOk A) : ∀ ds M Qd Ed, sp__law_rows A ds M Qd Ed → t__law_rows A (ends Qd Ed) (dstart N__law_rows ds) M := by
  intro ds M Qd Ed h
  obtain ⟨b, k, rfl, hb, hk, q⟩ := h
  refine ⟨_, rfl, _, rfl, _, rfl, _, rfl, b, 8, k, rfl, hb, by omega, by decide, by decide, fun M1 v b1 hb1 v0 v1 => ?_⟩
  refine ⟨_, rfl, _, rfl, b, 1 + v, k + 1, rfl, hb1, by omega, by omega, by omega, fun M2 ns b2 hb2 hl nm nd => ?_⟩
  have nd := nd (by omega)
  refine ⟨_, rfl, fun lp flp => ?_⟩
  have lpb : lp ≠ b := (hb2.at flp).symm
  have ln0 : updM M2 lp (.lst (ns.map D.str)) lp = some (.lst (ns.map D.str)) := updM_same
  have bt2 : But b M (updM M2 lp (.lst (ns.map D.str))) := (b1.trans b2).trans (But.new flp)
  have hb3 := hb2.upd (o := .lst (ns.map D.str)) lpb.symm
  have lp0 : M lp = none := (b1.trans b2).none lpb flp
  generalize updM M2 lp (.lst (ns.map D.str)) = M3 at ln0 bt2 hb3 ⊢
  have nl : ns.length ≤ 8 := by omega
  refine ⟨_, rfl, ⟨by omega, by omega⟩, by rw [rng_len]; exact Nat.lt_of_le_of_lt (by omega : _ ≤ 8) (by decide), ?_⟩
  refine comp_inv (fun rem acc M1 => ∃ left done : List Str, acc = done.map D.str ∧ M1 lp = some (.lst (left.map D.str)) ∧ List.Perm (done ++ left) ns ∧ rem.length = left.length ∧ But b M M1 ∧ Bag M1 b (k + 20 + done.length)) (fun x r acc M1 R J nx => ?_) (fun acc M1 J => ?_) _ _ _ ⟨ns, [], rfl, ln0, List.Perm.refl _, by rw [rng_len]; omega, bt2, hb3.mono (by show _ ≤ k + 20 + 0; omega)⟩
  · obtain ⟨left, done, rfl, hp, pm, hl2, bt, hb1⟩ := J
    rw [List.length_cons] at hl2
    have ll := pm.length_eq
    rw [List.length_append] at ll
    refine ⟨_, rfl, ⟨_, hp⟩, _, rfl, _, rfl, _, hp, b, _, _, rfl, hb1, by omega, ?_, ?_, fun M2 d b2 hb2 d0 d1 => ?_⟩
    · rw [List.length_map]; omega
    · rw [List.length_map]; omega
    rw [List.length_map] at d1
    have lt : d.toNat < left.length := by omega
    refine ⟨_, b2 lp _ lpb hp, d0, by omega, .str left[d.toNat], by rw [List.getElem?_map, List.getElem?_eq_getElem lt]; rfl, ?_⟩
    refine nx _ _ ⟨left.eraseIdx d.toNat, done ++ [left[d.toNat]], by rw [List.map_append]; rfl, ?_, ?_, ?_, fun a o n e => ?_, ?_⟩
    · rw [updM_same, erase_map]
    · rw [List.append_assoc]
      exact (List.Perm.append_left done (erase_perm lt)).trans pm
    · rw [List.length_eraseIdx_of_lt lt]; omega
    · have ap : a ≠ lp := fun z => by rw [z, lp0] at e; cases e
      rw [updM_ne ap]; exact b2 a o n (bt a o n e)
    · rw [List.length_append, List.length_singleton]; exact hb2.upd lpb.symm
  obtain ⟨left, os, rfl, hp, pm, hl2, bt, hb4⟩ := J
  have e : left = [] := List.length_eq_zero_iff.mp (by rw [← hl2]; rfl)
  subst e
  rw [List.append_nil] at pm
  have ll := pm.length_eq
  refine ⟨by rw [List.length_map]; exact Nat.le_trans (by omega : _ ≤ 8) (by decide), ?_⟩
  refine ⟨Nat.zero_le _, fun ra fra => ?_⟩
  have rb : ra ≠ b := (hb4.at fra).symm
  have ra0 := bt.none rb fra
  refine ⟨_, rfl, ?_⟩
  refine lr_loop A (M0 := M) (n := k + 28) (by omega) (by omega) (pm.symm.nodup nd) (by omega) (fun x hx => pm.mem_iff.mpr hx) rb ra0 ns [] _ none none none none none rfl (fun _ z => nomatch z) (fun a u na ea => ?_) ((hb4.upd rb.symm).mono (by show _ ≤ k + 28 + 12 * 0; omega)) ⟨updM_same, (fun _ z => nomatch z), (fun _ z => nomatch z), List.nodup_nil⟩ fun M5 l o8 o9 o10 o11 o12 el ro b5 hb5 ln => ?_
  · have nr : a ≠ ra := fun y => by rw [y, ra0] at ea; cases ea
    rw [updM_ne nr]; exact bt a u na ea
  have ll2 : l.length = ns.length := by rw [← el, List.length_map]
  have er : (l.map (·.2)).map (·.nm) = ns := by rw [List.map_map]; exact el
  refine ⟨_, rfl, _, rfl, (show 2 ≤ sizeLine by decide), ?_⟩
  refine q (l.map (·.2)) os ra (l.map (·.1)) M5 ⟨by rw [List.length_map]; omega, by rw [List.length_map]; omega, fun r hr => ?_, by rw [er]; exact nd, pm.symm.nodup nd, fun n => by rw [er]; exact pm.mem_iff, fun r hr p hp => ?_⟩ b5 (hb5.mono (by omega)) ra0 rb (fun p hp => ?_) ln.nd ⟨?_, by rw [List.length_map, List.length_map], fun i p r hp hr => ?_⟩
  · obtain ⟨x, hx, rfl⟩ := List.mem_map.mp hr
    have o := ro x hx
    exact ⟨nm _ (pm.mem_iff.mp o.nm), fun p hp => by rw [er]; exact pm.mem_iff.mp (o.par p hp).1, o.b0, o.b1, o.s0, o.s1, o.w0, o.w1, o.f0, o.f1, o.t0, o.t1⟩
  · obtain ⟨x, hx, rfl⟩ := List.mem_map.mp hr
    exact ((ro x hx).par p hp).2
  · obtain ⟨x, hx, rfl⟩ := List.mem_map.mp hp
    exact ln.fr x hx
  · rw [ln.hd, List.map_map]; rfl
  · rw [List.getElem?_map] at hp hr
    cases hx : l[i]? with
    | none => rw [hx] at hp; cases hp
    | some x =>
      rw [hx] at hp hr
      rw [← Option.some.inj hp, ← Option.some.inj hr]
      exact ln.at' x (List.mem_of_getElem? hx)
theorem ll_loop (A : Ad) {b la : Addr} {os : List Str} {rg : Bool} {M0 : Mp} {Dd : DEnds} {n : Nat} (o1 : 1 ≤ os.length) (o8 : os.length ≤ 8) (od : os.Nodup) (nm : ∀ s ∈ os, Nm s) (nk : n < 900000) (lb : la ≠ b) (fl : M0 la = none)
    (q : ∀ (M' : Mp) (ls : List (Str × Str)) (δ : DS), δ[3]? = some (some (.ref la)) → Links os rg ls → But b M0 M' → Bag M' b n → M' la = some (.lst (ls.map DL.prD)) → Dd.nx δ M') :
    ∀ (xs : List D) (ls : List (Str × Str)) (M : Mp) (c : Nat) (p4 p5 p6 p7 : Option D), ls.length + xs.length ≤ 16 → c + 2 * xs.length ≤ n → Links os rg ls → But b M0 M → Bag M b c → M la = some (.lst (ls.map DL.prD)) →
      dLoop (gdName 4) (b1__law_links A) .data xs Dd [some (.ref b), some (.lst (os.map D.str)), some (.bl rg), some (.ref la), p4, p5, p6, p7] M
  | [], ls, M, c, p4, p5, p6, p7, hl, hc, lk, bt, hb, hla => q M ls _ rfl lk bt (hb.mono (by omega)) hla
  | x :: t, ls, M, c, p4, p5, p6, p7, hl, hc, lk, bt, hb, hla => by
    rw [List.length_cons] at hl hc
    have lm : (os.map D.str).length = os.length := List.length_map _
    refine ⟨_, rfl, _, rfl, b, _, c, rfl, hb, by omega, by rw [lm]; omega, by rw [lm]; omega, fun M1 i b1 hb1 i0 i1 => ?_⟩
    refine ⟨_, rfl, _, rfl, b, _, _, rfl, hb1, by omega, by rw [lm]; omega, by rw [lm]; omega, fun M2 j b2 hb2 j0 j1 => ?_⟩
    rw [lm] at i1 j1
    have hla2 := b2 la _ lb (b1 la _ lb hla)
    have bt2 := (bt.trans b1).trans b2
    have go : ∀ i j : Int, 0 ≤ i → i < os.length → 0 ≤ j → j < os.length → (rg = false → j ≤ i) → dSeq (dAsg (dTup (dCn (dOp dIx (dVar 1) (dVar 5)) (dCn (dOp dIx (dVar 1) (dVar 6)) (dNil)))) (gdName 7)) (dIf (dAnd (dTest (dOp dNe (dVar 5) (dVar 6))) (dTest (dOp (dInD not) (dVar 7) (dVar 3)))) (dDrop (dAppend (dVar 3) (dVar 7))) (dNext)) { Dd with nx := dLoop (gdName 4) (b1__law_links A) .data t Dd, ct := dLoop (gdName 4) (b1__law_links A) .data t Dd, bk := Dd.nx } [some (.ref b), some (.lst (os.map D.str)), some (.bl rg), some (.ref la), some x, some (.int i), some (.int j), p7] M2 := fun i j i0 i1 j0 j1 up => by
      obtain ⟨i, rfl⟩ := Int.eq_ofNat_of_zero_le i0
      obtain ⟨j, rfl⟩ := Int.eq_ofNat_of_zero_le j0
      have il : i < os.length := by omega
      have jl : j < os.length := by omega
      have ei := List.getElem?_eq_getElem il
      have ej := List.getElem?_eq_getElem jl
      refine ⟨_, rfl, _, rfl, _, atI_nat (v := .str os[i]) (by rw [List.getElem?_map, ei]; rfl), _, rfl, _, rfl, _, atI_nat (v := .str os[j]) (by rw [List.getElem?_map, ej]; rfl), (show 2 ≤ sizeLine by decide), ?_⟩
      refine ⟨_, rfl, _, rfl, ?_⟩
      show br (!decide ((i : Int) = (j : Int))) _ _
      have skip : ∀ o7, dLoop (gdName 4) (b1__law_links A) .data t Dd [some (.ref b), some (.lst (os.map D.str)), some (.bl rg), some (.ref la), some x, some (.int (i : Int)), some (.int (j : Int)), o7] M2 := fun o7 => ll_loop A o1 o8 od nm nk lb fl q t ls M2 (c + 1 + 1) _ _ _ _ (by omega) (by omega) lk bt2 hb2 hla2
      refine br2 (fun ne => ?_) (fun _ => skip _)
      have ne : i ≠ j := fun z => by rw [z, decide_eq_true rfl] at ne; cases ne
      have nes : os[i] ≠ os[j] := fun z => ne ((List.getElem_inj od).mp z)
      refine ⟨_, rfl, _, rfl, inD_pairs (q := (os[i], os[j])) (.inr ⟨la, rfl, hla2⟩) ⟨nm _ (List.getElem_mem il), nm _ (List.getElem_mem jl)⟩ (fun r hr => ⟨nm _ (lk.mem r hr).1, nm _ (lk.mem r hr).2.1⟩) ?_⟩
      show br (!decide ((os[i], os[j]) ∈ ls)) _ _
      by_cases z : (os[i], os[j]) ∈ ls
      · exact brF (by rw [decide_eq_true z]; rfl) (skip _)
      · refine brT (by rw [decide_eq_false z]; rfl) ?_
        refine ⟨_, rfl, ⟨_, hla2⟩, _, rfl, _, hla2, by rw [List.length_map]; exact Nat.lt_of_le_of_lt (by omega : _ ≤ 16) (by decide), ?_⟩
        show dLoop (gdName 4) (b1__law_links A) .data t Dd _ (updM M2 la (.lst (ls.map DL.prD ++ [DL.prD (os[i], os[j])])))
        rw [show ls.map DL.prD ++ [DL.prD (os[i], os[j])] = (ls ++ [(os[i], os[j])]).map DL.prD by rw [List.map_append]; rfl]
        refine ll_loop A o1 o8 od nm nk lb fl q t (ls ++ [(os[i], os[j])]) _ (c + 1 + 1) _ _ _ _ (by rw [List.length_append, List.length_singleton]; omega) (by omega) ⟨?_, ?_, fun r hr => ?_, fun hr r hr' => ?_⟩ (fun a u na ea => ?_) (hb2.upd lb.symm) updM_same
        · rw [List.length_append, List.length_singleton]; omega
        · rw [List.nodup_append]
          exact ⟨lk.dup, by simp, fun a ha b hb e => z (by rw [List.mem_singleton.mp hb] at e; rw [← e]; exact ha)⟩
        · rcases List.mem_append.mp hr with y | y
          · exact lk.mem r y
          · rw [List.mem_singleton.mp y]; exact ⟨List.getElem_mem il, List.getElem_mem jl, nes⟩
        · rcases List.mem_append.mp hr' with y | y
          · exact lk.up hr r y
          · rw [List.mem_singleton.mp y]
            show os.idxOf os[j] < os.idxOf os[i]
            rw [idx_of od ei, idx_of od ej]
            have := up hr
            omega
        · have nl : a ≠ la := fun y => by rw [y, fl] at ea; cases ea
          rw [updM_ne nl]; exact bt2 a u na ea
    refine ⟨_, rfl, ?_⟩
    cases rg with
    | true => exact go i j i0 i1 j0 j1 fun z => nomatch z
    | false =>
      refine ⟨_, rfl, _, rfl, ?_⟩
      show br (decide (i < j)) _ _
      refine br2 (fun c => ?_) (fun c => ?_)
      · have c := of_decide_eq_true c
        exact ⟨_, rfl, _, rfl, go j i j0 j1 i0 i1 fun _ => by omega⟩
      · have c := of_decide_eq_false c
        exact go i j i0 i1 j0 j1 fun _ => by omega
theorem rd__law_links (A : Ad) (hA : AdOk A) : ∀ ds M Qd Ed, sp__law_links A ds M Qd Ed → t__law_links A (ends Qd Ed) (dstart N__law_links ds) M := by
  intro ds M Qd Ed h
  obtain ⟨b, k, os, rg, rfl, hb, hk, o1, o8, od, nm, q⟩ := h
  refine ⟨Nat.zero_le _, fun la fla => ?_⟩
  have lb : la ≠ b := (hb.at fla).symm
  refine ⟨_, rfl, b, 17, k, rfl, hb.upd lb.symm, by omega, by decide, by decide, fun M1 u b1 hb1 u0 u1 => ?_⟩
  refine ⟨_, rfl, b, 4, _, rfl, hb1, by omega, by decide, by decide, fun M2 v b2 hb2 v0 v1 => ?_⟩
  refine ⟨(show 3 ≤ sizeLine by decide), _, rfl, b, 3, _, rfl, hb2, by omega, by decide, by decide, fun M3 w b3 hb3 w0 w1 => ?_⟩
  obtain ⟨cn, e1, c0, c1⟩ : ∃ cn : Int, atI [D.int u, .int v, .int 16] w = some (.int cn) ∧ 0 ≤ cn ∧ cn ≤ 16 := by
    rcases (by omega : w = 0 ∨ w = 1 ∨ w = 2) with rfl | rfl | rfl
    · exact ⟨u, rfl, by omega, by omega⟩
    · exact ⟨v, rfl, by omega, by omega⟩
    · exact ⟨16, rfl, by decide, by decide⟩
  refine ⟨_, e1, ⟨by omega, by omega⟩, ?_⟩
  have b13 := (b1.trans b2).trans b3
  have hla3 := b13 la _ lb updM_same
  have bt : But b M M3 := fun a o na ea => b13 a o na (by rw [updM_ne (fun y => by rw [y, fla] at ea; cases ea)]; exact ea)
  refine ll_loop A (M0 := M) (n := k + 40) (rg := rg) o1 o8 od nm (by omega) lb fla ?_ _ [] M3 (k + 1 + 1 + 1) none none none none (by rw [rng_len]; show 0 + _ ≤ 16; omega) (by rw [rng_len]; omega) ⟨Nat.zero_le _, List.nodup_nil, (fun _ z => nomatch z), fun _ _ z => nomatch z⟩ bt hb3 hla3
  exact fun M' ls δ h3 lk b5 hb5 hla => ⟨_, h3, q ls la M' lk b5 hb5 fla lb hla⟩
theorem nm_pe {s : Str} (h : Nm s) : Pe 20 [1] (.str s) := .leafD ⟨Nat.le_trans h.2.1 (by decide), h.2.2.ok⟩
theorem nm_pe0 {s : Str} (h : Nm s) : Pe 20 [] (.str s) := .leafD ⟨Nat.le_trans h.2.1 (by decide), h.2.2.ok⟩
theorem nm_x {s : Str} (h : Nm s) : Pe 20 [1] (.str (s ++ "x")) := by
  have l : Lt "x" := fun c hc => by
    have : ∀ c ∈ ("x" : Str).cps.toList, c ∈ letters.cps.toList := by decide +kernel
    exact this c hc
  refine .leafD ⟨?_, (h.2.2.app l).ok⟩
  have := h.2.1
  rw [PySem.Str.length_append]
  show s.length + 1 ≤ 20
  omega
theorem cut_n {l : List Str} {n : Nat} : cutD (l.map D.str) none (some (n : Int)) = (l.take n).map D.str := by rw [cutD_to, List.map_take]
theorem rd__law_forged (A : Ad) (hA : AdOk A) : ∀ ds M Qd Ed, sp__law_forged A ds M Qd Ed → t__law_forged A (ends Qd Ed) (dstart N__law_forged ds) M := by
  intro ds M Qd Ed h
  obtain ⟨m, b, w, k, os, rfl, g, hb, hk, hw, ol, on, q⟩ := h
  have n8 := g.n8
  have n1 := g.n1
  have wb := Bag.ne hb hw
  refine ⟨_, rfl, b, 9, k, rfl, hb, by omega, by decide, by decide, fun M1 v b1 hb1 v0 v1 => ?_⟩
  have hw1 : M1 w = some (.dct (tab m.names (wantsF m))) := b1 w _ wb hw
  refine ⟨_, rfl, _, .inl hw1, ?_⟩
  rw [tab_keys]
  refine ⟨_, rfl, _, rfl, b, _, _, rfl, hb1, by omega, by rw [List.length_map]; omega, by rw [List.length_map]; omega, fun M2 i b2 hb2 i0 i1 => ?_⟩
  refine ⟨_, rfl, _, rfl, b, _, _, rfl, hb2, by omega, by rw [List.length_map]; omega, by rw [List.length_map]; omega, fun M3 j b3 hb3 j0 j1 => ?_⟩
  rw [List.length_map] at i1 j1
  refine ⟨_, rfl, _, rfl, by rw [List.length_map, List.length_map]; exact Nat.le_trans (by omega : _ ≤ 16) (by decide), _, rfl, fun f hf => ?_⟩
  rw [List.length_map, ← List.map_append, cut_n]
  obtain ⟨ss, hss⟩ : ∃ ss, (os ++ m.names).take m.names.length = ss := ⟨_, rfl⟩
  have sl : ss.length = m.names.length := by rw [← hss, List.length_take, List.length_append]; omega
  have sn : ∀ s ∈ ss, s ∈ m.names := fun s hs => by
    rw [← hss] at hs
    rcases List.mem_append.mp (List.mem_of_mem_take hs) with z | z
    · exact on s z
    · exact z
  rw [hss]
  clear hss
  have fb : f ≠ b := (hb3.at hf).symm
  have b13 := (b1.trans b2).trans b3
  have hf4 : updM M3 f (.lst (ss.map D.str)) f = some (.lst (ss.map D.str)) := updM_same
  have b4 : But b M (updM M3 f (.lst (ss.map D.str))) := fun a o na ea => by
    have af : a ≠ f := fun z => by have := b13 a o na ea; rw [z, hf] at this; cases this
    rw [updM_ne af]; exact b13 a o na ea
  have hb4 : Bag (updM M3 f (.lst (ss.map D.str))) b (k + 3) := hb3.upd fb.symm
  have f0 : M f = none := b13.none fb hf
  generalize updM M3 f (.lst (ss.map D.str)) = M4 at hf4 b4 hb4 ⊢
  have hw4 : M4 w = some (wtO m) := b4 w _ wb hw
  have px : ∀ x ∈ ss.map D.str, Pe 20 [1] x := fun x hx => by
    obtain ⟨s, hs, rfl⟩ := List.mem_map.mp hx
    exact nm_pe (g.nm (sn s hs))
  have put : ∀ o, But b M (updM M4 f o) := fun o a u na ea => by
    have af : a ≠ f := fun z => by rw [z, f0] at ea; cases ea
    rw [updM_ne af]; exact b4 a u na ea
  have fin : ∀ (M' : Mp) (xs : List D) (δ : DS), δ[7]? = some (some (.ref f)) → M' f = some (.lst xs) → xs.length ≤ 17 → (∀ x ∈ xs, Pe 20 [1] x) → But b M M' → Bag M' b (k + 20) → k1__law_forged A (ends Qd Ed) δ M' := fun M' xs δ h7 hx xl xp bt hb' => by
    obtain ⟨M2, z, kk⟩ := fz_lst hx
    refine ⟨_, h7, M2, _, z, q _ M2 (.lst xl xp) (fun a o na ea => ?_) ?_⟩
    · have af : a ≠ f := fun y => by rw [y, f0] at ea; cases ea
      rw [kk a af]; exact bt a o na ea
    · obtain ⟨x, y, z, a, b0, b1, b2, b3⟩ := hb'
      exact ⟨x, y, z, by rw [kk b fb.symm]; exact a, b0, b1, b2, b3⟩
  obtain ⟨i, rfl⟩ := Int.eq_ofNat_of_zero_le i0
  obtain ⟨j, rfl⟩ := Int.eq_ofNat_of_zero_le j0
  have il : i < ss.length := by omega
  have jl : j < ss.length := by omega
  have gi : (ss.map D.str)[i]? = some (.str ss[i]) := by rw [List.getElem?_map, List.getElem?_eq_getElem il]; rfl
  have gj : (ss.map D.str)[j]? = some (.str ss[j]) := by rw [List.getElem?_map, List.getElem?_eq_getElem jl]; rfl
  have ai : atI (ss.map D.str) (i : Int) = some (.str ss[i]) := atI_nat gi
  have aj : atI (ss.map D.str) (j : Int) = some (.str ss[j]) := atI_nat gj
  have ni := g.nm (sn _ (List.getElem_mem il))
  have nj := g.nm (sn _ (List.getElem_mem jl))
  have ls : (ss.map D.str).length = ss.length := List.length_map _
  have ixi : ixN (ss.map D.str).length (i : Int) = some ((i : Int)).toNat := ix_nn (by omega) (by omega)
  rcases (by omega : v = 0 ∨ v = 1 ∨ v = 2 ∨ v = 3 ∨ v = 4 ∨ v = 5 ∨ v = 6 ∨ v = 7 ∨ v = 8) with rfl | rfl | rfl | rfl | rfl | rfl | rfl | rfl | rfl
  · refine ⟨_, rfl, ?_⟩
    refine ⟨_, rfl, _, rfl, _, hf4, _, aj, _, rfl, _, rfl, _, hf4, _, ai, (show 2 ≤ sizeLine by decide), rfl, _, rfl, _, rfl, _, hf4, _, ixi, _, rfl, _, rfl, _, updM_same, _, ix_nn (by omega) (by rw [List.length_set]; omega), rfl, ?_⟩
    refine ⟨_, rfl, ?_⟩
    refine ⟨_, rfl, ?_⟩
    refine ⟨_, rfl, ?_⟩
    refine ⟨_, rfl, ?_⟩
    refine ⟨_, rfl, ?_⟩
    refine ⟨_, rfl, ?_⟩
    refine ⟨_, rfl, ?_⟩
    refine ⟨_, rfl, ?_⟩
    refine fin _ _ _ rfl updM_same (by rw [List.length_set, List.length_set]; omega) (fun x hx => ?_) (fun a o na ea => ?_) (((hb4.upd fb.symm).upd fb.symm).mono (by omega))
    · rcases List.mem_or_eq_of_mem_set hx with z | rfl
      · rcases List.mem_or_eq_of_mem_set z with z | rfl
        · exact px x z
        · exact nm_pe nj
      · exact nm_pe ni
    · have af : a ≠ f := fun y => by rw [y, f0] at ea; cases ea
      rw [updM_ne af]; exact put _ a o na ea
  · refine ⟨_, rfl, ?_⟩
    refine ⟨_, rfl, ?_⟩
    refine ⟨_, rfl, ⟨_, hf4⟩, _, rfl, _, rfl, ⟨_, hf4⟩, _, rfl, _, hf4, by omega, by omega, _, gi, _, updM_same, ?_, by omega, by omega, ?_⟩
    · rw [List.length_eraseIdx]; exact Nat.lt_of_le_of_lt (by split <;> omega : _ ≤ 8) (by decide)
    refine ⟨_, rfl, ?_⟩
    refine ⟨_, rfl, ?_⟩
    refine ⟨_, rfl, ?_⟩
    refine ⟨_, rfl, ?_⟩
    refine ⟨_, rfl, ?_⟩
    refine ⟨_, rfl, ?_⟩
    refine ⟨_, rfl, ?_⟩
    refine fin _ _ _ rfl updM_same ?_ (fun x hx => ?_) (fun a o na ea => ?_) (((hb4.upd fb.symm).upd fb.symm).mono (by omega))
    · rw [List.length_append, List.length_append, List.length_take, List.length_drop, List.length_eraseIdx, List.length_singleton]; split <;> omega
    · rcases List.mem_append.mp hx with z | z
      · rcases List.mem_append.mp z with z | z
        · exact px x (List.mem_of_mem_eraseIdx (List.mem_of_mem_take z))
        · rw [List.mem_singleton.mp z]; exact nm_pe ni
      · exact px x (List.mem_of_mem_eraseIdx (List.mem_of_mem_drop z))
    · have af : a ≠ f := fun y => by rw [y, f0] at ea; cases ea
      rw [updM_ne af]; exact put _ a o na ea
  · refine ⟨_, rfl, ?_⟩
    refine ⟨_, rfl, ?_⟩
    refine ⟨_, rfl, ?_⟩
    refine ⟨_, rfl, ⟨_, hf4⟩, _, rfl, _, hf4, by omega, by omega, _, gi, ?_⟩
    refine ⟨_, rfl, ?_⟩
    refine ⟨_, rfl, ?_⟩
    refine ⟨_, rfl, ?_⟩
    refine ⟨_, rfl, ?_⟩
    refine ⟨_, rfl, ?_⟩
    refine ⟨_, rfl, ?_⟩
    refine fin _ _ _ rfl updM_same ?_ (fun x hx => px x (List.mem_of_mem_eraseIdx hx)) (put _) ((hb4.upd fb.symm).mono (by omega))
    rw [List.length_eraseIdx]; split <;> omega
  · refine ⟨_, rfl, ?_⟩
    refine ⟨_, rfl, ?_⟩
    refine ⟨_, rfl, ?_⟩
    refine ⟨_, rfl, ?_⟩
    refine ⟨_, rfl, _, rfl, _, hf4, _, aj, _, rfl, _, rfl, _, hf4, _, ixi, ?_⟩
    refine ⟨_, rfl, ?_⟩
    refine ⟨_, rfl, ?_⟩
    refine ⟨_, rfl, ?_⟩
    refine ⟨_, rfl, ?_⟩
    refine ⟨_, rfl, ?_⟩
    refine fin _ _ _ rfl updM_same (by rw [List.length_set]; omega) (fun x hx => ?_) (put _) ((hb4.upd fb.symm).mono (by omega))
    rcases List.mem_or_eq_of_mem_set hx with z | rfl
    · exact px x z
    · exact nm_pe nj
  · refine ⟨_, rfl, ?_⟩
    refine ⟨_, rfl, ?_⟩
    refine ⟨_, rfl, ?_⟩
    refine ⟨_, rfl, ?_⟩
    refine ⟨_, rfl, ?_⟩
    exact ⟨_, rfl, _, hf4, _, _, .same _ _, q _ M4 (.lst (by rw [List.length_reverse]; omega) fun x hx => px x (List.mem_reverse.mp hx)) b4 (hb4.mono (by omega))⟩
  · refine ⟨_, rfl, ?_⟩
    refine ⟨_, rfl, ?_⟩
    refine ⟨_, rfl, ?_⟩
    refine ⟨_, rfl, ?_⟩
    refine ⟨_, rfl, ?_⟩
    refine ⟨_, rfl, ?_⟩
    refine ⟨_, rfl, _, rfl, ⟨m, b, w, _, rfl, g, hb4, by omega, hw4, fun xs M5 hx hl b5 hb5 => ⟨_, _, .same _ _, q _ M5 (.lst (by rw [List.length_map]; omega) fun x hx' => ?_) (b4.trans b5) (hb5.mono (by omega))⟩⟩⟩
    obtain ⟨s, hs, rfl⟩ := List.mem_map.mp hx'
    exact nm_pe (g.nm (hx s hs))
  · refine ⟨_, rfl, ?_⟩
    refine ⟨_, rfl, ?_⟩
    refine ⟨_, rfl, ?_⟩
    refine ⟨_, rfl, ?_⟩
    refine ⟨_, rfl, ?_⟩
    refine ⟨_, rfl, ?_⟩
    refine ⟨_, rfl, ?_⟩
    exact ⟨_, rfl, _, hf4, _, _, .same _ _, q _ M4 (.tup (by omega) px) b4 (hb4.mono (by omega))⟩
  · refine ⟨_, rfl, ?_⟩
    refine ⟨_, rfl, ?_⟩
    refine ⟨_, rfl, ?_⟩
    refine ⟨_, rfl, ?_⟩
    refine ⟨_, rfl, ?_⟩
    refine ⟨_, rfl, ?_⟩
    refine ⟨_, rfl, ?_⟩
    refine ⟨_, rfl, ?_⟩
    have ll : ss[i].length ≤ 8 := ni.2.1
    refine ⟨_, rfl, _, rfl, _, hf4, _, ai, (show 1 ≤ sizeLine by decide), _, rfl, _, rfl, _, hf4, _, ai, (show 1 ≤ sizeLine by decide), _, rfl, _, rfl, _, hf4, _, ai, (big_line (show ss[i].length + 1 ≤ 10000 by omega)), (show 8 ≤ sizeLine by decide), _, rfl, b, 8, _, rfl, hb4, by omega, by decide, by decide, fun M5 u b5 hb5 u0 u1 => ?_⟩
    obtain ⟨d, ed, hd⟩ := at_some (xs := [D.non, .int 7, .bl true, .lst [.str ss[i]], .tup [.str ss[i]], .str (ss[i] ++ "x"), .str "", .dct []]) u0 u1
    have pd : Pe 20 [1] d := by
      simp only [List.mem_cons, List.mem_nil_iff, or_false] at hd
      rcases hd with rfl | rfl | rfl | rfl | rfl | rfl | rfl | rfl
      · exact .leafD trivial
      · exact .leafD ⟨by decide, by decide⟩
      · exact .leafD trivial
      · exact .lst (Nat.le_refl _) fun x hx => by rw [List.mem_singleton.mp hx]; exact nm_pe0 ni
      · exact .tup (Nat.le_refl _) fun x hx => by rw [List.mem_singleton.mp hx]; exact nm_pe0 ni
      · exact nm_x ni
      · exact .leafD ⟨by decide, fun c hc => nomatch hc⟩
      · exact .leaf (.inr rfl)
    have hf5 := b5 f _ fb hf4
    refine ⟨_, ed, _, rfl, _, rfl, _, hf5, _, ixi, ?_⟩
    refine ⟨_, rfl, ?_⟩
    refine fin _ _ _ rfl updM_same (by rw [List.length_set]; omega) (fun x hx => ?_) (fun a o na ea => ?_) ((hb5.upd fb.symm).mono (by omega))
    · rcases List.mem_or_eq_of_mem_set hx with z | rfl
      · exact px x z
      · exact pd
    · have af : a ≠ f := fun y => by rw [y, f0] at ea; cases ea
      rw [updM_ne af]; exact b5 a o na (b4 a o na ea)
  · refine ⟨_, rfl, ?_⟩
    refine ⟨_, rfl, ?_⟩
    refine ⟨_, rfl, ?_⟩
    refine ⟨_, rfl, ?_⟩
    refine ⟨_, rfl, ?_⟩
    refine ⟨_, rfl, ?_⟩
    refine ⟨_, rfl, ?_⟩
    refine ⟨_, rfl, ?_⟩
    refine ⟨_, rfl, ?_⟩
    refine ⟨Nat.zero_le _, _, rfl, _, rfl, _, rfl, _, rfl, _, hf4, _, ai, (show 1 ≤ sizeLine by decide), _, hf4, (by rw [ls]; exact big_line (show ss.length + 1 ≤ 10000 by omega)), (show 8 ≤ sizeLine by decide), _, rfl, b, 8, _, rfl, hb4, by omega, by decide, by decide, fun M5 u b5 hb5 u0 u1 => ?_⟩
    obtain ⟨d, ed, hd⟩ := at_some (xs := [D.non, .lst [], .str "", .dct [], .int 0, .bl true, .lst (m.names.map D.str), .lst (ss.map D.str ++ [.str ss[i]])]) u0 u1
    have pd : Th08 d := by
      simp only [List.mem_cons, List.mem_nil_iff, or_false] at hd
      rcases hd with rfl | rfl | rfl | rfl | rfl | rfl | rfl | rfl
      · exact .leafD trivial
      · exact .lst (Nat.zero_le _) fun x hx => nomatch hx
      · exact .leafD ⟨by decide, fun c hc => nomatch hc⟩
      · exact .leaf (.inr rfl)
      · exact .leafD ⟨by decide, by decide⟩
      · exact .leafD trivial
      · refine .lst (by rw [List.length_map]; omega) fun x hx => ?_
        obtain ⟨s, hs, rfl⟩ := List.mem_map.mp hx
        exact nm_pe (g.nm hs)
      · refine .lst (by rw [List.length_append, List.length_singleton]; omega) fun x hx => ?_
        rcases List.mem_append.mp hx with z | z
        · exact px x z
        · rw [List.mem_singleton.mp z]; exact nm_pe ni
    exact ⟨_, ed, _, _, .same _ _, q _ M5 pd (b4.trans b5) (hb5.mono (by omega))⟩
def wdB (m : Mc) : D → Bool
  | .str s => decide (s ∈ m.names)
  | _ => false
theorem words_of {m : Mc} : ∀ xs : List D, (∀ x ∈ xs, wdB m x = true) → ∃ ts : List Str, xs = ts.map D.str ∧ ∀ t ∈ ts, t ∈ m.names
  | [], _ => ⟨[], rfl, fun _ z => nomatch z⟩
  | x :: r, h => by
    obtain ⟨ts, e, hn⟩ := words_of r fun y hy => h y (List.mem_cons_of_mem _ hy)
    have hx := h x List.mem_cons_self
    cases x with
    | str s => exact ⟨s :: ts, by rw [e]; rfl, fun t ht => by
        rcases List.mem_cons.mp ht with rfl | z
        · exact of_decide_eq_true hx
        · exact hn t z⟩
    | _ => cases hx
theorem str_inj : ∀ {a b : List Str}, a.map D.str = b.map D.str → a = b
  | [], [], _ => rfl
  | [], _ :: _, h => nomatch h
  | _ :: _, [], h => nomatch h
  | x :: a, y :: b, h => by
    rw [List.map_cons, List.map_cons] at h
    obtain ⟨h1, h2⟩ := List.cons.inj h
    rw [D.str.inj h1, str_inj h2]
def ordB (nd : Str → List Str) (ts : List Str) : List Str → Nat → Bool
  | [], _ => true
  | x :: r, k => ((nd x).all fun o => decide (o ∈ ts.take k)) && ordB nd ts r (k + 1)
theorem ordB_iff {nd : Str → List Str} {ts : List Str} : ∀ (xs : List Str) (k : Nat), ordB nd ts xs k = true ↔ ∀ (j : Nat) (x : Str), xs[j]? = some x → ∀ o ∈ nd x, o ∈ ts.take (k + j)
  | [], k => ⟨fun _ j x h => (by cases h), fun _ => rfl⟩
  | y :: r, k => by
    have ih := ordB_iff (nd := nd) (ts := ts) r (k + 1)
    show (((nd y).all fun o => decide (o ∈ ts.take k)) && ordB nd ts r (k + 1)) = true ↔ _
    rw [Bool.and_eq_true, ih, List.all_eq_true]
    constructor
    · rintro ⟨a, b⟩ j x hj o ho
      cases j with
      | zero => cases hj; exact of_decide_eq_true (a o ho)
      | succ j => rw [show k + (j + 1) = k + 1 + j by omega]; exact b j x hj o ho
    · intro h
      refine ⟨fun o ho => decide_eq_true (h 0 y rfl o ho), fun j x hj o ho => ?_⟩
      have := h (j + 1) x hj o ho
      rwa [show k + (j + 1) = k + 1 + j by omega] at this
theorem th_case {d : D} (h : Th08 d) : (∃ xs, (d = .tup xs ∨ d = .lst xs) ∧ xs.length ≤ 17 ∧ ∀ x ∈ xs, Pe 20 [1] x) ∨ (leafE 20 d ∧ ∀ xs, d ≠ .tup xs ∧ d ≠ .lst xs) := by
  rcases h with h | h
  · refine .inr ⟨h, fun xs => ⟨fun e => ?_, fun e => ?_⟩⟩
    · subst e
      rcases h with h | h
      · exact h
      · cases h
    · subst e
      rcases h with h | h
      · exact h
      · cases h
  · exact .inl h
theorem are_test {m : Mc} {w : Addr} {x d : D} {M : Mp} {Q : DK} {o0 o1 : Option D} (hw : M w = some (wtO m)) (hx : Pe 20 [1] x) (q : Q (.bl (wdB m x)) M) : (dAndV (dIsi .str (dVar 2)) (dOp (dInK id) (dVar 2) (dVar 0))) [some (.ref w), o1, some x] M Q E0d := by
  have hw' : M w = some (.dct (tab m.names (wantsF m))) := hw
  cases x with
  | str s =>
    refine ⟨_, rfl, ?_⟩
    refine ⟨_, rfl, _, rfl, .inl ⟨_, hw', _, rfl, ?_⟩⟩
    have e : (valD (tab m.names (wantsF m)) (.inr s)).isSome = decide (s ∈ m.names) := by
      by_cases z : s ∈ m.names
      · rw [tab_val z, decide_eq_true z]; rfl
      · rw [tab_none z, decide_eq_false z]; rfl
    show Q (.bl (valD (tab m.names (wantsF m)) (.inr s)).isSome) M
    rw [e]
    exact q
  | non => exact ⟨_, rfl, q⟩
  | bl b => exact ⟨_, rfl, q⟩
  | int i => exact ⟨_, rfl, q⟩
  | lst xs => exact ⟨_, rfl, q⟩
  | tup xs => exact ⟨_, rfl, q⟩
  | dct xs => exact ⟨_, rfl, q⟩
  | _ =>
    rcases hx with hx | ⟨ys, e | e, _⟩
    · rcases hx with hx | hx
      · exact hx.elim
      · cases hx
    · cases e
    · cases e
theorem no_words {m : Mc} {d : D} (h : ∀ xs, d ≠ .tup xs ∧ d ≠ .lst xs) : ¬ ∃ ts : List Str, (d = .lst (ts.map D.str) ∨ d = .tup (ts.map D.str)) ∧ (∀ t ∈ ts, t ∈ m.names) ∧ ts.Nodup := fun ⟨ts, e, _⟩ => e.elim (h _).2 (h _).1
theorem rd_are_names (A : Ad) (hA : AdOk A) : ∀ ds M Qd Ed, sp_are_names A ds M Qd Ed → t_are_names A (ends Qd Ed) (dstart N_are_names ds) M := by
  intro ds M Qd Ed h
  obtain ⟨m, w, d, rfl, g, hw, th, q⟩ := h
  have out : (∀ xs, d ≠ .tup xs ∧ d ≠ .lst xs) → Qd (.bl false) M := fun h => q false ⟨(fun z => nomatch z), fun z => absurd z (no_words h)⟩
  rcases th_case th with ⟨xs, e, xl, xp⟩ | ⟨lf, no⟩
  · have bad : xs.all (wdB m) = false → Qd (.bl false) M := fun h => q false ⟨(fun z => nomatch z), fun ⟨ts, e2, hn, _⟩ => by
      have ex : xs = ts.map D.str := by
        rcases e with rfl | rfl <;> rcases e2 with e2 | e2 <;> cases e2 <;> rfl
      have : xs.all (wdB m) = true := by
        rw [List.all_eq_true, ex]
        intro x hx
        obtain ⟨t, ht, rfl⟩ := List.mem_map.mp hx
        exact decide_eq_true (hn t ht)
      rw [h] at this
      cases this⟩
    have main : (dIf (dNot (dTruth (dCB dAll (dCn (dLc (iQ (dVar 1)) (.one 2) dYes (dAndV (dIsi .str (dVar 2)) (dOp (dInK id) (dVar 2) (dVar 0))) [2]) (dNil))))) (dRet (dC (.bl false))) (dNext)) { ends Qd Ed with nx := fun δ M => dRet (dOp dEq (dLenSc 2 (dVar 1)) (dCB dLen (dCn (dVar 1) (dNil)))) (ends Qd Ed) δ M } [some (.ref w), some d, none] M := by
      have go : xs.length < sizeLine ∧ dComp (.one 2) dYes (dAndV (dIsi .str (dVar 2)) (dOp (dInK id) (dVar 2) (dVar 0))) .data [2] [some (.ref w), some d, none] (fun acc M2 => dAll [.lst acc] M2 fun v M3 => dTru v M3 fun b => br (!b) (Qd (.bl false) M3) (dRet (dOp dEq (dLenSc 2 (dVar 1)) (dCB dLen (dCn (dVar 1) (dNil)))) (ends Qd Ed) [some (.ref w), some d, none] M3)) xs [] M := by
        refine ⟨Nat.lt_of_le_of_lt xl (by decide), ?_⟩
        refine comp_map1 (fun x => .bl (wdB m x)) (by exact trivial) _ (fun x hx Q z => are_test (d := d) (o0 := none) hw (xp x hx) z) (Nat.le_trans xl (by decide)) ?_
        refine ⟨xs.map (wdB m), by rw [List.map_map]; rfl, ?_⟩
        show br (!((xs.map (wdB m)).all id)) _ _
        rw [List.all_map]
        show br (!(xs.all (wdB m))) _ _
        refine br2 (fun c => bad (by simpa using c)) (fun c => ?_)
        have al : xs.all (wdB m) = true := by simpa using c
        obtain ⟨ts, et, hn⟩ := words_of xs (List.all_eq_true.mp al)
        have lt : ts.length ≤ 17 := by have := congrArg List.length et; rw [List.length_map] at this; omega
        have fin : Qd (.bl (decide ((((uqS ts).2 : Nat) : Int) = (xs.length : Nat)))) M := by
          refine q _ ⟨fun z => ?_, fun ⟨us, e2, hn2, nd⟩ => ?_⟩
          · have z := of_decide_eq_true z
            have l2 := congrArg List.length et
            rw [List.length_map] at l2
            have : (uqS ts).2 = ts.length := by omega
            refine ⟨ts, ?_, hn, (uq_all ts).mp this⟩
            rcases e with rfl | rfl
            · exact .inr (by rw [et])
            · exact .inl (by rw [et])
          · have ex : xs = us.map D.str := by
              rcases e with rfl | rfl <;> rcases e2 with e2 | e2 <;> cases e2 <;> rfl
            have eu : ts = us := str_inj (et.symm.trans ex)
            subst eu
            have := (uq_all ts).mpr nd
            rw [et, List.length_map, this]
            exact decide_eq_true rfl
        rcases e with rfl | rfl
        · exact ⟨_, rfl, ts, et, by omega, (show 2 < 3 by decide), _, rfl, fin⟩
        · exact ⟨_, rfl, ts, et, by omega, (show 2 < 3 by decide), _, rfl, fin⟩
      rcases id e with rfl | rfl
      · exact ⟨_, rfl, go⟩
      · exact ⟨_, rfl, go⟩
    rcases id e with rfl | rfl
    · exact ⟨_, rfl, (fun z => nomatch z), main⟩
    · exact ⟨_, rfl, (fun z => nomatch z), main⟩
  · have o := out no
    rcases lf with lf | rfl
    · cases d with
      | non => exact ⟨_, rfl, (fun z => nomatch z), o⟩
      | bl b => exact ⟨_, rfl, (fun z => nomatch z), o⟩
      | int i => exact ⟨_, rfl, (fun z => nomatch z), o⟩
      | str s => exact ⟨_, rfl, (fun z => nomatch z), o⟩
      | _ => exact lf.elim
    · exact ⟨_, rfl, (fun z => nomatch z), o⟩
theorem sl_test {gg : Bool → Bool} {te : DTE} {i j : Nat} {δ : DS} {M : Mp} {Q : DK} {E : DXK} {d : D} {ts : List Str} {o : Str} {k : Nat} (h1 : ∀ R : DK, R (.str o) M → te δ M R E) (hi : δ[i]? = some (some d)) (e : d = .lst (ts.map D.str) ∨ d = .tup (ts.map D.str)) (hj : δ[j]? = some (some (.int (k : Int))))
    (q : Q (.bl (gg (decide (o ∈ ts.take k)))) M) : (dOp (dInW gg) te (dSlA dSl4 (dVar i) oNone (oSome (dVar j)))) δ M Q E := by
  refine h1 _ ⟨_, hi, _, hj, ?_⟩
  rcases e with rfl | rfl
  · refine sl4_lst ⟨ts.take k, ?_, rfl, q⟩
    show some (cutD (ts.map D.str) none (some (k : Int))) = _
    rw [cutD_to, List.map_take]
  · refine sl4_tup ⟨ts.take k, ?_, rfl, q⟩
    show some (cutD (ts.map D.str) none (some (k : Int))) = _
    rw [cutD_to, List.map_take]
theorem all_snoc (bs : List Bool) (b : Bool) : (bs ++ [b]).all id = (bs.all id && b) := by
  rw [List.all_append]
  simp
theorem bl_snoc (bs : List Bool) (b : Bool) : bs.map D.bl ++ [.bl b] = (bs ++ [b]).map D.bl := by rw [List.map_append]; rfl
theorem sh_in {M : Mp} {w : Addr} {d o0 o1 : D} {ts : List Str} {k : Nat} {x : Str} (e : d = .lst (ts.map D.str) ∨ d = .tup (ts.map D.str)) {K : List D → Mp → Prop} : ∀ (l : List Str) (bs : List Bool), bs.length + l.length ≤ 1000 →
    (∀ bs' : List Bool, bs'.all id = (bs.all id && l.all fun o => decide (o ∈ ts.take k)) → bs'.length = bs.length + l.length → K (bs'.map D.bl) M) →
    dCompI (.one 6) (dOp (dInW id) (dVar 6) (dSlA dSl4 (dVar 2) (oNone) (oSome (dVar 4)))) .data [6] [some o0, some o1, some d, some (.ref w), some (.int (k : Nat)), some (.str x), none] K (l.map D.str) (bs.map D.bl) M
  | [], bs, _, q => q bs (by simp) rfl
  | o :: t, bs, hl, q => by
    rw [List.length_cons] at hl
    show (dOp (dInW id) (dVar 6) (dSlA dSl4 (dVar 2) oNone (oSome (dVar 4)))) [some o0, some o1, some d, some (.ref w), some (.int (k : Nat)), some (.str x), some (.str o)] M _ E0d
    refine sl_test (d := d) (o := o) (k := k) (fun R z => ⟨_, rfl, z⟩) rfl e rfl ?_
    refine ⟨by rw [List.length_map]; exact Nat.lt_of_le_of_lt (by omega : _ ≤ 1000) (by decide), ?_⟩
    rw [bl_snoc]
    refine sh_in e t (bs ++ [id (decide (o ∈ ts.take k))]) (by rw [List.length_append, List.length_singleton]; omega) fun bs' h1 h2 => q bs' ?_ ?_
    · rw [h1, all_snoc, List.all_cons, Bool.and_assoc]; rfl
    · rw [h2, List.length_append, List.length_singleton, List.length_cons]; omega
theorem sh_out {m : Mc} (g : FairM m) {M : Mp} {w : Addr} {d o0 o1 : D} {ts : List Str} (hw : M w = some (wtO m)) (hn : ∀ t ∈ ts, t ∈ m.names) (e : d = .lst (ts.map D.str) ∨ d = .tup (ts.map D.str)) {K : List D → Mp → Prop} : ∀ (xs pre : List Str) (bs : List Bool), pre ++ xs = ts → bs.length + 8 * xs.length ≤ 1000 →
    (∀ bs' : List Bool, bs'.all id = (bs.all id && ordB m.needs ts xs pre.length) → K (bs'.map D.bl) M) →
    dComp2 (.tup [4, 5]) (iL (dOp dGetK (dVar 3) (dVar 5))) (.one 6) (dOp (dInW id) (dVar 6) (dSlA dSl4 (dVar 2) (oNone) (oSome (dVar 4)))) .data [4, 5, 6] [6] [some o0, some o1, some d, some (.ref w), none, none, none] K (((xs.map D.str).zipIdx pre.length).map fun p => D.tup [.int (p.2 : Nat), p.1]) (bs.map D.bl) M
  | [], pre, bs, _, _, q => q bs (by show _ = (bs.all id && true); rw [Bool.and_true])
  | x :: t, pre, bs, ep, hl, q => by
    have hw' : M w = some (.dct (tab m.names (wantsF m))) := hw
    have xn := hn x (by rw [← ep]; exact List.mem_append_right _ List.mem_cons_self)
    have nl := g.nl xn
    rw [List.length_cons] at hl
    refine ⟨rfl, _, rfl, _, rfl, .inl ⟨_, hw', _, _, rfl, tab_val xn, ?_⟩⟩
    refine sh_in (M := M) e (m.needs x) bs (by omega) fun bs' h1 h2 => ?_
    have z := sh_out g hw hn e t (pre ++ [x]) bs' (by rw [← ep]; simp) (by omega) (M := M) (w := w) (o0 := o0) (o1 := o1) (K := K) fun bs2 h3 => q bs2 (by
      rw [h3, h1, List.length_append, List.length_singleton]
      show _ = (bs.all id && (((m.needs x).all fun o => decide (o ∈ ts.take pre.length)) && ordB m.needs ts t (pre.length + 1)))
      rw [Bool.and_assoc])
    rw [List.length_append, List.length_singleton] at z
    exact z
theorem ord_un {m : Mc} {d : D} {ts : List Str} (e : d = .lst (ts.map D.str) ∨ d = .tup (ts.map D.str)) (h : IsOrd m d) : ts.length = m.names.length ∧ (∀ t ∈ ts, t ∈ m.names) ∧ ts.Nodup ∧ ∀ (k : Nat) (x : Str), ts[k]? = some x → ∀ o ∈ m.needs x, o ∈ ts.take k := by
  obtain ⟨us, e2, h⟩ := h
  have ex : ts.map D.str = us.map D.str := by
    rcases e with rfl | rfl <;> rcases e2 with e2 | e2
    · exact D.lst.inj e2
    · cases e2
    · cases e2
    · exact D.tup.inj e2
  rw [str_inj ex]
  exact h
theorem rd_shows_order (A : Ad) (hA : AdOk A) : ∀ ds M Qd Ed, sp_shows_order A ds M Qd Ed → t_shows_order A (ends Qd Ed) (dstart N_shows_order ds) M := by
  intro ds M Qd Ed h
  obtain ⟨m, dv, lv, d, rfl, g, hd, hl, th, q⟩ := h
  refine ⟨_, rfl, _, rfl, rfl, rfl, ⟨m, dv, lv, rfl, g, hd, hl, fun w M1 fw hw ex => ?_⟩⟩
  refine ⟨_, rfl, _, rfl, ⟨m, w, d, rfl, g, hw, th, fun b hb => ?_⟩⟩
  have hw' : M1 w = some (.dct (tab m.names (wantsF m))) := hw
  have n8 := g.n8
  cases b with
  | false => exact q false M1 ⟨(fun z => nomatch z), fun ⟨ts, e, _, hn, nd, _⟩ => nomatch hb.mpr ⟨ts, e, hn, nd⟩⟩ ex
  | true =>
    obtain ⟨ts, e, hn, nd⟩ := hb.mp rfl
    have tl : ts.length ≤ 8 := Nat.le_trans (nodup_le nd hn) n8
    have main : br (!decide (((ts.length : Nat) : Int) = (m.names.length : Nat))) (Qd (.bl false) M1) (dRet (dCB dAll (dCn (dLc2 (iEQ (dCn (dVar 2) (dNil))) (.tup [4, 5]) (iL (dOp dGetK (dVar 3) (dVar 5))) (.one 6) (dOp (dInW id) (dVar 6) (dSlA dSl4 (dVar 2) (oNone) (oSome (dVar 4)))) [4, 5, 6] [6]) (dNil))) (ends Qd Ed) [some dv, some lv, some d, some (.ref w), none, none, none] M1) := by
      refine br2 (fun c => ?_) (fun c => ?_)
      · refine q false M1 ⟨(fun z => nomatch z), fun h => ?_⟩ ex
        have := (ord_un e h).1
        rw [this, decide_eq_true rfl] at c
        cases c
      · have c : ts.length = m.names.length := by
          have : decide (((ts.length : Nat) : Int) = (m.names.length : Nat)) = true := by simpa using c
          have := of_decide_eq_true this
          omega
        have fin : ∀ bs' : List Bool, bs'.all id = (([] : List Bool).all id && ordB m.needs ts ts 0) → dAll [.lst (bs'.map D.bl)] M1 fun v M2 => Qd v M2 := fun bs' h1 => by
          refine ⟨bs', rfl, q _ M1 ?_ ex⟩
          rw [h1]
          show (true && ordB m.needs ts ts 0) = true ↔ _
          rw [Bool.true_and, ordB_iff]
          constructor
          · intro h
            exact ⟨ts, e, c, hn, nd, fun k x hk o ho => by have := h k x hk o ho; rwa [Nat.zero_add] at this⟩
          · intro h j x hj o ho
            rw [Nat.zero_add]
            exact (ord_un e h).2.2.2 j x hj o ho
        have z := sh_out g (o0 := dv) (o1 := lv) hw hn e (K := fun acc M2 => dAll [.lst acc] M2 fun v M3 => Qd v M3) ts [] [] rfl (by show 0 + _ ≤ 1000; omega) fin
        rcases id e with rfl | rfl
        · exact ⟨_, rfl, z⟩
        · exact ⟨_, rfl, z⟩
    have lm : (ts.map D.str).length = ts.length := List.length_map _
    have lt : (tab m.names (wantsF m)).length = m.names.length := tab_len
    rw [← lm, ← lt] at main
    rcases id e with rfl | rfl
    · exact ⟨_, rfl, _, rfl, _, hw', main⟩
    · exact ⟨_, rfl, _, rfl, _, hw', main⟩
theorem is_test {m : Mc} {w : Addr} {x : D} {M : Mp} {Q : Bool → Mp → Prop} {o1 o3 : Option D} (hw : M w = some (wtO m)) (hx : Pe 20 [1] x) (q : Q (!wdB m x) M) : (dOr (dNot (dTruth (dIsi .str (dVar 2)))) (dTest (dOp (dInK not) (dVar 2) (dVar 0)))) [some (.ref w), o1, some x, o3] M Q E0d := by
  have hw' : M w = some (.dct (tab m.names (wantsF m))) := hw
  cases x with
  | str s =>
    refine ⟨_, rfl, ?_⟩
    refine ⟨_, rfl, _, rfl, .inl ⟨_, hw', _, rfl, ?_⟩⟩
    have e : (valD (tab m.names (wantsF m)) (.inr s)).isSome = decide (s ∈ m.names) := by
      by_cases z : s ∈ m.names
      · rw [tab_val z, decide_eq_true z]; rfl
      · rw [tab_none z, decide_eq_false z]; rfl
    show Q (!(valD (tab m.names (wantsF m)) (.inr s)).isSome) M
    rw [e]
    exact q
  | non => exact ⟨_, rfl, q⟩
  | bl b => exact ⟨_, rfl, q⟩
  | int i => exact ⟨_, rfl, q⟩
  | lst xs => exact ⟨_, rfl, q⟩
  | tup xs => exact ⟨_, rfl, q⟩
  | dct xs => exact ⟨_, rfl, q⟩
  | _ =>
    rcases hx with hx | ⟨ys, e | e, _⟩
    · rcases hx with hx | hx
      · exact hx.elim
      · cases hx
    · cases e
    · cases e
def rngB (P : Nat → Bool) : D → Bool
  | .int k => P k.toNat
  | _ => false
theorem rng_empty {P : Nat → Bool} {n : Nat} : (((rngD 0 n).filter (rngB P)).map id).isEmpty = true ↔ ∀ k, k < n → P k = false := by
  rw [List.map_id, List.isEmpty_iff, List.filter_eq_nil_iff]
  constructor
  · intro h k hk
    have : D.int ((0 : Int) + (k : Nat)) ∈ rngD 0 n := List.mem_map.mpr ⟨k, List.mem_range.mpr hk, rfl⟩
    have z := h _ this
    have e : rngB P (.int ((0 : Int) + (k : Nat))) = P k := by
      show P ((0 : Int) + (k : Nat)).toNat = P k
      rw [Int.zero_add, Int.toNat_natCast]
    rw [e] at z
    simpa using z
  · intro h d hd
    obtain ⟨k, rfl, k0, k1⟩ := rng_mem hd
    have := h k.toNat (by omega)
    show ¬ (P k.toNat = true)
    rw [this]
    exact fun z => nomatch z
theorem dup_iff {ts : List Str} : ts.Nodup ↔ ∀ k, k < ts.length → decide (∃ x, ts[k]? = some x ∧ x ∈ ts.take k) = false := by
  constructor
  · intro nd k hk
    refine decide_eq_false fun ⟨x, hx, hm⟩ => ?_
    obtain ⟨j, hj, e⟩ := List.getElem_of_mem hm
    rw [List.length_take] at hj
    rw [List.getElem_take] at e
    have := get_inj nd (i := j) (j := k) (x := x) (by rw [List.getElem?_eq_getElem (by omega), e]) hx
    omega
  · intro h
    rw [List.nodup_iff_pairwise_ne, List.pairwise_iff_getElem]
    intro i j hi hj hij e
    have := of_decide_eq_false (h j hj)
    refine this ⟨ts[j], List.getElem?_eq_getElem hj, ?_⟩
    rw [← e]
    exact List.mem_take_iff_getElem.mpr ⟨i, by omega, rfl⟩
theorem ix_q {d : D} {xs : List D} {i : Int} {v : D} {M : Mp} {R : DK} (e : d = .lst xs ∨ d = .tup xs) (h : atI xs i = some v) (z : R v M) : dIx d (.int i) M R := by
  rcases e with rfl | rfl
  · exact ⟨_, h, z⟩
  · exact ⟨_, h, z⟩
theorem rd__law_is_order (A : Ad) (hA : AdOk A) : ∀ ds M Qd Ed, sp__law_is_order A ds M Qd Ed → t__law_is_order A (ends Qd Ed) (dstart N__law_is_order ds) M := by
  intro ds M Qd Ed h
  obtain ⟨m, w, d, rfl, g, hw, th, q⟩ := h
  have hw' : M w = some (.dct (tab m.names (wantsF m))) := hw
  have n8 := g.n8
  have bad : ¬ IsOrd m d → Qd (.bl false) M := fun h => q false M ⟨(fun z => nomatch z), fun z => absurd z h⟩ (Ext.refl _)
  rcases th_case th with ⟨xs, e, xl, xp⟩ | ⟨lf, no⟩
  · have un : IsOrd m d → ∃ ts : List Str, xs = ts.map D.str ∧ ts.length = m.names.length ∧ ∀ t ∈ ts, t ∈ m.names := fun ⟨ts, e2, l, hn, _⟩ => by
      refine ⟨ts, ?_, l, hn⟩
      rcases e with rfl | rfl <;> rcases e2 with e2 | e2
      · cases e2
      · exact D.tup.inj e2
      · exact D.lst.inj e2
      · cases e2
    rcases id e with rfl | rfl
    all_goals
      refine ⟨_, rfl, (fun z => nomatch z), _, rfl, _, rfl, _, hw', ?_⟩
      show br (!decide (((xs.length : Nat) : Int) = ((tab m.names (wantsF m)).length : Nat))) _ _
      rw [tab_len]
      refine br2 (fun c => bad fun h => ?_) (fun c => ?_)
      · obtain ⟨ts, ex, l, _⟩ := un h
        rw [ex, List.length_map, l, decide_eq_true rfl] at c
        cases c
      have c : xs.length = m.names.length := by
        have : decide (((xs.length : Nat) : Int) = (m.names.length : Nat)) = true := by simpa using c
        have := of_decide_eq_true this
        omega
      refine ⟨_, rfl, ⟨Nat.lt_of_le_of_lt xl (by decide), ?_⟩⟩
      refine comp_filt1 (fun x => !wdB m x) id (by exact trivial) _ (fun x hx Q z => is_test hw (xp x hx) z) (fun x hx _ Q z => ⟨_, rfl, z⟩) (Nat.le_trans xl (by decide)) ?_
      refine ⟨Nat.zero_le _, rfl, ?_⟩
      show br (!((xs.filter fun x => !wdB m x).map id).isEmpty) _ _
      rw [List.map_id]
      rcases (Classical.em (∀ x ∈ xs, wdB m x = true)).symm with al | al
      · refine brT ?_ (bad fun h => ?_)
        · cases hf : xs.filter fun x => !wdB m x with
          | nil =>
            refine absurd (fun x hx => ?_) al
            have := List.filter_eq_nil_iff.mp hf x hx
            simpa using this
          | cons _ _ => rfl
        · obtain ⟨ts, ex, l, hn⟩ := un h
          refine al fun x hx => ?_
          rw [ex] at hx
          obtain ⟨t, ht, rfl⟩ := List.mem_map.mp hx
          exact decide_eq_true (hn t ht)
      refine brF ?_ ?_
      · rw [filt_none _ _ fun x hx => by rw [al x hx]; rfl]
        rfl
      obtain ⟨ts, rfl, hn⟩ := words_of xs al
      rw [List.length_map] at c
      have e2 := e.symm
      have lr : (rngD 0 ts.length).length ≤ 8 := by rw [rng_len]; omega
      have at' : ∀ {k : Nat} {x : Str}, ts[k]? = some x → atI (ts.map D.str) (k : Int) = some (.str x) := fun h => atI_nat (by rw [List.getElem?_map, h]; rfl)
      refine ⟨_, rfl, ?_⟩
      show (_ ∧ _) ∧ (rngD 0 (Int.toNat ((ts.map D.str).length : Nat))).length < sizeLine ∧ _
      rw [List.length_map, Int.toNat_natCast]
      refine ⟨⟨by omega, by omega⟩, Nat.lt_of_le_of_lt lr (by decide), ?_⟩
      refine comp_filt1 (rngB fun k => decide (∃ x, ts[k]? = some x ∧ x ∈ ts.take k)) id (by exact trivial) _ (fun x hx Q z => ?_) (fun x hx _ Q z => ⟨_, rfl, z⟩) (Nat.le_trans lr (by decide)) ?_
      · obtain ⟨k, rfl, k0, k1⟩ := rng_mem hx
        obtain ⟨k, rfl⟩ := Int.eq_ofNat_of_zero_le k0
        have kl : k < ts.length := by omega
        have ek := List.getElem?_eq_getElem kl
        refine sl_test (o := ts[k]) (k := k) (fun R z => ⟨_, rfl, _, rfl, ix_q e2 (at' ek) z⟩) rfl e2 rfl ?_
        show Q (decide (ts[k] ∈ ts.take k)) M
        have z : Q (decide (∃ x, ts[k]? = some x ∧ x ∈ ts.take k)) M := z
        rw [show decide (∃ x, ts[k]? = some x ∧ x ∈ ts.take k) = decide (ts[k] ∈ ts.take k) from decide_eq_decide.mpr ⟨fun ⟨x, h1, h2⟩ => by rw [ek] at h1; rw [Option.some.inj h1]; exact h2, fun h => ⟨_, ek, h⟩⟩] at z
        exact z
      refine ⟨Nat.zero_le _, rfl, ?_⟩
      show br (!(((rngD 0 ts.length).filter (rngB fun k => decide (∃ x, ts[k]? = some x ∧ x ∈ ts.take k))).map id).isEmpty) _ _
      rcases (Classical.em ts.Nodup).symm with nd | nd
      · refine brT ?_ (bad fun h => nd (ord_un e2 h).2.2.1)
        have : ¬ ((((rngD 0 ts.length).filter (rngB fun k => decide (∃ x, ts[k]? = some x ∧ x ∈ ts.take k))).map id).isEmpty = true) := fun z => nd (dup_iff.mpr (rng_empty.mp z))
        simpa using this
      refine brF ?_ ?_
      · rw [rng_empty.mpr (dup_iff.mp nd)]; rfl
      refine ⟨_, rfl, ?_⟩
      show (_ ∧ _) ∧ (rngD 0 (Int.toNat ((ts.map D.str).length : Nat))).length < sizeLine ∧ _
      rw [List.length_map, Int.toNat_natCast]
      refine ⟨⟨by omega, by omega⟩, Nat.lt_of_le_of_lt lr (by decide), ?_⟩
      refine comp_filt1 (rngB fun k => !decide (∀ x, ts[k]? = some x → ∀ o ∈ m.needs x, o ∈ ts.take k)) id (by exact trivial) _ (fun x hx Q z => ?_) (fun x hx _ Q z => ⟨_, rfl, z⟩) (Nat.le_trans lr (by decide)) ?_
      · obtain ⟨k, rfl, k0, k1⟩ := rng_mem hx
        obtain ⟨k, rfl⟩ := Int.eq_ofNat_of_zero_le k0
        have kl : k < ts.length := by omega
        have ek := List.getElem?_eq_getElem kl
        have xn := hn _ (List.getElem_mem kl)
        have nl := g.nl xn
        refine ⟨_, rfl, _, rfl, _, rfl, ix_q e2 (at' ek) (.inl ⟨_, hw', _, _, rfl, tab_val xn, ?_⟩)⟩
        refine ⟨by rw [List.length_map]; exact Nat.lt_of_le_of_lt nl (by decide), ?_⟩
        refine comp_filt1 (fun d => match d with | .str o => decide (o ∉ ts.take k) | _ => false) id (by exact trivial) _ (fun y hy Q z => ?_) (fun y hy _ Q z => ⟨_, rfl, z⟩) (by rw [List.length_map]; exact Nat.le_trans nl (by decide)) ?_
        · obtain ⟨o, ho, rfl⟩ := List.mem_map.mp hy
          refine sl_test (o := o) (k := k) (fun R z => ⟨_, rfl, z⟩) rfl e2 rfl ?_
          have z : Q (decide (o ∉ ts.take k)) M := z
          show Q (!decide (o ∈ ts.take k)) M
          rw [← decide_not]; exact z
        · rw [filt_str (q := fun o => decide (o ∉ ts.take k)) fun _ _ => rfl]
          refine ⟨Nat.zero_le _, rfl, ?_⟩
          show Q (!(((m.needs ts[k]).filter fun o => decide (o ∉ ts.take k)).map D.str).isEmpty) M
          rw [ripe_all]
          have z : Q (!decide (∀ x, ts[k]? = some x → ∀ o ∈ m.needs x, o ∈ ts.take k)) M := z
          rw [show (decide (∀ x, ts[k]? = some x → ∀ o ∈ m.needs x, o ∈ ts.take k)) = (m.needs ts[k]).all fun o => decide (o ∈ ts.take k) from by
            rw [Bool.eq_iff_iff, decide_eq_true_eq, List.all_eq_true]
            exact ⟨fun h o ho => decide_eq_true (h _ ek o ho), fun h x hx o ho => by rw [ek] at hx; rw [← Option.some.inj hx] at ho; exact of_decide_eq_true (h o ho)⟩] at z
          exact z
      refine ⟨Nat.zero_le _, rfl, ?_⟩
      refine q _ M ⟨fun z => ?_, fun h => ?_⟩ (Ext.refl _)
      · have z : (((rngD 0 ts.length).filter (rngB fun k => !decide (∀ x, ts[k]? = some x → ∀ o ∈ m.needs x, o ∈ ts.take k))).map id).isEmpty = true := z
        have z := rng_empty.mp z
        refine ⟨ts, e2, c, hn, nd, fun k x hk o ho => ?_⟩
        have kl := (List.getElem?_eq_some_iff.mp hk).1
        have := z k kl
        have : decide (∀ x, ts[k]? = some x → ∀ o ∈ m.needs x, o ∈ ts.take k) = true := by simpa using this
        exact of_decide_eq_true this x hk o ho
      · have h := (ord_un e2 h).2.2.2
        show (((rngD 0 ts.length).filter (rngB fun k => !decide (∀ x, ts[k]? = some x → ∀ o ∈ m.needs x, o ∈ ts.take k))).map id).isEmpty = true
        refine rng_empty.mpr fun k hk => ?_
        rw [decide_eq_true fun x hx o ho => h k x hx o ho]
        rfl
  · have o := bad fun ⟨ts, e, _⟩ => e.elim (no _).2 (no _).1
    rcases lf with lf | rfl
    · cases d with
      | non => exact ⟨_, rfl, (fun z => nomatch z), o⟩
      | bl b => exact ⟨_, rfl, (fun z => nomatch z), o⟩
      | int i => exact ⟨_, rfl, (fun z => nomatch z), o⟩
      | str s => exact ⟨_, rfl, (fun z => nomatch z), o⟩
      | _ => exact lf.elim
    · exact ⟨_, rfl, (fun z => nomatch z), o⟩
theorem ext_none (M : Mp) : Ext (fun _ => none) M := fun _ _ e => nomatch e
theorem pe_show {d : D} (h : Th08 d) : ∃ t, (∀ M, ShOf M d t) ∧ t.dep ≤ 60 ∧ t.text.length ≤ sizeLine := by
  obtain ⟨t, a, b, k⟩ := Pe.shw (m := 20) (by decide) h (M := fun _ => none)
  exact ⟨t, fun M => a.ext (ext_none M), Nat.le_trans b (by decide), Nat.le_trans (Sh.text_le t) (Nat.le_trans k (by decide))⟩
theorem bl_show (b : Bool) : ∃ t, (∀ M, ShOf M (.bl b) t) ∧ t.dep ≤ 60 ∧ t.text.length ≤ sizeLine := pe_show (.leafD trivial)
theorem ord_th {m : Mc} (g : FairM m) : Th08 (.lst ((ordW m).map D.str)) := by
  have z := ord_w (ns := m.names) (nd := m.needs) m.names.length
  have l := z.len
  have n8 := g.n8
  refine .lst (by rw [List.length_map]; show (ordN m.names m.needs m.names.length).length ≤ 17; omega) fun x hx => ?_
  obtain ⟨s, hs, rfl⟩ := List.mem_map.mp hx
  exact .leafD ⟨Nat.le_trans (g.nm (z.sub s hs)).2.1 (by decide), (g.nm (z.sub s hs)).2.2.ok⟩
theorem ref_show {xs : List D} (h : Th08 (.lst xs)) : ∃ t, (∀ M, ShOf M (.lst xs) t) ∧ (∀ M p, M p = some (.lst xs) → ShOf M (.ref p) t) ∧ t.dep ≤ 60 ∧ t.text.length ≤ sizeLine := by
  obtain ⟨t, a, b, c⟩ := pe_show h
  refine ⟨t, a, fun M p hp => ?_, b, c⟩
  have z := a M
  cases z with
  | lst ss => exact .lstM hp ss
theorem rt_loop1 (A : Ad) {m : Mc} (g : FairM m) {b w : Addr} {dv lv : D} (hd : DvD A m dv) (hl : LkD m lv) {M0 : Mp} {Dd : DEnds} (hw : M0 w = some (wtO m))
    (q : ∀ M' o5 o6 o7, Ext M0 M' → Dd.nx [some (.ref b), some dv, some lv, some (.ref w), some (.lst ((ordW m).map D.str)), o5, o6, o7, none, none] M') :
    ∀ (xs : List Int) (M : Mp) (o5 o6 o7 : Option D), Ext M0 M → dLoop (gdName 5) (b1__law_right A) .data (xs.map D.int) Dd [some (.ref b), some dv, some lv, some (.ref w), some (.lst ((ordW m).map D.str)), o5, o6, o7, none, none] M
  | [], M, o5, o6, o7, ex => q M o5 o6 o7 ex
  | x :: t, M, o5, o6, o7, ex => by
    have n8 := g.n8
    have low : ((ordW m).map D.str).length = (ordW m).length := List.length_map _
    have lt : (tab m.names (wantsF m)).length = m.names.length := tab_len
    refine ⟨_, rfl, _, rfl, _, rfl, ⟨m, dv, lv, x, rfl, g, hd, hl, fun gm p M1 fp hp e1 => ⟨rfl, rfl, ?_⟩, fun n wy p M1 F hp0 hp e1 => ⟨rfl, rfl, ?_⟩⟩⟩
    · have hw1 : M1 w = some (.dct (tab m.names (wantsF m))) := e1 _ _ (ex _ _ hw)
      refine ⟨_, rfl, _, rfl, _, hw1, ?_⟩
      show br (decide (((((ordW m).map D.str).length : Nat) : Int) < ((tab m.names (wantsF m)).length : Nat))) _ _
      have lo : (ordW m).length = m.names.length := gm.ord.len
      rw [low, lt, lo]
      refine brF (decide_eq_false (by omega)) ?_
      obtain ⟨t1, s1, s2, s3, s4⟩ := ref_show (ord_th g)
      refine ⟨_, rfl, ?_⟩
      refine ⟨_, rfl, t1, s2 _ _ hp, s3, s4, _, rfl, t1, s1 _, s3, s4, ?_⟩
      show br (!decide (t1.text = t1.text)) _ _
      refine brF (by rw [decide_eq_true rfl]; rfl) ?_
      refine ⟨_, rfl, ⟨_, hp⟩, _, hp, by rw [List.length_map]; exact Nat.lt_of_le_of_lt (show (ordW m).length ≤ 8 by omega) (by decide), ?_⟩
      exact rt_loop1 A g hd hl hw q t _ _ _ _ ((ex.trans e1).upd (ex.none fp))
    · have hw1 : M1 w = some (.dct (tab m.names (wantsF m))) := e1 _ _ (ex _ _ hw)
      refine ⟨_, rfl, _, rfl, _, hw1, ?_⟩
      show br (decide (((((ordW m).map D.str).length : Nat) : Int) < ((tab m.names (wantsF m)).length : Nat))) _ _
      have lo : (ordW m).length < m.names.length := ord_short F.hn F.ring.rch _
      rw [low, lt]
      refine brT (decide_eq_true (by omega)) ?_
      refine ⟨_, rfl, ?_⟩
      refine ⟨_, rfl, _, rfl, ⟨m, w, p, n, wy, rfl, g, hw1, hp, F, fun M2 e2 => ?_⟩⟩
      have lw := g.way_len F.hn F.ring.way
      refine ⟨_, rfl, ⟨_, e2 _ _ hp⟩, _, e2 _ _ hp, by rw [List.length_map]; exact Nat.lt_of_le_of_lt lw (by decide), ?_⟩
      exact rt_loop1 A g hd hl hw q t _ _ _ _ (((ex.trans e1).trans e2).upd (ex.none hp0))
theorem rt_loop2 (A : Ad) {m : Mc} (g : FairM m) {b w : Addr} {dv lv : D} (hd : DvD A m dv) (hl : LkD m lv) {M0 : Mp} {Dd : DEnds} (hw : M0 w = some (wtO m)) (wb : w ≠ b) {c : Nat} (cl : c < 600000)
    (q : ∀ M' δ, But b M0 M' → Bag M' b (c + 200) → Dd.nx δ M') :
    ∀ (xs : List Int) (i : Nat) (M : Mp) (o5 o6 o7 o8 o9 : Option D), i + xs.length = 10 → But b M0 M → Bag M b (c + 20 * i) → dLoop (gdName 5) (b2__law_right A) .data (xs.map D.int) Dd [some (.ref b), some dv, some lv, some (.ref w), some (.lst ((ordW m).map D.str)), o5, o6, o7, o8, o9] M
  | [], i, M, o5, o6, o7, o8, o9, e, bt, hb => by
    have e : i = 10 := e
    subst e
    exact q M _ bt hb
  | x :: t, i, M, o5, o6, o7, o8, o9, e, bt, hb => by
    rw [List.length_cons] at e
    have rest : ∀ (d : D) (M1 : Mp), Th08 d → But b M M1 → Bag M1 b (c + 20 * (i + 1)) → (dSeq (dAsg (dShow (dVar 8)) (gdName 9)) (dSeq (dAsg (dShow (dCall (sp_shows_order A) (dCn (dVar 1) (dCn (dVar 2) (dCn (dVar 8) (dNil)))))) (gdName 7)) (dIf (dOr (dTest (dOp dNe (dVar 7) (dShow (dCall (sp__law_is_order A) (dCn (dVar 3) (dCn (dVar 8) (dNil))))))) (dTest (dOp dNe (dShow (dVar 8)) (dVar 9)))) (dRet (dC (.bl false))) (dNext)))) { Dd with nx := dLoop (gdName 5) (b2__law_right A) .data (t.map D.int) Dd, ct := dLoop (gdName 5) (b2__law_right A) .data (t.map D.int) Dd, bk := Dd.nx } [some (.ref b), some dv, some lv, some (.ref w), some (.lst ((ordW m).map D.str)), some (.int x), o6, o7, some d, o9] M1 := fun d M1 th b1 hb1 => by
      obtain ⟨u, u1, u2, u3⟩ := pe_show th
      refine ⟨_, rfl, u, u1 _, u2, u3, ?_⟩
      refine ⟨_, rfl, _, rfl, _, rfl, ⟨m, dv, lv, d, rfl, g, hd, hl, th, fun p M2 hp e2 => ?_⟩⟩
      obtain ⟨v, v1, v2, v3⟩ := bl_show p
      refine ⟨v, v1 _, v2, v3, ?_⟩
      have b2 : But b M M2 := fun a o n ea => e2 a o (b1 a o n ea)
      have hb2 : Bag M2 b (c + 20 * (i + 1)) := by
        obtain ⟨x, y, z, a, r⟩ := hb1
        exact ⟨x, y, z, e2 b _ a, r⟩
      have hw2 : M2 w = some (wtO m) := b2 w _ wb (bt w _ wb hw)
      refine ⟨_, rfl, _, rfl, _, rfl, ⟨m, w, d, rfl, g, hw2, th, fun p2 M3 hp2 e3 => ?_⟩⟩
      have pp : p = p2 := by rw [Bool.eq_iff_iff]; exact hp.trans hp2.symm
      subst pp
      refine ⟨v, v1 _, v2, v3, ?_⟩
      show br (!decide (v.text = v.text)) _ _
      refine brF (by rw [decide_eq_true rfl]; rfl) ?_
      refine ⟨_, rfl, u, u1 _, u2, u3, _, rfl, ?_⟩
      show br (!decide (u.text = u.text)) _ _
      refine brF (by rw [decide_eq_true rfl]; rfl) ?_
      refine rt_loop2 A g hd hl hw wb cl q t (i + 1) M3 _ _ _ _ _ (by omega) (fun a o n ea => e3 a o (b2 a o n (bt a o n ea))) ?_
      obtain ⟨x, y, z, a, r⟩ := hb2
      exact ⟨x, y, z, e3 b _ a, r⟩
    refine ⟨_, rfl, ?_⟩
    show br (decide (x = 0)) _ _
    refine br2 (fun _ => ⟨_, rfl, rest _ M (ord_th g) (But.refl b M) (hb.mono (by omega))⟩) (fun _ => ?_)
    have n8 := g.n8
    have ow := ord_w (ns := m.names) (nd := m.needs) m.names.length
    exact ⟨_, rfl, _, rfl, _, rfl, ⟨m, b, w, _, ordW m, rfl, g, hb, by omega, bt w _ wb hw, Nat.le_trans ow.len n8, ow.sub, fun d M1 th b1 hb1 => rest d M1 th b1 (hb1.mono (by omega))⟩⟩
theorem rd__law_right (A : Ad) (hA : AdOk A) : ∀ ds M Qd Ed, sp__law_right A ds M Qd Ed → t__law_right A (ends Qd Ed) (dstart N__law_right ds) M := by
  intro ds M Qd Ed h
  obtain ⟨m, b, dv, lv, w, k, rfl, g, hd, hl, hb, hk, hw, q⟩ := h
  have wb := Bag.ne hb hw
  refine ⟨_, rfl, ⟨m, w, rfl, g, hw, fun M1 e1 => ?_⟩⟩
  refine ⟨(show 3 ≤ sizeLine by decide), ?_⟩
  refine rt_loop1 A g hd hl (b := b) (e1 _ _ hw) (fun M2 o5 o6 o7 e2 => ?_) [0, 1, 0] M1 none none none (Ext.refl _)
  have e12 := e1.trans e2
  have hb2 : Bag M2 b k := by
    obtain ⟨x, y, z, a, r⟩ := hb
    exact ⟨x, y, z, e12 b _ a, r⟩
  refine ⟨⟨by decide, by decide⟩, ?_⟩
  refine rt_loop2 A g hd hl (M0 := M2) (c := k) (e12 _ _ hw) wb (by omega) (fun M3 δ b3 hb3 => ?_) [0, 1, 2, 3, 4, 5, 6, 7, 8, 9] 0 M2 o5 o6 o7 none none rfl (But.refl b M2) hb2
  exact q M3 (fun a o n ea => b3 a o n (e12 a o ea)) (hb3.mono (by omega))
theorem drawn_len {rs : List Rw} {os : List Str} (h : Drawn rs os) : os.length = rs.length := by
  have e : (rs.map (·.nm)).length = rs.length := List.length_map _
  have a := nodup_le (a := os) (b := rs.map (·.nm)) h.od fun x hx => (h.om x).mp hx
  have b := nodup_le (a := rs.map (·.nm)) (b := os) h.dup fun x hx => (h.om x).mpr hx
  omega
theorem fair_of {rs : List Rw} {os : List Str} {rg : Bool} {ls : List (Str × Str)} (h : Drawn rs os) (k : Links os rg ls) : FairM ⟨rs, ls⟩ :=
  ⟨h.l1, h.l8, h.row, h.dup, k.l16, k.dup, fun q hq => ⟨(h.om _).mp (k.mem q hq).1, (h.om _).mp (k.mem q hq).2.1, (k.mem q hq).2.2⟩⟩
theorem fair_no {m : Mc} (h : FairM m) : FairM ⟨m.rows, []⟩ := ⟨h.l1, h.l8, h.row, h.dup, Nat.zero_le _, List.nodup_nil, fun _ z => nomatch z⟩
theorem good_no {rs : List Rw} {os : List Str} (h : Drawn rs os) : GoodM ⟨rs, []⟩ := ⟨h.l1, h.l8, h.row, h.dup, Nat.zero_le _, List.nodup_nil, (fun _ z => nomatch z), fun x => os.idxOf x, h.up, fun _ z => nomatch z⟩
theorem set_names {rs : List Rw} {i : Nat} {r : Rw} {p : Option Str} (hi : rs[i]? = some r) : (rs.set i { r with par := p }).map (·.nm) = rs.map (·.nm) := by
  rw [List.map_set]
  refine List.ext_getElem? fun j => ?_
  rw [List.getElem?_set]
  split
  · rename_i e
    subst e
    split
    · rw [List.getElem?_map, hi]; rfl
    · rename_i l
      rw [List.getElem?_eq_none (by rw [List.length_map] at *; omega)]
  · rfl
theorem fair_set {m : Mc} (h : FairM m) {i : Nat} {r : Rw} {x : Str} (hi : m.rows[i]? = some r) (hx : x ∈ m.names) : FairM ⟨m.rows.set i { r with par := some x }, m.links⟩ := by
  have en : (⟨m.rows.set i { r with par := some x }, m.links⟩ : Mc).names = m.names := set_names hi
  refine ⟨by show 1 ≤ (m.rows.set _ _).length; rw [List.length_set]; exact h.l1, by show (m.rows.set _ _).length ≤ 8; rw [List.length_set]; exact h.l8, fun q hq => ?_, by rw [en]; exact h.dup, h.l16, h.ldup, by rw [en]; exact h.lnk⟩
  rw [en]
  rcases List.mem_or_eq_of_mem_set hq with z | rfl
  · exact h.row q z
  · obtain ⟨a, b⟩ := h.row r (List.mem_of_getElem? hi)
    exact ⟨a, fun p hp => by rw [← Option.some.inj hp]; exact hx, b.2⟩
theorem RowsAt.but {M M' : Mp} {ra b : Addr} {ps : List Addr} {rs : List Rw} (h : RowsAt M ra ps rs) (rb : ra ≠ b) (pb : ∀ p ∈ ps, p ≠ b) (bt : But b M M') : RowsAt M' ra ps rs := ⟨bt ra _ rb h.hd, h.len, fun i p r hp hr => bt p _ (pb p (List.mem_of_getElem? hp)) (h.at' i p r hp hr)⟩
theorem RowsAt.ext {M M' : Mp} {ra : Addr} {ps : List Addr} {rs : List Rw} (h : RowsAt M ra ps rs) (ex : Ext M M') : RowsAt M' ra ps rs := ⟨ex ra _ h.hd, h.len, fun i p r hp hr => ex p _ (h.at' i p r hp hr)⟩
theorem RowsAt.set {M : Mp} {ra p : Addr} {ps : List Addr} {rs : List Rw} (h : RowsAt M ra ps rs) (nd : ps.Nodup) (nr : ∀ q ∈ ps, q ≠ ra) {i : Nat} {r : Rw} (hi : ps[i]? = some p) (hr : rs[i]? = some r) (r' : Rw) : RowsAt (updM M p (rwL r')) ra ps (rs.set i r') := by
  refine ⟨by rw [updM_ne (nr p (List.mem_of_getElem? hi)).symm]; exact h.hd, by rw [List.length_set]; exact h.len, fun j q x hq hx => ?_⟩
  by_cases e : i = j
  · subst e
    rw [hi] at hq
    cases hq
    rw [List.getElem?_set_self (List.getElem?_eq_some_iff.mp hr).1] at hx
    cases hx
    exact updM_same
  · have qp : q ≠ p := fun z => e (get_inj nd hi (z ▸ hq))
    rw [List.getElem?_set_ne e] at hx
    rw [updM_ne qp]
    exact h.at' j q x hq hx
theorem made_comp (A : Ad) {m : Mc} (g : FairM m) {M : Mp} {ra : Addr} {ps : List Addr} {δ : DS} {k : List D → Mp → Prop} (hra : RowsAt M ra ps m.rows) (hδ : ∀ p : Addr, ((dwipe δ [12]).set 12 (some (.ref p)))[12]? = some (some (.ref p))) (q : k (m.rows.map (devR (cA A))) M) :
    dComp (.one 12) dYes (dCall (sp__law_made A) (dCn (dVar 12) (dNil))) (.at ra (ps.map D.ref)) [12] δ k (ps.map D.ref) [] M := by
  obtain ⟨l, e1, e2, hx⟩ := hra.zip
  have l8 := g.l8
  refine comp_inv (fun rem acc M1 => M1 = M ∧ ∃ l1 l2 : List (Addr × Rw), l1 ++ l2 = l ∧ rem = l2.map (fun x => D.ref x.1) ∧ acc = l1.map fun x => devR (cA A) x.2) (fun x r acc M1 R J nx => ?_) (fun acc M1 J => ?_) _ [] M ⟨rfl, [], l, rfl, by rw [e1, List.map_map]; rfl, rfl⟩
  · obtain ⟨rfl, l1, l2, el, er, rfl⟩ := J
    cases l2 with
    | nil => cases er
    | cons y t =>
      rw [List.map_cons] at er
      obtain ⟨rfl, rfl⟩ := List.cons.inj er
      have yl : y ∈ l := by rw [← el]; exact List.mem_append_right _ List.mem_cons_self
      have yr : y.2 ∈ m.rows := by rw [e2]; exact List.mem_map.mpr ⟨y, yl, rfl⟩
      obtain ⟨a, b, c⟩ := g.row _ yr
      refine ⟨hra.hd, _, hδ y.1, ⟨y.1, y.2, rfl, hx y yl, ⟨a, fun p hp => g.nm (b p hp), c⟩, nx _ M1 ⟨rfl, l1 ++ [y], t, by rw [← el]; simp, rfl, by rw [List.map_append]; rfl⟩⟩⟩
  · obtain ⟨rfl, l1, l2, el, er, rfl⟩ := J
    cases l2 with
    | cons _ _ => cases er
    | nil =>
      rw [List.append_nil] at el
      subst el
      have e3 : m.rows.map (devR (cA A)) = l1.map fun x => devR (cA A) x.2 := by rw [e2, List.map_map]; rfl
      rw [e3] at q
      refine ⟨hra.hd, ?_, q⟩
      rw [List.length_map]
      have : l1.length = m.rows.length := by rw [e2, List.length_map]
      exact Nat.le_trans (by omega : _ ≤ 8) (by decide)
theorem links_eq {M : Mp} {la : Addr} {ls : List (Str × Str)} {k : Bool → Prop} (hn : ∀ q ∈ ls, Nm q.1 ∧ Nm q.2) (hla : M la = some (.lst (ls.map DL.prD))) (z : k true) : deq M (.lst (ls.map DL.prD)) (.ref la) k := by
  have sh : SeqAt.shaped (.list ((ls.map prK).map PyK)) = true := PyKs_shaped fun ks hk => by
    obtain ⟨r, hr, rfl⟩ := List.mem_map.mp hk
    exact prK_ok (hn r hr)
  refine ⟨.list ((ls.map prK).map PyK), .list ((ls.map prK).map PyK), ?_, ?_, sh, sh, ?_⟩
  · rw [prs_keys]; exact .lst (pyOf_ks _)
  · rw [prs_keys] at hla; exact .ref hla (pyOf_ks _)
  · rw [SeqAt.eqv_refl _ (SeqAt.canLay_of_shaped sh)]; exact z
theorem law_k4 (A : Ad) {m : Mc} (g : FairM m) {rg : Bool} (hg : rg = false → GoodM ⟨m.rows, []⟩) {b ra la : Addr} {ps : List Addr} {Dd : DEnds} {o0 : Option D} (z : ∀ δ M, δ.length = 13 → δ[0]? = some o0 → δ[12]? = some none → Dd.nx δ M) (rb : ra ≠ b) (lb : la ≠ b) (pb : ∀ p ∈ ps, p ≠ b) {o1 o5 o7 o10 o11 : Option D} {dv lv : D} (hd : DvD A m dv) (hl : LkD m lv) {n : Nat} (hn : n < 1000) {M : Mp}
    (hb : Bag M b n) (hra : RowsAt M ra ps m.rows) (hla : M la = some (.lst (m.links.map DL.prD))) : k4_law A Dd [o0, o1, some (.ref b), some (.bl rg), some (.ref ra), o5, some (.ref la), o7, some (.lst (m.rows.map (devR (cA A)))), some (.lst [dv, lv]), o10, o11, none] M := by
  refine ⟨_, rfl, _, rfl, ⟨m, ra, ps, .ref la, rfl, g, hra, .inr ⟨la, rfl, hla⟩, fun w M1 fw hw e1 => ?_⟩⟩
  have hb1 : Bag M1 b n := by
    obtain ⟨x, y, u, a, r⟩ := hb
    exact ⟨x, y, u, e1 b _ a, r⟩
  refine ⟨_, rfl, _, rfl, _, at0, _, rfl, _, at1, _, rfl, ⟨m, b, dv, lv, w, n, rfl, g, hd, hl, hb1, by omega, hw, fun M2 b2 hb2 => ?_⟩⟩
  have hla2 : M2 la = some (.lst (m.links.map DL.prD)) := b2 la _ lb (e1 la _ hla)
  have hra2 := (hra.ext e1).but rb pb b2
  have g0 := fair_no g
  have k2 : k2_law A Dd [o0, o1, some (.ref b), some (.bl rg), some (.ref ra), o5, some (.ref la), o7, some (.lst (m.rows.map (devR (cA A)))), some (.lst [dv, lv]), some (.ref w), o11, none] M2 := by
    refine ⟨_, rfl, Nat.zero_le _, ⟨⟨m.rows, []⟩, ra, ps, .lst [], rfl, g0, hra2, .inl rfl, fun w2 M3 fw2 hw2 e3 => ?_⟩⟩
    refine ⟨_, rfl, ?_⟩
    cases rg with
    | true => exact z _ M3 rfl rfl rfl
    | false =>
      have gm := hg rfl
      obtain ⟨t1, s1, s2, s3, s4⟩ := ref_show (ord_th g0)
      refine ⟨_, rfl, rfl, rfl, ⟨⟨m.rows, []⟩, _, .tup [], rfl, g0, .inl rfl, .inr rfl, fun _ p M4 fp hp e4 => ?_, fun n wy p M4 F _ _ _ => absurd gm F.ng⟩⟩
      refine ⟨t1, s2 _ _ hp, s3, s4, _, rfl, ⟨⟨m.rows, []⟩, w2, rfl, g0, e4 _ _ hw2, fun M5 e5 => ⟨t1, s1 _, s3, s4, ?_⟩⟩⟩
      show br (!decide (t1.text = t1.text)) _ _
      exact brF (by rw [decide_eq_true rfl]; rfl) (z _ M5 rfl rfl rfl)
  have nl : ∀ q ∈ m.links, Nm q.1 ∧ Nm q.2 := lnk_nm g
  refine ⟨_, rfl, _, at1, ?_⟩
  rcases id hl with rfl | rfl
  · refine ⟨_, rfl, links_eq nl hla2 ?_⟩
    exact k2
  · refine ⟨_, rfl, links_eq nl hla2 ?_⟩
    exact k2
theorem law_k7 (A : Ad) {m : Mc} (g : FairM m) {rg : Bool} (hg : rg = false → GoodM ⟨m.rows, []⟩) {b ra la : Addr} {ps : List Addr} {Dd : DEnds} {o0 : Option D} (z : ∀ δ M, δ.length = 13 → δ[0]? = some o0 → δ[12]? = some none → Dd.nx δ M) (rb : ra ≠ b) (lb : la ≠ b) (pb : ∀ p ∈ ps, p ≠ b) {o1 o5 o7 o8 o9 o10 o11 : Option D} {n : Nat} (hn : n < 900) {M : Mp}
    (hb : Bag M b n) (hra : RowsAt M ra ps m.rows) (hla : M la = some (.lst (m.links.map DL.prD))) : k7_law A Dd [o0, o1, some (.ref b), some (.bl rg), some (.ref ra), o5, some (.ref la), o7, o8, o9, o10, o11, none] M := by
  have l8 := g.l8
  refine ⟨_, rfl, _, hra.hd, ⟨by rw [List.length_map, hra.len]; exact Nat.lt_of_le_of_lt l8 (by decide), ?_⟩⟩
  refine made_comp A g hra (fun p => rfl) ?_
  refine ⟨_, rfl, _, rfl, _, hla, (show 2 ≤ sizeLine by decide), ?_⟩
  refine ⟨_, rfl, b, 2, n, rfl, hb, by omega, by decide, by decide, fun M1 v b1 hb1 v0 v1 => ?_⟩
  have hra1 := hra.but rb pb b1
  have hla1 := b1 la _ lb hla
  show br (decide (v = 0)) _ _
  refine br2 (fun _ => ?_) (fun _ => ?_)
  · refine ⟨_, rfl, _, rfl, _, hla1, (show 2 ≤ sizeLine by decide), ?_⟩
    exact law_k4 A g hg z rb lb pb (.inr rfl) (.inr rfl) (n := n + 1) (by omega) hb1 hra1 hla1
  · exact law_k4 A g hg z rb lb pb (.inl rfl) (.inl rfl) (n := n + 1) (by omega) hb1 hra1 hla1
theorem law_body (A : Ad) {ns : List Int} (hns : ns.length ≤ 63) {Dd : DEnds} (z : ∀ δ M, δ.length = 13 → δ[0]? = some (some (.sq (ns.map D.int))) → δ[12]? = some none → Dd.nx δ M) {k : Int} (k0 : 0 ≤ k) (k1 : k < 100) {o2 o3 o4 o5 o6 o7 o8 o9 o10 o11 : Option D} (M : Mp) : b1_law A Dd [some (.sq (ns.map D.int)), some (.int k), o2, o3, o4, o5, o6, o7, o8, o9, o10, o11, none] M := by
  refine ⟨_, rfl, _, rfl, ns, k, rfl, k0, k1, hns, fun ci => ⟨ci, rfl, fun b M1 fb bt hb => ?_⟩⟩
  refine ⟨_, rfl, b, 3, 0, rfl, hb, by decide, by decide, by decide, fun M2 v b2 hb2 v0 v1 => ?_⟩
  obtain ⟨rg, hrg⟩ : ∃ rg, decide (v = 0) = rg := ⟨_, rfl⟩
  have k10 : k10_law A Dd [some (.sq (ns.map D.int)), some (.int k), some (.ref b), some (.bl rg), o4, o5, o6, o7, o8, o9, o10, o11, none] M2 := by
    refine ⟨_, rfl, ⟨b, 0 + 1, rfl, hb2, by decide, fun rs os ra ps M3 dr b3 hb3 r0 rb hps pn rw => ⟨rfl, rfl, ?_⟩⟩⟩
    have ol := drawn_len dr
    have d1 := dr.l1
    have d8 := dr.l8
    refine ⟨_, rfl, _, rfl, _, rfl, ⟨b, _, os, rg, rfl, hb3, by decide, by omega, by omega, dr.od, fun s hs => ?_, fun ls la M4 lk b4 hb4 l0 lb hla => ?_⟩⟩
    · obtain ⟨r, hr, e⟩ := List.mem_map.mp ((dr.om s).mp hs)
      rw [← e]
      exact (dr.row r hr).1
    have pb : ∀ p ∈ ps, p ≠ b := fun p hp => (hps p hp).2.1
    have pr : ∀ p ∈ ps, p ≠ ra := fun p hp => (hps p hp).2.2
    have rw4 := rw.but rb pb b4
    have g := fair_of dr lk
    refine ⟨_, rfl, ?_⟩
    cases rg with
    | false => exact law_k7 A g (fun _ => good_no dr) z rb lb pb (n := 0 + 1 + 200 + 40) (by decide) hb4 rw4 hla
    | true =>
      refine ⟨_, rfl, b, 2, _, rfl, hb4, by decide, by decide, by decide, fun M5 u b5 hb5 u0 u1 => ?_⟩
      have rw5 := rw4.but rb pb b5
      have hla5 := b5 la _ lb hla
      show br (decide (u = 0)) _ _
      refine br2 (fun _ => ?_) (fun _ => law_k7 (rg := true) A g (fun z => nomatch z) z rb lb pb (n := 0 + 1 + 200 + 40 + 1) (by decide) hb5 rw5 hla5)
      have lm : (ps.map D.ref).length = rs.length := by rw [List.length_map, rw.len]
      refine ⟨_, rfl, _, rfl, _, rw5.hd, b, _, _, rfl, hb5, by decide, by rw [lm]; omega, by rw [lm]; omega, fun M6 i b6 hb6 i0 i1 => ?_⟩
      have rw6 := rw5.but rb pb b6
      rw [lm] at i1
      refine ⟨_, rfl, _, rfl, _, rfl, _, rfl, _, rw6.hd, b, _, _, rfl, hb6, by decide, by rw [lm]; omega, by rw [lm]; omega, fun M7 j b7 hb7 j0 j1 => ?_⟩
      have rw7 := rw6.but rb pb b7
      rw [lm] at j1
      refine ⟨(show 2 ≤ sizeLine by decide), _, rfl, b, 2, _, rfl, hb7, by decide, by decide, by decide, fun M8 t b8 hb8 t0 t1 => ?_⟩
      have rw8 := rw7.but rb pb b8
      have hla8 := b8 la _ lb (b7 la _ lb (b6 la _ lb hla5))
      obtain ⟨j2, e2, j20, j21⟩ : ∃ j2 : Int, atI [D.int i, .int j] t = some (.int j2) ∧ 0 ≤ j2 ∧ j2 < rs.length := by
        rcases (by omega : t = 0 ∨ t = 1) with rfl | rfl
        · exact ⟨i, rfl, i0, i1⟩
        · exact ⟨j, rfl, j0, j1⟩
      obtain ⟨i, rfl⟩ := Int.eq_ofNat_of_zero_le i0
      obtain ⟨j2, rfl⟩ := Int.eq_ofNat_of_zero_le j20
      have il : i < rs.length := by omega
      have jl : j2 < rs.length := by omega
      have pl := rw.len
      have ip := List.getElem?_eq_getElem (l := ps) (i := i) (by omega)
      have jp := List.getElem?_eq_getElem (l := ps) (i := j2) (by omega)
      have ir := List.getElem?_eq_getElem il
      have jr := List.getElem?_eq_getElem jl
      have hpi := rw8.at' i _ _ ip ir
      have hpj : M8 ps[j2] = some (.lst [.str rs[j2].nm, oStr rs[j2].par, .int rs[j2].burn, .int rs[j2].sip, .int rs[j2].wake, .int rs[j2].fall, .int rs[j2].rest]) := rw8.at' j2 _ _ jp jr
      have aj : atI (ps.map D.ref) (j2 : Int) = some (.ref ps[j2]) := atI_nat (by rw [List.getElem?_map, jp]; rfl)
      have ai : atI (ps.map D.ref) (i : Int) = some (.ref ps[i]) := atI_nat (by rw [List.getElem?_map, ip]; rfl)
      refine ⟨_, e2, _, rw8.hd, _, aj, _, hpj, _, at0, _, rfl, _, rfl, _, rw8.hd, _, ai, _, hpi, 1, rfl, ?_⟩
      have rw9 := rw8.set pn pr ip ir { rs[i] with par := some rs[j2].nm }
      have pbi : ps[i] ≠ b := pb _ (List.getElem_mem _)
      have lpi : la ≠ ps[i] := fun y => by
        have a := b3
        have := (hps _ (List.getElem_mem (l := ps) (n := i) (by omega))).1
        have q1 := rw.at' i _ _ ip ir
        rw [← y, l0] at q1
        cases q1
      exact law_k7 (rg := true) A (fair_set (m := ⟨rs, ls⟩) g ir (List.mem_map.mpr ⟨_, List.getElem_mem jl, rfl⟩)) (fun z => nomatch z) z rb lb pb (n := 0 + 1 + 200 + 40 + 1 + 1 + 1 + 1) (by decide) (hb8.upd pbi.symm) rw9 (by rw [updM_ne lpi]; exact hla8)
  rw [← hrg] at k10
  exact k10
theorem law_loop (A : Ad) {ns : List Int} (hns : ns.length ≤ 63) {Dd : DEnds} (z : ∀ δ M, Dd.nx δ M) : ∀ (xs : List D) (δ : DS) (M : Mp), (∀ d ∈ xs, ∃ k : Int, d = .int k ∧ 0 ≤ k ∧ k < 100) → δ.length = 13 → δ[0]? = some (some (.sq (ns.map D.int))) → δ[12]? = some none → dLoop (gdName 1) (b1_law A) .data xs Dd δ M
  | [], δ, M, _, _, _, _ => z δ M
  | x :: t, δ, M, hx, l, h0, h12 => by
    obtain ⟨k, rfl, k0, k1⟩ := hx x List.mem_cons_self
    match δ, l with
    | [a0, a1, a2, a3, a4, a5, a6, a7, a8, a9, a10, a11, a12], _ =>
    cases h0
    cases h12
    exact law_body A hns (fun δ M l h0 h12 => law_loop A hns z t δ M (fun d hd => hx d (List.mem_cons_of_mem _ hd)) l h0 h12) k0 k1 M
theorem rd_law (A : Ad) (hA : AdOk A) : ∀ ds M Qd Ed, spLaw ds M Qd Ed → t_law A (ends Qd Ed) (dstart N_law ds) M := by
  intro ds M Qd Ed h
  obtain ⟨ns, rfl, hns, z⟩ := h
  have lm : (ns.map D.int).length = ns.length := List.length_map _
  have bd : ∀ l : Nat, -(2 ^ 62) ≤ (if (if (l : Int) < 8 then (l : Int) else 8) > 2 then (if (l : Int) < 8 then (l : Int) else 8) else 2) ∧ (if (if (l : Int) < 8 then (l : Int) else 8) > 2 then (if (l : Int) < 8 then (l : Int) else 8) else 2) < 2 ^ 62 ∧ (if (if (l : Int) < 8 then (l : Int) else 8) > 2 then (if (l : Int) < 8 then (l : Int) else 8) else 2).toNat ≤ 8 := fun l => by split <;> split <;> omega
  obtain ⟨n1, n2, n3⟩ := bd (ns.map D.int).length
  refine ⟨_, rfl, ⟨n1, n2⟩, ?_⟩
  refine law_loop A hns (fun δ M => z M) _ _ M (fun d hd => ?_) rfl rfl rfl
  obtain ⟨k, rfl, k0, k1⟩ := rng_mem hd
  exact ⟨k, rfl, by omega, by omega⟩
structure Txt (P : Program) (w : World) (K : PySem.W.Frag) (mg : Str → Option Value) (base : Heap) (A : Ad) : Prop where
  xm : A.xm = PySem.W.exmAny K
  b_max : mg "max" = none
  b_len : mg "len" = none
  b_sum : mg "sum" = none
  b_range : mg "range" = none
  b_list : mg "list" = none
  b_isinstance : mg "isinstance" = none
  b_str : mg "str" = none
  g_MOST_LETTERS : ∃ t, mg "MOST_LETTERS" = some (.int 8 t)
  b_all : mg "all" = none
  g_LETTERS : ∃ t, mg "LETTERS" = some (.str "abcdefghijklmnopqrstuvwxyz" t)
  b_int : mg "int" = none
  b_bool : mg "bool" = none
  x_NoNumber : ExcT P w K mg base 1 "NoNumber" "found" A.c_NoNumber
  x_NoName : ExcT P w K mg base 1 "NoName" "found" A.c_NoName
  g_MOST_BURN : ∃ t, mg "MOST_BURN" = some (.int 100 t)
  g_MOST_STEPS : ∃ t, mg "MOST_STEPS" = some (.int 5 t)
  g_MOST_REST : ∃ t, mg "MOST_REST" = some (.int 9 t)
  cl_Device : Cls K A.c_Device
  na_Device_whole : NoAttr K A.c_Device "whole"
  b_tuple : mg "tuple" = none
  g_MOST_DEVICES : ∃ t, mg "MOST_DEVICES" = some (.int 8 t)
  ci_Device : ClsI K A.c_Device
  n_Device : mg "Device" = some (.ref A.c_Device)
  b_enumerate : mg "enumerate" = none
  g_MOST_LINKS : ∃ t, mg "MOST_LINKS" = some (.int 16 t)
  x_Ring : ExcT P w K mg base 1 "Ring" "found" A.c_Ring
  cl_Machine : Cls K A.c_Machine
  na_Machine_in_order : NoAttr K A.c_Machine "in_order"
  na_Machine_parts : NoAttr K A.c_Machine "parts"
  na_Machine_pairs : NoAttr K A.c_Machine "pairs"
  na_Machine_wants : NoAttr K A.c_Machine "wants"
  n_WakeError : mg "WakeError" = some (.ref A.c_WakeError)
  n_StateError : mg "StateError" = some (.ref A.c_StateError)
  b_KeyError : mg "KeyError" = none
  n_Ring : mg "Ring" = some (.ref A.c_Ring)
  xf_Ring : XfC K A.c_Ring
  xn_Ring_found : PySem.W.findIn K (.ref A.c_Ring) "found" = some none
  b_repr : mg "repr" = none
  b_min : mg "min" = none
section
variable {P : Program} {w : World} {K : PySem.W.Frag} {mg : Str → Option Value} {base : Heap} {A : Ad}
theorem sc_NoNumber_init : FnScope ["self", "found"] ["self", "found"] (defScope s_NoNumber_init) := ⟨rfl, rfl, rfl, by decide +kernel, rfl, by decide +kernel, by decide +kernel⟩
theorem init_NoNumber {C f : Addr} {fd : FuncData} (F : L2.Fun K "__init__" "NoNumber.__init__" s_NoNumber_init f fd) (oe : OexC K C) (no : PySem.W.findIn K (.ref C) "found" = some none) : FnG P w K mg base (L2.CX P w) 1 f fd ["self", "found"] (spI C "found") := by
  obtain ⟨oc, od, kV, doc, pm, an, cdv, ct, osl, rfl, lk, hcd⟩ := F.ex
  refine fng_of lk hcd sc_NoNumber_init (fun vs H Q E h => ?_) fun A l s H vs Q E ng rm h => ?_
  · obtain ⟨a, v, rfl, _⟩ := h
    rfl
  · obtain ⟨a, v, rfl, ha, q⟩ := h
    exact ⟨_, pss_one (ps_ost (pv 0) (pv 1)), _, rfl, _, rfl, a, C, rfl, oe, no, Or.inl ⟨ha, fun dx hd ne => q dx hd ne⟩⟩
theorem sc_NoName_init : FnScope ["self", "found"] ["self", "found"] (defScope s_NoName_init) := ⟨rfl, rfl, rfl, by decide +kernel, rfl, by decide +kernel, by decide +kernel⟩
theorem init_NoName {C f : Addr} {fd : FuncData} (F : L2.Fun K "__init__" "NoName.__init__" s_NoName_init f fd) (oe : OexC K C) (no : PySem.W.findIn K (.ref C) "found" = some none) : FnG P w K mg base (L2.CX P w) 1 f fd ["self", "found"] (spI C "found") := by
  obtain ⟨oc, od, kV, doc, pm, an, cdv, ct, osl, rfl, lk, hcd⟩ := F.ex
  refine fng_of lk hcd sc_NoName_init (fun vs H Q E h => ?_) fun A l s H vs Q E ng rm h => ?_
  · obtain ⟨a, v, rfl, _⟩ := h
    rfl
  · obtain ⟨a, v, rfl, ha, q⟩ := h
    exact ⟨_, pss_one (ps_ost (pv 0) (pv 1)), _, rfl, _, rfl, a, C, rfl, oe, no, Or.inl ⟨ha, fun dx hd ne => q dx hd ne⟩⟩
theorem sc_Ring_init : FnScope ["self", "found"] ["self", "found"] (defScope s_Ring_init) := ⟨rfl, rfl, rfl, by decide +kernel, rfl, by decide +kernel, by decide +kernel⟩
theorem init_Ring {C f : Addr} {fd : FuncData} (F : L2.Fun K "__init__" "Ring.__init__" s_Ring_init f fd) (oe : OexC K C) (no : PySem.W.findIn K (.ref C) "found" = some none) : FnG P w K mg base (L2.CX P w) 1 f fd ["self", "found"] (spI C "found") := by
  obtain ⟨oc, od, kV, doc, pm, an, cdv, ct, osl, rfl, lk, hcd⟩ := F.ex
  refine fng_of lk hcd sc_Ring_init (fun vs H Q E h => ?_) fun A l s H vs Q E ng rm h => ?_
  · obtain ⟨a, v, rfl, _⟩ := h
    rfl
  · obtain ⟨a, v, rfl, ha, q⟩ := h
    exact ⟨_, pss_one (ps_ost (pv 0) (pv 1)), _, rfl, _, rfl, a, C, rfl, oe, no, Or.inl ⟨ha, fun dx hd ne => q dx hd ne⟩⟩
theorem sc__law_bag : FnScope N__law_bag ["_law_cell_here"] (defScope s__law_bag) := ⟨rfl, rfl, rfl, by decide +kernel, rfl, by decide +kernel, by decide +kernel⟩
theorem kb__law_bag_0 {f : Addr} {fd : FuncData} (F : FunD K "_law_bag" "_law_bag" (defArgs s__law_bag) (defBody s__law_bag) (defScope s__law_bag) [] [] f fd) : KBd K fd ["_law_cell_here"] 1 [] plG := by
  obtain ⟨oc, od, dV, kV, doc, pm, an, cdv, ct, osl, rfl, lk, hcd, hD, hK⟩ := F.ex
  obtain ⟨_, rfl⟩ | ⟨e, _⟩ := hD
  rotate_left
  · exact absurd rfl e
  exact kb_plain rfl fun us hl => match us, hl with | [_], _ => rfl
theorem ok__law_bag {f : Addr} {fd : FuncData} (hA : AdOk A) (F : FunD K "_law_bag" "_law_bag" (defArgs s__law_bag) (defBody s__law_bag) (defScope s__law_bag) [] [] f fd) (T : Txt P w K mg base A) : FnA P w K mg base 1 f ["_law_cell_here"] (sp__law_bag A) [⟨1, [], plG⟩] := by
  have nd := (sc__law_bag).nd
  refine dfunA (ps := ["_law_cell_here"]) F (pats_cons (kb__law_bag_0 F) (pats_nil)) sc__law_bag (len__law_bag A) fun cdv Ar l s H E g rm => ⟨t__law_bag A, ?_, rd__law_bag A hA⟩
  exact s_one (s_ret (d_lstM (acn (d_max g T.b_max (acn (d_int) (acn (d_sub (dvr 0) (d_pow (d_int) (d_int))) (anl)))) (acn (d_mod (dvr 0) (d_int)) (acn (d_int) (anl))))))
theorem sc__law_cell : FnScope N__law_cell ["_law_script", "_law_k"] (defScope s__law_cell) := ⟨rfl, rfl, rfl, by decide +kernel, rfl, by decide +kernel, by decide +kernel⟩
theorem kb__law_cell_0 {f : Addr} {fd : FuncData} (F : FunD K "_law_cell" "_law_cell" (defArgs s__law_cell) (defBody s__law_cell) (defScope s__law_cell) [] [] f fd) : KBd K fd ["_law_script", "_law_k"] 2 [] plG := by
  obtain ⟨oc, od, dV, kV, doc, pm, an, cdv, ct, osl, rfl, lk, hcd, hD, hK⟩ := F.ex
  obtain ⟨_, rfl⟩ | ⟨e, _⟩ := hD
  rotate_left
  · exact absurd rfl e
  exact kb_plain rfl fun us hl => match us, hl with | [_, _], _ => rfl
theorem ok__law_cell {f : Addr} {fd : FuncData} (hA : AdOk A) (F : FunD K "_law_cell" "_law_cell" (defArgs s__law_cell) (defBody s__law_cell) (defScope s__law_cell) [] [] f fd) (T : Txt P w K mg base A) : FnA P w K mg base 1 f ["_law_script", "_law_k"] (sp__law_cell A) [⟨2, [], plG⟩] := by
  have nd := (sc__law_cell).nd
  refine dfunA (ps := ["_law_script", "_law_k"]) F (pats_cons (kb__law_cell_0 F) (pats_nil)) sc__law_cell (len__law_cell A) fun cdv Ar l s H E g rm => ⟨t__law_cell A, ?_, rd__law_cell A hA⟩
  exact scn (s_if (t_cmp op_lt lr_lt (dvr 1) (d_len T.b_len (acn (dvr 0) (anl))) (nomark _)) (s_one (s_ret (d_sub_ix (dvr 0) (dvr 1)))) (s_nil))
    (s_one (s_ret (d_add5 (d_add5 (d_mul (d_int) (dvr 1)) (d_int)) (d_mod (d_sum g T.b_sum (acn (d_sl4 (dvr 0) (o_none) (o_some (d_int))) (anl))) (d_int)))))
theorem sc__law_take : FnScope N__law_take ["_law_bag_here", "_law_below"] (defScope s__law_take) := ⟨rfl, rfl, rfl, by decide +kernel, rfl, by decide +kernel, by decide +kernel⟩
theorem kb__law_take_0 {f : Addr} {fd : FuncData} (F : FunD K "_law_take" "_law_take" (defArgs s__law_take) (defBody s__law_take) (defScope s__law_take) [] [] f fd) : KBd K fd ["_law_bag_here", "_law_below"] 2 [] plG := by
  obtain ⟨oc, od, dV, kV, doc, pm, an, cdv, ct, osl, rfl, lk, hcd, hD, hK⟩ := F.ex
  obtain ⟨_, rfl⟩ | ⟨e, _⟩ := hD
  rotate_left
  · exact absurd rfl e
  exact kb_plain rfl fun us hl => match us, hl with | [_, _], _ => rfl
theorem ok__law_take {f : Addr} {fd : FuncData} (hA : AdOk A) (F : FunD K "_law_take" "_law_take" (defArgs s__law_take) (defBody s__law_take) (defScope s__law_take) [] [] f fd) (T : Txt P w K mg base A) : FnA P w K mg base 1 f ["_law_bag_here", "_law_below"] (sp__law_take A) [⟨2, [], plG⟩] := by
  have nd := (sc__law_take).nd
  refine dfunA (ps := ["_law_bag_here", "_law_below"]) F (pats_cons (kb__law_take_0 F) (pats_nil)) sc__law_take (len__law_take A) fun cdv Ar l s H E g rm => ⟨t__law_take A, ?_, rd__law_take A hA⟩
  exact scn (s_if (t_cmp op_gt lr_gt (d_sub_ix (dvr 0) (d_int)) (d_int) (nomark _)) (scn (s_set 2 nd (d_mod (d_sub_ix (dvr 0) (d_int)) (dvr 1)))
    (scn (s_asg (d_div (d_sub_ix (dvr 0) (d_int)) (dvr 1)) (g_subL (dvr 0) (d_int)))
    (s_one (s_ret (dvr 2))))) (s_nil))
    (scn (s_asg (d_add5 (d_sub_ix (dvr 0) (d_int)) (d_int)) (g_subL (dvr 0) (d_int)))
    (scn (s_set 3 nd (d_mod (d_pow (d_add5 (d_add5 (d_sub_ix (dvr 0) (d_int)) (d_mul (d_int) (d_sub_ix (dvr 0) (d_int)))) (d_int)) (d_int)) (d_int)))
    (scn (s_set 3 nd (d_mod (d_pow (d_add5 (dvr 3) (d_mul (d_int) (d_sub_ix (dvr 0) (d_int)))) (d_int)) (d_int)))
    (s_one (s_ret (d_mod (d_div (dvr 3) (d_int)) (dvr 1)))))))
theorem sc__law_names : FnScope N__law_names ["_law_bag_here", "_law_size"] (defScope s__law_names) := ⟨rfl, rfl, rfl, by decide +kernel, rfl, by decide +kernel, by decide +kernel⟩
theorem kb__law_names_0 {f : Addr} {fd : FuncData} (F : FunD K "_law_names" "_law_names" (defArgs s__law_names) (defBody s__law_names) (defScope s__law_names) [] [] f fd) : KBd K fd ["_law_bag_here", "_law_size"] 2 [] plG := by
  obtain ⟨oc, od, dV, kV, doc, pm, an, cdv, ct, osl, rfl, lk, hcd, hD, hK⟩ := F.ex
  obtain ⟨_, rfl⟩ | ⟨e, _⟩ := hD
  rotate_left
  · exact absurd rfl e
  exact kb_plain rfl fun us hl => match us, hl with | [_, _], _ => rfl
theorem ok__law_names {f : Addr} {fd : FuncData} (hA : AdOk A) (F : FunD K "_law_names" "_law_names" (defArgs s__law_names) (defBody s__law_names) (defScope s__law_names) [] [] f fd) (T : Txt P w K mg base A) (f__law_take : FnN P w K mg base 1 "_law_take" ["_law_bag_here", "_law_below"] (sp__law_take A) [⟨2, [], plG⟩]) : FnA P w K mg base 2 f ["_law_bag_here", "_law_size"] (sp__law_names A) [⟨2, [], plG⟩] := by
  have nd := (sc__law_names).nd
  refine dfunA (ps := ["_law_bag_here", "_law_size"]) F (pats_cons (kb__law_names_0 F) (pats_nil)) sc__law_names (len__law_names A) fun cdv Ar l s H E g rm => ⟨t__law_names A, ?_, rd__law_names A hA⟩
  exact scn (s_set 2 nd (d_str))
    (scn (s_set 3 nd (d_fnP 0 f__law_take g (rm.mono (by decide)) (acn (dvr 0) (acn (d_int) (anl)))))
    (scn (s_set 4 nd (d_fnP 0 f__law_take g (rm.mono (by decide)) (acn (dvr 0) (acn (d_int) (anl)))))
    (scn (s_set 5 nd (d_sub_ix (d_lst (acn (d_int) (acn (d_int) (acn (d_int) (acn (d_int) (anl)))))) (d_fnP 0 f__law_take g (rm.mono (by decide)) (acn (dvr 0) (acn (d_int) (anl))))))
    (scn (s_set 6 nd (d_join (d_str) (d_lc N__law_names (defScope s__law_names) [("_law_k", 10)] g nd (i_range1 T.b_range (acn (d_int) (anl))) (by decide +kernel) (t := (.one 10)) rfl (fun _ _ _ _ _ g => v_one 10 nd) (fun _ _ _ _ _ g => ts_nil) (fun _ _ _ _ _ g => d_sub_ix (dvr 2) (d_fnP 0 f__law_take g (rm.mono (by decide)) (acn (dvr 0) (acn (d_int) (anl))))))))
    (scn (s_set 7 nd (d_fnP 0 f__law_take g (rm.mono (by decide)) (acn (dvr 0) (acn (d_int) (anl)))))
    (scn (s_if (t_cmp (op_eq2 rm) lr_eq (dvr 3) (d_int) (nomark _)) (s_one (s_ret (d_lc N__law_names (defScope s__law_names) [("_law_k", 10)] g nd (i_range1 T.b_range (acn (dvr 1) (anl))) (by decide +kernel) (t := (.one 10)) rfl (fun _ _ _ _ _ g => v_one 10 nd) (fun _ _ _ _ _ g => ts_nil) (fun _ _ _ _ _ g => d_add5 (d_sub_ix (dvr 2) (dvr 4)) (d_sl4 (dvr 6) (o_none) (o_some (d_mod (d_add5 (dvr 7) (d_mul (d_int) (dvr 10))) (d_int)))))))) (s_nil))
    (scn (s_set 6 nd (d_sl4 (dvr 6) (o_none) (o_some (d_fnP 0 f__law_take g (rm.mono (by decide)) (acn (dvr 0) (acn (d_int) (anl)))))))
    (scn (s_asg (d_tup (acn (d_sl4 (dvr 6) (o_none) (o_some (dvr 7))) (acn (d_sl4 (dvr 6) (o_some (dvr 7)) (o_none)) (anl)))) (g_tup (n := 2) g.calm (gs_cons 8 nd (gs_cons 9 nd (gs_nil)))))
    (s_one (s_ret (d_lc N__law_names (defScope s__law_names) [("_law_k", 10)] g nd (i_range1 T.b_range (acn (dvr 1) (anl))) (by decide +kernel) (t := (.one 10)) rfl (fun _ _ _ _ _ g => v_one 10 nd) (fun _ _ _ _ _ g => ts_nil) (fun _ _ _ _ _ g => d_add5 (d_add5 (dvr 8) (d_sub_ix (dvr 2) (d_mod (d_add5 (dvr 4) (d_mul (dvr 5) (dvr 10))) (d_int)))) (dvr 9)))))))))))))
theorem sc__law_rows : FnScope N__law_rows ["_law_bag_here", "_law_least", "_law_most"] (defScope s__law_rows) := ⟨rfl, rfl, rfl, by decide +kernel, rfl, by decide +kernel, by decide +kernel⟩
theorem kb__law_rows_0 {f : Addr} {fd : FuncData} (F : FunD K "_law_rows" "_law_rows" (defArgs s__law_rows) (defBody s__law_rows) (defScope s__law_rows) [] [] f fd) : KBd K fd ["_law_bag_here", "_law_least", "_law_most"] 3 [] plG := by
  obtain ⟨oc, od, dV, kV, doc, pm, an, cdv, ct, osl, rfl, lk, hcd, hD, hK⟩ := F.ex
  obtain ⟨_, rfl⟩ | ⟨e, _⟩ := hD
  rotate_left
  · exact absurd rfl e
  exact kb_plain rfl fun us hl => match us, hl with | [_, _, _], _ => rfl
theorem ok__law_rows {f : Addr} {fd : FuncData} (hA : AdOk A) (F : FunD K "_law_rows" "_law_rows" (defArgs s__law_rows) (defBody s__law_rows) (defScope s__law_rows) [] [] f fd) (T : Txt P w K mg base A) (f__law_take : FnN P w K mg base 1 "_law_take" ["_law_bag_here", "_law_below"] (sp__law_take A) [⟨2, [], plG⟩]) (f__law_names : FnN P w K mg base 2 "_law_names" ["_law_bag_here", "_law_size"] (sp__law_names A) [⟨2, [], plG⟩]) : FnA P w K mg base 3 f ["_law_bag_here", "_law_least", "_law_most"] (sp__law_rows A) [⟨3, [], plG⟩] := by
  have nd := (sc__law_rows).nd
  refine dfunA (ps := ["_law_bag_here", "_law_least", "_law_most"]) F (pats_cons (kb__law_rows_0 F) (pats_nil)) sc__law_rows (len__law_rows A) fun cdv Ar l s H E g rm => ⟨t__law_rows A, ?_, rd__law_rows A hA⟩
  exact scn (s_set 3 nd (d_add5 (dvr 1) (d_fnP 0 f__law_take g (rm.mono (by decide)) (acn (dvr 0) (acn (d_add5 (d_sub (dvr 2) (dvr 1)) (d_int)) (anl))))))
    (scn (s_set 4 nd (d_fnP 0 f__law_names g (rm.mono (by decide)) (acn (dvr 0) (acn (dvr 3) (anl)))))
    (scn (s_set 5 nd (d_listM T.b_list (acn (dvr 4) (anl))))
    (scn (s_setLc 6 N__law_rows (defScope s__law_rows) [("_law_k", 13)] g nd (i_range1 T.b_range (acn (dvr 3) (anl))) (by decide +kernel) (t := (.one 13)) rfl (fun _ _ _ _ _ g => v_one 13 nd) (fun _ _ _ _ _ g => ts_nil) (fun _ _ _ _ _ g => d_popAt (dvr 5) (acn (d_fnP 0 f__law_take g (rm.mono (by decide)) (acn (dvr 0) (acn (d_len T.b_len (acn (dvr 5) (anl))) (anl)))) (anl))) (sw_true rfl rfl rfl (by decide +kernel)))
    (scn (s_set 7 nd (d_lstM (anl)))
    (scn (s_for g (i_list (dvr 4)) (g_name 8 nd) (scn (s_set 9 nd (d_sl4 (dvr 6) (o_none) (o_some (d_idxL (dvr 6) (dvr 8)))))
    (scn (s_set 10 nd (d_non))
    (scn (s_if (t_w (w_and (t_cmp (op_n0 rm) lr_e0 (dvr 9) (d_lst (anl)) (nomark _)) (w_and1 (t_cmp op_gt lr_gt (d_fnP 0 f__law_take g (rm.mono (by decide)) (acn (dvr 0) (acn (d_int) (anl)))) (d_int) (nomark _))))) (s_one (s_set 10 nd (d_sub_ix (dvr 9) (d_fnP 0 f__law_take g (rm.mono (by decide)) (acn (dvr 0) (acn (d_len T.b_len (acn (dvr 9) (anl))) (anl))))))) (s_nil))
    (scn (s_set 11 nd (d_sub_ix (d_lst (acn (d_int) (acn (d_int) (acn (d_fnP 0 f__law_take g (rm.mono (by decide)) (acn (dvr 0) (acn (d_int) (anl)))) (acn (d_add5 (d_int) (d_fnP 0 f__law_take g (rm.mono (by decide)) (acn (dvr 0) (acn (d_int) (anl))))) (anl)))))) (d_fnP 0 f__law_take g (rm.mono (by decide)) (acn (dvr 0) (acn (d_int) (anl))))))
    (scn (s_set 12 nd (d_lst (acn (dvr 11) (acn (d_sub_ix (d_lst (acn (d_int) (acn (dvr 11) (acn (d_fnP 0 f__law_take g (rm.mono (by decide)) (acn (dvr 0) (acn (d_add5 (dvr 11) (d_int)) (anl)))) (anl))))) (d_fnP 0 f__law_take g (rm.mono (by decide)) (acn (dvr 0) (acn (d_int) (anl))))) (anl)))))
    (scn (s_set 12 nd (d_add5 (dvr 12) (d_lst (acn (d_fnP 0 f__law_take g (rm.mono (by decide)) (acn (dvr 0) (acn (d_int) (anl)))) (acn (d_fnP 0 f__law_take g (rm.mono (by decide)) (acn (dvr 0) (acn (d_int) (anl)))) (acn (d_fnP 0 f__law_take g (rm.mono (by decide)) (acn (dvr 0) (acn (d_int) (anl)))) (anl)))))))
    (s_one (s_expr (d_append (dvr 7) (d_addM (d_lst (acn (dvr 8) (acn (dvr 10) (anl)))) (dvr 12))))))))))))
    (s_one (s_ret (d_lst (acn (dvr 7) (acn (dvr 6) (anl)))))))))))
theorem sc__law_links : FnScope N__law_links ["_law_bag_here", "_law_order_here", "_law_rings"] (defScope s__law_links) := ⟨rfl, rfl, rfl, by decide +kernel, rfl, by decide +kernel, by decide +kernel⟩
theorem kb__law_links_0 {f : Addr} {fd : FuncData} (F : FunD K "_law_links" "_law_links" (defArgs s__law_links) (defBody s__law_links) (defScope s__law_links) [] [] f fd) : KBd K fd ["_law_bag_here", "_law_order_here", "_law_rings"] 3 [] plG := by
  obtain ⟨oc, od, dV, kV, doc, pm, an, cdv, ct, osl, rfl, lk, hcd, hD, hK⟩ := F.ex
  obtain ⟨_, rfl⟩ | ⟨e, _⟩ := hD
  rotate_left
  · exact absurd rfl e
  exact kb_plain rfl fun us hl => match us, hl with | [_, _, _], _ => rfl
theorem ok__law_links {f : Addr} {fd : FuncData} (hA : AdOk A) (F : FunD K "_law_links" "_law_links" (defArgs s__law_links) (defBody s__law_links) (defScope s__law_links) [] [] f fd) (T : Txt P w K mg base A) (f__law_take : FnN P w K mg base 1 "_law_take" ["_law_bag_here", "_law_below"] (sp__law_take A) [⟨2, [], plG⟩]) : FnA P w K mg base 2 f ["_law_bag_here", "_law_order_here", "_law_rings"] (sp__law_links A) [⟨3, [], plG⟩] := by
  have nd := (sc__law_links).nd
  refine dfunA (ps := ["_law_bag_here", "_law_order_here", "_law_rings"]) F (pats_cons (kb__law_links_0 F) (pats_nil)) sc__law_links (len__law_links A) fun cdv Ar l s H E g rm => ⟨t__law_links A, ?_, rd__law_links A hA⟩
  exact scn (s_set 3 nd (d_lstM (anl)))
    (scn (s_for g (i_range1 T.b_range (acn (d_sub_ix (d_lst (acn (d_fnP 0 f__law_take g (rm.mono (by decide)) (acn (dvr 0) (acn (d_int) (anl)))) (acn (d_fnP 0 f__law_take g (rm.mono (by decide)) (acn (dvr 0) (acn (d_int) (anl)))) (acn (d_int) (anl))))) (d_fnP 0 f__law_take g (rm.mono (by decide)) (acn (dvr 0) (acn (d_int) (anl))))) (anl))) (g_name 4 nd) (scn (s_set 5 nd (d_fnP 0 f__law_take g (rm.mono (by decide)) (acn (dvr 0) (acn (d_len T.b_len (acn (dvr 1) (anl))) (anl)))))
    (scn (s_set 6 nd (d_fnP 0 f__law_take g (rm.mono (by decide)) (acn (dvr 0) (acn (d_len T.b_len (acn (dvr 1) (anl))) (anl)))))
    (scn (s_if (t_w (w_and (t_not (t_truth (dvr 2))) (w_and1 (t_cmp op_lt lr_lt (dvr 5) (dvr 6) (nomark _))))) (s_one (s_par2 5 6 g nd (acn (dvr 6) (acn (dvr 5) (anl))))) (s_nil))
    (scn (s_set 7 nd (d_tup (acn (d_sub_ix (dvr 1) (dvr 5)) (acn (d_sub_ix (dvr 1) (dvr 6)) (anl)))))
    (s_one (s_if (t_w (w_and (t_cmp (op_ne2 rm) lr_ne (dvr 5) (dvr 6) (nomark _)) (w_and1 (t_cmp (op_ninDk rm) lr_inD2 (dvr 7) (dvr 3) rfl)))) (s_one (s_expr (d_append (dvr 3) (dvr 7)))) (s_nil))))))))
    (s_one (s_ret (dvr 3))))
theorem sc_is_name : FnScope N_is_name ["thing"] (defScope s_is_name) := ⟨rfl, rfl, rfl, by decide +kernel, rfl, by decide +kernel, by decide +kernel⟩
theorem kb_is_name_0 {f : Addr} {fd : FuncData} (F : FunD K "is_name" "is_name" (defArgs s_is_name) (defBody s_is_name) (defScope s_is_name) [] [] f fd) : KBd K fd ["thing"] 1 [] plG := by
  obtain ⟨oc, od, dV, kV, doc, pm, an, cdv, ct, osl, rfl, lk, hcd, hD, hK⟩ := F.ex
  obtain ⟨_, rfl⟩ | ⟨e, _⟩ := hD
  rotate_left
  · exact absurd rfl e
  exact kb_plain rfl fun us hl => match us, hl with | [_], _ => rfl
theorem ok_is_name {f : Addr} {fd : FuncData} (hA : AdOk A) (F : FunD K "is_name" "is_name" (defArgs s_is_name) (defBody s_is_name) (defScope s_is_name) [] [] f fd) (T : Txt P w K mg base A) : FnA P w K mg base 1 f ["thing"] (sp_is_name A) [⟨1, [], plG⟩] := by
  have nd := (sc_is_name).nd
  refine dfunA (ps := ["thing"]) F (pats_cons (kb_is_name_0 F) (pats_nil)) sc_is_name (len_is_name A) fun cdv Ar l s H E g rm => ⟨t_is_name A, ?_, rd_is_name A hA⟩
  exact s_one (s_ret (d_and (d_isi .str (fun z => nomatch z) (fun z => nomatch z) T.b_isinstance T.b_str (by decide +kernel) (dvr 0)) (d_and (d_chain op_le op_le lr_le lr_le (d_int) (d_len T.b_len (acn (dvr 0) (anl))) (d_gInt T.g_MOST_LETTERS)) (d_one (d_all g T.b_all (acn (d_lc N_is_name (defScope s_is_name) [("sign", 1)] g nd (i_str (dvr 0)) (by decide +kernel) (t := (.one 1)) rfl (fun _ _ _ _ _ g => v_one 1 nd) (fun _ _ _ _ _ g => ts_nil) (fun _ _ _ _ _ g => d_cmp op_in_sign lr_inS (dvr 1) (d_gStr T.g_LETTERS) rfl)) (anl)))))))
theorem sc_is_whole : FnScope N_is_whole ["thing", "low", "high"] (defScope s_is_whole) := ⟨rfl, rfl, rfl, by decide +kernel, rfl, by decide +kernel, by decide +kernel⟩
theorem kb_is_whole_0 {f : Addr} {fd : FuncData} (F : FunD K "is_whole" "is_whole" (defArgs s_is_whole) (defBody s_is_whole) (defScope s_is_whole) [] [] f fd) : KBd K fd ["thing", "low", "high"] 3 [] plG := by
  obtain ⟨oc, od, dV, kV, doc, pm, an, cdv, ct, osl, rfl, lk, hcd, hD, hK⟩ := F.ex
  obtain ⟨_, rfl⟩ | ⟨e, _⟩ := hD
  rotate_left
  · exact absurd rfl e
  exact kb_plain rfl fun us hl => match us, hl with | [_, _, _], _ => rfl
theorem ok_is_whole {f : Addr} {fd : FuncData} (hA : AdOk A) (F : FunD K "is_whole" "is_whole" (defArgs s_is_whole) (defBody s_is_whole) (defScope s_is_whole) [] [] f fd) (T : Txt P w K mg base A) : FnA P w K mg base 1 f ["thing", "low", "high"] (sp_is_whole A) [⟨3, [], plG⟩] := by
  have nd := (sc_is_whole).nd
  refine dfunA (ps := ["thing", "low", "high"]) F (pats_cons (kb_is_whole_0 F) (pats_nil)) sc_is_whole (len_is_whole A) fun cdv Ar l s H E g rm => ⟨t_is_whole A, ?_, rd_is_whole A hA⟩
  exact s_one (s_ret (d_and (d_isi .int (fun z => nomatch z) (fun z => nomatch z) T.b_isinstance T.b_int (by decide +kernel) (dvr 0)) (d_and (d_not (d_isi .bl (fun z => nomatch z) (fun z => nomatch z) T.b_isinstance T.b_bool (by decide +kernel) (dvr 0))) (d_one (d_chain op_le op_le lr_le lr_le (dvr 1) (dvr 0) (dvr 2))))))
theorem sc_need_number : FnScope N_need_number ["thing", "high"] (defScope s_need_number) := ⟨rfl, rfl, rfl, by decide +kernel, rfl, by decide +kernel, by decide +kernel⟩
theorem kb_need_number_0 {f : Addr} {fd : FuncData} (F : FunD K "need_number" "need_number" (defArgs s_need_number) (defBody s_need_number) (defScope s_need_number) [] [] f fd) : KBd K fd ["thing", "high"] 2 [] plG := by
  obtain ⟨oc, od, dV, kV, doc, pm, an, cdv, ct, osl, rfl, lk, hcd, hD, hK⟩ := F.ex
  obtain ⟨_, rfl⟩ | ⟨e, _⟩ := hD
  rotate_left
  · exact absurd rfl e
  exact kb_plain rfl fun us hl => match us, hl with | [_, _], _ => rfl
theorem ok_need_number {f : Addr} {fd : FuncData} (hA : AdOk A) (F : FunD K "need_number" "need_number" (defArgs s_need_number) (defBody s_need_number) (defScope s_need_number) [] [] f fd) (T : Txt P w K mg base A) (f_is_whole : FnN P w K mg base 1 "is_whole" ["thing", "low", "high"] (sp_is_whole A) [⟨3, [], plG⟩]) : FnA P w K mg base 3 f ["thing", "high"] (sp_need_number A) [⟨2, [], plG⟩] := by
  have nd := (sc_need_number).nd
  refine dfunA (ps := ["thing", "high"]) F (pats_cons (kb_need_number_0 F) (pats_nil)) sc_need_number (len_need_number A) fun cdv Ar l s H E g rm => ⟨t_need_number A, ?_, rd_need_number A hA⟩
  exact s_one (s_if (t_not (t_truth (d_fnP 0 f_is_whole g (rm.mono (by decide)) (acn (dvr 0) (acn (d_int) (acn (dvr 1) (anl))))))) (s_one (s_raise T.x_NoNumber g (rm.mono (by decide)) (dvr 0))) (s_nil))
theorem sc_m_Device_init : FnScope N_m_Device_init ["self", "name", "parent", "burn", "sip", "wake", "fall", "rest"] (defScope s_m_Device_init) := ⟨rfl, rfl, rfl, by decide +kernel, rfl, by decide +kernel, by decide +kernel⟩
theorem kb_m_Device_init_0 {f : Addr} {fd : FuncData} (F : FunD K "__init__" "Device.__init__" (defArgs s_m_Device_init) (defBody s_m_Device_init) (defScope s_m_Device_init) [] [("parent", .non), ("burn", .int 5), ("sip", .int 1), ("wake", .int 1), ("fall", .int 1), ("rest", .int 0)] f fd) : KBd K fd ["self", "name", "parent", "burn", "sip", "wake", "fall", "rest"] 2 ["parent", "burn", "sip", "wake", "fall", "rest"] pg_m_Device_init_0 := by
  obtain ⟨oc, od, dV, kV, doc, pm, an, cdv, ct, osl, rfl, lk, hcd, hD, hK⟩ := F.ex
  obtain ⟨_, rfl⟩ | ⟨e, _⟩ := hD
  rotate_left
  · exact absurd rfl e
  obtain e | ⟨Dk, rfl, hq⟩ := hK
  · cases e
  intro s I us_0 ws_0 vs_0 zs_0 ds_0 es_0 X lu_0 lw_0 r1_0 r2_0 q1_0 q2_0
  obtain ⟨u0, us_1, rfl, lu_1⟩ := len_cons lu_0
  obtain ⟨u1, us_2, rfl, lu_2⟩ := len_cons lu_1
  cases len_nil lu_2
  obtain ⟨w0, ws_1, rfl, lw_1⟩ := len_cons lw_0
  obtain ⟨w1, ws_2, rfl, lw_2⟩ := len_cons lw_1
  obtain ⟨w2, ws_3, rfl, lw_3⟩ := len_cons lw_2
  obtain ⟨w3, ws_4, rfl, lw_4⟩ := len_cons lw_3
  obtain ⟨w4, ws_5, rfl, lw_5⟩ := len_cons lw_4
  obtain ⟨w5, ws_6, rfl, lw_6⟩ := len_cons lw_5
  cases len_nil lw_6
  obtain ⟨v0, vs_1, rfl, ru0, r1_1⟩ := vals_consR r1_0
  obtain ⟨a0, ds_1, rfl, qa0, q1_1⟩ := reps_consL q1_0
  obtain ⟨v1, vs_2, rfl, ru1, r1_2⟩ := vals_consR r1_1
  obtain ⟨a1, ds_2, rfl, qa1, q1_2⟩ := reps_consL q1_1
  cases r1_2
  cases q1_2
  obtain ⟨z0, zs_1, rfl, rw0, r2_1⟩ := vals_consR r2_0
  obtain ⟨b0, es_1, rfl, qb0, q2_1⟩ := reps_consL q2_0
  obtain ⟨z1, zs_2, rfl, rw1, r2_2⟩ := vals_consR r2_1
  obtain ⟨b1, es_2, rfl, qb1, q2_2⟩ := reps_consL q2_1
  obtain ⟨z2, zs_3, rfl, rw2, r2_3⟩ := vals_consR r2_2
  obtain ⟨b2, es_3, rfl, qb2, q2_3⟩ := reps_consL q2_2
  obtain ⟨z3, zs_4, rfl, rw3, r2_4⟩ := vals_consR r2_3
  obtain ⟨b3, es_4, rfl, qb3, q2_4⟩ := reps_consL q2_3
  obtain ⟨z4, zs_5, rfl, rw4, r2_5⟩ := vals_consR r2_4
  obtain ⟨b4, es_5, rfl, qb4, q2_5⟩ := reps_consL q2_4
  obtain ⟨z5, zs_6, rfl, rw5, r2_6⟩ := vals_consR r2_5
  obtain ⟨b5, es_6, rfl, qb5, q2_6⟩ := reps_consL q2_5
  cases r2_6
  cases q2_6
  exact ⟨[u0, u1, w0, w1, w2, w3, w4, w5], [v0, v1, z0, z1, z2, z3, z4, z5], BindsTo.of_looks fun M => .of_pure rfl, .cons (ru0) (.cons (ru1) (.cons (rw0) (.cons (rw1) (.cons (rw2) (.cons (rw3) (.cons (rw4) (.cons (rw5) (.nil)))))))), .cons (qa0) (.cons (qa1) (.cons (qb0) (.cons (qb1) (.cons (qb2) (.cons (qb3) (.cons (qb4) (.cons (qb5) (.nil))))))))⟩
theorem ok_m_Device_init {f : Addr} {fd : FuncData} (hA : AdOk A) (F : FunD K "__init__" "Device.__init__" (defArgs s_m_Device_init) (defBody s_m_Device_init) (defScope s_m_Device_init) [] [("parent", .non), ("burn", .int 5), ("sip", .int 1), ("wake", .int 1), ("fall", .int 1), ("rest", .int 0)] f fd) (T : Txt P w K mg base A) (f_is_name : FnN P w K mg base 1 "is_name" ["thing"] (sp_is_name A) [⟨1, [], plG⟩]) (f_need_number : FnN P w K mg base 3 "need_number" ["thing", "high"] (sp_need_number A) [⟨2, [], plG⟩]) : FnA P w K mg base 4 f ["self", "name", "parent", "burn", "sip", "wake", "fall", "rest"] (sp_m_Device_init A) [⟨2, ["parent", "burn", "sip", "wake", "fall", "rest"], pg_m_Device_init_0⟩] := by
  have nd := (sc_m_Device_init).nd
  refine dfunA (ps := ["self", "name", "parent", "burn", "sip", "wake", "fall", "rest"]) F (pats_cons (kb_m_Device_init_0 F) (pats_nil)) sc_m_Device_init (len_m_Device_init A) fun cdv Ar l s H E g rm => ⟨t_m_Device_init A, ?_, rd_m_Device_init A hA⟩
  exact scn (s_if (t_not (t_truth (d_fnP 0 f_is_name g (rm.mono (by decide)) (acn (dvr 1) (anl))))) (s_one (s_raise T.x_NoName g (rm.mono (by decide)) (dvr 1))) (s_nil))
    (scn (s_if (t_w (w_and (t_cmp op_notC lr_isNot (dvr 2) (d_non) (nomark _)) (w_and1 (t_not (t_truth (d_fnP 0 f_is_name g (rm.mono (by decide)) (acn (dvr 2) (anl)))))))) (s_one (s_raise T.x_NoName g (rm.mono (by decide)) (dvr 2))) (s_nil))
    (scn (s_expr (d_fnP 0 f_need_number g (rm.mono (by decide)) (acn (dvr 3) (acn (d_gInt T.g_MOST_BURN) (anl)))))
    (scn (s_expr (d_fnP 0 f_need_number g (rm.mono (by decide)) (acn (dvr 4) (acn (dvr 3) (anl)))))
    (scn (s_expr (d_fnP 0 f_need_number g (rm.mono (by decide)) (acn (dvr 5) (acn (d_gInt T.g_MOST_STEPS) (anl)))))
    (scn (s_expr (d_fnP 0 f_need_number g (rm.mono (by decide)) (acn (dvr 6) (acn (d_gInt T.g_MOST_STEPS) (anl)))))
    (scn (s_expr (d_fnP 0 f_need_number g (rm.mono (by decide)) (acn (dvr 7) (acn (d_gInt T.g_MOST_REST) (anl)))))
    (s_one (s_fld (fc_cons T.cl_Device T.na_Device_whole fc_nil) (dvr 0) (d_tup (acn (dvr 1) (acn (dvr 2) (acn (dvr 3) (acn (dvr 4) (acn (dvr 5) (acn (dvr 6) (acn (dvr 7) (anl)))))))))))))))))
theorem sc__law_made : FnScope N__law_made ["_law_row"] (defScope s__law_made) := ⟨rfl, rfl, rfl, by decide +kernel, rfl, by decide +kernel, by decide +kernel⟩
theorem kb__law_made_0 {f : Addr} {fd : FuncData} (F : FunD K "_law_made" "_law_made" (defArgs s__law_made) (defBody s__law_made) (defScope s__law_made) [] [] f fd) : KBd K fd ["_law_row"] 1 [] plG := by
  obtain ⟨oc, od, dV, kV, doc, pm, an, cdv, ct, osl, rfl, lk, hcd, hD, hK⟩ := F.ex
  obtain ⟨_, rfl⟩ | ⟨e, _⟩ := hD
  rotate_left
  · exact absurd rfl e
  exact kb_plain rfl fun us hl => match us, hl with | [_], _ => rfl
theorem ok__law_made {f : Addr} {fd : FuncData} (hA : AdOk A) (F : FunD K "_law_made" "_law_made" (defArgs s__law_made) (defBody s__law_made) (defScope s__law_made) [] [] f fd) (T : Txt P w K mg base A) (k_Device : MkOk P w K mg base 4 "Device" A.c_Device ["self", "name", "parent", "burn", "sip", "wake", "fall", "rest"] (sp_m_Device_init A) [⟨2, ["parent", "burn", "sip", "wake", "fall", "rest"], pg_m_Device_init_0⟩]) : FnA P w K mg base 6 f ["_law_row"] (sp__law_made A) [⟨1, [], plG⟩] := by
  have nd := (sc__law_made).nd
  refine dfunA (ps := ["_law_row"]) F (pats_cons (kb__law_made_0 F) (pats_nil)) sc__law_made (len__law_made A) fun cdv Ar l s H E g rm => ⟨t__law_made A, ?_, rd__law_made A hA⟩
  exact s_one (s_ret (d_makeF 0 k_Device g (rm.mono (by decide)) (args_pk (acn (d_sub_ix (dvr 0) (d_int)) (anl)) (k_cons (d_sub_ix (dvr 0) (d_int)) (k_cons (d_sub_ix (dvr 0) (d_int)) (k_cons (d_sub_ix (dvr 0) (d_int)) (k_cons (d_sub_ix (dvr 0) (d_int)) (k_cons (d_sub_ix (dvr 0) (d_int)) (k_cons (d_sub_ix (dvr 0) (d_int)) (k_nil))))))))))
theorem sc__law_needs : FnScope N__law_needs ["_law_rows_here", "_law_links_here"] (defScope s__law_needs) := ⟨rfl, rfl, rfl, by decide +kernel, rfl, by decide +kernel, by decide +kernel⟩
theorem kb__law_needs_0 {f : Addr} {fd : FuncData} (F : FunD K "_law_needs" "_law_needs" (defArgs s__law_needs) (defBody s__law_needs) (defScope s__law_needs) [] [] f fd) : KBd K fd ["_law_rows_here", "_law_links_here"] 2 [] plG := by
  obtain ⟨oc, od, dV, kV, doc, pm, an, cdv, ct, osl, rfl, lk, hcd, hD, hK⟩ := F.ex
  obtain ⟨_, rfl⟩ | ⟨e, _⟩ := hD
  rotate_left
  · exact absurd rfl e
  exact kb_plain rfl fun us hl => match us, hl with | [_, _], _ => rfl
theorem ok__law_needs {f : Addr} {fd : FuncData} (hA : AdOk A) (F : FunD K "_law_needs" "_law_needs" (defArgs s__law_needs) (defBody s__law_needs) (defScope s__law_needs) [] [] f fd) (T : Txt P w K mg base A) : FnA P w K mg base 1 f ["_law_rows_here", "_law_links_here"] (sp__law_needs A) [⟨2, [], plG⟩] := by
  have nd := (sc__law_needs).nd
  refine dfunA (ps := ["_law_rows_here", "_law_links_here"]) F (pats_cons (kb__law_needs_0 F) (pats_nil)) sc__law_needs (len__law_needs A) fun cdv Ar l s H E g rm => ⟨t__law_needs A, ?_, rd__law_needs A hA⟩
  exact scn (s_set 2 nd (d_dict0M))
    (scn (s_for g (i_list (dvr 0)) (g_name 3 nd) (scn (s_set 4 nd (d_mulM (d_lst (acn (d_sub_ix (dvr 3) (d_int)) (anl))) (d_intB T.b_int (acn (d_cmp op_notC lr_isNot (d_sub_ix (dvr 3) (d_int)) (d_non) (nomark _)) (anl)))))
    (scn (s_for g (i_list (dvr 1)) (g_tup (n := 2) g.calm (gs_cons 5 nd (gs_cons 6 nd (gs_nil)))) (s_one (s_if (t_w (w_and (t_cmp (op_eq2 rm) lr_eq (dvr 5) (d_sub_ix (dvr 3) (d_int)) (nomark _)) (w_and1 (t_cmp op_notIn_seq lr_inW2 (dvr 6) (dvr 4) rfl)))) (s_one (s_expr (d_append (dvr 4) (dvr 6)))) (s_nil))))
    (s_one (s_asg (dvr 4) (g_subD rm (dvr 2) (d_sub_ix (dvr 3) (d_int))))))))
    (s_one (s_ret (d_frzD (dvr 2)))))
theorem sc__law_order : FnScope N__law_order ["_law_needs_here"] (defScope s__law_order) := ⟨rfl, rfl, rfl, by decide +kernel, rfl, by decide +kernel, by decide +kernel⟩
theorem kb__law_order_0 {f : Addr} {fd : FuncData} (F : FunD K "_law_order" "_law_order" (defArgs s__law_order) (defBody s__law_order) (defScope s__law_order) [] [] f fd) : KBd K fd ["_law_needs_here"] 1 [] plG := by
  obtain ⟨oc, od, dV, kV, doc, pm, an, cdv, ct, osl, rfl, lk, hcd, hD, hK⟩ := F.ex
  obtain ⟨_, rfl⟩ | ⟨e, _⟩ := hD
  rotate_left
  · exact absurd rfl e
  exact kb_plain rfl fun us hl => match us, hl with | [_], _ => rfl
theorem ok__law_order {f : Addr} {fd : FuncData} (hA : AdOk A) (F : FunD K "_law_order" "_law_order" (defArgs s__law_order) (defBody s__law_order) (defScope s__law_order) [] [] f fd) (T : Txt P w K mg base A) : FnA P w K mg base 1 f ["_law_needs_here"] (sp__law_order A) [⟨1, [], plG⟩] := by
  have nd := (sc__law_order).nd
  refine dfunA (ps := ["_law_needs_here"]) F (pats_cons (kb__law_order_0 F) (pats_nil)) sc__law_order (len__law_order A) fun cdv Ar l s H E g rm => ⟨t__law_order A, ?_, rd__law_order A hA⟩
  exact scn (s_set 1 nd (d_lstM (anl)))
    (scn (s_for g (i_range1 T.b_range (acn (d_len T.b_len (acn (dvr 0) (anl))) (anl))) (g_name 2 nd) (scn (s_lockK (s_setLc 3 N__law_order (defScope s__law_order) [("_law_name", 4)] g nd (i_keys (dvr 0)) (by decide +kernel) (t := (.one 4)) rfl (fun _ _ _ _ _ g => v_one 4 nd) (fun _ _ _ _ _ g => ts_one (t_w (w_and (t_cmp op_notIn_seq lr_inW2 (dvr 4) (dvr 1) rfl) (w_and1 (t_cmp (op_e0 rm) lr_e0 (d_lc N__law_order _ [("_law_one", 5)] g nd (i_list (d_dget rm (dvr 0) (dvr 4))) (by kernel_rfl) (t := (.one 5)) rfl (fun _ _ _ _ _ g => v_one 5 nd) (fun _ _ _ _ _ g => ts_one (t_cmp op_notIn_seq lr_inW2 (dvr 5) (dvr 1) rfl)) (fun _ _ _ _ _ g => dvr 5) (es := rfl)) (d_lst (anl)) (nomark _)))))) (fun _ _ _ _ _ g => dvr 4) (sw_true rfl rfl rfl (by decide +kernel))))
    (s_one (s_expr (d_extend (dvr 1) (d_sl4 (dvr 3) (o_none) (o_some (d_int))))))))
    (s_one (s_ret (d_frz (dvr 1)))))
theorem sc_m_Device_name : FnScope N_m_Device_name ["self"] (defScope s_m_Device_name) := ⟨rfl, rfl, rfl, by decide +kernel, rfl, by decide +kernel, by decide +kernel⟩
theorem kb_m_Device_name_0 {f : Addr} {fd : FuncData} (F : FunD K "name" "Device.name" (defArgs s_m_Device_name) (defBody s_m_Device_name) (defScope s_m_Device_name) [] [] f fd) : KBd K fd ["self"] 1 [] plG := by
  obtain ⟨oc, od, dV, kV, doc, pm, an, cdv, ct, osl, rfl, lk, hcd, hD, hK⟩ := F.ex
  obtain ⟨_, rfl⟩ | ⟨e, _⟩ := hD
  rotate_left
  · exact absurd rfl e
  exact kb_plain rfl fun us hl => match us, hl with | [_], _ => rfl
theorem ok_m_Device_name {f : Addr} {fd : FuncData} (hA : AdOk A) (F : FunD K "name" "Device.name" (defArgs s_m_Device_name) (defBody s_m_Device_name) (defScope s_m_Device_name) [] [] f fd) (T : Txt P w K mg base A) : FnA P w K mg base 1 f ["self"] (sp_m_Device_name A) [⟨1, [], plG⟩] := by
  have nd := (sc_m_Device_name).nd
  refine dfunA (ps := ["self"]) F (pats_cons (kb_m_Device_name_0 F) (pats_nil)) sc_m_Device_name (len_m_Device_name A) fun cdv Ar l s H E g rm => ⟨t_m_Device_name A, ?_, rd_m_Device_name A hA⟩
  exact s_one (s_ret (d_sub_ix (d_fld (fc_cons T.cl_Device T.na_Device_whole fc_nil) (dvr 0)) (d_int)))
theorem sc_m_Device_parent : FnScope N_m_Device_parent ["self"] (defScope s_m_Device_parent) := ⟨rfl, rfl, rfl, by decide +kernel, rfl, by decide +kernel, by decide +kernel⟩
theorem kb_m_Device_parent_0 {f : Addr} {fd : FuncData} (F : FunD K "parent" "Device.parent" (defArgs s_m_Device_parent) (defBody s_m_Device_parent) (defScope s_m_Device_parent) [] [] f fd) : KBd K fd ["self"] 1 [] plG := by
  obtain ⟨oc, od, dV, kV, doc, pm, an, cdv, ct, osl, rfl, lk, hcd, hD, hK⟩ := F.ex
  obtain ⟨_, rfl⟩ | ⟨e, _⟩ := hD
  rotate_left
  · exact absurd rfl e
  exact kb_plain rfl fun us hl => match us, hl with | [_], _ => rfl
theorem ok_m_Device_parent {f : Addr} {fd : FuncData} (hA : AdOk A) (F : FunD K "parent" "Device.parent" (defArgs s_m_Device_parent) (defBody s_m_Device_parent) (defScope s_m_Device_parent) [] [] f fd) (T : Txt P w K mg base A) : FnA P w K mg base 1 f ["self"] (sp_m_Device_parent A) [⟨1, [], plG⟩] := by
  have nd := (sc_m_Device_parent).nd
  refine dfunA (ps := ["self"]) F (pats_cons (kb_m_Device_parent_0 F) (pats_nil)) sc_m_Device_parent (len_m_Device_parent A) fun cdv Ar l s H E g rm => ⟨t_m_Device_parent A, ?_, rd_m_Device_parent A hA⟩
  exact s_one (s_ret (d_sub_ix (d_fld (fc_cons T.cl_Device T.na_Device_whole fc_nil) (dvr 0)) (d_int)))
theorem sc_need_devices : FnScope N_need_devices ["devices"] (defScope s_need_devices) := ⟨rfl, rfl, rfl, by decide +kernel, rfl, by decide +kernel, by decide +kernel⟩
theorem kb_need_devices_0 {f : Addr} {fd : FuncData} (F : FunD K "need_devices" "need_devices" (defArgs s_need_devices) (defBody s_need_devices) (defScope s_need_devices) [] [] f fd) : KBd K fd ["devices"] 1 [] plG := by
  obtain ⟨oc, od, dV, kV, doc, pm, an, cdv, ct, osl, rfl, lk, hcd, hD, hK⟩ := F.ex
  obtain ⟨_, rfl⟩ | ⟨e, _⟩ := hD
  rotate_left
  · exact absurd rfl e
  exact kb_plain rfl fun us hl => match us, hl with | [_], _ => rfl
theorem ok_need_devices {f : Addr} {fd : FuncData} (hA : AdOk A) (F : FunD K "need_devices" "need_devices" (defArgs s_need_devices) (defBody s_need_devices) (defScope s_need_devices) [] [] f fd) (T : Txt P w K mg base A) (mt_Device_name : MtOk P w K mg base 1 A.c_Device "name" ["self"] (sp_m_Device_name A) [⟨1, [], plG⟩]) (mt_Device_parent : MtOk P w K mg base 1 A.c_Device "parent" ["self"] (sp_m_Device_parent A) [⟨1, [], plG⟩]) : FnA P w K mg base 2 f ["devices"] (sp_need_devices A) [⟨1, [], plG⟩] := by
  have nd := (sc_need_devices).nd
  refine dfunA (ps := ["devices"]) F (pats_cons (kb_need_devices_0 F) (pats_nil)) sc_need_devices (len_need_devices A) fun cdv Ar l s H E g rm => ⟨t_need_devices A, ?_, rd_need_devices A hA⟩
  exact scn (s_if (t_w (w_or (t_not (t_truth (d_isi2 .lst .tup (fun z => nomatch z) (fun z => nomatch z) (fun z => nomatch z) (fun z => nomatch z) T.b_isinstance T.b_list T.b_tuple (by decide +kernel) (by decide +kernel) (dvr 0)))) (w_or1 (t_not (t_chain op_le op_le lr_le lr_le (d_int) (d_len T.b_len (acn (dvr 0) (anl))) (d_gInt T.g_MOST_DEVICES)))))) (s_one (s_never)) (s_nil))
    (scn (s_if (t_not (t_truth (d_all g T.b_all (acn (d_lc N_need_devices (defScope s_need_devices) [("device", 4)] g nd (i_seq (dvr 0)) (by decide +kernel) (t := (.one 4)) rfl (fun _ _ _ _ _ g => v_one 4 nd) (fun _ _ _ _ _ g => ts_nil) (fun _ _ _ _ _ g => d_isiC T.ci_Device T.n_Device T.b_isinstance (dvr 4))) (anl))))) (s_one (s_never)) (s_nil))
    (scn (s_setLc 1 N_need_devices (defScope s_need_devices) [("device", 4)] g nd (i_seq (dvr 0)) (by decide +kernel) (t := (.one 4)) rfl (fun _ _ _ _ _ g => v_one 4 nd) (fun _ _ _ _ _ g => ts_nil) (fun _ _ _ _ _ g => d_meth (dvr 4) (.cons 0 mt_Device_name (rm.mono (by decide)) rfl .nil) g (args_0)) (sw_true rfl rfl rfl (by decide +kernel)))
    (scn (s_for g (i_enum T.b_enumerate (acn (dvr 1) (anl))) (g_tup (n := 2) g.calm (gs_cons 2 nd (gs_cons 3 nd (gs_nil)))) (s_one (s_if (t_cmp op_in_seq lr_inW1 (dvr 3) (d_sl4 (dvr 1) (o_none) (o_some (dvr 2))) rfl) (s_one (s_never)) (s_nil))))
    (s_one (s_for g (i_seq (dvr 0)) (g_name 4 nd) (s_one (s_if (t_w (w_and (t_cmp op_notC lr_isNot (d_meth (dvr 4) (.cons 0 mt_Device_parent (rm.mono (by decide)) rfl .nil) g (args_0)) (d_non) (nomark _)) (w_and1 (t_cmp op_notIn_seq lr_inW2 (d_meth (dvr 4) (.cons 0 mt_Device_parent (rm.mono (by decide)) rfl .nil) g (args_0)) (dvr 1) rfl)))) (s_one (s_never)) (s_nil))))))))
theorem sc_need_link : FnScope N_need_link ["link", "names"] (defScope s_need_link) := ⟨rfl, rfl, rfl, by decide +kernel, rfl, by decide +kernel, by decide +kernel⟩
theorem kb_need_link_0 {f : Addr} {fd : FuncData} (F : FunD K "need_link" "need_link" (defArgs s_need_link) (defBody s_need_link) (defScope s_need_link) [] [] f fd) : KBd K fd ["link", "names"] 2 [] plG := by
  obtain ⟨oc, od, dV, kV, doc, pm, an, cdv, ct, osl, rfl, lk, hcd, hD, hK⟩ := F.ex
  obtain ⟨_, rfl⟩ | ⟨e, _⟩ := hD
  rotate_left
  · exact absurd rfl e
  exact kb_plain rfl fun us hl => match us, hl with | [_, _], _ => rfl
theorem ok_need_link {f : Addr} {fd : FuncData} (hA : AdOk A) (F : FunD K "need_link" "need_link" (defArgs s_need_link) (defBody s_need_link) (defScope s_need_link) [] [] f fd) (T : Txt P w K mg base A) (f_is_name : FnN P w K mg base 1 "is_name" ["thing"] (sp_is_name A) [⟨1, [], plG⟩]) : FnA P w K mg base 2 f ["link", "names"] (sp_need_link A) [⟨2, [], plG⟩] := by
  have nd := (sc_need_link).nd
  refine dfunA (ps := ["link", "names"]) F (pats_cons (kb_need_link_0 F) (pats_nil)) sc_need_link (len_need_link A) fun cdv Ar l s H E g rm => ⟨t_need_link A, ?_, rd_need_link A hA⟩
  exact scn (s_if (t_w (w_or (t_not (t_truth (d_isi .tup (fun z => nomatch z) (fun z => nomatch z) T.b_isinstance T.b_tuple (by decide +kernel) (dvr 0)))) (w_or (t_cmp (op_ne2 rm) lr_ne (d_len T.b_len (acn (dvr 0) (anl))) (d_int) (nomark _)) (w_or1 (t_not (t_truth (d_all g T.b_all (acn (d_lc N_need_link (defScope s_need_link) [("name", 2)] g nd (i_tup (dvr 0)) (by decide +kernel) (t := (.one 2)) rfl (fun _ _ _ _ _ g => v_one 2 nd) (fun _ _ _ _ _ g => ts_nil) (fun _ _ _ _ _ g => d_fnP 0 f_is_name g (rm.mono (by decide)) (acn (dvr 2) (anl)))) (anl))))))))) (s_one (s_never)) (s_nil))
    (scn (s_if (t_cmp (op_eq2 rm) lr_eq (d_sub_ix (dvr 0) (d_int)) (d_sub_ix (dvr 0) (d_int)) (nomark _)) (s_one (s_never)) (s_nil))
    (s_one (s_for g (i_tup (dvr 0)) (g_name 2 nd) (s_one (s_if (t_cmp op_notIn_seq lr_inW2 (dvr 2) (dvr 1) rfl) (s_one (s_never)) (s_nil))))))
theorem sc_need_parts : FnScope N_need_parts ["devices", "links"] (defScope s_need_parts) := ⟨rfl, rfl, rfl, by decide +kernel, rfl, by decide +kernel, by decide +kernel⟩
theorem kb_need_parts_0 {f : Addr} {fd : FuncData} (F : FunD K "need_parts" "need_parts" (defArgs s_need_parts) (defBody s_need_parts) (defScope s_need_parts) [] [] f fd) : KBd K fd ["devices", "links"] 2 [] plG := by
  obtain ⟨oc, od, dV, kV, doc, pm, an, cdv, ct, osl, rfl, lk, hcd, hD, hK⟩ := F.ex
  obtain ⟨_, rfl⟩ | ⟨e, _⟩ := hD
  rotate_left
  · exact absurd rfl e
  exact kb_plain rfl fun us hl => match us, hl with | [_, _], _ => rfl
theorem ok_need_parts {f : Addr} {fd : FuncData} (hA : AdOk A) (F : FunD K "need_parts" "need_parts" (defArgs s_need_parts) (defBody s_need_parts) (defScope s_need_parts) [] [] f fd) (T : Txt P w K mg base A) (f_need_devices : FnN P w K mg base 2 "need_devices" ["devices"] (sp_need_devices A) [⟨1, [], plG⟩]) (mt_Device_name : MtOk P w K mg base 1 A.c_Device "name" ["self"] (sp_m_Device_name A) [⟨1, [], plG⟩]) (f_need_link : FnN P w K mg base 2 "need_link" ["link", "names"] (sp_need_link A) [⟨2, [], plG⟩]) : FnA P w K mg base 3 f ["devices", "links"] (sp_need_parts A) [⟨2, [], plG⟩] := by
  have nd := (sc_need_parts).nd
  refine dfunA (ps := ["devices", "links"]) F (pats_cons (kb_need_parts_0 F) (pats_nil)) sc_need_parts (len_need_parts A) fun cdv Ar l s H E g rm => ⟨t_need_parts A, ?_, rd_need_parts A hA⟩
  exact scn (s_expr (d_fnP 0 f_need_devices g (rm.mono (by decide)) (acn (dvr 0) (anl))))
    (scn (s_if (t_w (w_or (t_not (t_truth (d_isi2 .lst .tup (fun z => nomatch z) (fun z => nomatch z) (fun z => nomatch z) (fun z => nomatch z) T.b_isinstance T.b_list T.b_tuple (by decide +kernel) (by decide +kernel) (dvr 1)))) (w_or1 (t_cmp op_gt lr_gt (d_len T.b_len (acn (dvr 1) (anl))) (d_gInt T.g_MOST_LINKS) (nomark _))))) (s_one (s_never)) (s_nil))
    (scn (s_setLc 2 N_need_parts (defScope s_need_parts) [("device", 5)] g nd (i_seq (dvr 0)) (by decide +kernel) (t := (.one 5)) rfl (fun _ _ _ _ _ g => v_one 5 nd) (fun _ _ _ _ _ g => ts_nil) (fun _ _ _ _ _ g => d_meth (dvr 5) (.cons 0 mt_Device_name (rm.mono (by decide)) rfl .nil) g (args_0)) (sw_true rfl rfl rfl (by decide +kernel)))
    (s_one (s_for g (i_enumQ T.b_enumerate (acn (dvr 1) (anl))) (g_tup (n := 2) g.calm (gs_cons 3 nd (gs_cons 4 nd (gs_nil)))) (scn (s_expr (d_fnP 0 f_need_link g (rm.mono (by decide)) (acn (dvr 4) (acn (dvr 2) (anl)))))
    (s_one (s_if (t_cmp (op_inQ rm) lr_inQ1 (dvr 4) (d_sl4 (dvr 1) (o_none) (o_some (dvr 3))) rfl) (s_one (s_never)) (s_nil))))))))
theorem sc_needs_by : FnScope N_needs_by ["devices", "links"] (defScope s_needs_by) := ⟨rfl, rfl, rfl, by decide +kernel, rfl, by decide +kernel, by decide +kernel⟩
theorem kb_needs_by_0 {f : Addr} {fd : FuncData} (F : FunD K "needs_by" "needs_by" (defArgs s_needs_by) (defBody s_needs_by) (defScope s_needs_by) [] [] f fd) : KBd K fd ["devices", "links"] 2 [] plG := by
  obtain ⟨oc, od, dV, kV, doc, pm, an, cdv, ct, osl, rfl, lk, hcd, hD, hK⟩ := F.ex
  obtain ⟨_, rfl⟩ | ⟨e, _⟩ := hD
  rotate_left
  · exact absurd rfl e
  exact kb_plain rfl fun us hl => match us, hl with | [_, _], _ => rfl
theorem ok_needs_by {f : Addr} {fd : FuncData} (hA : AdOk A) (F : FunD K "needs_by" "needs_by" (defArgs s_needs_by) (defBody s_needs_by) (defScope s_needs_by) [] [] f fd) (T : Txt P w K mg base A) (mt_Device_name : MtOk P w K mg base 1 A.c_Device "name" ["self"] (sp_m_Device_name A) [⟨1, [], plG⟩]) (mt_Device_parent : MtOk P w K mg base 1 A.c_Device "parent" ["self"] (sp_m_Device_parent A) [⟨1, [], plG⟩]) : FnA P w K mg base 2 f ["devices", "links"] (sp_needs_by A) [⟨2, [], plG⟩] := by
  have nd := (sc_needs_by).nd
  refine dfunA (ps := ["devices", "links"]) F (pats_cons (kb_needs_by_0 F) (pats_nil)) sc_needs_by (len_needs_by A) fun cdv Ar l s H E g rm => ⟨t_needs_by A, ?_, rd_needs_by A hA⟩
  exact scn (s_setDc 2 N_needs_by (defScope s_needs_by) [("device", 3)] g nd (i_seq (dvr 0)) (by decide +kernel) (t := (.one 3)) rfl (fun _ _ _ _ _ g => v_one 3 nd) (fun _ _ _ _ _ g => d_meth (dvr 3) (.cons 0 mt_Device_name (rm.mono (by decide)) rfl .nil) g (args_0)) (fun _ _ _ _ _ g => d_lstM (anl)) (sw_dc rfl rfl rfl (by decide +kernel)))
    (scn (s_for g (i_seq (dvr 0)) (g_name 3 nd) (s_one (s_if (t_cmp op_notC lr_isNot (d_meth (dvr 3) (.cons 0 mt_Device_parent (rm.mono (by decide)) rfl .nil) g (args_0)) (d_non) (nomark _)) (s_one (s_expr (d_append (d_dget rm (dvr 2) (d_meth (dvr 3) (.cons 0 mt_Device_name (rm.mono (by decide)) rfl .nil) g (args_0))) (d_meth (dvr 3) (.cons 0 mt_Device_parent (rm.mono (by decide)) rfl .nil) g (args_0))))) (s_nil))))
    (scn (s_for g (i_seq (dvr 1)) (g_tup (n := 2) g.calm (gs_cons 4 nd (gs_cons 5 nd (gs_nil)))) (s_one (s_if (t_cmp op_notIn_seq lr_inW2 (dvr 5) (d_dget rm (dvr 2) (dvr 4)) rfl) (s_one (s_expr (d_append (d_dget rm (dvr 2) (dvr 4)) (dvr 5)))) (s_nil))))
    (s_one (s_ret (d_frzD (dvr 2))))))
theorem sc_needs_of : FnScope N_needs_of ["devices", "links"] (defScope s_needs_of) := ⟨rfl, rfl, rfl, by decide +kernel, rfl, by decide +kernel, by decide +kernel⟩
theorem kb_needs_of_0 {f : Addr} {fd : FuncData} {T_links : Addr} (hT_links : SqT K (fun _ => none) T_links []) (F : FunD K "needs_of" "needs_of" (defArgs s_needs_of) (defBody s_needs_of) (defScope s_needs_of) [.ref T_links] [] f fd) : KBd K fd ["devices", "links"] 2 [] pg_needs_of_0 := by
  obtain ⟨oc, od, dV, kV, doc, pm, an, cdv, ct, osl, rfl, lk, hcd, hD, hK⟩ := F.ex
  obtain ⟨e, _⟩ | ⟨_, T, o, its, m, rfl, lT, oT, rT⟩ := hD
  · cases e
  obtain ⟨d0, its_0, rfl, rd0, rT_0⟩ := vals_cons rT
  cases rT_0
  intro s I us_0 ws_0 vs_0 zs_0 ds_0 es_0 X lu_0 lw_0 r1_0 r2_0 q1_0 q2_0
  obtain ⟨u0, us_1, rfl, lu_1⟩ := len_cons lu_0
  obtain ⟨u1, us_2, rfl, lu_2⟩ := len_cons lu_1
  cases len_nil lu_2
  cases len_nil lw_0
  obtain ⟨v0, vs_1, rfl, ru0, r1_1⟩ := vals_consR r1_0
  obtain ⟨a0, ds_1, rfl, qa0, q1_1⟩ := reps_consL q1_0
  obtain ⟨v1, vs_2, rfl, ru1, r1_2⟩ := vals_consR r1_1
  obtain ⟨a1, ds_2, rfl, qa1, q1_2⟩ := reps_consL q1_1
  cases r1_2
  cases q1_2
  cases r2_0
  cases q2_0
  refine ⟨[u0, u1], [v0, v1], BindsTo.of_looks fun M => ?_, .cons (ru0) (.cons (ru1) (.nil)), .cons (qa0) (.cons (qa1) (.nil))⟩
  have hk : ∃ k, bindArgs (PySem.W.fnOf "needs_of" "needs_of" (defArgs s_needs_of) (defBody s_needs_of) (defScope s_needs_of) (.ref T) kV doc pm an cdv ct) ⟨[u0, u1], []⟩ = seqItems? (.ref T) >>= k ∧ k (some [d0].toArray) = (pure ([("devices", u0), ("links", u1)] : List (Str × Value)) : Sem (List (Str × Value))) := by
    refine ⟨_, rfl, ?_⟩
    rfl
  obtain ⟨k, e1, e2⟩ := hk
  refine Eq.mpr (congrArg (fun t => PySem.W.Looks M s.heap t _) e1) ?_
  exact looks_items X lT oT (.of_pure e2)
theorem ok_needs_of {f : Addr} {fd : FuncData} {T_links : Addr} (hT_links : SqT K (fun _ => none) T_links []) (hA : AdOk A) (F : FunD K "needs_of" "needs_of" (defArgs s_needs_of) (defBody s_needs_of) (defScope s_needs_of) [.ref T_links] [] f fd) (T : Txt P w K mg base A) (f_need_parts : FnN P w K mg base 3 "need_parts" ["devices", "links"] (sp_need_parts A) [⟨2, [], plG⟩]) (f_needs_by : FnN P w K mg base 2 "needs_by" ["devices", "links"] (sp_needs_by A) [⟨2, [], plG⟩]) : FnA P w K mg base 4 f ["devices", "links"] (sp_needs_of A) [⟨2, [], pg_needs_of_0⟩] := by
  have nd := (sc_needs_of).nd
  refine dfunA (ps := ["devices", "links"]) F (pats_cons (kb_needs_of_0 hT_links F) (pats_nil)) sc_needs_of (len_needs_of A) fun cdv Ar l s H E g rm => ⟨t_needs_of A, ?_, rd_needs_of A hA⟩
  exact scn (s_expr (d_fnP 0 f_need_parts g (rm.mono (by decide)) (acn (dvr 0) (acn (dvr 1) (anl)))))
    (s_one (s_ret (d_fnP 0 f_needs_by g (rm.mono (by decide)) (acn (dvr 0) (acn (dvr 1) (anl))))))
theorem sc_first_ring : FnScope N_first_ring ["needs"] (defScope s_first_ring) := ⟨rfl, rfl, rfl, by decide +kernel, rfl, by decide +kernel, by decide +kernel⟩
theorem kb_first_ring_0 {f : Addr} {fd : FuncData} (F : FunD K "first_ring" "first_ring" (defArgs s_first_ring) (defBody s_first_ring) (defScope s_first_ring) [] [] f fd) : KBd K fd ["needs"] 1 [] plG := by
  obtain ⟨oc, od, dV, kV, doc, pm, an, cdv, ct, osl, rfl, lk, hcd, hD, hK⟩ := F.ex
  obtain ⟨_, rfl⟩ | ⟨e, _⟩ := hD
  rotate_left
  · exact absurd rfl e
  exact kb_plain rfl fun us hl => match us, hl with | [_], _ => rfl
theorem ok_first_ring {f : Addr} {fd : FuncData} (hA : AdOk A) (F : FunD K "first_ring" "first_ring" (defArgs s_first_ring) (defBody s_first_ring) (defScope s_first_ring) [] [] f fd) (T : Txt P w K mg base A) : FnA P w K mg base 1 f ["needs"] (sp_first_ring A) [⟨1, [], plG⟩] := by
  have nd := (sc_first_ring).nd
  refine dfunA (ps := ["needs"]) F (pats_cons (kb_first_ring_0 F) (pats_nil)) sc_first_ring (len_first_ring A) fun cdv Ar l s H E g rm => ⟨t_first_ring A, ?_, rd_first_ring A hA⟩
  exact scn (s_lockK (s_for g (i_keys (dvr 0)) (g_name 1 nd) (scn (s_set 2 nd (d_dict0M))
    (scn (s_set 3 nd (d_lstM (acn (d_lstM (acn (dvr 1) (anl))) (anl))))
    (s_one (s_while g (t_cmp (op_n0 rm) lr_e0 (dvr 3) (d_lst (anl)) (nomark _)) (scn (s_asg (dvr 3) (g_starM (n := 2) (i := 1) g.calm (gs_cons 4 nd (gs_consS 3 nd (gs_nil)))))
    (s_one (s_for g (i_list (d_dget rm (dvr 0) (d_sub_ix (dvr 4) (d_neg (d_int))))) (g_name 5 nd) (scn (s_if (t_cmp (op_eq2 rm) lr_eq (dvr 5) (dvr 1) (nomark _)) (s_one (s_ret (dvr 4))) (s_nil))
    (s_one (s_if (t_cmp (op_ninK rm) lr_inK2 (dvr 5) (dvr 2) rfl) (scn (s_asg (d_bl) (g_subD rm (dvr 2) (dvr 5)))
    (s_one (s_expr (d_append (dvr 3) (d_addM (dvr 4) (d_lst (acn (dvr 5) (anl)))))))) (s_nil)))))))))))))
    (s_one (s_ret (d_non)))
theorem sc_order_by : FnScope N_order_by ["needs"] (defScope s_order_by) := ⟨rfl, rfl, rfl, by decide +kernel, rfl, by decide +kernel, by decide +kernel⟩
theorem kb_order_by_0 {f : Addr} {fd : FuncData} (F : FunD K "order_by" "order_by" (defArgs s_order_by) (defBody s_order_by) (defScope s_order_by) [] [] f fd) : KBd K fd ["needs"] 1 [] plG := by
  obtain ⟨oc, od, dV, kV, doc, pm, an, cdv, ct, osl, rfl, lk, hcd, hD, hK⟩ := F.ex
  obtain ⟨_, rfl⟩ | ⟨e, _⟩ := hD
  rotate_left
  · exact absurd rfl e
  exact kb_plain rfl fun us hl => match us, hl with | [_], _ => rfl
theorem ok_order_by {f : Addr} {fd : FuncData} (hA : AdOk A) (F : FunD K "order_by" "order_by" (defArgs s_order_by) (defBody s_order_by) (defScope s_order_by) [] [] f fd) (T : Txt P w K mg base A) : FnA P w K mg base 1 f ["needs"] (sp_order_by A) [⟨1, [], plG⟩] := by
  have nd := (sc_order_by).nd
  refine dfunA (ps := ["needs"]) F (pats_cons (kb_order_by_0 F) (pats_nil)) sc_order_by (len_order_by A) fun cdv Ar l s H E g rm => ⟨t_order_by A, ?_, rd_order_by A hA⟩
  exact scn (s_set 1 nd (d_lstM (anl)))
    (scn (s_while g (t_cmp op_lt lr_lt (d_len T.b_len (acn (dvr 1) (anl))) (d_len T.b_len (acn (dvr 0) (anl))) (nomark _)) (scn (s_lockK (s_setLc 2 N_order_by (defScope s_order_by) [("name", 3)] g nd (i_keys (dvr 0)) (by decide +kernel) (t := (.one 3)) rfl (fun _ _ _ _ _ g => v_one 3 nd) (fun _ _ _ _ _ g => ts_one (t_w (w_and (t_cmp op_notIn_seq lr_inW2 (dvr 3) (dvr 1) rfl) (w_and1 (t_truth (d_all g T.b_all (acn (d_lc N_order_by _ [("other", 4)] g nd (i_list (d_dget rm (dvr 0) (dvr 3))) (by kernel_rfl) (t := (.one 4)) rfl (fun _ _ _ _ _ g => v_one 4 nd) (fun _ _ _ _ _ g => ts_nil) (fun _ _ _ _ _ g => d_cmp op_in_seq lr_inW1 (dvr 4) (dvr 1) rfl) (es := rfl)) (anl)))))))) (fun _ _ _ _ _ g => dvr 3) (sw_true rfl rfl rfl (by decide +kernel))))
    (s_one (s_expr (d_append (dvr 1) (d_sub_ix (dvr 2) (d_int)))))))
    (s_one (s_ret (dvr 1))))
theorem sc_order_of : FnScope N_order_of ["devices", "links"] (defScope s_order_of) := ⟨rfl, rfl, rfl, by decide +kernel, rfl, by decide +kernel, by decide +kernel⟩
theorem kb_order_of_0 {f : Addr} {fd : FuncData} {T_links : Addr} (hT_links : SqT K (fun _ => none) T_links []) (F : FunD K "order_of" "order_of" (defArgs s_order_of) (defBody s_order_of) (defScope s_order_of) [.ref T_links] [] f fd) : KBd K fd ["devices", "links"] 1 [] pg_order_of_0 := by
  obtain ⟨oc, od, dV, kV, doc, pm, an, cdv, ct, osl, rfl, lk, hcd, hD, hK⟩ := F.ex
  obtain ⟨e, _⟩ | ⟨_, T, o, its, m, rfl, lT, oT, rT⟩ := hD
  · cases e
  obtain ⟨d0, its_0, rfl, rd0, rT_0⟩ := vals_cons rT
  cases rT_0
  intro s I us_0 ws_0 vs_0 zs_0 ds_0 es_0 X lu_0 lw_0 r1_0 r2_0 q1_0 q2_0
  obtain ⟨u0, us_1, rfl, lu_1⟩ := len_cons lu_0
  cases len_nil lu_1
  cases len_nil lw_0
  obtain ⟨v0, vs_1, rfl, ru0, r1_1⟩ := vals_consR r1_0
  obtain ⟨a0, ds_1, rfl, qa0, q1_1⟩ := reps_consL q1_0
  cases r1_1
  cases q1_1
  cases r2_0
  cases q2_0
  refine ⟨[u0, d0], [v0, (.ref T_links)], BindsTo.of_looks fun M => ?_, .cons (ru0) (.cons (rd0) (.nil)), .cons (qa0) (.cons (.tup (st_mono (fun _ _ e => by cases e) hT_links) .nil) (.nil))⟩
  have hk : ∃ k, bindArgs (PySem.W.fnOf "order_of" "order_of" (defArgs s_order_of) (defBody s_order_of) (defScope s_order_of) (.ref T) kV doc pm an cdv ct) ⟨[u0], []⟩ = seqItems? (.ref T) >>= k ∧ k (some [d0].toArray) = (pure ([("devices", u0), ("links", d0)] : List (Str × Value)) : Sem (List (Str × Value))) := by
    refine ⟨_, rfl, ?_⟩
    rfl
  obtain ⟨k, e1, e2⟩ := hk
  refine Eq.mpr (congrArg (fun t => PySem.W.Looks M s.heap t _) e1) ?_
  exact looks_items X lT oT (.of_pure e2)
theorem kb_order_of_1 {f : Addr} {fd : FuncData} {T_links : Addr} (hT_links : SqT K (fun _ => none) T_links []) (F : FunD K "order_of" "order_of" (defArgs s_order_of) (defBody s_order_of) (defScope s_order_of) [.ref T_links] [] f fd) : KBd K fd ["devices", "links"] 2 [] pg_order_of_1 := by
  obtain ⟨oc, od, dV, kV, doc, pm, an, cdv, ct, osl, rfl, lk, hcd, hD, hK⟩ := F.ex
  obtain ⟨e, _⟩ | ⟨_, T, o, its, m, rfl, lT, oT, rT⟩ := hD
  · cases e
  obtain ⟨d0, its_0, rfl, rd0, rT_0⟩ := vals_cons rT
  cases rT_0
  intro s I us_0 ws_0 vs_0 zs_0 ds_0 es_0 X lu_0 lw_0 r1_0 r2_0 q1_0 q2_0
  obtain ⟨u0, us_1, rfl, lu_1⟩ := len_cons lu_0
  obtain ⟨u1, us_2, rfl, lu_2⟩ := len_cons lu_1
  cases len_nil lu_2
  cases len_nil lw_0
  obtain ⟨v0, vs_1, rfl, ru0, r1_1⟩ := vals_consR r1_0
  obtain ⟨a0, ds_1, rfl, qa0, q1_1⟩ := reps_consL q1_0
  obtain ⟨v1, vs_2, rfl, ru1, r1_2⟩ := vals_consR r1_1
  obtain ⟨a1, ds_2, rfl, qa1, q1_2⟩ := reps_consL q1_1
  cases r1_2
  cases q1_2
  cases r2_0
  cases q2_0
  refine ⟨[u0, u1], [v0, v1], BindsTo.of_looks fun M => ?_, .cons (ru0) (.cons (ru1) (.nil)), .cons (qa0) (.cons (qa1) (.nil))⟩
  have hk : ∃ k, bindArgs (PySem.W.fnOf "order_of" "order_of" (defArgs s_order_of) (defBody s_order_of) (defScope s_order_of) (.ref T) kV doc pm an cdv ct) ⟨[u0, u1], []⟩ = seqItems? (.ref T) >>= k ∧ k (some [d0].toArray) = (pure ([("devices", u0), ("links", u1)] : List (Str × Value)) : Sem (List (Str × Value))) := by
    refine ⟨_, rfl, ?_⟩
    rfl
  obtain ⟨k, e1, e2⟩ := hk
  refine Eq.mpr (congrArg (fun t => PySem.W.Looks M s.heap t _) e1) ?_
  exact looks_items X lT oT (.of_pure e2)
theorem ok_order_of {f : Addr} {fd : FuncData} {T_links : Addr} (hT_links : SqT K (fun _ => none) T_links []) (hA : AdOk A) (F : FunD K "order_of" "order_of" (defArgs s_order_of) (defBody s_order_of) (defScope s_order_of) [.ref T_links] [] f fd) (T : Txt P w K mg base A) (f_needs_of : FnN P w K mg base 4 "needs_of" ["devices", "links"] (sp_needs_of A) [⟨2, [], pg_needs_of_0⟩]) (f_first_ring : FnN P w K mg base 1 "first_ring" ["needs"] (sp_first_ring A) [⟨1, [], plG⟩]) (f_order_by : FnN P w K mg base 1 "order_by" ["needs"] (sp_order_by A) [⟨1, [], plG⟩]) : FnA P w K mg base 5 f ["devices", "links"] (sp_order_of A) [⟨1, [], pg_order_of_0⟩, ⟨2, [], pg_order_of_1⟩] := by
  have nd := (sc_order_of).nd
  refine dfunA (ps := ["devices", "links"]) F (pats_cons (kb_order_of_0 hT_links F) (pats_cons (kb_order_of_1 hT_links F) (pats_nil))) sc_order_of (len_order_of A) fun cdv Ar l s H E g rm => ⟨t_order_of A, ?_, rd_order_of A hA⟩
  exact scn (s_set 2 nd (d_fn 0 f_needs_of g (rm.mono (by decide)) (args_p (acn (dvr 0) (acn (dvr 1) (anl))))))
    (scn (s_set 3 nd (d_fnP 0 f_first_ring g (rm.mono (by decide)) (acn (dvr 2) (anl))))
    (scn (s_if (t_cmp op_notC lr_isNot (dvr 3) (d_non) (nomark _)) (s_one (s_raise T.x_Ring g (rm.mono (by decide)) (dvr 3))) (s_nil))
    (s_one (s_ret (d_fnP 0 f_order_by g (rm.mono (by decide)) (acn (dvr 2) (anl)))))))
theorem sc_m_Machine_init : FnScope N_m_Machine_init ["self", "devices", "links"] (defScope s_m_Machine_init) := ⟨rfl, rfl, rfl, by decide +kernel, rfl, by decide +kernel, by decide +kernel⟩
theorem kb_m_Machine_init_0 {f : Addr} {fd : FuncData} {T_links : Addr} (hT_links : SqT K (fun _ => none) T_links []) (F : FunD K "__init__" "Machine.__init__" (defArgs s_m_Machine_init) (defBody s_m_Machine_init) (defScope s_m_Machine_init) [.ref T_links] [] f fd) : KBd K fd ["self", "devices", "links"] 3 [] pg_m_Machine_init_0 := by
  obtain ⟨oc, od, dV, kV, doc, pm, an, cdv, ct, osl, rfl, lk, hcd, hD, hK⟩ := F.ex
  obtain ⟨e, _⟩ | ⟨_, T, o, its, m, rfl, lT, oT, rT⟩ := hD
  · cases e
  obtain ⟨d0, its_0, rfl, rd0, rT_0⟩ := vals_cons rT
  cases rT_0
  intro s I us_0 ws_0 vs_0 zs_0 ds_0 es_0 X lu_0 lw_0 r1_0 r2_0 q1_0 q2_0
  obtain ⟨u0, us_1, rfl, lu_1⟩ := len_cons lu_0
  obtain ⟨u1, us_2, rfl, lu_2⟩ := len_cons lu_1
  obtain ⟨u2, us_3, rfl, lu_3⟩ := len_cons lu_2
  cases len_nil lu_3
  cases len_nil lw_0
  obtain ⟨v0, vs_1, rfl, ru0, r1_1⟩ := vals_consR r1_0
  obtain ⟨a0, ds_1, rfl, qa0, q1_1⟩ := reps_consL q1_0
  obtain ⟨v1, vs_2, rfl, ru1, r1_2⟩ := vals_consR r1_1
  obtain ⟨a1, ds_2, rfl, qa1, q1_2⟩ := reps_consL q1_1
  obtain ⟨v2, vs_3, rfl, ru2, r1_3⟩ := vals_consR r1_2
  obtain ⟨a2, ds_3, rfl, qa2, q1_3⟩ := reps_consL q1_2
  cases r1_3
  cases q1_3
  cases r2_0
  cases q2_0
  refine ⟨[u0, u1, u2], [v0, v1, v2], BindsTo.of_looks fun M => ?_, .cons (ru0) (.cons (ru1) (.cons (ru2) (.nil))), .cons (qa0) (.cons (qa1) (.cons (qa2) (.nil)))⟩
  have hk : ∃ k, bindArgs (PySem.W.fnOf "__init__" "Machine.__init__" (defArgs s_m_Machine_init) (defBody s_m_Machine_init) (defScope s_m_Machine_init) (.ref T) kV doc pm an cdv ct) ⟨[u0, u1, u2], []⟩ = seqItems? (.ref T) >>= k ∧ k (some [d0].toArray) = (pure ([("self", u0), ("devices", u1), ("links", u2)] : List (Str × Value)) : Sem (List (Str × Value))) := by
    refine ⟨_, rfl, ?_⟩
    rfl
  obtain ⟨k, e1, e2⟩ := hk
  refine Eq.mpr (congrArg (fun t => PySem.W.Looks M s.heap t _) e1) ?_
  exact looks_items X lT oT (.of_pure e2)
theorem ok_m_Machine_init {f : Addr} {fd : FuncData} {T_links : Addr} (hT_links : SqT K (fun _ => none) T_links []) (hA : AdOk A) (F : FunD K "__init__" "Machine.__init__" (defArgs s_m_Machine_init) (defBody s_m_Machine_init) (defScope s_m_Machine_init) [.ref T_links] [] f fd) (T : Txt P w K mg base A) (f_order_of : FnN P w K mg base 5 "order_of" ["devices", "links"] (sp_order_of A) [⟨1, [], pg_order_of_0⟩, ⟨2, [], pg_order_of_1⟩]) (f_needs_by : FnN P w K mg base 2 "needs_by" ["devices", "links"] (sp_needs_by A) [⟨2, [], plG⟩]) : FnA P w K mg base 6 f ["self", "devices", "links"] (sp_m_Machine_init A) [⟨3, [], pg_m_Machine_init_0⟩] := by
  have nd := (sc_m_Machine_init).nd
  refine dfunA (ps := ["self", "devices", "links"]) F (pats_cons (kb_m_Machine_init_0 hT_links F) (pats_nil)) sc_m_Machine_init (len_m_Machine_init A) fun cdv Ar l s H E g rm => ⟨t_m_Machine_init A, ?_, rd_m_Machine_init A hA⟩
  exact scn (s_fld (fc_cons T.cl_Machine T.na_Machine_in_order fc_nil) (dvr 0) (d_fn 1 f_order_of g (rm.mono (by decide)) (args_p (acn (dvr 1) (acn (dvr 2) (anl))))))
    (scn (s_fld (fc_cons T.cl_Machine T.na_Machine_parts fc_nil) (dvr 0) (d_list T.b_list (acn (dvr 1) (anl))))
    (scn (s_fld (fc_cons T.cl_Machine T.na_Machine_pairs fc_nil) (dvr 0) (d_list T.b_list (acn (dvr 2) (anl))))
    (s_one (s_fld (fc_cons T.cl_Machine T.na_Machine_wants fc_nil) (dvr 0) (d_fnP 0 f_needs_by g (rm.mono (by decide)) (acn (dvr 1) (acn (dvr 2) (anl))))))))
theorem sc_m_Machine_order : FnScope N_m_Machine_order ["self"] (defScope s_m_Machine_order) := ⟨rfl, rfl, rfl, by decide +kernel, rfl, by decide +kernel, by decide +kernel⟩
theorem kb_m_Machine_order_0 {f : Addr} {fd : FuncData} (F : FunD K "order" "Machine.order" (defArgs s_m_Machine_order) (defBody s_m_Machine_order) (defScope s_m_Machine_order) [] [] f fd) : KBd K fd ["self"] 1 [] plG := by
  obtain ⟨oc, od, dV, kV, doc, pm, an, cdv, ct, osl, rfl, lk, hcd, hD, hK⟩ := F.ex
  obtain ⟨_, rfl⟩ | ⟨e, _⟩ := hD
  rotate_left
  · exact absurd rfl e
  exact kb_plain rfl fun us hl => match us, hl with | [_], _ => rfl
theorem ok_m_Machine_order {f : Addr} {fd : FuncData} (hA : AdOk A) (F : FunD K "order" "Machine.order" (defArgs s_m_Machine_order) (defBody s_m_Machine_order) (defScope s_m_Machine_order) [] [] f fd) (T : Txt P w K mg base A) : FnA P w K mg base 1 f ["self"] (sp_m_Machine_order A) [⟨1, [], plG⟩] := by
  have nd := (sc_m_Machine_order).nd
  refine dfunA (ps := ["self"]) F (pats_cons (kb_m_Machine_order_0 F) (pats_nil)) sc_m_Machine_order (len_m_Machine_order A) fun cdv Ar l s H E g rm => ⟨t_m_Machine_order A, ?_, rd_m_Machine_order A hA⟩
  exact s_one (s_ret (d_listM T.b_list (acn (d_fld (fc_cons T.cl_Machine T.na_Machine_in_order fc_nil) (dvr 0)) (anl))))
theorem sc__law_asked : FnScope N__law_asked ["_law_door", "_law_made_here", "_law_links_here"] (defScope s__law_asked) := ⟨rfl, rfl, rfl, by decide +kernel, rfl, by decide +kernel, by decide +kernel⟩
theorem kb__law_asked_0 {f : Addr} {fd : FuncData} (F : FunD K "_law_asked" "_law_asked" (defArgs s__law_asked) (defBody s__law_asked) (defScope s__law_asked) [] [] f fd) : KBd K fd ["_law_door", "_law_made_here", "_law_links_here"] 3 [] plG := by
  obtain ⟨oc, od, dV, kV, doc, pm, an, cdv, ct, osl, rfl, lk, hcd, hD, hK⟩ := F.ex
  obtain ⟨_, rfl⟩ | ⟨e, _⟩ := hD
  rotate_left
  · exact absurd rfl e
  exact kb_plain rfl fun us hl => match us, hl with | [_, _, _], _ => rfl
theorem ok__law_asked {f : Addr} {fd : FuncData} (hA : AdOk A) (F : FunD K "_law_asked" "_law_asked" (defArgs s__law_asked) (defBody s__law_asked) (defScope s__law_asked) [] [] f fd) (T : Txt P w K mg base A) (k_Machine : MkOk P w K mg base 6 "Machine" A.c_Machine ["self", "devices", "links"] (sp_m_Machine_init A) [⟨3, [], pg_m_Machine_init_0⟩]) (mt_Machine_order : MtOk P w K mg base 1 A.c_Machine "order" ["self"] (sp_m_Machine_order A) [⟨1, [], plG⟩]) (f_order_of : FnN P w K mg base 5 "order_of" ["devices", "links"] (sp_order_of A) [⟨1, [], pg_order_of_0⟩, ⟨2, [], pg_order_of_1⟩]) : FnA P w K mg base 8 f ["_law_door", "_law_made_here", "_law_links_here"] (sp__law_asked A) [⟨3, [], plG⟩] := by
  have nd := (sc__law_asked).nd
  refine dfunA (ps := ["_law_door", "_law_made_here", "_law_links_here"]) F (pats_cons (kb__law_asked_0 F) (pats_nil)) sc__law_asked (len__law_asked A) fun cdv Ar l s H E g rm => ⟨t__law_asked A, ?_, rd__law_asked A hA⟩
  exact s_one (s_tryA T.xm g (fun V pn xe g => scn (s_if (t_cmp (op_eq2 rm) lr_eq (dvr 0) (d_int) (nomark _)) (s_one (s_ret (d_lst (acn (d_str) (acn (d_meth (d_makeF 0 k_Machine g (rm.mono (by decide)) (args_p (acn (dvr 1) (acn (dvr 2) (anl))))) (.cons 0 mt_Machine_order (rm.mono (by decide)) rfl .nil) g (args_0)) (anl)))))) (s_nil))
    (s_one (s_ret (d_lst (acn (d_str) (acn (d_fn 1 f_order_of g (rm.mono (by decide)) (args_p (acn (dvr 1) (acn (dvr 2) (anl))))) (anl))))))) (.cons (h := ⟨[.ref A.c_Ring], some 3, fun a cls d => dRet (dLst (dCn (dC (.str "ring")) (dCn (dXF a cls d A.c_Ring "found" (dVar 3)) (dNil))))⟩) (.one ⟨by rfl, by decide, Or.inl T.n_Ring⟩) ⟨nd, rfl, rfl⟩ (fun a oe cls d pn hz hf => s_one (s_ret (d_lst (acn (d_str) (acn (d_xf T.xf_Ring T.xn_Ring_found hz hf (dvr 3)) (anl)))))) (.cons (h := ⟨[.ref A.c_WakeError, .ref A.c_StateError, .type "KeyError"], none, fun a cls d => dRet (dLst (dCn (dC (.str "another")) (dCn (dC .non) (dNil))))⟩) (.tup (.cons ⟨by rfl, by decide, Or.inl T.n_WakeError⟩ (.cons ⟨by rfl, by decide, Or.inl T.n_StateError⟩ (.cons ⟨by rfl, by decide, Or.inr ⟨T.b_KeyError, by decide +kernel, by decide⟩⟩ .nil))) (show 3 ≤ sizeLine from by decide)) trivial (fun a oe cls d pn hz hf => s_one (s_ret (d_lst (acn (d_str) (acn (d_non) (anl)))))) .nil)))
theorem sc__law_far : FnScope N__law_far ["_law_needs_here", "_law_name"] (defScope s__law_far) := ⟨rfl, rfl, rfl, by decide +kernel, rfl, by decide +kernel, by decide +kernel⟩
theorem kb__law_far_0 {f : Addr} {fd : FuncData} (F : FunD K "_law_far" "_law_far" (defArgs s__law_far) (defBody s__law_far) (defScope s__law_far) [] [] f fd) : KBd K fd ["_law_needs_here", "_law_name"] 2 [] plG := by
  obtain ⟨oc, od, dV, kV, doc, pm, an, cdv, ct, osl, rfl, lk, hcd, hD, hK⟩ := F.ex
  obtain ⟨_, rfl⟩ | ⟨e, _⟩ := hD
  rotate_left
  · exact absurd rfl e
  exact kb_plain rfl fun us hl => match us, hl with | [_, _], _ => rfl
theorem ok__law_far {f : Addr} {fd : FuncData} (hA : AdOk A) (F : FunD K "_law_far" "_law_far" (defArgs s__law_far) (defBody s__law_far) (defScope s__law_far) [] [] f fd) (T : Txt P w K mg base A) : FnA P w K mg base 1 f ["_law_needs_here", "_law_name"] (sp__law_far A) [⟨2, [], plG⟩] := by
  have nd := (sc__law_far).nd
  refine dfunA (ps := ["_law_needs_here", "_law_name"]) F (pats_cons (kb__law_far_0 F) (pats_nil)) sc__law_far (len__law_far A) fun cdv Ar l s H E g rm => ⟨t__law_far A, ?_, rd__law_far A hA⟩
  exact scn (s_set 2 nd (d_listM T.b_list (acn (d_dget rm (dvr 0) (dvr 1)) (anl))))
    (scn (s_for g (i_range1 T.b_range (acn (d_lenR T.b_len (acn (dvr 0) (anl))) (anl))) (g_name 3 nd) (s_one (s_for g (i_list (d_list T.b_list (acn (dvr 2) (anl)))) (g_name 4 nd) (s_one (s_expr (d_extend (dvr 2) (d_lc N__law_far (defScope s__law_far) [("_law_more", 5)] g nd (i_list (d_dget rm (dvr 0) (dvr 4))) (by decide +kernel) (t := (.one 5)) rfl (fun _ _ _ _ _ g => v_one 5 nd) (fun _ _ _ _ _ g => ts_one (t_cmp op_notIn_seq lr_inW2 (dvr 5) (dvr 2) rfl)) (fun _ _ _ _ _ g => dvr 5))))))))
    (s_one (s_ret (d_frz (dvr 2)))))
theorem sc__law_ring_right : FnScope N__law_ring_right ["_law_needs_here", "_law_ring"] (defScope s__law_ring_right) := ⟨rfl, rfl, rfl, by decide +kernel, rfl, by decide +kernel, by decide +kernel⟩
theorem kb__law_ring_right_0 {f : Addr} {fd : FuncData} (F : FunD K "_law_ring_right" "_law_ring_right" (defArgs s__law_ring_right) (defBody s__law_ring_right) (defScope s__law_ring_right) [] [] f fd) : KBd K fd ["_law_needs_here", "_law_ring"] 2 [] plG := by
  obtain ⟨oc, od, dV, kV, doc, pm, an, cdv, ct, osl, rfl, lk, hcd, hD, hK⟩ := F.ex
  obtain ⟨_, rfl⟩ | ⟨e, _⟩ := hD
  rotate_left
  · exact absurd rfl e
  exact kb_plain rfl fun us hl => match us, hl with | [_, _], _ => rfl
theorem ok__law_ring_right {f : Addr} {fd : FuncData} (hA : AdOk A) (F : FunD K "_law_ring_right" "_law_ring_right" (defArgs s__law_ring_right) (defBody s__law_ring_right) (defScope s__law_ring_right) [] [] f fd) (T : Txt P w K mg base A) (f__law_far : FnN P w K mg base 1 "_law_far" ["_law_needs_here", "_law_name"] (sp__law_far A) [⟨2, [], plG⟩]) : FnA P w K mg base 2 f ["_law_needs_here", "_law_ring"] (sp__law_ring_right A) [⟨2, [], plG⟩] := by
  have nd := (sc__law_ring_right).nd
  refine dfunA (ps := ["_law_needs_here", "_law_ring"]) F (pats_cons (kb__law_ring_right_0 F) (pats_nil)) sc__law_ring_right (len__law_ring_right A) fun cdv Ar l s H E g rm => ⟨t__law_ring_right A, ?_, rd__law_ring_right A hA⟩
  exact scn (s_lockK (s_setLc 2 N__law_ring_right (defScope s__law_ring_right) [("_law_name", 3)] g nd (i_keys (dvr 0)) (by decide +kernel) (t := (.one 3)) rfl (fun _ _ _ _ _ g => v_one 3 nd) (fun _ _ _ _ _ g => ts_one (t_cmp op_in_seq lr_inW1 (dvr 3) (d_fnP 0 f__law_far g (rm.mono (by decide)) (acn (dvr 0) (acn (dvr 3) (anl)))) rfl)) (fun _ _ _ _ _ g => dvr 3) (sw_true rfl rfl rfl (by decide +kernel))))
    (scn (s_if (t_w (w_or (t_not (t_truth (d_isi .lst (fun z => nomatch z) (fun z => nomatch z) T.b_isinstance T.b_list (by decide +kernel) (dvr 1)))) (w_or (t_cmp (op_e0 rm) lr_e0 (dvr 1) (d_lst (anl)) (nomark _)) (w_or (t_cmp (op_e0 rm) lr_e0 (dvr 2) (d_lst (anl)) (nomark _)) (w_or1 (t_cmp (op_ne2 rm) lr_ne (d_sub_ix (dvr 1) (d_int)) (d_sub_ix (dvr 2) (d_int)) (nomark _))))))) (s_one (s_ret (d_bl))) (s_nil))
    (scn (s_if (t_cmp (op_n0 rm) lr_e0 (d_lc N__law_ring_right (defScope s__law_ring_right) [("_law_k", 4)] g nd (i_range1 T.b_range (acn (d_len T.b_len (acn (dvr 1) (anl))) (anl))) (by decide +kernel) (t := (.one 4)) rfl (fun _ _ _ _ _ g => v_one 4 nd) (fun _ _ _ _ _ g => ts_one (t_cmp op_in_seq lr_inW1 (d_sub_ix (dvr 1) (dvr 4)) (d_sl4 (dvr 1) (o_none) (o_some (dvr 4))) rfl)) (fun _ _ _ _ _ g => dvr 4)) (d_lst (anl)) (nomark _)) (s_one (s_ret (d_bl))) (s_nil))
    (s_one (s_ret (d_cmp (op_e0 rm) lr_e0 (d_lc N__law_ring_right (defScope s__law_ring_right) [("_law_k", 4)] g nd (i_range1 T.b_range (acn (d_len T.b_len (acn (dvr 1) (anl))) (anl))) (by decide +kernel) (t := (.one 4)) rfl (fun _ _ _ _ _ g => v_one 4 nd) (fun _ _ _ _ _ g => ts_one (t_cmp op_notIn_seq lr_inW2 (d_sub_ix (dvr 1) (dvr 4)) (d_dget rm (dvr 0) (d_sub_ix (dvr 1) (d_sub (dvr 4) (d_int)))) rfl)) (fun _ _ _ _ _ g => dvr 4)) (d_lst (anl)) (nomark _))))))
theorem sc__law_other_order : FnScope N__law_other_order ["_law_bag_here", "_law_needs_here"] (defScope s__law_other_order) := ⟨rfl, rfl, rfl, by decide +kernel, rfl, by decide +kernel, by decide +kernel⟩
theorem kb__law_other_order_0 {f : Addr} {fd : FuncData} (F : FunD K "_law_other_order" "_law_other_order" (defArgs s__law_other_order) (defBody s__law_other_order) (defScope s__law_other_order) [] [] f fd) : KBd K fd ["_law_bag_here", "_law_needs_here"] 2 [] plG := by
  obtain ⟨oc, od, dV, kV, doc, pm, an, cdv, ct, osl, rfl, lk, hcd, hD, hK⟩ := F.ex
  obtain ⟨_, rfl⟩ | ⟨e, _⟩ := hD
  rotate_left
  · exact absurd rfl e
  exact kb_plain rfl fun us hl => match us, hl with | [_, _], _ => rfl
theorem ok__law_other_order {f : Addr} {fd : FuncData} (hA : AdOk A) (F : FunD K "_law_other_order" "_law_other_order" (defArgs s__law_other_order) (defBody s__law_other_order) (defScope s__law_other_order) [] [] f fd) (T : Txt P w K mg base A) (f__law_take : FnN P w K mg base 1 "_law_take" ["_law_bag_here", "_law_below"] (sp__law_take A) [⟨2, [], plG⟩]) : FnA P w K mg base 2 f ["_law_bag_here", "_law_needs_here"] (sp__law_other_order A) [⟨2, [], plG⟩] := by
  have nd := (sc__law_other_order).nd
  refine dfunA (ps := ["_law_bag_here", "_law_needs_here"]) F (pats_cons (kb__law_other_order_0 F) (pats_nil)) sc__law_other_order (len__law_other_order A) fun cdv Ar l s H E g rm => ⟨t__law_other_order A, ?_, rd__law_other_order A hA⟩
  exact scn (s_set 2 nd (d_lstM (anl)))
    (scn (s_for g (i_range1 T.b_range (acn (d_len T.b_len (acn (dvr 1) (anl))) (anl))) (g_name 3 nd) (scn (s_lockK (s_setLc 4 N__law_other_order (defScope s__law_other_order) [("_law_name", 5)] g nd (i_keys (dvr 1)) (by decide +kernel) (t := (.one 5)) rfl (fun _ _ _ _ _ g => v_one 5 nd) (fun _ _ _ _ _ g => ts_one (t_w (w_and (t_cmp op_notIn_seq lr_inW2 (dvr 5) (dvr 2) rfl) (w_and1 (t_cmp (op_e0 rm) lr_e0 (d_lc N__law_other_order _ [("_law_one", 6)] g nd (i_list (d_dget rm (dvr 1) (dvr 5))) (by kernel_rfl) (t := (.one 6)) rfl (fun _ _ _ _ _ g => v_one 6 nd) (fun _ _ _ _ _ g => ts_one (t_cmp op_notIn_seq lr_inW2 (dvr 6) (dvr 2) rfl)) (fun _ _ _ _ _ g => dvr 6) (es := rfl)) (d_lst (anl)) (nomark _)))))) (fun _ _ _ _ _ g => dvr 5) (sw_true rfl rfl rfl (by decide +kernel))))
    (s_one (s_if (t_cmp (op_n0 rm) lr_e0 (dvr 4) (d_lst (anl)) (nomark _)) (s_one (s_expr (d_append (dvr 2) (d_sub_ix (dvr 4) (d_fnP 0 f__law_take g (rm.mono (by decide)) (acn (dvr 0) (acn (d_len T.b_len (acn (dvr 4) (anl))) (anl)))))))) (s_nil)))))
    (s_one (s_ret (d_frz (dvr 2)))))
theorem sc__law_forged : FnScope N__law_forged ["_law_bag_here", "_law_needs_here", "_law_order_here"] (defScope s__law_forged) := ⟨rfl, rfl, rfl, by decide +kernel, rfl, by decide +kernel, by decide +kernel⟩
theorem kb__law_forged_0 {f : Addr} {fd : FuncData} (F : FunD K "_law_forged" "_law_forged" (defArgs s__law_forged) (defBody s__law_forged) (defScope s__law_forged) [] [] f fd) : KBd K fd ["_law_bag_here", "_law_needs_here", "_law_order_here"] 3 [] plG := by
  obtain ⟨oc, od, dV, kV, doc, pm, an, cdv, ct, osl, rfl, lk, hcd, hD, hK⟩ := F.ex
  obtain ⟨_, rfl⟩ | ⟨e, _⟩ := hD
  rotate_left
  · exact absurd rfl e
  exact kb_plain rfl fun us hl => match us, hl with | [_, _, _], _ => rfl
theorem ok__law_forged {f : Addr} {fd : FuncData} (hA : AdOk A) (F : FunD K "_law_forged" "_law_forged" (defArgs s__law_forged) (defBody s__law_forged) (defScope s__law_forged) [] [] f fd) (T : Txt P w K mg base A) (f__law_take : FnN P w K mg base 1 "_law_take" ["_law_bag_here", "_law_below"] (sp__law_take A) [⟨2, [], plG⟩]) (f__law_other_order : FnN P w K mg base 2 "_law_other_order" ["_law_bag_here", "_law_needs_here"] (sp__law_other_order A) [⟨2, [], plG⟩]) : FnA P w K mg base 3 f ["_law_bag_here", "_law_needs_here", "_law_order_here"] (sp__law_forged A) [⟨3, [], plG⟩] := by
  have nd := (sc__law_forged).nd
  refine dfunA (ps := ["_law_bag_here", "_law_needs_here", "_law_order_here"]) F (pats_cons (kb__law_forged_0 F) (pats_nil)) sc__law_forged (len__law_forged A) fun cdv Ar l s H E g rm => ⟨t__law_forged A, ?_, rd__law_forged A hA⟩
  exact scn (s_set 3 nd (d_fnP 0 f__law_take g (rm.mono (by decide)) (acn (dvr 0) (acn (d_int) (anl)))))
    (scn (s_set 4 nd (d_listK g T.b_list (acn (dvr 1) (anl))))
    (scn (s_par2 5 6 g nd (acn (d_fnP 0 f__law_take g (rm.mono (by decide)) (acn (dvr 0) (acn (d_len T.b_len (acn (dvr 4) (anl))) (anl)))) (acn (d_fnP 0 f__law_take g (rm.mono (by decide)) (acn (dvr 0) (acn (d_len T.b_len (acn (dvr 4) (anl))) (anl)))) (anl))))
    (scn (s_set 7 nd (d_sl4M (d_add5 (d_list T.b_list (acn (dvr 2) (anl))) (dvr 4)) (o_none) (o_some (d_len T.b_len (acn (dvr 4) (anl))))))
    (scn (s_if (t_cmp (op_eq2 rm) lr_eq (dvr 3) (d_int) (nomark _)) (s_one (s_asg (d_tup (acn (d_sub_ix (dvr 7) (dvr 6)) (acn (d_sub_ix (dvr 7) (dvr 5)) (anl)))) (g_tupG (n := 2) g.calm (gl_cons (g_subL (dvr 7) (dvr 5)) (gl_cons (g_subL (dvr 7) (dvr 6)) (gl_nil) (mono_nil)) ((mono_cons (mono_subV _ _) mono_nil)))))) (s_nil))
    (scn (s_if (t_cmp (op_eq2 rm) lr_eq (dvr 3) (d_int) (nomark _)) (s_one (s_expr (d_insert (dvr 7) (acn (dvr 6) (acn (d_popAt (dvr 7) (acn (dvr 5) (anl))) (anl)))))) (s_nil))
    (scn (s_if (t_cmp (op_eq2 rm) lr_eq (dvr 3) (d_int) (nomark _)) (s_one (s_expr (d_popAt (dvr 7) (acn (dvr 5) (anl))))) (s_nil))
    (scn (s_if (t_cmp (op_eq2 rm) lr_eq (dvr 3) (d_int) (nomark _)) (s_one (s_asg (d_sub_ix (dvr 7) (dvr 6)) (g_subL (dvr 7) (dvr 5)))) (s_nil))
    (scn (s_if (t_cmp (op_eq2 rm) lr_eq (dvr 3) (d_int) (nomark _)) (s_one (s_ret (d_frz (d_rev (dvr 7))))) (s_nil))
    (scn (s_if (t_cmp (op_eq2 rm) lr_eq (dvr 3) (d_int) (nomark _)) (s_one (s_ret (d_frz (d_fnP 0 f__law_other_order g (rm.mono (by decide)) (acn (dvr 0) (acn (dvr 1) (anl))))))) (s_nil))
    (scn (s_if (t_cmp (op_eq2 rm) lr_eq (dvr 3) (d_int) (nomark _)) (s_one (s_ret (d_frz (d_tuple T.b_tuple (acn (dvr 7) (anl)))))) (s_nil))
    (scn (s_if (t_cmp (op_eq2 rm) lr_eq (dvr 3) (d_int) (nomark _)) (s_one (s_asg (d_sub_ix (d_lst (acn (d_non) (acn (d_int) (acn (d_bl) (acn (d_lst (acn (d_sub_ix (dvr 7) (dvr 5)) (anl))) (acn (d_tup (acn (d_sub_ix (dvr 7) (dvr 5)) (anl))) (acn (d_add5 (d_sub_ix (dvr 7) (dvr 5)) (d_str)) (acn (d_str) (acn (d_dict0) (anl)))))))))) (d_fnP 0 f__law_take g (rm.mono (by decide)) (acn (dvr 0) (acn (d_int) (anl))))) (g_subL (dvr 7) (dvr 5)))) (s_nil))
    (scn (s_if (t_cmp (op_eq2 rm) lr_eq (dvr 3) (d_int) (nomark _)) (s_one (s_ret (d_frz (d_sub_ix (d_lst (acn (d_non) (acn (d_lst (anl)) (acn (d_str) (acn (d_dict0) (acn (d_int) (acn (d_bl) (acn (dvr 4) (acn (d_add5 (dvr 7) (d_lst (acn (d_sub_ix (dvr 7) (dvr 5)) (anl)))) (anl)))))))))) (d_fnP 0 f__law_take g (rm.mono (by decide)) (acn (dvr 0) (acn (d_int) (anl)))))))) (s_nil))
    (s_one (s_ret (d_frz (dvr 7))))))))))))))))
theorem sc_are_names : FnScope N_are_names ["needs", "thing"] (defScope s_are_names) := ⟨rfl, rfl, rfl, by decide +kernel, rfl, by decide +kernel, by decide +kernel⟩
theorem kb_are_names_0 {f : Addr} {fd : FuncData} (F : FunD K "are_names" "are_names" (defArgs s_are_names) (defBody s_are_names) (defScope s_are_names) [] [] f fd) : KBd K fd ["needs", "thing"] 2 [] plG := by
  obtain ⟨oc, od, dV, kV, doc, pm, an, cdv, ct, osl, rfl, lk, hcd, hD, hK⟩ := F.ex
  obtain ⟨_, rfl⟩ | ⟨e, _⟩ := hD
  rotate_left
  · exact absurd rfl e
  exact kb_plain rfl fun us hl => match us, hl with | [_, _], _ => rfl
theorem ok_are_names {f : Addr} {fd : FuncData} (hA : AdOk A) (F : FunD K "are_names" "are_names" (defArgs s_are_names) (defBody s_are_names) (defScope s_are_names) [] [] f fd) (T : Txt P w K mg base A) : FnA P w K mg base 1 f ["needs", "thing"] (sp_are_names A) [⟨2, [], plG⟩] := by
  have nd := (sc_are_names).nd
  refine dfunA (ps := ["needs", "thing"]) F (pats_cons (kb_are_names_0 F) (pats_nil)) sc_are_names (len_are_names A) fun cdv Ar l s H E g rm => ⟨t_are_names A, ?_, rd_are_names A hA⟩
  exact scn (s_if (t_w (w_or (t_not (t_truth (d_isi2 .lst .tup (fun z => nomatch z) (fun z => nomatch z) (fun z => nomatch z) (fun z => nomatch z) T.b_isinstance T.b_list T.b_tuple (by decide +kernel) (by decide +kernel) (dvr 1)))) (w_or1 (t_not (t_truth (d_all g T.b_all (acn (d_lc N_are_names (defScope s_are_names) [("name", 2)] g nd (i_seq (dvr 1)) (by decide +kernel) (t := (.one 2)) rfl (fun _ _ _ _ _ g => v_one 2 nd) (fun _ _ _ _ _ g => ts_nil) (fun _ _ _ _ _ g => d_and (d_isi .str (fun z => nomatch z) (fun z => nomatch z) T.b_isinstance T.b_str (by decide +kernel) (dvr 2)) (d_one (d_cmp (op_inK rm) lr_inK1 (dvr 2) (dvr 0) rfl)))) (anl)))))))) (s_one (s_ret (d_bl))) (s_nil))
    (s_one (s_ret (d_cmp (op_eq2 rm) lr_eq (d_lenSc 2 N_are_names (defScope s_are_names) [("name", 2)] g nd T.b_len (dvr 1) (by decide +kernel) (by decide) (fun _ _ _ _ _ => v_one 2 nd) (fun _ _ _ _ _ => pe_var rfl (Or.inl rfl))) (d_len T.b_len (acn (dvr 1) (anl))) (nomark _))))
theorem sc_shows_order : FnScope N_shows_order ["devices", "links", "thing"] (defScope s_shows_order) := ⟨rfl, rfl, rfl, by decide +kernel, rfl, by decide +kernel, by decide +kernel⟩
theorem kb_shows_order_0 {f : Addr} {fd : FuncData} (F : FunD K "shows_order" "shows_order" (defArgs s_shows_order) (defBody s_shows_order) (defScope s_shows_order) [] [] f fd) : KBd K fd ["devices", "links", "thing"] 3 [] plG := by
  obtain ⟨oc, od, dV, kV, doc, pm, an, cdv, ct, osl, rfl, lk, hcd, hD, hK⟩ := F.ex
  obtain ⟨_, rfl⟩ | ⟨e, _⟩ := hD
  rotate_left
  · exact absurd rfl e
  exact kb_plain rfl fun us hl => match us, hl with | [_, _, _], _ => rfl
theorem ok_shows_order {f : Addr} {fd : FuncData} (hA : AdOk A) (F : FunD K "shows_order" "shows_order" (defArgs s_shows_order) (defBody s_shows_order) (defScope s_shows_order) [] [] f fd) (T : Txt P w K mg base A) (f_needs_of : FnN P w K mg base 4 "needs_of" ["devices", "links"] (sp_needs_of A) [⟨2, [], pg_needs_of_0⟩]) (f_are_names : FnN P w K mg base 1 "are_names" ["needs", "thing"] (sp_are_names A) [⟨2, [], plG⟩]) : FnA P w K mg base 5 f ["devices", "links", "thing"] (sp_shows_order A) [⟨3, [], plG⟩] := by
  have nd := (sc_shows_order).nd
  refine dfunA (ps := ["devices", "links", "thing"]) F (pats_cons (kb_shows_order_0 F) (pats_nil)) sc_shows_order (len_shows_order A) fun cdv Ar l s H E g rm => ⟨t_shows_order A, ?_, rd_shows_order A hA⟩
  exact scn (s_set 3 nd (d_fn 0 f_needs_of g (rm.mono (by decide)) (args_p (acn (dvr 0) (acn (dvr 1) (anl))))))
    (scn (s_if (t_w (w_or (t_not (t_truth (d_fnP 0 f_are_names g (rm.mono (by decide)) (acn (dvr 3) (acn (dvr 2) (anl)))))) (w_or1 (t_cmp (op_ne2 rm) lr_ne (d_len T.b_len (acn (dvr 2) (anl))) (d_len T.b_len (acn (dvr 3) (anl))) (nomark _))))) (s_one (s_ret (d_bl))) (s_nil))
    (s_one (s_ret (d_all g T.b_all (acn (d_lc2 N_shows_order (defScope s_shows_order) [("at", 4), ("name", 5), ("other", 6)] [6] g nd (i_enumQ T.b_enumerate (acn (dvr 2) (anl))) (by decide +kernel) (t := (.tup [4, 5])) (t1 := (.one 6)) rfl rfl (by decide) (fun _ _ _ _ _ g => v_tup g.calm (vn_cons 4 nd (vn_cons 5 nd (vn_nil)))) (fun _ _ _ _ _ g => i_list (d_dget rm (dvr 3) (dvr 5))) (fun _ _ _ _ _ g => v_one 6 nd) (fun _ _ _ _ _ g => d_cmp op_in_seq lr_inW1 (dvr 6) (d_sl4 (dvr 2) (o_none) (o_some (dvr 4))) rfl)) (anl))))))
theorem sc__law_is_order : FnScope N__law_is_order ["_law_needs_here", "_law_thing"] (defScope s__law_is_order) := ⟨rfl, rfl, rfl, by decide +kernel, rfl, by decide +kernel, by decide +kernel⟩
theorem kb__law_is_order_0 {f : Addr} {fd : FuncData} (F : FunD K "_law_is_order" "_law_is_order" (defArgs s__law_is_order) (defBody s__law_is_order) (defScope s__law_is_order) [] [] f fd) : KBd K fd ["_law_needs_here", "_law_thing"] 2 [] plG := by
  obtain ⟨oc, od, dV, kV, doc, pm, an, cdv, ct, osl, rfl, lk, hcd, hD, hK⟩ := F.ex
  obtain ⟨_, rfl⟩ | ⟨e, _⟩ := hD
  rotate_left
  · exact absurd rfl e
  exact kb_plain rfl fun us hl => match us, hl with | [_, _], _ => rfl
theorem ok__law_is_order {f : Addr} {fd : FuncData} (hA : AdOk A) (F : FunD K "_law_is_order" "_law_is_order" (defArgs s__law_is_order) (defBody s__law_is_order) (defScope s__law_is_order) [] [] f fd) (T : Txt P w K mg base A) : FnA P w K mg base 1 f ["_law_needs_here", "_law_thing"] (sp__law_is_order A) [⟨2, [], plG⟩] := by
  have nd := (sc__law_is_order).nd
  refine dfunA (ps := ["_law_needs_here", "_law_thing"]) F (pats_cons (kb__law_is_order_0 F) (pats_nil)) sc__law_is_order (len__law_is_order A) fun cdv Ar l s H E g rm => ⟨t__law_is_order A, ?_, rd__law_is_order A hA⟩
  exact scn (s_if (t_w (w_or (t_not (t_truth (d_isi2 .lst .tup (fun z => nomatch z) (fun z => nomatch z) (fun z => nomatch z) (fun z => nomatch z) T.b_isinstance T.b_list T.b_tuple (by decide +kernel) (by decide +kernel) (dvr 1)))) (w_or1 (t_cmp (op_ne2 rm) lr_ne (d_len T.b_len (acn (dvr 1) (anl))) (d_len T.b_len (acn (dvr 0) (anl))) (nomark _))))) (s_one (s_ret (d_bl))) (s_nil))
    (scn (s_if (t_cmp (op_n0 rm) lr_e0 (d_lc N__law_is_order (defScope s__law_is_order) [("_law_one", 2)] g nd (i_seq (dvr 1)) (by decide +kernel) (t := (.one 2)) rfl (fun _ _ _ _ _ g => v_one 2 nd) (fun _ _ _ _ _ g => ts_one (t_w (w_or (t_not (t_truth (d_isi .str (fun z => nomatch z) (fun z => nomatch z) T.b_isinstance T.b_str (by decide +kernel) (dvr 2)))) (w_or1 (t_cmp (op_ninK rm) lr_inK2 (dvr 2) (dvr 0) rfl))))) (fun _ _ _ _ _ g => dvr 2)) (d_lst (anl)) (nomark _)) (s_one (s_ret (d_bl))) (s_nil))
    (scn (s_if (t_cmp (op_n0 rm) lr_e0 (d_lc N__law_is_order (defScope s__law_is_order) [("_law_k", 3)] g nd (i_range1 T.b_range (acn (d_len T.b_len (acn (dvr 1) (anl))) (anl))) (by decide +kernel) (t := (.one 3)) rfl (fun _ _ _ _ _ g => v_one 3 nd) (fun _ _ _ _ _ g => ts_one (t_cmp op_in_seq lr_inW1 (d_sub_ix (dvr 1) (dvr 3)) (d_sl4 (dvr 1) (o_none) (o_some (dvr 3))) rfl)) (fun _ _ _ _ _ g => dvr 3)) (d_lst (anl)) (nomark _)) (s_one (s_ret (d_bl))) (s_nil))
    (s_one (s_ret (d_cmp (op_e0 rm) lr_e0 (d_lc N__law_is_order (defScope s__law_is_order) [("_law_k", 3)] g nd (i_range1 T.b_range (acn (d_len T.b_len (acn (dvr 1) (anl))) (anl))) (by decide +kernel) (t := (.one 3)) rfl (fun _ _ _ _ _ g => v_one 3 nd) (fun _ _ _ _ _ g => ts_one (t_cmp (op_n0 rm) lr_e0 (d_lc N__law_is_order _ [("_law_one", 2)] g nd (i_list (d_dget rm (dvr 0) (d_sub_ix (dvr 1) (dvr 3)))) (by kernel_rfl) (t := (.one 2)) rfl (fun _ _ _ _ _ g => v_one 2 nd) (fun _ _ _ _ _ g => ts_one (t_cmp op_notIn_seq lr_inW2 (dvr 2) (d_sl4 (dvr 1) (o_none) (o_some (dvr 3))) rfl)) (fun _ _ _ _ _ g => dvr 2) (es := rfl)) (d_lst (anl)) (nomark _))) (fun _ _ _ _ _ g => dvr 3)) (d_lst (anl)) (nomark _))))))
theorem sc__law_right : FnScope N__law_right ["_law_bag_here", "_law_made_here", "_law_links_here", "_law_needs_here"] (defScope s__law_right) := ⟨rfl, rfl, rfl, by decide +kernel, rfl, by decide +kernel, by decide +kernel⟩
theorem kb__law_right_0 {f : Addr} {fd : FuncData} (F : FunD K "_law_right" "_law_right" (defArgs s__law_right) (defBody s__law_right) (defScope s__law_right) [] [] f fd) : KBd K fd ["_law_bag_here", "_law_made_here", "_law_links_here", "_law_needs_here"] 4 [] plG := by
  obtain ⟨oc, od, dV, kV, doc, pm, an, cdv, ct, osl, rfl, lk, hcd, hD, hK⟩ := F.ex
  obtain ⟨_, rfl⟩ | ⟨e, _⟩ := hD
  rotate_left
  · exact absurd rfl e
  exact kb_plain rfl fun us hl => match us, hl with | [_, _, _, _], _ => rfl
theorem ok__law_right {f : Addr} {fd : FuncData} (hA : AdOk A) (F : FunD K "_law_right" "_law_right" (defArgs s__law_right) (defBody s__law_right) (defScope s__law_right) [] [] f fd) (T : Txt P w K mg base A) (f__law_order : FnN P w K mg base 1 "_law_order" ["_law_needs_here"] (sp__law_order A) [⟨1, [], plG⟩]) (f__law_asked : FnN P w K mg base 8 "_law_asked" ["_law_door", "_law_made_here", "_law_links_here"] (sp__law_asked A) [⟨3, [], plG⟩]) (f__law_ring_right : FnN P w K mg base 2 "_law_ring_right" ["_law_needs_here", "_law_ring"] (sp__law_ring_right A) [⟨2, [], plG⟩]) (f__law_forged : FnN P w K mg base 3 "_law_forged" ["_law_bag_here", "_law_needs_here", "_law_order_here"] (sp__law_forged A) [⟨3, [], plG⟩]) (f_shows_order : FnN P w K mg base 5 "shows_order" ["devices", "links", "thing"] (sp_shows_order A) [⟨3, [], plG⟩]) (f__law_is_order : FnN P w K mg base 1 "_law_is_order" ["_law_needs_here", "_law_thing"] (sp__law_is_order A) [⟨2, [], plG⟩]) : FnA P w K mg base 9 f ["_law_bag_here", "_law_made_here", "_law_links_here", "_law_needs_here"] (sp__law_right A) [⟨4, [], plG⟩] := by
  have nd := (sc__law_right).nd
  refine dfunA (ps := ["_law_bag_here", "_law_made_here", "_law_links_here", "_law_needs_here"]) F (pats_cons (kb__law_right_0 F) (pats_nil)) sc__law_right (len__law_right A) fun cdv Ar l s H E g rm => ⟨t__law_right A, ?_, rd__law_right A hA⟩
  exact scn (s_set 4 nd (d_fnP 0 f__law_order g (rm.mono (by decide)) (acn (dvr 3) (anl))))
    (scn (s_for g (i_list (d_lst (acn (d_int) (acn (d_int) (acn (d_int) (anl)))))) (g_name 5 nd) (scn (s_asg (d_fnP 0 f__law_asked g (rm.mono (by decide)) (acn (dvr 5) (acn (dvr 1) (acn (dvr 2) (anl))))) (g_tupU (n := 2) g.calm (gs_cons 6 nd (gs_cons 7 nd (gs_nil)))))
    (scn (s_if (t_cmp op_lt lr_lt (d_len T.b_len (acn (dvr 4) (anl))) (d_len T.b_len (acn (dvr 3) (anl))) (nomark _)) (s_one (s_if (t_w (w_or (t_cmp (op_ne2 rm) lr_ne (dvr 6) (d_str) (nomark _)) (w_or1 (t_not (t_truth (d_fnP 0 f__law_ring_right g (rm.mono (by decide)) (acn (dvr 3) (acn (dvr 7) (anl))))))))) (s_one (s_ret (d_bl))) (s_nil))) (s_one (s_if (t_w (w_or (t_cmp (op_ne2 rm) lr_ne (dvr 6) (d_str) (nomark _)) (w_or1 (t_cmp (op_ne2 rm) lr_ne (d_show g.ng rm T.b_repr (dvr 7)) (d_show g.ng rm T.b_repr (dvr 4)) (nomark _))))) (s_one (s_ret (d_bl))) (s_nil))))
    (s_one (s_expr (d_append (dvr 7) (d_str)))))))
    (scn (s_for g (i_range1 T.b_range (acn (d_int) (anl))) (g_name 5 nd) (scn (s_set 8 nd (d_ifExp (t_cmp (op_eq2 rm) lr_eq (dvr 5) (d_int) (nomark _)) (dvr 4) (d_fnP 0 f__law_forged g (rm.mono (by decide)) (acn (dvr 0) (acn (dvr 3) (acn (dvr 4) (anl)))))))
    (scn (s_set 9 nd (d_show g.ng rm T.b_repr (dvr 8)))
    (scn (s_set 7 nd (d_show g.ng rm T.b_repr (d_fnP 0 f_shows_order g (rm.mono (by decide)) (acn (dvr 1) (acn (dvr 2) (acn (dvr 8) (anl)))))))
    (s_one (s_if (t_w (w_or (t_cmp (op_ne2 rm) lr_ne (dvr 7) (d_show g.ng rm T.b_repr (d_fnP 0 f__law_is_order g (rm.mono (by decide)) (acn (dvr 3) (acn (dvr 8) (anl))))) (nomark _)) (w_or1 (t_cmp (op_ne2 rm) lr_ne (d_show g.ng rm T.b_repr (dvr 8)) (dvr 9) (nomark _))))) (s_one (s_ret (d_bl))) (s_nil)))))))
    (s_one (s_ret (d_bl)))))
theorem sc_law : FnScope N_law ["_law_script"] (defScope s_law) := ⟨rfl, rfl, rfl, by decide +kernel, rfl, by decide +kernel, by decide +kernel⟩
theorem ok_law {f : Addr} {fd : FuncData} (hA : AdOk A) (F : L2.Fun K "law" "law" s_law f fd) (hm : mg "law" = some (.ref f)) (T : Txt P w K mg base A) (f__law_bag : FnN P w K mg base 1 "_law_bag" ["_law_cell_here"] (sp__law_bag A) [⟨1, [], plG⟩]) (f__law_cell : FnN P w K mg base 1 "_law_cell" ["_law_script", "_law_k"] (sp__law_cell A) [⟨2, [], plG⟩]) (f__law_take : FnN P w K mg base 1 "_law_take" ["_law_bag_here", "_law_below"] (sp__law_take A) [⟨2, [], plG⟩]) (f__law_rows : FnN P w K mg base 3 "_law_rows" ["_law_bag_here", "_law_least", "_law_most"] (sp__law_rows A) [⟨3, [], plG⟩]) (f__law_links : FnN P w K mg base 2 "_law_links" ["_law_bag_here", "_law_order_here", "_law_rings"] (sp__law_links A) [⟨3, [], plG⟩]) (f__law_made : FnN P w K mg base 6 "_law_made" ["_law_row"] (sp__law_made A) [⟨1, [], plG⟩]) (f__law_needs : FnN P w K mg base 1 "_law_needs" ["_law_rows_here", "_law_links_here"] (sp__law_needs A) [⟨2, [], plG⟩]) (f__law_right : FnN P w K mg base 9 "_law_right" ["_law_bag_here", "_law_made_here", "_law_links_here", "_law_needs_here"] (sp__law_right A) [⟨4, [], plG⟩]) (f_order_of : FnN P w K mg base 5 "order_of" ["devices", "links"] (sp_order_of A) [⟨1, [], pg_order_of_0⟩, ⟨2, [], pg_order_of_1⟩]) (f__law_order : FnN P w K mg base 1 "_law_order" ["_law_needs_here"] (sp__law_order A) [⟨1, [], plG⟩]) : Fn P w K mg base 10 "law" ["_law_script"] spLaw := by
  have nd := (sc_law).nd
  refine dfun (ps := ["_law_script"]) F hm (fun _ _ _ _ _ _ us hl => match us, hl with | [_], _ => rfl) sc_law (len_law A) fun cdv Ar l s H E g rm => ⟨t_law A, ?_, rd_law A hA⟩
  exact scn (s_for g (i_range1 T.b_range (acn (d_max g T.b_max (acn (d_int) (acn (d_min g T.b_min (acn (d_int) (acn (d_len T.b_len (acn (dvr 0) (anl))) (anl)))) (anl)))) (anl))) (g_name 1 nd) (scn (s_set 2 nd (d_fnP 0 f__law_bag g (rm.mono (by decide)) (acn (d_fnP 0 f__law_cell g (rm.mono (by decide)) (acn (dvr 0) (acn (dvr 1) (anl)))) (anl))))
    (scn (s_set 3 nd (d_cmp (op_eq2 rm) lr_eq (d_fnP 0 f__law_take g (rm.mono (by decide)) (acn (dvr 2) (acn (d_int) (anl)))) (d_int) (nomark _)))
    (scn (s_asg (d_fnP 0 f__law_rows g (rm.mono (by decide)) (acn (dvr 2) (acn (d_int) (acn (d_int) (anl))))) (g_tupU (n := 2) g.calm (gs_cons 4 nd (gs_cons 5 nd (gs_nil)))))
    (scn (s_set 6 nd (d_fnP 0 f__law_links g (rm.mono (by decide)) (acn (dvr 2) (acn (dvr 5) (acn (dvr 3) (anl))))))
    (scn (s_if (t_w (w_and (t_truth (dvr 3)) (w_and1 (t_cmp (op_eq2 rm) lr_eq (d_fnP 0 f__law_take g (rm.mono (by decide)) (acn (dvr 2) (acn (d_int) (anl)))) (d_int) (nomark _))))) (scn (s_set 7 nd (d_fnP 0 f__law_take g (rm.mono (by decide)) (acn (dvr 2) (acn (d_len T.b_len (acn (dvr 4) (anl))) (anl)))))
    (s_one (s_asg (d_sub_ix (d_sub_ix (dvr 4) (d_sub_ix (d_lst (acn (dvr 7) (acn (d_fnP 0 f__law_take g (rm.mono (by decide)) (acn (dvr 2) (acn (d_len T.b_len (acn (dvr 4) (anl))) (anl)))) (anl)))) (d_fnP 0 f__law_take g (rm.mono (by decide)) (acn (dvr 2) (acn (d_int) (anl)))))) (d_int)) (g_subL (d_sub_ix (dvr 4) (dvr 7)) (d_int))))) (s_nil))
    (scn (s_setLc 8 N_law (defScope s_law) [("_law_row", 12)] g nd (i_list (dvr 4)) (by decide +kernel) (t := (.one 12)) rfl (fun _ _ _ _ _ g => v_one 12 nd) (fun _ _ _ _ _ g => ts_nil) (fun _ _ _ _ _ g => d_fnP 0 f__law_made g (rm.mono (by decide)) (acn (dvr 12) (anl))) (sw_true rfl rfl rfl (by decide +kernel)))
    (scn (s_set 9 nd (d_lst (acn (dvr 8) (acn (d_list T.b_list (acn (dvr 6) (anl))) (anl)))))
    (scn (s_if (t_cmp (op_eq2 rm) lr_eq (d_fnP 0 f__law_take g (rm.mono (by decide)) (acn (dvr 2) (acn (d_int) (anl)))) (d_int) (nomark _)) (s_one (s_set 9 nd (d_lst (acn (d_tuple T.b_tuple (acn (dvr 8) (anl))) (acn (d_tuple T.b_tuple (acn (dvr 6) (anl))) (anl)))))) (s_nil))
    (scn (s_set 10 nd (d_fnP 0 f__law_needs g (rm.mono (by decide)) (acn (dvr 4) (acn (dvr 6) (anl)))))
    (scn (s_if (t_w (w_or (t_not (t_truth (d_fnP 0 f__law_right g (rm.mono (by decide)) (acn (dvr 2) (acn (d_sub_ix (dvr 9) (d_int)) (acn (d_sub_ix (dvr 9) (d_int)) (acn (dvr 10) (anl)))))))) (w_or1 (t_cmp (op_ne2 rm) lr_ne (d_list T.b_list (acn (d_sub_ix (dvr 9) (d_int)) (anl))) (dvr 6) (nomark _))))) (s_one (s_ret (d_bl))) (s_nil))
    (scn (s_set 11 nd (d_fnP 0 f__law_needs g (rm.mono (by decide)) (acn (dvr 4) (acn (d_lst (anl)) (anl)))))
    (s_one (s_if (t_w (w_and (t_not (t_truth (dvr 3))) (w_and1 (t_cmp (op_ne2 rm) lr_ne (d_show g.ng rm T.b_repr (d_fn 0 f_order_of g (rm.mono (by decide)) (args_p (acn (dvr 8) (anl))))) (d_show g.ng rm T.b_repr (d_fnP 0 f__law_order g (rm.mono (by decide)) (acn (dvr 11) (anl)))) (nomark _))))) (s_one (s_ret (d_bl))) (s_nil)))))))))))))))
    (s_one (s_ret (d_bl)))
end
theorem all_mk {P : Program} {w : World} {K : PySem.W.Frag} {h : Heap} {mg : Str → Option Value} {fa : Addr} {C_NoNumber : Addr} {C_NoName : Addr} {C_Device : Addr} {C_Ring : Addr} {C_Machine : Addr} {C_WakeError : Addr} {C_StateError : Addr} {fI_NoNumber W_NoNumber : Addr} {fd_NoNumber : FuncData} {fI_NoName W_NoName : Addr} {fd_NoName : FuncData} {fI_Ring W_Ring : Addr} {fd_Ring : FuncData} {f0 : Addr} {fd0 : FuncData} {f1 : Addr} {fd1 : FuncData} {f2 : Addr} {fd2 : FuncData} {f3 : Addr} {fd3 : FuncData} {f4 : Addr} {fd4 : FuncData} {f5 : Addr} {fd5 : FuncData} {f6 : Addr} {fd6 : FuncData} {f7 : Addr} {fd7 : FuncData} {f8 : Addr} {fd8 : FuncData} {f9 : Addr} {fd9 : FuncData} {f10 : Addr} {fd10 : FuncData} {f11 : Addr} {fd11 : FuncData} {f12 : Addr} {fd12 : FuncData} {f13 : Addr} {fd13 : FuncData} {f14 : Addr} {fd14 : FuncData} {f15 : Addr} {fd15 : FuncData} {f16 : Addr} {fd16 : FuncData} {f17 : Addr} {fd17 : FuncData} {f18 : Addr} {fd18 : FuncData} {f19 : Addr} {fd19 : FuncData} {T19_links : Addr} {f20 : Addr} {fd20 : FuncData} {f21 : Addr} {fd21 : FuncData} {f22 : Addr} {fd22 : FuncData} {T22_links : Addr} {f23 : Addr} {fd23 : FuncData} {T23_links : Addr} {f24 : Addr} {fd24 : FuncData} {f25 : Addr} {fd25 : FuncData} {f26 : Addr} {fd26 : FuncData} {f27 : Addr} {fd27 : FuncData} {f28 : Addr} {fd28 : FuncData} {f29 : Addr} {fd29 : FuncData} {f30 : Addr} {fd30 : FuncData} {f31 : Addr} {fd31 : FuncData} {f32 : Addr} {fd32 : FuncData} {f33 : Addr} {fd33 : FuncData} {f34 : Addr} {fd34 : FuncData} (X : K.In h) (G : h.Ns mainGlobals mg) (hfa : mg "law" = some (.ref fa)) (aC_NoNumber : PySem.W.nsIn K mainGlobals "NoNumber" = some (some (.ref C_NoNumber))) (sa_NoNumber : PySem.W.findIn K (.ref C_NoNumber) "__setattr__" = some (some (.builtin "object.__setattr__"))) (ga_NoNumber : PySem.W.findIn K (.ref C_NoNumber) "__getattribute__" = some (some (.builtin "BaseException.__getattribute__"))) (gg_NoNumber : PySem.W.findIn K (.ref C_NoNumber) "__getattr__" = some none) (nb_NoNumber : PySem.W.findIn K (.ref C_NoNumber) "found" = some none) (iC_NoNumber : PySem.W.findIn K (.ref C_NoNumber) "__init__" = some (some (.ref fI_NoNumber))) (tI_NoNumber : PySem.W.typeIn K (.ref fI_NoNumber) = some (.type "function")) (kC_NoNumber : PySem.W.keepIn K (.ref C_NoNumber) = true) (eC_NoNumber : PySem.W.subIn K (.ref C_NoNumber) (.type "BaseException") = some true) (tC_NoNumber : PySem.W.typeIn K (.ref C_NoNumber) = some (.type "type")) (cS_NoNumber : PySem.W.isClsIn K C_NoNumber = true) (cA_NoNumber : PySem.W.findIn K (.ref C_NoNumber) "__class__" = some (some (.builtin "object.__class__"))) (cP_NoNumber : PySem.W.specialIn K (.builtin "object.__class__") "__get__" = some (some (.builtin "getset_descriptor.__get__"))) (cT_NoNumber : PySem.W.takesIn K (.builtin "object.__class__") = some true) (cM_NoNumber : PySem.W.mroIn K C_NoNumber (.type "object") = some true) (kbool_NoNumber : PySem.W.subIn K (.ref C_NoNumber) (.type "bool") = some false) (kint_NoNumber : PySem.W.subIn K (.ref C_NoNumber) (.type "int") = some false) (kstr_NoNumber : PySem.W.subIn K (.ref C_NoNumber) (.type "str") = some false) (klist_NoNumber : PySem.W.subIn K (.ref C_NoNumber) (.type "list") = some false) (ktuple_NoNumber : PySem.W.subIn K (.ref C_NoNumber) (.type "tuple") = some false) (kdict_NoNumber : PySem.W.subIn K (.ref C_NoNumber) (.type "dict") = some false) (xB_NoNumber : oexB K C_NoNumber W_NoNumber [.type "ValueError", .type "Exception", .type "BaseException", .type "object"] "ValueError.__new__" = true) (FI_NoNumber : L2.Fun K "__init__" "NoNumber.__init__" s_NoNumber_init fI_NoNumber fd_NoNumber) (aC_NoName : PySem.W.nsIn K mainGlobals "NoName" = some (some (.ref C_NoName))) (sa_NoName : PySem.W.findIn K (.ref C_NoName) "__setattr__" = some (some (.builtin "object.__setattr__"))) (ga_NoName : PySem.W.findIn K (.ref C_NoName) "__getattribute__" = some (some (.builtin "BaseException.__getattribute__"))) (gg_NoName : PySem.W.findIn K (.ref C_NoName) "__getattr__" = some none) (nb_NoName : PySem.W.findIn K (.ref C_NoName) "found" = some none) (iC_NoName : PySem.W.findIn K (.ref C_NoName) "__init__" = some (some (.ref fI_NoName))) (tI_NoName : PySem.W.typeIn K (.ref fI_NoName) = some (.type "function")) (kC_NoName : PySem.W.keepIn K (.ref C_NoName) = true) (eC_NoName : PySem.W.subIn K (.ref C_NoName) (.type "BaseException") = some true) (tC_NoName : PySem.W.typeIn K (.ref C_NoName) = some (.type "type")) (cS_NoName : PySem.W.isClsIn K C_NoName = true) (cA_NoName : PySem.W.findIn K (.ref C_NoName) "__class__" = some (some (.builtin "object.__class__"))) (cP_NoName : PySem.W.specialIn K (.builtin "object.__class__") "__get__" = some (some (.builtin "getset_descriptor.__get__"))) (cT_NoName : PySem.W.takesIn K (.builtin "object.__class__") = some true) (cM_NoName : PySem.W.mroIn K C_NoName (.type "object") = some true) (kbool_NoName : PySem.W.subIn K (.ref C_NoName) (.type "bool") = some false) (kint_NoName : PySem.W.subIn K (.ref C_NoName) (.type "int") = some false) (kstr_NoName : PySem.W.subIn K (.ref C_NoName) (.type "str") = some false) (klist_NoName : PySem.W.subIn K (.ref C_NoName) (.type "list") = some false) (ktuple_NoName : PySem.W.subIn K (.ref C_NoName) (.type "tuple") = some false) (kdict_NoName : PySem.W.subIn K (.ref C_NoName) (.type "dict") = some false) (xB_NoName : oexB K C_NoName W_NoName [.type "ValueError", .type "Exception", .type "BaseException", .type "object"] "ValueError.__new__" = true) (FI_NoName : L2.Fun K "__init__" "NoName.__init__" s_NoName_init fI_NoName fd_NoName) (aC_Ring : PySem.W.nsIn K mainGlobals "Ring" = some (some (.ref C_Ring))) (sa_Ring : PySem.W.findIn K (.ref C_Ring) "__setattr__" = some (some (.builtin "object.__setattr__"))) (ga_Ring : PySem.W.findIn K (.ref C_Ring) "__getattribute__" = some (some (.builtin "BaseException.__getattribute__"))) (gg_Ring : PySem.W.findIn K (.ref C_Ring) "__getattr__" = some none) (nb_Ring : PySem.W.findIn K (.ref C_Ring) "found" = some none) (iC_Ring : PySem.W.findIn K (.ref C_Ring) "__init__" = some (some (.ref fI_Ring))) (tI_Ring : PySem.W.typeIn K (.ref fI_Ring) = some (.type "function")) (kC_Ring : PySem.W.keepIn K (.ref C_Ring) = true) (eC_Ring : PySem.W.subIn K (.ref C_Ring) (.type "BaseException") = some true) (tC_Ring : PySem.W.typeIn K (.ref C_Ring) = some (.type "type")) (cS_Ring : PySem.W.isClsIn K C_Ring = true) (cA_Ring : PySem.W.findIn K (.ref C_Ring) "__class__" = some (some (.builtin "object.__class__"))) (cP_Ring : PySem.W.specialIn K (.builtin "object.__class__") "__get__" = some (some (.builtin "getset_descriptor.__get__"))) (cT_Ring : PySem.W.takesIn K (.builtin "object.__class__") = some true) (cM_Ring : PySem.W.mroIn K C_Ring (.type "object") = some true) (kbool_Ring : PySem.W.subIn K (.ref C_Ring) (.type "bool") = some false) (kint_Ring : PySem.W.subIn K (.ref C_Ring) (.type "int") = some false) (kstr_Ring : PySem.W.subIn K (.ref C_Ring) (.type "str") = some false) (klist_Ring : PySem.W.subIn K (.ref C_Ring) (.type "list") = some false) (ktuple_Ring : PySem.W.subIn K (.ref C_Ring) (.type "tuple") = some false) (kdict_Ring : PySem.W.subIn K (.ref C_Ring) (.type "dict") = some false) (xB_Ring : oexB K C_Ring W_Ring [.type "ValueError", .type "Exception", .type "BaseException", .type "object"] "ValueError.__new__" = true) (FI_Ring : L2.Fun K "__init__" "Ring.__init__" s_Ring_init fI_Ring fd_Ring) (aC_WakeError : PySem.W.nsIn K mainGlobals "WakeError" = some (some (.ref C_WakeError))) (aC_StateError : PySem.W.nsIn K mainGlobals "StateError" = some (some (.ref C_StateError))) (eb_WakeError : PySem.W.subIn K (.ref C_WakeError) (.type "BaseException") = some true) (ei_WakeError : PySem.W.isClsIn K C_WakeError = true) (et_WakeError : PySem.W.typeIn K (.ref C_WakeError) = some (.type "type")) (eb_StateError : PySem.W.subIn K (.ref C_StateError) (.type "BaseException") = some true) (ei_StateError : PySem.W.isClsIn K C_StateError = true) (et_StateError : PySem.W.typeIn K (.ref C_StateError) = some (.type "type")) (eb_Ring : PySem.W.subIn K (.ref C_Ring) (.type "BaseException") = some true) (ei_Ring : PySem.W.isClsIn K C_Ring = true) (et_Ring : PySem.W.typeIn K (.ref C_Ring) = some (.type "type")) (xs_NoName_WakeError : PySem.W.subIn K (.ref C_NoName) (.ref C_WakeError) = some true) (xs_NoName_StateError : PySem.W.subIn K (.ref C_NoName) (.ref C_StateError) = some false) (xo_NoName_KeyError : PySem.W.exmOne K (.ref C_NoName) (.type "KeyError") = some false) (xs_NoName_Ring : PySem.W.subIn K (.ref C_NoName) (.ref C_Ring) = some false) (xs_NoNumber_WakeError : PySem.W.subIn K (.ref C_NoNumber) (.ref C_WakeError) = some true) (xs_NoNumber_StateError : PySem.W.subIn K (.ref C_NoNumber) (.ref C_StateError) = some false) (xo_NoNumber_KeyError : PySem.W.exmOne K (.ref C_NoNumber) (.type "KeyError") = some false) (xs_NoNumber_Ring : PySem.W.subIn K (.ref C_NoNumber) (.ref C_Ring) = some false) (xs_Ring_WakeError : PySem.W.subIn K (.ref C_Ring) (.ref C_WakeError) = some true) (xs_Ring_StateError : PySem.W.subIn K (.ref C_Ring) (.ref C_StateError) = some false) (xo_Ring_KeyError : PySem.W.exmOne K (.ref C_Ring) (.type "KeyError") = some false) (xs_Ring_Ring : PySem.W.subIn K (.ref C_Ring) (.ref C_Ring) = some true) (aC_Device : PySem.W.nsIn K mainGlobals "Device" = some (some (.ref C_Device))) (pg_Device : PySem.W.plainGet K C_Device Str.empty = true) (hd_Device : PySem.W.hasDictIn K C_Device = true) (po_Device : PySem.W.plainOver K C_Device = true) (sa_Device : PySem.W.findIn K (.ref C_Device) "__setattr__" = some (some (.builtin "object.__setattr__"))) (aC_Machine : PySem.W.nsIn K mainGlobals "Machine" = some (some (.ref C_Machine))) (pg_Machine : PySem.W.plainGet K C_Machine Str.empty = true) (hd_Machine : PySem.W.hasDictIn K C_Machine = true) (po_Machine : PySem.W.plainOver K C_Machine = true) (sa_Machine : PySem.W.findIn K (.ref C_Machine) "__setattr__" = some (some (.builtin "object.__setattr__"))) (z_b_max : PySem.W.nsIn K mainGlobals "max" = some none) (z_b_len : PySem.W.nsIn K mainGlobals "len" = some none) (z_b_sum : PySem.W.nsIn K mainGlobals "sum" = some none) (z_b_range : PySem.W.nsIn K mainGlobals "range" = some none) (z_b_list : PySem.W.nsIn K mainGlobals "list" = some none) (z_b_isinstance : PySem.W.nsIn K mainGlobals "isinstance" = some none) (z_b_str : PySem.W.nsIn K mainGlobals "str" = some none) (z_g_MOST_LETTERS : ∃ t, mg "MOST_LETTERS" = some (.int 8 t)) (z_b_all : PySem.W.nsIn K mainGlobals "all" = some none) (z_g_LETTERS : ∃ t, mg "LETTERS" = some (.str "abcdefghijklmnopqrstuvwxyz" t)) (z_b_int : PySem.W.nsIn K mainGlobals "int" = some none) (z_b_bool : PySem.W.nsIn K mainGlobals "bool" = some none) (z_g_MOST_BURN : ∃ t, mg "MOST_BURN" = some (.int 100 t)) (z_g_MOST_STEPS : ∃ t, mg "MOST_STEPS" = some (.int 5 t)) (z_g_MOST_REST : ∃ t, mg "MOST_REST" = some (.int 9 t)) (z_na_Device_whole : PySem.W.findIn K (.ref C_Device) "whole" = some none) (z_b_tuple : PySem.W.nsIn K mainGlobals "tuple" = some none) (z_g_MOST_DEVICES : ∃ t, mg "MOST_DEVICES" = some (.int 8 t)) (ow1_Device : PySem.W.findIn K (.ref C_Device) "__class__" = some (some (.builtin "object.__class__"))) (ow2_Device : PySem.W.specialIn K (.builtin "object.__class__") "__get__" = some (some (.builtin "getset_descriptor.__get__"))) (ow3_Device : PySem.W.takesIn K (.builtin "object.__class__") = some true) (ow4_Device : PySem.W.mroIn K C_Device (.type "object") = some true) (ow5_Device : PySem.W.isClsIn K C_Device = true) (ow6_Device : PySem.W.typeIn K (.ref C_Device) = some (.type "type")) (owa_NoneType_Device : PySem.W.subIn K (.type "NoneType") (.ref C_Device) = some false) (owa_bool_Device : PySem.W.subIn K (.type "bool") (.ref C_Device) = some false) (owa_int_Device : PySem.W.subIn K (.type "int") (.ref C_Device) = some false) (owa_str_Device : PySem.W.subIn K (.type "str") (.ref C_Device) = some false) (owa_list_Device : PySem.W.subIn K (.type "list") (.ref C_Device) = some false) (owa_tuple_Device : PySem.W.subIn K (.type "tuple") (.ref C_Device) = some false) (owa_dict_Device : PySem.W.subIn K (.type "dict") (.ref C_Device) = some false) (z_b_enumerate : PySem.W.nsIn K mainGlobals "enumerate" = some none) (z_g_MOST_LINKS : ∃ t, mg "MOST_LINKS" = some (.int 16 t)) (z_na_Machine_in_order : PySem.W.findIn K (.ref C_Machine) "in_order" = some none) (z_na_Machine_parts : PySem.W.findIn K (.ref C_Machine) "parts" = some none) (z_na_Machine_pairs : PySem.W.findIn K (.ref C_Machine) "pairs" = some none) (z_na_Machine_wants : PySem.W.findIn K (.ref C_Machine) "wants" = some none) (z_b_KeyError : PySem.W.nsIn K mainGlobals "KeyError" = some none) (hx_Ring : PySem.W.hasDictIn K C_Ring = true) (z_xn_Ring_found : PySem.W.findIn K (.ref C_Ring) "found" = some none) (z_b_repr : PySem.W.nsIn K mainGlobals "repr" = some none) (z_b_min : PySem.W.nsIn K mainGlobals "min" = some none) (a0 : PySem.W.nsIn K mainGlobals "_law_bag" = some (some (.ref f0))) (F0 : FunD K "_law_bag" "_law_bag" (defArgs s__law_bag) (defBody s__law_bag) (defScope s__law_bag) [] [] f0 fd0) (k0 : PySem.W.keepIn K (.ref f0) = true) (a1 : PySem.W.nsIn K mainGlobals "_law_cell" = some (some (.ref f1))) (F1 : FunD K "_law_cell" "_law_cell" (defArgs s__law_cell) (defBody s__law_cell) (defScope s__law_cell) [] [] f1 fd1) (k1 : PySem.W.keepIn K (.ref f1) = true) (a2 : PySem.W.nsIn K mainGlobals "_law_take" = some (some (.ref f2))) (F2 : FunD K "_law_take" "_law_take" (defArgs s__law_take) (defBody s__law_take) (defScope s__law_take) [] [] f2 fd2) (k2 : PySem.W.keepIn K (.ref f2) = true) (a3 : PySem.W.nsIn K mainGlobals "_law_names" = some (some (.ref f3))) (F3 : FunD K "_law_names" "_law_names" (defArgs s__law_names) (defBody s__law_names) (defScope s__law_names) [] [] f3 fd3) (k3 : PySem.W.keepIn K (.ref f3) = true) (a4 : PySem.W.nsIn K mainGlobals "_law_rows" = some (some (.ref f4))) (F4 : FunD K "_law_rows" "_law_rows" (defArgs s__law_rows) (defBody s__law_rows) (defScope s__law_rows) [] [] f4 fd4) (k4 : PySem.W.keepIn K (.ref f4) = true) (a5 : PySem.W.nsIn K mainGlobals "_law_links" = some (some (.ref f5))) (F5 : FunD K "_law_links" "_law_links" (defArgs s__law_links) (defBody s__law_links) (defScope s__law_links) [] [] f5 fd5) (k5 : PySem.W.keepIn K (.ref f5) = true) (a6 : PySem.W.nsIn K mainGlobals "is_name" = some (some (.ref f6))) (F6 : FunD K "is_name" "is_name" (defArgs s_is_name) (defBody s_is_name) (defScope s_is_name) [] [] f6 fd6) (k6 : PySem.W.keepIn K (.ref f6) = true) (a7 : PySem.W.nsIn K mainGlobals "is_whole" = some (some (.ref f7))) (F7 : FunD K "is_whole" "is_whole" (defArgs s_is_whole) (defBody s_is_whole) (defScope s_is_whole) [] [] f7 fd7) (k7 : PySem.W.keepIn K (.ref f7) = true) (a8 : PySem.W.nsIn K mainGlobals "need_number" = some (some (.ref f8))) (F8 : FunD K "need_number" "need_number" (defArgs s_need_number) (defBody s_need_number) (defScope s_need_number) [] [] f8 fd8) (k8 : PySem.W.keepIn K (.ref f8) = true) (me9_Device : PySem.W.findIn K (.ref C_Device) "__init__" = some (some (.ref f9))) (fn9 : PySem.W.isFn K (.ref f9) = true) (F9 : FunD K "__init__" "Device.__init__" (defArgs s_m_Device_init) (defBody s_m_Device_init) (defScope s_m_Device_init) [] [("parent", .non), ("burn", .int 5), ("sip", .int 1), ("wake", .int 1), ("fall", .int 1), ("rest", .int 0)] f9 fd9) (k9 : PySem.W.keepIn K (.ref f9) = true) (a10 : PySem.W.nsIn K mainGlobals "_law_made" = some (some (.ref f10))) (F10 : FunD K "_law_made" "_law_made" (defArgs s__law_made) (defBody s__law_made) (defScope s__law_made) [] [] f10 fd10) (k10 : PySem.W.keepIn K (.ref f10) = true) (a11 : PySem.W.nsIn K mainGlobals "_law_needs" = some (some (.ref f11))) (F11 : FunD K "_law_needs" "_law_needs" (defArgs s__law_needs) (defBody s__law_needs) (defScope s__law_needs) [] [] f11 fd11) (k11 : PySem.W.keepIn K (.ref f11) = true) (a12 : PySem.W.nsIn K mainGlobals "_law_order" = some (some (.ref f12))) (F12 : FunD K "_law_order" "_law_order" (defArgs s__law_order) (defBody s__law_order) (defScope s__law_order) [] [] f12 fd12) (k12 : PySem.W.keepIn K (.ref f12) = true) (me13_Device : PySem.W.findIn K (.ref C_Device) "name" = some (some (.ref f13))) (fn13 : PySem.W.isFn K (.ref f13) = true) (F13 : FunD K "name" "Device.name" (defArgs s_m_Device_name) (defBody s_m_Device_name) (defScope s_m_Device_name) [] [] f13 fd13) (k13 : PySem.W.keepIn K (.ref f13) = true) (me14_Device : PySem.W.findIn K (.ref C_Device) "parent" = some (some (.ref f14))) (fn14 : PySem.W.isFn K (.ref f14) = true) (F14 : FunD K "parent" "Device.parent" (defArgs s_m_Device_parent) (defBody s_m_Device_parent) (defScope s_m_Device_parent) [] [] f14 fd14) (k14 : PySem.W.keepIn K (.ref f14) = true) (a15 : PySem.W.nsIn K mainGlobals "need_devices" = some (some (.ref f15))) (F15 : FunD K "need_devices" "need_devices" (defArgs s_need_devices) (defBody s_need_devices) (defScope s_need_devices) [] [] f15 fd15) (k15 : PySem.W.keepIn K (.ref f15) = true) (a16 : PySem.W.nsIn K mainGlobals "need_link" = some (some (.ref f16))) (F16 : FunD K "need_link" "need_link" (defArgs s_need_link) (defBody s_need_link) (defScope s_need_link) [] [] f16 fd16) (k16 : PySem.W.keepIn K (.ref f16) = true) (a17 : PySem.W.nsIn K mainGlobals "need_parts" = some (some (.ref f17))) (F17 : FunD K "need_parts" "need_parts" (defArgs s_need_parts) (defBody s_need_parts) (defScope s_need_parts) [] [] f17 fd17) (k17 : PySem.W.keepIn K (.ref f17) = true) (a18 : PySem.W.nsIn K mainGlobals "needs_by" = some (some (.ref f18))) (F18 : FunD K "needs_by" "needs_by" (defArgs s_needs_by) (defBody s_needs_by) (defScope s_needs_by) [] [] f18 fd18) (k18 : PySem.W.keepIn K (.ref f18) = true) (a19 : PySem.W.nsIn K mainGlobals "needs_of" = some (some (.ref f19))) (qT19_links : SqT K (fun _ => none) T19_links []) (F19 : FunD K "needs_of" "needs_of" (defArgs s_needs_of) (defBody s_needs_of) (defScope s_needs_of) [.ref T19_links] [] f19 fd19) (k19 : PySem.W.keepIn K (.ref f19) = true) (a20 : PySem.W.nsIn K mainGlobals "first_ring" = some (some (.ref f20))) (F20 : FunD K "first_ring" "first_ring" (defArgs s_first_ring) (defBody s_first_ring) (defScope s_first_ring) [] [] f20 fd20) (k20 : PySem.W.keepIn K (.ref f20) = true) (a21 : PySem.W.nsIn K mainGlobals "order_by" = some (some (.ref f21))) (F21 : FunD K "order_by" "order_by" (defArgs s_order_by) (defBody s_order_by) (defScope s_order_by) [] [] f21 fd21) (k21 : PySem.W.keepIn K (.ref f21) = true) (a22 : PySem.W.nsIn K mainGlobals "order_of" = some (some (.ref f22))) (qT22_links : SqT K (fun _ => none) T22_links []) (F22 : FunD K "order_of" "order_of" (defArgs s_order_of) (defBody s_order_of) (defScope s_order_of) [.ref T22_links] [] f22 fd22) (k22 : PySem.W.keepIn K (.ref f22) = true) (me23_Machine : PySem.W.findIn K (.ref C_Machine) "__init__" = some (some (.ref f23))) (fn23 : PySem.W.isFn K (.ref f23) = true) (qT23_links : SqT K (fun _ => none) T23_links []) (F23 : FunD K "__init__" "Machine.__init__" (defArgs s_m_Machine_init) (defBody s_m_Machine_init) (defScope s_m_Machine_init) [.ref T23_links] [] f23 fd23) (k23 : PySem.W.keepIn K (.ref f23) = true) (me24_Machine : PySem.W.findIn K (.ref C_Machine) "order" = some (some (.ref f24))) (fn24 : PySem.W.isFn K (.ref f24) = true) (F24 : FunD K "order" "Machine.order" (defArgs s_m_Machine_order) (defBody s_m_Machine_order) (defScope s_m_Machine_order) [] [] f24 fd24) (k24 : PySem.W.keepIn K (.ref f24) = true) (a25 : PySem.W.nsIn K mainGlobals "_law_asked" = some (some (.ref f25))) (F25 : FunD K "_law_asked" "_law_asked" (defArgs s__law_asked) (defBody s__law_asked) (defScope s__law_asked) [] [] f25 fd25) (k25 : PySem.W.keepIn K (.ref f25) = true) (a26 : PySem.W.nsIn K mainGlobals "_law_far" = some (some (.ref f26))) (F26 : FunD K "_law_far" "_law_far" (defArgs s__law_far) (defBody s__law_far) (defScope s__law_far) [] [] f26 fd26) (k26 : PySem.W.keepIn K (.ref f26) = true) (a27 : PySem.W.nsIn K mainGlobals "_law_ring_right" = some (some (.ref f27))) (F27 : FunD K "_law_ring_right" "_law_ring_right" (defArgs s__law_ring_right) (defBody s__law_ring_right) (defScope s__law_ring_right) [] [] f27 fd27) (k27 : PySem.W.keepIn K (.ref f27) = true) (a28 : PySem.W.nsIn K mainGlobals "_law_other_order" = some (some (.ref f28))) (F28 : FunD K "_law_other_order" "_law_other_order" (defArgs s__law_other_order) (defBody s__law_other_order) (defScope s__law_other_order) [] [] f28 fd28) (k28 : PySem.W.keepIn K (.ref f28) = true) (a29 : PySem.W.nsIn K mainGlobals "_law_forged" = some (some (.ref f29))) (F29 : FunD K "_law_forged" "_law_forged" (defArgs s__law_forged) (defBody s__law_forged) (defScope s__law_forged) [] [] f29 fd29) (k29 : PySem.W.keepIn K (.ref f29) = true) (a30 : PySem.W.nsIn K mainGlobals "are_names" = some (some (.ref f30))) (F30 : FunD K "are_names" "are_names" (defArgs s_are_names) (defBody s_are_names) (defScope s_are_names) [] [] f30 fd30) (k30 : PySem.W.keepIn K (.ref f30) = true) (a31 : PySem.W.nsIn K mainGlobals "shows_order" = some (some (.ref f31))) (F31 : FunD K "shows_order" "shows_order" (defArgs s_shows_order) (defBody s_shows_order) (defScope s_shows_order) [] [] f31 fd31) (k31 : PySem.W.keepIn K (.ref f31) = true) (a32 : PySem.W.nsIn K mainGlobals "_law_is_order" = some (some (.ref f32))) (F32 : FunD K "_law_is_order" "_law_is_order" (defArgs s__law_is_order) (defBody s__law_is_order) (defScope s__law_is_order) [] [] f32 fd32) (k32 : PySem.W.keepIn K (.ref f32) = true) (a33 : PySem.W.nsIn K mainGlobals "_law_right" = some (some (.ref f33))) (F33 : FunD K "_law_right" "_law_right" (defArgs s__law_right) (defBody s__law_right) (defScope s__law_right) [] [] f33 fd33) (k33 : PySem.W.keepIn K (.ref f33) = true) (a34 : PySem.W.nsIn K mainGlobals "law" = some (some (.ref f34))) (F34 : L2.Fun K "law" "law" s_law f34 fd34) (ms_Device : PySem.W.makesIn K C_Device = true) (kC_Device : PySem.W.keepIn K (.ref C_Device) = true) (ms_Machine : PySem.W.makesIn K C_Machine = true) (kC_Machine : PySem.W.keepIn K (.ref C_Machine) = true) :
    ∀ base : Heap, Fn P w K mg base 10 "law" ["_law_script"] spLaw := by
  have oe_NoNumber := oexC_of xB_NoNumber sa_NoNumber eC_NoNumber tC_NoNumber kC_NoNumber
  have ec_NoNumber : ExcCls K C_NoNumber := ⟨cS_NoNumber, ga_NoNumber, gg_NoNumber, eC_NoNumber, cA_NoNumber, cP_NoNumber, cT_NoNumber, cM_NoNumber, fun n hn => by
    simp only [List.mem_cons, List.mem_nil_iff, or_false] at hn
    rcases hn with rfl | rfl | rfl | rfl | rfl | rfl
    · exact kit_sub (by decide +kernel) kbool_NoNumber
    · exact kit_sub (by decide +kernel) kint_NoNumber
    · exact kit_sub (by decide +kernel) kstr_NoNumber
    · exact kit_sub (by decide +kernel) klist_NoNumber
    · exact kit_sub (by decide +kernel) ktuple_NoNumber
    · exact kit_sub (by decide +kernel) kdict_NoNumber⟩
  have x_NoNumber : ∀ base : Heap, ExcT P w K mg base 1 "NoNumber" "found" C_NoNumber := fun base => ⟨PySem.W.mg_of X G aC_NoNumber, oe_NoNumber, ec_NoNumber, fI_NoNumber, _, iC_NoNumber, tI_NoNumber, FI_NoNumber.binds (ps := ["self", "found"]) fun _ _ _ _ _ _ us hl => match us, hl with | [_, _], _ => rfl, init_NoNumber FI_NoNumber oe_NoNumber nb_NoNumber⟩
  have oe_NoName := oexC_of xB_NoName sa_NoName eC_NoName tC_NoName kC_NoName
  have ec_NoName : ExcCls K C_NoName := ⟨cS_NoName, ga_NoName, gg_NoName, eC_NoName, cA_NoName, cP_NoName, cT_NoName, cM_NoName, fun n hn => by
    simp only [List.mem_cons, List.mem_nil_iff, or_false] at hn
    rcases hn with rfl | rfl | rfl | rfl | rfl | rfl
    · exact kit_sub (by decide +kernel) kbool_NoName
    · exact kit_sub (by decide +kernel) kint_NoName
    · exact kit_sub (by decide +kernel) kstr_NoName
    · exact kit_sub (by decide +kernel) klist_NoName
    · exact kit_sub (by decide +kernel) ktuple_NoName
    · exact kit_sub (by decide +kernel) kdict_NoName⟩
  have x_NoName : ∀ base : Heap, ExcT P w K mg base 1 "NoName" "found" C_NoName := fun base => ⟨PySem.W.mg_of X G aC_NoName, oe_NoName, ec_NoName, fI_NoName, _, iC_NoName, tI_NoName, FI_NoName.binds (ps := ["self", "found"]) fun _ _ _ _ _ _ us hl => match us, hl with | [_, _], _ => rfl, init_NoName FI_NoName oe_NoName nb_NoName⟩
  have oe_Ring := oexC_of xB_Ring sa_Ring eC_Ring tC_Ring kC_Ring
  have ec_Ring : ExcCls K C_Ring := ⟨cS_Ring, ga_Ring, gg_Ring, eC_Ring, cA_Ring, cP_Ring, cT_Ring, cM_Ring, fun n hn => by
    simp only [List.mem_cons, List.mem_nil_iff, or_false] at hn
    rcases hn with rfl | rfl | rfl | rfl | rfl | rfl
    · exact kit_sub (by decide +kernel) kbool_Ring
    · exact kit_sub (by decide +kernel) kint_Ring
    · exact kit_sub (by decide +kernel) kstr_Ring
    · exact kit_sub (by decide +kernel) klist_Ring
    · exact kit_sub (by decide +kernel) ktuple_Ring
    · exact kit_sub (by decide +kernel) kdict_Ring⟩
  have x_Ring : ∀ base : Heap, ExcT P w K mg base 1 "Ring" "found" C_Ring := fun base => ⟨PySem.W.mg_of X G aC_Ring, oe_Ring, ec_Ring, fI_Ring, _, iC_Ring, tI_Ring, FI_Ring.binds (ps := ["self", "found"]) fun _ _ _ _ _ _ us hl => match us, hl with | [_, _], _ => rfl, init_Ring FI_Ring oe_Ring nb_Ring⟩
  have xo_NoName_WakeError := exm_ref eb_WakeError ei_WakeError et_WakeError xs_NoName_WakeError
  have xo_NoName_StateError := exm_ref eb_StateError ei_StateError et_StateError xs_NoName_StateError
  have xo_NoName_Ring := exm_ref eb_Ring ei_Ring et_Ring xs_NoName_Ring
  have xo_NoNumber_WakeError := exm_ref eb_WakeError ei_WakeError et_WakeError xs_NoNumber_WakeError
  have xo_NoNumber_StateError := exm_ref eb_StateError ei_StateError et_StateError xs_NoNumber_StateError
  have xo_NoNumber_Ring := exm_ref eb_Ring ei_Ring et_Ring xs_NoNumber_Ring
  have xo_Ring_WakeError := exm_ref eb_WakeError ei_WakeError et_WakeError xs_Ring_WakeError
  have xo_Ring_StateError := exm_ref eb_StateError ei_StateError et_StateError xs_Ring_StateError
  have xo_Ring_Ring := exm_ref eb_Ring ei_Ring et_Ring xs_Ring_Ring
  have cl_Device : Cls K C_Device := ⟨pg_Device, hd_Device, po_Device, sa_Device⟩
  have cl_Machine : Cls K C_Machine := ⟨pg_Machine, hd_Machine, po_Machine, sa_Machine⟩
  have hA : AdOk (⟨PySem.W.exmAny K, C_NoNumber, C_NoName, C_Device, C_Ring, C_Machine, C_WakeError, C_StateError⟩ : Ad) := { tt := trivial, xm_NoName_WakeError_StateError_KeyError := exm_cons xo_NoName_WakeError (exm_cons xo_NoName_StateError (exm_cons xo_NoName_KeyError (exm_nil))), xm_NoName_Ring := exm_cons xo_NoName_Ring (exm_nil), xm_NoNumber_WakeError_StateError_KeyError := exm_cons xo_NoNumber_WakeError (exm_cons xo_NoNumber_StateError (exm_cons xo_NoNumber_KeyError (exm_nil))), xm_NoNumber_Ring := exm_cons xo_NoNumber_Ring (exm_nil), xm_Ring_WakeError_StateError_KeyError := exm_cons xo_Ring_WakeError (exm_cons xo_Ring_StateError (exm_cons xo_Ring_KeyError (exm_nil))), xm_Ring_Ring := exm_cons xo_Ring_Ring (exm_nil) }
  have T : ∀ base : Heap, Txt P w K mg base (⟨PySem.W.exmAny K, C_NoNumber, C_NoName, C_Device, C_Ring, C_Machine, C_WakeError, C_StateError⟩ : Ad) := fun base => { xm := rfl, b_max := PySem.W.mg_none_of X G z_b_max, b_len := PySem.W.mg_none_of X G z_b_len, b_sum := PySem.W.mg_none_of X G z_b_sum, b_range := PySem.W.mg_none_of X G z_b_range, b_list := PySem.W.mg_none_of X G z_b_list, b_isinstance := PySem.W.mg_none_of X G z_b_isinstance, b_str := PySem.W.mg_none_of X G z_b_str, g_MOST_LETTERS := z_g_MOST_LETTERS, b_all := PySem.W.mg_none_of X G z_b_all, g_LETTERS := z_g_LETTERS, b_int := PySem.W.mg_none_of X G z_b_int, b_bool := PySem.W.mg_none_of X G z_b_bool, x_NoNumber := x_NoNumber base, x_NoName := x_NoName base, g_MOST_BURN := z_g_MOST_BURN, g_MOST_STEPS := z_g_MOST_STEPS, g_MOST_REST := z_g_MOST_REST, cl_Device := cl_Device, na_Device_whole := z_na_Device_whole, b_tuple := PySem.W.mg_none_of X G z_b_tuple, g_MOST_DEVICES := z_g_MOST_DEVICES, ci_Device := ⟨cl_Device, ow1_Device, ow2_Device, ow3_Device, ow4_Device, ow5_Device, ow6_Device, (fun t ht => match t, ht with | .non, _ => owa_NoneType_Device | .bl, _ => owa_bool_Device | .int, _ => owa_int_Device | .str, _ => owa_str_Device | .lst, _ => owa_list_Device | .tup, _ => owa_tuple_Device | .dct, _ => owa_dict_Device | .own, h => absurd rfl h)⟩, n_Device := PySem.W.mg_of X G aC_Device, b_enumerate := PySem.W.mg_none_of X G z_b_enumerate, g_MOST_LINKS := z_g_MOST_LINKS, x_Ring := x_Ring base, cl_Machine := cl_Machine, na_Machine_in_order := z_na_Machine_in_order, na_Machine_parts := z_na_Machine_parts, na_Machine_pairs := z_na_Machine_pairs, na_Machine_wants := z_na_Machine_wants, n_WakeError := PySem.W.mg_of X G aC_WakeError, n_StateError := PySem.W.mg_of X G aC_StateError, b_KeyError := PySem.W.mg_none_of X G z_b_KeyError, n_Ring := PySem.W.mg_of X G aC_Ring, xf_Ring := ⟨ga_Ring, gg_Ring, eC_Ring, hx_Ring⟩, xn_Ring_found := z_xn_Ring_found, b_repr := PySem.W.mg_none_of X G z_b_repr, b_min := PySem.W.mg_none_of X G z_b_min }
  have e := hfa.symm.trans (PySem.W.mg_of X G a34)
  cases e
  have fa__law_bag : ∀ base : Heap, FnA P w K mg base 1 f0 ["_law_cell_here"] (sp__law_bag (⟨PySem.W.exmAny K, C_NoNumber, C_NoName, C_Device, C_Ring, C_Machine, C_WakeError, C_StateError⟩ : Ad)) [⟨1, [], plG⟩] := fun base => ok__law_bag hA F0 (T base)
  have fa__law_cell : ∀ base : Heap, FnA P w K mg base 1 f1 ["_law_script", "_law_k"] (sp__law_cell (⟨PySem.W.exmAny K, C_NoNumber, C_NoName, C_Device, C_Ring, C_Machine, C_WakeError, C_StateError⟩ : Ad)) [⟨2, [], plG⟩] := fun base => ok__law_cell hA F1 (T base)
  have fa__law_take : ∀ base : Heap, FnA P w K mg base 1 f2 ["_law_bag_here", "_law_below"] (sp__law_take (⟨PySem.W.exmAny K, C_NoNumber, C_NoName, C_Device, C_Ring, C_Machine, C_WakeError, C_StateError⟩ : Ad)) [⟨2, [], plG⟩] := fun base => ok__law_take hA F2 (T base)
  have fa__law_names : ∀ base : Heap, FnA P w K mg base 2 f3 ["_law_bag_here", "_law_size"] (sp__law_names (⟨PySem.W.exmAny K, C_NoNumber, C_NoName, C_Device, C_Ring, C_Machine, C_WakeError, C_StateError⟩ : Ad)) [⟨2, [], plG⟩] := fun base => ok__law_names hA F3 (T base) ⟨_, PySem.W.mg_of X G a2, k2, fa__law_take base⟩
  have fa__law_rows : ∀ base : Heap, FnA P w K mg base 3 f4 ["_law_bag_here", "_law_least", "_law_most"] (sp__law_rows (⟨PySem.W.exmAny K, C_NoNumber, C_NoName, C_Device, C_Ring, C_Machine, C_WakeError, C_StateError⟩ : Ad)) [⟨3, [], plG⟩] := fun base => ok__law_rows hA F4 (T base) ⟨_, PySem.W.mg_of X G a2, k2, fa__law_take base⟩ ⟨_, PySem.W.mg_of X G a3, k3, fa__law_names base⟩
  have fa__law_links : ∀ base : Heap, FnA P w K mg base 2 f5 ["_law_bag_here", "_law_order_here", "_law_rings"] (sp__law_links (⟨PySem.W.exmAny K, C_NoNumber, C_NoName, C_Device, C_Ring, C_Machine, C_WakeError, C_StateError⟩ : Ad)) [⟨3, [], plG⟩] := fun base => ok__law_links hA F5 (T base) ⟨_, PySem.W.mg_of X G a2, k2, fa__law_take base⟩
  have fa_is_name : ∀ base : Heap, FnA P w K mg base 1 f6 ["thing"] (sp_is_name (⟨PySem.W.exmAny K, C_NoNumber, C_NoName, C_Device, C_Ring, C_Machine, C_WakeError, C_StateError⟩ : Ad)) [⟨1, [], plG⟩] := fun base => ok_is_name hA F6 (T base)
  have fa_is_whole : ∀ base : Heap, FnA P w K mg base 1 f7 ["thing", "low", "high"] (sp_is_whole (⟨PySem.W.exmAny K, C_NoNumber, C_NoName, C_Device, C_Ring, C_Machine, C_WakeError, C_StateError⟩ : Ad)) [⟨3, [], plG⟩] := fun base => ok_is_whole hA F7 (T base)
  have fa_need_number : ∀ base : Heap, FnA P w K mg base 3 f8 ["thing", "high"] (sp_need_number (⟨PySem.W.exmAny K, C_NoNumber, C_NoName, C_Device, C_Ring, C_Machine, C_WakeError, C_StateError⟩ : Ad)) [⟨2, [], plG⟩] := fun base => ok_need_number hA F8 (T base) ⟨_, PySem.W.mg_of X G a7, k7, fa_is_whole base⟩
  have fa_m_Device_init : ∀ base : Heap, FnA P w K mg base 4 f9 ["self", "name", "parent", "burn", "sip", "wake", "fall", "rest"] (sp_m_Device_init (⟨PySem.W.exmAny K, C_NoNumber, C_NoName, C_Device, C_Ring, C_Machine, C_WakeError, C_StateError⟩ : Ad)) [⟨2, ["parent", "burn", "sip", "wake", "fall", "rest"], pg_m_Device_init_0⟩] := fun base => ok_m_Device_init hA F9 (T base) ⟨_, PySem.W.mg_of X G a6, k6, fa_is_name base⟩ ⟨_, PySem.W.mg_of X G a8, k8, fa_need_number base⟩
  have fa__law_made : ∀ base : Heap, FnA P w K mg base 6 f10 ["_law_row"] (sp__law_made (⟨PySem.W.exmAny K, C_NoNumber, C_NoName, C_Device, C_Ring, C_Machine, C_WakeError, C_StateError⟩ : Ad)) [⟨1, [], plG⟩] := fun base => ok__law_made hA F10 (T base) ⟨PySem.W.mg_of X G aC_Device, _, ⟨ms_Device, me9_Device, fn9, kC_Device⟩, fa_m_Device_init base⟩
  have fa__law_needs : ∀ base : Heap, FnA P w K mg base 1 f11 ["_law_rows_here", "_law_links_here"] (sp__law_needs (⟨PySem.W.exmAny K, C_NoNumber, C_NoName, C_Device, C_Ring, C_Machine, C_WakeError, C_StateError⟩ : Ad)) [⟨2, [], plG⟩] := fun base => ok__law_needs hA F11 (T base)
  have fa__law_order : ∀ base : Heap, FnA P w K mg base 1 f12 ["_law_needs_here"] (sp__law_order (⟨PySem.W.exmAny K, C_NoNumber, C_NoName, C_Device, C_Ring, C_Machine, C_WakeError, C_StateError⟩ : Ad)) [⟨1, [], plG⟩] := fun base => ok__law_order hA F12 (T base)
  have fa_m_Device_name : ∀ base : Heap, FnA P w K mg base 1 f13 ["self"] (sp_m_Device_name (⟨PySem.W.exmAny K, C_NoNumber, C_NoName, C_Device, C_Ring, C_Machine, C_WakeError, C_StateError⟩ : Ad)) [⟨1, [], plG⟩] := fun base => ok_m_Device_name hA F13 (T base)
  have fa_m_Device_parent : ∀ base : Heap, FnA P w K mg base 1 f14 ["self"] (sp_m_Device_parent (⟨PySem.W.exmAny K, C_NoNumber, C_NoName, C_Device, C_Ring, C_Machine, C_WakeError, C_StateError⟩ : Ad)) [⟨1, [], plG⟩] := fun base => ok_m_Device_parent hA F14 (T base)
  have fa_need_devices : ∀ base : Heap, FnA P w K mg base 2 f15 ["devices"] (sp_need_devices (⟨PySem.W.exmAny K, C_NoNumber, C_NoName, C_Device, C_Ring, C_Machine, C_WakeError, C_StateError⟩ : Ad)) [⟨1, [], plG⟩] := fun base => ok_need_devices hA F15 (T base) ⟨cl_Device, _, ⟨me13_Device, fn13, k13⟩, fa_m_Device_name base⟩ ⟨cl_Device, _, ⟨me14_Device, fn14, k14⟩, fa_m_Device_parent base⟩
  have fa_need_link : ∀ base : Heap, FnA P w K mg base 2 f16 ["link", "names"] (sp_need_link (⟨PySem.W.exmAny K, C_NoNumber, C_NoName, C_Device, C_Ring, C_Machine, C_WakeError, C_StateError⟩ : Ad)) [⟨2, [], plG⟩] := fun base => ok_need_link hA F16 (T base) ⟨_, PySem.W.mg_of X G a6, k6, fa_is_name base⟩
  have fa_need_parts : ∀ base : Heap, FnA P w K mg base 3 f17 ["devices", "links"] (sp_need_parts (⟨PySem.W.exmAny K, C_NoNumber, C_NoName, C_Device, C_Ring, C_Machine, C_WakeError, C_StateError⟩ : Ad)) [⟨2, [], plG⟩] := fun base => ok_need_parts hA F17 (T base) ⟨_, PySem.W.mg_of X G a15, k15, fa_need_devices base⟩ ⟨cl_Device, _, ⟨me13_Device, fn13, k13⟩, fa_m_Device_name base⟩ ⟨_, PySem.W.mg_of X G a16, k16, fa_need_link base⟩
  have fa_needs_by : ∀ base : Heap, FnA P w K mg base 2 f18 ["devices", "links"] (sp_needs_by (⟨PySem.W.exmAny K, C_NoNumber, C_NoName, C_Device, C_Ring, C_Machine, C_WakeError, C_StateError⟩ : Ad)) [⟨2, [], plG⟩] := fun base => ok_needs_by hA F18 (T base) ⟨cl_Device, _, ⟨me13_Device, fn13, k13⟩, fa_m_Device_name base⟩ ⟨cl_Device, _, ⟨me14_Device, fn14, k14⟩, fa_m_Device_parent base⟩
  have fa_needs_of : ∀ base : Heap, FnA P w K mg base 4 f19 ["devices", "links"] (sp_needs_of (⟨PySem.W.exmAny K, C_NoNumber, C_NoName, C_Device, C_Ring, C_Machine, C_WakeError, C_StateError⟩ : Ad)) [⟨2, [], pg_needs_of_0⟩] := fun base => ok_needs_of qT19_links hA F19 (T base) ⟨_, PySem.W.mg_of X G a17, k17, fa_need_parts base⟩ ⟨_, PySem.W.mg_of X G a18, k18, fa_needs_by base⟩
  have fa_first_ring : ∀ base : Heap, FnA P w K mg base 1 f20 ["needs"] (sp_first_ring (⟨PySem.W.exmAny K, C_NoNumber, C_NoName, C_Device, C_Ring, C_Machine, C_WakeError, C_StateError⟩ : Ad)) [⟨1, [], plG⟩] := fun base => ok_first_ring hA F20 (T base)
  have fa_order_by : ∀ base : Heap, FnA P w K mg base 1 f21 ["needs"] (sp_order_by (⟨PySem.W.exmAny K, C_NoNumber, C_NoName, C_Device, C_Ring, C_Machine, C_WakeError, C_StateError⟩ : Ad)) [⟨1, [], plG⟩] := fun base => ok_order_by hA F21 (T base)
  have fa_order_of : ∀ base : Heap, FnA P w K mg base 5 f22 ["devices", "links"] (sp_order_of (⟨PySem.W.exmAny K, C_NoNumber, C_NoName, C_Device, C_Ring, C_Machine, C_WakeError, C_StateError⟩ : Ad)) [⟨1, [], pg_order_of_0⟩, ⟨2, [], pg_order_of_1⟩] := fun base => ok_order_of qT22_links hA F22 (T base) ⟨_, PySem.W.mg_of X G a19, k19, fa_needs_of base⟩ ⟨_, PySem.W.mg_of X G a20, k20, fa_first_ring base⟩ ⟨_, PySem.W.mg_of X G a21, k21, fa_order_by base⟩
  have fa_m_Machine_init : ∀ base : Heap, FnA P w K mg base 6 f23 ["self", "devices", "links"] (sp_m_Machine_init (⟨PySem.W.exmAny K, C_NoNumber, C_NoName, C_Device, C_Ring, C_Machine, C_WakeError, C_StateError⟩ : Ad)) [⟨3, [], pg_m_Machine_init_0⟩] := fun base => ok_m_Machine_init qT23_links hA F23 (T base) ⟨_, PySem.W.mg_of X G a22, k22, fa_order_of base⟩ ⟨_, PySem.W.mg_of X G a18, k18, fa_needs_by base⟩
  have fa_m_Machine_order : ∀ base : Heap, FnA P w K mg base 1 f24 ["self"] (sp_m_Machine_order (⟨PySem.W.exmAny K, C_NoNumber, C_NoName, C_Device, C_Ring, C_Machine, C_WakeError, C_StateError⟩ : Ad)) [⟨1, [], plG⟩] := fun base => ok_m_Machine_order hA F24 (T base)
  have fa__law_asked : ∀ base : Heap, FnA P w K mg base 8 f25 ["_law_door", "_law_made_here", "_law_links_here"] (sp__law_asked (⟨PySem.W.exmAny K, C_NoNumber, C_NoName, C_Device, C_Ring, C_Machine, C_WakeError, C_StateError⟩ : Ad)) [⟨3, [], plG⟩] := fun base => ok__law_asked hA F25 (T base) ⟨PySem.W.mg_of X G aC_Machine, _, ⟨ms_Machine, me23_Machine, fn23, kC_Machine⟩, fa_m_Machine_init base⟩ ⟨cl_Machine, _, ⟨me24_Machine, fn24, k24⟩, fa_m_Machine_order base⟩ ⟨_, PySem.W.mg_of X G a22, k22, fa_order_of base⟩
  have fa__law_far : ∀ base : Heap, FnA P w K mg base 1 f26 ["_law_needs_here", "_law_name"] (sp__law_far (⟨PySem.W.exmAny K, C_NoNumber, C_NoName, C_Device, C_Ring, C_Machine, C_WakeError, C_StateError⟩ : Ad)) [⟨2, [], plG⟩] := fun base => ok__law_far hA F26 (T base)
  have fa__law_ring_right : ∀ base : Heap, FnA P w K mg base 2 f27 ["_law_needs_here", "_law_ring"] (sp__law_ring_right (⟨PySem.W.exmAny K, C_NoNumber, C_NoName, C_Device, C_Ring, C_Machine, C_WakeError, C_StateError⟩ : Ad)) [⟨2, [], plG⟩] := fun base => ok__law_ring_right hA F27 (T base) ⟨_, PySem.W.mg_of X G a26, k26, fa__law_far base⟩
  have fa__law_other_order : ∀ base : Heap, FnA P w K mg base 2 f28 ["_law_bag_here", "_law_needs_here"] (sp__law_other_order (⟨PySem.W.exmAny K, C_NoNumber, C_NoName, C_Device, C_Ring, C_Machine, C_WakeError, C_StateError⟩ : Ad)) [⟨2, [], plG⟩] := fun base => ok__law_other_order hA F28 (T base) ⟨_, PySem.W.mg_of X G a2, k2, fa__law_take base⟩
  have fa__law_forged : ∀ base : Heap, FnA P w K mg base 3 f29 ["_law_bag_here", "_law_needs_here", "_law_order_here"] (sp__law_forged (⟨PySem.W.exmAny K, C_NoNumber, C_NoName, C_Device, C_Ring, C_Machine, C_WakeError, C_StateError⟩ : Ad)) [⟨3, [], plG⟩] := fun base => ok__law_forged hA F29 (T base) ⟨_, PySem.W.mg_of X G a2, k2, fa__law_take base⟩ ⟨_, PySem.W.mg_of X G a28, k28, fa__law_other_order base⟩
  have fa_are_names : ∀ base : Heap, FnA P w K mg base 1 f30 ["needs", "thing"] (sp_are_names (⟨PySem.W.exmAny K, C_NoNumber, C_NoName, C_Device, C_Ring, C_Machine, C_WakeError, C_StateError⟩ : Ad)) [⟨2, [], plG⟩] := fun base => ok_are_names hA F30 (T base)
  have fa_shows_order : ∀ base : Heap, FnA P w K mg base 5 f31 ["devices", "links", "thing"] (sp_shows_order (⟨PySem.W.exmAny K, C_NoNumber, C_NoName, C_Device, C_Ring, C_Machine, C_WakeError, C_StateError⟩ : Ad)) [⟨3, [], plG⟩] := fun base => ok_shows_order hA F31 (T base) ⟨_, PySem.W.mg_of X G a19, k19, fa_needs_of base⟩ ⟨_, PySem.W.mg_of X G a30, k30, fa_are_names base⟩
  have fa__law_is_order : ∀ base : Heap, FnA P w K mg base 1 f32 ["_law_needs_here", "_law_thing"] (sp__law_is_order (⟨PySem.W.exmAny K, C_NoNumber, C_NoName, C_Device, C_Ring, C_Machine, C_WakeError, C_StateError⟩ : Ad)) [⟨2, [], plG⟩] := fun base => ok__law_is_order hA F32 (T base)
  have fa__law_right : ∀ base : Heap, FnA P w K mg base 9 f33 ["_law_bag_here", "_law_made_here", "_law_links_here", "_law_needs_here"] (sp__law_right (⟨PySem.W.exmAny K, C_NoNumber, C_NoName, C_Device, C_Ring, C_Machine, C_WakeError, C_StateError⟩ : Ad)) [⟨4, [], plG⟩] := fun base => ok__law_right hA F33 (T base) ⟨_, PySem.W.mg_of X G a12, k12, fa__law_order base⟩ ⟨_, PySem.W.mg_of X G a25, k25, fa__law_asked base⟩ ⟨_, PySem.W.mg_of X G a27, k27, fa__law_ring_right base⟩ ⟨_, PySem.W.mg_of X G a29, k29, fa__law_forged base⟩ ⟨_, PySem.W.mg_of X G a31, k31, fa_shows_order base⟩ ⟨_, PySem.W.mg_of X G a32, k32, fa__law_is_order base⟩
  exact fun base => ok_law hA F34 hfa (T base) ⟨_, PySem.W.mg_of X G a0, k0, fa__law_bag base⟩ ⟨_, PySem.W.mg_of X G a1, k1, fa__law_cell base⟩ ⟨_, PySem.W.mg_of X G a2, k2, fa__law_take base⟩ ⟨_, PySem.W.mg_of X G a4, k4, fa__law_rows base⟩ ⟨_, PySem.W.mg_of X G a5, k5, fa__law_links base⟩ ⟨_, PySem.W.mg_of X G a10, k10, fa__law_made base⟩ ⟨_, PySem.W.mg_of X G a11, k11, fa__law_needs base⟩ ⟨_, PySem.W.mg_of X G a33, k33, fa__law_right base⟩ ⟨_, PySem.W.mg_of X G a22, k22, fa_order_of base⟩ ⟨_, PySem.W.mg_of X G a12, k12, fa__law_order base⟩
end K08
namespace K08
open PySem PySem.Spec PyProof.Rows L2 DL
theorem facts {P : Program} {w : World} {K : PySem.W.Frag} {h : Heap} {mg : Str → Option Value} {fa : Addr} (X : K.In h) (G : h.Ns mainGlobals mg) (hfa : mg "law" = some (.ref fa)) (c : He.SaysT faL fnL tsL w K) (cx : ∀ f ∈ exL, f K = true) : ∀ base : Heap, Fn P w K mg base 10 "law" ["_law_script"] spLaw := by
  have H0 : ∀ f ∈ ex0, f K = true := List.all_eq_true.mp (xat (l := exL) cx 0)
  have H1 : ∀ f ∈ ex1, f K = true := List.all_eq_true.mp (xat (l := exL) cx 1)
  have H2 : ∀ f ∈ ex2, f K = true := List.all_eq_true.mp (xat (l := exL) cx 2)
  have H3 : ∀ f ∈ ex3, f K = true := List.all_eq_true.mp (xat (l := exL) cx 3)
  have H4 : ∀ f ∈ ex4, f K = true := List.all_eq_true.mp (xat (l := exL) cx 4)
  have H5 : ∀ f ∈ ex5, f K = true := List.all_eq_true.mp (xat (l := exL) cx 5)
  have H6 : ∀ f ∈ ex6, f K = true := List.all_eq_true.mp (xat (l := exL) cx 6)
  have H7 : ∀ f ∈ ex7, f K = true := List.all_eq_true.mp (xat (l := exL) cx 7)
  have H8 : ∀ f ∈ ex8, f K = true := List.all_eq_true.mp (xat (l := exL) cx 8)
  have H9 : ∀ f ∈ ex9, f K = true := List.all_eq_true.mp (xat (l := exL) cx 9)
  have H10 : ∀ f ∈ ex10, f K = true := List.all_eq_true.mp (xat (l := exL) cx 10)
  obtain ⟨fd0, F0⟩ := c.d.def_ 0 (d := dd0) rfl
  obtain ⟨fd1, F1⟩ := c.d.def_ 1 (d := dd1) rfl
  obtain ⟨fd2, F2⟩ := c.d.def_ 2 (d := dd2) rfl
  obtain ⟨fd3, F3⟩ := c.d.def_ 3 (d := dd3) rfl
  obtain ⟨fd4, F4⟩ := c.d.def_ 4 (d := dd4) rfl
  obtain ⟨fd5, F5⟩ := c.d.def_ 5 (d := dd5) rfl
  obtain ⟨fd6, F6⟩ := c.d.def_ 6 (d := dd6) rfl
  obtain ⟨fd7, F7⟩ := c.d.def_ 7 (d := dd7) rfl
  obtain ⟨fd8, F8⟩ := c.d.def_ 8 (d := dd8) rfl
  obtain ⟨fd9, F9⟩ := c.d.def_ 9 (d := dd9) rfl
  obtain ⟨fd10, F10⟩ := c.d.def_ 10 (d := dd10) rfl
  obtain ⟨fd11, F11⟩ := c.d.def_ 11 (d := dd11) rfl
  obtain ⟨fd12, F12⟩ := c.d.def_ 12 (d := dd12) rfl
  obtain ⟨fd13, F13⟩ := c.d.def_ 13 (d := dd13) rfl
  obtain ⟨fd14, F14⟩ := c.d.def_ 14 (d := dd14) rfl
  obtain ⟨fd15, F15⟩ := c.d.def_ 15 (d := dd15) rfl
  obtain ⟨fd16, F16⟩ := c.d.def_ 16 (d := dd16) rfl
  obtain ⟨fd17, F17⟩ := c.d.def_ 17 (d := dd17) rfl
  obtain ⟨fd18, F18⟩ := c.d.def_ 18 (d := dd18) rfl
  obtain ⟨fd19, F19⟩ := c.d.def_ 19 (d := dd19) rfl
  obtain ⟨fd20, F20⟩ := c.d.def_ 20 (d := dd20) rfl
  obtain ⟨fd21, F21⟩ := c.d.def_ 21 (d := dd21) rfl
  obtain ⟨fd22, F22⟩ := c.d.def_ 22 (d := dd22) rfl
  obtain ⟨fd23, F23⟩ := c.d.def_ 23 (d := dd23) rfl
  obtain ⟨fd24, F24⟩ := c.d.def_ 24 (d := dd24) rfl
  obtain ⟨fd25, F25⟩ := c.d.def_ 25 (d := dd25) rfl
  obtain ⟨fd26, F26⟩ := c.d.def_ 26 (d := dd26) rfl
  obtain ⟨fd27, F27⟩ := c.d.def_ 27 (d := dd27) rfl
  obtain ⟨fd28, F28⟩ := c.d.def_ 28 (d := dd28) rfl
  obtain ⟨fd29, F29⟩ := c.d.def_ 29 (d := dd29) rfl
  obtain ⟨fd30, F30⟩ := c.d.def_ 30 (d := dd30) rfl
  obtain ⟨fd31, F31⟩ := c.d.def_ 31 (d := dd31) rfl
  obtain ⟨fd32, F32⟩ := c.d.def_ 32 (d := dd32) rfl
  obtain ⟨fd33, F33⟩ := c.d.def_ 33 (d := dd33) rfl
  obtain ⟨fd34, F34⟩ := c.d.def_ 34 (d := dd34) rfl
  obtain ⟨fx_NoNumber, G_NoNumber⟩ := c.d.def_ 35 (d := dx_NoNumber) rfl
  obtain ⟨fx_NoName, G_NoName⟩ := c.d.def_ 36 (d := dx_NoName) rfl
  obtain ⟨fx_Ring, G_Ring⟩ := c.d.def_ 37 (d := dx_Ring) rfl
  have h_qT19_links := xat (l := ex8) H8 16
  have h_qT22_links := xat (l := ex9) H9 3
  have h_qT23_links := xat (l := ex9) H9 7
  exact all_mk X G hfa
    (of_decide_eq_true (xat (l := ex0) H0 0))
    (of_decide_eq_true (xat (l := ex0) H0 1))
    (of_decide_eq_true (xat (l := ex0) H0 2))
    (of_decide_eq_true (xat (l := ex0) H0 3))
    (of_decide_eq_true (xat (l := ex0) H0 4))
    (of_decide_eq_true (xat (l := ex0) H0 5))
    (of_decide_eq_true (xat (l := ex0) H0 6))
    (xat (l := ex0) H0 7)
    (of_decide_eq_true (xat (l := ex0) H0 8))
    (of_decide_eq_true (xat (l := ex0) H0 9))
    (xat (l := ex0) H0 10)
    (of_decide_eq_true (xat (l := ex0) H0 11))
    (of_decide_eq_true (xat (l := ex0) H0 12))
    (of_decide_eq_true (xat (l := ex0) H0 13))
    (of_decide_eq_true (xat (l := ex0) H0 14))
    (of_decide_eq_true (xat (l := ex0) H0 15))
    (of_decide_eq_true (xat (l := ex0) H0 16))
    (of_decide_eq_true (xat (l := ex0) H0 17))
    (of_decide_eq_true (xat (l := ex0) H0 18))
    (of_decide_eq_true (xat (l := ex0) H0 19))
    (of_decide_eq_true (xat (l := ex1) H1 0))
    (xat (l := ex1) H1 1)
    (funD_fun (st := s_NoNumber_init) G_NoNumber)
    (of_decide_eq_true (xat (l := ex1) H1 2))
    (of_decide_eq_true (xat (l := ex1) H1 3))
    (of_decide_eq_true (xat (l := ex1) H1 4))
    (of_decide_eq_true (xat (l := ex1) H1 5))
    (of_decide_eq_true (xat (l := ex1) H1 6))
    (of_decide_eq_true (xat (l := ex1) H1 7))
    (of_decide_eq_true (xat (l := ex1) H1 8))
    (xat (l := ex1) H1 9)
    (of_decide_eq_true (xat (l := ex1) H1 10))
    (of_decide_eq_true (xat (l := ex1) H1 11))
    (xat (l := ex1) H1 12)
    (of_decide_eq_true (xat (l := ex1) H1 13))
    (of_decide_eq_true (xat (l := ex1) H1 14))
    (of_decide_eq_true (xat (l := ex1) H1 15))
    (of_decide_eq_true (xat (l := ex1) H1 16))
    (of_decide_eq_true (xat (l := ex1) H1 17))
    (of_decide_eq_true (xat (l := ex1) H1 18))
    (of_decide_eq_true (xat (l := ex1) H1 19))
    (of_decide_eq_true (xat (l := ex2) H2 0))
    (of_decide_eq_true (xat (l := ex2) H2 1))
    (of_decide_eq_true (xat (l := ex2) H2 2))
    (xat (l := ex2) H2 3)
    (funD_fun (st := s_NoName_init) G_NoName)
    (of_decide_eq_true (xat (l := ex2) H2 4))
    (of_decide_eq_true (xat (l := ex2) H2 5))
    (of_decide_eq_true (xat (l := ex2) H2 6))
    (of_decide_eq_true (xat (l := ex2) H2 7))
    (of_decide_eq_true (xat (l := ex2) H2 8))
    (of_decide_eq_true (xat (l := ex2) H2 9))
    (of_decide_eq_true (xat (l := ex2) H2 10))
    (xat (l := ex2) H2 11)
    (of_decide_eq_true (xat (l := ex2) H2 12))
    (of_decide_eq_true (xat (l := ex2) H2 13))
    (xat (l := ex2) H2 14)
    (of_decide_eq_true (xat (l := ex2) H2 15))
    (of_decide_eq_true (xat (l := ex2) H2 16))
    (of_decide_eq_true (xat (l := ex2) H2 17))
    (of_decide_eq_true (xat (l := ex2) H2 18))
    (of_decide_eq_true (xat (l := ex2) H2 19))
    (of_decide_eq_true (xat (l := ex3) H3 0))
    (of_decide_eq_true (xat (l := ex3) H3 1))
    (of_decide_eq_true (xat (l := ex3) H3 2))
    (of_decide_eq_true (xat (l := ex3) H3 3))
    (of_decide_eq_true (xat (l := ex3) H3 4))
    (xat (l := ex3) H3 5)
    (funD_fun (st := s_Ring_init) G_Ring)
    (of_decide_eq_true (xat (l := ex3) H3 6))
    (of_decide_eq_true (xat (l := ex3) H3 7))
    (of_decide_eq_true (xat (l := ex3) H3 8))
    (xat (l := ex3) H3 9)
    (of_decide_eq_true (xat (l := ex3) H3 10))
    (of_decide_eq_true (xat (l := ex3) H3 11))
    (xat (l := ex3) H3 12)
    (of_decide_eq_true (xat (l := ex3) H3 13))
    (of_decide_eq_true (xat (l := ex3) H3 14))
    (xat (l := ex3) H3 15)
    (of_decide_eq_true (xat (l := ex3) H3 16))
    (of_decide_eq_true (xat (l := ex3) H3 17))
    (of_decide_eq_true (xat (l := ex3) H3 18))
    (of_decide_eq_true (xat (l := ex3) H3 19))
    (of_decide_eq_true (xat (l := ex4) H4 0))
    (of_decide_eq_true (xat (l := ex4) H4 1))
    (of_decide_eq_true (xat (l := ex4) H4 2))
    (of_decide_eq_true (xat (l := ex4) H4 3))
    (of_decide_eq_true (xat (l := ex4) H4 4))
    (of_decide_eq_true (xat (l := ex4) H4 5))
    (of_decide_eq_true (xat (l := ex4) H4 6))
    (of_decide_eq_true (xat (l := ex4) H4 7))
    (of_decide_eq_true (xat (l := ex4) H4 8))
    (of_decide_eq_true (xat (l := ex4) H4 9))
    (xat (l := ex4) H4 10)
    (xat (l := ex4) H4 11)
    (xat (l := ex4) H4 12)
    (of_decide_eq_true (xat (l := ex4) H4 13))
    (of_decide_eq_true (xat (l := ex4) H4 14))
    (xat (l := ex4) H4 15)
    (xat (l := ex4) H4 16)
    (xat (l := ex4) H4 17)
    (of_decide_eq_true (xat (l := ex4) H4 18))
    (of_decide_eq_true (xat (l := ex4) H4 19))
    (of_decide_eq_true (xat (l := ex5) H5 0))
    (of_decide_eq_true (xat (l := ex5) H5 1))
    (of_decide_eq_true (xat (l := ex5) H5 2))
    (of_decide_eq_true (xat (l := ex5) H5 3))
    (of_decide_eq_true (xat (l := ex5) H5 4))
    (of_decide_eq_true (xat (l := ex5) H5 5))
    (He.int_ok X G (c.d.fact 0 rfl))
    (of_decide_eq_true (xat (l := ex5) H5 6))
    (He.str_ok X G (c.d.fact 1 rfl))
    (of_decide_eq_true (xat (l := ex5) H5 7))
    (of_decide_eq_true (xat (l := ex5) H5 8))
    (He.int_ok X G (c.d.fact 2 rfl))
    (He.int_ok X G (c.d.fact 3 rfl))
    (He.int_ok X G (c.d.fact 4 rfl))
    (of_decide_eq_true (xat (l := ex5) H5 9))
    (of_decide_eq_true (xat (l := ex5) H5 10))
    (He.int_ok X G (c.d.fact 5 rfl))
    (of_decide_eq_true (xat (l := ex5) H5 11))
    (of_decide_eq_true (xat (l := ex5) H5 12))
    (of_decide_eq_true (xat (l := ex5) H5 13))
    (of_decide_eq_true (xat (l := ex5) H5 14))
    (xat (l := ex5) H5 15)
    (of_decide_eq_true (xat (l := ex5) H5 16))
    (of_decide_eq_true (xat (l := ex5) H5 17))
    (of_decide_eq_true (xat (l := ex5) H5 18))
    (of_decide_eq_true (xat (l := ex5) H5 19))
    (of_decide_eq_true (xat (l := ex6) H6 0))
    (of_decide_eq_true (xat (l := ex6) H6 1))
    (of_decide_eq_true (xat (l := ex6) H6 2))
    (of_decide_eq_true (xat (l := ex6) H6 3))
    (of_decide_eq_true (xat (l := ex6) H6 4))
    (He.int_ok X G (c.d.fact 6 rfl))
    (of_decide_eq_true (xat (l := ex6) H6 5))
    (of_decide_eq_true (xat (l := ex6) H6 6))
    (of_decide_eq_true (xat (l := ex6) H6 7))
    (of_decide_eq_true (xat (l := ex6) H6 8))
    (of_decide_eq_true (xat (l := ex6) H6 9))
    (xat (l := ex6) H6 10)
    (of_decide_eq_true (xat (l := ex6) H6 11))
    (of_decide_eq_true (xat (l := ex6) H6 12))
    (of_decide_eq_true (xat (l := ex6) H6 13))
    (of_decide_eq_true (xat (l := ex6) H6 14))
    F0
    (xat (l := ex6) H6 15)
    (of_decide_eq_true (xat (l := ex6) H6 16))
    F1
    (xat (l := ex6) H6 17)
    (of_decide_eq_true (xat (l := ex6) H6 18))
    F2
    (xat (l := ex6) H6 19)
    (of_decide_eq_true (xat (l := ex7) H7 0))
    F3
    (xat (l := ex7) H7 1)
    (of_decide_eq_true (xat (l := ex7) H7 2))
    F4
    (xat (l := ex7) H7 3)
    (of_decide_eq_true (xat (l := ex7) H7 4))
    F5
    (xat (l := ex7) H7 5)
    (of_decide_eq_true (xat (l := ex7) H7 6))
    F6
    (xat (l := ex7) H7 7)
    (of_decide_eq_true (xat (l := ex7) H7 8))
    F7
    (xat (l := ex7) H7 9)
    (of_decide_eq_true (xat (l := ex7) H7 10))
    F8
    (xat (l := ex7) H7 11)
    (of_decide_eq_true (xat (l := ex7) H7 12))
    (xat (l := ex7) H7 13)
    F9
    (xat (l := ex7) H7 14)
    (of_decide_eq_true (xat (l := ex7) H7 15))
    F10
    (xat (l := ex7) H7 16)
    (of_decide_eq_true (xat (l := ex7) H7 17))
    F11
    (xat (l := ex7) H7 18)
    (of_decide_eq_true (xat (l := ex7) H7 19))
    F12
    (xat (l := ex8) H8 0)
    (of_decide_eq_true (xat (l := ex8) H8 1))
    (xat (l := ex8) H8 2)
    F13
    (xat (l := ex8) H8 3)
    (of_decide_eq_true (xat (l := ex8) H8 4))
    (xat (l := ex8) H8 5)
    F14
    (xat (l := ex8) H8 6)
    (of_decide_eq_true (xat (l := ex8) H8 7))
    F15
    (xat (l := ex8) H8 8)
    (of_decide_eq_true (xat (l := ex8) H8 9))
    F16
    (xat (l := ex8) H8 10)
    (of_decide_eq_true (xat (l := ex8) H8 11))
    F17
    (xat (l := ex8) H8 12)
    (of_decide_eq_true (xat (l := ex8) H8 13))
    F18
    (xat (l := ex8) H8 14)
    (of_decide_eq_true (xat (l := ex8) H8 15))
    (etB_ok h_qT19_links)
    F19
    (xat (l := ex8) H8 17)
    (of_decide_eq_true (xat (l := ex8) H8 18))
    F20
    (xat (l := ex8) H8 19)
    (of_decide_eq_true (xat (l := ex9) H9 0))
    F21
    (xat (l := ex9) H9 1)
    (of_decide_eq_true (xat (l := ex9) H9 2))
    (etB_ok h_qT22_links)
    F22
    (xat (l := ex9) H9 4)
    (of_decide_eq_true (xat (l := ex9) H9 5))
    (xat (l := ex9) H9 6)
    (etB_ok h_qT23_links)
    F23
    (xat (l := ex9) H9 8)
    (of_decide_eq_true (xat (l := ex9) H9 9))
    (xat (l := ex9) H9 10)
    F24
    (xat (l := ex9) H9 11)
    (of_decide_eq_true (xat (l := ex9) H9 12))
    F25
    (xat (l := ex9) H9 13)
    (of_decide_eq_true (xat (l := ex9) H9 14))
    F26
    (xat (l := ex9) H9 15)
    (of_decide_eq_true (xat (l := ex9) H9 16))
    F27
    (xat (l := ex9) H9 17)
    (of_decide_eq_true (xat (l := ex9) H9 18))
    F28
    (xat (l := ex9) H9 19)
    (of_decide_eq_true (xat (l := ex10) H10 0))
    F29
    (xat (l := ex10) H10 1)
    (of_decide_eq_true (xat (l := ex10) H10 2))
    F30
    (xat (l := ex10) H10 3)
    (of_decide_eq_true (xat (l := ex10) H10 4))
    F31
    (xat (l := ex10) H10 5)
    (of_decide_eq_true (xat (l := ex10) H10 6))
    F32
    (xat (l := ex10) H10 7)
    (of_decide_eq_true (xat (l := ex10) H10 8))
    F33
    (xat (l := ex10) H10 9)
    (of_decide_eq_true (xat (l := ex10) H10 10))
    (funD_fun (st := s_law) F34)
    (xat (l := ex10) H10 11)
    (xat (l := ex10) H10 12)
    (xat (l := ex10) H10 13)
    (xat (l := ex10) H10 14)
abbrev hk : PySem.W.Hook := hookL faL fnL tsL exL
def ob (s : PySem.W.SharedT) : AlL := obsL faL fnL tsL exL (HandSHeadRun.getT s)
theorem ob_eq (s : PySem.W.SharedT) : ob s = hk.obs s.abs := obsL_eq (HandSHeadRun.getT_eq s)
theorem run_false (w : World) : HandSHeadRun.RunEq R (PySem.W.view R.prog [59]) hk ob 30000 nmL (w.withFollow "special-get-raises" false) := (part_joinT (run0_false w) (runf1_false w))
theorem run_true (w : World) : HandSHeadRun.RunEq R (PySem.W.view R.prog [59]) hk ob 30000 nmL (w.withFollow "special-get-raises" true) := (part_joinT (run0_true w) (runf1_true w))
theorem run (w : World) : HandSHeadRun.RunEq R (PySem.W.view R.prog [59]) hk ob 30000 nmL w := PySem.W.byRow2 "special-get-raises" run_false run_true w
end K08
open PySem PySem.W PySem.Calls PyProof.Rows in
set_option maxRecDepth 100000 in
set_option maxHeartbeats 0 in
theorem PySem.Challenge.cw_drowsetree_k08_orders_of_needs_holds : PySem.Challenge.rw_drowsetree_k08_orders_of_needs.Holds := by
  w_on; o_law
  refine HandSHeadRun.head_any (r := OpenLaw.row PySem.Challenge.rw_drowsetree_k08_orders_of_needs) (q := view (OpenLaw.row PySem.Challenge.rw_drowsetree_k08_orders_of_needs).prog [59]) (H := K08.hk) (ob := K08.ob) (M := 30000) (loose := K08.nmL) (d := HandSHeadRun.topDef (OpenLaw.row PySem.Challenge.rw_drowsetree_k08_orders_of_needs).prog 59) (kwd := []) K08.ob_eq
    (by kernel_rfl) (fun s => by kernel_rfl) K08.run (by kernel_rfl) (by kernel_rfl) (by kernel_rfl) (by rfl) (by first | assumption | decide +kernel) (by decide +kernel) ⟨rfl, rfl, rfl, rfl, rfl, by decide +kernel⟩ ?hw ?hc
  case hw => w_witness2
  case hc =>
    refine DL.walk_fnE (l := PySem.Challenge.rw_drowsetree_k08_orders_of_needs) (k := 10) (x := "_law_script") (sp := DL.spLaw) rfl (by kernel_rfl) ⟨rfl, by decide, by decide⟩ (fun w mg fa h Y G hmg0 => ?_) (fun hl hS => DL.law_pr hl hS)
    obtain ⟨K, KX, c, cx⟩ := Y
    have hmg : mg ("law" : PySem.Str) = some (.ref fa) := by
      have e : (HandSHeadRun.topDef (OpenLaw.row PySem.Challenge.rw_drowsetree_k08_orders_of_needs).prog 59).name = ("law" : PySem.Str) := by kernel_rfl
      rw [← e]
      exact hmg0
    exact ⟨K, KX, hmg, K08.facts KX G hmg c cx⟩
