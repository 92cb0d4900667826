import PyProof.Rows.All
import HandS.Words
import HandS.Head2
import HandS.HeadHook4
import Wide.All
import OpenK.AllK
import Wide.FinOn
import HandS.ForMost
import HandS.NoneIn
import HandS.Lambda
import HandS.Nested
import HandS.ForExc
import HandS.ExcInit
import HandS.IsInst
import HandS.TupAny
import HandS.Style
import HandS.DictComp
import HandS.ListItems
import HandS.MakeKwOnly
import HandS.More
import KE.KDictZip
import KE.KDictItemsList
import KE.GoesEnum
import HandS.Iter
import HandS.Finally
import PyProof.ReprRoads
import HandS.Defaults
import KE.KDictPairs
import HandS.Conv
import HandS.TupMul
import KE.GoesMore
import HandS.Zip
import KE.KDictSum
import HandS.DictTup
import HandS.TupLe
import HandS.FltList
import HandS.ListEq
import HandS.DictEq
import HandS.DeepEq
import HandS.AnyAll
import PyProof.NeKinds
import PyProof.P3In
import HandS.SortRule
import HandS.Strs
import HandS.SetFor
import PyProof.Rows.SetFrom
import KE.KExcIs
import HandS.ExcIs
import HandS.ExcField
import KE.KEqNest
import PyProof.EqKinds
import HandS.EndBits
import HandS.EndTab
import KE.KNestM
import HandS.Wide
import PySem.Challenge.RW_wearybeams_k02_weighings_and_rows
set_option Elab.async false
set_option linter.all false
set_option maxRecDepth 100000
section
set_option maxHeartbeats 2000000
namespace Mir
open PySem PySem.Spec PyProof.Rows L2
namespace Hd
def objO (K : PySem.W.Frag) (a : Addr) : Obj := (K.lookup a).getD default
def fdO (K : PySem.W.Frag) (a : Addr) : FuncData := match (objO K a).data with
  | .func fd => fd
  | _ => default
def cdO (K : PySem.W.Frag) (a : Addr) : ClassData := match (objO K a).data with
  | .cls c => c
  | _ => default
def vsO (K : PySem.W.Frag) (a : Addr) : Array Value := match (objO K a).data with
  | .fields vs => vs
  | _ => #[]
def sqO (K : PySem.W.Frag) (a : Addr) : List Value := match (objO K a).data with
  | .seq its _ => its.toList
  | _ => []
def sqN (K : PySem.W.Frag) (a : Addr) : Nat := match (objO K a).data with
  | .seq _ n => n
  | _ => 0
def slO (K : PySem.W.Frag) (a : Addr) (i : Nat) : Option Value := (objO K a).slots.toList.getD i none
def tkV : Value → Tok
  | .int _ t => t
  | .str _ t => t
  | _ => 0
def tkG (K : PySem.W.Frag) (x : Str) : Tok := match PySem.W.nsIn K mainGlobals x with
  | some (some v) => tkV v
  | _ => 0
def tkA (K : PySem.W.Frag) (a : Addr) (i : Nat) : Tok := match (sqO K a)[i]? with
  | some v => tkV v
  | none => 0
def cdB (K : PySem.W.Frag) (c : Addr) : Bool := match K.lookup c with
  | some ⟨.type t, _, .fields _, _⟩ => decide (t = "code")
  | _ => false
def tpB (K : PySem.W.Frag) (g : Addr) (vs : List Value) : Bool := match K.lookup g with
  | some ⟨.type t, _, .seq its _, _⟩ => decide (t = "tuple") && decide (its.toList = vs)
  | _ => false
def slB : List (Option Value) → Bool
  | [_, _, _, _, some (.builtin n), _] => decide (n = "ValueError.__new__")
  | _ => false
def exB (K : PySem.W.Frag) (C : Addr) (bm : List Value) : Bool := match K.lookup C with
  | some ⟨.type t, _, .cls cd, sl⟩ => decide (t = "type") && (decide (cd.mro = .ref C :: bm) && (cd.hasDict && (!cd.hasDel && slB sl.toList)))
  | _ => false
def fcB (K : PySem.W.Frag) (c mc : Value) (x : Str) (v : Value) : Bool := match PySem.W.findCls K c mc x with
  | some (.val u) => decide (u = v)
  | _ => false
def exAll (exs : List (PySem.W.Frag → List Bool)) (K : PySem.W.Frag) : Bool := exs.all fun f => (f K).all id
def frL {α : Type} : List Addr → (List Addr → α) → α
  | [], k => k []
  | a :: r, k => HandSHeadRun.frNat a fun a => frL r fun l => k (a :: l)
def frK {α : Type} (g : Addr → Option Obj) : List Addr → (PySem.W.Frag → α) → α
  | [], k => k []
  | a :: r, k => match g a with
    | some o => frK g r fun l => k ((a, o) :: l)
    | none => frK g r k
theorem frK_eq {α : Type} (g : Addr → Option Obj) : ∀ (l : List Addr) (k : PySem.W.Frag → α), frK g l k = k (He.frG g l)
  | [], k => rfl
  | a :: r, k => by
    cases e : g a with
    | some o =>
      have h1 : frK g (a :: r) k = frK g r fun l => k ((a, o) :: l) := by
        show (match g a with
          | some o => frK g r fun l => k ((a, o) :: l)
          | none => frK g r k) = _
        rw [e]
      rw [h1, frK_eq g r]
      unfold He.frG
      rw [List.filterMap_cons, e]
      rfl
    | none =>
      have h1 : frK g (a :: r) k = frK g r k := by
        show (match g a with
          | some o => frK g r fun l => k ((a, o) :: l)
          | none => frK g r k) = _
        rw [e]
      rw [h1, frK_eq g r]
      unfold He.frG
      rw [List.filterMap_cons, e]
      rfl
def refsM (o : Obj) : List Addr := match o.data with
  | .dict es _ => es.toList.flatMap fun e => He.refV e.val
  | .func fd => He.refV fd.code ++ He.refV fd.kwdefaults
  | .cls cd => [cd.ns]
  | _ => []
def stepM (g : Addr → Option Obj) (as : List Addr) : List Addr := as.flatMap fun a => match g a with
  | some o => refsM o
  | none => []
def asM (g : Addr → Option Obj) : List Addr := frL (stepM g [mainGlobals]) fun a1 => frL (stepM g a1) fun a2 => frL (stepM g a2) fun a3 => frL (stepM g a3) fun a4 => [mainGlobals, cStatics] ++ a1 ++ a2 ++ a3 ++ a4
abbrev Al : Type := Bool × List He.FnV
def tabsB (g : Addr → Option Obj) (tf : List He.Defn) (K : PySem.W.Frag) : Bool := tf.all fun p => match g (He.cT K p).2 with
  | some o => He.emptyTab o
  | none => false
def obsM (ex : PySem.W.Frag → Bool) (tf : List He.Defn) (fns : List He.FnD) (g : Addr → Option Obj) : Al := frK g (asM g) fun K => (ex K && tabsB g tf K, fns.map fun d => He.fnObs K d.at_)
structure SaysM (ex : PySem.W.Frag → Bool) (tf : List He.Defn) (fns : List He.FnD) (h : Heap) (K : PySem.W.Frag) : Prop where
  more : ex K = true
  fn : ∀ d ∈ fns, He.fnObs K d.at_ = d.val
  empty : ∀ p ∈ tf, h.get? (He.cT K p).2 = some { cls := .none, data := .fields #[] }
theorem saysM_of {ex : PySem.W.Frag → Bool} {tf : List He.Defn} {fns : List He.FnD} {h : Heap} (e : obsM ex tf fns h.get? = (true, fns.map He.FnD.val)) : SaysM ex tf fns h (He.frG h.get? (asM h.get?)) := by
  unfold obsM at e
  rw [frK_eq] at e
  generalize He.frG h.get? (asM h.get?) = K at e ⊢
  have e1 : (ex K && tabsB h.get? tf K) = true := congrArg (fun z : Al => z.1) e
  have e2 : fns.map (fun d => He.fnObs K d.at_) = fns.map He.FnD.val := congrArg (fun z : Al => z.2) e
  obtain ⟨h1, h2⟩ := He.ba e1
  refine ⟨h1, fun d hd => List.map_inj_left.mp e2 d hd, fun p hp => ?_⟩
  have h3 := List.all_eq_true.mp h2 p hp
  cases q : h.get? (He.cT K p).2 with
  | none =>
    rw [q] at h3
    cases h3
  | some o =>
    rw [q] at h3
    rw [He.emptyTab_eq h3]
def hookM (ex : PySem.W.Frag → Bool) (tf : List He.Defn) (fns : List He.FnD) : PySem.W.Hook where
  α := Al
  obs := fun s => obsM ex tf fns s.heap.get?
  val := fun _ => (true, fns.map He.FnD.val)
  says := fun _ h => ∃ K : PySem.W.Frag, K.In h ∧ SaysM ex tf fns h K
  of := fun _ _ e => ⟨_, He.frG_in, saysM_of e⟩
  keeps := fun _ _ _ ⟨K, hK, c⟩ k => ⟨K, PySem.W.Frag.In.keeps hK k, c.more, c.fn, fun p hp => k _ _ (c.empty p hp)⟩
theorem obsM_eq {ex : PySem.W.Frag → Bool} {tf : List He.Defn} {fns : List He.FnD} {g : Addr → Option Obj} {s : Shared} (h : ∀ a, g a = s.heap.get? a) : obsM ex tf fns g = (hookM ex tf fns).obs s := by
  have e : g = s.heap.get? := funext h
  rw [e] <;> rfl
structure Lays where
  fr : List Str := []
  df : List (Str × Str × Stmt) := []
  dm : List (Str × Str × Str × Stmt) := []
  di : List (Str × Str × Stmt) := []
  hf : List (Str × Str) := []
  gi : List (Str × Int) := []
  gs : List (Str × Str) := []
def frB (K : PySem.W.Frag) (x : Str) : Bool := He.eqO (PySem.W.nsIn K mainGlobals x) (some none)
def dfB (K : PySem.W.Frag) (y x : Str) : Bool := He.eqO (PySem.W.nsIn K mainGlobals y) (some (some (.ref (He.fAd K (y, none))))) && (PySem.W.codeIn K (fdO K (He.fAd K (y, none))).code x && PySem.W.keepIn K (.ref (He.fAd K (y, none))))
def clB (K : PySem.W.Frag) (c : Str) : Bool := He.eqO (PySem.W.nsIn K mainGlobals c) (some (some (.ref (He.ga K c)))) && (PySem.W.plainGet K (He.ga K c) Str.empty && (PySem.W.hasDictIn K (He.ga K c) && (PySem.W.plainOver K (He.ga K c) && He.eqO (PySem.W.findIn K (.ref (He.ga K c)) "__setattr__") (some (some (.builtin "object.__setattr__"))))))
def dmB (K : PySem.W.Frag) (c m q : Str) : Bool := clB K c && (He.eqO (PySem.W.findIn K (.ref (He.ga K c)) m) (some (some (.ref (He.fAd K (c, some m))))) && (PySem.W.isFn K (.ref (He.fAd K (c, some m))) && (PySem.W.codeIn K (fdO K (He.fAd K (c, some m))).code q && PySem.W.keepIn K (.ref (He.fAd K (c, some m))))))
def diB (K : PySem.W.Frag) (c q : Str) : Bool := He.eqO (PySem.W.nsIn K mainGlobals c) (some (some (.ref (He.ga K c)))) && (PySem.W.makesIn K (He.ga K c) && (PySem.W.keepIn K (.ref (He.ga K c)) && (He.eqO (PySem.W.findIn K (.ref (He.ga K c)) "__init__") (some (some (.ref (He.fAd K (c, some "__init__"))))) && (PySem.W.isFn K (.ref (He.fAd K (c, some "__init__"))) && (PySem.W.codeIn K (fdO K (He.fAd K (c, some "__init__"))).code q && PySem.W.keepIn K (.ref (He.fAd K (c, some "__init__"))))))))
def hfB (K : PySem.W.Frag) (c a : Str) : Bool := clB K c && He.eqO (PySem.W.findIn K (.ref (He.ga K c)) a) (some none)
def giB (K : PySem.W.Frag) (x : Str) (i : Int) : Bool := He.eqO (PySem.W.nsIn K mainGlobals x) (some (some (.int i (tkG K x))))
def gsB (K : PySem.W.Frag) (x z : Str) : Bool := He.eqO (PySem.W.nsIn K mainGlobals x) (some (some (.str z (tkG K x))))
def Lays.ex (L : Lays) (K : PySem.W.Frag) : Bool := L.fr.all (frB K) && (L.df.all (fun p => dfB K p.1 p.2.1) && (L.dm.all (fun p => dmB K p.1 p.2.1 p.2.2.1) && (L.di.all (fun p => diB K p.1 p.2.1) && (L.hf.all (fun p => hfB K p.1 p.2) && (L.gi.all (fun p => giB K p.1 p.2) && L.gs.all (fun p => gsB K p.1 p.2))))))
def dfD (p : Str × Str × Stmt) : He.FnD := ⟨(p.1, none), p.2.1, p.2.1, defArgs p.2.2, defBody p.2.2, defScope p.2.2⟩
def dmD (p : Str × Str × Str × Stmt) : He.FnD := ⟨(p.1, some p.2.1), p.2.1, p.2.2.1, defArgs p.2.2.2, defBody p.2.2.2, defScope p.2.2.2⟩
def diD (p : Str × Str × Stmt) : He.FnD := ⟨(p.1, some "__init__"), "__init__", p.2.1, defArgs p.2.2, defBody p.2.2, defScope p.2.2⟩
def Lays.fns (L : Lays) (more : List He.FnD) : List He.FnD := L.df.map dfD ++ (L.dm.map dmD ++ (L.di.map diD ++ more))
def codeVs (vs : Array Value) (c P : Addr) : Bool := (match (vs[11]? : Option Value) with | some (.ref P') => P' == P | _ => false) &&
      (match vs.getD 18 .none with | .str _ _ => true | _ => false) && (match vs.getD 7 .none with | .int _ _ => true | _ => false) &&
      (match vs.getD 9 .none with | .bool _ => true | _ => false) && (match vs.getD 10 .none with | .int _ _ => true | _ => false) && c != P
def bltN : List Str := ["abs", "all", "dict", "enumerate", "int", "isinstance", "len", "list", "max", "min", "range", "repr", "sum", "tuple", "zip", "bool", "str", "any", "sorted", "set"]
end Hd
end Mir
end
section
set_option maxHeartbeats 400000
namespace K3
open PySem PySem.Spec PyProof.Rows L2
def topS (i : Nat) : Stmt := PySem.Challenge.pw_wearybeams_k02_weighings_and_rows.main.body.getD i (.Pass ⟨0, 0, 0, 0⟩)
abbrev s_is_name : Stmt := topS 17
abbrev s_is_whole : Stmt := topS 18
abbrev s_is_from : Stmt := topS 19
abbrev s_are_names : Stmt := topS 20
abbrev s_is_beam : Stmt := topS 21
abbrev s_are_beams : Stmt := topS 22
abbrev s_tuples_of : Stmt := topS 23
abbrev s_Yard_init : Stmt := (inClass (topS 24) 0)
abbrev s_Yard_things : Stmt := (inClass (topS 24) 3)
abbrev s_Yard_beams : Stmt := (inClass (topS 24) 4)
abbrev s_pans : Stmt := topS 25
abbrev s_need_pan : Stmt := topS 26
abbrev s_need_beam : Stmt := topS 27
abbrev s_NoPan_init : Stmt := (inClass (topS 4) 0)
abbrev s_NoBeam_init : Stmt := (inClass (topS 5) 0)
abbrev s_are_parts : Stmt := topS 33
abbrev s_is_weighing : Stmt := topS 34
abbrev s_is_row : Stmt := topS 35
abbrev s_need_log : Stmt := topS 36
abbrev s_NoRow_init : Stmt := (inClass (topS 3) 0)
abbrev s_weighings_at : Stmt := topS 37
abbrev s_weighings : Stmt := topS 38
abbrev s__law_next : Stmt := topS 41
abbrev s__law_pick : Stmt := topS 42
abbrev s__law_names : Stmt := topS 43
abbrev s__law_row : Stmt := topS 44
abbrev s__law_weighing : Stmt := topS 45
abbrev s__law_is_parts : Stmt := topS 46
abbrev s__law_is_weighing : Stmt := topS 47
abbrev s__law_is_row : Stmt := topS 48
abbrev s__law_odd : Stmt := topS 49
abbrev s__law_item : Stmt := topS 50
abbrev s__law_all : Stmt := topS 52
abbrev s__law_refused : Stmt := topS 51
abbrev s_law : Stmt := topS 53
abbrev s_begun : Stmt := topS 40
end K3
end
section
set_option maxHeartbeats 0
namespace K3
open PySem PySem.Spec PyProof.Rows L2 Mir
def LL : Hd.Lays where
  fr := Hd.bltN ++ ([] : List Str)
  df := [("_law_begun", "_law_begun", s_begun), ("is_name", "is_name", s_is_name), ("is_whole", "is_whole", s_is_whole), ("is_from", "is_from", s_is_from), ("are_names", "are_names", s_are_names), ("is_beam", "is_beam", s_is_beam), ("are_beams", "are_beams", s_are_beams), ("tuples_of", "tuples_of", s_tuples_of), ("pans", "pans", s_pans), ("need_pan", "need_pan", s_need_pan), ("need_beam", "need_beam", s_need_beam), ("are_parts", "are_parts", s_are_parts), ("is_weighing", "is_weighing", s_is_weighing), ("is_row", "is_row", s_is_row), ("need_log", "need_log", s_need_log), ("weighings_at", "weighings_at", s_weighings_at), ("weighings", "weighings", s_weighings), ("_law_next", "_law_next", s__law_next), ("_law_pick", "_law_pick", s__law_pick), ("_law_names", "_law_names", s__law_names), ("_law_row", "_law_row", s__law_row), ("_law_weighing", "_law_weighing", s__law_weighing), ("_law_is_parts", "_law_is_parts", s__law_is_parts), ("_law_is_weighing", "_law_is_weighing", s__law_is_weighing), ("_law_is_row", "_law_is_row", s__law_is_row), ("_law_odd", "_law_odd", s__law_odd), ("_law_item", "_law_item", s__law_item), ("_law_all", "_law_all", s__law_all), ("_law_refused", "_law_refused", s__law_refused)]
  dm := [("Yard", "things", "Yard.things", s_Yard_things), ("Yard", "beams", "Yard.beams", s_Yard_beams)]
  di := [("Yard", "Yard.__init__", s_Yard_init)]
  hf := [("Yard", "thing_names"), ("Yard", "beam_steps"), ("Yard", "heaviest"), ("Yard", "farthest")]
  gi := [("LONGEST", 8), ("MOST_STEP", 5), ("MOST_BEAMS", 3), ("MOST_THINGS", 8), ("MOST_LEAN", 9), ("MOST_WEIGHT", 100), ("MOST_TUPLES", 400)]
  gs := [("SMALL", "abcdefghijklmnopqrstuvwxyz")]
def more : List He.FnD := [⟨("NoPan", some "__init__"), "__init__", "NoPan.__init__", defArgs s_NoPan_init, defBody s_NoPan_init, defScope s_NoPan_init⟩, ⟨("NoBeam", some "__init__"), "__init__", "NoBeam.__init__", defArgs s_NoBeam_init, defBody s_NoBeam_init, defScope s_NoBeam_init⟩, ⟨("NoRow", some "__init__"), "__init__", "NoRow.__init__", defArgs s_NoRow_init, defBody s_NoRow_init, defScope s_NoRow_init⟩, ⟨("law", none), "law", "law", defArgs s_law, defBody s_law, defScope s_law⟩]
def ex_0 (K : PySem.W.Frag) : List Bool := [He.eqO (PySem.W.nsIn K mainGlobals "NoPan") (some (some (.ref (He.ga K "NoPan")))), PySem.W.isClsIn K (He.ga K "NoPan"), decide (PySem.W.typeIn K (.ref (He.ga K "NoPan")) = some (.type "type")), He.eqO (PySem.W.findIn K (.ref (He.ga K "NoPan")) "__getattribute__") (some (some (.builtin "BaseException.__getattribute__"))), He.eqO (PySem.W.findIn K (.ref (He.ga K "NoPan")) "__getattr__") (some none), decide (PySem.W.subIn K (.ref (He.ga K "NoPan")) (.type "BaseException") = some true), PySem.W.hasDictIn K (He.ga K "NoPan"), He.eqO (PySem.W.findIn K (.ref (He.ga K "NoPan")) "__class__") (some (some (.builtin "object.__class__"))), decide (PySem.W.mroIn K (He.ga K "NoPan") (.type "object") = some true), He.eqO (PySem.W.specialIn K (.builtin "object.__class__") "__get__") (some (some (.builtin "getset_descriptor.__get__"))), decide (PySem.W.takesIn K (.builtin "object.__class__") = some true), He.eqO (PySem.W.nsIn K mainGlobals "BeamError") (some (some (.ref (He.ga K "BeamError")))), PySem.W.isClsIn K (He.ga K "BeamError"), decide (PySem.W.typeIn K (.ref (He.ga K "BeamError")) = some (.type "type")), Hd.exB K (He.ga K "NoPan") [.ref (He.ga K "BeamError"), .type "ValueError", .type "Exception", .type "BaseException", .type "object"], He.eqO (PySem.W.findIn K (.ref (He.ga K "NoPan")) "__setattr__") (some (some (.builtin "object.__setattr__"))), PySem.W.keepIn K (.ref (He.ga K "NoPan")), He.eqO (PySem.W.findIn K (.ref (He.ga K "NoPan")) "pan") (some none), He.eqO (PySem.W.findIn K (.ref (He.ga K "NoPan")) "__init__") (some (some (.ref (He.fAd K ("NoPan", some "__init__"))))), decide (PySem.W.typeIn K (.ref (He.fAd K ("NoPan", some "__init__"))) = some (.type "function"))]
def ex_1 (K : PySem.W.Frag) : List Bool := [PySem.W.codeIn K (Hd.fdO K (He.fAd K ("NoPan", some "__init__"))).code "NoPan.__init__", PySem.W.keepIn K (.ref (He.fAd K ("NoPan", some "__init__"))), PySem.W.readsIn K (He.ga K "BeamError") (.type "type"), He.eqO (PySem.W.specialIn K (.ref (He.ga K "BeamError")) "__getattribute__") (some (some (.builtin "type.__getattribute__"))), Hd.fcB K (.ref (He.ga K "BeamError")) (.type "type") "__init__" (.builtin "ValueError.__init__"), He.eqO (PySem.W.nsIn K mainGlobals "NoBeam") (some (some (.ref (He.ga K "NoBeam")))), PySem.W.isClsIn K (He.ga K "NoBeam"), decide (PySem.W.typeIn K (.ref (He.ga K "NoBeam")) = some (.type "type")), He.eqO (PySem.W.findIn K (.ref (He.ga K "NoBeam")) "__getattribute__") (some (some (.builtin "BaseException.__getattribute__"))), He.eqO (PySem.W.findIn K (.ref (He.ga K "NoBeam")) "__getattr__") (some none), decide (PySem.W.subIn K (.ref (He.ga K "NoBeam")) (.type "BaseException") = some true), PySem.W.hasDictIn K (He.ga K "NoBeam"), He.eqO (PySem.W.findIn K (.ref (He.ga K "NoBeam")) "__class__") (some (some (.builtin "object.__class__"))), decide (PySem.W.mroIn K (He.ga K "NoBeam") (.type "object") = some true), Hd.exB K (He.ga K "NoBeam") [.ref (He.ga K "BeamError"), .type "ValueError", .type "Exception", .type "BaseException", .type "object"], He.eqO (PySem.W.findIn K (.ref (He.ga K "NoBeam")) "__setattr__") (some (some (.builtin "object.__setattr__"))), PySem.W.keepIn K (.ref (He.ga K "NoBeam")), He.eqO (PySem.W.findIn K (.ref (He.ga K "NoBeam")) "beam") (some none), He.eqO (PySem.W.findIn K (.ref (He.ga K "NoBeam")) "__init__") (some (some (.ref (He.fAd K ("NoBeam", some "__init__"))))), decide (PySem.W.typeIn K (.ref (He.fAd K ("NoBeam", some "__init__"))) = some (.type "function"))]
def ex_2 (K : PySem.W.Frag) : List Bool := [PySem.W.codeIn K (Hd.fdO K (He.fAd K ("NoBeam", some "__init__"))).code "NoBeam.__init__", PySem.W.keepIn K (.ref (He.fAd K ("NoBeam", some "__init__"))), decide (PySem.W.subIn K (.ref (He.ga K "NoPan")) (.ref (He.ga K "NoBeam")) = some false), decide (PySem.W.subIn K (.ref (He.ga K "NoPan")) (.ref (He.ga K "NoPan")) = some true), decide (PySem.W.subIn K (.ref (He.ga K "NoBeam")) (.ref (He.ga K "NoBeam")) = some true), decide (PySem.W.subIn K (.ref (He.ga K "NoBeam")) (.ref (He.ga K "NoPan")) = some false), He.eqO (PySem.W.nsIn K mainGlobals "WORDS") (some (some (.ref (He.ga K "WORDS")))), Hd.tpB K (He.ga K "WORDS") [.str "left" (Hd.tkA K (He.ga K "WORDS") 0), .str "even" (Hd.tkA K (He.ga K "WORDS") 1), .str "right" (Hd.tkA K (He.ga K "WORDS") 2)], He.eqO (PySem.W.nsIn K mainGlobals "NoRow") (some (some (.ref (He.ga K "NoRow")))), PySem.W.isClsIn K (He.ga K "NoRow"), decide (PySem.W.typeIn K (.ref (He.ga K "NoRow")) = some (.type "type")), He.eqO (PySem.W.findIn K (.ref (He.ga K "NoRow")) "__getattribute__") (some (some (.builtin "BaseException.__getattribute__"))), He.eqO (PySem.W.findIn K (.ref (He.ga K "NoRow")) "__getattr__") (some none), decide (PySem.W.subIn K (.ref (He.ga K "NoRow")) (.type "BaseException") = some true), PySem.W.hasDictIn K (He.ga K "NoRow"), He.eqO (PySem.W.findIn K (.ref (He.ga K "NoRow")) "__class__") (some (some (.builtin "object.__class__"))), decide (PySem.W.mroIn K (He.ga K "NoRow") (.type "object") = some true), Hd.exB K (He.ga K "NoRow") [.ref (He.ga K "BeamError"), .type "ValueError", .type "Exception", .type "BaseException", .type "object"], He.eqO (PySem.W.findIn K (.ref (He.ga K "NoRow")) "__setattr__") (some (some (.builtin "object.__setattr__"))), PySem.W.keepIn K (.ref (He.ga K "NoRow"))]
def ex_3 (K : PySem.W.Frag) : List Bool := [He.eqO (PySem.W.findIn K (.ref (He.ga K "NoRow")) "at") (some none), He.eqO (PySem.W.findIn K (.ref (He.ga K "NoRow")) "__init__") (some (some (.ref (He.fAd K ("NoRow", some "__init__"))))), decide (PySem.W.typeIn K (.ref (He.fAd K ("NoRow", some "__init__"))) = some (.type "function")), PySem.W.codeIn K (Hd.fdO K (He.fAd K ("NoRow", some "__init__"))).code "NoRow.__init__", PySem.W.keepIn K (.ref (He.fAd K ("NoRow", some "__init__"))), decide (PySem.W.subIn K (.ref (He.ga K "NoBeam")) (.ref (He.ga K "NoRow")) = some false), decide ((He.ga K "NoBeam") ≠ (He.ga K "NoRow")), decide (PySem.W.subIn K (.ref (He.ga K "NoPan")) (.ref (He.ga K "NoRow")) = some false), decide ((He.ga K "NoPan") ≠ (He.ga K "NoRow")), decide (PySem.W.subIn K (.ref (He.ga K "NoRow")) (.ref (He.ga K "NoRow")) = some true), decide (PySem.W.subIn K (.ref (He.ga K "BeamError")) (.type "BaseException") = some true), decide (PySem.W.subIn K (.ref (He.ga K "NoRow")) (.ref (He.ga K "BeamError")) = some true), decide (PySem.W.subIn K (.ref (He.ga K "NoPan")) (.ref (He.ga K "BeamError")) = some true), decide (PySem.W.subIn K (.ref (He.ga K "NoBeam")) (.ref (He.ga K "BeamError")) = some true), decide ((He.ga K "NoBeam") ≠ (He.ga K "NoPan")), decide ((He.ga K "NoPan") ≠ (He.ga K "NoBeam")), decide (PySem.W.subIn K (.ref (He.ga K "NoRow")) (.ref (He.ga K "NoBeam")) = some false), decide ((He.ga K "NoRow") ≠ (He.ga K "NoBeam")), decide (PySem.W.subIn K (.ref (He.ga K "NoRow")) (.ref (He.ga K "NoPan")) = some false), decide ((He.ga K "NoRow") ≠ (He.ga K "NoPan"))]
def ex_4 (K : PySem.W.Frag) : List Bool := [He.eqO (PySem.W.nsIn K mainGlobals "law") (some (some (.ref (He.fAd K ("law", none))))), decide ((Hd.fdO K (He.fAd K ("law", none))).code = .ref (He.codeOf K ("law", none))), PySem.W.codeIn K (.ref (He.codeOf K ("law", none))) "law", PySem.W.keepIn K (.ref (He.fAd K ("law", none))), Hd.cdB K (He.codeOf K ("law", none)), decide (((Hd.vsO K (He.codeOf K ("law", none)))[11]? : Option Value) = some (.ref (He.tabOf K (He.codeOf K ("law", none))))), Hd.codeVs (Hd.vsO K (He.codeOf K ("law", none))) (He.codeOf K ("law", none)) (He.tabOf K (He.codeOf K ("law", none))), (K.lookup (He.tabOf K (He.codeOf K ("law", none)))).isNone]
def ex (K : PySem.W.Frag) : Bool := LL.ex K && Hd.exAll [ex_0, ex_1, ex_2, ex_3, ex_4] K
def tf : List He.Defn := [("law", none)]
def loose_0 : List Str := ["BeamError", "NoYard", "NoRow", "NoPan", "NoBeam", "MOST", "LEAN", "MOST_THINGS", "MOST_BEAMS", "MOST_WEIGHT", "MOST_LEAN", "MOST_STEP", "MOST_TUPLES", "LONGEST", "SMALL", "is_name", "is_whole", "is_from", "are_names", "is_beam", "are_beams", "tuples_of", "Yard", "pans", "need_pan", "need_beam", "LEFT", "EVEN", "RIGHT", "WORDS"]
def loose_1 : List Str := ["are_parts", "is_weighing", "is_row", "need_log", "weighings_at", "weighings", "_law_begun", "_law_next", "_law_pick", "_law_names", "_law_row", "_law_weighing", "_law_is_parts", "_law_is_weighing", "_law_is_row", "_law_odd", "_law_item", "_law_refused", "_law_all"]
abbrev loose : List Str := loose_0 ++ loose_1
abbrev hk : PySem.W.Hook := Hd.hookM ex tf (LL.fns more)
def ob (s : PySem.W.SharedT) : Hd.Al := Hd.obsM ex tf (LL.fns more) (HandSHeadRun.getT s)
theorem ob_eq (s : PySem.W.SharedT) : ob s = hk.obs s.abs := Hd.obsM_eq (HandSHeadRun.getT_eq s)
theorem run (w : World) : HandSHeadRun.RunEq (PySem.W.OpenLaw.row PySem.Challenge.rw_wearybeams_k02_weighings_and_rows) (PySem.W.view (PySem.W.OpenLaw.row PySem.Challenge.rw_wearybeams_k02_weighings_and_rows).prog [53]) hk ob 100000 loose w := by
  intro os
  kernel_rfl
end K3
end
section
set_option maxHeartbeats 1000000
namespace Mir
open PySem PySem.Spec PyProof.Rows L2
abbrev St := L2.St
abbrev NKey := Option Key
def kN : NKey → V
  | none => .non
  | some k => kV k
abbrev NRow := List NKey × Addr × V
def stripN (kvs : List NRow) : List (List NKey × V) := kvs.map fun p => (p.1, p.2.2)
def putN (kvs : List NRow) (k : List NKey) (b : Addr) (v : V) : List NRow :=
  if ((stripN kvs).any fun kv => decide (kv.1 = k)) = true then kvs.map (fun p => if p.1 = k then (p.1, p.2.1, v) else p) else kvs ++ [(k, b, v)]
def entN (hf : List NKey → Int) (x : List NKey × Addr × Value) : DictEntry := ⟨hf (none :: x.1), .ref x.2.1, x.2.2⟩
def NV (p : NRow) (q : List NKey × Addr × Value) : Prop := p.1 = q.1 ∧ p.2.1 = q.2.1 ∧ RelV p.2.2 q.2.2
theorem NV.val {kvs : List NRow} {xs : List (List NKey × Addr × Value)} (r : Paired NV kvs xs) (k : List NKey) : RelO (valV (stripN kvs) k) ((atKey xs k).map (·.2)) := by
  induction r with
  | nil => exact True.intro
  | @cons p q ps qs h t ih =>
    obtain ⟨h1, _, h2⟩ := h
    show RelO (valV ((p.1, p.2.2) :: stripN ps) k) _
    by_cases e : p.1 = k
    · have e' : q.1 = k := h1.symm.trans e
      have b : atKey (q :: qs) k = some q.2 := by simp [atKey, List.find?_cons, e']
      rw [valV_pos (p := (p.1, p.2.2)) e, b]; exact h2
    · have e' : ¬ q.1 = k := fun z => e (h1.trans z)
      have b : atKey (q :: qs) k = atKey qs k := by simp [atKey, List.find?_cons, e']
      rw [valV_neg (p := (p.1, p.2.2)) e, b]; exact ih
theorem NV.repl {kvs : List NRow} {xs : List (List NKey × Addr × Value)} (r : Paired NV kvs xs) (k : List NKey) {y : V} {u : Value} (ry : RelV y u) :
    Paired NV (kvs.map fun p => if p.1 = k then (p.1, p.2.1, y) else p) (xs.map (putAt k u)) := by
  induction r with
  | nil => exact .nil
  | @cons p q ps qs h t ih =>
    rw [List.map_cons, List.map_cons]
    refine .cons ?_ ih
    obtain ⟨h1, h2, h3⟩ := h
    unfold putAt
    by_cases e : p.1 = k
    · rw [if_pos e, if_pos (h1.symm.trans e)]; exact ⟨h1, h2, ry⟩
    · rw [if_neg e, if_neg (fun z => e (h1.trans z))]; exact ⟨h1, h2, h3⟩
theorem NV.put {kvs : List NRow} {xs : List (List NKey × Addr × Value)} (r : Paired NV kvs xs) (k : List NKey) {b : Addr} {y : V} {u : Value} (ry : RelV y u) :
    Paired NV (putN kvs k b y) (storedH xs k b u) := by
  have e : ((stripN kvs).any fun kv => decide (kv.1 = k)) = (atKey xs k).isSome := by
    rw [valV_any, (NV.val r k).isSome_eq, Option.isSome_map]
  unfold putN storedH
  rw [e]
  by_cases q : (atKey xs k).isSome = true
  · rw [if_pos q, if_pos q]; exact NV.repl r k ry
  · rw [if_neg q, if_neg q]; exact Paired.snoc r ⟨rfl, rfl, ry⟩
def DNp (hf : List NKey → Int) (a : Addr) (kvs : List NRow) (h : Heap) : Prop := kvs.length ≤ sizeLine ∧ (a == sysModules) = false ∧ ∃ xs : List (List NKey × Addr × Value), Paired NV kvs xs ∧
  ∃ o es ep, h.get? a = some o ∧ o.ExactDict ∧ o.data = .dict es ep ∧ es.toList = xs.map (entN hf) ∧ (xs.map (·.1)).Nodup
def DNo (hf : List NKey → Int) (a : Addr) (kvs : List NRow) : HO := .ext (DNp hf a kvs)
theorem DNp.stay {hf : List NKey → Int} {a : Addr} {kvs : List NRow} {h1 h2 : Heap} (x : DNp hf a kvs h1) (k : ∀ o, h1.get? a = some o → h2.get? a = some o) : DNp hf a kvs h2 := by
  obtain ⟨z, y, xs, r, o, es, ep, e, c⟩ := x
  exact ⟨z, y, xs, r, o, es, ep, k _ e, c⟩
theorem DNo.ok {P : Program} {w : World} {H : Hp} {hf : List NKey → Int} {a : Addr} {kvs : List NRow} {h : Heap} (x : DNp hf a kvs h) : ObjOk P w H h a (DNo hf a kvs) :=
  ⟨x, by obtain ⟨_, _, _, _, o, _, _, e, _⟩ := x; exact ⟨o, e⟩, fun _ _ => DNp.stay⟩
def KeysIn (H : Hp) (kvs : List NRow) : Prop := ∀ p ∈ kvs, H p.2.1 = some (.tup (p.1.map kN))
theorem KeysIn.mono {H H' : Hp} {kvs : List NRow} (h : KeysIn H kvs) (t : ∀ b ys, H b = some (.tup ys) → H' b = some (.tup ys)) : KeysIn H' kvs := fun p hp => t _ _ (h p hp)
theorem KeysIn.put {H : Hp} {kvs : List NRow} {k : List NKey} {b : Addr} {v : V} (h : KeysIn H kvs) (e : H b = some (.tup (k.map kN))) : KeysIn H (putN kvs k b v) := fun p hp => by
  unfold putN at hp
  split at hp
  · obtain ⟨q, hq, rfl⟩ := List.mem_map.mp hp
    split
    · exact h q hq
    · exact h q hq
  · rcases List.mem_append.mp hp with hp | hp
    · exact h p hp
    · rw [List.mem_singleton.mp hp]; exact e
inductive PairsN : List DictEntry → List (NKey × Value) → Prop
  | nil : PairsN [] []
  | cons {e : DictEntry} {kv : NKey × Value} {es : List DictEntry} {kvs : List (NKey × Value)} : nkIs kv.1 e.key = true → e.val = kv.2 → PairsN es kvs → PairsN (e :: es) (kv :: kvs)
theorem PairsN.of {P : Program} {w : World} : ∀ {es : List DictEntry} {kvs : List (NKey × Value)}, Pairs (noneKind P w) es kvs → PairsN es kvs
  | _, _, .nil => .nil
  | _, _, .cons h1 h2 t => .cons h1 h2 (PairsN.of t)
theorem PairsN.to {P : Program} {w : World} : ∀ {es : List DictEntry} {kvs : List (NKey × Value)}, PairsN es kvs → Pairs (noneKind P w) es kvs
  | _, _, .nil => .nil
  | _, _, .cons h1 h2 t => .cons h1 h2 (PairsN.to t)
def hkH (hf : List NKey → Int) : NKey → Int
  | none => reduceHash 0xFCA86420
  | some k => hf [some k]
def DKp (hf : List NKey → Int) (a : Addr) (kvs : List (NKey × V)) (h : Heap) : Prop := kvs.length ≤ sizeLine ∧ (a == sysModules) = false ∧ ∃ xs : List (NKey × Value), KV kvs xs ∧
  ∃ o es ep, h.get? a = some o ∧ o.ExactDict ∧ o.data = .dict es ep ∧ (∀ e ∈ es, ∃ k, nkIs k e.key = true ∧ e.hash = hkH hf k) ∧ PairsN es.toList xs ∧ (xs.map (·.1)).Nodup
def DKo (hf : List NKey → Int) (a : Addr) (kvs : List (NKey × V)) : HO := .ext (DKp hf a kvs)
theorem DKp.stay {hf : List NKey → Int} {a : Addr} {kvs : List (NKey × V)} {h1 h2 : Heap} (x : DKp hf a kvs h1) (k : ∀ o, h1.get? a = some o → h2.get? a = some o) : DKp hf a kvs h2 := by
  obtain ⟨z, y, xs, r, o, es, ep, e, c⟩ := x
  exact ⟨z, y, xs, r, o, es, ep, k _ e, c⟩
theorem DKo.ok {P : Program} {w : World} {H : Hp} {hf : List NKey → Int} {a : Addr} {kvs : List (NKey × V)} {h : Heap} (x : DKp hf a kvs h) : ObjOk P w H h a (DKo hf a kvs) :=
  ⟨x, by obtain ⟨_, _, _, _, o, _, _, e, _⟩ := x; exact ⟨o, e⟩, fun _ _ => DKp.stay⟩
section
variable {P : Program} {w : World} {H : Hp} {h : Heap} {a b : Addr} {ks : List NKey} {kvs : List NRow}
end
section
variable {X : Cx} {pins : List (Addr × Obj)} {σ : St} {H : Hp} {s : Shared} {a : Addr} {y v dv : V} {u r : Value} {o : Option V} {A : Around} {E : Value → Shared → Prop}
end
section
variable {X : Cx} {o i e f value : Expr} {pos pos' apos cpos : Pos} {td ty tx tv : TE}
end
end Mir
end
section
set_option maxHeartbeats 2000000
namespace Mir
open PySem PySem.Spec PyProof.Rows L2
abbrev TV := Option ((List NKey → Int) × List (List NKey × Int × Int × NKey))
inductive D where
  | non | bl (b : Bool) | int (i : Int) | str (x : Str)
  | lst (xs : List D) | ro (xs : List D) | tup (xs : List D) | dic (kvs : List (Key × D)) | obj (c : Str) (fs : List (Str × D)) | st | ln (xs : List D) | plt (xs : List D) | rot (xs : List D) | dct (kvs : List (List Key × D))
  | dtn (hf : List NKey → Int) (kvs : List (List NKey × D)) | mem (F : List Key → TV → Prop) | lam (x : Str) | lamc (x : Str) (ws : List D) | dnk (hf : List NKey → Int) (kvs : List (NKey × D))
  | exc (c : Str) (fs : List (Str × D))
structure Drw where
  dg : Int
  gr : List Int
  ce : List Int
  tn : Int
inductive R (α : Type) where
  | ok (a : α) (s : Drw)
  | bad
def M (α : Type) := Drw → R α
def M.pur {α : Type} (a : α) : M α := fun s => .ok a s
def M.bnd {α β : Type} (m : M α) (f : α → M β) : M β := fun s => match m s with
  | .ok a s' => f a s'
  | .bad => .bad
instance : Monad M where
  pure := M.pur
  bind := M.bnd
def bad {α : Type} : M α := fun _ => .bad
def guardB {α : Type} (b : Bool) (m : M α) : M α := if b = true then m else bad
def Wp {α : Type} (r : R α) (P : α → Drw → Prop) : Prop := match r with
  | .ok a s => P a s
  | .bad => False
section
variable {α β : Type} {m : M α} {f : α → M β} {s : Drw} {P : α → Drw → Prop}
theorem pure_run (a : α) : (pure a : M α) s = .ok a s := rfl
theorem bind_run : (m >>= f) s = match m s with
  | .ok a s' => f a s'
  | .bad => .bad := rfl
theorem Wp_bind {P : β → Drw → Prop} : Wp ((m >>= f) s) P ↔ Wp (m s) fun a s' => Wp (f a s') P := by
  rw [bind_run]
  cases m s with
  | ok a s' => exact Iff.rfl
  | bad => exact Iff.rfl
theorem Wp.imp {r : R α} {P Q : α → Drw → Prop} (h : Wp r P) (k : ∀ a s, P a s → Q a s) : Wp r Q := by
  cases r with
  | ok a s' => exact k _ _ h
  | bad => exact h
theorem Wp_guard {b : Bool} : Wp (guardB b m s) P ↔ b = true ∧ Wp (m s) P := by
  unfold guardB
  cases b with
  | true => exact ⟨fun h => ⟨rfl, h⟩, fun h => h.2⟩
  | false => exact ⟨fun h => h.elim, fun h => nomatch h.1⟩
theorem pure_bind' (a : α) (f : α → M β) : (pure a >>= f) = f a := rfl
theorem bind_pure' (m : M α) : (m >>= pure) = m := by
  funext s
  show (match m s with
    | .ok a s' => R.ok a s'
    | .bad => R.bad) = m s
  cases m s <;> rfl
theorem bind_assoc' {γ : Type} (m : M α) (f : α → M β) (g : β → M γ) : (m >>= f >>= g) = m >>= fun a => f a >>= g := by
  funext s
  rw [bind_run, bind_run, bind_run]
  cases m s <;> rfl
theorem guard_true (m : M α) : guardB true m = m := rfl
theorem guard_of {b : Bool} (h : b = true) (m : M α) : guardB b m = m := by rw [h]; rfl
end
structure LamT where
  q : Str
  params : Arguments
  body : Expr
  scope : Scope
  cl : List (Str × Addr)
  vs : List V
class Tab where
  T : List (Addr × Str)
  L : Str → Option LamT
  u : ∀ p ∈ T, T.lookup p.1 = some p.2
instance (priority := low) tab0 : Tab := ⟨[], fun _ => none, fun _ h => nomatch h⟩
def LamO (f : Addr) (L : LamT) (c : Addr) : HO := .ext fun h => ∃ pm ctv : Value, h.get? f = some (PySem.W.kla_obj "<lambda>" L.q L.params L.body L.scope L.cl pm c ctv)
def ExcO (a C : Addr) (d : Option Addr) : HO := .ext fun h => ∃ (oe : Obj) (vs : Array Value), h.get? a = some oe ∧ Zc (.ref C) d oe ∧ oe.data = .fields vs
def ExD (G : Hp) (d : Option Addr) (vfs : List (Str × V)) : Prop := (d = none ∧ vfs = []) ∨ ∃ dd, d = some dd ∧ G dd = some (.xd vfs)
theorem ExD.mono {G G' : Hp} {d : Option Addr} {vfs : List (Str × V)} (h : ExD G d vfs) (e : ∀ b o, G b = some o → G' b = some o) : ExD G' d vfs := by
  rcases h with h | ⟨dd, h1, h2⟩
  · exact .inl h
  · exact .inr ⟨dd, h1, e _ _ h2⟩
inductive WX where
  | mem (F : List Key → TV → Prop)
  | tab (q : Str)
variable [Tab]
structure SA where
  s : Addr
  g : Addr
  c : Addr
  L : Addr → Option (List V) := fun _ => none
  W : Addr → Option WX := fun _ => none
def inS (S : SA) (b : Addr) : Prop := b = S.s ∨ b = S.g ∨ b = S.c ∨ S.L b ≠ none ∨ S.W b ≠ none
def stK (S : SA) (d : Drw) : List (Key × V) := [(.inr "digits", .int d.dg), (.inr "great", .ref S.g), (.inr "cells", .ref S.c), (.inr "turn", .int d.tn)]
structure StR (S : SA) (H : Hp) (d : Drw) : Prop where
  s : H S.s = some (.dK (stK S d))
  g : H S.g = some (.lst (d.gr.map V.int))
  c : H S.c = some (.lst (d.ce.map V.int))
  gc : S.g ≠ S.c
  l : ∀ b vs, S.L b = some vs → H b = some (.lst vs) ∧ b ≠ S.s ∧ b ≠ S.g ∧ b ≠ S.c
  w : ∀ b F, S.W b = some F → H b ≠ none ∧ b ≠ S.s ∧ b ≠ S.g ∧ b ≠ S.c ∧ S.L b = none
  t : ∀ p ∈ Tab.T, S.W p.1 = some (.tab p.2)
theorem StR.tracked {S : SA} {H : Hp} {d : Drw} (h : StR S H d) {b : Addr} (hb : inS S b) : H b ≠ none := by
  rcases hb with e | e | e | e | e
  · rw [e, h.s]; exact fun z => nomatch z
  · rw [e, h.g]; exact fun z => nomatch z
  · rw [e, h.c]; exact fun z => nomatch z
  · obtain ⟨vs, ev⟩ := Option.ne_none_iff_exists'.mp e
    rw [(h.l b vs ev).1]; exact fun z => nomatch z
  · obtain ⟨F, ev⟩ := Option.ne_none_iff_exists'.mp e
    exact (h.w b F ev).1
theorem inS.l {S : SA} {b : Addr} {vs : List V} (h : S.L b = some vs) : inS S b := .inr (.inr (.inr (.inl (by rw [h]; exact fun z => nomatch z))))
theorem inS.w {S : SA} {b : Addr} {F : WX} (h : S.W b = some F) : inS S b := .inr (.inr (.inr (.inr (by rw [h]; exact fun z => nomatch z))))
theorem StR.alt {S : SA} {H : Hp} {d : Drw} {a : Addr} {o : HO} (h : StR S H d) (n : ¬ inS S a) : StR S (upd H a o) d where
  s := by rw [upd_ne fun z => n (.inl z.symm)]; exact h.s
  g := by rw [upd_ne fun z => n (.inr (.inl z.symm))]; exact h.g
  c := by rw [upd_ne fun z => n (.inr (.inr (.inl z.symm)))]; exact h.c
  gc := h.gc
  l := fun b vs e => ⟨by rw [upd_ne fun z : b = a => n (by rw [← z]; exact inS.l e)]; exact (h.l b vs e).1, (h.l b vs e).2⟩
  w := fun b F e => ⟨by rw [upd_ne (fun z : b = a => n (by rw [← z]; exact inS.w e))]; exact (h.w b F e).1, (h.w b F e).2⟩
  t := h.t
theorem StR.keep {S : SA} {H H' : Hp} {d : Drw} (h : StR S H d) (k : ∀ b o, H b = some o → H' b = some o) : StR S H' d where
  s := k _ _ h.s
  g := k _ _ h.g
  c := k _ _ h.c
  gc := h.gc
  l := fun b vs e => ⟨k _ _ (h.l b vs e).1, (h.l b vs e).2⟩
  w := fun b F e => by
    obtain ⟨o, eo⟩ := Option.ne_none_iff_exists'.mp (h.w b F e).1
    have q : H' b ≠ none := by rw [k _ _ eo]; exact fun z => nomatch z
    exact ⟨q, (h.w b F e).2⟩
  t := h.t
theorem StR.off {S : SA} {H : Hp} {d : Drw} (h : StR S H d) {b : Addr} (hb : H b = none) : ¬ inS S b := fun z => h.tracked z hb
section
variable (K : PySem.W.Frag) (mg : Str → Option Value) (S : SA) (G : Hp)
mutual
inductive Rep : V → D → Prop
  | non : Rep .non .non
  | bl (b : Bool) : Rep (.bl b) (.bl b)
  | int (i : Int) : Rep (.int i) (.int i)
  | str (x : Str) : Rep (.str x) (.str x)
  | lst {a : Addr} {vs : List V} {ds : List D} : G a = some (.lst vs) → Reps vs ds → Rep (.ref a) (.lst ds)
  | ro {a : Addr} {vs : List V} {ds : List D} : SqL K G a vs → Reps vs ds → Rep (.ref a) (.ro ds)
  | tup {a : Addr} {vs : List V} {ds : List D} : G a = some (.tup vs) → Reps vs ds → Rep (.ref a) (.tup ds)
  | rot {a : Addr} {vs : List V} {ds : List D} : SqT K G a vs → Reps vs ds → Rep (.ref a) (.rot ds)
  | dic {a : Addr} {o : Obj} {kvs : List (Key × V)} {ds : List (Key × D)} : G a = some (.frz o (.dK kvs)) → RepK kvs ds → Rep (.ref a) (.dic ds)
  | dct {a : Addr} {o : Obj} {kvs : List (List Key × V)} {ds : List (List Key × D)} : G a = some (.frz o (.dT kvs)) → RepK kvs ds → Rep (.ref a) (.dct ds)
  | obj {a C dx : Addr} {c : Str} {vfs : List (Str × V)} {fs : List (Str × D)} : mg c = some (.ref C) → G a = some (.ins C dx vfs) → RepF vfs fs → Rep (.ref a) (.obj c fs)
  | st : Rep (.ref S.s) .st
  | ln {a : Addr} {vs : List V} {ds : List D} : S.L a = some vs → Reps vs ds → Rep (.ref a) (.ln ds)
  | plt {a : Addr} {o : Obj} {vs : List V} {ds : List D} : G a = some (.frz o (.tup vs)) → o.dict = none → Reps vs ds → Rep (.ref a) (.plt ds)
  | dtn {a : Addr} {o : Obj} {hf : List NKey → Int} {kvs : List NRow} {ds : List (List NKey × D)} : G a = some (.frz o (DNo hf a kvs)) → KeysIn G kvs → RepK (stripN kvs) ds → Rep (.ref a) (.dtn hf ds)
  | mem {a : Addr} {F : List Key → TV → Prop} : S.W a = some (.mem F) → Rep (.ref a) (.mem F)
  | lam {f c : Addr} {x : Str} {L : LamT} : Tab.L x = some L ∧ L.vs = [] → G f = some (LamO f L c) → G c = some (LamX.CodeO c L.q) → Rep (.ref f) (.lam x)
  | lamc {f c : Addr} {x : Str} {L : LamT} {ds : List D} : Tab.L x = some L → G f = some (LamO f L c) → G c = some (LamX.CodeO c L.q) → Reps L.vs ds → Rep (.ref f) (.lamc x ds)
  | dnk {a : Addr} {o : Obj} {hf : List NKey → Int} {kvs : List (NKey × V)} {ds : List (NKey × D)} : G a = some (.frz o (DKo hf a kvs)) → RepK kvs ds → Rep (.ref a) (.dnk hf ds)
  | exc {a C : Addr} {d : Option Addr} {c : Str} {vfs : List (Str × V)} {fs : List (Str × D)} : mg c = some (.ref C) → G a = some (ExcO a C d) → ExD G d vfs → RepF vfs fs → Rep (.ref a) (.exc c fs)
inductive Reps : List V → List D → Prop
  | nil : Reps [] []
  | cons {v : V} {vs : List V} {d : D} {ds : List D} : Rep v d → Reps vs ds → Reps (v :: vs) (d :: ds)
inductive RepK : {κ : Type} → List (κ × V) → List (κ × D) → Prop
  | nil {κ : Type} : RepK (κ := κ) [] []
  | cons {κ : Type} {k : κ} {v : V} {vs : List (κ × V)} {d : D} {ds : List (κ × D)} : Rep v d → RepK vs ds → RepK ((k, v) :: vs) ((k, d) :: ds)
inductive RepF : List (Str × V) → List (Str × D) → Prop
  | nil : RepF [] []
  | cons {k : Str} {v : V} {vs : List (Str × V)} {d : D} {ds : List (Str × D)} : Rep v d → RepF vs ds → RepF ((k, v) :: vs) ((k, d) :: ds)
end
end
def Le (G G' : Hp) : Prop := ∀ b o, G b = some o → G' b = some o
theorem Le.refl (G : Hp) : Le G G := fun _ _ h => h
theorem Le.trans {G G1 G2 : Hp} (a : Le G G1) (b : Le G1 G2) : Le G G2 := fun x o h => b x o (a x o h)
theorem Le.new {G : Hp} {p : Addr} {o : HO} (h : G p = none) : Le G (upd G p o) := fun a u e => by
  rw [upd_ne (ne_of_none e h)]
  exact e
theorem Le.l {K : PySem.W.Frag} {G G' : Hp} {a : Addr} {xs : List V} (e : Le G G') (h : SqL K G a xs) : SqL K G' a xs := by
  rcases h with (h | ⟨o, h⟩) | h
  · exact .inl (.inl (e _ _ h))
  · exact .inl (.inr ⟨o, e _ _ h⟩)
  · exact .inr h
theorem Le.t {K : PySem.W.Frag} {G G' : Hp} {a : Addr} {xs : List V} (e : Le G G') (h : SqT K G a xs) : SqT K G' a xs := by
  rcases h with (h | ⟨o, h⟩) | h
  · exact .inl (.inl (e _ _ h))
  · exact .inl (.inr ⟨o, e _ _ h⟩)
  · exact .inr h
section
variable {K : PySem.W.Frag} {mg : Str → Option Value} {S : SA} {G G' : Hp}
mutual
theorem Rep.mono (e : Le G G') : ∀ {v : V} {d : D}, Rep K mg S G v d → Rep K mg S G' v d
  | _, _, .non => .non
  | _, _, .bl b => .bl b
  | _, _, .int i => .int i
  | _, _, .str x => .str x
  | _, _, .lst h r => .lst (e _ _ h) (Reps.mono e r)
  | _, _, .ro h r => .ro (e.l h) (Reps.mono e r)
  | _, _, .tup h r => .tup (e _ _ h) (Reps.mono e r)
  | _, _, .rot h r => .rot (e.t h) (Reps.mono e r)
  | _, _, .dic h r => .dic (e _ _ h) (RepK.mono e r)
  | _, _, .dct h r => .dct (e _ _ h) (RepK.mono e r)
  | _, _, .obj m h r => .obj m (e _ _ h) (RepF.mono e r)
  | _, _, .st => .st
  | _, _, .ln h r => .ln h (Reps.mono e r)
  | _, _, .plt h n r => .plt (e _ _ h) n (Reps.mono e r)
  | _, _, .dtn h n r => .dtn (e _ _ h) (n.mono fun _ _ q => e _ _ q) (RepK.mono e r)
  | _, _, .mem h => .mem h
  | _, _, .lam h h1 h2 => .lam h (e _ _ h1) (e _ _ h2)
  | _, _, .lamc h h1 h2 r => .lamc h (e _ _ h1) (e _ _ h2) (Reps.mono e r)
  | _, _, .dnk h r => .dnk (e _ _ h) (RepK.mono e r)
  | _, _, .exc m h n r => .exc m (e _ _ h) (n.mono e) (RepF.mono e r)
theorem Reps.mono (e : Le G G') : ∀ {vs : List V} {ds : List D}, Reps K mg S G vs ds → Reps K mg S G' vs ds
  | _, _, .nil => .nil
  | _, _, .cons a b => .cons (Rep.mono e a) (Reps.mono e b)
theorem RepK.mono (e : Le G G') : ∀ {κ : Type} {vs : List (κ × V)} {ds : List (κ × D)}, RepK K mg S G vs ds → RepK K mg S G' vs ds
  | _, _, _, .nil => .nil
  | _, _, _, .cons a b => .cons (Rep.mono e a) (RepK.mono e b)
theorem RepF.mono (e : Le G G') : ∀ {vs : List (Str × V)} {ds : List (Str × D)}, RepF K mg S G vs ds → RepF K mg S G' vs ds
  | _, _, .nil => .nil
  | _, _, .cons a b => .cons (Rep.mono e a) (RepF.mono e b)
end
theorem Reps.length : ∀ {vs : List V} {ds : List D}, Reps K mg S G vs ds → vs.length = ds.length
  | _, _, .nil => rfl
  | _, _, .cons _ b => congrArg (· + 1) (Reps.length b)
theorem Reps.get : ∀ {vs : List V} {ds : List D} {i : Nat} {d : D}, Reps K mg S G vs ds → ds[i]? = some d → ∃ v, vs[i]? = some v ∧ Rep K mg S G v d
  | _, _, _, _, .nil, e => by simp at e
  | _, _, 0, _, .cons r _, e => by simp at e; subst e; exact ⟨_, rfl, r⟩
  | _, _, i + 1, d, .cons _ t, e => by
    obtain ⟨u, h1, h2⟩ := Reps.get (i := i) (d := d) t (by simpa using e)
    exact ⟨u, by simpa using h1, h2⟩
theorem Reps.append : ∀ {vs ws : List V} {ds es : List D}, Reps K mg S G vs ds → Reps K mg S G ws es → Reps K mg S G (vs ++ ws) (ds ++ es)
  | _, _, _, _, .nil, s => s
  | _, _, _, _, .cons r t, s => .cons r (Reps.append t s)
theorem Reps.one {v : V} {d : D} (h : Rep K mg S G v d) : Reps K mg S G [v] [d] := .cons h .nil
theorem Reps.take : ∀ {vs : List V} {ds : List D} (n : Nat), Reps K mg S G vs ds → Reps K mg S G (vs.take n) (ds.take n)
  | _, _, 0, _ => .nil
  | _, _, _ + 1, .nil => .nil
  | _, _, n + 1, .cons r t => .cons r (Reps.take n t)
theorem Reps.drop : ∀ {vs : List V} {ds : List D} (n : Nat), Reps K mg S G vs ds → Reps K mg S G (vs.drop n) (ds.drop n)
  | _, _, 0, r => r
  | _, _, _ + 1, .nil => .nil
  | _, _, n + 1, .cons _ t => Reps.drop n t
theorem Reps.set {v : V} {d : D} (r : Rep K mg S G v d) : ∀ {vs : List V} {ds : List D} (i : Nat), Reps K mg S G vs ds → Reps K mg S G (vs.set i v) (ds.set i d)
  | _, _, _, .nil => .nil
  | _, _, 0, .cons _ t => .cons r t
  | _, _, i + 1, .cons q t => .cons q (Reps.set r i t)
theorem Reps.reverse : ∀ {vs : List V} {ds : List D}, Reps K mg S G vs ds → Reps K mg S G vs.reverse ds.reverse
  | _, _, .nil => .nil
  | _, _, .cons r t => by
    rw [List.reverse_cons, List.reverse_cons]
    exact (Reps.reverse t).append (.one r)
theorem RepK.append {κ : Type} : ∀ {vs ws : List (κ × V)} {ds es : List (κ × D)}, RepK K mg S G vs ds → RepK K mg S G ws es → RepK K mg S G (vs ++ ws) (ds ++ es)
  | _, _, _, _, .nil, s => s
  | _, _, _, _, .cons r t, s => .cons r (RepK.append t s)
theorem RepK.length {κ : Type} : ∀ {vs : List (κ × V)} {ds : List (κ × D)}, RepK K mg S G vs ds → vs.length = ds.length
  | _, _, .nil => rfl
  | _, _, .cons _ b => congrArg (· + 1) (RepK.length b)
end
def pkD : NKey → D
  | none => .non
  | some (.inl i) => .int i
  | some (.inr x) => .str x
def tvD : TV → D
  | none => .non
  | some (hf, rows) => .dtn hf (rows.map fun r => (r.1, .tup [.int r.2.1, .int r.2.2.1, pkD r.2.2.2]))
def MemOk (G : Hp) (kvs : List (List Key × V)) (F : List Key → TV → Prop) : Prop := ∀ k v, (k, v) ∈ kvs → ∃ tv, (∀ K mg S, Rep K mg S G v (tvD tv)) ∧ F k tv
theorem MemOk.mono {G G' : Hp} {kvs : List (List Key × V)} {F : List Key → TV → Prop} (h : MemOk G kvs F) (le : Le G G') : MemOk G' kvs F := fun k v m => by
  obtain ⟨tv, r, f⟩ := h k v m
  exact ⟨tv, fun K mg S => (r K mg S).mono le, f⟩
def MemA (G H : Hp) (b : Addr) : WX → Prop
  | .mem F => ∃ kvs, H b = some (.dT kvs) ∧ (kvs.map (·.1)).Nodup ∧ (∃ ks : List (List Key), ks.length ≤ 10000 ∧ ∀ k tv, F k tv → k ∈ ks) ∧ MemOk G kvs F
  | .tab q => ∃ ps : Array Value, H b = some (.tbl ps) ∧ TriplesOk ps.toList ∧ ∀ (pos : Pos) (cv : Value), codeAmong pos ps.toList = some cv → ∃ c, cv = .ref c ∧ G c = some (LamX.CodeO c q)
theorem MemA.mk {G H : Hp} {b : Addr} {F : List Key → TV → Prop} (h : ∃ kvs, H b = some (.dT kvs) ∧ (kvs.map (·.1)).Nodup ∧ (∃ ks : List (List Key), ks.length ≤ 10000 ∧ ∀ k tv, F k tv → k ∈ ks) ∧ MemOk G kvs F) : MemA G H b (.mem F) := h
theorem MemA.tb {G H : Hp} {b : Addr} {q : Str} (h : ∃ ps : Array Value, H b = some (.tbl ps) ∧ TriplesOk ps.toList ∧ ∀ (pos : Pos) (cv : Value), codeAmong pos ps.toList = some cv → ∃ c, cv = .ref c ∧ G c = some (LamX.CodeO c q)) : MemA G H b (.tab q) := h
def MemI (S : SA) (G H : Hp) : Prop := ∀ b F, S.W b = some F → MemA G H b F
theorem MemA.of {G G' H H' : Hp} {b : Addr} {F : WX} (h : MemA G H b F) (le : Le G G') (k : ∀ o, H b = some o → H' b = some o) : MemA G' H' b F := by
  cases F with
  | mem F =>
    obtain ⟨kvs, e1, l1, l2, e2⟩ := h
    exact ⟨kvs, k _ e1, l1, l2, e2.mono le⟩
  | tab q =>
    obtain ⟨ps, e1, e2, e3⟩ := h
    refine ⟨ps, k _ e1, e2, fun pos cv hc => ?_⟩
    obtain ⟨c, e4, e5⟩ := e3 pos cv hc
    exact ⟨c, e4, le _ _ e5⟩
theorem MemI.step {S : SA} {G G' H H' : Hp} (h : MemI S G H) (le : Le G G') (k : ∀ b F, S.W b = some F → H' b = H b) : MemI S G' H' := fun b F e =>
  (h b F e).of le fun o q => (k b F e).trans q
theorem MemI.off {S : SA} {G G' H : Hp} {a : Addr} {o : HO} (h : MemI S G H) (le : Le G G') (n : ¬ inS S a) : MemI S G' (upd H a o) := h.step le fun b F e => upd_ne fun z => n (by rw [← z]; exact inS.w e)
theorem MemI.keep {S : SA} {G G' H H' : Hp} (h : MemI S G H) (le : Le G G') (k : ∀ b o, H b = some o → H' b = some o) : MemI S G' H' := fun b F e =>
  (h b F e).of le fun o q => k _ _ q
structure Sub (S : SA) (G H : Hp) : Prop where
  f : ∀ b o, G b = some o → H b = some o ∧ ¬ inS S b
  w : MemI S G H
instance {S : SA} {G H : Hp} : CoeFun (Sub S G H) (fun _ => ∀ b o, G b = some o → H b = some o ∧ ¬ inS S b) := ⟨Sub.f⟩
theorem Sub.le {S : SA} {G H : Hp} (h : Sub S G H) : Le G H := fun b o e => (h b o e).1
theorem Sub.free {S : SA} {G H : Hp} (h : Sub S G H) {b : Addr} (e : H b = none) : G b = none := by
  cases q : G b with
  | none => rfl
  | some o => rw [(h b o q).1] at e; cases e
theorem Sub.offS {S : SA} {G H : Hp} (h : Sub S G H) {b : Addr} (e : inS S b) : G b = none := by
  cases q : G b with
  | none => rfl
  | some o => exact absurd e (h b o q).2
def NT (H : Hp) (b : Addr) : Prop := ∃ o, H b = some o ∧ ∀ xs, o ≠ .tup xs
theorem NT.ne {H : Hp} {b : Addr} (h : NT H b) : H b ≠ none := by
  obtain ⟨o, e, _⟩ := h
  rw [e]; exact fun z => nomatch z
structure Aft (S : SA) (G H G' H' : Hp) (d : Drw) : Prop where
  hp : ∀ b o, H b = some o → ¬ inS S b → H' b = some o
  gm : Le G G'
  gn : ∀ b, NT H b → G b = none → G' b = none
  st : StR S H' d
  sub : Sub S G' H'
section
variable {S : SA} {G H G1 H1 G2 H2 : Hp} {d d1 d2 : Drw}
theorem Aft.refl (st : StR S H d) (sub : Sub S G H) : Aft S G H G H d := ⟨fun _ _ h _ => h, Le.refl G, fun _ _ h => h, st, sub⟩
theorem Aft.trans (a : Aft S G H G1 H1 d1) (b : Aft S G1 H1 G2 H2 d2) : Aft S G H G2 H2 d2 where
  hp := fun x o h n => b.hp x o (a.hp x o h n) n
  gm := a.gm.trans b.gm
  gn := fun x hx gx => by
    by_cases n : inS S x
    · exact b.sub.offS n
    · obtain ⟨o, q, nt⟩ := hx
      exact b.gn x ⟨o, a.hp x o q n, nt⟩ (a.gn x ⟨o, q, nt⟩ gx)
  st := b.st
  sub := b.sub
theorem StR.new (st : StR S H d) {p : Addr} {o : HO} (h : H p = none) : StR S (upd H p o) d := st.alt (st.off h)
theorem Aft.new (st : StR S H d) (sub : Sub S G H) {p : Addr} {o : HO} (h : H p = none) : Aft S G H (upd G p o) (upd H p o) d where
  hp := fun b u e _ => by rw [upd_ne (ne_of_none e h)]; exact e
  gm := Le.new (sub.free h)
  gn := fun b hb g => by
    have n : b ≠ p := fun z => hb.ne (z ▸ h)
    rw [upd_ne n]; exact g
  st := st.new h
  sub := ⟨fun b u e => by
    by_cases n : b = p
    · subst n
      rw [upd_same] at e ⊢
      exact ⟨e, st.off h⟩
    · rw [upd_ne n] at e ⊢
      exact sub b u e, sub.w.off (Le.new (sub.free h)) (st.off h)⟩
theorem Aft.addT (st : StR S H d) (sub : Sub S G H) {q : Addr} {vs : List V} (h : H q = some (.tup vs)) : Aft S G H (upd G q (.tup vs)) H d where
  hp := fun b u e _ => e
  gm := fun b u e => by
    by_cases z : b = q
    · subst z
      have := (sub b u e).1
      rw [h] at this
      rw [upd_same]
      exact this
    · rw [upd_ne z]; exact e
  gn := fun b hb g => by
    obtain ⟨o, e, nt⟩ := hb
    have z : b ≠ q := fun z => by
      subst z
      rw [h] at e
      cases e
      exact nt _ rfl
    rw [upd_ne z]; exact g
  st := st
  sub := ⟨fun b u e => by
    by_cases z : b = q
    · subst z
      rw [upd_same] at e
      cases e
      refine ⟨h, fun n => ?_⟩
      rcases n with n | n | n | n | n
      · rw [n, st.s] at h; cases h
      · rw [n, st.g] at h; cases h
      · rw [n, st.c] at h; cases h
      · obtain ⟨ws, ew⟩ := Option.ne_none_iff_exists'.mp n
        rw [(st.l b ws ew).1] at h; cases h
      · obtain ⟨F, ew⟩ := Option.ne_none_iff_exists'.mp n
        have q := sub.w b F ew
        cases F with
        | mem F => obtain ⟨kvs, e1, _⟩ := q; rw [e1] at h; cases h
        | tab z => obtain ⟨kvs, e1, _⟩ := q; rw [e1] at h; cases h
    · rw [upd_ne z] at e
      exact sub b u e, sub.w.step (fun b u e => by
    by_cases z : b = q
    · subst z
      have := (sub b u e).1
      rw [h] at this
      rw [upd_same]
      exact this
    · rw [upd_ne z]; exact e) fun _ _ _ => rfl⟩
theorem Aft.newF (st : StR S H d) (sub : Sub S G H) {p : Addr} {o : HO} (h : H p = none) : Aft S G H G (upd H p o) d where
  hp := fun b u e _ => by rw [upd_ne (ne_of_none e h)]; exact e
  gm := Le.refl G
  gn := fun b _ g => g
  st := st.new h
  sub := ⟨fun b u e => ⟨by rw [upd_ne (ne_of_none (sub b u e).1 h)]; exact (sub b u e).1, (sub b u e).2⟩, sub.w.off (Le.refl G) (st.off h)⟩
end
abbrev Ev := List (Option D)
structure Ct where
  S : SA
  G : Hp
  H : Hp
section
variable (K : PySem.W.Frag) (mg : Str → Option Value)
def OwnO (S : SA) (G H : Hp) (a : Addr) : D → Prop
  | .lst ds => ∃ vs, H a = some (.lst vs) ∧ Reps K mg S G vs ds
  | .dic ds => ∃ kvs, H a = some (.dK kvs) ∧ RepK K mg S G kvs ds
  | .dct ds => ∃ kvs, H a = some (.dT kvs) ∧ RepK K mg S G kvs ds
  | .dtn hf ds => ∃ kvs, H a = some (DNo hf a kvs) ∧ KeysIn G kvs ∧ RepK K mg S G (stripN kvs) ds
  | _ => False
structure OwnA (C : Ct) (G H : Hp) (a : Addr) (d : D) : Prop where
  g : G a = none
  n : ¬ inS C.S a
  h : C.H a = none
  o : OwnO K mg C.S G H a d
inductive OwnV (C : Ct) (G H : Hp) : V → D → Prop
  | ref {a : Addr} {x : D} (o : OwnA K mg C G H a x) : OwnV C G H (.ref a) x
  | non : OwnV C G H .non .non
structure IM (C : Ct) (os : List Nat) (env : Ev) (σ : St) (H G : Hp) (d : Drw) : Prop where
  aft : Aft C.S C.G C.H G H d
  len : σ.length = env.length
  sh : ∀ i x, i ∉ os → env[i]? = some (some x) → ∃ v, σ[i]? = some (some v) ∧ Rep K mg C.S G v x
  ow : ∀ i x, i ∈ os → env[i]? = some (some x) → ∃ v, σ[i]? = some (some v) ∧ OwnV K mg C G H v x
  dis : ∀ i j x y a, i ∈ os → j ∈ os → env[i]? = some (some x) → env[j]? = some (some y) → σ[i]? = some (some (.ref a)) → σ[j]? = some (some (.ref a)) → i = j
inductive RepT (S : SA) (G H : Hp) : V → D → Prop
  | of {v : V} {d : D} : Rep K mg S G v d → RepT S G H v d
  | lst {a : Addr} {vs : List V} {ds : List D} : ¬ inS S a → H a = some (.lst vs) → Reps K mg S G vs ds → RepT S G H (.ref a) (.lst ds)
  | dic {a : Addr} {kvs : List (Key × V)} {ds : List (Key × D)} : ¬ inS S a → H a = some (.dK kvs) → RepK K mg S G kvs ds → RepT S G H (.ref a) (.dic ds)
  | dct {a : Addr} {kvs : List (List Key × V)} {ds : List (List Key × D)} : ¬ inS S a → H a = some (.dT kvs) → RepK K mg S G kvs ds → RepT S G H (.ref a) (.dct ds)
  | dtn {a : Addr} {hf : List NKey → Int} {kvs : List NRow} {ds : List (List NKey × D)} : ¬ inS S a → H a = some (DNo hf a kvs) → KeysIn G kvs → RepK K mg S G (stripN kvs) ds → RepT S G H (.ref a) (.dtn hf ds)
inductive RepN (S : SA) (G0 H0 G H : Hp) : V → D → Prop
  | non : RepN S G0 H0 G H .non .non
  | lst {a : Addr} {vs : List V} {ds : List D} : H0 a = none → G a = none → H a = some (.lst vs) → Reps K mg S G vs ds → RepN S G0 H0 G H (.ref a) (.lst ds)
  | dic {a : Addr} {kvs : List (Key × V)} {ds : List (Key × D)} : H0 a = none → G a = none → H a = some (.dK kvs) → RepK K mg S G kvs ds → RepN S G0 H0 G H (.ref a) (.dic ds)
  | dct {a : Addr} {kvs : List (List Key × V)} {ds : List (List Key × D)} : H0 a = none → G a = none → H a = some (.dT kvs) → RepK K mg S G kvs ds → RepN S G0 H0 G H (.ref a) (.dct ds)
  | dtn {a : Addr} {hf : List NKey → Int} {kvs : List NRow} {ds : List (List NKey × D)} : H0 a = none → G a = none → H a = some (DNo hf a kvs) → KeysIn G kvs → RepK K mg S G (stripN kvs) ds → RepN S G0 H0 G H (.ref a) (.dtn hf ds)
def SimE (C : Ct) (os : List Nat) (te : TE) (m : Ev → M D) : Prop := ∀ G σ H env d Q, IM K mg C os env σ H G d →
  Wp (m env d) (fun x d' => ∀ v H' G', Aft C.S G H G' H' d' → Rep K mg C.S G' v x → Q v H') → te σ H Q
def SimB (C : Ct) (os : List Nat) (te : TE) (m : Ev → M D) : Prop := ∀ G σ H env d Q, IM K mg C os env σ H G d →
  Wp (m env d) (fun x d' => ∀ v H' G', Aft C.S G H G' H' d' → RepT K mg C.S G' H' v x → Q v H') → te σ H Q
def SimF (C : Ct) (os : List Nat) (te : TE) (m : Ev → M D) : Prop := ∀ G σ H env d Q, IM K mg C os env σ H G d →
  Wp (m env d) (fun x d' => ∀ v H' G', Aft C.S G H G' H' d' → RepN K mg C.S G H G' H' v x → Q v H') → te σ H Q
def SimT (C : Ct) (os : List Nat) (tt : TT) (m : Ev → M Bool) : Prop := ∀ G σ H env d Q, IM K mg C os env σ H G d →
  Wp (m env d) (fun b d' => ∀ H' G', Aft C.S G H G' H' d' → Q b H') → tt σ H Q
def SimA (C : Ct) (os : List Nat) (ta : TA) (m : Ev → M (List D)) : Prop := ∀ G σ H env d Q, IM K mg C os env σ H G d →
  Wp (m env d) (fun xs d' => ∀ vs H' G', Aft C.S G H G' H' d' → Reps K mg C.S G' vs xs → Q vs H') → ta σ H Q
inductive Ctl where
  | nx (env : Ev)
  | ret (x : D)
  | brk (env : Ev)
  | cont (env : Ev)
def RetR (C : Ct) (fr : Bool) (G H : Hp) (v : V) (x : D) : Prop := match fr with
  | true => RepN K mg C.S C.G C.H G H v x
  | false => Rep K mg C.S G v x
def CPost (C : Ct) (fr : Bool) (os' ol : List Nat) (G : Hp) (D : Ends) (c : Ctl) (d' : Drw) : Prop := match c with
  | .nx e => ∀ σ' H' G', Le G G' → IM K mg C os' e σ' H' G' d' → D.nx σ' H'
  | .ret x => ∀ v H' G', Aft C.S C.G C.H G' H' d' → RetR K mg C fr G' H' v x → D.rt v H'
  | .brk e => ∀ σ' H' G', Le G G' → IM K mg C ol e σ' H' G' d' → D.bk σ' H'
  | .cont e => ∀ σ' H' G', Le G G' → IM K mg C ol e σ' H' G' d' → D.ct σ' H'
theorem CPost.le {K : PySem.W.Frag} {mg : Str → Option Value} {C : Ct} {fr : Bool} {os' ol : List Nat} {G G1 : Hp} {D : Ends} {c : Ctl} {d' : Drw} (h : CPost K mg C fr os' ol G D c d') (l : Le G G1) : CPost K mg C fr os' ol G1 D c d' := by
  cases c with
  | nx e => exact fun σ2 H2 G2 l2 I2 => h σ2 H2 G2 (l.trans l2) I2
  | ret x => exact h
  | brk e => exact fun σ2 H2 G2 l2 I2 => h σ2 H2 G2 (l.trans l2) I2
  | cont e => exact fun σ2 H2 G2 l2 I2 => h σ2 H2 G2 (l.trans l2) I2
def SimS (C : Ct) (fr : Bool) (os os' ol : List Nat) (ts : TS) (m : Ev → M Ctl) : Prop := ∀ G σ H env d (D : Ends), IM K mg C os env σ H G d →
  Wp (m env d) (CPost K mg C fr os' ol G D) → ts D σ H
end
section
variable {K : PySem.W.Frag} {mg : Str → Option Value} {C : Ct} {os : List Nat} {env : Ev} {σ : St} {G H G' H' G1 H1 : Hp} {d d' : Drw} {v : V} {x : D}
theorem OwnO.aft {S : SA} {a : Addr} (h : OwnO K mg S G H a x) (n : ¬ inS S a) (A : Aft S G H G' H' d') : OwnO K mg S G' H' a x := by
  cases x with
  | lst ds => obtain ⟨vs, h1, h2⟩ := h; exact ⟨vs, A.hp a _ h1 n, h2.mono A.gm⟩
  | dic ds => obtain ⟨vs, h1, h2⟩ := h; exact ⟨vs, A.hp a _ h1 n, h2.mono A.gm⟩
  | dct ds => obtain ⟨vs, h1, h2⟩ := h; exact ⟨vs, A.hp a _ h1 n, h2.mono A.gm⟩
  | dtn hf ds => obtain ⟨vs, h1, h3, h2⟩ := h; exact ⟨vs, A.hp a _ h1 n, h3.mono fun _ _ q => A.gm _ _ q, h2.mono A.gm⟩
  | _ => exact h
theorem OwnO.at {S : SA} {a : Addr} (h : OwnO K mg S G H a x) : H a ≠ none := by
  cases x with
  | lst ds => obtain ⟨vs, h1, h2⟩ := h; rw [h1]; exact fun z => nomatch z
  | dic ds => obtain ⟨vs, h1, h2⟩ := h; rw [h1]; exact fun z => nomatch z
  | dct ds => obtain ⟨vs, h1, h2⟩ := h; rw [h1]; exact fun z => nomatch z
  | dtn hf ds => obtain ⟨vs, h1, h3, h2⟩ := h; rw [h1]; exact fun z => nomatch z
  | _ => exact h.elim
theorem OwnO.nt {S : SA} {a : Addr} (h : OwnO K mg S G H a x) : NT H a := by
  cases x with
  | lst ds => obtain ⟨vs, h1, h2⟩ := h; exact ⟨_, h1, fun _ z => nomatch z⟩
  | dic ds => obtain ⟨vs, h1, h2⟩ := h; exact ⟨_, h1, fun _ z => nomatch z⟩
  | dct ds => obtain ⟨vs, h1, h2⟩ := h; exact ⟨_, h1, fun _ z => nomatch z⟩
  | dtn hf ds => obtain ⟨vs, h1, h3, h2⟩ := h; exact ⟨_, h1, fun _ z => nomatch z⟩
  | _ => exact h.elim
theorem OwnV.later (h : OwnV K mg C G H v x) (A : Aft C.S G H G' H' d') : OwnV K mg C G' H' v x := by
  cases h with
  | ref o => exact .ref ⟨A.gn _ o.o.nt o.g, o.n, o.h, o.o.aft o.n A⟩
  | non => exact .non
theorem IM.owA (I : IM K mg C os env σ H G d) {i : Nat} (hi : i ∈ os) (e : env[i]? = some (some x)) (hx : x ≠ .non) : ∃ a, σ[i]? = some (some (.ref a)) ∧ OwnA K mg C G H a x := by
  obtain ⟨v, h1, h2⟩ := I.ow i x hi e
  cases h2 with
  | ref o => exact ⟨_, h1, o⟩
  | non => exact absurd rfl hx
theorem IM.later (I : IM K mg C os env σ H G d) (A : Aft C.S G H G' H' d') : IM K mg C os env σ H' G' d' where
  aft := I.aft.trans A
  len := I.len
  sh := fun i y hi e => by
    obtain ⟨v, h1, h2⟩ := I.sh i y hi e
    exact ⟨v, h1, h2.mono A.gm⟩
  ow := fun i y hi e => by
    obtain ⟨a, h1, h2⟩ := I.ow i y hi e
    exact ⟨a, h1, h2.later A⟩
  dis := I.dis
theorem IM.st (I : IM K mg C os env σ H G d) : StR C.S H d := I.aft.st
theorem IM.sub (I : IM K mg C os env σ H G d) : Sub C.S G H := I.aft.sub
theorem RepT.later {S : SA} (h : RepT K mg S G H v x) (A : Aft S G H G' H' d') : RepT K mg S G' H' v x := by
  cases h with
  | of r => exact .of (r.mono A.gm)
  | lst n h r => exact .lst n (A.hp _ _ h n) (r.mono A.gm)
  | dic n h r => exact .dic n (A.hp _ _ h n) (r.mono A.gm)
  | dct n h r => exact .dct n (A.hp _ _ h n) (r.mono A.gm)
  | dtn n h q r => exact .dtn n (A.hp _ _ h n) (q.mono fun _ _ z => A.gm _ _ z) (r.mono A.gm)
theorem RepN.toT {S : SA} {G0 H0 : Hp} {d0 : Drw} (h : RepN K mg S G0 H0 G H v x) (st : StR S H0 d0) : RepT K mg S G H v x := by
  cases h with
  | non => exact .of .non
  | lst n g h r => exact .lst (st.off n) h r
  | dic n g h r => exact .dic (st.off n) h r
  | dct n g h r => exact .dct (st.off n) h r
  | dtn n g h q r => exact .dtn (st.off n) h q r
theorem Aft.freeze {S : SA} {a : Addr} {o : HO} (A : Aft S G H G' H' d') (n : ¬ inS S a) (g : G' a = none) (h0 : H a = none) (h : H' a = some o) : Aft S G H (upd G' a o) H' d' where
  hp := A.hp
  gm := A.gm.trans (Le.new g)
  gn := fun b hb gb => by
    have e : b ≠ a := fun z => hb.ne (z ▸ h0)
    rw [upd_ne e]
    exact A.gn b hb gb
  st := A.st
  sub := ⟨fun b u e => by
    by_cases z : b = a
    · subst z
      rw [upd_same] at e
      cases e
      exact ⟨h, n⟩
    · rw [upd_ne z] at e
      exact A.sub b u e, A.sub.w.step (Le.new g) fun _ _ _ => rfl⟩
theorem SimE.b {te : TE} {m : Ev → M D} (h : SimE K mg C os te m) : SimB K mg C os te m := fun G σ H env d Q I w =>
  h G σ H env d Q I (w.imp fun x d' k v H' G' A r => k v H' G' A (.of r))
theorem SimF.b {te : TE} {m : Ev → M D} (h : SimF K mg C os te m) : SimB K mg C os te m := fun G σ H env d Q I w =>
  h G σ H env d Q I (w.imp fun x d' k v H' G' A r => k v H' G' A (r.toT I.st))
theorem Aft.frzD {S : SA} {a : Addr} {o o' : HO} (A : Aft S G H G' H' d') (n : ¬ inS S a) (g : G' a = none) (h0 : H a = none) (h : H' a = some o') : Aft S G H (upd G' a o) (upd H' a o) d' where
  hp := fun b u e m => by
    have z : b ≠ a := fun z => by rw [z, h0] at e; cases e
    rw [upd_ne z]; exact A.hp b u e m
  gm := A.gm.trans (Le.new g)
  gn := fun b hb gb => by
    have e : b ≠ a := fun z => hb.ne (z ▸ h0)
    rw [upd_ne e]
    exact A.gn b hb gb
  st := A.st.alt n
  sub := ⟨fun b u e => by
    by_cases z : b = a
    · subst z
      rw [upd_same] at e ⊢
      exact ⟨e, n⟩
    · rw [upd_ne z] at e ⊢
      exact A.sub b u e, A.sub.w.off (Le.new g) n⟩
def rFrz (v : V) (H : Hp) (Q : VK) : Prop := Q v H ∨ ∃ a u, v = .ref a ∧ H a = some u ∧ Mut (some u) ∧ ∀ od, Q v (upd H a (.frz od u))
def tFrzE (t : TE) : TE := fun σ H Q => t σ H fun v H1 => rFrz v H1 Q
def tFrzS (t : TS) : TS := fun D σ H => t D σ H ∨ ∃ a u, H a = some u ∧ Mut (some u) ∧ ∀ od, t D σ (upd H a (.frz od u))
theorem pe_frz {X : Cx} {e : Expr} {t : TE} (h : PE X e t) : PE X e (tFrzE t) := by
  refine ⟨fun pins s σ H Q I hw => ?_⟩
  refine thn (h.run pins s σ H _ I hw) fun v s1 ⟨x, H1, I1, r, q⟩ => ?_
  rcases q with q | ⟨a, u, ex, ha, hm, q⟩
  · exact ⟨x, H1, I1, r, q⟩
  · obtain ⟨od, I2⟩ := I1.lock ha hm
    exact ⟨x, _, I2, r, q od⟩
theorem pss_frz {X : Cx} {st : List Stmt} {t : TS} (h : PSs X st t) : PSs X st (tFrzS t) := by
  refine ⟨fun pins s σ H D I hw => ?_⟩
  rcases hw with hw | ⟨a, u, ha, hm, hw⟩
  · exact h.run pins s σ H D I hw
  · obtain ⟨od, I2⟩ := I.lock ha hm
    exact h.run pins s σ _ D I2 (hw od)
theorem SimF.e {te : TE} {m : Ev → M D} (h : SimF K mg C os te m) : SimE K mg C os (tFrzE te) m := fun G σ H env d Q I w =>
  h G σ H env d _ I (w.imp fun x d' k v H' G' A r => by
    cases r with
    | non => exact .inl (k _ _ _ A .non)
    | lst n g h r =>
      have A' := A.freeze (I.st.off n) g n h
      exact .inl (k _ _ _ A' (.lst upd_same (r.mono (Le.new g))))
    | dic n g h r => exact .inr ⟨_, _, rfl, h, True.intro, fun od => k _ _ _ (A.frzD (I.st.off n) g n h) (.dic upd_same (r.mono (Le.new g)))⟩
    | dct n g h r => exact .inr ⟨_, _, rfl, h, True.intro, fun od => k _ _ _ (A.frzD (I.st.off n) g n h) (.dct upd_same (r.mono (Le.new g)))⟩
    | dtn n g h q r => exact .inr ⟨_, _, rfl, h, True.intro, fun od => k _ _ _ (A.frzD (I.st.off n) g n h) (.dtn upd_same (q.mono fun _ _ z => Le.new g _ _ z) (r.mono (Le.new g)))⟩)
theorem SimF.eL {te : TE} {m : Ev → M D} (h : SimF K mg C os te m) (hl : ∀ env d x d', m env d = .ok x d' → ∃ ds, x = .lst ds) : SimE K mg C os te m := fun G σ H env d Q I w => by
  refine h G σ H env d _ I ?_
  cases q : m env d with
  | bad => rw [q] at w; exact w.elim
  | ok x d' =>
    rw [q] at w
    obtain ⟨ds, rfl⟩ := hl env d x d' q
    intro v H' G' A r
    cases r with
    | lst n g h r => exact w _ _ _ (A.freeze (I.st.off n) g n h) (.lst upd_same (r.mono (Le.new g)))
end
end Mir
end
section
set_option maxHeartbeats 2000000
namespace Mir
open PySem PySem.Spec PyProof.Rows L2
variable [Tab]
structure PM (X : Cx) (os : List Nat) (e : Expr) (te : TE) (m : Ev → M D) : Prop where
  p : PE X e te
  s : ∀ C, SimE X.K X.mg C os te m
structure PMB (X : Cx) (os : List Nat) (e : Expr) (te : TE) (m : Ev → M D) : Prop where
  p : PE X e te
  s : ∀ C, SimB X.K X.mg C os te m
structure PMF (X : Cx) (os : List Nat) (e : Expr) (te : TE) (m : Ev → M D) : Prop where
  p : PE X e te
  s : ∀ C, SimF X.K X.mg C os te m
structure PMT (X : Cx) (os : List Nat) (e : Expr) (tt : TT) (m : Ev → M Bool) : Prop where
  p : PT X e tt
  s : ∀ C, SimT X.K X.mg C os tt m
structure PMW (X : Cx) (os : List Nat) (e : Expr) (tt : TT) (m : Ev → M Bool) : Prop where
  p : PW X e tt
  s : ∀ C, SimT X.K X.mg C os tt m
structure PMA (X : Cx) (os : List Nat) (es : List Expr) (ta : TA) (m : Ev → M (List D)) : Prop where
  p : PA X es ta
  s : ∀ C, SimA X.K X.mg C os ta m
def PMS (X : Cx) (fr : Bool) (os os' ol : List Nat) (st : Stmt) (m : Ev → M Ctl) : Prop := ∃ ts, PS X st ts ∧ ∀ C, SimS X.K X.mg C fr os os' ol ts m
def PMSs (X : Cx) (fr : Bool) (os os' ol : List Nat) (st : List Stmt) (m : Ev → M Ctl) : Prop := ∃ ts, PSs X st ts ∧ ∀ C, SimS X.K X.mg C fr os os' ol ts m
section
variable {X : Cx} {os : List Nat} {e a b c : Expr} {te ta tb : TE} {m ma mb : Ev → M D} {pos p' : Pos}
theorem PM.toB (h : PM X os e te m) : PMB X os e te m := ⟨h.p, fun C => (h.s C).b⟩
theorem PMF.toB (h : PMF X os e te m) : PMB X os e te m := ⟨h.p, fun C => (h.s C).b⟩
theorem PMF.toE (h : PMF X os e te m) : PM X os e (tFrzE te) m := ⟨pe_frz h.p, fun C => (h.s C).e⟩
def eVar (i : Nat) : Ev → M D := fun env => match env[i]? with
  | some (some d) => pure d
  | _ => bad
def eC (d : D) : Ev → M D := fun _ => pure d
theorem eVar_some {i : Nat} {env : Ev} {d : Drw} {P : D → Drw → Prop} (h : Wp (eVar i env d) P) : ∃ x, env[i]? = some (some x) ∧ P x d := by
  cases hx : env[i]? with
  | none =>
    simp only [eVar, hx] at h
    exact h.elim
  | some q =>
    cases q with
    | none =>
      simp only [eVar, hx] at h
      exact h.elim
    | some x =>
      simp only [eVar, hx] at h
      exact ⟨x, rfl, h⟩
theorem pm_var (i : Nat) {x : Str} {pos : Pos} (ho : i ∉ os := by decide) (hN : X.N[i]? = some x := by rfl) (hv : Vis X.env.scope x := by first | exact Or.inl rfl | exact Or.inr (Or.inl rfl) | exact Or.inr (Or.inr rfl)) (hd : (x == ("__debug__" : Str)) = false := by decide)
    (hcd : (x == ("__classdict__" : Str)) = false := by decide) : PM X os (.Name x pos) (tVar i) (eVar i) := by
  refine ⟨pe_var hN hv hd hcd, fun C G σ H env d Q I w => ?_⟩
  obtain ⟨y, e1, k⟩ := eVar_some w
  obtain ⟨v, e2, r⟩ := I.sh i y ho e1
  exact ⟨v, e2, k v H G (Aft.refl I.st I.sub) r⟩
theorem pmb_var (i : Nat) {x : Str} {pos : Pos} (hN : X.N[i]? = some x := by rfl) (hv : Vis X.env.scope x := by first | exact Or.inl rfl | exact Or.inr (Or.inl rfl) | exact Or.inr (Or.inr rfl)) (hd : (x == ("__debug__" : Str)) = false := by decide)
    (hcd : (x == ("__classdict__" : Str)) = false := by decide) : PMB X os (.Name x pos) (tVar i) (eVar i) := by
  refine ⟨pe_var hN hv hd hcd, fun C G σ H env d Q I w => ?_⟩
  obtain ⟨y, e1, k⟩ := eVar_some w
  by_cases ho : i ∈ os
  · obtain ⟨v, e2, ov⟩ := I.ow i y ho e1
    refine ⟨_, e2, k _ H G (Aft.refl I.st I.sub) ?_⟩
    cases ov with
    | non => exact .of .non
    | ref oa =>
      have oo := oa.o
      cases y with
      | lst ds => obtain ⟨vs, h1, h2⟩ := oo; exact .lst oa.n h1 h2
      | dic ds => obtain ⟨vs, h1, h2⟩ := oo; exact .dic oa.n h1 h2
      | dct ds => obtain ⟨vs, h1, h2⟩ := oo; exact .dct oa.n h1 h2
      | dtn hf ds => obtain ⟨vs, h1, h3, h2⟩ := oo; exact .dtn oa.n h1 h3 h2
      | _ => exact oo.elim
  · obtain ⟨v, e2, r⟩ := I.sh i y ho e1
    exact ⟨v, e2, k v H G (Aft.refl I.st I.sub) (.of r)⟩
theorem pm_tC {v : V} {d : D} (h : PE X e (tC v)) (hr : ∀ S G, Rep X.K X.mg S G v d) : PM X os e (tC v) (eC d) :=
  ⟨h, fun C G σ H env dw Q I w => w v H G (Aft.refl I.st I.sub) (hr _ _)⟩
theorem pm_int {i : Int} {j pos} : PM X os (.Constant (.int i) j pos) (tC (.int i)) (eC (.int i)) := pm_tC pe_int fun _ _ => .int i
theorem pm_bl {b j pos} : PM X os (.Constant (.bool b) j pos) (tC (.bl b)) (eC (.bl b)) := pm_tC pe_bl fun _ _ => .bl b
theorem pm_non {j pos} : PM X os (.Constant .none j pos) (tC .non) (eC .non) := pm_tC pe_non fun _ _ => .non
theorem pm_str {x j pos} : PM X os (.Constant (.str x) j pos) (tC (.str x)) (eC (.str x)) := pm_tC pe_str fun _ _ => .str x
def SimR (K : PySem.W.Frag) (mg : Str → Option Value) (r : R2) (g : D → D → M D) : Prop := ∀ S G H d x y dx dy Q, StR S H d → Sub S G H → RepT K mg S G H x dx → RepT K mg S G H y dy →
  Wp (g dx dy d) (fun z d' => ∀ v H' G', Aft S G H G' H' d' → Rep K mg S G' v z → Q v H') → r x y H Q
def eBin (g : D → D → M D) (ma mb : Ev → M D) : Ev → M D := fun env => ma env >>= fun x => mb env >>= fun y => g x y
theorem Aft.free {S : SA} {G H G' H' : Hp} {d : Drw} (A : Aft S G H G' H' d) {b : Addr} (h : H' b = none) : H b = none := by
  cases q : H b with
  | none => rfl
  | some o =>
    by_cases n : inS S b
    · exact absurd h (A.st.tracked n)
    · rw [A.hp b o q n] at h; cases h
theorem RepN.pull {K : PySem.W.Frag} {mg : Str → Option Value} {S : SA} {G0 H0 G H G' H' : Hp} {d : Drw} {v : V} {x : D} (A : Aft S G0 H0 G H d) (h : RepN K mg S G H G' H' v x) : RepN K mg S G0 H0 G' H' v x := by
  cases h with
  | non => exact .non
  | lst n g h r => exact .lst (A.free n) g h r
  | dic n g h r => exact .dic (A.free n) g h r
  | dct n g h r => exact .dct (A.free n) g h r
  | dtn n g h q r => exact .dtn (A.free n) g h q r
theorem simE_op {K : PySem.W.Frag} {mg : Str → Option Value} {C : Ct} {ta tb : TE} {r : R2} {g : D → D → M D} (sa : SimB K mg C os ta ma) (sb : SimB K mg C os tb mb) (hr : SimR K mg r g) : SimE K mg C os (tOp r ta tb) (eBin g ma mb) := by
  intro G σ H env d Q I w
  unfold eBin at w
  rw [Wp_bind] at w
  refine sa G σ H env d _ I (w.imp fun x d1 w1 v1 H1 G1 A1 r1 => ?_)
  rw [Wp_bind] at w1
  refine sb G1 σ H1 env d1 _ (I.later A1) (w1.imp fun y d2 w2 v2 H2 G2 A2 r2 => ?_)
  exact hr C.S G2 H2 d2 v1 v2 x y Q A2.st A2.sub (r1.later A2) r2 (w2.imp fun z d3 k v H' G' A3 r3 => k v H' G' (A1.trans (A2.trans A3)) r3)
theorem pm_bin {op : Operator} {r : R2} {g : D → D → M D} (ho : OpR X (binaryOp op) r) (hr : SimR X.K X.mg r g) (ha : PMB X os a ta ma) (hb : PMB X os b tb mb) : PM X os (.BinOp a op b pos) (tOp r ta tb) (eBin g ma mb) :=
  ⟨pe_op ho ha.p hb.p, fun C => simE_op (ha.s C) (hb.s C) hr⟩
def tB' (m : Ev → M D) : Ev → M Bool := fun env => m env >>= fun x => match x with
  | .bl b => pure b
  | _ => bad
theorem simT_val {K : PySem.W.Frag} {mg : Str → Option Value} {C : Ct} (se : SimE K mg C os te m) : SimT K mg C os (tB te) (tB' m) := fun G σ H env d Q I w => by
  unfold tB' at w
  rw [Wp_bind] at w
  refine se G σ H env d _ I (w.imp fun x d1 w1 v1 H1 G1 A1 r1 => ?_)
  split at w1
  · cases r1
    exact ⟨_, rfl, w1 _ _ A1⟩
  · exact w1.elim
structure PMC (X : Cx) (os : List Nat) (e : Expr) (te : TE) (m : Ev → M D) : Prop where
  ev : PM X os e te m
  ts : PMT X os e (tB te) (tB' m)
theorem pmc_of {op : CmpOp} (pc : PC X op a b te) (hm : behindInMarks op b = false) (s : ∀ C, SimE X.K X.mg C os te m) : PMC X os (.Compare a [op] [b] pos) te m :=
  ⟨⟨pe_cmp pc hm, s⟩, ⟨pt_cmp pc hm, fun C => simT_val (s C)⟩⟩
theorem pc_op {op : CmpOp} {r : R2} (ho : OpR X (compareOp op) r) (ha : PE X a ta) (hb : PE X b tb) : PC X op a b (tOp r ta tb) :=
  ⟨fun pins s σ H Q I h => thn (ha.run pins s σ H _ I h) fun v s1 ⟨x, H1, I1, r1, q1⟩ => thn (hb.run pins s1 σ H1 _ I1 q1) fun u s2 ⟨y, H2, I2, r2, q2⟩ => ho pins s2 σ H2 x y v u Q I2 r1 r2 q2⟩
theorem pm_cmp {op : CmpOp} {r : R2} {g : D → D → M D} (ho : OpR X (compareOp op) r) (hr : SimR X.K X.mg r g) (ha : PMB X os a ta ma) (hb : PMB X os b tb mb) (hm : behindInMarks op b = false) : PMC X os (.Compare a [op] [b] pos) (tOp r ta tb) (eBin g ma mb) :=
  pmc_of (pc_op ho ha.p hb.p) hm fun C => simE_op (ha.s C) (hb.s C) hr
theorem opr_or {f : Value → Value → Sem Value} {r1 r2 : R2} (h1 : OpR X f r1) (h2 : OpR X f r2) : OpR X f (fun x y H Q => r1 x y H Q ∨ r2 x y H Q) := fun pins s σ H x y v u Q I rx ry h =>
  h.elim (h1 pins s σ H x y v u Q I rx ry) (h2 pins s σ H x y v u Q I rx ry)
def intOp (C : Int → Int → Bool) (g : Int → Int → D) : D → D → M D
  | .int i, .int j => guardB (C i j) (pure (g i j))
  | _, _ => bad
theorem intOp_some {C : Int → Int → Bool} {g : Int → Int → D} {x y : D} {d : Drw} {P : D → Drw → Prop} (w : Wp (intOp C g x y d) P) : ∃ i j, x = .int i ∧ y = .int j ∧ C i j = true ∧ P (g i j) d := by
  unfold intOp at w
  split at w
  · rename_i i j
    rw [Wp_guard] at w
    exact ⟨i, j, rfl, rfl, w.1, w.2⟩
  · exact w.elim
theorem RepT.int {K : PySem.W.Frag} {mg : Str → Option Value} {S : SA} {G H : Hp} {x : V} {i : Int} (h : RepT K mg S G H x (.int i)) : x = .int i := by
  cases h with
  | of r => cases r; rfl
theorem RepT.str {K : PySem.W.Frag} {mg : Str → Option Value} {S : SA} {G H : Hp} {x : V} {i : Str} (h : RepT K mg S G H x (.str i)) : x = .str i := by
  cases h with
  | of r => cases r; rfl
theorem RepT.bl {K : PySem.W.Frag} {mg : Str → Option Value} {S : SA} {G H : Hp} {x : V} {i : Bool} (h : RepT K mg S G H x (.bl i)) : x = .bl i := by
  cases h with
  | of r => cases r; rfl
theorem RepT.lst' {K : PySem.W.Frag} {mg : Str → Option Value} {S : SA} {G H : Hp} {x : V} {ds : List D} (h : RepT K mg S G H x (.lst ds)) (sb : Sub S G H) : ∃ a vs, x = .ref a ∧ H a = some (.lst vs) ∧ Reps K mg S G vs ds ∧ ¬ inS S a := by
  cases h with
  | of r =>
    cases r with
    | lst h r => exact ⟨_, _, rfl, sb.le _ _ h, r, (sb _ _ h).2⟩
  | lst n h r => exact ⟨_, _, rfl, h, r, n⟩
theorem RepT.dic' {K : PySem.W.Frag} {mg : Str → Option Value} {S : SA} {G H : Hp} {x : V} {ds : List (Key × D)} (h : RepT K mg S G H x (.dic ds)) (sb : Sub S G H) : ∃ a vs, x = .ref a ∧ Rd H a (.dK vs) ∧ RepK K mg S G vs ds ∧ ¬ inS S a := by
  cases h with
  | of r =>
    cases r with
    | dic h r => exact ⟨_, _, rfl, .inr ⟨_, sb.le _ _ h⟩, r, (sb _ _ h).2⟩
  | dic n h r => exact ⟨_, _, rfl, .inl h, r, n⟩
theorem RepT.tup' {K : PySem.W.Frag} {mg : Str → Option Value} {S : SA} {G H : Hp} {x : V} {ds : List D} (h : RepT K mg S G H x (.tup ds)) (sb : Sub S G H) : ∃ a vs, x = .ref a ∧ SqT K G a vs ∧ Reps K mg S G vs ds := by
  cases h with
  | of r =>
    cases r with
    | tup h r => exact ⟨_, _, rfl, .inl (.inl h), r⟩
theorem RepT.tupR {K : PySem.W.Frag} {mg : Str → Option Value} {S : SA} {G H : Hp} {x : V} {ds : List D} (h : RepT K mg S G H x (.tup ds)) (sb : Sub S G H) : ∃ a vs, x = .ref a ∧ G a = some (.tup vs) ∧ Reps K mg S G vs ds := by
  cases h with
  | of r =>
    cases r with
    | tup h r => exact ⟨_, _, rfl, h, r⟩
theorem RepT.rot' {K : PySem.W.Frag} {mg : Str → Option Value} {S : SA} {G H : Hp} {x : V} {ds : List D} (h : RepT K mg S G H x (.rot ds)) (sb : Sub S G H) : ∃ a vs, x = .ref a ∧ SqT K G a vs ∧ Reps K mg S G vs ds := by
  cases h with
  | of r =>
    cases r with
    | rot h r => exact ⟨_, _, rfl, h, r⟩
theorem RepT.dct' {K : PySem.W.Frag} {mg : Str → Option Value} {S : SA} {G H : Hp} {x : V} {ds : List (List Key × D)} (h : RepT K mg S G H x (.dct ds)) (sb : Sub S G H) : ∃ a vs, x = .ref a ∧ Rd H a (.dT vs) ∧ RepK K mg S G vs ds ∧ ¬ inS S a := by
  cases h with
  | of r =>
    cases r with
    | dct h r => exact ⟨_, _, rfl, .inr ⟨_, sb.le _ _ h⟩, r, (sb _ _ h).2⟩
  | dct n h r => exact ⟨_, _, rfl, .inl h, r, n⟩
theorem simR_I0 {K : PySem.W.Frag} {mg : Str → Option Value} {f : Int → Int → V} {g : Int → Int → D} (h : ∀ i j S G, Rep K mg S G (f i j) (g i j)) : SimR K mg (rI0 f) (intOp (fun _ _ => true) g) := by
  intro S G H d x y dx dy Q st sb rx ry w
  obtain ⟨i, j, rfl, rfl, _, k⟩ := intOp_some w
  exact ⟨i, j, rx.int, ry.int, k _ _ _ (Aft.refl st sb) (h i j _ _)⟩
theorem simR_I {K : PySem.W.Frag} {mg : Str → Option Value} {Cc : Int → Int → Prop} {Cb : Int → Int → Bool} {f : Int → Int → V} {g : Int → Int → D} (hc : ∀ i j, Cb i j = true → Cc i j) (h : ∀ i j S G, Rep K mg S G (f i j) (g i j)) : SimR K mg (rI Cc f) (intOp Cb g) := by
  intro S G H d x y dx dy Q st sb rx ry w
  obtain ⟨i, j, rfl, rfl, c, k⟩ := intOp_some w
  exact ⟨i, j, rx.int, ry.int, hc i j c, k _ _ _ (Aft.refl st sb) (h i j _ _)⟩
abbrev dSub := intOp (fun _ _ => true) fun i j => .int (i - j)
abbrev dLt := intOp (fun _ _ => true) fun i j => .bl (decide (i < j))
abbrev dLe := intOp (fun _ _ => true) fun i j => .bl (decide (i ≤ j))
abbrev dGt := intOp (fun _ _ => true) fun i j => .bl (decide (j < i))
abbrev dGe := intOp (fun _ _ => true) fun i j => .bl (decide (j ≤ i))
def mulOk (i j : Int) : Bool := decide (-(2 ^ 64) < i ∧ i < 2 ^ 64) || decide (-(2 ^ 64) < j ∧ j < 2 ^ 64)
abbrev dMul := intOp mulOk fun i j => .int (i * j)
abbrev dMod := intOp (fun _ j => decide (0 < j)) fun i j => .int (i % j)
abbrev dDiv := intOp (fun _ j => decide (j ≠ 0 ∧ j.natAbs < 1073741824)) fun i j => .int (i.fdiv j)
abbrev dPow := intOp (fun i j => decide (0 ≤ j ∧ j ≤ 1000000 ∧ i.natAbs < 2 ^ 64)) fun i j => .int (i ^ j.toNat)
theorem pm_sub (ha : PMB X os a ta ma) (hb : PMB X os b tb mb) : PM X os (.BinOp a .Sub b pos) (tOp (rI0 fun i j => .int (i - j)) ta tb) (eBin dSub ma mb) := pm_bin op_sub (simR_I0 fun _ _ _ _ => .int _) ha hb
theorem pm_mul (ha : PMB X os a ta ma) (hb : PMB X os b tb mb) : PM X os (.BinOp a .Mult b pos) (tOp (rI CMul fun i j => .int (i * j)) ta tb) (eBin dMul ma mb) := pm_bin op_mul (simR_I (fun i j h => by
  unfold mulOk at h
  rcases Bool.or_eq_true_iff.mp h with h | h
  · exact .inl (of_decide_eq_true h)
  · exact .inr (of_decide_eq_true h)) fun _ _ _ _ => .int _) ha hb
theorem pm_mod (ha : PMB X os a ta ma) (hb : PMB X os b tb mb) : PM X os (.BinOp a .Mod b pos) (tOp (rI (fun _ j => 0 < j) fun i j => .int (i % j)) ta tb) (eBin dMod ma mb) := pm_bin op_mod (simR_I (fun _ _ h => by have := of_decide_eq_true h; exact this) fun _ _ _ _ => .int _) ha hb
theorem pm_div (ha : PMB X os a ta ma) (hb : PMB X os b tb mb) : PM X os (.BinOp a .FloorDiv b pos) (tOp (rI CDivN fun i j => .int (i.fdiv j)) ta tb) (eBin dDiv ma mb) := pm_bin op_fdivN (simR_I (fun _ _ h => by have := of_decide_eq_true h; exact this) fun _ _ _ _ => .int _) ha hb
theorem pm_pow (ha : PMB X os a ta ma) (hb : PMB X os b tb mb) : PM X os (.BinOp a .Pow b pos) (tOp (rI CPow fun i j => .int (i ^ j.toNat)) ta tb) (eBin dPow ma mb) := pm_bin op_pow (simR_I (fun _ _ h => by have := of_decide_eq_true h; exact this) fun _ _ _ _ => .int _) ha hb
theorem pm_lt (ha : PMB X os a ta ma) (hb : PMB X os b tb mb) : PMC X os (.Compare a [.Lt] [b] pos) (tOp (rI0 fun i j => .bl (decide (i < j))) ta tb) (eBin dLt ma mb) := pm_cmp op_lt (simR_I0 fun _ _ _ _ => .bl _) ha hb (nomark _)
theorem pm_gt (ha : PMB X os a ta ma) (hb : PMB X os b tb mb) : PMC X os (.Compare a [.Gt] [b] pos) (tOp (rI0 fun i j => .bl (decide (j < i))) ta tb) (eBin dGt ma mb) := pm_cmp op_gt (simR_I0 fun _ _ _ _ => .bl _) ha hb (nomark _)
theorem pm_ge (ha : PMB X os a ta ma) (hb : PMB X os b tb mb) : PMC X os (.Compare a [.GtE] [b] pos) (tOp (rI0 fun i j => .bl (decide (j ≤ i))) ta tb) (eBin dGe ma mb) := pm_cmp op_ge (simR_I0 fun _ _ _ _ => .bl _) ha hb (nomark _)
def eNeg (m : Ev → M D) : Ev → M D := fun env => m env >>= fun x => match x with
  | .int i => pure (.int (-i))
  | _ => bad
theorem pm_neg (ha : PMB X os a ta ma) : PM X os (.UnaryOp .USub a pos) (tUn (rU fun i => .int (-i)) ta) (eNeg ma) := by
  obtain ⟨pa, sa⟩ := ha
  refine ⟨pe_un un_neg pa, fun C G σ H env d Q I w => ?_⟩
  unfold eNeg at w
  rw [Wp_bind] at w
  refine sa C G σ H env d _ I (w.imp fun x d1 w1 v1 H1 G1 A1 r1 => ?_)
  split at w1
  · rename_i i
    exact ⟨i, r1.int, w1 _ _ _ A1 (.int _)⟩
  · exact w1.elim
theorem pmt_val (h : PM X os e te m) (he : ∀ whole, isTrue e X.env whole = (do let v ← whole; standAt e.pos; holding [v] (truthy v)) := by intro _; rfl) : PMT X os e (tB te) (tB' m) := by
  obtain ⟨pe, se⟩ := h
  refine ⟨pt_val pe he, fun C G σ H env d Q I w => ?_⟩
  unfold tB' at w
  rw [Wp_bind] at w
  refine se C G σ H env d _ I (w.imp fun x d1 w1 v1 H1 G1 A1 r1 => ?_)
  split at w1
  · cases r1
    exact ⟨_, rfl, w1 _ _ A1⟩
  · exact w1.elim
def tAnd' (ma mb : Ev → M Bool) : Ev → M Bool := fun env => ma env >>= fun b => if b = true then mb env else pure false
def tOr' (ma mb : Ev → M Bool) : Ev → M Bool := fun env => ma env >>= fun b => if b = true then pure true else mb env
def tNot' (ma : Ev → M Bool) : Ev → M Bool := fun env => ma env >>= fun b => pure (!b)
variable {rest : List Expr} {ua ub tt : TT} {na nb : Ev → M Bool}
theorem PMW.t (h : PMW X os e tt na) : PMT X os e tt na := ⟨h.p.pt, h.s⟩
theorem pmw_and1 (h : PMT X os a tt na) : PMW X os (.BoolOp .And [a] pos) tt na := ⟨pw_and1 h.p, h.s⟩
theorem pmw_or1 (h : PMT X os a tt na) : PMW X os (.BoolOp .Or [a] pos) tt na := ⟨pw_or1 h.p, h.s⟩
theorem pmw_and (ha : PMT X os a ua na) (hb : PMW X os (.BoolOp .And (b :: rest) pos) ub nb) : PMW X os (.BoolOp .And (a :: b :: rest) pos) (tAnd ua ub) (tAnd' na nb) := by
  obtain ⟨pa, sa⟩ := ha
  obtain ⟨pb, sb⟩ := hb
  refine ⟨pw_and pa pb, fun C G σ H env d Q I w => ?_⟩
  unfold tAnd' at w
  rw [Wp_bind] at w
  refine sa C G σ H env d _ I (w.imp fun x d1 w1 H1 G1 A1 => ?_)
  cases x with
  | true => exact iteT (sb C G1 σ H1 env d1 _ (I.later A1) (Wp.imp w1 fun y d2 k H2 G2 A2 => k H2 G2 (A1.trans A2)))
  | false => exact iteF (w1 H1 G1 A1)
theorem pmw_or (ha : PMT X os a ua na) (hb : PMW X os (.BoolOp .Or (b :: rest) pos) ub nb) : PMW X os (.BoolOp .Or (a :: b :: rest) pos) (tOr ua ub) (tOr' na nb) := by
  obtain ⟨pa, sa⟩ := ha
  obtain ⟨pb, sb⟩ := hb
  refine ⟨pw_or pa pb, fun C G σ H env d Q I w => ?_⟩
  unfold tOr' at w
  rw [Wp_bind] at w
  refine sa C G σ H env d _ I (w.imp fun x d1 w1 H1 G1 A1 => ?_)
  cases x with
  | true => exact iteT (w1 H1 G1 A1)
  | false => exact iteF (sb C G1 σ H1 env d1 _ (I.later A1) (Wp.imp w1 fun y d2 k H2 G2 A2 => k H2 G2 (A1.trans A2)))
theorem pmt_not (ha : PMT X os a ua na) : PMT X os (.UnaryOp .Not a pos) (tNot ua) (tNot' na) := by
  obtain ⟨pa, sa⟩ := ha
  refine ⟨pt_not pa, fun C G σ H env d Q I w => ?_⟩
  unfold tNot' at w
  rw [Wp_bind] at w
  exact sa C G σ H env d _ I (w.imp fun x d1 w1 H1 G1 A1 => w1 H1 G1 A1)
def eAnd (ma mb : Ev → M D) : Ev → M D := fun env => ma env >>= fun x => match x with
  | .bl true => mb env
  | .bl false => pure (.bl false)
  | _ => bad
def eOr (ma mb : Ev → M D) : Ev → M D := fun env => ma env >>= fun x => match x with
  | .bl true => pure (.bl true)
  | .bl false => mb env
  | _ => bad
def eNot (ma : Ev → M D) : Ev → M D := fun env => ma env >>= fun x => match x with
  | .bl b => pure (.bl (!b))
  | _ => bad
theorem pm_one {op} (h : PM X os a ta ma) : PM X os (.BoolOp op [a] pos) ta ma := ⟨pe_one h.p, h.s⟩
theorem pm_and (ha : PM X os a ta ma) (hb : PM X os (.BoolOp .And (b :: rest) pos) tb mb) : PM X os (.BoolOp .And (a :: b :: rest) pos) (tAndV ta tb) (eAnd ma mb) := by
  obtain ⟨pa, sa⟩ := ha
  obtain ⟨pb, sb⟩ := hb
  refine ⟨pe_and pa pb, fun C G σ H env d Q I w => ?_⟩
  unfold eAnd at w
  rw [Wp_bind] at w
  refine sa C G σ H env d _ I (w.imp fun x d1 w1 v1 H1 G1 A1 r1 => ?_)
  split at w1
  · cases r1
    exact ⟨_, rfl, iteT (sb C G1 σ H1 env d1 _ (I.later A1) (Wp.imp w1 fun y d2 k v2 H2 G2 A2 r2 => k v2 H2 G2 (A1.trans A2) r2))⟩
  · cases r1
    exact ⟨_, rfl, iteF (w1 _ H1 G1 A1 (.bl _))⟩
  · exact w1.elim
theorem pm_or (ha : PM X os a ta ma) (hb : PM X os (.BoolOp .Or (b :: rest) pos) tb mb) : PM X os (.BoolOp .Or (a :: b :: rest) pos) (tOrV ta tb) (eOr ma mb) := by
  obtain ⟨pa, sa⟩ := ha
  obtain ⟨pb, sb⟩ := hb
  refine ⟨pe_or pa pb, fun C G σ H env d Q I w => ?_⟩
  unfold eOr at w
  rw [Wp_bind] at w
  refine sa C G σ H env d _ I (w.imp fun x d1 w1 v1 H1 G1 A1 r1 => ?_)
  split at w1
  · cases r1
    exact ⟨_, rfl, iteT (w1 _ H1 G1 A1 (.bl _))⟩
  · cases r1
    exact ⟨_, rfl, iteF (sb C G1 σ H1 env d1 _ (I.later A1) (Wp.imp w1 fun y d2 k v2 H2 G2 A2 r2 => k v2 H2 G2 (A1.trans A2) r2))⟩
  · exact w1.elim
theorem pm_not (ha : PM X os a ta ma) : PM X os (.UnaryOp .Not a pos) (tNotV ta) (eNot ma) := by
  obtain ⟨pa, sa⟩ := ha
  refine ⟨pe_not pa, fun C G σ H env d Q I w => ?_⟩
  unfold eNot at w
  rw [Wp_bind] at w
  refine sa C G σ H env d _ I (w.imp fun x d1 w1 v1 H1 G1 A1 r1 => ?_)
  split at w1
  · cases r1
    exact ⟨_, rfl, w1 _ H1 G1 A1 (.bl _)⟩
  · exact w1.elim
def eIf (n : Ev → M Bool) (ma mb : Ev → M D) : Ev → M D := fun env => n env >>= fun b => if b = true then ma env else mb env
theorem pm_if (hc : PMT X os c tt na) (ha : PM X os a ta ma) (hb : PM X os b tb mb) : PM X os (.IfExp c a b pos) (tIf tt ta tb) (eIf na ma mb) := by
  obtain ⟨pc, sc⟩ := hc
  obtain ⟨pa, sa⟩ := ha
  obtain ⟨pb, sb⟩ := hb
  refine ⟨pe_ifExp pc pa pb, fun C G σ H env d Q I w => ?_⟩
  unfold eIf at w
  rw [Wp_bind] at w
  refine sc C G σ H env d _ I (w.imp fun x d1 w1 H1 G1 A1 => ?_)
  cases x with
  | true => exact iteT (sa C G1 σ H1 env d1 _ (I.later A1) (Wp.imp w1 fun y d2 k v2 H2 G2 A2 r2 => k v2 H2 G2 (A1.trans A2) r2))
  | false => exact iteF (sb C G1 σ H1 env d1 _ (I.later A1) (Wp.imp w1 fun y d2 k v2 H2 G2 A2 r2 => k v2 H2 G2 (A1.trans A2) r2))
end
section
variable {X : Cx} {os : List Nat} {e : Expr} {es : List Expr} {te : TE} {ta : TA} {m : Ev → M D} {ms : Ev → M (List D)} {pos : Pos}
def aNil : Ev → M (List D) := fun _ => pure []
def aCons (m : Ev → M D) (ms : Ev → M (List D)) : Ev → M (List D) := fun env => m env >>= fun x => ms env >>= fun xs => pure (x :: xs)
theorem pma_nil : PMA X os [] tNil aNil := ⟨pa_nil, fun C G σ H env d Q I w => w [] H G (Aft.refl I.st I.sub) .nil⟩
theorem pma_cons (ha : PM X os e te m) (hr : PMA X os es ta ms) (hs : starEach (e :: es) X.env = (false, eval e X.env) :: starEach es X.env := by rfl) : PMA X os (e :: es) (tCons te ta) (aCons m ms) := by
  obtain ⟨pa, sa⟩ := ha
  obtain ⟨pr, sr⟩ := hr
  refine ⟨pa_cons pa pr hs, fun C G σ H env d Q I w => ?_⟩
  unfold aCons at w
  rw [Wp_bind] at w
  refine sa C G σ H env d _ I (w.imp fun x d1 w1 v1 H1 G1 A1 r1 => ?_)
  rw [Wp_bind] at w1
  exact sr C G1 σ H1 env d1 _ (I.later A1) (w1.imp fun y d2 k vs H2 G2 A2 r2 => k (v1 :: vs) H2 G2 (A1.trans A2) (.cons (r1.mono A2.gm) r2))
def eTup (ms : Ev → M (List D)) : Ev → M D := fun env => ms env >>= fun xs => guardB (decide (xs.length ≤ sizeLine)) (pure (.tup xs))
def eLst (ms : Ev → M (List D)) : Ev → M D := fun env => ms env >>= fun xs => guardB (decide (xs.length ≤ sizeLine)) (pure (.lst xs))
end
end Mir
end
section
set_option maxHeartbeats 2000000
namespace Mir
open PySem PySem.Spec PyProof.Rows L2
variable [Tab]
section
variable {X : Cx} {os : List Nat} {e : Expr} {es : List Expr} {ta : TA} {m : Ev → M D} {ms : Ev → M (List D)} {pos : Pos}
theorem pm_tup {x1} (h : PMA X os es ta ms) : PM X os (.Tuple es x1 pos) (tTup ta) (eTup ms) := by
  obtain ⟨pa, sa⟩ := h
  refine ⟨pe_tup pa, fun C G σ H env d Q I w => ?_⟩
  unfold eTup at w
  rw [Wp_bind] at w
  refine sa C G σ H env d _ I (w.imp fun xs d1 w1 vs H1 G1 A1 r1 => ?_)
  rw [Wp_guard] at w1
  obtain ⟨hl, k⟩ := w1
  refine ⟨by rw [r1.length]; exact of_decide_eq_true hl, fun p hp => ?_⟩
  exact k _ _ _ (A1.trans (Aft.new A1.st A1.sub hp)) (.tup upd_same (r1.mono (Le.new (A1.sub.free hp))))
theorem pmf_lst (h : PMA X os es ta ms) : PMF X os (.List es pos) (tLst ta) (eLst ms) := by
  obtain ⟨pa, sa⟩ := h
  refine ⟨pe_lst pa, fun C G σ H env d Q I w => ?_⟩
  unfold eLst at w
  rw [Wp_bind] at w
  refine sa C G σ H env d _ I (w.imp fun xs d1 w1 vs H1 G1 A1 r1 => ?_)
  rw [Wp_guard] at w1
  obtain ⟨hl, k⟩ := w1
  refine ⟨by rw [r1.length]; exact of_decide_eq_true hl, fun p hp => ?_⟩
  exact k _ _ _ (A1.trans (Aft.newF A1.st A1.sub hp)) (.lst (A1.free hp) (A1.sub.free hp) upd_same r1)
end
section
variable (K : PySem.W.Frag) (mg : Str → Option Value)
def spM (n : Nat) (f : List D → M D) : Sp := fun vs H Q _ => vs.length = n ∧ ∃ S G ds d, StR S H d ∧ Sub S G H ∧ Reps K mg S G vs ds ∧ Wp (f ds d) fun x d' => ∀ v H' G', Aft S G H G' H' d' → Rep K mg S G' v x → Q v H'
def spN (n : Nat) (f : List D → M D) : Sp := fun vs H Q _ => vs.length = n ∧ ∃ S G ds d, StR S H d ∧ Sub S G H ∧ Reps K mg S G vs ds ∧ Wp (f ds d) fun x d' => ∀ v H' G', Aft S G H G' H' d' → RepN K mg S G H G' H' v x → Q v H'
end
def eCall (n : Nat) (f : List D → M D) (ms : Ev → M (List D)) : Ev → M D := fun env => ms env >>= fun xs => guardB (xs.length == n) (f xs)
section
variable {X : Cx} {os : List Nat} {e o : Expr} {es : List Expr} {te to : TE} {ta : TA} {m mo : Ev → M D} {ms : Ev → M (List D)} {x c mt : Str} {p pos apos : Pos} {k n : Nat} {f : Addr} {fd : FuncData} {ps : List Str} {mf : List D → M D} {Cc : Addr}
theorem simE_call {K : PySem.W.Frag} {mg : Str → Option Value} {C : Ct} (E : XK) (sa : SimA K mg C os ta ms) : SimE K mg C os (tCall (spM K mg n mf) [] E ta) (eCall n mf ms) := by
  intro G σ H env d Q I w
  unfold eCall at w
  rw [Wp_bind] at w
  refine sa G σ H env d _ I (w.imp fun xs d1 w1 vs H1 G1 A1 r1 => ?_)
  rw [Wp_guard] at w1
  have hl : xs.length = n := by simpa using w1.1
  show spM K mg n mf (vs ++ []) H1 Q E
  rw [List.append_nil]
  exact ⟨by rw [r1.length]; exact hl, C.S, G1, xs, d1, A1.st, A1.sub, r1, w1.2.imp fun y d2 kk v H' G' A2 r2 => kk v H' G' (A1.trans A2) r2⟩
theorem simF_call {K : PySem.W.Frag} {mg : Str → Option Value} {C : Ct} (E : XK) (sa : SimA K mg C os ta ms) : SimF K mg C os (tCall (spN K mg n mf) [] E ta) (eCall n mf ms) := by
  intro G σ H env d Q I w
  unfold eCall at w
  rw [Wp_bind] at w
  refine sa G σ H env d _ I (w.imp fun xs d1 w1 vs H1 G1 A1 r1 => ?_)
  rw [Wp_guard] at w1
  have hl : xs.length = n := by simpa using w1.1
  show spN K mg n mf (vs ++ []) H1 Q E
  rw [List.append_nil]
  exact ⟨by rw [r1.length]; exact hl, C.S, G1, xs, d1, A1.st, A1.sub, r1, w1.2.imp fun y d2 kk v H' G' A2 r2 => kk v H' G' (A1.trans A2) (RepN.pull A1 r2)⟩
theorem pm_call (F : FnOk X.prog X.w X.K X.mg X.base CX0 k f fd ps (spM X.K X.mg n mf)) (hr : Room k X.A) (hg : Gl X x) (hm : X.mg x = some (.ref f)) (hk : PySem.W.keepIn X.K (.ref f) = true) (hb : Binds X.K fd ps []) (ha : PMA X os (e :: es) ta ms)
    (hdb : (x == ("__debug__" : Str)) = false := by decide) (he : starEach (e :: es) X.env = (false, eval e X.env) :: starEach es X.env := by rfl) (hpl : (backTo pos (starEach es X.env)).any (·.1) = false := by rfl) :
    PM X os (.Call (.Name x p) (e :: es) [] pos) (tCall (spM X.K X.mg n mf) [] E0 ta) (eCall n mf ms) :=
  ⟨pe_call F hr hg hm hk hb .nil pass0 ha.p hdb he hpl, fun C => simE_call _ (ha.s C)⟩
theorem pmf_call (F : FnOk X.prog X.w X.K X.mg X.base CX0 k f fd ps (spN X.K X.mg n mf)) (hr : Room k X.A) (hg : Gl X x) (hm : X.mg x = some (.ref f)) (hk : PySem.W.keepIn X.K (.ref f) = true) (hb : Binds X.K fd ps []) (ha : PMA X os (e :: es) ta ms)
    (hdb : (x == ("__debug__" : Str)) = false := by decide) (he : starEach (e :: es) X.env = (false, eval e X.env) :: starEach es X.env := by rfl) (hpl : (backTo pos (starEach es X.env)).any (·.1) = false := by rfl) :
    PMF X os (.Call (.Name x p) (e :: es) [] pos) (tCall (spN X.K X.mg n mf) [] E0 ta) (eCall n mf ms) :=
  ⟨pe_call F hr hg hm hk hb .nil pass0 ha.p hdb he hpl, fun C => simF_call _ (ha.s C)⟩
end
theorem RepF.look {K : PySem.W.Frag} {mg : Str → Option Value} {S : SA} {G : Hp} : ∀ {vfs : List (Str × V)} {fs : List (Str × D)} {f : Str} {x : D}, RepF K mg S G vfs fs → fs.lookup f = some x → ∃ v, vfs.lookup f = some v ∧ Rep K mg S G v x
  | _, _, _, _, .nil, e => nomatch e
  | (k, v) :: vs, (_, d) :: ds, f, x, .cons a b, e => by
    rw [List.lookup_cons] at e ⊢
    cases h : f == k with
    | true =>
      rw [h] at e
      cases e
      exact ⟨v, rfl, a⟩
    | false =>
      rw [h] at e
      exact RepF.look b e
theorem RepF.lookN {K : PySem.W.Frag} {mg : Str → Option Value} {S : SA} {G : Hp} : ∀ {vfs : List (Str × V)} {fs : List (Str × D)} {f : Str}, RepF K mg S G vfs fs → fs.lookup f = none → vfs.lookup f = none
  | _, _, _, .nil, _ => rfl
  | (k, v) :: vs, (_, d) :: ds, f, .cons a b, e => by
    rw [List.lookup_cons] at e ⊢
    cases h : f == k with
    | true => rw [h] at e; cases e
    | false => rw [h] at e; exact RepF.lookN b e
section
variable {X : Cx} {os : List Nat} {e o : Expr} {es : List Expr} {te to : TE} {ta : TA} {m mo : Ev → M D} {ms : Ev → M (List D)} {x c mt : Str} {p pos apos : Pos} {k n : Nat} {f : Addr} {fd : FuncData} {ps : List Str} {mf : List D → M D} {Cc : Addr}
def eFld (c f : Str) (mo : Ev → M D) : Ev → M D := fun env => mo env >>= fun x => match x with
  | .obj c' fs => guardB (decide (c' = c)) (match fs.lookup f with
    | some y => pure y
    | none => bad)
  | _ => bad
theorem pm_fld {fl : Str} (ho : PM X os o to mo) (hC : X.mg c = some (.ref Cc)) (hc : Cls X.K Cc) (hn : NoAttr X.K Cc fl) (hb : attributeBase o fl X.env (eval o X.env) = eval o X.env := by rfl) : PM X os (.Attribute o fl pos) (tFld X.K to fl) (eFld c fl mo) := by
  obtain ⟨po, so⟩ := ho
  refine ⟨pe_fld po hb, fun C G σ H env d Q I w => ?_⟩
  unfold eFld at w
  rw [Wp_bind] at w
  refine so C G σ H env d _ I (w.imp fun y d1 w1 v1 H1 G1 A1 r1 => ?_)
  split at w1
  · rename_i c' fs
    rw [Wp_guard] at w1
    obtain ⟨ec, w1⟩ := w1
    have ec : c' = c := of_decide_eq_true ec
    subst ec
    cases ez : fs.lookup fl with
    | none => simp only [ez] at w1; exact w1.elim
    | some z =>
      simp only [ez] at w1
      cases r1 with
      | @obj a C' dx _ vfs _ hm hG rf =>
        rw [hC] at hm
        cases hm
        obtain ⟨v, e1, rv⟩ := rf.look ez
        exact ⟨_, _, _, _, v, rfl, A1.sub.le _ _ hG, hc, hn, e1, w1 v H1 G1 A1 rv⟩
  · exact w1.elim
def eMeth (c mt : Str) (n : Nat) (f : List D → M D) (mo : Ev → M D) (ms : Ev → M (List D)) : Ev → M D := fun env => mo env >>= fun x => match x with
  | .obj c' fs => guardB (decide (c' = c) && (fs.lookup mt).isNone) (ms env >>= fun xs => guardB (xs.length + 1 == n) (f (.obj c' fs :: xs)))
  | _ => bad
theorem sim_meth_aux {K : PySem.W.Frag} {mg : Str → Option Value} {C : Ct} {P : SA → Hp → Hp → Hp → Hp → V → D → Prop} {E : XK} {sp : Sp} (hC : mg c = some (.ref Cc)) (so : SimE K mg C os to mo) (sa : SimA K mg C os ta ms)
    (hsp : ∀ vs H Q, (vs.length = n ∧ ∃ S G ds d, StR S H d ∧ Sub S G H ∧ Reps K mg S G vs ds ∧ Wp (mf ds d) fun x d' => ∀ v H' G', Aft S G H G' H' d' → P S G H G' H' v x → Q v H') → sp vs H Q E)
    (pull : ∀ {G H G1 H1 G2 H2 : Hp} {d0 d1 : Drw} {v : V} {x : D}, StR C.S H d0 → Aft C.S G H G1 H1 d1 → P C.S G1 H1 G2 H2 v x → P C.S G H G2 H2 v x) :
    ∀ G σ H env d Q, IM K mg C os env σ H G d → Wp (eMeth c mt n mf mo ms env d) (fun x d' => ∀ v H' G', Aft C.S G H G' H' d' → P C.S G H G' H' v x → Q v H') → tMeth Cc mt sp [] E to ta σ H Q := by
  intro G σ H env d Q I w
  unfold eMeth at w
  rw [Wp_bind] at w
  refine so G σ H env d _ I (w.imp fun y d1 w1 v1 H1 G1 A1 r1 => ?_)
  split at w1
  · rename_i c' fs
    rw [Wp_guard] at w1
    obtain ⟨ec, w1⟩ := w1
    rw [Bool.and_eq_true] at ec
    have e1 : c' = c := of_decide_eq_true ec.1
    have e2 : fs.lookup mt = none := by simpa using ec.2
    subst e1
    rw [Wp_bind] at w1
    cases r1 with
    | @obj a C' dx _ vfs _ hm hG rf =>
      rw [hC] at hm
      cases hm
      refine ⟨_, _, _, rfl, A1.sub.le _ _ hG, rf.lookN e2, ?_⟩
      refine sa G1 σ H1 env d1 _ (I.later A1) (w1.imp fun xs d2 w2 vs H2 G2 A2 r2 => ?_)
      rw [Wp_guard] at w2
      have hl : xs.length + 1 = n := by simpa using w2.1
      refine hsp _ _ _ ?_
      rw [List.append_nil]
      refine ⟨by rw [List.length_cons, r2.length]; exact hl, C.S, G2, .obj c' fs :: xs, d2, A2.st, A2.sub, .cons (.obj hC (A2.gm _ _ hG) (rf.mono A2.gm)) r2, w2.2.imp fun z d3 kk v H' G' A3 r3 => ?_⟩
      exact kk v H' G' (A1.trans (A2.trans A3)) (pull I.st (A1.trans A2) r3)
  · exact w1.elim
theorem pm_meth0 {pl : Sem Bool} (hC : X.mg c = some (.ref Cc)) (ho : PM X os o to mo) (hc : Cls X.K Cc) (hm : Meth X.K Cc mt f) (F : FnOk X.prog X.w X.K X.mg X.base CX0 k f fd ps (spM X.K X.mg n mf)) (hr : Room k X.A) (hb : Binds X.K fd ps [])
    (ht : eval (.Call (.Attribute o mt apos) [] [] pos) X.env = (do
      let ov ← eval o X.env
      standAt apos.atName
      let (f, first) ← holding [ov] (getMethod ov mt pl)
      callWith pos f first (backTo pos (starEach [] X.env)) (backToKw pos (keywordEach [] X.env))) := by rfl) :
    PM X os (.Call (.Attribute o mt apos) [] [] pos) (tMeth Cc mt (spM X.K X.mg n mf) [] E0 to tNil) (eMeth c mt n mf mo aNil) := by
  obtain ⟨po, so⟩ := ho
  exact ⟨pe_meth0 po hc hm F hr hb .nil pass0 ht, fun C => sim_meth_aux (P := fun S _ _ G' _ v x => Rep X.K X.mg S G' v x) hC (so C) (fun G σ H env d Q I w => w [] H G (Aft.refl I.st I.sub) .nil) (fun _ _ _ h => h) (fun _ _ h => h)⟩
end
section
variable {X : Cx} {fr : Bool} {os os' o2 ol : List Nat} {e c : Expr} {es : List Expr} {te : TE} {tt : TT} {m : Ev → M D} {n : Ev → M Bool} {ms : Ev → M (List D)} {pos : Pos} {st : Stmt} {rest a b : List Stmt} {ma mb : Ev → M Ctl}
def cNx : Ev → M Ctl := fun env => pure (.nx env)
def cSeq (a b : Ev → M Ctl) : Ev → M Ctl := fun env => a env >>= fun c => match c with
  | .nx e => b e
  | c => pure c
def cSet (i : Nat) (m : Ev → M D) : Ev → M Ctl := fun env => m env >>= fun x => pure (.nx (env.set i (some x)))
def cRet (m : Ev → M D) : Ev → M Ctl := fun env => m env >>= fun x => pure (.ret x)
def cIf (n : Ev → M Bool) (a b : Ev → M Ctl) : Ev → M Ctl := fun env => n env >>= fun t => if t = true then a env else b env
theorem pmss_nil : PMSs X fr os os ol [] cNx := ⟨_, pss_nil, fun C G σ H env d D I w => w σ H G (Le.refl G) I⟩
theorem simS_seq {K : PySem.W.Frag} {mg : Str → Option Value} {C : Ct} {t u : TS} (h1 : SimS K mg C fr os os' ol t ma) (h2 : SimS K mg C fr os' o2 ol u mb) : SimS K mg C fr os o2 ol (tSeq t u) (cSeq ma mb) := by
  intro G σ H env d D I w
  unfold cSeq at w
  rw [Wp_bind] at w
  refine h1 G σ H env d { D with nx := u D } I (w.imp fun c d1 k => ?_)
  cases c with
  | nx e' => exact fun σ' H' G' le I' => h2 G' σ' H' e' d1 D I' (Wp.imp k fun c2 d2 k2 => CPost.le k2 le)
  | ret x => exact k
  | brk e' => exact k
  | cont e' => exact k
theorem pmss_cons (h1 : PMS X fr os os' ol st ma) (h2 : PMSs X fr os' o2 ol rest mb) : PMSs X fr os o2 ol (st :: rest) (cSeq ma mb) :=
  let ⟨_, p1, s1⟩ := h1; let ⟨_, p2, s2⟩ := h2; ⟨_, pss_cons p1 p2, fun C => simS_seq (s1 C) (s2 C)⟩
theorem pmss_one (h1 : PMS X fr os os' ol st ma) : PMSs X fr os os' ol [st] ma := let ⟨_, p1, s1⟩ := h1; ⟨_, pss_one p1, s1⟩
theorem pms_ret (h : PM X os e te m) : PMS X false os os' ol (.Return (some e) pos) (cRet m) := by
  obtain ⟨p, s⟩ := h
  refine ⟨_, ps_ret p, fun C G σ H env d D I w => ?_⟩
  unfold cRet at w
  rw [Wp_bind] at w
  exact s C G σ H env d _ I (w.imp fun x d1 k v H' G' A r => k v H' G' (I.aft.trans A) r)
theorem pms_retO (i : Nat) {x : Str} {p2 : Pos} (hi : i ∈ os := by decide) (hN : X.N[i]? = some x := by rfl) (hv : Vis X.env.scope x := by first | exact Or.inl rfl | exact Or.inr (Or.inl rfl) | exact Or.inr (Or.inr rfl)) (hd : (x == ("__debug__" : Str)) = false := by decide)
    (hcd : (x == ("__classdict__" : Str)) = false := by decide) : PMS X fr os os' ol (.Return (some (.Name x p2)) pos) (cRet (eVar i)) := by
  refine ⟨_, ps_ret (pe_frz (pe_var hN hv hd hcd)), fun C G σ H env d D I w => ?_⟩
  unfold cRet at w
  rw [Wp_bind] at w
  obtain ⟨y, e1, k⟩ := eVar_some w
  obtain ⟨v, e2, ov⟩ := I.ow i y hi e1
  cases ov with
  | non =>
    refine ⟨_, e2, .inl (k _ H G I.aft ?_)⟩
    cases fr with
    | true => exact .non
    | false => exact .non
  | ref oa =>
  have oo := oa.o
  cases fr with
  | true =>
    refine ⟨_, e2, .inl (k _ H G I.aft ?_)⟩
    cases y with
    | lst ds => obtain ⟨vs, h1, h2⟩ := oo; exact .lst oa.h oa.g h1 h2
    | dic ds => obtain ⟨vs, h1, h2⟩ := oo; exact .dic oa.h oa.g h1 h2
    | dct ds => obtain ⟨vs, h1, h2⟩ := oo; exact .dct oa.h oa.g h1 h2
    | dtn hf ds => obtain ⟨vs, h1, h3, h2⟩ := oo; exact .dtn oa.h oa.g h1 h3 h2
    | _ => exact oo.elim
  | false =>
    cases y with
    | lst ds =>
      obtain ⟨vs, h1, h2⟩ := oo
      exact ⟨_, e2, .inl (k _ H _ (I.aft.freeze oa.n oa.g oa.h h1) (.lst upd_same (h2.mono (Le.new oa.g))))⟩
    | dic ds =>
      obtain ⟨vs, h1, h2⟩ := oo
      exact ⟨_, e2, .inr ⟨_, _, rfl, h1, True.intro, fun od => k _ _ _ (I.aft.frzD oa.n oa.g oa.h h1) (.dic upd_same (h2.mono (Le.new oa.g)))⟩⟩
    | dct ds =>
      obtain ⟨vs, h1, h2⟩ := oo
      exact ⟨_, e2, .inr ⟨_, _, rfl, h1, True.intro, fun od => k _ _ _ (I.aft.frzD oa.n oa.g oa.h h1) (.dct upd_same (h2.mono (Le.new oa.g)))⟩⟩
    | dtn hf ds =>
      obtain ⟨vs, h1, h3, h2⟩ := oo
      exact ⟨_, e2, .inr ⟨_, _, rfl, h1, True.intro, fun od => k _ _ _ (I.aft.frzD oa.n oa.g oa.h h1) (.dtn upd_same (h3.mono fun _ _ z => Le.new oa.g _ _ z) (h2.mono (Le.new oa.g)))⟩⟩
    | _ => exact oo.elim
theorem pms_if (hc : PMT X os c tt n) (ha : PMSs X fr os os' ol a ma) (hb : PMSs X fr os os' ol b mb) : PMS X fr os os' ol (.If c a b pos) (cIf n ma mb) := by
  obtain ⟨pc, sc⟩ := hc
  obtain ⟨ta, pa, sa⟩ := ha
  obtain ⟨tb, pb, sb⟩ := hb
  refine ⟨_, ps_if pc pa pb, fun C G σ H env d D I w => ?_⟩
  unfold cIf at w
  rw [Wp_bind] at w
  refine sc C G σ H env d _ I (w.imp fun x d1 w1 H1 G1 A1 => ?_)
  have up : ∀ {t : TS} {mm : Ev → M Ctl}, SimS X.K X.mg C fr os os' ol t mm → Wp (mm env d1) (CPost X.K X.mg C fr os' ol G D) → t D σ H1 := fun {t mm} s w2 => s G1 σ H1 env d1 D (I.later A1) (Wp.imp w2 fun c2 d2 k2 => CPost.le k2 A1.gm)
  cases x with
  | true => exact iteT (up (sa C) w1)
  | false => exact iteF (up (sb C) w1)
end
end Mir
end
section
set_option maxHeartbeats 2000000
namespace Mir
open PySem PySem.Spec PyProof.Rows L2
variable [Tab]
section
variable {K : PySem.W.Frag} {mg : Str → Option Value} {C : Ct} {os : List Nat} {env : Ev} {σ : St} {G H G' H' : Hp} {d d' : Drw} {v : V} {x : D} {i : Nat}
theorem IM.set_sh (I : IM K mg C os env σ H G d) (hi : i ∉ os) (r : Rep K mg C.S G v x) : IM K mg C os (env.set i (some x)) (σ.set i (some v)) H G d where
  aft := I.aft
  len := by rw [List.length_set, List.length_set]; exact I.len
  sh := fun j y hj e => by
    by_cases z : i = j
    · subst z
      have hl : i < env.length := by
        have := (List.getElem?_eq_some_iff.mp e).1
        rwa [List.length_set] at this
      rw [List.getElem?_set_self hl] at e
      cases e
      exact ⟨v, List.getElem?_set_self (by rw [I.len]; exact hl), r⟩
    · rw [List.getElem?_set_ne z] at e ⊢
      exact I.sh j y hj e
  ow := fun j y hj e => by
    have z : i ≠ j := fun z => hi (z ▸ hj)
    rw [List.getElem?_set_ne z] at e ⊢
    exact I.ow j y hj e
  dis := fun j k y z a hj hk e1 e2 e3 e4 => by
    have z1 : i ≠ j := fun z => hi (z ▸ hj)
    have z2 : i ≠ k := fun z => hi (z ▸ hk)
    rw [List.getElem?_set_ne z1] at e1 e3
    rw [List.getElem?_set_ne z2] at e2 e4
    exact I.dis j k y z a hj hk e1 e2 e3 e4
theorem IM.set_ow {a : Addr} (I : IM K mg C os env σ H G d) (hi : i ∈ os) (o : OwnA K mg C G H a x) (hu : ∀ j y, j ∈ os → j ≠ i → env[j]? = some (some y) → σ[j]? ≠ some (some (.ref a))) : IM K mg C os (env.set i (some x)) (σ.set i (some (.ref a))) H G d where
  aft := I.aft
  len := by rw [List.length_set, List.length_set]; exact I.len
  sh := fun j y hj e => by
    have z : i ≠ j := fun z => hj (z ▸ hi)
    rw [List.getElem?_set_ne z] at e ⊢
    exact I.sh j y hj e
  ow := fun j y hj e => by
    by_cases z : i = j
    · subst z
      have hl : i < env.length := by
        have := (List.getElem?_eq_some_iff.mp e).1
        rwa [List.length_set] at this
      rw [List.getElem?_set_self hl] at e
      cases e
      exact ⟨_, List.getElem?_set_self (by rw [I.len]; exact hl), .ref o⟩
    · rw [List.getElem?_set_ne z] at e ⊢
      exact I.ow j y hj e
  dis := fun j k y z b hj hk e1 e2 e3 e4 => by
    by_cases z1 : i = j
    · by_cases z2 : i = k
      · rw [← z1, ← z2]
      · subst z1
        rw [List.getElem?_set_ne z2] at e2 e4
        have hl : i < σ.length := by
          have := (List.getElem?_eq_some_iff.mp e3).1
          rwa [List.length_set] at this
        rw [List.getElem?_set_self hl] at e3
        cases e3
        exact absurd e4 (hu k z hk (Ne.symm z2) e2)
    · by_cases z2 : i = k
      · subst z2
        rw [List.getElem?_set_ne z1] at e1 e3
        have hl : i < σ.length := by
          have := (List.getElem?_eq_some_iff.mp e4).1
          rwa [List.length_set] at this
        rw [List.getElem?_set_self hl] at e4
        cases e4
        exact absurd e3 (hu j y hj (Ne.symm z1) e1)
      · rw [List.getElem?_set_ne z1] at e1 e3
        rw [List.getElem?_set_ne z2] at e2 e4
        exact I.dis j k y z b hj hk e1 e2 e3 e4
theorem IM.set_non (I : IM K mg C os env σ H G d) (hi : i ∈ os) : IM K mg C os (env.set i (some .non)) (σ.set i (some .non)) H G d where
  aft := I.aft
  len := by rw [List.length_set, List.length_set]; exact I.len
  sh := fun j y hj e => by
    have z : i ≠ j := fun z => hj (z ▸ hi)
    rw [List.getElem?_set_ne z] at e ⊢
    exact I.sh j y hj e
  ow := fun j y hj e => by
    by_cases z : i = j
    · subst z
      have hl : i < env.length := by
        have := (List.getElem?_eq_some_iff.mp e).1
        rwa [List.length_set] at this
      rw [List.getElem?_set_self hl] at e
      cases e
      exact ⟨_, List.getElem?_set_self (by rw [I.len]; exact hl), .non⟩
    · rw [List.getElem?_set_ne z] at e ⊢
      exact I.ow j y hj e
  dis := fun j k y z b hj hk e1 e2 e3 e4 => by
    have self : ∀ {l : Nat} {q : Addr}, i = l → (σ.set i (some .non))[l]? = some (some (.ref q)) → False := fun {l q} zl e => by
      subst zl
      have hl := (List.getElem?_eq_some_iff.mp e).1
      rw [List.length_set] at hl
      rw [List.getElem?_set_self hl] at e
      cases e
    by_cases z1 : i = j
    · exact (self z1 e3).elim
    · by_cases z2 : i = k
      · exact (self z2 e4).elim
      · rw [List.getElem?_set_ne z1] at e1 e3
        rw [List.getElem?_set_ne z2] at e2 e4
        exact I.dis j k y z b hj hk e1 e2 e3 e4
theorem IM.set_new (I : IM K mg C os env σ H G d) (A : Aft C.S G H G' H' d') (hi : i ∈ os) (r : RepN K mg C.S G H G' H' v x) : IM K mg C os (env.set i (some x)) (σ.set i (some v)) H' G' d' := by
  have I' := I.later A
  have hu : ∀ {a : Addr}, H a = none → ∀ j y, j ∈ os → j ≠ i → env[j]? = some (some y) → σ[j]? ≠ some (some (.ref a)) := fun {a} n j y hj _ e z => by
    obtain ⟨b, e1, o⟩ := I.ow j y hj e
    rw [z] at e1
    cases e1
    cases o with
    | ref o => exact o.o.at n
  cases r with
  | non => exact I'.set_non hi
  | lst n g h r => exact I'.set_ow hi ⟨g, I.st.off n, I.aft.free n, ⟨_, h, r⟩⟩ (hu n)
  | dic n g h r => exact I'.set_ow hi ⟨g, I.st.off n, I.aft.free n, ⟨_, h, r⟩⟩ (hu n)
  | dct n g h r => exact I'.set_ow hi ⟨g, I.st.off n, I.aft.free n, ⟨_, h, r⟩⟩ (hu n)
  | dtn n g h q r => exact I'.set_ow hi ⟨g, I.st.off n, I.aft.free n, ⟨_, h, q, r⟩⟩ (hu n)
end
section
variable {X : Cx} {fr : Bool} {os os' ol : List Nat} {e c tg iter : Expr} {es : List Expr} {te : TE} {ta : TA} {tt : TT} {m : Ev → M D} {n : Ev → M Bool} {pos p' : Pos} {st : Stmt} {body : List Stmt} {mb : Ev → M Ctl} {y : Str}
theorem pms_set (i : Nat) (hi : i ∉ os) (hN : X.N.Nodup) (hy : X.N[i]? = some y) (hl : Loc X.env.scope y) (h : PM X os e te m) (hs : swapsWith e (some (.Name y p')) pos.line X.env = pure false := by rfl)
    (hf : X.fn y = true ∨ X.env.scope.names.lookup y = some .local := by first | exact .inl rfl | exact .inr rfl | assumption) : PMS X fr os os ol (.Assign [.Name y p'] e pos) (cSet i m) := by
  obtain ⟨p, s⟩ := h
  refine ⟨_, ps_set hN hy hl p hs hf, fun C G σ H env d D I w => ?_⟩
  unfold cSet at w
  rw [Wp_bind] at w
  exact s C G σ H env d _ I (w.imp fun x d1 k v H' G' A r => k _ H' G' A.gm ((I.later A).set_sh hi r))
theorem pms_setN (i : Nat) (hi : i ∈ os) (hN : X.N.Nodup) (hy : X.N[i]? = some y) (hl : Loc X.env.scope y) (h : PMF X os e te m) (hs : swapsWith e (some (.Name y p')) pos.line X.env = pure false := by rfl)
    (hf : X.fn y = true ∨ X.env.scope.names.lookup y = some .local := by first | exact .inl rfl | exact .inr rfl | assumption) : PMS X fr os os ol (.Assign [.Name y p'] e pos) (cSet i m) := by
  obtain ⟨p, s⟩ := h
  refine ⟨_, ps_set hN hy hl p hs hf, fun C G σ H env d D I w => ?_⟩
  unfold cSet at w
  rw [Wp_bind] at w
  exact s C G σ H env d _ I (w.imp fun x d1 k v H' G' A r => k _ H' G' A.gm (I.set_new A hi r))
def SimG (K : PySem.W.Frag) (mg : Str → Option Value) (C : Ct) (os tv : List Nat) (g : TG) (t : Ev → D → Option Ev) : Prop := ∀ G σ H env d v x e (Q : St → Hp → Prop), IM K mg C os env σ H G d → Rep K mg C.S G v x → t env x = some e →
  (∀ σ', IM K mg C os e σ' H G d → σ'.length = σ.length → (∀ j, j ∉ tv → σ'[j]? = σ[j]?) → Q σ' H) → g v σ H Q
def SimGs (K : PySem.W.Frag) (mg : Str → Option Value) (C : Ct) (os tv : List Nat) (g : TGs) (t : Ev → List D → Option Ev) : Prop := ∀ G σ H env d vs xs e (Q : St → Hp → Prop), IM K mg C os env σ H G d → Reps K mg C.S G vs xs → t env xs = some e →
  (∀ σ', IM K mg C os e σ' H G d → σ'.length = σ.length → (∀ j, j ∉ tv → σ'[j]? = σ[j]?) → Q σ' H) → g vs σ H Q
structure PMG (X : Cx) (os tv : List Nat) (e : Expr) (g : TG) (t : Ev → D → Option Ev) : Prop where
  p : PG X e g
  s : ∀ C, SimG X.K X.mg C os tv g t
structure PMGs (X : Cx) (os tv : List Nat) (es : List Expr) (g : TGs) (t : Ev → List D → Option Ev) : Prop where
  p : PGs X es g
  s : ∀ C, SimGs X.K X.mg C os tv g t
def gN (i : Nat) : Ev → D → Option Ev := fun env x => some (env.set i (some x))
def gT (t : Ev → List D → Option Ev) : Ev → D → Option Ev := fun env x => match x with
  | .tup xs => t env xs
  | _ => none
def gsNil : Ev → List D → Option Ev := fun env xs => match xs with
  | [] => some env
  | _ => none
def gsCons (t : Ev → D → Option Ev) (u : Ev → List D → Option Ev) : Ev → List D → Option Ev := fun env xs => match xs with
  | x :: r => match t env x with
    | some e => u e r
    | none => none
  | [] => none
theorem pmg_name (i : Nat) (hi : i ∉ os) (hN : X.N.Nodup) (hy : X.N[i]? = some y) (hl : Loc X.env.scope y) (hf : X.fn y = true ∨ X.env.scope.names.lookup y = some .local := by first | exact .inl rfl | exact .inr rfl | assumption) : PMG X os [i] (.Name y pos) (gName i) (gN i) := by
  refine ⟨pg_name hN hy hl hf, fun C G σ H env d v x e Q I r ht k => ?_⟩
  cases ht
  exact k _ (I.set_sh hi r) (by rw [List.length_set]) fun j hj => List.getElem?_set_ne (fun z => hj (by simp [z]))
theorem pmgs_nil : PMGs X os [] [] gNil gsNil := by
  refine ⟨pgs_nil, fun C G σ H env d vs xs e Q I r ht k => ?_⟩
  cases r with
  | nil =>
    cases ht
    exact ⟨rfl, k σ I rfl fun _ _ => rfl⟩
  | cons => cases ht
variable {tv tw : List Nat} {g1 : TG} {g2 : TGs} {t : Ev → D → Option Ev} {u : Ev → List D → Option Ev}
theorem pmgs_cons (h1 : PMG X os tv e g1 t) (h2 : PMGs X os tw es g2 u) (hs : (assignEach (e :: es) X.env).map (·.2) = assign e X.env :: (assignEach es X.env).map (·.2) := by rfl) : PMGs X os (tv ++ tw) (e :: es) (gCons g1 g2) (gsCons t u) := by
  obtain ⟨p1, s1⟩ := h1
  obtain ⟨p2, s2⟩ := h2
  refine ⟨pgs_cons p1 p2 hs, fun C G σ H env d vs xs e' Q I r ht k => ?_⟩
  cases r with
  | nil => cases ht
  | cons ra rb =>
    unfold gsCons at ht
    dsimp only at ht
    split at ht
    · rename_i e1 h1
      refine ⟨_, _, rfl, s1 C G σ H env d _ _ e1 _ I ra h1 fun σ1 I1 l1 k1 => ?_⟩
      exact s2 C G σ1 H e1 d _ _ e' _ I1 rb ht fun σ2 I2 l2 k2 => k σ2 I2 (l2.trans l1) fun j hj => by
        rw [k2 j fun z => hj (List.mem_append_right _ z), k1 j fun z => hj (List.mem_append_left _ z)]
    · cases ht
theorem pmg_tup {k n : Nat} (hc : X.calm = true) (h : PMGs X os tv es g2 u) (hlen : ∀ env xs e, u env xs = some e → xs.length = n) (hn : (assignEach es X.env).length = n := by rfl) (hst : (assignEach es X.env).findIdx? (·.1) = none := by rfl) :
    PMG X os tv (.Tuple es k pos) (gTup X.K n g2) (gT u) := by
  obtain ⟨p, s⟩ := h
  refine ⟨pg_tup hc p hn hst, fun C G σ H env d v x e Q I r ht kk => ?_⟩
  unfold gT at ht
  split at ht
  · cases r with
    | tup hq rs => exact ⟨_, _, rfl, I.sub.le.t (.inl (.inl hq)), by rw [rs.length]; exact hlen _ _ _ ht, s C G σ H env d _ _ e Q I rs ht kk⟩
  · cases ht
theorem gs_len_nil : ∀ env xs e, gsNil env xs = some e → xs.length = 0 := fun env xs e h => by
  cases xs with
  | nil => rfl
  | cons => cases h
theorem gs_len_cons {k : Nat} (h : ∀ env xs e, u env xs = some e → xs.length = k) : ∀ env xs e, gsCons t u env xs = some e → xs.length = k + 1 := fun env xs e h1 => by
  cases xs with
  | nil => cases h1
  | cons x r =>
    unfold gsCons at h1
    dsimp only at h1
    split at h1
    · rw [List.length_cons, h _ _ _ h1]
    · cases h1
structure ItOk (K : PySem.W.Frag) (mg : Str → Option Value) (S : SA) (J : It) (G : Hp) (ds : List D) : Prop where
  go : ∀ G' H' d' i x, Le G G' → Sub S G' H' → StR S H' d' → ds[i]? = some x → J.go i H' ∧ ∀ v H'', J.yld i H' v H'' → ∃ G'', Aft S G' H' G'' H'' d' ∧ Rep K mg S G'' v x
  stop : ∀ G' H' d', Le G G' → Sub S G' H' → StR S H' d' → J.stop ds.length H'
def SimI (K : PySem.W.Frag) (mg : Str → Option Value) (C : Ct) (os : List Nat) (wi : TI) (mi : Ev → M (List D)) : Prop := ∀ G σ H env d (R : It → Hp → Prop), IM K mg C os env σ H G d →
  Wp (mi env d) (fun ds d' => ∀ J H' G', Aft C.S G H G' H' d' → ItOk K mg C.S J G' ds → R J H') → wi σ H R
structure PMI (X : Cx) (os : List Nat) (tg e : Expr) (wi : TI) (mi : Ev → M (List D)) : Prop where
  p : PI X tg e wi
  s : ∀ C, SimI X.K X.mg C os wi mi
theorem itOk_l {K : PySem.W.Frag} {mg : Str → Option Value} {S : SA} {G : Hp} {a : Addr} {vs : List V} {ds : List D} (hq : SqL K G a vs) (r : Reps K mg S G vs ds) : ItOk K mg S (Itl K a) G ds where
  go := fun G' H' d' i x le sb st e => by
    obtain ⟨v, e1, rv⟩ := r.get e
    have q := (le.trans sb.le).l hq
    refine ⟨⟨vs, v, q, e1⟩, fun w H'' hy => ?_⟩
    obtain ⟨eh, k⟩ := hy
    subst eh
    have e2 := k vs q
    rw [e1] at e2
    cases e2
    exact ⟨G', Aft.refl st sb, rv.mono le⟩
  stop := fun G' H' d' le sb st => ⟨vs, (le.trans sb.le).l hq, Nat.le_of_eq r.length⟩
theorem itOk_t {K : PySem.W.Frag} {mg : Str → Option Value} {S : SA} {G : Hp} {a : Addr} {vs : List V} {ds : List D} (hq : SqT K G a vs) (r : Reps K mg S G vs ds) : ItOk K mg S (Itt K a) G ds where
  go := fun G' H' d' i x le sb st e => by
    obtain ⟨v, e1, rv⟩ := r.get e
    have q := (le.trans sb.le).t hq
    refine ⟨⟨vs, v, q, e1⟩, fun w H'' hy => ?_⟩
    obtain ⟨eh, k⟩ := hy
    subst eh
    have e2 := k vs q
    rw [e1] at e2
    cases e2
    exact ⟨G', Aft.refl st sb, rv.mono le⟩
  stop := fun G' H' d' le sb st => ⟨vs, (le.trans sb.le).t hq, Nat.le_of_eq r.length⟩
def intsD (lo : Int) (n : Nat) : List D := (List.range n).map fun (k : Nat) => D.int (lo + (k : Int))
theorem itOk_r {K : PySem.W.Frag} {mg : Str → Option Value} {S : SA} {G : Hp} {lo : Int} {n : Nat} : ItOk K mg S (Itr lo n) G (intsD lo n) where
  go := fun G' H' d' i x le sb st e => by
    unfold intsD at e
    rw [List.getElem?_map] at e
    have hi : i < n := by
      cases q : (List.range n)[i]? with
      | none => rw [q] at e; cases e
      | some z =>
        have := (List.getElem?_eq_some_iff.mp q).1
        rwa [List.length_range] at this
    rw [List.getElem?_range hi] at e
    cases e
    refine ⟨hi, fun v H'' hy => ?_⟩
    obtain ⟨e1, e2⟩ := hy
    subst e1
    subst e2
    exact ⟨G', Aft.refl st sb, .int _⟩
  stop := fun G' H' d' le sb st => by
    show n ≤ (intsD lo n).length
    unfold intsD
    rw [List.length_map, List.length_range]
    exact Nat.le_refl _
def dRange (xs : List D) : M (List D) := match xs with
  | [.int j] => guardB (decide (-(2 ^ 62) ≤ j ∧ j < 2 ^ 62)) (pure (intsD 0 j.toNat))
  | [.int i, .int j] => guardB (decide (-(2 ^ 62) ≤ i ∧ i < 2 ^ 62 ∧ -(2 ^ 62) ≤ j ∧ j < 2 ^ 62)) (pure (intsD i (j - i).toNat))
  | _ => bad
def iRange (ms : Ev → M (List D)) : Ev → M (List D) := fun env => ms env >>= dRange
theorem reps_int1 {K : PySem.W.Frag} {mg : Str → Option Value} {S : SA} {G : Hp} {vs : List V} {j : Int} (r : Reps K mg S G vs [.int j]) : vs = [.int j] := by
  cases r with
  | cons a b => cases a; cases b; rfl
theorem pmi_range1 {a : Expr} {ms : Ev → M (List D)} (hg : Gl X "range") (hm : X.mg "range" = none) (ha : PMA X os [a] ta ms) (hs : starEach [a] X.env = [(false, eval a X.env)] := by rfl) (h1 : ∀ env d xs d', ms env d = .ok xs d' → xs.length = 1) : PMI X os tg (.Call (.Name "range" p') [a] [] pos) (iRng1 ta) (iRange ms) := by
  obtain ⟨pa, sa⟩ := ha
  refine ⟨pi_range1 hg hm pa hs, fun C G σ H env d R I w => ?_⟩
  unfold iRange at w
  rw [Wp_bind] at w
  have hl := h1 env d
  refine sa C G σ H env d _ I ?_
  cases hx : ms env d with
  | bad => rw [hx] at w; exact w.elim
  | ok xs d1 =>
    rw [hx] at w
    intro vs H1 G1 A r
    have k : Wp (dRange xs d1) _ := w
    have hl := hl xs d1 hx
    unfold dRange at k
    split at k
    · rw [Wp_guard] at k
      have b := of_decide_eq_true k.1
      exact ⟨_, reps_int1 r, b.1, b.2, k.2 _ H1 G1 A itOk_r⟩
    · cases hl
    · exact k.elim
theorem aLen1 {m : Ev → M D} : ∀ env d xs d', aCons m aNil env d = .ok xs d' → xs.length = 1 := fun env d xs d' h => by
  have w : Wp (aCons m aNil env d) fun ys _ => ys.length = 1 := by
    unfold aCons aNil
    rw [Wp_bind]
    cases hx : m env d with
    | bad =>
      unfold aCons at h
      rw [bind_run, hx] at h
      cases h
    | ok y d1 => exact rfl
  rw [h] at w
  exact w
def forGo (t : Ev → D → Option Ev) (b : Ev → M Ctl) : List D → Ev → M Ctl
  | [], env => pure (.nx env)
  | x :: xs, env => match t env x with
    | none => bad
    | some e => b e >>= fun c => match c with
      | .nx e' => forGo t b xs e'
      | .cont e' => forGo t b xs e'
      | .brk e' => pure (.nx e')
      | .ret y => pure (.ret y)
def cFor (mi : Ev → M (List D)) (t : Ev → D → Option Ev) (b : Ev → M Ctl) : Ev → M Ctl := fun env => mi env >>= fun ds => forGo t b ds env
theorem pms_for {mi : Ev → M (List D)} {wi : TI} {g : TG} {tv : List Nat} {t : Ev → D → Option Ev} (hp : PassesOwn (model X.prog X.w) X.A X.env X.xe) (hc : X.calm = true) (hi : PMI X os tg iter wi mi) (hg : PMG X os tv tg g t) (hb : PMSs X fr os os os body mb) (hs : ∀ x, foldedSetIterable iter X.env x = pure x := by intro _; rfl) :
    PMS X fr os os ol (.For tg iter body [] pos) (cFor mi t mb) := by
  obtain ⟨pi, si⟩ := hi
  obtain ⟨pg, sg⟩ := hg
  obtain ⟨tb, pb, sb⟩ := hb
  refine ⟨_, ps_for hp hc pi pg pb hs, fun C G σ H env d D I w => ?_⟩
  unfold cFor at w
  rw [Wp_bind] at w
  refine si C G σ H env d _ I (w.imp fun ds d1 w1 J H1 G1 A1 it => ?_)
  refine ⟨fun i m σ' H' => m = ds.length - i ∧ i ≤ ds.length ∧ ∃ G' env' d', Le G1 G' ∧ IM X.K X.mg C os env' σ' H' G' d' ∧ Wp (forGo t mb (ds.drop i) env' d') _,
    ⟨ds.length, rfl, Nat.zero_le _, G1, env, d1, Le.refl _, I.later A1, w1⟩, fun i m σ' H' hw => ?_⟩
  obtain ⟨em, hi, G', env', d', le, I', w'⟩ := hw
  subst em
  by_cases hlt : i < ds.length
  · rw [List.drop_eq_getElem_cons hlt] at w'
    obtain ⟨hgo, hy⟩ := it.go G' H' d' i ds[i] le I'.sub I'.st (List.getElem?_eq_getElem hlt)
    refine .inr ⟨hgo, fun σ2 H2 => ∃ G2 env2 d2, Le G1 G2 ∧ IM X.K X.mg C os env2 σ2 H2 G2 d2 ∧ Wp (forGo t mb (ds.drop (i + 1)) env2 d2) _, fun σ2 H2 q => ⟨ds.length - (i + 1), by omega, rfl, hlt, q⟩, fun v H2 yv => ?_⟩
    obtain ⟨G2, A2, rv⟩ := hy v H2 yv
    cases he1 : t env' ds[i] with
    | none => simp only [forGo, he1] at w'; exact w'.elim
    | some e1 =>
      simp only [forGo, he1] at w'
      refine sg C G2 σ' H2 env' d' v _ e1 _ (I'.later A2) rv he1 fun σ3 I3 _ _ => ?_
      rw [Wp_bind] at w'
      refine sb C G2 σ3 H2 e1 d' _ I3 (w'.imp fun c d3 k => ?_)
      cases c with
      | nx e => exact fun σ4 H4 G4 l4 I4 => ⟨G4, e, d3, (le.trans A2.gm).trans l4, I4, k⟩
      | cont e => exact fun σ4 H4 G4 l4 I4 => ⟨G4, e, d3, (le.trans A2.gm).trans l4, I4, k⟩
      | brk e => exact fun σ4 H4 G4 l4 I4 => k σ4 H4 G4 (A1.gm.trans ((le.trans A2.gm).trans l4)) I4
      | ret x => exact k
  · have e : i = ds.length := by omega
    subst e
    rw [List.drop_length] at w'
    exact .inl ⟨it.stop G' H' d' le I'.sub I'.st, w' σ' H' G' (A1.gm.trans le) I'⟩
def whGo (n : Ev → M Bool) (b : Ev → M Ctl) : Nat → Ev → M Ctl
  | 0, _ => bad
  | k + 1, env => n env >>= fun t => if t = true then b env >>= fun c => (match c with
      | .nx e' => whGo n b k e'
      | .cont e' => whGo n b k e'
      | .brk e' => pure (.nx e')
      | .ret y => pure (.ret y)) else pure (.nx env)
def fuel : Nat := 1000000000
def cWhile (n : Ev → M Bool) (b : Ev → M Ctl) : Ev → M Ctl := fun env => whGo n b fuel env
theorem pms_while (hp : PassesOwn (model X.prog X.w) X.A X.env X.xe) (hc : PMT X os c tt n) (hb : PMSs X fr os os os body mb) : PMS X fr os os ol (.While c body [] pos) (cWhile n mb) := by
  obtain ⟨pc, sc⟩ := hc
  obtain ⟨tb, pb, sb⟩ := hb
  refine ⟨_, ps_while hp pc pb, fun C G σ H env d D I w => ?_⟩
  unfold cWhile at w
  refine ⟨fun m σ' H' => ∃ G' env' d', Le G G' ∧ IM X.K X.mg C os env' σ' H' G' d' ∧ Wp (whGo n mb m env' d') _, ⟨fuel, G, env, d, Le.refl _, I, w⟩, fun m σ' H' hw => ?_⟩
  obtain ⟨G', env', d', le, I', w'⟩ := hw
  cases m with
  | zero => exact w'.elim
  | succ m =>
    unfold whGo at w'
    rw [Wp_bind] at w'
    refine sc C G' σ' H' env' d' _ I' (w'.imp fun t d1 w1 H1 G1 A1 => ?_)
    cases t with
    | true =>
      rw [if_pos rfl] at w1 ⊢
      rw [Wp_bind] at w1
      refine ⟨fun σ2 H2 => ∃ G2 env2 d2, Le G G2 ∧ IM X.K X.mg C os env2 σ2 H2 G2 d2 ∧ Wp (whGo n mb m env2 d2) _, fun σ2 H2 q => ⟨m, Nat.lt_succ_self m, q⟩, ?_⟩
      refine sb C G1 σ' H1 env' d1 _ (I'.later A1) (w1.imp fun c d3 k => ?_)
      cases c with
      | nx e => exact fun σ4 H4 G4 l4 I4 => ⟨G4, e, d3, (le.trans A1.gm).trans l4, I4, k⟩
      | cont e => exact fun σ4 H4 G4 l4 I4 => ⟨G4, e, d3, (le.trans A1.gm).trans l4, I4, k⟩
      | brk e => exact fun σ4 H4 G4 l4 I4 => k σ4 H4 G4 ((le.trans A1.gm).trans l4) I4
      | ret x => exact k
    | false =>
      rw [if_neg Bool.false_ne_true] at w1 ⊢
      exact w1 σ' H1 G1 (le.trans A1.gm) (I'.later A1)
def wipeE (env : Ev) : List Nat → Ev
  | [] => env
  | v :: vs => (wipeE env vs).set v none
theorem IM.wipe {K : PySem.W.Frag} {mg : Str → Option Value} {C : Ct} {os : List Nat} {env : Ev} {σ : St} {G H : Hp} {d : Drw} (I : IM K mg C os env σ H G d) : ∀ vs : List Nat, IM K mg C os (wipeE env vs) (L2.wipe σ vs) H G d
  | [] => I
  | v :: vs => by
    have J := IM.wipe I vs
    unfold wipeE L2.wipe
    have key : ∀ {j : Nat} {y : D}, ((wipeE env vs).set v none)[j]? = some (some y) → (wipeE env vs)[j]? = some (some y) ∧ v ≠ j := fun {j y} e => by
      by_cases z : v = j
      · subst z
        have hl := (List.getElem?_eq_some_iff.mp e).1
        rw [List.length_set] at hl
        rw [List.getElem?_set_self hl] at e
        cases e
      · rw [List.getElem?_set_ne z] at e
        exact ⟨e, z⟩
    exact {
      aft := J.aft
      len := by rw [List.length_set, List.length_set]; exact J.len
      sh := fun j y hj e => by
        obtain ⟨e, z⟩ := key e
        rw [List.getElem?_set_ne z]
        exact J.sh j y hj e
      ow := fun j y hj e => by
        obtain ⟨e, z⟩ := key e
        rw [List.getElem?_set_ne z]
        exact J.ow j y hj e
      dis := fun j k y z a hj hk e1 e2 e3 e4 => by
        obtain ⟨e1, z1⟩ := key e1
        obtain ⟨e2, z2⟩ := key e2
        rw [List.getElem?_set_ne z1] at e3
        rw [List.getElem?_set_ne z2] at e4
        exact J.dis j k y z a hj hk e1 e2 e3 e4 }
theorem wipe_get {σ : St} : ∀ {vs : List Nat} {j : Nat}, j ∉ vs → (L2.wipe σ vs)[j]? = σ[j]?
  | [], _, _ => rfl
  | v :: vs, j, h => by
    unfold L2.wipe
    rw [List.getElem?_set_ne (fun z => h (by simp [z]))]
    exact wipe_get fun z => h (List.mem_cons_of_mem _ z)
theorem wipe_mem {σ : St} : ∀ {vs : List Nat} {j : Nat}, j ∈ vs → j < σ.length → (L2.wipe σ vs)[j]? = some none
  | v :: vs, j, h, hl => by
    unfold L2.wipe
    by_cases z : v = j
    · subst z
      exact List.getElem?_set_self (by rw [wipe_length]; exact hl)
    · rw [List.getElem?_set_ne z]
      exact wipe_mem ((List.mem_cons.mp h).resolve_left fun q => z q.symm) hl
theorem wipe_eq {σ σ2 : St} {vs tv : List Nat} (hl : σ2.length = (L2.wipe σ vs).length) (ht : ∀ j ∈ tv, j ∈ vs) (h : ∀ j, j ∉ tv → σ2[j]? = (L2.wipe σ vs)[j]?) : L2.wipe σ2 vs = L2.wipe σ vs := by
  apply List.ext_getElem?
  intro j
  by_cases z : j ∈ vs
  · by_cases q : j < σ2.length
    · rw [wipe_mem z q, wipe_mem z (by rw [hl, wipe_length] at q; exact q)]
    · rw [List.getElem?_eq_none (by rw [wipe_length]; omega), List.getElem?_eq_none (by rw [← hl]; omega)]
  · rw [wipe_get z, h j fun q => z (ht j q)]
def lcGo (e0 : Ev) (t : Ev → D → Option Ev) (n : Ev → M Bool) (me : Ev → M D) : List D → List D → M (List D)
  | [], acc => pure acc
  | x :: xs, acc => match t e0 x with
    | none => bad
    | some e => n e >>= fun b => if b = true then me e >>= fun y => guardB (decide (acc.length < sizeLine)) (lcGo e0 t n me xs (acc ++ [y])) else lcGo e0 t n me xs acc
def eLc (mi : Ev → M (List D)) (vs : List Nat) (t : Ev → D → Option Ev) (n : Ev → M Bool) (me : Ev → M D) : Ev → M D := fun env => mi env >>= fun ds => lcGo (wipeE env vs) t n me ds [] >>= fun ys => pure (.lst ys)
def nYes : Ev → M Bool := fun _ => pure true
structure PMTs (X : Cx) (os : List Nat) (es : List Expr) (tt : TT) (n : Ev → M Bool) : Prop where
  p : PTs X es tt
  s : ∀ C, SimT X.K X.mg C os tt n
theorem pmts_nil : PMTs X os [] tYes nYes := ⟨pts_nil, fun C G σ H env d Q I w => w H G (Aft.refl I.st I.sub)⟩
theorem pmts_one {c : Expr} {n : Ev → M Bool} (h : PMT X os c tt n) : PMTs X os [c] tt n := ⟨pts_one h.p, h.s⟩
theorem eLc_lst {mi : Ev → M (List D)} {vs : List Nat} {t : Ev → D → Option Ev} {n : Ev → M Bool} {me : Ev → M D} {env : Ev} {d d' : Drw} {x : D} (h : eLc mi vs t n me env d = .ok x d') : ∃ ds, x = .lst ds := by
  unfold eLc at h
  rw [bind_run] at h
  split at h
  · rw [bind_run] at h
    split at h
    · cases h; exact ⟨_, rfl⟩
    · cases h
  · cases h
theorem simF_lc {K : PySem.W.Frag} {mg : Str → Option Value} {C : Ct} {mi : Ev → M (List D)} {vs tv : List Nat} {t : Ev → D → Option Ev} {n : Ev → M Bool} {me : Ev → M D} {wi : TI} {g : TG} {tt : TT} {te : TE} (si : SimI K mg C os wi mi) (sg : SimG K mg C os tv g t) (st : SimT K mg C os tt n) (se : SimE K mg C os te me) (hv : ∀ j ∈ tv, j ∈ vs) :
    SimF K mg C os (tLc wi g tt te vs) (eLc mi vs t n me) := by
  intro G σ H env d Q I w
  unfold eLc at w
  rw [Wp_bind] at w
  refine si G σ H env d _ I (w.imp fun ds d1 w1 J H1 G1 A1 it => ?_)
  intro p hp
  have AN : Aft C.S G1 H1 G1 (upd H1 p (.lst [])) d1 := Aft.newF A1.st A1.sub hp
  rw [Wp_bind] at w1
  refine ⟨fun i m H' => m = ds.length - i ∧ i ≤ ds.length ∧ ∃ G' d' acc accD, Aft C.S G1 H1 G' H' d' ∧ G' p = none ∧ H' p = some (.lst acc) ∧ Reps K mg C.S G' acc accD ∧ Wp (lcGo (wipeE env vs) t n me (ds.drop i) accD d') _,
    ⟨ds.length, rfl, Nat.zero_le _, G1, d1, [], [], AN, A1.sub.free hp, upd_same, .nil, w1⟩, fun i m H' hw => ?_⟩
  obtain ⟨em, hi, G', d', acc, accD, A', gp, hpp, ra, w'⟩ := hw
  subst em
  have psub : ¬ inS C.S p := A1.st.off hp
  by_cases hlt : i < ds.length
  · rw [List.drop_eq_getElem_cons hlt] at w'
    obtain ⟨hgo, hy⟩ := it.go G' H' d' i ds[i] A'.gm A'.sub A'.st (List.getElem?_eq_getElem hlt)
    refine .inr ⟨hgo, fun H2 => ∃ G2 d2 acc accD, Aft C.S G1 H1 G2 H2 d2 ∧ G2 p = none ∧ H2 p = some (.lst acc) ∧ Reps K mg C.S G2 acc accD ∧ Wp (lcGo (wipeE env vs) t n me (ds.drop (i + 1)) accD d2) _, fun H2 q => ⟨ds.length - (i + 1), by omega, rfl, hlt, q⟩, fun v H2 yv => ?_⟩
    obtain ⟨G2, A2, rv⟩ := hy v H2 yv
    cases he1 : t (wipeE env vs) ds[i] with
    | none => simp only [lcGo, he1] at w'; exact w'.elim
    | some e1 =>
      simp only [lcGo, he1] at w'
      have I2 : IM K mg C os (wipeE env vs) (L2.wipe σ vs) H2 G2 d' := ((I.later (A1.trans (A'.trans A2))).wipe vs)
      refine sg G2 (L2.wipe σ vs) H2 (wipeE env vs) d' v _ e1 _ I2 rv he1 fun σ3 I3 l3 k3 => ⟨wipe_eq l3 hv k3, ?_⟩
      rw [Wp_bind] at w'
      have g2p : G2 p = none := A2.gn p ⟨_, hpp, fun _ z => nomatch z⟩ gp
      have h2p : H2 p = some (.lst acc) := A2.hp p _ hpp psub
      refine st G2 σ3 H2 e1 d' _ I3 (w'.imp fun b d3 w3 H3 G3 A3 => ?_)
      have g3p : G3 p = none := A3.gn p ⟨_, h2p, fun _ z => nomatch z⟩ g2p
      have h3p : H3 p = some (.lst acc) := A3.hp p _ h2p psub
      cases b with
      | true =>
        rw [if_pos rfl] at w3 ⊢
        rw [Wp_bind] at w3
        refine se G3 σ3 H3 e1 d3 _ (I3.later A3) (w3.imp fun y d4 w4 u H4 G4 A4 r4 => ?_)
        rw [Wp_guard] at w4
        have g4p : G4 p = none := A4.gn p ⟨_, h3p, fun _ z => nomatch z⟩ g3p
        have h4p : H4 p = some (.lst acc) := A4.hp p _ h3p psub
        have A24 := A2.trans (A3.trans A4)
        have A14 := A'.trans A24
        refine ⟨acc, h4p, by rw [ra.length]; exact of_decide_eq_true w4.1, G4, d4, acc ++ [u], accD ++ [y], ?_, g4p, upd_same, (ra.mono A24.gm).append (.one r4), w4.2⟩
        exact {
          hp := fun b o e n => by
            have z : b ≠ p := fun z => by rw [z, hp] at e; cases e
            rw [upd_ne z]
            exact A14.hp b o e n
          gm := A14.gm
          gn := A14.gn
          st := A14.st.alt psub
          sub := ⟨fun b o e => by
            have z : b ≠ p := fun z => by rw [z, g4p] at e; cases e
            rw [upd_ne z]
            exact A14.sub b o e, A14.sub.w.off (Le.refl G4) psub⟩ }
      | false =>
        rw [if_neg Bool.false_ne_true] at w3 ⊢
        exact ⟨G3, d3, acc, accD, A'.trans (A2.trans A3), g3p, h3p, ra.mono (A2.trans A3).gm, w3⟩
  · have e : i = ds.length := by omega
    subst e
    rw [List.drop_length] at w'
    refine .inl ⟨it.stop G' H' d' A'.gm A'.sub A'.st, ?_⟩
    have w2 := w'
    exact w2 _ _ _ (A1.trans A') (.lst (A1.free hp) gp hpp ra)
variable {elt : Expr} {ifs : List Expr} {scope : Scope} {mi : Ev → M (List D)} {tv : List Nat} {t : Ev → D → Option Ev} {me : Ev → M D} {wi : TI} {g : TG}
theorem pmf_lc (own : List (Str × Nat)) (hc : X.calm = true) (hN : X.N.Nodup) (hi : PMI X os tg iter wi mi) (ok : BlkOk X.N X.env.scope scope own) (hv : ∀ j ∈ tv, j ∈ own.map (·.2))
    (hg : ∀ (s : Shared) (H : Hp) (C : Addr) (cl : List (Str × Addr)) (fp : List Addr), PMG (X.blk s H scope (compEnvC scope cl C X.env) fp) os tv tg g t)
    (ht : ∀ (s : Shared) (H : Hp) (C : Addr) (cl : List (Str × Addr)) (fp : List Addr), PMTs (X.blk s H scope (compEnvC scope cl C X.env) fp) os ifs tt n)
    (he : ∀ (s : Shared) (H : Hp) (C : Addr) (cl : List (Str × Addr)) (fp : List Addr), PM (X.blk s H scope (compEnvC scope cl C X.env) fp) os elt te me) (hs : ∀ x, foldedSetIterable iter X.env x = pure x := by intro _; rfl) :
    PMF X os (.ListComp elt [⟨tg, iter, ifs, 0⟩] scope pos) (tLc wi g tt te (own.map (·.2))) (eLc mi (own.map (·.2)) t n me) :=
  ⟨pe_lc hc hN hi.p ok (fun s H C cl fp => (hg s H C cl fp).p) (fun s H C cl fp => (ht s H C cl fp).p) (fun s H C cl fp => (he s H C cl fp).p) hs,
    fun C => simF_lc (hi.s C) ((hg X.s_0 X.H_0 0 [] []).s C) ((ht X.s_0 X.H_0 0 [] []).s C) ((he X.s_0 X.H_0 0 [] []).s C) hv⟩
theorem pms_setLc (own : List (Str × Nat)) (i : Nat) {y : Str} {py spos : Pos} (hi' : i ∈ os) (hc : X.calm = true) (hN : X.N.Nodup) (hy : X.N[i]? = some y) (hyl : X.env.scope.names.lookup y = some .local)
    (hsw : swapsWith (.ListComp elt [⟨tg, iter, ifs, 0⟩] scope pos) (some (.Name y py)) spos.line X.env = pure true) (hi : PMI X os tg iter wi mi) (ok : BlkOk X.N X.env.scope scope own) (hv : ∀ j ∈ tv, j ∈ own.map (·.2))
    (hg : ∀ (s : Shared) (H : Hp) (C : Addr) (cl : List (Str × Addr)) (fp : List Addr), PMG (X.blk s H scope (compEnvC scope cl C X.env) fp) os tv tg g t)
    (ht : ∀ (s : Shared) (H : Hp) (C : Addr) (cl : List (Str × Addr)) (fp : List Addr), PMTs (X.blk s H scope (compEnvC scope cl C X.env) fp) os ifs tt n)
    (he : ∀ (s : Shared) (H : Hp) (C : Addr) (cl : List (Str × Addr)) (fp : List Addr), PM (X.blk s H scope (compEnvC scope cl C X.env) fp) os elt te me) (hs : ∀ x, foldedSetIterable iter X.env x = pure x := by intro _; rfl) :
    PMS X fr os os ol (.Assign [.Name y py] (.ListComp elt [⟨tg, iter, ifs, 0⟩] scope pos) spos) (cSet i (eLc mi (own.map (·.2)) t n me)) := by
  refine ⟨_, ps_setLc (i := i) hc hN hy hyl hsw hi.p ok (fun s H C cl fp => (hg s H C cl fp).p) (fun s H C cl fp => (ht s H C cl fp).p) (fun s H C cl fp => (he s H C cl fp).p) hs, fun C G σ H env d D I w => ?_⟩
  unfold cSet at w
  rw [Wp_bind] at w
  exact simF_lc (hi.s C) ((hg X.s_0 X.H_0 0 [] []).s C) ((ht X.s_0 X.H_0 0 [] []).s C) ((he X.s_0 X.H_0 0 [] []).s C) hv G σ H env d _ I (w.imp fun x d1 k v H' G' A r => k _ H' G' A.gm (I.set_new A hi' r))
theorem pms_setLcS (own : List (Str × Nat)) (i : Nat) {y : Str} {py spos : Pos} (hi' : i ∉ os) (hc : X.calm = true) (hN : X.N.Nodup) (hy : X.N[i]? = some y) (hyl : X.env.scope.names.lookup y = some .local)
    (hsw : swapsWith (.ListComp elt [⟨tg, iter, ifs, 0⟩] scope pos) (some (.Name y py)) spos.line X.env = pure true) (hi : PMI X os tg iter wi mi) (ok : BlkOk X.N X.env.scope scope own) (hv : ∀ j ∈ tv, j ∈ own.map (·.2))
    (hg : ∀ (s : Shared) (H : Hp) (C : Addr) (cl : List (Str × Addr)) (fp : List Addr), PMG (X.blk s H scope (compEnvC scope cl C X.env) fp) os tv tg g t)
    (ht : ∀ (s : Shared) (H : Hp) (C : Addr) (cl : List (Str × Addr)) (fp : List Addr), PMTs (X.blk s H scope (compEnvC scope cl C X.env) fp) os ifs tt n)
    (he : ∀ (s : Shared) (H : Hp) (C : Addr) (cl : List (Str × Addr)) (fp : List Addr), PM (X.blk s H scope (compEnvC scope cl C X.env) fp) os elt te me) (hs : ∀ x, foldedSetIterable iter X.env x = pure x := by intro _; rfl) :
    PMS X fr os os ol (.Assign [.Name y py] (.ListComp elt [⟨tg, iter, ifs, 0⟩] scope pos) spos) (cSet i (eLc mi (own.map (·.2)) t n me)) := by
  refine ⟨_, ps_setLc (i := i) hc hN hy hyl hsw hi.p ok (fun s H C cl fp => (hg s H C cl fp).p) (fun s H C cl fp => (ht s H C cl fp).p) (fun s H C cl fp => (he s H C cl fp).p) hs, fun C G σ H env d D I w => ?_⟩
  unfold cSet at w
  rw [Wp_bind] at w
  exact (simF_lc (hi.s C) ((hg X.s_0 X.H_0 0 [] []).s C) ((ht X.s_0 X.H_0 0 [] []).s C) ((he X.s_0 X.H_0 0 [] []).s C) hv).eL (fun _ _ _ _ => eLc_lst) G σ H env d _ I (w.imp fun x d1 k v H' G' A r => k _ H' G' A.gm ((I.later A).set_sh hi' r))
theorem IM.freeze {K : PySem.W.Frag} {mg : Str → Option Value} {C : Ct} {os os' : List Nat} {env : Ev} {σ : St} {G H : Hp} {d : Drw} (i : Nat) (I : IM K mg C os env σ H G d) (h1 : ∀ j ∈ os', j ∈ os) (h2 : ∀ j ∈ os, j = i ∨ j ∈ os') (h3 : i ∉ os') :
    (∃ G', Le G G' ∧ IM K mg C os' env σ H G' d) ∨ ∃ a u, H a = some u ∧ Mut (some u) ∧ ∀ od, ∃ G', Le G G' ∧ IM K mg C os' env σ (upd H a (.frz od u)) G' d := by
  have other : ∀ {G' H' : Hp}, Le G G' → Aft C.S C.G C.H G' H' d → (∀ j x a, j ∈ os' → env[j]? = some (some x) → σ[j]? = some (some (.ref a)) → G' a = none ∧ H' a = H a) → (∀ x, i ∈ os → env[i]? = some (some x) → ∃ v, σ[i]? = some (some v) ∧ Rep K mg C.S G' v x) → IM K mg C os' env σ H' G' d := fun {G' H'} le A k ki => {
    aft := A
    len := I.len
    sh := fun j x hj e => by
      by_cases hm : j ∈ os
      · rcases h2 j hm with z | z
        · subst z; exact ki x hm e
        · exact absurd z hj
      · obtain ⟨v, e1, r⟩ := I.sh j x hm e
        exact ⟨v, e1, r.mono le⟩
    ow := fun j x hj e => by
      obtain ⟨v, e1, ov⟩ := I.ow j x (h1 j hj) e
      refine ⟨v, e1, ?_⟩
      cases ov with
      | non => exact .non
      | @ref a _ o =>
        refine .ref ⟨(k j x a hj e e1).1, o.n, o.h, ?_⟩
        have hh := (k j x a hj e e1).2
        have oo := o.o
        cases x with
        | lst ds => obtain ⟨vs, q1, q2⟩ := oo; exact ⟨vs, hh.trans q1, q2.mono le⟩
        | dic ds => obtain ⟨vs, q1, q2⟩ := oo; exact ⟨vs, hh.trans q1, q2.mono le⟩
        | dct ds => obtain ⟨vs, q1, q2⟩ := oo; exact ⟨vs, hh.trans q1, q2.mono le⟩
        | dtn hf ds => obtain ⟨vs, q1, q3, q2⟩ := oo; exact ⟨vs, hh.trans q1, q3.mono fun _ _ z => le _ _ z, q2.mono le⟩
        | _ => exact oo.elim
    dis := fun j k x y a hj hk => I.dis j k x y a (h1 j hj) (h1 k hk) }
  have same : ∀ j x a, j ∈ os' → env[j]? = some (some x) → σ[j]? = some (some (.ref a)) → G a = none ∧ H a = H a := fun j x a hj e e1 => by
    obtain ⟨b, e2, ov⟩ := I.ow j x (h1 j hj) e
    rw [e1] at e2; cases e2
    cases ov with
    | ref o => exact ⟨o.g, rfl⟩
  by_cases hm : i ∈ os
  · cases he : env[i]? with
    | none => exact .inl ⟨G, Le.refl G, other (Le.refl G) I.aft same fun x _ e => by rw [he] at e; cases e⟩
    | some q =>
      cases q with
      | none => exact .inl ⟨G, Le.refl G, other (Le.refl G) I.aft same fun x _ e => by rw [he] at e; cases e⟩
      | some y =>
        obtain ⟨v, e1, ov⟩ := I.ow i y hm he
        cases ov with
        | non => exact .inl ⟨G, Le.refl G, other (Le.refl G) I.aft same fun x _ e => by rw [he] at e; cases e; exact ⟨_, e1, .non⟩⟩
        | @ref a _ o =>
        have neq : ∀ (j : Nat) (x : D) (b : Addr), j ∈ os' → env[j]? = some (some x) → σ[j]? = some (some (.ref b)) → b ≠ a ∧ G b = none := fun j x b hj e e2 => by
          obtain ⟨b', e3, ov3⟩ := I.ow j x (h1 j hj) e
          rw [e2] at e3; cases e3
          cases ov3 with
          | ref o3 =>
          refine ⟨fun z => ?_, o3.g⟩
          subst z
          have := I.dis i j y x b hm (h1 j hj) he e e1 e2
          subst this
          exact h3 hj
        have oo := o.o
        cases y with
        | lst ds =>
          obtain ⟨vs, q1, q2⟩ := oo
          exact .inl ⟨_, Le.new o.g, other (Le.new o.g) (I.aft.freeze o.n o.g o.h q1) (fun j x b hj e e2 => by
            obtain ⟨z1, z2⟩ := neq j x b hj e e2
            exact ⟨by rw [upd_ne z1]; exact z2, rfl⟩) fun x _ e => by
            rw [he] at e; cases e
            exact ⟨_, e1, .lst upd_same (q2.mono (Le.new o.g))⟩⟩
        | dic ds =>
          obtain ⟨vs, q1, q2⟩ := oo
          exact .inr ⟨a, _, q1, True.intro, fun od => ⟨_, Le.new o.g, other (Le.new o.g) (I.aft.frzD o.n o.g o.h q1) (fun j x b hj e e2 => by
            obtain ⟨z1, z2⟩ := neq j x b hj e e2
            exact ⟨by rw [upd_ne z1]; exact z2, by rw [upd_ne z1]⟩) fun x _ e => by
            rw [he] at e; cases e
            exact ⟨_, e1, .dic upd_same (q2.mono (Le.new o.g))⟩⟩⟩
        | dct ds =>
          obtain ⟨vs, q1, q2⟩ := oo
          exact .inr ⟨a, _, q1, True.intro, fun od => ⟨_, Le.new o.g, other (Le.new o.g) (I.aft.frzD o.n o.g o.h q1) (fun j x b hj e e2 => by
            obtain ⟨z1, z2⟩ := neq j x b hj e e2
            exact ⟨by rw [upd_ne z1]; exact z2, by rw [upd_ne z1]⟩) fun x _ e => by
            rw [he] at e; cases e
            exact ⟨_, e1, .dct upd_same (q2.mono (Le.new o.g))⟩⟩⟩
        | dtn hf ds =>
          obtain ⟨vs, q1, q3, q2⟩ := oo
          exact .inr ⟨a, _, q1, True.intro, fun od => ⟨_, Le.new o.g, other (Le.new o.g) (I.aft.frzD o.n o.g o.h q1) (fun j x b hj e e2 => by
            obtain ⟨z1, z2⟩ := neq j x b hj e e2
            exact ⟨by rw [upd_ne z1]; exact z2, by rw [upd_ne z1]⟩) fun x _ e => by
            rw [he] at e; cases e
            exact ⟨_, e1, .dtn upd_same (q3.mono fun _ _ z => Le.new o.g _ _ z) (q2.mono (Le.new o.g))⟩⟩⟩
        | _ => exact oo.elim
  · exact .inl ⟨G, Le.refl G, other (Le.refl G) I.aft same fun x h _ => absurd h hm⟩
theorem pmss_frz (i : Nat) {os1 o2 : List Nat} {sts : List Stmt} (h : PMSs X fr os1 o2 ol sts mb) (h1 : ∀ j ∈ os1, j ∈ os := by decide) (h2 : ∀ j ∈ os, j = i ∨ j ∈ os1 := by decide) (h3 : i ∉ os1 := by decide) : PMSs X fr os o2 ol sts mb := by
  obtain ⟨ts, p, s⟩ := h
  refine ⟨tFrzS ts, pss_frz p, fun C G σ H env d D I w => ?_⟩
  rcases I.freeze i h1 h2 h3 with ⟨G', le, I'⟩ | ⟨a, u, ha, hm, k⟩
  · exact .inl (s C G' σ H env d D I' (w.imp fun c d1 k => CPost.le k le))
  · refine .inr ⟨a, u, ha, hm, fun od => ?_⟩
    obtain ⟨G', le, I'⟩ := k od
    exact s C G' σ _ env d D I' (w.imp fun c d1 k => CPost.le k le)
def cNever : Ev → M Ctl := fun _ => bad
theorem pms_never : PMS X fr os os' ol st cNever := ⟨tNever, ps_never, fun C G σ H env d D I w => w.elim⟩
end
def defM (nl : Nat) (body : Ev → M Ctl) : List D → M D := fun ds => body (ds.map some ++ List.replicate (nl - ds.length) none) >>= fun c => match c with
  | .ret x => pure x
  | .nx _ => pure .non
  | _ => bad
section
variable {P : Program} {w : World} {K : PySem.W.Frag} {mg : Str → Option Value} {base : Heap}
theorem Reps.start {S : SA} {G : Hp} : ∀ {vs : List V} {ds : List D} (n i : Nat) (x : D), Reps K mg S G vs ds → (ds.map some ++ List.replicate n none)[i]? = some (some x) → ∃ v, (vs.map some ++ List.replicate n (none : Option V))[i]? = some (some v) ∧ Rep K mg S G v x
  | _, _, n, i, x, .nil, e => by
    rw [List.map_nil, List.nil_append] at e
    rw [List.getElem?_replicate] at e
    split at e
    · cases e
    · cases e
  | _, _, n, 0, x, .cons r t, e => by
    cases e
    exact ⟨_, rfl, r⟩
  | _, _, n, i + 1, x, .cons r t, e => by
    obtain ⟨v, h1, h2⟩ := Reps.start n i x t (by simpa using e)
    exact ⟨v, by simpa using h1, h2⟩
theorem IM.start {C : Ct} {os : List Nat} {vs : List V} {ds : List D} {d : Drw} {N : List Str} (st : StR C.S C.H d) (sub : Sub C.S C.G C.H) (r : Reps K mg C.S C.G vs ds) (ho : ∀ i ∈ os, ds.length ≤ i) :
    IM K mg C os (ds.map some ++ List.replicate (N.length - ds.length) none) (L2.start N vs) C.H C.G d where
  aft := Aft.refl st sub
  len := by unfold L2.start; rw [List.length_append, List.length_append, List.length_map, List.length_map, List.length_replicate, List.length_replicate, r.length]
  sh := fun i x _ e => by
    unfold L2.start
    rw [r.length]
    exact Reps.start _ i x r e
  ow := fun i x hi e => by
    have := ho i hi
    rw [List.getElem?_append_right (by rw [List.length_map]; exact this), List.getElem?_replicate] at e
    split at e <;> cases e
  dis := fun i j x y a hi hj e => by
    have := ho i hi
    rw [List.getElem?_append_right (by rw [List.length_map]; exact this), List.getElem?_replicate] at e
    split at e <;> cases e
theorem ok_defM {x qual : Str} {st : Stmt} {f : Addr} {fd : FuncData} {N ps : List Str} {k n : Nat} {os o2 ol : List Nat} {body : Ev → M Ctl} (F : Fun K x qual st f fd) (S : FnScope N ps (defScope st)) (hn : ps.length = n) (ho : ∀ i ∈ os, n ≤ i)
    (hbody : ∀ (cdv : Value) (A : Around) (outer : List Env) (s : Shared) (H : Hp) (E : XK), Room k (A.deeper (envOfC qual (defScope st) s.heap.objs.size f cdv)) →
      PMSs (cxOf CX0 P w K mg base N qual (defScope st) f cdv A outer s H E).nox false os o2 ol (defBody st) body) : FnOk P w K mg base CX0 (k + 1) f fd ps (spM K mg n (defM N.length body)) := by
  refine F.ok S (fun vs H Q E h => h.1.trans hn.symm) fun cdv A outer s H vs Q E hr h => ?_
  obtain ⟨hl, Sa, G, ds, d, st', sub, r, w⟩ := h
  obtain ⟨ts, p, sm⟩ := hbody cdv A outer s H E hr
  refine ⟨ts, p, sm ⟨Sa, G, H⟩ G (start N vs) H _ d _ (IM.start (C := ⟨Sa, G, H⟩) st' sub r fun i hi => by rw [← r.length, hl]; exact ho i hi) ?_⟩
  unfold defM at w
  rw [Wp_bind] at w
  exact w.imp fun c d1 k1 => by
    cases c with
    | nx e => exact fun σ' H' G' _ I' => k1 .non H' G' I'.aft .non
    | ret x => exact fun v H' G' A' r' => k1 v H' G' A' r'
    | brk e => exact k1.elim
    | cont e => exact k1.elim
theorem ok_defN {x qual : Str} {st : Stmt} {f : Addr} {fd : FuncData} {N ps : List Str} {k n : Nat} {os o2 ol : List Nat} {body : Ev → M Ctl} (F : Fun K x qual st f fd) (S : FnScope N ps (defScope st)) (hn : ps.length = n) (ho : ∀ i ∈ os, n ≤ i)
    (hnx : ∀ env d e d', body env d ≠ .ok (.nx e) d')
    (hbody : ∀ (cdv : Value) (A : Around) (outer : List Env) (s : Shared) (H : Hp) (E : XK), Room k (A.deeper (envOfC qual (defScope st) s.heap.objs.size f cdv)) →
      PMSs (cxOf CX0 P w K mg base N qual (defScope st) f cdv A outer s H E).nox true os o2 ol (defBody st) body) : FnOk P w K mg base CX0 (k + 1) f fd ps (spN K mg n (defM N.length body)) := by
  refine F.ok S (fun vs H Q E h => h.1.trans hn.symm) fun cdv A outer s H vs Q E hr h => ?_
  obtain ⟨hl, Sa, G, ds, d, st', sub, r, w⟩ := h
  obtain ⟨ts, p, sm⟩ := hbody cdv A outer s H E hr
  refine ⟨ts, p, sm ⟨Sa, G, H⟩ G (start N vs) H _ d _ (IM.start (C := ⟨Sa, G, H⟩) st' sub r fun i hi => by rw [← r.length, hl]; exact ho i hi) ?_⟩
  unfold defM at w
  rw [Wp_bind] at w
  have hb := hnx (ds.map some ++ List.replicate (N.length - ds.length) none) d
  cases hx : body (ds.map some ++ List.replicate (N.length - ds.length) none) d with
  | bad => rw [hx] at w; exact w.elim
  | ok c d1 =>
    rw [hx] at w hb
    cases c with
    | nx e => exact absurd rfl (hb e d1)
    | ret x => exact fun v H' G' A' r' => w v H' G' A' r'
    | brk e => exact w.elim
    | cont e => exact w.elim
end
end Mir
end
section
set_option maxHeartbeats 2000000
namespace Mir
open PySem PySem.Spec PyProof.Rows L2
variable [Tab]
mutual
def toPy : D → Option PyData
  | .non => some .none
  | .bl b => some (.bool b)
  | .int i => some (.int i)
  | .str x => some (.str x)
  | .lst xs => (toPys xs).map .list
  | .ro xs => (toPys xs).map .list
  | .tup xs => (toPys xs).map .tuple
  | .dic _ => none
  | .obj _ _ => none
  | .st => none
  | .ln _ => none
  | .plt _ => none
  | .rot xs => (toPys xs).map .tuple
  | .dct _ => none
  | .dtn _ _ => none
  | .mem _ => none
  | .lam _ => none
  | .lamc _ _ => none
  | .dnk _ _ => none
  | .exc _ _ => none
def toPys : List D → Option (List PyData)
  | [] => some []
  | x :: xs => match toPy x, toPys xs with
    | some p, some ps => some (p :: ps)
    | _, _ => none
end
section
variable {K : PySem.W.Frag} {mg : Str → Option Value} {S : SA} {G H : Hp}
mutual
theorem Rep.dp (le : Le G H) : ∀ {v : V} {d : D} {p : PyData}, Rep K mg S G v d → toPy d = some p → Dp K H v p
  | _, _, _, .non, e => by cases e; exact .non
  | _, _, _, .bl b, e => by cases e; exact .bl b
  | _, _, _, .int i, e => by cases e; exact .int i
  | _, _, _, .str x, e => by cases e; exact .str x
  | _, _, _, .lst h r, e => by
    rw [toPy, Option.map_eq_some_iff] at e
    obtain ⟨ps, e1, e2⟩ := e
    subst e2
    exact .lst (.inl (.inl (le _ _ h))) (Reps.dp le r e1)
  | _, _, _, .ro h r, e => by
    rw [toPy, Option.map_eq_some_iff] at e
    obtain ⟨ps, e1, e2⟩ := e
    subst e2
    exact .lst (le.l h) (Reps.dp le r e1)
  | _, _, _, .tup h r, e => by
    rw [toPy, Option.map_eq_some_iff] at e
    obtain ⟨ps, e1, e2⟩ := e
    subst e2
    exact .tup (.inl (.inl (le _ _ h))) (Reps.dp le r e1)
  | _, _, _, .rot h r, e => by
    rw [toPy, Option.map_eq_some_iff] at e
    obtain ⟨ps, e1, e2⟩ := e
    subst e2
    exact .tup (le.t h) (Reps.dp le r e1)
  | _, _, _, .dic _ _, e => by cases e
  | _, _, _, .obj _ _ _, e => by cases e
  | _, _, _, .st, e => by cases e
  | _, _, _, .ln _ _, e => by cases e
  | _, _, _, .plt _ _ _, e => by cases e
  | _, _, _, .dct _ _, e => by cases e
  | _, _, _, .dtn _ _ _, e => by cases e
  | _, _, _, .mem _, e => by cases e
  | _, _, _, .lam _ _ _, e => by cases e
  | _, _, _, .lamc _ _ _ _, e => by cases e
  | _, _, _, .dnk _ _, e => by cases e
  | _, _, _, .exc _ _ _ _, e => by cases e
theorem Reps.dp (le : Le G H) : ∀ {vs : List V} {ds : List D} {ps : List PyData}, Reps K mg S G vs ds → toPys ds = some ps → DpAll K H vs ps
  | _, _, _, .nil, e => by cases e; exact .nil
  | _, _, _, .cons a b, e => by
    rw [toPys] at e
    split at e
    · rename_i p ps e1 e2
      cases e
      exact .cons (Rep.dp le a e1) (Reps.dp le b e2)
    · cases e
end
theorem RepT.dp {v : V} {d : D} {p : PyData} (sb : Sub S G H) (h : RepT K mg S G H v d) (e : toPy d = some p) : Dp K H v p := by
  cases h with
  | of r => exact r.dp sb.le e
  | lst n h r =>
    rw [toPy, Option.map_eq_some_iff] at e
    obtain ⟨ps, e1, e2⟩ := e
    subst e2
    exact .lst (.inl (.inl h)) (r.dp sb.le e1)
  | dic => cases e
  | dct => cases e
  | dtn => cases e
end
def dEqP (neg : Bool) (x y : D) : M D := match toPy x, toPy y with
  | some p, some q => guardB (SeqAt.shaped p && SeqAt.shaped q) (pure (.bl (if neg = true then !PyData.eqv p q else PyData.eqv p q)))
  | _, _ => bad
theorem dEqP_some {neg : Bool} {x y : D} {d : Drw} {P : D → Drw → Prop} (w : Wp (dEqP neg x y d) P) : ∃ p q, toPy x = some p ∧ toPy y = some q ∧ SeqAt.shaped p = true ∧ SeqAt.shaped q = true ∧ P (.bl (if neg = true then !PyData.eqv p q else PyData.eqv p q)) d := by
  cases e1 : toPy x with
  | none => simp only [dEqP, e1] at w; exact w.elim
  | some p =>
    cases e2 : toPy y with
    | none => simp only [dEqP, e1, e2] at w; exact w.elim
    | some q =>
      simp only [dEqP, e1, e2] at w
      rw [Wp_guard, Bool.and_eq_true] at w
      exact ⟨p, q, rfl, rfl, w.1.1, w.1.2, w.2⟩
def dEqB (neg : Bool) (x y : D) : M D := match x, y with
  | .str a, .str b => pure (.bl (if neg = true then !decide (a = b) else decide (a = b)))
  | x, y => dEqP neg x y
abbrev dEq := dEqB false
abbrev dNe := dEqB true
theorem dEqB_some {neg : Bool} {x y : D} {d : Drw} {P : D → Drw → Prop} (w : Wp (dEqB neg x y d) P) :
    (∃ a b, x = .str a ∧ y = .str b ∧ P (.bl (if neg = true then !decide (a = b) else decide (a = b))) d) ∨ ∃ p q, toPy x = some p ∧ toPy y = some q ∧ SeqAt.shaped p = true ∧ SeqAt.shaped q = true ∧ P (.bl (if neg = true then !PyData.eqv p q else PyData.eqv p q)) d := by
  by_cases h : ∃ a b, x = .str a ∧ y = .str b
  · obtain ⟨a, b, rfl, rfl⟩ := h
    exact .inl ⟨a, b, rfl, rfl, w⟩
  · refine .inr (dEqP_some ?_)
    cases x <;> first | exact w | (cases y <;> first | exact w | exact absurd ⟨_, _, rfl, rfl⟩ h)
def rEqX (K : PySem.W.Frag) : R2 := fun x y H Q => rEq x y H Q ∨ rEqD K x y H Q
def rNeX (K : PySem.W.Frag) : R2 := fun x y H Q => rNe x y H Q ∨ rNeD K x y H Q
theorem op_eqX {X : Cx} (hu : X.A.units + 64 < cLine) : OpR X (compareOp .Eq) (rEqX X.K) := by
  intro pins s σ H x y v u Q I rx ry h
  rcases h with h | h
  · exact op_eq pins s σ H x y v u Q I rx ry h
  · exact op_eqD hu pins s σ H x y v u Q I rx ry h
theorem op_neX {X : Cx} (hu : X.A.units + 64 < cLine) : OpR X (compareOp .NotEq) (rNeX X.K) := by
  intro pins s σ H x y v u Q I rx ry h
  rcases h with h | h
  · exact op_ne pins s σ H x y v u Q I rx ry h
  · exact op_neD hu pins s σ H x y v u Q I rx ry h
theorem RepT.str_of {K : PySem.W.Frag} {mg : Str → Option Value} {S : SA} {G H : Hp} {v : V} {z : Str} (h : RepT K mg S G H v (.str z)) : v = .str z := by
  cases h with
  | of r => cases r; rfl
theorem dec_strV {i j : Str} : decide (V.str i = V.str j) = decide (i = j) := by
  rw [Bool.eq_iff_iff]
  simp
section
variable {X : Cx} {os : List Nat} {e a b c : Expr} {es : List Expr} {te ta tb tc : TE} {tas : TA} {m ma mb mc : Ev → M D} {ms : Ev → M (List D)} {pos p' : Pos} {k : Nat} {x : Str}
theorem pm_eq (hr : Room k X.A) (ha : PMB X os a ta ma) (hb : PMB X os b tb mb) : PMC X os (.Compare a [.Eq] [b] pos) (tOp (rEqX X.K) ta tb) (eBin dEq ma mb) :=
  pm_cmp (op_eqX (by have := hr.un; omega)) (fun S G H d x y dx dy Q st sb rx ry w => by
    rcases dEqB_some w with ⟨p, q, e1, e2, kk⟩ | ⟨p, q, e1, e2, s1, s2, kk⟩
    · subst e1; subst e2
      cases rx.str_of; cases ry.str_of
      refine .inl ⟨rfl, ?_⟩
      rw [dec_strV]
      exact kk _ _ _ (Aft.refl st sb) (.bl _)
    · exact .inr ⟨p, q, rx.dp sb e1, ry.dp sb e2, s1, s2, kk _ _ _ (Aft.refl st sb) (.bl _)⟩) ha hb (nomark _)
theorem pm_ne (hr : Room k X.A) (ha : PMB X os a ta ma) (hb : PMB X os b tb mb) : PMC X os (.Compare a [.NotEq] [b] pos) (tOp (rNeX X.K) ta tb) (eBin dNe ma mb) :=
  pm_cmp (op_neX (by have := hr.un; omega)) (fun S G H d x y dx dy Q st sb rx ry w => by
    rcases dEqB_some w with ⟨p, q, e1, e2, kk⟩ | ⟨p, q, e1, e2, s1, s2, kk⟩
    · subst e1; subst e2
      cases rx.str_of; cases ry.str_of
      refine .inl ⟨rfl, ?_⟩
      rw [dec_strV]
      exact kk _ _ _ (Aft.refl st sb) (.bl _)
    · exact .inr ⟨p, q, rx.dp sb e1, ry.dp sb e2, s1, s2, kk _ _ _ (Aft.refl st sb) (.bl _)⟩) ha hb (nomark _)
def isNon : D → Bool
  | .non => true
  | _ => false
theorem RepT.isNon {K : PySem.W.Frag} {mg : Str → Option Value} {S : SA} {G H : Hp} {v : V} {d : D} (h : RepT K mg S G H v d) : decide (v = .non) = Mir.isNon d := by
  cases h with
  | of r => cases r <;> rfl
  | lst => rfl
  | dic => rfl
  | dct => rfl
  | dtn => rfl
def dIsN (neg : Bool) (x y : D) : M D := match y with
  | .non => pure (.bl (if neg = true then !isNon x else isNon x))
  | _ => bad
theorem pm_isN (ha : PMB X os a ta ma) (hb : PMB X os b tb mb) : PMC X os (.Compare a [.Is] [b] pos) (tOp (fun x y H Q => y = .non ∧ Q (.bl (decide (x = .non))) H) ta tb) (eBin (dIsN false) ma mb) :=
  pm_cmp op_isN (fun S G H d x y dx dy Q st sb rx ry w => by
    unfold dIsN at w
    split at w
    · refine ⟨by cases ry with | of r => cases r; rfl, ?_⟩
      rw [rx.isNon]
      exact w _ _ _ (Aft.refl st sb) (.bl _)
    · exact w.elim) ha hb (nomark _)
theorem pm_notN (ha : PMB X os a ta ma) (hb : PMB X os b tb mb) : PMC X os (.Compare a [.IsNot] [b] pos) (tOp (fun x y H Q => y = .non ∧ Q (.bl (!decide (x = .non))) H) ta tb) (eBin (dIsN true) ma mb) :=
  pm_cmp op_notN (fun S G H d x y dx dy Q st sb rx ry w => by
    unfold dIsN at w
    split at w
    · refine ⟨by cases ry with | of r => cases r; rfl, ?_⟩
      rw [rx.isNon]
      exact w _ _ _ (Aft.refl st sb) (.bl _)
    · exact w.elim) ha hb (nomark _)
def dAdd : D → D → M D
  | .int i, .int j => pure (.int (i + j))
  | .str i, .str j => guardB (decide (i.length + j.length ≤ sizeLine)) (pure (.str (i ++ j)))
  | .lst i, .lst j => guardB (decide (i.length + j.length ≤ sizeLine)) (pure (.lst (i ++ j)))
  | .tup i, .tup j => guardB (decide (i.length + j.length ≤ sizeLine)) (pure (.tup (i ++ j)))
  | _, _ => bad
def rAddAll (K : PySem.W.Frag) : R2 := fun x y H Q => rI0 (fun i j => .int (i + j)) x y H Q ∨ (∃ i j, x = .str i ∧ y = .str j ∧ i.length + j.length ≤ sizeLine ∧ Q (.str (i ++ j)) H) ∨ rCat x y H Q ∨ rCatA K x y H Q
theorem simR_add {K : PySem.W.Frag} {mg : Str → Option Value} : SimR K mg (rAddAll K) dAdd := by
  intro S G H d x y dx dy Q st sb rx ry w
  unfold dAdd at w
  split at w
  · exact .inl ⟨_, _, rx.int, ry.int, w _ _ _ (Aft.refl st sb) (.int _)⟩
  · rw [Wp_guard] at w
    exact .inr (.inl ⟨_, _, rx.str, ry.str, of_decide_eq_true w.1, w.2 _ _ _ (Aft.refl st sb) (.str _)⟩)
  · rw [Wp_guard] at w
    obtain ⟨a, vs, e1, h1, r1, n1⟩ := rx.lst' sb
    obtain ⟨b, ws, e2, h2, r2, n2⟩ := ry.lst' sb
    have hl := of_decide_eq_true w.1
    exact .inr (.inr (.inl ⟨a, b, vs, ws, e1, e2, h1, h2, by rw [r1.length, r2.length]; exact hl, fun p hp => w.2 _ _ _ (Aft.new st sb hp) (.lst upd_same ((r1.append r2).mono (Le.new (sb.free hp))))⟩))
  · rw [Wp_guard] at w
    obtain ⟨a, vs, e1, h1, r1⟩ := rx.tupR sb
    obtain ⟨b, ws, e2, h2, r2⟩ := ry.tupR sb
    have hl := of_decide_eq_true w.1
    refine .inr (.inr (.inr ⟨a, b, vs, ws, e1, e2, .inl (.inl (sb.le _ _ h1)), .inl (.inl (sb.le _ _ h2)), by rw [r1.length, r2.length]; exact hl, fun z => ?_, fun _ z => ?_, fun _ _ p hp => w.2 _ _ _ (Aft.new st sb hp) (.tup upd_same ((r1.append r2).mono (Le.new (sb.free hp))))⟩))
    · subst z
      cases r1
      exact w.2 _ _ _ (Aft.refl st sb) (.tup h2 r2)
    · subst z
      cases r2
      rw [List.append_nil] at w
      exact w.2 _ _ _ (Aft.refl st sb) (.tup h1 r1)
  · exact w.elim
theorem pm_add (ha : PMB X os a ta ma) (hb : PMB X os b tb mb) : PM X os (.BinOp a .Add b pos) (tOp (rAddAll X.K) ta tb) (eBin dAdd ma mb) :=
  pm_bin (opr_or op_add (opr_or op_add_str (opr_or op_cat op_catA))) simR_add ha hb
def SimC (K : PySem.W.Frag) (mg : Str → Option Value) (r : List V → Hp → VK → Prop) (g : D → M D) : Prop := ∀ S G H d x dx Q, StR S H d → Sub S G H → RepT K mg S G H x dx →
  Wp (g dx d) (fun z d' => ∀ v H' G', Aft S G H G' H' d' → Rep K mg S G' v z → Q v H') → r [x] H Q
def SimCF (K : PySem.W.Frag) (mg : Str → Option Value) (r : List V → Hp → VK → Prop) (g : D → M D) : Prop := ∀ S G H d x dx Q, StR S H d → Sub S G H → RepT K mg S G H x dx →
  Wp (g dx d) (fun z d' => ∀ v H' G', Aft S G H G' H' d' → RepN K mg S G H G' H' v z → Q v H') → r [x] H Q
def eUn (g : D → M D) (m : Ev → M D) : Ev → M D := fun env => m env >>= g
theorem simE_c1 {K : PySem.W.Frag} {mg : Str → Option Value} {C : Ct} {r : List V → Hp → VK → Prop} {g : D → M D} (s : SimB K mg C os te m) (hs : SimC K mg r g) : SimE K mg C os (tCB r (tCons te tNil)) (eUn g m) := by
  intro G σ H env d Q I w
  unfold eUn at w
  rw [Wp_bind] at w
  exact s G σ H env d _ I (w.imp fun x d1 w1 v1 H1 G1 A1 r1 => hs C.S G1 H1 d1 v1 x Q A1.st A1.sub r1 (w1.imp fun z d2 kk v H' G' A2 r2 => kk v H' G' (A1.trans A2) r2))
theorem simF_c1 {K : PySem.W.Frag} {mg : Str → Option Value} {C : Ct} {r : List V → Hp → VK → Prop} {g : D → M D} (s : SimB K mg C os te m) (hs : SimCF K mg r g) : SimF K mg C os (tCB r (tCons te tNil)) (eUn g m) := by
  intro G σ H env d Q I w
  unfold eUn at w
  rw [Wp_bind] at w
  exact s G σ H env d _ I (w.imp fun x d1 w1 v1 H1 G1 A1 r1 => hs C.S G1 H1 d1 v1 x Q A1.st A1.sub r1 (w1.imp fun z d2 kk v H' G' A2 r2 => kk v H' G' (A1.trans A2) (RepN.pull A1 r2)))
theorem callr_or {f : Value} {r1 r2 : List V → Hp → VK → Prop} (h1 : CallR X f r1) (h2 : CallR X f r2) : CallR X f (fun xs H Q => r1 xs H Q ∨ r2 xs H Q) := fun pins s σ H xs us Q I rv h =>
  h.elim (h1 pins s σ H xs us Q I rv) (h2 pins s σ H xs us Q I rv)
theorem pm_call1 {id : String} {r : List V → Hp → VK → Prop} {g : D → M D} (hc : CallR X (.builtin id) r) (hs : SimC X.K X.mg r g) (hg : Gl X x) (hm : X.mg x = none) (hv : bootBuiltins x = some (.builtin id)) (ha : PMB X os e te m) (hn : x ≠ "__name__" := by decide) (hdb : (x == ("__debug__" : Str)) = false := by decide)
    (he : starEach [e] X.env = (false, eval e X.env) :: starEach [] X.env := by rfl) (hpl : (backTo pos (starEach [] X.env)).any (·.1) = false := by rfl) : PM X os (.Call (.Name x p') [e] [] pos) (tCB r (tCons te tNil)) (eUn g m) :=
  ⟨pe_callB hc hg hm hv (pa_cons ha.p pa_nil he) hn hdb he hpl, fun C => simE_c1 (ha.s C) hs⟩
theorem pm_callT1 {T : String} {r : List V → Hp → VK → Prop} {g : D → M D} (hc : CallR X (.type T) r) (hs : SimC X.K X.mg r g) (hg : Gl X x) (hm : X.mg x = none) (hv : bootBuiltins x = some (.type T)) (ha : PMB X os e te m) (hn : x ≠ "__name__" := by decide) (hdb : (x == ("__debug__" : Str)) = false := by decide)
    (he : starEach [e] X.env = (false, eval e X.env) :: starEach [] X.env := by rfl) (hpl : (backTo pos (starEach [] X.env)).any (·.1) = false := by rfl) : PM X os (.Call (.Name x p') [e] [] pos) (tCB r (tCons te tNil)) (eUn g m) :=
  ⟨pe_callTy hc hg hm hv (pa_cons ha.p pa_nil he) hn hdb he hpl, fun C => simE_c1 (ha.s C) hs⟩
theorem pmf_callT1 {T : String} {r : List V → Hp → VK → Prop} {g : D → M D} (hc : CallR X (.type T) r) (hs : SimCF X.K X.mg r g) (hg : Gl X x) (hm : X.mg x = none) (hv : bootBuiltins x = some (.type T)) (ha : PMB X os e te m) (hn : x ≠ "__name__" := by decide) (hdb : (x == ("__debug__" : Str)) = false := by decide)
    (he : starEach [e] X.env = (false, eval e X.env) :: starEach [] X.env := by rfl) (hpl : (backTo pos (starEach [] X.env)).any (·.1) = false := by rfl) : PMF X os (.Call (.Name x p') [e] [] pos) (tCB r (tCons te tNil)) (eUn g m) :=
  ⟨pe_callTy hc hg hm hv (pa_cons ha.p pa_nil he) hn hdb he hpl, fun C => simF_c1 (ha.s C) hs⟩
def dLen : D → M D
  | .str y => guardB (decide (y.length ≤ sizeLine)) (pure (.int y.length))
  | .lst xs => pure (.int xs.length)
  | .ro xs => pure (.int xs.length)
  | .tup xs => pure (.int xs.length)
  | .dic xs => pure (.int xs.length)
  | _ => bad
def rLen (K : PySem.W.Frag) : List V → Hp → VK → Prop := fun xs H Q => (∃ x n, xs = [x] ∧ LenV K x H n ∧ Q (.int n) H) ∨ ∃ a kvs, xs = [V.ref a] ∧ Rd H a (.dK kvs) ∧ Q (.int kvs.length) H
theorem call_lenR {X : Cx} : CallR X (.builtin "len") (fun xs H Q => ∃ a kvs, xs = [V.ref a] ∧ Rd H a (.dK kvs) ∧ Q (.int kvs.length) H) := fun pins s σ H xs us Q I r h => by
  obtain ⟨a, kvs, ex, ha, q⟩ := h
  subst ex
  obtain ⟨u, eu, ru⟩ := vals1 r
  subst eu
  cases ru
  exact d_len I ha fun t s' J => ⟨.int kvs.length, H, J, ⟨t, rfl⟩, q⟩
theorem simC_len {K : PySem.W.Frag} {mg : Str → Option Value} : SimC K mg (rLen K) dLen := by
  intro S G H d x dx Q st sb rx w
  unfold dLen at w
  split at w
  · rw [Wp_guard] at w
    exact .inl ⟨x, _, rfl, by rw [rx.str]; exact ⟨of_decide_eq_true w.1, rfl⟩, w.2 _ _ _ (Aft.refl st sb) (.int _)⟩
  · obtain ⟨a, vs, e1, h1, r1, n1⟩ := rx.lst' sb
    subst e1
    refine .inl ⟨_, vs.length, rfl, .inl ⟨vs, .inl (.inl h1), rfl⟩, ?_⟩
    rw [r1.length]
    exact w _ _ _ (Aft.refl st sb) (.int _)
  · cases rx with
    | of r =>
      cases r with
      | ro hq r1 =>
        refine .inl ⟨_, _, rfl, .inl ⟨_, sb.le.l hq, rfl⟩, ?_⟩
        rw [r1.length]
        exact w _ _ _ (Aft.refl st sb) (.int _)
  · obtain ⟨a, vs, e1, h1, r1⟩ := rx.tup' sb
    subst e1
    refine .inl ⟨_, vs.length, rfl, .inr ⟨vs, sb.le.t h1, rfl⟩, ?_⟩
    rw [r1.length]
    exact w _ _ _ (Aft.refl st sb) (.int _)
  · obtain ⟨a, vs, e1, h1, r1, n1⟩ := rx.dic' sb
    subst e1
    refine .inr ⟨_, vs, rfl, h1, ?_⟩
    rw [r1.length]
    exact w _ _ _ (Aft.refl st sb) (.int _)
  · exact w.elim
theorem pm_len (hg : Gl X "len") (hm : X.mg "len" = none) (ha : PMB X os e te m) (he : starEach [e] X.env = (false, eval e X.env) :: starEach [] X.env := by rfl) (hpl : (backTo pos (starEach [] X.env)).any (·.1) = false := by rfl) : PM X os (.Call (.Name "len" p') [e] [] pos) (tCB (rLen X.K) (tCons te tNil)) (eUn dLen m) :=
  pm_call1 (callr_or call_len call_lenR) simC_len hg hm boot_len ha (by decide) (by decide) he hpl
def dList : D → M D
  | .lst xs => pure (.lst xs)
  | .tup xs => pure (.lst xs)
  | .ro xs => pure (.lst xs)
  | .plt xs => pure (.lst xs)
  | _ => bad
theorem pmf_list (hg : Gl X "list") (hm : X.mg "list" = none) (ha : PMB X os e te m) (he : starEach [e] X.env = (false, eval e X.env) :: starEach [] X.env := by rfl) (hpl : (backTo pos (starEach [] X.env)).any (·.1) = false := by rfl) :
    PMF X os (.Call (.Name "list" p') [e] [] pos) (tCB (fun xs H Q => ∃ p ys, xs = [.ref p] ∧ (SqL X.K H p ys ∨ SqT X.K H p ys) ∧ ∀ l, H l = none → Q (.ref l) (upd H l (.lst ys))) (tCons te tNil)) (eUn dList m) :=
  pmf_callT1 call_list_of (fun S G H d x dx Q st sb rx w => by
    unfold dList at w
    split at w
    · obtain ⟨a, vs, e1, h1, r1, n1⟩ := rx.lst' sb
      exact ⟨a, vs, by rw [e1], .inl (.inl (.inl h1)), fun p hp => w _ _ _ (Aft.newF st sb hp) (.lst hp (sb.free hp) upd_same r1)⟩
    · obtain ⟨a, vs, e1, h1, r1⟩ := rx.tup' sb
      exact ⟨a, vs, by rw [e1], .inr (sb.le.t h1), fun p hp => w _ _ _ (Aft.newF st sb hp) (.lst hp (sb.free hp) upd_same r1)⟩
    · cases rx with
      | of r =>
        cases r with
        | ro hq r1 => exact ⟨_, _, rfl, .inl (sb.le.l hq), fun p hp => w _ _ _ (Aft.newF st sb hp) (.lst hp (sb.free hp) upd_same r1)⟩
    · cases rx with
      | of r =>
        cases r with
        | plt hq hn r1 => exact ⟨_, _, rfl, .inr (.inl (.inr ⟨_, sb.le _ _ hq⟩)), fun p hp => w _ _ _ (Aft.newF st sb hp) (.lst hp (sb.free hp) upd_same r1)⟩
    · exact w.elim) hg hm (by decide +kernel) ha (by decide) (by decide) he hpl
def dTuple : D → M D
  | .lst xs => pure (.tup xs)
  | .ro xs => pure (.tup xs)
  | .tup xs => pure (.tup xs)
  | _ => bad
theorem pm_tuple (hg : Gl X "tuple") (hm : X.mg "tuple" = none) (ha : PMB X os e te m) (he : starEach [e] X.env = (false, eval e X.env) :: starEach [] X.env := by rfl) (hpl : (backTo pos (starEach [] X.env)).any (·.1) = false := by rfl) :
    PM X os (.Call (.Name "tuple" p') [e] [] pos) (tCB (fun xs H Q => ∃ p ys, xs = [.ref p] ∧ ((SqL X.K H p ys ∧ ∀ l, H l = none → Q (.ref l) (upd H l (.tup ys))) ∨ (SqT X.K H p ys ∧ Q (.ref p) H))) (tCons te tNil)) (eUn dTuple m) :=
  pm_callT1 call_tuple_of (fun S G H d x dx Q st sb rx w => by
    unfold dTuple at w
    split at w
    · obtain ⟨a, vs, e1, h1, r1, n1⟩ := rx.lst' sb
      exact ⟨a, vs, by rw [e1], .inl ⟨.inl (.inl h1), fun p hp => w _ _ _ (Aft.new st sb hp) (.tup upd_same (r1.mono (Le.new (sb.free hp))))⟩⟩
    · cases rx with
      | of r =>
        cases r with
        | ro hq r1 => exact ⟨_, _, rfl, .inl ⟨sb.le.l hq, fun p hp => w _ _ _ (Aft.new st sb hp) (.tup upd_same (r1.mono (Le.new (sb.free hp))))⟩⟩
    · obtain ⟨a, vs, e1, h1, r1⟩ := rx.tupR sb
      exact ⟨a, vs, by rw [e1], .inr ⟨sb.le.t (.inl (.inl h1)), w _ _ _ (Aft.refl st sb) (.tup h1 r1)⟩⟩
    · exact w.elim) hg hm (by decide +kernel) ha (by decide) (by decide) he hpl
def blD : D → Option Bool
  | .bl b => some b
  | _ => none
def itD : D → Option Int
  | .int b => some b
  | _ => none
theorem blD_eq {d : D} {b : Bool} (h : blD d = some b) : d = .bl b := by
  unfold blD at h
  split at h
  · cases h; rfl
  · exact nomatch h
def bls : List D → Option (List Bool)
  | [] => some []
  | x :: r => (blD x).bind fun b => (bls r).map (b :: ·)
def nums : List D → Option (List Int)
  | [] => some []
  | x :: r => (itD x).bind fun b => (nums r).map (b :: ·)
theorem bls_rep {K : PySem.W.Frag} {mg : Str → Option Value} {S : SA} {G : Hp} : ∀ {vs : List V} {ds : List D} {bs : List Bool}, Reps K mg S G vs ds → bls ds = some bs → vs = bs.map V.bl
  | _, _, _, .nil, e => by cases e; rfl
  | _, _, _, .cons a t, e => by
    obtain ⟨b, h1, h2⟩ := Option.bind_eq_some_iff.mp e
    obtain ⟨r, e1, e2⟩ := Option.map_eq_some_iff.mp h2
    subst e2
    have h3 := blD_eq h1
    subst h3
    cases a
    rw [bls_rep t e1]; rfl
def dAll : D → M D
  | .lst xs => match bls xs with
    | some bs => pure (.bl (bs.all id))
    | none => bad
  | _ => bad
def dSum : D → M D
  | .lst xs => match nums xs with
    | some bs => pure (.int bs.sum)
    | none => bad
  | _ => bad
theorem pm_all (hc : X.calm = true) (hg : Gl X "all") (hm : X.mg "all" = none) (ha : PMB X os e te m) (he : starEach [e] X.env = (false, eval e X.env) :: starEach [] X.env := by rfl) (hpl : (backTo pos (starEach [] X.env)).any (·.1) = false := by rfl) :
    PM X os (.Call (.Name "all" p') [e] [] pos) (tCB (rAll X.K) (tCons te tNil)) (eUn dAll m) :=
  pm_call1 (cr_all hc) (fun S G H d x dx Q st sb rx w => by
    unfold dAll at w
    split at w
    · rename_i xs
      obtain ⟨a, vs, e1, h1, r1, n1⟩ := rx.lst' sb
      cases hb : bls xs with
      | none => simp only [hb] at w; exact w.elim
      | some bs =>
        simp only [hb] at w
        exact ⟨a, bs, by rw [e1], .inl (.inl (by rw [h1, bls_rep r1 hb])), w _ _ _ (Aft.refl st sb) (.bl _)⟩
    · exact w.elim) hg hm (by decide +kernel) ha (by decide) (by decide) he hpl
end
end Mir
end
section
set_option maxHeartbeats 2000000
namespace Mir
open PySem PySem.Spec PyProof.Rows L2
variable [Tab]
section
variable {K : PySem.W.Frag} {mg : Str → Option Value} {S : SA} {G H : Hp}
theorem atI_rep {vs : List V} {ds : List D} {i : Int} {x : D} (r : Reps K mg S G vs ds) (e : atI ds i = some x) : ∃ v, atI vs i = some v ∧ Rep K mg S G v x := by
  unfold atI at e ⊢
  rw [r.length]
  cases h : ixN ds.length i with
  | none => rw [h] at e; cases e
  | some j =>
    rw [h] at e
    obtain ⟨v, e1, rv⟩ := r.get (i := j) (d := x) e
    exact ⟨v, e1, rv⟩
end
section
variable {X : Cx} {fr : Bool} {os os' ol : List Nat} {e a b c : Expr} {es : List Expr} {te ta tb tc : TE} {tas : TA} {m ma mb mc : Ev → M D} {ms : Ev → M (List D)} {pos p' : Pos} {k : Nat} {x y : Str}
def dIx : D → D → M D
  | .lst xs, .int i => match atI xs i with
    | some z => pure z
    | none => bad
  | .ro xs, .int i => match atI xs i with
    | some z => pure z
    | none => bad
  | .tup xs, .int i => match atI xs i with
    | some z => pure z
    | none => bad
  | .str z, .int i => guardB (decide (z.length ≤ sizeLine)) (match atI z.cps.toList i with
    | some c => pure (.str ⟨#[c]⟩)
    | none => bad)
  | _, _ => bad
def rIx (K : PySem.W.Frag) : R2 := fun x y H Q => rIxL K x y H Q ∨ rIxT K x y H Q ∨ rIxS x y H Q
theorem simR_ix {K : PySem.W.Frag} {mg : Str → Option Value} : SimR K mg (rIx K) dIx := by
  intro S G H d x y dx dy Q st sb rx ry w
  unfold dIx at w
  split at w
  · rename_i xs i
    cases h : atI xs i with
    | none => simp only [h] at w; exact w.elim
    | some z =>
      simp only [h] at w
      obtain ⟨a, vs, e1, h1, r1, n1⟩ := rx.lst' sb
      obtain ⟨v, e2, rv⟩ := atI_rep r1 h
      exact .inl ⟨a, vs, i, v, e1, ry.int, .inl (.inl h1), e2, w _ _ _ (Aft.refl st sb) rv⟩
  · rename_i xs i
    cases h : atI xs i with
    | none => simp only [h] at w; exact w.elim
    | some z =>
      simp only [h] at w
      cases rx with
      | of r =>
        cases r with
        | ro hq r1 =>
          obtain ⟨v, e2, rv⟩ := atI_rep r1 h
          exact .inl ⟨_, _, i, v, rfl, ry.int, sb.le.l hq, e2, w _ _ _ (Aft.refl st sb) rv⟩
  · rename_i xs i
    cases h : atI xs i with
    | none => simp only [h] at w; exact w.elim
    | some z =>
      simp only [h] at w
      obtain ⟨a, vs, e1, h1, r1⟩ := rx.tup' sb
      obtain ⟨v, e2, rv⟩ := atI_rep r1 h
      exact .inr (.inl ⟨a, vs, i, v, e1, ry.int, sb.le.t h1, e2, w _ _ _ (Aft.refl st sb) rv⟩)
  · rename_i z i
    rw [Wp_guard] at w
    obtain ⟨hz, w⟩ := w
    cases h : atI z.cps.toList i with
    | none => simp only [h] at w; exact w.elim
    | some c =>
      simp only [h] at w
      exact .inr (.inr ⟨z, i, c, rx.str, ry.int, of_decide_eq_true hz, h, w _ _ _ (Aft.refl st sb) (.str _)⟩)
  · exact w.elim
theorem pm_ix (ha : PMB X os a ta ma) (hb : PMB X os b tb mb) (hs : PlainIx b := by exact fun _ _ => rfl) : PM X os (.Subscript a b pos) (tOp (rIx X.K) ta tb) (eBin dIx ma mb) :=
  ⟨pe_ix (IxR.or ix_list (IxR.or ix_tup ix_str)) ha.p hb.p hs, fun C => simE_op (ha.s C) (hb.s C) simR_ix⟩
structure PMO (X : Cx) (os : List Nat) (e : Option Expr) (to : TO) (m : Ev → M (Option Int)) : Prop where
  p : PO X e to
  s : ∀ C G σ H env d (Q : Option Int → Hp → Prop), IM X.K X.mg C os env σ H G d → Wp (m env d) (fun o d' => ∀ H' G', Aft C.S G H G' H' d' → Q o H') → to σ H Q
def oNone : Ev → M (Option Int) := fun _ => pure none
def oSome (m : Ev → M D) : Ev → M (Option Int) := fun env => m env >>= fun x => match x with
  | .int i => pure (some i)
  | _ => bad
theorem pmo_none : PMO X os none tNoPart oNone := ⟨po_none, fun C G σ H env d Q I w => w H G (Aft.refl I.st I.sub)⟩
theorem pmo_some (h : PMB X os e te m) : PMO X os (some e) (tPart te) (oSome m) := ⟨po_some h.p, fun C G σ H env d Q I w => by
  unfold oSome at w
  rw [Wp_bind] at w
  refine h.s C G σ H env d _ I (w.imp fun x d1 w1 v1 H1 G1 A1 r1 => ?_)
  split at w1
  · exact ⟨_, r1.int, w1 H1 G1 A1⟩
  · exact w1.elim⟩
def cutL {α : Type} (xs : List α) (lo hi : Option Int) : List α := (xs.drop (HT.sIx xs.length 0 lo)).take (HT.sIx xs.length xs.length hi - HT.sIx xs.length 0 lo)
theorem cut_rep {K : PySem.W.Frag} {mg : Str → Option Value} {S : SA} {G : Hp} {vs : List V} {ds : List D} {lo hi : Option Int} (r : Reps K mg S G vs ds) : Reps K mg S G (cutV vs lo hi) (cutL ds lo hi) := by
  unfold cutV cutL
  rw [r.length]
  exact (r.drop _).take _
def dSl (x : D) (lo hi : Option Int) : M D := match x with
  | .lst xs => pure (.lst (cutL xs lo hi))
  | .str z => guardB (decide (z.length ≤ sizeLine)) (pure (.str (cutS z lo hi)))
  | .tup xs => pure (.tup (cutL xs lo hi))
  | _ => bad
def eSl (m : Ev → M D) (ml mh : Ev → M (Option Int)) : Ev → M D := fun env => m env >>= fun x => ml env >>= fun lo => mh env >>= fun hi => dSl x lo hi
def rSl (K : PySem.W.Frag) : V → Option Int → Option Int → Hp → VK → Prop := fun x lo hi H Q => rSlL K x lo hi H Q ∨ rSlS x lo hi H Q ∨ rSlA K x lo hi H Q
variable {lo hi : Option Expr} {tl th : TO} {ml mh : Ev → M (Option Int)} {p2 : Pos}
theorem pm_sl (ha : PMB X os a ta ma) (hl : PMO X os lo tl ml) (hh : PMO X os hi th mh) : PM X os (.Subscript a (.Slice lo hi none p2) pos) (tSl (rSl X.K) ta tl th) (eSl ma ml mh) := by
  refine ⟨pe_slice (SlR.or sl_list (SlR.or sl_str sl_tupA)) ha.p hl.p hh.p, fun C G σ H env d Q I w => ?_⟩
  unfold eSl at w
  rw [Wp_bind] at w
  refine ha.s C G σ H env d _ I (w.imp fun x d1 w1 v1 H1 G1 A1 r1 => ?_)
  rw [Wp_bind] at w1
  refine hl.s C G1 σ H1 env d1 _ (I.later A1) (w1.imp fun lo d2 w2 H2 G2 A2 => ?_)
  rw [Wp_bind] at w2
  refine hh.s C G2 σ H2 env d2 _ (I.later (A1.trans A2)) (w2.imp fun hi d3 w3 H3 G3 A3 => ?_)
  have r3 := (r1.later A2).later A3
  have A := A1.trans (A2.trans A3)
  unfold dSl at w3
  split at w3
  · obtain ⟨a, vs, e1, h1, rr, n1⟩ := r3.lst' A.sub
    exact .inl ⟨a, vs, e1, .inl (.inl h1), fun p hp => w3 _ _ _ (A.trans (Aft.new A.st A.sub hp)) (.lst upd_same ((cut_rep rr).mono (Le.new (A.sub.free hp))))⟩
  · rw [Wp_guard] at w3
    exact .inr (.inl ⟨_, r3.str, of_decide_eq_true w3.1, w3.2 _ _ _ A (.str _)⟩)
  · rename_i xs
    obtain ⟨a, vs, e1, h1, rr⟩ := r3.tupR A.sub
    refine .inr (.inr ⟨a, vs, e1, .inl (.inl (A.sub.le _ _ h1)), fun hw => ?_, fun _ p hp => w3 _ _ _ (A.trans (Aft.new A.st A.sub hp)) (.tup upd_same ((cut_rep rr).mono (Le.new (A.sub.free hp))))⟩)
    have q : cutL xs lo hi = xs := by
      unfold cutL
      rw [← rr.length, hw.1, hw.2, rr.length]
      simp
    rw [q] at w3
    exact w3 _ _ _ A (.tup h1 rr)
  · exact w3.elim
def dRev : D → M D
  | .lst xs => pure (.lst xs.reverse)
  | _ => bad
theorem pmf_rev {kk : Nat} {p1 p3 : Pos} (ha : PMB X os a ta ma) : PMF X os (.Subscript a (.Slice none none (some (.UnaryOp .USub (.Constant (.int 1) kk p1) p2)) p3) pos) (tRevL X.K ta) (eUn dRev ma) := by
  refine ⟨pe_revL ha.p, fun C G σ H env d Q I w => ?_⟩
  unfold eUn at w
  rw [Wp_bind] at w
  refine ha.s C G σ H env d _ I (w.imp fun x d1 w1 v1 H1 G1 A1 r1 => ?_)
  unfold dRev at w1
  split at w1
  · obtain ⟨a, vs, e1, h1, rr, n1⟩ := r1.lst' A1.sub
    exact ⟨a, vs, e1, .inl (.inl h1), fun p hp => w1 _ _ _ (A1.trans (Aft.newF A1.st A1.sub hp)) (.lst (A1.free hp) (A1.sub.free hp) upd_same rr.reverse)⟩
  · exact w1.elim
def flatD : D → Bool
  | .non => true
  | .bl _ => true
  | .int _ => true
  | .str _ => true
  | _ => false
def valD : D → V
  | .bl b => .bl b
  | .int i => .int i
  | .str s => .str s
  | _ => .non
theorem flat_rep {K : PySem.W.Frag} {mg : Str → Option Value} {S : SA} {G : Hp} {v : V} {d : D} (r : Rep K mg S G v d) (h : flatD d = true) : v = valD d ∧ flatV v = true := by
  cases r <;> first | exact ⟨rfl, rfl⟩ | cases h
theorem flats_rep {K : PySem.W.Frag} {mg : Str → Option Value} {S : SA} {G : Hp} : ∀ {vs : List V} {ds : List D}, Reps K mg S G vs ds → ds.all flatD = true → vs = ds.map valD ∧ vs.all flatV = true
  | _, _, .nil, _ => ⟨rfl, rfl⟩
  | _, _, .cons a b, h => by
    rw [List.all_cons, Bool.and_eq_true] at h
    obtain ⟨e1, f1⟩ := flat_rep a h.1
    obtain ⟨e2, f2⟩ := flats_rep b h.2
    refine ⟨by rw [List.map_cons, ← e1, ← e2], by rw [List.all_cons, f1, f2]; rfl⟩
def inD (x : D) (xs : List D) : Bool := inV (valD x) (xs.map valD)
def dInS (neg : Bool) (x y : D) : M D := match y with
  | .lst xs => guardB (flatD x && xs.all flatD) (pure (.bl (if neg then !inD x xs else inD x xs)))
  | .tup xs => guardB (flatD x && xs.all flatD) (pure (.bl (if neg then !inD x xs else inD x xs)))
  | .rot xs => guardB (flatD x && xs.all flatD) (pure (.bl (if neg then !inD x xs else inD x xs)))
  | _ => bad
theorem simR_in {K : PySem.W.Frag} {mg : Str → Option Value} {neg : Bool} : SimR K mg (rIn K neg) (dInS neg) := by
  intro S G H d x y dx dy Q st sb rx ry w
  have fx : ∀ {z : D}, RepT K mg S G H x z → flatD z = true → x = valD z ∧ flatV x = true := fun {z} r h => by
    cases r with
    | of r => exact flat_rep r h
    | lst => cases h
    | dic => cases h
    | dct => cases h
    | dtn => cases h
  unfold dInS at w
  split at w
  · rw [Wp_guard, Bool.and_eq_true] at w
    obtain ⟨a, vs, e1, h1, r1, n1⟩ := ry.lst' sb
    obtain ⟨q1, q2⟩ := fx rx w.1.1
    obtain ⟨q3, q4⟩ := flats_rep r1 w.1.2
    refine ⟨a, vs, e1, .inl (.inl (.inl h1)), q2, q4, ?_⟩
    have k := w.2 _ _ _ (Aft.refl st sb) (.bl _)
    unfold inD at k
    rw [← q1, ← q3] at k
    exact k
  · rw [Wp_guard, Bool.and_eq_true] at w
    obtain ⟨a, vs, e1, h1, r1⟩ := ry.tup' sb
    obtain ⟨q1, q2⟩ := fx rx w.1.1
    obtain ⟨q3, q4⟩ := flats_rep r1 w.1.2
    refine ⟨a, vs, e1, .inr (sb.le.t h1), q2, q4, ?_⟩
    have k := w.2 _ _ _ (Aft.refl st sb) (.bl _)
    unfold inD at k
    rw [← q1, ← q3] at k
    exact k
  · rw [Wp_guard, Bool.and_eq_true] at w
    obtain ⟨a, vs, e1, h1, r1⟩ := ry.rot' sb
    obtain ⟨q1, q2⟩ := fx rx w.1.1
    obtain ⟨q3, q4⟩ := flats_rep r1 w.1.2
    refine ⟨a, vs, e1, .inr (sb.le.t h1), q2, q4, ?_⟩
    have k := w.2 _ _ _ (Aft.refl st sb) (.bl _)
    unfold inD at k
    rw [← q1, ← q3] at k
    exact k
  · exact w.elim
theorem pm_inS (ha : PMB X os a ta ma) (hb : PMB X os b tb mb) (hm : behindInMarks .In b = false := by rfl) : PMC X os (.Compare a [.In] [b] pos) (tOp (rIn X.K false) ta tb) (eBin (dInS false) ma mb) := pm_cmp op_in_seq simR_in ha hb hm
theorem pm_notInS (ha : PMB X os a ta ma) (hb : PMB X os b tb mb) (hm : behindInMarks .NotIn b = false := by rfl) : PMC X os (.Compare a [.NotIn] [b] pos) (tOp (rIn X.K true) ta tb) (eBin (dInS true) ma mb) := pm_cmp op_notIn_seq simR_in ha hb hm
def dInT (neg : Bool) (x y : D) : M D := match x, y with
  | .str c, .str z => guardB (decide (c.cps.size = 1)) (pure (.bl (if neg then !decide (c.cps.toList.headD 0 ∈ z.cps.toList) else decide (c.cps.toList.headD 0 ∈ z.cps.toList))))
  | _, _ => bad
theorem pm_inT (ha : PMB X os a ta ma) (hb : PMB X os b tb mb) (hm : behindInMarks .In b = false := by rfl) : PMC X os (.Compare a [.In] [b] pos) (tOp (fun x y H Q => ∃ (c : Nat) (z : Str), x = .str ⟨#[c]⟩ ∧ y = .str z ∧ Q (.bl (decide (c ∈ z.cps.toList))) H) ta tb) (eBin (dInT false) ma mb) :=
  pm_cmp op_in_sign (fun S G H d x y dx dy Q st sb rx ry w => by
    unfold dInT at w
    split at w
    · rename_i c z
      rw [Wp_guard] at w
      obtain ⟨cps⟩ := c
      obtain ⟨l⟩ := cps
      have hl := of_decide_eq_true w.1
      match l, hl with
      | [q], _ => exact ⟨q, z, rx.str, ry.str, w.2 _ _ _ (Aft.refl st sb) (.bl _)⟩
    · exact w.elim) ha hb hm
def tyN : D → Option String
  | .non => some "NoneType"
  | .bl _ => some "bool"
  | .int _ => some "int"
  | .str _ => some "str"
  | .lst _ => some "list"
  | .ro _ => some "list"
  | .tup _ => some "tuple"
  | .dic _ => some "dict"
  | .rot _ => some "tuple"
  | _ => none
theorem RepT.ty {K : PySem.W.Frag} {mg : Str → Option Value} {S : SA} {G H : Hp} {v : V} {d : D} {t : String} (sb : Sub S G H) (h : RepT K mg S G H v d) (e : tyN d = some t) : TyX K H v (.type t) := by
  cases h with
  | of r =>
    cases r with
    | non => cases e; exact .base .non
    | bl b => cases e; exact .base (.bl b)
    | int i => cases e; exact .base (.int i)
    | str x => cases e; exact .base (.str x)
    | lst h r => cases e; exact .base (.lst (sb.le _ _ h))
    | ro h r =>
      cases e
      rcases h with (h | ⟨o, h⟩) | ⟨o, _, _, h, c, _⟩
      · exact .base (.lst (sb.le _ _ h))
      · exact .base (.frz (sb.le _ _ h))
      · exact .kList h c
    | tup h r => cases e; exact .base (.tup (sb.le _ _ h))
    | rot h r =>
      cases e
      rcases h with (h | ⟨o, h⟩) | ⟨o, _, _, h, c, _⟩
      · exact .base (.tup (sb.le _ _ h))
      · exact .fTuple (sb.le _ _ h)
      · exact .kTuple h c
    | dct h r => cases e
    | dtn h q r => cases e
    | mem h => cases e
    | lam h h1 h2 => cases e
    | lamc h h1 h2 r => cases e
    | dnk h r => cases e
    | exc m h n r => cases e
    | dic h r => cases e; exact .fDict (sb.le _ _ h)
    | obj => cases e
    | st => cases e
    | ln => cases e
    | plt => cases e
  | lst n h r => cases e; exact .base (.lst h)
  | dic n h r => cases e; exact .base (.dK h)
  | dct n h r => cases e
  | dtn n h q r => cases e
def dIsi (g : D → Bool) (x : D) : M D := guardB (tyN x).isSome (pure (.bl (g x)))
theorem pm_isi {T : Str} {n : String} (g : D → Bool) (hk : ∀ x t, tyN x = some t → kitB t n = some (g x)) (hg : Gl X "isinstance") (hm : X.mg "isinstance" = none) (gT : Gl X T) (mT : X.mg T = none) (hT : bootBuiltins T = some (.type n)) (ha : PMB X os a ta ma) {pT : Pos}
    (hn : T ≠ "__name__" := by decide) (hd : (T == ("__debug__" : Str)) = false := by decide)
    (he : starEach [a, .Name T pT] X.env = (false, eval a X.env) :: starEach [.Name T pT] X.env := by rfl) (he2 : starEach [.Name T pT] X.env = (false, eval (.Name T pT) X.env) :: starEach [] X.env := by rfl) (hpl : (backTo pos (starEach [.Name T pT] X.env)).any (·.1) = false := by rfl) :
    PM X os (.Call (.Name "isinstance" p') [a, .Name T pT] [] pos) (tCB (rIsi X.K) (tCons ta (tCons (tC (.ty n)) tNil))) (eUn (dIsi g) ma) := by
  refine ⟨pe_callB call_isi hg hm (by decide +kernel) (pa_cons ha.p (pa_cons (pe_bltn (v := .ty n) gT mT hT rfl hn hd) pa_nil he2) he) (by decide) (by decide) he hpl, fun C G σ H env d Q I w => ?_⟩
  unfold eUn at w
  rw [Wp_bind] at w
  refine ha.s C G σ H env d _ I (w.imp fun x d1 w1 v1 H1 G1 A1 r1 => ?_)
  unfold dIsi at w1
  rw [Wp_guard] at w1
  obtain ⟨t, ht⟩ := Option.isSome_iff_exists.mp w1.1
  exact ⟨v1, .ty n, .type t, .type n, g x, rfl, .ty n, r1.ty A1.sub ht, kit_ty (hk x t ht), w1.2 _ _ _ A1 (.bl _)⟩
theorem pm_isi2 {T T2 : Str} {n n2 : String} (g g2 : D → Bool) (hk : ∀ x t, tyN x = some t → kitB t n = some (g x)) (hk2 : ∀ x t, tyN x = some t → kitB t n2 = some (g2 x)) (hg : Gl X "isinstance") (hm : X.mg "isinstance" = none) (gT : Gl X T) (mT : X.mg T = none) (hT : bootBuiltins T = some (.type n))
    (gT2 : Gl X T2) (mT2 : X.mg T2 = none) (hT2 : bootBuiltins T2 = some (.type n2)) (ha : PMB X os a ta ma) {pT pT2 pU : Pos} {x1}
    (hn : T ≠ "__name__" := by decide) (hd : (T == ("__debug__" : Str)) = false := by decide) (hn2 : T2 ≠ "__name__" := by decide) (hd2 : (T2 == ("__debug__" : Str)) = false := by decide)
    (he : starEach [a, .Tuple [.Name T pT, .Name T2 pT2] x1 pU] X.env = (false, eval a X.env) :: starEach [.Tuple [.Name T pT, .Name T2 pT2] x1 pU] X.env := by rfl) (he2 : starEach [.Tuple [.Name T pT, .Name T2 pT2] x1 pU] X.env = (false, eval (.Tuple [.Name T pT, .Name T2 pT2] x1 pU) X.env) :: starEach [] X.env := by rfl)
    (he3 : starEach [.Name T pT, .Name T2 pT2] X.env = (false, eval (.Name T pT) X.env) :: starEach [.Name T2 pT2] X.env := by rfl) (he4 : starEach [.Name T2 pT2] X.env = (false, eval (.Name T2 pT2) X.env) :: starEach [] X.env := by rfl) (hpl : (backTo pos (starEach [.Tuple [.Name T pT, .Name T2 pT2] x1 pU] X.env)).any (·.1) = false := by rfl) :
    PM X os (.Call (.Name "isinstance" p') [a, .Tuple [.Name T pT, .Name T2 pT2] x1 pU] [] pos) (tCB (rIsiT X.K) (tCons ta (tCons (tTup (tCons (tC (.ty n)) (tCons (tC (.ty n2)) tNil))) tNil))) (eUn (dIsi fun x => g x || g2 x) ma) := by
  refine ⟨pe_callB call_isiT hg hm (by decide +kernel) (pa_cons ha.p (pa_cons (pe_tup (pa_cons (pe_bltn (v := .ty n) gT mT hT rfl hn hd) (pa_cons (pe_bltn (v := .ty n2) gT2 mT2 hT2 rfl hn2 hd2) pa_nil he4) he3)) pa_nil he2) he) (by decide) (by decide) he hpl, fun C G σ H env d Q I w => ?_⟩
  unfold eUn at w
  rw [Wp_bind] at w
  refine ha.s C G σ H env d _ I (w.imp fun x d1 w1 v1 H1 G1 A1 r1 => ?_)
  unfold dIsi at w1
  rw [Wp_guard] at w1
  obtain ⟨t, ht⟩ := Option.isSome_iff_exists.mp w1.1
  refine ⟨by show 2 ≤ sizeLine; decide, fun p hp => ?_⟩
  have A2 : Aft C.S G1 H1 G1 (upd H1 p (.tup [.ty n, .ty n2])) d1 := Aft.newF A1.st A1.sub hp
  refine ⟨v1, p, [.ty n, .ty n2], .type t, [.type n, .type n2], g x || g2 x, rfl, upd_same, .cons (.ty n) (.cons (.ty n2) .nil), (r1.later A2).ty A2.sub ht, ?_, w1.2 _ _ _ (A1.trans A2) (.bl _)⟩
  refine kitAny_cons (kit_ty (hk x t ht)) (fun hb => kitAny_cons (kit_ty (hk2 x t ht)) (fun hb2 => ?_) fun hb2 => ?_) fun hb => ?_
  · rw [hb, hb2]; exact kitAny_nil
  · rw [hb2, Bool.or_true]
  · rw [hb, Bool.true_or]
def isStr : D → Bool
  | .str _ => true
  | _ => false
def isInt : D → Bool
  | .int _ => true
  | .bl _ => true
  | _ => false
def isBl : D → Bool
  | .bl _ => true
  | _ => false
def isLst : D → Bool
  | .lst _ => true
  | .ro _ => true
  | _ => false
def isTup : D → Bool
  | .tup _ => true
  | .rot _ => true
  | _ => false
theorem kStr : ∀ x t, tyN x = some t → kitB t "str" = some (isStr x) := fun x t h => by cases x <;> first | (cases h; show kitB _ _ = some false; decide +kernel) | (cases h; show kitB _ _ = some true; decide +kernel) | cases h
theorem kInt : ∀ x t, tyN x = some t → kitB t "int" = some (isInt x) := fun x t h => by cases x <;> first | (cases h; show kitB _ _ = some false; decide +kernel) | (cases h; show kitB _ _ = some true; decide +kernel) | cases h
theorem kBool : ∀ x t, tyN x = some t → kitB t "bool" = some (isBl x) := fun x t h => by cases x <;> first | (cases h; show kitB _ _ = some false; decide +kernel) | (cases h; show kitB _ _ = some true; decide +kernel) | cases h
theorem kList : ∀ x t, tyN x = some t → kitB t "list" = some (isLst x) := fun x t h => by cases x <;> first | (cases h; show kitB _ _ = some false; decide +kernel) | (cases h; show kitB _ _ = some true; decide +kernel) | cases h
theorem kTuple : ∀ x t, tyN x = some t → kitB t "tuple" = some (isTup x) := fun x t h => by cases x <;> first | (cases h; show kitB _ _ = some false; decide +kernel) | (cases h; show kitB _ _ = some true; decide +kernel) | cases h
end
end Mir
end
section
set_option maxHeartbeats 2000000
namespace Mir
open PySem PySem.Spec PyProof.Rows L2
variable [Tab]
section
variable {K : PySem.W.Frag} {mg : Str → Option Value} {C : Ct} {os : List Nat} {env : Ev} {σ : St} {G H G' H' : Hp} {d d' : Drw} {v : V} {x x' : D} {i : Nat} {a : Addr}
theorem IM.mut {o : HO} (I : IM K mg C os env σ H G d) (hi : i ∈ os) (e1 : env[i]? = some (some x)) (e2 : σ[i]? = some (some (.ref a))) (oa : OwnA K mg C G H a x) (new : OwnO K mg C.S G (upd H a o) a x') : IM K mg C os (env.set i (some x')) σ (upd H a o) G d where
  aft := {
    hp := fun b u e n => by
      have z : b ≠ a := fun z => by rw [z, oa.h] at e; cases e
      rw [upd_ne z]; exact I.aft.hp b u e n
    gm := I.aft.gm
    gn := I.aft.gn
    st := I.st.alt oa.n
    sub := ⟨fun b u e => by
      have z : b ≠ a := fun z => by rw [z, oa.g] at e; cases e
      rw [upd_ne z]; exact I.sub b u e, I.sub.w.off (Le.refl G) oa.n⟩ }
  len := by rw [List.length_set]; exact I.len
  sh := fun j y hj e => by
    have z : i ≠ j := fun z => hj (z ▸ hi)
    rw [List.getElem?_set_ne z] at e
    exact I.sh j y hj e
  ow := fun j y hj e => by
    by_cases z : i = j
    · subst z
      have hl : i < env.length := by
        have := (List.getElem?_eq_some_iff.mp e).1
        rwa [List.length_set] at this
      rw [List.getElem?_set_self hl] at e
      cases e
      exact ⟨_, e2, .ref ⟨oa.g, oa.n, oa.h, new⟩⟩
    · rw [List.getElem?_set_ne z] at e
      obtain ⟨v, q1, ov⟩ := I.ow j y hj e
      refine ⟨v, q1, ?_⟩
      cases ov with
      | non => exact .non
      | @ref b _ q2 =>
      have zb : b ≠ a := fun zb => by
        subst zb
        exact z (I.dis i j x y b hi hj e1 e e2 q1)
      refine .ref ⟨q2.g, q2.n, q2.h, ?_⟩
      have oo := q2.o
      cases y with
      | lst ds => obtain ⟨vs, h1, h2⟩ := oo; exact ⟨vs, by rw [upd_ne zb]; exact h1, h2⟩
      | dic ds => obtain ⟨vs, h1, h2⟩ := oo; exact ⟨vs, by rw [upd_ne zb]; exact h1, h2⟩
      | dct ds => obtain ⟨vs, h1, h2⟩ := oo; exact ⟨vs, by rw [upd_ne zb]; exact h1, h2⟩
      | dtn hf ds => obtain ⟨vs, h1, h3, h2⟩ := oo; exact ⟨vs, by rw [upd_ne zb]; exact h1, h3, h2⟩
      | _ => exact oo.elim
  dis := fun j k y z b hj hk q1 q2 q3 q4 => by
    have back : ∀ {l : Nat} {u : D}, (env.set i (some x'))[l]? = some (some u) → ∃ w, env[l]? = some (some w) := fun {l u} q => by
      by_cases zl : i = l
      · subst zl; exact ⟨x, e1⟩
      · rw [List.getElem?_set_ne zl] at q; exact ⟨u, q⟩
    obtain ⟨w1, q1⟩ := back q1
    obtain ⟨w2, q2⟩ := back q2
    exact I.dis j k w1 w2 b hj hk q1 q2 q3 q4
theorem RepN.later {S : SA} {G0 H0 G2 H2 : Hp} {d0 : Drw} (st : StR S H0 d0) (h : RepN K mg S G0 H0 G H v x) (A : Aft S G H G2 H2 d') : RepN K mg S G0 H0 G2 H2 v x := by
  cases h with
  | non => exact .non
  | lst n g h r => exact .lst n (A.gn _ ⟨_, h, fun _ z => nomatch z⟩ g) (A.hp _ _ h (st.off n)) (r.mono A.gm)
  | dic n g h r => exact .dic n (A.gn _ ⟨_, h, fun _ z => nomatch z⟩ g) (A.hp _ _ h (st.off n)) (r.mono A.gm)
  | dct n g h r => exact .dct n (A.gn _ ⟨_, h, fun _ z => nomatch z⟩ g) (A.hp _ _ h (st.off n)) (r.mono A.gm)
  | dtn n g h q r => exact .dtn n (A.gn _ ⟨_, h, fun _ z => nomatch z⟩ g) (A.hp _ _ h (st.off n)) (q.mono fun _ _ z => A.gm _ _ z) (r.mono A.gm)
end
def keyD : D → Option Key
  | .int i => some (.inl i)
  | .str s => some (.inr s)
  | _ => none
theorem key_rep {K : PySem.W.Frag} {mg : Str → Option Value} {S : SA} {G H : Hp} {v : V} {d : D} {k : Key} (h : RepT K mg S G H v d) (e : keyD d = some k) : v = kV k := by
  cases h with
  | of r => cases r <;> first | (cases e; rfl) | cases e
  | lst => cases e
  | dic => cases e
  | dct => cases e
  | dtn => cases e
def keyL : List D → Option (List Key)
  | [] => some []
  | x :: xs => match keyD x, keyL xs with
    | some k, some ks => some (k :: ks)
    | _, _ => none
def keysD : D → Option (List Key)
  | .tup xs => keyL xs
  | _ => none
theorem keyL_rep {K : PySem.W.Frag} {mg : Str → Option Value} {S : SA} {G : Hp} : ∀ {vs : List V} {ds : List D} {ks : List Key}, Reps K mg S G vs ds → keyL ds = some ks → vs = ks.map kV
  | _, _, _, .nil, e => by cases e; rfl
  | _, _, _, .cons a b, e => by
    rw [keyL] at e
    split at e
    · rename_i k ks' e1 e2
      cases e
      rw [key_rep (H := G) (RepT.of a) e1, keyL_rep b e2]
      rfl
    · cases e
theorem keysD_rep {K : PySem.W.Frag} {mg : Str → Option Value} {S : SA} {G H : Hp} {v : V} {d : D} {ks : List Key} (h : RepT K mg S G H v d) (sb : Sub S G H) (e : keysD d = some ks) : ∃ b, v = .ref b ∧ H b = some (.tup (ks.map kV)) := by
  cases d with
  | tup ds =>
    obtain ⟨a, vs, e1, h1, rr⟩ := h.tupR sb
    rw [← keyL_rep rr e]
    exact ⟨a, e1, sb.le _ _ h1⟩
  | _ => cases e
def lookD {κ : Type} [DecidableEq κ] (kvs : List (κ × D)) (k : κ) : Option D := (kvs.find? fun kv => decide (kv.1 = k)).map (·.2)
def putD {κ : Type} [DecidableEq κ] (kvs : List (κ × D)) (k : κ) (v : D) : List (κ × D) :=
  if (kvs.any fun kv => decide (kv.1 = k)) = true then kvs.map (fun kv => if kv.1 = k then (kv.1, v) else kv) else kvs ++ [(k, v)]
section
variable {K : PySem.W.Frag} {mg : Str → Option Value} {S : SA} {G : Hp}
theorem RepK.look {κ : Type} [DecidableEq κ] : ∀ {vs : List (κ × V)} {ds : List (κ × D)} (k : κ), RepK K mg S G vs ds → (∀ x, lookD ds k = some x → ∃ v, valV vs k = some v ∧ Rep K mg S G v x) ∧ (lookD ds k = none → valV vs k = none)
  | _, _, k, .nil => ⟨fun _ e => (nomatch e), fun _ => rfl⟩
  | _, _, k, .cons (k := q) (v := v) (d := d) (vs := vs) (ds := ds) a b => by
    by_cases h : q = k
    · have e1 : lookD ((q, d) :: ds) k = some d := by simp [lookD, List.find?_cons, h]
      have e2 : valV ((q, v) :: vs) k = some v := by simp [valV, List.find?_cons, h]
      rw [e1, e2]
      exact ⟨fun x e => (by cases e; exact ⟨v, rfl, a⟩), fun e => (nomatch e)⟩
    · have e1 : lookD ((q, d) :: ds) k = lookD ds k := by simp [lookD, List.find?_cons, h]
      have e2 : valV ((q, v) :: vs) k = valV vs k := by simp [valV, List.find?_cons, h]
      rw [e1, e2]
      exact RepK.look k b
theorem RepK.anyk {κ : Type} [DecidableEq κ] : ∀ {vs : List (κ × V)} {ds : List (κ × D)} (k : κ), RepK K mg S G vs ds → (vs.any fun kv => decide (kv.1 = k)) = (ds.any fun kv => decide (kv.1 = k))
  | _, _, _, .nil => rfl
  | _, _, k, .cons a b => by rw [List.any_cons, List.any_cons, RepK.anyk k b]
theorem RepK.repl {κ : Type} [DecidableEq κ] {v : V} {d : D} (k : κ) (r : Rep K mg S G v d) : ∀ {vs : List (κ × V)} {ds : List (κ × D)}, RepK K mg S G vs ds → RepK K mg S G (vs.map fun kv => if kv.1 = k then (kv.1, v) else kv) (ds.map fun kv => if kv.1 = k then (kv.1, d) else kv)
  | _, _, .nil => .nil
  | _, _, .cons (k := q) a b => by
    rw [List.map_cons, List.map_cons]
    by_cases h : q = k
    · rw [if_pos h, if_pos h]; exact .cons r (RepK.repl k r b)
    · rw [if_neg h, if_neg h]; exact .cons a (RepK.repl k r b)
theorem RepK.put {κ : Type} [DecidableEq κ] {vs : List (κ × V)} {ds : List (κ × D)} {v : V} {d : D} (k : κ) (b : RepK K mg S G vs ds) (r : Rep K mg S G v d) : RepK K mg S G (putK vs k v) (putD ds k d) := by
  unfold putK putD
  rw [b.anyk k]
  split
  · exact RepK.repl k r b
  · exact b.append (.cons r .nil)
end
section
variable {X : Cx} {fr : Bool} {os os' ol : List Nat} {e a b c : Expr} {es : List Expr} {te ta tb tc : TE} {tas : TA} {m ma mb mc : Ev → M D} {ms : Ev → M (List D)} {pos p' p2 p3 : Pos} {k : Nat} {x y : Str}
def dGetD : D → D → M D
  | .dic kvs, y => match keyD y with
    | some k => match lookD kvs k with
      | some z => pure z
      | none => bad
    | none => bad
  | .dct kvs, y => match keysD y with
    | some k => match lookD kvs k with
      | some z => pure z
      | none => bad
    | none => bad
  | _, _ => bad
theorem pm_getD (hr : Room k X.A) (ha : PMB X os a ta ma) (hb : PMB X os b tb mb) (hs : NoSl b := by exact fun _ _ => rfl) : PM X os (.Subscript a b pos) (tDGet ta tb) (eBin dGetD ma mb) := by
  refine ⟨pe_dget (hu_of hr) ha.p hb.p hs, fun C G σ H env d Q I w => ?_⟩
  unfold eBin at w
  rw [Wp_bind] at w
  refine ha.s C G σ H env d _ I (w.imp fun x d1 w1 v1 H1 G1 A1 r1 => ?_)
  rw [Wp_bind] at w1
  refine hb.s C G1 σ H1 env d1 _ (I.later A1) (w1.imp fun y d2 w2 v2 H2 G2 A2 r2 => ?_)
  cases x with
  | dic kvs =>
    cases hk : keyD y with
    | none => simp only [dGetD, hk] at w2; exact w2.elim
    | some kk =>
      cases hl : lookD kvs kk with
      | none => simp only [dGetD, hk, hl] at w2; exact w2.elim
      | some z =>
        simp only [dGetD, hk, hl] at w2
        obtain ⟨a, vs, e1, h1, rr, n1⟩ := (r1.later A2).dic' A2.sub
        obtain ⟨v, e2, rv⟩ := (rr.look kk).1 z hl
        exact ⟨a, v, e1, .inl ⟨vs, kk, h1, key_rep r2 hk, e2.symm⟩, w2 _ _ _ (A1.trans A2) rv⟩
  | dct kvs =>
    cases hk : keysD y with
    | none => simp only [dGetD, hk] at w2; exact w2.elim
    | some kk =>
      cases hl : lookD kvs kk with
      | none => simp only [dGetD, hk, hl] at w2; exact w2.elim
      | some z =>
        simp only [dGetD, hk, hl] at w2
        obtain ⟨a, vs, e1, h1, rr, n1⟩ := (r1.later A2).dct' A2.sub
        obtain ⟨v, e2, rv⟩ := (rr.look kk).1 z hl
        obtain ⟨b, eb, hb⟩ := keysD_rep r2 A2.sub hk
        exact ⟨a, v, e1, .inr ⟨vs, kk, b, h1, eb, hb, e2.symm⟩, w2 _ _ _ (A1.trans A2) rv⟩
  | _ => exact w2.elim
def dInD (neg : Bool) (y d : D) : M D := match d with
  | .dic kvs => match keyD y with
    | some k => pure (.bl (if neg then !(lookD kvs k).isSome else (lookD kvs k).isSome))
    | none => bad
  | .dct kvs => match keysD y with
    | some k => pure (.bl (if neg then !(lookD kvs k).isSome else (lookD kvs k).isSome))
    | none => bad
  | _ => bad
theorem lookD_some {K : PySem.W.Frag} {mg : Str → Option Value} {S : SA} {G : Hp} {κ : Type} [DecidableEq κ] {vs : List (κ × V)} {ds : List (κ × D)} {k : κ} (r : RepK K mg S G vs ds) : (valV vs k).isSome = (lookD ds k).isSome := by
  cases h : lookD ds k with
  | none => rw [(r.look k).2 h]; rfl
  | some x =>
    obtain ⟨v, e, _⟩ := (r.look k).1 x h
    rw [e]; rfl
theorem pm_inD (hr : Room k X.A) (ha : PMB X os a ta ma) (hb : PMB X os b tb mb) (hm : behindInMarks .In b = false := by rfl) : PMC X os (.Compare a [.In] [b] pos) (tDIn ta tb) (eBin (dInD false) ma mb) := by
  refine pmc_of (pc_din (hu_of hr) ha.p hb.p) hm fun C G σ H env d Q I w => ?_
  unfold eBin at w
  rw [Wp_bind] at w
  refine ha.s C G σ H env d _ I (w.imp fun x d1 w1 v1 H1 G1 A1 r1 => ?_)
  rw [Wp_bind] at w1
  refine hb.s C G1 σ H1 env d1 _ (I.later A1) (w1.imp fun y d2 w2 v2 H2 G2 A2 r2 => ?_)
  unfold dInD at w2
  split at w2
  · cases hk : keyD x with
    | none => simp only [hk] at w2; exact w2.elim
    | some kk =>
      simp only [hk] at w2
      obtain ⟨a, vs, e1, h1, rr, n1⟩ := r2.dic' A2.sub
      refine ⟨a, valV vs kk, e1, .inl ⟨vs, kk, h1, key_rep r1 hk, rfl⟩, ?_⟩
      rw [lookD_some rr]
      exact w2 _ _ _ (A1.trans A2) (.bl _)
  · cases hk : keysD x with
    | none => simp only [hk] at w2; exact w2.elim
    | some kk =>
      simp only [hk] at w2
      obtain ⟨a, vs, e1, h1, rr, n1⟩ := r2.dct' A2.sub
      obtain ⟨b, eb, hb⟩ := keysD_rep (r1.later A2) A2.sub hk
      refine ⟨a, valV vs kk, e1, .inr ⟨vs, kk, b, h1, eb, hb, rfl⟩, ?_⟩
      rw [lookD_some rr]
      exact w2 _ _ _ (A1.trans A2) (.bl _)
  · exact w2.elim
theorem pm_notInD (hr : Room k X.A) (ha : PMB X os a ta ma) (hb : PMB X os b tb mb) (hm : behindInMarks .NotIn b = false := by rfl) : PMC X os (.Compare a [.NotIn] [b] pos) (tDNotIn ta tb) (eBin (dInD true) ma mb) := by
  refine pmc_of (pc_dnotin (hu_of hr) ha.p hb.p) hm fun C G σ H env d Q I w => ?_
  unfold eBin at w
  rw [Wp_bind] at w
  refine ha.s C G σ H env d _ I (w.imp fun x d1 w1 v1 H1 G1 A1 r1 => ?_)
  rw [Wp_bind] at w1
  refine hb.s C G1 σ H1 env d1 _ (I.later A1) (w1.imp fun y d2 w2 v2 H2 G2 A2 r2 => ?_)
  unfold dInD at w2
  split at w2
  · cases hk : keyD x with
    | none => simp only [hk] at w2; exact w2.elim
    | some kk =>
      simp only [hk] at w2
      obtain ⟨a, vs, e1, h1, rr, n1⟩ := r2.dic' A2.sub
      refine ⟨a, valV vs kk, e1, .inl ⟨vs, kk, h1, key_rep r1 hk, rfl⟩, ?_⟩
      rw [lookD_some rr]
      exact w2 _ _ _ (A1.trans A2) (.bl _)
  · cases hk : keysD x with
    | none => simp only [hk] at w2; exact w2.elim
    | some kk =>
      simp only [hk] at w2
      obtain ⟨a, vs, e1, h1, rr, n1⟩ := r2.dct' A2.sub
      obtain ⟨b, eb, hb⟩ := keysD_rep (r1.later A2) A2.sub hk
      refine ⟨a, valV vs kk, e1, .inr ⟨vs, kk, b, h1, eb, hb, rfl⟩, ?_⟩
      rw [lookD_some rr]
      exact w2 _ _ _ (A1.trans A2) (.bl _)
  · exact w2.elim
theorem pmf_dnew : PMF X os (.Dict [] [] pos) tDNewK (eC (.dic [])) := ⟨pe_dnewK, fun C G σ H env d Q I w p hp => w _ _ _ (Aft.newF I.st I.sub hp) (.dic hp (I.sub.free hp) upd_same .nil)⟩
def cApp (i : Nat) (m : Ev → M D) : Ev → M Ctl := fun env => m env >>= fun y => match env[i]? with
  | some (some (.lst xs)) => guardB (decide (xs.length < sizeLine)) (pure (.nx (env.set i (some (.lst (xs ++ [y]))))))
  | _ => bad
theorem ownL_some {i : Nat} {env : Ev} {f : List D → M Ctl} {d : Drw} {P : Ctl → Drw → Prop} (w : Wp ((match env[i]? with
  | some (some (.lst xs)) => f xs
  | _ => bad : M Ctl) d) P) : ∃ xs, env[i]? = some (some (.lst xs)) ∧ Wp (f xs d) P := by
  cases h : env[i]? with
  | none => rw [h] at w; exact w.elim
  | some q =>
    rw [h] at w
    cases q with
    | none => exact w.elim
    | some z =>
      cases z with
      | lst xs => exact ⟨xs, rfl, w⟩
      | _ => exact w.elim
theorem pms_app (i : Nat) (h : PM X os e te m) (hi : i ∈ os := by decide) (hN : X.N[i]? = some x := by rfl) (hv : Vis X.env.scope x := by first | exact Or.inl rfl | exact Or.inr (Or.inl rfl) | exact Or.inr (Or.inr rfl)) (hd : (x == ("__debug__" : Str)) = false := by decide) (hcd : (x == ("__classdict__" : Str)) = false := by decide)
    (hbase : attributeBase (.Name x p2) "append" X.env (eval (.Name x p2) X.env) = eval (.Name x p2) X.env := by rfl)
    (hfew : ((backTo p3 (starEach [e] X.env)).all (fun x => !x.1) && (backToKw p3 (keywordEach [] X.env)).all (fun x => x.1.isSome) && decide ([e].length + ([] : List Keyword).length + (if ([] : List Keyword).isEmpty then 0 else 1) < 30)) = true := by rfl)
    (hline : (p'.endLine == p3.line) = true := by rfl) (hst : starEach [e] X.env = (false, eval e X.env) :: starEach [] X.env := by rfl) (hplain : (backTo p3 (starEach [] X.env)).any (·.1) = false := by rfl)
    (hs : swapsWith (.Call (.Attribute (.Name x p2) "append" p') [e] [] p3) none pos.line X.env = pure false := by rfl) :
    PMS X fr os os ol (.Expr (.Call (.Attribute (.Name x p2) "append" p') [e] [] p3) pos) (cApp i m) := by
  refine ⟨_, ps_expr (pe_bm PySem.F.plainAttrs_list PySem.F.slot_list_append PySem.F.type_list_append mt_append (pe_var (i := i) hN hv hd hcd) (pa_cons h.p pa_nil hst) hbase hfew hline hst hplain) hs, fun C G σ H env d D I w => ?_⟩
  unfold cApp at w
  rw [Wp_bind] at w
  cases hm : m env d with
  | bad => rw [hm] at w; exact w.elim
  | ok y d1 =>
    rw [hm] at w
    obtain ⟨xs, ee, w1⟩ := ownL_some (f := fun xs => guardB (decide (xs.length < sizeLine)) (pure (.nx (env.set i (some (.lst (xs ++ [y]))))))) w
    rw [Wp_guard] at w1
    obtain ⟨a, e2, oa⟩ := I.owA hi ee (fun z => nomatch z)
    obtain ⟨vs, h1, rv⟩ := oa.o
    refine ⟨_, e2, .inl ⟨rfl, vs, .inl (.inl h1)⟩, ?_⟩
    refine h.s C G σ H env d _ I ?_
    rw [hm]
    intro v H1 G1 A r
    have I1 := I.later A
    have h1' := A.hp a _ h1 oa.n
    refine ⟨a, vs, v, rfl, rfl, h1', by rw [rv.length]; exact of_decide_eq_true w1.1, ?_⟩
    obtain ⟨a2, e3, oa2⟩ := I1.owA hi ee (fun z => nomatch z)
    rw [e2] at e3; cases e3
    exact w1.2 σ _ G1 A.gm (I1.mut hi ee e2 oa2 ⟨_, upd_same, (rv.mono A.gm).append (.one r)⟩)
def cSetL (i : Nat) (mi m : Ev → M D) : Ev → M Ctl := fun env => m env >>= fun y => mi env >>= fun j => match j with
  | .int j => (match env[i]? with
    | some (some (.lst xs)) => (match ixN xs.length j with
      | some q => pure (.nx (env.set i (some (.lst (xs.set q y)))))
      | none => bad)
    | _ => bad)
  | _ => bad
theorem pms_setL (i : Nat) (h : PM X os e te m) (hj : PMB X os b tb mb) (hi : i ∈ os := by decide) (hN : X.N[i]? = some x := by rfl) (hv : Vis X.env.scope x := by first | exact Or.inl rfl | exact Or.inr (Or.inl rfl) | exact Or.inr (Or.inr rfl)) (hd : (x == ("__debug__" : Str)) = false := by decide) (hcd : (x == ("__classdict__" : Str)) = false := by decide)
    (ha : ∀ v, assign (.Subscript (.Name x p2) b p3) X.env v = (do
      let ov ← holding [v] (eval (.Name x p2) X.env)
      let iv ← holding [v, ov] (eval b X.env)
      standAt p3
      holding [v, ov, iv] (setItem ov iv v)
      release [v, ov, iv] []) := by intro _; rfl)
    (hs : swapsWithSole [.Subscript (.Name x p2) b p3] e pos.line X.env = pure false := by rfl) (hw : swappedStores [.Subscript (.Name x p2) b p3] e X.env = pure none := by rfl) (h1 : (assignEach [.Subscript (.Name x p2) b p3] X.env).map (·.2) = [assign (.Subscript (.Name x p2) b p3) X.env] := by rfl) :
    PMS X fr os os ol (.Assign [.Subscript (.Name x p2) b p3] e pos) (cSetL i mb m) := by
  refine ⟨_, ps_asg h.p (pg_sub (pe_var (i := i) hN hv hd hcd) hj.p set_list ha) hs hw h1, fun C G σ H env d D I w => ?_⟩
  unfold cSetL at w
  rw [Wp_bind] at w
  refine h.s C G σ H env d _ I (w.imp fun y d1 w1 v H1 G1 A r => ?_)
  have I1 := I.later A
  rw [Wp_bind] at w1
  cases hm : mb env d1 with
  | bad => rw [hm] at w1; exact w1.elim
  | ok jd d2 =>
    rw [hm] at w1
    cases jd with
    | int j =>
      obtain ⟨xs, ee, w2⟩ := ownL_some (f := fun xs => match ixN xs.length j with
        | some q => pure (.nx (env.set i (some (.lst (xs.set q y)))))
        | none => bad) w1
      obtain ⟨a, e2, oa⟩ := I1.owA hi ee (fun z => nomatch z)
      obtain ⟨vs, hh, rv⟩ := oa.o
      refine ⟨_, e2, hj.s C G1 σ H1 env d1 _ I1 ?_⟩
      rw [hm]
      intro vj H2 G2 A2 rj
      have I2 := I1.later A2
      have hh' := A2.hp a _ hh oa.n
      cases hq : ixN xs.length j with
      | none => simp only [hq] at w2; exact w2.elim
      | some q =>
        simp only [hq] at w2
        refine ⟨a, vs, j, q, rfl, rj.int, hh', by rw [rv.length]; exact hq, ?_⟩
        obtain ⟨a2, e3, oa2⟩ := I2.owA hi ee (fun z => nomatch z)
        rw [e2] at e3; cases e3
        exact w2 σ _ G2 (A.gm.trans A2.gm) (I2.mut hi ee e2 oa2 ⟨_, upd_same, Reps.set (r.mono A2.gm) q (rv.mono A2.gm)⟩)
    | _ => exact w1.elim
end
end Mir
end
section
set_option maxHeartbeats 400000
namespace Mir
open PySem PySem.Spec PyProof.Rows L2
variable [Tab]
section
variable {X : Cx} {fr : Bool} {os os' ol : List Nat} {e a b c : Expr} {es : List Expr} {te ta tb tc : TE} {tas : TA} {m ma mb mc : Ev → M D} {ms : Ev → M (List D)} {pos p' p2 p3 : Pos} {k : Nat} {x y : Str}
def SimC2 (K : PySem.W.Frag) (mg : Str → Option Value) (r : List V → Hp → VK → Prop) (g : D → D → M D) : Prop := ∀ S G H d x y dx dy Q, StR S H d → Sub S G H → RepT K mg S G H x dx → RepT K mg S G H y dy →
  Wp (g dx dy d) (fun z d' => ∀ v H' G', Aft S G H G' H' d' → Rep K mg S G' v z → Q v H') → r [x, y] H Q
theorem simE_c2 {K : PySem.W.Frag} {mg : Str → Option Value} {C : Ct} {r : List V → Hp → VK → Prop} {g : D → D → M D} (sa : SimB K mg C os ta ma) (sb : SimB K mg C os tb mb) (hs : SimC2 K mg r g) : SimE K mg C os (tCB r (tCons ta (tCons tb tNil))) (eBin g ma mb) := by
  intro G σ H env d Q I w
  unfold eBin at w
  rw [Wp_bind] at w
  refine sa G σ H env d _ I (w.imp fun x d1 w1 v1 H1 G1 A1 r1 => ?_)
  rw [Wp_bind] at w1
  refine sb G1 σ H1 env d1 _ (I.later A1) (w1.imp fun y d2 w2 v2 H2 G2 A2 r2 => ?_)
  exact hs C.S G2 H2 d2 v1 v2 x y Q A2.st A2.sub (r1.later A2) r2 (w2.imp fun z d3 kk v H' G' A3 r3 => kk v H' G' (A1.trans (A2.trans A3)) r3)
def dMin : D → D → M D
  | .int i, .int j => pure (.int (if j < i then j else i))
  | _, _ => bad
theorem pm_min (hc : X.calm = true) (hg : Gl X "min") (hm : X.mg "min" = none) (ha : PMB X os a ta ma) (hb : PMB X os b tb mb) (he : starEach [a, b] X.env = (false, eval a X.env) :: starEach [b] X.env := by rfl) (he2 : starEach [b] X.env = (false, eval b X.env) :: starEach [] X.env := by rfl) (hpl : (backTo pos (starEach [b] X.env)).any (·.1) = false := by rfl) :
    PM X os (.Call (.Name "min" p') [a, b] [] pos) (tCB (fun xs H Q => ∃ i j, xs = [.int i, .int j] ∧ Q (.int (if j < i then j else i)) H) (tCons ta (tCons tb tNil))) (eBin dMin ma mb) :=
  ⟨pe_callB (call_min2 hc) hg hm (by decide +kernel) (pa_cons ha.p (pa_cons hb.p pa_nil he2) he) (by decide) (by decide) he hpl, fun C => simE_c2 (ha.s C) (hb.s C) fun S G H d x y dx dy Q st sb rx ry w => by
    unfold dMin at w
    split at w
    · exact ⟨_, _, by rw [rx.int, ry.int], w _ _ _ (Aft.refl st sb) (.int _)⟩
    · exact w.elim⟩
def eChain (g g' : D → D → M D) (ma mb mc : Ev → M D) : Ev → M D := fun env => ma env >>= fun x => mb env >>= fun y => g x y >>= fun z => match z with
  | .bl true => mc env >>= fun w => g' y w
  | .bl false => pure (.bl false)
  | _ => bad
theorem pm_chain {op op' : CmpOp} {r r' : R2} {g g' : D → D → M D} (ho : OpR X (compareOp op) r) (ho' : OpR X (compareOp op') r') (hr : SimR X.K X.mg r g) (hr' : SimR X.K X.mg r' g') (ha : PMB X os a ta ma) (hb : PMB X os b tb mb) (hc : PMB X os c tc mc)
    (hm : lastMarks [op, op'] [b, c] = false := by with_unfolding_all rfl) : PMC X os (.Compare a [op, op'] [b, c] pos) (tChain r r' ta tb tc) (eChain g g' ma mb mc) := by
  have sim : ∀ C, SimE X.K X.mg C os (tChain r r' ta tb tc) (eChain g g' ma mb mc) := fun C G σ H env d Q I w => by
    unfold eChain at w
    rw [Wp_bind] at w
    refine ha.s C G σ H env d _ I (w.imp fun x d1 w1 v1 H1 G1 A1 r1 => ?_)
    rw [Wp_bind] at w1
    refine hb.s C G1 σ H1 env d1 _ (I.later A1) (w1.imp fun y d2 w2 v2 H2 G2 A2 r2 => ?_)
    rw [Wp_bind] at w2
    refine hr C.S G2 H2 d2 v1 v2 x y _ A2.st A2.sub (r1.later A2) r2 (w2.imp fun z d3 w3 v3 H3 G3 A3 r3 => ?_)
    split at w3
    · cases r3
      refine ⟨true, rfl, iteT ?_⟩
      rw [Wp_bind] at w3
      refine hc.s C G3 σ H3 env d3 _ (I.later (A1.trans (A2.trans A3))) (w3.imp fun u d4 w4 v4 H4 G4 A4 r4 => ?_)
      exact hr' C.S G4 H4 d4 v2 v4 y u Q A4.st A4.sub ((r2.later A3).later A4) r4 (w4.imp fun z d5 kk v H' G' A5 r5 => kk v H' G' (A1.trans (A2.trans (A3.trans (A4.trans A5)))) r5)
    · cases r3
      exact ⟨false, rfl, iteF (w3 _ _ _ (A1.trans (A2.trans A3)) (.bl _))⟩
    · exact w3.elim
  exact ⟨⟨pe_chain ho ho' ha.p hb.p hc.p hm, sim⟩, ⟨pt_chain ho ho' ha.p hb.p hc.p hm, fun C => simT_val (sim C)⟩⟩
theorem pm_leLe (ha : PMB X os a ta ma) (hb : PMB X os b tb mb) (hc : PMB X os c tc mc) (hm : lastMarks [.LtE, .LtE] [b, c] = false := by with_unfolding_all rfl) : PMC X os (.Compare a [.LtE, .LtE] [b, c] pos) (tChain (rI0 fun i j => .bl (decide (i ≤ j))) (rI0 fun i j => .bl (decide (i ≤ j))) ta tb tc) (eChain dLe dLe ma mb mc) :=
  pm_chain op_le op_le (simR_I0 fun _ _ _ _ => .bl _) (simR_I0 fun _ _ _ _ => .bl _) ha hb hc hm
end
section
variable (K : PySem.W.Frag) (mg : Str → Option Value)
def RepX (f : Bool) (S : SA) (G0 H0 G H : Hp) (v : V) (x : D) : Prop := match f with
  | true => RepN K mg S G0 H0 G H v x
  | false => Rep K mg S G v x
def SimX (f : Bool) (C : Ct) (os : List Nat) (te : TE) (m : Ev → M D) : Prop := ∀ G σ H env d Q, IM K mg C os env σ H G d →
  Wp (m env d) (fun x d' => ∀ v H' G', Aft C.S G H G' H' d' → RepX K mg f C.S G H G' H' v x → Q v H') → te σ H Q
end
structure PMX (f : Bool) (X : Cx) (os : List Nat) (e : Expr) (te : TE) (m : Ev → M D) : Prop where
  p : PE X e te
  s : ∀ C, SimX X.K X.mg f C os te m
theorem PM.x {X : Cx} {os : List Nat} {e : Expr} {te : TE} {m : Ev → M D} (h : PM X os e te m) : PMX false X os e te m := ⟨h.p, h.s⟩
theorem PMF.x {X : Cx} {os : List Nat} {e : Expr} {te : TE} {m : Ev → M D} (h : PMF X os e te m) : PMX true X os e te m := ⟨h.p, h.s⟩
section
variable {K : PySem.W.Frag} {mg : Str → Option Value} {C : Ct} {os : List Nat} {env : Ev} {σ : St} {G H G1 H1 G2 H2 : Hp} {d d' : Drw} {v : V} {x : D} {i : Nat} {f : Bool}
theorem RepX.later {S : SA} {d0 : Drw} (st : StR S H d0) (h : RepX K mg f S G H G1 H1 v x) (A : Aft S G1 H1 G2 H2 d') : RepX K mg f S G H G2 H2 v x := by
  cases f with
  | true => exact RepN.later st h A
  | false => exact Rep.mono A.gm h
theorem RepX.pull {S : SA} {d0 : Drw} (A : Aft S G H G1 H1 d0) (h : RepX K mg f S G1 H1 G2 H2 v x) : RepX K mg f S G H G2 H2 v x := by
  cases f with
  | true => exact RepN.pull A h
  | false => exact h
theorem RepN.addr {S : SA} {a : Addr} (h : RepN K mg S G H G1 H1 v x) (e : v = .ref a) : H a = none ∧ H1 a ≠ none := by
  cases h with
  | non => cases e
  | lst n g h r => cases e; exact ⟨n, by rw [h]; exact fun z => nomatch z⟩
  | dic n g h r => cases e; exact ⟨n, by rw [h]; exact fun z => nomatch z⟩
  | dct n g h r => cases e; exact ⟨n, by rw [h]; exact fun z => nomatch z⟩
  | dtn n g h q r => cases e; exact ⟨n, by rw [h]; exact fun z => nomatch z⟩
theorem IM.set_x (I : IM K mg C os env σ H1 G1 d) (st : StR C.S H d') (h0 : ∀ b, H b = none → C.H b = none) (hf : if f = true then i ∈ os else i ∉ os) (h : RepX K mg f C.S G H G1 H1 v x)
    (hu : f = true → ∀ a, v = .ref a → ∀ j y, j ∈ os → j ≠ i → env[j]? = some (some y) → σ[j]? ≠ some (some (.ref a))) : IM K mg C os (env.set i (some x)) (σ.set i (some v)) H1 G1 d := by
  cases f with
  | true =>
    rw [if_pos rfl] at hf
    have h : RepN K mg C.S G H G1 H1 v x := h
    cases h with
    | non => exact I.set_non hf
    | lst n g hh r => exact I.set_ow hf ⟨g, st.off n, h0 _ n, ⟨_, hh, r⟩⟩ (hu rfl _ rfl)
    | dic n g hh r => exact I.set_ow hf ⟨g, st.off n, h0 _ n, ⟨_, hh, r⟩⟩ (hu rfl _ rfl)
    | dct n g hh r => exact I.set_ow hf ⟨g, st.off n, h0 _ n, ⟨_, hh, r⟩⟩ (hu rfl _ rfl)
    | dtn n g hh q r => exact I.set_ow hf ⟨g, st.off n, h0 _ n, ⟨_, hh, q, r⟩⟩ (hu rfl _ rfl)
  | false =>
    rw [if_neg Bool.false_ne_true] at hf
    exact I.set_sh hf h
theorem IM.apart (I : IM K mg C os env σ H G d) {a : Addr} (n : H a = none) {j : Nat} {y : D} (hj : j ∈ os) (e : env[j]? = some (some y)) : σ[j]? ≠ some (some (.ref a)) := fun z => by
  obtain ⟨b, e1, o⟩ := I.ow j y hj e
  rw [z] at e1
  cases e1
  cases o with
  | ref o => exact o.o.at n
theorem get_set_ne {α : Type} {l : List α} {i j : Nat} {v : α} (h : j ≠ i) : (l.set i v)[j]? = l[j]? := List.getElem?_set_ne (Ne.symm h)
end
section
variable {X : Cx} {fr : Bool} {os os' ol : List Nat} {a b c : Expr} {ta tb tc : TE} {ma mb mc : Ev → M D} {pos : Pos} {x y z : Str} {f1 f2 f3 : Bool}
def cPar2 (i j : Nat) (ma mb : Ev → M D) : Ev → M Ctl := fun env => ma env >>= fun x => mb env >>= fun y => pure (.nx ((env.set i (some x)).set j (some y)))
theorem pms_par2 (i j : Nat) {px py pt : Pos} {kt k2 pt2} (hc : X.calm = true) (hN : X.N.Nodup) (hi : X.N[i]? = some x) (hj : X.N[j]? = some y) (hij : i ≠ j) (hx : X.env.scope.names.lookup x = some .local) (hy : X.env.scope.names.lookup y = some .local)
    (ha : PMX f1 X os a ta ma) (hb : PMX f2 X os b tb mb) (o1 : if f1 = true then i ∈ os else i ∉ os) (o2 : if f2 = true then j ∈ os else j ∉ os)
    (hw : swappedStores [.Tuple [.Name x px, .Name y py] kt pt] (.Tuple [a, b] k2 pt2) X.env = pure (some [x, y])) (hs : swapsWithSole [.Tuple [.Name x px, .Name y py] kt pt] (.Tuple [a, b] k2 pt2) pos.line X.env = pure false := by rfl)
    (he : starEach [a, b] X.env = (false, eval a X.env) :: starEach [b] X.env := by rfl) (he2 : starEach [b] X.env = (false, eval b X.env) :: starEach [] X.env := by rfl) :
    PMS X fr os os ol (.Assign [.Tuple [.Name x px, .Name y py] kt pt] (.Tuple [a, b] k2 pt2) pos) (cPar2 i j ma mb) := by
  refine ⟨_, ps_par hc hN hi hj hij hx hy (pa_cons ha.p (pa_cons hb.p pa_nil he2) he) hw hs, fun C G σ H env d D I w => ?_⟩
  unfold cPar2 at w
  rw [Wp_bind] at w
  refine ha.s C G σ H env d _ I (w.imp fun x d1 w1 v1 H1 G1 A1 r1 => ?_)
  rw [Wp_bind] at w1
  refine hb.s C G1 σ H1 env d1 _ (I.later A1) (w1.imp fun y d2 w2 v2 H2 G2 A2 r2 => ⟨v1, v2, rfl, ?_⟩)
  have I2 := I.later (A1.trans A2)
  have h0 : ∀ b, H b = none → C.H b = none := fun b hb => I.aft.free hb
  have J1 := I2.set_x (i := i) I.st h0 o1 (r1.later I.st A2) fun hf q eq l u hl _ he => by
    subst hf
    have n1 := (RepN.addr r1 eq).1
    exact I.apart n1 hl he
  refine w2 _ H2 G2 (A1.trans A2).gm (J1.set_x (i := j) I.st h0 o2 (RepX.pull A1 r2) fun hf q eq l u hl hlj he => ?_)
  subst hf
  have n1 := (RepN.addr r2 eq).1
  by_cases zl : l = i
  · subst zl
    have hlen : l < env.length := by
      have := (List.getElem?_eq_some_iff.mp he).1
      rwa [List.length_set] at this
    rw [List.getElem?_set_self (by rw [I.len]; exact hlen)]
    intro zq
    have zq : v1 = .ref q := by cases zq; rfl
    cases f1 with
    | true => exact (RepN.addr r1 zq).2 n1
    | false =>
      rw [if_neg Bool.false_ne_true] at o1
      exact o1 hl
  · rw [get_set_ne zl] at he ⊢
    exact I.apart (A1.free n1) hl he
end
def stD : D → Option Str
  | .str b => some b
  | _ => none
theorem stD_eq {d : D} {b : Str} (h : stD d = some b) : d = .str b := by
  unfold stD at h
  split at h
  · cases h; rfl
  · exact nomatch h
def strsD : List D → Option (List Str)
  | [] => some []
  | x :: r => (stD x).bind fun b => (strsD r).map (b :: ·)
theorem strs_rep {K : PySem.W.Frag} {mg : Str → Option Value} {S : SA} {G : Hp} : ∀ {vs : List V} {ds : List D} {bs : List Str}, Reps K mg S G vs ds → strsD ds = some bs → vs = bs.map V.str
  | _, _, _, .nil, e => by cases e; rfl
  | _, _, _, .cons a t, e => by
    obtain ⟨b, h1, h2⟩ := Option.bind_eq_some_iff.mp e
    obtain ⟨r, e1, e2⟩ := Option.map_eq_some_iff.mp h2
    subst e2
    have h3 := stD_eq h1
    subst h3
    cases a
    rw [strs_rep t e1]; rfl
def dJoin : D → D → M D
  | .str a, .lst xs => match strsD xs with
    | some ys => guardB (decide ((ys.map (·.length)).sum + ys.length * a.length ≤ 16777216)) (pure (.str (Txt.join a ys)))
    | none => bad
  | _, _ => bad
section
variable {X : Cx} {os : List Nat} {o e : Expr} {to te : TE} {mo m : Ev → M D}
theorem pm_join {apos pos : Pos} (ho : PMB X os o to mo) (he : PMB X os e te m) (hs : starEach [e] X.env = [(false, eval e X.env)] := by rfl) (hbase : attributeBase o "join" X.env (eval o X.env) = eval o X.env := by rfl) (hline : (apos.endLine == pos.line) = true := by rfl) :
    PM X os (.Call (.Attribute o "join" apos) [e] [] pos) (tM1 (fun x xs H Q => ∃ a p, ∃ ys : List Str, x = .str a ∧ xs = [.ref p] ∧ (SqL X.K H p (ys.map V.str) ∨ SqT X.K H p (ys.map V.str)) ∧
      (ys.map (·.length)).sum + ys.length * a.length ≤ 16777216 ∧ Q (.str (Txt.join a ys)) H) to te) (eBin dJoin mo m) := by
  refine ⟨pe_join ho.p he.p hs hbase hline, fun C G σ H env d Q I w => ?_⟩
  unfold eBin at w
  rw [Wp_bind] at w
  refine ho.s C G σ H env d _ I (w.imp fun x d1 w1 v1 H1 G1 A1 r1 => ?_)
  rw [Wp_bind] at w1
  cases x with
  | str z =>
    refine ⟨⟨z, r1.str⟩, ?_⟩
    refine he.s C G1 σ H1 env d1 _ (I.later A1) (w1.imp fun y d2 w2 v2 H2 G2 A2 r2 => ?_)
    cases y with
    | lst xs =>
      cases hz : strsD xs with
      | none => simp only [dJoin, hz] at w2; exact w2.elim
      | some ys =>
        simp only [dJoin, hz] at w2
        rw [Wp_guard] at w2
        obtain ⟨a, vs, e1, h1, rr, n1⟩ := r2.lst' A2.sub
        exact ⟨z, a, ys, r1.str, by rw [e1], .inl (.inl (.inl (by rw [h1, strs_rep rr hz]))), of_decide_eq_true w2.1, w2.2 _ _ _ (A1.trans A2) (.str _)⟩
    | _ => exact w2.elim
  | _ =>
    exact (show False from by
      have : ∀ (r : R D) (P : D → Drw → Prop), Wp ((m env >>= fun y => (bad : M D)) d1) P → False := fun _ P h => by
        rw [Wp_bind] at h
        cases hx : m env d1 with
        | bad => rw [hx] at h; exact h
        | ok q qs => rw [hx] at h; exact h
      exact this (.bad) _ (by rw [Wp_bind]; exact w1)).elim
end
def mergeD (kvs more : List (Key × D)) : List (Key × D) := more.foldl (fun acc kv => putD acc kv.1 kv.2) kvs
theorem RepK.merge {K : PySem.W.Frag} {mg : Str → Option Value} {S : SA} {G : Hp} : ∀ (more : List (Key × V)) (moreD : List (Key × D)) (kvs : List (Key × V)) (ds : List (Key × D)), RepK K mg S G more moreD → RepK K mg S G kvs ds → RepK K mg S G (mergeK kvs more) (mergeD ds moreD) := by
  intro more
  induction more with
  | nil =>
    intro moreD kvs ds r b
    cases r
    exact b
  | cons p more ih =>
    intro moreD kvs ds r b
    cases r with
    | cons r t => exact ih _ (putK kvs _ _) (putD ds _ _) t (b.put _ r)
section
variable {X : Cx} {os : List Nat} {e : Expr} {te : TE} {m : Ev → M D} {pos p' : Pos}
end
end Mir
end
section
set_option maxHeartbeats 1000000
namespace PySem.W
open PySem PySem.Calls PyProof.Rows PyProof.V PySem.Spec
theorem mz_nolen : typeLookup (.type "zip") "__len__" = pure none := am_miss_of_fast (by decide +kernel)
theorem mz_nohint : typeLookup (.type "zip") "__length_hint__" = pure none := am_miss_of_fast (by decide +kernel)
theorem mz_ne {a b c : Nat} (h : a ≤ b) (k : b < c) : c ≠ a := by omega
def MzSt (z TI TO i1 i2 l1 l2 : Addr) (xs ys : Array Value) (S : Addr) (i : Nat) (h : Heap) : Prop := IsPair h TI (.ref i1) (.ref i2) ∧ h.IsListIter i1 l1 i ∧ h.IsListIter i2 l2 i ∧ h.IsList l1 xs ∧ h.IsList l2 ys ∧
  ((IsZip h z TI TO .none ∧ ∃ a b, IsPair h TO a b) ∨ ∃ T f oT, IsZipHeld h z TI TO T f ∧ h.get? T = some oT ∧ T ≠ z ∧ T ≠ i1 ∧ T ≠ i2 ∧ T ≠ S)
theorem MzSt.stay {z TI TO i1 i2 l1 l2 : Addr} {xs ys : Array Value} {S : Addr} {i : Nat} {h h' : Heap} (x : MzSt z TI TO i1 i2 l1 l2 xs ys S i h) (hz : z ≠ S) (hTI : TI ≠ S) (hTO : TO ≠ S) (h1 : i1 ≠ S) (h2 : i2 ≠ S) (hl1 : l1 ≠ S) (hl2 : l2 ≠ S)
    (k : ∀ b o, b ≠ S → h.get? b = some o → h'.get? b = some o) : MzSt z TI TO i1 i2 l1 l2 xs ys S i h' := by
  obtain ⟨a1, a2, a3, a4, a5, a6⟩ := x
  refine ⟨k _ _ hTI a1, a2.at fun o e => k _ o h1 e, a3.at fun o e => k _ o h2 e, a4.at fun o e => k _ o hl1 e, a5.at fun o e => k _ o hl2 e, ?_⟩
  rcases a6 with ⟨q1, a, b, q2⟩ | ⟨T, f, oT, q1, q2, r1, r2, r3, r4⟩
  · exact .inl ⟨k _ _ hz q1, a, b, k _ _ hTO q2⟩
  · exact .inr ⟨T, f, oT, k _ _ hz q1, k _ _ r4 q2, r1, r2, r3, r4⟩
section
variable {prog : Program} {w : World} {A : Around} {E : Value → Shared → Prop} {s : Shared}
theorem mz_item {z TI TO i1 i2 l1 l2 : Addr} {xs ys : Array Value} {S : Addr} {i : Nat} {x y : Value} {Q : Option Value → Shared → Prop} (D : ZipApart z TI TO i1 i2 l1 l2) (st : MzSt z TI TO i1 i2 l1 l2 xs ys S i s.heap) (hS : S < s.heap.objs.size)
    (ex : xs[i]? = some x) (ey : ys[i]? = some y)
    (hQ : ∀ h', MzSt z TI TO i1 i2 l1 l2 xs ys S (i + 1) h' → IsPair h' s.heap.objs.size x y → h'.objs.size = s.heap.objs.size + 1 → (∀ b o, b ≠ z → b ≠ TO → b ≠ i1 → b ≠ i2 → s.heap.get? b = some o → h'.get? b = some o) → Q (some (.ref s.heap.objs.size)) { s with heap := h' }) :
    wpAny (model prog w) A (pyNext (.ref z)) Q E s := by
  obtain ⟨a1, a2, a3, a4, a5, a6⟩ := st
  have nw : ∀ {c : Addr} {o : Obj}, s.heap.get? c = some o → s.heap.objs.size ≠ c := fun e => Nat.ne_of_gt (Heap.lt_size e)
  have n1 : s.heap.objs.size ≠ i1 := by obtain ⟨_, e, _⟩ := a2; exact nw e
  have n2 : s.heap.objs.size ≠ i2 := by obtain ⟨_, e, _⟩ := a3; exact nw e
  rcases a6 with ⟨q1, a, b, q2⟩ | ⟨T, f, oT, q1, q2, r1, r2, r3, r4⟩
  · refine wpAny_pyNext_zip_item D q1 a1 q2 a2 a3 a4 a5 ex ey fun h' b1 b2 b3 b4 b5 b6 hk => ?_
    refine hQ h' ⟨hk _ _ D.TIz D.TITO D.TIi1 D.TIi2 a1, b3, b4, a4.at fun o e => hk _ o D.l1z D.l1TO D.l1i1 D.l1i2 e, a5.at fun o e => hk _ o D.l2z D.l2TO D.l2i1 D.l2i2 e, ?_⟩ b5 b6 hk
    exact .inr ⟨s.heap.objs.size, false, _, b1, b5, nw q1, n1, n2, Nat.ne_of_gt hS⟩
  · refine wpAny_pyNext_zip_item_held D q1 q2 a1 a2 a3 a4 a5 ex ey fun h' b1 b3 b4 b5 b6 hk => ?_
    refine hQ h' ⟨hk _ _ D.TIz D.TIi1 D.TIi2 a1, b3, b4, a4.at fun o e => hk _ o D.l1z D.l1i1 D.l1i2 e, a5.at fun o e => hk _ o D.l2z D.l2i1 D.l2i2 e, ?_⟩ b5 b6 fun b o c1 _ c3 c4 e => hk b o c1 c3 c4 e
    exact .inr ⟨T, true, oT, b1, hk _ _ r1 r2 r3 q2, r1, r2, r3, r4⟩
theorem mz_done {z TI TO i1 i2 l1 l2 : Addr} {xs ys : Array Value} {S : Addr} {i : Nat} {Q : Option Value → Shared → Prop} (hh : A.handled = none) (D : ZipApart z TI TO i1 i2 l1 l2) (st : MzSt z TI TO i1 i2 l1 l2 xs ys S i s.heap) (he : xs[i]? = none ∨ ys[i]? = none)
    (hQ : ∀ h', (∀ b o, b ≠ z → b ≠ TO → b ≠ i1 → b ≠ i2 → s.heap.get? b = some o → h'.get? b = some o) → Q none { s with heap := h' }) : wpAny (model prog w) A (pyNext (.ref z)) Q E s := by
  obtain ⟨a1, a2, a3, a4, a5, a6⟩ := st
  rcases a6 with ⟨q1, a, b, q2⟩ | ⟨T, f, oT, q1, q2, r1, r2, r3, r4⟩
  · exact wpAny_pyNext_zip_end hh D q1 a1 q2 a2 a3 a4 a5 he hQ
  · exact wpAny_pyNext_zip_end_held hh D q1 q2 a1 a2 a3 a4 a5 he fun h' hk => hQ h' fun b o c1 _ c3 c4 e => hk b o c1 c3 c4 e
structure MzG (xs ys : Array Value) (lo : Addr) (h : Heap) (as : List Addr) : Prop where
  nd : as.Nodup
  above : ∀ a ∈ as, lo < a
  pairs : ∀ (j : Nat) (a : Addr), as[j]? = some a → ∃ x y, xs[j]? = some x ∧ ys[j]? = some y ∧ IsPair h a x y
theorem MzG.there {xs ys : Array Value} {lo : Addr} {h : Heap} {as : List Addr} (g : MzG xs ys lo h as) {a : Addr} (ha : a ∈ as) : a < h.objs.size := by
  obtain ⟨j, hj⟩ := List.mem_iff_getElem?.mp ha
  obtain ⟨_, _, _, _, e⟩ := g.pairs j a hj
  exact Heap.lt_size e
end
section
variable {prog : Program} {w : World} {A : Around} {s : Shared} {R : Result → Shared → Prop}
theorem mz_loop {z TI TO i1 i2 l1 l2 S lo : Addr} {xs ys : Array Value} {n : Nat} (hh : A.handled = none) (D : ZipApart z TI TO i1 i2 l1 l2) (hS : S ≤ lo) (bz : z ≤ lo) (bTO : TO ≤ lo) (b1 : i1 ≤ lo) (b2 : i2 ≤ lo)
    (sz : z ≠ S) (sTI : TI ≠ S) (sTO : TO ≠ S) (s1 : i1 ≠ S) (s2 : i2 ≠ S) (sl1 : l1 ≠ S) (sl2 : l2 ≠ S) (hn : n ≤ sizeLine) (hx : xs.size = n) (hy : ys.size = n) (res : Value) {h0 : Heap}
    (hR : ∀ h' tk acc c as, (∀ b o, b ≠ S → b ≠ z → b ≠ TO → b ≠ i1 → b ≠ i2 → h0.get? b = some o → h'.get? b = some o) → h'.get? S = some { cls := .type "list", dict := none, data := .seq acc c, slots := #[] } → as.length = n → MzG xs ys lo h' as →
      acc.toList = as.map Value.ref → R (.ok (.ret res)) { s with heap := h', toks := tk }) :
    ∀ (k i : Nat) (h : Heap) (tk c : Nat) (acc : Array Value) (as : List Addr), n - i = k → i ≤ n → MzSt z TI TO i1 i2 l1 l2 xs ys S i h → (∀ b o, b ≠ S → b ≠ z → b ≠ TO → b ≠ i1 → b ≠ i2 → h0.get? b = some o → h.get? b = some o) →
      h.get? S = some { cls := .type "list", dict := none, data := .seq acc c, slots := #[] } → acc.toList = as.map Value.ref → as.length = i → MzG xs ys lo h as → lo < h.objs.size →
      codeAny (model prog w) A (.builtin "list.extend.loop" ⟨[.ref S, .ref z, res], []⟩) R { s with heap := h, toks := tk } := by
  intro k
  induction k with
  | zero =>
    intro i h tk c acc as hk hi st hkeep hSg hacc hal hG hlo
    have hin : i = n := by omega
    refine codeAny_builtin PySem.F.entry_extend_loop ?_
    rw [Around.under_plainId PySem.F.plain_extend_loop _]
    refine wpAny_bind (mz_done (s := { s with heap := h, toks := tk }) (A := A.in1) hh D st (.inl (Array.getElem?_eq_none (by omega))) fun h' he => wpAny_pure ?_)
    refine hR h' tk acc c as (fun b o c0 c1 c2 c3 c4 e => he b o c1 c2 c3 c4 (hkeep b o c0 c1 c2 c3 c4 e)) (he S _ (Ne.symm sz) (Ne.symm sTO) (Ne.symm s1) (Ne.symm s2) hSg) (by omega) ⟨hG.nd, hG.above, fun j a hj => ?_⟩ hacc
    obtain ⟨x, y, e1, e2, e3⟩ := hG.pairs j a hj
    have ha := hG.above a (List.mem_of_getElem? hj)
    exact ⟨x, y, e1, e2, he a _ (mz_ne bz ha) (mz_ne bTO ha) (mz_ne b1 ha) (mz_ne b2 ha) e3⟩
  | succ k ih =>
    intro i h tk c acc as hk hi st hkeep hSg hacc hal hG hlo
    have hlt : i < n := by omega
    have hsz : acc.size = i := by rw [← Array.length_toList, hacc, List.length_map, hal]
    have ex : xs[i]? = some xs[i] := Array.getElem?_eq_getElem (by omega)
    have ey : ys[i]? = some ys[i] := Array.getElem?_eq_getElem (by omega)
    refine codeAny_builtin PySem.F.entry_extend_loop ?_
    rw [Around.under_plainId PySem.F.plain_extend_loop _]
    refine wpAny_bind (mz_item (s := { s with heap := h, toks := tk }) (A := A.in1) D st (Heap.lt_size hSg) ex ey fun h' st' ht hz' hkp => ?_)
    dsimp only at ht hz' hkp ⊢
    have hS' := hkp S _ (Ne.symm sz) (Ne.symm sTO) (Ne.symm s1) (Ne.symm s2) hSg
    have hSl : S < h.objs.size := Heap.lt_size hSg
    have up : ∀ b o, b ≠ S → h'.get? b = some o → (h'.update S (Obj.mapSeq (·.push (Value.ref h.objs.size)))).get? b = some o := fun b o hb e => (Heap.get?_update_other _ _ (Ne.symm hb)).trans e
    show wpAny _ A.in1 (updateSeq S (·.push (Value.ref h.objs.size)) >>= _) _ _ _
    refine wpAny_bind (wpAny_updateSeq hS' rfl (wpAny_pure ⟨plainId_quiet PySem.F.plain_extend_loop _, ?_⟩) (by rw [hsz]; omega) (by show (acc.push (Value.ref h.objs.size)).size ≤ sizeLine + 1; rw [Array.size_push, hsz]; omega))
    refine ih (i + 1) _ tk _ (acc.push (Value.ref h.objs.size)) (as ++ [h.objs.size]) (by omega) hlt (st'.stay sz sTI sTO s1 s2 sl1 sl2 up) (fun b o c0 c1 c2 c3 c4 e => up b o c0 (hkp b o c1 c2 c3 c4 (hkeep b o c0 c1 c2 c3 c4 e)))
      (Heap.get?_update_self _ hS' rfl) (by rw [Array.toList_push, hacc, List.map_append]; rfl) (by rw [List.length_append, hal]; rfl) ⟨?_, ?_, ?_⟩ ?_
    · refine List.nodup_append.mpr ⟨hG.nd, by simp, fun a ha b hb => ?_⟩
      rw [List.mem_singleton.mp hb]
      exact Nat.ne_of_lt (hG.there ha)
    · intro a ha
      rcases List.mem_append.mp ha with ha | ha
      · exact hG.above a ha
      · rw [List.mem_singleton.mp ha]; exact hlo
    · intro j b hj
      rcases Nat.lt_trichotomy j as.length with q | q | q
      · rw [List.getElem?_append_left q] at hj
        obtain ⟨x, y, e1, e2, e3⟩ := hG.pairs j b hj
        have hb := hG.above b (List.mem_of_getElem? hj)
        exact ⟨x, y, e1, e2, up b _ (mz_ne hS hb) (hkp b _ (mz_ne bz hb) (mz_ne bTO hb) (mz_ne b1 hb) (mz_ne b2 hb) e3)⟩
      · subst q
        have hb : h.objs.size = b := by simpa using hj
        subst hb
        subst hal
        exact ⟨_, _, ex, ey, up _ _ (Nat.ne_of_gt hSl) ht⟩
      · rw [List.getElem?_eq_none (by rw [List.length_append, List.length_singleton]; omega)] at hj
        cases hj
    · have e : (h'.update S (Obj.mapSeq (·.push (Value.ref h.objs.size)))).get? h.objs.size = _ := up _ _ (Nat.ne_of_gt hSl) ht
      exact Nat.lt_trans hlo (Heap.lt_size e)
end
section
variable {prog : Program} {w : World} {A : Around} {E : Value → Shared → Prop} {s : Shared}
theorem mz_hint {r : Addr} {Q : Bool → Shared → Prop} (hT : s.TypeIs (.ref r) "zip") (h : Q true s) : wpAny (model prog w) A (Builtin.List.listLengthHint (.ref r)) Q E s := by
  unfold Builtin.List.listLengthHint
  refine wpAny_bind (wpAny_specialOf hT mz_nolen ?_)
  show wpAny _ _ (specialOf (.ref r) "__length_hint__" >>= _) _ _ _
  refine wpAny_bind (wpAny_specialOf hT mz_nohint ?_)
  exact wpAny_pure h
theorem mz_lt {a I b : Nat} (h : a < I) (e : b = I + 5) : a ≠ b := by omega
theorem mz_extend {I l1 l2 S : Nat} {xs ys : Array Value} {n : Nat} {R : Result → Shared → Prop} (hh : A.handled = none) (la : l1 < I) (lb : l2 < I) (hSe : S = I + 5) (hx : xs.size = n) (hy : ys.size = n) (hn : n ≤ sizeLine) (st : MzSt (I + 4) (I + 2) (I + 3) I (I + 1) l1 l2 xs ys S 0 s.heap)
    (hz : IsZip s.heap (I + 4) (I + 2) (I + 3) .none) (res : Value) (c₀ : Nat) (hS : s.heap.get? S = some { cls := .type "list", data := .seq #[] c₀ })
    (hR : ∀ h' tk acc c as, (∀ b o, b < I → s.heap.get? b = some o → h'.get? b = some o) → h'.get? S = some { cls := .type "list", dict := none, data := .seq acc c, slots := #[] } → as.length = n → MzG xs ys S h' as →
      acc.toList = as.map Value.ref → R (.ok (.ret res)) { s with heap := h', toks := tk }) :
    wpAny (model prog w) A.in1 (Builtin.List.listExtendWith (.ref S) (.ref (I + 4)) res)
      (fun fin s' => match fin with | .done f => R (.ok f) s' | .again c' => c'.quiet = true ∧ codeAny (model prog w) A c' R s') (fun e s' => R (.error e) s') s := by
  have D := ktu_apart I l1 l2 la lb
  have sz : I + 4 ≠ S := by omega
  have sTI : I + 2 ≠ S := by omega
  have sTO : I + 3 ≠ S := by omega
  have s1 : I ≠ S := by omega
  have s2 : I + 1 ≠ S := by omega
  have sl1 : l1 ≠ S := by omega
  have sl2 : l2 ≠ S := by omega
  have oth : ∀ (f : Obj → Obj) (h : Heap) (b : Addr) (o : Obj), b ≠ S → h.get? b = some o → (h.update S f).get? b = some o := fun f h b o hb e => (Heap.get?_update_other _ _ (Ne.symm hb)).trans e
  have key : ∀ (h : Heap) (c tk : Nat), MzSt (I + 4) (I + 2) (I + 3) I (I + 1) l1 l2 xs ys S 0 h → (∀ b o, b ≠ S → s.heap.get? b = some o → h.get? b = some o) → h.get? S = some { cls := .type "list", data := .seq #[] c } →
      codeAny (model prog w) A (.builtin "list.extend.loop" ⟨[.ref S, .ref (I + 4), res], []⟩) R { s with heap := h, toks := tk } := fun h c tk st hk1 hSh => by
    refine mz_loop (n := n) (lo := S) (s := s) (h0 := s.heap) hh D (Nat.le_refl S) (show I + 4 ≤ S by omega) (show I + 3 ≤ S by omega) (show I ≤ S by omega) (show I + 1 ≤ S by omega) sz sTI sTO s1 s2 sl1 sl2 hn hx hy res (fun h' tk' acc c' as hk' hS' hl hG hacc => ?_) n 0 h tk c #[] [] (Nat.sub_zero _) (Nat.zero_le _) st
      (fun b o c0 _ _ _ _ e => hk1 b o c0 e) hSh rfl rfl ⟨List.nodup_nil, (fun _ ha => nomatch ha), (fun j a hj => by simp at hj)⟩ (Heap.lt_size hSh)
    refine hR h' tk' acc c' as (fun b o hb e => ?_) hS' hl hG hacc
    have nb : ∀ m : Nat, b ≠ I + m := fun m => Nat.ne_of_lt (Nat.lt_of_lt_of_le hb (Nat.le_add_right I m))
    exact hk' b o (by rw [hSe]; exact nb 5) (nb 4) (nb 3) (nb 0) (nb 1) e
  unfold Builtin.List.listExtendWith
  refine wpAny_bind (wpAny_typeOf (T := "zip") ⟨_, hz, rfl⟩ ?_)
  have q1 : Builtin.List.listSameRef (.ref S) (.ref (I + 4)) = false := by simp [Builtin.List.listSameRef, Ne.symm sz]
  have q2 : (Value.type "zip" == Value.type "list") = false := by decide
  have q3 : (Value.type "zip" == Value.type "tuple") = false := by decide
  simp only [q1, q2, q3, Bool.or_false, Bool.false_eq_true, if_false]
  refine wpAny_bind (wpAny_pyIter_zip hz ?_)
  refine wpAny_bind (wpAny_holding (mz_hint ⟨_, hz, rfl⟩ ?_))
  refine wpAny_ite_split (fun _ => ?_) (fun hab => absurd (by decide +kernel) hab)
  refine wpAny_bind (wpAny_rule ?_)
  refine wpAny_bind ?_
  show wpAny _ _ (updateSeq S (·.push .none) >>= fun _ => updateSeq S (·.pop)) _ _ _
  refine wpAny_bind (wpAny_updateSeq hS rfl ?_)
  have hS3 := Heap.get?_update_self (Obj.mapSeq (·.push Value.none)) hS rfl
  refine wpAny_updateSeq (hz := by seq_fits) hS3 rfl ?_
  have hS4 := Heap.get?_update_self (Obj.mapSeq (·.pop)) hS3 rfl
  refine wpAny_pure ⟨plainId_quiet PySem.F.plain_extend_loop _, key _ _ _ ?_ (fun b o hb e => ?_) hS4⟩
  · exact (st.stay sz sTI sTO s1 s2 sl1 sl2 (fun b o hb e => oth _ _ b o hb e)).stay sz sTI sTO s1 s2 sl1 sl2 (fun b o hb e => oth _ _ b o hb e)
  · exact oth _ _ b o hb (oth _ _ b o hb e)
theorem mz_call {l1 l2 : Addr} {xs ys : Array Value} {n : Nat} {Q : Value → Shared → Prop} (hh : A.handled = none) (p1 : s.heap.IsList l1 xs) (p2 : s.heap.IsList l2 ys) (hx : xs.size = n) (hy : ys.size = n) (hn : n ≤ sizeLine)
    (hQ : ∀ h' tk acc c as (S : Addr), s.heap.objs.size ≤ S → (∀ b o, s.heap.get? b = some o → h'.get? b = some o) → h'.get? S = some { cls := .type "list", dict := none, data := .seq acc c, slots := #[] } → as.length = n → MzG xs ys S h' as →
      acc.toList = as.map Value.ref → Q (.ref S) { s with heap := h', toks := tk }) :
    wpAny (model prog w) A (call (.type "zip") [.ref l1, .ref l2]) (fun v s1 => wpAny (model prog w) A (call (.type "list") [v]) Q E s1) E s := by
  have la : l1 < s.heap.objs.size := by obtain ⟨_, e, _⟩ := p1; exact Heap.lt_size e
  have lb : l2 < s.heap.objs.size := by obtain ⟨_, e, _⟩ := p2; exact Heap.lt_size e
  refine call_zip_2 p1 p2 fun h1 hz hTI hTO hi1 hi2 hsz hk => ?_
  refine callType_codes (Q₁ := fun obj s₁ => obj = .ref h1.objs.size ∧ s₁ = { s with heap := h1.push { cls := .type "list", data := .seq #[] } }) PySem.F.called_list (PySem.F.typeCall_list_1 _) PySem.F.entry_list_init (code_list_new _ ⟨rfl, rfl⟩) fun obj s₁ hobj => ?_
  obtain ⟨rfl, rfl⟩ := hobj
  have hS : (h1.push { cls := .type "list", data := .seq #[] }).get? h1.objs.size = some { cls := .type "list", data := .seq #[] } := Heap.get?_push_size _ rfl
  have kp : ∀ b o, h1.get? b = some o → (h1.push { cls := .type "list", data := .seq #[] }).get? b = some o := fun b o e => Heap.get?_push_of_some _ e
  have lz : ∀ {b : Addr} {o : Obj}, h1.get? b = some o → b ≠ h1.objs.size := fun e => Nat.ne_of_lt (Heap.lt_size e)
  have st0 : MzSt (s.heap.objs.size + 4) (s.heap.objs.size + 2) (s.heap.objs.size + 3) s.heap.objs.size (s.heap.objs.size + 1) l1 l2 xs ys h1.objs.size 0 (h1.push { cls := .type "list", data := .seq #[] }) := ⟨kp _ _ hTI, hi1.at fun o e => kp _ o e, hi2.at fun o e => kp _ o e, p1.at fun o e => kp _ o (hk _ o e), p2.at fun o e => kp _ o (hk _ o e), .inl ⟨kp _ _ hz, _, _, kp _ _ hTO⟩⟩
  refine ⟨⟨_, hS, rfl⟩, PySem.F.args_list_init_2 _ _, ?_⟩
  show wpAny _ _ (do let old ← Builtin.List.listItems (.ref h1.objs.size); Builtin.List.listUpdate (.ref h1.objs.size) (fun _ => #[]); letGo old.toList.reverse; Builtin.List.listExtendWith (.ref h1.objs.size) (.ref (s.heap.objs.size + 4)) .none) _ _ _
  refine wpAny_bind ?_
  unfold Builtin.List.listItems
  refine wpAny_bind (wpAny_seqItems hS rfl (wpAny_pure ?_))
  show wpAny _ _ (updateSeq h1.objs.size (fun _ => #[]) >>= fun _ => letGo (#[] : Array Value).toList.reverse >>= fun _ => Builtin.List.listExtendWith (.ref h1.objs.size) (.ref (s.heap.objs.size + 4)) .none) _ _ _
  refine wpAny_bind (wpAny_updateSeq hS rfl ?_)
  have hS2 := Heap.get?_update_self (Obj.mapSeq (fun _ => (#[] : Array Value))) hS rfl
  refine wpAny_bind (wpAny_letGo ?_)
  have oth : ∀ (f : Obj → Obj) (h : Heap) (b : Addr) (o : Obj), b ≠ h1.objs.size → h.get? b = some o → (h.update h1.objs.size f).get? b = some o := fun f h b o hb e => (Heap.get?_update_other _ _ (Ne.symm hb)).trans e
  have e5 : h1.objs.size = s.heap.objs.size + 5 := hsz
  refine mz_extend (A := A.in1) (n := n) (s := { s with heap := (h1.push { cls := .type "list", data := .seq #[] }).update h1.objs.size (Obj.mapSeq (fun _ => (#[] : Array Value))) }) hh la lb e5 hx hy hn (st0.stay (lz hz) (lz hTI) (lz hTO) (by obtain ⟨_, e, _⟩ := hi1; exact lz e) (by obtain ⟨_, e, _⟩ := hi2; exact lz e) (mz_lt la e5) (mz_lt lb e5) (fun b o hb e => oth (Obj.mapSeq (fun _ => (#[] : Array Value))) _ b o hb e))
    (oth _ _ _ _ (lz hz) (kp _ _ hz)) .none _ hS2 (fun h' tk acc c as hk' hS' hl hG hacc => ?_)
  refine ⟨rfl, hQ h' tk acc c as h1.objs.size (by rw [e5]; exact Nat.le_add_right _ _) (fun b o e => ?_) hS' hl hG hacc⟩
  have hb := Heap.lt_size e
  exact hk' b o hb (oth _ _ b o (mz_lt hb e5) (kp b o (hk b o e)))
end
end PySem.W
end
section
set_option maxHeartbeats 1000000
namespace Mir
open PySem PySem.Spec PyProof.Rows L2
variable [Tab]
theorem laidMany {X : Cx} {pins : List (Addr × Obj)} {σ : St} {H H' : Hp} {s : Shared} {h' : Heap} {tk : Nat} (I : Inv X pins σ H s) (hk : ∀ b o, s.heap.get? b = some o → h'.get? b = some o) (hold : ∀ b, b < s.heap.objs.size → H' b = H b)
    (hnew : ∀ b o, s.heap.objs.size ≤ b → H' b = some o → ObjOk X.prog X.w H' h' b o) : Inv X pins σ H' { s with heap := h', toks := tk } := by
  have same : ∀ {b : Addr} {o : HO}, H b = some o → H' b = some o := fun {b o} e => (hold b (I.hok.lt e)).trans e
  refine I.un (u := ?_) (fun b o e => ?_)
  · exact {
      keep := fun b o q _ _ _ => hk b o q
      slot := fun b o q _ _ _ => ⟨o.slots, hk b o q⟩
      free := fun b o q n _ => (hold b (Heap.lt_size q)).trans n
      there := fun b o q _ => ⟨o, hk b o q⟩
      tups := fun b xs q => same q
      frzs := fun b o u q => same q
      tbls := fun b ps q => ⟨#[], by rw [same q]; simp⟩ }
  · by_cases hb : b < s.heap.objs.size
    · rw [hold b hb] at e
      exact (I.hok b o e).stay (fun c v _ z => hk c v z) (fun _ z => same z) fun _ _ z => same z
    · exact hnew b o (Nat.le_of_not_lt hb) e
structure ZipLaid (H H' : Hp) (S : Addr) (as : List Addr) (xs ys : List V) : Prop where
  old : ∀ b o, H b = some o → H' b = some o
  fS : H S = none
  fas : ∀ a ∈ as, H a = none
  nS : S ∉ as
  len : as.length = xs.length
  atS : H' S = some (.lst (as.map V.ref))
  pairs : ∀ (i : Nat) (a : Addr), as[i]? = some a → ∃ x y, xs[i]? = some x ∧ ys[i]? = some y ∧ H' a = some (.tup [x, y])
def tZipL (K : PySem.W.Frag) (ta : TA) : TE := fun σ H Q => ta σ H fun vs H1 => ∃ a b xs ys, vs = [.ref a, .ref b] ∧ SqL K H1 a xs ∧ SqL K H1 b ys ∧ xs.length = ys.length ∧ ∀ S as H', ZipLaid H1 H' S as xs ys → Q (.ref S) H'
section
variable {X : Cx} {a b : Expr} {ta : TA} {p p2 pos pos2 : Pos}
theorem pe_zipL (hc : X.calm = true) (hg : Gl X "list") (hm : X.mg "list" = none) (hg2 : Gl X "zip") (hm2 : X.mg "zip" = none) (ha : PA X [a, b] ta)
    (hs : starEach [.Call (.Name "zip" p2) [a, b] [] pos2] X.env = (false, eval (.Call (.Name "zip" p2) [a, b] [] pos2) X.env) :: starEach [] X.env := by rfl)
    (hs2 : starEach [a, b] X.env = (false, eval a X.env) :: starEach [b] X.env := by rfl) (hpl : (backTo pos2 (starEach [b] X.env)).any (·.1) = false := by rfl) :
    PE X (.Call (.Name "list" p) [.Call (.Name "zip" p2) [a, b] [] pos2] [] pos) (tZipL X.K ta) := by
  refine ⟨fun pins s σ H Q I hq => ?_⟩
  have hv : bootBuiltins "list" = some (.type "list") := by decide +kernel
  refine wpAny_Call_Name_kw (ld_blt I hg hm hv ?_)
  refine PyProof.Rows.callWith_type1 ?_ hs rfl
  rw [hs]
  show wpAny _ _ (spliced ((false, eval (.Call (.Name "zip" p2) [a, b] [] pos2) X.env) :: backTo pos (starEach [] X.env))) _ _ s
  refine Calls.spliced_cons ?_
  refine Call_ (ld_blt I hg2 hm2 PyProof.Rows.boot_zip (PyProof.Rows.callWith_type1 (thn (ha.run pos2 pins s σ H _ I hq) fun us s1 ⟨vs, H1, I1, r1, q1⟩ => ?_) hs2 hpl))
  obtain ⟨l1, l2, xs, ys, ev, hx, hy, hl, q⟩ := q1
  subst ev
  obtain ⟨u1, u2, rfl, ru1, ru2⟩ := vals2 r1
  cases ru1
  cases ru2
  obtain ⟨its, rv, pl, hz⟩ := I1.list hx
  obtain ⟨its2, rv2, pl2, hz2⟩ := I1.list hy
  have e1 := rv.length
  have e2 := rv2.length
  refine wpAny_mono (PySem.W.mz_call (n := xs.length) (Q := EP X pins σ Q) (I1.ok.hd hc) pl.isList pl2.isList (by rw [List.size_toArray]; exact e1.symm) (by rw [List.size_toArray, ← e2]; exact hl.symm) hz fun h' tk acc c as S hS hk hSg hal hG hacc => ?_) (fun v s2 h => Calls.spliced_nil h) fun _ _ z => z
  have nS : S ∉ as := fun z => absurd (hG.above S z) (Nat.lt_irrefl S)
  have hnew : ∀ a ∈ as, s1.heap.objs.size ≤ a := fun a ha => Nat.le_trans hS (Nat.le_of_lt (hG.above a ha))
  have pr : ∀ a ∈ as, ∃ x y u v, RelV x u ∧ RelV y v ∧ PySem.IsPair h' a u v ∧ ∀ i, as[i]? = some a → xs[i]? = some x ∧ ys[i]? = some y := fun a ha => by
    obtain ⟨i, hi⟩ := List.mem_iff_getElem?.mp ha
    obtain ⟨u, v, g1, g2, g3⟩ := hG.pairs i a hi
    have il : i < xs.length := by rw [← hal]; exact (List.getElem?_eq_some_iff.mp hi).1
    have g1' : its[i]? = some u := by simpa using g1
    have g2' : its2[i]? = some v := by simpa using g2
    obtain ⟨u', w1, w2⟩ := rv.get (List.getElem?_eq_getElem il)
    obtain ⟨v', w3, w4⟩ := rv2.get (List.getElem?_eq_getElem (by rw [← hl]; exact il))
    rw [g1'] at w1; cases w1
    rw [g2'] at w3; cases w3
    refine ⟨_, _, u, v, w2, w4, g3, fun j hj => ?_⟩
    have ij : i = j := (List.getElem_inj hG.nd).mp (by
      have h1 := (List.getElem?_eq_some_iff.mp hi).2
      have h2 := (List.getElem?_eq_some_iff.mp hj).2
      exact h1.trans h2.symm)
    subst ij
    exact ⟨List.getElem?_eq_getElem il, List.getElem?_eq_getElem (by rw [← hl]; exact il)⟩
  classical
  let H2 : Hp := fun b => if b = S then some (.lst (as.map V.ref)) else if hb : b ∈ as then some (.tup [(pr b hb).choose, (pr b hb).choose_spec.choose]) else H1 b
  have hH2S : H2 S = some (.lst (as.map V.ref)) := by show (if S = S then _ else _) = _; rw [if_pos rfl]
  have hH2a : ∀ b (hb : b ∈ as), H2 b = some (.tup [(pr b hb).choose, (pr b hb).choose_spec.choose]) := fun b hb => by
    show (if b = S then _ else _) = _
    rw [if_neg (fun z : b = S => nS (z ▸ hb)), dif_pos hb]
  have hH2o : ∀ b, b ≠ S → b ∉ as → H2 b = H1 b := fun b h1 h2 => by
    show (if b = S then _ else _) = _
    rw [if_neg h1, dif_neg h2]
  have J : Inv X pins σ H2 { s1 with heap := h', toks := tk } := by
    refine laidMany I1 hk (fun b hb => hH2o b (fun z => ?_) fun z => ?_) fun b o hb e => ?_
    · rw [z] at hb; exact absurd hb (Nat.not_lt.mpr hS)
    · exact absurd hb (Nat.not_lt.mpr (hnew b z))
    · by_cases h1 : b = S
      · subst h1
        rw [hH2S] at e
        cases e
        refine ⟨by rw [List.length_map, hal]; exact hz, acc.toList, c, ?_, by rw [Array.toArray_toList]; exact hSg⟩
        rw [hacc]
        clear hacc hSg pr H2 hH2S hH2a hH2o hG nS hnew hal
        induction as with
        | nil => exact .nil
        | cons q r ih => exact .cons rfl ih
      · by_cases h2 : b ∈ as
        · rw [hH2a b h2] at e
          cases e
          obtain ⟨u, v, w1, w2, w3, _⟩ := (pr b h2).choose_spec.choose_spec
          exact ⟨by show 2 ≤ sizeLine; decide, [u, v], .cons w1 (.cons w2 .nil), _, w3, rfl, 0, rfl⟩
        · rw [hH2o b h1 h2, I1.hok.fresh hb] at e
          cases e
  refine ⟨.ref S, H2, J, rfl, q S as H2 {
    old := fun b o e => (hH2o b (fun z => by rw [z, I1.hok.fresh hS] at e; cases e) fun z => by rw [I1.hok.fresh (hnew b z)] at e; cases e).trans e
    fS := I1.hok.fresh hS
    fas := fun a ha => I1.hok.fresh (hnew a ha)
    nS := nS
    len := hal
    atS := hH2S
    pairs := fun i a hi => by
      have ha := List.mem_of_getElem? hi
      obtain ⟨u, v, _, _, _, w⟩ := (pr a ha).choose_spec.choose_spec
      exact ⟨_, _, (w i hi).1, (w i hi).2, hH2a a ha⟩ }⟩
end
def tups2 : List D → List D → List D
  | x :: xs, y :: ys => .tup [x, y] :: tups2 xs ys
  | _, _ => []
def dZipL (x y : D) : M D := match x, y with
  | .lst xs, .lst ys => guardB (decide (xs.length = ys.length)) (pure (.lst (tups2 xs ys)))
  | _, _ => bad
def aZip (ms : Ev → M (List D)) : Ev → M D := fun env => ms env >>= fun zs => match zs with
  | [x, y] => dZipL x y
  | _ => bad
theorem tups2_rep {K : PySem.W.Frag} {mg : Str → Option Value} {S : SA} {G : Hp} : ∀ (as : List Addr) (xs ys : List D) (vs ws : List V), Reps K mg S G vs xs → Reps K mg S G ws ys → xs.length = ys.length → as.length = vs.length →
    (∀ (i : Nat) (a : Addr), as[i]? = some a → ∃ x y, vs[i]? = some x ∧ ws[i]? = some y ∧ G a = some (.tup [x, y])) → Reps K mg S G (as.map V.ref) (tups2 xs ys) := by
  intro as
  induction as with
  | nil =>
    intro xs ys vs ws r1 r2 hl hn h
    cases r1 with
    | nil => exact .nil
    | cons => cases hn
  | cons a as ih =>
    intro xs ys vs ws r1 r2 hl hn h
    cases r1 with
    | nil => cases hn
    | cons p1 q1 =>
      cases r2 with
      | nil => cases hl
      | cons p2 q2 =>
        obtain ⟨x, y, e1, e2, e3⟩ := h 0 a rfl
        cases e1
        cases e2
        exact .cons (.tup e3 (.cons p1 (.cons p2 .nil))) (ih _ _ _ _ q1 q2 (Nat.succ.inj hl) (Nat.succ.inj hn) fun i a hi => h (i + 1) a hi)
section
variable {X : Cx} {os : List Nat} {a b : Expr} {ta : TA} {ms : Ev → M (List D)} {p p2 pos pos2 : Pos}
theorem pmf_zipL (hc : X.calm = true) (hg : Gl X "list") (hm : X.mg "list" = none) (hg2 : Gl X "zip") (hm2 : X.mg "zip" = none) (ha : PMA X os [a, b] ta ms)
    (hs : starEach [.Call (.Name "zip" p2) [a, b] [] pos2] X.env = (false, eval (.Call (.Name "zip" p2) [a, b] [] pos2) X.env) :: starEach [] X.env := by rfl)
    (hs2 : starEach [a, b] X.env = (false, eval a X.env) :: starEach [b] X.env := by rfl) (hpl : (backTo pos2 (starEach [b] X.env)).any (·.1) = false := by rfl) :
    PMF X os (.Call (.Name "list" p) [.Call (.Name "zip" p2) [a, b] [] pos2] [] pos) (tZipL X.K ta) (aZip ms) := by
  refine ⟨pe_zipL hc hg hm hg2 hm2 ha.p hs hs2 hpl, fun C G σ H env d Q I w => ?_⟩
  unfold aZip at w
  rw [Wp_bind] at w
  refine ha.s C G σ H env d _ I (w.imp fun zs d1 w1 vs H1 G1 A r => ?_)
  split at w1
  · rename_i x y
    cases r with
    | cons r1 r =>
      cases r with
      | cons r2 r =>
        cases r
        cases x with
        | lst xs =>
          cases y with
          | lst ys =>
            have w1 : Wp (guardB (decide (xs.length = ys.length)) (pure (D.lst (tups2 xs ys)) : M D) d1) _ := w1
            rw [Wp_guard] at w1
            have hl : xs.length = ys.length := of_decide_eq_true w1.1
            cases r1 with
            | lst g1 p1 =>
              cases r2 with
              | lst g2 p2 =>
                refine ⟨_, _, _, _, rfl, .inl (.inl (A.sub.le _ _ g1)), .inl (.inl (A.sub.le _ _ g2)), by rw [p1.length, p2.length]; exact hl, fun Sz as H' L => ?_⟩
                classical
                let G2 : Hp := fun b => if b ∈ as then H' b else G1 b
                have gin : ∀ b, b ∈ as → G2 b = H' b := fun b hb => if_pos hb
                have gout : ∀ b, b ∉ as → G2 b = G1 b := fun b hb => if_neg hb
                have le : Le G1 G2 := fun b o e => by
                  rw [gout b fun z => ?_]
                  · exact e
                  · rw [A.sub.free (L.fas b z)] at e; cases e
                have A2 : Aft C.S G1 H1 G2 H' d1 := {
                  hp := fun b o e _ => L.old b o e
                  gm := le
                  gn := fun b hb gb => by
                    rw [gout b fun z => hb.ne (L.fas b z)]; exact gb
                  st := A.st.keep L.old
                  sub := ⟨fun b o e => by
                    by_cases hb : b ∈ as
                    · rw [gin b hb] at e
                      exact ⟨e, A.st.off (L.fas b hb)⟩
                    · rw [gout b hb] at e
                      exact ⟨L.old b o (A.sub b o e).1, (A.sub b o e).2⟩, A.sub.w.keep le L.old⟩ }
                refine w1.2 _ H' G2 (A.trans A2) (.lst (A.free L.fS) (by rw [gout Sz L.nS]; exact A.sub.free L.fS) L.atS (tups2_rep as xs ys _ _ (p1.mono le) (p2.mono le) hl L.len fun i a hi => ?_))
                obtain ⟨x, y, e1, e2, e3⟩ := L.pairs i a hi
                exact ⟨x, y, e1, e2, (gin a (List.mem_of_getElem? hi)).trans e3⟩
          | _ => exact w1.elim
        | _ => exact w1.elim
  · exact w1.elim
end
end Mir
end
section
set_option maxHeartbeats 1000000
namespace PySem.W
open PySem
theorem mi_newB {v : Value} {o : Obj} {H : Heap → Prop} (B : Begins v o H) :
    Meets (Builtin.«enumerate.__new__» ⟨[.type "enumerate", v], []⟩) (fun _ R s => H s.heap ∧
      R (.ok (.ret (.ref (s.heap.push o).objs.size))) { s with heap := (s.heap.push o).push { cls := .type "enumerate", data := .fields #[.none, .bool false, .ref s.heap.objs.size, rawInt 0, .none, .none] } }) :=
  .of_wp fun prog w A R s h => by
    obtain ⟨hp, g, d, tk, os⟩ := s
    obtain ⟨h1, h⟩ := h
    have hsub := sub_enumerate
    have first : ∀ {A' : Around} {E : Value → Shared → Prop} {Q : Value → Shared → Prop}, Q (.ref hp.objs.size) ⟨hp.push o, g, d, tk, os⟩ → wpAny (model prog w) A' (pyIter v) Q E ⟨hp, g, d, tk, os⟩ :=
      fun q => B.iter prog w _ _ ⟨hp, g, d, tk, os⟩ _ h1 q
    wp_walk using first
    refine wpAny_stack_any fun st => wpAny_pure ?_
    split
    · rename_i c _ _ _ _ _
      cases (c == Value.type "enumerate")
      · wp_walk using first
        exact ⟨_, rfl, h⟩
      · wp_walk using first
        exact ⟨_, rfl, h⟩
    · wp_walk using first
      exact ⟨_, rfl, h⟩
section
variable {prog : Program} {w : World} {A : Around} {E : Value → Shared → Prop} {s : Shared}
theorem mi_enum {v : Value} {o : Obj} {H : Heap → Prop} {Q : Value → Shared → Prop} (B : Begins v o H) (h1 : H s.heap)
    (h : ∀ h', IsEnum h' (s.heap.objs.size + 1) s.heap.objs.size 0 .none → h'.get? s.heap.objs.size = some o → h'.objs.size = s.heap.objs.size + 2 →
      (∀ b o, s.heap.get? b = some o → h'.get? b = some o) → Q (.ref (s.heap.objs.size + 1)) { s with heap := h' }) :
    wpAny (model prog w) A (call (.type "enumerate") [v]) Q E s := by
  refine callType_new F.called_enumerate (by decide) (F.typeCall_enumerate_1 _) (F.newCall_enumerate_1 _) (fun obj => F.args_object_init_2 obj _) F.entry_enumerate_new
    (mi_newB B) ⟨h1, ?_⟩
  have hz : (s.heap.push o).objs.size = s.heap.objs.size + 1 := Heap.size_push ..
  show _ ∧ _
  rw [hz]
  have laid : IsEnum ((s.heap.push o).push { cls := .type "enumerate", data := .fields #[.none, .bool false, .ref s.heap.objs.size, rawInt 0, .none, .none] }) (s.heap.objs.size + 1) s.heap.objs.size 0 .none := by
    have := Heap.get?_push_size (s.heap.push o) (o := { cls := .type "enumerate", data := .fields #[.none, .bool false, .ref s.heap.objs.size, rawInt 0, .none, .none] }) rfl
    rw [hz] at this; exact this
  exact ⟨⟨_, laid, rfl⟩, h _ laid (Heap.get?_push_of_some _ (Heap.get?_push_size _ B.free)) (by rw [Heap.size_push, hz]) fun b o x => Heap.get?_push_of_some _ (Heap.get?_push_of_some _ x)⟩
end
end PySem.W
namespace Mir
open PySem PySem.Spec PyProof.Rows L2
variable [Tab]
def IteT (K : PySem.W.Frag) (a : Addr) : It :=
  ⟨fun i H => ∃ (xs : List V) (x : V), SqT K H a xs ∧ xs[i]? = some x, fun i H v H' => ∃ T x, v = .ref T ∧ H T = none ∧ H' = upd H T (.tup [.int (i : Nat), x]) ∧ ∀ xs, SqT K H a xs → xs[i]? = some x, fun i H => ∃ xs : List V, SqT K H a xs ∧ xs.length = i⟩
theorem turn_enumT {P : Program} {w : World} {K : PySem.W.Frag} {elts : List Expr} {kk : Nat} {tpos : Pos} (a e it : Addr) :
    Turn P w K (.Tuple elts kk tpos) (IteT K a) [e, it] e (fun i h => (∃ old, IsEnum h e it ((i : Nat) : Int) old) ∧ h.IsTupleIter it a i ∧ e ≠ it ∧ a ≠ it ∧ e ≠ a) where
  mem := by simp
  obj := fun i h st b hb => by
    obtain ⟨⟨old, he⟩, ⟨o, ho, hc, hd⟩, _⟩ := st
    have e' : b = e ∨ b = it := by simpa using hb
    rcases e' with z | z
    · rw [z]; exact ⟨_, he, fun v q => nomatch q⟩
    · rw [z]; exact ⟨o, ho, fun v q => by rw [hd] at q; cases q⟩
  keep := fun i h h' st k => let ⟨⟨old, he⟩, hi, hne⟩ := st; ⟨⟨old, k e (by simp) _ he⟩, hi.at fun o q => k it (by simp) o q, hne⟩
  item := by
    intro X hP hw hK hc i pins s σ H E I hf st hg
    subst hP hw hK
    obtain ⟨⟨old, he⟩, hit, hne, hai, hea⟩ := st
    obtain ⟨xs, x, hq, hx⟩ := hg
    obtain ⟨its, rv, p, hz⟩ := I.tuple hq
    obtain ⟨u, hu, ru⟩ := rv.get hx
    have il : i < its.length := (List.getElem?_eq_some_iff.mp hu).1
    have hel : e < s.heap.objs.size := Heap.lt_size he
    have hil : it < s.heap.objs.size := by obtain ⟨_, q, _⟩ := hit; exact Heap.lt_size q
    have pt : s.heap.IsTuple a its.toArray := p
    refine wpAny_pyNext_enum_itemD (Draws.tuple (A := X.A.in1) (I.ok.hd hc) it a hai its.toArray) he ⟨hit, pt⟩ (by simpa using il) hne (by simp [hne, hea]) fun u' h' tk hP' ho hs' hT hsz hk => ?_
    have eu : u' = u := by
      have q : its[i]? = some u' := by simpa using hP'
      rw [hu] at q; cases q; rfl
    subst eu
    refine ⟨_, rfl, wpAny_letOwnedTupleGo_enum (s := { s with heap := h', toks := tk + 1 }) ho fun h'' he' sb => ?_⟩
    have hT2 : h''.get? s.heap.objs.size = some { cls := .type "tuple", data := .seq #[.int i tk, u'] } := (sb.2 _ (Nat.ne_of_gt hel)).trans hT
    have new : ObjOk X.prog X.w (upd H s.heap.objs.size (.tup [.int (i : Nat), x])) h'' s.heap.objs.size (.tup [.int (i : Nat), x]) :=
      ⟨by show 2 ≤ sizeLine; decide, [.int i tk, u'], .cons ⟨_, rfl⟩ (.cons ru .nil), ⟨_, hT2, rfl, _, rfl⟩⟩
    have I1 : Inv X pins σ (upd H s.heap.objs.size (.tup [.int (i : Nat), x])) { s with heap := h'', toks := tk + 1 } :=
      I.turnedNew (ch := [e, it]) (fun b ob hb q => (sb.2 b (fun z => hb (by simp [z]))).trans (hk b ob (fun z => hb (by simp [z])) (fun z => hb (by simp [z])) q)) hf (Nat.le_refl _) new
    refine ⟨.ref s.heap.objs.size, _, I1, rfl, ⟨_, x, rfl, I.hok.fresh (Nat.le_refl _), rfl, fun ys hy => by rw [I.tuple_inj hy hq]; exact hx⟩, ⟨⟨u', ?_⟩, hs'.1.at fun o q => (sb.2 it (Ne.symm hne)).trans q, hne, hai, hea⟩, fun b hb => ?_⟩
    · have e1 : ((i + 1 : Nat) : Int) = (i : Int) + 1 := by omega
      rw [e1]; exact he'
    · have hb' : b < s.heap.objs.size := by
        have e' : b = e ∨ b = it := by simpa using hb
        rcases e' with z | z
        · rw [z]; exact hel
        · rw [z]; exact hil
      rw [upd_ne (Nat.ne_of_lt hb')]
      exact (hf b hb).1
  done := by
    intro X hP hw hK hc i pins s σ H E I hf st hg
    subst hP hw hK
    obtain ⟨⟨old, he⟩, hit, hne, hai, hea⟩ := st
    obtain ⟨xs, hq, hx⟩ := hg
    obtain ⟨its, rv, p, hz⟩ := I.tuple hq
    obtain ⟨f0, f1, f2, f3, f4, f5⟩ := hf it (by simp)
    have hl := rv.length
    have ei : i = its.toArray.size := by simp; omega
    subst ei
    exact wpAny_pyNext_enum_endD (Draws.tuple (A := X.A.in1) (I.ok.hd hc) it a hai its.toArray) he ⟨hit, (show s.heap.IsTuple a its.toArray from p)⟩ fun h' eb => ⟨rfl, I.turned (t' := s.toks) (fun b o hb q => eb b o hb q) f0 f1 f3 f4 f5⟩
  self := fun A i s Q E st h => let ⟨⟨_, he⟩, _⟩ := st; wpAny_pyIter_enum he h
def iEnumA (K : PySem.W.Frag) (ta : TA) : TI := fun σ H R => ta σ H fun vs H1 => ∃ a, vs = [.ref a] ∧ (((∃ xs, SqL K H1 a xs) ∧ R (Ite K a) H1) ∨ ((∃ xs, SqT K H1 a xs) ∧ R (IteT K a) H1))
theorem pi_enumA {X : Cx} {e : Expr} {ta : TA} {p pos tpos : Pos} {elts : List Expr} {kk : Nat} (hg : Gl X "enumerate") (hm : X.mg "enumerate" = none) (ha : PA X [e] ta) (hs : starEach [e] X.env = [(false, eval e X.env)] := by rfl) :
    PI X (.Tuple elts kk tpos) (.Call (.Name "enumerate" p) [e] [] pos) (iEnumA X.K ta) := by
  refine ⟨fun pins s σ H R I h => ?_⟩
  refine Call_ (ld_blt I hg hm boot_enumerate (PyProof.Rows.callWith_type1 (thn (ha.run pos pins s σ H _ I h) fun us s1 ⟨vs, H1, I1, r1, q1⟩ => ?_) hs rfl))
  obtain ⟨a, ex, q1⟩ := q1
  subst ex
  cases r1 with
  | cons r rr =>
    cases rr
    cases r
    have up : ∀ b, b = s1.heap.objs.size + 1 ∨ b = s1.heap.objs.size → s1.heap.objs.size ≤ b := fun b z => by
      rcases z with z | z
      · rw [z]; exact Nat.le_add_right _ _
      · rw [z]; exact Nat.le_refl _
    rcases q1 with ⟨⟨xs, hq⟩, q⟩ | ⟨⟨xs, hq⟩, q⟩
    · obtain ⟨its, rv, p', hz⟩ := I1.list hq
      refine call_enumerate_list p'.isList fun h' he hit hsz hk => wpAny_pyIter_enum he ?_
      have I2 : Inv X pins σ H1 { s1 with heap := h' } := I1.kept (t' := s1.toks) hk
      refine ⟨s1.heap.objs.size + 1, [s1.heap.objs.size + 1, s1.heap.objs.size], _, _, H1, rfl, I2, turn_enum a (s1.heap.objs.size + 1) s1.heap.objs.size, ⟨⟨.none, he⟩, hit, Nat.succ_ne_self _⟩, fun b hb => ?_, q⟩
      have hle := up b (by simpa using hb)
      exact I1.fpOk hle (I1.hok.fresh hle)
    · obtain ⟨its, rv, p', hz⟩ := I1.tuple hq
      have pt : s1.heap.IsTuple a its.toArray := p'
      have al : a < s1.heap.objs.size := by obtain ⟨o, e, _⟩ := pt; exact Heap.lt_size e
      refine PySem.W.mi_enum (PySem.begins_tuple a its.toArray) pt fun h' he hit hsz hk => wpAny_pyIter_enum he ?_
      have I2 : Inv X pins σ H1 { s1 with heap := h' } := I1.kept (t' := s1.toks) hk
      refine ⟨s1.heap.objs.size + 1, [s1.heap.objs.size + 1, s1.heap.objs.size], _, _, H1, rfl, I2, turn_enumT a (s1.heap.objs.size + 1) s1.heap.objs.size, ⟨⟨.none, he⟩, ⟨_, hit, rfl, rfl⟩, Nat.succ_ne_self _, Nat.ne_of_lt al, Nat.ne_of_gt (Nat.lt_succ_of_lt al)⟩, fun b hb => ?_, q⟩
      have hle := up b (by simpa using hb)
      exact I1.fpOk hle (I1.hok.fresh hle)
end Mir
end
section
set_option maxHeartbeats 1000000
namespace Mir
open PySem PySem.Spec PyProof.Rows L2
variable [Tab]
def keyOf : Key → D
  | .inl i => .int i
  | .inr x => .str x
def charsD (y : Str) : List D := y.cps.toList.map fun c => D.str ⟨#[c]⟩
def dIt : D → M (List D)
  | .lst ds => pure ds
  | .ro ds => pure ds
  | .tup ds => pure ds
  | .str y => pure (charsD y)
  | .dic kvs => pure (kvs.map fun kv => keyOf kv.1)
  | .ln ds => pure ds
  | .rot ds => pure ds
  | .dct kvs => pure (kvs.map fun kv => .tup (kv.1.map keyOf))
  | _ => bad
theorem itOk_ln {K : PySem.W.Frag} {mg : Str → Option Value} {S : SA} {G : Hp} {a : Addr} {vs : List V} {ds : List D} (hq : S.L a = some vs) (r : Reps K mg S G vs ds) : ItOk K mg S (Itl K a) G ds where
  go := fun G' H' d' i x le sb st e => by
    obtain ⟨v, e1, rv⟩ := r.get e
    have q : SqL K H' a vs := .inl (.inl (st.l a vs hq).1)
    refine ⟨⟨vs, v, q, e1⟩, fun w H'' hy => ?_⟩
    obtain ⟨eh, k⟩ := hy
    subst eh
    have e2 := k vs q
    rw [e1] at e2
    cases e2
    exact ⟨G', Aft.refl st sb, rv.mono le⟩
  stop := fun G' H' d' le sb st => ⟨vs, .inl (.inl (st.l a vs hq).1), Nat.le_of_eq r.length⟩
def enumD : Nat → List D → List D
  | _, [] => []
  | i, x :: xs => .tup [.int i, x] :: enumD (i + 1) xs
def dEnum (xs : List D) : M (List D) := match xs with
  | [.lst ds] => pure (enumD 0 ds)
  | [.ro ds] => pure (enumD 0 ds)
  | [.tup ds] => pure (enumD 0 ds)
  | _ => bad
def iAny (K : PySem.W.Frag) (te : TE) : TI := fun σ H R => te σ H fun v H1 => (∃ x, v = .str x ∧ R (Its x) H1) ∨ (∃ a, v = .ref a ∧ (((∃ xs, SqL K H1 a xs) ∧ R (Itl K a) H1) ∨ ((∃ xs, SqT K H1 a xs) ∧ R (Itt K a) H1))) ∨ (∃ d o kvs, v = .ref d ∧ H1 d = some (.frz o (.dK kvs)) ∧ R (Itk d o kvs) H1) ∨ ∃ d o kvs, v = .ref d ∧ H1 d = some (.frz o (.dT kvs)) ∧ R (Itkt d o kvs) H1
theorem pi_any {X : Cx} {tg e : Expr} {te : TE} (he : PE X e te) : PI X tg e (iAny X.K te) := by
  refine ⟨fun pins s σ H R I h => ?_⟩
  refine thn (he.run pins s σ H _ I h) fun v s1 ⟨y, H1, I1, r1, q1⟩ => ?_
  rcases q1 with ⟨x, ex, q⟩ | ⟨a, ea, q⟩ | ⟨d, o, kvs, ed, hd, q⟩ | ⟨d, o, kvs, ed, hd, q⟩
  · subst ex
    obtain ⟨t, rfl⟩ := r1
    cases ha : x.cps.all (· < 128)
    · exact wpAny_pyIter_wide ha (pi_one (tk := s1.toks) I1 _ (turn_str _ x t "str_iterator" (.inr rfl)) ⟨_, Heap.get?_push_size _ rfl, rfl, rfl⟩ q)
    · exact wpAny_pyIter_ascii ha (pi_one (tk := s1.toks) I1 _ (turn_str _ x t "str_ascii_iterator" (.inl rfl)) ⟨_, Heap.get?_push_size _ rfl, rfl, rfl⟩ q)
  · subst ea
    cases r1
    rcases q with ⟨⟨xs, hq⟩, q⟩ | ⟨⟨xs, hq⟩, q⟩
    · obtain ⟨its, rv, p, hz⟩ := I1.list hq
      exact wpAny_pyIter_list p.isList (pi_one (tk := s1.toks) I1 _ (turn_list a _) ⟨_, Heap.get?_push_size _ rfl, rfl, rfl⟩ q)
    · obtain ⟨its, rv, p, hz⟩ := I1.tuple hq
      exact wpAny_pyIter_tuple (show s1.heap.IsTuple a its.toArray from p) (pi_one (tk := s1.toks) I1 _ (turn_tuple a _) ⟨_, Heap.get?_push_size _ rfl, rfl, rfl⟩ q)
  · subst ed
    cases r1
    obtain ⟨hs, hgd, hx, es, ep, vs, hdt, hsz, kv, hm⟩ := I1.frzK hd
    refine iter_keys hs hgd hx hdt (pi_one (tk := s1.toks) I1 _ (turn_keys _ hdt) ⟨_, Heap.get?_push_size _ rfl, rfl, ?_⟩ q)
    rw [hsz] <;> rfl
  · subst ed
    cases r1
    obtain ⟨q1, q2, q3, es, ep, dat, len, _⟩ := I1.frzT hd
    refine iter_keys q1 q2 q3 dat (pi_one I1 _ (turn_keysT _ dat) (tk := s1.toks) ⟨_, Heap.get?_push_size _ rfl, rfl, ?_⟩ q)
    rw [len] <;> rfl
section
variable {K : PySem.W.Frag} {mg : Str → Option Value} {S : SA} {G : Hp}
theorem rep_key (k : Key) : Rep K mg S G (kV k) (keyOf k) := by
  cases k with
  | inl i => exact .int i
  | inr x => exact .str x
theorem RepK.at {κ : Type} : ∀ {vs : List (κ × V)} {ds : List (κ × D)} {i : Nat} {k : κ} {x : D}, RepK K mg S G vs ds → ds[i]? = some (k, x) → ∃ v, vs[i]? = some (k, v) ∧ Rep K mg S G v x
  | _, _, _, _, _, .nil, e => by simp at e
  | _, _, 0, _, _, .cons r _, e => by simp at e; obtain ⟨e1, e2⟩ := e; subst e1; subst e2; exact ⟨_, rfl, r⟩
  | _, _, i + 1, k, x, .cons _ t, e => by
    obtain ⟨u, h1, h2⟩ := RepK.at (i := i) (k := k) (x := x) t (by simpa using e)
    exact ⟨u, by simpa using h1, h2⟩
theorem itOk_s {y : Str} : ItOk K mg S (Its y) G (charsD y) where
  go := fun G' H' d' i x le sb st e => by
    unfold charsD at e
    rw [List.getElem?_map] at e
    cases q : y.cps.toList[i]? with
    | none => rw [q] at e; cases e
    | some c =>
      rw [q] at e
      cases e
      have q' : y.cps[i]? = some c := by rw [← q]; simp
      refine ⟨(Array.getElem?_eq_some_iff.mp q').1, fun w H'' hy => ?_⟩
      obtain ⟨eh, c', ec, ew⟩ := hy
      subst eh
      rw [q'] at ec
      cases ec
      subst ew
      exact ⟨G', Aft.refl st sb, .str _⟩
  stop := fun G' H' d' le sb st => by
    show y.cps.size ≤ (charsD y).length
    unfold charsD
    rw [List.length_map]
    exact Nat.le_of_eq (Array.length_toList).symm
theorem itOk_k {d : Addr} {o : Obj} {vs : List (Key × V)} {ds : List (Key × D)} (h : G d = some (.frz o (.dK vs))) (r : RepK K mg S G vs ds) : ItOk K mg S (Itk d o vs) G (ds.map fun kv => keyOf kv.1) where
  go := fun G' H' d' i x le sb st e => by
    rw [List.getElem?_map] at e
    cases q : ds[i]? with
    | none => rw [q] at e; cases e
    | some kx =>
      obtain ⟨k, z⟩ := kx
      rw [q] at e
      cases e
      obtain ⟨v, e1, rv⟩ := r.at q
      refine ⟨⟨(le.trans sb.le) _ _ h, (List.getElem?_eq_some_iff.mp e1).1⟩, fun w H'' hy => ?_⟩
      obtain ⟨eh, k', v', e2, ew⟩ := hy
      subst eh
      rw [e1] at e2
      cases e2
      subst ew
      exact ⟨G', Aft.refl st sb, rep_key k⟩
  stop := fun G' H' d' le sb st => ⟨(le.trans sb.le) _ _ h, by rw [List.length_map, r.length]; exact Nat.le_refl _⟩
theorem reps_keys : ∀ ks : List Key, Reps K mg S G (ks.map kV) (ks.map keyOf)
  | [] => .nil
  | k :: ks => .cons (rep_key k) (reps_keys ks)
theorem itOk_kt {d : Addr} {o : Obj} {vs : List (List Key × V)} {ds : List (List Key × D)} (h : G d = some (.frz o (.dT vs))) (r : RepK K mg S G vs ds) : ItOk K mg S (Itkt d o vs) G (ds.map fun kv => .tup (kv.1.map keyOf)) where
  go := fun G' H' d' i x le sb st e => by
    rw [List.getElem?_map] at e
    cases q : ds[i]? with
    | none => rw [q] at e; cases e
    | some kx =>
      obtain ⟨k, z⟩ := kx
      rw [q] at e
      cases e
      obtain ⟨v, e1, rv⟩ := r.at q
      refine ⟨⟨(le.trans sb.le) _ _ h, (List.getElem?_eq_some_iff.mp e1).1⟩, fun w H'' hy => ?_⟩
      obtain ⟨eh, k', v', b, e2, ew, hb⟩ := hy
      subst eh
      rw [e1] at e2
      cases e2
      subst ew
      exact ⟨_, Aft.addT st sb hb, .tup upd_same (reps_keys k)⟩
  stop := fun G' H' d' le sb st => ⟨(le.trans sb.le) _ _ h, by rw [List.length_map, r.length]; exact Nat.le_refl _⟩
theorem enumD_len : ∀ (k : Nat) (ds : List D), (enumD k ds).length = ds.length
  | _, [] => rfl
  | k, _ :: ds => congrArg (· + 1) (enumD_len (k + 1) ds)
theorem enumD_get : ∀ (k i : Nat) (ds : List D) {z : D}, (enumD k ds)[i]? = some z → ∃ x, ds[i]? = some x ∧ z = .tup [.int ((k + i : Nat) : Int), x]
  | _, _, [], _, e => by simp [enumD] at e
  | k, 0, x :: ds, z, e => by simp [enumD] at e; exact ⟨x, rfl, e.symm⟩
  | k, i + 1, x :: ds, z, e => by
    obtain ⟨y, e1, e2⟩ := enumD_get (k + 1) i ds (z := z) (by simpa [enumD] using e)
    exact ⟨y, by simpa using e1, by rw [e2]; congr 4; omega⟩
theorem itOk_el {a : Addr} {vs : List V} {ds : List D} (hq : SqL K G a vs) (r : Reps K mg S G vs ds) : ItOk K mg S (Ite K a) G (enumD 0 ds) where
  go := fun G' H' d' i z le sb st e => by
    obtain ⟨x, e0, ez⟩ := enumD_get 0 i ds e
    subst ez
    obtain ⟨v, e1, rv⟩ := r.get e0
    have q := (le.trans sb.le).l hq
    refine ⟨⟨vs, v, q, e1⟩, fun w H'' hy => ?_⟩
    obtain ⟨T, v', ew, hT, eh, k⟩ := hy
    have e2 := k vs q
    rw [e1] at e2
    cases e2
    subst ew
    subst eh
    rw [Nat.zero_add]
    exact ⟨_, Aft.new st sb hT, .tup upd_same (.cons (.int _) (.one (rv.mono (le.trans (Le.new (sb.free hT))))))⟩
  stop := fun G' H' d' le sb st => ⟨vs, (le.trans sb.le).l hq, by rw [enumD_len, r.length]; exact Nat.le_refl _⟩
theorem itOk_et {a : Addr} {vs : List V} {ds : List D} (hq : SqT K G a vs) (r : Reps K mg S G vs ds) : ItOk K mg S (IteT K a) G (enumD 0 ds) where
  go := fun G' H' d' i z le sb st e => by
    obtain ⟨x, e0, ez⟩ := enumD_get 0 i ds e
    subst ez
    obtain ⟨v, e1, rv⟩ := r.get e0
    have q := (le.trans sb.le).t hq
    refine ⟨⟨vs, v, q, e1⟩, fun w H'' hy => ?_⟩
    obtain ⟨T, v', ew, hT, eh, k⟩ := hy
    have e2 := k vs q
    rw [e1] at e2
    cases e2
    subst ew
    subst eh
    rw [Nat.zero_add]
    exact ⟨_, Aft.new st sb hT, .tup upd_same (.cons (.int _) (.one (rv.mono (le.trans (Le.new (sb.free hT))))))⟩
  stop := fun G' H' d' le sb st => ⟨vs, (le.trans sb.le).t hq, by rw [enumD_len, r.length]⟩
end
section
variable {X : Cx} {os : List Nat} {e a tg : Expr} {te : TE} {ta : TA} {m : Ev → M D} {ms : Ev → M (List D)} {pos p' apos cpos tpos : Pos} {elts : List Expr} {kk : Nat}
def iOn (f : D → M (List D)) (m : Ev → M D) : Ev → M (List D) := fun env => m env >>= f
theorem pmi_any (h : PM X os e te m) : PMI X os tg e (iAny X.K te) (iOn dIt m) := by
  obtain ⟨p, s⟩ := h
  refine ⟨pi_any p, fun C G σ H env d R I w => ?_⟩
  unfold iOn at w
  rw [Wp_bind] at w
  refine s C G σ H env d _ I (w.imp fun x d1 k v H1 G1 A r => ?_)
  unfold dIt at k
  split at k
  · cases r with
    | lst hq rs => exact .inr (.inl ⟨_, rfl, .inl ⟨⟨_, A.sub.le.l (.inl (.inl hq))⟩, k _ H1 G1 A (itOk_l (.inl (.inl hq)) rs)⟩⟩)
  · cases r with
    | ro hq rs => exact .inr (.inl ⟨_, rfl, .inl ⟨⟨_, A.sub.le.l hq⟩, k _ H1 G1 A (itOk_l hq rs)⟩⟩)
  · cases r with
    | tup hq rs => exact .inr (.inl ⟨_, rfl, .inr ⟨⟨_, A.sub.le.t (.inl (.inl hq))⟩, k _ H1 G1 A (itOk_t (.inl (.inl hq)) rs)⟩⟩)
  · cases r
    exact .inl ⟨_, rfl, k _ H1 G1 A itOk_s⟩
  · cases r with
    | dic h r => exact .inr (.inr (.inl ⟨_, _, _, rfl, A.sub.le _ _ h, k _ H1 G1 A (itOk_k h r)⟩))
  · cases r with
    | ln hq rs => exact .inr (.inl ⟨_, rfl, .inl ⟨⟨_, .inl (.inl (A.st.l _ _ hq).1)⟩, k _ H1 G1 A (itOk_ln hq rs)⟩⟩)
  · cases r with
    | rot hq rs => exact .inr (.inl ⟨_, rfl, .inr ⟨⟨_, A.sub.le.t hq⟩, k _ H1 G1 A (itOk_t hq rs)⟩⟩)
  · cases r with
    | dct h r => exact .inr (.inr (.inr ⟨_, _, _, rfl, A.sub.le _ _ h, k _ H1 G1 A (itOk_kt h r)⟩))
  · exact k.elim
def iOns (f : List D → M (List D)) (m : Ev → M (List D)) : Ev → M (List D) := fun env => m env >>= f
theorem pmi_enum (hg : Gl X "enumerate") (hm : X.mg "enumerate" = none) (ha : PMA X os [e] ta ms) (hs : starEach [e] X.env = [(false, eval e X.env)] := by rfl) : PMI X os (.Tuple elts kk tpos) (.Call (.Name "enumerate" p') [e] [] pos) (iEnumA X.K ta) (iOns dEnum ms) := by
  obtain ⟨p, s⟩ := ha
  refine ⟨pi_enumA hg hm p hs, fun C G σ H env d R I w => ?_⟩
  unfold iOns at w
  rw [Wp_bind] at w
  refine s C G σ H env d _ I (w.imp fun xs d1 k vs H1 G1 A r => ?_)
  unfold dEnum at k
  split at k
  · cases r with
    | cons r rr =>
      cases rr
      cases r with
      | lst hq rs => exact ⟨_, rfl, .inl ⟨⟨_, A.sub.le.l (.inl (.inl hq))⟩, k _ H1 G1 A (itOk_el (.inl (.inl hq)) rs)⟩⟩
  · cases r with
    | cons r rr =>
      cases rr
      cases r with
      | ro hq rs => exact ⟨_, rfl, .inl ⟨⟨_, A.sub.le.l hq⟩, k _ H1 G1 A (itOk_el hq rs)⟩⟩
  · cases r with
    | cons r rr =>
      cases rr
      cases r with
      | tup hq rs => exact ⟨_, rfl, .inr ⟨⟨_, A.sub.le.t (.inl (.inl hq))⟩, k _ H1 G1 A (itOk_et (.inl (.inl hq)) rs)⟩⟩
  · exact k.elim
end
end Mir
end
section
set_option maxHeartbeats 1000000
namespace Mir
open PySem PySem.Spec PyProof.Rows L2
variable [Tab]
def tOrE (t1 t2 : TE) : TE := fun σ H Q => t1 σ H Q ∨ t2 σ H Q
theorem pe_orE {X : Cx} {e : Expr} {t1 t2 : TE} (h1 : PE X e t1) (h2 : PE X e t2) : PE X e (tOrE t1 t2) :=
  ⟨fun pins s σ H Q I w => w.elim (h1.run pins s σ H Q I) (h2.run pins s σ H Q I)⟩
section
variable {X : Cx} {fr : Bool} {os os' ol : List Nat} {e a b c : Expr} {es : List Expr} {te ta tb tc t1 t2 : TE} {tas : TA} {m ma mb mc m1 m2 : Ev → M D} {ms : Ev → M (List D)} {pos p' : Pos} {k : Nat} {x y : Str} {g g1 g2 : D → D → M D}
theorem pm_un (h1 : PM X os e t1 m1) (h2 : PM X os e t2 m2) (h : ∀ env d (P : D → Drw → Prop), Wp (m env d) P → Wp (m1 env d) P ∨ Wp (m2 env d) P) : PM X os e (tOrE t1 t2) m :=
  ⟨pe_orE h1.p h2.p, fun C G σ H env d Q I w => (h env d _ w).elim (fun w => .inl (h1.s C G σ H env d Q I w)) fun w => .inr (h2.s C G σ H env d Q I w)⟩
theorem eBin_or (h : ∀ x y d (P : D → Drw → Prop), Wp (g x y d) P → Wp (g1 x y d) P ∨ Wp (g2 x y d) P) (env : Ev) (d : Drw) (P : D → Drw → Prop) (w : Wp (eBin g ma mb env d) P) : Wp (eBin g1 ma mb env d) P ∨ Wp (eBin g2 ma mb env d) P := by
  unfold eBin at w ⊢
  rw [Wp_bind] at w ⊢
  rw [Wp_bind]
  cases q : ma env d with
  | bad => rw [q] at w; exact w.elim
  | ok x d1 =>
    rw [q] at w
    have w : Wp ((mb env >>= fun y => g x y) d1) P := w
    show Wp ((mb env >>= fun y => g1 x y) d1) P ∨ Wp ((mb env >>= fun y => g2 x y) d1) P
    rw [Wp_bind] at w ⊢
    rw [Wp_bind]
    cases q2 : mb env d1 with
    | bad => rw [q2] at w; exact w.elim
    | ok y d2 => rw [q2] at w; exact h x y d2 P w
theorem pmc_un (h1 : PMC X os e t1 m1) (h2 : PMC X os e t2 m2) (h : ∀ env d (P : D → Drw → Prop), Wp (m env d) P → Wp (m1 env d) P ∨ Wp (m2 env d) P) : PMC X os e (tOrE t1 t2) m := by
  have u := pm_un h1.ev h2.ev h
  exact ⟨u, ⟨⟨fun pins s σ H Q I w => w.elim (h1.ts.p.run pins s σ H Q I) (h2.ts.p.run pins s σ H Q I)⟩, fun C => simT_val (u.s C)⟩⟩
def dAt (x y : D) : M D := match x with
  | .dic kvs => dGetD (.dic kvs) y
  | .dct kvs => dGetD (.dct kvs) y
  | x => dIx x y
theorem pm_at (hr : Room k X.A) (ha : PMB X os a ta ma) (hb : PMB X os b tb mb) (h1 : NoSl b := by exact fun _ _ => rfl) (h2 : PlainIx b := by exact fun _ _ => rfl) : PM X os (.Subscript a b pos) (tOrE (tDGet ta tb) (tOp (rIx X.K) ta tb)) (eBin dAt ma mb) :=
  pm_un (pm_getD hr ha hb h1) (pm_ix ha hb h2) (eBin_or fun x y d P w => by
    cases x with
    | dic kvs => exact .inl w
    | dct kvs => exact .inl w
    | _ => exact .inr w)
def dIn (neg : Bool) (x y : D) : M D := match y with
  | .dic kvs => dInD neg x (.dic kvs)
  | .dct kvs => dInD neg x (.dct kvs)
  | .str z => dInT neg x (.str z)
  | y => dInS neg x y
theorem pm_in (hr : Room k X.A) (ha : PMB X os a ta ma) (hb : PMB X os b tb mb) (hm : behindInMarks .In b = false := by rfl) : PMC X os (.Compare a [.In] [b] pos) (tOrE (tDIn ta tb) (tOrE (tOp (fun x y H Q => ∃ (c : Nat) (z : Str), x = .str ⟨#[c]⟩ ∧ y = .str z ∧ Q (.bl (decide (c ∈ z.cps.toList))) H) ta tb) (tOp (rIn X.K false) ta tb))) (eBin (dIn false) ma mb) :=
  pmc_un (pm_inD hr ha hb hm) (pmc_un (pm_inT ha hb hm) (pm_inS ha hb hm) (m := eBin (fun x y => match y with
    | .str z => dInT false x (.str z)
    | y => dInS false x y) ma mb) (eBin_or fun x y d P w => by
      cases y with
      | str z => exact .inl w
      | _ => exact .inr w)) (eBin_or fun x y d P w => by
    cases y with
    | dic kvs => exact .inl w
    | dct kvs => exact .inl w
    | _ => exact .inr w)
def dNin (x y : D) : M D := match y with
  | .dic kvs => dInD true x (.dic kvs)
  | .dct kvs => dInD true x (.dct kvs)
  | y => dInS true x y
theorem pm_nin (hr : Room k X.A) (ha : PMB X os a ta ma) (hb : PMB X os b tb mb) (hm : behindInMarks .NotIn b = false := by rfl) : PMC X os (.Compare a [.NotIn] [b] pos) (tOrE (tDNotIn ta tb) (tOp (rIn X.K true) ta tb)) (eBin dNin ma mb) :=
  pmc_un (pm_notInD hr ha hb hm) (pm_notInS ha hb hm) (eBin_or fun x y d P w => by
    cases y with
    | dic kvs => exact .inl w
    | dct kvs => exact .inl w
    | _ => exact .inr w)
structure PMP (X : Cx) (os : List Nat) (pos : Pos) (keys : List (Option Expr)) (values : List Expr) (trs : List (TE × TE)) (m : Ev → M (List (Key × D))) : Prop where
  p : PPs X pos keys values trs
  s : ∀ C G σ H env d (Q : List (V × V) → Hp → Prop), IM X.K X.mg C os env σ H G d → Wp (m env d) (fun kds d' => ∀ kvs H' G', Aft C.S G H G' H' d' → RepK X.K X.mg C.S G' kvs kds → Q (kvs.map fun kv => (kV kv.1, kv.2)) H') → tPairs trs σ H Q
def pNil : Ev → M (List (Key × D)) := fun _ => pure []
def pCons (mk mv : Ev → M D) (mr : Ev → M (List (Key × D))) : Ev → M (List (Key × D)) := fun env => mk env >>= fun k => mv env >>= fun v => mr env >>= fun r => match keyD k with
  | some k => pure ((k, v) :: r)
  | none => bad
variable {keys : List (Option Expr)} {values : List Expr} {trs : List (TE × TE)} {mr : Ev → M (List (Key × D))}
theorem pmp_nil : PMP X os pos [] [] [] pNil := ⟨pps_nil, fun C G σ H env d Q I w => w [] H G (Aft.refl I.st I.sub) .nil⟩
theorem RepK.mono' {K : PySem.W.Frag} {mg : Str → Option Value} {S : SA} {G G' : Hp} {vs : List (Key × V)} {ds : List (Key × D)} (h : RepK K mg S G vs ds) (e : Le G G') : RepK K mg S G' vs ds := RepK.mono e h
theorem pmp_cons (hk : PM X os a ta ma) (hv : PM X os b tb mb) (hr : PMP X os pos keys values trs mr) : PMP X os pos (some a :: keys) (b :: values) ((ta, tb) :: trs) (pCons ma mb mr) := by
  refine ⟨pps_cons hk.p hv.p hr.p, fun C G σ H env d Q I w => ?_⟩
  unfold pCons at w
  rw [Wp_bind] at w
  refine hk.s C G σ H env d _ I (w.imp fun x d1 w1 v1 H1 G1 A1 r1 => ?_)
  rw [Wp_bind] at w1
  refine hv.s C G1 σ H1 env d1 _ (I.later A1) (w1.imp fun y d2 w2 v2 H2 G2 A2 r2 => ?_)
  rw [Wp_bind] at w2
  refine hr.s C G2 σ H2 env d2 _ (I.later (A1.trans A2)) (w2.imp fun kds d3 w3 kvs H3 G3 A3 r3 => ?_)
  cases hk : keyD x with
  | none => simp only [hk] at w3; exact w3.elim
  | some kk =>
    simp only [hk] at w3
    have e := key_rep (RepT.of (H := H1) r1) hk
    subst e
    exact w3 ((kk, v2) :: kvs) _ _ (A1.trans (A2.trans A3)) (.cons (r2.mono A3.gm) r3)
def eDisp (m : Ev → M (List (Key × D))) : Ev → M D := fun env => m env >>= fun kds => guardB (decide (kds.length ≤ 15)) (pure (.dic (mergeD [] kds)))
theorem pmf_disp (h : PMP X os pos keys values trs mr) (hall : keys.all (·.isSome) = true := by rfl) (hl : keys.length = values.length := by rfl) (h0 : keys ≠ [] := by exact fun z => nomatch z) (h15 : keys.length ≤ 15 := by decide) : PMF X os (.Dict keys values pos) (tDisp trs) (eDisp mr) := by
  refine ⟨pe_disp h.p hall hl h0 h15, fun C G σ H env d Q I w => ?_⟩
  intro p hp
  have AN : Aft C.S G H G (upd H p (.dK [])) d := Aft.newF I.st I.sub hp
  have gp := I.sub.free hp
  unfold eDisp at w
  rw [Wp_bind] at w
  refine h.s C G σ _ env d _ (I.later AN) (w.imp fun kds d1 w1 kvs H1 G1 A1 r1 => ?_)
  rw [Wp_guard] at w1
  have ps : ¬ inS C.S p := I.st.off hp
  have h1p : H1 p = some (.dK []) := A1.hp p _ upd_same ps
  have g1p : G1 p = none := A1.gn p ⟨_, upd_same, fun _ z => nomatch z⟩ gp
  refine ⟨h1p, kvs, rfl, by rw [r1.length]; exact of_decide_eq_true w1.1, ?_⟩
  have A := AN.trans A1
  refine w1.2 _ _ G1 ?_ (.dic hp g1p upd_same (RepK.merge _ _ _ _ r1 .nil))
  exact {
    hp := fun b o e n => by
      have z : b ≠ p := fun z => by rw [z, hp] at e; cases e
      rw [upd_ne z]
      exact A.hp b o e n
    gm := A.gm
    gn := A.gn
    st := A.st.alt ps
    sub := ⟨fun b o e => by
      have z : b ≠ p := fun z => by rw [z, g1p] at e; cases e
      rw [upd_ne z]
      exact A.sub b o e, A.sub.w.off (Le.refl G1) ps⟩ }
end
def dcGo (e0 : Ev) (t : Ev → D → Option Ev) (n : Ev → M Bool) (mk mv : Ev → M D) : List D → List (Key × D) → M (List (Key × D))
  | [], acc => pure acc
  | x :: xs, acc => match t e0 x with
    | none => bad
    | some e => n e >>= fun b => if b = true then mk e >>= fun y => mv e >>= fun z => (match keyD y with
        | some k => guardB (decide (acc.length < sizeLine)) (dcGo e0 t n mk mv xs (putD acc k z))
        | none => bad) else dcGo e0 t n mk mv xs acc
def eDc (mi : Ev → M (List D)) (vs : List Nat) (t : Ev → D → Option Ev) (n : Ev → M Bool) (mk mv : Ev → M D) : Ev → M D := fun env => mi env >>= fun ds => dcGo (wipeE env vs) t n mk mv ds [] >>= fun ys => pure (.dic ys)
theorem simF_dc {K : PySem.W.Frag} {mg : Str → Option Value} {C : Ct} {os : List Nat} {mi : Ev → M (List D)} {vs tv : List Nat} {t : Ev → D → Option Ev} {n : Ev → M Bool} {mk mv : Ev → M D} {wi : TI} {g : TG} {tt : TT} {tk te : TE} (si : SimI K mg C os wi mi) (sg : SimG K mg C os tv g t) (st : SimT K mg C os tt n) (sk : SimE K mg C os tk mk) (se : SimE K mg C os te mv) (hv : ∀ j ∈ tv, j ∈ vs) :
    SimF K mg C os (tDc wi g tt tk te vs) (eDc mi vs t n mk mv) := by
  intro G σ H env d Q I w
  unfold eDc at w
  rw [Wp_bind] at w
  refine si G σ H env d _ I (w.imp fun ds d1 w1 J H1 G1 A1 it => ?_)
  intro p hp
  have AN : Aft C.S G1 H1 G1 (upd H1 p (.dK [])) d1 := Aft.newF A1.st A1.sub hp
  rw [Wp_bind] at w1
  refine ⟨fun i m H' => m = ds.length - i ∧ i ≤ ds.length ∧ ∃ G' d' acc accD, Aft C.S G1 H1 G' H' d' ∧ G' p = none ∧ H' p = some (.dK acc) ∧ RepK K mg C.S G' acc accD ∧ Wp (dcGo (wipeE env vs) t n mk mv (ds.drop i) accD d') _,
    ⟨ds.length, rfl, Nat.zero_le _, G1, d1, [], [], AN, A1.sub.free hp, upd_same, .nil, w1⟩, fun i m H' hw => ?_⟩
  obtain ⟨em, hi, G', d', acc, accD, A', gp, hpp, ra, w'⟩ := hw
  subst em
  have psub : ¬ inS C.S p := A1.st.off hp
  by_cases hlt : i < ds.length
  · rw [List.drop_eq_getElem_cons hlt] at w'
    obtain ⟨hgo, hy⟩ := it.go G' H' d' i ds[i] A'.gm A'.sub A'.st (List.getElem?_eq_getElem hlt)
    refine .inr ⟨hgo, fun H2 => ∃ G2 d2 acc accD, Aft C.S G1 H1 G2 H2 d2 ∧ G2 p = none ∧ H2 p = some (.dK acc) ∧ RepK K mg C.S G2 acc accD ∧ Wp (dcGo (wipeE env vs) t n mk mv (ds.drop (i + 1)) accD d2) _, fun H2 q => ⟨ds.length - (i + 1), by omega, rfl, hlt, q⟩, fun v H2 yv => ?_⟩
    obtain ⟨G2, A2, rv⟩ := hy v H2 yv
    cases he1 : t (wipeE env vs) ds[i] with
    | none => simp only [dcGo, he1] at w'; exact w'.elim
    | some e1 =>
      simp only [dcGo, he1] at w'
      have I2 : IM K mg C os (wipeE env vs) (L2.wipe σ vs) H2 G2 d' := ((I.later (A1.trans (A'.trans A2))).wipe vs)
      refine sg G2 (L2.wipe σ vs) H2 (wipeE env vs) d' v _ e1 _ I2 rv he1 fun σ3 I3 l3 k3 => ⟨wipe_eq l3 hv k3, ?_⟩
      rw [Wp_bind] at w'
      have g2p : G2 p = none := A2.gn p ⟨_, hpp, fun _ z => nomatch z⟩ gp
      have h2p : H2 p = some (.dK acc) := A2.hp p _ hpp psub
      refine st G2 σ3 H2 e1 d' _ I3 (w'.imp fun b d3 w3 H3 G3 A3 => ?_)
      have g3p : G3 p = none := A3.gn p ⟨_, h2p, fun _ z => nomatch z⟩ g2p
      have h3p : H3 p = some (.dK acc) := A3.hp p _ h2p psub
      cases b with
      | true =>
        rw [if_pos rfl] at w3 ⊢
        rw [Wp_bind] at w3
        refine sk G3 σ3 H3 e1 d3 _ (I3.later A3) (w3.imp fun y d4 w4 u H4 G4 A4 r4 => ?_)
        rw [Wp_bind] at w4
        refine se G4 σ3 H4 e1 d4 _ (I3.later (A3.trans A4)) (w4.imp fun z d5 w5 u5 H5 G5 A5 r5 => ?_)
        cases hk : keyD y with
        | none => simp only [hk] at w5; exact w5.elim
        | some kk =>
          simp only [hk] at w5
          rw [Wp_guard] at w5
          have g5p : G5 p = none := A5.gn p ⟨_, A4.hp p _ h3p psub, fun _ z => nomatch z⟩ (A4.gn p ⟨_, h3p, fun _ z => nomatch z⟩ g3p)
          have h5p : H5 p = some (.dK acc) := A5.hp p _ (A4.hp p _ h3p psub) psub
          have A25 := A2.trans (A3.trans (A4.trans A5))
          have A15 := A'.trans A25
          refine ⟨acc, kk, key_rep (RepT.of (H := H4) r4) hk, h5p, by rw [ra.length]; exact of_decide_eq_true w5.1, G5, d5, putK acc kk u5, putD accD kk z, ?_, g5p, upd_same, (ra.mono' A25.gm).put kk r5, w5.2⟩
          exact {
            hp := fun b o e n => by
              have z : b ≠ p := fun z => by rw [z, hp] at e; cases e
              rw [upd_ne z]
              exact A15.hp b o e n
            gm := A15.gm
            gn := A15.gn
            st := A15.st.alt psub
            sub := ⟨fun b o e => by
              have z : b ≠ p := fun z => by rw [z, g5p] at e; cases e
              rw [upd_ne z]
              exact A15.sub b o e, A15.sub.w.off (Le.refl G5) psub⟩ }
      | false =>
        rw [if_neg Bool.false_ne_true] at w3 ⊢
        exact ⟨G3, d3, acc, accD, A'.trans (A2.trans A3), g3p, h3p, ra.mono' (A2.trans A3).gm, w3⟩
  · have e : i = ds.length := by omega
    subst e
    rw [List.drop_length] at w'
    refine .inl ⟨it.stop G' H' d' A'.gm A'.sub A'.st, ?_⟩
    have w2 := w'
    exact w2 _ _ _ (A1.trans A') (.dic (A1.free hp) gp hpp ra)
section
variable {X : Cx} {os : List Nat} {tg iter kx vx : Expr} {ifs : List Expr} {scope : Scope} {mi : Ev → M (List D)} {tv : List Nat} {t : Ev → D → Option Ev} {n : Ev → M Bool} {mk mv : Ev → M D} {wi : TI} {g : TG} {tt : TT} {tk te : TE} {pos : Pos}
theorem pmf_dc (own : List (Str × Nat)) (hc : X.calm = true) (hN : X.N.Nodup) (hi : PMI X os tg iter wi mi) (ok : BlkOk X.N X.env.scope scope own) (hv : ∀ j ∈ tv, j ∈ own.map (·.2))
    (hg : ∀ (s : Shared) (H : Hp) (C : Addr) (cl : List (Str × Addr)) (fp : List Addr), PMG (X.blk s H scope (compEnvC scope cl C X.env) fp) os tv tg g t)
    (ht : ∀ (s : Shared) (H : Hp) (C : Addr) (cl : List (Str × Addr)) (fp : List Addr), PMTs (X.blk s H scope (compEnvC scope cl C X.env) fp) os ifs tt n)
    (hk : ∀ (s : Shared) (H : Hp) (C : Addr) (cl : List (Str × Addr)) (fp : List Addr), PM (X.blk s H scope (compEnvC scope cl C X.env) fp) os kx tk mk)
    (he : ∀ (s : Shared) (H : Hp) (C : Addr) (cl : List (Str × Addr)) (fp : List Addr), PM (X.blk s H scope (compEnvC scope cl C X.env) fp) os vx te mv) (hs : ∀ x, foldedSetIterable iter X.env x = pure x := by intro _; rfl) :
    PMF X os (.DictComp kx vx [⟨tg, iter, ifs, 0⟩] scope pos) (tDc wi g tt tk te (own.map (·.2))) (eDc mi (own.map (·.2)) t n mk mv) :=
  ⟨pe_dc hc hN hi.p ok (fun s H C cl fp => (hg s H C cl fp).p) (fun s H C cl fp => (ht s H C cl fp).p) (fun s H C cl fp => (hk s H C cl fp).p) (fun s H C cl fp => (he s H C cl fp).p) hs,
    fun C => simF_dc (hi.s C) ((hg X.s_0 X.H_0 0 [] []).s C) ((ht X.s_0 X.H_0 0 [] []).s C) ((hk X.s_0 X.H_0 0 [] []).s C) ((he X.s_0 X.H_0 0 [] []).s C) hv⟩
end
end Mir
end
section
set_option maxHeartbeats 1000000
namespace Mir
open PySem PySem.Spec PyProof.Rows L2
variable [Tab]
def GD (K : PySem.W.Frag) (mg : Str → Option Value) (x : Str) (d : D) : Prop := ∃ v u, mg x = some u ∧ RelV v u ∧ ∀ S G, Rep K mg S G v d
def tGl (K : PySem.W.Frag) (mg : Str → Option Value) (x : Str) (d : D) : TE := fun _ H Q => ∀ v u, mg x = some u → RelV v u → (∀ S G, Rep K mg S G v d) → Q v H
def Df (K : PySem.W.Frag) (mg : Str → Option Value) (x : Str) (st : Stmt) : Prop := ∃ f fd, Fun K x x st f fd ∧ mg x = some (.ref f)
def Has (P : Program) (w : World) (K : PySem.W.Frag) (mg : Str → Option Value) (base : Heap) (k : Nat) (x : Str) (n : Nat) (m : List D → M D) : Prop :=
  ∃ f fd ps, FnOk P w K mg base CX0 k f fd ps (spM K mg n m) ∧ mg x = some (.ref f) ∧ PySem.W.keepIn K (.ref f) = true ∧ Binds K fd ps []
def HasN (P : Program) (w : World) (K : PySem.W.Frag) (mg : Str → Option Value) (base : Heap) (k : Nat) (x : Str) (n : Nat) (m : List D → M D) : Prop :=
  ∃ f fd ps, FnOk P w K mg base CX0 k f fd ps (spN K mg n m) ∧ mg x = some (.ref f) ∧ PySem.W.keepIn K (.ref f) = true ∧ Binds K fd ps []
theorem Has.mono {P : Program} {w : World} {K : PySem.W.Frag} {mg : Str → Option Value} {base : Heap} {j k : Nat} {x : Str} {n : Nat} {m : List D → M D} (h : Has P w K mg base j x n m) (l : j ≤ k) : Has P w K mg base k x n m := by
  obtain ⟨f, fd, ps, F, r⟩ := h
  exact ⟨f, fd, ps, F.mono l, r⟩
theorem HasN.mono {P : Program} {w : World} {K : PySem.W.Frag} {mg : Str → Option Value} {base : Heap} {j k : Nat} {x : Str} {n : Nat} {m : List D → M D} (h : HasN P w K mg base j x n m) (l : j ≤ k) : HasN P w K mg base k x n m := by
  obtain ⟨f, fd, ps, F, r⟩ := h
  exact ⟨f, fd, ps, F.mono l, r⟩
def bltNames : List Str := ["abs", "all", "dict", "enumerate", "int", "isinstance", "len", "list", "max", "min", "range", "repr", "sum", "tuple", "zip", "bool", "str", "any", "sorted", "set"]
def Blt (mg : Str → Option Value) : Prop := ∀ x ∈ bltNames, mg x = none
section
variable {X : Cx} {os : List Nat} {e a b c : Expr} {es : List Expr} {te ta tb tc : TE} {tas : TA} {m ma mb mc : Ev → M D} {ms : Ev → M (List D)} {p pos p' pT pT2 pU : Pos} {k n : Nat} {x y : Str} {mf : List D → M D} {d : D}
theorem pm_gl (h : GD X.K X.mg x d) (hg : Gl X x) (hd : (x == ("__debug__" : Str)) = false := by decide) : PM X os (.Name x pos) (tGl X.K X.mg x d) (eC d) := by
  obtain ⟨v, u, hm, r, hr⟩ := h
  refine ⟨⟨fun pins s σ H Q I hw => ?_⟩, fun C G σ H env dw Q I w => ?_⟩
  · exact (pe_glob hg hm r hd).run pins s σ H Q I (hw v u hm r hr)
  · exact fun v' u' hm' r' hr' => w v' H G (Aft.refl I.st I.sub) (hr' _ _)
theorem pm_f (h : Has X.prog X.w X.K X.mg X.base k x n mf) (hr : Room k X.A) (hg : Gl X x) (ha : PMA X os (e :: es) tas ms)
    (hdb : (x == ("__debug__" : Str)) = false := by decide) (he : starEach (e :: es) X.env = (false, eval e X.env) :: starEach es X.env := by rfl) (hpl : (backTo pos (starEach es X.env)).any (·.1) = false := by rfl) :
    PM X os (.Call (.Name x p) (e :: es) [] pos) (tCall (spM X.K X.mg n mf) [] E0 tas) (eCall n mf ms) := by
  obtain ⟨f, fd, ps, F, hm, hk, hb⟩ := h
  exact pm_call F hr hg hm hk hb ha hdb he hpl
theorem pmf_f (h : HasN X.prog X.w X.K X.mg X.base k x n mf) (hr : Room k X.A) (hg : Gl X x) (ha : PMA X os (e :: es) tas ms)
    (hdb : (x == ("__debug__" : Str)) = false := by decide) (he : starEach (e :: es) X.env = (false, eval e X.env) :: starEach es X.env := by rfl) (hpl : (backTo pos (starEach es X.env)).any (·.1) = false := by rfl) :
    PMF X os (.Call (.Name x p) (e :: es) [] pos) (tCall (spN X.K X.mg n mf) [] E0 tas) (eCall n mf ms) := by
  obtain ⟨f, fd, ps, F, hm, hk, hb⟩ := h
  exact pmf_call F hr hg hm hk hb ha hdb he hpl
theorem pm_isT {T : Str} {t : String} (g : D → Bool) (hk : ∀ x z, tyN x = some z → kitB z t = some (g x)) (B : Blt X.mg) (hg : Gl X "isinstance") (gT : Gl X T) (iT : T ∈ bltNames) (hT : bootBuiltins T = some (.type t)) (ha : PMB X os a ta ma)
    (hn : T ≠ "__name__" := by decide) (hd : (T == ("__debug__" : Str)) = false := by decide)
    (he : starEach [a, .Name T pT] X.env = (false, eval a X.env) :: starEach [.Name T pT] X.env := by rfl) (he2 : starEach [.Name T pT] X.env = (false, eval (.Name T pT) X.env) :: starEach [] X.env := by rfl) (hpl : (backTo pos (starEach [.Name T pT] X.env)).any (·.1) = false := by rfl) :
    PM X os (.Call (.Name "isinstance" p') [a, .Name T pT] [] pos) (tCB (rIsi X.K) (tCons ta (tCons (tC (.ty t)) tNil))) (eUn (dIsi g) ma) :=
  pm_isi g hk hg (B _ (by decide)) gT (B _ iT) hT ha hn hd he he2 hpl
end
def blkB (N : List Str) (sc scope : Scope) (own : List (Str × Nat)) : Bool :=
  decide (scope.kind = .function) && decide (∀ y ∈ scope.names, scope.names.lookup y.1 = some y.2) && decide (∀ p ∈ own, N[p.2]? = some p.1) &&
  decide (∀ y ∈ scope.names, y.2 = .free → sc.names.lookup y.1 = some .cell ∨ sc.names.lookup y.1 = some .free) && decide (∀ y ∈ scope.names, y.2 = .local ∨ y.2 = .cell → y.1 ∈ own.map (·.1) ∨ y.1 ∉ N)
theorem blk_of {N : List Str} {sc scope : Scope} {own : List (Str × Nat)} (h : blkB N sc scope own = true) : BlkOk N sc scope own := by
  unfold blkB at h
  simp only [Bool.and_eq_true, decide_eq_true_eq] at h
  exact ⟨h.1.1.1.1, h.1.1.1.2, h.1.1.2, h.1.2, h.2⟩
section
variable {P : Program} {w : World} {K : PySem.W.Frag} {mg : Str → Option Value} {base : Heap}
theorem has_of {x : Str} {st : Stmt} {N ps : List Str} {k n : Nat} {os o2 ol : List Nat} {body : Ev → M Ctl} (F : Df K mg x st) (S : FnScope N ps (defScope st)) (hn : ps.length = n)
    (hb : ∀ (kV doc pm : Value) (an : Option Addr) (cdv ct : Value) (us : List Value), us.length = ps.length → bindArgs (PySem.W.fnOf x x (defArgs st) (defBody st) (defScope st) .none kV doc pm an cdv ct) ⟨us, []⟩ = pure (ps.zip us)) (ho : ∀ i ∈ os, n ≤ i)
    (hbody : ∀ (f : Addr) (cdv : Value) (A : Around) (outer : List Env) (s : Shared) (H : Hp) (E : XK), Room k (A.deeper (envOfC x (defScope st) s.heap.objs.size f cdv)) →
      PMSs (cxOf CX0 P w K mg base N x (defScope st) f cdv A outer s H E).nox false os o2 ol (defBody st) body) : Has P w K mg base (k + 1) x n (defM N.length body) := by
  obtain ⟨f, fd, F, hm⟩ := F
  exact ⟨f, fd, ps, ok_defM F S hn ho fun cdv A outer s H E hr => hbody f cdv A outer s H E hr, hm, F.kp, F.binds hb⟩
theorem hasN_of {x : Str} {st : Stmt} {N ps : List Str} {k n : Nat} {os o2 ol : List Nat} {body : Ev → M Ctl} (F : Df K mg x st) (S : FnScope N ps (defScope st)) (hn : ps.length = n)
    (hb : ∀ (kV doc pm : Value) (an : Option Addr) (cdv ct : Value) (us : List Value), us.length = ps.length → bindArgs (PySem.W.fnOf x x (defArgs st) (defBody st) (defScope st) .none kV doc pm an cdv ct) ⟨us, []⟩ = pure (ps.zip us)) (ho : ∀ i ∈ os, n ≤ i)
    (hnx : ∀ env d e d', body env d ≠ .ok (.nx e) d')
    (hbody : ∀ (f : Addr) (cdv : Value) (A : Around) (outer : List Env) (s : Shared) (H : Hp) (E : XK), Room k (A.deeper (envOfC x (defScope st) s.heap.objs.size f cdv)) →
      PMSs (cxOf CX0 P w K mg base N x (defScope st) f cdv A outer s H E).nox true os o2 ol (defBody st) body) : HasN P w K mg base (k + 1) x n (defM N.length body) := by
  obtain ⟨f, fd, F, hm⟩ := F
  exact ⟨f, fd, ps, ok_defN F S hn ho hnx fun cdv A outer s H E hr => hbody f cdv A outer s H E hr, hm, F.kp, F.binds hb⟩
end
end Mir
end
section
set_option maxHeartbeats 1000000
namespace Mir
open PySem PySem.Spec PyProof.Rows L2
variable [Tab]
def HasM (P : Program) (w : World) (K : PySem.W.Frag) (mg : Str → Option Value) (base : Heap) (k : Nat) (c mt : Str) (n : Nat) (m : List D → M D) : Prop :=
  ∃ Cc f fd ps, mg c = some (.ref Cc) ∧ Cls K Cc ∧ Meth K Cc mt f ∧ FnOk P w K mg base CX0 k f fd ps (spM K mg n m) ∧ Binds K fd ps []
def HasF (K : PySem.W.Frag) (mg : Str → Option Value) (c fl : Str) : Prop := ∃ Cc, mg c = some (.ref Cc) ∧ Cls K Cc ∧ NoAttr K Cc fl
def DfM (K : PySem.W.Frag) (mg : Str → Option Value) (c mt qual : Str) (st : Stmt) : Prop := ∃ Cc f fd, mg c = some (.ref Cc) ∧ Cls K Cc ∧ Meth K Cc mt f ∧ Fun K mt qual st f fd
theorem hasM_of {P : Program} {w : World} {K : PySem.W.Frag} {mg : Str → Option Value} {base : Heap} {c mt qual : Str} {st : Stmt} {N ps : List Str} {k n : Nat} {os o2 ol : List Nat} {body : Ev → M Ctl} (F : DfM K mg c mt qual st) (S : FnScope N ps (defScope st)) (hn : ps.length = n)
    (hb : ∀ (kV doc pm : Value) (an : Option Addr) (cdv ct : Value) (us : List Value), us.length = ps.length → bindArgs (PySem.W.fnOf mt qual (defArgs st) (defBody st) (defScope st) .none kV doc pm an cdv ct) ⟨us, []⟩ = pure (ps.zip us)) (ho : ∀ i ∈ os, n ≤ i)
    (hbody : ∀ (f : Addr) (cdv : Value) (A : Around) (outer : List Env) (s : Shared) (H : Hp) (E : XK), Room k (A.deeper (envOfC qual (defScope st) s.heap.objs.size f cdv)) →
      PMSs (cxOf CX0 P w K mg base N qual (defScope st) f cdv A outer s H E).nox false os o2 ol (defBody st) body) : HasM P w K mg base (k + 1) c mt n (defM N.length body) := by
  obtain ⟨Cc, f, fd, hC, hc, hm, F⟩ := F
  exact ⟨Cc, f, fd, ps, hC, hc, hm, ok_defM F S hn ho fun cdv A outer s H E hr => hbody f cdv A outer s H E hr, F.binds hb⟩
section
variable {X : Cx} {fr : Bool} {os os' ol : List Nat} {e o a b c : Expr} {es : List Expr} {te to ta tb tc : TE} {tas : TA} {m mo ma mb mc : Ev → M D} {ms : Ev → M (List D)} {p pos p' apos cpos : Pos} {k n : Nat} {x y z cn mt fl : Str} {mf : List D → M D} {d : D} {f1 f2 f3 : Bool}
theorem pm_field (h : HasF X.K X.mg cn fl) (ho : PM X os o to mo) (hb : attributeBase o fl X.env (eval o X.env) = eval o X.env := by rfl) : PM X os (.Attribute o fl pos) (tFld X.K to fl) (eFld cn fl mo) := by
  obtain ⟨Cc, hC, hc, hn⟩ := h
  exact pm_fld ho hC hc hn hb
def tMeth0 (K : PySem.W.Frag) (mg : Str → Option Value) (c mt : Str) (n : Nat) (mf : List D → M D) (to : TE) : TE := fun σ H Q => ∀ Cc, mg c = some (.ref Cc) → tMeth Cc mt (spM K mg n mf) [] E0 to tNil σ H Q
theorem pm_m0 {pl : Sem Bool} (h : HasM X.prog X.w X.K X.mg X.base k cn mt n mf) (hr : Room k X.A) (ho : PM X os o to mo)
    (ht : eval (.Call (.Attribute o mt apos) [] [] pos) X.env = (do
      let ov ← eval o X.env
      standAt apos.atName
      let (f, first) ← holding [ov] (getMethod ov mt pl)
      callWith pos f first (backTo pos (starEach [] X.env)) (backToKw pos (keywordEach [] X.env))) := by rfl) :
    PM X os (.Call (.Attribute o mt apos) [] [] pos) (tMeth0 X.K X.mg cn mt n mf to) (eMeth cn mt n mf mo aNil) := by
  obtain ⟨Cc, f, fd, ps, hC, hc, hm, F, hb⟩ := h
  have q := pm_meth0 (os := os) (pl := pl) (apos := apos) (pos := pos) hC ho hc hm F hr hb ht
  exact ⟨⟨fun pins s σ H Q I w => q.p.run pins s σ H Q I (w Cc hC)⟩, fun C G σ H env d Q I w C' hC' => by
    rw [hC] at hC'
    cases hC'
    exact q.s C G σ H env d Q I w⟩
end
end Mir
end
section
set_option maxHeartbeats 1000000
namespace Mir
open PySem PySem.Spec PyProof.Rows L2
variable [Tab]
section
variable {K : PySem.W.Frag} {mg : Str → Option Value} {C : Ct} {os : List Nat} {env : Ev} {σ : St} {G H H' : Hp} {d d' : Drw} {v : V} {x : D} {i : Nat}
theorem Aft.state {S : SA} (st : StR S H d) (sub : Sub S G H) (k : ∀ b, ¬ inS S b → H' b = H b) (kw : ∀ b F, S.W b = some F → H' b = H b) (st' : StR S H' d') : Aft S G H G H' d' where
  hp := fun b o e n => (k b n).trans e
  gm := Le.refl G
  gn := fun b _ g => g
  st := st'
  sub := ⟨fun b o e => ⟨(k b (sub b o e).2).trans (sub b o e).1, (sub b o e).2⟩, sub.w.step (Le.refl G) kw⟩
theorem st_dg (S : SA) (d : Drw) : valV (stK S d) (.inr "digits" : Key) = some (.int d.dg) := by kernel_rfl
theorem st_tn (S : SA) (d : Drw) : valV (stK S d) (.inr "turn" : Key) = some (.int d.tn) := by kernel_rfl
theorem st_gr (S : SA) (d : Drw) : valV (stK S d) (.inr "great" : Key) = some (.ref S.g) := by kernel_rfl
theorem st_ce (S : SA) (d : Drw) : valV (stK S d) (.inr "cells" : Key) = some (.ref S.c) := by kernel_rfl
theorem put_dg (S : SA) (d : Drw) (n : Int) : putK (stK S d) (.inr "digits" : Key) (.int n) = stK S { d with dg := n } := by kernel_rfl
theorem put_tn (S : SA) (d : Drw) (n : Int) : putK (stK S d) (.inr "turn" : Key) (.int n) = stK S { d with tn := n } := by kernel_rfl
theorem StR.dg {S : SA} (st : StR S H d) (n : Int) : StR S (upd H S.s (.dK (stK S { d with dg := n }))) { d with dg := n } :=
  ⟨upd_same, by rw [upd_ne (ne_of st.g st.s (fun z => nomatch z))]; exact st.g, by rw [upd_ne (ne_of st.c st.s (fun z => nomatch z))]; exact st.c, st.gc, fun b vs e => ⟨by rw [upd_ne (st.l b vs e).2.1]; exact (st.l b vs e).1, (st.l b vs e).2⟩, fun b F e => ⟨by rw [upd_ne (st.w b F e).2.1]; exact (st.w b F e).1, (st.w b F e).2⟩, st.t⟩
theorem StR.tn {S : SA} (st : StR S H d) (n : Int) : StR S (upd H S.s (.dK (stK S { d with tn := n }))) { d with tn := n } :=
  ⟨upd_same, by rw [upd_ne (ne_of st.g st.s (fun z => nomatch z))]; exact st.g, by rw [upd_ne (ne_of st.c st.s (fun z => nomatch z))]; exact st.c, st.gc, fun b vs e => ⟨by rw [upd_ne (st.l b vs e).2.1]; exact (st.l b vs e).1, (st.l b vs e).2⟩, fun b F e => ⟨by rw [upd_ne (st.w b F e).2.1]; exact (st.w b F e).1, (st.w b F e).2⟩, st.t⟩
theorem StR.gr {S : SA} (st : StR S H d) (gs : List Int) : StR S (upd H S.g (.lst (gs.map V.int))) { d with gr := gs } :=
  ⟨by rw [upd_ne (ne_of st.s st.g (fun z => nomatch z))]; exact st.s, upd_same, by rw [upd_ne (Ne.symm st.gc)]; exact st.c, st.gc, fun b vs e => ⟨by rw [upd_ne (st.l b vs e).2.2.1]; exact (st.l b vs e).1, (st.l b vs e).2⟩, fun b F e => ⟨by rw [upd_ne (st.w b F e).2.2.1]; exact (st.w b F e).1, (st.w b F e).2⟩, st.t⟩
theorem IM.state (I : IM K mg C os env σ H G d) (A : Aft C.S G H G H' d') : IM K mg C os env σ H' G d' := I.later A
end
def isSt (env : Ev) (i : Nat) : Bool := match env[i]? with
  | some (some .st) => true
  | _ => false
theorem isSt_of {env : Ev} {i : Nat} (h : isSt env i = true) : env[i]? = some (some .st) := by
  unfold isSt at h
  split at h
  · assumption
  · cases h
def rdM {α : Type} (f : Drw → α) : M α := fun d => .ok (f d) d
theorem Wp_rd {α : Type} {f : Drw → α} {d : Drw} {P : α → Drw → Prop} : Wp (rdM f d) P ↔ P (f d) d := Iff.rfl
def wrM (f : Drw → Drw) : M Unit := fun d => .ok () (f d)
theorem Wp_wr {f : Drw → Drw} {d : Drw} {P : Unit → Drw → Prop} : Wp (wrM f d) P ↔ P () (f d) := Iff.rfl
def eSt (i : Nat) (f : Drw → D) : Ev → M D := fun env => guardB (isSt env i) (rdM f)
section
variable {X : Cx} {fr : Bool} {os os' ol : List Nat} {e o a b c : Expr} {es : List Expr} {te to ta tb tc : TE} {tas : TA} {m mo ma mb mc : Ev → M D} {ms : Ev → M (List D)} {p pos p' p2 p3 p4 apos cpos : Pos} {k n j : Nat} {x y z : Str}
theorem IM.stAt {C : Ct} {env : Ev} {σ : St} {G H : Hp} {d : Drw} {i : Nat} (I : IM X.K X.mg C os env σ H G d) (ho : i ∉ os) (h : isSt env i = true) : σ[i]? = some (some (.ref C.S.s)) := by
  obtain ⟨v, e1, r⟩ := I.sh i _ ho (isSt_of h)
  cases r
  exact e1
theorem pm_stI (i : Nat) (nm : Str) (f : Drw → Int) (hf : ∀ S d, valV (stK S d) (.inr nm : Key) = some (.int (f d))) (hr : Room k X.A) (ho : i ∉ os := by decide) (hN : X.N[i]? = some x := by rfl) (hv : Vis X.env.scope x := by first | exact Or.inl rfl | exact Or.inr (Or.inl rfl) | exact Or.inr (Or.inr rfl)) (hd : (x == ("__debug__" : Str)) = false := by decide)
    (hcd : (x == ("__classdict__" : Str)) = false := by decide) : PM X os (.Subscript (.Name x p) (.Constant (.str nm) j p2) pos) (tDGet (tVar i) (tC (.str nm))) (eSt i fun d => .int (f d)) := by
  refine ⟨pe_dget (hu_of hr) (pe_var hN hv hd hcd) pe_str (fun _ _ => rfl), fun C G σ H env d Q I w => ?_⟩
  unfold eSt at w
  rw [Wp_guard] at w
  refine ⟨_, I.stAt ho w.1, _, _, rfl, .inl ⟨stK C.S d, .inr nm, .inl I.st.s, rfl, (hf _ _).symm⟩, ?_⟩
  exact w.2 _ _ _ (Aft.refl I.st I.sub) (.int _)
theorem eqv_nil : ∀ xs : List Int, PyData.eqv (.list (xs.map PyData.int)) (.list []) = decide (xs = [])
  | [] => by decide
  | x :: r => by
    rw [decide_eq_false (fun z => nomatch z)]
    rfl
theorem dp_ints {K : PySem.W.Frag} {H : Hp} : ∀ xs : List Int, DpAll K H (xs.map V.int) (xs.map PyData.int)
  | [] => .nil
  | x :: r => .cons (.int x) (dp_ints r)
theorem lay_ints : ∀ xs : List Int, PyData.canLayAll0 (xs.map PyData.int) = true
  | [] => by simp [PyData.canLayAll0]
  | x :: r => by simp [PyData.canLayAll0, PyData.canLay0, lay_ints r]
theorem depth_ints : ∀ xs : List Int, PyData.depthAll (xs.map PyData.int) = 0
  | [] => by simp [PyData.depthAll]
  | x :: r => by simp [PyData.depthAll, PyData.depth, depth_ints r]
theorem shaped_ints (xs : List Int) : SeqAt.shaped (.list (xs.map PyData.int)) = true := by
  unfold SeqAt.shaped
  rw [Bool.and_eq_true]
  exact ⟨by simp [PyData.canLay0, lay_ints], by simp [PyData.depth, depth_ints]⟩
theorem pm_stNe (i : Nat) (nm : Str) (f : Drw → List Int) (ad : SA → Addr) (hf : ∀ S d, valV (stK S d) (.inr nm : Key) = some (.ref (ad S))) (hl : ∀ S H d, StR S H d → H (ad S) = some (.lst ((f d).map V.int))) (hr : Room k X.A) (ho : i ∉ os := by decide) (hN : X.N[i]? = some x := by rfl) (hv : Vis X.env.scope x := by first | exact Or.inl rfl | exact Or.inr (Or.inl rfl) | exact Or.inr (Or.inr rfl)) (hd : (x == ("__debug__" : Str)) = false := by decide)
    (hcd : (x == ("__classdict__" : Str)) = false := by decide) : PMC X os (.Compare (.Subscript (.Name x p) (.Constant (.str nm) j p2) p3) [.NotEq] [.List [] p4] pos) (tOp (rNeD X.K) (tDGet (tVar i) (tC (.str nm))) (tLst tNil)) (eSt i fun d => .bl (!decide (f d = []))) := by
  refine pmc_of (pc_op (op_neD (by have := hr.un; omega)) (pe_dget (hu_of hr) (pe_var hN hv hd hcd) pe_str (fun _ _ => rfl)) (pe_lst pa_nil)) (nomark _) fun C G σ H env d Q I w => ?_
  unfold eSt at w
  rw [Wp_guard, Wp_rd] at w
  refine ⟨_, I.stAt ho w.1, _, _, rfl, .inl ⟨stK C.S d, .inr nm, .inl I.st.s, rfl, (hf _ _).symm⟩, ?_⟩
  refine ⟨Nat.zero_le _, fun q hq => ?_⟩
  have A : Aft C.S G H G (upd H q (.lst [])) d := Aft.newF I.st I.sub hq
  refine ⟨_, _, .lst (.inl (.inl (hl _ _ _ A.st))) (dp_ints _), .lst (.inl (.inl upd_same)) .nil, shaped_ints _, by decide, ?_⟩
  rw [eqv_nil]
  exact w.2 _ _ _ A (.bl _)
def eStCe (i : Nat) (m : Ev → M D) : Ev → M D := fun env => guardB (isSt env i) (m env >>= fun y => match y with
  | .int j => rdM (fun d => atI d.ce j) >>= fun c => (match c with
    | some c => pure (.int c)
    | none => bad)
  | _ => bad)
theorem atI_int {cs : List Int} {j c : Int} (h : atI cs j = some c) : atI (cs.map V.int) j = some (.int c) := by
  unfold atI at h ⊢
  rw [List.length_map]
  cases q : ixN cs.length j with
  | none => rw [q] at h; cases h
  | some n =>
    rw [q] at h
    have h : cs[n]? = some c := h
    show (cs.map V.int)[n]? = some (V.int c)
    rw [List.getElem?_map, h]
    rfl
theorem pm_stCe (i : Nat) (hr : Room k X.A) (hb : PMB X os b tb mb) (ho : i ∉ os := by decide) (hN : X.N[i]? = some x := by rfl) (hv : Vis X.env.scope x := by first | exact Or.inl rfl | exact Or.inr (Or.inl rfl) | exact Or.inr (Or.inr rfl)) (hd : (x == ("__debug__" : Str)) = false := by decide)
    (hcd : (x == ("__classdict__" : Str)) = false := by decide) (hs : PlainIx b := by exact fun _ _ => rfl) : PM X os (.Subscript (.Subscript (.Name x p) (.Constant (.str "cells") j p2) p3) b pos) (tOp (rIxL X.K) (tDGet (tVar i) (tC (.str "cells"))) tb) (eStCe i mb) := by
  refine ⟨pe_ix ix_list (pe_dget (hu_of hr) (pe_var hN hv hd hcd) pe_str (fun _ _ => rfl)) hb.p hs, fun C G σ H env d Q I w => ?_⟩
  unfold eStCe at w
  rw [Wp_guard, Wp_bind] at w
  refine ⟨_, I.stAt ho w.1, _, _, rfl, .inl ⟨stK C.S d, .inr "cells", .inl I.st.s, rfl, (st_ce _ _).symm⟩, ?_⟩
  refine hb.s C G σ H env d _ I (w.2.imp fun y d1 w1 v1 H1 G1 A1 r1 => ?_)
  split at w1
  · rename_i j
    rw [Wp_bind, Wp_rd] at w1
    cases hc : atI d1.ce j with
    | none => simp only [hc] at w1; exact w1.elim
    | some c =>
      simp only [hc] at w1
      exact ⟨_, _, _, _, rfl, r1.int, .inl (.inl A1.st.c), atI_int hc, w1 _ _ _ A1 (.int _)⟩
  · exact w1.elim
theorem pm_stLen (i : Nat) (hr : Room k X.A) (hg : Gl X "len") (hm : X.mg "len" = none) (ho : i ∉ os := by decide) (hN : X.N[i]? = some x := by rfl) (hv : Vis X.env.scope x := by first | exact Or.inl rfl | exact Or.inr (Or.inl rfl) | exact Or.inr (Or.inr rfl)) (hd : (x == ("__debug__" : Str)) = false := by decide)
    (hcd : (x == ("__classdict__" : Str)) = false := by decide) (he : starEach [.Subscript (.Name x p) (.Constant (.str "cells") j p2) p3] X.env = (false, eval (.Subscript (.Name x p) (.Constant (.str "cells") j p2) p3) X.env) :: starEach [] X.env := by rfl) (hpl : (backTo pos (starEach [] X.env)).any (·.1) = false := by rfl) :
    PM X os (.Call (.Name "len" p') [.Subscript (.Name x p) (.Constant (.str "cells") j p2) p3] [] pos) (tCB (rLen X.K) (tCons (tDGet (tVar i) (tC (.str "cells"))) tNil)) (eSt i fun d => .int d.ce.length) := by
  refine ⟨pe_callB (callr_or call_len call_lenR) hg hm boot_len (pa_cons (pe_dget (hu_of hr) (pe_var hN hv hd hcd) pe_str (fun _ _ => rfl)) pa_nil he) (by decide) (by decide) he hpl, fun C G σ H env d Q I w => ?_⟩
  unfold eSt at w
  rw [Wp_guard, Wp_rd] at w
  refine ⟨_, I.stAt ho w.1, _, _, rfl, .inl ⟨stK C.S d, .inr "cells", .inl I.st.s, rfl, (st_ce _ _).symm⟩, ?_⟩
  refine .inl ⟨_, d.ce.length, rfl, .inl ⟨d.ce.map V.int, .inl (.inl I.st.c), by rw [List.length_map]⟩, ?_⟩
  exact w.2 _ _ _ (Aft.refl I.st I.sub) (.int _)
theorem four_small : (4 : Nat) < sizeLine := by decide
def cStDg (i : Nat) (m : Ev → M D) : Ev → M Ctl := fun env => m env >>= fun y => match y with
  | .int n => guardB (isSt env i) (wrM (fun d => { d with dg := n }) >>= fun _ => pure (.nx env))
  | _ => bad
theorem pms_stDg (i : Nat) (hr : Room k X.A) (h : PM X os e te m) (ho : i ∉ os := by decide) (hN : X.N[i]? = some x := by rfl) (hv : Vis X.env.scope x := by first | exact Or.inl rfl | exact Or.inr (Or.inl rfl) | exact Or.inr (Or.inr rfl)) (hd : (x == ("__debug__" : Str)) = false := by decide)
    (hcd : (x == ("__classdict__" : Str)) = false := by decide) (hs : swapsWith e (some (.Subscript (.Name x p) (.Constant (.str "digits") j p2) p3)) pos.line X.env = pure false := by rfl) :
    PMS X fr os os ol (.Assign [.Subscript (.Name x p) (.Constant (.str "digits") j p2) p3] e pos) (cStDg i m) := by
  refine ⟨_, ps_dput (hu_of hr) (pe_var hN hv hd hcd) pe_str h.p hs, fun C G σ H env d D I w => ?_⟩
  unfold cStDg at w
  rw [Wp_bind] at w
  refine h.s C G σ H env d _ I (w.imp fun y d1 w1 v1 H1 G1 A1 r1 => ?_)
  split at w1
  · rename_i n
    rw [Wp_guard, Wp_bind, Wp_wr] at w1
    have I1 := I.later A1
    have ev : v1 = .int n := by cases r1; rfl
    subst ev
    refine ⟨_, I1.stAt ho w1.1, _, _, rfl, .inl ⟨stK C.S d1, .inr "digits", A1.st.s, rfl, four_small, rfl⟩, ?_⟩
    rw [put_dg]
    refine w1.2 σ _ G1 A1.gm (I1.later (Aft.state A1.st A1.sub (fun b n => upd_ne fun z => n (.inl z)) (fun b F e => upd_ne (A1.st.w b F e).2.1) (A1.st.dg n)))
  · exact w1.elim
def cStPop (i : Nat) : Ev → M Ctl := fun env => guardB (isSt env i) (rdM (fun d => d.gr) >>= fun gs => match gs with
  | g :: r => wrM (fun d => { d with dg := g, gr := r }) >>= fun _ => pure (.nx env)
  | [] => bad)
theorem pms_stPop (i : Nat) {q1 q2 q4 : Pos} {j2 j3 : Nat} (hr : Room k X.A) (ho : i ∉ os := by decide) (hN : X.N[i]? = some x := by rfl) (hv : Vis X.env.scope x := by first | exact Or.inl rfl | exact Or.inr (Or.inl rfl) | exact Or.inr (Or.inr rfl)) (hd : (x == ("__debug__" : Str)) = false := by decide)
    (hcd : (x == ("__classdict__" : Str)) = false := by decide) (hs : swapsWith (.Call (.Attribute (.Subscript (.Name x p) (.Constant (.str "great") j2 q1) q2) "pop" apos) [.Constant (.int 0) j3 q4] [] cpos) (some (.Subscript (.Name x p4) (.Constant (.str "digits") j p2) p3)) pos.line X.env = pure false := by rfl)
    (hbase : attributeBase (.Subscript (.Name x p) (.Constant (.str "great") j2 q1) q2) "pop" X.env (eval (.Subscript (.Name x p) (.Constant (.str "great") j2 q1) q2) X.env) = eval (.Subscript (.Name x p) (.Constant (.str "great") j2 q1) q2) X.env := by rfl)
    (hfew : ((backTo cpos (starEach [.Constant (.int 0) j3 q4] X.env)).all (fun x => !x.1) && (backToKw cpos (keywordEach [] X.env)).all (fun x => x.1.isSome)
      && decide ([Expr.Constant (.int 0) j3 q4].length + ([] : List Keyword).length + (if ([] : List Keyword).isEmpty then 0 else 1) < 30)) = true := by rfl)
    (hline : (apos.endLine == cpos.line) = true := by rfl) (hst : starEach [.Constant (.int 0) j3 q4] X.env = (false, eval (.Constant (.int 0) j3 q4) X.env) :: starEach [] X.env := by rfl) (hplain : (backTo cpos (starEach [] X.env)).any (·.1) = false := by rfl) :
    PMS X fr os os ol (.Assign [.Subscript (.Name x p4) (.Constant (.str "digits") j p2) p3] (.Call (.Attribute (.Subscript (.Name x p) (.Constant (.str "great") j2 q1) q2) "pop" apos) [.Constant (.int 0) j3 q4] [] cpos) pos) (cStPop i) := by
  refine ⟨_, ps_dput (hu_of hr) (pe_var hN hv hd hcd) pe_str (pe_bm PySem.F.plainAttrs_list PySem.F.slot_list_pop PySem.F.type_list_pop mt_popAt (pe_dget (hu_of hr) (pe_var hN hv hd hcd) pe_str (fun _ _ => rfl)) (pa_cons pe_int pa_nil hst) hbase hfew hline hst hplain) hs, fun C G σ H env d D I w => ?_⟩
  unfold cStPop at w
  rw [Wp_guard, Wp_bind, Wp_rd] at w
  have ex := I.stAt ho w.1
  refine ⟨_, ex, _, _, rfl, .inl ⟨stK C.S d, .inr "great", .inl I.st.s, rfl, (st_gr _ _).symm⟩, ?_⟩
  cases hg : d.gr with
  | nil =>
    have w2 := w.2
    rw [hg] at w2
    exact w2.elim
  | cons g r =>
    have w2 := w.2
    rw [hg] at w2
    have hG := I.st.g
    refine ⟨.inl ⟨rfl, _, .inl (.inl hG)⟩, C.S.g, d.gr.map V.int, 0, 0, .int g, rfl, rfl, hG, by decide, by decide, by rw [hg, List.length_map, List.length_cons]; unfold seqIndex?; simp, by rw [hg]; rfl, ?_⟩
    have e1 : (d.gr.map V.int).eraseIdx 0 = r.map V.int := by rw [hg]; rfl
    rw [e1]
    have st1 := I.st.gr r
    have st2 := st1.dg g
    refine ⟨_, ex, _, _, rfl, .inl ⟨_, .inr "digits", st1.s, rfl, four_small, rfl⟩, ?_⟩
    rw [put_dg]
    refine w2 σ _ G (Le.refl G) (I.later (Aft.state I.st I.sub (fun b n => ?_) (fun b F e => by rw [upd_ne (I.st.w b F e).2.1, upd_ne (I.st.w b F e).2.2.1]) st2))
    rw [upd_ne fun z => n (.inl z), upd_ne fun z => n (.inr (.inl z))]
def cStTn (i : Nat) : Ev → M Ctl := fun env => guardB (isSt env i) (wrM (fun d => { d with tn := d.tn + 1 }) >>= fun _ => pure (.nx env))
theorem pms_stTn (i : Nat) {j3 : Nat} {q4 : Pos} (hr : Room k X.A) (ho : i ∉ os := by decide) (hN : X.N[i]? = some x := by rfl) (hv : Vis X.env.scope x := by first | exact Or.inl rfl | exact Or.inr (Or.inl rfl) | exact Or.inr (Or.inr rfl)) (hd : (x == ("__debug__" : Str)) = false := by decide)
    (hcd : (x == ("__classdict__" : Str)) = false := by decide) (ha : ∀ ov iv new, augStore (.Constant (.str "turn") j p2) ov iv new = (do holding [new, ov, iv] (setItem ov iv new); release [new, ov, iv] []; pure .next) := by intro _ _ _; rfl) :
    PMS X fr os os ol (.AugAssign (.Subscript (.Name x p) (.Constant (.str "turn") j p2) p3) .Add (.Constant (.int 1) j3 q4) pos) (cStTn i) := by
  refine ⟨_, ps_daug (hu_of hr) (pe_var (i := i) hN hv hd hcd) pe_str pe_int in_add ha, fun C G σ H env d D I w => ?_⟩
  unfold cStTn at w
  rw [Wp_guard, Wp_bind, Wp_wr] at w
  refine ⟨_, I.stAt ho w.1, _, _, rfl, .inl ⟨stK C.S d, .inr "turn", .inl I.st.s, rfl, (st_tn _ _).symm⟩, ?_⟩
  refine ⟨_, _, rfl, rfl, _, .inl ⟨stK C.S d, .inr "turn", I.st.s, rfl, four_small, rfl⟩, ?_⟩
  rw [put_tn]
  exact w.2 σ _ G (Le.refl G) (I.later (Aft.state I.st I.sub (fun b n => upd_ne fun z => n (.inl z)) (fun b F e => upd_ne (I.st.w b F e).2.1) (I.st.tn _)))
end
end Mir
end
section
set_option maxHeartbeats 1000000
namespace Mir
open PySem PySem.Spec PyProof.Rows L2
variable [Tab]
structure FnG (P : Program) (w : World) (K : PySem.W.Frag) (mg : Str → Option Value) (base : Heap) (k : Nat) (f : Addr) (fd : FuncData) (ps : List Str) (sp : Sp) : Prop where
  len : ∀ vs H Q E, sp vs H Q E → vs.length = ps.length
  run : ∀ (A : Around) (outer : List Env) (s : Shared) (H : Hp) (args : Args) (us : List Value) (vs : List V) (Q : VK) (E : XK), Room k A → A.guards = some [] → Env0 P w K mg base A outer s H → BindsTo s fd args (ps.zip us) → Vals vs us → sp vs H Q E →
    codeAny (model P w) A (.call (.ref f) args) (CR CX0 outer P w H s Q E) s
section
variable {P : Program} {w : World} {K : PySem.W.Frag} {mg : Str → Option Value} {base : Heap}
theorem FnG.of {k : Nat} {f : Addr} {fd : FuncData} {ps : List Str} {sp : Sp} (F : FnOk P w K mg base CX0 k f fd ps sp) : FnG P w K mg base k f fd ps sp := ⟨F.len, fun A outer s H args us vs Q E hr _ => F.run A outer s H args us vs Q E hr⟩
theorem fnG_of {k : Nat} {f : Addr} {name qual : Str} {params : Arguments} {body : List Stmt} {scope : Scope} {dV kV doc pm cdv ct oc : Value} {an od : Option Addr} {osl : Array (Option Value)} {N ps : List Str} {sp : Sp}
    (lk : K.lookup f = some ⟨oc, od, .func (PySem.W.fnOf name qual params body scope dV kV doc pm an cdv ct), osl⟩) (hcd : PySem.W.codeIn K cdv qual = true) (S : FnScope N ps scope) (len : ∀ vs H Q E, sp vs H Q E → vs.length = ps.length)
    (hbody : ∀ (A : Around) (outer : List Env) (s : Shared) (H : Hp) (vs : List V) (Q : VK) (E : XK), Room k (A.deeper (envOfC qual scope s.heap.objs.size f cdv)) → (A.deeper (envOfC qual scope s.heap.objs.size f cdv)).guards = some [] → sp vs H Q E →
      ∃ t, PSs (cxOf CX0 P w K mg base N qual scope f cdv A outer s H E) body t ∧ t { nx := fun _ H' => Q .non H', rt := Q } (start N vs) H) :
    FnG P w K mg base (k + 1) f (PySem.W.fnOf name qual params body scope dV kV doc pm an cdv ct) ps sp where
  len := len
  run := fun A outer s H args us vs Q E hr hgd ev hb r hsp => by
    have hlen := len _ _ _ _ hsp
    have KX : K.In s.heap := ev.mod.kin.keeps fun b o e => (ev.bs b o e).1
    have nl : s.heap.NoLimit := ev.mod.nolimit.keeps fun b o e => (ev.bs b o e).1
    have kinds : ∀ y ∈ ps.zip us, scope.names.lookup y.1 = some .local ∨ (scope.names.lookup y.1 = some .cell ∧ ((cellsFrom (s.heap.objs.size + 1) scope.names []).lookup y.1).isSome = true) := by
      intro ⟨n, v⟩ hy
      rcases S.par n (List.of_mem_zip hy).1 with q | q
      · exact .inl q
      · exact .inr ⟨q, PySem.W.cellsFrom_some _ _ _ (.inl q)⟩
    refine codeAny_call_function hr.depth (KX _ _ lk) rfl S.co S.gen rfl (PySem.W.codeRec_of KX hcd) (hb _ _ _ _ (wpAny_newFunctionEnv_cells S.kind kinds fun env he s1 x => ?_))
    subst he
    refine ⟨nl.keeps x.toInCall.keep, codeAny_func ?_⟩
    obtain ⟨t, ht, hq⟩ := hbody A outer s H vs Q E (hr.deeper _) hgd hsp
    have J := inv_start (CX := CX0) (base := base) (E := E) S hr.hd ev hlen r x
    refine wpAny_mono (ht.run [] s1 (start N vs) H _ J hq) (fun fl s' hs => ?_) fun e s' hs => hs
    cases fl with
    | ret u =>
      obtain ⟨v, σ', H', J, rv, q⟩ := hs
      exact ⟨v, H', J.os, J.bare, J.base, J.hok, rv, q⟩
    | next =>
      obtain ⟨σ', H', J, q⟩ := hs
      exact ⟨.non, H', J.os, J.bare, J.base, J.hok, rfl, q⟩
    | brk =>
      obtain ⟨_, _, _, q⟩ := hs
      exact q.elim
    | cont =>
      obtain ⟨_, _, _, q⟩ := hs
      exact q.elim
end
section
variable {X : Cx} {k : Nat} {f : Addr} {fd : FuncData} {ps : List Str} {ds : List Value} {dvs : List V} {sp : Sp} {E : XK}
end
end Mir
end
section
set_option maxHeartbeats 1000000
namespace Mir
open PySem PySem.Spec PyProof.Rows L2
variable [Tab]
def keyPy : Key → PyData
  | .inl i => .int i
  | .inr x => .str x
mutual
def shP : D → Option PyData
  | .non => some .none
  | .bl b => some (.bool b)
  | .int i => some (.int i)
  | .str x => some (.str x)
  | .lst xs => (shPs xs).map .list
  | .ro xs => (shPs xs).map .list
  | .tup xs => (shPs xs).map .tuple
  | .dic kvs => (shPk kvs).map .dict
  | .obj _ _ => none
  | .st => none
  | .ln _ => none
  | .plt _ => none
  | .rot xs => (shPs xs).map .tuple
  | .dct _ => none
  | .dtn _ _ => none
  | .mem _ => none
  | .lam _ => none
  | .lamc _ _ => none
  | .dnk _ _ => none
  | .exc _ _ => none
def shPs : List D → Option (List PyData)
  | [] => some []
  | x :: xs => match shP x, shPs xs with
    | some p, some ps => some (p :: ps)
    | _, _ => none
def shPk : List (Key × D) → Option (List (PyData × PyData))
  | [] => some []
  | (k, x) :: xs => match shP x, shPk xs with
    | some p, some ps => some ((keyPy k, p) :: ps)
    | _, _ => none
end
mutual
def noL : D → Bool
  | .lst _ => false
  | .ro _ => false
  | .tup xs => noLs xs
  | .rot xs => noLs xs
  | .dic kvs => noLk kvs
  | _ => true
def noLs : List D → Bool
  | [] => true
  | x :: xs => noL x && noLs xs
def noLk : List (Key × D) → Bool
  | [] => true
  | (_, x) :: xs => noL x && noLk xs
end
section
variable {X : Cx} {pins : List (Addr × Obj)} {σ : St} {H : Hp} {s : Shared} {S : SA} {G : Hp} {mg : Str → Option Value}
theorem keys_read {vs : List (Key × Value)} : ∀ {es : List DictEntry} {ds : List (Key × D)} {ps : List (PyData × PyData)} {kvs : List (Key × V)}, Pairs (mixKind X.prog X.w) es vs → KV kvs vs → RepK X.K mg S G kvs ds → shPk ds = some ps → ReadsAll s.heap (es.map (·.key)) (ps.map (·.1)) [] := by
  induction vs with
  | nil =>
    intro es ds ps kvs hp kv r e
    cases hp
    cases kv
    cases r
    cases e
    exact .nil
  | cons q vs ih =>
    intro es ds ps kvs hp kv r e
    cases hp with
    | @cons en _ es' _ h1 h2 h3 =>
      cases kv with
      | cons a b =>
        cases r with
        | @cons _ k v vs' d ds' ra rb =>
          rw [shPk] at e
          split at e
          · rename_i p ps' e1 e2
            cases e
            have rest := ih h3 b rb e2
            have ek : k = q.1 := a.1
            have hk : keyIs k en.key = true := by rw [ek]; exact h1
            have : Reads s.heap en.key (keyPy k) [] := by
              rcases keyIs_shape hk with ⟨i, t, e1, e2⟩ | ⟨x, t, e1, e2⟩
              · rw [e1, e2]; exact .int i t
              · rw [e1, e2]; exact .str x t
            exact .cons (as := []) (bs := []) this rest
          · cases e
theorem shPk_vals : ∀ {ds : List (Key × D)} {ps : List (PyData × PyData)}, shPk ds = some ps → shPs (ds.map (·.2)) = some (ps.map (·.2))
  | [], _, e => by rw [shPk] at e; cases e; rfl
  | (k, x) :: ds, ps, e => by
    rw [shPk] at e
    split at e
    · rename_i p ps' e1 e2
      cases e
      rw [List.map_cons, shPs, e1, shPk_vals e2]
      rfl
    · cases e
theorem noLk_eq : ∀ (ds : List (Key × D)), noLk ds = noLs (ds.map (·.2))
  | [] => rfl
  | (k, x) :: ds => by rw [noLk, List.map_cons, noLs, noLk_eq ds]
theorem kv_vals {es : List DictEntry} : ∀ {kvs : List (Key × V)} {vs : List (Key × Value)}, KV kvs vs → Pairs (mixKind X.prog X.w) es vs → Vals (kvs.map (·.2)) (es.map (·.val)) := by
  induction es with
  | nil => intro kvs vs kv hp; cases hp; cases kv; exact .nil
  | cons en es ih =>
    intro kvs vs kv hp
    cases hp with
    | @cons _ kv' _ kvs' h1 h2 h3 =>
      cases kv with
      | cons q1 q2 =>
        have ru := q1.2
        rw [← h2] at ru
        exact .cons ru (ih q2 h3)
mutual
theorem Rep.rd (I : Inv X pins σ H s) (le : Le G H) : ∀ {v : V} {d : D} {p : PyData} {u : Value}, Rep X.K mg S G v d → shP d = some p → RelV v u → ∃ as, Reads s.heap u p as ∧ (noL d = true → sysModules ∉ as)
  | _, _, _, _, .non, e, r => by cases e; cases r; exact ⟨[], .none, fun _ z => nomatch z⟩
  | _, _, _, _, .bl b, e, r => by cases e; cases r; exact ⟨[], .bool b, fun _ z => nomatch z⟩
  | _, _, _, _, .int i, e, r => by cases e; obtain ⟨t, rfl⟩ := r; exact ⟨[], .int i t, fun _ z => nomatch z⟩
  | _, _, _, _, .str x, e, r => by cases e; obtain ⟨t, rfl⟩ := r; exact ⟨[], .str x t, fun _ z => nomatch z⟩
  | _, _, _, _, .lst h rs, e, r => by
    rw [shP] at e
    obtain ⟨ps, e1, e2⟩ := Option.map_eq_some_iff.mp e
    subst e2
    cases r
    obtain ⟨its, rv, ⟨o, m, g1, g2, _, g3⟩, _⟩ := I.list (.inl (.inl (le _ _ h)))
    obtain ⟨as, q, _⟩ := Reps.rd I le rs e1 rv
    exact ⟨_, .list g1 g2 g3 q, fun z => by rw [noL] at z; cases z⟩
  | _, _, _, _, .ro h rs, e, r => by
    rw [shP] at e
    obtain ⟨ps, e1, e2⟩ := Option.map_eq_some_iff.mp e
    subst e2
    cases r
    obtain ⟨its, rv, ⟨o, m, g1, g2, _, g3⟩, _⟩ := I.list (le.l h)
    obtain ⟨as, q, _⟩ := Reps.rd I le rs e1 rv
    exact ⟨_, .list g1 g2 g3 q, fun z => by rw [noL] at z; cases z⟩
  | _, _, _, _, .tup h rs, e, r => by
    rw [shP] at e
    obtain ⟨ps, e1, e2⟩ := Option.map_eq_some_iff.mp e
    subst e2
    cases r
    obtain ⟨its, rv, ⟨o, g1, g2, m, g3⟩, _⟩ := I.tuple (.inl (.inl (le _ _ h)))
    obtain ⟨as, q, k⟩ := Reps.rd I le rs e1 rv
    exact ⟨_, .tuple g1 g2 g3 q, fun z => k (by rw [noL] at z; exact z)⟩
  | _, _, _, _, .rot h rs, e, r => by
    rw [shP] at e
    obtain ⟨ps, e1, e2⟩ := Option.map_eq_some_iff.mp e
    subst e2
    cases r
    obtain ⟨its, rv, ⟨o, g1, g2, m, g3⟩, _⟩ := I.tuple (le.t h)
    obtain ⟨as, q, k⟩ := Reps.rd I le rs e1 rv
    exact ⟨_, .tuple g1 g2 g3 q, fun z => k (by rw [noL] at z; exact z)⟩
  | _, _, _, _, .dic h rs, e, r => by
    rw [shP] at e
    obtain ⟨ps, e1, e2⟩ := Option.map_eq_some_iff.mp e
    subst e2
    cases r
    obtain ⟨z, hd, vs, kv, ⟨o, es, ep, ho, hx, hdt, hko, hp, hn⟩⟩ := dk_rd I.hok (.inr ⟨_, le _ _ h⟩)
    obtain ⟨bs, q, k⟩ := RepK.rd I le rs (shPk_vals e1) (kv_vals kv hp)
    refine ⟨_, .dict ho hx.1 hdt (keys_read hp kv rs e1) q, fun z => ?_⟩
    rw [noL] at z
    intro hm
    rcases List.mem_cons.mp hm with hm | hm
    · rw [← hm] at hd; exact absurd hd (by decide)
    · exact k ((noLk_eq _).symm.trans z) (by simpa using hm)
  | _, _, _, _, .obj _ _ _, e, _ => by rw [shP] at e; cases e
  | _, _, _, _, .st, e, _ => by rw [shP] at e; cases e
  | _, _, _, _, .ln _ _, e, _ => by rw [shP] at e; cases e
  | _, _, _, _, .plt _ _ _, e, _ => by rw [shP] at e; cases e
  | _, _, _, _, .dct _ _, e, _ => by rw [shP] at e; cases e
  | _, _, _, _, .dtn _ _ _, e, _ => by rw [shP] at e; cases e
  | _, _, _, _, .mem _, e, _ => by rw [shP] at e; cases e
  | _, _, _, _, .lam _ _ _, e, _ => by rw [shP] at e; cases e
  | _, _, _, _, .lamc _ _ _ _, e, _ => by rw [shP] at e; cases e
  | _, _, _, _, .dnk _ _, e, _ => by rw [shP] at e; cases e
  | _, _, _, _, .exc _ _ _ _, e, _ => by rw [shP] at e; cases e
theorem Reps.rd (I : Inv X pins σ H s) (le : Le G H) : ∀ {vs : List V} {ds : List D} {ps : List PyData} {us : List Value}, Reps X.K mg S G vs ds → shPs ds = some ps → Vals vs us → ∃ as, ReadsAll s.heap us ps as ∧ (noLs ds = true → sysModules ∉ as)
  | _, _, _, _, .nil, e, r => by rw [shPs] at e; cases e; cases r; exact ⟨[], .nil, fun _ z => nomatch z⟩
  | _, _, _, _, .cons a b, e, r => by
    rw [shPs] at e
    split at e
    · rename_i p ps' e1 e2
      cases e
      cases r with
      | cons r1 r2 =>
        obtain ⟨as, q, k⟩ := Rep.rd I le a e1 r1
        obtain ⟨bs, q2, k2⟩ := Reps.rd I le b e2 r2
        refine ⟨_, .cons q q2, fun z => ?_⟩
        rw [noLs, Bool.and_eq_true] at z
        exact fun hm => (List.mem_append.mp hm).elim (k z.1) (k2 z.2)
    · cases e
theorem RepK.rd (I : Inv X pins σ H s) (le : Le G H) : ∀ {κ : Type} {kvs : List (κ × V)} {ds : List (κ × D)} {ps : List PyData} {us : List Value}, RepK X.K mg S G kvs ds → shPs (ds.map (·.2)) = some ps → Vals (kvs.map (·.2)) us → ∃ as, ReadsAll s.heap us ps as ∧ (noLs (ds.map (·.2)) = true → sysModules ∉ as)
  | _, _, _, _, _, .nil, e, r => by rw [List.map_nil, shPs] at e; cases e; cases r; exact ⟨[], .nil, fun _ z => nomatch z⟩
  | _, _, _, _, _, .cons a b, e, r => by
    rw [List.map_cons, shPs] at e
    split at e
    · rename_i p ps' e1 e2
      cases e
      cases r with
      | cons r1 r2 =>
        obtain ⟨as, q, k⟩ := Rep.rd I le a e1 r1
        obtain ⟨bs, q2, k2⟩ := RepK.rd I le b e2 r2
        refine ⟨_, .cons q q2, fun z => ?_⟩
        rw [List.map_cons, noLs, Bool.and_eq_true] at z
        exact fun hm => (List.mem_append.mp hm).elim (k z.1) (k2 z.2)
    · cases e
end
theorem RepT.rd (I : Inv X pins σ H s) (sb : Sub S G H) {v : V} {d : D} {p : PyData} {u : Value} (h : RepT X.K mg S G H v d) (e : shP d = some p) (r : RelV v u) : ∃ as, Reads s.heap u p as ∧ (noL d = true → sysModules ∉ as) := by
  cases h with
  | of h => exact Rep.rd I sb.le h e r
  | lst n h rs => exact Rep.rd (G := H) (S := S) (mg := mg) I (Le.refl H) (.lst h (rs.mono sb.le)) e r
  | dic n h rs =>
    rw [shP] at e
    obtain ⟨ps, e1, e2⟩ := Option.map_eq_some_iff.mp e
    subst e2
    cases r
    obtain ⟨z, hd, vs, kv, ⟨o, es, ep, ho, hx, hdt, hko, hp, hn⟩⟩ := dk_rd I.hok (.inl h)
    obtain ⟨bs, q, k⟩ := RepK.rd I sb.le rs (shPk_vals e1) (kv_vals kv hp)
    refine ⟨_, .dict ho hx.1 hdt (keys_read hp kv rs e1) q, fun z => ?_⟩
    rw [noL] at z
    intro hm
    rcases List.mem_cons.mp hm with hm | hm
    · rw [← hm] at hd; exact absurd hd (by decide)
    · exact k ((noLk_eq _).symm.trans z) (by simpa using hm)
  | dct n h rs => rw [shP] at e; cases e
  | dtn n h q rs => rw [shP] at e; cases e
def good1 (x : D) : Bool := match shP x with
  | some p => !p.hasDict || noL x
  | none => false
theorem good1_sys {x : D} {p : PyData} {as : List Addr} (g : good1 x = true) (e : shP x = some p) (k : noL x = true → sysModules ∉ as) : p.hasDict = true → sysModules ∉ as := fun hd => by
  unfold good1 at g
  rw [e] at g
  have g : (!p.hasDict || noL x) = true := g
  rw [hd] at g
  exact k g
theorem Reps.allK (I : Inv X pins σ H s) (le : Le G H) : ∀ {vs : List V} {ds : List D} {ps : List PyData} {us : List Value}, Reps X.K mg S G vs ds → shPs ds = some ps → ds.all good1 = true → Vals vs us → PyData.showableAll ps = true → (∀ t ∈ PyData.shownAll ps, t.length ≤ sizeLine) →
    ∃ bs, ReadAtMost s.heap (PyData.depthAll ps) bs ∧ ReprAllK X.prog X.w bs s.heap (PyData.depthAll ps) us (PyData.shownAll ps)
  | _, _, _, _, .nil, e, _, r, _, _ => by
    rw [shPs] at e
    cases e
    cases r
    exact ⟨[], fun _ z => (nomatch z), by rw [PyData.shownAll]; exact .nil⟩
  | _, _, _, _, .cons a b, e, g, r, hs, hz => by
    rw [shPs] at e
    split at e
    · rename_i p ps' e1 e2
      cases e
      cases r with
      | cons r1 r2 =>
        rw [List.all_cons, Bool.and_eq_true] at g
        rw [PyData.showableAll, Bool.and_eq_true] at hs
        obtain ⟨as, q, k⟩ := Rep.rd I le a e1 r1
        obtain ⟨b1, hb1, k1⟩ := ReprK.of_reads (prog := X.prog) (w := X.w) q hs.1 (good1_sys g.1 e1 k) (hz _ (by rw [PyData.shownAll]; exact List.mem_cons_self ..))
        obtain ⟨b2, hb2, k2⟩ := Reps.allK I le b e2 g.2 r2 hs.2 fun t ht => hz t (by rw [PyData.shownAll]; exact List.mem_cons_of_mem _ ht)
        refine ⟨b1 ++ b2, ?_, ?_⟩
        · rw [PyData.depthAll]
          exact ReadAtMost.append (hb1.mono (Nat.le_max_left _ _)) (hb2.mono (Nat.le_max_right _ _))
        · rw [PyData.depthAll, PyData.shownAll]
          exact .cons ((k1.more fun c hc => List.mem_append_left _ hc).level_le (Nat.le_max_left _ _)) (k2.more_le (fun c hc => List.mem_append_right _ hc) (Nat.le_max_right _ _))
    · cases e
def goodR (d : D) : Bool := good1 d || (match d with
  | .tup xs => xs.all good1
  | .lst xs => !xs.isEmpty && xs.all good1
  | _ => false)
def isRefD : D → Bool
  | .lst _ => true
  | .ro _ => true
  | .tup _ => true
  | .dic _ => true
  | _ => false
theorem RepT.ref {v : V} {d : D} (h : RepT X.K mg S G H v d) (e : isRefD d = true) : ∃ a, v = .ref a := by
  cases h with
  | of r => cases r <;> first | exact ⟨_, rfl⟩ | cases e
  | lst => exact ⟨_, rfl⟩
  | dic => exact ⟨_, rfl⟩
  | dct => exact ⟨_, rfl⟩
  | dtn => exact ⟨_, rfl⟩
def atomR : D → Bool
  | .non => true
  | .int i => decide (i.natAbs.log2 < 1920)
  | .str _ => true
  | .bl _ => true
  | _ => false
def okR (d : D) : Bool := isRefD d || atomR d
def dRepr (d : D) : M D := match shP d with
  | some p => guardB (okR d && goodR d && p.showable && decide (p.shown.length ≤ sizeLine) && decide (p.depth ≤ 60)) (pure (.str p.shown))
  | none => bad
theorem repr_at {d : D} {p : PyData} {v : V} {u : Value} {E : Value → Shared → Prop} {Q : Value → Shared → Prop} (hgd : X.A.guards = some []) (hu : X.A.units + 100 < cLine) (I : Inv X pins σ H s) (sb : Sub S G H) (h : RepT X.K mg S G H v d) (r : RelV v u) (e : shP d = some p)
    (h1 : okR d = true) (h2 : goodR d = true) (h3 : p.showable = true) (h4 : p.shown.length ≤ sizeLine) (h5 : p.depth ≤ 60)
    (k : ∀ h' t tk, (∀ b o, s.heap.get? b = some o → h'.get? b = some o) → Q (.str p.shown t) { s with heap := h', toks := tk }) : wpAny (model X.prog X.w) X.A (call (.builtin "repr") [u]) Q E s := by
  unfold okR at h1
  rcases (Bool.or_eq_true _ _).mp h1 with h1 | h1
  rotate_left
  · cases d with
    | non =>
      cases h with
      | of h =>
        cases h
        cases (show u = Value.none from r)
        rw [shP] at e
        cases e
        exact PySem.P.repr_of_none (k s.heap s.toks (s.toks + 1) fun _ _ z => z)
    | int i =>
      cases h with
      | of h =>
        cases h
        obtain ⟨t, rfl⟩ := (show ∃ t, u = Value.int i t from r)
        rw [shP] at e
        cases e
        exact PySem.P.repr_of_int (of_decide_eq_true h1) (k s.heap s.toks (s.toks + 1) fun _ _ z => z)
    | str x =>
      cases h with
      | of h =>
        cases h
        obtain ⟨t, rfl⟩ := (show ∃ t, u = Value.str x t from r)
        rw [shP] at e
        cases e
        exact PySem.P.repr_of_str (k s.heap s.toks (s.toks + 1) fun _ _ z => z) h4
    | bl b =>
      cases h with
      | of h =>
        cases h
        cases (show u = Value.bool b from r)
        rw [shP] at e
        cases e
        exact PySem.P.repr_of_bool (k s.heap s.toks (s.toks + 1) fun _ _ z => z)
    | _ => cases h1
  obtain ⟨a, ea⟩ := h.ref h1
  subst ea
  cases r
  obtain ⟨as, rd, ks⟩ := RepT.rd I sb h e rfl
  unfold goodR at h2
  rcases (Bool.or_eq_true _ _).mp h2 with g | g
  · exact repr_of_reads' rd h3 (good1_sys g e ks) hgd (by omega) (fun _ _ z => z) k h4
  · cases d with
    | tup xs =>
      have g : xs.all good1 = true := g
      rw [shP] at e
      obtain ⟨ps, e1, e2⟩ := Option.map_eq_some_iff.mp e
      subst e2
      cases h with
      | of h =>
        cases h with
        | tup hq rs =>
          obtain ⟨its, rv, ⟨o, g1, g2, m, g3⟩, _⟩ := I.tuple (.inl (.inl (sb.le _ _ hq)))
          rw [PyData.shown] at h4
          obtain ⟨bs, hb, hk⟩ := Reps.allK I sb.le rs e1 g rv (by rw [PyData.showable] at h3; exact h3) fun t ht => Nat.le_trans (tupleText_mem_le ht) h4
          have rt : Reads s.heap (.ref _) (.tuple ps) as := rd
          have na := not_mem_of_deeper rt (n := PyData.depthAll ps) (by rw [PyData.depth]; omega) hb
          rw [PyData.depth] at h5
          have ku : ∀ h' t tk, (∀ b o, s.heap.get? b = some o → h'.get? b = some o) → Q (.str (tupleText (PyData.shownAll ps)) t) { s with heap := h', toks := tk } := fun h' t tk z => by
            have := k h' t tk z
            rw [PyData.shown] at this
            exact this
          exact call_repr_slot (by omega) ⟨o, g1, g2⟩ F.slot_tuple_repr (call_tuple_reprK g1 g2 g3 na hk hgd (fun b _ => Clear.nil b) (by show X.A.units + 1 + _ < cLine; omega) (fun _ _ z => z) (fun h' t tk z => ⟨_, _, rfl, ku h' t tk z⟩) h4)
    | lst xs =>
      have g : (!xs.isEmpty && xs.all good1) = true := g
      rw [Bool.and_eq_true] at g
      obtain ⟨g0, g⟩ := g
      rw [shP] at e
      obtain ⟨ps, e1, e2⟩ := Option.map_eq_some_iff.mp e
      subst e2
      obtain ⟨a', vs, ea', hq, rs, _⟩ := h.lst' sb
      cases ea'
      obtain ⟨its, rv, ⟨o, m, g1, g2, _, g3⟩, _⟩ := I.list (.inl (.inl hq))
      rw [PyData.shown] at h4
      obtain ⟨bs, hb, hk⟩ := Reps.allK I sb.le rs e1 g rv (by rw [PyData.showable] at h3; exact h3) fun t ht => Nat.le_trans (listText_mem_le ht) h4
      have rt : Reads s.heap (.ref _) (.list ps) as := rd
      have na := not_mem_of_deeper rt (n := PyData.depthAll ps) (by rw [PyData.depth]; omega) hb
      rw [PyData.depth] at h5
      have ku : ∀ h' t tk, (∀ b o, s.heap.get? b = some o → h'.get? b = some o) → Q (.str (listText (PyData.shownAll ps)) t) { s with heap := h', toks := tk } := fun h' t tk z => by
        have := k h' t tk z
        rw [PyData.shown] at this
        exact this
      cases its with
      | nil =>
        cases rv
        cases rs
        cases g0
      | cons x l =>
        exact call_repr_slot (by omega) ⟨o, g1, g2⟩ F.slot_list_repr.toG (call_list_reprK g1 g2 g3 na (by rw [hk.length_eq]; simp) (fun i y hy => hk.item i y (by simpa using hy)) hgd (fun b _ => Clear.nil b) (by show X.A.units + 1 + _ < cLine; omega) (fun _ _ z => z) (fun h' t tk z => ⟨_, _, rfl, ku h' t tk z⟩) h4)
    | _ => cases g
end
section
variable {X : Cx} {os : List Nat} {e : Expr} {te : TE} {m : Ev → M D} {k : Nat} {p' pos : Pos}
theorem pm_repr (hr : Room k X.A) (hgd : X.A.guards = some []) (hg : Gl X "repr") (hm : X.mg "repr" = none) (ha : PMB X os e te m) (he : starEach [e] X.env = (false, eval e X.env) :: starEach [] X.env := by rfl) (hpl : (backTo pos (starEach [] X.env)).any (·.1) = false := by rfl) :
    PM X os (.Call (.Name "repr" p') [e] [] pos) (tCB (fun xs H Q => ∃ v, xs = [v] ∧ ∃ S G d p, Sub S G H ∧ RepT X.K X.mg S G H v d ∧ shP d = some p ∧ okR d = true ∧ goodR d = true ∧ p.showable = true ∧ p.shown.length ≤ sizeLine ∧ p.depth ≤ 60 ∧ Q (.str p.shown) H) (tCons te tNil)) (eUn dRepr m) := by
  refine ⟨pe_callB (fun pins s σ H xs us Q I r h => ?_) hg hm (show bootBuiltins "repr" = some (.builtin "repr") from by decide +kernel) (pa_cons ha.p pa_nil he) (by decide) (by decide) he hpl, fun C G σ H env d Q I w => ?_⟩
  · obtain ⟨v, ex, S, G, d, p, sb, rt, e1, h1, h2, h3, h4, h5, q⟩ := h
    subst ex
    obtain ⟨u, eu, ru⟩ := vals1 r
    subst eu
    exact repr_at hgd (by have := hr.un; omega) I sb rt ru e1 h1 h2 h3 h4 h5 fun h' t tk z => ⟨.str p.shown, H, I.kept (t' := tk) z, ⟨t, rfl⟩, q⟩
  · unfold eUn at w
    rw [Wp_bind] at w
    refine ha.s C G σ H env d _ I (w.imp fun x d1 w1 v1 H1 G1 A1 r1 => ?_)
    cases hx : shP x with
    | none => simp only [dRepr, hx] at w1; exact w1.elim
    | some p =>
      simp only [dRepr, hx] at w1
      rw [Wp_guard] at w1
      simp only [Bool.and_eq_true, decide_eq_true_eq] at w1
      obtain ⟨⟨⟨⟨⟨a1, a2⟩, a3⟩, a4⟩, a5⟩, w2⟩ := w1
      exact ⟨v1, rfl, C.S, G1, x, p, A1.sub, r1, hx, a1, a2, a3, a4, a5, w2 _ _ _ A1 (.str _)⟩
end
end Mir
end
section
set_option maxHeartbeats 1000000
namespace Mir
open PySem PySem.Spec PyProof.Rows L2
variable [Tab]
section
variable {X : Cx} {os : List Nat} {e : Expr} {te : TE} {m : Ev → M D} {p apos cpos pos : Pos}
end
end Mir
end
section
set_option maxHeartbeats 1000000
namespace Mir
open PySem PySem.Spec PyProof.Rows L2
variable [Tab]
def permL {α : Type} (ix : List Nat) (xs : List α) : List α := ix.filterMap fun i => xs[i]?
def gP {α : Type} (n : Nat) (ix : List Nat) (us ws : List α) : List α := if us.length = 0 ∧ ws.length = n then permL ix ws else []
theorem permL_len {α : Type} {xs : List α} : ∀ {ix : List Nat}, (∀ i ∈ ix, i < xs.length) → (permL ix xs).length = ix.length
  | [], _ => rfl
  | i :: r, h => by
    have h1 := h i (List.mem_cons_self ..)
    unfold permL
    rw [List.filterMap_cons, List.getElem?_eq_getElem h1]
    show (permL r xs).length + 1 = r.length + 1
    rw [permL_len fun j hj => h j (List.mem_cons_of_mem _ hj)]
theorem vals_perm {vs : List V} {us : List Value} (r : Vals vs us) : ∀ ix : List Nat, Vals (permL ix vs) (permL ix us)
  | [] => .nil
  | i :: ix => by
    unfold permL
    rw [List.filterMap_cons, List.filterMap_cons]
    cases h : vs[i]? with
    | none =>
      have h2 : us[i]? = none := by
        rw [List.getElem?_eq_none_iff] at h ⊢
        rw [← r.length]; exact h
      rw [h2]
      exact vals_perm r ix
    | some v =>
      obtain ⟨u, e, ru⟩ := r.get h
      rw [e]
      exact .cons ru (vals_perm r ix)
theorem gP_rel {n : Nat} {ix : List Nat} {vs : List V} {us : List Value} {zs : List V} {ws : List Value} (r : Vals vs us) (r2 : Vals zs ws) : Vals (gP n ix vs zs) (gP n ix us ws) := by
  unfold gP
  rw [r.length, r2.length]
  split
  · exact vals_perm r2 ix
  · exact .nil
section
variable {K : PySem.W.Frag} {mg : Str → Option Value} {S : SA} {G : Hp}
theorem Reps.perm {vs : List V} {ds : List D} (r : Reps K mg S G vs ds) : ∀ ix : List Nat, Reps K mg S G (permL ix vs) (permL ix ds)
  | [] => .nil
  | i :: ix => by
    unfold permL
    rw [List.filterMap_cons, List.filterMap_cons]
    cases h : ds[i]? with
    | none =>
      have h2 : vs[i]? = none := by
        rw [List.getElem?_eq_none_iff] at h ⊢
        rw [r.length]; exact h
      rw [h2]
      exact Reps.perm r ix
    | some d =>
      obtain ⟨v, e, rv⟩ := r.get h
      rw [e]
      exact .cons rv (Reps.perm r ix)
end
theorem pe_callK0 {X : Cx} {CX : CXT} {k : Nat} {f : Addr} {fd : FuncData} {ps ks : List Str} {sp : Sp} {E : XK} {x : Str} {p pos : Pos} {kws : List Keyword} {tk : TA} {g : List Value → List Value → List Value} {gV : List V → List V → List V} (F : FnOk X.prog X.w X.K X.mg X.base CX k f fd ps sp) (hr : Room k X.A) (hg : Gl X x) (hm : X.mg x = some (.ref f)) (hk : PySem.W.keepIn X.K (.ref f) = true) (hb : KBinds X.K fd ps ks g gV) (hx : Passes CX X E)
    (hkw : PK X kws tk) (hall : (backToKw pos (keywordEach kws X.env)).all (·.1.isSome) = true := by rfl) (hks : (backToKw pos (keywordEach kws X.env)).filterMap (·.1) = ks := by rfl) (hdb : (x == ("__debug__" : Str)) = false := by decide)
    (hpl : ((backTo pos (starEach [] X.env)).any (·.1) || (backToKw pos (keywordEach kws X.env)).any (·.1.isNone)) = false := by rfl) : PE X (.Call (.Name x p) [] kws pos) (tCallK sp gV E tNil tk) :=
  ⟨fun pins s σ H Q I h => wpAny_Call_Name_kw (ld_glob I hg hm (PySem.W.callWith_KW0 (h₀ := X.base) I.ok.mod.kin hk hall (thn (hkw.run pos pins s σ H _ I h) fun ws s2 ⟨zs, H2, I2, rz, q2⟩ => ⟨I2.kIn, by
    rw [hks]
    exact run_fnk F hr hb hx I2 .nil rz q2⟩) hpl) hdb)⟩
structure PMK (X : Cx) (os : List Nat) (kws : List Keyword) (tk : TA) (ms : Ev → M (List D)) : Prop where
  p : PK X kws tk
  s : ∀ C, SimA X.K X.mg C os tk ms
def HasK (P : Program) (w : World) (K : PySem.W.Frag) (mg : Str → Option Value) (base : Heap) (k : Nat) (x : Str) (n : Nat) (ks : List Str) (ix : List Nat) (m : List D → M D) : Prop :=
  ∃ f fd ps, FnOk P w K mg base CX0 k f fd ps (spM K mg n m) ∧ mg x = some (.ref f) ∧ PySem.W.keepIn K (.ref f) = true ∧ KBinds K fd ps ks (gP n ix) (gP n ix)
def HasKN (P : Program) (w : World) (K : PySem.W.Frag) (mg : Str → Option Value) (base : Heap) (k : Nat) (x : Str) (n : Nat) (ks : List Str) (ix : List Nat) (m : List D → M D) : Prop :=
  ∃ f fd ps, FnOk P w K mg base CX0 k f fd ps (spN K mg n m) ∧ mg x = some (.ref f) ∧ PySem.W.keepIn K (.ref f) = true ∧ KBinds K fd ps ks (gP n ix) (gP n ix)
def eCallK (n : Nat) (ix : List Nat) (f : List D → M D) (ms : Ev → M (List D)) : Ev → M D := fun env => ms env >>= fun xs => guardB (xs.length == n) (f (permL ix xs))
section
variable {X : Cx} {os : List Nat} {e : Expr} {kws : List Keyword} {te : TE} {tk : TA} {m : Ev → M D} {ms : Ev → M (List D)} {x : Str} {p pos kpos : Pos} {k n : Nat} {nm : Option Str} {mf : List D → M D} {ks : List Str} {ix : List Nat}
theorem pmk_nil : PMK X os [] tNil aNil := ⟨pk_nil, fun C G σ H env d Q I w => w [] H G (Aft.refl I.st I.sub) .nil⟩
theorem pmk_cons (ha : PM X os e te m) (hr : PMK X os kws tk ms) : PMK X os (⟨nm, e, kpos⟩ :: kws) (tCons te tk) (aCons m ms) := by
  refine ⟨pk_cons ha.p hr.p, fun C G σ H env d Q I w => ?_⟩
  unfold aCons at w
  rw [Wp_bind] at w
  refine ha.s C G σ H env d _ I (w.imp fun y d1 w1 v1 H1 G1 A1 r1 => ?_)
  rw [Wp_bind] at w1
  exact hr.s C G1 σ H1 env d1 _ (I.later A1) (w1.imp fun xs d2 w2 vs H2 G2 A2 r2 => w2 (v1 :: vs) H2 G2 (A1.trans A2) (.cons (r1.mono A2.gm) r2))
theorem gP_of {vs : List V} (hl : vs.length = n) : gP n ix [] vs = permL ix vs := by
  unfold gP
  rw [if_pos ⟨rfl, hl⟩]
theorem pm_k (h : HasK X.prog X.w X.K X.mg X.base k x n ks ix mf) (hr : Room k X.A) (hg : Gl X x) (ha : PMK X os kws tk ms) (hix : ix.length = n ∧ ∀ i ∈ ix, i < n := by decide) (hall : (backToKw pos (keywordEach kws X.env)).all (·.1.isSome) = true := by rfl) (hks : (backToKw pos (keywordEach kws X.env)).filterMap (·.1) = ks := by rfl)
    (hdb : (x == ("__debug__" : Str)) = false := by decide) (hpl : ((backTo pos (starEach [] X.env)).any (·.1) || (backToKw pos (keywordEach kws X.env)).any (·.1.isNone)) = false := by rfl) :
    PM X os (.Call (.Name x p) [] kws pos) (tCallK (spM X.K X.mg n mf) (gP n ix) E0 tNil tk) (eCallK n ix mf ms) := by
  obtain ⟨f, fd, ps, F, hm, hk, hb⟩ := h
  refine ⟨pe_callK0 F hr hg hm hk hb pass0 ha.p hall hks hdb hpl, fun C G σ H env d Q I w => ?_⟩
  unfold eCallK at w
  rw [Wp_bind] at w
  refine ha.s C G σ H env d _ I (w.imp fun xs d1 w1 vs H1 G1 A1 r1 => ?_)
  rw [Wp_guard] at w1
  have hl : xs.length = n := by simpa using w1.1
  have hv : vs.length = n := r1.length.trans hl
  show spM X.K X.mg n mf (gP n ix [] vs) H1 Q E0
  rw [gP_of hv]
  exact ⟨by rw [permL_len fun i hi => by rw [hv]; exact hix.2 i hi]; exact hix.1, C.S, G1, permL ix xs, d1, A1.st, A1.sub, r1.perm ix, w1.2.imp fun y d2 kk v H' G' A2 r2 => kk v H' G' (A1.trans A2) r2⟩
theorem pmf_k (h : HasKN X.prog X.w X.K X.mg X.base k x n ks ix mf) (hr : Room k X.A) (hg : Gl X x) (ha : PMK X os kws tk ms) (hix : ix.length = n ∧ ∀ i ∈ ix, i < n := by decide) (hall : (backToKw pos (keywordEach kws X.env)).all (·.1.isSome) = true := by rfl) (hks : (backToKw pos (keywordEach kws X.env)).filterMap (·.1) = ks := by rfl)
    (hdb : (x == ("__debug__" : Str)) = false := by decide) (hpl : ((backTo pos (starEach [] X.env)).any (·.1) || (backToKw pos (keywordEach kws X.env)).any (·.1.isNone)) = false := by rfl) :
    PMF X os (.Call (.Name x p) [] kws pos) (tCallK (spN X.K X.mg n mf) (gP n ix) E0 tNil tk) (eCallK n ix mf ms) := by
  obtain ⟨f, fd, ps, F, hm, hk, hb⟩ := h
  refine ⟨pe_callK0 F hr hg hm hk hb pass0 ha.p hall hks hdb hpl, fun C G σ H env d Q I w => ?_⟩
  unfold eCallK at w
  rw [Wp_bind] at w
  refine ha.s C G σ H env d _ I (w.imp fun xs d1 w1 vs H1 G1 A1 r1 => ?_)
  rw [Wp_guard] at w1
  have hl : xs.length = n := by simpa using w1.1
  have hv : vs.length = n := r1.length.trans hl
  show spN X.K X.mg n mf (gP n ix [] vs) H1 Q E0
  rw [gP_of hv]
  exact ⟨by rw [permL_len fun i hi => by rw [hv]; exact hix.2 i hi]; exact hix.1, C.S, G1, permL ix xs, d1, A1.st, A1.sub, r1.perm ix, w1.2.imp fun y d2 kk v H' G' A2 r2 => kk v H' G' (A1.trans A2) (RepN.pull A1 r2)⟩
end
def HasC (sp : Nat → (List D → M D) → Sp) (P : Program) (w : World) (K : PySem.W.Frag) (mg : Str → Option Value) (base : Heap) (k : Nat) (x : Str) (st : Stmt) (ps : List Str) (n : Nat) (m : List D → M D) : Prop :=
  ∃ f fd, Fun K x x st f fd ∧ mg x = some (.ref f) ∧ FnOk P w K mg base CX0 k f fd ps (sp n m)
section
variable {P : Program} {w : World} {K : PySem.W.Frag} {mg : Str → Option Value} {base : Heap} {x : Str} {st : Stmt} {ps ks : List Str} {k n : Nat} {ix : List Nat} {m : List D → M D}
abbrev BindP (x : Str) (st : Stmt) (ps : List Str) : Prop := ∀ (kV doc pm : Value) (an : Option Addr) (cdv ct : Value) (us : List Value), us.length = ps.length → bindArgs (PySem.W.fnOf x x (defArgs st) (defBody st) (defScope st) .none kV doc pm an cdv ct) ⟨us, []⟩ = pure (ps.zip us)
abbrev BindK (x : Str) (st : Stmt) (ps ks : List Str) (n : Nat) (ix : List Nat) : Prop := ∀ (kV doc pm : Value) (an : Option Addr) (cdv ct : Value) (ws : List Value), ws.length = n → bindArgs (PySem.W.fnOf x x (defArgs st) (defBody st) (defScope st) .none kV doc pm an cdv ct) ⟨[], ks.zip ws⟩ = pure (ps.zip (permL ix ws))
theorem HasC.pos (h : HasC (spM K mg) P w K mg base k x st ps n m) (hb : BindP x st ps) : Has P w K mg base k x n m := by
  obtain ⟨f, fd, F, hm, ok⟩ := h
  exact ⟨f, fd, ps, ok, hm, F.kp, F.binds hb⟩
theorem HasC.posN (h : HasC (spN K mg) P w K mg base k x st ps n m) (hb : BindP x st ps) : HasN P w K mg base k x n m := by
  obtain ⟨f, fd, F, hm, ok⟩ := h
  exact ⟨f, fd, ps, ok, hm, F.kp, F.binds hb⟩
theorem kb_of {f : Addr} {fd : FuncData} (F : Fun K x x st f fd) (hn : ps.length = n) (h0 : 0 < n) (hb : BindK x st ps ks n ix) : KBinds K fd ps ks (gP n ix) (gP n ix) := by
  obtain ⟨oc, od, kV, doc, pm, an, cdv, ct, osl, efd, lk, hcd⟩ := F.ex
  subst efd
  refine ⟨fun s us ws KX hl => ?_, fun r1 r2 => gP_rel r1 r2⟩
  unfold gP at hl ⊢
  by_cases h : us.length = 0 ∧ ws.length = n
  · rw [if_pos h]
    have e : us = [] := List.eq_nil_of_length_eq_zero h.1
    subst e
    exact .of_eq (hb kV doc pm an cdv ct ws h.2)
  · rw [if_neg h, hn] at hl
    exact absurd hl (Nat.ne_of_lt h0)
theorem HasC.kw (h : HasC (spM K mg) P w K mg base k x st ps n m) (hn : ps.length = n) (h0 : 0 < n) (hb : BindK x st ps ks n ix) : HasK P w K mg base k x n ks ix m := by
  obtain ⟨f, fd, F, hm, ok⟩ := h
  exact ⟨f, fd, ps, ok, hm, F.kp, kb_of F hn h0 hb⟩
theorem HasC.kwN (h : HasC (spN K mg) P w K mg base k x st ps n m) (hn : ps.length = n) (h0 : 0 < n) (hb : BindK x st ps ks n ix) : HasKN P w K mg base k x n ks ix m := by
  obtain ⟨f, fd, F, hm, ok⟩ := h
  exact ⟨f, fd, ps, ok, hm, F.kp, kb_of F hn h0 hb⟩
theorem hasC_of {N : List Str} {os o2 ol : List Nat} {body : Ev → M Ctl} (F : Df K mg x st) (S : FnScope N ps (defScope st)) (hn : ps.length = n) (ho : ∀ i ∈ os, n ≤ i)
    (hbody : ∀ (f : Addr) (cdv : Value) (A : Around) (outer : List Env) (s : Shared) (H : Hp) (E : XK), Room k (A.deeper (envOfC x (defScope st) s.heap.objs.size f cdv)) →
      PMSs (cxOf CX0 P w K mg base N x (defScope st) f cdv A outer s H E).nox false os o2 ol (defBody st) body) : HasC (spM K mg) P w K mg base (k + 1) x st ps n (defM N.length body) := by
  obtain ⟨f, fd, F, hm⟩ := F
  exact ⟨f, fd, F, hm, ok_defM F S hn ho fun cdv A outer s H E hr => hbody f cdv A outer s H E hr⟩
theorem hasCN_of {N : List Str} {os o2 ol : List Nat} {body : Ev → M Ctl} (F : Df K mg x st) (S : FnScope N ps (defScope st)) (hn : ps.length = n) (ho : ∀ i ∈ os, n ≤ i) (hnx : ∀ env d e d', body env d ≠ .ok (.nx e) d')
    (hbody : ∀ (f : Addr) (cdv : Value) (A : Around) (outer : List Env) (s : Shared) (H : Hp) (E : XK), Room k (A.deeper (envOfC x (defScope st) s.heap.objs.size f cdv)) →
      PMSs (cxOf CX0 P w K mg base N x (defScope st) f cdv A outer s H E).nox true os o2 ol (defBody st) body) : HasC (spN K mg) P w K mg base (k + 1) x st ps n (defM N.length body) := by
  obtain ⟨f, fd, F, hm⟩ := F
  exact ⟨f, fd, F, hm, ok_defN F S hn ho hnx fun cdv A outer s H E hr => hbody f cdv A outer s H E hr⟩
end
end Mir
end
section
set_option maxHeartbeats 1000000
namespace Mir
open PySem PySem.Spec PyProof.Rows L2
variable [Tab]
theorem IM.set_newO {K : PySem.W.Frag} {mg : Str → Option Value} {C : Ct} {os : List Nat} {env : Ev} {σ : St} {G H G' H' : Hp} {d d' : Drw} {v : V} {x : D} {i : Nat} (I : IM K mg C os env σ H G d) (A : Aft C.S G H G' H' d') (hi : i ∉ os) (r : RepN K mg C.S G H G' H' v x) :
    IM K mg C (i :: os) (env.set i (some x)) (σ.set i (some v)) H' G' d' := by
  have J := I.later A
  have apart : ∀ a, v = .ref a → ∀ j y, j ∈ os → env[j]? = some (some y) → σ[j]? ≠ some (some (.ref a)) := fun a ea j y hj e z => by
    obtain ⟨b, e1, o⟩ := I.ow j y hj e
    rw [z] at e1
    cases e1
    cases o with
    | ref o => exact o.o.at (RepN.addr r ea).1
  have oa : OwnV K mg C G' H' v x := by
    cases r with
    | non => exact .non
    | lst n g h r => exact .ref ⟨g, I.st.off n, I.aft.free n, ⟨_, h, r⟩⟩
    | dic n g h r => exact .ref ⟨g, I.st.off n, I.aft.free n, ⟨_, h, r⟩⟩
    | dct n g h r => exact .ref ⟨g, I.st.off n, I.aft.free n, ⟨_, h, r⟩⟩
    | dtn n g h q r => exact .ref ⟨g, I.st.off n, I.aft.free n, ⟨_, h, q, r⟩⟩
  have at_i : ∀ y, (env.set i (some x))[i]? = some (some y) → y = x ∧ (σ.set i (some v))[i]? = some (some v) := fun y e => by
    have hl : i < env.length := by
      have := (List.getElem?_eq_some_iff.mp e).1
      rwa [List.length_set] at this
    rw [List.getElem?_set_self hl] at e
    cases e
    exact ⟨rfl, List.getElem?_set_self (by rw [I.len]; exact hl)⟩
  exact {
    aft := J.aft
    len := by rw [List.length_set, List.length_set]; exact I.len
    sh := fun j y hj e => by
      have z : i ≠ j := fun z => hj (z ▸ List.mem_cons_self ..)
      rw [List.getElem?_set_ne z] at e ⊢
      exact J.sh j y (fun h => hj (List.mem_cons_of_mem _ h)) e
    ow := fun j y hj e => by
      by_cases z : i = j
      · subst z
        obtain ⟨e1, e2⟩ := at_i y e
        subst e1
        exact ⟨_, e2, oa⟩
      · rw [List.getElem?_set_ne z] at e ⊢
        exact J.ow j y ((List.mem_cons.mp hj).resolve_left fun h => z h.symm) e
    dis := fun j k y z b hj hk e1 e2 e3 e4 => by
      by_cases z1 : i = j
      · by_cases z2 : i = k
        · rw [← z1, ← z2]
        · subst z1
          rw [List.getElem?_set_ne z2] at e2 e4
          rw [(at_i y e1).2] at e3
          cases e3
          exact absurd e4 (apart _ rfl k z ((List.mem_cons.mp hk).resolve_left fun h => z2 h.symm) e2)
      · by_cases z2 : i = k
        · subst z2
          rw [List.getElem?_set_ne z1] at e1 e3
          rw [(at_i z e2).2] at e4
          cases e4
          exact absurd e3 (apart _ rfl j y ((List.mem_cons.mp hj).resolve_left fun h => z1 h.symm) e1)
        · rw [List.getElem?_set_ne z1] at e1 e3
          rw [List.getElem?_set_ne z2] at e2 e4
          exact J.dis j k y z b ((List.mem_cons.mp hj).resolve_left fun h => z1 h.symm) ((List.mem_cons.mp hk).resolve_left fun h => z2 h.symm) e1 e2 e3 e4 }
section
variable {X : Cx} {fr : Bool} {os os' ol : List Nat} {e : Expr} {te : TE} {m : Ev → M D} {pos p' : Pos} {y : Str}
theorem pms_setO (i : Nat) (hi : i ∉ os) (hN : X.N.Nodup) (hy : X.N[i]? = some y) (hl : Loc X.env.scope y) (h : PMF X os e te m) (hs : swapsWith e (some (.Name y p')) pos.line X.env = pure false := by rfl)
    (hf : X.fn y = true ∨ X.env.scope.names.lookup y = some .local := by first | exact .inl rfl | exact .inr rfl | assumption) : PMS X fr os (i :: os) ol (.Assign [.Name y p'] e pos) (cSet i m) := by
  obtain ⟨p, s⟩ := h
  refine ⟨_, ps_set hN hy hl p hs hf, fun C G σ H env d D I w => ?_⟩
  unfold cSet at w
  rw [Wp_bind] at w
  exact s C G σ H env d _ I (w.imp fun x d1 k v H' G' A r => k _ H' G' A.gm (I.set_newO A hi r))
end
end Mir
end
section
set_option maxHeartbeats 1000000
namespace Mir
open PySem PySem.Spec PyProof.Rows L2
variable [Tab]
def putFD (f : Str) (x : D) : List (Str × D) → List (Str × D)
  | [] => [(f, x)]
  | (k, u) :: r => if k = f then (k, x) :: r else (k, u) :: putFD f x r
section
variable {K : PySem.W.Frag} {mg : Str → Option Value} {S : SA} {G G' : Hp}
theorem RepF.put {f : Str} {v : V} {x : D} (rv : Rep K mg S G v x) : ∀ {vs : List (Str × V)} {ds : List (Str × D)}, RepF K mg S G vs ds → RepF K mg S G (putF f v vs) (putFD f x ds)
  | _, _, .nil => .cons rv .nil
  | (k, v1) :: vs, (_, d1) :: ds, .cons a b => by
    unfold putF putFD
    by_cases h : k = f
    · rw [if_pos h, if_pos h]; exact .cons rv b
    · rw [if_neg h, if_neg h]; exact .cons a (RepF.put rv b)
theorem RepF.len : ∀ {vs : List (Str × V)} {ds : List (Str × D)}, RepF K mg S G vs ds → vs.length = ds.length
  | _, _, .nil => rfl
  | _, _, .cons _ b => congrArg (· + 1) (RepF.len b)
theorem RepF.mono' {vs : List (Str × V)} {ds : List (Str × D)} (h : RepF K mg S G vs ds) (e : Le G G') : RepF K mg S G' vs ds := RepF.mono e h
end
structure IN (K : PySem.W.Frag) (mg : Str → Option Value) (C : Ct) (x Cc dx : Addr) (env : Ev) (σ : St) (H G : Hp) (d : Drw) (vfs : List (Str × V)) (fs : List (Str × D)) : Prop where
  im : IM K mg C [] env σ H G d
  sf : σ[0]? = some (some (.ref x))
  at_ : H x = some (.ins Cc dx vfs)
  rf : RepF K mg C.S G vfs fs
  g : G x = none
  h : C.H x = none
  n : ¬ inS C.S x
def SimN (K : PySem.W.Frag) (mg : Str → Option Value) (c : Str) (ts : TS) (m : Ev → List (Str × D) → M (List (Str × D))) : Prop := ∀ C x Cc dx G σ H env d vfs fs (D : Ends), mg c = some (.ref Cc) → IN K mg C x Cc dx env σ H G d vfs fs →
  Wp (m env fs d) (fun fs' d' => ∀ H' G' vfs', IN K mg C x Cc dx env σ H' G' d' vfs' fs' → D.nx σ H') → ts D σ H
def PMN (X : Cx) (c : Str) (sts : List Stmt) (m : Ev → List (Str × D) → M (List (Str × D))) : Prop := ∃ ts, PSs X sts ts ∧ SimN X.K X.mg c ts m
theorem IN.later {K : PySem.W.Frag} {mg : Str → Option Value} {C : Ct} {x Cc dx : Addr} {env : Ev} {σ : St} {H G H' G' : Hp} {d d' : Drw} {vfs : List (Str × V)} {fs : List (Str × D)} (I : IN K mg C x Cc dx env σ H G d vfs fs) (A : Aft C.S G H G' H' d') : IN K mg C x Cc dx env σ H' G' d' vfs fs :=
  ⟨I.im.later A, I.sf, A.hp _ _ I.at_ I.n, I.rf.mono' A.gm, A.gn _ ⟨_, I.at_, fun _ z => nomatch z⟩ I.g, I.h, I.n⟩
theorem IN.put {K : PySem.W.Frag} {mg : Str → Option Value} {C : Ct} {x Cc dx : Addr} {env : Ev} {σ : St} {H G : Hp} {d : Drw} {vfs : List (Str × V)} {fs : List (Str × D)} {f : Str} {v : V} {y : D} (I : IN K mg C x Cc dx env σ H G d vfs fs) (r : Rep K mg C.S G v y) :
    IN K mg C x Cc dx env σ (upd H x (.ins Cc dx (putF f v vfs))) G d (putF f v vfs) (putFD f y fs) where
  im := {
    aft := {
      hp := fun b u e n => by
        have z : b ≠ x := fun z => by rw [z, I.h] at e; cases e
        rw [upd_ne z]; exact I.im.aft.hp b u e n
      gm := I.im.aft.gm
      gn := I.im.aft.gn
      st := I.im.st.alt I.n
      sub := ⟨fun b u e => by
        have z : b ≠ x := fun z => by rw [z, I.g] at e; cases e
        rw [upd_ne z]; exact I.im.sub b u e, I.im.sub.w.off (Le.refl G) I.n⟩ }
    len := I.im.len
    sh := I.im.sh
    ow := fun i y hi => (nomatch hi)
    dis := fun i j x y a hi => (nomatch hi) }
  sf := I.sf
  at_ := upd_same
  rf := I.rf.put r
  g := I.g
  h := I.h
  n := I.n
def nNil : Ev → List (Str × D) → M (List (Str × D)) := fun _ fs => pure fs
def nIf (n : Ev → M Bool) (r : Ev → List (Str × D) → M (List (Str × D))) : Ev → List (Str × D) → M (List (Str × D)) := fun env fs => n env >>= fun b => if b = true then bad else r env fs
def nFld (f : Str) (m : Ev → M D) (r : Ev → List (Str × D) → M (List (Str × D))) : Ev → List (Str × D) → M (List (Str × D)) := fun env fs => m env >>= fun y => guardB (decide (fs.length < 1000)) (r env (putFD f y fs))
section
variable {X : Cx} {c : Str} {sts : List Stmt} {r : Ev → List (Str × D) → M (List (Str × D))} {pos p p2 : Pos}
theorem pmn_nil : PMN X c [] nNil := ⟨tNext, pss_nil, fun C x Cc dx G σ H env d vfs fs D hC I w => w H G vfs I⟩
theorem pmn_if {e : Expr} {rs : List Stmt} {tt : TT} {n : Ev → M Bool} (hc : PMT X [] e tt n) (hr : PMN X c sts r) : PMN X c (.If e rs [] pos :: sts) (nIf n r) := by
  obtain ⟨ts, p, s⟩ := hr
  refine ⟨_, pss_cons (ps_if hc.p pss_never pss_nil) p, fun C x Cc dx G σ H env d vfs fs D hC I w => ?_⟩
  unfold nIf at w
  rw [Wp_bind] at w
  refine hc.s C G σ H env d _ I.im (w.imp fun b d1 w1 H1 G1 A => ?_)
  cases b with
  | true => rw [if_pos rfl] at w1; exact w1.elim
  | false =>
    rw [if_neg Bool.false_ne_true] at w1
    exact iteF (s C x Cc dx G1 σ H1 env d1 vfs fs D hC (I.later A) w1)
theorem pmn_fld {e : Expr} {f self : Str} {te : TE} {m : Ev → M D} (hf : HasF X.K X.mg c f) (h : PM X [] e te m) (hr : PMN X c sts r) (hs : swapsWith e (some (.Attribute (.Name self p) f p2)) pos.line X.env = pure false := by rfl)
    (hN : X.N[0]? = some self := by rfl) (hv : Vis X.env.scope self := by first | exact Or.inl rfl | exact Or.inr (Or.inl rfl) | exact Or.inr (Or.inr rfl)) (hd : (self == ("__debug__" : Str)) = false := by decide) (hcd : (self == ("__classdict__" : Str)) = false := by decide) :
    PMN X c (.Assign [.Attribute (.Name self p) f p2] e pos :: sts) (nFld f m r) := by
  obtain ⟨ts, pp, s⟩ := hr
  obtain ⟨C0, hC0, hcl, hna⟩ := hf
  refine ⟨_, pss_cons (ps_fld (pe_var (i := 0) hN hv hd hcd) h.p hs) pp, fun C x Cc dx G σ H env d vfs fs D hC I w => ?_⟩
  rw [hC0] at hC
  have eC := Option.some.inj hC
  injection eC with eC
  subst eC
  unfold nFld at w
  rw [Wp_bind] at w
  refine h.s C G σ H env d _ I.im (w.imp fun y d1 w1 v H1 G1 A rv => ?_)
  rw [Wp_guard] at w1
  have I1 := I.later A
  refine ⟨_, I.sf, x, C0, dx, vfs, rfl, I1.at_, hcl, hna, by rw [I1.rf.len]; exact of_decide_eq_true w1.1, ?_⟩
  exact s C x C0 dx G1 σ _ env d1 _ _ D hC0 (I1.put rv) w1.2
end
def spI (K : PySem.W.Frag) (mg : Str → Option Value) (c : Str) (n : Nat) (m : List D → M (List (Str × D))) : Sp := fun vs H Q _ => ∃ x Cc dx ws S G H0 ds d, mg c = some (.ref Cc) ∧ vs = .ref x :: ws ∧ ws.length = n ∧ H = upd (upd H0 dx (.own x)) x (.ins Cc dx []) ∧ H0 x = none ∧ H0 dx = none ∧ dx ≠ x ∧ StR S H0 d ∧ Sub S G H0 ∧ Reps K mg S G ws ds ∧
  Wp (m ds d) fun fs d' => ∀ H' G' vfs, Aft S G H0 G' H' d' → G' x = none → H' x = some (.ins Cc dx vfs) → RepF K mg S G' vfs fs → Q .non H'
def initM (nl : Nat) (body : Ev → List (Str × D) → M (List (Str × D))) : List D → M (List (Str × D)) := fun ds => body (none :: (ds.map some ++ List.replicate (nl - (ds.length + 1)) none)) []
def DfI (K : PySem.W.Frag) (mg : Str → Option Value) (c qual : Str) (st : Stmt) : Prop := ∃ Cc f fd, mg c = some (.ref Cc) ∧ Mk K Cc f ∧ Fun K "__init__" qual st f fd
def HasI (P : Program) (w : World) (K : PySem.W.Frag) (mg : Str → Option Value) (base : Heap) (k : Nat) (c : Str) (n : Nat) (ks : List Str) (m : List D → M (List (Str × D))) : Prop :=
  ∃ Cc f fd ps, mg c = some (.ref Cc) ∧ Mk K Cc f ∧ FnOk P w K mg base CX0 k f fd ps (spI K mg c (n + ks.length) m) ∧ KBn K fd ps (n + 1) ks (fun us ws => us ++ ws) (fun vs zs => vs ++ zs)
section
variable {P : Program} {w : World} {K : PySem.W.Frag} {mg : Str → Option Value} {base : Heap}
theorem IN.start {N : List Str} {S : SA} {G H0 : Hp} {d : Drw} {x Cc dx : Addr} {ws : List V} {ds : List D} (st : StR S H0 d) (sub : Sub S G H0) (r : Reps K mg S G ws ds) (h1 : H0 x = none) (h2 : H0 dx = none) (h3 : dx ≠ x) :
    IN K mg ⟨S, G, H0⟩ x Cc dx (none :: (ds.map some ++ List.replicate (N.length - (ds.length + 1)) none)) (L2.start N (.ref x :: ws)) (upd (upd H0 dx (.own x)) x (.ins Cc dx [])) G d [] [] := by
  have A1 : Aft S G H0 G (upd H0 dx (.own x)) d := Aft.newF st sub h2
  have A2 : Aft S G (upd H0 dx (.own x)) G (upd (upd H0 dx (.own x)) x (.ins Cc dx [])) d := Aft.newF A1.st A1.sub (by rw [upd_ne (Ne.symm h3)]; exact h1)
  have e : L2.start N (.ref x :: ws) = some (.ref x) :: (ws.map some ++ List.replicate (N.length - (ws.length + 1)) none) := rfl
  exact {
    im := {
      aft := A1.trans A2
      len := by
        rw [e, List.length_cons, List.length_cons, List.length_append, List.length_append, List.length_map, List.length_map, List.length_replicate, List.length_replicate, r.length]
      sh := fun i y _ q => by
        rw [e]
        cases i with
        | zero => cases q
        | succ i =>
          rw [List.getElem?_cons_succ] at q ⊢
          rw [r.length]
          exact Reps.start _ i y r q
      ow := fun i y hi => (nomatch hi)
      dis := fun i j y z a hi => (nomatch hi) }
    sf := by rw [e]; rfl
    at_ := upd_same
    rf := .nil
    g := sub.free h1
    h := h1
    n := st.off h1 }
theorem hasI_of {c qual : Str} {st : Stmt} {N ps ks : List Str} {k n : Nat} {body : Ev → List (Str × D) → M (List (Str × D))} (F : DfI K mg c qual st) (S : FnScope N ps (defScope st)) (hn : ps.length = n + ks.length + 1)
    (hb : ∀ (kV doc pm : Value) (an : Option Addr) (cdv ct : Value) (us ws : List Value), us.length = n + 1 → ws.length = ks.length → bindArgs (PySem.W.fnOf "__init__" qual (defArgs st) (defBody st) (defScope st) .none kV doc pm an cdv ct) ⟨us, ks.zip ws⟩ = pure (ps.zip (us ++ ws)))
    (hbody : ∀ (f : Addr) (cdv : Value) (A : Around) (outer : List Env) (s : Shared) (H : Hp) (E : XK), Room k (A.deeper (envOfC qual (defScope st) s.heap.objs.size f cdv)) →
      PMN (cxOf CX0 P w K mg base N qual (defScope st) f cdv A outer s H E).nox c (defBody st) body) : HasI P w K mg base (k + 1) c n ks (initM N.length body) := by
  obtain ⟨Cc, f, fd, hC, hM, F⟩ := F
  refine ⟨Cc, f, fd, ps, hC, hM, F.ok S (fun vs H Q E h => ?_) fun cdv A outer s H vs Q E hr h => ?_, ?_⟩
  · obtain ⟨x, C', dx, ws, S', G, H0, ds, d, _, e1, e2, _⟩ := h
    rw [e1, List.length_cons, e2, hn]
  · obtain ⟨x, C', dx, ws, S', G, H0, ds, d, hC', e1, e2, e3, h1, h2, h3, st', sub, r, w⟩ := h
    subst e1
    subst e3
    obtain ⟨ts, p, sm⟩ := hbody f cdv A outer s _ E hr
    refine ⟨ts, p, sm ⟨S', G, H0⟩ x C' dx G _ _ _ d [] [] _ hC' (IN.start st' sub r h1 h2 h3) ?_⟩
    unfold initM at w
    exact w.imp fun fs d1 kk H' G' vfs' J => kk H' G' vfs' J.im.aft J.g J.at_ J.rf
  · obtain ⟨oc, od, kV, doc, pm, an, cdv, ct, osl, efd, lk, hcd⟩ := F.ex
    subst efd
    exact ⟨fun s us ws _ l1 l2 => .of_eq (hb kV doc pm an cdv ct us ws l1 l2), fun r1 r2 => r1.append r2⟩
end
def eMk (c : Str) (n nk : Nat) (m : List D → M (List (Str × D))) (ma mk : Ev → M (List D)) : Ev → M D := fun env => ma env >>= fun xs => mk env >>= fun ys => guardB (xs.length == n && ys.length == nk) (m (xs ++ ys) >>= fun fs => pure (.obj c fs))
def tMk (K : PySem.W.Frag) (mg : Str → Option Value) (c : Str) (n nk : Nat) (m : List D → M (List (Str × D))) (ta tk : TA) : TE := fun σ H Q => ∀ Cc, mg c = some (.ref Cc) → tMakeK Cc n nk (spI K mg c (n + nk) m) (fun vs zs => vs ++ zs) E0 ta tk σ H Q
theorem pm_mk {X : Cx} {os : List Nat} {e : Expr} {es : List Expr} {kws : List Keyword} {ta tk : TA} {ma mk : Ev → M (List D)} {c : Str} {p pos : Pos} {k n nk : Nat} {ks : List Str} {m : List D → M (List (Str × D))} (h : HasI X.prog X.w X.K X.mg X.base k c n ks m) (hr : Room (k + 1) X.A) (hg : Gl X c) (ha : PMA X os (e :: es) ta ma) (hk : PMK X os kws tk mk)
    (hnk : ks.length = nk := by rfl) (hall : (backToKw pos (keywordEach kws X.env)).all (·.1.isSome) = true := by rfl) (hks : (backToKw pos (keywordEach kws X.env)).filterMap (·.1) = ks := by rfl) (hdb : (c == ("__debug__" : Str)) = false := by decide)
    (he : starEach (e :: es) X.env = (false, eval e X.env) :: starEach es X.env := by rfl) (hpl : ((backTo pos (starEach (e :: es) X.env)).any (·.1) || (backToKw pos (keywordEach kws X.env)).any (·.1.isNone)) = false := by rfl) :
    PM X os (.Call (.Name c p) (e :: es) kws pos) (tMk X.K X.mg c n nk m ta tk) (eMk c n nk m ma mk) := by
  subst hnk
  obtain ⟨Cc, f, fd, ps, hC, hM, F, hb⟩ := h
  have q := pe_makeK (E := E0) (p := p) hM F hr hg hC hb pass0 ha.p hk.p hall hks hdb he hpl
  refine ⟨⟨fun pins s σ H Q I w => q.run pins s σ H Q I (w Cc hC)⟩, fun C G σ H env d Q I w C' hC' => ?_⟩
  unfold eMk at w
  rw [Wp_bind] at w
  refine ha.s C G σ H env d _ I (w.imp fun xs d1 w1 vs H1 G1 A1 r1 => ?_)
  rw [Wp_bind] at w1
  refine hk.s C G1 σ H1 env d1 _ (I.later A1) (w1.imp fun ys d2 w2 zs H2 G2 A2 r2 => ?_)
  rw [Wp_guard, Wp_bind] at w2
  have hl : xs.length = n ∧ ys.length = ks.length := by simpa using w2.1
  refine ⟨r1.length.trans hl.1, r2.length.trans hl.2, fun x dx h1 h2 h3 => ?_⟩
  refine ⟨x, C', dx, vs ++ zs, C.S, G2, H2, xs ++ ys, d2, hC', rfl, ?_, rfl, h1, h2, h3, A2.st, A2.sub, (r1.mono A2.gm).append r2, w2.2.imp fun fs d3 w3 H' G' vfs A3 gx hx rf => ⟨rfl, ?_⟩⟩
  · rw [List.length_append, r1.length, r2.length, hl.1, hl.2]
  · have AF := A3.freeze (A2.st.off h1) gx h1 hx
    exact w3 _ H' _ (A1.trans (A2.trans AF)) (.obj hC' upd_same (rf.mono' (Le.new gx)))
end Mir
end
section
set_option maxHeartbeats 1000000
namespace Mir
open PySem PySem.Spec PyProof.Rows L2
variable [Tab]
section
variable {X : Cx} {fr : Bool} {os os' ol tv : List Nat} {e o a b tg : Expr} {es : List Expr} {te to ta tb : TE} {tas : TA} {m mo ma mb : Ev → M D} {ms : Ev → M (List D)} {p pos p' apos p2 p3 : Pos} {k n : Nat} {x y cn mt : Str} {mf : List D → M D} {g : TG} {t : Ev → D → Option Ev}
def cAsg (t : Ev → D → Option Ev) (m : Ev → M D) : Ev → M Ctl := fun env => m env >>= fun x => match t env x with
  | some e => pure (.nx e)
  | none => bad
theorem pms_asg (h : PM X os e te m) (hg : PMG X os tv tg g t)
    (hs : swapsWithSole [tg] e pos.line X.env = pure false := by rfl) (hw : swappedStores [tg] e X.env = pure none := by rfl) (h1 : (assignEach [tg] X.env).map (·.2) = [assign tg X.env] := by rfl) :
    PMS X fr os os ol (.Assign [tg] e pos) (cAsg t m) := by
  obtain ⟨p, s⟩ := h
  obtain ⟨pg, sg⟩ := hg
  refine ⟨_, ps_asg p pg hs hw h1, fun C G σ H env d D I w => ?_⟩
  unfold cAsg at w
  rw [Wp_bind] at w
  refine s C G σ H env d _ I (w.imp fun x d1 w1 v H1 G1 A r => ?_)
  cases ht : t env x with
  | none => simp only [ht] at w1; exact w1.elim
  | some e1 =>
    simp only [ht] at w1
    exact sg C G1 σ H1 env d1 v x e1 _ (I.later A) r ht fun σ' I' _ _ => w1 σ' H1 G1 A.gm I'
def cExt (i : Nat) (m : Ev → M D) : Ev → M Ctl := fun env => m env >>= fun y => match y with
  | .lst ys => (match env[i]? with
    | some (some (.lst xs)) => guardB (decide (xs.length + ys.length ≤ sizeLine)) (pure (.nx (env.set i (some (.lst (xs ++ ys))))))
    | _ => bad)
  | _ => bad
theorem pms_ext (i : Nat) (h : PM X os e te m) (hi : i ∈ os := by decide) (hN : X.N[i]? = some x := by rfl) (hv : Vis X.env.scope x := by first | exact Or.inl rfl | exact Or.inr (Or.inl rfl) | exact Or.inr (Or.inr rfl)) (hd : (x == ("__debug__" : Str)) = false := by decide) (hcd : (x == ("__classdict__" : Str)) = false := by decide)
    (hbase : attributeBase (.Name x p2) "extend" X.env (eval (.Name x p2) X.env) = eval (.Name x p2) X.env := by rfl)
    (hfew : ((backTo p3 (starEach [e] X.env)).all (fun x => !x.1) && (backToKw p3 (keywordEach [] X.env)).all (fun x => x.1.isSome) && decide ([e].length + ([] : List Keyword).length + (if ([] : List Keyword).isEmpty then 0 else 1) < 30)) = true := by rfl)
    (hline : (p'.endLine == p3.line) = true := by rfl) (hst : starEach [e] X.env = (false, eval e X.env) :: starEach [] X.env := by rfl) (hplain : (backTo p3 (starEach [] X.env)).any (·.1) = false := by rfl)
    (hs : swapsWith (.Call (.Attribute (.Name x p2) "extend" p') [e] [] p3) none pos.line X.env = pure false := by rfl) :
    PMS X fr os os ol (.Expr (.Call (.Attribute (.Name x p2) "extend" p') [e] [] p3) pos) (cExt i m) := by
  refine ⟨_, ps_expr (pe_bm PySem.F.plainAttrs_list PySem.F.slot_list_extend PySem.F.type_list_extend mt_extend (pe_var (i := i) hN hv hd hcd) (pa_cons h.p pa_nil hst) hbase hfew hline hst hplain) hs, fun C G σ H env d D I w => ?_⟩
  unfold cExt at w
  rw [Wp_bind] at w
  cases hm : m env d with
  | bad => rw [hm] at w; exact w.elim
  | ok y d1 =>
    rw [hm] at w
    cases y with
    | lst ys =>
      obtain ⟨xs, ee, w1⟩ := ownL_some (f := fun xs => guardB (decide (xs.length + ys.length ≤ sizeLine)) (pure (.nx (env.set i (some (.lst (xs ++ ys))))))) w
      rw [Wp_guard] at w1
      obtain ⟨a, e2, oa⟩ := I.owA hi ee (fun z => nomatch z)
      obtain ⟨vs, h1, rv⟩ := oa.o
      refine ⟨_, e2, .inl ⟨rfl, vs, .inl (.inl h1)⟩, ?_⟩
      refine h.s C G σ H env d _ I ?_
      rw [hm]
      intro v H1 G1 A r
      have I1 := I.later A
      have h1' := A.hp a _ h1 oa.n
      obtain ⟨b, ws, eb, hb, rb, nb⟩ := (RepT.of (H := H1) r).lst' A.sub
      refine ⟨a, b, vs, ws, rfl, by rw [eb], h1', hb, by rw [rv.length, rb.length]; exact of_decide_eq_true w1.1, ?_⟩
      obtain ⟨a2, e3, oa2⟩ := I1.owA hi ee (fun z => nomatch z)
      rw [e2] at e3; cases e3
      exact w1.2 σ _ G1 A.gm (I1.mut hi ee e2 oa2 ⟨_, upd_same, (rv.mono A.gm).append rb⟩)
    | _ => exact w.elim
def cClrL (i : Nat) : Ev → M Ctl := fun env => match env[i]? with
  | some (some (.lst _)) => pure (.nx (env.set i (some (.lst []))))
  | _ => bad
theorem pms_clrL (i : Nat) (hi : i ∈ os := by decide) (hN : X.N[i]? = some x := by rfl) (hv : Vis X.env.scope x := by first | exact Or.inl rfl | exact Or.inr (Or.inl rfl) | exact Or.inr (Or.inr rfl)) (hd : (x == ("__debug__" : Str)) = false := by decide) (hcd : (x == ("__classdict__" : Str)) = false := by decide)
    (hbase : attributeBase (.Name x p2) "clear" X.env (eval (.Name x p2) X.env) = eval (.Name x p2) X.env := by rfl)
    (hline : (p'.endLine == p3.line) = true := by rfl)
    (hs : swapsWith (.Call (.Attribute (.Name x p2) "clear" p') [] [] p3) none pos.line X.env = pure false := by rfl) :
    PMS X fr os os ol (.Expr (.Call (.Attribute (.Name x p2) "clear" p') [] [] p3) pos) (cClrL i) := by
  refine ⟨_, ps_expr (pe_bm0 PySem.F.plainAttrs_list PySem.F.slot_list_clear PySem.F.type_list_clear mt_clear (pe_var (i := i) hN hv hd hcd) hbase hline) hs, fun C G σ H env d D I w => ?_⟩
  obtain ⟨xs, ee, w1⟩ := ownL_some (f := fun _ => pure (.nx (env.set i (some (.lst []))))) w
  obtain ⟨a, e2, oa⟩ := I.owA hi ee (fun z => nomatch z)
  obtain ⟨vs, h1, rv⟩ := oa.o
  exact ⟨_, e2, .inl ⟨rfl, vs, .inl (.inl h1)⟩, a, vs, rfl, rfl, h1, w1 σ _ G (Le.refl G) (I.mut hi ee e2 oa ⟨_, upd_same, .nil⟩)⟩
def DfKw (K : PySem.W.Frag) (mg : Str → Option Value) (x : Str) (st : Stmt) (nm : Str) (d : D) : Prop := ∃ f fd v, FunD K x x (defArgs st) (defBody st) (defScope st) [] [(nm, v)] f fd ∧ mg x = some (.ref f) ∧ ∀ S G, Rep K mg S G v d
end
section
variable {P : Program} {w : World} {K : PySem.W.Frag} {mg : Str → Option Value} {base : Heap} {x nm : Str} {st : Stmt} {ps : List Str} {k n : Nat} {m : List D → M D} {d : D}
theorem DfKw.df (h : DfKw K mg x st nm d) : Df K mg x st := by
  obtain ⟨f, fd, v, F, hm, _⟩ := h
  obtain ⟨oc, od, dV, kV, doc, pm, an, cdv, ct, osl, e1, e2, e3, e4, e5⟩ := F.ex
  rcases e4 with ⟨_, e⟩ | ⟨e, _⟩
  · subst e
    exact ⟨f, fd, ⟨⟨oc, od, kV, doc, pm, an, cdv, ct, osl, e1, e2, e3⟩, F.kp⟩, hm⟩
  · exact absurd rfl e
end
end Mir
end
section
set_option maxHeartbeats 1000000
namespace Mir
open PySem PySem.Spec PyProof.Rows L2
variable [Tab]
mutual
def unl : D → Bool
  | .non => true
  | .bl _ => true
  | .int _ => true
  | .str _ => true
  | .lst xs => unls xs
  | .ro xs => unls xs
  | .tup xs => unls xs
  | .dic kvs => unlk kvs
  | .obj _ fs => unlf fs
  | .st => true
  | .ln _ => false
  | .plt xs => unls xs
  | .rot xs => unls xs
  | .dct kvs => unlkT kvs
  | .dtn _ kvs => unlkN kvs
  | .mem _ => false
  | .lam _ => true
  | .lamc _ ws => unls ws
  | .dnk _ kvs => unlkK kvs
  | .exc _ fs => unlf fs
def unls : List D → Bool
  | [] => true
  | x :: xs => unl x && unls xs
def unlk : List (Key × D) → Bool
  | [] => true
  | (_, x) :: xs => unl x && unlk xs
def unlkT : List (List Key × D) → Bool
  | [] => true
  | (_, x) :: xs => unl x && unlkT xs
def unlkN : List (List NKey × D) → Bool
  | [] => true
  | (_, x) :: xs => unl x && unlkN xs
def unlkK : List (NKey × D) → Bool
  | [] => true
  | (_, x) :: xs => unl x && unlkK xs
def unlf : List (Str × D) → Bool
  | [] => true
  | (_, x) :: xs => unl x && unlf xs
end
theorem unlk_eq : ∀ (ds : List (Key × D)), unlk ds = unls (ds.map (·.2))
  | [] => rfl
  | (k, x) :: ds => by rw [unlk, List.map_cons, unls, unlk_eq ds]
theorem unlkT_eq : ∀ (ds : List (List Key × D)), unlkT ds = unls (ds.map (·.2))
  | [] => rfl
  | (k, x) :: ds => by rw [unlkT, List.map_cons, unls, unlkT_eq ds]
theorem unlkN_eq : ∀ (ds : List (List NKey × D)), unlkN ds = unls (ds.map (·.2))
  | [] => rfl
  | (k, x) :: ds => by rw [unlkN, List.map_cons, unls, unlkN_eq ds]
theorem unlkK_eq : ∀ (ds : List (NKey × D)), unlkK ds = unls (ds.map (·.2))
  | [] => rfl
  | (k, x) :: ds => by rw [unlkK, List.map_cons, unls, unlkK_eq ds]
section
variable {K : PySem.W.Frag} {mg : Str → Option Value} {S S' : SA} {G : Hp}
mutual
theorem Rep.unlend (es : S'.s = S.s) : ∀ {v : V} {d : D}, Rep K mg S' G v d → unl d = true → Rep K mg S G v d
  | _, _, .non, _ => .non
  | _, _, .bl b, _ => .bl b
  | _, _, .int i, _ => .int i
  | _, _, .str x, _ => .str x
  | _, _, .lst h r, u => .lst h (Reps.unlend es r (by rw [unl] at u; exact u))
  | _, _, .ro h r, u => .ro h (Reps.unlend es r (by rw [unl] at u; exact u))
  | _, _, .tup h r, u => .tup h (Reps.unlend es r (by rw [unl] at u; exact u))
  | _, _, .dic h r, u => .dic h (RepK.unlend es r (by rw [unl, unlk_eq] at u; exact u))
  | _, _, .dct h r, u => .dct h (RepK.unlend es r (by rw [unl, unlkT_eq] at u; exact u))
  | _, _, .rot h r, u => .rot h (Reps.unlend es r (by rw [unl] at u; exact u))
  | _, _, .obj m h r, u => .obj m h (RepF.unlend es r (by rw [unl] at u; exact u))
  | _, _, .st, _ => by rw [es]; exact .st
  | _, _, .ln _ _, u => by rw [unl] at u; cases u
  | _, _, .plt h n r, u => .plt h n (Reps.unlend es r (by rw [unl] at u; exact u))
  | _, _, .dtn h n r, u => .dtn h n (RepK.unlend es r (by rw [unl, unlkN_eq] at u; exact u))
  | _, _, .mem _, u => by rw [unl] at u; cases u
  | _, _, .lam h h1 h2, _ => .lam h h1 h2
  | _, _, .lamc h h1 h2 r, u => .lamc h h1 h2 (Reps.unlend es r (by rw [unl] at u; exact u))
  | _, _, .dnk h r, u => .dnk h (RepK.unlend es r (by rw [unl, unlkK_eq] at u; exact u))
  | _, _, .exc m h n r, u => .exc m h n (RepF.unlend es r (by rw [unl] at u; exact u))
theorem Reps.unlend (es : S'.s = S.s) : ∀ {vs : List V} {ds : List D}, Reps K mg S' G vs ds → unls ds = true → Reps K mg S G vs ds
  | _, _, .nil, _ => .nil
  | _, _, .cons a b, u => by
    rw [unls, Bool.and_eq_true] at u
    exact .cons (Rep.unlend es a u.1) (Reps.unlend es b u.2)
theorem RepK.unlend (es : S'.s = S.s) : ∀ {κ : Type} {vs : List (κ × V)} {ds : List (κ × D)}, RepK K mg S' G vs ds → unls (ds.map (·.2)) = true → RepK K mg S G vs ds
  | _, _, _, .nil, _ => .nil
  | _, _, _, .cons a b, u => by
    rw [List.map_cons, unls, Bool.and_eq_true] at u
    exact .cons (Rep.unlend es a u.1) (RepK.unlend es b u.2)
theorem RepF.unlend (es : S'.s = S.s) : ∀ {vs : List (Str × V)} {ds : List (Str × D)}, RepF K mg S' G vs ds → unlf ds = true → RepF K mg S G vs ds
  | _, _, .nil, _ => .nil
  | _, _, .cons a b, u => by
    rw [unlf, Bool.and_eq_true] at u
    exact .cons (Rep.unlend es a u.1) (RepF.unlend es b u.2)
end
mutual
theorem Rep.lend (es : S'.s = S.s) (hl : ∀ b vs, S.L b = some vs → S'.L b = some vs) (hw : ∀ b F, S.W b = some F → S'.W b = some F) : ∀ {v : V} {d : D}, Rep K mg S G v d → Rep K mg S' G v d
  | _, _, .non => .non
  | _, _, .bl b => .bl b
  | _, _, .int i => .int i
  | _, _, .str x => .str x
  | _, _, .lst h r => .lst h (Reps.lend es hl hw r)
  | _, _, .ro h r => .ro h (Reps.lend es hl hw r)
  | _, _, .tup h r => .tup h (Reps.lend es hl hw r)
  | _, _, .dic h r => .dic h (RepK.lend es hl hw r)
  | _, _, .dct h r => .dct h (RepK.lend es hl hw r)
  | _, _, .rot h r => .rot h (Reps.lend es hl hw r)
  | _, _, .obj m h r => .obj m h (RepF.lend es hl hw r)
  | _, _, .st => by rw [← es]; exact .st
  | _, _, .ln h r => .ln (hl _ _ h) (Reps.lend es hl hw r)
  | _, _, .plt h n r => .plt h n (Reps.lend es hl hw r)
  | _, _, .dtn h n r => .dtn h n (RepK.lend es hl hw r)
  | _, _, .mem h => .mem (hw _ _ h)
  | _, _, .lam h h1 h2 => .lam h h1 h2
  | _, _, .lamc h h1 h2 r => .lamc h h1 h2 (Reps.lend es hl hw r)
  | _, _, .dnk h r => .dnk h (RepK.lend es hl hw r)
  | _, _, .exc m h n r => .exc m h n (RepF.lend es hl hw r)
theorem Reps.lend (es : S'.s = S.s) (hl : ∀ b vs, S.L b = some vs → S'.L b = some vs) (hw : ∀ b F, S.W b = some F → S'.W b = some F) : ∀ {vs : List V} {ds : List D}, Reps K mg S G vs ds → Reps K mg S' G vs ds
  | _, _, .nil => .nil
  | _, _, .cons a b => .cons (Rep.lend es hl hw a) (Reps.lend es hl hw b)
theorem RepK.lend (es : S'.s = S.s) (hl : ∀ b vs, S.L b = some vs → S'.L b = some vs) (hw : ∀ b F, S.W b = some F → S'.W b = some F) : ∀ {κ : Type} {vs : List (κ × V)} {ds : List (κ × D)}, RepK K mg S G vs ds → RepK K mg S' G vs ds
  | _, _, _, .nil => .nil
  | _, _, _, .cons a b => .cons (Rep.lend es hl hw a) (RepK.lend es hl hw b)
theorem RepF.lend (es : S'.s = S.s) (hl : ∀ b vs, S.L b = some vs → S'.L b = some vs) (hw : ∀ b F, S.W b = some F → S'.W b = some F) : ∀ {vs : List (Str × V)} {ds : List (Str × D)}, RepF K mg S G vs ds → RepF K mg S' G vs ds
  | _, _, .nil => .nil
  | _, _, .cons a b => .cons (Rep.lend es hl hw a) (RepF.lend es hl hw b)
end
end
structure Lend (S S' : SA) (G H : Hp) (d : Drw) : Prop where
  s : S'.s = S.s
  g : S'.g = S.g
  c : S'.c = S.c
  l : ∀ b vs, S.L b = some vs → S'.L b = some vs
  w : S'.W = S.W
  st : StR S' H d
  sub : Sub S' G H
section
variable {S S' : SA} {G H G' H' : Hp} {d d' : Drw}
theorem Lend.inS (h : Lend S S' G H d) {b : Addr} (n : inS S b) : Mir.inS S' b := by
  rcases n with e | e | e | e | e
  · exact .inl (e.trans h.s.symm)
  · exact .inr (.inl (e.trans h.g.symm))
  · exact .inr (.inr (.inl (e.trans h.c.symm)))
  · obtain ⟨vs, ev⟩ := Option.ne_none_iff_exists'.mp e
    exact Mir.inS.l (h.l b vs ev)
  · exact .inr (.inr (.inr (.inr (by rw [h.w]; exact e))))
theorem Lend.lw (h : Lend S S' G H d) (b : Addr) (F : WX) (e : S.W b = some F) : S'.W b = some F := by rw [h.w]; exact e
theorem Lend.back (h : Lend S S' G H d) {d2 : Drw} (st : StR S' H' d2) : StR S H' d2 where
  s := by
    have e := st.s
    have q : stK S' d2 = stK S d2 := by unfold stK; rw [h.g, h.c]
    rw [h.s, q] at e
    exact e
  g := by rw [← h.g]; exact st.g
  c := by rw [← h.c]; exact st.c
  gc := by rw [← h.g, ← h.c]; exact st.gc
  t := fun p hp => by rw [← h.w]; exact st.t p hp
  l := fun b vs e => by
    have q := st.l b vs (h.l b vs e)
    rw [h.s, h.g, h.c] at q
    exact q
  w := fun b F e => by
    have q := st.w b F (h.lw b F e)
    rw [h.s, h.g, h.c] at q
    refine ⟨q.1, q.2.1, q.2.2.1, q.2.2.2.1, ?_⟩
    cases ev : S.L b with
    | none => rfl
    | some vs =>
      have z := h.l b vs ev
      rw [q.2.2.2.2] at z
      cases z
theorem Lend.aft (h : Lend S S' G H d) (A : Aft S' G H G' H' d') : Aft S G H G' H' d' where
  hp := fun b o e n => by
    by_cases k : Mir.inS S' b
    · rcases k with k | k | k | k | k
      · exact absurd (.inl (k.trans h.s)) n
      · exact absurd (.inr (.inl (k.trans h.g))) n
      · exact absurd (.inr (.inr (.inl (k.trans h.c)))) n
      · obtain ⟨vs, ev⟩ := Option.ne_none_iff_exists'.mp k
        rw [(h.st.l b vs ev).1] at e
        rw [(A.st.l b vs ev).1]
        exact e
      · exact absurd (.inr (.inr (.inr (.inr (by rw [← h.w]; exact k))))) n
    · exact A.hp b o e k
  gm := A.gm
  gn := A.gn
  st := h.back A.st
  sub := ⟨fun b o e => ⟨(A.sub b o e).1, fun n => (A.sub b o e).2 (h.inS n)⟩, fun b F e => A.sub.w b F (h.lw b F e)⟩
theorem Lend.refl (st : StR S H d) (sub : Sub S G H) : Lend S S G H d := ⟨rfl, rfl, rfl, fun _ _ e => e, rfl, st, sub⟩
def lendA (S : SA) (a : Addr) (vs : List V) : SA := { S with L := fun b => if b = a then some vs else S.L b }
theorem Lend.one {a : Addr} {vs : List V} (h : Lend S S' G H d) (n : ¬ Mir.inS S' a) (g : G a = none) (e : H a = some (.lst vs)) : Lend S (lendA S' a vs) G H d where
  s := h.s
  g := h.g
  c := h.c
  l := fun b ws q => by
    have q' := h.l b ws q
    show (if b = a then some vs else S'.L b) = some ws
    by_cases z : b = a
    · subst z; exact absurd (Mir.inS.l q') n
    · rw [if_neg z]; exact q'
  w := h.w
  st := { s := h.st.s, g := h.st.g, c := h.st.c, gc := h.st.gc, t := h.st.t, w := fun b F q => by
            have z := h.st.w b F q
            refine ⟨z.1, z.2.1, z.2.2.1, z.2.2.2.1, ?_⟩
            show (if b = a then some vs else S'.L b) = none
            have ne : b ≠ a := fun k => n (by rw [← k]; exact Mir.inS.w (show S'.W b = some F from q))
            rw [if_neg ne]
            exact z.2.2.2.2, l := fun b ws q => by
            have q : (if b = a then some vs else S'.L b) = some ws := q
            by_cases z : b = a
            · subst z
              rw [if_pos rfl] at q
              cases q
              exact ⟨e, fun z => n (.inl z), fun z => n (.inr (.inl z)), fun z => n (.inr (.inr (.inl z)))⟩
            · rw [if_neg z] at q
              exact h.st.l b ws q }
  sub := ⟨fun b o q => ⟨(h.sub b o q).1, fun k => by
    have z : b ≠ a := fun z => by subst z; rw [g] at q; cases q
    rcases k with k | k | k | k | k
    · exact (h.sub b o q).2 (.inl k)
    · exact (h.sub b o q).2 (.inr (.inl k))
    · exact (h.sub b o q).2 (.inr (.inr (.inl k)))
    · have k : (if b = a then some vs else S'.L b) ≠ none := k
      rw [if_neg z] at k
      exact (h.sub b o q).2 (.inr (.inr (.inr (.inl k))))
    · exact (h.sub b o q).2 (.inr (.inr (.inr (.inr k))))⟩, h.sub.w⟩
end
structure PMAL (X : Cx) (os : List Nat) (es : List Expr) (ta : TA) (ms : Ev → M (List D)) : Prop where
  p : PA X es ta
  s : ∀ C G σ H env d Q, IM X.K X.mg C os env σ H G d → Wp (ms env d) (fun xs d' => ∀ vs H' G' S', Aft C.S G H G' H' d' → Lend C.S S' G' H' d' → (∀ b, ¬ inS C.S b → S'.L b ≠ none → ∃ i y, i ∈ os ∧ env[i]? = some (some y) ∧ σ[i]? = some (some (.ref b))) → Reps X.K X.mg S' G' vs xs → Q vs H') → ta σ H Q
section
variable {X : Cx} {os : List Nat} {e : Expr} {es : List Expr} {te : TE} {ta : TA} {m : Ev → M D} {ms : Ev → M (List D)} {x : Str} {p pos : Pos} {k n : Nat} {mf : List D → M D}
end
end Mir
end
section
set_option maxHeartbeats 1000000
namespace Mir
open PySem PySem.Spec PyProof.Rows L2
variable [Tab]
section
variable {X : Cx}
theorem call_tupleP : CallR X (.type "tuple") (fun xs H Q => ∃ p ys, xs = [.ref p] ∧ SqL X.K H p ys ∧ ∀ l o, H l = none → o.dict = none → Q (.ref l) (upd H l (.frz o (.tup ys)))) := fun pins s σ H xs us Q I r h => by
  obtain ⟨p, ys, ex, hs, q⟩ := h
  subst ex
  obtain ⟨u, eu, ru⟩ := vals1 r
  subst eu
  cases ru
  obtain ⟨its, rv, pl, hz⟩ := I.list hs
  refine call_tuple_list pl.isList (fun h' hk => ?_) (by rw [List.size_toArray, ← rv.length]; exact hz)
  have I1 : Inv X pins σ H { s with heap := h' } := I.kept (t' := s.toks) hk
  have I2 : Inv X pins σ (upd H h'.objs.size (.frz { cls := .type "tuple", data := .seq its.toArray } (.tup ys))) { s with heap := h'.push { cls := .type "tuple", data := .seq its.toArray } } :=
    I1.laid (t' := s.toks) (fun b o e => Heap.get?_push_of_some _ e) (Nat.le_refl _) (show ObjOk X.prog X.w _ _ _ (.frz _ (.tup ys)) from ⟨Heap.get?_push_size _ rfl, hz, its, rv, IsTup.new _ _⟩)
  exact ⟨.ref h'.objs.size, _, I2, rfl, q _ _ (I1.hok.fresh (Nat.le_refl _)) rfl⟩
end
section
variable {X : Cx} {os : List Nat} {e : Expr} {te : TE} {m : Ev → M D} {pos p' : Pos}
def dTupleP : D → M D
  | .lst xs => pure (.plt xs)
  | _ => bad
theorem pm_tupleP (hg : Gl X "tuple") (hm : X.mg "tuple" = none) (ha : PMB X os e te m) (he : starEach [e] X.env = (false, eval e X.env) :: starEach [] X.env := by rfl) (hpl : (backTo pos (starEach [] X.env)).any (·.1) = false := by rfl) :
    PM X os (.Call (.Name "tuple" p') [e] [] pos) (tCB (fun xs H Q => ∃ p ys, xs = [.ref p] ∧ SqL X.K H p ys ∧ ∀ l o, H l = none → o.dict = none → Q (.ref l) (upd H l (.frz o (.tup ys)))) (tCons te tNil)) (eUn dTupleP m) :=
  pm_callT1 call_tupleP (fun S G H d x dx Q st sb rx w => by
    unfold dTupleP at w
    split at w
    · obtain ⟨a, vs, e1, h1, r1, n1⟩ := rx.lst' sb
      exact ⟨a, vs, by rw [e1], .inl (.inl h1), fun l o hl hd => w _ _ _ (Aft.new st sb hl) (.plt upd_same hd (r1.mono (Le.new (sb.free hl))))⟩
    · exact w.elim) hg hm (by decide +kernel) ha (by decide) (by decide) he hpl
end
end Mir
end
section
set_option maxHeartbeats 1000000
namespace Mir
open PySem PySem.Spec PyProof.Rows L2
variable [Tab]
section
variable {X : Cx} {fr : Bool} {os os' ol : List Nat} {e a b c : Expr} {es : List Expr} {te ta tb tc : TE} {tas : TA} {m ma mb mc : Ev → M D} {ms : Ev → M (List D)} {pos p' p2 p3 : Pos} {k : Nat} {x y : Str}
theorem RepK.keys {K : PySem.W.Frag} {mg : Str → Option Value} {S : SA} {G : Hp} {κ : Type} : ∀ {vs : List (κ × V)} {ds : List (κ × D)}, RepK K mg S G vs ds → vs.map (·.1) = ds.map (·.1)
  | _, _, .nil => rfl
  | _, _, .cons a b => by rw [List.map_cons, List.map_cons, RepK.keys b]
end
section
variable {X : Cx} {os : List Nat} {tg iter kx vx : Expr} {ifs : List Expr} {scope : Scope} {mi : Ev → M (List D)} {tv : List Nat} {t : Ev → D → Option Ev} {n : Ev → M Bool} {mk mv : Ev → M D} {wi : TI} {g : TG} {tt : TT} {tk te : TE} {pos : Pos} {k : Nat}
end
end Mir
end
section
set_option maxHeartbeats 4000000
namespace Mir
open PySem PySem.Spec PyProof.Rows L2
variable [Tab]
section
variable {X : Cx} {fr : Bool} {os os' ol : List Nat} {e a b c : Expr} {te ta tb : TE} {m ma mb : Ev → M D} {pos p' p2 p3 : Pos} {k : Nat} {x : Str}
theorem fm_congr {α β : Type} {f g : α → Option β} : ∀ {l : List α}, (∀ x ∈ l, f x = g x) → l.filterMap f = l.filterMap g
  | [], _ => rfl
  | a :: l, h => by rw [List.filterMap_cons, List.filterMap_cons, h a (List.mem_cons_self ..), fm_congr fun x m => h x (List.mem_cons_of_mem _ m)]
theorem pick_back (xs : Array Value) : ((List.range xs.size).filterMap fun (k : Nat) => xs[((xs.size : Int) - 1 + (k : Int) * (-1)).toNat]?).toArray = xs.toList.reverse.toArray := by
  have q := PySem.W.krv_all xs.toList.reverse.toArray
  have e : ∀ k ∈ List.range xs.size, xs[((xs.size : Int) - 1 + (k : Int) * (-1)).toNat]? = xs.toList.reverse.toArray[k]? := fun k hk => by
    have lt := List.mem_range.mp hk
    have e1 : ((xs.size : Int) - 1 + (k : Int) * (-1)).toNat = xs.size - 1 - k := by omega
    rw [e1]
    simp [List.getElem?_reverse, lt]
  have sz : xs.toList.reverse.toArray.size = xs.size := by simp
  rw [sz] at q
  rw [fm_congr e, q]
theorem slice_back {prog : Program} {w : World} {A : Around} {E : Value → Shared → Prop} {s : Shared} {sl : Addr} {vl vu vs : Value} {n : Nat} {Q : Int × Int × Nat → Shared → Prop} (hs : s.heap.IsSliceOf sl vl vu vs) (pl : IsPart vl none) (pu : IsPart vu none) (ps : IsPart vs (some (-1)))
    (h : Q ((n : Int) - 1, -1, n) s) : wpAny (model prog w) A (Builtin.Slice.sliceApplied (.ref sl) (pure (n : Int))) Q E s := by
  obtain ⟨o, ho, hcl, hda⟩ := hs
  unfold Builtin.Slice.sliceApplied Builtin.Slice.sliceFields
  refine wpAny_bind (wpAny_bind (wpAny_field ho hda (x := vl) rfl (wpAny_bind (wpAny_field ho hda (x := vu) rfl (wpAny_bind (wpAny_field ho hda (x := vs) rfl (wpAny_pure ?_)))))))
  refine wpAny_bind (HT.slicePart_ ps ?_)
  show wpAny _ _ (if ((-1 : Int) == 0) = true then _ else _) _ _ s
  rw [if_neg (by decide)]
  refine wpAny_bind (HT.slicePart_ pl (wpAny_bind (HT.slicePart_ pu (wpAny_bind (wpAny_pure ?_)))))
  have e : (match Builtin.Slice.sliceAdjust none none (-1) (n : Int) with | (lo, hi) => (lo, (-1 : Int), Builtin.Slice.slicePlaces lo hi (-1))) = ((n : Int) - 1, -1, n) := by
    show ((n : Int) - 1, (-1 : Int), Builtin.Slice.slicePlaces ((n : Int) - 1) (-1) (-1)) = _
    have q : Builtin.Slice.slicePlaces ((n : Int) - 1) (-1) (-1) = n := by
      unfold Builtin.Slice.slicePlaces
      rw [if_neg (by decide)]
      by_cases k : (n : Int) - 1 > -1
      · rw [if_pos k, show (- -1 : Int) = 1 by decide, Int.ediv_one]
        omega
      · rw [if_neg k]
        omega
    rw [q]
  refine wpAny_pure ?_
  have h2 := h
  rw [← e] at h2
  exact h2
theorem getItem_back {prog : Program} {w : World} {A : Around} {E : Value → Shared → Prop} {s : Shared} {t sl : Addr} {items : Array Value} {vl vu vs : Value} {Q : Value → Shared → Prop} (ht : IsTup s.heap t items) (hs : s.heap.IsSliceOf sl vl vu vs) (pl : IsPart vl none) (pu : IsPart vu none) (ps : IsPart vs (some (-1)))
    (h : Q (.ref s.heap.objs.size) { s with heap := s.heap.push { cls := .type "tuple", data := .seq items.toList.reverse.toArray } }) (hz : items.size ≤ sizeLine) : wpAny (model prog w) A (getItem (.ref t) (.ref sl)) Q E s := by
  have fits : sizeOk (.seq items.toList.reverse.toArray) := by
    show items.toList.reverse.toArray.size ≤ sizeLine
    simpa using hz
  obtain ⟨o, ho, hcl, hda⟩ := id hs
  have tys : s.TypeIs (.ref sl) "slice" := ⟨o, ho, hcl⟩
  unfold getItem
  try with_reducible refine wpAny_holding ?_
  first | refine wpAny_bind (wpAny_pure ?_) | skip
  refine wpAny_bind (wpAny_sequenceKey ht.typeIs (by decide) ?_)
  refine wpAny_bind (wpAny_callSpecial?_slot (name := Str.ofString "__getitem__") ht.typeIs PyProof.Rows.slot_tuple_getitem (wpAny_call_entry PyProof.Rows.slot_tuple_getitem ht.typeIs PyProof.Rows.entry_tuple_getitem ?_ (PyProof.Rows.args_tuple_getitem _ _)))
  show wpAny _ _ (Builtin.Tuple.tupleItemsOf (.ref t) >>= _) _ _ s
  refine wpAny_bind (PyProof.Rows.tupleItemsOf_ ht (wpAny_bind (wpAny_typeOf tys ?_)))
  rw [if_pos (by decide)]
  refine wpAny_bind (slice_back hs pl pu ps ?_)
  show wpAny _ _ (if (((items.size : Int) - 1) == 0 && (-1 : Int) == 1 && items.size == items.size) = true then _ else _) _ _ s
  rw [if_neg (by simp), pick_back]
  first
    | exact wpAny_bind (m := Builtin.Tuple.tupleExact _) (wpAny_newObj_type (wpAny_pure ⟨_, rfl, wpAny_pure h⟩) fits)
    | exact wpAny_bind (m := Builtin.Tuple.tupleExact _) (wpAny_newObj_type (wpAny_bind (wpAny_pure (wpAny_pure ⟨_, rfl, wpAny_pure h⟩))) fits)
    | exact wpAny_bind (wpAny_bind (m := Builtin.Tuple.tupleExact _) (wpAny_newObj_type (wpAny_pure (wpAny_pure ⟨_, rfl, wpAny_pure h⟩)) fits))
def tRevT (K : PySem.W.Frag) (te : TE) : TE := fun σ H Q => te σ H fun x H1 => ∃ a xs, x = .ref a ∧ SqT K H1 a xs ∧ ∀ p, H1 p = none → Q (.ref p) (upd H1 p (.tup xs.reverse))
theorem pe_revT {k : Nat} {p1 p2 p3 pos : Pos} (he : PE X e te) : PE X (.Subscript e (.Slice none none (some (.UnaryOp .USub (.Constant (.int 1) k p1) p2)) p3) pos) (tRevT X.K te) := by
  refine ⟨fun pins s σ H Q I q => Subscript_ (thn (he.run pins s σ H _ I q) fun v s1 ⟨x, H1, I1, r1, a, xs, ex, hx, q⟩ => ?_)⟩
  subst ex
  cases r1
  have part : PO X (some (.UnaryOp .USub (.Constant (.int 1) k p1) p2)) (tPart (tUn (rU fun i => .int (-i)) (tC (.int 1)))) := po_some (pe_un un_neg pe_int)
  refine wpAny_Slice (thn (po_none.run pins s1 σ H1 (fun o M => o = none ∧ M = H1) I1 ⟨rfl, rfl⟩) fun vl s2 ⟨l, M2, I2, pl, el, e2⟩ => ?_)
  subst el; subst e2
  refine thn (po_none.run pins s2 σ M2 (fun o M => o = none ∧ M = M2) I2 ⟨rfl, rfl⟩) fun vu s3 ⟨u, M3, I3, pu, eu, e3⟩ => ?_
  subst eu; subst e3
  refine thn (part.run pins s3 σ M3 (fun o M => o = some (-1) ∧ M = M3) I3 ⟨1, rfl, -1, rfl, rfl, rfl⟩) fun vs s4 ⟨o, M4, I4, ps, eo, e4⟩ => ?_
  subst eo; subst e4
  have I5 : Inv X pins σ M4 { s4 with heap := s4.heap.push { cls := .type "slice", data := .fields #[vl, vu, vs] } } := I4.kept (t' := s4.toks) fun b ob q => Heap.get?_push_of_some _ q
  obtain ⟨its, r, ht, hz⟩ := I5.tuple hx
  have hlen := r.length
  show wpAny (model X.prog X.w) X.A (subscriptTail e (.Slice none none (some (.UnaryOp .USub (.Constant (.int 1) k p1) p2)) p3) (.ref a) (.ref s4.heap.objs.size)) (EP X pins σ Q) X.xe { s4 with heap := s4.heap.push { cls := .type "slice", data := .fields #[vl, vu, vs] } }
  refine tail_any (ops := [.ref a, .ref s4.heap.objs.size]) ht.typeIs PyProof.Rows.slot_tuple_getitem.lookup (getItem_back ht (Heap.IsSliceOf.new _ vl vu vs) pl pu ps ?_ (by rw [List.size_toArray]; omega)) (by with_unfolding_all rfl)
  refine ⟨.ref _, _, I5.laid (t' := s4.toks) (o := .tup xs.reverse) (fun b ob q => Heap.get?_push_of_some _ q) (Nat.le_refl _) ?_, rfl, q _ (I5.hok.fresh (Nat.le_refl _))⟩
  exact ⟨by rw [List.length_reverse]; exact hz, _, r.reverse, IsTup.new _ _⟩
def dRevT : D → M D
  | .tup xs => pure (.tup xs.reverse)
  | _ => bad
theorem pm_revT {k : Nat} {p1 p2 p3 pos : Pos} (ha : PMB X os e te m) : PM X os (.Subscript e (.Slice none none (some (.UnaryOp .USub (.Constant (.int 1) k p1) p2)) p3) pos) (tRevT X.K te) (eUn dRevT m) := by
  refine ⟨pe_revT ha.p, fun C G σ H env d Q I w => ?_⟩
  unfold eUn at w
  rw [Wp_bind] at w
  refine ha.s C G σ H env d _ I (w.imp fun x d1 w1 v1 H1 G1 A1 r1 => ?_)
  cases x with
  | tup xs =>
    obtain ⟨a, vs, e1, h1, rr⟩ := r1.tupR A1.sub
    exact ⟨a, vs, e1, .inl (.inl (A1.sub.le _ _ h1)), fun p hp => w1 _ _ _ (A1.trans (Aft.new A1.st A1.sub hp)) (.tup upd_same (rr.reverse.mono (Le.new (A1.sub.free hp))))⟩
  | _ => exact w1.elim
end
end Mir
end
section
set_option maxHeartbeats 4000000
namespace Mir
open PySem PySem.Spec PyProof.Rows L2
variable [Tab]
section
variable {prog : Program} {w : World} {A : Around} {E : Value → Shared → Prop} {s : Shared} {z TI TO i1 i2 : Addr} {fp1 fp2 : List Addr} {n1 n2 i : Nat} {P1 P2 : Nat → Value → Prop} {St1 St2 : Nat → Heap → Prop} {a1 a2 : Value}
end
end Mir
end
section
set_option maxHeartbeats 2000000
namespace Mir
open PySem PySem.Spec PyProof.Rows L2
variable [Tab]
def SIt (b : Bool) (h : Heap) (it a : Addr) (i : Nat) : Prop := match b with
  | true => h.IsListIter it a i
  | false => h.IsTupleIter it a i
def SAt (b : Bool) (h : Heap) (a : Addr) (its : Array Value) : Prop := match b with
  | true => h.IsList a its
  | false => h.IsTuple a its
theorem SIt.at {b : Bool} {h h' : Heap} {it a : Addr} {i : Nat} (x : SIt b h it a i) (k : ∀ o, h.get? it = some o → h'.get? it = some o) : SIt b h' it a i := by
  cases b with
  | true => exact Heap.IsListIter.at x k
  | false => exact Heap.IsTupleIter.at x k
theorem SIt.obj {b : Bool} {h : Heap} {it a : Addr} {i : Nat} (x : SIt b h it a i) : ∃ o, h.get? it = some o ∧ ∀ v, o.data ≠ .cell v := by
  cases b with
  | true => obtain ⟨o, e, _, d⟩ := (show h.IsListIter it a i from x); exact ⟨o, e, fun v q => by rw [d] at q; cases q⟩
  | false => obtain ⟨o, e, _, d⟩ := (show h.IsTupleIter it a i from x); exact ⟨o, e, fun v q => by rw [d] at q; cases q⟩
theorem SAt.at {b : Bool} {h h' : Heap} {a : Addr} {its : Array Value} (x : SAt b h a its) (k : ∀ o, h.get? a = some o → h'.get? a = some o) : SAt b h' a its := by
  cases b with
  | true => exact Heap.IsList.at x k
  | false => exact Heap.IsTuple.at x k
theorem SAt.lt {b : Bool} {h : Heap} {a : Addr} {its : Array Value} (x : SAt b h a its) : a < h.objs.size := by
  cases b with
  | true => obtain ⟨o, e, _⟩ := (show h.IsList a its from x); exact Heap.lt_size e
  | false => obtain ⟨o, e, _⟩ := (show h.IsTuple a its from x); exact Heap.lt_size e
section
variable {X : Cx} {pins : List (Addr × Obj)} {σ : St} {H : Hp} {s : Shared}
end
section
variable {prog : Program} {w : World} {A : Around} {E : Value → Shared → Prop} {s : Shared} {z TI TO i1 i2 : Addr} {fp1 fp2 : List Addr} {n1 n2 i : Nat} {P1 P2 : Nat → Value → Prop} {St1 St2 : Nat → Heap → Prop} {c1 c2 : Value}
end
def zipD : List D → List D → List D
  | x :: xs, y :: ys => .tup [x, y] :: zipD xs ys
  | _, _ => []
def sqD : D → Option (Bool × List D)
  | .lst ds => some (true, ds)
  | .ro ds => some (true, ds)
  | .tup ds => some (false, ds)
  | .rot ds => some (false, ds)
  | _ => none
section
variable {K : PySem.W.Frag} {mg : Str → Option Value} {S : SA} {G : Hp}
end
section
variable {X : Cx} {os : List Nat} {e e2 : Expr} {ta : TA} {ms : Ev → M (List D)} {p p2 pos pos2 tpos : Pos} {elts : List Expr} {kk : Nat}
def dZipI (xs : List D) : M (List D) := match xs with
  | [x, y] => (match sqD x, sqD y with
    | some (true, ds), some (true, es) => pure (zipD ds es)
    | some (false, ds), some (false, es) => pure (zipD ds es)
    | _, _ => bad)
  | _ => bad
end
end Mir
end
section
set_option maxHeartbeats 2000000
namespace Mir
open PySem PySem.Spec PyProof.Rows L2
variable [Tab]
section
variable {prog : Program} {w : World} {A : Around} {E : Value → Shared → Prop} {s : Shared} {r d : Addr} {n : Nat} {P : Nat → Value → Prop} {OK : Heap → Prop}
end
section
variable {X : Cx} {fr : Bool} {os os' ol : List Nat} {e a b : Expr} {te ta tb : TE} {m ma mb : Ev → M D} {p p' apos cpos pos p2 p3 : Pos} {k : Nat} {x y : Str}
end
section
variable {X : Cx} {fr : Bool} {os os' ol : List Nat} {tg iter kx vx : Expr} {ifs : List Expr} {scope : Scope} {own : List (Str × Nat)} {pos spos py : Pos} {wi : TI} {g : TG} {tt : TT} {tk te : TE} {i : Nat} {y : Str} {mi : Ev → M (List D)} {tv : List Nat} {t : Ev → D → Option Ev} {n : Ev → M Bool} {mk mv : Ev → M D}
end
end Mir
end
section
set_option maxHeartbeats 1000000
namespace Mir
open PySem PySem.Spec PyProof.Rows L2
variable [Tab]
section
variable {X : Cx} {fr : Bool} {os os' ol : List Nat} {e a b c : Expr} {es : List Expr} {te ta tb tc : TE} {tas : TA} {m ma mb mc : Ev → M D} {ms : Ev → M (List D)} {pos p' p2 p3 : Pos} {k : Nat} {x y : Str}
end
end Mir
end
section
set_option maxHeartbeats 1000000
namespace Mir
open PySem PySem.Spec PyProof.Rows L2
variable [Tab]
section
variable (K : PySem.W.Frag) (mg : Str → Option Value)
def PEnd (C : Ct) (a : Addr) (G : Hp) (D : Ends) (c : Ctl) (d' : Drw) : Prop := match c with
  | .nx e => ∀ σ' H' G', Le G G' → IM K mg C [0] e σ' H' G' d' → σ'[0]? = some (some (.ref a)) → D.nx σ' H'
  | .ret x => ∀ H' G', Aft C.S C.G C.H G' H' d' → G' a = none → OwnO K mg C.S G' H' a x → D.rt .non H'
  | .brk _ => False
  | .cont _ => False
def SimP (C : Ct) (ts : TS) (m : Ev → M Ctl) : Prop := ∀ G σ H env d (D : Ends) a, IM K mg C [0] env σ H G d → σ[0]? = some (some (.ref a)) → Wp (m env d) (PEnd K mg C a G D) → ts D σ H
end
theorem PEnd.le {K : PySem.W.Frag} {mg : Str → Option Value} {C : Ct} {a : Addr} {G G1 : Hp} {D : Ends} {c : Ctl} {d' : Drw} (h : PEnd K mg C a G D c d') (l : Le G G1) : PEnd K mg C a G1 D c d' := by
  cases c with
  | nx e => exact fun σ2 H2 G2 l2 I2 => h σ2 H2 G2 (l.trans l2) I2
  | ret x => exact h
  | brk e => exact h
  | cont e => exact h
def PP (X : Cx) (st : Stmt) (m : Ev → M Ctl) : Prop := ∃ ts, PS X st ts ∧ ∀ C, SimP X.K X.mg C ts m
def PPs (X : Cx) (sts : List Stmt) (m : Ev → M Ctl) : Prop := ∃ ts, PSs X sts ts ∧ ∀ C, SimP X.K X.mg C ts m
section
variable {X : Cx} {st : Stmt} {rest a b : List Stmt} {c e : Expr} {m ma mb : Ev → M Ctl} {n : Ev → M Bool} {tt : TT} {te : TE} {pos : Pos} {x y : Str} {k : Nat}
theorem simP_seq {K : PySem.W.Frag} {mg : Str → Option Value} {C : Ct} {t u : TS} (h1 : SimP K mg C t ma) (h2 : SimP K mg C u mb) : SimP K mg C (tSeq t u) (cSeq ma mb) := by
  intro G σ H env d D a I e0 w
  unfold cSeq at w
  rw [Wp_bind] at w
  refine h1 G σ H env d { D with nx := u D } a I e0 (w.imp fun c d1 k => ?_)
  cases c with
  | nx e' => exact fun σ' H' G' le I' e1 => h2 G' σ' H' e' d1 D a I' e1 (Wp.imp k fun c2 d2 k2 => k2.le le)
  | ret x => exact k
  | brk e' => exact k
  | cont e' => exact k
theorem pps_cons (h1 : PP X st ma) (h2 : PPs X rest mb) : PPs X (st :: rest) (cSeq ma mb) :=
  let ⟨_, p1, s1⟩ := h1; let ⟨_, p2, s2⟩ := h2; ⟨_, pss_cons p1 p2, fun C => simP_seq (s1 C) (s2 C)⟩
theorem pps_nil : PPs X [] cNx := ⟨_, pss_nil, fun C G σ H env d D a I e0 w => w σ H G (Le.refl G) I e0⟩
end
section
variable {P : Program} {w : World} {K : PySem.W.Frag} {mg : Str → Option Value} {base : Heap}
end
section
variable {X : Cx} {fr : Bool} {os ol : List Nat} {es : List Expr} {ta : TA} {ms : Ev → M (List D)} {x y : Str} {p p2 pos pos2 : Pos} {k n : Nat} {mf : List D → M D}
end
end Mir
end
section
set_option maxHeartbeats 1000000
namespace Mir
open PySem PySem.Spec PyProof.Rows L2
variable [Tab]
def memS (S : SA) (t : Addr) (F : List Key → TV → Prop) : SA := { S with W := fun b => if b = t then some (.mem F) else S.W b }
theorem memS_w {S : SA} {t b : Addr} {F : List Key → TV → Prop} (h : b ≠ t) : (memS S t F).W b = S.W b := if_neg h
theorem memS_t {S : SA} {t : Addr} {F : List Key → TV → Prop} : (memS S t F).W t = some (.mem F) := if_pos rfl
theorem memS_in {S : SA} {t b : Addr} {F : List Key → TV → Prop} (h : inS (memS S t F) b) : inS S b ∨ b = t := by
  rcases h with h | h | h | h | h
  · exact .inl (.inl h)
  · exact .inl (.inr (.inl h))
  · exact .inl (.inr (.inr (.inl h)))
  · exact .inl (.inr (.inr (.inr (.inl h))))
  · by_cases z : b = t
    · exact .inr z
    · rw [memS_w z] at h
      exact .inl (.inr (.inr (.inr (.inr h))))
theorem memS_of {S : SA} {t b : Addr} {F : List Key → TV → Prop} (h : inS S b) : inS (memS S t F) b := by
  rcases h with h | h | h | h | h
  · exact .inl h
  · exact .inr (.inl h)
  · exact .inr (.inr (.inl h))
  · exact .inr (.inr (.inr (.inl h)))
  · by_cases z : b = t
    · subst z
      exact inS.w memS_t
    · exact .inr (.inr (.inr (.inr (by rw [memS_w z]; exact h))))
section
variable {S : SA} {G H G' H' : Hp} {d d' : Drw} {t : Addr} {F : List Key → TV → Prop}
theorem StR.mem (h : StR S H d) (n : ¬ inS S t) (e : H t ≠ none) : StR (memS S t F) H d where
  s := h.s
  g := h.g
  c := h.c
  gc := h.gc
  l := h.l
  w := fun b F' q => by
    by_cases z : b = t
    · subst z
      refine ⟨e, fun z => n (.inl z), fun z => n (.inr (.inl z)), fun z => n (.inr (.inr (.inl z))), ?_⟩
      cases q2 : S.L b with
      | none => exact q2
      | some vs => exact absurd (inS.l q2) n
    · rw [memS_w z] at q
      exact h.w b F' q
  t := fun p hp => by
    have q := h.t p hp
    have z : p.1 ≠ t := fun z => n (by rw [← z]; exact inS.w q)
    rw [memS_w z]; exact q
theorem Sub.mem (h : Sub S G H) (g : G t = none) (e : H t = some (.dT [])) (fin : ∃ ks : List (List Key), ks.length ≤ 10000 ∧ ∀ k tv, F k tv → k ∈ ks) : Sub (memS S t F) G H where
  f := fun b o q => ⟨(h b o q).1, fun k => by
    rcases memS_in k with k | k
    · exact (h b o q).2 k
    · rw [k, g] at q; cases q⟩
  w := fun b F' q => by
    by_cases z : b = t
    · subst z
      rw [memS_t] at q
      cases q
      exact MemA.mk ⟨[], e, .nil, fin, fun _ _ m => nomatch m⟩
    · rw [memS_w z] at q
      exact h.w b F' q
theorem RepN.unlend {K : PySem.W.Frag} {mg : Str → Option Value} {S' : SA} {G0 H0 : Hp} {v : V} {x : D} (es : S'.s = S.s) (h : RepN K mg S' G0 H0 G H v x) (u : unl x = true) : RepN K mg S G0 H0 G H v x := by
  cases h with
  | non => exact .non
  | lst n g h r => exact .lst n g h (Reps.unlend es r (by rw [unl] at u; exact u))
  | dic n g h r => exact .dic n g h (RepK.unlend es r (by rw [unl, unlk_eq] at u; exact u))
  | dct n g h r => exact .dct n g h (RepK.unlend es r (by rw [unl, unlkT_eq] at u; exact u))
  | dtn n g h q r => exact .dtn n g h q (RepK.unlend es r (by rw [unl, unlkN_eq] at u; exact u))
end
section
variable {X : Cx} {c fW : Str} {sts : List Stmt} {r : Ev → List (Str × D) → M (List (Str × D))} {pos p p2 pd : Pos}
end
section
variable {P : Program} {w : World} {K : PySem.W.Frag} {mg : Str → Option Value} {base : Heap}
end
section
variable {X : Cx} {fr : Bool} {os o2 ol : List Nat} {e : Expr} {es : List Expr} {rest : List Stmt} {ta : TA} {ma : Ev → M (List D)} {mrest : Ev → M Ctl} {c fW y : Str} {p p' pos spos : Pos} {k n : Nat} {m : List D → M (List (Str × D))}
end
end Mir
end
section
set_option maxHeartbeats 1000000
namespace Mir
open PySem PySem.Spec PyProof.Rows L2
variable [Tab]
section
variable {P : Program} {w : World} {K : PySem.W.Frag} {mg : Str → Option Value} {base : Heap}
end
section
variable {X : Cx} {os : List Nat} {e : Expr} {m : Ev → M D} {te : TE} {self leans fW : Str} {p1 p2 p3 p4 p5 p6 p7 p8 p9 q1 q2 q3 q4 pos pos2 pos3 : Pos} {k : Nat}
end
end Mir
end
section
set_option maxHeartbeats 1000000
namespace Mir
open PySem PySem.Spec PyProof.Rows L2
variable [Tab]
section
variable {P : Program} {w : World} {K : PySem.W.Frag} {d : Addr} {o : Obj} {es : Array DictEntry} {ep : Nat} {hf : List NKey → Int} {kvs : List NRow}
end
section
variable {X : Cx} {e : Expr} {td : TE} {apos cpos : Pos}
end
end Mir
end
section
set_option maxHeartbeats 1000000
namespace Mir
open PySem PySem.Spec PyProof.Rows L2
variable [Tab]
section
variable {X : Cx} {os : List Nat} {tg iter kx vx : Expr} {ifs : List Expr} {scope : Scope} {mi : Ev → M (List D)} {tv : List Nat} {t : Ev → D → Option Ev} {n : Ev → M Bool} {mk mv : Ev → M D} {wi : TI} {g : TG} {tt : TT} {tk te : TE} {pos : Pos} {k : Nat}
end
end Mir
end
section
set_option maxHeartbeats 1000000
namespace Mir
open PySem PySem.Spec PyProof.Rows L2
variable [Tab]
section
variable {X : Cx} {fr : Bool} {os os' ol : List Nat} {a b e : Expr} {ta tb te : TE} {ma mb m : Ev → M D} {pos p' p2 p3 : Pos} {k : Nat} {x : Str}
end
end Mir
end
section
set_option maxHeartbeats 1000000
namespace Mir
open PySem PySem.Spec PyProof.Rows L2
variable [Tab]
section
variable {P : Program} {w : World} {K : PySem.W.Frag} {tg : Expr} {d : Addr} {o : Obj} {es : Array DictEntry} {ep : Nat} {hf : List NKey → Int} {kvs : List NRow}
end
section
variable {X : Cx} {os : List Nat} {a b e : Expr} {ta tb te : TE} {ma mb m : Ev → M D} {p p' pos pos' : Pos}
end
section
variable {X : Cx} {os : List Nat} {o e : Expr} {to te : TE} {mo m : Ev → M D} {apos cpos p' pos : Pos} {k : Nat}
end
end Mir
end
section
set_option maxHeartbeats 1000000
namespace Mir
open PySem PySem.Spec PyProof.Rows L2
variable [Tab]
section
variable {X : Cx}
end
section
variable {X : Cx} {os : List Nat} {e : Expr} {te : TE} {m : Ev → M D} {pos p' : Pos} {k : Nat}
end
end Mir
end
section
set_option maxHeartbeats 1000000
namespace Mir
open PySem PySem.Spec PyProof.Rows L2
variable [Tab]
def QM (X : Cx) (os : List Nat) (e : Expr) (m : Ev → M D) : Prop := ∃ te, PM X os e te m
def QMB (X : Cx) (os : List Nat) (e : Expr) (m : Ev → M D) : Prop := ∃ te, PMB X os e te m
def QMF (X : Cx) (os : List Nat) (e : Expr) (m : Ev → M D) : Prop := ∃ te, PMF X os e te m
def QMX (f : Bool) (X : Cx) (os : List Nat) (e : Expr) (m : Ev → M D) : Prop := ∃ te, PMX f X os e te m
def QMT (X : Cx) (os : List Nat) (e : Expr) (m : Ev → M Bool) : Prop := ∃ te, PMT X os e te m
def QMW (X : Cx) (os : List Nat) (e : Expr) (m : Ev → M Bool) : Prop := ∃ te, PMW X os e te m
def QMA (X : Cx) (os : List Nat) (es : List Expr) (m : Ev → M (List D)) : Prop := ∃ te, PMA X os es te m
def QMO (X : Cx) (os : List Nat) (e : Option Expr) (m : Ev → M (Option Int)) : Prop := ∃ te, PMO X os e te m
def QMI (X : Cx) (os : List Nat) (tg e : Expr) (m : Ev → M (List D)) : Prop := ∃ te, PMI X os tg e te m
def QMG (X : Cx) (os tv : List Nat) (e : Expr) (t : Ev → D → Option Ev) : Prop := ∃ g, PMG X os tv e g t
def QMGs (X : Cx) (os tv : List Nat) (es : List Expr) (t : Ev → List D → Option Ev) : Prop := ∃ g, PMGs X os tv es g t
def QMTs (X : Cx) (os : List Nat) (es : List Expr) (m : Ev → M Bool) : Prop := ∃ te, PMTs X os es te m
def QMP (X : Cx) (os : List Nat) (pos : Pos) (keys : List (Option Expr)) (values : List Expr) (m : Ev → M (List (Key × D))) : Prop := ∃ trs, PMP X os pos keys values trs m
def QMK (X : Cx) (os : List Nat) (kws : List Keyword) (m : Ev → M (List D)) : Prop := ∃ tk, PMK X os kws tk m
def QMC (X : Cx) (os : List Nat) (e : Expr) (m : Ev → M D) : Prop := ∃ te, PMC X os e te m
theorem QMC.e {X : Cx} {os : List Nat} {e : Expr} {m : Ev → M D} (h : QMC X os e m) : QM X os e m := let ⟨_, h⟩ := h; ⟨_, h.ev⟩
theorem QMC.t {X : Cx} {os : List Nat} {e : Expr} {m : Ev → M D} (h : QMC X os e m) : QMT X os e (tB' m) := let ⟨_, h⟩ := h; ⟨_, h.ts⟩
section
variable {X : Cx} {os : List Nat} {e a b c : Expr} {te ta tb : TE} {m ma mb : Ev → M D} {pos p' : Pos}
theorem QM.toB (h : QM X os e m) : QMB X os e m := by
  obtain ⟨_, h⟩ := h
  exact ⟨_, PM.toB (h := h)⟩
theorem QMF.toB (h : QMF X os e m) : QMB X os e m := by
  obtain ⟨_, h⟩ := h
  exact ⟨_, PMF.toB (h := h)⟩
theorem QMF.toE (h : QMF X os e m) : QM X os e m := by
  obtain ⟨_, h⟩ := h
  exact ⟨_, PMF.toE (h := h)⟩
theorem q_var (i : Nat) {x : Str} {pos : Pos} (ho : i ∉ os := by decide) (hN : X.N[i]? = some x := by rfl) (hv : Vis X.env.scope x := by first | exact Or.inl rfl | exact Or.inr (Or.inl rfl) | exact Or.inr (Or.inr rfl)) (hd : (x == ("__debug__" : Str)) = false := by decide) (hcd : (x == ("__classdict__" : Str)) = false := by decide) : QM X os (.Name x pos) (eVar i) := by
  exact ⟨_, pm_var (i := i) (ho := ho) (hN := hN) (hv := hv) (hd := hd) (hcd := hcd)⟩
theorem qb_var (i : Nat) {x : Str} {pos : Pos} (hN : X.N[i]? = some x := by rfl) (hv : Vis X.env.scope x := by first | exact Or.inl rfl | exact Or.inr (Or.inl rfl) | exact Or.inr (Or.inr rfl)) (hd : (x == ("__debug__" : Str)) = false := by decide) (hcd : (x == ("__classdict__" : Str)) = false := by decide) : QMB X os (.Name x pos) (eVar i) := by
  exact ⟨_, pmb_var (i := i) (hN := hN) (hv := hv) (hd := hd) (hcd := hcd)⟩
theorem q_int {i : Int} {j pos} : QM X os (.Constant (.int i) j pos) (eC (.int i)) := by
  exact ⟨_, pm_int ⟩
theorem q_bl {b j pos} : QM X os (.Constant (.bool b) j pos) (eC (.bl b)) := by
  exact ⟨_, pm_bl ⟩
theorem q_non {j pos} : QM X os (.Constant .none j pos) (eC .non) := by
  exact ⟨_, pm_non ⟩
theorem q_str {x j pos} : QM X os (.Constant (.str x) j pos) (eC (.str x)) := by
  exact ⟨_, pm_str ⟩
theorem q_sub (ha : QMB X os a ma) (hb : QMB X os b mb) : QM X os (.BinOp a .Sub b pos) (eBin dSub ma mb) := by
  obtain ⟨_, ha⟩ := ha
  obtain ⟨_, hb⟩ := hb
  exact ⟨_, pm_sub (ha := ha) (hb := hb)⟩
theorem q_mul (ha : QMB X os a ma) (hb : QMB X os b mb) : QM X os (.BinOp a .Mult b pos) (eBin dMul ma mb) := by
  obtain ⟨_, ha⟩ := ha
  obtain ⟨_, hb⟩ := hb
  exact ⟨_, pm_mul (ha := ha) (hb := hb)⟩
theorem q_mod (ha : QMB X os a ma) (hb : QMB X os b mb) : QM X os (.BinOp a .Mod b pos) (eBin dMod ma mb) := by
  obtain ⟨_, ha⟩ := ha
  obtain ⟨_, hb⟩ := hb
  exact ⟨_, pm_mod (ha := ha) (hb := hb)⟩
theorem q_div (ha : QMB X os a ma) (hb : QMB X os b mb) : QM X os (.BinOp a .FloorDiv b pos) (eBin dDiv ma mb) := by
  obtain ⟨_, ha⟩ := ha
  obtain ⟨_, hb⟩ := hb
  exact ⟨_, pm_div (ha := ha) (hb := hb)⟩
theorem q_pow (ha : QMB X os a ma) (hb : QMB X os b mb) : QM X os (.BinOp a .Pow b pos) (eBin dPow ma mb) := by
  obtain ⟨_, ha⟩ := ha
  obtain ⟨_, hb⟩ := hb
  exact ⟨_, pm_pow (ha := ha) (hb := hb)⟩
theorem q_lt (ha : QMB X os a ma) (hb : QMB X os b mb) : QMC X os (.Compare a [.Lt] [b] pos) (eBin dLt ma mb) := by
  obtain ⟨_, ha⟩ := ha
  obtain ⟨_, hb⟩ := hb
  exact ⟨_, pm_lt (ha := ha) (hb := hb)⟩
theorem q_gt (ha : QMB X os a ma) (hb : QMB X os b mb) : QMC X os (.Compare a [.Gt] [b] pos) (eBin dGt ma mb) := by
  obtain ⟨_, ha⟩ := ha
  obtain ⟨_, hb⟩ := hb
  exact ⟨_, pm_gt (ha := ha) (hb := hb)⟩
theorem q_ge (ha : QMB X os a ma) (hb : QMB X os b mb) : QMC X os (.Compare a [.GtE] [b] pos) (eBin dGe ma mb) := by
  obtain ⟨_, ha⟩ := ha
  obtain ⟨_, hb⟩ := hb
  exact ⟨_, pm_ge (ha := ha) (hb := hb)⟩
theorem q_neg (ha : QMB X os a ma) : QM X os (.UnaryOp .USub a pos) (eNeg ma) := by
  obtain ⟨_, ha⟩ := ha
  exact ⟨_, pm_neg (ha := ha)⟩
theorem qt_val (h : QM X os e m) (he : ∀ whole, isTrue e X.env whole = (do let v ← whole; standAt e.pos; holding [v] (truthy v)) := by intro _; rfl) : QMT X os e (tB' m) := by
  obtain ⟨_, h⟩ := h
  exact ⟨_, pmt_val (h := h) (he := he)⟩
variable {rest : List Expr} {ua ub tt : TT} {na nb : Ev → M Bool}
theorem QMW.t (h : QMW X os e na) : QMT X os e na := by
  obtain ⟨_, h⟩ := h
  exact ⟨_, PMW.t (h := h)⟩
theorem qw_and1 (h : QMT X os a na) : QMW X os (.BoolOp .And [a] pos) na := by
  obtain ⟨_, h⟩ := h
  exact ⟨_, pmw_and1 (h := h)⟩
theorem qw_or1 (h : QMT X os a na) : QMW X os (.BoolOp .Or [a] pos) na := by
  obtain ⟨_, h⟩ := h
  exact ⟨_, pmw_or1 (h := h)⟩
theorem qw_and (ha : QMT X os a na) (hb : QMW X os (.BoolOp .And (b :: rest) pos) nb) : QMW X os (.BoolOp .And (a :: b :: rest) pos) (tAnd' na nb) := by
  obtain ⟨_, ha⟩ := ha
  obtain ⟨_, hb⟩ := hb
  exact ⟨_, pmw_and (ha := ha) (hb := hb)⟩
theorem qw_or (ha : QMT X os a na) (hb : QMW X os (.BoolOp .Or (b :: rest) pos) nb) : QMW X os (.BoolOp .Or (a :: b :: rest) pos) (tOr' na nb) := by
  obtain ⟨_, ha⟩ := ha
  obtain ⟨_, hb⟩ := hb
  exact ⟨_, pmw_or (ha := ha) (hb := hb)⟩
theorem qt_not (ha : QMT X os a na) : QMT X os (.UnaryOp .Not a pos) (tNot' na) := by
  obtain ⟨_, ha⟩ := ha
  exact ⟨_, pmt_not (ha := ha)⟩
theorem q_one {op} (h : QM X os a ma) : QM X os (.BoolOp op [a] pos) ma := by
  obtain ⟨_, h⟩ := h
  exact ⟨_, pm_one (h := h)⟩
theorem q_and (ha : QM X os a ma) (hb : QM X os (.BoolOp .And (b :: rest) pos) mb) : QM X os (.BoolOp .And (a :: b :: rest) pos) (eAnd ma mb) := by
  obtain ⟨_, ha⟩ := ha
  obtain ⟨_, hb⟩ := hb
  exact ⟨_, pm_and (ha := ha) (hb := hb)⟩
theorem q_or (ha : QM X os a ma) (hb : QM X os (.BoolOp .Or (b :: rest) pos) mb) : QM X os (.BoolOp .Or (a :: b :: rest) pos) (eOr ma mb) := by
  obtain ⟨_, ha⟩ := ha
  obtain ⟨_, hb⟩ := hb
  exact ⟨_, pm_or (ha := ha) (hb := hb)⟩
theorem q_not (ha : QM X os a ma) : QM X os (.UnaryOp .Not a pos) (eNot ma) := by
  obtain ⟨_, ha⟩ := ha
  exact ⟨_, pm_not (ha := ha)⟩
theorem q_if (hc : QMT X os c na) (ha : QM X os a ma) (hb : QM X os b mb) : QM X os (.IfExp c a b pos) (eIf na ma mb) := by
  obtain ⟨_, hc⟩ := hc
  obtain ⟨_, ha⟩ := ha
  obtain ⟨_, hb⟩ := hb
  exact ⟨_, pm_if (hc := hc) (ha := ha) (hb := hb)⟩
end
section
variable {X : Cx} {os : List Nat} {e : Expr} {es : List Expr} {te : TE} {ta : TA} {m : Ev → M D} {ms : Ev → M (List D)} {pos : Pos}
theorem qa_nil  : QMA X os [] aNil := by
  exact ⟨_, pma_nil ⟩
theorem qa_cons (ha : QM X os e m) (hr : QMA X os es ms) (hs : starEach (e :: es) X.env = (false, eval e X.env) :: starEach es X.env := by rfl) : QMA X os (e :: es) (aCons m ms) := by
  obtain ⟨_, ha⟩ := ha
  obtain ⟨_, hr⟩ := hr
  exact ⟨_, pma_cons (ha := ha) (hr := hr) (hs := hs)⟩
end
section
variable {X : Cx} {os : List Nat} {e : Expr} {es : List Expr} {ta : TA} {m : Ev → M D} {ms : Ev → M (List D)} {pos : Pos}
theorem q_tup {x1} (h : QMA X os es ms) : QM X os (.Tuple es x1 pos) (eTup ms) := by
  obtain ⟨_, h⟩ := h
  exact ⟨_, pm_tup (h := h)⟩
theorem qf_lst (h : QMA X os es ms) : QMF X os (.List es pos) (eLst ms) := by
  obtain ⟨_, h⟩ := h
  exact ⟨_, pmf_lst (h := h)⟩
end
section
variable (K : PySem.W.Frag) (mg : Str → Option Value)
end
section
variable {X : Cx} {os : List Nat} {e o : Expr} {es : List Expr} {te to : TE} {ta : TA} {m mo : Ev → M D} {ms : Ev → M (List D)} {x c mt : Str} {p pos apos : Pos} {k n : Nat} {f : Addr} {fd : FuncData} {ps : List Str} {mf : List D → M D} {Cc : Addr}
end
section
variable {X : Cx} {os : List Nat} {e o : Expr} {es : List Expr} {te to : TE} {ta : TA} {m mo : Ev → M D} {ms : Ev → M (List D)} {x c mt : Str} {p pos apos : Pos} {k n : Nat} {f : Addr} {fd : FuncData} {ps : List Str} {mf : List D → M D} {Cc : Addr}
end
section
variable {X : Cx} {fr : Bool} {os os' o2 ol : List Nat} {e c : Expr} {es : List Expr} {te : TE} {tt : TT} {m : Ev → M D} {n : Ev → M Bool} {ms : Ev → M (List D)} {pos : Pos} {st : Stmt} {rest a b : List Stmt} {ma mb : Ev → M Ctl}
theorem qs_ret (h : QM X os e m) : PMS X false os os' ol (.Return (some e) pos) (cRet m) := by
  obtain ⟨_, h⟩ := h
  exact pms_ret (h := h)
end
section
variable {K : PySem.W.Frag} {mg : Str → Option Value} {C : Ct} {os : List Nat} {env : Ev} {σ : St} {G H G' H' : Hp} {d d' : Drw} {v : V} {x : D} {i : Nat}
end
section
variable {X : Cx} {fr : Bool} {os os' ol : List Nat} {e c tg iter : Expr} {es : List Expr} {te : TE} {ta : TA} {tt : TT} {m : Ev → M D} {n : Ev → M Bool} {pos p' : Pos} {st : Stmt} {body : List Stmt} {mb : Ev → M Ctl} {y : Str}
theorem qs_set (i : Nat) (hi : i ∉ os) (hN : X.N.Nodup) (hy : X.N[i]? = some y) (hl : Loc X.env.scope y) (h : QM X os e m) (hs : swapsWith e (some (.Name y p')) pos.line X.env = pure false := by rfl) (hf : X.fn y = true ∨ X.env.scope.names.lookup y = some .local := by first | exact .inl rfl | exact .inr rfl | assumption) : PMS X fr os os ol (.Assign [.Name y p'] e pos) (cSet i m) := by
  obtain ⟨_, h⟩ := h
  exact pms_set (i := i) (hi := hi) (hN := hN) (hy := hy) (hl := hl) (h := h) (hs := hs) (hf := hf)
theorem qs_setN (i : Nat) (hi : i ∈ os) (hN : X.N.Nodup) (hy : X.N[i]? = some y) (hl : Loc X.env.scope y) (h : QMF X os e m) (hs : swapsWith e (some (.Name y p')) pos.line X.env = pure false := by rfl) (hf : X.fn y = true ∨ X.env.scope.names.lookup y = some .local := by first | exact .inl rfl | exact .inr rfl | assumption) : PMS X fr os os ol (.Assign [.Name y p'] e pos) (cSet i m) := by
  obtain ⟨_, h⟩ := h
  exact pms_setN (i := i) (hi := hi) (hN := hN) (hy := hy) (hl := hl) (h := h) (hs := hs) (hf := hf)
theorem qg_name (i : Nat) (hi : i ∉ os) (hN : X.N.Nodup) (hy : X.N[i]? = some y) (hl : Loc X.env.scope y) (hf : X.fn y = true ∨ X.env.scope.names.lookup y = some .local := by first | exact .inl rfl | exact .inr rfl | assumption) : QMG X os [i] (.Name y pos) (gN i) := by
  exact ⟨_, pmg_name (i := i) (hi := hi) (hN := hN) (hy := hy) (hl := hl) (hf := hf)⟩
theorem qgs_nil  : QMGs X os [] [] gsNil := by
  exact ⟨_, pmgs_nil ⟩
variable {tv tw : List Nat} {g1 : TG} {g2 : TGs} {t : Ev → D → Option Ev} {u : Ev → List D → Option Ev}
theorem qgs_cons (h1 : QMG X os tv e t) (h2 : QMGs X os tw es u) (hs : (assignEach (e :: es) X.env).map (·.2) = assign e X.env :: (assignEach es X.env).map (·.2) := by rfl) : QMGs X os (tv ++ tw) (e :: es) (gsCons t u) := by
  obtain ⟨_, h1⟩ := h1
  obtain ⟨_, h2⟩ := h2
  exact ⟨_, pmgs_cons (h1 := h1) (h2 := h2) (hs := hs)⟩
theorem qg_tup {k n : Nat} (hc : X.calm = true) (h : QMGs X os tv es u) (hlen : ∀ env xs e, u env xs = some e → xs.length = n) (hn : (assignEach es X.env).length = n := by rfl) (hst : (assignEach es X.env).findIdx? (·.1) = none := by rfl) : QMG X os tv (.Tuple es k pos) (gT u) := by
  obtain ⟨_, h⟩ := h
  exact ⟨_, pmg_tup (hc := hc) (h := h) (hlen := hlen) (hn := hn) (hst := hst)⟩
theorem qi_range1 {a : Expr} {ms : Ev → M (List D)} (hg : Gl X "range") (hm : X.mg "range" = none) (ha : QMA X os [a] ms) (hs : starEach [a] X.env = [(false, eval a X.env)] := by rfl) (h1 : ∀ env d xs d', ms env d = .ok xs d' → xs.length = 1) : QMI X os tg (.Call (.Name "range" p') [a] [] pos) (iRange ms) := by
  obtain ⟨_, ha⟩ := ha
  exact ⟨_, pmi_range1 (hg := hg) (hm := hm) (ha := ha) (hs := hs) (h1 := h1)⟩
theorem qts_nil  : QMTs X os [] nYes := by
  exact ⟨_, pmts_nil ⟩
theorem qts_one {c : Expr} {n : Ev → M Bool} (h : QMT X os c n) : QMTs X os [c] n := by
  obtain ⟨_, h⟩ := h
  exact ⟨_, pmts_one (h := h)⟩
variable {elt : Expr} {ifs : List Expr} {scope : Scope} {mi : Ev → M (List D)} {tv : List Nat} {t : Ev → D → Option Ev} {me : Ev → M D} {wi : TI} {g : TG}
end
section
variable {P : Program} {w : World} {K : PySem.W.Frag} {mg : Str → Option Value} {base : Heap}
end
section
end
section
variable {K : PySem.W.Frag} {mg : Str → Option Value} {S : SA} {G H : Hp}
section
end
end
section
variable {X : Cx} {os : List Nat} {e a b c : Expr} {es : List Expr} {te ta tb tc : TE} {tas : TA} {m ma mb mc : Ev → M D} {ms : Ev → M (List D)} {pos p' : Pos} {k : Nat} {x : Str}
theorem q_eq (hr : Room k X.A) (ha : QMB X os a ma) (hb : QMB X os b mb) : QMC X os (.Compare a [.Eq] [b] pos) (eBin dEq ma mb) := by
  obtain ⟨_, ha⟩ := ha
  obtain ⟨_, hb⟩ := hb
  exact ⟨_, pm_eq (hr := hr) (ha := ha) (hb := hb)⟩
theorem q_ne (hr : Room k X.A) (ha : QMB X os a ma) (hb : QMB X os b mb) : QMC X os (.Compare a [.NotEq] [b] pos) (eBin dNe ma mb) := by
  obtain ⟨_, ha⟩ := ha
  obtain ⟨_, hb⟩ := hb
  exact ⟨_, pm_ne (hr := hr) (ha := ha) (hb := hb)⟩
theorem q_isN (ha : QMB X os a ma) (hb : QMB X os b mb) : QMC X os (.Compare a [.Is] [b] pos) (eBin (dIsN false) ma mb) := by
  obtain ⟨_, ha⟩ := ha
  obtain ⟨_, hb⟩ := hb
  exact ⟨_, pm_isN (ha := ha) (hb := hb)⟩
theorem q_notN (ha : QMB X os a ma) (hb : QMB X os b mb) : QMC X os (.Compare a [.IsNot] [b] pos) (eBin (dIsN true) ma mb) := by
  obtain ⟨_, ha⟩ := ha
  obtain ⟨_, hb⟩ := hb
  exact ⟨_, pm_notN (ha := ha) (hb := hb)⟩
theorem q_add (ha : QMB X os a ma) (hb : QMB X os b mb) : QM X os (.BinOp a .Add b pos) (eBin dAdd ma mb) := by
  obtain ⟨_, ha⟩ := ha
  obtain ⟨_, hb⟩ := hb
  exact ⟨_, pm_add (ha := ha) (hb := hb)⟩
theorem q_len (hg : Gl X "len") (hm : X.mg "len" = none) (ha : QMB X os e m) (he : starEach [e] X.env = (false, eval e X.env) :: starEach [] X.env := by rfl) (hpl : (backTo pos (starEach [] X.env)).any (·.1) = false := by rfl) : QM X os (.Call (.Name "len" p') [e] [] pos) (eUn dLen m) := by
  obtain ⟨_, ha⟩ := ha
  exact ⟨_, pm_len (hg := hg) (hm := hm) (ha := ha) (he := he) (hpl := hpl)⟩
theorem qf_list (hg : Gl X "list") (hm : X.mg "list" = none) (ha : QMB X os e m) (he : starEach [e] X.env = (false, eval e X.env) :: starEach [] X.env := by rfl) (hpl : (backTo pos (starEach [] X.env)).any (·.1) = false := by rfl) : QMF X os (.Call (.Name "list" p') [e] [] pos) (eUn dList m) := by
  obtain ⟨_, ha⟩ := ha
  exact ⟨_, pmf_list (hg := hg) (hm := hm) (ha := ha) (he := he) (hpl := hpl)⟩
theorem q_tuple (hg : Gl X "tuple") (hm : X.mg "tuple" = none) (ha : QMB X os e m) (he : starEach [e] X.env = (false, eval e X.env) :: starEach [] X.env := by rfl) (hpl : (backTo pos (starEach [] X.env)).any (·.1) = false := by rfl) : QM X os (.Call (.Name "tuple" p') [e] [] pos) (eUn dTuple m) := by
  obtain ⟨_, ha⟩ := ha
  exact ⟨_, pm_tuple (hg := hg) (hm := hm) (ha := ha) (he := he) (hpl := hpl)⟩
theorem q_all (hc : X.calm = true) (hg : Gl X "all") (hm : X.mg "all" = none) (ha : QMB X os e m) (he : starEach [e] X.env = (false, eval e X.env) :: starEach [] X.env := by rfl) (hpl : (backTo pos (starEach [] X.env)).any (·.1) = false := by rfl) : QM X os (.Call (.Name "all" p') [e] [] pos) (eUn dAll m) := by
  obtain ⟨_, ha⟩ := ha
  exact ⟨_, pm_all (hc := hc) (hg := hg) (hm := hm) (ha := ha) (he := he) (hpl := hpl)⟩
end
section
variable {K : PySem.W.Frag} {mg : Str → Option Value} {S : SA} {G H : Hp}
end
section
variable {X : Cx} {fr : Bool} {os os' ol : List Nat} {e a b c : Expr} {es : List Expr} {te ta tb tc : TE} {tas : TA} {m ma mb mc : Ev → M D} {ms : Ev → M (List D)} {pos p' : Pos} {k : Nat} {x y : Str}
theorem qo_none  : QMO X os none oNone := by
  exact ⟨_, pmo_none ⟩
theorem qo_some (h : QMB X os e m) : QMO X os (some e) (oSome m) := by
  obtain ⟨_, h⟩ := h
  exact ⟨_, pmo_some (h := h)⟩
variable {lo hi : Option Expr} {tl th : TO} {ml mh : Ev → M (Option Int)} {p2 : Pos}
theorem q_sl (ha : QMB X os a ma) (hl : QMO X os lo ml) (hh : QMO X os hi mh) : QM X os (.Subscript a (.Slice lo hi none p2) pos) (eSl ma ml mh) := by
  obtain ⟨_, ha⟩ := ha
  obtain ⟨_, hl⟩ := hl
  obtain ⟨_, hh⟩ := hh
  exact ⟨_, pm_sl (ha := ha) (hl := hl) (hh := hh)⟩
theorem qf_rev {kk : Nat} {p1 p3 : Pos} (ha : QMB X os a ma) : QMF X os (.Subscript a (.Slice none none (some (.UnaryOp .USub (.Constant (.int 1) kk p1) p2)) p3) pos) (eUn dRev ma) := by
  obtain ⟨_, ha⟩ := ha
  exact ⟨_, pmf_rev (ha := ha)⟩
theorem q_isi2 {T T2 : Str} {n n2 : String} (g g2 : D → Bool) (hk : ∀ x t, tyN x = some t → kitB t n = some (g x)) (hk2 : ∀ x t, tyN x = some t → kitB t n2 = some (g2 x)) (hg : Gl X "isinstance") (hm : X.mg "isinstance" = none) (gT : Gl X T) (mT : X.mg T = none) (hT : bootBuiltins T = some (.type n)) (gT2 : Gl X T2) (mT2 : X.mg T2 = none) (hT2 : bootBuiltins T2 = some (.type n2)) (ha : QMB X os a ma) {pT pT2 pU : Pos} {x1} (hn : T ≠ "__name__" := by decide) (hd : (T == ("__debug__" : Str)) = false := by decide) (hn2 : T2 ≠ "__name__" := by decide) (hd2 : (T2 == ("__debug__" : Str)) = false := by decide) (he : starEach [a, .Tuple [.Name T pT, .Name T2 pT2] x1 pU] X.env = (false, eval a X.env) :: starEach [.Tuple [.Name T pT, .Name T2 pT2] x1 pU] X.env := by rfl) (he2 : starEach [.Tuple [.Name T pT, .Name T2 pT2] x1 pU] X.env = (false, eval (.Tuple [.Name T pT, .Name T2 pT2] x1 pU) X.env) :: starEach [] X.env := by rfl) (he3 : starEach [.Name T pT, .Name T2 pT2] X.env = (false, eval (.Name T pT) X.env) :: starEach [.Name T2 pT2] X.env := by rfl) (he4 : starEach [.Name T2 pT2] X.env = (false, eval (.Name T2 pT2) X.env) :: starEach [] X.env := by rfl) (hpl : (backTo pos (starEach [.Tuple [.Name T pT, .Name T2 pT2] x1 pU] X.env)).any (·.1) = false := by rfl) : QM X os (.Call (.Name "isinstance" p') [a, .Tuple [.Name T pT, .Name T2 pT2] x1 pU] [] pos) (eUn (dIsi fun x => g x || g2 x) ma) := by
  obtain ⟨_, ha⟩ := ha
  exact ⟨_, pm_isi2 (g := g) (g2 := g2) (hk := hk) (hk2 := hk2) (hg := hg) (hm := hm) (gT := gT) (mT := mT) (hT := hT) (gT2 := gT2) (mT2 := mT2) (hT2 := hT2) (ha := ha) (hn := hn) (hd := hd) (hn2 := hn2) (hd2 := hd2) (he := he) (he2 := he2) (he3 := he3) (he4 := he4) (hpl := hpl)⟩
end
section
variable {K : PySem.W.Frag} {mg : Str → Option Value} {C : Ct} {os : List Nat} {env : Ev} {σ : St} {G H G' H' : Hp} {d d' : Drw} {v : V} {x x' : D} {i : Nat} {a : Addr}
end
section
variable {K : PySem.W.Frag} {mg : Str → Option Value} {S : SA} {G : Hp}
end
section
variable {X : Cx} {fr : Bool} {os os' ol : List Nat} {e a b c : Expr} {es : List Expr} {te ta tb tc : TE} {tas : TA} {m ma mb mc : Ev → M D} {ms : Ev → M (List D)} {pos p' p2 p3 : Pos} {k : Nat} {x y : Str}
theorem qf_dnew  : QMF X os (.Dict [] [] pos) (eC (.dic [])) := by
  exact ⟨_, pmf_dnew ⟩
theorem qs_app (i : Nat) (h : QM X os e m) (hi : i ∈ os := by decide) (hN : X.N[i]? = some x := by rfl) (hv : Vis X.env.scope x := by first | exact Or.inl rfl | exact Or.inr (Or.inl rfl) | exact Or.inr (Or.inr rfl)) (hd : (x == ("__debug__" : Str)) = false := by decide) (hcd : (x == ("__classdict__" : Str)) = false := by decide) (hbase : attributeBase (.Name x p2) "append" X.env (eval (.Name x p2) X.env) = eval (.Name x p2) X.env := by rfl) (hfew : ((backTo p3 (starEach [e] X.env)).all (fun x => !x.1) && (backToKw p3 (keywordEach [] X.env)).all (fun x => x.1.isSome) && decide ([e].length + ([] : List Keyword).length + (if ([] : List Keyword).isEmpty then 0 else 1) < 30)) = true := by rfl) (hline : (p'.endLine == p3.line) = true := by rfl) (hst : starEach [e] X.env = (false, eval e X.env) :: starEach [] X.env := by rfl) (hplain : (backTo p3 (starEach [] X.env)).any (·.1) = false := by rfl) (hs : swapsWith (.Call (.Attribute (.Name x p2) "append" p') [e] [] p3) none pos.line X.env = pure false := by rfl) : PMS X fr os os ol (.Expr (.Call (.Attribute (.Name x p2) "append" p') [e] [] p3) pos) (cApp i m) := by
  obtain ⟨_, h⟩ := h
  exact pms_app (i := i) (h := h) (hi := hi) (hN := hN) (hv := hv) (hd := hd) (hcd := hcd) (hbase := hbase) (hfew := hfew) (hline := hline) (hst := hst) (hplain := hplain) (hs := hs)
theorem qs_setL (i : Nat) (h : QM X os e m) (hj : QMB X os b mb) (hi : i ∈ os := by decide) (hN : X.N[i]? = some x := by rfl) (hv : Vis X.env.scope x := by first | exact Or.inl rfl | exact Or.inr (Or.inl rfl) | exact Or.inr (Or.inr rfl)) (hd : (x == ("__debug__" : Str)) = false := by decide) (hcd : (x == ("__classdict__" : Str)) = false := by decide) (ha : ∀ v, assign (.Subscript (.Name x p2) b p3) X.env v = (do
      let ov ← holding [v] (eval (.Name x p2) X.env)
      let iv ← holding [v, ov] (eval b X.env)
      standAt p3
      holding [v, ov, iv] (setItem ov iv v)
      release [v, ov, iv] []) := by intro _; rfl) (hs : swapsWithSole [.Subscript (.Name x p2) b p3] e pos.line X.env = pure false := by rfl) (hw : swappedStores [.Subscript (.Name x p2) b p3] e X.env = pure none := by rfl) (h1 : (assignEach [.Subscript (.Name x p2) b p3] X.env).map (·.2) = [assign (.Subscript (.Name x p2) b p3) X.env] := by rfl) : PMS X fr os os ol (.Assign [.Subscript (.Name x p2) b p3] e pos) (cSetL i mb m) := by
  obtain ⟨_, h⟩ := h
  obtain ⟨_, hj⟩ := hj
  exact pms_setL (i := i) (h := h) (hj := hj) (hi := hi) (hN := hN) (hv := hv) (hd := hd) (hcd := hcd) (ha := ha) (hs := hs) (hw := hw) (h1 := h1)
end
section
variable {X : Cx} {fr : Bool} {os os' ol : List Nat} {e a b c : Expr} {es : List Expr} {te ta tb tc : TE} {tas : TA} {m ma mb mc : Ev → M D} {ms : Ev → M (List D)} {pos p' p2 p3 : Pos} {k : Nat} {x y : Str}
theorem q_min (hc : X.calm = true) (hg : Gl X "min") (hm : X.mg "min" = none) (ha : QMB X os a ma) (hb : QMB X os b mb) (he : starEach [a, b] X.env = (false, eval a X.env) :: starEach [b] X.env := by rfl) (he2 : starEach [b] X.env = (false, eval b X.env) :: starEach [] X.env := by rfl) (hpl : (backTo pos (starEach [b] X.env)).any (·.1) = false := by rfl) : QM X os (.Call (.Name "min" p') [a, b] [] pos) (eBin dMin ma mb) := by
  obtain ⟨_, ha⟩ := ha
  obtain ⟨_, hb⟩ := hb
  exact ⟨_, pm_min (hc := hc) (hg := hg) (hm := hm) (ha := ha) (hb := hb) (he := he) (he2 := he2) (hpl := hpl)⟩
theorem q_leLe (ha : QMB X os a ma) (hb : QMB X os b mb) (hc : QMB X os c mc) (hm : lastMarks [.LtE, .LtE] [b, c] = false := by with_unfolding_all rfl) : QMC X os (.Compare a [.LtE, .LtE] [b, c] pos) (eChain dLe dLe ma mb mc) := by
  obtain ⟨_, ha⟩ := ha
  obtain ⟨_, hb⟩ := hb
  obtain ⟨_, hc⟩ := hc
  exact ⟨_, pm_leLe (ha := ha) (hb := hb) (hc := hc) (hm := hm)⟩
end
section
variable (K : PySem.W.Frag) (mg : Str → Option Value)
end
theorem QM.x {X : Cx} {os : List Nat} {e : Expr} {m : Ev → M D} (h : QM X os e m) : QMX false X os e m := by
  obtain ⟨_, h⟩ := h
  exact ⟨_, PM.x (h := h)⟩
theorem QMF.x {X : Cx} {os : List Nat} {e : Expr} {m : Ev → M D} (h : QMF X os e m) : QMX true X os e m := by
  obtain ⟨_, h⟩ := h
  exact ⟨_, PMF.x (h := h)⟩
section
variable {K : PySem.W.Frag} {mg : Str → Option Value} {C : Ct} {os : List Nat} {env : Ev} {σ : St} {G H G1 H1 G2 H2 : Hp} {d d' : Drw} {v : V} {x : D} {i : Nat} {f : Bool}
end
section
variable {X : Cx} {fr : Bool} {os os' ol : List Nat} {a b c : Expr} {ta tb tc : TE} {ma mb mc : Ev → M D} {pos : Pos} {x y z : Str} {f1 f2 f3 : Bool}
theorem qs_par2 (i j : Nat) {px py pt : Pos} {kt k2 pt2} (hc : X.calm = true) (hN : X.N.Nodup) (hi : X.N[i]? = some x) (hj : X.N[j]? = some y) (hij : i ≠ j) (hx : X.env.scope.names.lookup x = some .local) (hy : X.env.scope.names.lookup y = some .local) (ha : QMX f1 X os a ma) (hb : QMX f2 X os b mb) (o1 : if f1 = true then i ∈ os else i ∉ os) (o2 : if f2 = true then j ∈ os else j ∉ os) (hw : swappedStores [.Tuple [.Name x px, .Name y py] kt pt] (.Tuple [a, b] k2 pt2) X.env = pure (some [x, y])) (hs : swapsWithSole [.Tuple [.Name x px, .Name y py] kt pt] (.Tuple [a, b] k2 pt2) pos.line X.env = pure false := by rfl) (he : starEach [a, b] X.env = (false, eval a X.env) :: starEach [b] X.env := by rfl) (he2 : starEach [b] X.env = (false, eval b X.env) :: starEach [] X.env := by rfl) : PMS X fr os os ol (.Assign [.Tuple [.Name x px, .Name y py] kt pt] (.Tuple [a, b] k2 pt2) pos) (cPar2 i j ma mb) := by
  obtain ⟨_, ha⟩ := ha
  obtain ⟨_, hb⟩ := hb
  exact pms_par2 (i := i) (j := j) (hc := hc) (hN := hN) (hi := hi) (hj := hj) (hij := hij) (hx := hx) (hy := hy) (ha := ha) (hb := hb) (o1 := o1) (o2 := o2) (hw := hw) (hs := hs) (he := he) (he2 := he2)
end
section
variable {X : Cx} {os : List Nat} {o e : Expr} {to te : TE} {mo m : Ev → M D}
theorem q_join {apos pos : Pos} (ho : QMB X os o mo) (he : QMB X os e m) (hs : starEach [e] X.env = [(false, eval e X.env)] := by rfl) (hbase : attributeBase o "join" X.env (eval o X.env) = eval o X.env := by rfl) (hline : (apos.endLine == pos.line) = true := by rfl) : QM X os (.Call (.Attribute o "join" apos) [e] [] pos) (eBin dJoin mo m) := by
  obtain ⟨_, ho⟩ := ho
  obtain ⟨_, he⟩ := he
  exact ⟨_, pm_join (ho := ho) (he := he) (hs := hs) (hbase := hbase) (hline := hline)⟩
end
section
variable {X : Cx} {os : List Nat} {e : Expr} {te : TE} {m : Ev → M D} {pos p' : Pos}
end
section
variable {X : Cx} {a b : Expr} {ta : TA} {p p2 pos pos2 : Pos}
end
section
variable {X : Cx} {os : List Nat} {a b : Expr} {ta : TA} {ms : Ev → M (List D)} {p p2 pos pos2 : Pos}
theorem qf_zipL (hc : X.calm = true) (hg : Gl X "list") (hm : X.mg "list" = none) (hg2 : Gl X "zip") (hm2 : X.mg "zip" = none) (ha : QMA X os [a, b] ms) (hs : starEach [.Call (.Name "zip" p2) [a, b] [] pos2] X.env = (false, eval (.Call (.Name "zip" p2) [a, b] [] pos2) X.env) :: starEach [] X.env := by rfl) (hs2 : starEach [a, b] X.env = (false, eval a X.env) :: starEach [b] X.env := by rfl) (hpl : (backTo pos2 (starEach [b] X.env)).any (·.1) = false := by rfl) : QMF X os (.Call (.Name "list" p) [.Call (.Name "zip" p2) [a, b] [] pos2] [] pos) (aZip ms) := by
  obtain ⟨_, ha⟩ := ha
  exact ⟨_, pmf_zipL (hc := hc) (hg := hg) (hm := hm) (hg2 := hg2) (hm2 := hm2) (ha := ha) (hs := hs) (hs2 := hs2) (hpl := hpl)⟩
end
section
variable {K : PySem.W.Frag} {mg : Str → Option Value} {S : SA} {G : Hp}
end
section
variable {X : Cx} {os : List Nat} {e a tg : Expr} {te : TE} {ta : TA} {m : Ev → M D} {ms : Ev → M (List D)} {pos p' apos cpos tpos : Pos} {elts : List Expr} {kk : Nat}
theorem qi_any (h : QM X os e m) : QMI X os tg e (iOn dIt m) := by
  obtain ⟨_, h⟩ := h
  exact ⟨_, pmi_any (h := h)⟩
theorem qi_enum (hg : Gl X "enumerate") (hm : X.mg "enumerate" = none) (ha : QMA X os [e] ms) (hs : starEach [e] X.env = [(false, eval e X.env)] := by rfl) : QMI X os (.Tuple elts kk tpos) (.Call (.Name "enumerate" p') [e] [] pos) (iOns dEnum ms) := by
  obtain ⟨_, ha⟩ := ha
  exact ⟨_, pmi_enum (hg := hg) (hm := hm) (ha := ha) (hs := hs)⟩
end
section
variable {X : Cx} {fr : Bool} {os os' ol : List Nat} {e a b c : Expr} {es : List Expr} {te ta tb tc t1 t2 : TE} {tas : TA} {m ma mb mc m1 m2 : Ev → M D} {ms : Ev → M (List D)} {pos p' : Pos} {k : Nat} {x y : Str} {g g1 g2 : D → D → M D}
theorem q_at (hr : Room k X.A) (ha : QMB X os a ma) (hb : QMB X os b mb) (h1 : NoSl b := by exact fun _ _ => rfl) (h2 : PlainIx b := by exact fun _ _ => rfl) : QM X os (.Subscript a b pos) (eBin dAt ma mb) := by
  obtain ⟨_, ha⟩ := ha
  obtain ⟨_, hb⟩ := hb
  exact ⟨_, pm_at (hr := hr) (ha := ha) (hb := hb) (h1 := h1) (h2 := h2)⟩
theorem q_in (hr : Room k X.A) (ha : QMB X os a ma) (hb : QMB X os b mb) (hm : behindInMarks .In b = false := by rfl) : QMC X os (.Compare a [.In] [b] pos) (eBin (dIn false) ma mb) := by
  obtain ⟨_, ha⟩ := ha
  obtain ⟨_, hb⟩ := hb
  exact ⟨_, pm_in (hr := hr) (ha := ha) (hb := hb) (hm := hm)⟩
theorem q_nin (hr : Room k X.A) (ha : QMB X os a ma) (hb : QMB X os b mb) (hm : behindInMarks .NotIn b = false := by rfl) : QMC X os (.Compare a [.NotIn] [b] pos) (eBin dNin ma mb) := by
  obtain ⟨_, ha⟩ := ha
  obtain ⟨_, hb⟩ := hb
  exact ⟨_, pm_nin (hr := hr) (ha := ha) (hb := hb) (hm := hm)⟩
variable {keys : List (Option Expr)} {values : List Expr} {trs : List (TE × TE)} {mr : Ev → M (List (Key × D))}
theorem qp_nil  : QMP X os pos [] [] pNil := by
  exact ⟨_, pmp_nil ⟩
theorem qp_cons (hk : QM X os a ma) (hv : QM X os b mb) (hr : QMP X os pos keys values mr) : QMP X os pos (some a :: keys) (b :: values) (pCons ma mb mr) := by
  obtain ⟨_, hk⟩ := hk
  obtain ⟨_, hv⟩ := hv
  obtain ⟨_, hr⟩ := hr
  exact ⟨_, pmp_cons (hk := hk) (hv := hv) (hr := hr)⟩
theorem qf_disp (h : QMP X os pos keys values mr) (hall : keys.all (·.isSome) = true := by rfl) (hl : keys.length = values.length := by rfl) (h0 : keys ≠ [] := by exact fun z => nomatch z) (h15 : keys.length ≤ 15 := by decide) : QMF X os (.Dict keys values pos) (eDisp mr) := by
  obtain ⟨_, h⟩ := h
  exact ⟨_, pmf_disp (h := h) (hall := hall) (hl := hl) (h0 := h0) (h15 := h15)⟩
end
section
variable {X : Cx} {os : List Nat} {tg iter kx vx : Expr} {ifs : List Expr} {scope : Scope} {mi : Ev → M (List D)} {tv : List Nat} {t : Ev → D → Option Ev} {n : Ev → M Bool} {mk mv : Ev → M D} {wi : TI} {g : TG} {tt : TT} {tk te : TE} {pos : Pos}
end
section
variable {X : Cx} {os : List Nat} {e a b c : Expr} {es : List Expr} {te ta tb tc : TE} {tas : TA} {m ma mb mc : Ev → M D} {ms : Ev → M (List D)} {p pos p' pT pT2 pU : Pos} {k n : Nat} {x y : Str} {mf : List D → M D} {d : D}
theorem q_gl (h : GD X.K X.mg x d) (hg : Gl X x) (hd : (x == ("__debug__" : Str)) = false := by decide) : QM X os (.Name x pos) (eC d) := by
  exact ⟨_, pm_gl (h := h) (hg := hg) (hd := hd)⟩
theorem q_f (h : Has X.prog X.w X.K X.mg X.base k x n mf) (hr : Room k X.A) (hg : Gl X x) (ha : QMA X os (e :: es) ms) (hdb : (x == ("__debug__" : Str)) = false := by decide) (he : starEach (e :: es) X.env = (false, eval e X.env) :: starEach es X.env := by rfl) (hpl : (backTo pos (starEach es X.env)).any (·.1) = false := by rfl) : QM X os (.Call (.Name x p) (e :: es) [] pos) (eCall n mf ms) := by
  obtain ⟨_, ha⟩ := ha
  exact ⟨_, pm_f (h := h) (hr := hr) (hg := hg) (ha := ha) (hdb := hdb) (he := he) (hpl := hpl)⟩
theorem qf_f (h : HasN X.prog X.w X.K X.mg X.base k x n mf) (hr : Room k X.A) (hg : Gl X x) (ha : QMA X os (e :: es) ms) (hdb : (x == ("__debug__" : Str)) = false := by decide) (he : starEach (e :: es) X.env = (false, eval e X.env) :: starEach es X.env := by rfl) (hpl : (backTo pos (starEach es X.env)).any (·.1) = false := by rfl) : QMF X os (.Call (.Name x p) (e :: es) [] pos) (eCall n mf ms) := by
  obtain ⟨_, ha⟩ := ha
  exact ⟨_, pmf_f (h := h) (hr := hr) (hg := hg) (ha := ha) (hdb := hdb) (he := he) (hpl := hpl)⟩
theorem q_isT {T : Str} {t : String} (g : D → Bool) (hk : ∀ x z, tyN x = some z → kitB z t = some (g x)) (B : Blt X.mg) (hg : Gl X "isinstance") (gT : Gl X T) (iT : T ∈ bltNames) (hT : bootBuiltins T = some (.type t)) (ha : QMB X os a ma) (hn : T ≠ "__name__" := by decide) (hd : (T == ("__debug__" : Str)) = false := by decide) (he : starEach [a, .Name T pT] X.env = (false, eval a X.env) :: starEach [.Name T pT] X.env := by rfl) (he2 : starEach [.Name T pT] X.env = (false, eval (.Name T pT) X.env) :: starEach [] X.env := by rfl) (hpl : (backTo pos (starEach [.Name T pT] X.env)).any (·.1) = false := by rfl) : QM X os (.Call (.Name "isinstance" p') [a, .Name T pT] [] pos) (eUn (dIsi g) ma) := by
  obtain ⟨_, ha⟩ := ha
  exact ⟨_, pm_isT (g := g) (hk := hk) (B := B) (hg := hg) (gT := gT) (iT := iT) (hT := hT) (ha := ha) (hn := hn) (hd := hd) (he := he) (he2 := he2) (hpl := hpl)⟩
end
section
variable {P : Program} {w : World} {K : PySem.W.Frag} {mg : Str → Option Value} {base : Heap}
end
section
variable {X : Cx} {fr : Bool} {os os' ol : List Nat} {e o a b c : Expr} {es : List Expr} {te to ta tb tc : TE} {tas : TA} {m mo ma mb mc : Ev → M D} {ms : Ev → M (List D)} {p pos p' apos cpos : Pos} {k n : Nat} {x y z cn mt fl : Str} {mf : List D → M D} {d : D} {f1 f2 f3 : Bool}
theorem q_field (h : HasF X.K X.mg cn fl) (ho : QM X os o mo) (hb : attributeBase o fl X.env (eval o X.env) = eval o X.env := by rfl) : QM X os (.Attribute o fl pos) (eFld cn fl mo) := by
  obtain ⟨_, ho⟩ := ho
  exact ⟨_, pm_field (h := h) (ho := ho) (hb := hb)⟩
theorem q_m0 {pl : Sem Bool} (h : HasM X.prog X.w X.K X.mg X.base k cn mt n mf) (hr : Room k X.A) (ho : QM X os o mo) (ht : eval (.Call (.Attribute o mt apos) [] [] pos) X.env = (do
      let ov ← eval o X.env
      standAt apos.atName
      let (f, first) ← holding [ov] (getMethod ov mt pl)
      callWith pos f first (backTo pos (starEach [] X.env)) (backToKw pos (keywordEach [] X.env))) := by rfl) : QM X os (.Call (.Attribute o mt apos) [] [] pos) (eMeth cn mt n mf mo aNil) := by
  obtain ⟨_, ho⟩ := ho
  exact ⟨_, pm_m0 (h := h) (hr := hr) (ho := ho) (ht := ht)⟩
end
section
variable {K : PySem.W.Frag} {mg : Str → Option Value} {C : Ct} {os : List Nat} {env : Ev} {σ : St} {G H H' : Hp} {d d' : Drw} {v : V} {x : D} {i : Nat}
end
section
variable {X : Cx} {fr : Bool} {os os' ol : List Nat} {e o a b c : Expr} {es : List Expr} {te to ta tb tc : TE} {tas : TA} {m mo ma mb mc : Ev → M D} {ms : Ev → M (List D)} {p pos p' p2 p3 p4 apos cpos : Pos} {k n j : Nat} {x y z : Str}
theorem q_stI (i : Nat) (nm : Str) (f : Drw → Int) (hf : ∀ S d, valV (stK S d) (.inr nm : Key) = some (.int (f d))) (hr : Room k X.A) (ho : i ∉ os := by decide) (hN : X.N[i]? = some x := by rfl) (hv : Vis X.env.scope x := by first | exact Or.inl rfl | exact Or.inr (Or.inl rfl) | exact Or.inr (Or.inr rfl)) (hd : (x == ("__debug__" : Str)) = false := by decide) (hcd : (x == ("__classdict__" : Str)) = false := by decide) : QM X os (.Subscript (.Name x p) (.Constant (.str nm) j p2) pos) (eSt i fun d => .int (f d)) := by
  exact ⟨_, pm_stI (i := i) (nm := nm) (f := f) (hf := hf) (hr := hr) (ho := ho) (hN := hN) (hv := hv) (hd := hd) (hcd := hcd)⟩
theorem q_stNe (i : Nat) (nm : Str) (f : Drw → List Int) (ad : SA → Addr) (hf : ∀ S d, valV (stK S d) (.inr nm : Key) = some (.ref (ad S))) (hl : ∀ S H d, StR S H d → H (ad S) = some (.lst ((f d).map V.int))) (hr : Room k X.A) (ho : i ∉ os := by decide) (hN : X.N[i]? = some x := by rfl) (hv : Vis X.env.scope x := by first | exact Or.inl rfl | exact Or.inr (Or.inl rfl) | exact Or.inr (Or.inr rfl)) (hd : (x == ("__debug__" : Str)) = false := by decide) (hcd : (x == ("__classdict__" : Str)) = false := by decide) : QMC X os (.Compare (.Subscript (.Name x p) (.Constant (.str nm) j p2) p3) [.NotEq] [.List [] p4] pos) (eSt i fun d => .bl (!decide (f d = []))) := by
  exact ⟨_, pm_stNe (i := i) (nm := nm) (f := f) (ad := ad) (hf := hf) (hl := hl) (hr := hr) (ho := ho) (hN := hN) (hv := hv) (hd := hd) (hcd := hcd)⟩
theorem q_stCe (i : Nat) (hr : Room k X.A) (hb : QMB X os b mb) (ho : i ∉ os := by decide) (hN : X.N[i]? = some x := by rfl) (hv : Vis X.env.scope x := by first | exact Or.inl rfl | exact Or.inr (Or.inl rfl) | exact Or.inr (Or.inr rfl)) (hd : (x == ("__debug__" : Str)) = false := by decide) (hcd : (x == ("__classdict__" : Str)) = false := by decide) (hs : PlainIx b := by exact fun _ _ => rfl) : QM X os (.Subscript (.Subscript (.Name x p) (.Constant (.str "cells") j p2) p3) b pos) (eStCe i mb) := by
  obtain ⟨_, hb⟩ := hb
  exact ⟨_, pm_stCe (i := i) (hr := hr) (hb := hb) (ho := ho) (hN := hN) (hv := hv) (hd := hd) (hcd := hcd) (hs := hs)⟩
theorem q_stLen (i : Nat) (hr : Room k X.A) (hg : Gl X "len") (hm : X.mg "len" = none) (ho : i ∉ os := by decide) (hN : X.N[i]? = some x := by rfl) (hv : Vis X.env.scope x := by first | exact Or.inl rfl | exact Or.inr (Or.inl rfl) | exact Or.inr (Or.inr rfl)) (hd : (x == ("__debug__" : Str)) = false := by decide) (hcd : (x == ("__classdict__" : Str)) = false := by decide) (he : starEach [.Subscript (.Name x p) (.Constant (.str "cells") j p2) p3] X.env = (false, eval (.Subscript (.Name x p) (.Constant (.str "cells") j p2) p3) X.env) :: starEach [] X.env := by rfl) (hpl : (backTo pos (starEach [] X.env)).any (·.1) = false := by rfl) : QM X os (.Call (.Name "len" p') [.Subscript (.Name x p) (.Constant (.str "cells") j p2) p3] [] pos) (eSt i fun d => .int d.ce.length) := by
  exact ⟨_, pm_stLen (i := i) (hr := hr) (hg := hg) (hm := hm) (ho := ho) (hN := hN) (hv := hv) (hd := hd) (hcd := hcd) (he := he) (hpl := hpl)⟩
theorem qs_stDg (i : Nat) (hr : Room k X.A) (h : QM X os e m) (ho : i ∉ os := by decide) (hN : X.N[i]? = some x := by rfl) (hv : Vis X.env.scope x := by first | exact Or.inl rfl | exact Or.inr (Or.inl rfl) | exact Or.inr (Or.inr rfl)) (hd : (x == ("__debug__" : Str)) = false := by decide) (hcd : (x == ("__classdict__" : Str)) = false := by decide) (hs : swapsWith e (some (.Subscript (.Name x p) (.Constant (.str "digits") j p2) p3)) pos.line X.env = pure false := by rfl) : PMS X fr os os ol (.Assign [.Subscript (.Name x p) (.Constant (.str "digits") j p2) p3] e pos) (cStDg i m) := by
  obtain ⟨_, h⟩ := h
  exact pms_stDg (i := i) (hr := hr) (h := h) (ho := ho) (hN := hN) (hv := hv) (hd := hd) (hcd := hcd) (hs := hs)
end
section
variable {P : Program} {w : World} {K : PySem.W.Frag} {mg : Str → Option Value} {base : Heap}
end
section
variable {X : Cx} {k : Nat} {f : Addr} {fd : FuncData} {ps : List Str} {ds : List Value} {dvs : List V} {sp : Sp} {E : XK}
end
section
end
section
end
section
variable {X : Cx} {pins : List (Addr × Obj)} {σ : St} {H : Hp} {s : Shared} {S : SA} {G : Hp} {mg : Str → Option Value}
section
end
end
section
variable {X : Cx} {os : List Nat} {e : Expr} {te : TE} {m : Ev → M D} {k : Nat} {p' pos : Pos}
theorem q_repr (hr : Room k X.A) (hgd : X.A.guards = some []) (hg : Gl X "repr") (hm : X.mg "repr" = none) (ha : QMB X os e m) (he : starEach [e] X.env = (false, eval e X.env) :: starEach [] X.env := by rfl) (hpl : (backTo pos (starEach [] X.env)).any (·.1) = false := by rfl) : QM X os (.Call (.Name "repr" p') [e] [] pos) (eUn dRepr m) := by
  obtain ⟨_, ha⟩ := ha
  exact ⟨_, pm_repr (hr := hr) (hgd := hgd) (hg := hg) (hm := hm) (ha := ha) (he := he) (hpl := hpl)⟩
end
section
variable {X : Cx} {os : List Nat} {e : Expr} {te : TE} {m : Ev → M D} {p apos cpos pos : Pos}
end
section
variable {K : PySem.W.Frag} {mg : Str → Option Value} {S : SA} {G : Hp}
end
section
variable {X : Cx} {os : List Nat} {e : Expr} {kws : List Keyword} {te : TE} {tk : TA} {m : Ev → M D} {ms : Ev → M (List D)} {x : Str} {p pos kpos : Pos} {k n : Nat} {nm : Option Str} {mf : List D → M D} {ks : List Str} {ix : List Nat}
theorem qk_nil  : QMK X os [] aNil := by
  exact ⟨_, pmk_nil ⟩
theorem qk_cons (ha : QM X os e m) (hr : QMK X os kws ms) : QMK X os (⟨nm, e, kpos⟩ :: kws) (aCons m ms) := by
  obtain ⟨_, ha⟩ := ha
  obtain ⟨_, hr⟩ := hr
  exact ⟨_, pmk_cons (ha := ha) (hr := hr)⟩
theorem q_k (h : HasK X.prog X.w X.K X.mg X.base k x n ks ix mf) (hr : Room k X.A) (hg : Gl X x) (ha : QMK X os kws ms) (hix : ix.length = n ∧ ∀ i ∈ ix, i < n := by decide) (hall : (backToKw pos (keywordEach kws X.env)).all (·.1.isSome) = true := by rfl) (hks : (backToKw pos (keywordEach kws X.env)).filterMap (·.1) = ks := by rfl) (hdb : (x == ("__debug__" : Str)) = false := by decide) (hpl : ((backTo pos (starEach [] X.env)).any (·.1) || (backToKw pos (keywordEach kws X.env)).any (·.1.isNone)) = false := by rfl) : QM X os (.Call (.Name x p) [] kws pos) (eCallK n ix mf ms) := by
  obtain ⟨_, ha⟩ := ha
  exact ⟨_, pm_k (h := h) (hr := hr) (hg := hg) (ha := ha) (hix := hix) (hall := hall) (hks := hks) (hdb := hdb) (hpl := hpl)⟩
theorem qf_k (h : HasKN X.prog X.w X.K X.mg X.base k x n ks ix mf) (hr : Room k X.A) (hg : Gl X x) (ha : QMK X os kws ms) (hix : ix.length = n ∧ ∀ i ∈ ix, i < n := by decide) (hall : (backToKw pos (keywordEach kws X.env)).all (·.1.isSome) = true := by rfl) (hks : (backToKw pos (keywordEach kws X.env)).filterMap (·.1) = ks := by rfl) (hdb : (x == ("__debug__" : Str)) = false := by decide) (hpl : ((backTo pos (starEach [] X.env)).any (·.1) || (backToKw pos (keywordEach kws X.env)).any (·.1.isNone)) = false := by rfl) : QMF X os (.Call (.Name x p) [] kws pos) (eCallK n ix mf ms) := by
  obtain ⟨_, ha⟩ := ha
  exact ⟨_, pmf_k (h := h) (hr := hr) (hg := hg) (ha := ha) (hix := hix) (hall := hall) (hks := hks) (hdb := hdb) (hpl := hpl)⟩
end
section
variable {P : Program} {w : World} {K : PySem.W.Frag} {mg : Str → Option Value} {base : Heap} {x : Str} {st : Stmt} {ps ks : List Str} {k n : Nat} {ix : List Nat} {m : List D → M D}
end
section
variable {X : Cx} {fr : Bool} {os os' ol : List Nat} {e : Expr} {te : TE} {m : Ev → M D} {pos p' : Pos} {y : Str}
theorem qs_setO (i : Nat) (hi : i ∉ os) (hN : X.N.Nodup) (hy : X.N[i]? = some y) (hl : Loc X.env.scope y) (h : QMF X os e m) (hs : swapsWith e (some (.Name y p')) pos.line X.env = pure false := by rfl) (hf : X.fn y = true ∨ X.env.scope.names.lookup y = some .local := by first | exact .inl rfl | exact .inr rfl | assumption) : PMS X fr os (i :: os) ol (.Assign [.Name y p'] e pos) (cSet i m) := by
  obtain ⟨_, h⟩ := h
  exact pms_setO (i := i) (hi := hi) (hN := hN) (hy := hy) (hl := hl) (h := h) (hs := hs) (hf := hf)
end
section
variable {K : PySem.W.Frag} {mg : Str → Option Value} {S : SA} {G G' : Hp}
end
section
variable {X : Cx} {c : Str} {sts : List Stmt} {r : Ev → List (Str × D) → M (List (Str × D))} {pos p p2 : Pos}
theorem qn_if {e : Expr} {rs : List Stmt} {n : Ev → M Bool} (hc : QMT X [] e n) (hr : PMN X c sts r) : PMN X c (.If e rs [] pos :: sts) (nIf n r) := by
  obtain ⟨_, hc⟩ := hc
  exact pmn_if (hc := hc) (hr := hr)
theorem qn_fld {e : Expr} {f self : Str} {m : Ev → M D} (hf : HasF X.K X.mg c f) (h : QM X [] e m) (hr : PMN X c sts r) (hs : swapsWith e (some (.Attribute (.Name self p) f p2)) pos.line X.env = pure false := by rfl) (hN : X.N[0]? = some self := by rfl) (hv : Vis X.env.scope self := by first | exact Or.inl rfl | exact Or.inr (Or.inl rfl) | exact Or.inr (Or.inr rfl)) (hd : (self == ("__debug__" : Str)) = false := by decide) (hcd : (self == ("__classdict__" : Str)) = false := by decide) : PMN X c (.Assign [.Attribute (.Name self p) f p2] e pos :: sts) (nFld f m r) := by
  obtain ⟨_, h⟩ := h
  exact pmn_fld (hf := hf) (h := h) (hr := hr) (hs := hs) (hN := hN) (hv := hv) (hd := hd) (hcd := hcd)
end
section
variable {P : Program} {w : World} {K : PySem.W.Frag} {mg : Str → Option Value} {base : Heap}
end
theorem q_mk {X : Cx} {os : List Nat} {e : Expr} {es : List Expr} {kws : List Keyword} {ma mk : Ev → M (List D)} {c : Str} {p pos : Pos} {k n nk : Nat} {ks : List Str} {m : List D → M (List (Str × D))} (h : HasI X.prog X.w X.K X.mg X.base k c n ks m) (hr : Room (k + 1) X.A) (hg : Gl X c) (ha : QMA X os (e :: es) ma) (hk : QMK X os kws mk) (hnk : ks.length = nk := by rfl) (hall : (backToKw pos (keywordEach kws X.env)).all (·.1.isSome) = true := by rfl) (hks : (backToKw pos (keywordEach kws X.env)).filterMap (·.1) = ks := by rfl) (hdb : (c == ("__debug__" : Str)) = false := by decide) (he : starEach (e :: es) X.env = (false, eval e X.env) :: starEach es X.env := by rfl) (hpl : ((backTo pos (starEach (e :: es) X.env)).any (·.1) || (backToKw pos (keywordEach kws X.env)).any (·.1.isNone)) = false := by rfl) : QM X os (.Call (.Name c p) (e :: es) kws pos) (eMk c n nk m ma mk) := by
  obtain ⟨_, ha⟩ := ha
  obtain ⟨_, hk⟩ := hk
  exact ⟨_, pm_mk (h := h) (hr := hr) (hg := hg) (ha := ha) (hk := hk) (hnk := hnk) (hall := hall) (hks := hks) (hdb := hdb) (he := he) (hpl := hpl)⟩
section
variable {X : Cx} {fr : Bool} {os os' ol tv : List Nat} {e o a b tg : Expr} {es : List Expr} {te to ta tb : TE} {tas : TA} {m mo ma mb : Ev → M D} {ms : Ev → M (List D)} {p pos p' apos p2 p3 : Pos} {k n : Nat} {x y cn mt : Str} {mf : List D → M D} {g : TG} {t : Ev → D → Option Ev}
theorem qs_asg (h : QM X os e m) (hg : QMG X os tv tg t) (hs : swapsWithSole [tg] e pos.line X.env = pure false := by rfl) (hw : swappedStores [tg] e X.env = pure none := by rfl) (h1 : (assignEach [tg] X.env).map (·.2) = [assign tg X.env] := by rfl) : PMS X fr os os ol (.Assign [tg] e pos) (cAsg t m) := by
  obtain ⟨_, h⟩ := h
  obtain ⟨_, hg⟩ := hg
  exact pms_asg (h := h) (hg := hg) (hs := hs) (hw := hw) (h1 := h1)
theorem qs_ext (i : Nat) (h : QM X os e m) (hi : i ∈ os := by decide) (hN : X.N[i]? = some x := by rfl) (hv : Vis X.env.scope x := by first | exact Or.inl rfl | exact Or.inr (Or.inl rfl) | exact Or.inr (Or.inr rfl)) (hd : (x == ("__debug__" : Str)) = false := by decide) (hcd : (x == ("__classdict__" : Str)) = false := by decide) (hbase : attributeBase (.Name x p2) "extend" X.env (eval (.Name x p2) X.env) = eval (.Name x p2) X.env := by rfl) (hfew : ((backTo p3 (starEach [e] X.env)).all (fun x => !x.1) && (backToKw p3 (keywordEach [] X.env)).all (fun x => x.1.isSome) && decide ([e].length + ([] : List Keyword).length + (if ([] : List Keyword).isEmpty then 0 else 1) < 30)) = true := by rfl) (hline : (p'.endLine == p3.line) = true := by rfl) (hst : starEach [e] X.env = (false, eval e X.env) :: starEach [] X.env := by rfl) (hplain : (backTo p3 (starEach [] X.env)).any (·.1) = false := by rfl) (hs : swapsWith (.Call (.Attribute (.Name x p2) "extend" p') [e] [] p3) none pos.line X.env = pure false := by rfl) : PMS X fr os os ol (.Expr (.Call (.Attribute (.Name x p2) "extend" p') [e] [] p3) pos) (cExt i m) := by
  obtain ⟨_, h⟩ := h
  exact pms_ext (i := i) (h := h) (hi := hi) (hN := hN) (hv := hv) (hd := hd) (hcd := hcd) (hbase := hbase) (hfew := hfew) (hline := hline) (hst := hst) (hplain := hplain) (hs := hs)
end
section
variable {P : Program} {w : World} {K : PySem.W.Frag} {mg : Str → Option Value} {base : Heap} {x nm : Str} {st : Stmt} {ps : List Str} {k n : Nat} {m : List D → M D} {d : D}
end
section
variable {X : Cx}
end
section
variable {X : Cx} {os : List Nat} {e : Expr} {te : TE} {m : Ev → M D} {pos p' : Pos}
theorem q_tupleP (hg : Gl X "tuple") (hm : X.mg "tuple" = none) (ha : QMB X os e m) (he : starEach [e] X.env = (false, eval e X.env) :: starEach [] X.env := by rfl) (hpl : (backTo pos (starEach [] X.env)).any (·.1) = false := by rfl) : QM X os (.Call (.Name "tuple" p') [e] [] pos) (eUn dTupleP m) := by
  obtain ⟨_, ha⟩ := ha
  exact ⟨_, pm_tupleP (hg := hg) (hm := hm) (ha := ha) (he := he) (hpl := hpl)⟩
end
section
variable {X : Cx} {fr : Bool} {os os' ol : List Nat} {e a b c : Expr} {es : List Expr} {te ta tb tc : TE} {tas : TA} {m ma mb mc : Ev → M D} {ms : Ev → M (List D)} {pos p' p2 p3 : Pos} {k : Nat} {x y : Str}
end
section
variable {X : Cx} {os : List Nat} {tg iter kx vx : Expr} {ifs : List Expr} {scope : Scope} {mi : Ev → M (List D)} {tv : List Nat} {t : Ev → D → Option Ev} {n : Ev → M Bool} {mk mv : Ev → M D} {wi : TI} {g : TG} {tt : TT} {tk te : TE} {pos : Pos} {k : Nat}
end
section
variable {X : Cx} {fr : Bool} {os os' ol : List Nat} {e a b c : Expr} {te ta tb : TE} {m ma mb : Ev → M D} {pos p' p2 p3 : Pos} {k : Nat} {x : Str}
theorem q_revT {k : Nat} {p1 p2 p3 pos : Pos} (ha : QMB X os e m) : QM X os (.Subscript e (.Slice none none (some (.UnaryOp .USub (.Constant (.int 1) k p1) p2)) p3) pos) (eUn dRevT m) := by
  obtain ⟨_, ha⟩ := ha
  exact ⟨_, pm_revT (ha := ha)⟩
end
section
variable {X : Cx} {pins : List (Addr × Obj)} {σ : St} {H : Hp} {s : Shared}
end
section
variable {prog : Program} {w : World} {A : Around} {E : Value → Shared → Prop} {s : Shared} {z TI TO i1 i2 : Addr} {fp1 fp2 : List Addr} {n1 n2 i : Nat} {P1 P2 : Nat → Value → Prop} {St1 St2 : Nat → Heap → Prop} {c1 c2 : Value}
end
section
variable {K : PySem.W.Frag} {mg : Str → Option Value} {S : SA} {G : Hp}
end
section
variable {X : Cx} {os : List Nat} {e e2 : Expr} {ta : TA} {ms : Ev → M (List D)} {p p2 pos pos2 tpos : Pos} {elts : List Expr} {kk : Nat}
end
section
variable {prog : Program} {w : World} {A : Around} {E : Value → Shared → Prop} {s : Shared} {r d : Addr} {n : Nat} {P : Nat → Value → Prop} {OK : Heap → Prop}
end
section
variable {X : Cx} {fr : Bool} {os os' ol : List Nat} {e a b : Expr} {te ta tb : TE} {m ma mb : Ev → M D} {p p' apos cpos pos p2 p3 : Pos} {k : Nat} {x y : Str}
end
section
variable {X : Cx} {fr : Bool} {os os' ol : List Nat} {tg iter kx vx : Expr} {ifs : List Expr} {scope : Scope} {own : List (Str × Nat)} {pos spos py : Pos} {wi : TI} {g : TG} {tt : TT} {tk te : TE} {i : Nat} {y : Str} {mi : Ev → M (List D)} {tv : List Nat} {t : Ev → D → Option Ev} {n : Ev → M Bool} {mk mv : Ev → M D}
end
def NoEnd (b : Ev → M Ctl) : Prop := ∀ env d e d', b env d ≠ .ok (.nx e) d'
theorem noend_ret {m : Ev → M D} : NoEnd (cRet m) := fun env d e d' h => by
  unfold cRet at h
  rw [bind_run] at h
  split at h <;> cases h
theorem noend_seq {a b : Ev → M Ctl} (hb : NoEnd b) : NoEnd (cSeq a b) := fun env d e d' h => by
  unfold cSeq at h
  rw [bind_run] at h
  cases q : a env d with
  | bad => rw [q] at h; cases h
  | ok c d1 =>
    rw [q] at h
    cases c with
    | nx e1 => exact hb e1 d1 e d' h
    | ret x => cases h
    | brk e1 => cases h
    | cont e1 => cases h
def cE (K : PySem.W.Frag) (mg : Str → Option Value) (os : List Nat) (m : Ev → M D) : TE := fun σ H Q => ∃ C G env d, IM K mg C os env σ H G d ∧ Wp (m env d) fun x d' => ∀ v H' G', Aft C.S G H G' H' d' → Rep K mg C.S G' v x → Q v H'
def cT (K : PySem.W.Frag) (mg : Str → Option Value) (os : List Nat) (m : Ev → M Bool) : TT := fun σ H Q => ∃ C G env d, IM K mg C os env σ H G d ∧ Wp (m env d) fun b d' => ∀ H' G', Aft C.S G H G' H' d' → Q b H'
def cG (K : PySem.W.Frag) (mg : Str → Option Value) (os tv : List Nat) (t : Ev → D → Option Ev) : TG := fun v σ H Q => ∃ C G env d x e, IM K mg C os env σ H G d ∧ Rep K mg C.S G v x ∧ t env x = some e ∧ ∀ σ', IM K mg C os e σ' H G d → σ'.length = σ.length → (∀ j, j ∉ tv → σ'[j]? = σ[j]?) → Q σ' H
section
variable {X : Cx} {os tv : List Nat} {e : Expr} {es : List Expr} {m : Ev → M D} {n : Ev → M Bool} {t : Ev → D → Option Ev}
theorem QM.can (h : QM X os e m) : PM X os e (cE X.K X.mg os m) m := by
  obtain ⟨te, p, s⟩ := h
  exact ⟨⟨fun pins sh σ H Q I ⟨C, G, env, d, J, w⟩ => p.run pins sh σ H Q I (s C G σ H env d Q J w)⟩, fun C G σ H env d Q I w => ⟨C, G, env, d, I, w⟩⟩
theorem QMTs.can (h : QMTs X os es n) : PMTs X os es (cT X.K X.mg os n) n := by
  obtain ⟨te, p, s⟩ := h
  exact ⟨⟨fun pins sh σ H Q I ⟨C, G, env, d, J, w⟩ => p.run pins sh σ H Q I (s C G σ H env d Q J w)⟩, fun C G σ H env d Q I w => ⟨C, G, env, d, I, w⟩⟩
theorem QMG.can (h : QMG X os tv e t) : PMG X os tv e (cG X.K X.mg os tv t) t := by
  obtain ⟨g, p, s⟩ := h
  exact ⟨⟨fun pins sh σ H v u Q I r ⟨C, G, env, d, x, e, J, rx, ht, k⟩ => p.run pins sh σ H v u Q I r (s C G σ H env d v x e Q J rx ht k)⟩, fun C G σ H env d v x e Q I r ht k => ⟨C, G, env, d, x, e, I, r, ht, k⟩⟩
end
section
variable {X : Cx} {fr : Bool} {os os' ol tv : List Nat} {e c tg iter elt kx vx : Expr} {es ifs : List Expr} {scope : Scope} {m me mk mv : Ev → M D} {mi : Ev → M (List D)} {n : Ev → M Bool} {mb : Ev → M Ctl} {t : Ev → D → Option Ev} {pos : Pos} {body : List Stmt} {y : Str}
theorem q_for (hp : PassesOwn (model X.prog X.w) X.A X.env X.xe) (hc : X.calm = true) (hi : QMI X os tg iter mi) (hg : QMG X os tv tg t) (hb : PMSs X fr os os os body mb) (hs : ∀ x, foldedSetIterable iter X.env x = pure x := by intro _; rfl) : PMS X fr os os ol (.For tg iter body [] pos) (cFor mi t mb) := by
  obtain ⟨_, hi⟩ := hi
  obtain ⟨_, hg⟩ := hg
  exact pms_for hp hc hi hg hb hs
theorem q_while (hp : PassesOwn (model X.prog X.w) X.A X.env X.xe) (hc : QMT X os c n) (hb : PMSs X fr os os os body mb) : PMS X fr os os ol (.While c body [] pos) (cWhile n mb) := by
  obtain ⟨_, hc⟩ := hc
  exact pms_while hp hc hb
theorem qs_if {a b : List Stmt} {ma mb2 : Ev → M Ctl} (hc : QMT X os c n) (ha : PMSs X fr os os' ol a ma) (hb : PMSs X fr os os' ol b mb2) : PMS X fr os os' ol (.If c a b pos) (cIf n ma mb2) := by
  obtain ⟨_, hc⟩ := hc
  exact pms_if hc ha hb
theorem qf_lc (own : List (Str × Nat)) (hc : X.calm = true) (hN : X.N.Nodup) (hi : QMI X os tg iter mi) (ok : BlkOk X.N X.env.scope scope own) (hv : ∀ j ∈ tv, j ∈ own.map (·.2))
    (hg : ∀ (s : Shared) (H : Hp) (C : Addr) (cl : List (Str × Addr)) (fp : List Addr), QMG (X.blk s H scope (compEnvC scope cl C X.env) fp) os tv tg t)
    (ht : ∀ (s : Shared) (H : Hp) (C : Addr) (cl : List (Str × Addr)) (fp : List Addr), QMTs (X.blk s H scope (compEnvC scope cl C X.env) fp) os ifs n)
    (he : ∀ (s : Shared) (H : Hp) (C : Addr) (cl : List (Str × Addr)) (fp : List Addr), QM (X.blk s H scope (compEnvC scope cl C X.env) fp) os elt me) (hs : ∀ x, foldedSetIterable iter X.env x = pure x := by intro _; rfl) :
    QMF X os (.ListComp elt [⟨tg, iter, ifs, 0⟩] scope pos) (eLc mi (own.map (·.2)) t n me) := by
  obtain ⟨_, hi⟩ := hi
  exact ⟨_, pmf_lc own hc hN hi ok hv (g := cG X.K X.mg os tv t) (tt := cT X.K X.mg os n) (te := cE X.K X.mg os me) (fun s H C cl fp => (hg s H C cl fp).can) (fun s H C cl fp => (ht s H C cl fp).can) (fun s H C cl fp => (he s H C cl fp).can) hs⟩
theorem qf_dc (own : List (Str × Nat)) (hc : X.calm = true) (hN : X.N.Nodup) (hi : QMI X os tg iter mi) (ok : BlkOk X.N X.env.scope scope own) (hv : ∀ j ∈ tv, j ∈ own.map (·.2))
    (hg : ∀ (s : Shared) (H : Hp) (C : Addr) (cl : List (Str × Addr)) (fp : List Addr), QMG (X.blk s H scope (compEnvC scope cl C X.env) fp) os tv tg t)
    (ht : ∀ (s : Shared) (H : Hp) (C : Addr) (cl : List (Str × Addr)) (fp : List Addr), QMTs (X.blk s H scope (compEnvC scope cl C X.env) fp) os ifs n)
    (hk : ∀ (s : Shared) (H : Hp) (C : Addr) (cl : List (Str × Addr)) (fp : List Addr), QM (X.blk s H scope (compEnvC scope cl C X.env) fp) os kx mk)
    (he : ∀ (s : Shared) (H : Hp) (C : Addr) (cl : List (Str × Addr)) (fp : List Addr), QM (X.blk s H scope (compEnvC scope cl C X.env) fp) os vx mv) (hs : ∀ x, foldedSetIterable iter X.env x = pure x := by intro _; rfl) :
    QMF X os (.DictComp kx vx [⟨tg, iter, ifs, 0⟩] scope pos) (eDc mi (own.map (·.2)) t n mk mv) := by
  obtain ⟨_, hi⟩ := hi
  exact ⟨_, pmf_dc own hc hN hi ok hv (g := cG X.K X.mg os tv t) (tt := cT X.K X.mg os n) (tk := cE X.K X.mg os mk) (te := cE X.K X.mg os mv) (fun s H C cl fp => (hg s H C cl fp).can) (fun s H C cl fp => (ht s H C cl fp).can) (fun s H C cl fp => (hk s H C cl fp).can) (fun s H C cl fp => (he s H C cl fp).can) hs⟩
theorem q_setLc (own : List (Str × Nat)) (i : Nat) {py spos : Pos} (hi' : i ∈ os) (hc : X.calm = true) (hN : X.N.Nodup) (hy : X.N[i]? = some y) (hyl : X.env.scope.names.lookup y = some .local)
    (hsw : swapsWith (.ListComp elt [⟨tg, iter, ifs, 0⟩] scope pos) (some (.Name y py)) spos.line X.env = pure true) (hi : QMI X os tg iter mi) (ok : BlkOk X.N X.env.scope scope own) (hv : ∀ j ∈ tv, j ∈ own.map (·.2))
    (hg : ∀ (s : Shared) (H : Hp) (C : Addr) (cl : List (Str × Addr)) (fp : List Addr), QMG (X.blk s H scope (compEnvC scope cl C X.env) fp) os tv tg t)
    (ht : ∀ (s : Shared) (H : Hp) (C : Addr) (cl : List (Str × Addr)) (fp : List Addr), QMTs (X.blk s H scope (compEnvC scope cl C X.env) fp) os ifs n)
    (he : ∀ (s : Shared) (H : Hp) (C : Addr) (cl : List (Str × Addr)) (fp : List Addr), QM (X.blk s H scope (compEnvC scope cl C X.env) fp) os elt me) (hs : ∀ x, foldedSetIterable iter X.env x = pure x := by intro _; rfl) :
    PMS X fr os os ol (.Assign [.Name y py] (.ListComp elt [⟨tg, iter, ifs, 0⟩] scope pos) spos) (cSet i (eLc mi (own.map (·.2)) t n me)) := by
  obtain ⟨_, hi⟩ := hi
  exact pms_setLc own i hi' hc hN hy hyl hsw hi ok hv (g := cG X.K X.mg os tv t) (tt := cT X.K X.mg os n) (te := cE X.K X.mg os me) (fun s H C cl fp => (hg s H C cl fp).can) (fun s H C cl fp => (ht s H C cl fp).can) (fun s H C cl fp => (he s H C cl fp).can) hs
theorem q_setLcS (own : List (Str × Nat)) (i : Nat) {py spos : Pos} (hi' : i ∉ os) (hc : X.calm = true) (hN : X.N.Nodup) (hy : X.N[i]? = some y) (hyl : X.env.scope.names.lookup y = some .local)
    (hsw : swapsWith (.ListComp elt [⟨tg, iter, ifs, 0⟩] scope pos) (some (.Name y py)) spos.line X.env = pure true) (hi : QMI X os tg iter mi) (ok : BlkOk X.N X.env.scope scope own) (hv : ∀ j ∈ tv, j ∈ own.map (·.2))
    (hg : ∀ (s : Shared) (H : Hp) (C : Addr) (cl : List (Str × Addr)) (fp : List Addr), QMG (X.blk s H scope (compEnvC scope cl C X.env) fp) os tv tg t)
    (ht : ∀ (s : Shared) (H : Hp) (C : Addr) (cl : List (Str × Addr)) (fp : List Addr), QMTs (X.blk s H scope (compEnvC scope cl C X.env) fp) os ifs n)
    (he : ∀ (s : Shared) (H : Hp) (C : Addr) (cl : List (Str × Addr)) (fp : List Addr), QM (X.blk s H scope (compEnvC scope cl C X.env) fp) os elt me) (hs : ∀ x, foldedSetIterable iter X.env x = pure x := by intro _; rfl) :
    PMS X fr os os ol (.Assign [.Name y py] (.ListComp elt [⟨tg, iter, ifs, 0⟩] scope pos) spos) (cSet i (eLc mi (own.map (·.2)) t n me)) := by
  obtain ⟨_, hi⟩ := hi
  exact pms_setLcS own i hi' hc hN hy hyl hsw hi ok hv (g := cG X.K X.mg os tv t) (tt := cT X.K X.mg os n) (te := cE X.K X.mg os me) (fun s H C cl fp => (hg s H C cl fp).can) (fun s H C cl fp => (ht s H C cl fp).can) (fun s H C cl fp => (he s H C cl fp).can) hs
end
section
variable {X : Cx} {os : List Nat} {e : Expr} {es : List Expr} {ms : Ev → M (List D)} {p pos : Pos} {k n : Nat} {x : Str} {mf : List D → M D} {dd : D}
end
section
variable {X : Cx} {os : List Nat} {e : Expr} {es : List Expr} {m : Ev → M D} {ms : Ev → M (List D)} {p pos : Pos} {k n : Nat} {x : Str} {mf : List D → M D}
end
end Mir
end
section
set_option maxHeartbeats 1000000
namespace Mir
open PySem PySem.Spec PyProof.Rows L2
variable [Tab]
section
variable {X : Cx} {fr : Bool} {os os' ol : List Nat} {e a b c : Expr} {es : List Expr} {te ta tb tc : TE} {tas : TA} {m ma mb mc : Ev → M D} {ms : Ev → M (List D)} {pos p' p2 p3 : Pos} {k : Nat} {x y : Str}
end
section
variable (K : PySem.W.Frag) (mg : Str → Option Value)
end
section
variable {X : Cx} {st : Stmt} {rest a b : List Stmt} {c e : Expr} {m ma mb : Ev → M Ctl} {n : Ev → M Bool} {tt : TT} {te : TE} {pos : Pos} {x y : Str} {k : Nat}
end
section
variable {P : Program} {w : World} {K : PySem.W.Frag} {mg : Str → Option Value} {base : Heap}
end
section
variable {X : Cx} {fr : Bool} {os ol : List Nat} {es : List Expr} {ta : TA} {ms : Ev → M (List D)} {x y : Str} {p p2 pos pos2 : Pos} {k n : Nat} {mf : List D → M D}
end
section
variable {S : SA} {G H G' H' : Hp} {d d' : Drw} {t : Addr} {F : List Key → TV → Prop}
end
section
variable {X : Cx} {c fW : Str} {sts : List Stmt} {r : Ev → List (Str × D) → M (List (Str × D))} {pos p p2 pd : Pos}
end
section
variable {P : Program} {w : World} {K : PySem.W.Frag} {mg : Str → Option Value} {base : Heap}
end
section
variable {X : Cx} {fr : Bool} {os o2 ol : List Nat} {e : Expr} {es : List Expr} {rest : List Stmt} {ta : TA} {ma : Ev → M (List D)} {mrest : Ev → M Ctl} {c fW y : Str} {p p' pos spos : Pos} {k n : Nat} {m : List D → M (List (Str × D))}
end
section
variable {P : Program} {w : World} {K : PySem.W.Frag} {d : Addr} {o : Obj} {es : Array DictEntry} {ep : Nat} {hf : List NKey → Int} {kvs : List NRow}
end
section
variable {X : Cx} {e : Expr} {td : TE} {apos cpos : Pos}
end
section
variable {X : Cx} {fr : Bool} {os os' ol : List Nat} {a b e : Expr} {ta tb te : TE} {ma mb m : Ev → M D} {pos p' p2 p3 : Pos} {k : Nat} {x : Str}
end
section
variable {X : Cx} {os tv : List Nat} {tg iter kx vx e : Expr} {ifs : List Expr} {scope : Scope} {m mk mv : Ev → M D} {mi : Ev → M (List D)} {n : Ev → M Bool} {t : Ev → D → Option Ev} {pos : Pos}
end
section
variable {X : Cx} {e : Expr} {m : Ev → M D} {self leans fW : Str} {p1 p2 p3 p4 p5 p6 p7 p8 p9 q1 q2 q3 q4 pos pos2 pos3 : Pos} {k : Nat}
end
theorem flat_len {α β : Type} (f : α → List β) (n : Nat) (h : ∀ a, (f a).length = n) : ∀ l : List α, (l.flatMap f).length = l.length * n
  | [] => by simp
  | a :: r => by rw [List.flatMap_cons, List.length_append, flat_len f n h r, h a, List.length_cons, Nat.succ_mul, Nat.add_comm]
end Mir
end
section
set_option maxHeartbeats 1000000
namespace Mir
open PySem PySem.Spec PyProof.Rows L2
variable [Tab]
section
variable {P : Program} {w : World} {K : PySem.W.Frag} {tg : Expr} {d : Addr} {o : Obj} {es : Array DictEntry} {ep : Nat} {hf : List NKey → Int} {kvs : List NRow}
end
section
variable {X : Cx} {os : List Nat} {a b e : Expr} {ta tb te : TE} {ma mb m : Ev → M D} {p p' pos pos' : Pos}
end
section
variable {X : Cx} {os : List Nat} {o e : Expr} {to te : TE} {mo m : Ev → M D} {apos cpos p' pos : Pos} {k : Nat}
end
section
variable {X : Cx}
end
section
variable {X : Cx} {os : List Nat} {e : Expr} {te : TE} {m : Ev → M D} {pos p' : Pos} {k : Nat}
end
end Mir
end
section
set_option maxHeartbeats 1000000
namespace Mir
open PySem PySem.Spec PyProof.Rows L2
variable [Tab]
section
variable {X : Cx} {pins : List (Addr × Obj)} {σ : St} {H : Hp} {s : Shared}
theorem inv_lam {L : LamT} {c : Addr} {o : Obj} {t' : Nat} {pm ctv : Value} (I : Inv X pins σ H s) (ho : o = PySem.W.kla_obj "<lambda>" L.q L.params L.body L.scope L.cl pm c ctv) :
    Inv X pins σ (upd H s.heap.objs.size (LamO s.heap.objs.size L c)) { s with heap := s.heap.push o, toks := t' } := by
  subst ho
  refine I.laid (a := s.heap.objs.size) (fun b u e => Heap.get?_push_of_some _ e) (Nat.le_refl _) ?_
  have e : (s.heap.push (PySem.W.kla_obj "<lambda>" L.q L.params L.body L.scope L.cl pm c ctv)).get? s.heap.objs.size = some (PySem.W.kla_obj "<lambda>" L.q L.params L.body L.scope L.cl pm c ctv) := Heap.get?_push_size _ rfl
  exact ⟨⟨pm, ctv, e⟩, ⟨_, e⟩, fun h1 h2 ⟨p, d, z⟩ st => ⟨p, d, st _ z⟩⟩
end
def tLamE (P : Addr) (L : LamT) : TE := fun σ H Q => ∃ ps : Array Value, H P = some (.tbl ps) ∧ TriplesOk ps.toList ∧ (∀ (pos : Pos) (cv : Value), codeAmong pos ps.toList = some cv → ∃ c, cv = .ref c ∧ H c = some (LamX.CodeO c L.q)) ∧
  (∀ (f c : Addr) (pos : Pos), codeAmong pos ps.toList = some (.ref c) → H f = none → Q (.ref f) (upd H f (LamO f L c))) ∧
  (∀ (f c : Addr) (ps' : Array Value), H c = none → H f = none → f ≠ c → f ≠ P → TriplesOk ps'.toList → (∀ (pos : Pos) (cv : Value), codeAmong pos ps'.toList = some cv → codeAmong pos ps.toList = some cv ∨ cv = .ref c) →
    Q (.ref f) (upd (upd (upd H P (.tbl ps')) c (LamX.CodeO c L.q)) f (LamO f L c)))
theorem pe_lamC {X : Cx} {params : Arguments} {body : Expr} {scope : Scope} {pos : Pos} {c P : Addr} (TB : LamX.TabB X.base X.mg c P) (hcode : X.env.code = .ref c) (hdef : defaultsOf params X.env = ([], [])) {vz : List V} (hfree : X.Ok → ∀ y ∈ scope.names, y.2 = .free → ∃ c, X.env.cells.lookup y.1 = some c) :
    PE X (.Lambda params body scope pos) (tLamE P ⟨X.env.qual ++ "<lambda>", params, body, scope, cloFrom X.env.cells scope.names [], vz⟩) := by
  refine ⟨fun pins s σ H Q I h => ?_⟩
  obtain ⟨ps, hP, ht, ha, k1, k2⟩ := h
  refine PySem.W.kla_eval hdef ?_
  have bP : s.heap.BuiltinsAt X.mg P := TB.bm.keeps I.bk
  have hP' : s.heap.get? P = some { cls := .none, data := .fields ps } := I.hok P _ hP
  have hcl : closureFor scope X.env = pure (cloFrom X.env.cells scope.names []) := closure_ok (hfree I.ok)
  cases hc : codeAmong pos ps.toList with
  | none =>
    refine PySem.W.kla_makeFunction (mg := X.mg) (c := c) (P := P) (ps := ps) hcl I.ok.glob (I.mod.glob.keeps I.bk) hcode (TB.code.keeps I.bk) hP' ht hc TB.gP bP fun c' ctv h' tk hx hge hlt hrec htb => ?_
    obtain ⟨c2, oc, vs, t, e2, hoc, hd, hv⟩ := hrec
    cases e2
    have hsz : s.heap.objs.size ≤ h'.objs.size := Nat.le_trans hge (Nat.le_of_lt hlt)
    have nC : H c' = none := I.hok.fresh hge
    have I1 := LamX.inv_table (t' := tk) (more := #[rawInt pos.line, rawInt pos.col, .ref c']) (h' := h') I hP (fun b o hb e => hx b o hb e) htb hge ⟨oc, vs, t, hoc, hd, hv⟩
    have I2 := inv_lam (L := ⟨X.env.qual ++ "<lambda>", params, body, scope, cloFrom X.env.cells scope.names [], vz⟩) (c := c') (t' := tk) (pm := (X.mg "__name__").getD .none) (ctv := ctv) I1 rfl
    have eL : (ps ++ #[rawInt pos.line, rawInt pos.col, .ref c']).toList = ps.toList ++ [rawInt pos.line, rawInt pos.col, .ref c'] := by simp
    refine ⟨.ref h'.objs.size, _, I2, rfl, k2 h'.objs.size c' _ nC (I.hok.fresh hsz) (Nat.ne_of_gt hlt) (Nat.ne_of_gt (Nat.lt_of_lt_of_le (Heap.lt_size hP') hsz)) (by rw [eL]; exact PySem.TriplesOk_snoc _ _ _ _ ht) fun p' cv hcv => ?_⟩
    rw [eL] at hcv
    exact LamX.among_app _ ht hcv
  | some cv =>
    obtain ⟨c', e, hco⟩ := ha pos cv hc
    subst e
    refine PySem.W.kla_makeFunctionHit (mg := X.mg) (c := c) (P := P) (ps := ps) hcl I.ok.glob (I.mod.glob.keeps I.bk) hcode (TB.code.keeps I.bk) hP' ht hc bP fun ctv h' tk hx hsz => ?_
    have I1 : Inv X pins σ H { s with heap := h', toks := tk } := I.kept hx
    have I2 := inv_lam (L := ⟨X.env.qual ++ "<lambda>", params, body, scope, cloFrom X.env.cells scope.names [], vz⟩) (c := c') (t' := tk) (pm := (X.mg "__name__").getD .none) (ctv := ctv) I1 rfl
    exact ⟨.ref h'.objs.size, _, I2, rfl, k1 h'.objs.size c' pos hc (I.hok.fresh hsz)⟩
theorem StR.altT {S : SA} {H : Hp} {d : Drw} {P : Addr} {F : WX} (h : StR S H d) (hW : S.W P = some F) (o : HO) : StR S (upd H P o) d where
  s := by rw [upd_ne (Ne.symm (h.w P F hW).2.1)]; exact h.s
  g := by rw [upd_ne (Ne.symm (h.w P F hW).2.2.1)]; exact h.g
  c := by rw [upd_ne (Ne.symm (h.w P F hW).2.2.2.1)]; exact h.c
  gc := h.gc
  l := fun b vs e => by
    have z : b ≠ P := fun z => by rw [z, (h.w P F hW).2.2.2.2] at e; cases e
    rw [upd_ne z]; exact h.l b vs e
  w := fun b F' e => by
    refine ⟨?_, (h.w b F' e).2⟩
    by_cases z : b = P
    · rw [z, upd_same]; exact fun z => nomatch z
    · rw [upd_ne z]; exact (h.w b F' e).1
  t := h.t
theorem sim_lamG {K : PySem.W.Frag} {mg : Str → Option Value} {C : Ct} {os : List Nat} {L : LamT} {P : Addr} (hT : (P, L.q) ∈ Tab.T) {G : Hp} {σ : St} {H : Hp} {env : Ev} {d : Drw} {Q : VK} (I : IM K mg C os env σ H G d)
    (w : ∀ (f c : Addr) (H' G' : Hp), Aft C.S G H G' H' d → G' f = some (LamO f L c) → G' c = some (LamX.CodeO c L.q) → Q (.ref f) H') : tLamE P L σ H Q := by
  have hW : C.S.W P = some (.tab L.q) := I.st.t _ hT
  have hM := I.sub.w P _ hW
  obtain ⟨ps, hP, ht, ha⟩ := hM
  have inP : inS C.S P := inS.w hW
  refine ⟨ps, hP, ht, fun pos cv hc => ?_, fun f c pos hc hf => ?_, fun f c ps' hc hf n1 n2 ht' ha' => ?_⟩
  · obtain ⟨c, e1, e2⟩ := ha pos cv hc
    exact ⟨c, e1, (I.sub c _ e2).1⟩
  · obtain ⟨c', e1, e2⟩ := ha pos _ hc
    cases e1
    exact w f c _ _ (Aft.new I.st I.sub (o := LamO f L c) hf) upd_same (Le.new (I.sub.free hf) _ _ e2)
  · have gc : G c = none := I.sub.free hc
    have gf : upd G c (LamX.CodeO c L.q) f = none := by rw [upd_ne n1]; exact I.sub.free hf
    have nP : ∀ b o, H b = some o → b ≠ c ∧ b ≠ f := fun b o e => ⟨ne_of_none e hc, ne_of_none e hf⟩
    have h1 : upd H P (.tbl ps') c = none := by
      have z : c ≠ P := fun z => by rw [z, hP] at hc; cases hc
      rw [upd_ne z]; exact hc
    have h2 : upd (upd H P (.tbl ps')) c (LamX.CodeO c L.q) f = none := by
      rw [upd_ne n1, upd_ne n2]; exact hf
    have le2 : Le G (upd (upd G c (LamX.CodeO c L.q)) f (LamO f L c)) := (Le.new gc).trans (Le.new gf)
    have A : Aft C.S G H (upd (upd G c (LamX.CodeO c L.q)) f (LamO f L c)) (upd (upd (upd H P (.tbl ps')) c (LamX.CodeO c L.q)) f (LamO f L c)) d := {
      hp := fun b u e n => by
        have z : b ≠ P := fun z => n (by rw [z]; exact inP)
        rw [upd_ne (nP b u e).2, upd_ne (nP b u e).1, upd_ne z]; exact e
      gm := le2
      gn := fun b hb g => by
        obtain ⟨o, e, _⟩ := hb
        rw [upd_ne (nP b o e).2, upd_ne (nP b o e).1]; exact g
      st := ((I.st.altT hW (.tbl ps')).new h1).new h2
      sub := ⟨fun b u e => by
        by_cases zf : b = f
        · subst zf
          rw [upd_same] at e ⊢
          exact ⟨e, I.st.off hf⟩
        · rw [upd_ne zf] at e ⊢
          by_cases zc : b = c
          · subst zc
            rw [upd_same] at e ⊢
            exact ⟨e, I.st.off hc⟩
          · rw [upd_ne zc] at e ⊢
            have q := I.sub b u e
            have z : b ≠ P := fun z => q.2 (by rw [z]; exact inP)
            rw [upd_ne z]; exact q, fun b F e => by
        by_cases z : b = P
        · subst z
          rw [hW] at e
          cases e
          refine MemA.tb ⟨ps', ?_, ht', fun pos cv hcv => ?_⟩
          · rw [upd_ne (Ne.symm n2), upd_ne (nP b _ hP).1, upd_same]
          · rcases ha' pos cv hcv with k | k
            · obtain ⟨c0, e1, e2⟩ := ha pos cv k
              exact ⟨c0, e1, le2 _ _ e2⟩
            · exact ⟨c, k, by rw [upd_ne (Ne.symm n1), upd_same]⟩
        · exact (I.sub.w b F e).of le2 fun o q => by rw [upd_ne (nP b o q).2, upd_ne (nP b o q).1, upd_ne z]; exact q⟩ }
    exact w f c _ _ A upd_same (by rw [upd_ne (Ne.symm n1), upd_same])
def lamPs (e : Expr) : Arguments := match e with
  | .Lambda p _ _ _ => p
  | _ => defArgs (.Pass ⟨0, 0, 0, 0⟩)
def lamBd (e : Expr) : Expr := match e with
  | .Lambda _ b _ _ => b
  | e => e
def lamSc (e : Expr) : Scope := match e with
  | .Lambda _ _ sc _ => sc
  | _ => defScope (.Pass ⟨0, 0, 0, 0⟩)
def lamT (x : Str) (e : Expr) : LamT := ⟨x ++ ".<locals>." ++ "<lambda>", lamPs e, lamBd e, lamSc e, [], []⟩
def lnf (L : LamT) (c : Addr) : NdefX.NF := ⟨"<lambda>", L.q, L.params, [], L.scope, L.cl, c⟩
def LOk (P : Program) (w : World) (K : PySem.W.Frag) (mg : Str → Option Value) (base : Heap) (k : Nat) (L : LamT) (n : Nat) (m : List D → M D) : Prop :=
  ∀ (f c : Addr) (A : Around) (outer : List Env) (s : Shared) (H : Hp) (us : List Value) (vs : List V) (Q : VK) (E : XK), Room k A → Env0 P w K mg base A outer s H → H f = some (LamO f L c) → H c = some (LamX.CodeO c L.q) → Vals vs us → vs.length = n ∧ spM K mg (n + L.vs.length) m (vs ++ L.vs) H Q E →
    codeAny (model P w) A (.call (.ref f) ⟨us, []⟩) (CR CX0 outer P w H s Q E) s
def lamM (nl : Nat) (mb : Ev → M D) : List D → M D := fun ds => mb (ds.map some ++ List.replicate (nl - ds.length) none)
theorem LOk.mono {P : Program} {w : World} {K : PySem.W.Frag} {mg : Str → Option Value} {base : Heap} {j k n : Nat} {L : LamT} {m : List D → M D} (h : LOk P w K mg base j L n m) (hk : j ≤ k) : LOk P w K mg base k L n m :=
  fun f c A outer s H us vs Q E hr => h f c A outer s H us vs Q E (hr.mono hk)
abbrev LMs := Str → Option (Nat × (List D → M D))
theorem lam_at {X : Cx} {pins : List (Addr × Obj)} {σ : St} {H : Hp} {s : Shared} {f c : Addr} {L : LamT} (I : Inv X pins σ H s) (e : H f = some (LamO f L c)) : PySem.W.FnAt f s.heap := by
  obtain ⟨⟨pm, ctv, ho⟩, _, _⟩ := I.hok f _ e
  exact ⟨_, _, _, _, ho⟩
section
variable {X : Cx} {os : List Nat} {e : Expr} {es : List Expr} {ms : Ev → M (List D)} {x y : Str} {p pos : Pos} {k : Nat}
def LamHere (X : Cx) : Prop := ∃ c P, X.env.code = .ref c ∧ LamX.TabB X.base X.mg c P ∧ (P, X.env.qual ++ "<lambda>") ∈ Tab.T
end
end Mir
end
section
set_option maxHeartbeats 1000000
namespace Mir
open PySem PySem.Spec PyProof.Rows L2
variable [Tab]
structure ItC (K : PySem.W.Frag) (mg : Str → Option Value) (S : SA) (J : It) (G H : Hp) (ds : List D) : Prop where
  go : ∀ G' H' d' i x, Aft S G H G' H' d' → ds[i]? = some x → J.go i H' ∧ ∀ v H'', J.yld i H' v H'' → ∃ G'', Aft S G' H' G'' H'' d' ∧ Rep K mg S G'' v x
  stop : ∀ G' H' d', Aft S G H G' H' d' → J.stop ds.length H'
theorem ItOk.c {K : PySem.W.Frag} {mg : Str → Option Value} {S : SA} {J : It} {G H : Hp} {ds : List D} (h : ItOk K mg S J G ds) : ItC K mg S J G H ds :=
  ⟨fun G' H' d' i x A e => h.go G' H' d' i x A.gm A.sub A.st e, fun G' H' d' A => h.stop G' H' d' A.gm A.sub A.st⟩
def SimIC (K : PySem.W.Frag) (mg : Str → Option Value) (C : Ct) (os : List Nat) (wi : TI) (mi : Ev → M (List D)) : Prop := ∀ G σ H env d (R : It → Hp → Prop), IM K mg C os env σ H G d →
  Wp (mi env d) (fun ds d' => ∀ J H' G', Aft C.S G H G' H' d' → ItC K mg C.S J G' H' ds → R J H') → wi σ H R
theorem SimI.c {K : PySem.W.Frag} {mg : Str → Option Value} {C : Ct} {os : List Nat} {wi : TI} {mi : Ev → M (List D)} (h : SimI K mg C os wi mi) : SimIC K mg C os wi mi := fun G σ H env d R I w => h G σ H env d R I (w.imp fun ds d' k J H' G' A it => k J H' G' A it.c)
section
variable {X : Cx} {fr : Bool} {os ol : List Nat} {elt tg iter : Expr} {ifs : List Expr} {scope : Scope} {pos : Pos} {tv : List Nat} {t : Ev → D → Option Ev} {n : Ev → M Bool} {me : Ev → M D} {x y : Str}
end
theorem IM.at0 {K : PySem.W.Frag} {mg : Str → Option Value} {C : Ct} {env : Ev} {σ : St} {H G H' G' : Hp} {d d' : Drw} (I : IM K mg C [] env σ H G d) (A : Aft C.S C.G C.H G' H' d') (le : Le G G') : IM K mg C [] env σ H' G' d' where
  aft := A
  len := I.len
  sh := fun i x hi e => by
    obtain ⟨v, h1, h2⟩ := I.sh i x hi e
    exact ⟨v, h1, h2.mono le⟩
  ow := fun i x hi => nomatch hi
  dis := fun i j x y a hi => nomatch hi
def cI (K : PySem.W.Frag) (mg : Str → Option Value) (os : List Nat) (mi : Ev → M (List D)) : TI := fun σ H R => ∃ C G env d, IM K mg C os env σ H G d ∧ Wp (mi env d) fun ds d' => ∀ J H' G', Aft C.S G H G' H' d' → ItOk K mg C.S J G' ds → R J H'
theorem QMI.can {X : Cx} {os : List Nat} {tg e : Expr} {mi : Ev → M (List D)} (h : QMI X os tg e mi) : PMI X os tg e (cI X.K X.mg os mi) mi := by
  obtain ⟨wi, h⟩ := h
  exact ⟨⟨fun pins s σ H R I ⟨C, G, env, d, IMh, w⟩ => h.p.run pins s σ H R I (h.s C G σ H env d R IMh w)⟩, fun C G σ H env d R I w => ⟨C, G, env, d, I, w⟩⟩
section
variable {X : Cx} {fr : Bool} {ol : List Nat} {elt tg iter tg1 iter1 : Expr} {ifs ifs1 : List Expr} {scope : Scope} {pos : Pos} {tv vs1 : List Nat} {t t1 : Ev → D → Option Ev} {n n1 : Ev → M Bool} {mi mi1 : Ev → M (List D)} {me : Ev → M D} {y : Str}
end
theorem Aft.mem {S : SA} {G H G' H' : Hp} {d' : Drw} {t : Addr} {F : List Key → TV → Prop} (A : Aft S G H G' H' d') (n : ¬ inS S t) (g : G' t = none) (e : H' t = some (.dT [])) (fin : ∃ ks : List (List Key), ks.length ≤ 10000 ∧ ∀ k tv, F k tv → k ∈ ks) : Aft (memS S t F) G H G' H' d' where
  hp := fun b o e k => A.hp b o e fun z => k (memS_of z)
  gm := A.gm
  gn := A.gn
  st := A.st.mem n (by rw [e]; exact fun z => nomatch z)
  sub := A.sub.mem g e fin
section
variable {X : Cx} {os : List Nat} {e : Expr} {es : List Expr} {ma : Ev → M (List D)} {c fW x : Str} {p p2 pos pos2 : Pos} {k j nk : Nat} {m : List D → M (List (Str × D))} {mf : List D → M D}
end
end Mir
end
section
set_option maxHeartbeats 2000000
namespace Mir
open PySem PySem.Spec PyProof.Rows L2
variable [Tab]
section
variable {X : Cx} {os : List Nat} {e e2 : Expr} {ta : TA} {ms : Ev → M (List D)} {p pos tpos : Pos} {elts : List Expr} {kk : Nat}
end
end Mir
end
section
set_option maxHeartbeats 2000000
namespace PySem.SeqAt
open AutoSeq1 (wpAny_loadPart')
open MeetsSeq MeetsSeq2 MeetsSeq3 SeqRoads2
section
variable {prog : Program} {w : World}
end
end PySem.SeqAt
namespace Mir
open PySem PySem.Spec PyProof.Rows L2
variable [Tab]
section
variable {X : Cx} {os : List Nat} {e a b : Expr} {te ta tb : TE} {m ma mb : Ev → M D} {pos p' : Pos} {k : Nat}
end
end Mir
end
section
set_option maxHeartbeats 2000000
namespace Mir
open PySem PySem.Spec PyProof.Rows L2
variable [Tab]
section
variable {X : Cx} {os : List Nat} {e a : Expr} {te ta : TE} {m ma : Ev → M D} {pos p p' pos' : Pos}
end
section
variable {X : Cx} {fr : Bool} {os ol : List Nat} {e : Expr} {te : TE} {m : Ev → M D} {pos p2 p3 p' q2 q3 q' : Pos} {x y : Str}
end
end Mir
end
section
set_option maxHeartbeats 2000000
namespace Mir
open PySem PySem.Spec PyProof.Rows L2
variable [Tab]
section
variable {X : Cx} {os : List Nat} {a b : Expr} {ta tb : TE} {ma mb : Ev → M D} {pos : Pos} {k : Nat}
end
section
variable {X : Cx} {fr : Bool} {os o2 ol : List Nat} {e e2 : Expr} {es : List Expr} {rest : List Stmt} {ta : TA} {tb : TE} {ma : Ev → M (List D)} {mb : Ev → M D} {mrest : Ev → M Ctl} {c fW x y : Str} {p pos spos px py pt : Pos} {k n : Nat} {kt k2 pt2} {m : List D → M (List (Str × D))}
end
end Mir
end
section
set_option maxHeartbeats 2000000
namespace Mir
open PySem PySem.Spec PyProof.Rows L2 PySem.W
variable [Tab]
theorem SAt.obj {b : Bool} {h : Heap} {a : Addr} {its : Array Value} (x : SAt b h a its) : ∃ o, h.get? a = some o := by
  cases b with
  | true => obtain ⟨o, e, _⟩ := (show h.IsList a its from x); exact ⟨o, e⟩
  | false => obtain ⟨o, e, _⟩ := (show h.IsTuple a its from x); exact ⟨o, e⟩
section
variable {X : Cx} {os : List Nat} {e e2 : Expr} {ta : TA} {ms : Ev → M (List D)} {p p2 pos pos2 : Pos}
end
section
variable {X : Cx} {fr : Bool} {os o2 ol : List Nat} {e e2 : Expr} {es : List Expr} {rest : List Stmt} {ma : Ev → M (List D)} {mb : Ev → M D} {mrest : Ev → M Ctl} {c fW x y : Str} {p pos spos px py pt : Pos} {k n : Nat} {kt k2 pt2} {m : List D → M (List (Str × D))}
end
end Mir
end
section
set_option maxHeartbeats 400000
namespace Mir
open PySem PySem.Spec PyProof.Rows L2 SeqAt
variable [Tab]
section
variable {X : Cx} {os : List Nat} {a b : Expr} {ta tb : TE} {ma mb : Ev → M D} {pos : Pos} {k : Nat}
end
end Mir
end
section
set_option maxHeartbeats 2000000
namespace Mir
open PySem PySem.Spec PyProof.Rows L2
variable [Tab]
section
variable {X : Cx} {os : List Nat} {e : Expr} {te : TE} {m : Ev → M D} {pos p' : Pos} {x : Str}
end
section
variable {X : Cx} {os : List Nat} {c a b : Expr} {tt ta tb : TT} {na ma mb : Ev → M Bool} {pos : Pos}
end
end Mir
end
section
set_option maxHeartbeats 1000000
namespace Mir
open PySem PySem.Spec PyProof.Rows L2
mutual
def nlam : D → Bool
  | .non => true
  | .bl _ => true
  | .int _ => true
  | .str _ => true
  | .lst xs => nlams xs
  | .ro xs => nlams xs
  | .tup xs => nlams xs
  | .dic kvs => nlamk kvs
  | .obj _ fs => nlamf fs
  | .st => true
  | .ln xs => nlams xs
  | .plt xs => nlams xs
  | .rot xs => nlams xs
  | .dct kvs => nlamkT kvs
  | .dtn _ kvs => nlamkN kvs
  | .mem _ => true
  | .lam _ => false
  | .lamc _ _ => false
  | .dnk _ kvs => nlamkK kvs
  | .exc _ fs => nlamf fs
def nlams : List D → Bool
  | [] => true
  | x :: xs => nlam x && nlams xs
def nlamk : List (Key × D) → Bool
  | [] => true
  | (_, x) :: xs => nlam x && nlamk xs
def nlamkT : List (List Key × D) → Bool
  | [] => true
  | (_, x) :: xs => nlam x && nlamkT xs
def nlamkN : List (List NKey × D) → Bool
  | [] => true
  | (_, x) :: xs => nlam x && nlamkN xs
def nlamkK : List (NKey × D) → Bool
  | [] => true
  | (_, x) :: xs => nlam x && nlamkK xs
def nlamf : List (Str × D) → Bool
  | [] => true
  | (_, x) :: xs => nlam x && nlamf xs
end
theorem nlamk_eq : ∀ (ds : List (Key × D)), nlamk ds = nlams (ds.map (·.2))
  | [] => rfl
  | (k, x) :: ds => by rw [nlamk, List.map_cons, nlams, nlamk_eq ds]
theorem nlamkT_eq : ∀ (ds : List (List Key × D)), nlamkT ds = nlams (ds.map (·.2))
  | [] => rfl
  | (k, x) :: ds => by rw [nlamkT, List.map_cons, nlams, nlamkT_eq ds]
theorem nlamkN_eq : ∀ (ds : List (List NKey × D)), nlamkN ds = nlams (ds.map (·.2))
  | [] => rfl
  | (k, x) :: ds => by rw [nlamkN, List.map_cons, nlams, nlamkN_eq ds]
theorem nlamkK_eq : ∀ (ds : List (NKey × D)), nlamkK ds = nlams (ds.map (·.2))
  | [] => rfl
  | (k, x) :: ds => by rw [nlamkK, List.map_cons, nlams, nlamkK_eq ds]
structure TabW where
  t : Tab
section
variable [T1 : Tab] {K : PySem.W.Frag} {mg : Str → Option Value} {S : SA} {G : Hp} (w2 : TabW)
mutual
theorem Rep.retabW : ∀ {v : V} {d : D}, Rep K mg S G v d → nlam d = true → @Rep w2.t K mg S G v d
  | _, _, .non, _ => @Rep.non w2.t K mg S G
  | _, _, .bl b, _ => @Rep.bl w2.t K mg S G b
  | _, _, .int b, _ => @Rep.int w2.t K mg S G b
  | _, _, .str b, _ => @Rep.str w2.t K mg S G b
  | _, _, .lst h r, u => @Rep.lst w2.t K mg S G _ _ _ h (Reps.retabW r (by rw [nlam] at u; exact u))
  | _, _, .ro h r, u => @Rep.ro w2.t K mg S G _ _ _ h (Reps.retabW r (by rw [nlam] at u; exact u))
  | _, _, .tup h r, u => @Rep.tup w2.t K mg S G _ _ _ h (Reps.retabW r (by rw [nlam] at u; exact u))
  | _, _, .rot h r, u => @Rep.rot w2.t K mg S G _ _ _ h (Reps.retabW r (by rw [nlam] at u; exact u))
  | _, _, .ln h r, u => @Rep.ln w2.t K mg S G _ _ _ h (Reps.retabW r (by rw [nlam] at u; exact u))
  | _, _, .dic h r, u => @Rep.dic w2.t K mg S G _ _ _ _ h (RepK.retabW r (by rw [nlam, nlamk_eq] at u; exact u))
  | _, _, .dct h r, u => @Rep.dct w2.t K mg S G _ _ _ _ h (RepK.retabW r (by rw [nlam, nlamkT_eq] at u; exact u))
  | _, _, .obj m h r, u => @Rep.obj w2.t K mg S G _ _ _ _ _ _ m h (RepF.retabW r (by rw [nlam] at u; exact u))
  | _, _, .st, _ => @Rep.st w2.t K mg S G
  | _, _, .plt h n r, u => @Rep.plt w2.t K mg S G _ _ _ _ h n (Reps.retabW r (by rw [nlam] at u; exact u))
  | _, _, .dtn h n r, u => @Rep.dtn w2.t K mg S G _ _ _ _ _ h n (RepK.retabW r (by rw [nlam, nlamkN_eq] at u; exact u))
  | _, _, .mem h, _ => @Rep.mem w2.t K mg S G _ _ h
  | _, _, .lam h h1 h2, u => by rw [nlam] at u; cases u
  | _, _, .lamc h h1 h2 r, u => by rw [nlam] at u; cases u
  | _, _, .dnk h r, u => @Rep.dnk w2.t K mg S G _ _ _ _ _ h (RepK.retabW r (by rw [nlam, nlamkK_eq] at u; exact u))
  | _, _, .exc m h n r, u => @Rep.exc w2.t K mg S G _ _ _ _ _ _ m h n (RepF.retabW r (by rw [nlam] at u; exact u))
theorem Reps.retabW : ∀ {vs : List V} {ds : List D}, Reps K mg S G vs ds → nlams ds = true → @Reps w2.t K mg S G vs ds
  | _, _, .nil, _ => @Reps.nil w2.t K mg S G
  | _, _, .cons a b, u => by
    rw [nlams, Bool.and_eq_true] at u
    exact @Reps.cons w2.t K mg S G _ _ _ _ (Rep.retabW a u.1) (Reps.retabW b u.2)
theorem RepK.retabW : ∀ {κ : Type} {vs : List (κ × V)} {ds : List (κ × D)}, RepK K mg S G vs ds → nlams (ds.map (·.2)) = true → @RepK w2.t K mg S G κ vs ds
  | _, _, _, .nil, _ => @RepK.nil w2.t K mg S G _
  | _, _, _, .cons a b, u => by
    rw [List.map_cons, nlams, Bool.and_eq_true] at u
    exact @RepK.cons w2.t K mg S G _ _ _ _ _ _ (Rep.retabW a u.1) (RepK.retabW b u.2)
theorem RepF.retabW : ∀ {vs : List (Str × V)} {ds : List (Str × D)}, RepF K mg S G vs ds → nlamf ds = true → @RepF w2.t K mg S G vs ds
  | _, _, .nil, _ => @RepF.nil w2.t K mg S G
  | _, _, .cons a b, u => by
    rw [nlamf, Bool.and_eq_true] at u
    exact @RepF.cons w2.t K mg S G _ _ _ _ _ (Rep.retabW a u.1) (RepF.retabW b u.2)
end
end
section
variable {K : PySem.W.Frag} {mg : Str → Option Value} {S : SA} {G : Hp} (T1 T2 : Tab)
theorem Rep.retab {v : V} {d : D} (h : @Rep T1 K mg S G v d) (u : nlam d = true) : @Rep T2 K mg S G v d := @Rep.retabW T1 K mg S G ⟨T2⟩ v d h u
theorem Reps.retab {vs : List V} {ds : List D} (h : @Reps T1 K mg S G vs ds) (u : nlams ds = true) : @Reps T2 K mg S G vs ds := @Reps.retabW T1 K mg S G ⟨T2⟩ vs ds h u
theorem nlam_pk (k : NKey) : nlam (pkD k) = true := by
  cases k with
  | none => rfl
  | some k => cases k <;> rfl
theorem nlam_tv (tv : TV) : nlam (tvD tv) = true := by
  cases tv with
  | none => rfl
  | some p =>
    obtain ⟨hf, rows⟩ := p
    show nlamkN _ = true
    induction rows with
    | nil => rfl
    | cons r rows ih =>
      show (nlam _ && nlamkN _) = true
      rw [ih, Bool.and_true]
      show (true && (true && (nlam (pkD r.2.2.2) && true))) = true
      rw [nlam_pk]
      rfl
theorem MemI.retab {S : SA} {G H : Hp} (h : @MemI T1 S G H) : @MemI T2 S G H := fun b F e => by
  have q := h b F e
  cases F with
  | mem F =>
    obtain ⟨kvs, e1, l1, l2, e2⟩ := q
    exact ⟨kvs, e1, l1, l2, fun k v m => by
      obtain ⟨tv, r, f⟩ := e2 k v m
      exact ⟨tv, fun K mg S => Rep.retab T1 T2 (r K mg S) (nlam_tv tv), f⟩⟩
  | tab q' => exact q
theorem Sub.retab {S : SA} {G H : Hp} (h : @Sub T1 S G H) : @Sub T2 S G H := @Sub.mk T2 S G H (@Sub.f T1 S G H h) (MemI.retab T1 T2 (@Sub.w T1 S G H h))
end
abbrev retT (T : Tab) (L : Str → Option LamT) : Tab := @Tab.mk T.T L T.u
section
variable (T : Tab) (L : Str → Option LamT) {S : SA} {G H G' H' : Hp} {d : Drw}
theorem StR.ret (h : @StR T S H d) : @StR (retT T L) S H d := @StR.mk (retT T L) S H d (@StR.s T S H d h) (@StR.g T S H d h) (@StR.c T S H d h) (@StR.gc T S H d h) (@StR.l T S H d h) (@StR.w T S H d h) (@StR.t T S H d h)
theorem StR.unret (h : @StR (retT T L) S H d) : @StR T S H d := @StR.mk T S H d (@StR.s (retT T L) S H d h) (@StR.g (retT T L) S H d h) (@StR.c (retT T L) S H d h) (@StR.gc (retT T L) S H d h) (@StR.l (retT T L) S H d h) (@StR.w (retT T L) S H d h) (@StR.t (retT T L) S H d h)
theorem Aft.unret (h : @Aft (retT T L) S G H G' H' d) : @Aft T S G H G' H' d := @Aft.mk T S G H G' H' d (@Aft.hp (retT T L) S G H G' H' d h) (@Aft.gm (retT T L) S G H G' H' d h) (@Aft.gn (retT T L) S G H G' H' d h) (StR.unret T L (@Aft.st (retT T L) S G H G' H' d h)) (Sub.retab (retT T L) T (@Aft.sub (retT T L) S G H G' H' d h))
end
def clAt (cl : List (Str × Addr)) : List Addr := (cl.map (·.1)).filterMap fun y => cl.lookup y
def freedO : Obj := ⟨.none, none, .freed, #[]⟩
def reO (base h : Heap) (cs : List Addr) (i : Nat) : Obj := if (base.get? i).isSome = true ∨ i ∈ cs then h.objs.getD i freedO else freedO
theorem rebase (base h : Heap) (cs : List Addr) : ∃ b' : Heap, b'.objs.size = h.objs.size ∧ ∀ b, b'.get? b = if (base.get? b).isSome = true ∨ b ∈ cs then h.get? b else none := by
  refine ⟨⟨Array.ofFn (n := h.objs.size) fun i => reO base h cs i.val, h.life⟩, by simp, fun b => ?_⟩
  show (match (Array.ofFn (n := h.objs.size) fun i => reO base h cs i.val)[b]? with
    | some ⟨_, _, .freed, _⟩ => none
    | o => o) = _
  rw [Array.getElem?_ofFn]
  by_cases hb : b < h.objs.size
  · rw [dif_pos hb]
    show (match some (reO base h cs b) with
      | some ⟨_, _, .freed, _⟩ => none
      | o => o) = _
    unfold reO
    by_cases c : (base.get? b).isSome = true ∨ b ∈ cs
    · rw [if_pos c, if_pos c]
      have e : h.objs[b]? = some (h.objs.getD b freedO) := by
        rw [Array.getElem?_eq_getElem hb]
        simp [Array.getD, hb]
      have e2 : h.get? b = (match h.objs[b]? with
        | some ⟨_, _, .freed, _⟩ => none
        | o => o) := rfl
      rw [e2, e]
    · rw [if_neg c, if_neg c]
      rfl
  · rw [dif_neg hb]
    have e2 : h.get? b = (match h.objs[b]? with
      | some ⟨_, _, .freed, _⟩ => none
      | o => o) := rfl
    rw [e2, Array.getElem?_eq_none (Nat.le_of_not_lt hb)]
    by_cases c : (base.get? b).isSome = true ∨ b ∈ cs
    · rw [if_pos c]
    · rw [if_neg c]
theorem FunFrames.re {h base b' : Heap} : ∀ {l : List Env}, h.FunFrames base l → (∀ b ∈ frs l, base.get? b = none → b'.get? b = none) → h.FunFrames b' l
  | [], _, _ => trivial
  | env :: rest, hl, k => by
    obtain ⟨hk, ⟨L, o, hf, hn, ho, hd⟩, hr⟩ := hl
    have hm : ∀ b, b = L ∨ b ∈ frs rest → b ∈ frs (env :: rest) := fun b hb => by
      unfold frs
      rw [List.filterMap_cons, hf]
      exact List.mem_cons.mpr hb
    exact ⟨hk, ⟨L, o, hf, k L (hm L (.inl rfl)) hn, ho, hd⟩, FunFrames.re hr fun b hb => k b (hm b (.inr hb))⟩
section
variable {X : Cx} {pins : List (Addr × Obj)} {σ : St} {H : Hp} {s : Shared}
theorem cell_off (I : Inv X pins σ H s) (hfn : ∀ x, X.fn x = true) {y : Str} {c : Addr} (e : X.env.cells.lookup y = some c) : c ∉ frs X.stack := fun hb => by
  rcases List.mem_cons.mp (I.stkSub c hb) with z | hb
  · exact I.cne y c e z
  · obtain ⟨_, o, ho, _⟩ := I.ok.funs.mem hb
    exact absurd (Nat.lt_of_lt_of_le (Heap.lt_size ho) (I.ok.cab y c (hfn y) e)) (Nat.lt_irrefl _)
theorem cells_re {cl : List (Str × Addr)} {fr : List Str} {ws : List V} {b' : Heap} (C : NdefX.CellsAt cl fr (ws.map some) s.heap H) (hb : ∀ c ∈ clAt cl, b'.get? c = s.heap.get? c) {P : Program} {w : World} {K : PySem.W.Frag} {mg : Str → Option Value} {A : Around} {outer : List Env} {s2 : Shared} {H2 : Hp} (e0 : Env0 P w K mg b' A outer s2 H2) :
    NdefX.CellsAt cl fr (ws.map some) s2.heap H2 := by
  have mem : ∀ {y c}, cl.lookup y = some c → c ∈ clAt cl := fun {y c} e => List.mem_filterMap.mpr ⟨y, List.mem_map.mpr ⟨(y, c), PySem.mem_of_lookup e, rfl⟩, e⟩
  have mv : ∀ {y c v}, cl.lookup y = some c → s.heap.IsCell c v → s2.heap.IsCell c v ∧ H2 c = none := fun {y c v} e ⟨o, ho, hd⟩ => by
    have := e0.bs c o (by rw [hb c (mem e)]; exact ho)
    exact ⟨⟨o, this.1, hd⟩, this.2⟩
  refine ⟨C.len, fun y c e => ?_, C.inj, fun i y e => ?_⟩
  · obtain ⟨_, v, hv⟩ := C.all y c e
    exact ⟨(mv e hv).2, v, (mv e hv).1⟩
  · obtain ⟨c, hc, hv⟩ := C.has i y e
    refine ⟨c, hc, fun v ev => ?_⟩
    obtain ⟨u, r, z⟩ := hv v ev
    exact ⟨u, r, (mv hc z).1⟩
end
abbrev lamC (lt : LamT) (cl : List (Str × Addr)) (vs : List V) : LamT := ⟨lt.q, lt.params, lt.body, lt.scope, cl, vs⟩
def capsD (env : Ev) : List Nat → Option (List D)
  | [] => some []
  | j :: js => match env[j]? with
    | some (some d) => (capsD env js).map (d :: ·)
    | _ => none
def eCallC (n : Nat) (mf : List D → M D) (y : Str) (js : List Nat) (ms : Ev → M (List D)) : Ev → M D := fun env => match capsD env js with
  | some ws => ms env >>= fun xs => guardB (xs.length + 1 == n && (nlams xs && nlams ws)) (mf (xs ++ [.lamc y ws]) >>= fun r => guardB (nlam r) (pure r))
  | none => bad
def tCallL (js : List Nat) (sp : List V → Sp) (t : List V → TA) : TE := fun σ H Q => ∃ ws : List V, js.map (NdefX.slotAt σ) = ws.map some ∧ t ws σ H fun vs H1 => sp ws vs H1 Q E0
theorem caps_of [Tab] {K : PySem.W.Frag} {mg : Str → Option Value} {C : Ct} {os : List Nat} {env : Ev} {σ : St} {H G : Hp} {d : Drw} (I : IM K mg C os env σ H G d) : ∀ {js : List Nat} {ds : List D}, (∀ j ∈ js, j ∉ os) → capsD env js = some ds → ∃ ws : List V, js.map (NdefX.slotAt σ) = ws.map some ∧ Reps K mg C.S G ws ds
  | [], ds, _, e => by cases e; exact ⟨[], rfl, .nil⟩
  | j :: js, ds, ho, e => by
    unfold capsD at e
    split at e
    · rename_i d' ed
      obtain ⟨ds', e1, e2⟩ := Option.map_eq_some_iff.mp e
      subst e2
      obtain ⟨ws, h1, h2⟩ := caps_of I (fun j hj => ho j (List.mem_cons_of_mem _ hj)) e1
      obtain ⟨v, ev, rv⟩ := I.sh j _ (ho j List.mem_cons_self) ed
      exact ⟨v :: ws, by rw [List.map_cons, List.map_cons, h1, NdefX.slotAt_of ev], .cons rv h2⟩
    · cases e
section
variable [T : Tab] {X : Cx} {os : List Nat} {a b : Expr} {ma mb : Ev → M D} {g : Str} {p pos lpos : Pos} {k kl nl : Nat} {m : LMs → List D → M D} {ml : List D → M D} {params : Arguments} {body : Expr} {scope : Scope} {fr : List Str}
end
end Mir
end
section
set_option maxHeartbeats 1000000
namespace Mir
open PySem PySem.Spec PyProof.Rows L2
variable [Tab]
section
variable {X : Cx} {pins : List (Addr × Obj)} {σ : St} {H : Hp} {s : Shared} {a : Addr} {y v dv : V} {u r : Value} {o : Option V} {A : Around} {E : Value → Shared → Prop}
end
section
variable {X : Cx} {os : List Nat} {a b e : Expr} {ta tb te : TE} {m ma mb : Ev → M D} {pos p' : Pos}
end
section
variable {P : Program} {w : World} {K : PySem.W.Frag} {tg : Expr} {d : Addr} {o : Obj} {es : Array DictEntry} {ep : Nat} {hf : List NKey → Int} {kvs : List (NKey × V)}
theorem kv_at {kvs : List (NKey × V)} {xs : List (NKey × Value)} (r : KV kvs xs) : ∀ {i : Nat} {p : NKey × V}, kvs[i]? = some p → ∃ q, xs[i]? = some q ∧ p.1 = q.1 := by
  induction r with
  | nil => intro i p e; simp at e
  | @cons p q ps qs h t ih =>
    intro i z e
    cases i with
    | zero => simp at e; subst e; exact ⟨q, rfl, h.1⟩
    | succ i => obtain ⟨q', e1, e2⟩ := ih (by simpa using e); exact ⟨q', by simpa using e1, e2⟩
theorem pairsN_at {es : List DictEntry} {xs : List (NKey × Value)} (r : PairsN es xs) : ∀ {i : Nat} {q : NKey × Value}, xs[i]? = some q → ∃ e, es[i]? = some e ∧ nkIs q.1 e.key = true := by
  induction r with
  | nil => intro i p e; simp at e
  | @cons e kv es kvs h h2 t ih =>
    intro i z e'
    cases i with
    | zero => simp at e'; subst e'; exact ⟨e, rfl, h⟩
    | succ i => obtain ⟨q', e1, e2⟩ := ih (by simpa using e'); exact ⟨q', by simpa using e1, e2⟩
theorem pairsN_len {es : List DictEntry} {xs : List (NKey × Value)} (r : PairsN es xs) : es.length = xs.length := by
  induction r with
  | nil => rfl
  | cons _ _ _ ih => rw [List.length_cons, List.length_cons, ih]
theorem nkIs_rel {k : NKey} {u : Value} (h : nkIs k u = true) : RelV (kN k) u := by
  cases k with
  | none => rw [nk_none h]; exact rfl
  | some k =>
    have h : keyIs k u = true := h
    rcases keyIs_shape h with ⟨j, t, e1, e2⟩ | ⟨y, t, e1, e2⟩
    · subst e1; subst e2; exact ⟨t, rfl⟩
    · subst e1; subst e2; exact ⟨t, rfl⟩
theorem frzK {X : Cx} {pins : List (Addr × Obj)} {σ : St} {H : Hp} {s : Shared} (I : Inv X pins σ H s) (h : H d = some (.frz o (DKo hf d kvs))) :
    (d == sysModules) = false ∧ s.heap.get? d = some o ∧ o.ExactDict ∧ ∃ (es : Array DictEntry) (ep : Nat), o.data = .dict es ep ∧ es.size = kvs.length ∧
      ∀ (i : Nat) (p : NKey × V), kvs[i]? = some p → ∃ e, es[i]? = some e ∧ RelV (kN p.1) e.key := by
  obtain ⟨hd, ⟨z, hs, xs, pr, o', es, ep, ho, hx, hdt, _, he, _⟩, _⟩ := (show s.heap.get? d = some o ∧ ObjOk X.prog X.w H s.heap d (DKo hf d kvs) from I.hok d _ h)
  rw [hd] at ho
  cases ho
  refine ⟨hs, hd, hx, es, ep, hdt, ?_, fun i p e => ?_⟩
  · have l1 := pairsN_len he
    have l2 : kvs.length = xs.length := Paired.length pr
    rw [Array.length_toList] at l1
    omega
  · obtain ⟨q, hq, e1⟩ := kv_at pr e
    obtain ⟨en, h1, h2⟩ := pairsN_at he hq
    refine ⟨en, by rw [← Array.getElem?_toList]; exact h1, ?_⟩
    rw [e1]
    exact nkIs_rel h2
end
section
variable {X : Cx}
end
def allK (kvs acc : List (NKey × D)) : List (NKey × D) := kvs.foldl (fun acc r => putD acc r.1 r.2) acc
section
variable {X : Cx} {os : List Nat} {e : Expr} {te : TE} {m : Ev → M D} {pos p' : Pos}
end
end Mir
end
section
set_option maxHeartbeats 3200000
namespace Mir
open PySem PySem.Spec PyProof.Rows L2
variable [Tab]
section
variable {P : Program} {w : World} {A : Around} {E : Value → Shared → Prop} {s : Shared}
end
section
variable {X : Cx} {os : List Nat} {e : Expr} {te : TE} {m : Ev → M D} {pos p' pos2 p2 : Pos}
end
section
variable {X : Cx} {os : List Nat} {e : Expr} {te : TE} {m : Ev → M D} {pos p' : Pos}
end
end Mir
end
section
set_option maxHeartbeats 1000000
namespace Mir
open PySem PySem.Spec PyProof.Rows L2
variable [Tab]
section
variable {X : Cx} {os o2 : List Nat} {e b : Expr} {rest : List Stmt} {te tb : TE} {m mb : Ev → M D} {mr : Ev → M Ctl} {x y : Str} {p' p2 p3 pos : Pos} {j k : Nat}
end
section
variable {X : Cx} {fr : Bool} {os o2 ol : List Nat} {e : Expr} {es : List Expr} {rest : List Stmt} {ta : TA} {ma : Ev → M (List D)} {mrest : Ev → M Ctl} {c fW y : Str} {p p' pos spos : Pos} {k n : Nat} {m : List D → M (List (Str × D))}
end
section
variable {X : Cx} {fr : Bool} {os o2 ol tv : List Nat} {e e2 tge : Expr} {es es2 : List Expr} {rest : List Stmt} {ta tb : TA} {ma mb : Ev → M (List D)} {mrest : Ev → M Ctl} {c fW : Str} {p pb pos pos2 spos : Pos} {k n : Nat} {k2 pt2} {m : List D → M (List (Str × D))} {g : TG} {tg : Ev → D → Option Ev}
end
end Mir
end
section
set_option maxHeartbeats 1000000
namespace Mir
open PySem PySem.Spec PyProof.Rows L2
variable [Tab]
section
variable {X : Cx} {fr : Bool} {os os' ol : List Nat} {a b : Expr} {ta tb : TE} {ma mb : Ev → M D} {pos : Pos} {x y : Str} {f1 f2 : Bool}
end
end Mir
end
section
set_option maxHeartbeats 1000000
namespace Mir
open PySem PySem.Spec PyProof.Rows L2 SeqAt
variable [Tab]
section
variable {X : Cx} {os : List Nat} {a b : Expr} {ta tb : TE} {ma mb : Ev → M D} {pos : Pos} {k : Nat}
end
end Mir
end
section
set_option maxHeartbeats 1000000
namespace Mir
open PySem PySem.Spec PyProof.Rows L2
variable [Tab]
inductive RY (α : Type) where
  | ok (a : α) (s : Drw)
  | exc (x : D) (s : Drw)
  | bad
def MY (α : Type) := Drw → RY α
def MY.pur {α : Type} (a : α) : MY α := fun s => .ok a s
def MY.bnd {α β : Type} (m : MY α) (f : α → MY β) : MY β := fun s => match m s with
  | .ok a s' => f a s'
  | .exc x s' => .exc x s'
  | .bad => .bad
instance : Monad MY where
  pure := MY.pur
  bind := MY.bnd
def badY {α : Type} : MY α := fun _ => .bad
def excY {α : Type} (x : D) : MY α := fun s => .exc x s
def liftY {α : Type} (m : M α) : MY α := fun s => match m s with
  | .ok a s' => .ok a s'
  | .bad => .bad
def guardY {α : Type} (b : Bool) (m : MY α) : MY α := if b = true then m else badY
def WpY {α : Type} (r : RY α) (P : α → Drw → Prop) (E : D → Drw → Prop) : Prop := match r with
  | .ok a s => P a s
  | .exc x s => E x s
  | .bad => False
section
variable {α β : Type} {m : MY α} {f : α → MY β} {s : Drw} {P : α → Drw → Prop} {E : D → Drw → Prop}
theorem WpY_exc {x : D} : WpY ((excY x : MY α) s) P E ↔ E x s := Iff.rfl
theorem bindY_run : (m >>= f) s = match m s with
  | .ok a s' => f a s'
  | .exc x s' => .exc x s'
  | .bad => .bad := rfl
theorem WpY_bind {P : β → Drw → Prop} : WpY ((m >>= f) s) P E ↔ WpY (m s) (fun a s' => WpY (f a s') P E) E := by
  rw [bindY_run]
  cases m s with
  | ok a s' => exact Iff.rfl
  | exc x s' => exact Iff.rfl
  | bad => exact Iff.rfl
theorem WpY.imp {r : RY α} {P Q : α → Drw → Prop} {E F : D → Drw → Prop} (h : WpY r P E) (k : ∀ a s, P a s → Q a s) (k2 : ∀ a s, E a s → F a s) : WpY r Q F := by
  cases r with
  | ok a s' => exact k _ _ h
  | exc x s' => exact k2 _ _ h
  | bad => exact h
theorem WpY_lift {m : M α} : WpY (liftY m s) P E ↔ Wp (m s) P := by
  unfold liftY
  cases m s with
  | ok a s' => exact Iff.rfl
  | bad => exact Iff.rfl
theorem WpY_guard {b : Bool} : WpY (guardY b m s) P E ↔ b = true ∧ WpY (m s) P E := by
  unfold guardY
  cases b with
  | true => exact ⟨fun h => ⟨rfl, h⟩, fun h => h.2⟩
  | false => exact ⟨fun h => h.elim, fun h => nomatch h.1⟩
end
def RaiseR (K : PySem.W.Frag) (mg : Str → Option Value) (S : SA) (G : Hp) (x : D) (cls : Value) (d : Option Addr) : Prop :=
  ∃ c fs A vfs, x = .exc c fs ∧ mg c = some (.ref A) ∧ cls = .ref A ∧ ExD G d vfs ∧ RepF K mg S G vfs fs
def RetY (K : PySem.W.Frag) (mg : Str → Option Value) (S : SA) (fr : Bool) (G H G' H' : Hp) (v : V) (x : D) : Prop := match fr with
  | true => RepN K mg S G H G' H' v x
  | false => Rep K mg S G' v x
section
variable (K : PySem.W.Frag) (mg : Str → Option Value)
def SimYE (C : Ct) (fr : Bool) (os : List Nat) (W : L2.WX) (te : TE) (m : Ev → MY D) : Prop := ∀ G σ H env d Q, IM K mg C os env σ H G d →
  WpY (m env d) (fun x d' => ∀ v H' G', Aft C.S G H G' H' d' → RetY K mg C.S fr G H G' H' v x → Q v H') (fun x d' => ∀ cls dd H' G', Aft C.S G H G' H' d' → RaiseR K mg C.S G' x cls dd → W cls dd σ H') → te σ H Q
def SimYS (C : Ct) (fr : Bool) (os os' ol : List Nat) (W : L2.WX) (ts : TS) (m : Ev → MY Ctl) : Prop := ∀ G σ H env d (D : Ends), IM K mg C os env σ H G d →
  WpY (m env d) (CPost K mg C fr os' ol G D) (fun x d' => ∀ cls dd σ' H' G', Aft C.S C.G C.H G' H' d' → RaiseR K mg C.S G' x cls dd → W cls dd σ' H') → ts D σ H
def spY (fr : Bool) (n : Nat) (f : List D → MY D) : Sp := fun vs H Q E => vs.length = n ∧ ∃ S G ds d, StR S H d ∧ Sub S G H ∧ Reps K mg S G vs ds ∧
  WpY (f ds d) (fun x d' => ∀ v H' G', Aft S G H G' H' d' → RetY K mg S fr G H G' H' v x → Q v H') (fun x d' => ∀ cls dd H' G', Aft S G H G' H' d' → RaiseR K mg S G' x cls dd → E cls dd H')
end
def QYE (X : Cx) (W : L2.WX) (fr : Bool) (os : List Nat) (e : Expr) (m : Ev → MY D) : Prop := ∃ te, PE X e te ∧ ∀ C, SimYE X.K X.mg C fr os W te m
def PYS (X : Cx) (W : L2.WX) (fr : Bool) (os os' ol : List Nat) (st : Stmt) (m : Ev → MY Ctl) : Prop := ∃ ts, PS X st ts ∧ ∀ C, SimYS X.K X.mg C fr os os' ol W ts m
def PYSs (X : Cx) (W : L2.WX) (fr : Bool) (os os' ol : List Nat) (st : List Stmt) (m : Ev → MY Ctl) : Prop := ∃ ts, PSs X st ts ∧ ∀ C, SimYS X.K X.mg C fr os os' ol W ts m
def yCall (n : Nat) (f : List D → MY D) (ms : Ev → M (List D)) : Ev → MY D := fun env => liftY (ms env) >>= fun xs => guardY (xs.length == n) (f xs)
section
variable {K : PySem.W.Frag} {mg : Str → Option Value} {C : Ct} {fr : Bool} {os : List Nat} {W : L2.WX}
theorem RetY.of_call {S : SA} {G0 H0 G H G' H' : Hp} {d : Drw} {v : V} {x : D} (A : Aft S G0 H0 G H d) (h : RetY K mg S fr G H G' H' v x) : RetY K mg S fr G0 H0 G' H' v x := by
  cases fr with
  | true => exact RepN.pull A h
  | false => exact h
theorem simYE_call {ta : TA} {n : Nat} {mf : List D → MY D} {ms : Ev → M (List D)} (sa : SimA K mg C os ta ms) : SimYE K mg C fr os W (tCallS (spY K mg fr n mf) (WE W) ta) (yCall n mf ms) := by
  intro G σ H env d Q I w
  unfold yCall at w
  rw [WpY_bind, WpY_lift] at w
  refine sa G σ H env d _ I (w.imp fun xs d1 w1 vs H1 G1 A1 r1 => ?_)
  rw [WpY_guard] at w1
  have hl : xs.length = n := by simpa using w1.1
  exact ⟨by rw [r1.length]; exact hl, C.S, G1, xs, d1, A1.st, A1.sub, r1, w1.2.imp (fun y d2 kk v H' G' A2 r2 => kk v H' G' (A1.trans A2) (RetY.of_call A1 r2)) fun y d2 kk cls dd H' G' A2 r2 => kk cls dd H' G' (A1.trans A2) r2⟩
end
def HasY (P : Program) (w : World) (K : PySem.W.Frag) (mg : Str → Option Value) (base : Heap) (k : Nat) (x : Str) (fr : Bool) (n : Nat) (m : List D → MY D) : Prop :=
  ∃ f fd ps, FnOk P w K mg base (L2.CX P w) k f fd ps (spY K mg fr n m) ∧ mg x = some (.ref f) ∧ PySem.W.keepIn K (.ref f) = true ∧ Binds K fd ps []
theorem HasY.mono {P : Program} {w : World} {K : PySem.W.Frag} {mg : Str → Option Value} {base : Heap} {j k : Nat} {x : Str} {fr : Bool} {n : Nat} {m : List D → MY D} (h : HasY P w K mg base j x fr n m) (l : j ≤ k) : HasY P w K mg base k x fr n m := by
  obtain ⟨f, fd, ps, F, r⟩ := h
  exact ⟨f, fd, ps, F.mono l, r⟩
section
variable {X : Cx} {W : L2.WX} {fr : Bool} {os os' o2 ol : List Nat} {e c : Expr} {es : List Expr} {m : Ev → MY D} {n : Ev → M Bool} {ms : Ev → M (List D)} {p pos : Pos} {k nn : Nat} {x : Str} {mf : List D → MY D} {st : Stmt} {rest a b : List Stmt} {ma mb : Ev → MY Ctl}
theorem qy_f (tk : Takes X W) (h : HasY X.prog X.w X.K X.mg X.base k x fr nn mf) (hr : Room k X.A) (hg : Gl X x) (ha : QMA X os (e :: es) ms)
    (hdb : (x == ("__debug__" : Str)) = false := by decide) (he : starEach (e :: es) X.env = (false, eval e X.env) :: starEach es X.env := by rfl) (hpl : (backTo pos (starEach es X.env)).any (·.1) = false := by rfl) :
    QYE X W fr os (.Call (.Name x p) (e :: es) [] pos) (yCall nn mf ms) := by
  obtain ⟨f, fd, ps, F, hm, hk, hb⟩ := h
  obtain ⟨ta, pa⟩ := ha
  exact ⟨_, pe_callS F hr hg hm hk hb (fun σ => passAt tk σ) pa.p hdb he hpl, fun C => simYE_call (pa.s C)⟩
def ySeq (a b : Ev → MY Ctl) : Ev → MY Ctl := fun env => a env >>= fun c => match c with
  | .nx e => b e
  | c => pure c
def yDrop (m : Ev → MY D) : Ev → MY Ctl := fun env => m env >>= fun _ => pure (.nx env)
def yIf (n : Ev → M Bool) (a b : Ev → MY Ctl) : Ev → MY Ctl := fun env => liftY (n env) >>= fun t => if t = true then a env else b env
def yNx : Ev → MY Ctl := fun env => pure (.nx env)
theorem yss_nil : PYSs X W fr os os ol [] yNx := ⟨_, pss_nil, fun C G σ H env d D I w => w σ H G (Le.refl G) I⟩
theorem yss_one (h1 : PYS X W fr os os' ol st ma) : PYSs X W fr os os' ol [st] ma := let ⟨_, p1, s1⟩ := h1; ⟨_, pss_one p1, s1⟩
theorem yss_cons (h1 : PYS X W fr os os' ol st ma) (h2 : PYSs X W fr os' o2 ol rest mb) : PYSs X W fr os o2 ol (st :: rest) (ySeq ma mb) := by
  obtain ⟨t, p1, s1⟩ := h1
  obtain ⟨u, p2, s2⟩ := h2
  refine ⟨_, pss_cons p1 p2, fun C G σ H env d D I w => ?_⟩
  unfold ySeq at w
  rw [WpY_bind] at w
  refine s1 C G σ H env d { D with nx := u D } I (w.imp (fun c d1 k => ?_) fun _ _ k => k)
  cases c with
  | nx e' => exact fun σ' H' G' le I' => s2 C G' σ' H' e' d1 D I' (WpY.imp k (fun c2 d2 k2 => CPost.le k2 le) fun _ _ k => k)
  | ret x => exact k
  | brk e' => exact k
  | cont e' => exact k
theorem ys_drop {f : Bool} (h : QYE X W f os e m) (hs : swapsWith e none pos.line X.env = pure false := by rfl) : PYS X W fr os os ol (.Expr e pos) (yDrop m) := by
  obtain ⟨te, p, s⟩ := h
  refine ⟨_, ps_expr p hs, fun C G σ H env d D I w => ?_⟩
  unfold yDrop at w
  rw [WpY_bind] at w
  exact s C G σ H env d _ I (w.imp (fun x d1 k v H' G' A r => k σ H' G' A.gm (I.later A)) fun x d1 k cls dd H' G' A r => k cls dd σ H' G' (I.aft.trans A) r)
theorem ys_if (hc : QMT X os c n) (ha : PYSs X W fr os os' ol a ma) (hb : PYSs X W fr os os' ol b mb) : PYS X W fr os os' ol (.If c a b pos) (yIf n ma mb) := by
  obtain ⟨tt, pc, sc⟩ := hc
  obtain ⟨ta, pa, sa⟩ := ha
  obtain ⟨tb, pb, sb⟩ := hb
  refine ⟨_, ps_if pc pa pb, fun C G σ H env d D I w => ?_⟩
  unfold yIf at w
  rw [WpY_bind, WpY_lift] at w
  refine sc C G σ H env d _ I (w.imp fun x d1 w1 H1 G1 A1 => ?_)
  have up : ∀ {t : TS} {mm : Ev → MY Ctl}, SimYS X.K X.mg C fr os os' ol W t mm → WpY (mm env d1) (CPost X.K X.mg C fr os' ol G D) (fun x d' => ∀ cls dd σ' H' G', Aft C.S C.G C.H G' H' d' → RaiseR X.K X.mg C.S G' x cls dd → W cls dd σ' H') → t D σ H1 := fun {t mm} s w2 => s G1 σ H1 env d1 D (I.later A1) (WpY.imp w2 (fun c2 d2 k2 => CPost.le k2 A1.gm) fun _ _ k => k)
  cases x with
  | true => exact iteT (up (sa C) w1)
  | false => exact iteF (up (sb C) w1)
def yForGo (t : Ev → D → Option Ev) (b : Ev → MY Ctl) : List D → Ev → MY Ctl
  | [], env => pure (.nx env)
  | x :: xs, env => match t env x with
    | none => badY
    | some e => b e >>= fun c => match c with
      | .nx e' => yForGo t b xs e'
      | .cont e' => yForGo t b xs e'
      | .brk e' => pure (.nx e')
      | .ret y => pure (.ret y)
def yFor (mi : Ev → M (List D)) (t : Ev → D → Option Ev) (b : Ev → MY Ctl) : Ev → MY Ctl := fun env => liftY (mi env) >>= fun ds => yForGo t b ds env
theorem ys_for {tg iter : Expr} {body : List Stmt} {mi : Ev → M (List D)} {tv : List Nat} {t : Ev → D → Option Ev} (hp : PassesOwn (model X.prog X.w) X.A X.env X.xe) (hc : X.calm = true) (hi : QMI X os tg iter mi) (hg : QMG X os tv tg t) (hb : PYSs X W fr os os os body mb) (hs : ∀ x, foldedSetIterable iter X.env x = pure x := by intro _; rfl) :
    PYS X W fr os os ol (.For tg iter body [] pos) (yFor mi t mb) := by
  obtain ⟨wi, pi, si⟩ := hi
  obtain ⟨g, pg, sg⟩ := hg
  obtain ⟨tb, pb, sb⟩ := hb
  refine ⟨_, ps_for hp hc pi pg pb hs, fun C G σ H env d D I w => ?_⟩
  unfold yFor at w
  rw [WpY_bind, WpY_lift] at w
  refine si C G σ H env d _ I (w.imp fun ds d1 w1 J H1 G1 A1 it => ?_)
  refine ⟨fun i m σ' H' => m = ds.length - i ∧ i ≤ ds.length ∧ ∃ G' env' d', Le G1 G' ∧ IM X.K X.mg C os env' σ' H' G' d' ∧ WpY (yForGo t mb (ds.drop i) env' d') _ _,
    ⟨ds.length, rfl, Nat.zero_le _, G1, env, d1, Le.refl _, I.later A1, w1⟩, fun i m σ' H' hw => ?_⟩
  obtain ⟨em, hi, G', env', d', le, I', w'⟩ := hw
  subst em
  by_cases hlt : i < ds.length
  · rw [List.drop_eq_getElem_cons hlt] at w'
    obtain ⟨hgo, hy⟩ := it.go G' H' d' i ds[i] le I'.sub I'.st (List.getElem?_eq_getElem hlt)
    refine .inr ⟨hgo, fun σ2 H2 => ∃ G2 env2 d2, Le G1 G2 ∧ IM X.K X.mg C os env2 σ2 H2 G2 d2 ∧ WpY (yForGo t mb (ds.drop (i + 1)) env2 d2) _ _, fun σ2 H2 q => ⟨ds.length - (i + 1), by omega, rfl, hlt, q⟩, fun v H2 yv => ?_⟩
    obtain ⟨G2, A2, rv⟩ := hy v H2 yv
    cases he1 : t env' ds[i] with
    | none => simp only [yForGo, he1] at w'; exact w'.elim
    | some e1 =>
      simp only [yForGo, he1] at w'
      refine sg C G2 σ' H2 env' d' v _ e1 _ (I'.later A2) rv he1 fun σ3 I3 _ _ => ?_
      rw [WpY_bind] at w'
      refine sb C G2 σ3 H2 e1 d' _ I3 (w'.imp (fun c d3 k => ?_) fun _ _ k => k)
      cases c with
      | nx e => exact fun σ4 H4 G4 l4 I4 => ⟨G4, e, d3, (le.trans A2.gm).trans l4, I4, k⟩
      | cont e => exact fun σ4 H4 G4 l4 I4 => ⟨G4, e, d3, (le.trans A2.gm).trans l4, I4, k⟩
      | brk e => exact fun σ4 H4 G4 l4 I4 => k σ4 H4 G4 (A1.gm.trans ((le.trans A2.gm).trans l4)) I4
      | ret x => exact k
  · have e : i = ds.length := by omega
    subst e
    rw [List.drop_length] at w'
    exact .inl ⟨it.stop G' H' d' le I'.sub I'.st, w' σ' H' G' (A1.gm.trans le) I'⟩
end
def defY (nl : Nat) (body : Ev → MY Ctl) : List D → MY D := fun ds => body (ds.map some ++ List.replicate (nl - ds.length) none) >>= fun c => match c with
  | .ret x => pure x
  | .nx _ => pure .non
  | _ => badY
section
variable {P : Program} {w : World} {K : PySem.W.Frag} {mg : Str → Option Value} {base : Heap}
theorem ok_defY {x qual : Str} {st : Stmt} {f : Addr} {fd : FuncData} {N ps : List Str} {k n : Nat} {fr : Bool} {os o2 ol : List Nat} {body : Ev → MY Ctl} (F : Fun K x qual st f fd) (S : FnScope N ps (defScope st)) (hn : ps.length = n) (ho : ∀ i ∈ os, n ≤ i)
    (hbody : ∀ (cdv : Value) (A : Around) (outer : List Env) (s : Shared) (H : Hp) (E : XK), Room k (A.deeper (envOfC qual (defScope st) s.heap.objs.size f cdv)) →
      PYSs (cxOf (L2.CX P w) P w K mg base N qual (defScope st) f cdv A outer s H E) (fun cls d _ H => E cls d H) fr os o2 ol (defBody st) body) : FnOk P w K mg base (L2.CX P w) (k + 1) f fd ps (spY K mg fr n (defY N.length body)) := by
  refine F.okX S (fun vs H Q E h => h.1.trans hn.symm) fun cdv A outer s H vs Q E hr h => ?_
  obtain ⟨hl, Sa, G, ds, d, st', sub, r, w⟩ := h
  obtain ⟨ts, p, sm⟩ := hbody cdv A outer s H E hr
  refine ⟨ts, p, sm ⟨Sa, G, H⟩ G (start N vs) H _ d _ (IM.start (C := ⟨Sa, G, H⟩) st' sub r fun i hi => by rw [← r.length, hl]; exact ho i hi) ?_⟩
  unfold defY at w
  rw [WpY_bind] at w
  refine w.imp (fun c d1 k1 => ?_) fun x d1 k1 cls dd σ' H' G' A' r' => k1 cls dd H' G' A' r'
  cases c with
  | nx e =>
    refine fun σ' H' G' _ I' => k1 .non H' G' I'.aft ?_
    cases fr with
    | true => exact .non
    | false => exact .non
  | ret x =>
    intro v H' G' A' r'
    refine k1 v H' G' A' ?_
    cases fr with
    | true => exact r'
    | false => exact r'
  | brk e => exact k1.elim
  | cont e => exact k1.elim
theorem hasY_of {x : Str} {st : Stmt} {N ps : List Str} {k n : Nat} {fr : Bool} {os o2 ol : List Nat} {body : Ev → MY Ctl} (F : Df K mg x st) (S : FnScope N ps (defScope st)) (hn : ps.length = n)
    (hb : ∀ (kV doc pm : Value) (an : Option Addr) (cdv ct : Value) (us : List Value), us.length = ps.length → bindArgs (PySem.W.fnOf x x (defArgs st) (defBody st) (defScope st) .none kV doc pm an cdv ct) ⟨us, []⟩ = pure (ps.zip us)) (ho : ∀ i ∈ os, n ≤ i)
    (hbody : ∀ (f : Addr) (cdv : Value) (A : Around) (outer : List Env) (s : Shared) (H : Hp) (E : XK), Room k (A.deeper (envOfC x (defScope st) s.heap.objs.size f cdv)) →
      Takes (cxOf (L2.CX P w) P w K mg base N x (defScope st) f cdv A outer s H E) (fun cls d _ H => E cls d H) → PassesOwn (model P w) (A.deeper (envOfC x (defScope st) s.heap.objs.size f cdv)) (envOfC x (defScope st) s.heap.objs.size f cdv) (cxOf (L2.CX P w) P w K mg base N x (defScope st) f cdv A outer s H E).xe →
      PYSs (cxOf (L2.CX P w) P w K mg base N x (defScope st) f cdv A outer s H E) (fun cls d _ H => E cls d H) fr os o2 ol (defBody st) body) : HasY P w K mg base (k + 1) x fr n (defY N.length body) := by
  obtain ⟨f, fd, F, hm⟩ := F
  exact ⟨f, fd, ps, ok_defY F S hn ho fun cdv A outer s H E hr => hbody f cdv A outer s H E hr (takes_of rfl rfl rfl rfl) (passes_of (X := cxOf (L2.CX P w) P w K mg base N x (defScope st) f cdv A outer s H E) rfl), hm, F.kp, F.binds hb⟩
end
end Mir
end
section
set_option maxHeartbeats 1000000
namespace Mir
open PySem PySem.Spec PyProof.Rows L2
variable [Tab]
section
variable {X : Cx} {pins : List (Addr × Obj)} {σ : St} {H : Hp} {s : Shared}
theorem exc_inst {a C : Addr} {d : Option Addr} {vfs : List (Str × V)} (I : Inv X pins σ H s) (ha : H a = some (ExcO a C d)) (hd : ExD H d vfs) : ∃ ox od, PySem.W.InstAt s.heap a ox C od ∧ ox.dict = d ∧ (∀ dd, d = some dd → ∃ o, od = some o ∧ s.heap.get? dd = some o) := by
  obtain ⟨⟨oe, vs, he, hz, hf⟩, _, _⟩ := I.hok a _ ha
  rcases hd with ⟨e1, _⟩ | ⟨dd, e1, e2⟩
  · subst e1
    refine ⟨oe, none, ⟨he, hz.1, by unfold PySem.W.notCls; rw [hf] <;> rfl, by rw [hz.2]; trivial⟩, hz.2, fun dd e => nomatch e⟩
  · subst e1
    have hx : ObjOk X.prog X.w H s.heap dd (.xd vfs) := I.hok dd _ e2
    obtain ⟨mA, hns, hr⟩ := hx
    obtain ⟨od, ho, hl⟩ := lookIn_ns hns
    exact ⟨oe, some od, ⟨he, hz.1, by unfold PySem.W.notCls; rw [hf] <;> rfl, by rw [hz.2]; exact ho⟩, hz.2, fun d2 e => by cases e; exact ⟨od, rfl, ho⟩⟩
end
def rIsX (K : PySem.W.Frag) : List V → Hp → VK → Prop := fun xs H Q => ∃ (a C : Addr) (d : Option Addr) (vfs : List (Str × V)) (c : V) (u : Value) (b : Bool), xs = [.ref a, c] ∧ ClsV c u ∧ H a = some (ExcO a C d) ∧ ExD H d vfs ∧ ExcC K C ∧ PySem.W.kitOne K (.ref C) u = some b ∧ Q (.bl b) H
theorem call_isX {X : Cx} : CallR X (.builtin "isinstance") (rIsX X.K) := by
  intro pins s σ H xs us Q I r h
  obtain ⟨a, C, d, vfs, c, u, b, rfl, k, ha, hd, E, e, q⟩ := h
  obtain ⟨u1, u2, rfl, r1, r2⟩ := vals2 r
  have e2 := k.eq r2
  subst e2
  obtain rfl : u1 = Value.ref a := r1
  obtain ⟨ox, od, J, _, _⟩ := exc_inst I ha hd
  obtain ⟨cd, hcd, _⟩ := PySem.W.any_some E.hd
  exact PySem.W.kia_one (PySem.W.kitx_exc (ox := ox) (od := od) (by rw [hcd]; rfl) E.hg E.hk E.hs E.ha E.hn E.ht E.hm) I.kIn J e (fun z => nomatch z) fun tk => ⟨.bl b, H, I.tok tk, rfl, q⟩
def IsTab (K : PySem.W.Frag) (mg : Str → Option Value) (u : Value) (tab : List (Str × Bool)) : Prop := ∀ c b, tab.lookup c = some b → ∃ C, mg c = some (.ref C) ∧ ExcC K C ∧ PySem.W.kitOne K (.ref C) u = some b
def IsX (K : PySem.W.Frag) (mg : Str → Option Value) (T : Str) (tab : List (Str × Bool)) : Prop := ∃ A, mg T = some (.ref A) ∧ IsTab K mg (.ref A) tab
def dIsX (tab : List (Str × Bool)) (x : D) : M D := match x with
  | .exc c _ => (match tab.lookup c with
    | some b => pure (.bl b)
    | none => bad)
  | _ => bad
theorem IsTab.sim {K : PySem.W.Frag} {mg : Str → Option Value} {u : Value} {c : V} {tab : List (Str × Bool)} (h : IsTab K mg u tab) (k : ClsV c u) {S : SA} {G H : Hp} {d : Drw} {v : V} {x : D} {Q : VK} (sb : Sub S G H) (st : StR S H d) (r : RepT K mg S G H v x)
    (w : Wp (dIsX tab x d) fun z d' => ∀ v H' G', Aft S G H G' H' d' → Rep K mg S G' v z → Q v H') : rIsX K [v, c] H Q := by
  unfold dIsX at w
  split at w
  · rename_i cn fs
    cases r with
    | of r =>
      cases r with
      | @exc a C dd _ vfs _ hm ha hd rf =>
        cases el : tab.lookup cn with
        | none => rw [el] at w; exact w.elim
        | some b =>
          rw [el] at w
          obtain ⟨C', hm', E, e⟩ := h cn b el
          rw [hm] at hm'
          cases hm'
          exact ⟨a, C, dd, vfs, c, u, b, rfl, k, (sb a _ ha).1, hd.mono fun b o q => (sb b o q).1, E, e, w _ _ _ (Aft.refl st sb) (.bl b)⟩
  · exact w.elim
section
variable {X : Cx} {os : List Nat} {a : Expr} {ma : Ev → M D} {p' pT pos : Pos} {T : Str} {n : String} {tab : List (Str × Bool)}
theorem q_isX (h : IsX X.K X.mg T tab) (B : Blt X.mg) (hg : Gl X "isinstance") (gT : Gl X T) (ha : QMB X os a ma) (hd : (T == ("__debug__" : Str)) = false := by decide)
    (he : starEach [a, .Name T pT] X.env = (false, eval a X.env) :: starEach [.Name T pT] X.env := by rfl) (he2 : starEach [.Name T pT] X.env = (false, eval (.Name T pT) X.env) :: starEach [] X.env := by rfl) (hpl : (backTo pos (starEach [.Name T pT] X.env)).any (·.1) = false := by rfl) :
    QM X os (.Call (.Name "isinstance" p') [a, .Name T pT] [] pos) (eUn (dIsX tab) ma) := by
  obtain ⟨ta, ha⟩ := ha
  obtain ⟨A, mT, h⟩ := h
  refine ⟨_, pe_callB call_isX hg (B _ (by decide)) (by decide +kernel) (pa_cons ha.p (pa_cons (pe_glob (v := .ref A) gT mT rfl hd) pa_nil he2) he) (by decide) (by decide) he hpl, fun C G σ H env d Q I w => ?_⟩
  unfold eUn at w
  rw [Wp_bind] at w
  exact ha.s C G σ H env d _ I (w.imp fun x d1 w1 v1 H1 G1 A1 r1 => h.sim (.own A) A1.sub A1.st r1 (w1.imp fun z d2 kk v H' G' A2 r2 => kk v H' G' (A1.trans A2) r2))
end
def HasXF (K : PySem.W.Frag) (mg : Str → Option Value) (c f : Str) : Prop := ∃ C, mg c = some (.ref C) ∧ XfC K C ∧ PySem.W.findIn K (.ref C) f = some none
def tXfX (K : PySem.W.Frag) (n : Str) (te : TE) : TE := fun σ H Q => te σ H fun x H1 => ∃ (a C dd : Addr) (fs : List (Str × V)) (v : V), x = .ref a ∧ XfC K C ∧ PySem.W.findIn K (.ref C) n = some none ∧ H1 a = some (ExcO a C (some dd)) ∧ H1 dd = some (.xd fs) ∧ fs.lookup n = some v ∧ Q v H1
theorem pe_xfX {X : Cx} {e : Expr} {te : TE} {pos : Pos} {n : Str} (he : PE X e te) (hb : attributeBase e n X.env (eval e X.env) = eval e X.env := by rfl) : PE X (.Attribute e n pos) (tXfX X.K n te) := by
  refine ⟨fun pins s σ H Q I h => ?_⟩
  refine attr_of hb (thn (he.run pins s σ H _ I h) fun u s1 hh => ?_)
  obtain ⟨x, H1, I1, rx, a, C, dd, fs, v, ex, T, hno, ha, ed, l, q⟩ := hh
  subst ex
  obtain rfl : u = Value.ref a := rx
  obtain ⟨⟨oe, vs, hoe, hz, hf⟩, _, _⟩ := I1.hok a _ ha
  have hx : ObjOk X.prog X.w H1 s1.heap dd (.xd fs) := I1.hok dd _ ed
  obtain ⟨mA, hns, hr⟩ := hx
  obtain ⟨od, ho, hl⟩ := lookIn_ns hns
  obtain ⟨u, hu, ru⟩ := RelO.some_of (v := v) (o := mA n) (by rw [← l]; exact hr n)
  have J : PySem.W.InstAt s1.heap a oe C (some od) := ⟨hoe, hz.1, by unfold PySem.W.notCls; rw [hf] <;> rfl, by rw [hz.2]; exact ho⟩
  refine HandSPX.exc_get I1.kIn J T.ga T.gg T.exC ?_ (handed_of ru) ⟨v, H1, I1.tok _, ru, q⟩
  exact PySem.W.findObj_own T.hdC hno rfl (by rw [hl, hu])
def eXf (c f : Str) (mo : Ev → M D) : Ev → M D := fun env => mo env >>= fun x => match x with
  | .exc c' fs => guardB (decide (c' = c)) (match fs.lookup f with
    | some y => pure y
    | none => bad)
  | _ => bad
theorem q_xf {X : Cx} {os : List Nat} {e : Expr} {m : Ev → M D} {pos : Pos} {c n : Str} (h : HasXF X.K X.mg c n) (ho : QM X os e m) (hb : attributeBase e n X.env (eval e X.env) = eval e X.env := by rfl) : QM X os (.Attribute e n pos) (eXf c n m) := by
  obtain ⟨te, po, so⟩ := ho
  obtain ⟨Cc, hC, T, hno⟩ := h
  refine ⟨_, pe_xfX po hb, fun C G σ H env d Q I w => ?_⟩
  unfold eXf at w
  rw [Wp_bind] at w
  refine so C G σ H env d _ I (w.imp fun y d1 w1 v1 H1 G1 A1 r1 => ?_)
  split at w1
  · rename_i c' fs
    rw [Wp_guard] at w1
    obtain ⟨ec, w1⟩ := w1
    have ec : c' = c := of_decide_eq_true ec
    subst ec
    cases ez : fs.lookup n with
    | none => simp only [ez] at w1; exact w1.elim
    | some z =>
      simp only [ez] at w1
      cases r1 with
      | @exc a C' dd _ vfs _ hm ha hd rf =>
        rw [hC] at hm
        cases hm
        obtain ⟨v, ev, rv⟩ := rf.look ez
        rcases hd with ⟨_, e2⟩ | ⟨d2, e1, e2⟩
        · subst e2
          cases ev
        · subst e1
          exact ⟨a, Cc, d2, vfs, v, rfl, T, hno, (A1.sub _ _ ha).1, (A1.sub _ _ e2).1, ev, w1 v H1 G1 A1 rv⟩
  · exact w1.elim
structure BInit (K : PySem.W.Frag) (B : Addr) : Prop where
  rd : PySem.W.readsIn K B (.type "type") = true
  ga : PySem.W.specialIn K (.ref B) "__getattribute__" = some (some (.builtin "type.__getattribute__"))
  vi : PySem.W.findCls K (.ref B) (.type "type") "__init__" = some (.val (.builtin "ValueError.__init__"))
theorem pe_binit {X : Cx} {B : Addr} {bn : Str} {e : Expr} {es : List Expr} {ta : TA} {p1 p2 pos : Pos} {pl : Sem Bool} (hB : BInit X.K B) (hg : Gl X bn) (hm : X.mg bn = some (.ref B)) (ha : PA X (e :: es) ta)
    (hdb : (bn == ("__debug__" : Str)) = false := by decide)
    (hc : eval (.Call (.Attribute (.Name bn p1) "__init__" p2) (e :: es) [] pos) X.env = (do
      let ov ← eval (.Name bn p1) X.env
      standAt p2.atName
      let (f, first) ← holding [ov] (getMethod ov "__init__" pl)
      callWith pos f first (backTo pos (starEach (e :: es) X.env)) (backToKw pos (keywordEach [] X.env))) := by rfl)
    (he : starEach (e :: es) X.env = (false, eval e X.env) :: starEach es X.env := by rfl) (hpl : (backTo pos (starEach es X.env)).any (·.1) = false := by rfl) :
    PE X (.Call (.Attribute (.Name bn p1) "__init__" p2) (e :: es) [] pos) (tVeI X.K ta) := by
  refine ⟨fun pins s σ H Q I h => ?_⟩
  refine PySem.W.methodCall_KW (ld_glob I hg hm ?_ hdb) hc
  refine PySem.W.method_cls I.kIn hB.ga (PySem.W.cls_value I.kIn hB.rd hB.vi rfl ?_)
  have I0 : Inv X pins σ H { s with toks := s.toks + 1 } := I.tok _
  show wpAny _ _ (callWith pos (Value.builtin "ValueError.__init__") [] (backTo pos (starEach (e :: es) X.env)) []) _ _ _
  refine PyProof.Rows.callWith_method1 (thn (ha.run pos pins _ σ H _ I0 h) fun us s1 ⟨vs, H1, I1, r1, a, C, ws, ev, hl, T, ea, q⟩ => ?_) he hpl
  subst ev
  cases r1 with
  | @cons _ u0 _ ur ra rw' =>
    obtain rfl : u0 = Value.ref a := ra
    have hlen : ur.length ≤ sizeLine := Nat.le_trans (Nat.le_of_eq (Paired.length rw').symm) (Nat.le_trans hl (by decide))
    exact oinit_ok T I1 ea hlen fun s' J => ⟨.non, H1, J, rfl, q⟩
def spExI (K : PySem.W.Frag) (fl : Str) : Sp := fun vs H Q _ => ∃ (a C : Addr) (y : V), vs = [.ref a, y] ∧ OexC K C ∧ PySem.W.findIn K (.ref C) fl = some none ∧ H a = some (exo a C none) ∧ ∀ dx, H dx = none → dx ≠ a → Q .non (upd (upd H dx (exd dx [(fl, y)])) a (exo a C (some dx)))
def HasEx (P : Program) (w : World) (K : PySem.W.Frag) (mg : Str → Option Value) (base : Heap) (k : Nat) (c fl : Str) : Prop :=
  ∃ C fI fd ps, mg c = some (.ref C) ∧ OexC K C ∧ PySem.W.findIn K (.ref C) fl = some none ∧ PySem.W.findIn K (.ref C) "__init__" = some (some (.ref fI)) ∧ PySem.W.typeIn K (.ref fI) = some (.type "function") ∧ FnOk P w K mg base CX0 k fI fd ps (spExI K fl) ∧ Binds K fd ps []
def DfX (K : PySem.W.Frag) (mg : Str → Option Value) (c fl qual : Str) (st : Stmt) : Prop :=
  ∃ C fI fd, mg c = some (.ref C) ∧ OexC K C ∧ PySem.W.findIn K (.ref C) fl = some none ∧ PySem.W.findIn K (.ref C) "__init__" = some (some (.ref fI)) ∧ PySem.W.typeIn K (.ref fI) = some (.type "function") ∧ Fun K "__init__" qual st fI fd
def DfB (K : PySem.W.Frag) (mg : Str → Option Value) (bn : Str) : Prop := ∃ B, mg bn = some (.ref B) ∧ BInit K B
section
variable {P : Program} {w : World} {K : PySem.W.Frag} {mg : Str → Option Value} {base : Heap}
def tExI (K : PySem.W.Frag) (fl msg : Str) : TS := tSeq (tDrop (tVeI K (tCons (tVar 0) (tCons (tC (.str msg)) tNil)))) (tOst K fl (tVar 0) (tVar 1))
theorem hasEx_of {c fl qual msg : Str} {st : Stmt} {N ps : List Str} {k : Nat} (F : DfX K mg c fl qual st) (S : FnScope N ps (defScope st)) (hn : ps.length = 2)
    (hb : ∀ (kV doc pm : Value) (an : Option Addr) (cdv ct : Value) (us : List Value), us.length = ps.length → bindArgs (PySem.W.fnOf "__init__" qual (defArgs st) (defBody st) (defScope st) .none kV doc pm an cdv ct) ⟨us, []⟩ = pure (ps.zip us))
    (hN : N.length = 2)
    (hbody : ∀ (f : Addr) (cdv : Value) (A : Around) (outer : List Env) (s : Shared) (H : Hp) (E : XK), PSs (cxOf CX0 P w K mg base N qual (defScope st) f cdv A outer s H E).nox (defBody st) (tExI K fl msg)) : HasEx P w K mg base (k + 1) c fl := by
  obtain ⟨C, f, fd, hm, T, hno, hi, ht, F⟩ := F
  refine ⟨C, f, fd, ps, hm, T, hno, hi, ht, F.ok S (fun vs H Q E h => ?_) fun cdv A outer s H vs Q E hr h => ⟨_, hbody f cdv A outer s H E, ?_⟩, F.binds hb⟩
  · obtain ⟨a, C', y, e, _⟩ := h
    rw [e, hn]
    rfl
  · obtain ⟨a, C', y, rfl, T', hno', ha, q⟩ := h
    match N, hN with
    | [n0, n1], _ => exact ⟨.ref a, rfl, a, C', [.str msg], rfl, (show 1 ≤ 1000 by decide), T', ha, ⟨y, rfl, .ref a, rfl, a, C', rfl, T', hno', .inl ⟨ha, fun dx h1 h2 => q dx h1 h2⟩⟩⟩
end
section
variable {X : Cx} {W : L2.WX} {fr : Bool} {os os' ol : List Nat} {e : Expr} {m : Ev → M D} {p pos : Pos} {k : Nat} {c fl : Str}
def yRaise (c fl : Str) (m : Ev → M D) : Ev → MY Ctl := fun env => liftY (m env) >>= fun x => excY (.exc c [(fl, x)])
theorem ys_raise (h : HasEx X.prog X.w X.K X.mg X.base k c fl) (hr : Room (k + 1) X.A) (hc : X.calm = true) (tk : Takes X W) (hg : Gl X c) (he' : QM X os e m)
    (hdb : (c == ("__debug__" : Str)) = false := by decide) (he : starEach [e] X.env = (false, eval e X.env) :: starEach [] X.env := by rfl) (hpl : (backTo pos (starEach [] X.env)).any (·.1) = false := by rfl) {pos' : Pos} :
    PYS X W fr os os' ol (.Raise (some (.Call (.Name c p) [e] [] pos)) none pos') (yRaise c fl m) := by
  obtain ⟨C, fI, fd, ps, hm, T, hno, hi, ht, F, hb⟩ := h
  obtain ⟨te, pe, se⟩ := he'
  refine ⟨_, ps_raise hc tk (pmk_oex (dvs := []) (ds := []) T hi ht F hr hb .nil pass0 hg hm (pa_cons pe pa_nil he) hdb he hpl), fun Ct G σ H env d D I w => ?_⟩
  unfold yRaise at w
  rw [WpY_bind, WpY_lift] at w
  refine se Ct G σ H env d _ I (w.imp fun x d1 w1 v1 H1 G1 A1 r1 => ?_)
  have w1 := WpY_exc.mp w1
  refine ⟨(show 1 ≤ 1000 by decide), fun a ha => ⟨a, C, v1, rfl, T, hno, upd_same, fun dx hdx ne => ⟨rfl, dx, [(fl, v1)], upd_same, ?_, ?_, ?_⟩⟩⟩
  · rw [upd_ne ne, upd_same]
  · rw [upd_ne ne] at hdx
    exact hdx
  · have hdx' : H1 dx = none := by rw [upd_ne ne] at hdx; exact hdx
    have eH : upd (del (upd (upd (upd H1 a (exo a C none)) dx (exd dx [(fl, v1)])) a (exo a C (some dx))) a) dx (.xd [(fl, v1)]) = upd H1 dx (.xd [(fl, v1)]) := by
      funext b
      by_cases z : b = dx
      · rw [z, upd_same, upd_same]
      · rw [upd_ne z, upd_ne z]
        by_cases z2 : b = a
        · rw [z2, del_same, ha]
        · rw [del_ne z2, upd_ne z2, upd_ne z, upd_ne z2]
    rw [eH]
    exact w1 (.ref C) (some dx) σ _ _ (I.aft.trans (A1.trans (Aft.new A1.st A1.sub hdx'))) ⟨c, _, C, [(fl, v1)], rfl, hm, rfl, .inr ⟨dx, rfl, upd_same⟩, .cons (r1.mono (Le.new (A1.sub.free hdx'))) .nil⟩
end
theorem refsVE_one (B : Addr) : PySem.HandSPX.refsVE [.ref B, .type "ValueError", .type "Exception", .type "BaseException", .type "object"] = true := by
  show PySem.HandSPX.refsVE [.type "ValueError", .type "Exception", .type "BaseException", .type "object"] = true
  decide +kernel
theorem kit_sub {K : PySem.W.Frag} {C T : Addr} {b : Bool} (h2 : PySem.W.isClsIn K T = true) (h3 : PySem.W.typeIn K (.ref T) = some (.type "type")) (h4 : PySem.W.subIn K (.ref C) (.ref T) = some b) (h5 : C = T → b = true) : PySem.W.kitOne K (.ref C) (.ref T) = some b := by
  unfold PySem.W.kitOne
  by_cases e : C = T
  · subst e
    rw [if_pos (by simp), h5 rfl]
  · rw [if_neg (by simpa using e)]
    have h2' : (PySem.W.clsIn K T).isSome = true := h2
    show (if ((PySem.W.clsIn K T).isSome && PySem.W.typeIn K (.ref T) == some (.type "type")) = true then PySem.W.subIn K (.ref C) (.ref T) else none) = some b
    rw [h2', h3, if_pos (by rfl)]
    exact h4
theorem exm_sub {K : PySem.W.Frag} {C B : Addr} (h1 : PySem.W.subIn K (.ref B) (.type "BaseException") = some true) (h2 : PySem.W.isClsIn K B = true) (h3 : PySem.W.typeIn K (.ref B) = some (.type "type")) (h4 : PySem.W.subIn K (.ref C) (.ref B) = some true) : PySem.W.exmOne K (.ref C) (.ref B) = some true := by
  have h2' : (PySem.W.clsIn K B).isSome = true := h2
  show (if (PySem.W.subIn K (.ref B) (.type "BaseException") == some true) = true then (if ((PySem.W.clsIn K B).isSome && PySem.W.typeIn K (.ref B) == some (.type "type")) = true then PySem.W.subIn K (.ref C) (.ref B) else none) else none) = some true
  rw [h1, h2', h3, if_pos (by rfl), if_pos (by rfl)]
  exact h4
theorem isTab_nil {K : PySem.W.Frag} {mg : Str → Option Value} {u : Value} : IsTab K mg u [] := fun _ _ e => nomatch e
theorem isTab_cons {K : PySem.W.Frag} {mg : Str → Option Value} {u : Value} {c : Str} {b : Bool} {C : Addr} {tab : List (Str × Bool)} (hm : mg c = some (.ref C)) (E : ExcC K C) (e : PySem.W.kitOne K (.ref C) u = some b) (h : IsTab K mg u tab) : IsTab K mg u ((c, b) :: tab) := fun x b' q => by
  rw [List.lookup_cons] at q
  by_cases z : (x == c) = true
  · rw [z] at q
    cases q
    have z : x = c := by simpa using z
    subst z
    exact ⟨C, hm, E, e⟩
  · have z : (x == c) = false := by simpa using z
    rw [z] at q
    exact h x b' q
end Mir
end
section
set_option maxHeartbeats 1000000
namespace Mir
open PySem PySem.Spec PyProof.Rows L2
variable [Tab]
theorem inv_track {X : Cx} {pins pins' : List (Addr × Obj)} {σ σ' : St} {H : Hp} {s sI : Shared} {a : Addr} {o : HO} (hex : X.ex = []) (I0 : Inv X pins' σ' H sI) (hp : ∀ p ∈ pins, p ∈ pins') (n0 : sI.heap.get? a = none) (I : Inv X pins σ H s) (new : ObjOk X.prog X.w (upd H a o) s.heap a o) :
    Inv X pins σ (upd H a o) s := by
  have hn : H a = none := by
    cases q : H a with
    | none => rfl
    | some u =>
      exfalso
      have z := I0.hok a u q
      have : ∃ o', sI.heap.get? a = some o' := by
        cases u with
        | lst xs => obtain ⟨_, _, _, _, e⟩ := z; exact ⟨_, e⟩
        | tup xs => obtain ⟨_, _, _, o', e, _⟩ := z; exact ⟨_, e⟩
        | dK kvs => obtain ⟨_, _, _, _, o', _, _, e, _⟩ := z; exact ⟨_, e⟩
        | dT kvs => obtain ⟨_, _, _, _, o', _, _, e, _⟩ := z; exact ⟨_, e⟩
        | set S n => obtain ⟨o', _, _, _, e, _⟩ := z; exact ⟨_, e⟩
        | ins C dx fs => exact ⟨_, z.2.2.2.1⟩
        | own x => exact z
        | xd fs => obtain ⟨mA, ⟨o', es, ep, e, _⟩, _⟩ := z; exact ⟨_, e⟩
        | met f x => exact ⟨_, z⟩
        | rng lo hi => obtain ⟨_, _, _, e⟩ := z; exact ⟨_, e⟩
        | frz o' u => exact ⟨_, z.1⟩
        | tbl ps => exact ⟨_, z⟩
        | ext φ => exact z.2.1
      obtain ⟨o', e⟩ := this
      rw [n0] at e; cases e
  have ne : ∀ {b : Addr} {u : Obj}, sI.heap.get? b = some u → b ≠ a := fun {b u} e z => by rw [z, n0] at e; cases e
  have hb : X.s_0.heap.get? a = none := by
    cases q : X.s_0.heap.get? a with
    | none => rfl
    | some u =>
      obtain ⟨o', e⟩ := I0.base.there a u q (by rw [hex]; exact fun z => nomatch z)
      rw [n0] at e; cases e
  have neB : ∀ {b : Addr} {u : Obj}, X.s_0.heap.get? b = some u → b ≠ a := fun {b u} e z => by rw [z, hb] at e; cases e
  have nL : X.env.locals ≠ a := by
    obtain ⟨m, ⟨oL, _, _, hoL, _⟩, _⟩ := I0.loc
    exact ne hoL
  have nC : ∀ y c, X.env.cells.lookup y = some c → c ≠ a := fun y c e => by
    obtain ⟨v, o', ho, _⟩ := I0.cell y c e
    exact ne ho
  have nP : ∀ p ∈ X.pn ++ pins, p.1 ≠ a := fun p hm => by
    rcases List.mem_append.mp hm with h | h
    · exact ne (I0.pin p (List.mem_append_left _ h)).1
    · exact ne (I0.pin p (List.mem_append_right _ (hp p h))).1
  refine ⟨I.ok, I.os, I.bare, ⟨I.base.keep, I.base.slot, fun b u e n hq => ?_, I.base.there, fun b xs e => ?_, fun b u v e => ?_, fun b ps e => ?_⟩, I.loc, I.cell, ?_, fun y c e => ?_, fun p hm => ?_, fun b u e => ?_, I.len⟩
  · rw [upd_ne (neB e)]; exact I.base.free b u e n hq
  · have q := I.base.tups b xs e; rw [upd_ne (ne_of_none q hn)]; exact q
  · have q := I.base.frzs b u v e; rw [upd_ne (ne_of_none q hn)]; exact q
  · obtain ⟨mo, q⟩ := I.base.tbls b ps e; exact ⟨mo, by rw [upd_ne (ne_of_none q hn)]; exact q⟩
  · rw [upd_ne nL]; exact I.free
  · rw [upd_ne (nC y c e)]; exact I.freeC y c e
  · obtain ⟨q1, q2, q3⟩ := I.pin p hm
    exact ⟨q1, by rw [upd_ne (nP p hm)]; exact q2, q3⟩
  · by_cases z : b = a
    · subst z
      rw [upd_same] at e
      cases e
      exact new
    · rw [upd_ne z] at e
      exact (I.hok b u e).stay (fun c v _ q => q) (fun c q => by rw [upd_ne (ne_of_none q hn)]; exact q) fun c xs q => by rw [upd_ne (ne_of_none q hn)]; exact q
def wKeep (K : PySem.W.Frag) (c : Value) (i j : Nat) (D : Ends) : L2.WX := fun cls d σ H => ∃ C, cls = .ref C ∧ PySem.W.exmOne K cls c = some true ∧ ∀ a, H a = none → D.nx (((σ.set j (some (.ref a))).set i (some (.ref a))).set j none) (upd H a (ExcO a C d))
theorem ps_try_keep {X : Cx} {x n y : Str} {c : Value} {i j : Nat} {body : List Stmt} {np pn px pa pos pos' : Pos} {tb : L2.WX → TS} (hs : X.stack = X.env :: X.outer) (hf : X.env.frame = some X.env.locals) (hex : X.ex = []) (hN : X.N.Nodup) (hj : X.N[j]? = some n) (hi : X.N[i]? = some y) (hln : X.env.kindOf n = some .local) (hly : X.env.kindOf y = some .local)
    (hc : Names X x c) (hd1 : (n == ("__debug__" : Str)) = false := by decide) (hd2 : (n == ("__classdict__" : Str)) = false := by decide)
    (hb : ∀ (W : L2.WX) (pn : List (Addr × Obj)) (xe : Value → Shared → Prop), Takes (X.tr pn xe) W → PassesOwn (model X.prog X.w) X.A X.env xe → PSs (X.tr pn xe) body (tb W))
    (hsw : swapsWith (.Name n pn) (some (.Name y px)) pa.line X.env = pure false := by rfl) :
    PS X (.Try body [.ExceptHandler (some (.Name x np)) (some n) [.Assign [.Name y px] (.Name n pn) pa] pos'] [] [] pos) (fun D σ H => tb (wKeep X.K c i j D) D σ H) := by
  refine ⟨fun pins s σ H D I h => ?_⟩
  have K0 := I.ok
  have frm : X.A.frames = some (X.env :: X.outer) := K0.frames.trans (congrArg some hs)
  refine wpAny_Try_except (wpAny_mono ((hb (wKeep X.K c i j D) (X.pn ++ pins) (fun e s₁ => wpAny (model X.prog X.w) X.A (noteFrame e X.env) (fun _ s₂ => wpAny (model X.prog X.w) X.A (setFlight e none) (fun _ s₃ =>
    wpAny (model X.prog X.w) X.A (handleBy e X.env [.ExceptHandler (some (.Name x np)) (some n) [.Assign [.Name y px] (.Name n pn) pa] pos']) (SP X pins D) X.xe s₃) X.xe s₂) X.xe s₁) (fun u s' q => ?_) PassesOwn.looking).run [] s σ H D (I.toTry _) h) (fun f s1 q => ?_) (fun e s1 q => q))
  · obtain ⟨a, B, sI, pins', σ', H', cls, d, rfl, J', nb, up, sky, na, os, ag, C, ec, hm, hgo⟩ := q
    subst ec
    have J : Inv X pins σ' H' sI := J'.ofTry K0
    rw [hs] at sky
    show wpAny (model X.prog X.w) X.A (noteFrame (.ref a) X.env) _ _ _
    refine Sky.land Zc.steady frm hf sky fun h3 fl3 up3 => ?_
    have J3 : Inv X pins σ' H' { s' with heap := h3 } := J.landed nb fl3.1 (up.trans up3) os ag
    obtain ⟨o3, v3, g3, z3, d3⟩ := fl3.there
    have offF : a ∉ frs (X.env :: X.outer) := fun hm => by
      obtain ⟨_, o', e', hnf⟩ := fl3.2.2.1.mem hm
      rw [g3] at e'; cases e'
      exact hnf _ d3
    have nI : sI.heap.get? a = none := by
      cases q : sI.heap.get? a with
      | none => rfl
      | some u =>
        have z := nb a u q (by rw [hs]; exact offF)
        rw [fl3.2.1] at z
        cases z
    have nL : a ≠ X.env.locals := fun z => offF (List.mem_filterMap.mpr ⟨X.env, List.mem_cons_self, hf.trans (congrArg some z.symm)⟩)
    have nF : a ∉ X.fs := fun hm => by
      obtain ⟨e, he, q⟩ := List.mem_filterMap.mp hm
      exact offF (List.mem_filterMap.mpr ⟨e, List.mem_cons_of_mem _ he, q⟩)
    have S3 := J3.suite g3 d3 na nL nF
    refine wpAny_handleBy_cons (codeAny_handlers_test ?_) (by intro q; cases q)
    have L1 : PySem.W.Looks (model X.prog X.w) h3 (typeOf (.ref a)) (.ref C) := fun A Q E s k q => wpAny_typeOf_ref (k _ _ g3) (by rw [z3.1]; exact q)
    have L2' := PySem.W.exm_one (M := model X.prog X.w) (J3.kIn) L1 hm
    have tst : ∀ {Q : Value → Shared → Prop} {E : Value → Shared → Prop}, Q c { s' with heap := h3 } → wpAny (model X.prog X.w) (X.A.mark (some (.ref a))) (eval (.Name x np) X.env) Q E { s' with heap := h3 } := fun {Q E} q => by
      obtain ⟨hg, hdbg, hm | ⟨hm, hv, hnn⟩⟩ := hc
      · exact ld_glob (X := X.suite a ((a, o3) :: (X.pn ++ pins))) S3 hg hm q hdbg
      · exact ld_blt (X := X.suite a ((a, o3) :: (X.pn ++ pins))) S3 hg hm hv q hnn hdbg
    refine tst (L2'.here (codeAny_handlers_suite_as ?_))
    refine HandSPX.lands_againZ fl3 fun h4 fl4 up4 => ?_
    have J4 : Inv X pins σ' H' { s' with heap := h4 } := J.landed nb fl4.1 ((up.trans up3).trans up4) os ag
    obtain ⟨o4, v4, g4, z4, d4⟩ := fl4.there
    have S4 := J4.suite g4 d4 na nL nF
    refine store_ok (X := X.suite a ((a, o4) :: (X.pn ++ pins))) (v := .ref a) S4 hN hj (.inl hln) rfl (fun s5 S5 => ?_) (.inr hln)
    have hlt : j < σ'.length := by
      have z := (List.getElem?_eq_some_iff.mp hj).1
      rw [J.len]
      exact z
    have blk : PSs (X.suite a ((a, o4) :: (X.pn ++ pins))) [.Assign [.Name y px] (.Name n pn) pa] (tAsg (tVar j) (gName i)) :=
      pss_one (ps_set (X := X.suite a ((a, o4) :: (X.pn ++ pins))) hN hi (.inl hly) (pe_var (X := X.suite a ((a, o4) :: (X.pn ++ pins))) hj (.inl hln) hd1 hd2) hsw (.inr hly))
    refine wpAny_mono (blk.run [] s5 _ H' { nx := fun σ6 H6 => σ6 = (σ'.set j (some (.ref a))).set i (some (.ref a)) ∧ H6 = H', rt := fun _ _ => False, bk := fun _ _ => False, ct := fun _ _ => False } S5 ⟨.ref a, List.getElem?_set_self hlt, rfl, rfl⟩) (fun f s6 q => ?_) (fun _ _ z => False.elim z)
    cases f with
    | next =>
      obtain ⟨σ6, H6, S6, e1, e2⟩ := q
      subst e1 e2
      have K6 : Inv X ((a, o4) :: pins) ((σ'.set j (some (.ref a))).set i (some (.ref a))) H6 s6 := ⟨K0, S6.os, S6.bare, S6.base, S6.loc, S6.cell, S6.free, S6.freeC, fun p hp => S6.pin p (by
        rw [List.append_nil]
        rcases List.mem_append.mp hp with q | q
        · exact List.mem_cons_of_mem _ (List.mem_append_left _ q)
        · rcases List.mem_cons.mp q with q | q
          · rw [q]; exact List.mem_cons_self
          · exact List.mem_cons_of_mem _ (List.mem_append_right _ q)), S6.hok, S6.len⟩
      refine gone_ok K6 hN hj hln fun s7 J7 => ?_
      have g7 := (J7.pin (a, o4) (List.mem_append_right _ List.mem_cons_self)).1
      have J8 : Inv X pins (((σ'.set j (some (.ref a))).set i (some (.ref a))).set j none) H6 s7 := ⟨K0, J7.os, J7.bare, J7.base, J7.loc, J7.cell, J7.free, J7.freeC, fun p hp => J7.pin p (by
        rcases List.mem_append.mp hp with q | q
        · exact List.mem_append_left _ q
        · exact List.mem_append_right _ (List.mem_cons_of_mem _ q)), J7.hok, J7.len⟩
      exact ⟨_, _, inv_track (o := ExcO a C d) hex J (fun p hp => hp) nI J8 (show ObjOk _ _ _ _ _ (.ext _) from ⟨⟨o4, v4, g7, z4, d4⟩, ⟨_, g7⟩, fun h1 h2 ⟨oe, vs, e1, e2, e3⟩ k => ⟨oe, vs, k _ e1, e2, e3⟩⟩), hgo a na⟩
    | brk => obtain ⟨_, _, _, z⟩ := q; exact z.elim
    | cont => obtain ⟨_, _, _, z⟩ := q; exact z.elim
    | ret u => obtain ⟨_, _, _, _, _, z⟩ := q; exact z.elim
  · cases f with
    | next =>
      obtain ⟨σ', H', J', q⟩ := q
      exact wpAny_execs_nil ⟨σ', H', J'.ofTry K0, q⟩
    | brk => obtain ⟨σ', H', J', q⟩ := q; exact ⟨σ', H', J'.ofTry K0, q⟩
    | cont => obtain ⟨σ', H', J', q⟩ := q; exact ⟨σ', H', J'.ofTry K0, q⟩
    | ret u => obtain ⟨v, σ', H', J', r, q⟩ := q; exact ⟨v, σ', H', J'.ofTry K0, r, q⟩
def CatT (K : PySem.W.Frag) (mg : Str → Option Value) (x : Str) (tab : List Str) : Prop := ∃ A, mg x = some (.ref A) ∧ ∀ e ∈ tab, ∃ C, mg e = some (.ref C) ∧ PySem.W.exmOne K (.ref C) (.ref A) = some true
def cTry (i j : Nat) (tab : List Str) (m : Ev → MY D) : Ev → M Ctl := fun env s => match m env s with
  | .ok _ s' => .ok (.nx env) s'
  | .exc (.exc c fs) s' => if c ∈ tab then .ok (.nx (((env.set j (some (.exc c fs))).set i (some (.exc c fs))).set j none)) s' else .bad
  | _ => .bad
theorem IM.set_nn {K : PySem.W.Frag} {mg : Str → Option Value} {C : Ct} {os : List Nat} {env : Ev} {σ : St} {H G : Hp} {d : Drw} (I : IM K mg C os env σ H G d) {i : Nat} (hi : i ∉ os) : IM K mg C os (env.set i none) (σ.set i none) H G d where
  aft := I.aft
  len := by rw [List.length_set, List.length_set]; exact I.len
  sh := fun j y hj e => by
    by_cases z : i = j
    · subst z
      have hl : i < env.length := by
        have := (List.getElem?_eq_some_iff.mp e).1
        rwa [List.length_set] at this
      rw [List.getElem?_set_self hl] at e
      cases e
    · rw [List.getElem?_set_ne z] at e ⊢
      exact I.sh j y hj e
  ow := fun j y hj e => by
    have z : i ≠ j := fun z => hi (z ▸ hj)
    rw [List.getElem?_set_ne z] at e ⊢
    exact I.ow j y hj e
  dis := fun j k y z b hj hk e1 e2 e3 e4 => by
    have z1 : i ≠ j := fun z => hi (z ▸ hj)
    have z2 : i ≠ k := fun z => hi (z ▸ hk)
    rw [List.getElem?_set_ne z1] at e1 e3
    rw [List.getElem?_set_ne z2] at e2 e4
    exact I.dis j k y z b hj hk e1 e2 e3 e4
section
variable {X : Cx} {fr f : Bool} {os ol : List Nat} {e : Expr} {m : Ev → MY D} {x n y : Str} {i j : Nat} {tab : List Str} {np pn px pa pe pos pos' : Pos}
theorem qs_tryK (i j : Nat) (h : CatT X.K X.mg x tab) (hg : Gl X x) (hN : X.N.Nodup) (hs : X.stack = X.env :: X.outer) (hf : X.env.frame = some X.env.locals) (hex : X.ex = []) (hj : X.N[j]? = some n) (hi : X.N[i]? = some y) (hln : X.env.kindOf n = some .local) (hly : X.env.kindOf y = some .local)
    (oi : i ∉ os) (oj : j ∉ os)
    (hb : ∀ (W : L2.WX) (pn : List (Addr × Obj)) (xe : Value → Shared → Prop), Takes (X.tr pn xe) W → PassesOwn (model X.prog X.w) X.A X.env xe → QYE (X.tr pn xe) W f os e m)
    (hdb : (x == ("__debug__" : Str)) = false := by decide) (hd1 : (n == ("__debug__" : Str)) = false := by decide) (hd2 : (n == ("__classdict__" : Str)) = false := by decide) (hsw : swapsWith (.Name n pn) (some (.Name y px)) pa.line X.env = pure false := by rfl) (hse : swapsWith e none pe.line X.env = pure false := by rfl) :
    PMS X fr os os ol (.Try [.Expr e pe] [.ExceptHandler (some (.Name x np)) (some n) [.Assign [.Name y px] (.Name n pn) pa] pos'] [] [] pos) (cTry i j tab m) := by
  obtain ⟨A, hA, hT⟩ := h
  have hb' : ∀ (W : L2.WX), ∃ te : TE, (∀ (pn : List (Addr × Obj)) (xe : Value → Shared → Prop), Takes (X.tr pn xe) W → PassesOwn (model X.prog X.w) X.A X.env xe → PE (X.tr pn xe) e te) ∧ True := fun W => ⟨fun σ H Q => ∀ (pn : List (Addr × Obj)) (xe : Value → Shared → Prop) (tk : Takes (X.tr pn xe) W) (hp : PassesOwn (model X.prog X.w) X.A X.env xe), (hb W pn xe tk hp).choose σ H Q,
    fun pn xe tk hp => ⟨fun pins s σ H Q I w => (hb W pn xe tk hp).choose_spec.1.run pins s σ H Q I (w pn xe tk hp)⟩, trivial⟩
  refine ⟨_, ps_try_keep (tb := fun W => tDrop fun σ H Q => ∀ (pn : List (Addr × Obj)) (xe : Value → Shared → Prop) (tk : Takes (X.tr pn xe) W) (hp : PassesOwn (model X.prog X.w) X.A X.env xe), (hb W pn xe tk hp).choose σ H Q) hs hf hex hN hj hi hln hly ⟨hg, hdb, .inl hA⟩ hd1 hd2
    (fun W pn xe tk hp => pss_one (ps_expr (X := X.tr pn xe) ⟨fun pins s σ H Q I w => (hb W pn xe tk hp).choose_spec.1.run pins s σ H Q I (w pn xe tk hp)⟩ hse)) hsw, fun C G σ H env d D I w => ?_⟩
  intro pn xe tk hp
  refine (hb _ pn xe tk hp).choose_spec.2 C G σ H env d _ I ?_
  unfold cTry at w
  cases hm : m env d with
  | ok z d' =>
    simp only [hm] at w
    exact fun v H' G' A' r => w σ H' G' A'.gm (I.later A')
  | bad => simp only [hm] at w; exact w.elim
  | exc z d' =>
    simp only [hm] at w
    cases z with
    | exc c fs =>
      simp only at w
      by_cases hc : c ∈ tab
      · rw [if_pos hc] at w
        intro cls dd H' G' A' r
        obtain ⟨c', fs', C', vfs, ez, hmg, ecls, hd, rf⟩ := r
        cases ez
        obtain ⟨C2, h1, h2⟩ := hT c hc
        rw [hmg] at h1
        cases h1
        refine ⟨C', ecls, by rw [ecls]; exact h2, fun a ha => ?_⟩
        have A2 : Aft C.S G H (upd G' a (ExcO a C' dd)) (upd H' a (ExcO a C' dd)) d' := A'.trans (Aft.new A'.st A'.sub ha)
        have r2 : Rep X.K X.mg C.S (upd G' a (ExcO a C' dd)) (.ref a) (.exc c fs) := .exc hmg upd_same (hd.mono (Le.new (A'.sub.free ha))) (rf.mono (Le.new (A'.sub.free ha)))
        exact w _ _ _ A2.gm ((((I.later A2).set_sh oj r2).set_sh oi r2).set_nn oj)
      · rw [if_neg hc] at w
        exact w.elim
    | _ => exact w.elim
end
end Mir
end
section
set_option maxHeartbeats 1000000
namespace Mir
open PySem PySem.Spec PyProof.Rows L2
section
variable [Tab]
def LOkY (P : Program) (w : World) (K : PySem.W.Frag) (mg : Str → Option Value) (base : Heap) (k : Nat) (L : LamT) (n : Nat) (m : List D → MY D) : Prop :=
  ∀ (f c : Addr) (A : Around) (outer : List Env) (s : Shared) (H : Hp) (us : List Value) (vs : List V) (Q : VK) (E : XK), Room k A → Env0 P w K mg base A outer s H → H f = some (LamO f L c) → H c = some (LamX.CodeO c L.q) → Vals vs us → vs.length = n ∧ spY K mg false (n + L.vs.length) m (vs ++ L.vs) H Q E →
    codeAny (model P w) A (.call (.ref f) ⟨us, []⟩) (CR (L2.CX P w) outer P w H s Q E) s
def lamY (nl : Nat) (mb : Ev → MY D) : List D → MY D := fun ds => mb (ds.map some ++ List.replicate (nl - ds.length) none)
theorem lokY_of {P : Program} {w : World} {K : PySem.W.Frag} {mg : Str → Option Value} {base : Heap} {k n : Nat} {L : LamT} {N ps fr : List Str} {mb : Ev → MY D} (S : NdefX.NScope N ps fr L.scope) (hn : ps.length = n)
    (hcell : ∀ (A : Around) (outer : List Env) (s : Shared) (H : Hp), Env0 P w K mg base A outer s H → NdefX.CellsAt L.cl fr (L.vs.map some) s.heap H)
    (hb : ∀ (pm cv ctv : Value) (us : List Value), us.length = ps.length → bindArgs (PySem.W.kla_fn "<lambda>" L.q L.params L.body L.scope L.cl pm cv ctv) ⟨us, []⟩ = pure (ps.zip us))
    (hbody : ∀ (f c : Addr) (A : Around) (outer : List Env) (s : Shared) (H : Hp) (E : XK), Room k (A.deeper (NdefX.envF (lnf L c) f s.heap.objs.size)) → Takes (NdefX.ncx (L2.CX P w) P w K mg base N (lnf L c) f A outer s H E) (fun cls d _ H => E cls d H) →
      QYE (NdefX.ncx (L2.CX P w) P w K mg base N (lnf L c) f A outer s H E) (fun cls d _ H => E cls d H) false [] L.body mb) :
    LOkY P w K mg base (k + 1) L n (lamY N.length mb) := by
  intro f c A outer s H us vs Q E hr e0 hf hc r hsp
  obtain ⟨hlv, hl, Sa, G, ds, d, st, sub, rr, wp⟩ := hsp
  have nolim : s.heap.NoLimit := e0.mod.nolimit.keeps fun b o e => (e0.bs b o e).1
  obtain ⟨⟨pm, ctv, ho⟩, _, _⟩ := e0.hok f _ hf
  refine PySem.W.kla_callFunE hr.depth ho rfl S.co S.gen rfl (NdefX.codeO_at e0.hok hc) ?_
  rw [hb pm (.ref c) ctv us (by rw [← r.length, hlv, hn])]
  refine wpAny_pure (wpAny_newFunctionEnv S.nocell (fun ⟨n, _⟩ hy => S.par n (List.of_mem_zip hy).1) (fun h₁ hns hsb => ⟨nolim.fresh _ hsb, ?_⟩) S.kind)
  show codeAny _ _ (.expr L.body (NdefX.envF (lnf L c) f s.heap.objs.size)) _ _
  have kp : ∀ b o, s.heap.get? b = some o → h₁.get? b = some o := fun b o e => hsb.extBut b o (Nat.ne_of_lt (Heap.lt_size e)) (Heap.get?_push_of_some _ e)
  have C0 : NdefX.CellsAt (lnf L c).cl fr (L.vs.map some) s.heap H := hcell A outer s H e0
  obtain ⟨te, pp, sm⟩ := hbody f c A outer s H E (hr.deeper _) (takes_of rfl rfl rfl rfl)
  have I := NdefX.inv_startN (F := lnf L c) (f := f) (E := E) (CX := L2.CX P w) (base := base) (ws := L.vs.map some) (tk := s.toks + (ps.zip us).length) S hr.hd e0 (hlv.trans hn.symm) r C0 hns kp
  refine PySem.W.kla_codeExpr (wpAny_mono (pp.run [] _ (NdefX.startF N vs (L.vs.map some)) H Q I ?_) (fun v s' hq => ?_) fun e s' hq => hq)
  · have eS : NdefX.startF N vs (L.vs.map some) = L2.start N (vs ++ L.vs) := by
      unfold NdefX.startF L2.start
      rw [List.map_append, List.append_assoc, List.length_append, List.length_map, Nat.sub_sub]
    rw [eS]
    exact sm ⟨Sa, G, H⟩ G (L2.start N (vs ++ L.vs)) H _ d Q (IM.start (C := ⟨Sa, G, H⟩) (os := []) st sub rr fun i hi => nomatch hi) wp
  · obtain ⟨w', H', J, rv, q⟩ := hq
    exact ⟨w', H', J.os, J.bare, J.base, J.hok, rv, q⟩
theorem LOkY.mono {P : Program} {w : World} {K : PySem.W.Frag} {mg : Str → Option Value} {base : Heap} {j k n : Nat} {L : LamT} {m : List D → MY D} (h : LOkY P w K mg base j L n m) (hk : j ≤ k) : LOkY P w K mg base k L n m :=
  fun f c A outer s H us vs Q E hr => h f c A outer s H us vs Q E (hr.mono hk)
abbrev LMYs := Str → Option (List D → MY D)
def HasLY (P : Program) (w : World) (K : PySem.W.Frag) (mg : Str → Option Value) (base : Heap) (k : Nat) (LM : LMYs) : Prop := ∀ x m, LM x = some m → ∃ L, Tab.L x = some L ∧ LOkY P w K mg base k L 0 m
def yCallV (i : Nat) (LM : LMYs) : Ev → MY D := fun env => match env[i]? with
  | some (some (.lamc x ws)) => (match LM x with
    | some m => m ws
    | none => badY)
  | _ => badY
def tCallVY (P : Program) (w : World) (K : PySem.W.Frag) (mg : Str → Option Value) (base : Heap) (k i : Nat) (W : L2.WX) : TE := fun σ H Q => ∃ f L c m, σ[i]? = some (some (.ref f)) ∧ H f = some (LamO f L c) ∧ H c = some (LamX.CodeO c L.q) ∧ LOkY P w K mg base k L 0 m ∧ spY K mg false (0 + L.vs.length) m L.vs H Q (WE W σ)
theorem pe_callVY {X : Cx} {W : L2.WX} {i k : Nat} {x : Str} {p pos : Pos} (tk : Takes X W) (hr : Room k X.A) (hN : X.N[i]? = some x) (hv : Vis X.env.scope x)
    (hd : (x == ("__debug__" : Str)) = false := by decide) (hcd : (x == ("__classdict__" : Str)) = false := by decide) :
    PE X (.Call (.Name x p) [] [] pos) (tCallVY X.prog X.w X.K X.mg X.base k i W) := by
  refine ⟨fun pins s σ H Q I h => ?_⟩
  obtain ⟨f, L, c, m, hs, hf, hc, ok, ht⟩ := h
  refine wpAny_Call_Name_kw (thn ((pe_var (pos := p) hN hv hd hcd).run pins s σ H (fun v H1 => v = .ref f ∧ H1 = H) I ⟨.ref f, hs, rfl, rfl⟩) fun u s1 ⟨v, H1, I1, r1, q1⟩ => ?_)
  obtain ⟨ev, eH⟩ := q1
  subst ev
  rw [eH] at I1
  obtain rfl : u = Value.ref f := r1
  refine PySem.W.callWith_F0 (first := []) (lam_at I1 hf) ?_
  show wpAny _ _ (call (.ref f) []) _ _ _
  refine wpAny_call (codeAny_mono (ok f c X.A X.stack s1 H [] [] Q (WE W σ) hr I1.env0 hf hc .nil ⟨rfl, ht⟩) fun r s' hq => ?_)
  cases r with
  | error e => exact passAt tk σ pins H s1 e s' I1 hq
  | ok fl =>
    cases fl with
    | ret u => exact I1.after hq
    | next => exact False.elim hq
    | brk => exact False.elim hq
    | cont => exact False.elim hq
theorem simYE_callV {P : Program} {w : World} {K : PySem.W.Frag} {mg : Str → Option Value} {base : Heap} {C : Ct} {os : List Nat} {k i : Nat} {LM : LMYs} {W : L2.WX} (hL : HasLY P w K mg base k LM) (ho : i ∉ os) :
    SimYE K mg C false os W (tCallVY P w K mg base k i W) (yCallV i LM) := by
  intro G σ H env d Q I w
  have key : ∃ x m ws, env[i]? = some (some (.lamc x ws)) ∧ LM x = some m ∧ WpY (m ws d) (fun x d' => ∀ v H' G', Aft C.S G H G' H' d' → RetY K mg C.S false G H G' H' v x → Q v H') (fun x d' => ∀ cls dd H' G', Aft C.S G H G' H' d' → RaiseR K mg C.S G' x cls dd → W cls dd σ H') := by
    cases ex : env[i]? with
    | none => simp only [yCallV, ex] at w; exact w.elim
    | some q =>
      cases q with
      | none => simp only [yCallV, ex] at w; exact w.elim
      | some y =>
        cases y with
        | lamc x ws =>
          cases el : LM x with
          | none => simp only [yCallV, ex, el] at w; exact w.elim
          | some m =>
            simp only [yCallV, ex, el] at w
            exact ⟨x, m, ws, rfl, el, w⟩
        | _ => simp only [yCallV, ex] at w; exact w.elim
  obtain ⟨x, m, ws, ex, el, w⟩ := key
  obtain ⟨L, e1, ok⟩ := hL x m el
  obtain ⟨v, e2, r⟩ := I.sh i _ ho ex
  cases r with
  | @lamc f c _ L' _ h0 h1 h2 r =>
    rw [e1] at h0
    cases h0
    refine ⟨f, L, c, m, e2, (I.sub _ _ h1).1, (I.sub _ _ h2).1, ok, by simp, C.S, G, ws, d, I.st, I.sub, r, ?_⟩
    exact w.imp (fun y d2 kk v H' G' A2 r2 => kk v H' G' A2 r2) fun y d2 kk cls dd H' G' A2 r2 => kk cls dd H' G' A2 r2
theorem qy_callV {X : Cx} {W : L2.WX} {os : List Nat} {x : Str} {p pos : Pos} {k : Nat} (i : Nat) {LM : LMYs} (tk : Takes X W) (hL : HasLY X.prog X.w X.K X.mg X.base k LM) (hr : Room k X.A) (ho : i ∉ os := by decide) (hN : X.N[i]? = some x := by rfl) (hv : Vis X.env.scope x := by first | exact Or.inl rfl | exact Or.inr (Or.inl rfl) | exact Or.inr (Or.inr rfl))
    (hd : (x == ("__debug__" : Str)) = false := by decide) (hcd : (x == ("__classdict__" : Str)) = false := by decide) :
    QYE X W false os (.Call (.Name x p) [] [] pos) (yCallV i LM) := ⟨_, pe_callVY tk hr hN hv hd hcd, fun C => simYE_callV hL ho⟩
end
def ExtT (T0 T : Tab) : Prop := T.T = T0.T ∧ ∀ x L, T0.L x = some L → T.L x = some L
structure Wid (T0 : Tab) (b0 : Heap) (T : Tab) (b : Heap) : Prop where
  t : ExtT T0 T
  b : ∀ a o, b0.get? a = some o → b.get? a = some o
abbrev tabX (T : Tab) (y : Str) (L : LamT) : Tab := retT T fun x => if x = y then some L else T.L x
theorem extX (T : Tab) {y : Str} {L : LamT} (h : T.L y = none) : ExtT T (tabX T y L) := ⟨rfl, fun x L' e => by
  show (if x = y then some L else T.L x) = some L'
  by_cases z : x = y
  · rw [z, h] at e
    cases e
  · rw [if_neg z]; exact e⟩
theorem GD.retab (T1 T2 : Tab) {K : PySem.W.Frag} {mg : Str → Option Value} {x : Str} {d : D} (h : @GD T1 K mg x d) (u : nlam d = true := by rfl) : @GD T2 K mg x d := by
  obtain ⟨v, z, h1, h2, h3⟩ := h
  exact ⟨v, z, h1, h2, fun S G => Rep.retab T1 T2 (h3 S G) u⟩
def UHasLY (T0 : Tab) (b0 : Heap) (P : Program) (w : World) (K : PySem.W.Frag) (mg : Str → Option Value) (kl k : Nat) (x : Str) (n : Nat) (m : LMYs → List D → M D) : Prop := ∀ (T : Tab) (b : Heap) (lm : LMYs), Wid T0 b0 T b → @HasLY T P w K mg b kl lm → @Has T P w K mg b k x n (m lm)
def ULOkY (T0 : Tab) (b0 : Heap) (P : Program) (w : World) (K : PySem.W.Frag) (mg : Str → Option Value) (k : Nat) (lt : LamT) (fr : List Str) (m : List D → MY D) : Prop :=
  ∀ (T : Tab) (b : Heap) (cl : List (Str × Addr)) (vs : List V), Wid T0 b0 T b → (∀ (A : Around) (outer : List Env) (s : Shared) (H : Hp), Env0 P w K mg b A outer s H → NdefX.CellsAt cl fr (vs.map some) s.heap H) → @LOkY T P w K mg b k (lamC lt cl vs) 0 m
def lmY1 (y : Str) (m : List D → MY D) : LMYs := fun x => if x = y then some m else none
theorem hasLY1 {T : Tab} {P : Program} {w : World} {K : PySem.W.Frag} {mg : Str → Option Value} {base : Heap} {k : Nat} {y : Str} {L : LamT} {m : List D → MY D} (h : @LOkY (tabX T y L) P w K mg base k L 0 m) : @HasLY (tabX T y L) P w K mg base k (lmY1 y m) := fun x m' e => by
  unfold lmY1 at e
  split at e
  · rename_i ex
    cases e
    subst ex
    exact ⟨L, if_pos rfl, h⟩
  · cases e
theorem env_reX {X : Cx} {pins : List (Addr × Obj)} {σ : St} {H : Hp} {s : Shared} (I : Inv X pins σ H s) {cs : List Addr} (hc : ∀ c ∈ cs, H c = none ∧ c ∉ frs X.stack) : ∃ b' : Heap, Env0 X.prog X.w X.K X.mg b' X.A X.stack s H ∧ (∀ c ∈ cs, b'.get? c = s.heap.get? c) ∧ ∀ b o, X.base.get? b = some o → b'.get? b = some o := by
  obtain ⟨b', hz, hg⟩ := rebase X.base s.heap cs
  have kp : ∀ b o, X.base.get? b = some o → b'.get? b = some o := fun b o e => by
    rw [hg, if_pos (.inl (by rw [e]; rfl))]
    exact I.bk b o e
  refine ⟨b', ⟨I.ok.frames, ⟨PySem.W.Frag.In.keeps I.mod.kin kp, I.mod.glob.keeps kp, ?_, I.mod.nolimit.keeps kp⟩, fun b o e => ?_, by rw [hz]; exact Nat.le_refl _, ?_, I.stkFree, I.hok, I.bare⟩, fun c h => by rw [hg, if_pos (.inr h)], kp⟩
  · obtain ⟨mb, h1, h2⟩ := I.mod.blt
    exact ⟨mb, h1.keeps kp, h2⟩
  · rw [hg] at e
    split at e
    · rename_i q
      refine ⟨e, ?_⟩
      rcases q with q | q
      · cases z : X.base.get? b with
        | none => rw [z] at q; cases q
        | some o' => exact (I.bs b o' z).2
      · exact (hc b q).1
    · cases e
  · refine FunFrames.re I.stack fun b hb e => ?_
    rw [hg, if_neg]
    rintro (q | q)
    · rw [e] at q; cases q
    · exact (hc b q).2 hb
theorem pe_callLX {X : Cx} {k : Nat} {g : Str} {p pos : Pos} {e : Expr} {es : List Expr} {t : List V → TA} {js : List Nat} {fr : List Str} {cl : List (Str × Addr)} {sp : List V → Sp} {f : Addr} (hr : Room k X.A) (hg : Gl X g) (hm : X.mg g = some (.ref f)) (hk : PySem.W.keepIn X.K (.ref f) = true)
    (hfn : ∀ x, X.fn x = true) (cp : X.Ok → NdefX.Caps X cl fr js)
    (hF : ∀ (base : Heap) (ws : List V), (∀ b o, X.base.get? b = some o → base.get? b = some o) → (∀ (A : Around) (outer : List Env) (s : Shared) (H : Hp), Env0 X.prog X.w X.K X.mg base A outer s H → NdefX.CellsAt cl fr (ws.map some) s.heap H) → ∃ f fd ps, FnOk X.prog X.w X.K X.mg base CX0 k f fd ps (sp ws) ∧ X.mg g = some (.ref f) ∧ PySem.W.keepIn X.K (.ref f) = true ∧ Binds X.K fd ps [])
    (ha : ∀ ws, PA X (e :: es) (t ws)) (hdb : (g == ("__debug__" : Str)) = false := by decide) (he : starEach (e :: es) X.env = (false, eval e X.env) :: starEach es X.env := by rfl) (hpl : (backTo pos (starEach es X.env)).any (·.1) = false := by rfl) :
    PE X (.Call (.Name g p) (e :: es) [] pos) (tCallL js sp t) := by
  refine ⟨fun pins s σ H Q I h => ?_⟩
  obtain ⟨ws, hws, ht⟩ := h
  refine wpAny_Call_Name_kw (ld_glob I hg hm ?_ hdb)
  refine PySem.W.callWith_K (h₀ := X.base) I.ok.mod.kin hk (thn ((ha ws).run pos pins s σ H _ I ht) fun us s1 ⟨vs, H1, I1, r, q⟩ => ⟨I1.kIn, ?_⟩) he hpl
  have C := NdefX.cells_of I1 (cp I1.ok)
  rw [hws] at C
  have cp' := cp I1.ok
  obtain ⟨b', e0, hb', kp⟩ := env_reX I1 (cs := clAt cl) fun c hc => by
    obtain ⟨y, _, e'⟩ := List.mem_filterMap.mp hc
    exact ⟨I1.freeC y c (cp'.sub y c e'), cell_off I1 hfn (cp'.sub y c e')⟩
  obtain ⟨f', fd, ps, F, hm', _, hb⟩ := hF b' ws kp fun A outer s2 H2 e2 => cells_re C hb' e2
  rw [hm] at hm'
  cases hm'
  have hl : us.length = ps.length := by rw [← r.length]; exact F.len _ _ _ _ q
  have bt := hb s1 us I1.kIn (by rw [List.append_nil]; exact hl)
  rw [List.append_nil] at bt
  refine wpAny_call (codeAny_mono (F.run X.A X.stack s1 H1 ⟨us, []⟩ us vs Q E0 hr e0 bt r q) fun r s' hq => ?_)
  cases r with
  | error e => exact (show False from hq).elim
  | ok fl =>
    cases fl with
    | ret u => exact I1.after hq
    | next => exact False.elim hq
    | brk => exact False.elim hq
    | cont => exact False.elim hq
theorem simE_callLX [T : Tab] {K : PySem.W.Frag} {mg : Str → Option Value} {C : Ct} {os : List Nat} {n : Nat} {mf : List D → M D} {y : Str} {js : List Nat} {lt : LamT} {cl : List (Str × Addr)} {P : Addr} {ta : TA} {ms : Ev → M (List D)} (hT : (P, lt.q) ∈ T.T) (ho : ∀ j ∈ js, j ∉ os) (sa : SimA K mg C os ta ms) :
    SimE K mg C os (tCallL js (fun ws => @spM (tabX T y (lamC lt cl ws)) K mg n mf) fun ws σ H Q => ta σ H fun vs H1 => tLamE P (lamC lt cl ws) σ H1 fun v H2 => Q (vs ++ [v]) H2) (eCallC n mf y js ms) := by
  intro G σ H env d Q I w
  unfold eCallC at w
  cases hc : capsD env js with
  | none => rw [hc] at w; exact w.elim
  | some dsC =>
    rw [hc] at w
    obtain ⟨ws, hws, rws⟩ := caps_of I ho hc
    have w : Wp ((ms env >>= fun xs => guardB (xs.length + 1 == n && (nlams xs && nlams dsC)) (mf (xs ++ [.lamc y dsC]) >>= fun r => guardB (nlam r) (pure r))) d) (fun x d' => ∀ v H' G', Aft C.S G H G' H' d' → Rep K mg C.S G' v x → Q v H') := w
    refine ⟨ws, hws, ?_⟩
    rw [Wp_bind] at w
    refine sa G σ H env d _ I (w.imp fun xs d1 w1 vs H1 G1 A1 r1 => ?_)
    have I1 := I.later A1
    rw [Wp_guard, Bool.and_eq_true, Bool.and_eq_true] at w1
    obtain ⟨⟨hn, n1, n2⟩, w1⟩ := w1
    have hn : xs.length + 1 = n := by simpa using hn
    refine sim_lamG (L := lamC lt cl ws) hT I1 fun f c H3 G3 A3 h1 h2 => ?_
    have rw3 : Reps K mg C.S G3 ws dsC := rws.mono fun b o e => A3.gm _ _ (A1.gm _ _ e)
    have rx : @Reps (tabX T y (lamC lt cl ws)) K mg C.S G3 (vs ++ [.ref f]) (xs ++ [.lamc y dsC]) :=
      @Reps.append (tabX T y (lamC lt cl ws)) K mg C.S G3 _ _ _ _ (Reps.retab T _ (r1.mono A3.gm) n1) (@Reps.cons (tabX T y (lamC lt cl ws)) K mg C.S G3 _ _ _ _ (@Rep.lamc (tabX T y (lamC lt cl ws)) K mg C.S G3 f c y (lamC lt cl ws) dsC (if_pos rfl) h1 h2 (Reps.retab T _ rw3 n2)) (@Reps.nil (tabX T y (lamC lt cl ws)) K mg C.S G3))
    refine ⟨by rw [List.length_append, r1.length]; exact hn, C.S, G3, xs ++ [.lamc y dsC], d1, StR.ret T _ A3.st, Sub.retab T _ A3.sub, rx, ?_⟩
    rw [Wp_bind] at w1
    refine w1.imp fun z d2 w2 v H' G' A' r' => ?_
    rw [Wp_guard] at w2
    exact w2.2 v H' G' (A1.trans (A3.trans (Aft.unret T _ A'))) (Rep.retab _ T r' w2.1)
section
variable [T : Tab] {X : Cx} {os : List Nat} {g : Str} {p pos lpos : Pos} {k kl : Nat} {m : LMYs → List D → M D} {ml : List D → MY D} {params : Arguments} {body : Expr} {scope : Scope} {fr : List Str}
theorem q_callLY (y : Str) (js : List Nat) {lt : LamT} (h : LamHere X) (hy : T.L y = none) (hS : UHasLY T X.base X.prog X.w X.K X.mg kl k g 1 m) (hl : ULOkY T X.base X.prog X.w X.K X.mg kl lt fr ml) (hr : Room k X.A) (hg : Gl X g)
    (hq : lt = ⟨X.env.qual ++ "<lambda>", params, body, scope, [], []⟩ := by rfl) (hfn : ∀ x, X.fn x = true := by exact fun _ => rfl) (hnd : NdefX.ndefB X.env.scope scope fr = true := by kernel_rfl) (hjs : js.map (fun j => X.N[j]?) = fr.map some := by rfl) (ho : ∀ j ∈ js, j ∉ os := by decide) (hdef : defaultsOf params X.env = ([], []) := by rfl)
    (hdb : (g == ("__debug__" : Str)) = false := by decide) (he : starEach [.Lambda params body scope lpos] X.env = (false, eval (.Lambda params body scope lpos) X.env) :: starEach [] X.env := by rfl) (hpl : (backTo pos (starEach [] X.env)).any (·.1) = false := by rfl) :
    QM X os (.Call (.Name g p) [.Lambda params body scope lpos] [] pos) (eCallC 1 (m (lmY1 y ml)) y js aNil) := by
  obtain ⟨c, P, hc, TB, hT⟩ := h
  subst hq
  obtain ⟨f, fd, ps, _, hm, hk, _⟩ := hS T X.base (fun _ => none) ⟨⟨rfl, fun _ _ e => e⟩, fun _ _ e => e⟩ fun _ _ e => nomatch e
  have cp : X.Ok → NdefX.Caps X (cloFrom X.env.cells scope.names []) fr js := fun ok => NdefX.Caps.made ok (NdefX.ndef_free hnd) (NdefX.ndef_fr hnd) hjs
  have hfree : X.Ok → ∀ z ∈ scope.names, z.2 = .free → ∃ c, X.env.cells.lookup z.1 = some c := fun ok z hz e => (NdefX.ndef_free hnd z hz e).elim (fun q => ok.has _ (.inl q)) fun q => ok.has _ (.inr q)
  have sab : ∀ C, SimA X.K X.mg C os tNil aNil := fun C => (pma_nil (X := X) (os := os)).s C
  refine ⟨_, pe_callLX (js := js) (fr := fr) (cl := cloFrom X.env.cells scope.names []) (sp := fun ws => @spM (tabX T y (lamC ⟨X.env.qual ++ "<lambda>", params, body, scope, [], []⟩ (cloFrom X.env.cells scope.names []) ws)) X.K X.mg 1 (m (lmY1 y ml)))
    (t := fun ws => tCons (tLamE P (lamC ⟨X.env.qual ++ "<lambda>", params, body, scope, [], []⟩ (cloFrom X.env.cells scope.names []) ws)) tNil) hr hg hm hk hfn cp (fun base ws kp hc => hS _ base _ ⟨extX T hy, kp⟩ (hasLY1 (hl _ base _ ws ⟨extX T hy, kp⟩ hc))) (fun ws => pa_cons (pe_lamC TB hc hdef hfree) pa_nil he) hdb he hpl, fun C => ?_⟩
  exact simE_callLX (lt := ⟨X.env.qual ++ "<lambda>", params, body, scope, [], []⟩) hT ho (sab C)
end
def lamsE : Nat → Expr → List Expr
  | 0, _ => []
  | n + 1, e => match e with
    | .Lambda _ _ _ _ => [e]
    | .BoolOp _ vs _ => vs.flatMap (lamsE n)
    | .BinOp a _ b _ => lamsE n a ++ lamsE n b
    | .UnaryOp _ a _ => lamsE n a
    | .IfExp t a b _ => lamsE n t ++ (lamsE n a ++ lamsE n b)
    | .Compare l _ cs _ => lamsE n l ++ cs.flatMap (lamsE n)
    | .Call f es _ _ => lamsE n f ++ es.flatMap (lamsE n)
    | .Attribute v _ _ => lamsE n v
    | .Subscript v i _ => lamsE n v ++ lamsE n i
    | .List es _ => es.flatMap (lamsE n)
    | .Tuple es _ _ => es.flatMap (lamsE n)
    | .ListComp v _ _ _ => lamsE n v
    | _ => []
def lamsS : Nat → Stmt → List Expr
  | 0, _ => []
  | n + 1, s => match s with
    | .Return (some e) _ => lamsE 30 e
    | .Assign _ e _ => lamsE 30 e
    | .AugAssign _ _ e _ => lamsE 30 e
    | .Expr e _ => lamsE 30 e
    | .If t a b _ => lamsE 30 t ++ (a.flatMap (lamsS n) ++ b.flatMap (lamsS n))
    | .For _ i a _ _ => lamsE 30 i ++ a.flatMap (lamsS n)
    | .While t a _ _ => lamsE 30 t ++ a.flatMap (lamsS n)
    | _ => []
def lamAt (st : Stmt) (k j : Nat) : Expr := (lamsS 20 ((defBody st).getD k (.Pass ⟨0, 0, 0, 0⟩))).getD j (.Constant .none 0 ⟨0, 0, 0, 0⟩)
theorem look_ok : ∀ {ts : List (Addr × Str)}, (ts.map (·.1)).Nodup → ∀ p ∈ ts, ts.lookup p.1 = some p.2
  | [], _, _, h => nomatch h
  | (a, q) :: ts, nd, p, hp => by
    rw [List.map_cons, List.nodup_cons] at nd
    rw [List.lookup_cons]
    rcases List.mem_cons.mp hp with e | h
    · subst e
      simp
    · have ne : (p.1 == a) = false := beq_eq_false_iff_ne.mpr fun e => nd.1 (e ▸ List.mem_map.mpr ⟨p, h, rfl⟩)
      rw [ne]
      exact look_ok nd.2 p h
end Mir
end
section
set_option maxHeartbeats 1000000
namespace Mir
open PySem PySem.Spec PyProof.Rows L2
variable [Tab]
section
variable {X : Cx} {os : List Nat} {a b : Expr} {ta tb : TE} {ma mb : Ev → M D} {pos : Pos} {k : Nat}
end
end Mir
end
section
set_option maxHeartbeats 1000000
namespace Mir
open PySem PySem.Spec PyProof.Rows L2
section
variable [Tab] {X : Cx} {W : L2.WX} {fr : Bool} {os ol : List Nat} {e : Expr} {m : Ev → MY D} {pos p' : Pos} {y : Str}
end
abbrev LamTb := Str → Option (List Nat × (List D → MY D))
structure LamF (T0 T : Tab) (X : Cx) (kl : Nat) (os : List Nat) (y : Str) (js : List Nat) (ml : List D → MY D) (lt : LamT) (fr : List Str) : Prop where
  l : T.L y = some (lamC lt (cloFrom X.env.cells lt.scope.names []) [])
  l0 : T0.L y = none
  u : ULOkY T0 X.base X.prog X.w X.K X.mg kl lt fr ml
  nd : NdefX.ndefB X.env.scope lt.scope fr = true
  hjs : js.map (fun j => X.N[j]?) = fr.map some
  ho : ∀ j ∈ js, j ∉ os
section
variable {T0 : Tab} [T : Tab] {X : Cx} {os : List Nat} {g x : Str} {p px pos : Pos} {k kl n : Nat} {m : LMYs → List D → M D} {tb : LamTb}
end
end Mir
end
section
set_option maxHeartbeats 1000000
namespace Mir
open PySem PySem.Spec PyProof.Rows L2
variable [Tab]
section
variable {X : Cx} {os : List Nat} {a b : Expr} {ta tb : TE} {ma mb : Ev → M D} {pos : Pos} {k : Nat}
end
end Mir
end
section
set_option maxHeartbeats 1000000
namespace Mir
open PySem PySem.Spec PyProof.Rows L2
variable [Tab]
def HasMN (P : Program) (w : World) (K : PySem.W.Frag) (mg : Str → Option Value) (base : Heap) (k : Nat) (c mt : Str) (n : Nat) (m : List D → M D) : Prop :=
  ∃ Cc f fd ps, mg c = some (.ref Cc) ∧ Cls K Cc ∧ Meth K Cc mt f ∧ FnOk P w K mg base CX0 k f fd ps (spN K mg n m) ∧ Binds K fd ps []
theorem HasMN.mono {P : Program} {w : World} {K : PySem.W.Frag} {mg : Str → Option Value} {base : Heap} {j k : Nat} {c mt : Str} {n : Nat} {m : List D → M D} (h : HasMN P w K mg base j c mt n m) (l : j ≤ k) : HasMN P w K mg base k c mt n m := by
  obtain ⟨Cc, f, fd, ps, h1, h2, h3, F, r⟩ := h
  exact ⟨Cc, f, fd, ps, h1, h2, h3, F.mono l, r⟩
section
variable {X : Cx} {os : List Nat} {o : Expr} {mo : Ev → M D} {pos apos : Pos} {k n : Nat} {cn mt : Str} {mf : List D → M D}
end
section
variable {X : Cx} {os : List Nat} {a b : Expr} {ta tb : TE} {ma mb : Ev → M D} {pos : Pos} {k : Nat}
end
def FrA (C : Ct) (n : Nat) (G H : Hp) (a : Addr) : Prop := ∃ vs, H a = some (.lst vs) ∧ vs.length + n < sizeLine ∧ G a = none ∧ ¬ inS C.S a ∧ C.H a = none
section
variable {K : PySem.W.Frag} {mg : Str → Option Value} {C : Ct} {env : Ev} {σ : St} {H H' G G' : Hp} {d d' : Drw} {a b : Addr} {o : HO} {i j n : Nat} {v : V}
theorem FrA.later (f : FrA C n G H a) (A : Aft C.S G H G' H' d) : FrA C n G' H' a := by
  obtain ⟨vs, h, l, g, nn, c⟩ := f
  exact ⟨vs, A.hp a _ h nn, l, A.gn a ⟨_, h, fun _ z => nomatch z⟩ g, nn, c⟩
theorem FrA.of (I : IM K mg C [] env σ H G d) {G1 H1 : Hp} {d1 : Drw} (A : Aft C.S G H G1 H1 d1) {xs : List D} (r : RepN K mg C.S G H G1 H1 v (.lst xs)) (hl : xs.length + n < sizeLine) : ∃ b, v = .ref b ∧ FrA C n G1 H1 b := by
  cases r with
  | @lst b vs _ h0 g h rs =>
    have nn : ¬ inS C.S b := I.st.off h0
    refine ⟨b, rfl, vs, h, by rw [rs.length]; exact hl, g, nn, ?_⟩
    cases q : C.H b with
    | none => rfl
    | some u =>
      have := I.aft.hp b u q nn
      rw [h0] at this
      cases this
end
section
variable {X : Cx} {fr : Bool} {ol : List Nat} {elt tg iter tg1 iter1 : Expr} {ifs ifs1 : List Expr} {scope : Scope} {pos : Pos} {tv vs1 : List Nat} {t t1 : Ev → D → Option Ev} {n n1 : Ev → M Bool} {mi mi1 : Ev → M (List D)} {me : Ev → M D} {y : Str}
end
end Mir
end
section
set_option maxHeartbeats 1000000
namespace Mir
open PySem PySem.Spec PyProof.Rows L2
variable [Tab]
theorem fly_push {B : Heap} {l : List Env} {a : Addr} {Z : Obj → Prop} {h : Heap} (o : Obj) (x : HandSPX.FlyingZ B l a Z h) : HandSPX.FlyingZ B l a Z (h.push o) := by
  obtain ⟨k1, k2, k3, oe, vs, T, oT, ts, he, hz, hd, h1, hnT, hTe, hT, hdT, h3⟩ := x
  have up : ∀ b u, h.get? b = some u → (h.push o).get? b = some u := fun b u e => Heap.get?_push_of_some o e
  exact ⟨fun b u e => up b u (k1 b u e), k2, k3.of_keeps fun b u e _ => ⟨u, up b u e, rfl⟩, oe, vs, T, oT, ts, up _ _ he, hz, hd, h1, hnT, hTe, up _ _ hT, hdT, h3⟩
def wTwo (K : PySem.W.Frag) (c1 c2 : Value) (ts : TS) (D : Ends) : L2.WX := fun cls d σ H => PySem.W.exmAny K cls [c1, c2] = some true ∧ ts D σ H
theorem ps_try_two {X : Cx} {x1 x2 : Str} {c1 c2 : Value} {body suite : List Stmt} {b₀ : Stmt} {cx} {np1 np2 tp pos pos' : Pos} {tb : L2.WX → TS} {ts : TS} (hs : X.stack = X.env :: X.outer) (hf : X.env.frame = some X.env.locals)
    (hc1 : Names X x1 c1) (hc2 : Names X x2 c2)
    (hb : ∀ (W : L2.WX) (pn : List (Addr × Obj)) (xe : Value → Shared → Prop), Takes (X.tr pn xe) W → PassesOwn (model X.prog X.w) X.A X.env xe → PSs (X.tr pn xe) body (tb W))
    (hsu : ∀ (a : Addr) (oe : Obj) (pn : List (Addr × Obj)), PSs (X.suite a ((a, oe) :: pn)) (b₀ :: suite) ts)
    (hst : starEach [.Name x1 np1, .Name x2 np2] X.env = [(false, eval (.Name x1 np1) X.env), (false, eval (.Name x2 np2) X.env)] := by rfl) :
    PS X (.Try body [.ExceptHandler (some (.Tuple [.Name x1 np1, .Name x2 np2] cx tp)) none (b₀ :: suite) pos'] [] [] pos) (fun D σ H => tb (wTwo X.K c1 c2 ts D) D σ H) := by
  refine ⟨fun pins s σ H D I h => ?_⟩
  have ok := I.ok
  have hfr : X.A.frames = some (X.env :: X.outer) := by rw [ok.frames, hs]
  refine wpAny_Try_except ?_
  refine wpAny_mono ((hb (wTwo X.K c1 c2 ts D) (X.pn ++ pins) (fun e s₁ => wpAny (model X.prog X.w) X.A (noteFrame e X.env) (fun _ s₂ => wpAny (model X.prog X.w) X.A (setFlight e none) (fun _ s₃ =>
    wpAny (model X.prog X.w) X.A (handleBy e X.env [.ExceptHandler (some (.Tuple [.Name x1 np1, .Name x2 np2] cx tp)) none (b₀ :: suite) pos']) (SP X pins D) X.xe s₃) X.xe s₂) X.xe s₁) (fun u s' xx => ?_) PassesOwn.looking).run [] s σ H D (I.toTry _) h) (fun f s1 hsp => ?_) (fun e s1 he => he)
  · obtain ⟨a, B, sI, pins', σ', H', cls, d, rfl, J', nb, up, sky, na, os, ag, hb1, hyes⟩ := xx
    have J : Inv X pins σ' H' sI := J'.ofTry ok
    have sky' : Sky B (X.env :: X.outer) a (Zc cls d) X.env.locals s'.heap := by rw [← hs]; exact sky
    show wpAny (model X.prog X.w) X.A (noteFrame (.ref a) X.env) _ _ _
    refine Sky.land Zc.steady hfr hf sky' fun h3 fl3 up3 => ?_
    have J3 : Inv X pins σ' H' { s' with heap := h3 } := J.landed nb fl3.1 (up.trans up3) os ag
    obtain ⟨oe3, vs3, he3, hz3, hd3⟩ := fl3.there
    have notFr : ∀ {h : Heap} {o : Obj} {vs : Array Value}, h.FunFrames B (X.env :: X.outer) → h.get? a = some o → o.data = .fields vs → a ∉ frs (X.env :: X.outer) := fun {h o vs} ff e dd hm => by
      obtain ⟨_, o', e', hnf⟩ := ff.mem hm
      rw [e] at e'; cases e'
      exact hnf _ dd
    have nfr := notFr fl3.2.2.1 he3 hd3
    have nL : a ≠ X.env.locals := fun z => nfr (List.mem_filterMap.mpr ⟨X.env, List.mem_cons_self, by rw [hf, z]⟩)
    have nF : a ∉ X.fs := fun hm => by
      obtain ⟨e, he, q⟩ := List.mem_filterMap.mp hm
      exact nfr (List.mem_filterMap.mpr ⟨e, List.mem_cons_of_mem _ he, q⟩)
    have S3 := J3.suite he3 hd3 na nL nF
    refine wpAny_handleBy_cons (codeAny_handlers_test ?_) (by intro q; cases q)
    have test : ∀ {x : Str} {c : Value} {np : Pos} (hc : Names X x c) {Q : Value → Shared → Prop} {E : Value → Shared → Prop}, Q c { s' with heap := h3 } → wpAny (model X.prog X.w) (X.A.mark (some (.ref a))) (eval (.Name x np) X.env) Q E { s' with heap := h3 } := fun {x c np} hc {Q E} q => by
      obtain ⟨hg, hdbg, hm | ⟨hm, hv, hnn⟩⟩ := hc
      · exact ld_glob (X := X.suite a ((a, oe3) :: (X.pn ++ pins))) S3 hg hm q hdbg
      · exact ld_blt (X := X.suite a ((a, oe3) :: (X.pn ++ pins))) S3 hg hm hv q hnn hdbg
    refine wpAny_Tuple_spliced ?_
    have hbk : backTo tp (starEach [.Name x1 np1, .Name x2 np2] X.env) = [(false, eval (.Name x1 np1) X.env), (false, eval (.Name x2 np2) X.env)] := by rw [hst]; rfl
    rw [hbk]
    refine Calls.spliced_cons (test hc1 (Calls.spliced_cons (test hc2 (Calls.spliced_nil ⟨by show 2 ≤ sizeLine; decide, ?_⟩))))
    have fl5 := fly_push (o := { cls := .type "tuple", data := .seq [c1, c2].toArray }) fl3
    have up5 : h3.UpToSlots (h3.push { cls := .type "tuple", data := .seq [c1, c2].toArray }) := .of_keeps fun b o e => Heap.get?_push_of_some _ e
    have J5 : Inv X pins σ' H' { s' with heap := h3.push { cls := .type "tuple", data := .seq [c1, c2].toArray } } := J.landed nb fl5.1 ((up.trans up3).trans up5) os ag
    obtain ⟨oe5, vs5, he5, hz5, hd5⟩ := fl5.there
    have LT : PySem.W.Looks (model X.prog X.w) (h3.push { cls := .type "tuple", data := .seq [c1, c2].toArray }) (typeOf (.ref a)) cls := fun A Q E s k q => wpAny_typeOf_ref (k _ _ he5) (by rw [hz5.1]; exact q)
    have LM := PySem.W.exm_tup2 (M := model X.prog X.w) (J5.kIn) LT (Heap.get?_push_size _ rfl) hb1
    refine LM.here ?_
    refine codeAny_handlers_suite ?_
    refine HandSPX.lands_againZ fl5 fun h4 fl4 up4 => ?_
    have J4 : Inv X pins σ' H' { s' with heap := h4 } := J.landed nb fl4.1 (((up.trans up3).trans up5).trans up4) os ag
    obtain ⟨oe4, vs4, he4, hz4, hd4⟩ := fl4.there
    have S4 := J4.suite he4 hd4 na nL nF
    refine wpAny_mono ((hsu a oe4 (X.pn ++ pins)).run [] _ _ H' _ S4 hyes) (fun f s6 hsp => ?_) (fun _ _ z => False.elim z)
    cases f with
    | next =>
      obtain ⟨σ6, H6, S6, q6⟩ := hsp
      exact ⟨_, _, S6.unsuite ok, q6⟩
    | brk =>
      obtain ⟨σ6, H6, S6, q6⟩ := hsp
      exact ⟨_, _, S6.unsuite ok, q6⟩
    | cont =>
      obtain ⟨σ6, H6, S6, q6⟩ := hsp
      exact ⟨_, _, S6.unsuite ok, q6⟩
    | ret u =>
      obtain ⟨v6, σ6, H6, S6, r6, q6⟩ := hsp
      exact ⟨_, _, _, S6.unsuite ok, r6, q6⟩
  · cases f with
    | next =>
      obtain ⟨σ', H', J', q⟩ := hsp
      exact wpAny_execs_nil ⟨σ', H', J'.ofTry ok, q⟩
    | brk => obtain ⟨σ', H', J', q⟩ := hsp; exact ⟨σ', H', J'.ofTry ok, q⟩
    | cont => obtain ⟨σ', H', J', q⟩ := hsp; exact ⟨σ', H', J'.ofTry ok, q⟩
    | ret u => obtain ⟨v, σ', H', J', r, q⟩ := hsp; exact ⟨v, σ', H', J'.ofTry ok, r, q⟩
def CatT2 (K : PySem.W.Frag) (mg : Str → Option Value) (x1 x2 : Str) (tab : List Str) : Prop := ∃ A B, mg x1 = some (.ref A) ∧ mg x2 = some (.ref B) ∧ ∀ e ∈ tab, ∃ C, mg e = some (.ref C) ∧ PySem.W.exmAny K (.ref C) [.ref A, .ref B] = some true
def cTryR (tab : List Str) (m : Ev → MY Ctl) (r : D) : Ev → M Ctl := fun env s => match m env s with
  | .ok c s' => .ok c s'
  | .exc (.exc c _) s' => if c ∈ tab then .ok (.ret r) s' else .bad
  | _ => .bad
section
variable {X : Cx} {os ol : List Nat} {body : List Stmt} {m : Ev → MY Ctl} {x1 x2 : Str} {tab : List Str} {np1 np2 tp rp pos pos' : Pos} {e : Expr}
theorem qs_tryR {cx} (v : V) (r : D) (h : CatT2 X.K X.mg x1 x2 tab) (g1 : Gl X x1) (g2 : Gl X x2) (hs : X.stack = X.env :: X.outer) (hf : X.env.frame = some X.env.locals)
    (hb : ∀ (W : L2.WX) (pn : List (Addr × Obj)) (xe : Value → Shared → Prop), Takes (X.tr pn xe) W → PassesOwn (model X.prog X.w) X.A X.env xe → PYSs (X.tr pn xe) W false os os ol body m)
    (he : ∀ (a : Addr) (oe : Obj) (pn : List (Addr × Obj)), PE (X.suite a ((a, oe) :: pn)) e (tC v)) (hr : ∀ S G, Rep X.K X.mg S G v r)
    (d1 : (x1 == ("__debug__" : Str)) = false := by decide) (d2 : (x2 == ("__debug__" : Str)) = false := by decide)
    (hst : starEach [.Name x1 np1, .Name x2 np2] X.env = [(false, eval (.Name x1 np1) X.env), (false, eval (.Name x2 np2) X.env)] := by rfl) :
    PMS X false os os ol (.Try body [.ExceptHandler (some (.Tuple [.Name x1 np1, .Name x2 np2] cx tp)) none [.Return (some e) rp] pos'] [] [] pos) (cTryR tab m r) := by
  obtain ⟨A, B, hA, hB, hT⟩ := h
  refine ⟨_, ps_try_two (tb := fun W D σ H => ∀ (pn : List (Addr × Obj)) (xe : Value → Shared → Prop) (tk : Takes (X.tr pn xe) W) (hp : PassesOwn (model X.prog X.w) X.A X.env xe), (hb W pn xe tk hp).choose D σ H) hs hf ⟨g1, d1, .inl hA⟩ ⟨g2, d2, .inl hB⟩
    (fun W pn xe tk hp => ⟨fun pins s σ H D I w => (hb W pn xe tk hp).choose_spec.1.run pins s σ H D I (w pn xe tk hp)⟩)
    (fun a oe pn => pss_one (ps_ret (he a oe pn))) hst, fun C G σ H env d D I w => ?_⟩
  intro pn xe tk hp
  refine (hb _ pn xe tk hp).choose_spec.2 C G σ H env d D I ?_
  unfold cTryR at w
  cases hm : m env d with
  | ok z d' => simp only [hm] at w; exact w
  | bad => simp only [hm] at w; exact w.elim
  | exc z d' =>
    simp only [hm] at w
    cases z with
    | exc c fs =>
      simp only at w
      by_cases hc : c ∈ tab
      · rw [if_pos hc] at w
        intro cls dd σ' H' G' A' rr
        obtain ⟨c', fs', C', vfs, ez, hmg, ecls, hd, rf⟩ := rr
        cases ez
        obtain ⟨C2, h1, h2⟩ := hT c hc
        rw [hmg] at h1
        cases h1
        exact ⟨by rw [ecls]; exact h2, w v H' G' A' (hr _ _)⟩
      · rw [if_neg hc] at w
        exact w.elim
    | _ => exact w.elim
end
end Mir
end
section
set_option maxHeartbeats 1000000
namespace Mir
open PySem PySem.Spec PyProof.Rows L2
variable [Tab]
theorem exm_subv {K : PySem.W.Frag} {C B : Addr} {b : Bool} (h1 : PySem.W.subIn K (.ref B) (.type "BaseException") = some true) (h2 : PySem.W.isClsIn K B = true) (h3 : PySem.W.typeIn K (.ref B) = some (.type "type")) (h4 : PySem.W.subIn K (.ref C) (.ref B) = some b) : PySem.W.exmOne K (.ref C) (.ref B) = some b := by
  have h2' : (PySem.W.clsIn K B).isSome = true := h2
  show (if (PySem.W.subIn K (.ref B) (.type "BaseException") == some true) = true then (if ((PySem.W.clsIn K B).isSome && PySem.W.typeIn K (.ref B) == some (.type "type")) = true then PySem.W.subIn K (.ref C) (.ref B) else none) else none) = some b
  rw [h1, h2', h3, if_pos (by rfl), if_pos (by rfl)]
  exact h4
theorem exm_any2 {K : PySem.W.Frag} {cls A B : Value} {b1 b2 : Bool} (h1 : PySem.W.exmOne K cls A = some b1) (h2 : PySem.W.exmOne K cls B = some b2) (h : (b1 || b2) = true) : PySem.W.exmAny K cls [A, B] = some true := by
  simp only [PySem.W.exmAny, h1, h2, Bool.or_false, h]
theorem len2 {α : Type} : ∀ (l : List α), l.length = 2 → ∃ a b, l = [a, b]
  | [a, b], _ => ⟨a, b, rfl⟩
  | [], h => nomatch h
  | [_], h => absurd h (by simp)
  | _ :: _ :: _ :: _, h => absurd h (by simp)
def rIsXs (K : PySem.W.Frag) : List V → Hp → VK → Prop := fun xs H Q => ∃ (a C tp : Addr) (d : Option Addr) (vfs : List (Str × V)) (As : List Addr) (b : Bool), xs = [.ref a, .ref tp] ∧ H tp = some (.tup (As.map V.ref)) ∧ H a = some (ExcO a C d) ∧ ExD H d vfs ∧ ExcC K C ∧ PySem.W.kitAny K (.ref C) (As.map Value.ref) = some b ∧ Q (.bl b) H
theorem vals_refs : ∀ {As : List Addr} {us : List Value}, Vals (As.map V.ref) us → us = As.map Value.ref
  | [], _, .nil => rfl
  | A :: As, _, .cons h r => by
    obtain rfl : _ = Value.ref A := h
    rw [vals_refs r]
    rfl
theorem call_isXs {X : Cx} : CallR X (.builtin "isinstance") (rIsXs X.K) := by
  intro pins s σ H xs us Q I r h
  obtain ⟨a, C, tp, d, vfs, As, b, rfl, ht, ha, hd, E, e, q⟩ := h
  obtain ⟨u1, u2, rfl, r1, r2⟩ := vals2 r
  obtain rfl : u1 = Value.ref a := r1
  obtain rfl : u2 = Value.ref tp := r2
  obtain ⟨ox, od, J, _, _⟩ := exc_inst I ha hd
  obtain ⟨cd, hcd, _⟩ := PySem.W.any_some E.hd
  obtain ⟨_, its, vr, o, g, c1, n, c2⟩ := (I.hok tp _ ht : ObjOk _ _ _ _ _ (.tup _))
  obtain ⟨oc, odt, oda, osl⟩ := o
  cases c1
  cases c2
  exact PySem.W.kia_tup (PySem.W.kitx_exc (ox := ox) (od := od) (by rw [hcd]; rfl) E.hg E.hk E.hs E.ha E.hn E.ht E.hm) I.kIn J g (by rw [vals_refs vr]; exact e) (fun z => nomatch z) fun tk => ⟨.bl b, H, I.tok tk, rfl, q⟩
def IsXs (K : PySem.W.Frag) (mg : Str → Option Value) (Ts : List Str) (tab : List (Str × Bool)) : Prop := ∃ As : List Addr, Ts.map mg = As.map (fun A => some (.ref A)) ∧ ∀ c b, tab.lookup c = some b → ∃ C, mg c = some (.ref C) ∧ ExcC K C ∧ PySem.W.kitAny K (.ref C) (As.map Value.ref) = some b
theorem isXs_sim {K : PySem.W.Frag} {mg : Str → Option Value} {As : List Addr} {tab : List (Str × Bool)} (h : ∀ c b, tab.lookup c = some b → ∃ C, mg c = some (.ref C) ∧ ExcC K C ∧ PySem.W.kitAny K (.ref C) (As.map Value.ref) = some b) {S : SA} {G H : Hp} {d : Drw} {v : V} {x : D} {Q : VK} {tp : Addr} (sb : Sub S G H) (st : StR S H d) (r : RepT K mg S G H v x) (hn : H tp = none)
    (w : Wp (dIsX tab x d) fun z d' => ∀ v H' G', Aft S G H G' H' d' → Rep K mg S G' v z → Q v H') : rIsXs K [v, .ref tp] (upd H tp (.tup (As.map V.ref))) Q := by
  unfold dIsX at w
  split at w
  · rename_i cn fs
    cases r with
    | of r =>
      cases r with
      | @exc a C dd _ vfs _ hm ha hd rf =>
        cases el : tab.lookup cn with
        | none => rw [el] at w; exact w.elim
        | some b =>
          rw [el] at w
          obtain ⟨C', hm', E, e⟩ := h cn b el
          rw [hm] at hm'
          cases hm'
          have st2 : ∀ {z : Addr} {o : HO}, H z = some o → (upd H tp (.tup (As.map V.ref))) z = some o := fun {z o} q => by rw [upd_ne (ne_of_none q hn)]; exact q
          exact ⟨a, C, tp, dd, vfs, As, b, rfl, upd_same, st2 (sb a _ ha).1, hd.mono fun b o q => st2 (sb b o q).1, E, e, w _ _ _ (Aft.new st sb hn) (.bl b)⟩
  · exact w.elim
section
variable {X : Cx} {os : List Nat} {a : Expr} {ma : Ev → M D} {p' p1 p2 p3 tp pos : Pos} {T1 T2 T3 : Str} {tab : List (Str × Bool)}
theorem q_isX2 {cx} (h : IsXs X.K X.mg [T1, T2] tab) (B : Blt X.mg) (hg : Gl X "isinstance") (g1 : Gl X T1) (g2 : Gl X T2) (ha : QMB X os a ma) (d1 : (T1 == ("__debug__" : Str)) = false := by decide) (d2 : (T2 == ("__debug__" : Str)) = false := by decide)
    (h1 : starEach [.Name T1 p1, .Name T2 p2] X.env = (false, eval (.Name T1 p1) X.env) :: starEach [.Name T2 p2] X.env := by rfl) (h2 : starEach [.Name T2 p2] X.env = (false, eval (.Name T2 p2) X.env) :: starEach [] X.env := by rfl)
    (he : starEach [a, .Tuple [.Name T1 p1, .Name T2 p2] cx tp] X.env = (false, eval a X.env) :: starEach [.Tuple [.Name T1 p1, .Name T2 p2] cx tp] X.env := by rfl) (he2 : starEach [.Tuple [.Name T1 p1, .Name T2 p2] cx tp] X.env = (false, eval (.Tuple [.Name T1 p1, .Name T2 p2] cx tp) X.env) :: starEach [] X.env := by rfl) (hpl : (backTo pos (starEach [.Tuple [.Name T1 p1, .Name T2 p2] cx tp] X.env)).any (·.1) = false := by rfl) :
    QM X os (.Call (.Name "isinstance" p') [a, .Tuple [.Name T1 p1, .Name T2 p2] cx tp] [] pos) (eUn (dIsX tab) ma) := by
  obtain ⟨ta, ha⟩ := ha
  obtain ⟨As, hA, h⟩ := h
  obtain ⟨A, A', rfl⟩ := len2 _ (show As.length = 2 by simpa using (congrArg List.length hA).symm)
  simp only [List.map_cons, List.map_nil, List.cons.injEq, and_true] at hA
  refine ⟨_, pe_callB call_isXs hg (B _ (by decide)) (by decide +kernel) (pa_cons ha.p (pa_cons (pe_tup (pa_cons (pe_glob (v := .ref A) g1 hA.1 rfl d1) (pa_cons (pe_glob (v := .ref A') g2 hA.2 rfl d2) pa_nil h2) h1)) pa_nil he2) he) (by decide) (by decide) he hpl, fun C G σ H env d Q I w => ?_⟩
  unfold eUn at w
  rw [Wp_bind] at w
  refine ha.s C G σ H env d _ I (w.imp fun x d1 w1 v1 H1 G1 A1 r1 => ⟨by show 2 ≤ sizeLine; decide, fun tp hn => ?_⟩)
  exact isXs_sim h A1.sub A1.st r1 hn (w1.imp fun z d2 kk v H' G' A2 r2 => kk v H' G' (A1.trans A2) r2)
end
theorem kitAny_cons {K : PySem.W.Frag} {t c : Value} {r : List Value} {b d : Bool} (h : PySem.W.kitOne K t c = some b) (k : PySem.W.kitAny K t r = some d) : PySem.W.kitAny K t (c :: r) = some (b || d) := by
  cases b with
  | true => simp only [PySem.W.kitAny, h, Bool.true_or]
  | false => simp only [PySem.W.kitAny, h, k, Bool.false_or]
def IsTabs (K : PySem.W.Frag) (mg : Str → Option Value) (us : List Value) (tab : List (Str × Bool)) : Prop := ∀ c b, tab.lookup c = some b → ∃ C, mg c = some (.ref C) ∧ ExcC K C ∧ PySem.W.kitAny K (.ref C) us = some b
theorem isTabs_nil {K : PySem.W.Frag} {mg : Str → Option Value} {us : List Value} : IsTabs K mg us [] := fun _ _ e => nomatch e
theorem isTabs_cons {K : PySem.W.Frag} {mg : Str → Option Value} {us : List Value} {c : Str} {b : Bool} {C : Addr} {tab : List (Str × Bool)} (hm : mg c = some (.ref C)) (E : ExcC K C) (e : PySem.W.kitAny K (.ref C) us = some b) (h : IsTabs K mg us tab) : IsTabs K mg us ((c, b) :: tab) := fun x b' q => by
  rw [List.lookup_cons] at q
  by_cases z : (x == c) = true
  · rw [z] at q
    cases q
    have z : x = c := by simpa using z
    subst z
    exact ⟨C, hm, E, e⟩
  · have z : (x == c) = false := by simpa using z
    rw [z] at q
    exact h x b' q
theorem isXs2 {K : PySem.W.Frag} {mg : Str → Option Value} {T1 T2 : Str} {A1 A2 : Addr} {tab : List (Str × Bool)} (h1 : mg T1 = some (.ref A1)) (h2 : mg T2 = some (.ref A2)) (h : IsTabs K mg [.ref A1, .ref A2] tab) : IsXs K mg [T1, T2] tab :=
  ⟨[A1, A2], by simp only [List.map_cons, List.map_nil, h1, h2], h⟩
theorem catT2_one {K : PySem.W.Frag} {mg : Str → Option Value} {x1 x2 : Str} {A B : Addr} {tab : List Str} (h1 : mg x1 = some (.ref A)) (h2 : mg x2 = some (.ref B)) (h : ∀ e ∈ tab, ∃ C, mg e = some (.ref C) ∧ PySem.W.exmAny K (.ref C) [.ref A, .ref B] = some true) : CatT2 K mg x1 x2 tab := ⟨A, B, h1, h2, h⟩
end Mir
end
section
set_option maxHeartbeats 1000000
namespace Mir
open PySem PySem.Spec PyProof.Rows L2
variable [Tab]
def tCallKS (sp : Sp) (gV : List V → List V → List V) (E : St → XK) (tk : TA) : TE := fun σ H Q => tk σ H fun zs H2 => sp (gV [] zs) H2 Q (E σ)
section
variable {X : Cx} {CX : CXT} {k : Nat} {f : Addr} {fd : FuncData} {ps ks : List Str} {sp : Sp} {E : St → XK} {x : Str} {p pos : Pos} {kws : List Keyword} {tk : TA} {g : List Value → List Value → List Value} {gV : List V → List V → List V}
theorem run_fnkS {pins : List (Addr × Obj)} {σ : St} {H : Hp} {s : Shared} {Q : VK} {us ws : List Value} {vs zs : List V} (F : FnOk X.prog X.w X.K X.mg X.base CX k f fd ps sp) (hr : Room k X.A) (hb : KBinds X.K fd ps ks g gV) (hx : PassesAt CX X σ (E σ))
    (I : Inv X pins σ H s) (r : Vals vs us) (rz : Vals zs ws) (h : sp (gV vs zs) H Q (E σ)) : wpAny (model X.prog X.w) X.A (call (.ref f) us (ks.zip ws)) (EP X pins σ Q) X.xe s := by
  have r2 := hb.rel r rz
  have hl : (g us ws).length = ps.length := by rw [← r2.length]; exact F.len _ _ _ _ h
  refine wpAny_call (codeAny_mono (F.run X.A X.stack s H ⟨us, ks.zip ws⟩ (g us ws) (gV vs zs) Q (E σ) hr I.env0 (hb.to s us ws I.kIn hl) r2 h) fun r s' hq => ?_)
  cases r with
  | error e => exact hx pins H s e s' I hq
  | ok fl =>
    cases fl with
    | ret u => exact I.after hq
    | next => exact False.elim hq
    | brk => exact False.elim hq
    | cont => exact False.elim hq
theorem pe_callKS (F : FnOk X.prog X.w X.K X.mg X.base CX k f fd ps sp) (hr : Room k X.A) (hg : Gl X x) (hm : X.mg x = some (.ref f)) (hk : PySem.W.keepIn X.K (.ref f) = true) (hb : KBinds X.K fd ps ks g gV) (hx : ∀ σ, PassesAt CX X σ (E σ))
    (hkw : PK X kws tk) (hall : (backToKw pos (keywordEach kws X.env)).all (·.1.isSome) = true := by rfl) (hks : (backToKw pos (keywordEach kws X.env)).filterMap (·.1) = ks := by rfl) (hdb : (x == ("__debug__" : Str)) = false := by decide)
    (hpl : ((backTo pos (starEach [] X.env)).any (·.1) || (backToKw pos (keywordEach kws X.env)).any (·.1.isNone)) = false := by rfl) : PE X (.Call (.Name x p) [] kws pos) (tCallKS sp gV E tk) :=
  ⟨fun pins s σ H Q I h => wpAny_Call_Name_kw (ld_glob I hg hm (PySem.W.callWith_KW0 (h₀ := X.base) I.ok.mod.kin hk hall (thn (hkw.run pos pins s σ H _ I h) fun ws s2 ⟨zs, H2, I2, rz, q2⟩ => ⟨I2.kIn, by
    rw [hks]
    exact run_fnkS F hr hb (hx σ) I2 .nil rz q2⟩) hpl) hdb)⟩
end
def HasKY (P : Program) (w : World) (K : PySem.W.Frag) (mg : Str → Option Value) (base : Heap) (k : Nat) (x : Str) (fr : Bool) (n : Nat) (ks : List Str) (ix : List Nat) (m : List D → MY D) : Prop :=
  ∃ f fd ps, FnOk P w K mg base (L2.CX P w) k f fd ps (spY K mg fr n m) ∧ mg x = some (.ref f) ∧ PySem.W.keepIn K (.ref f) = true ∧ KBinds K fd ps ks (gP n ix) (gP n ix)
theorem HasKY.mono {P : Program} {w : World} {K : PySem.W.Frag} {mg : Str → Option Value} {base : Heap} {j k : Nat} {x : Str} {fr : Bool} {n : Nat} {ks : List Str} {ix : List Nat} {m : List D → MY D} (h : HasKY P w K mg base j x fr n ks ix m) (l : j ≤ k) : HasKY P w K mg base k x fr n ks ix m := by
  obtain ⟨f, fd, ps, F, r⟩ := h
  exact ⟨f, fd, ps, F.mono l, r⟩
def yCallK (n : Nat) (ix : List Nat) (f : List D → MY D) (ms : Ev → M (List D)) : Ev → MY D := fun env => liftY (ms env) >>= fun xs => guardY (xs.length == n) (f (permL ix xs))
section
variable {X : Cx} {W : L2.WX} {fr : Bool} {os : List Nat} {kws : List Keyword} {ms : Ev → M (List D)} {p pos : Pos} {k n : Nat} {x : Str} {mf : List D → MY D} {ks : List Str} {ix : List Nat}
theorem qy_k (tk : Takes X W) (h : HasKY X.prog X.w X.K X.mg X.base k x fr n ks ix mf) (hr : Room k X.A) (hg : Gl X x) (ha : QMK X os kws ms) (hix : ix.length = n ∧ ∀ i ∈ ix, i < n := by decide) (hall : (backToKw pos (keywordEach kws X.env)).all (·.1.isSome) = true := by rfl) (hks : (backToKw pos (keywordEach kws X.env)).filterMap (·.1) = ks := by rfl)
    (hdb : (x == ("__debug__" : Str)) = false := by decide) (hpl : ((backTo pos (starEach [] X.env)).any (·.1) || (backToKw pos (keywordEach kws X.env)).any (·.1.isNone)) = false := by rfl) :
    QYE X W fr os (.Call (.Name x p) [] kws pos) (yCallK n ix mf ms) := by
  obtain ⟨f, fd, ps, F, hm, hk, hb⟩ := h
  obtain ⟨ta, pa⟩ := ha
  refine ⟨_, pe_callKS F hr hg hm hk hb (fun σ => passAt tk σ) pa.p hall hks hdb hpl, fun C G σ H env d Q I w => ?_⟩
  unfold yCallK at w
  rw [WpY_bind, WpY_lift] at w
  refine pa.s C G σ H env d _ I (w.imp fun xs d1 w1 vs H1 G1 A1 r1 => ?_)
  rw [WpY_guard] at w1
  have hl : xs.length = n := by simpa using w1.1
  have hv : vs.length = n := r1.length.trans hl
  show spY X.K X.mg fr n mf (gP n ix [] vs) H1 Q (WE W σ)
  rw [gP_of hv]
  exact ⟨by rw [permL_len fun i hi => by rw [hv]; exact hix.2 i hi]; exact hix.1, C.S, G1, permL ix xs, d1, A1.st, A1.sub, r1.perm ix, w1.2.imp (fun y d2 kk v H' G' A2 r2 => kk v H' G' (A1.trans A2) (RetY.of_call A1 r2)) fun y d2 kk cls dd H' G' A2 r2 => kk cls dd H' G' (A1.trans A2) r2⟩
end
section
variable {P : Program} {w : World} {K : PySem.W.Frag} {mg : Str → Option Value} {base : Heap} {x : Str} {st : Stmt} {ps ks : List Str} {k n : Nat} {ix : List Nat} {fr : Bool}
theorem hasKY_of {N : List Str} {os o2 ol : List Nat} {body : Ev → MY Ctl} (F : Df K mg x st) (S : FnScope N ps (defScope st)) (hn : ps.length = n) (h0 : 0 < n) (hb : BindK x st ps ks n ix) (ho : ∀ i ∈ os, n ≤ i)
    (hbody : ∀ (f : Addr) (cdv : Value) (A : Around) (outer : List Env) (s : Shared) (H : Hp) (E : XK), Room k (A.deeper (envOfC x (defScope st) s.heap.objs.size f cdv)) →
      Takes (cxOf (L2.CX P w) P w K mg base N x (defScope st) f cdv A outer s H E) (fun cls d _ H => E cls d H) → PassesOwn (model P w) (A.deeper (envOfC x (defScope st) s.heap.objs.size f cdv)) (envOfC x (defScope st) s.heap.objs.size f cdv) (cxOf (L2.CX P w) P w K mg base N x (defScope st) f cdv A outer s H E).xe →
      PYSs (cxOf (L2.CX P w) P w K mg base N x (defScope st) f cdv A outer s H E) (fun cls d _ H => E cls d H) fr os o2 ol (defBody st) body) : HasKY P w K mg base (k + 1) x fr n ks ix (defY N.length body) := by
  obtain ⟨f, fd, F, hm⟩ := F
  exact ⟨f, fd, ps, ok_defY F S hn ho fun cdv A outer s H E hr => hbody f cdv A outer s H E hr (takes_of rfl rfl rfl rfl) (passes_of (X := cxOf (L2.CX P w) P w K mg base N x (defScope st) f cdv A outer s H E) rfl), hm, F.kp, kb_of F hn h0 hb⟩
end
end Mir
end
section
set_option maxHeartbeats 1000000
namespace Mir
open PySem PySem.Spec PyProof.Rows L2
variable [Tab]
def insOf (l : List D) : Option (Int × D) := match l with
  | [.int n, y] => some (n, y)
  | _ => none
theorem insOf_eq {l : List D} {n : Int} {y : D} (h : insOf l = some (n, y)) : l = [.int n, y] := by
  unfold insOf at h
  split at h
  · cases h; rfl
  · cases h
def insL (n : Nat) (y : D) (xs : List D) : List D := xs.take n ++ [y] ++ xs.drop n
def insB (i : Nat) (env : Ev) (l : List D) : M Ctl := match insOf l with
  | some (n, y) => (match env[i]? with
    | some (some (.lst xs)) => guardB (decide (xs.length < sizeLine) && (decide (0 ≤ n) && decide (n < 2 ^ 63))) (pure (.nx (env.set i (some (.lst (insL n.toNat y xs))))))
    | _ => bad)
  | none => bad
def cInsA (i : Nat) (ms : Ev → M (List D)) : Ev → M Ctl := fun env => ms env >>= insB i env
section
variable {K : PySem.W.Frag} {mg : Str → Option Value} {S : SA} {G : Hp}
theorem Reps.app2 : ∀ {vs us : List V} {xs ys : List D}, Reps K mg S G vs xs → Reps K mg S G us ys → Reps K mg S G (vs ++ us) (xs ++ ys)
  | _, _, _, _, .nil, r => r
  | _, _, _, _, .cons h q, r => .cons h (Reps.app2 q r)
end
section
variable {X : Cx} {fr : Bool} {os os' ol : List Nat} {b e : Expr} {ms : Ev → M (List D)} {pos p' p2 p3 : Pos} {x : Str}
theorem qs_insA (i : Nat) (h : QMA X os [b, e] ms) (hi : i ∈ os := by decide) (hN : X.N[i]? = some x := by rfl) (hv : Vis X.env.scope x := by first | exact Or.inl rfl | exact Or.inr (Or.inl rfl) | exact Or.inr (Or.inr rfl)) (hd : (x == ("__debug__" : Str)) = false := by decide) (hcd : (x == ("__classdict__" : Str)) = false := by decide)
    (hbase : attributeBase (.Name x p2) "insert" X.env (eval (.Name x p2) X.env) = eval (.Name x p2) X.env := by rfl)
    (hfew : ((backTo p3 (starEach [b, e] X.env)).all (fun x => !x.1) && (backToKw p3 (keywordEach [] X.env)).all (fun x => x.1.isSome) && decide ([b, e].length + ([] : List Keyword).length + (if ([] : List Keyword).isEmpty then 0 else 1) < 30)) = true := by rfl)
    (hline : (p'.endLine == p3.line) = true := by rfl) (hst : starEach [b, e] X.env = (false, eval b X.env) :: starEach [e] X.env := by rfl) (hplain : (backTo p3 (starEach [e] X.env)).any (·.1) = false := by rfl)
    (hs : swapsWith (.Call (.Attribute (.Name x p2) "insert" p') [b, e] [] p3) none pos.line X.env = pure false := by rfl) :
    PMS X fr os os ol (.Expr (.Call (.Attribute (.Name x p2) "insert" p') [b, e] [] p3) pos) (cInsA i ms) := by
  obtain ⟨ta, h⟩ := h
  refine ⟨_, ps_expr (pe_bm PySem.F.plainAttrs_list PySem.F.slot_list_insert PySem.F.type_list_insert mt_insert (pe_var (i := i) hN hv hd hcd) h.p hbase hfew hline hst hplain) hs, fun C G σ H env d D I w => ?_⟩
  unfold cInsA at w
  rw [Wp_bind] at w
  cases hm : ms env d with
  | bad => rw [hm] at w; exact w.elim
  | ok l d1 =>
    rw [hm] at w
    have w : Wp (insB i env l d1) _ := w
    unfold insB at w
    cases hl : insOf l with
    | none => rw [hl] at w; exact w.elim
    | some ny =>
      obtain ⟨n, y⟩ := ny
      rw [hl] at w
      obtain ⟨xs, ee, w1⟩ := ownL_some (f := fun xs => guardB (decide (xs.length < sizeLine) && (decide (0 ≤ n) && decide (n < 2 ^ 63))) (pure (.nx (env.set i (some (.lst (insL n.toNat y xs))))))) w
      rw [Wp_guard, Bool.and_eq_true, Bool.and_eq_true, decide_eq_true_eq, decide_eq_true_eq, decide_eq_true_eq] at w1
      obtain ⟨⟨g1, g2, g3⟩, w2⟩ := w1
      have el := insOf_eq hl
      subst el
      obtain ⟨a, e2, oa⟩ := I.owA hi ee (fun z => nomatch z)
      obtain ⟨vs, h1, rv⟩ := oa.o
      refine ⟨_, e2, .inl ⟨rfl, vs, .inl (.inl h1)⟩, ?_⟩
      refine h.s C G σ H env d _ I ?_
      rw [hm]
      intro us H1 G1 A r
      match us, r with
      | [_, v], .cons (.int _) (.cons r .nil) =>
        have I1 := I.later A
        have h1' := A.hp a _ h1 oa.n
        refine ⟨a, vs, n, v, rfl, rfl, h1', by rw [rv.length]; exact g1, g2, g3, ?_⟩
        obtain ⟨a2, e3, oa2⟩ := I1.owA hi ee (fun z => nomatch z)
        rw [e2] at e3; cases e3
        exact w2 σ _ G1 A.gm (I1.mut hi ee e2 oa2 ⟨_, upd_same, Reps.app2 (Reps.app2 (Reps.take _ (rv.mono A.gm)) (.cons r .nil)) (Reps.drop _ (rv.mono A.gm))⟩)
end
end Mir
end
section
set_option maxHeartbeats 1000000
namespace Mir
open PySem PySem.Spec PyProof.Rows L2
variable [Tab]
section
variable {P : Program} {w : World} {K : PySem.W.Frag} {mg mb : Str → Option Value} {k : Nat} {fa sc : Addr} {fd : FuncData} {x : Str} {sp : Sp} {t : Shared} {us : List Value} {zs : List Int}
end
def gOf (H : Hp) (a : Addr) : Hp := fun b => if b = a then H b else none
def tabW (b : Addr) : Option WX := (Tab.T.lookup b).map .tab
theorem tabW_mem {b : Addr} {F : WX} (h : tabW b = some F) : ∃ q, (b, q) ∈ Tab.T ∧ F = .tab q := by
  unfold tabW at h
  cases e : Tab.T.lookup b with
  | none => rw [e] at h; cases h
  | some q => 
    rw [e] at h; cases h
    refine ⟨q, ?_, rfl⟩
    revert e
    induction (Tab.T : List (Addr × Str)) with
    | nil => intro e; cases e
    | cons p ps ih =>
      obtain ⟨x, y⟩ := p
      intro e
      rw [List.lookup_cons] at e
      cases z : b == x with
      | true =>
        rw [z] at e
        cases e
        rw [eq_of_beq z]
        exact List.mem_cons_self ..
      | false =>
        rw [z] at e
        exact List.mem_cons_of_mem _ (ih e)
theorem tabW_of {p : Addr × Str} (h : p ∈ Tab.T) : tabW p.1 = some (.tab p.2) := by
  unfold tabW
  rw [Tab.u p h]; rfl
theorem IM.law {K : PySem.W.Frag} {mg : Str → Option Value} {a : Addr} {ns : List Int} {S : SA} {H H' : Hp} {d : Drw} (n : Nat) (hS : SqL K H a (ns.map V.int)) (hT : ∀ p ∈ Tab.T, H p.1 = some (.tbl #[]) ∧ p.1 ≠ a) (st : StR S H' d) (keep : ∀ b o, H b = some o → H' b = some o) (n1 : H S.s = none) (n2 : H S.g = none) (n3 : H S.c = none) (hL : ∀ b, S.L b = none) (hW : ∀ b, S.W b = tabW b) :
    IM K mg ⟨S, gOf H a, H'⟩ [] (some (D.ro (ns.map D.int)) :: some .st :: List.replicate n none) (some (.ref a) :: some (.ref S.s) :: List.replicate n none) H' (gOf H a) d := by
  have ga : gOf H a a = H a := if_pos rfl
  have sub : Sub S (gOf H a) H' := ⟨fun b o e => (by
    unfold gOf at e
    split at e
    · rename_i eb
      refine ⟨keep b o e, fun z => ?_⟩
      rcases z with z | z | z | z | z
      · rw [z, n1] at e; cases e
      · rw [z, n2] at e; cases e
      · rw [z, n3] at e; cases e
      · exact z (hL b)
      · obtain ⟨F, ef⟩ := Option.ne_none_iff_exists'.mp z
        rw [hW b] at ef
        obtain ⟨q, hq, _⟩ := tabW_mem ef
        exact (hT _ hq).2 eb
    · cases e), fun b F e => by
      rw [hW b] at e
      obtain ⟨q, hq, eF⟩ := tabW_mem e
      subst eF
      exact MemA.tb ⟨#[], keep _ _ (hT _ hq).1, True.intro, fun pos cv hc => by
        have z : codeAmong pos [] = some cv := hc
        simp [codeAmong] at z⟩⟩
  have hG : SqL K (gOf H a) a (ns.map V.int) := by
    rcases hS with (h | ⟨o, h⟩) | h
    · exact .inl (.inl (ga.trans h))
    · exact .inl (.inr ⟨o, ga.trans h⟩)
    · exact .inr h
  have ri : ∀ zs : List Int, Reps K mg S (gOf H a) (zs.map V.int) (zs.map D.int) := fun zs => by
    induction zs with
    | nil => exact .nil
    | cons z r ih => exact .cons (.int z) ih
  exact {
    aft := Aft.refl st sub
    len := by simp
    sh := fun i x _ e => by
      match i, e with
      | 0, e => cases e; exact ⟨_, rfl, .ro hG (ri ns)⟩
      | 1, e => cases e; exact ⟨_, rfl, .st⟩
      | i + 2, e =>
        rw [List.getElem?_cons_succ, List.getElem?_cons_succ, List.getElem?_replicate] at e
        split at e <;> cases e
    ow := fun i x hi => (nomatch hi)
    dis := fun i j x y b hi => (nomatch hi) }
def absI (c : Int) : Int := if c < 0 then -c else c
def begunD (ns : List Int) : Drw := ⟨0, (ns.filter fun c => decide ((10 : Int) ^ 18 ≤ absI c)).map fun c => absI c / 10 ^ 18, ns.map fun c => absI c % 10 ^ 18, 0⟩
def spBegun (K : PySem.W.Frag) : Sp := fun vs H Q _ => ∃ (a : Addr) (ns : List Int), vs = [.ref a] ∧ SqL K H a (ns.map V.int) ∧ ns.length ≤ 1000 ∧ (∀ p ∈ Tab.T, H p.1 = some (.tbl #[]) ∧ p.1 ≠ a) ∧ ∀ S H', StR S H' (begunD ns) → (∀ b o, H b = some o → H' b = some o) → H S.s = none → H S.g = none → H S.c = none → (∀ b, S.L b = none) → (∀ b, S.W b = tabW b) → Q (.ref S.s) H'
end Mir
end
section
set_option maxHeartbeats 2000000
namespace Mir
open PySem PySem.Spec PyProof.Rows L2
section
variable {P : Program} {w : World} {K : PySem.W.Frag} {mg mb : Str → Option Value} {k : Nat} {fa sc : Addr} {cs : List (Addr × Addr)} {fd : FuncData} {x : Str} {sp : Sp} {t : Shared} {us : List Value} {zs : List Int}
def OnlyT (cs : List (Addr × Addr)) (H : Hp) : Prop := ∀ b, H b = none ∨ b ∈ cs.map (·.2) ∨ ∃ o xs, H b = some (.frz o (.lst xs))
theorem law_coreT (KX : K.In t.heap) (hns : t.heap.Ns mainGlobals mg) (hb : t.heap.Ns builtinsNs mb) (hbb : ∀ y : Str, y ≠ "__name__" → mb y = bootBuiltins y) (hlim : t.heap.NoLimit) (hg : t.gens = #[])
    (hT : ∀ p ∈ cs, t.heap.get? p.2 = some { cls := .none, data := .fields #[] }) (nT : ∀ p ∈ cs, K.lookup p.2 = none) (Cd : ∀ p ∈ cs, PySem.W.CodeHd t.heap p.1 p.2)
    (hbm : ∃ (bm : Addr) (ob : Obj), mg "__builtins__" = some (.ref bm) ∧ bm ≠ builtinsNs ∧ t.heap.get? bm = some ob ∧ ob.cls = .type "module" ∧ ob.dict = some builtinsNs ∧ ob.data = .plain)
    (ho : t.heap.get? sc = some { cls := .type "list", data := .seq us.toArray }) (hr : Room k callerA)
    (F : ∀ base : Heap, K.In base → base.Ns mainGlobals mg → (∀ p ∈ cs, LamX.TabB base mg p.1 p.2) → FnG P w K mg base k fa fd [x] sp) (hbind : ∀ (s : Shared) (u : Value), BindsTo s fd ⟨[u], []⟩ [(x, u)])
    (H : Hp) (hH : ∀ p ∈ cs, H p.2 = some (.tbl #[])) (only : OnlyT cs H) (hsp : sp [.ref sc] H (fun v _ => v = .bl true) fun _ _ _ => False) (hok : HOk P w H t.heap) (one : ∀ b, H b ≠ none → b = sc ∨ b ∈ cs.map (·.2)) (out : H sc ≠ none → K.lookup sc = none) :
    codeAny (model P w) callerA (.call (.ref fa) ⟨[.ref sc], []⟩) (fun r s' => r = .ok (.ret (.bool true)) ∧ OldK t.heap s'.heap ∧ s'.os = t.os ∧ AllBare s'.gens) t := by
  have isT : ∀ b : Addr, b ∈ cs.map (·.2) → t.heap.get? b = some { cls := .none, data := .fields #[] } := fun b hb => by
    obtain ⟨p, hp, e⟩ := List.mem_map.mp hb
    rw [← e]
    exact hT p hp
  have stays : ∀ {b : Addr} {ob : Obj}, t.heap.get? b = some ob → H b = none → (hidT t.heap H).get? b = some ob := fun q n => hidT_get q n
  have free : ∀ {b : Addr} {ob : Obj}, t.heap.get? b = some ob → (∀ vs n, ob.data ≠ .seq vs n) → ob.data ≠ .fields #[] → H b = none := by
    intro b ob q h1 h2
    by_cases hb : H b = none
    · exact hb
    · rcases one b hb with z | z
      · rw [z, ho] at q
        cases q
        exact (h1 _ _ rfl).elim
      · rw [isT b z] at q
        cases q
        exact (h2 rfl).elim
  have noDict : ∀ {b : Addr} {ob : Obj} {es : Array DictEntry} {ep : Nat}, t.heap.get? b = some ob → ob.data = .dict es ep → H b = none := fun {b ob es ep} q dd =>
    free q (fun vs n z => by rw [dd] at z; cases z) fun z => by rw [dd] at z; cases z
  have names : ∀ {b : Addr} {m : Str → Option Value}, t.heap.Ns b m → (hidT t.heap H).Ns b m := fun {b m} ⟨ob, es, ep, q, dd, r⟩ => ⟨ob, es, ep, stays q (noDict q dd), dd, r⟩
  have inB : K.In (hidT t.heap H) := by
    intro b ob q
    refine stays (KX b ob q) ?_
    by_cases hb : H b = none
    · exact hb
    · rcases one b hb with z | z
      · rw [z] at q hb
        rw [out hb] at q
        cases q
      · obtain ⟨p, hp, ep⟩ := List.mem_map.mp z
        rw [← ep, nT p hp] at q
        cases q
  have modB : Mod K mg (hidT t.heap H) := ⟨inB, names hns, ⟨mb, names hb, hbb⟩, by
    obtain ⟨mc, c1, c2⟩ := hlim
    exact ⟨mc, names c1, c2⟩⟩
  have TB : ∀ p ∈ cs, LamX.TabB (hidT t.heap H) mg p.1 p.2 := by
    intro p hp
    have tp := hT p hp
    refine ⟨?_, ?_, fun z => ?_⟩
    · obtain ⟨o, vs, file, tf, flags, tg, inF, text, tt, e1, r1, r2, r3, r4, r5, r6, r7, r8, hne⟩ := Cd p hp
      refine ⟨o, vs, file, tf, flags, tg, inF, text, tt, stays e1 (free e1 (fun vs n z => ?_) fun z => ?_), r1, r2, r3, r4, r5, r6, r7, r8, hne⟩
      · rw [r2] at z; cases z
      · rw [r2] at z
        cases z
        simp at r3
    · obtain ⟨bm, ob, b1, b2, b3, b4, b5, b6⟩ := hbm
      have nG : bm ≠ mainGlobals := fun q => by
        obtain ⟨o, es, ep, e, hd, _⟩ := hns
        rw [q, e] at b3
        cases b3
        rw [hd] at b6
        cases b6
      have nP : bm ≠ p.2 := fun q => by
        rw [q, tp] at b3
        cases b3
        cases b6
      refine ⟨bm, ob, b1, b2, nG, nP, stays b3 (free b3 (fun vs n z => ?_) fun z => ?_), b4, b5, b6⟩
      · rw [b6] at z; cases z
      · rw [b6] at z; cases z
    · obtain ⟨o, es, ep, e, hd, _⟩ := hns
      rw [z, tp] at e
      cases e
      cases hd
  have env : Env0 P w K mg (hidT t.heap H) callerA [] t H := ⟨rfl, modB, fun b ob q => of_hidT q, Nat.le_of_eq (hidT_size _ _), trivial, fun b hb => (nomatch hb), hok, .of_eq hg⟩
  refine codeAny_mono ((F _ inB (names hns) TB).run callerA [] t H ⟨[.ref sc], []⟩ [.ref sc] [.ref sc] _ _ hr rfl env (hbind t (.ref sc)) (.cons rfl .nil) hsp) fun r s' q => ?_
  cases r with
  | error e =>
    have q : CX0 [] H t (fun _ _ _ => False) e s' := q
    exact q.elim
  | ok fl =>
    cases fl with
    | ret u =>
      obtain ⟨v, H', e1, e2, un, hok', rv, ev⟩ := q
      have ev : v = .bl true := ev
      subst ev
      cases (show u = Value.bool true from rv)
      have key : ∀ b o, b ∉ cs.map (·.2) → t.heap.get? b = some o → s'.heap.get? b = some o := by
        intro b ob nb q
        rcases only b with z | z | ⟨o2, xs, z⟩
        · exact un.keep b ob q z (fun z => (nomatch z)) fun z => (nomatch z)
        · exact absurd z nb
        · have a1 := (hok b _ z).1
          have a2 := (hok' b _ (un.frzs b o2 _ z)).1
          rw [q] at a1
          cases a1
          exact a2
      have grown : ∀ p ∈ cs, ∃ more : Array Value, s'.heap.get? p.2 = some { cls := .none, data := .fields more } := fun p hp => by
        obtain ⟨more, z⟩ := un.tbls p.2 #[] (hH p hp)
        exact ⟨_, hok' p.2 _ z⟩
      refine ⟨rfl, ⟨fun b o e => ?_, fun b o e => ?_⟩, e1, e2⟩
      · by_cases hb : b ∈ cs.map (·.2)
        · obtain ⟨p, hp, ep⟩ := List.mem_map.mp hb
          obtain ⟨more, hm⟩ := grown p hp
          rw [← ep] at e ⊢
          rw [hT p hp] at e
          cases e
          exact .inr (.inl ⟨((Cd p hp).tab (hT p hp)).isCodeTable, rfl, #[], more, rfl, by rw [Array.empty_append]; exact hm⟩)
        · exact .inl (key b o hb e)
      · by_cases hb : b ∈ cs.map (·.2)
        · obtain ⟨p, hp, ep⟩ := List.mem_map.mp hb
          obtain ⟨more, hm⟩ := grown p hp
          rw [← ep]
          exact ⟨_, hm⟩
        · exact ⟨o, key b o hb e⟩
    | _ => exact False.elim q
theorem law_callT (KX : K.In t.heap) (hns : t.heap.Ns mainGlobals mg) (hb : t.heap.Ns builtinsNs mb) (hbb : ∀ y : Str, y ≠ "__name__" → mb y = bootBuiltins y) (hlim : t.heap.NoLimit) (hg : t.gens = #[])
    (hT : ∀ p ∈ cs, t.heap.get? p.2 = some { cls := .none, data := .fields #[] }) (nT : ∀ p ∈ cs, K.lookup p.2 = none) (Cd : ∀ p ∈ cs, PySem.W.CodeHd t.heap p.1 p.2)
    (hbm : ∃ (bm : Addr) (ob : Obj), mg "__builtins__" = some (.ref bm) ∧ bm ≠ builtinsNs ∧ t.heap.get? bm = some ob ∧ ob.cls = .type "module" ∧ ob.dict = some builtinsNs ∧ ob.data = .plain)
    (ho : t.heap.get? sc = some { cls := .type "list", data := .seq us.toArray }) (hi : IntsAre us zs) (hl : zs.length ≤ sizeLine) (hr : Room k callerA)
    (F : ∀ base : Heap, K.In base → base.Ns mainGlobals mg → (∀ p ∈ cs, LamX.TabB base mg p.1 p.2) → FnG P w K mg base k fa fd [x] sp) (hbind : ∀ (s : Shared) (u : Value), BindsTo s fd ⟨[u], []⟩ [(x, u)])
    (hsp : ∀ H : Hp, (∀ p ∈ cs, H p.2 = some (.tbl #[]) ∧ p.2 ≠ sc) → SqL K H sc (zs.map V.int) → sp [.ref sc] H (fun v _ => v = .bl true) fun _ _ _ => False) :
    codeAny (model P w) callerA (.call (.ref fa) ⟨[.ref sc], []⟩) (fun r s' => r = .ok (.ret (.bool true)) ∧ OldK t.heap s'.heap ∧ s'.os = t.os ∧ AllBare s'.gens) t := by
  have rel := vals_ints hi
  have isT : ∀ b : Addr, b ∈ cs.map (·.2) → t.heap.get? b = some { cls := .none, data := .fields #[] } := fun b hb => by
    obtain ⟨p, hp, e⟩ := List.mem_map.mp hb
    rw [← e]
    exact hT p hp
  have memT : ∀ p ∈ cs, p.2 ∈ cs.map (·.2) := fun p hp => List.mem_map.mpr ⟨p, hp, rfl⟩
  have aT : sc ∉ cs.map (·.2) := fun z => by
    have q := isT sc z
    rw [ho] at q
    cases congrArg Obj.data (Option.some.inj q)
  have ne : ∀ p ∈ cs, p.2 ≠ sc := fun p hp z => aT (by rw [← z]; exact memT p hp)
  cases hk : K.lookup sc with
  | some ob =>
    have q := KX sc ob hk
    rw [ho] at q
    cases q
    let H : Hp := fun b => if b ∈ cs.map (·.2) then some (.tbl #[]) else none
    have at_ : ∀ b, b ∈ cs.map (·.2) → H b = some (.tbl #[]) := fun b h => if_pos h
    have off : ∀ b, b ∉ cs.map (·.2) → H b = none := fun b h => if_neg h
    refine law_coreT KX hns hb hbb hlim hg hT nT Cd hbm ho hr F hbind H (fun p hp => at_ _ (memT p hp)) (fun b => ?_) (hsp H (fun p hp => ⟨at_ _ (memT p hp), ne p hp⟩) (.inr ⟨_, us.toArray, _, hk, rfl, rfl, rfl, by rw [List.size_toArray, hi.length]; exact hl, by simpa using rel⟩)) (fun b u z => ?_) (fun b z => ?_) fun z => absurd (off sc aT) z
    · by_cases h : b ∈ cs.map (·.2)
      · exact .inr (.inl h)
      · exact .inl (off b h)
    · by_cases h : b ∈ cs.map (·.2)
      · rw [at_ b h] at z
        cases z
        exact isT b h
      · rw [off b h] at z
        cases z
    · by_cases h : b ∈ cs.map (·.2)
      · exact .inr h
      · exact absurd (off b h) z
  | none =>
    let H : Hp := fun b => if b = sc then some (.frz { cls := .type "list", data := .seq us.toArray } (.lst (zs.map V.int))) else if b ∈ cs.map (·.2) then some (.tbl #[]) else none
    have at0 : H sc = some (.frz { cls := .type "list", data := .seq us.toArray } (.lst (zs.map V.int))) := if_pos rfl
    have at_ : ∀ b, b ∈ cs.map (·.2) → H b = some (.tbl #[]) := fun b h => (if_neg fun z => aT (by rw [← z]; exact h)).trans (if_pos h)
    have off : ∀ b, b ≠ sc → b ∉ cs.map (·.2) → H b = none := fun b h0 h => (if_neg h0).trans (if_neg h)
    refine law_coreT KX hns hb hbb hlim hg hT nT Cd hbm ho hr F hbind H (fun p hp => at_ _ (memT p hp)) (fun b => ?_) (hsp H (fun p hp => ⟨at_ _ (memT p hp), ne p hp⟩) (.inl (.inr ⟨_, at0⟩))) (fun b u z => ?_) (fun b z => ?_) fun _ => hk
    · by_cases h0 : b = sc
      · subst h0; exact .inr (.inr ⟨_, _, at0⟩)
      · by_cases h : b ∈ cs.map (·.2)
        · exact .inr (.inl h)
        · exact .inl (off b h0 h)
    · by_cases h0 : b = sc
      · subst h0
        rw [at0] at z
        cases z
        exact ⟨ho, by rw [List.length_map]; exact hl, us, _, rel, ho⟩
      · by_cases h : b ∈ cs.map (·.2)
        · rw [at_ b h] at z
          cases z
          exact isT b h
        · rw [off b h0 h] at z
          cases z
    · by_cases h0 : b = sc
      · exact .inl h0
      · by_cases h : b ∈ cs.map (·.2)
        · exact .inr h
        · exact absurd (off b h0 h) z
end
def codeVs (vs : Array Value) (c P : Addr) : Bool := (match (vs[11]? : Option Value) with | some (.ref P') => P' == P | _ => false) &&
      (match vs.getD 18 .none with | .str _ _ => true | _ => false) && (match vs.getD 7 .none with | .int _ _ => true | _ => false) &&
      (match vs.getD 9 .none with | .bool _ => true | _ => false) && (match vs.getD 10 .none with | .int _ _ => true | _ => false) && c != P
theorem codeVs_hd {K : PySem.W.Frag} {c P : Addr} {dd : Option Addr} {vs : Array Value} {sl : Array (Option Value)} (h : K.lookup c = some ⟨.type "code", dd, .fields vs, sl⟩) (e : codeVs vs c P = true) : PySem.W.codeHdIn K c P = true := by
  unfold PySem.W.codeHdIn
  rw [h]
  exact e
end Mir
end
section
set_option maxHeartbeats 2000000
namespace Mir
open PySem PySem.Spec PyProof.Rows L2
namespace Hd
section
variable {K : PySem.W.Frag}
theorem fn_at {d : He.FnD} (e : He.fnObs K d.at_ = d.val) : K.lookup (He.fAd K d.at_) = some ⟨(objO K (He.fAd K d.at_)).cls, (objO K (He.fAd K d.at_)).dict, .func (PySem.W.fnOf d.name d.qual d.params d.body d.scope .none (fdO K (He.fAd K d.at_)).kwdefaults (fdO K (He.fAd K d.at_)).doc (fdO K (He.fAd K d.at_)).pyModule (fdO K (He.fAd K d.at_)).annotations (fdO K (He.fAd K d.at_)).code (fdO K (He.fAd K d.at_)).closureTuple), (objO K (He.fAd K d.at_)).slots⟩ := by
  unfold He.fnObs at e
  generalize He.fAd K d.at_ = a at e ⊢
  cases q : K.lookup a with
  | none =>
    rw [q] at e
    cases e
  | some o =>
    obtain ⟨oc, od, dt, osl⟩ := o
    rw [q] at e
    cases dt with
    | func fd =>
      obtain ⟨n1, n2, n3, n4, n5, n6, n7, n8, n9, n10, n11, n12, n13, n14, n15⟩ := fd
      have e2 : (some (n1, n2, n3, n4, n5, n6, n7, n8, n15) : He.FnV) = some (d.name, d.qual, d.params, .stmts d.body, d.scope, mainGlobals, [], .none, builtinsNs) := e
      simp only [Option.some.injEq, Prod.mk.injEq] at e2
      obtain ⟨h1, h2, h3, h4, h5, h6, h7, h8, h9⟩ := e2
      subst h1 h2 h3 h4 h5 h6 h7 h8 h9
      have eo : objO K a = ⟨oc, od, .func ⟨d.name, d.qual, d.params, .stmts d.body, d.scope, mainGlobals, [], .none, n9, n10, n11, n12, n13, n14, builtinsNs⟩, osl⟩ := by
        unfold objO
        rw [q]
        rfl
      unfold fdO
      rw [eo]
    | _ => cases e
theorem fn_atC {d : He.FnD} {c : Addr} (e : He.fnObs K d.at_ = d.val) (hc : (fdO K (He.fAd K d.at_)).code = .ref c) : K.lookup (He.fAd K d.at_) = some ⟨(objO K (He.fAd K d.at_)).cls, (objO K (He.fAd K d.at_)).dict, .func (PySem.W.fnOf d.name d.qual d.params d.body d.scope .none (fdO K (He.fAd K d.at_)).kwdefaults (fdO K (He.fAd K d.at_)).doc (fdO K (He.fAd K d.at_)).pyModule (fdO K (He.fAd K d.at_)).annotations (.ref c) (fdO K (He.fAd K d.at_)).closureTuple), (objO K (He.fAd K d.at_)).slots⟩ := by
  rw [← hc]
  exact fn_at e
theorem cd_at {c : Addr} (h : cdB K c = true) : K.lookup c = some ⟨.type "code", (objO K c).dict, .fields (vsO K c), (objO K c).slots⟩ := by
  unfold cdB at h
  cases q : K.lookup c with
  | none => rw [q] at h; cases h
  | some o =>
    obtain ⟨oc, od, dt, osl⟩ := o
    rw [q] at h
    have eo : objO K c = ⟨oc, od, dt, osl⟩ := by unfold objO; rw [q]; rfl
    cases oc with
    | type t =>
      cases dt with
      | fields vs =>
        have et : t = "code" := of_decide_eq_true h
        unfold vsO
        rw [eo, et]
      | _ => cases h
    | _ => cases dt <;> cases h
theorem tp_at {g : Addr} {vs : List Value} (h : tpB K g vs = true) : K.lookup g = some ⟨.type "tuple", (objO K g).dict, .seq vs.toArray (sqN K g), (objO K g).slots⟩ := by
  unfold tpB at h
  cases q : K.lookup g with
  | none => rw [q] at h; cases h
  | some o =>
    obtain ⟨oc, od, dt, osl⟩ := o
    rw [q] at h
    have eo : objO K g = ⟨oc, od, dt, osl⟩ := by unfold objO; rw [q]; rfl
    cases oc with
    | type t =>
      cases dt with
      | seq its n =>
        obtain ⟨h1, h2⟩ := He.ba (show (decide (t = "tuple") && decide (its.toList = vs)) = true from h)
        have et : t = "tuple" := of_decide_eq_true h1
        have ev : its.toList = vs := of_decide_eq_true h2
        unfold sqN
        rw [eo, et, ← ev]
      | _ => cases h
    | _ => cases dt <;> cases h
theorem slB_ok {l : List (Option Value)} (h : slB l = true) : ∃ k0 k1 k2 k3 k5, l = [k0, k1, k2, k3, some (.builtin "ValueError.__new__"), k5] := by
  unfold slB at h
  split at h
  · rename_i k0 k1 k2 k3 n k5
    rw [show n = "ValueError.__new__" from of_decide_eq_true h]
    exact ⟨k0, k1, k2, k3, k5, rfl⟩
  · cases h
theorem ex_at {C : Addr} {bm : List Value} (h : exB K C bm = true) : K.lookup C = some (excClassObj (cdO K C).name (cdO K C).qualname C (cdO K C).ns (cdO K C).bases bm true (cdO K C).slotNames (cdO K C).subclasses (cdO K C).abstract (cdO K C).collection (objO K C).dict (slO K C 0) (slO K C 1) (slO K C 2) (slO K C 3) (slO K C 5) "ValueError.__new__") := by
  unfold exB at h
  cases q : K.lookup C with
  | none => rw [q] at h; cases h
  | some o =>
    obtain ⟨oc, od, dt, osl⟩ := o
    rw [q] at h
    have eo : objO K C = ⟨oc, od, dt, osl⟩ := by unfold objO; rw [q]; rfl
    cases oc with
    | type t =>
      cases dt with
      | cls cd =>
        obtain ⟨h1, h⟩ := He.ba h
        obtain ⟨h2, h⟩ := He.ba h
        obtain ⟨h3, h⟩ := He.ba h
        obtain ⟨h4, h5⟩ := He.ba h
        have et : t = "type" := of_decide_eq_true h1
        have em : cd.mro = .ref C :: bm := of_decide_eq_true h2
        obtain ⟨nm, bs, mro, ns, qn, hd, sn, sub, ab, col, del⟩ := cd
        have em : mro = .ref C :: bm := em
        have e3 : hd = true := h3
        have e4 : del = false := by
          have h4 : (!del) = true := h4
          cases del with
          | false => rfl
          | true => cases h4
        obtain ⟨l⟩ := osl
        obtain ⟨k0, k1, k2, k3, k5, el⟩ := slB_ok (show slB l = true from h5)
        subst et em e3 e4 el
        unfold cdO slO
        rw [eo]
        rfl
      | _ => cases h
    | _ => cases dt <;> cases h
theorem fc_ok {c mc v : Value} {x : Str} (h : fcB K c mc x v = true) : PySem.W.findCls K c mc x = some (.val v) := by
  unfold fcB at h
  split at h
  · rename_i u q
    rw [q, show u = v from of_decide_eq_true h]
  · cases h
theorem no_ok {a : Addr} (h : (K.lookup a).isNone = true) : K.lookup a = none := Option.isNone_iff_eq_none.mp h
end
theorem nt {bs : List Bool} (h : bs.all id = true) (i : Nat) {b : Bool} (e : bs[i]? = some b) : b = true := List.all_eq_true.mp h b (List.mem_of_getElem? e)
theorem ex_of {exs : List (PySem.W.Frag → List Bool)} {K : PySem.W.Frag} {f : PySem.W.Frag → List Bool} (h : exAll exs K = true) (i : Nat) (e : exs[i]? = some f) : (f K).all id = true := List.all_eq_true.mp h f (List.mem_of_getElem? e)
structure Say (L : Lays) (more : List He.FnD) (K : PySem.W.Frag) (h : Heap) (mg : Str → Option Value) : Prop where
  X : K.In h
  G : h.Ns mainGlobals mg
  b : L.ex K = true
  f : ∀ d ∈ L.fns more, He.fnObs K d.at_ = d.val
section
variable {L : Lays} {more : List He.FnD} {K : PySem.W.Frag} {h : Heap} {mg : Str → Option Value}
theorem Say.fr (s : Say L more K h mg) {x : Str} (hx : x ∈ L.fr) : mg x = none :=
  PySem.W.mg_none_of s.X s.G (He.eqO_ok (List.all_eq_true.mp (He.ba s.b).1 x hx))
theorem Say.dfx (s : Say L more K h mg) (i : Nat) {y x : Str} {st : Stmt} (e : L.df[i]? = some (y, x, st)) : ∃ f fd, Fun K x x st f fd ∧ mg y = some (.ref f) := by
  have m := List.mem_of_getElem? e
  have c : dfB K y x = true := List.all_eq_true.mp (He.ba (He.ba s.b).2).1 (y, x, st) m
  obtain ⟨c1, c⟩ := He.ba c
  obtain ⟨c2, c3⟩ := He.ba c
  have g : He.fnObs K (dfD (y, x, st)).at_ = (dfD (y, x, st)).val := s.f _ (List.mem_append_left _ (List.mem_map_of_mem m))
  exact ⟨_, _, fun_mk (st := st) (fn_at g) c2 c3, PySem.W.mg_of s.X s.G (He.eqO_ok c1)⟩
theorem Say.df (s : Say L more K h mg) (i : Nat) {x : Str} {st : Stmt} (e : L.df[i]? = some (x, x, st)) : Df K mg x st := s.dfx i e
theorem cl_ok (X : K.In h) (G : h.Ns mainGlobals mg) {c : Str} (b : clB K c = true) : mg c = some (.ref (He.ga K c)) ∧ Cls K (He.ga K c) := by
  obtain ⟨c1, b⟩ := He.ba b
  obtain ⟨c2, b⟩ := He.ba b
  obtain ⟨c3, b⟩ := He.ba b
  obtain ⟨c4, c5⟩ := He.ba b
  exact ⟨PySem.W.mg_of X G (He.eqO_ok c1), c2, c3, c4, He.eqO_ok c5⟩
theorem Say.dm (s : Say L more K h mg) (i : Nat) {c mt q : Str} {st : Stmt} (e : L.dm[i]? = some (c, mt, q, st)) : DfM K mg c mt q st := by
  have m := List.mem_of_getElem? e
  have b : dmB K c mt q = true := List.all_eq_true.mp (He.ba (He.ba (He.ba s.b).2).2).1 (c, mt, q, st) m
  obtain ⟨c1, b⟩ := He.ba b
  obtain ⟨c2, b⟩ := He.ba b
  obtain ⟨c3, b⟩ := He.ba b
  obtain ⟨c4, c5⟩ := He.ba b
  obtain ⟨a1, a2⟩ := cl_ok s.X s.G c1
  have g : He.fnObs K (dmD (c, mt, q, st)).at_ = (dmD (c, mt, q, st)).val := s.f _ (List.mem_append_right _ (List.mem_append_left _ (List.mem_map_of_mem m)))
  exact ⟨_, _, _, a1, a2, ⟨He.eqO_ok c2, c3, c5⟩, fun_mk (st := st) (fn_at g) c4 c5⟩
theorem Say.di (s : Say L more K h mg) (i : Nat) {c q : Str} {st : Stmt} (e : L.di[i]? = some (c, q, st)) : DfI K mg c q st := by
  have m := List.mem_of_getElem? e
  have b : diB K c q = true := List.all_eq_true.mp (He.ba (He.ba (He.ba (He.ba s.b).2).2).2).1 (c, q, st) m
  obtain ⟨c1, b⟩ := He.ba b
  obtain ⟨c2, b⟩ := He.ba b
  obtain ⟨c3, b⟩ := He.ba b
  obtain ⟨c4, b⟩ := He.ba b
  obtain ⟨c5, b⟩ := He.ba b
  obtain ⟨c6, c7⟩ := He.ba b
  have g : He.fnObs K (diD (c, q, st)).at_ = (diD (c, q, st)).val := s.f _ (List.mem_append_right _ (List.mem_append_right _ (List.mem_append_left _ (List.mem_map_of_mem m))))
  exact ⟨_, _, _, PySem.W.mg_of s.X s.G (He.eqO_ok c1), ⟨c2, He.eqO_ok c4, c5, c3⟩, fun_mk (st := st) (fn_at g) c6 c7⟩
theorem Say.hf (s : Say L more K h mg) (i : Nat) {c a : Str} (e : L.hf[i]? = some (c, a)) : HasF K mg c a := by
  have m := List.mem_of_getElem? e
  have b : hfB K c a = true := List.all_eq_true.mp (He.ba (He.ba (He.ba (He.ba (He.ba s.b).2).2).2).2).1 (c, a) m
  obtain ⟨c1, c2⟩ := He.ba b
  obtain ⟨a1, a2⟩ := cl_ok s.X s.G c1
  exact ⟨_, a1, a2, He.eqO_ok c2⟩
theorem Say.gi {T0 : Tab} (s : Say L more K h mg) (i : Nat) {x : Str} {j : Int} (e : L.gi[i]? = some (x, j)) : @GD T0 K mg x (.int j) := by
  have m := List.mem_of_getElem? e
  have b : giB K x j = true := List.all_eq_true.mp (He.ba (He.ba (He.ba (He.ba (He.ba (He.ba s.b).2).2).2).2).2).1 (x, j) m
  exact ⟨.int j, _, PySem.W.mg_of s.X s.G (He.eqO_ok b), ⟨_, rfl⟩, fun _ _ => .int _⟩
theorem Say.gs {T0 : Tab} (s : Say L more K h mg) (i : Nat) {x z : Str} (e : L.gs[i]? = some (x, z)) : @GD T0 K mg x (.str z) := by
  have m := List.mem_of_getElem? e
  have b : gsB K x z = true := List.all_eq_true.mp (He.ba (He.ba (He.ba (He.ba (He.ba (He.ba s.b).2).2).2).2).2).2 (x, z) m
  exact ⟨.str z, _, PySem.W.mg_of s.X s.G (He.eqO_ok b), ⟨_, rfl⟩, fun _ _ => .str _⟩
theorem Say.mo (s : Say L more K h mg) (i : Nat) {d : He.FnD} (e : more[i]? = some d) : He.fnObs K d.at_ = d.val := s.f d (List.mem_append_right _ (List.mem_append_right _ (List.mem_append_right _ (List.mem_of_getElem? e))))
end
end Hd
theorem walk_ofTE {l : PySem.W.OpenLaw} {n k : Nat} {q : Program} {loose : List Str} {XP : (Str → Option Value) → Heap → Prop} {YP : World → Heap → Prop} {d : DefRec} {sp : Tab → PySem.W.Frag → Sp} {x : Str} (hn : l.most = some n) (hn2 : n ≤ sizeLine) (hdf : d.params.defaults = []) (hr : Room k callerA)
    (F : ∀ (w : World) (mg : Str → Option Value) (fa : Addr) (h : Heap), YP w h → h.Ns mainGlobals mg → mg d.name = some (.ref fa) → ∃ K : PySem.W.Frag, K.In h ∧ ∃ (T : Tab) (cs : List (Addr × Addr)) (fd : FuncData), (∀ p ∈ T.T, ∃ r ∈ cs, r.2 = p.1) ∧ (∀ p ∈ cs, h.get? p.2 = some { cls := .none, data := .fields #[] }) ∧ (∀ p ∈ cs, K.lookup p.2 = none) ∧ (∀ p ∈ cs, PySem.W.CodeHd h p.1 p.2) ∧
        (∀ (s : Shared) (u : Value), BindsTo s fd ⟨[u], []⟩ [(x, u)]) ∧
        ∀ base : Heap, K.In base → base.Ns mainGlobals mg → (∀ p ∈ cs, LamX.TabB base mg p.1 p.2) → FnG l.prog w K mg base k fa fd [x] (sp T K))
    (hsp : ∀ (T : Tab) (K : PySem.W.Frag) (H : Hp) (a : Addr) (ns : List Int), ns.length ≤ n → (∀ z ∈ ns, Builtin.Int.intBits z ≤ 1048576) → (∀ p ∈ T.T, H p.1 = some (.tbl #[]) ∧ p.1 ≠ a) → SqL K H a (ns.map V.int) → sp T K [.ref a] H (fun v _ => v = .bl true) fun _ _ _ => False) :
    PySem.W.WalkO q loose XP YP l.row.toRowW d [] (fun f vs => PySem.call f vs) := by
  refine Att.attach_callB hn hdf fun w s₀ s₁ mg mb fa o pm cd doc a vs ns G Y ho hd hcd hmg hobj hints hlen hbits hg => ?_
  obtain ⟨K, KX, T, cs, fd, hTc, hT, nT, C, hb, hF⟩ := F w mg fa _ Y G.T.g hmg
  exact law_callT KX G.T.g G.T.b G.T.builtins G.T.nolimit hg hT nT C G.T.bmain hobj hints (Nat.le_trans hlen hn2) hr hF hb fun H hH hS => hsp T _ H a ns hlen hbits (fun p hp => by
    obtain ⟨r, hr1, er⟩ := hTc p hp
    rw [← er]
    exact hH r hr1) hS
end Mir
end
section
set_option maxHeartbeats 400000
namespace Mir
open PySem PySem.Spec PyProof.Rows L2
section
variable {ma mb mc m mo : Ev → M D} {n na nb : Ev → M Bool} {a b : Ev → M Ctl} {ms mk : Ev → M (List D)} {env e : Ev} {x y z w : D} {xs ys ds : List D} {g g2 : D → D → M D} {u : D → M D} {g3 : D → D → D → M D} {t t1 t2 : Bool} {i j k nn : Nat} {r : M Ctl} {f : List D → M D} {q q2 : Int} {l h' : Ev → M (Option Int)} {lo hi : Option Int}
theorem ev_var (h : env[i]? = some (some x)) : eVar i env = pure x := by unfold eVar; rw [h]
theorem ev_c : eC x env = pure x := rfl
theorem ev_bin (h1 : ma env = pure x) (h2 : mb env = pure y) (h : g x y = pure z) : eBin g ma mb env = pure z := by
  unfold eBin; rw [h1, pure_bind', h2, pure_bind', h]
theorem ev_un (h1 : m env = pure x) (h : u x = pure z) : eUn u m env = pure z := by unfold eUn; rw [h1, pure_bind', h]
theorem ev_neg (h : m env = pure (.int q)) : eNeg m env = pure (.int (-q)) := by unfold eNeg; rw [h]; rfl
theorem ev_tB (h : m env = pure (.bl t)) : tB' m env = pure t := by unfold tB'; rw [h]; rfl
theorem ev_tAnd (h1 : na env = pure t1) (h2 : t1 = true → nb env = pure t2) : tAnd' na nb env = pure (t1 && t2) := by
  unfold tAnd'; rw [h1, pure_bind']
  cases t1 with
  | true => rw [if_pos rfl, h2 rfl]; rfl
  | false => rfl
theorem ev_tOr (h1 : na env = pure t1) (h2 : t1 = false → nb env = pure t2) : tOr' na nb env = pure (t1 || t2) := by
  unfold tOr'; rw [h1, pure_bind']
  cases t1 with
  | true => rfl
  | false => rw [if_neg (by decide), h2 rfl]; rfl
theorem ev_tNot (h : na env = pure t) : tNot' na env = pure (!t) := by unfold tNot'; rw [h]; rfl
theorem ev_and (h1 : ma env = pure (.bl t1)) (h2 : t1 = true → mb env = pure (.bl t2)) : eAnd ma mb env = pure (.bl (t1 && t2)) := by
  unfold eAnd; rw [h1, pure_bind']
  cases t1 with
  | true => exact h2 rfl
  | false => rfl
theorem ev_or (h1 : ma env = pure (.bl t1)) (h2 : t1 = false → mb env = pure (.bl t2)) : eOr ma mb env = pure (.bl (t1 || t2)) := by
  unfold eOr; rw [h1, pure_bind']
  cases t1 with
  | true => rfl
  | false => exact h2 rfl
theorem ev_if (h : n env = pure t) (h1 : t = true → ma env = pure x) (h2 : t = false → mb env = pure y) : eIf n ma mb env = pure (if t = true then x else y) := by
  unfold eIf; rw [h, pure_bind']
  cases t with
  | true => exact h1 rfl
  | false => exact h2 rfl
theorem ev_nil : aNil env = pure [] := rfl
theorem ev_cons (h1 : m env = pure x) (h2 : ms env = pure xs) : aCons m ms env = pure (x :: xs) := by unfold aCons; rw [h1, pure_bind', h2]; rfl
theorem ev_tup (h : ms env = pure xs) (hl : decide (xs.length ≤ sizeLine) = true) : eTup ms env = pure (.tup xs) := by unfold eTup; rw [h, pure_bind', guard_of hl]
theorem ev_lst (h : ms env = pure xs) (hl : decide (xs.length ≤ sizeLine) = true) : eLst ms env = pure (.lst xs) := by unfold eLst; rw [h, pure_bind', guard_of hl]
theorem ev_call (h : ms env = pure xs) (hl : (xs.length == nn) = true) (h2 : f xs = pure z) : eCall nn f ms env = pure z := by unfold eCall; rw [h, pure_bind', guard_of hl, h2]
theorem ev_callK {ix : List Nat} (h : ms env = pure xs) (hl : (xs.length == nn) = true) (h2 : f (permL ix xs) = pure z) : eCallK nn ix f ms env = pure z := by unfold eCallK; rw [h, pure_bind', guard_of hl, h2]
theorem ev_fld {c fl : Str} {fs : List (Str × D)} (h : mo env = pure (.obj c fs)) (h2 : fs.lookup fl = some y) : eFld c fl mo env = pure y := by
  unfold eFld; rw [h, pure_bind']
  show guardB (decide (c = c)) _ = _
  rw [guard_of (decide_eq_true rfl), h2]
theorem ev_meth {c mt : Str} {fs : List (Str × D)} (h : mo env = pure (.obj c fs)) (hn : fs.lookup mt = none) (h1 : ms env = pure xs) (hl : (xs.length + 1 == nn) = true) (h2 : f (.obj c fs :: xs) = pure z) : eMeth c mt nn f mo ms env = pure z := by
  unfold eMeth; rw [h, pure_bind']
  show guardB (decide (c = c) && (fs.lookup mt).isNone) _ = _
  rw [guard_of (by rw [hn, decide_eq_true rfl]; rfl), h1, pure_bind', guard_of hl, h2]
theorem ev_chain (h1 : ma env = pure x) (h2 : mb env = pure y) (h : g x y = pure (.bl t1)) (h3 : t1 = true → mc env = pure z) (h4 : t1 = true → g2 y z = pure (.bl t2)) : eChain g g2 ma mb mc env = pure (.bl (t1 && t2)) := by
  unfold eChain
  rw [h1, pure_bind', h2, pure_bind', h, pure_bind']
  cases t1 with
  | true =>
    show (mc env >>= fun w => g2 y w) = _
    rw [h3 rfl, pure_bind', h4 rfl]; rfl
  | false => rfl
theorem ev_sl (h : m env = pure x) (h1 : l env = pure lo) (h2 : h' env = pure hi) (h3 : dSl x lo hi = pure z) : eSl m l h' env = pure z := by
  unfold eSl; rw [h, pure_bind', h1, pure_bind', h2, pure_bind', h3]
theorem ev_oNone : oNone env = pure none := rfl
theorem ev_oSome (h : m env = pure (.int q)) : oSome m env = pure (some q) := by unfold oSome; rw [h]; rfl
theorem ev_iOn {fi : D → M (List D)} (h : m env = pure x) (h2 : fi x = pure xs) : iOn fi m env = pure xs := by unfold iOn; rw [h, pure_bind', h2]
theorem ev_iOns {fi : List D → M (List D)} (h : ms env = pure ys) (h2 : fi ys = pure xs) : iOns fi ms env = pure xs := by unfold iOns; rw [h, pure_bind', h2]
theorem ev_iRange (h : ms env = pure ys) (h2 : dRange ys = pure xs) : iRange ms env = pure xs := by unfold iRange; rw [h, pure_bind', h2]
theorem ev_lc {tg : Ev → D → Option Ev} {vs : List Nat} (h : ms env = pure ds) (h2 : lcGo (wipeE env vs) tg n m ds [] = pure ys) : eLc ms vs tg n m env = pure (.lst ys) := by
  unfold eLc; rw [h, pure_bind', h2]; rfl
theorem ev_dc {tg : Ev → D → Option Ev} {vs : List Nat} {kvs : List (Key × D)} (h : ms env = pure ds) (h2 : dcGo (wipeE env vs) tg n ma mb ds [] = pure kvs) : eDc ms vs tg n ma mb env = pure (.dic kvs) := by
  unfold eDc; rw [h, pure_bind', h2]; rfl
theorem ev_mk {c : Str} {nk : Nat} {f : List D → M (List (Str × D))} {fs : List (Str × D)} (h1 : ms env = pure xs) (h2 : mk env = pure ys) (hl : (xs.length == nn && ys.length == nk) = true) (h : f (xs ++ ys) = pure fs) : eMk c nn nk f ms mk env = pure (.obj c fs) := by
  unfold eMk; rw [h1, pure_bind', h2, pure_bind', guard_of hl, h]; rfl
theorem ev_zip (h : ms env = pure [.lst xs, .lst ys]) (hl : xs.length = ys.length) : aZip ms env = pure (.lst (tups2 xs ys)) := by
  unfold aZip; rw [h, pure_bind']
  show guardB (decide (xs.length = ys.length)) _ = _
  rw [guard_of (decide_eq_true hl)]
theorem st_seq (h : a env = pure (.nx e)) (h2 : b e = r) : cSeq a b env = r := by unfold cSeq; rw [h, pure_bind']; exact h2
theorem st_seqr (h : a env = pure (.ret x)) : cSeq a b env = pure (.ret x) := by unfold cSeq; rw [h]; rfl
theorem st_ret (h : m env = pure x) : cRet m env = pure (.ret x) := by unfold cRet; rw [h]; rfl
theorem st_set (h : m env = pure x) : cSet i m env = pure (.nx (env.set i (some x))) := by unfold cSet; rw [h]; rfl
theorem st_nx : cNx env = pure (.nx env) := rfl
theorem st_ift (h : n env = pure t) (ht : t = true) (h2 : a env = r) : cIf n a b env = r := by unfold cIf; rw [h, pure_bind', ht, if_pos rfl, h2]
theorem st_iff (h : n env = pure t) (ht : t = false) (h2 : b env = r) : cIf n a b env = r := by unfold cIf; rw [h, pure_bind', ht, if_neg (by decide), h2]
theorem st_par2 (h1 : ma env = pure x) (h2 : mb env = pure y) : cPar2 i j ma mb env = pure (.nx ((env.set i (some x)).set j (some y))) := by unfold cPar2; rw [h1, pure_bind', h2]; rfl
theorem st_app (h : m env = pure y) (h2 : env[i]? = some (some (.lst xs))) (hl : xs.length < sizeLine) : cApp i m env = pure (.nx (env.set i (some (.lst (xs ++ [y]))))) := by
  unfold cApp; rw [h, pure_bind', h2]
  show guardB _ _ = _
  rw [guard_of (decide_eq_true hl)]
theorem st_setL (h : m env = pure y) (h1 : ma env = pure (.int q)) (h2 : env[i]? = some (some (.lst xs))) (h3 : ixN xs.length q = some j) : cSetL i ma m env = pure (.nx (env.set i (some (.lst (xs.set j y))))) := by
  unfold cSetL; rw [h, pure_bind', h1, pure_bind', h2]
  show (match ixN xs.length q with
    | some j => pure (Ctl.nx (env.set i (some (.lst (xs.set j y)))))
    | none => bad) = _
  rw [h3]
theorem st_for {tg : Ev → D → Option Ev} (h : ms env = pure ds) (h2 : forGo tg b ds env = r) : cFor ms tg b env = r := by unfold cFor; rw [h, pure_bind', h2]
theorem def_ret (h : a (ds.map some ++ List.replicate (nn - ds.length) none) = pure (.ret x)) : defM nn a ds = pure x := by unfold defM; rw [h]; rfl
theorem def_nx (h : a (ds.map some ++ List.replicate (nn - ds.length) none) = pure (.nx e)) : defM nn a ds = pure .non := by unfold defM; rw [h]; rfl
theorem in_if {rr : Ev → List (Str × D) → M (List (Str × D))} {fs : List (Str × D)} {rs : M (List (Str × D))} (h : n env = pure t) (ht : t = false) (h2 : rr env fs = rs) : nIf n rr env fs = rs := by unfold nIf; rw [h, pure_bind', ht, if_neg (by decide), h2]
theorem in_fld {fl : Str} {rr : Ev → List (Str × D) → M (List (Str × D))} {fs : List (Str × D)} {rs : M (List (Str × D))} (h : m env = pure y) (hl : decide (fs.length < 1000) = true) (h2 : rr env (putFD fl y fs) = rs) : nFld fl m rr env fs = rs := by unfold nFld; rw [h, pure_bind', guard_of hl, h2]
end
theorem lc_map {e0 : Ev} {tg : Ev → D → Option Ev} {n : Ev → M Bool} {me : Ev → M D} {f : D → D} : ∀ (xs acc : List D), (∀ x ∈ xs, ∃ e, tg e0 x = some e ∧ n e = pure true ∧ me e = pure (f x)) → acc.length + xs.length ≤ sizeLine → lcGo e0 tg n me xs acc = pure (acc ++ xs.map f)
  | [], acc, _, _ => by rw [List.map_nil, List.append_nil]; rfl
  | x :: xs, acc, h, hl => by
    obtain ⟨e, h1, h2, h3⟩ := h x (List.mem_cons_self ..)
    rw [List.length_cons] at hl
    simp only [lcGo, h1, h2, h3, pure_bind', if_true]
    rw [guard_of (decide_eq_true (by omega)), lc_map xs (acc ++ [f x]) (fun y hy => h y (List.mem_cons_of_mem _ hy)) (by rw [List.length_append, List.length_singleton]; omega)]
    rw [List.append_assoc, List.map_cons]; rfl
end Mir
end
section
set_option maxHeartbeats 400000
namespace Cm
open PySem PySem.Spec PyProof.Rows L2 Mir
noncomputable section
def b_is_name : Ev → M Ctl := (cRet (eAnd (eUn (dIsi isStr) (eVar 0)) (eAnd (eChain dLe dLe (eC (.int 1)) (eUn dLen (eVar 0)) (eC (.int 8))) (eUn dAll (eLc (iOn dIt (eVar 0)) [1] (gN 1) nYes (eBin (dIn false) (eVar 1) (eC (.str "abcdefghijklmnopqrstuvwxyz"))))))))
def m_is_name : List D → M D := defM 2 b_is_name
def b_is_whole : Ev → M Ctl := (cRet (eAnd (eUn (dIsi isInt) (eVar 0)) (eNot (eUn (dIsi isBl) (eVar 0)))))
def m_is_whole : List D → M D := defM 1 b_is_whole
def b_is_from : Ev → M Ctl := (cRet (eAnd (eCall 1 m_is_whole (aCons (eVar 0) aNil)) (eChain dLe dLe (eVar 1) (eVar 0) (eVar 2))))
def m_is_from : List D → M D := defM 3 b_is_from
def b_are_names : Ev → M Ctl := (cSeq (cIf (tOr' (tNot' (tB' (eUn (dIsi fun x => isLst x || isTup x) (eVar 0)))) (tNot' (tB' (eChain dLe dLe (eC (.int 1)) (eUn dLen (eVar 0)) (eVar 1))))) (cRet (eC (.bl false))) cNx) (cRet (eAnd (eUn dAll (eLc (iOn dIt (eVar 0)) [2] (gN 2) nYes (eCall 1 m_is_name (aCons (eVar 2) aNil)))) (eBin dEq (eUn dLen (eDc (iOn dIt (eVar 0)) [2] (gN 2) nYes (eVar 2) (eC (.bl true)))) (eUn dLen (eVar 0))))))
def m_are_names : List D → M D := defM 3 b_are_names
def b_is_beam : Ev → M Ctl := (cSeq (cIf (tOr' (tNot' (tB' (eUn (dIsi isTup) (eVar 0)))) (tOr' (tB' (eBin dNe (eUn dLen (eVar 0)) (eC (.int 2)))) (tNot' (tB' (eCall 1 m_is_name (aCons (eBin dAt (eVar 0) (eC (.int 0))) aNil)))))) (cRet (eC (.bl false))) cNx) (cRet (eAnd (eCall 3 m_is_from (aCons (eBin dAt (eVar 0) (eC (.int 1))) (aCons (eNeg (eC (.int 5))) (aCons (eC (.int 5)) aNil)))) (eBin dNe (eBin dAt (eVar 0) (eC (.int 1))) (eC (.int 0))))))
def m_is_beam : List D → M D := defM 1 b_is_beam
def b_are_beams : Ev → M Ctl := (cSeq (cIf (tOr' (tNot' (tB' (eUn (dIsi fun x => isLst x || isTup x) (eVar 0)))) (tNot' (tB' (eUn dAll (eLc (iOn dIt (eVar 0)) [1] (gN 1) nYes (eCall 1 m_is_beam (aCons (eVar 1) aNil))))))) (cRet (eC (.bl false))) cNx) (cRet (eCall 2 m_are_names (aCons (eLc (iOn dIt (eVar 0)) [1] (gN 1) nYes (eBin dAt (eVar 1) (eC (.int 0)))) (aCons (eC (.int 3)) aNil)))))
def m_are_beams : List D → M D := defM 2 b_are_beams
def b_tuples_of : Ev → M Ctl := (cSeq (cSet 2 (eC (.int 1))) (cSeq (cFor (iRange (aCons (eVar 1) aNil)) (gN 3) (cSet 2 (eBin dMul (eVar 2) (eBin dAdd (eBin dMul (eC (.int 2)) (eVar 0)) (eC (.int 1)))))) (cRet (eVar 2))))
def m_tuples_of : List D → M D := defM 4 b_tuples_of
def b_Yard_init : Ev → List (Str × D) → M (List (Str × D)) := (nIf (tOr' (tNot' (tB' (eCall 2 m_are_names (aCons (eVar 1) (aCons (eC (.int 8)) aNil))))) (tNot' (tB' (eCall 1 m_are_beams (aCons (eVar 2) aNil))))) (nIf (tOr' (tNot' (tB' (eCall 3 m_is_from (aCons (eVar 3) (aCons (eC (.int 1)) (aCons (eC (.int 100)) aNil)))))) (tNot' (tB' (eCall 3 m_is_from (aCons (eVar 4) (aCons (eC (.int 0)) (aCons (eC (.int 9)) aNil))))))) (nIf (tB' (eBin dGt (eCall 2 m_tuples_of (aCons (eVar 4) (aCons (eUn dLen (eVar 2)) aNil))) (eC (.int 400)))) (nFld "thing_names" (eUn dTupleP (eVar 1)) (nFld "beam_steps" (eUn dTupleP (eVar 2)) (nFld "heaviest" (eVar 3) (nFld "farthest" (eVar 4) nNil)))))))
def m_Yard_init : List D → M (List (Str × D)) := initM 5 b_Yard_init
def b_Yard_things : Ev → M Ctl := (cRet (eUn dList (eFld "Yard" "thing_names" (eVar 0))))
def m_Yard_things : List D → M D := defM 1 b_Yard_things
def b_Yard_beams : Ev → M Ctl := (cRet (eUn dList (eFld "Yard" "beam_steps" (eVar 0))))
def m_Yard_beams : List D → M D := defM 1 b_Yard_beams
def b_pans : Ev → M Ctl := (cRet (eBin dAdd (eLst (aCons (eC .non) aNil)) (eMeth "Yard" "things" 1 m_Yard_things (eVar 0) aNil)))
def m_pans : List D → M D := defM 1 b_pans
def b_need_pan : Ev → M Ctl := (cIf (tAnd' (tB' (eBin (dIsN true) (eVar 1) (eC .non))) (tOr' (tNot' (tB' (eUn (dIsi isStr) (eVar 1)))) (tB' (eBin dNin (eVar 1) (eMeth "Yard" "things" 1 m_Yard_things (eVar 0) aNil))))) cNever cNx)
def m_need_pan : List D → M D := defM 2 b_need_pan
def b_need_beam : Ev → M Ctl := (cIf (tOr' (tNot' (tB' (eUn (dIsi isStr) (eVar 1)))) (tB' (eBin dNin (eVar 1) (eLc (iOn dIt (eMeth "Yard" "beams" 1 m_Yard_beams (eVar 0) aNil)) [2, 3] (gT (gsCons (gN 2) (gsCons (gN 3) gsNil))) nYes (eVar 2))))) cNever cNx)
def m_need_beam : List D → M D := defM 4 b_need_beam
def by_need_pan : Ev → MY Ctl := (yIf (tAnd' (tB' (eBin (dIsN true) (eVar 1) (eC .non))) (tOr' (tNot' (tB' (eUn (dIsi isStr) (eVar 1)))) (tB' (eBin dNin (eVar 1) (eMeth "Yard" "things" 1 m_Yard_things (eVar 0) aNil))))) (yRaise "NoPan" "pan" (eVar 1)) yNx)
def my_need_pan : List D → MY D := defY 2 by_need_pan
def by_need_beam : Ev → MY Ctl := (yIf (tOr' (tNot' (tB' (eUn (dIsi isStr) (eVar 1)))) (tB' (eBin dNin (eVar 1) (eLc (iOn dIt (eMeth "Yard" "beams" 1 m_Yard_beams (eVar 0) aNil)) [2, 3] (gT (gsCons (gN 2) (gsCons (gN 3) gsNil))) nYes (eVar 2))))) (yRaise "NoBeam" "beam" (eVar 1)) yNx)
def my_need_beam : List D → MY D := defY 4 by_need_beam
def b_are_parts : Ev → M Ctl := (cSeq (cTryR ["NoPan", "NoBeam"] (ySeq (yDrop (yCall 2 my_need_beam (aCons (eVar 0) (aCons (eVar 1) aNil)))) (ySeq (yDrop (yCall 2 my_need_pan (aCons (eVar 0) (aCons (eVar 2) aNil)))) (yDrop (yCall 2 my_need_pan (aCons (eVar 0) (aCons (eVar 3) aNil)))))) (.bl false)) (cRet (eOr (eBin (dIsN false) (eVar 2) (eC .non)) (eBin dNe (eVar 2) (eVar 3)))))
def m_are_parts : List D → M D := defM 4 b_are_parts
def b_is_weighing : Ev → M Ctl := (cRet (eAnd (eUn (dIsi isTup) (eVar 1)) (eAnd (eBin dEq (eUn dLen (eVar 1)) (eC (.int 3))) (eCall 4 m_are_parts (aCons (eVar 0) (aCons (eBin dAt (eVar 1) (eC (.int 0))) (aCons (eBin dAt (eVar 1) (eC (.int 1))) (aCons (eBin dAt (eVar 1) (eC (.int 2))) aNil))))))))
def m_is_weighing : List D → M D := defM 2 b_is_weighing
def b_is_row : Ev → M Ctl := (cSeq (cIf (tOr' (tNot' (tB' (eUn (dIsi isTup) (eVar 1)))) (tOr' (tB' (eBin dNe (eUn dLen (eVar 1)) (eC (.int 4)))) (tNot' (tB' (eCall 4 m_are_parts (aCons (eVar 0) (aCons (eBin dAt (eVar 1) (eC (.int 0))) (aCons (eBin dAt (eVar 1) (eC (.int 1))) (aCons (eBin dAt (eVar 1) (eC (.int 2))) aNil))))))))) (cRet (eC (.bl false))) cNx) (cRet (eAnd (eUn (dIsi isStr) (eBin dAt (eVar 1) (eC (.int 3)))) (eBin (dIn false) (eBin dAt (eVar 1) (eC (.int 3))) (eC (.rot [(.str "left"), (.str "even"), (.str "right")]))))))
def m_is_row : List D → M D := defM 2 b_is_row
def b_need_log : Ev → M Ctl := (cSeq (cIf (tNot' (tB' (eUn (dIsi fun x => isLst x || isTup x) (eVar 1)))) cNever cNx) (cFor (iOns dEnum (aCons (eVar 1) aNil)) (gT (gsCons (gN 2) (gsCons (gN 3) gsNil))) (cIf (tNot' (tB' (eCall 2 m_is_row (aCons (eVar 0) (aCons (eVar 3) aNil))))) cNever cNx)))
def m_need_log : List D → M D := defM 4 b_need_log
def by_need_log : Ev → MY Ctl := (ySeq (yIf (tNot' (tB' (eUn (dIsi fun x => isLst x || isTup x) (eVar 1)))) (yRaise "NoRow" "at" (eC (.int 0))) yNx) (yFor (iOns dEnum (aCons (eVar 1) aNil)) (gT (gsCons (gN 2) (gsCons (gN 3) gsNil))) (yIf (tNot' (tB' (eCall 2 m_is_row (aCons (eVar 0) (aCons (eVar 3) aNil))))) (yRaise "NoRow" "at" (eVar 2)) yNx)))
def my_need_log : List D → MY D := defY 4 by_need_log
def b_weighings_at : Ev → M Ctl := (cSeq (cSet 2 (eLst aNil)) (cSeq (cFor (iOn dIt (eCall 1 m_pans (aCons (eVar 0) aNil))) (gN 3) (cExt 2 (eLc (iOn dIt (eCall 1 m_pans (aCons (eVar 0) aNil))) [4] (gN 4) (tOr' (tB' (eBin (dIsN false) (eVar 3) (eC .non))) (tB' (eBin dNe (eVar 3) (eVar 4)))) (eTup (aCons (eVar 1) (aCons (eVar 3) (aCons (eVar 4) aNil))))))) (cRet (eVar 2))))
def m_weighings_at : List D → M D := defM 5 b_weighings_at
def b_weighings : Ev → M Ctl := (cSeq (cSet 1 (eLst aNil)) (cSeq (cFor (iOn dIt (eMeth "Yard" "beams" 1 m_Yard_beams (eVar 0) aNil)) (gT (gsCons (gN 2) (gsCons (gN 3) gsNil))) (cExt 1 (eCall 2 m_weighings_at (aCons (eVar 0) (aCons (eVar 2) aNil))))) (cRet (eVar 1))))
def m_weighings : List D → M D := defM 4 b_weighings
def b__law_next : Ev → M Ctl := (cSeq (cWhile (tAnd' (tB' (eBin dEq (eSt 0 fun d => .int d.dg) (eC (.int 0)))) (tB' (eSt 0 fun d => .bl (!decide (d.gr = []))))) (cStPop 0)) (cSeq (cIf (tB' (eBin dGt (eSt 0 fun d => .int d.dg) (eC (.int 0)))) (cSeq (cSet 2 (eBin dMod (eSt 0 fun d => .int d.dg) (eVar 1))) (cSeq (cStDg 0 (eBin dDiv (eSt 0 fun d => .int d.dg) (eVar 1))) (cRet (eVar 2)))) cNx) (cSeq (cStTn 0) (cSeq (cSet 3 (eSt 0 fun d => .int d.tn)) (cSeq (cSet 4 (eC (.int 0))) (cSeq (cIf (tB' (eSt 0 fun d => .bl (!decide (d.ce = [])))) (cSet 4 (eStCe 0 (eBin dMod (eVar 3) (eSt 0 fun d => .int d.ce.length)))) cNx) (cSeq (cSet 5 (eBin dMod (eBin dPow (eBin dAdd (eBin dMod (eVar 4) (eC (.int 2147483629))) (eBin dMul (eC (.int 40009)) (eVar 3))) (eC (.int 3))) (eC (.int 2147483647)))) (cRet (eBin dMod (eBin dDiv (eBin dMod (eBin dPow (eBin dAdd (eVar 5) (eBin dMul (eC (.int 104729)) (eVar 3))) (eC (.int 5))) (eC (.int 2147483629))) (eC (.int 11))) (eVar 1))))))))))
def m__law_next : List D → M D := defM 6 b__law_next
def b__law_pick : Ev → M Ctl := (cRet (eBin dAt (eVar 1) (eCall 2 m__law_next (aCons (eVar 0) (aCons (eUn dLen (eVar 1)) aNil)))))
def m__law_pick : List D → M D := defM 2 b__law_pick
def b__law_names : Ev → M Ctl := (cSeq (cSet 2 (eC (.str "abcdefghijklmnopqrstuvwxyz"))) (cSeq (cSet 3 (eLc (iRange (aCons (eBin dAdd (eC (.int 1)) (eCall 2 m__law_next (aCons (eVar 0) (aCons (eC (.int 8)) aNil)))) aNil)) [4] (gN 4) nYes (eCall 2 m__law_pick (aCons (eVar 0) (aCons (eVar 2) aNil))))) (cSeq (cSet 5 (eCall 2 m__law_next (aCons (eVar 0) (aCons (eUn dLen (eVar 3)) aNil)))) (cSeq (cPar2 6 7 (eCall 2 m__law_next (aCons (eVar 0) (aCons (eC (.int 26)) aNil))) (eCall 2 m__law_pick (aCons (eVar 0) (aCons (eLst (aCons (eC (.int 1)) (aCons (eC (.int 3)) (aCons (eC (.int 5)) (aCons (eC (.int 7)) (aCons (eC (.int 9)) (aCons (eC (.int 11)) aNil))))))) aNil)))) (cSeq (cSet 8 (eLst aNil)) (cSeq (cFor (iRange (aCons (eVar 1) aNil)) (gN 4) (cSeq (cSetL 3 (eVar 5) (eBin dAt (eVar 2) (eBin dMod (eBin dAdd (eVar 6) (eBin dMul (eVar 7) (eVar 4))) (eC (.int 26))))) (cApp 8 (eBin dJoin (eC (.str "")) (eVar 3))))) (cRet (eVar 8))))))))
def m__law_names : List D → M D := defM 9 b__law_names
def b__law_row : Ev → M Ctl := (cSeq (cSet 5 (eCall 2 m__law_names (aCons (eVar 0) (aCons (eBin dAdd (eC (.int 1)) (eCall 2 m__law_next (aCons (eVar 0) (aCons (eVar 2) aNil)))) aNil)))) (cSeq (cSet 6 (eBin dAdd (eC (.int 1)) (eCall 2 m__law_next (aCons (eVar 0) (aCons (eVar 1) aNil))))) (cSeq (cSet 7 (eLc (iRange (aCons (eVar 6) aNil)) [8] (gN 8) nYes (eCall 2 m__law_pick (aCons (eVar 0) (aCons (eLst (aCons (eC (.int 1)) (aCons (eC (.int 2)) (aCons (eC (.int 3)) (aCons (eNeg (eC (.int 1))) (aCons (eC (.int 5)) (aCons (eNeg (eC (.int 2))) (aCons (eC (.int 4)) (aCons (eNeg (eC (.int 5))) (aCons (eNeg (eC (.int 3))) (aCons (eNeg (eC (.int 4))) aNil))))))))))) aNil))))) (cSeq (cSet 9 (eCall 2 m__law_names (aCons (eVar 0) (aCons (eVar 6) aNil)))) (cSeq (cIf (tAnd' (tB' (eBin dEq (eCall 2 m__law_next (aCons (eVar 0) (aCons (eC (.int 3)) aNil))) (eC (.int 0)))) (tB' (eBin dGe (eUn dLen (eVar 5)) (eVar 6)))) (cSet 9 (eSl (eUn dRev (eVar 5)) oNone (oSome (eVar 6)))) cNx) (cSeq (cSet 10 (aZip (aCons (eVar 9) (aCons (eVar 7) aNil)))) (cRet (eTup (aCons (eVar 5) (aCons (eVar 10) (aCons (eBin dAdd (eC (.int 1)) (eCall 2 m__law_next (aCons (eVar 0) (aCons (eVar 3) aNil)))) (aCons (eCall 2 m__law_next (aCons (eVar 0) (aCons (eBin dAdd (eC (.int 1)) (eBin dMin (eVar 4) (eBin dAt (eLst (aCons (eC (.int 9)) (aCons (eC (.int 9)) (aCons (eC (.int 3)) aNil)))) (eBin dSub (eVar 6) (eC (.int 1)))))) aNil))) aNil))))))))))))
def m__law_row : List D → M D := defM 11 b__law_row
def b__law_weighing : Ev → M Ctl := (cSeq (cSet 2 (eCall 2 m__law_pick (aCons (eVar 0) (aCons (eBin dAdd (eLst (aCons (eC .non) aNil)) (eBin dAt (eVar 1) (eC (.int 0)))) aNil)))) (cSeq (cSet 3 (eLc (iOn dIt (eBin dAdd (eLst (aCons (eC .non) aNil)) (eBin dAt (eVar 1) (eC (.int 0))))) [4] (gN 4) (tOr' (tB' (eBin (dIsN false) (eVar 4) (eC .non))) (tB' (eBin dNe (eVar 4) (eVar 2)))) (eVar 4))) (cRet (eTup (aCons (eBin dAt (eCall 2 m__law_pick (aCons (eVar 0) (aCons (eBin dAt (eVar 1) (eC (.int 1))) aNil))) (eC (.int 0))) (aCons (eVar 2) (aCons (eCall 2 m__law_pick (aCons (eVar 0) (aCons (eVar 3) aNil))) aNil)))))))
def m__law_weighing : List D → M D := defM 5 b__law_weighing
def b__law_is_parts : Ev → M Ctl := (cSeq (cSet 2 (eBin dAdd (eLst (aCons (eC .non) aNil)) (eBin dAt (eVar 0) (eC (.int 0))))) (cSeq (cFor (iOn dIt (eVar 1)) (gN 3) (cIf (tAnd' (tB' (eBin (dIsN true) (eVar 3) (eC .non))) (tNot' (tB' (eUn (dIsi isStr) (eVar 3))))) (cRet (eC (.bl false))) cNx)) (cSeq (cIf (tOr' (tB' (eBin dNin (eBin dAt (eVar 1) (eC (.int 0))) (eLc (iOn dIt (eBin dAt (eVar 0) (eC (.int 1)))) [4] (gN 4) nYes (eBin dAt (eVar 4) (eC (.int 0)))))) (tOr' (tB' (eBin dNin (eBin dAt (eVar 1) (eC (.int 1))) (eVar 2))) (tB' (eBin dNin (eBin dAt (eVar 1) (eC (.int 2))) (eVar 2))))) (cRet (eC (.bl false))) cNx) (cRet (eOr (eBin (dIsN false) (eBin dAt (eVar 1) (eC (.int 1))) (eC .non)) (eBin dNe (eBin dAt (eVar 1) (eC (.int 1))) (eBin dAt (eVar 1) (eC (.int 2)))))))))
def m__law_is_parts : List D → M D := defM 5 b__law_is_parts
def b__law_is_weighing : Ev → M Ctl := (cRet (eAnd (eUn (dIsi isTup) (eVar 1)) (eAnd (eBin dEq (eUn dLen (eVar 1)) (eC (.int 3))) (eCall 2 m__law_is_parts (aCons (eVar 0) (aCons (eVar 1) aNil))))))
def m__law_is_weighing : List D → M D := defM 2 b__law_is_weighing
def b__law_is_row : Ev → M Ctl := (cSeq (cIf (tOr' (tNot' (tB' (eUn (dIsi isTup) (eVar 1)))) (tOr' (tB' (eBin dNe (eUn dLen (eVar 1)) (eC (.int 4)))) (tNot' (tB' (eCall 2 m__law_is_parts (aCons (eVar 0) (aCons (eSl (eVar 1) oNone (oSome (eC (.int 3)))) aNil))))))) (cRet (eC (.bl false))) cNx) (cRet (eAnd (eUn (dIsi isStr) (eBin dAt (eVar 1) (eC (.int 3)))) (eBin (dIn false) (eBin dAt (eVar 1) (eC (.int 3))) (eLst (aCons (eC (.str "left")) (aCons (eC (.str "even")) (aCons (eC (.str "right")) aNil))))))))
def m__law_is_row : List D → M D := defM 2 b__law_is_row
def b__law_odd : Ev → M Ctl := (cSeq (cPar2 3 4 (eCall 2 m__law_next (aCons (eVar 0) (aCons (eC (.int 8)) aNil))) (eCall 2 m__law_next (aCons (eVar 0) (aCons (eUn dLen (eVar 2)) aNil)))) (cSeq (cPar2 5 6 (eLc (iOn dIt (eBin dAt (eVar 1) (eC (.int 1)))) [7] (gN 7) nYes (eBin dAt (eVar 7) (eC (.int 0)))) (eBin dAdd (eLst (aCons (eC .non) aNil)) (eBin dAt (eVar 1) (eC (.int 0))))) (cSeq (cSet 8 (eLst (aCons (eC .non) (aCons (eC (.str "")) (aCons (eC (.str "qqqqqqqq")) (aCons (eC (.int 5)) (aCons (eC (.bl true)) (aCons (eLst (aCons (eC (.str "a")) aNil)) (aCons (eTup (aCons (eC (.str "a")) aNil)) (aCons (eC (.dic [])) (aCons (eBin dAt (eVar 5) (eC (.int 0))) (aCons (eBin dAt (eBin dAt (eVar 1) (eC (.int 0))) (eC (.int 0))) (aCons (eC (.str "left")) (aCons (eC (.str "even")) (aCons (eC (.str "lefts")) (aCons (eC (.str "-")) (aCons (eC (.int 0)) aNil))))))))))))))))) (cSeq (cIf (tB' (eBin dLt (eVar 3) (eC (.int 4)))) (cRet (eBin dAdd (eBin dAdd (eSl (eVar 2) oNone (oSome (eVar 4))) (eTup (aCons (eCall 2 m__law_pick (aCons (eVar 0) (aCons (eVar 8) aNil))) aNil))) (eSl (eVar 2) (oSome (eBin dAdd (eVar 4) (eC (.int 1)))) oNone))) cNx) (cSeq (cIf (tB' (eBin dEq (eVar 3) (eC (.int 4)))) (cRet (eBin dAdd (eBin dAdd (eSl (eVar 2) oNone (oSome (eC (.int 1)))) (eTup (aCons (eBin dAt (eVar 2) (eC (.int 1))) (aCons (eBin dAt (eVar 2) (eC (.int 1))) aNil)))) (eSl (eVar 2) (oSome (eC (.int 3))) oNone))) cNx) (cSeq (cIf (tB' (eBin dEq (eVar 3) (eC (.int 5)))) (cRet (eBin dAdd (eBin dAdd (eSl (eVar 2) oNone (oSome (eC (.int 2)))) (eTup (aCons (eCall 2 m__law_pick (aCons (eVar 0) (aCons (eVar 6) aNil))) aNil))) (eSl (eVar 2) (oSome (eC (.int 3))) oNone))) cNx) (cSeq (cSet 9 (eLst (aCons (eUn dList (eVar 2)) (aCons (eSl (eVar 2) oNone (oSome (eNeg (eC (.int 1))))) (aCons (eBin dAdd (eVar 2) (eTup (aCons (eC .non) aNil))) (aCons (eBin dAdd (eVar 2) (eTup (aCons (eC (.str "left")) aNil))) (aCons (eTup aNil) (aCons (eC .non) (aCons (eC (.str "abc")) (aCons (eC (.int 5)) (aCons (eC (.dic [])) (aCons (eTup (aCons (eVar 2) aNil)) (aCons (eUn dRevT (eVar 2)) (aCons (eC (.bl true)) aNil)))))))))))))) (cRet (eCall 2 m__law_pick (aCons (eVar 0) (aCons (eBin dAdd (eVar 9) (eLst (aCons (eBin dAdd (eSl (eVar 2) oNone (oSome (eC (.int 3)))) (eTup (aCons (eC (.str "LEFT")) aNil))) (aCons (eTup (aCons (eSl (eVar 2) oNone (oSome (eC (.int 1)))) (aCons (eSl (eVar 2) (oSome (eC (.int 1))) oNone) aNil))) aNil)))) aNil)))))))))))
def m__law_odd : List D → M D := defM 10 b__law_odd
def b__law_item : Ev → M Ctl := (cSeq (cSet 2 (eCall 2 m__law_weighing (aCons (eVar 0) (aCons (eVar 1) aNil)))) (cSeq (cIf (tB' (eBin dEq (eCall 2 m__law_next (aCons (eVar 0) (aCons (eC (.int 2)) aNil))) (eC (.int 0)))) (cSet 2 (eBin dAdd (eVar 2) (eTup (aCons (eCall 2 m__law_pick (aCons (eVar 0) (aCons (eLst (aCons (eC (.str "left")) (aCons (eC (.str "even")) (aCons (eC (.str "right")) aNil)))) aNil))) aNil)))) cNx) (cRet (eIf (tB' (eBin dEq (eCall 2 m__law_next (aCons (eVar 0) (aCons (eC (.int 2)) aNil))) (eC (.int 0)))) (eVar 2) (eCall 3 m__law_odd (aCons (eVar 0) (aCons (eVar 1) (aCons (eVar 2) aNil))))))))
def m__law_item : List D → M D := defM 3 b__law_item
def b__law_all : Ev → M Ctl := (cSeq (cPar2 1 2 (eLst aNil) (eBin dAdd (eLst (aCons (eC .non) aNil)) (eBin dAt (eVar 0) (eC (.int 0))))) (cSeq (cFor (iOn dIt (eBin dAt (eVar 0) (eC (.int 1)))) (gT (gsCons (gN 3) (gsCons (gN 4) gsNil))) (cFor (iOn dIt (eVar 2)) (gN 5) (cFor (iOn dIt (eVar 2)) (gN 6) (cIf (tOr' (tB' (eBin (dIsN false) (eVar 5) (eC .non))) (tB' (eBin dNe (eVar 5) (eVar 6)))) (cApp 1 (eTup (aCons (eVar 3) (aCons (eVar 5) (aCons (eVar 6) aNil))))) cNx)))) (cRet (eVar 1))))
def m__law_all : List D → M D := defM 7 b__law_all
def b__law_refusedC (lm : LMYs) : Ev → M Ctl := (cSeq (cSet 1 (eC .non)) (cSeq (cTry 1 2 ["NoRow", "NoPan", "NoBeam"] (yCallV 0 lm)) (cSeq (cIf (tB' (eBin (dIsN false) (eVar 1) (eC .non))) (cRet (eC .non)) cNx) (cSeq (cIf (tOr' (tNot' (tB' (eUn (dIsX [("NoRow", true), ("NoPan", false), ("NoBeam", false)]) (eVar 1)))) (tOr' (tB' (eUn (dIsX [("NoRow", false), ("NoPan", true), ("NoBeam", true)]) (eVar 1))) (tB' (eUn (dIsi isBl) (eXf "NoRow" "at" (eVar 1)))))) (cRet (eC (.str "other"))) cNx) (cRet (eXf "NoRow" "at" (eVar 1)))))))
def m__law_refusedC (lm : LMYs) : List D → M D := defM 3 (b__law_refusedC lm)
def by_law_0 : Ev → MY D := (yCall 2 my_need_log (aCons (eVar 0) (aCons (eVar 1) aNil)))
def my_law_0 : List D → MY D := lamY 2 by_law_0
def by_law_1 : Ev → MY D := (yCallK 2 [1, 0] my_need_log (aCons (eVar 0) (aCons (eVar 1) aNil)))
def my_law_1 : List D → MY D := lamY 2 by_law_1
def b_law : Ev → M Ctl := (cSeq (cSet 2 (eCall 5 m__law_row (aCons (eVar 1) (aCons (eC (.int 3)) (aCons (eC (.int 8)) (aCons (eC (.int 100)) (aCons (eC (.int 9)) aNil))))))) (cSeq (cSet 3 (eMk "Yard" 2 2 m_Yard_init (aCons (eBin dAt (eVar 2) (eC (.int 0))) (aCons (eBin dAt (eVar 2) (eC (.int 1))) aNil)) (aCons (eBin dAt (eVar 2) (eC (.int 2))) (aCons (eBin dAt (eVar 2) (eC (.int 3))) aNil)))) (cSeq (cFor (iRange (aCons (eC (.int 10)) aNil)) (gN 4) (cSeq (cSet 5 (eCall 2 m__law_item (aCons (eVar 1) (aCons (eVar 2) aNil)))) (cSeq (cSet 6 (eUn dRepr (eVar 5))) (cSeq (cSet 7 (eLst (aCons (eCall 2 m_is_weighing (aCons (eVar 3) (aCons (eVar 5) aNil))) (aCons (eCall 2 m_is_row (aCons (eVar 3) (aCons (eVar 5) aNil))) aNil)))) (cSeq (cSet 7 (eBin dAdd (eVar 7) (eLst (aCons (eCallK 2 [1, 0] m_is_weighing (aCons (eVar 5) (aCons (eVar 3) aNil))) (aCons (eCallK 2 [1, 0] m_is_row (aCons (eVar 5) (aCons (eVar 3) aNil))) aNil))))) (cSeq (cSet 8 (eLst (aCons (eCall 2 m__law_is_weighing (aCons (eVar 2) (aCons (eVar 5) aNil))) (aCons (eCall 2 m__law_is_row (aCons (eVar 2) (aCons (eVar 5) aNil))) aNil)))) (cIf (tOr' (tB' (eBin dNe (eUn dRepr (eVar 7)) (eUn dRepr (eBin dAdd (eVar 8) (eVar 8))))) (tB' (eBin dNe (eUn dRepr (eVar 5)) (eVar 6)))) (cRet (eC (.bl false))) cNx))))))) (cSeq (cSet 9 (eLst aNil)) (cSeq (cFor (iRange (aCons (eCall 2 m__law_next (aCons (eVar 1) (aCons (eC (.int 9)) aNil))) aNil)) (gN 4) (cApp 9 (eBin dAdd (eCall 2 m__law_weighing (aCons (eVar 1) (aCons (eVar 2) aNil))) (eTup (aCons (eCall 2 m__law_pick (aCons (eVar 1) (aCons (eLst (aCons (eC (.str "left")) (aCons (eC (.str "even")) (aCons (eC (.str "right")) aNil)))) aNil))) aNil))))) (cSeq (cFor (iRange (aCons (eCall 2 m__law_next (aCons (eVar 1) (aCons (eC (.int 4)) aNil))) aNil)) (gN 4) (cSeq (cSet 10 (eCall 2 m__law_next (aCons (eVar 1) (aCons (eBin dAdd (eUn dLen (eVar 9)) (eC (.int 1))) aNil)))) (cInsA 9 (aCons (eVar 10) (aCons (eCall 2 m__law_item (aCons (eVar 1) (aCons (eVar 2) aNil))) aNil))))) (cSeq (cSet 11 (eLc (iRange (aCons (eUn dLen (eVar 9)) aNil)) [10] (gN 10) (tNot' (tB' (eCall 2 m__law_is_row (aCons (eVar 2) (aCons (eBin dAt (eVar 9) (eVar 10)) aNil))))) (eVar 10))) (cSeq (cSet 8 (eIf (tB' (eBin dNe (eVar 11) (eLst aNil))) (eBin dAt (eVar 11) (eC (.int 0))) (eC .non))) (cSeq (cSet 12 (eBin dAt (eLst (aCons (eVar 9) (aCons (eUn dTuple (eVar 9)) aNil))) (eCall 2 m__law_next (aCons (eVar 1) (aCons (eC (.int 2)) aNil))))) (cSeq (cIf (tAnd' (tB' (eBin dEq (eVar 11) (eLst aNil))) (tB' (eBin dEq (eCall 2 m__law_next (aCons (eVar 1) (aCons (eC (.int 3)) aNil))) (eC (.int 0))))) (cAsg (gT (gsCons (gN 12) (gsCons (gN 8) gsNil))) (eTup (aCons (eCall 2 m__law_pick (aCons (eVar 1) (aCons (eLst (aCons (eC .non) (aCons (eC (.int 5)) (aCons (eC (.str "abcd")) (aCons (eC (.dic [])) (aCons (eC (.bl true)) (aCons (eDisp (pCons (eC (.str "a")) (eC (.int 1)) pNil)) aNil))))))) aNil))) (aCons (eC (.int 0)) aNil)))) cNx) (cSeq (cSet 6 (eUn dRepr (eVar 12))) (cSeq (cSet 13 (eLst (aCons (eCallC 1 (m__law_refusedC (lmY1 "law_0" my_law_0)) "law_0" [3, 12] aNil) aNil))) (cSeq (cApp 13 (eCallC 1 (m__law_refusedC (lmY1 "law_1" my_law_1)) "law_1" [12, 3] aNil)) (cSeq (cIf (tOr' (tB' (eBin dNe (eUn dRepr (eVar 13)) (eUn dRepr (eLst (aCons (eVar 8) (aCons (eVar 8) aNil)))))) (tB' (eBin dNe (eUn dRepr (eVar 12)) (eVar 6)))) (cRet (eC (.bl false))) cNx) (cSeq (cSet 7 (eCall 1 m_weighings (aCons (eVar 3) aNil))) (cSeq (cIf (tB' (eBin dNe (eUn dRepr (eVar 7)) (eUn dRepr (eCall 1 m__law_all (aCons (eVar 2) aNil))))) (cRet (eC (.bl false))) cNx) (cSeq (cClrL 7) (cRet (eAnd (eBin dEq (eUn dRepr (eCallK 1 [0] m_weighings (aCons (eVar 3) aNil))) (eUn dRepr (eCall 1 m__law_all (aCons (eVar 2) aNil)))) (eOr (eBin (dIsN true) (eVar 8) (eC .non)) (eBin (dIsN false) (eCall 2 m_need_log (aCons (eVar 3) (aCons (eVar 12) aNil))) (eC .non))))))))))))))))))))))
def b_worth_at : Ev → M Ctl := (cSeq (cAsg (gT (gsCons (gN 2) (gsCons (gN 3) gsNil))) (eVar 0)) (cRet (eBin dAdd (eVar 2) (eUn dSum (eLc (iOns dZipI (aCons (eVar 3) (aCons (eVar 1) aNil))) [4, 5] (gT (gsCons (gN 4) (gsCons (gN 5) gsNil))) nYes (eBin dMul (eVar 4) (eVar 5)))))))
def m_worth_at : List D → M D := defM 6 b_worth_at
def b_lam_torn : Ev → M D := (eBin dLt (eCall 2 m_worth_at (aCons (eBin dAt (eVar 0) (eC (.int 1))) (aCons (eVar 1) aNil))) (eC (.int 0)))
def m_lam_torn : List D → M D := lamM 2 b_lam_torn
def LM : LMs := fun x => if x = "torn" then some (2, m_lam_torn) else none
end
end Cm
end
section
set_option maxHeartbeats 400000
namespace K3
open PySem PySem.Spec PyProof.Rows L2 Mir Cm
variable [T0 : Tab]
section
variable {P : Program} {w : World} {K : PySem.W.Frag} {mg : Str → Option Value} {base : Heap}
abbrev N_is_name : List Str := ["thing", "sign"]
theorem sc_is_name : FnScope N_is_name ["thing"] (defScope s_is_name) := ⟨rfl, rfl, rfl, by decide +kernel, rfl, by decide +kernel, by decide +kernel⟩
theorem ok_is_name (B : Blt mg) (F : Df K mg "is_name" s_is_name) (g_SMALL : GD K mg "SMALL" (.str "abcdefghijklmnopqrstuvwxyz")) (g_LONGEST : GD K mg "LONGEST" (.int 8)) : Has P w K mg base 1 "is_name" 1 m_is_name :=
  has_of (k := 0) (os := []) (o2 := []) (ol := []) F sc_is_name rfl (fun _ _ _ _ _ _ us hl => match us, hl with | [_], _ => rfl) (by decide) fun f cdv A outer s H E hr =>
    (pmss_one (qs_ret (q_and (q_isT isStr kStr B (by rfl) (by rfl) (by decide) (by decide +kernel) (qb_var 0)) (q_and (QMC.e (q_leLe (QM.toB q_int) (QM.toB (q_len (by rfl) (B _ (by decide)) (qb_var 0))) (QM.toB (q_gl g_LONGEST (by rfl))))) (q_one (q_all rfl (by rfl) (B _ (by decide)) (QMF.toB (qf_lc [("sign", 1)] rfl sc_is_name.nd (qi_any (q_var 0)) (blk_of (by kernel_rfl)) (by decide) (fun s H C cl fp => (qg_name 1 (by decide) sc_is_name.nd rfl (by first | exact .inl rfl | exact .inr rfl))) (fun s H C cl fp => qts_nil) (fun s H C cl fp => (QMC.e (q_in hr (qb_var 1) (QM.toB (q_gl g_SMALL (by rfl))))))))))))))
abbrev N_is_whole : List Str := ["thing"]
theorem sc_is_whole : FnScope N_is_whole ["thing"] (defScope s_is_whole) := ⟨rfl, rfl, rfl, by decide +kernel, rfl, by decide +kernel, by decide +kernel⟩
theorem ok_is_whole (B : Blt mg) (F : Df K mg "is_whole" s_is_whole) : Has P w K mg base 1 "is_whole" 1 m_is_whole :=
  has_of (k := 0) (os := []) (o2 := []) (ol := []) F sc_is_whole rfl (fun _ _ _ _ _ _ us hl => match us, hl with | [_], _ => rfl) (by decide) fun f cdv A outer s H E hr =>
    (pmss_one (qs_ret (q_and (q_isT isInt kInt B (by rfl) (by rfl) (by decide) (by decide +kernel) (qb_var 0)) (q_one (q_not (q_isT isBl kBool B (by rfl) (by rfl) (by decide) (by decide +kernel) (qb_var 0)))))))
abbrev N_is_from : List Str := ["thing", "low", "high"]
theorem sc_is_from : FnScope N_is_from ["thing", "low", "high"] (defScope s_is_from) := ⟨rfl, rfl, rfl, by decide +kernel, rfl, by decide +kernel, by decide +kernel⟩
theorem ok_is_from (B : Blt mg) (F : Df K mg "is_from" s_is_from) (h_is_whole : Has P w K mg base 1 "is_whole" 1 m_is_whole) : Has P w K mg base 2 "is_from" 3 m_is_from :=
  has_of (k := 1) (os := []) (o2 := []) (ol := []) F sc_is_from rfl (fun _ _ _ _ _ _ us hl => match us, hl with | [_, _, _], _ => rfl) (by decide) fun f cdv A outer s H E hr =>
    (pmss_one (qs_ret (q_and (q_f h_is_whole (hr.mono (by decide)) (by rfl) (qa_cons (q_var 0) qa_nil)) (q_one (QMC.e (q_leLe (qb_var 1) (qb_var 0) (qb_var 2)))))))
abbrev N_are_names : List Str := ["thing", "most", "name"]
theorem sc_are_names : FnScope N_are_names ["thing", "most"] (defScope s_are_names) := ⟨rfl, rfl, rfl, by decide +kernel, rfl, by decide +kernel, by decide +kernel⟩
theorem ok_are_names (B : Blt mg) (F : Df K mg "are_names" s_are_names) (h_is_name : Has P w K mg base 1 "is_name" 1 m_is_name) : Has P w K mg base 2 "are_names" 2 m_are_names :=
  has_of (k := 1) (os := []) (o2 := []) (ol := []) F sc_are_names rfl (fun _ _ _ _ _ _ us hl => match us, hl with | [_, _], _ => rfl) (by decide) fun f cdv A outer s H E hr =>
    (pmss_cons (qs_if (QMW.t (qw_or (qt_not (qt_val (q_isi2 isLst isTup kList kTuple (by rfl) (B _ (by decide)) (by rfl) (B _ (by decide)) (by decide +kernel) (by rfl) (B _ (by decide)) (by decide +kernel) (qb_var 0)))) (qw_or1 (qt_not (QMC.t (q_leLe (QM.toB q_int) (QM.toB (q_len (by rfl) (B _ (by decide)) (qb_var 0))) (qb_var 1))))))) (pmss_one (qs_ret q_bl)) pmss_nil) (pmss_one (qs_ret (q_and (q_all rfl (by rfl) (B _ (by decide)) (QMF.toB (qf_lc [("name", 2)] rfl sc_are_names.nd (qi_any (q_var 0)) (blk_of (by kernel_rfl)) (by decide) (fun s H C cl fp => (qg_name 2 (by decide) sc_are_names.nd rfl (by first | exact .inl rfl | exact .inr rfl))) (fun s H C cl fp => qts_nil) (fun s H C cl fp => (q_f h_is_name (hr.mono (by decide)) (by rfl) (qa_cons (q_var 2) qa_nil)))))) (q_one (QMC.e (q_eq hr (QM.toB (q_len (by rfl) (B _ (by decide)) (QMF.toB (qf_dc [("name", 2)] rfl sc_are_names.nd (qi_any (q_var 0)) (blk_of (by kernel_rfl)) (by decide) (fun s H C cl fp => (qg_name 2 (by decide) sc_are_names.nd rfl (by first | exact .inl rfl | exact .inr rfl))) (fun s H C cl fp => qts_nil) (fun s H C cl fp => (q_var 2)) (fun s H C cl fp => q_bl))))) (QM.toB (q_len (by rfl) (B _ (by decide)) (qb_var 0))))))))))
abbrev N_is_beam : List Str := ["thing"]
theorem sc_is_beam : FnScope N_is_beam ["thing"] (defScope s_is_beam) := ⟨rfl, rfl, rfl, by decide +kernel, rfl, by decide +kernel, by decide +kernel⟩
theorem ok_is_beam (B : Blt mg) (F : Df K mg "is_beam" s_is_beam) (g_MOST_STEP : GD K mg "MOST_STEP" (.int 5)) (h_is_name : Has P w K mg base 1 "is_name" 1 m_is_name) (h_is_from : Has P w K mg base 2 "is_from" 3 m_is_from) : Has P w K mg base 3 "is_beam" 1 m_is_beam :=
  has_of (k := 2) (os := []) (o2 := []) (ol := []) F sc_is_beam rfl (fun _ _ _ _ _ _ us hl => match us, hl with | [_], _ => rfl) (by decide) fun f cdv A outer s H E hr =>
    (pmss_cons (qs_if (QMW.t (qw_or (qt_not (qt_val (q_isT isTup kTuple B (by rfl) (by rfl) (by decide) (by decide +kernel) (qb_var 0)))) (qw_or (QMC.t (q_ne hr (QM.toB (q_len (by rfl) (B _ (by decide)) (qb_var 0))) (QM.toB q_int))) (qw_or1 (qt_not (qt_val (q_f h_is_name (hr.mono (by decide)) (by rfl) (qa_cons (q_at hr (qb_var 0) (QM.toB q_int)) qa_nil)))))))) (pmss_one (qs_ret q_bl)) pmss_nil) (pmss_one (qs_ret (q_and (q_f h_is_from (hr.mono (by decide)) (by rfl) (qa_cons (q_at hr (qb_var 0) (QM.toB q_int)) (qa_cons (q_neg (QM.toB (q_gl g_MOST_STEP (by rfl)))) (qa_cons (q_gl g_MOST_STEP (by rfl)) qa_nil)))) (q_one (QMC.e (q_ne hr (QM.toB (q_at hr (qb_var 0) (QM.toB q_int))) (QM.toB q_int))))))))
abbrev N_are_beams : List Str := ["thing", "beam"]
theorem sc_are_beams : FnScope N_are_beams ["thing"] (defScope s_are_beams) := ⟨rfl, rfl, rfl, by decide +kernel, rfl, by decide +kernel, by decide +kernel⟩
theorem ok_are_beams (B : Blt mg) (F : Df K mg "are_beams" s_are_beams) (g_MOST_BEAMS : GD K mg "MOST_BEAMS" (.int 3)) (h_is_beam : Has P w K mg base 3 "is_beam" 1 m_is_beam) (h_are_names : Has P w K mg base 2 "are_names" 2 m_are_names) : Has P w K mg base 4 "are_beams" 1 m_are_beams :=
  has_of (k := 3) (os := []) (o2 := []) (ol := []) F sc_are_beams rfl (fun _ _ _ _ _ _ us hl => match us, hl with | [_], _ => rfl) (by decide) fun f cdv A outer s H E hr =>
    (pmss_cons (qs_if (QMW.t (qw_or (qt_not (qt_val (q_isi2 isLst isTup kList kTuple (by rfl) (B _ (by decide)) (by rfl) (B _ (by decide)) (by decide +kernel) (by rfl) (B _ (by decide)) (by decide +kernel) (qb_var 0)))) (qw_or1 (qt_not (qt_val (q_all rfl (by rfl) (B _ (by decide)) (QMF.toB (qf_lc [("beam", 1)] rfl sc_are_beams.nd (qi_any (q_var 0)) (blk_of (by kernel_rfl)) (by decide) (fun s H C cl fp => (qg_name 1 (by decide) sc_are_beams.nd rfl (by first | exact .inl rfl | exact .inr rfl))) (fun s H C cl fp => qts_nil) (fun s H C cl fp => (q_f h_is_beam (hr.mono (by decide)) (by rfl) (qa_cons (q_var 1) qa_nil))))))))))) (pmss_one (qs_ret q_bl)) pmss_nil) (pmss_one (qs_ret (q_f h_are_names (hr.mono (by decide)) (by rfl) (qa_cons (QMF.toE (qf_lc [("beam", 1)] rfl sc_are_beams.nd (qi_any (q_var 0)) (blk_of (by kernel_rfl)) (by decide) (fun s H C cl fp => (qg_name 1 (by decide) sc_are_beams.nd rfl (by first | exact .inl rfl | exact .inr rfl))) (fun s H C cl fp => qts_nil) (fun s H C cl fp => (q_at hr (qb_var 1) (QM.toB q_int))))) (qa_cons (q_gl g_MOST_BEAMS (by rfl)) qa_nil))))))
abbrev N_tuples_of : List Str := ["lean", "many", "found", "turn"]
theorem sc_tuples_of : FnScope N_tuples_of ["lean", "many"] (defScope s_tuples_of) := ⟨rfl, rfl, rfl, by decide +kernel, rfl, by decide +kernel, by decide +kernel⟩
theorem ok_tuples_of (B : Blt mg) (F : Df K mg "tuples_of" s_tuples_of) : Has P w K mg base 1 "tuples_of" 2 m_tuples_of :=
  has_of (k := 0) (os := []) (o2 := []) (ol := []) F sc_tuples_of rfl (fun _ _ _ _ _ _ us hl => match us, hl with | [_, _], _ => rfl) (by decide) fun f cdv A outer s H E hr =>
    (pmss_cons (qs_set 2 (by decide) sc_tuples_of.nd rfl (by first | exact .inl rfl | exact .inr rfl) q_int) (pmss_cons (q_for PassesOwn.never rfl (qi_range1 (by rfl) (B _ (by decide)) (qa_cons (q_var 1) qa_nil) (h1 := aLen1)) (qg_name 3 (by decide) sc_tuples_of.nd rfl (by first | exact .inl rfl | exact .inr rfl)) (pmss_one (qs_set 2 (by decide) sc_tuples_of.nd rfl (by first | exact .inl rfl | exact .inr rfl) (q_mul (qb_var 2) (QM.toB (q_add (QM.toB (q_mul (QM.toB q_int) (qb_var 0))) (QM.toB q_int))))))) (pmss_one (qs_ret (q_var 2)))))
abbrev N_Yard_init : List Str := ["self", "things", "beams", "most", "lean"]
theorem sc_Yard_init : FnScope N_Yard_init ["self", "things", "beams", "most", "lean"] (defScope s_Yard_init) := ⟨rfl, rfl, rfl, by decide +kernel, rfl, by decide +kernel, by decide +kernel⟩
theorem ok_Yard_init (B : Blt mg) (F : DfI K mg "Yard" "Yard.__init__" s_Yard_init) (g_MOST_THINGS : GD K mg "MOST_THINGS" (.int 8)) (g_MOST_LEAN : GD K mg "MOST_LEAN" (.int 9)) (g_MOST_WEIGHT : GD K mg "MOST_WEIGHT" (.int 100)) (g_MOST_TUPLES : GD K mg "MOST_TUPLES" (.int 400)) (f_Yard_thing_names : HasF K mg "Yard" "thing_names") (f_Yard_beam_steps : HasF K mg "Yard" "beam_steps") (f_Yard_heaviest : HasF K mg "Yard" "heaviest") (f_Yard_farthest : HasF K mg "Yard" "farthest") (h_are_beams : Has P w K mg base 4 "are_beams" 1 m_are_beams) (h_are_names : Has P w K mg base 2 "are_names" 2 m_are_names) (h_is_from : Has P w K mg base 2 "is_from" 3 m_is_from) (h_tuples_of : Has P w K mg base 1 "tuples_of" 2 m_tuples_of) : HasI P w K mg base 5 "Yard" 2 ["most", "lean"] m_Yard_init :=
  hasI_of (k := 4) (ks := ["most", "lean"]) F sc_Yard_init rfl (fun _ _ _ _ _ _ us ws h1 h2 => match us, ws, h1, h2 with | [_, _, _], [_, _], _, _ => rfl) fun f cdv A outer s H E hr =>
    (qn_if (QMW.t (qw_or (qt_not (qt_val (q_f h_are_names (hr.mono (by decide)) (by rfl) (qa_cons (q_var 1) (qa_cons (q_gl g_MOST_THINGS (by rfl)) qa_nil))))) (qw_or1 (qt_not (qt_val (q_f h_are_beams (hr.mono (by decide)) (by rfl) (qa_cons (q_var 2) qa_nil))))))) (qn_if (QMW.t (qw_or (qt_not (qt_val (q_f h_is_from (hr.mono (by decide)) (by rfl) (qa_cons (q_var 3) (qa_cons q_int (qa_cons (q_gl g_MOST_WEIGHT (by rfl)) qa_nil)))))) (qw_or1 (qt_not (qt_val (q_f h_is_from (hr.mono (by decide)) (by rfl) (qa_cons (q_var 4) (qa_cons q_int (qa_cons (q_gl g_MOST_LEAN (by rfl)) qa_nil))))))))) (qn_if (QMC.t (q_gt (QM.toB (q_f h_tuples_of (hr.mono (by decide)) (by rfl) (qa_cons (q_var 4) (qa_cons (q_len (by rfl) (B _ (by decide)) (qb_var 2)) qa_nil)))) (QM.toB (q_gl g_MOST_TUPLES (by rfl))))) (qn_fld f_Yard_thing_names (q_tupleP (by rfl) (B _ (by decide)) (qb_var 1)) (qn_fld f_Yard_beam_steps (q_tupleP (by rfl) (B _ (by decide)) (qb_var 2)) (qn_fld f_Yard_heaviest (q_var 3) (qn_fld f_Yard_farthest (q_var 4) pmn_nil)))))))
abbrev N_Yard_things : List Str := ["self"]
theorem sc_Yard_things : FnScope N_Yard_things ["self"] (defScope s_Yard_things) := ⟨rfl, rfl, rfl, by decide +kernel, rfl, by decide +kernel, by decide +kernel⟩
theorem ok_Yard_things (B : Blt mg) (F : DfM K mg "Yard" "things" "Yard.things" s_Yard_things) (f_Yard_thing_names : HasF K mg "Yard" "thing_names") : HasM P w K mg base 1 "Yard" "things" 1 m_Yard_things :=
  hasM_of (k := 0) (os := []) (o2 := []) (ol := []) F sc_Yard_things rfl (fun _ _ _ _ _ _ us hl => match us, hl with | [_], _ => rfl) (by decide) fun f cdv A outer s H E hr =>
    (pmss_one (qs_ret (QMF.toE (qf_list (by rfl) (B _ (by decide)) (QM.toB (q_field f_Yard_thing_names (q_var 0)))))))
abbrev N_Yard_beams : List Str := ["self"]
theorem sc_Yard_beams : FnScope N_Yard_beams ["self"] (defScope s_Yard_beams) := ⟨rfl, rfl, rfl, by decide +kernel, rfl, by decide +kernel, by decide +kernel⟩
theorem ok_Yard_beams (B : Blt mg) (F : DfM K mg "Yard" "beams" "Yard.beams" s_Yard_beams) (f_Yard_beam_steps : HasF K mg "Yard" "beam_steps") : HasM P w K mg base 1 "Yard" "beams" 1 m_Yard_beams :=
  hasM_of (k := 0) (os := []) (o2 := []) (ol := []) F sc_Yard_beams rfl (fun _ _ _ _ _ _ us hl => match us, hl with | [_], _ => rfl) (by decide) fun f cdv A outer s H E hr =>
    (pmss_one (qs_ret (QMF.toE (qf_list (by rfl) (B _ (by decide)) (QM.toB (q_field f_Yard_beam_steps (q_var 0)))))))
abbrev N_pans : List Str := ["yard"]
theorem sc_pans : FnScope N_pans ["yard"] (defScope s_pans) := ⟨rfl, rfl, rfl, by decide +kernel, rfl, by decide +kernel, by decide +kernel⟩
theorem ok_pans (B : Blt mg) (F : Df K mg "pans" s_pans) (h_Yard_things : HasM P w K mg base 1 "Yard" "things" 1 m_Yard_things) : Has P w K mg base 2 "pans" 1 m_pans :=
  has_of (k := 1) (os := []) (o2 := []) (ol := []) F sc_pans rfl (fun _ _ _ _ _ _ us hl => match us, hl with | [_], _ => rfl) (by decide) fun f cdv A outer s H E hr =>
    (pmss_one (qs_ret (q_add (QMF.toB (qf_lst (qa_cons q_non qa_nil))) (QM.toB (q_m0 h_Yard_things (hr.mono (by decide)) (q_var 0))))))
abbrev N_need_pan : List Str := ["yard", "pan"]
theorem sc_need_pan : FnScope N_need_pan ["yard", "pan"] (defScope s_need_pan) := ⟨rfl, rfl, rfl, by decide +kernel, rfl, by decide +kernel, by decide +kernel⟩
theorem ok_need_pan (B : Blt mg) (F : Df K mg "need_pan" s_need_pan) (h_Yard_things : HasM P w K mg base 1 "Yard" "things" 1 m_Yard_things) : Has P w K mg base 3 "need_pan" 2 m_need_pan :=
  has_of (k := 2) (os := []) (o2 := []) (ol := []) F sc_need_pan rfl (fun _ _ _ _ _ _ us hl => match us, hl with | [_, _], _ => rfl) (by decide) fun f cdv A outer s H E hr =>
    (pmss_one (qs_if (QMW.t (qw_and (QMC.t (q_notN (qb_var 1) (QM.toB q_non))) (qw_and1 (QMW.t (qw_or (qt_not (qt_val (q_isT isStr kStr B (by rfl) (by rfl) (by decide) (by decide +kernel) (qb_var 1)))) (qw_or1 (QMC.t (q_nin hr (qb_var 1) (QM.toB (q_m0 h_Yard_things (hr.mono (by decide)) (q_var 0))))))))))) (pmss_one pms_never) pmss_nil))
abbrev N_need_beam : List Str := ["yard", "beam", "name", "step"]
theorem sc_need_beam : FnScope N_need_beam ["yard", "beam"] (defScope s_need_beam) := ⟨rfl, rfl, rfl, by decide +kernel, rfl, by decide +kernel, by decide +kernel⟩
theorem ok_need_beam (B : Blt mg) (F : Df K mg "need_beam" s_need_beam) (h_Yard_beams : HasM P w K mg base 1 "Yard" "beams" 1 m_Yard_beams) : Has P w K mg base 3 "need_beam" 2 m_need_beam :=
  has_of (k := 2) (os := []) (o2 := []) (ol := []) F sc_need_beam rfl (fun _ _ _ _ _ _ us hl => match us, hl with | [_, _], _ => rfl) (by decide) fun f cdv A outer s H E hr =>
    (pmss_one (qs_if (QMW.t (qw_or (qt_not (qt_val (q_isT isStr kStr B (by rfl) (by rfl) (by decide) (by decide +kernel) (qb_var 1)))) (qw_or1 (QMC.t (q_nin hr (qb_var 1) (QMF.toB (qf_lc [("name", 2), ("step", 3)] rfl sc_need_beam.nd (qi_any (q_m0 h_Yard_beams (hr.mono (by decide)) (q_var 0))) (blk_of (by kernel_rfl)) (by decide) (fun s H C cl fp => (qg_tup rfl (qgs_cons (qg_name 2 (by decide) sc_need_beam.nd rfl (by first | exact .inl rfl | exact .inr rfl)) (qgs_cons (qg_name 3 (by decide) sc_need_beam.nd rfl (by first | exact .inl rfl | exact .inr rfl)) qgs_nil)) (gs_len_cons (gs_len_cons gs_len_nil)))) (fun s H C cl fp => qts_nil) (fun s H C cl fp => (q_var 2))))))))) (pmss_one pms_never) pmss_nil))
theorem sc_NoPan_init : FnScope ["self", "pan"] ["self", "pan"] (defScope s_NoPan_init) := ⟨rfl, rfl, rfl, by decide +kernel, rfl, by decide +kernel, by decide +kernel⟩
theorem ok_ex_NoPan (F : DfX K mg "NoPan" "pan" "NoPan.__init__" s_NoPan_init) (b_BeamError : DfB K mg "BeamError") : HasEx P w K mg base 1 "NoPan" "pan" := by
  obtain ⟨B, hB, BI⟩ := b_BeamError
  exact hasEx_of (k := 0) (msg := "no pan of the yard") F sc_NoPan_init rfl (fun _ _ _ _ _ _ us hl => match us, hl with | [_, _], _ => rfl) rfl fun f cdv A outer s H E =>
    pss_cons (ps_expr (pe_binit BI (by rfl) hB (pa_cons (pv 0) (pa_cons pe_str pa_nil)))) (pss_one (ps_ost (pv 0) (pv 1)))
theorem sc_NoBeam_init : FnScope ["self", "beam"] ["self", "beam"] (defScope s_NoBeam_init) := ⟨rfl, rfl, rfl, by decide +kernel, rfl, by decide +kernel, by decide +kernel⟩
theorem ok_ex_NoBeam (F : DfX K mg "NoBeam" "beam" "NoBeam.__init__" s_NoBeam_init) (b_BeamError : DfB K mg "BeamError") : HasEx P w K mg base 1 "NoBeam" "beam" := by
  obtain ⟨B, hB, BI⟩ := b_BeamError
  exact hasEx_of (k := 0) (msg := "no beam of the yard") F sc_NoBeam_init rfl (fun _ _ _ _ _ _ us hl => match us, hl with | [_, _], _ => rfl) rfl fun f cdv A outer s H E =>
    pss_cons (ps_expr (pe_binit BI (by rfl) hB (pa_cons (pv 0) (pa_cons pe_str pa_nil)))) (pss_one (ps_ost (pv 0) (pv 1)))
theorem oky_need_pan (B : Blt mg) (F : Df K mg "need_pan" s_need_pan) (h_Yard_things : HasM P w K mg base 1 "Yard" "things" 1 m_Yard_things) (x_NoPan : HasEx P w K mg base 1 "NoPan" "pan") : HasY P w K mg base 3 "need_pan" false 2 my_need_pan :=
  hasY_of (k := 2) (os := []) (o2 := []) (ol := []) F sc_need_pan rfl (fun _ _ _ _ _ _ us hl => match us, hl with | [_, _], _ => rfl) (by decide) fun f cdv A outer s H E hr tk hp =>
    (yss_one (ys_if (QMW.t (qw_and (QMC.t (q_notN (qb_var 1) (QM.toB q_non))) (qw_and1 (QMW.t (qw_or (qt_not (qt_val (q_isT isStr kStr B (by rfl) (by rfl) (by decide) (by decide +kernel) (qb_var 1)))) (qw_or1 (QMC.t (q_nin hr (qb_var 1) (QM.toB (q_m0 h_Yard_things (hr.mono (by decide)) (q_var 0))))))))))) (yss_one (ys_raise x_NoPan (hr.mono (by decide)) rfl tk (by rfl) (q_var 1))) yss_nil))
theorem oky_need_beam (B : Blt mg) (F : Df K mg "need_beam" s_need_beam) (h_Yard_beams : HasM P w K mg base 1 "Yard" "beams" 1 m_Yard_beams) (x_NoBeam : HasEx P w K mg base 1 "NoBeam" "beam") : HasY P w K mg base 3 "need_beam" false 2 my_need_beam :=
  hasY_of (k := 2) (os := []) (o2 := []) (ol := []) F sc_need_beam rfl (fun _ _ _ _ _ _ us hl => match us, hl with | [_, _], _ => rfl) (by decide) fun f cdv A outer s H E hr tk hp =>
    (yss_one (ys_if (QMW.t (qw_or (qt_not (qt_val (q_isT isStr kStr B (by rfl) (by rfl) (by decide) (by decide +kernel) (qb_var 1)))) (qw_or1 (QMC.t (q_nin hr (qb_var 1) (QMF.toB (qf_lc [("name", 2), ("step", 3)] rfl sc_need_beam.nd (qi_any (q_m0 h_Yard_beams (hr.mono (by decide)) (q_var 0))) (blk_of (by kernel_rfl)) (by decide) (fun s H C cl fp => (qg_tup rfl (qgs_cons (qg_name 2 (by decide) sc_need_beam.nd rfl (by first | exact .inl rfl | exact .inr rfl)) (qgs_cons (qg_name 3 (by decide) sc_need_beam.nd rfl (by first | exact .inl rfl | exact .inr rfl)) qgs_nil)) (gs_len_cons (gs_len_cons gs_len_nil)))) (fun s H C cl fp => qts_nil) (fun s H C cl fp => (q_var 2))))))))) (yss_one (ys_raise x_NoBeam (hr.mono (by decide)) rfl tk (by rfl) (q_var 1))) yss_nil))
abbrev N_are_parts : List Str := ["yard", "beam", "left", "right"]
theorem sc_are_parts : FnScope N_are_parts ["yard", "beam", "left", "right"] (defScope s_are_parts) := ⟨rfl, rfl, rfl, by decide +kernel, rfl, by decide +kernel, by decide +kernel⟩
theorem ok_are_parts (B : Blt mg) (F : Df K mg "are_parts" s_are_parts) (y_need_beam : HasY P w K mg base 3 "need_beam" false 2 my_need_beam) (y_need_pan : HasY P w K mg base 3 "need_pan" false 2 my_need_pan) (ct2_NoBeam_NoPan : CatT2 K mg "NoBeam" "NoPan" ["NoPan", "NoBeam"]) : Has P w K mg base 4 "are_parts" 4 m_are_parts :=
  has_of (k := 3) (os := []) (o2 := []) (ol := []) F sc_are_parts rfl (fun _ _ _ _ _ _ us hl => match us, hl with | [_, _, _, _], _ => rfl) (by decide) fun f cdv A outer s H E hr =>
    (pmss_cons (qs_tryR (.bl false) (.bl false) ct2_NoBeam_NoPan (by rfl) (by rfl) rfl rfl (fun W pn xe tk hp => (yss_cons (ys_drop (qy_f tk y_need_beam (hr.mono (by decide)) (by rfl) (qa_cons (q_var 0) (qa_cons (q_var 1) qa_nil)))) (yss_cons (ys_drop (qy_f tk y_need_pan (hr.mono (by decide)) (by rfl) (qa_cons (q_var 0) (qa_cons (q_var 2) qa_nil)))) (yss_one (ys_drop (qy_f tk y_need_pan (hr.mono (by decide)) (by rfl) (qa_cons (q_var 0) (qa_cons (q_var 3) qa_nil)))))))) (fun _ _ _ => pe_bl) (fun _ _ => .bl _)) (pmss_one (qs_ret (q_or (QMC.e (q_isN (qb_var 2) (QM.toB q_non))) (q_one (QMC.e (q_ne hr (qb_var 2) (qb_var 3))))))))
abbrev N_is_weighing : List Str := ["yard", "thing"]
theorem sc_is_weighing : FnScope N_is_weighing ["yard", "thing"] (defScope s_is_weighing) := ⟨rfl, rfl, rfl, by decide +kernel, rfl, by decide +kernel, by decide +kernel⟩
theorem okC_is_weighing (B : Blt mg) (F : Df K mg "is_weighing" s_is_weighing) (h_are_parts : Has P w K mg base 4 "are_parts" 4 m_are_parts) : HasC (spM K mg) P w K mg base 5 "is_weighing" s_is_weighing ["yard", "thing"] 2 m_is_weighing :=
  hasC_of (k := 4) (os := []) (o2 := []) (ol := []) F sc_is_weighing rfl (by decide) fun f cdv A outer s H E hr =>
    (pmss_one (qs_ret (q_and (q_isT isTup kTuple B (by rfl) (by rfl) (by decide) (by decide +kernel) (qb_var 1)) (q_and (QMC.e (q_eq hr (QM.toB (q_len (by rfl) (B _ (by decide)) (qb_var 1))) (QM.toB q_int))) (q_one (q_f h_are_parts (hr.mono (by decide)) (by rfl) (qa_cons (q_var 0) (qa_cons (q_at hr (qb_var 1) (QM.toB q_int)) (qa_cons (q_at hr (qb_var 1) (QM.toB q_int)) (qa_cons (q_at hr (qb_var 1) (QM.toB q_int)) qa_nil))))))))))
theorem ok_is_weighing (B : Blt mg) (F : Df K mg "is_weighing" s_is_weighing) (h_are_parts : Has P w K mg base 4 "are_parts" 4 m_are_parts) : Has P w K mg base 5 "is_weighing" 2 m_is_weighing := (okC_is_weighing B F h_are_parts).pos fun _ _ _ _ _ _ us hl => match us, hl with | [_, _], _ => rfl
theorem okK_is_weighing (B : Blt mg) (F : Df K mg "is_weighing" s_is_weighing) (h_are_parts : Has P w K mg base 4 "are_parts" 4 m_are_parts) : HasK P w K mg base 5 "is_weighing" 2 ["thing", "yard"] [1, 0] m_is_weighing := (okC_is_weighing B F h_are_parts).kw rfl (by decide) fun _ _ _ _ _ _ us hl => match us, hl with | [_, _], _ => rfl
abbrev N_is_row : List Str := ["yard", "thing"]
theorem sc_is_row : FnScope N_is_row ["yard", "thing"] (defScope s_is_row) := ⟨rfl, rfl, rfl, by decide +kernel, rfl, by decide +kernel, by decide +kernel⟩
theorem okC_is_row (B : Blt mg) (F : Df K mg "is_row" s_is_row) (g_WORDS : GD K mg "WORDS" (.rot [(.str "left"), (.str "even"), (.str "right")])) (h_are_parts : Has P w K mg base 4 "are_parts" 4 m_are_parts) : HasC (spM K mg) P w K mg base 5 "is_row" s_is_row ["yard", "thing"] 2 m_is_row :=
  hasC_of (k := 4) (os := []) (o2 := []) (ol := []) F sc_is_row rfl (by decide) fun f cdv A outer s H E hr =>
    (pmss_cons (qs_if (QMW.t (qw_or (qt_not (qt_val (q_isT isTup kTuple B (by rfl) (by rfl) (by decide) (by decide +kernel) (qb_var 1)))) (qw_or (QMC.t (q_ne hr (QM.toB (q_len (by rfl) (B _ (by decide)) (qb_var 1))) (QM.toB q_int))) (qw_or1 (qt_not (qt_val (q_f h_are_parts (hr.mono (by decide)) (by rfl) (qa_cons (q_var 0) (qa_cons (q_at hr (qb_var 1) (QM.toB q_int)) (qa_cons (q_at hr (qb_var 1) (QM.toB q_int)) (qa_cons (q_at hr (qb_var 1) (QM.toB q_int)) qa_nil))))))))))) (pmss_one (qs_ret q_bl)) pmss_nil) (pmss_one (qs_ret (q_and (q_isT isStr kStr B (by rfl) (by rfl) (by decide) (by decide +kernel) (QM.toB (q_at hr (qb_var 1) (QM.toB q_int)))) (q_one (QMC.e (q_in hr (QM.toB (q_at hr (qb_var 1) (QM.toB q_int))) (QM.toB (q_gl g_WORDS (by rfl))))))))))
theorem ok_is_row (B : Blt mg) (F : Df K mg "is_row" s_is_row) (g_WORDS : GD K mg "WORDS" (.rot [(.str "left"), (.str "even"), (.str "right")])) (h_are_parts : Has P w K mg base 4 "are_parts" 4 m_are_parts) : Has P w K mg base 5 "is_row" 2 m_is_row := (okC_is_row B F g_WORDS h_are_parts).pos fun _ _ _ _ _ _ us hl => match us, hl with | [_, _], _ => rfl
theorem okK_is_row (B : Blt mg) (F : Df K mg "is_row" s_is_row) (g_WORDS : GD K mg "WORDS" (.rot [(.str "left"), (.str "even"), (.str "right")])) (h_are_parts : Has P w K mg base 4 "are_parts" 4 m_are_parts) : HasK P w K mg base 5 "is_row" 2 ["thing", "yard"] [1, 0] m_is_row := (okC_is_row B F g_WORDS h_are_parts).kw rfl (by decide) fun _ _ _ _ _ _ us hl => match us, hl with | [_, _], _ => rfl
abbrev N_need_log : List Str := ["yard", "log", "at", "row"]
theorem sc_need_log : FnScope N_need_log ["yard", "log"] (defScope s_need_log) := ⟨rfl, rfl, rfl, by decide +kernel, rfl, by decide +kernel, by decide +kernel⟩
theorem ok_need_log (B : Blt mg) (F : Df K mg "need_log" s_need_log) (h_is_row : Has P w K mg base 5 "is_row" 2 m_is_row) : Has P w K mg base 6 "need_log" 2 m_need_log :=
  has_of (k := 5) (os := []) (o2 := []) (ol := []) F sc_need_log rfl (fun _ _ _ _ _ _ us hl => match us, hl with | [_, _], _ => rfl) (by decide) fun f cdv A outer s H E hr =>
    (pmss_cons (qs_if (qt_not (qt_val (q_isi2 isLst isTup kList kTuple (by rfl) (B _ (by decide)) (by rfl) (B _ (by decide)) (by decide +kernel) (by rfl) (B _ (by decide)) (by decide +kernel) (qb_var 1)))) (pmss_one pms_never) pmss_nil) (pmss_one (q_for PassesOwn.never rfl (qi_enum (by rfl) (B _ (by decide)) (qa_cons (q_var 1) qa_nil)) (qg_tup rfl (qgs_cons (qg_name 2 (by decide) sc_need_log.nd rfl (by first | exact .inl rfl | exact .inr rfl)) (qgs_cons (qg_name 3 (by decide) sc_need_log.nd rfl (by first | exact .inl rfl | exact .inr rfl)) qgs_nil)) (gs_len_cons (gs_len_cons gs_len_nil))) (pmss_one (qs_if (qt_not (qt_val (q_f h_is_row (hr.mono (by decide)) (by rfl) (qa_cons (q_var 0) (qa_cons (q_var 3) qa_nil))))) (pmss_one pms_never) pmss_nil)))))
theorem sc_NoRow_init : FnScope ["self", "at"] ["self", "at"] (defScope s_NoRow_init) := ⟨rfl, rfl, rfl, by decide +kernel, rfl, by decide +kernel, by decide +kernel⟩
theorem ok_ex_NoRow (F : DfX K mg "NoRow" "at" "NoRow.__init__" s_NoRow_init) (b_BeamError : DfB K mg "BeamError") : HasEx P w K mg base 1 "NoRow" "at" := by
  obtain ⟨B, hB, BI⟩ := b_BeamError
  exact hasEx_of (k := 0) (msg := "no row of the yard") F sc_NoRow_init rfl (fun _ _ _ _ _ _ us hl => match us, hl with | [_, _], _ => rfl) rfl fun f cdv A outer s H E =>
    pss_cons (ps_expr (pe_binit BI (by rfl) hB (pa_cons (pv 0) (pa_cons pe_str pa_nil)))) (pss_one (ps_ost (pv 0) (pv 1)))
theorem oky_need_log (B : Blt mg) (F : Df K mg "need_log" s_need_log) (h_is_row : Has P w K mg base 5 "is_row" 2 m_is_row) (x_NoRow : HasEx P w K mg base 1 "NoRow" "at") : HasY P w K mg base 6 "need_log" false 2 my_need_log :=
  hasY_of (k := 5) (os := []) (o2 := []) (ol := []) F sc_need_log rfl (fun _ _ _ _ _ _ us hl => match us, hl with | [_, _], _ => rfl) (by decide) fun f cdv A outer s H E hr tk hp =>
    (yss_cons (ys_if (qt_not (qt_val (q_isi2 isLst isTup kList kTuple (by rfl) (B _ (by decide)) (by rfl) (B _ (by decide)) (by decide +kernel) (by rfl) (B _ (by decide)) (by decide +kernel) (qb_var 1)))) (yss_one (ys_raise x_NoRow (hr.mono (by decide)) rfl tk (by rfl) q_int)) yss_nil) (yss_one (ys_for hp rfl (qi_enum (by rfl) (B _ (by decide)) (qa_cons (q_var 1) qa_nil)) (qg_tup rfl (qgs_cons (qg_name 2 (by decide) sc_need_log.nd rfl (by first | exact .inl rfl | exact .inr rfl)) (qgs_cons (qg_name 3 (by decide) sc_need_log.nd rfl (by first | exact .inl rfl | exact .inr rfl)) qgs_nil)) (gs_len_cons (gs_len_cons gs_len_nil))) (yss_one (ys_if (qt_not (qt_val (q_f h_is_row (hr.mono (by decide)) (by rfl) (qa_cons (q_var 0) (qa_cons (q_var 3) qa_nil))))) (yss_one (ys_raise x_NoRow (hr.mono (by decide)) rfl tk (by rfl) (q_var 2))) yss_nil)))))
theorem okyK_need_log (B : Blt mg) (F : Df K mg "need_log" s_need_log) (h_is_row : Has P w K mg base 5 "is_row" 2 m_is_row) (x_NoRow : HasEx P w K mg base 1 "NoRow" "at") : HasKY P w K mg base 6 "need_log" false 2 ["log", "yard"] [1, 0] my_need_log :=
  hasKY_of (k := 5) (os := []) (o2 := []) (ol := []) F sc_need_log rfl (by decide) (fun _ _ _ _ _ _ us hl => match us, hl with | [_, _], _ => rfl) (by decide) fun f cdv A outer s H E hr tk hp =>
    (yss_cons (ys_if (qt_not (qt_val (q_isi2 isLst isTup kList kTuple (by rfl) (B _ (by decide)) (by rfl) (B _ (by decide)) (by decide +kernel) (by rfl) (B _ (by decide)) (by decide +kernel) (qb_var 1)))) (yss_one (ys_raise x_NoRow (hr.mono (by decide)) rfl tk (by rfl) q_int)) yss_nil) (yss_one (ys_for hp rfl (qi_enum (by rfl) (B _ (by decide)) (qa_cons (q_var 1) qa_nil)) (qg_tup rfl (qgs_cons (qg_name 2 (by decide) sc_need_log.nd rfl (by first | exact .inl rfl | exact .inr rfl)) (qgs_cons (qg_name 3 (by decide) sc_need_log.nd rfl (by first | exact .inl rfl | exact .inr rfl)) qgs_nil)) (gs_len_cons (gs_len_cons gs_len_nil))) (yss_one (ys_if (qt_not (qt_val (q_f h_is_row (hr.mono (by decide)) (by rfl) (qa_cons (q_var 0) (qa_cons (q_var 3) qa_nil))))) (yss_one (ys_raise x_NoRow (hr.mono (by decide)) rfl tk (by rfl) (q_var 2))) yss_nil)))))
abbrev N_weighings_at : List Str := ["yard", "beam", "found", "left", "right"]
theorem sc_weighings_at : FnScope N_weighings_at ["yard", "beam"] (defScope s_weighings_at) := ⟨rfl, rfl, rfl, by decide +kernel, rfl, by decide +kernel, by decide +kernel⟩
theorem ok_weighings_at (B : Blt mg) (F : Df K mg "weighings_at" s_weighings_at) (h_pans : Has P w K mg base 2 "pans" 1 m_pans) : HasN P w K mg base 3 "weighings_at" 2 m_weighings_at :=
  hasN_of (k := 2) (os := [2]) (o2 := [2]) (ol := []) F sc_weighings_at rfl (fun _ _ _ _ _ _ us hl => match us, hl with | [_, _], _ => rfl) (by decide) (noend_seq (noend_seq noend_ret)) fun f cdv A outer s H E hr =>
    (pmss_cons (qs_setN 2 (by decide) sc_weighings_at.nd rfl (by first | exact .inl rfl | exact .inr rfl) (qf_lst qa_nil)) (pmss_cons (q_for PassesOwn.never rfl (qi_any (q_f h_pans (hr.mono (by decide)) (by rfl) (qa_cons (q_var 0) qa_nil))) (qg_name 3 (by decide) sc_weighings_at.nd rfl (by first | exact .inl rfl | exact .inr rfl)) (pmss_one (qs_ext 2 (QMF.toE (qf_lc [("right", 4)] rfl sc_weighings_at.nd (qi_any (q_f h_pans (hr.mono (by decide)) (by rfl) (qa_cons (q_var 0) qa_nil))) (blk_of (by kernel_rfl)) (by decide) (fun s H C cl fp => (qg_name 4 (by decide) sc_weighings_at.nd rfl (by first | exact .inl rfl | exact .inr rfl))) (fun s H C cl fp => (qts_one (QMW.t (qw_or (QMC.t (q_isN (qb_var 3) (QM.toB q_non))) (qw_or1 (QMC.t (q_ne hr (qb_var 3) (qb_var 4)))))))) (fun s H C cl fp => (q_tup (qa_cons (q_var 1) (qa_cons (q_var 3) (qa_cons (q_var 4) qa_nil)))))))))) (pmss_one (pms_retO 2))))
abbrev N_weighings : List Str := ["yard", "found", "beam", "step"]
theorem sc_weighings : FnScope N_weighings ["yard"] (defScope s_weighings) := ⟨rfl, rfl, rfl, by decide +kernel, rfl, by decide +kernel, by decide +kernel⟩
theorem okC_weighings (B : Blt mg) (F : Df K mg "weighings" s_weighings) (h_Yard_beams : HasM P w K mg base 1 "Yard" "beams" 1 m_Yard_beams) (h_weighings_at : HasN P w K mg base 3 "weighings_at" 2 m_weighings_at) : HasC (spN K mg) P w K mg base 4 "weighings" s_weighings ["yard"] 1 m_weighings :=
  hasCN_of (k := 3) (os := [1]) (o2 := [1]) (ol := []) F sc_weighings rfl (by decide) (noend_seq (noend_seq noend_ret)) fun f cdv A outer s H E hr =>
    (pmss_cons (qs_setN 1 (by decide) sc_weighings.nd rfl (by first | exact .inl rfl | exact .inr rfl) (qf_lst qa_nil)) (pmss_cons (q_for PassesOwn.never rfl (qi_any (q_m0 h_Yard_beams (hr.mono (by decide)) (q_var 0))) (qg_tup rfl (qgs_cons (qg_name 2 (by decide) sc_weighings.nd rfl (by first | exact .inl rfl | exact .inr rfl)) (qgs_cons (qg_name 3 (by decide) sc_weighings.nd rfl (by first | exact .inl rfl | exact .inr rfl)) qgs_nil)) (gs_len_cons (gs_len_cons gs_len_nil))) (pmss_one (qs_ext 1 (QMF.toE (qf_f h_weighings_at (hr.mono (by decide)) (by rfl) (qa_cons (q_var 0) (qa_cons (q_var 2) qa_nil))))))) (pmss_one (pms_retO 1))))
theorem ok_weighings (B : Blt mg) (F : Df K mg "weighings" s_weighings) (h_Yard_beams : HasM P w K mg base 1 "Yard" "beams" 1 m_Yard_beams) (h_weighings_at : HasN P w K mg base 3 "weighings_at" 2 m_weighings_at) : HasN P w K mg base 4 "weighings" 1 m_weighings := (okC_weighings B F h_Yard_beams h_weighings_at).posN fun _ _ _ _ _ _ us hl => match us, hl with | [_], _ => rfl
theorem okK_weighings (B : Blt mg) (F : Df K mg "weighings" s_weighings) (h_Yard_beams : HasM P w K mg base 1 "Yard" "beams" 1 m_Yard_beams) (h_weighings_at : HasN P w K mg base 3 "weighings_at" 2 m_weighings_at) : HasKN P w K mg base 4 "weighings" 1 ["yard"] [0] m_weighings := (okC_weighings B F h_Yard_beams h_weighings_at).kwN rfl (by decide) fun _ _ _ _ _ _ us hl => match us, hl with | [_], _ => rfl
abbrev N__law_next : List Str := ["state", "size", "found", "turn", "cell", "mixed"]
theorem sc__law_next : FnScope N__law_next ["state", "size"] (defScope s__law_next) := ⟨rfl, rfl, rfl, by decide +kernel, rfl, by decide +kernel, by decide +kernel⟩
theorem ok__law_next (B : Blt mg) (F : Df K mg "_law_next" s__law_next) : Has P w K mg base 1 "_law_next" 2 m__law_next :=
  has_of (k := 0) (os := []) (o2 := []) (ol := []) F sc__law_next rfl (fun _ _ _ _ _ _ us hl => match us, hl with | [_, _], _ => rfl) (by decide) fun f cdv A outer s H E hr =>
    (pmss_cons (q_while PassesOwn.never (QMW.t (qw_and (QMC.t (q_eq hr (QM.toB (q_stI 0 "digits" Drw.dg st_dg hr)) (QM.toB q_int))) (qw_and1 (QMC.t (q_stNe 0 "great" Drw.gr SA.g st_gr (fun _ _ _ h => h.g) hr))))) (pmss_one (pms_stPop 0 hr))) (pmss_cons (qs_if (QMC.t (q_gt (QM.toB (q_stI 0 "digits" Drw.dg st_dg hr)) (QM.toB q_int))) (pmss_cons (qs_set 2 (by decide) sc__law_next.nd rfl (by first | exact .inl rfl | exact .inr rfl) (q_mod (QM.toB (q_stI 0 "digits" Drw.dg st_dg hr)) (qb_var 1))) (pmss_cons (qs_stDg 0 hr (q_div (QM.toB (q_stI 0 "digits" Drw.dg st_dg hr)) (qb_var 1))) (pmss_one (qs_ret (q_var 2))))) pmss_nil) (pmss_cons (pms_stTn 0 hr) (pmss_cons (qs_set 3 (by decide) sc__law_next.nd rfl (by first | exact .inl rfl | exact .inr rfl) (q_stI 0 "turn" Drw.tn st_tn hr)) (pmss_cons (qs_set 4 (by decide) sc__law_next.nd rfl (by first | exact .inl rfl | exact .inr rfl) q_int) (pmss_cons (qs_if (QMC.t (q_stNe 0 "cells" Drw.ce SA.c st_ce (fun _ _ _ h => h.c) hr)) (pmss_one (qs_set 4 (by decide) sc__law_next.nd rfl (by first | exact .inl rfl | exact .inr rfl) (q_stCe 0 hr (QM.toB (q_mod (qb_var 3) (QM.toB (q_stLen 0 hr (by rfl) (B _ (by decide))))))))) pmss_nil) (pmss_cons (qs_set 5 (by decide) sc__law_next.nd rfl (by first | exact .inl rfl | exact .inr rfl) (q_mod (QM.toB (q_pow (QM.toB (q_add (QM.toB (q_mod (qb_var 4) (QM.toB q_int))) (QM.toB (q_mul (QM.toB q_int) (qb_var 3))))) (QM.toB q_int))) (QM.toB q_int))) (pmss_one (qs_ret (q_mod (QM.toB (q_div (QM.toB (q_mod (QM.toB (q_pow (QM.toB (q_add (qb_var 5) (QM.toB (q_mul (QM.toB q_int) (qb_var 3))))) (QM.toB q_int))) (QM.toB q_int))) (QM.toB q_int))) (qb_var 1)))))))))))
abbrev N__law_pick : List Str := ["state", "some"]
theorem sc__law_pick : FnScope N__law_pick ["state", "some"] (defScope s__law_pick) := ⟨rfl, rfl, rfl, by decide +kernel, rfl, by decide +kernel, by decide +kernel⟩
theorem ok__law_pick (B : Blt mg) (F : Df K mg "_law_pick" s__law_pick) (h__law_next : Has P w K mg base 1 "_law_next" 2 m__law_next) : Has P w K mg base 2 "_law_pick" 2 m__law_pick :=
  has_of (k := 1) (os := []) (o2 := []) (ol := []) F sc__law_pick rfl (fun _ _ _ _ _ _ us hl => match us, hl with | [_, _], _ => rfl) (by decide) fun f cdv A outer s H E hr =>
    (pmss_one (qs_ret (q_at hr (qb_var 1) (QM.toB (q_f h__law_next (hr.mono (by decide)) (by rfl) (qa_cons (q_var 0) (qa_cons (q_len (by rfl) (B _ (by decide)) (qb_var 1)) qa_nil)))))))
abbrev N__law_names : List Str := ["state", "many", "letters", "base", "k", "at", "shift", "step", "names"]
theorem sc__law_names : FnScope N__law_names ["state", "many"] (defScope s__law_names) := ⟨rfl, rfl, rfl, by decide +kernel, rfl, by decide +kernel, by decide +kernel⟩
theorem ok__law_names (B : Blt mg) (F : Df K mg "_law_names" s__law_names) (h__law_next : Has P w K mg base 1 "_law_next" 2 m__law_next) (h__law_pick : Has P w K mg base 2 "_law_pick" 2 m__law_pick) : Has P w K mg base 3 "_law_names" 2 m__law_names :=
  has_of (k := 2) (os := [3, 8]) (o2 := [3, 8]) (ol := []) F sc__law_names rfl (fun _ _ _ _ _ _ us hl => match us, hl with | [_, _], _ => rfl) (by decide) fun f cdv A outer s H E hr =>
    (pmss_cons (qs_set 2 (by decide) sc__law_names.nd rfl (by first | exact .inl rfl | exact .inr rfl) q_str) (pmss_cons (q_setLc [("k", 4)] 3 (by decide) rfl sc__law_names.nd rfl rfl (by rfl) (qi_range1 (by rfl) (B _ (by decide)) (qa_cons (q_add (QM.toB q_int) (QM.toB (q_f h__law_next (hr.mono (by decide)) (by rfl) (qa_cons (q_var 0) (qa_cons q_int qa_nil))))) qa_nil) (h1 := aLen1)) (blk_of (by kernel_rfl)) (by decide) (fun s H C cl fp => (qg_name 4 (by decide) sc__law_names.nd rfl (by first | exact .inl rfl | exact .inr rfl))) (fun s H C cl fp => qts_nil) (fun s H C cl fp => (q_f h__law_pick (hr.mono (by decide)) (by rfl) (qa_cons (q_var 0) (qa_cons (q_var 2) qa_nil))))) (pmss_cons (qs_set 5 (by decide) sc__law_names.nd rfl (by first | exact .inl rfl | exact .inr rfl) (q_f h__law_next (hr.mono (by decide)) (by rfl) (qa_cons (q_var 0) (qa_cons (q_len (by rfl) (B _ (by decide)) (qb_var 3)) qa_nil)))) (pmss_cons (qs_par2 6 7 rfl sc__law_names.nd rfl rfl (by decide) rfl rfl (QM.x (q_f h__law_next (hr.mono (by decide)) (by rfl) (qa_cons (q_var 0) (qa_cons q_int qa_nil)))) (QM.x (q_f h__law_pick (hr.mono (by decide)) (by rfl) (qa_cons (q_var 0) (qa_cons (QMF.toE (qf_lst (qa_cons q_int (qa_cons q_int (qa_cons q_int (qa_cons q_int (qa_cons q_int (qa_cons q_int qa_nil)))))))) qa_nil)))) (by decide) (by decide) (by rfl)) (pmss_cons (qs_setN 8 (by decide) sc__law_names.nd rfl (by first | exact .inl rfl | exact .inr rfl) (qf_lst qa_nil)) (pmss_cons (q_for PassesOwn.never rfl (qi_range1 (by rfl) (B _ (by decide)) (qa_cons (q_var 1) qa_nil) (h1 := aLen1)) (qg_name 4 (by decide) sc__law_names.nd rfl (by first | exact .inl rfl | exact .inr rfl)) (pmss_cons (qs_setL 3 (q_at hr (qb_var 2) (QM.toB (q_mod (QM.toB (q_add (qb_var 6) (QM.toB (q_mul (qb_var 7) (qb_var 4))))) (QM.toB q_int)))) (qb_var 5)) (pmss_one (qs_app 8 (q_join (QM.toB q_str) (qb_var 3)))))) (pmss_one (pms_retO 8))))))))
abbrev N__law_row : List Str := ["state", "beams", "things", "heavy", "slant", "names", "many", "steps", "k", "called", "told"]
theorem sc__law_row : FnScope N__law_row ["state", "beams", "things", "heavy", "slant"] (defScope s__law_row) := ⟨rfl, rfl, rfl, by decide +kernel, rfl, by decide +kernel, by decide +kernel⟩
theorem ok__law_row (B : Blt mg) (F : Df K mg "_law_row" s__law_row) (h__law_next : Has P w K mg base 1 "_law_next" 2 m__law_next) (h__law_names : Has P w K mg base 3 "_law_names" 2 m__law_names) (h__law_pick : Has P w K mg base 2 "_law_pick" 2 m__law_pick) : Has P w K mg base 4 "_law_row" 5 m__law_row :=
  has_of (k := 3) (os := []) (o2 := []) (ol := []) F sc__law_row rfl (fun _ _ _ _ _ _ us hl => match us, hl with | [_, _, _, _, _], _ => rfl) (by decide) fun f cdv A outer s H E hr =>
    (pmss_cons (qs_set 5 (by decide) sc__law_row.nd rfl (by first | exact .inl rfl | exact .inr rfl) (q_f h__law_names (hr.mono (by decide)) (by rfl) (qa_cons (q_var 0) (qa_cons (q_add (QM.toB q_int) (QM.toB (q_f h__law_next (hr.mono (by decide)) (by rfl) (qa_cons (q_var 0) (qa_cons (q_var 2) qa_nil))))) qa_nil)))) (pmss_cons (qs_set 6 (by decide) sc__law_row.nd rfl (by first | exact .inl rfl | exact .inr rfl) (q_add (QM.toB q_int) (QM.toB (q_f h__law_next (hr.mono (by decide)) (by rfl) (qa_cons (q_var 0) (qa_cons (q_var 1) qa_nil)))))) (pmss_cons (q_setLcS [("k", 8)] 7 (by decide) rfl sc__law_row.nd rfl rfl (by rfl) (qi_range1 (by rfl) (B _ (by decide)) (qa_cons (q_var 6) qa_nil) (h1 := aLen1)) (blk_of (by kernel_rfl)) (by decide) (fun s H C cl fp => (qg_name 8 (by decide) sc__law_row.nd rfl (by first | exact .inl rfl | exact .inr rfl))) (fun s H C cl fp => qts_nil) (fun s H C cl fp => (q_f h__law_pick (hr.mono (by decide)) (by rfl) (qa_cons (q_var 0) (qa_cons (QMF.toE (qf_lst (qa_cons q_int (qa_cons q_int (qa_cons q_int (qa_cons (q_neg (QM.toB q_int)) (qa_cons q_int (qa_cons (q_neg (QM.toB q_int)) (qa_cons q_int (qa_cons (q_neg (QM.toB q_int)) (qa_cons (q_neg (QM.toB q_int)) (qa_cons (q_neg (QM.toB q_int)) qa_nil)))))))))))) qa_nil))))) (pmss_cons (qs_set 9 (by decide) sc__law_row.nd rfl (by first | exact .inl rfl | exact .inr rfl) (q_f h__law_names (hr.mono (by decide)) (by rfl) (qa_cons (q_var 0) (qa_cons (q_var 6) qa_nil)))) (pmss_cons (qs_if (QMW.t (qw_and (QMC.t (q_eq hr (QM.toB (q_f h__law_next (hr.mono (by decide)) (by rfl) (qa_cons (q_var 0) (qa_cons q_int qa_nil)))) (QM.toB q_int))) (qw_and1 (QMC.t (q_ge (QM.toB (q_len (by rfl) (B _ (by decide)) (qb_var 5))) (qb_var 6)))))) (pmss_one (qs_set 9 (by decide) sc__law_row.nd rfl (by first | exact .inl rfl | exact .inr rfl) (q_sl (QMF.toB (qf_rev (qb_var 5))) qo_none (qo_some (qb_var 6))))) pmss_nil) (pmss_cons (qs_set 10 (by decide) sc__law_row.nd rfl (by first | exact .inl rfl | exact .inr rfl) (QMF.toE (qf_zipL rfl (by rfl) (B _ (by decide)) (by rfl) (B _ (by decide)) (qa_cons (q_var 9) (qa_cons (q_var 7) qa_nil))))) (pmss_one (qs_ret (q_tup (qa_cons (q_var 5) (qa_cons (q_var 10) (qa_cons (q_add (QM.toB q_int) (QM.toB (q_f h__law_next (hr.mono (by decide)) (by rfl) (qa_cons (q_var 0) (qa_cons (q_var 3) qa_nil))))) (qa_cons (q_f h__law_next (hr.mono (by decide)) (by rfl) (qa_cons (q_var 0) (qa_cons (q_add (QM.toB q_int) (QM.toB (q_min rfl (by rfl) (B _ (by decide)) (qb_var 4) (QM.toB (q_at hr (QMF.toB (qf_lst (qa_cons q_int (qa_cons q_int (qa_cons q_int qa_nil))))) (QM.toB (q_sub (qb_var 6) (QM.toB q_int)))))))) qa_nil))) qa_nil)))))))))))))
abbrev N__law_weighing : List Str := ["state", "row", "left", "some", "pan"]
theorem sc__law_weighing : FnScope N__law_weighing ["state", "row"] (defScope s__law_weighing) := ⟨rfl, rfl, rfl, by decide +kernel, rfl, by decide +kernel, by decide +kernel⟩
theorem ok__law_weighing (B : Blt mg) (F : Df K mg "_law_weighing" s__law_weighing) (h__law_pick : Has P w K mg base 2 "_law_pick" 2 m__law_pick) : Has P w K mg base 3 "_law_weighing" 2 m__law_weighing :=
  has_of (k := 2) (os := []) (o2 := []) (ol := []) F sc__law_weighing rfl (fun _ _ _ _ _ _ us hl => match us, hl with | [_, _], _ => rfl) (by decide) fun f cdv A outer s H E hr =>
    (pmss_cons (qs_set 2 (by decide) sc__law_weighing.nd rfl (by first | exact .inl rfl | exact .inr rfl) (q_f h__law_pick (hr.mono (by decide)) (by rfl) (qa_cons (q_var 0) (qa_cons (q_add (QMF.toB (qf_lst (qa_cons q_non qa_nil))) (QM.toB (q_at hr (qb_var 1) (QM.toB q_int)))) qa_nil)))) (pmss_cons (q_setLcS [("pan", 4)] 3 (by decide) rfl sc__law_weighing.nd rfl rfl (by rfl) (qi_any (q_add (QMF.toB (qf_lst (qa_cons q_non qa_nil))) (QM.toB (q_at hr (qb_var 1) (QM.toB q_int))))) (blk_of (by kernel_rfl)) (by decide) (fun s H C cl fp => (qg_name 4 (by decide) sc__law_weighing.nd rfl (by first | exact .inl rfl | exact .inr rfl))) (fun s H C cl fp => (qts_one (QMW.t (qw_or (QMC.t (q_isN (qb_var 4) (QM.toB q_non))) (qw_or1 (QMC.t (q_ne hr (qb_var 4) (qb_var 2)))))))) (fun s H C cl fp => (q_var 4))) (pmss_one (qs_ret (q_tup (qa_cons (q_at hr (QM.toB (q_f h__law_pick (hr.mono (by decide)) (by rfl) (qa_cons (q_var 0) (qa_cons (q_at hr (qb_var 1) (QM.toB q_int)) qa_nil)))) (QM.toB q_int)) (qa_cons (q_var 2) (qa_cons (q_f h__law_pick (hr.mono (by decide)) (by rfl) (qa_cons (q_var 0) (qa_cons (q_var 3) qa_nil))) qa_nil))))))))
abbrev N__law_is_parts : List Str := ["row", "items", "some", "one", "pair"]
theorem sc__law_is_parts : FnScope N__law_is_parts ["row", "items"] (defScope s__law_is_parts) := ⟨rfl, rfl, rfl, by decide +kernel, rfl, by decide +kernel, by decide +kernel⟩
theorem ok__law_is_parts (B : Blt mg) (F : Df K mg "_law_is_parts" s__law_is_parts) : Has P w K mg base 1 "_law_is_parts" 2 m__law_is_parts :=
  has_of (k := 0) (os := []) (o2 := []) (ol := []) F sc__law_is_parts rfl (fun _ _ _ _ _ _ us hl => match us, hl with | [_, _], _ => rfl) (by decide) fun f cdv A outer s H E hr =>
    (pmss_cons (qs_set 2 (by decide) sc__law_is_parts.nd rfl (by first | exact .inl rfl | exact .inr rfl) (q_add (QMF.toB (qf_lst (qa_cons q_non qa_nil))) (QM.toB (q_at hr (qb_var 0) (QM.toB q_int))))) (pmss_cons (q_for PassesOwn.never rfl (qi_any (q_var 1)) (qg_name 3 (by decide) sc__law_is_parts.nd rfl (by first | exact .inl rfl | exact .inr rfl)) (pmss_one (qs_if (QMW.t (qw_and (QMC.t (q_notN (qb_var 3) (QM.toB q_non))) (qw_and1 (qt_not (qt_val (q_isT isStr kStr B (by rfl) (by rfl) (by decide) (by decide +kernel) (qb_var 3))))))) (pmss_one (qs_ret q_bl)) pmss_nil))) (pmss_cons (qs_if (QMW.t (qw_or (QMC.t (q_nin hr (QM.toB (q_at hr (qb_var 1) (QM.toB q_int))) (QMF.toB (qf_lc [("pair", 4)] rfl sc__law_is_parts.nd (qi_any (q_at hr (qb_var 0) (QM.toB q_int))) (blk_of (by kernel_rfl)) (by decide) (fun s H C cl fp => (qg_name 4 (by decide) sc__law_is_parts.nd rfl (by first | exact .inl rfl | exact .inr rfl))) (fun s H C cl fp => qts_nil) (fun s H C cl fp => (q_at hr (qb_var 4) (QM.toB q_int))))))) (qw_or (QMC.t (q_nin hr (QM.toB (q_at hr (qb_var 1) (QM.toB q_int))) (qb_var 2))) (qw_or1 (QMC.t (q_nin hr (QM.toB (q_at hr (qb_var 1) (QM.toB q_int))) (qb_var 2))))))) (pmss_one (qs_ret q_bl)) pmss_nil) (pmss_one (qs_ret (q_or (QMC.e (q_isN (QM.toB (q_at hr (qb_var 1) (QM.toB q_int))) (QM.toB q_non))) (q_one (QMC.e (q_ne hr (QM.toB (q_at hr (qb_var 1) (QM.toB q_int))) (QM.toB (q_at hr (qb_var 1) (QM.toB q_int))))))))))))
abbrev N__law_is_weighing : List Str := ["row", "item"]
theorem sc__law_is_weighing : FnScope N__law_is_weighing ["row", "item"] (defScope s__law_is_weighing) := ⟨rfl, rfl, rfl, by decide +kernel, rfl, by decide +kernel, by decide +kernel⟩
theorem ok__law_is_weighing (B : Blt mg) (F : Df K mg "_law_is_weighing" s__law_is_weighing) (h__law_is_parts : Has P w K mg base 1 "_law_is_parts" 2 m__law_is_parts) : Has P w K mg base 2 "_law_is_weighing" 2 m__law_is_weighing :=
  has_of (k := 1) (os := []) (o2 := []) (ol := []) F sc__law_is_weighing rfl (fun _ _ _ _ _ _ us hl => match us, hl with | [_, _], _ => rfl) (by decide) fun f cdv A outer s H E hr =>
    (pmss_one (qs_ret (q_and (q_isT isTup kTuple B (by rfl) (by rfl) (by decide) (by decide +kernel) (qb_var 1)) (q_and (QMC.e (q_eq hr (QM.toB (q_len (by rfl) (B _ (by decide)) (qb_var 1))) (QM.toB q_int))) (q_one (q_f h__law_is_parts (hr.mono (by decide)) (by rfl) (qa_cons (q_var 0) (qa_cons (q_var 1) qa_nil))))))))
abbrev N__law_is_row : List Str := ["row", "item"]
theorem sc__law_is_row : FnScope N__law_is_row ["row", "item"] (defScope s__law_is_row) := ⟨rfl, rfl, rfl, by decide +kernel, rfl, by decide +kernel, by decide +kernel⟩
theorem ok__law_is_row (B : Blt mg) (F : Df K mg "_law_is_row" s__law_is_row) (h__law_is_parts : Has P w K mg base 1 "_law_is_parts" 2 m__law_is_parts) : Has P w K mg base 2 "_law_is_row" 2 m__law_is_row :=
  has_of (k := 1) (os := []) (o2 := []) (ol := []) F sc__law_is_row rfl (fun _ _ _ _ _ _ us hl => match us, hl with | [_, _], _ => rfl) (by decide) fun f cdv A outer s H E hr =>
    (pmss_cons (qs_if (QMW.t (qw_or (qt_not (qt_val (q_isT isTup kTuple B (by rfl) (by rfl) (by decide) (by decide +kernel) (qb_var 1)))) (qw_or (QMC.t (q_ne hr (QM.toB (q_len (by rfl) (B _ (by decide)) (qb_var 1))) (QM.toB q_int))) (qw_or1 (qt_not (qt_val (q_f h__law_is_parts (hr.mono (by decide)) (by rfl) (qa_cons (q_var 0) (qa_cons (q_sl (qb_var 1) qo_none (qo_some (QM.toB q_int))) qa_nil))))))))) (pmss_one (qs_ret q_bl)) pmss_nil) (pmss_one (qs_ret (q_and (q_isT isStr kStr B (by rfl) (by rfl) (by decide) (by decide +kernel) (QM.toB (q_at hr (qb_var 1) (QM.toB q_int)))) (q_one (QMC.e (q_in hr (QM.toB (q_at hr (qb_var 1) (QM.toB q_int))) (QMF.toB (qf_lst (qa_cons q_str (qa_cons q_str (qa_cons q_str qa_nil))))))))))))
abbrev N__law_odd : List Str := ["state", "row", "good", "way", "at", "beams", "names", "pair", "some", "more"]
theorem sc__law_odd : FnScope N__law_odd ["state", "row", "good"] (defScope s__law_odd) := ⟨rfl, rfl, rfl, by decide +kernel, rfl, by decide +kernel, by decide +kernel⟩
theorem ok__law_odd (B : Blt mg) (F : Df K mg "_law_odd" s__law_odd) (h__law_next : Has P w K mg base 1 "_law_next" 2 m__law_next) (h__law_pick : Has P w K mg base 2 "_law_pick" 2 m__law_pick) : Has P w K mg base 3 "_law_odd" 3 m__law_odd :=
  has_of (k := 2) (os := []) (o2 := []) (ol := []) F sc__law_odd rfl (fun _ _ _ _ _ _ us hl => match us, hl with | [_, _, _], _ => rfl) (by decide) fun f cdv A outer s H E hr =>
    (pmss_cons (qs_par2 3 4 rfl sc__law_odd.nd rfl rfl (by decide) rfl rfl (QM.x (q_f h__law_next (hr.mono (by decide)) (by rfl) (qa_cons (q_var 0) (qa_cons q_int qa_nil)))) (QM.x (q_f h__law_next (hr.mono (by decide)) (by rfl) (qa_cons (q_var 0) (qa_cons (q_len (by rfl) (B _ (by decide)) (qb_var 2)) qa_nil)))) (by decide) (by decide) (by rfl)) (pmss_cons (qs_par2 5 6 rfl sc__law_odd.nd rfl rfl (by decide) rfl rfl (QM.x (QMF.toE (qf_lc [("pair", 7)] rfl sc__law_odd.nd (qi_any (q_at hr (qb_var 1) (QM.toB q_int))) (blk_of (by kernel_rfl)) (by decide) (fun s H C cl fp => (qg_name 7 (by decide) sc__law_odd.nd rfl (by first | exact .inl rfl | exact .inr rfl))) (fun s H C cl fp => qts_nil) (fun s H C cl fp => (q_at hr (qb_var 7) (QM.toB q_int)))))) (QM.x (q_add (QMF.toB (qf_lst (qa_cons q_non qa_nil))) (QM.toB (q_at hr (qb_var 1) (QM.toB q_int))))) (by decide) (by decide) (by rfl)) (pmss_cons (qs_set 8 (by decide) sc__law_odd.nd rfl (by first | exact .inl rfl | exact .inr rfl) (QMF.toE (qf_lst (qa_cons q_non (qa_cons q_str (qa_cons q_str (qa_cons q_int (qa_cons q_bl (qa_cons (QMF.toE (qf_lst (qa_cons q_str qa_nil))) (qa_cons (q_tup (qa_cons q_str qa_nil)) (qa_cons (QMF.toE qf_dnew) (qa_cons (q_at hr (qb_var 5) (QM.toB q_int)) (qa_cons (q_at hr (QM.toB (q_at hr (qb_var 1) (QM.toB q_int))) (QM.toB q_int)) (qa_cons q_str (qa_cons q_str (qa_cons q_str (qa_cons q_str (qa_cons q_int qa_nil)))))))))))))))))) (pmss_cons (qs_if (QMC.t (q_lt (qb_var 3) (QM.toB q_int))) (pmss_one (qs_ret (q_add (QM.toB (q_add (QM.toB (q_sl (qb_var 2) qo_none (qo_some (qb_var 4)))) (QM.toB (q_tup (qa_cons (q_f h__law_pick (hr.mono (by decide)) (by rfl) (qa_cons (q_var 0) (qa_cons (q_var 8) qa_nil))) qa_nil))))) (QM.toB (q_sl (qb_var 2) (qo_some (QM.toB (q_add (qb_var 4) (QM.toB q_int)))) qo_none))))) pmss_nil) (pmss_cons (qs_if (QMC.t (q_eq hr (qb_var 3) (QM.toB q_int))) (pmss_one (qs_ret (q_add (QM.toB (q_add (QM.toB (q_sl (qb_var 2) qo_none (qo_some (QM.toB q_int)))) (QM.toB (q_tup (qa_cons (q_at hr (qb_var 2) (QM.toB q_int)) (qa_cons (q_at hr (qb_var 2) (QM.toB q_int)) qa_nil)))))) (QM.toB (q_sl (qb_var 2) (qo_some (QM.toB q_int)) qo_none))))) pmss_nil) (pmss_cons (qs_if (QMC.t (q_eq hr (qb_var 3) (QM.toB q_int))) (pmss_one (qs_ret (q_add (QM.toB (q_add (QM.toB (q_sl (qb_var 2) qo_none (qo_some (QM.toB q_int)))) (QM.toB (q_tup (qa_cons (q_f h__law_pick (hr.mono (by decide)) (by rfl) (qa_cons (q_var 0) (qa_cons (q_var 6) qa_nil))) qa_nil))))) (QM.toB (q_sl (qb_var 2) (qo_some (QM.toB q_int)) qo_none))))) pmss_nil) (pmss_cons (qs_set 9 (by decide) sc__law_odd.nd rfl (by first | exact .inl rfl | exact .inr rfl) (QMF.toE (qf_lst (qa_cons (QMF.toE (qf_list (by rfl) (B _ (by decide)) (qb_var 2))) (qa_cons (q_sl (qb_var 2) qo_none (qo_some (QM.toB (q_neg (QM.toB q_int))))) (qa_cons (q_add (qb_var 2) (QM.toB (q_tup (qa_cons q_non qa_nil)))) (qa_cons (q_add (qb_var 2) (QM.toB (q_tup (qa_cons q_str qa_nil)))) (qa_cons (q_tup qa_nil) (qa_cons q_non (qa_cons q_str (qa_cons q_int (qa_cons (QMF.toE qf_dnew) (qa_cons (q_tup (qa_cons (q_var 2) qa_nil)) (qa_cons (q_revT (qb_var 2)) (qa_cons q_bl qa_nil))))))))))))))) (pmss_one (qs_ret (q_f h__law_pick (hr.mono (by decide)) (by rfl) (qa_cons (q_var 0) (qa_cons (q_add (qb_var 9) (QMF.toB (qf_lst (qa_cons (q_add (QM.toB (q_sl (qb_var 2) qo_none (qo_some (QM.toB q_int)))) (QM.toB (q_tup (qa_cons q_str qa_nil)))) (qa_cons (q_tup (qa_cons (q_sl (qb_var 2) qo_none (qo_some (QM.toB q_int))) (qa_cons (q_sl (qb_var 2) (qo_some (QM.toB q_int)) qo_none) qa_nil))) qa_nil))))) qa_nil))))))))))))
abbrev N__law_item : List Str := ["state", "row", "good"]
theorem sc__law_item : FnScope N__law_item ["state", "row"] (defScope s__law_item) := ⟨rfl, rfl, rfl, by decide +kernel, rfl, by decide +kernel, by decide +kernel⟩
theorem ok__law_item (B : Blt mg) (F : Df K mg "_law_item" s__law_item) (h__law_weighing : Has P w K mg base 3 "_law_weighing" 2 m__law_weighing) (h__law_next : Has P w K mg base 1 "_law_next" 2 m__law_next) (h__law_pick : Has P w K mg base 2 "_law_pick" 2 m__law_pick) (h__law_odd : Has P w K mg base 3 "_law_odd" 3 m__law_odd) : Has P w K mg base 4 "_law_item" 2 m__law_item :=
  has_of (k := 3) (os := []) (o2 := []) (ol := []) F sc__law_item rfl (fun _ _ _ _ _ _ us hl => match us, hl with | [_, _], _ => rfl) (by decide) fun f cdv A outer s H E hr =>
    (pmss_cons (qs_set 2 (by decide) sc__law_item.nd rfl (by first | exact .inl rfl | exact .inr rfl) (q_f h__law_weighing (hr.mono (by decide)) (by rfl) (qa_cons (q_var 0) (qa_cons (q_var 1) qa_nil)))) (pmss_cons (qs_if (QMC.t (q_eq hr (QM.toB (q_f h__law_next (hr.mono (by decide)) (by rfl) (qa_cons (q_var 0) (qa_cons q_int qa_nil)))) (QM.toB q_int))) (pmss_one (qs_set 2 (by decide) sc__law_item.nd rfl (by first | exact .inl rfl | exact .inr rfl) (q_add (qb_var 2) (QM.toB (q_tup (qa_cons (q_f h__law_pick (hr.mono (by decide)) (by rfl) (qa_cons (q_var 0) (qa_cons (QMF.toE (qf_lst (qa_cons q_str (qa_cons q_str (qa_cons q_str qa_nil))))) qa_nil))) qa_nil)))))) pmss_nil) (pmss_one (qs_ret (q_if (QMC.t (q_eq hr (QM.toB (q_f h__law_next (hr.mono (by decide)) (by rfl) (qa_cons (q_var 0) (qa_cons q_int qa_nil)))) (QM.toB q_int))) (q_var 2) (q_f h__law_odd (hr.mono (by decide)) (by rfl) (qa_cons (q_var 0) (qa_cons (q_var 1) (qa_cons (q_var 2) qa_nil)))))))))
abbrev N__law_all : List Str := ["row", "found", "some", "beam", "step", "left", "right"]
theorem sc__law_all : FnScope N__law_all ["row"] (defScope s__law_all) := ⟨rfl, rfl, rfl, by decide +kernel, rfl, by decide +kernel, by decide +kernel⟩
theorem ok__law_all (B : Blt mg) (F : Df K mg "_law_all" s__law_all) : HasN P w K mg base 1 "_law_all" 1 m__law_all :=
  hasN_of (k := 0) (os := [1]) (o2 := [1]) (ol := []) F sc__law_all rfl (fun _ _ _ _ _ _ us hl => match us, hl with | [_], _ => rfl) (by decide) (noend_seq (noend_seq noend_ret)) fun f cdv A outer s H E hr =>
    (pmss_cons (qs_par2 1 2 rfl sc__law_all.nd rfl rfl (by decide) rfl rfl (QMF.x (qf_lst qa_nil)) (QM.x (q_add (QMF.toB (qf_lst (qa_cons q_non qa_nil))) (QM.toB (q_at hr (qb_var 0) (QM.toB q_int))))) (by decide) (by decide) (by rfl)) (pmss_cons (q_for PassesOwn.never rfl (qi_any (q_at hr (qb_var 0) (QM.toB q_int))) (qg_tup rfl (qgs_cons (qg_name 3 (by decide) sc__law_all.nd rfl (by first | exact .inl rfl | exact .inr rfl)) (qgs_cons (qg_name 4 (by decide) sc__law_all.nd rfl (by first | exact .inl rfl | exact .inr rfl)) qgs_nil)) (gs_len_cons (gs_len_cons gs_len_nil))) (pmss_one (q_for PassesOwn.never rfl (qi_any (q_var 2)) (qg_name 5 (by decide) sc__law_all.nd rfl (by first | exact .inl rfl | exact .inr rfl)) (pmss_one (q_for PassesOwn.never rfl (qi_any (q_var 2)) (qg_name 6 (by decide) sc__law_all.nd rfl (by first | exact .inl rfl | exact .inr rfl)) (pmss_one (qs_if (QMW.t (qw_or (QMC.t (q_isN (qb_var 5) (QM.toB q_non))) (qw_or1 (QMC.t (q_ne hr (qb_var 5) (qb_var 6)))))) (pmss_one (qs_app 1 (q_tup (qa_cons (q_var 3) (qa_cons (q_var 5) (qa_cons (q_var 6) qa_nil)))))) pmss_nil))))))) (pmss_one (pms_retO 1))))
abbrev N__law_refused : List Str := ["work", "error", "e"]
theorem sc__law_refused : FnScope N__law_refused ["work"] (defScope s__law_refused) := ⟨rfl, rfl, rfl, by decide +kernel, rfl, by decide +kernel, by decide +kernel⟩
theorem ok__law_refusedC (lm : LMYs) (B : Blt mg) (F : Df K mg "_law_refused" s__law_refused) (ix_NoRow : IsX K mg "NoRow" [("NoRow", true), ("NoPan", false), ("NoBeam", false)]) (xf_NoRow_at : HasXF K mg "NoRow" "at") (ct_BeamError : CatT K mg "BeamError" ["NoRow", "NoPan", "NoBeam"]) (ixs_NoBeam_NoPan : IsXs K mg ["NoBeam", "NoPan"] [("NoRow", false), ("NoPan", true), ("NoBeam", true)]) (hLMY : HasLY P w K mg base 7 lm) : Has P w K mg base 8 "_law_refused" 1 (m__law_refusedC lm) :=
  has_of (k := 7) (os := []) (o2 := []) (ol := []) F sc__law_refused rfl (fun _ _ _ _ _ _ us hl => match us, hl with | [_], _ => rfl) (by decide) fun f cdv A outer s H E hr =>
    (pmss_cons (qs_set 1 (by decide) sc__law_refused.nd rfl (by first | exact .inl rfl | exact .inr rfl) q_non) (pmss_cons (qs_tryK 1 2 ct_BeamError (by rfl) sc__law_refused.nd rfl rfl rfl rfl rfl rfl rfl (by decide) (by decide) fun W pn xe tk hp => qy_callV 0 tk hLMY (hr.mono (by decide))) (pmss_cons (qs_if (QMC.t (q_isN (qb_var 1) (QM.toB q_non))) (pmss_one (qs_ret q_non)) pmss_nil) (pmss_cons (qs_if (QMW.t (qw_or (qt_not (qt_val (q_isX ix_NoRow B (by rfl) (by rfl) (qb_var 1)))) (qw_or (qt_val (q_isX2 ixs_NoBeam_NoPan B (by rfl) (by rfl) (by rfl) (qb_var 1))) (qw_or1 (qt_val (q_isT isBl kBool B (by rfl) (by rfl) (by decide) (by decide +kernel) (QM.toB (q_xf xf_NoRow_at (q_var 1))))))))) (pmss_one (qs_ret q_str)) pmss_nil) (pmss_one (qs_ret (q_xf xf_NoRow_at (q_var 1))))))))
def lt_law_0 : LamT := lamT "law" (lamAt (topS 53) 12 0)
theorem oky_law_0 (B : Blt mg) (hU_y_need_log : ∀ (T2 : Tab) (b2 : Heap), Wid T0 base T2 b2 → HasY P w K mg b2 6 "need_log" false 2 my_need_log) : ULOkY T0 base P w K mg 7 lt_law_0 ["court", "handed"] my_law_0 := fun T2 b2 cl vs W hc => by
  have y_need_log := hU_y_need_log T2 b2 W
  exact LOkY.mono (j := 7) (lokY_of (L := lamC lt_law_0 cl vs) (k := 6) (N := ["court", "handed"]) (ps := []) (fr := ["court", "handed"]) (NdefX.nscope_by (show NdefX.nscB ["court", "handed"] [] ["court", "handed"] lt_law_0.scope = true by decide +kernel)) rfl hc (fun _ _ _ us hl => match us, hl with | [], _ => rfl) fun f c A outer s H E hr tk =>
    (qy_f tk y_need_log (hr.mono (by decide)) (by rfl) (qa_cons (q_var 0) (qa_cons (q_var 1) qa_nil)))) (by decide)
def lt_law_1 : LamT := lamT "law" (lamAt (topS 53) 13 0)
theorem oky_law_1 (B : Blt mg) (hU_yK_need_log : ∀ (T2 : Tab) (b2 : Heap), Wid T0 base T2 b2 → HasKY P w K mg b2 6 "need_log" false 2 ["log", "yard"] [1, 0] my_need_log) : ULOkY T0 base P w K mg 7 lt_law_1 ["handed", "court"] my_law_1 := fun T2 b2 cl vs W hc => by
  have yK_need_log := hU_yK_need_log T2 b2 W
  exact LOkY.mono (j := 7) (lokY_of (L := lamC lt_law_1 cl vs) (k := 6) (N := ["handed", "court"]) (ps := []) (fr := ["handed", "court"]) (NdefX.nscope_by (show NdefX.nscB ["handed", "court"] [] ["handed", "court"] lt_law_1.scope = true by decide +kernel)) rfl hc (fun _ _ _ us hl => match us, hl with | [], _ => rfl) fun f c A outer s H E hr tk =>
    (qy_k tk yK_need_log (hr.mono (by decide)) (by rfl) (qk_cons (q_var 0) (qk_cons (q_var 1) qk_nil)))) (by decide)
abbrev N_law : List Str := ["script", "state", "row", "court", "turn", "item", "kept", "told", "due", "rows", "at", "wrong", "handed", "found"]
theorem sc_law : FnScope N_law ["script"] (defScope s_law) := ⟨rfl, rfl, rfl, by decide +kernel, rfl, by decide +kernel, by decide +kernel⟩
theorem body_law (B : Blt mg) (h__law_row : Has P w K mg base 4 "_law_row" 5 m__law_row) (h__law_item : Has P w K mg base 4 "_law_item" 2 m__law_item) (h_is_row : Has P w K mg base 5 "is_row" 2 m_is_row) (h_is_weighing : Has P w K mg base 5 "is_weighing" 2 m_is_weighing) (h__law_is_row : Has P w K mg base 2 "_law_is_row" 2 m__law_is_row) (h__law_is_weighing : Has P w K mg base 2 "_law_is_weighing" 2 m__law_is_weighing) (h__law_next : Has P w K mg base 1 "_law_next" 2 m__law_next) (h__law_weighing : Has P w K mg base 3 "_law_weighing" 2 m__law_weighing) (h__law_pick : Has P w K mg base 2 "_law_pick" 2 m__law_pick) (h_weighings : HasN P w K mg base 4 "weighings" 1 m_weighings) (h__law_all : HasN P w K mg base 1 "_law_all" 1 m__law_all) (h_need_log : Has P w K mg base 6 "need_log" 2 m_need_log) (hI_Yard : HasI P w K mg base 5 "Yard" 2 ["most", "lean"] m_Yard_init) (hK_is_row : HasK P w K mg base 5 "is_row" 2 ["thing", "yard"] [1, 0] m_is_row) (hK_is_weighing : HasK P w K mg base 5 "is_weighing" 2 ["thing", "yard"] [1, 0] m_is_weighing) (hK_weighings : HasKN P w K mg base 4 "weighings" 1 ["yard"] [0] m_weighings) (hy_law_0 : Tab.L "law_0" = none) (hUl_law_0 : ULOkY T0 base P w K mg 7 lt_law_0 ["court", "handed"] my_law_0) (hy_law_1 : Tab.L "law_1" = none) (hUl_law_1 : ULOkY T0 base P w K mg 7 lt_law_1 ["handed", "court"] my_law_1) (hUg__law_refused : UHasLY T0 base P w K mg 7 8 "_law_refused" 1 m__law_refusedC) (f : Addr) (cdv : Value) (A : Around) (outer : List Env) (s : Shared) (H : Hp) (E : XK) (hr : Room 8 (A.deeper (envOfC "law" (defScope s_law) s.heap.objs.size f cdv))) (hgd : (A.deeper (envOfC "law" (defScope s_law) s.heap.objs.size f cdv)).guards = some []) (hlh : LamHere (cxOf CX0 P w K mg base N_law "law" (defScope s_law) f cdv A outer s H E).nox) :
    PMSs (cxOf CX0 P w K mg base N_law "law" (defScope s_law) f cdv A outer s H E).nox false [] [] [] ((defBody s_law).drop 1) b_law :=
  (pmss_cons (qs_set 2 (by decide) sc_law.nd rfl (by first | exact .inl rfl | exact .inr rfl) (q_f h__law_row (hr.mono (by decide)) (by rfl) (qa_cons (q_var 1) (qa_cons q_int (qa_cons q_int (qa_cons q_int (qa_cons q_int qa_nil))))))) (pmss_cons (qs_set 3 (by decide) sc_law.nd rfl (by first | exact .inl rfl | exact .inr rfl) (q_mk hI_Yard (hr.mono (by decide)) (by rfl) (qa_cons (q_at hr (qb_var 2) (QM.toB q_int)) (qa_cons (q_at hr (qb_var 2) (QM.toB q_int)) qa_nil)) (qk_cons (q_at hr (qb_var 2) (QM.toB q_int)) (qk_cons (q_at hr (qb_var 2) (QM.toB q_int)) qk_nil)))) (pmss_cons (q_for PassesOwn.never rfl (qi_range1 (by rfl) (B _ (by decide)) (qa_cons q_int qa_nil) (h1 := aLen1)) (qg_name 4 (by decide) sc_law.nd rfl (by first | exact .inl rfl | exact .inr rfl)) (pmss_cons (qs_set 5 (by decide) sc_law.nd rfl (by first | exact .inl rfl | exact .inr rfl) (q_f h__law_item (hr.mono (by decide)) (by rfl) (qa_cons (q_var 1) (qa_cons (q_var 2) qa_nil)))) (pmss_cons (qs_set 6 (by decide) sc_law.nd rfl (by first | exact .inl rfl | exact .inr rfl) (q_repr hr hgd (by rfl) (B _ (by decide)) (qb_var 5))) (pmss_cons (qs_set 7 (by decide) sc_law.nd rfl (by first | exact .inl rfl | exact .inr rfl) (QMF.toE (qf_lst (qa_cons (q_f h_is_weighing (hr.mono (by decide)) (by rfl) (qa_cons (q_var 3) (qa_cons (q_var 5) qa_nil))) (qa_cons (q_f h_is_row (hr.mono (by decide)) (by rfl) (qa_cons (q_var 3) (qa_cons (q_var 5) qa_nil))) qa_nil))))) (pmss_cons (qs_set 7 (by decide) sc_law.nd rfl (by first | exact .inl rfl | exact .inr rfl) (q_add (qb_var 7) (QMF.toB (qf_lst (qa_cons (q_k hK_is_weighing (hr.mono (by decide)) (by rfl) (qk_cons (q_var 5) (qk_cons (q_var 3) qk_nil))) (qa_cons (q_k hK_is_row (hr.mono (by decide)) (by rfl) (qk_cons (q_var 5) (qk_cons (q_var 3) qk_nil))) qa_nil)))))) (pmss_cons (qs_set 8 (by decide) sc_law.nd rfl (by first | exact .inl rfl | exact .inr rfl) (QMF.toE (qf_lst (qa_cons (q_f h__law_is_weighing (hr.mono (by decide)) (by rfl) (qa_cons (q_var 2) (qa_cons (q_var 5) qa_nil))) (qa_cons (q_f h__law_is_row (hr.mono (by decide)) (by rfl) (qa_cons (q_var 2) (qa_cons (q_var 5) qa_nil))) qa_nil))))) (pmss_one (qs_if (QMW.t (qw_or (QMC.t (q_ne hr (QM.toB (q_repr hr hgd (by rfl) (B _ (by decide)) (qb_var 7))) (QM.toB (q_repr hr hgd (by rfl) (B _ (by decide)) (QM.toB (q_add (qb_var 8) (qb_var 8))))))) (qw_or1 (QMC.t (q_ne hr (QM.toB (q_repr hr hgd (by rfl) (B _ (by decide)) (qb_var 5))) (qb_var 6)))))) (pmss_one (qs_ret q_bl)) pmss_nil)))))))) (pmss_cons (qs_setO 9 (by decide) sc_law.nd rfl (by first | exact .inl rfl | exact .inr rfl) (qf_lst qa_nil)) (pmss_cons (q_for PassesOwn.never rfl (qi_range1 (by rfl) (B _ (by decide)) (qa_cons (q_f h__law_next (hr.mono (by decide)) (by rfl) (qa_cons (q_var 1) (qa_cons q_int qa_nil))) qa_nil) (h1 := aLen1)) (qg_name 4 (by decide) sc_law.nd rfl (by first | exact .inl rfl | exact .inr rfl)) (pmss_one (qs_app 9 (q_add (QM.toB (q_f h__law_weighing (hr.mono (by decide)) (by rfl) (qa_cons (q_var 1) (qa_cons (q_var 2) qa_nil)))) (QM.toB (q_tup (qa_cons (q_f h__law_pick (hr.mono (by decide)) (by rfl) (qa_cons (q_var 1) (qa_cons (QMF.toE (qf_lst (qa_cons q_str (qa_cons q_str (qa_cons q_str qa_nil))))) qa_nil))) qa_nil))))))) (pmss_cons (q_for PassesOwn.never rfl (qi_range1 (by rfl) (B _ (by decide)) (qa_cons (q_f h__law_next (hr.mono (by decide)) (by rfl) (qa_cons (q_var 1) (qa_cons q_int qa_nil))) qa_nil) (h1 := aLen1)) (qg_name 4 (by decide) sc_law.nd rfl (by first | exact .inl rfl | exact .inr rfl)) (pmss_cons (qs_set 10 (by decide) sc_law.nd rfl (by first | exact .inl rfl | exact .inr rfl) (q_f h__law_next (hr.mono (by decide)) (by rfl) (qa_cons (q_var 1) (qa_cons (q_add (QM.toB (q_len (by rfl) (B _ (by decide)) (qb_var 9))) (QM.toB q_int)) qa_nil)))) (pmss_one (qs_insA 9 (qa_cons (q_var 10) (qa_cons (q_f h__law_item (hr.mono (by decide)) (by rfl) (qa_cons (q_var 1) (qa_cons (q_var 2) qa_nil))) qa_nil)))))) (pmss_frz 9 (os1 := []) (pmss_cons (q_setLcS [("at", 10)] 11 (by decide) rfl sc_law.nd rfl rfl (by rfl) (qi_range1 (by rfl) (B _ (by decide)) (qa_cons (q_len (by rfl) (B _ (by decide)) (qb_var 9)) qa_nil) (h1 := aLen1)) (blk_of (by kernel_rfl)) (by decide) (fun s H C cl fp => (qg_name 10 (by decide) sc_law.nd rfl (by first | exact .inl rfl | exact .inr rfl))) (fun s H C cl fp => (qts_one (qt_not (qt_val (q_f h__law_is_row (hr.mono (by decide)) (by rfl) (qa_cons (q_var 2) (qa_cons (q_at hr (qb_var 9) (qb_var 10)) qa_nil))))))) (fun s H C cl fp => (q_var 10))) (pmss_cons (qs_set 8 (by decide) sc_law.nd rfl (by first | exact .inl rfl | exact .inr rfl) (q_if (QMC.t (q_ne hr (qb_var 11) (QMF.toB (qf_lst qa_nil)))) (q_at hr (qb_var 11) (QM.toB q_int)) q_non)) (pmss_cons (qs_set 12 (by decide) sc_law.nd rfl (by first | exact .inl rfl | exact .inr rfl) (q_at hr (QMF.toB (qf_lst (qa_cons (q_var 9) (qa_cons (q_tuple (by rfl) (B _ (by decide)) (qb_var 9)) qa_nil)))) (QM.toB (q_f h__law_next (hr.mono (by decide)) (by rfl) (qa_cons (q_var 1) (qa_cons q_int qa_nil)))))) (pmss_cons (qs_if (QMW.t (qw_and (QMC.t (q_eq hr (qb_var 11) (QMF.toB (qf_lst qa_nil)))) (qw_and1 (QMC.t (q_eq hr (QM.toB (q_f h__law_next (hr.mono (by decide)) (by rfl) (qa_cons (q_var 1) (qa_cons q_int qa_nil)))) (QM.toB q_int)))))) (pmss_one (qs_asg (q_tup (qa_cons (q_f h__law_pick (hr.mono (by decide)) (by rfl) (qa_cons (q_var 1) (qa_cons (QMF.toE (qf_lst (qa_cons q_non (qa_cons q_int (qa_cons q_str (qa_cons (QMF.toE qf_dnew) (qa_cons q_bl (qa_cons (QMF.toE (qf_disp (qp_cons q_str q_int qp_nil))) qa_nil)))))))) qa_nil))) (qa_cons q_int qa_nil))) (qg_tup rfl (qgs_cons (qg_name 12 (by decide) sc_law.nd rfl (by first | exact .inl rfl | exact .inr rfl)) (qgs_cons (qg_name 8 (by decide) sc_law.nd rfl (by first | exact .inl rfl | exact .inr rfl)) qgs_nil)) (gs_len_cons (gs_len_cons gs_len_nil))))) pmss_nil) (pmss_cons (qs_set 6 (by decide) sc_law.nd rfl (by first | exact .inl rfl | exact .inr rfl) (q_repr hr hgd (by rfl) (B _ (by decide)) (qb_var 12))) (pmss_cons (qs_setO 13 (by decide) sc_law.nd rfl (by first | exact .inl rfl | exact .inr rfl) (qf_lst (qa_cons (q_callLY "law_0" [3, 12] hlh hy_law_0 hUg__law_refused hUl_law_0 (hr.mono (by decide)) (by rfl)) qa_nil))) (pmss_cons (qs_app 13 (q_callLY "law_1" [12, 3] hlh hy_law_1 hUg__law_refused hUl_law_1 (hr.mono (by decide)) (by rfl))) (pmss_cons (qs_if (QMW.t (qw_or (QMC.t (q_ne hr (QM.toB (q_repr hr hgd (by rfl) (B _ (by decide)) (qb_var 13))) (QM.toB (q_repr hr hgd (by rfl) (B _ (by decide)) (QMF.toB (qf_lst (qa_cons (q_var 8) (qa_cons (q_var 8) qa_nil)))))))) (qw_or1 (QMC.t (q_ne hr (QM.toB (q_repr hr hgd (by rfl) (B _ (by decide)) (qb_var 12))) (qb_var 6)))))) (pmss_one (qs_ret q_bl)) pmss_nil) (pmss_cons (qs_setO 7 (by decide) sc_law.nd rfl (by first | exact .inl rfl | exact .inr rfl) (qf_f h_weighings (hr.mono (by decide)) (by rfl) (qa_cons (q_var 3) qa_nil))) (pmss_cons (qs_if (QMC.t (q_ne hr (QM.toB (q_repr hr hgd (by rfl) (B _ (by decide)) (qb_var 7))) (QM.toB (q_repr hr hgd (by rfl) (B _ (by decide)) (QMF.toB (qf_f h__law_all (hr.mono (by decide)) (by rfl) (qa_cons (q_var 2) qa_nil))))))) (pmss_one (qs_ret q_bl)) pmss_nil) (pmss_cons (pms_clrL 7) (pmss_one (qs_ret (q_and (QMC.e (q_eq hr (QM.toB (q_repr hr hgd (by rfl) (B _ (by decide)) (QMF.toB (qf_k hK_weighings (hr.mono (by decide)) (by rfl) (qk_cons (q_var 3) qk_nil))))) (QM.toB (q_repr hr hgd (by rfl) (B _ (by decide)) (QMF.toB (qf_f h__law_all (hr.mono (by decide)) (by rfl) (qa_cons (q_var 2) qa_nil))))))) (q_one (q_or (QMC.e (q_notN (qb_var 8) (QM.toB q_non))) (q_one (QMC.e (q_isN (QM.toB (q_f h_need_log (hr.mono (by decide)) (by rfl) (qa_cons (q_var 3) (qa_cons (q_var 12) qa_nil)))) (QM.toB q_non)))))))))))))))))))))))))))
end
theorem sc_begun : FnScope ["script", "great", "cell"] ["script"] (defScope s_begun) := ⟨rfl, rfl, rfl, by decide +kernel, rfl, by decide +kernel, by decide +kernel⟩
section
variable {P : Program} {w : World} {K : PySem.W.Frag} {mg : Str → Option Value} {base : Heap}
theorem lc_ints {K : PySem.W.Frag} {tt : TT} {te : TE} {H1 : Hp} {a D : Addr} {ns : List Int} {Qd : Hp → Prop} {y0 y1 y2 : Option V} (f : Int → Bool) (h : Int → Int) (hS : SqL K H1 a (ns.map V.int)) (hlen : ns.length ≤ 1000) (hD : H1 D = none)
    (ht : ∀ c H Q, Q (f c) H → tt [y0, y1, some (.int c)] H Q) (he : ∀ c H Q, Q (.int (h c)) H → te [y0, y1, some (.int c)] H Q)
    (hd : ∀ H', (∀ b o, H1 b = some o → H' b = some o) → H' D = some (.lst (((ns.filter f).map h).map V.int)) → Qd H') :
    ∃ W : Nat → Nat → Hp → Prop, (∃ m, W 0 m (upd H1 D (.lst []))) ∧ ∀ i m H, W i m H →
      ((Itl K a).stop i H ∧ Qd H) ∨ ((Itl K a).go i H ∧ ∃ Nx : Hp → Prop, (∀ H', Nx H' → ∃ m', m' < m ∧ W (i + 1) m' H') ∧ ∀ x H', (Itl K a).yld i H x H' → gName 2 x (wipe [y0, y1, y2] [2]) H' fun σ2 H2 => wipe σ2 [2] = wipe [y0, y1, y2] [2] ∧ tt σ2 H2 fun b H3 =>
        if b = true then te σ2 H3 fun y H4 => ∃ acc, H4 D = some (.lst acc) ∧ acc.length < sizeLine ∧ Nx (upd H4 D (.lst (acc ++ [y]))) else Nx H3) := by
  have keep : ∀ {H' : Hp} {o : HO}, (∀ b o, H1 b = some o → H' b = some o) → ∀ b u, H1 b = some u → upd H' D o b = some u := fun {H' o} k b u e => by
    rw [upd_ne (ne_of_none e hD)]
    exact k b u e
  refine lc_list (fun i H' => (∀ b o, H1 b = some o → H' b = some o) ∧ H' D = some (.lst ((((ns.take i).filter f).map h).map V.int))) ⟨keep fun _ _ e => e, upd_same⟩ (fun i H' _ p => Le.l (fun b o e => p.1 b o e) hS) (fun i x H' hx p => ?_) fun H' p => hd H' p.1 (by rw [List.length_map, List.take_length] at p; exact p.2)
  obtain ⟨p1, p2⟩ := p
  rw [List.getElem?_map] at hx
  cases hc : ns[i]? with
  | none => rw [hc] at hx; cases hx
  | some c =>
    rw [hc] at hx
    cases hx
    have tk : ns.take (i + 1) = ns.take i ++ [c] := by
      rw [List.take_add_one, hc]; rfl
    refine ⟨rfl, ht c H' _ ?_⟩
    cases hf : f c with
    | true =>
      rw [if_pos rfl]
      refine he c H' _ ⟨_, p2, ?_, keep p1, ?_⟩
      · rw [List.length_map, List.length_map]
        exact Nat.lt_of_le_of_lt (List.length_filter_le _ _) (small1000 (by rw [List.length_take]; omega))
      · rw [upd_same, tk, List.filter_append]
        simp [hf]
    | false =>
      rw [if_neg Bool.false_ne_true]
      refine ⟨p1, ?_⟩
      rw [p2, tk, List.filter_append]
      simp [hf]
theorem ok_begun {f : Addr} {fd : FuncData} (F : Fun K "_law_begun" "_law_begun" s_begun f fd) (B : Blt mg) : FnOk P w K mg base CX0 1 f fd ["script"] (spBegun K) := by
  refine F.ok sc_begun (fun vs H Q E h => ?_) fun cdv A outer s H vs Q E hr h => ?_
  · obtain ⟨a, ns, e, _⟩ := h
    subst e
    rfl
  · obtain ⟨a, ns, e, hS, hlen, hT, k⟩ := h
    subst e
    refine ⟨_, pss_cons (ps_setLc (i := 1) (own := [("cell", 2)]) rfl sc_begun.nd rfl rfl (by rfl) (pi_list (pv 0)) (blk_of (by kernel_rfl)) (fun s H C cl fp => pg_name (i := 2) sc_begun.nd rfl (.inl rfl))
        (fun s H C cl fp => pts_one (pt_cmpR op_ge (pe_callB call_abs (by rfl) (B _ (by decide)) boot_abs (pa_cons (pv 2) pa_nil)) (pe_op op_pow pe_int pe_int) (nomark _)))
        (fun s H C cl fp => pe_op op_fdivW (pe_callB call_abs (by rfl) (B _ (by decide)) boot_abs (pa_cons (pv 2) pa_nil)) (pe_op op_pow pe_int pe_int)))
      (pss_one (ps_ret (pe_disp (pps_cons pe_str pe_int (pps_cons pe_str (pv 1) (pps_cons pe_str (pe_lc (own := [("cell", 2)]) rfl sc_begun.nd (pi_list (pv 0)) (blk_of (by kernel_rfl)) (fun s H C cl fp => pg_name (i := 2) sc_begun.nd rfl (.inl rfl)) (fun s H C cl fp => pts_nil)
        (fun s H C cl fp => pe_op op_mod (pe_callB call_abs (by rfl) (B _ (by decide)) boot_abs (pa_cons (pv 2) pa_nil)) (pe_op op_pow pe_int pe_int))) (pps_cons pe_str pe_int pps_nil)))) rfl rfl (fun z => nomatch z) (by decide)))), ?_⟩
    have pw : CPow 10 18 := ⟨by decide, by decide, by decide⟩
    refine ⟨_, rfl, a, rfl, ⟨_, hS⟩, fun g hg => lc_ints (y0 := some (.ref a)) (y1 := none) (y2 := none) (fun c => decide ((10 : Int) ^ 18 ≤ absI c)) (fun c => absI c / 10 ^ 18) hS hlen hg (fun c H Q q => ⟨_, rfl, c, rfl, 10, 18, rfl, rfl, pw, absI c, 10 ^ 18, rfl, rfl, _, rfl, q⟩)
      (fun c H Q q => ⟨_, rfl, c, rfl, 10, 18, rfl, rfl, pw, absI c, 10 ^ 18, rfl, rfl, ⟨by decide, by decide⟩, q⟩) fun H1 k1 g1 => ?_⟩
    intro p hp
    have np : ∀ b o, H1 b = some o → upd H1 p (.dK []) b = some o := fun b o e => by rw [upd_ne (ne_of_none e hp)]; exact e
    refine ⟨_, rfl, _, rfl, a, rfl, ⟨_, Le.l (fun b o e => np b o (k1 b o e)) hS⟩, fun c hc => lc_ints (y0 := some (.ref a)) (y1 := some (.ref g)) (y2 := none) (fun _ => true) (fun c => absI c % 10 ^ 18) (Le.l (fun b o e => np b o (k1 b o e)) hS) hlen hc (fun c H Q q => q)
      (fun c H Q q => ⟨_, rfl, c, rfl, 10, 18, rfl, rfl, pw, absI c, 10 ^ 18, rfl, rfl, (show (0 : Int) < 10 ^ 18 by decide), q⟩) fun H2 k2 c2 => ?_⟩
    have gp : g ≠ p := ne_of_none g1 hp
    have pc : p ≠ c := ne_of_none (H := upd H1 p (.dK [])) upd_same hc
    have gc : g ≠ c := ne_of_none (np _ _ g1) hc
    have h2p : H2 p = some (.dK []) := k2 p _ upd_same
    have me : mergeK [] (stK ⟨p, g, c, fun _ => none, tabW⟩ (begunD ns)) = stK ⟨p, g, c, fun _ => none, tabW⟩ (begunD ns) := by kernel_rfl
    refine ⟨h2p, stK ⟨p, g, c, fun _ => none, tabW⟩ (begunD ns), rfl, (show 4 ≤ 15 by decide), ?_⟩
    rw [me]
    have st : StR ⟨p, g, c, fun _ => none, tabW⟩ (upd H2 p (.dK (stK ⟨p, g, c, fun _ => none, tabW⟩ (begunD ns)))) (begunD ns) := {
      s := upd_same
      g := by
        show upd H2 p _ g = _
        rw [upd_ne gp]
        exact k2 g _ (np _ _ g1)
      c := by
        show upd H2 p _ c = _
        rw [upd_ne (Ne.symm pc), c2, List.filter_eq_self.mpr fun _ _ => rfl]
        rfl
      gc := gc
      l := fun b vs e => nomatch e
      w := fun b F e => by
        obtain ⟨q, hq, _⟩ := tabW_mem e
        have h0 := (hT _ hq).1
        have h1 := k1 _ _ h0
        have h2 := k2 _ _ (np _ _ h1)
        have z1 : b ≠ p := fun z => by rw [z, hp] at h1; cases h1
        refine ⟨(by rw [upd_ne z1, h2]; exact fun z => (nomatch z)), z1, fun z => ?_, fun z => ?_, rfl⟩
        · have z : b = g := z
          rw [z, hg] at h0; cases h0
        · have z : b = c := z
          rw [z] at h1
          have hc' := hc
          rw [upd_ne (Ne.symm pc)] at hc'
          rw [hc'] at h1; cases h1
      t := fun p hp => tabW_of hp }
    have none_of : ∀ b, H1 b = none → H b = none := fun b hb => by
      cases q : H b with
      | none => rfl
      | some o => rw [k1 b o q] at hb; cases hb
    have hc1 : H1 c = none := by
      rw [upd_ne (Ne.symm pc)] at hc
      exact hc
    refine k ⟨p, g, c, fun _ => none, tabW⟩ _ st (fun b o e => ?_) (none_of p hp) hg (none_of c hc1) (fun _ => rfl) (fun _ => rfl)
    · have e1 := k1 b o e
      rw [upd_ne (ne_of_none e1 hp)]
      exact k2 b o (np b o e1)
end
end K3
end
section
set_option maxHeartbeats 1000000
namespace K3
open PySem PySem.Spec PyProof.Rows L2 Mir Cm
variable [T0 : Tab]
section
variable {P : Program} {w : World} {K : PySem.W.Frag} {mg : Str → Option Value} {base : Heap}
structure Top (K : PySem.W.Frag) (mg : Str → Option Value) : Prop where
  B : Blt mg
  d__law_begun : Df K mg "_law_begun" s_begun
  d_is_name : Df K mg "is_name" s_is_name
  g_SMALL : GD K mg "SMALL" (.str "abcdefghijklmnopqrstuvwxyz")
  g_LONGEST : GD K mg "LONGEST" (.int 8)
  d_is_whole : Df K mg "is_whole" s_is_whole
  d_is_from : Df K mg "is_from" s_is_from
  d_are_names : Df K mg "are_names" s_are_names
  d_is_beam : Df K mg "is_beam" s_is_beam
  g_MOST_STEP : GD K mg "MOST_STEP" (.int 5)
  d_are_beams : Df K mg "are_beams" s_are_beams
  g_MOST_BEAMS : GD K mg "MOST_BEAMS" (.int 3)
  d_tuples_of : Df K mg "tuples_of" s_tuples_of
  d_Yard_init : DfI K mg "Yard" "Yard.__init__" s_Yard_init
  g_MOST_THINGS : GD K mg "MOST_THINGS" (.int 8)
  g_MOST_LEAN : GD K mg "MOST_LEAN" (.int 9)
  g_MOST_WEIGHT : GD K mg "MOST_WEIGHT" (.int 100)
  g_MOST_TUPLES : GD K mg "MOST_TUPLES" (.int 400)
  f_Yard_thing_names : HasF K mg "Yard" "thing_names"
  f_Yard_beam_steps : HasF K mg "Yard" "beam_steps"
  f_Yard_heaviest : HasF K mg "Yard" "heaviest"
  f_Yard_farthest : HasF K mg "Yard" "farthest"
  d_Yard_things : DfM K mg "Yard" "things" "Yard.things" s_Yard_things
  d_Yard_beams : DfM K mg "Yard" "beams" "Yard.beams" s_Yard_beams
  d_pans : Df K mg "pans" s_pans
  d_need_pan : Df K mg "need_pan" s_need_pan
  d_need_beam : Df K mg "need_beam" s_need_beam
  d_ex_NoPan : DfX K mg "NoPan" "pan" "NoPan.__init__" s_NoPan_init
  b_BeamError : DfB K mg "BeamError"
  d_ex_NoBeam : DfX K mg "NoBeam" "beam" "NoBeam.__init__" s_NoBeam_init
  d_are_parts : Df K mg "are_parts" s_are_parts
  ct2_NoBeam_NoPan : CatT2 K mg "NoBeam" "NoPan" ["NoPan", "NoBeam"]
  d_is_weighing : Df K mg "is_weighing" s_is_weighing
  d_is_row : Df K mg "is_row" s_is_row
  g_WORDS : GD K mg "WORDS" (.rot [(.str "left"), (.str "even"), (.str "right")])
  d_need_log : Df K mg "need_log" s_need_log
  d_ex_NoRow : DfX K mg "NoRow" "at" "NoRow.__init__" s_NoRow_init
  d_weighings_at : Df K mg "weighings_at" s_weighings_at
  d_weighings : Df K mg "weighings" s_weighings
  d__law_next : Df K mg "_law_next" s__law_next
  d__law_pick : Df K mg "_law_pick" s__law_pick
  d__law_names : Df K mg "_law_names" s__law_names
  d__law_row : Df K mg "_law_row" s__law_row
  d__law_weighing : Df K mg "_law_weighing" s__law_weighing
  d__law_is_parts : Df K mg "_law_is_parts" s__law_is_parts
  d__law_is_weighing : Df K mg "_law_is_weighing" s__law_is_weighing
  d__law_is_row : Df K mg "_law_is_row" s__law_is_row
  d__law_odd : Df K mg "_law_odd" s__law_odd
  d__law_item : Df K mg "_law_item" s__law_item
  d__law_all : Df K mg "_law_all" s__law_all
  d__law_refused : Df K mg "_law_refused" s__law_refused
  ix_NoRow : IsX K mg "NoRow" [("NoRow", true), ("NoPan", false), ("NoBeam", false)]
  xf_NoRow_at : HasXF K mg "NoRow" "at"
  ct_BeamError : CatT K mg "BeamError" ["NoRow", "NoPan", "NoBeam"]
  ixs_NoBeam_NoPan : IsXs K mg ["NoBeam", "NoPan"] [("NoRow", false), ("NoPan", true), ("NoBeam", true)]
theorem Top.retab (T1 T2 : Tab) (T : @Top T1 K mg) : @Top T2 K mg := {
  B := @Top.B T1 K mg T
  d__law_begun := @Top.d__law_begun T1 K mg T
  d_is_name := @Top.d_is_name T1 K mg T
  g_SMALL := GD.retab T1 T2 (@Top.g_SMALL T1 K mg T)
  g_LONGEST := GD.retab T1 T2 (@Top.g_LONGEST T1 K mg T)
  d_is_whole := @Top.d_is_whole T1 K mg T
  d_is_from := @Top.d_is_from T1 K mg T
  d_are_names := @Top.d_are_names T1 K mg T
  d_is_beam := @Top.d_is_beam T1 K mg T
  g_MOST_STEP := GD.retab T1 T2 (@Top.g_MOST_STEP T1 K mg T)
  d_are_beams := @Top.d_are_beams T1 K mg T
  g_MOST_BEAMS := GD.retab T1 T2 (@Top.g_MOST_BEAMS T1 K mg T)
  d_tuples_of := @Top.d_tuples_of T1 K mg T
  d_Yard_init := @Top.d_Yard_init T1 K mg T
  g_MOST_THINGS := GD.retab T1 T2 (@Top.g_MOST_THINGS T1 K mg T)
  g_MOST_LEAN := GD.retab T1 T2 (@Top.g_MOST_LEAN T1 K mg T)
  g_MOST_WEIGHT := GD.retab T1 T2 (@Top.g_MOST_WEIGHT T1 K mg T)
  g_MOST_TUPLES := GD.retab T1 T2 (@Top.g_MOST_TUPLES T1 K mg T)
  f_Yard_thing_names := @Top.f_Yard_thing_names T1 K mg T
  f_Yard_beam_steps := @Top.f_Yard_beam_steps T1 K mg T
  f_Yard_heaviest := @Top.f_Yard_heaviest T1 K mg T
  f_Yard_farthest := @Top.f_Yard_farthest T1 K mg T
  d_Yard_things := @Top.d_Yard_things T1 K mg T
  d_Yard_beams := @Top.d_Yard_beams T1 K mg T
  d_pans := @Top.d_pans T1 K mg T
  d_need_pan := @Top.d_need_pan T1 K mg T
  d_need_beam := @Top.d_need_beam T1 K mg T
  d_ex_NoPan := @Top.d_ex_NoPan T1 K mg T
  b_BeamError := @Top.b_BeamError T1 K mg T
  d_ex_NoBeam := @Top.d_ex_NoBeam T1 K mg T
  d_are_parts := @Top.d_are_parts T1 K mg T
  ct2_NoBeam_NoPan := @Top.ct2_NoBeam_NoPan T1 K mg T
  d_is_weighing := @Top.d_is_weighing T1 K mg T
  d_is_row := @Top.d_is_row T1 K mg T
  g_WORDS := GD.retab T1 T2 (@Top.g_WORDS T1 K mg T)
  d_need_log := @Top.d_need_log T1 K mg T
  d_ex_NoRow := @Top.d_ex_NoRow T1 K mg T
  d_weighings_at := @Top.d_weighings_at T1 K mg T
  d_weighings := @Top.d_weighings T1 K mg T
  d__law_next := @Top.d__law_next T1 K mg T
  d__law_pick := @Top.d__law_pick T1 K mg T
  d__law_names := @Top.d__law_names T1 K mg T
  d__law_row := @Top.d__law_row T1 K mg T
  d__law_weighing := @Top.d__law_weighing T1 K mg T
  d__law_is_parts := @Top.d__law_is_parts T1 K mg T
  d__law_is_weighing := @Top.d__law_is_weighing T1 K mg T
  d__law_is_row := @Top.d__law_is_row T1 K mg T
  d__law_odd := @Top.d__law_odd T1 K mg T
  d__law_item := @Top.d__law_item T1 K mg T
  d__law_all := @Top.d__law_all T1 K mg T
  d__law_refused := @Top.d__law_refused T1 K mg T
  ix_NoRow := @Top.ix_NoRow T1 K mg T
  xf_NoRow_at := @Top.xf_NoRow_at T1 K mg T
  ct_BeamError := @Top.ct_BeamError T1 K mg T
  ixs_NoBeam_NoPan := @Top.ixs_NoBeam_NoPan T1 K mg T
}
theorem facts_law (T : Top K mg)  : (HasY P w K mg base 6 "need_log" false 2 my_need_log) ∧ (HasKY P w K mg base 6 "need_log" false 2 ["log", "yard"] [1, 0] my_need_log) ∧ True := by
  have h_is_name := ok_is_name (P := P) (w := w) (base := base) T.B T.d_is_name T.g_SMALL T.g_LONGEST
  have h_is_whole := ok_is_whole (P := P) (w := w) (base := base) T.B T.d_is_whole
  have h_is_from := ok_is_from (P := P) (w := w) (base := base) T.B T.d_is_from h_is_whole
  have h_are_names := ok_are_names (P := P) (w := w) (base := base) T.B T.d_are_names h_is_name
  have h_is_beam := ok_is_beam (P := P) (w := w) (base := base) T.B T.d_is_beam T.g_MOST_STEP h_is_name h_is_from
  have h_are_beams := ok_are_beams (P := P) (w := w) (base := base) T.B T.d_are_beams T.g_MOST_BEAMS h_is_beam h_are_names
  have h_tuples_of := ok_tuples_of (P := P) (w := w) (base := base) T.B T.d_tuples_of
  have hI_Yard := ok_Yard_init (P := P) (w := w) (base := base) T.B T.d_Yard_init T.g_MOST_THINGS T.g_MOST_LEAN T.g_MOST_WEIGHT T.g_MOST_TUPLES T.f_Yard_thing_names T.f_Yard_beam_steps T.f_Yard_heaviest T.f_Yard_farthest h_are_beams h_are_names h_is_from h_tuples_of
  have h_Yard_things := ok_Yard_things (P := P) (w := w) (base := base) T.B T.d_Yard_things T.f_Yard_thing_names
  have h_Yard_beams := ok_Yard_beams (P := P) (w := w) (base := base) T.B T.d_Yard_beams T.f_Yard_beam_steps
  have h_pans := ok_pans (P := P) (w := w) (base := base) T.B T.d_pans h_Yard_things
  have h_need_pan := ok_need_pan (P := P) (w := w) (base := base) T.B T.d_need_pan h_Yard_things
  have h_need_beam := ok_need_beam (P := P) (w := w) (base := base) T.B T.d_need_beam h_Yard_beams
  have x_NoPan := ok_ex_NoPan (P := P) (w := w) (base := base) T.d_ex_NoPan T.b_BeamError
  have x_NoBeam := ok_ex_NoBeam (P := P) (w := w) (base := base) T.d_ex_NoBeam T.b_BeamError
  have y_need_pan := oky_need_pan (P := P) (w := w) (base := base) T.B T.d_need_pan h_Yard_things x_NoPan
  have y_need_beam := oky_need_beam (P := P) (w := w) (base := base) T.B T.d_need_beam h_Yard_beams x_NoBeam
  have h_are_parts := ok_are_parts (P := P) (w := w) (base := base) T.B T.d_are_parts y_need_beam y_need_pan T.ct2_NoBeam_NoPan
  have h_is_weighing := ok_is_weighing (P := P) (w := w) (base := base) T.B T.d_is_weighing h_are_parts
  have hK_is_weighing := okK_is_weighing (P := P) (w := w) (base := base) T.B T.d_is_weighing h_are_parts
  have h_is_row := ok_is_row (P := P) (w := w) (base := base) T.B T.d_is_row T.g_WORDS h_are_parts
  have hK_is_row := okK_is_row (P := P) (w := w) (base := base) T.B T.d_is_row T.g_WORDS h_are_parts
  have h_need_log := ok_need_log (P := P) (w := w) (base := base) T.B T.d_need_log h_is_row
  have x_NoRow := ok_ex_NoRow (P := P) (w := w) (base := base) T.d_ex_NoRow T.b_BeamError
  have y_need_log := oky_need_log (P := P) (w := w) (base := base) T.B T.d_need_log h_is_row x_NoRow
  have yK_need_log := okyK_need_log (P := P) (w := w) (base := base) T.B T.d_need_log h_is_row x_NoRow
  have h_weighings_at := ok_weighings_at (P := P) (w := w) (base := base) T.B T.d_weighings_at h_pans
  have h_weighings := ok_weighings (P := P) (w := w) (base := base) T.B T.d_weighings h_Yard_beams h_weighings_at
  have hK_weighings := okK_weighings (P := P) (w := w) (base := base) T.B T.d_weighings h_Yard_beams h_weighings_at
  have h__law_next := ok__law_next (P := P) (w := w) (base := base) T.B T.d__law_next
  have h__law_pick := ok__law_pick (P := P) (w := w) (base := base) T.B T.d__law_pick h__law_next
  have h__law_names := ok__law_names (P := P) (w := w) (base := base) T.B T.d__law_names h__law_next h__law_pick
  have h__law_row := ok__law_row (P := P) (w := w) (base := base) T.B T.d__law_row h__law_next h__law_names h__law_pick
  have h__law_weighing := ok__law_weighing (P := P) (w := w) (base := base) T.B T.d__law_weighing h__law_pick
  have h__law_is_parts := ok__law_is_parts (P := P) (w := w) (base := base) T.B T.d__law_is_parts
  have h__law_is_weighing := ok__law_is_weighing (P := P) (w := w) (base := base) T.B T.d__law_is_weighing h__law_is_parts
  have h__law_is_row := ok__law_is_row (P := P) (w := w) (base := base) T.B T.d__law_is_row h__law_is_parts
  have h__law_odd := ok__law_odd (P := P) (w := w) (base := base) T.B T.d__law_odd h__law_next h__law_pick
  have h__law_item := ok__law_item (P := P) (w := w) (base := base) T.B T.d__law_item h__law_weighing h__law_next h__law_pick h__law_odd
  have h__law_all := ok__law_all (P := P) (w := w) (base := base) T.B T.d__law_all
  have qT_B := T.B
  have qT_d__law_refused := T.d__law_refused
  have qT_ix_NoRow := T.ix_NoRow
  have qT_xf_NoRow_at := T.xf_NoRow_at
  have qT_ct_BeamError := T.ct_BeamError
  have qT_ixs_NoBeam_NoPan := T.ixs_NoBeam_NoPan
  have hUg__law_refused : UHasLY T0 base P w K mg 7 8 "_law_refused" 1 m__law_refusedC := fun T2 b2 lm W hLMY => @ok__law_refusedC T2 P w K mg b2 lm qT_B qT_d__law_refused qT_ix_NoRow qT_xf_NoRow_at qT_ct_BeamError qT_ixs_NoBeam_NoPan hLMY
  exact ⟨y_need_log, yK_need_log, trivial⟩
theorem all_law (T : Top K mg) (hy_law_0 : Tab.L "law_0" = none) (hy_law_1 : Tab.L "law_1" = none) (f : Addr) (cdv : Value) (A : Around) (outer : List Env) (s : Shared) (H : Hp) (E : XK) (hr : Room 8 (A.deeper (envOfC "law" (defScope s_law) s.heap.objs.size f cdv))) (hgd : (A.deeper (envOfC "law" (defScope s_law) s.heap.objs.size f cdv)).guards = some []) (hlh : LamHere (cxOf CX0 P w K mg base N_law "law" (defScope s_law) f cdv A outer s H E).nox) :
    PMSs (cxOf CX0 P w K mg base N_law "law" (defScope s_law) f cdv A outer s H E).nox false [] [] [] ((defBody s_law).drop 1) b_law := by
  have h_is_name := ok_is_name (P := P) (w := w) (base := base) T.B T.d_is_name T.g_SMALL T.g_LONGEST
  have h_is_whole := ok_is_whole (P := P) (w := w) (base := base) T.B T.d_is_whole
  have h_is_from := ok_is_from (P := P) (w := w) (base := base) T.B T.d_is_from h_is_whole
  have h_are_names := ok_are_names (P := P) (w := w) (base := base) T.B T.d_are_names h_is_name
  have h_is_beam := ok_is_beam (P := P) (w := w) (base := base) T.B T.d_is_beam T.g_MOST_STEP h_is_name h_is_from
  have h_are_beams := ok_are_beams (P := P) (w := w) (base := base) T.B T.d_are_beams T.g_MOST_BEAMS h_is_beam h_are_names
  have h_tuples_of := ok_tuples_of (P := P) (w := w) (base := base) T.B T.d_tuples_of
  have hI_Yard := ok_Yard_init (P := P) (w := w) (base := base) T.B T.d_Yard_init T.g_MOST_THINGS T.g_MOST_LEAN T.g_MOST_WEIGHT T.g_MOST_TUPLES T.f_Yard_thing_names T.f_Yard_beam_steps T.f_Yard_heaviest T.f_Yard_farthest h_are_beams h_are_names h_is_from h_tuples_of
  have h_Yard_things := ok_Yard_things (P := P) (w := w) (base := base) T.B T.d_Yard_things T.f_Yard_thing_names
  have h_Yard_beams := ok_Yard_beams (P := P) (w := w) (base := base) T.B T.d_Yard_beams T.f_Yard_beam_steps
  have h_pans := ok_pans (P := P) (w := w) (base := base) T.B T.d_pans h_Yard_things
  have h_need_pan := ok_need_pan (P := P) (w := w) (base := base) T.B T.d_need_pan h_Yard_things
  have h_need_beam := ok_need_beam (P := P) (w := w) (base := base) T.B T.d_need_beam h_Yard_beams
  have x_NoPan := ok_ex_NoPan (P := P) (w := w) (base := base) T.d_ex_NoPan T.b_BeamError
  have x_NoBeam := ok_ex_NoBeam (P := P) (w := w) (base := base) T.d_ex_NoBeam T.b_BeamError
  have y_need_pan := oky_need_pan (P := P) (w := w) (base := base) T.B T.d_need_pan h_Yard_things x_NoPan
  have y_need_beam := oky_need_beam (P := P) (w := w) (base := base) T.B T.d_need_beam h_Yard_beams x_NoBeam
  have h_are_parts := ok_are_parts (P := P) (w := w) (base := base) T.B T.d_are_parts y_need_beam y_need_pan T.ct2_NoBeam_NoPan
  have h_is_weighing := ok_is_weighing (P := P) (w := w) (base := base) T.B T.d_is_weighing h_are_parts
  have hK_is_weighing := okK_is_weighing (P := P) (w := w) (base := base) T.B T.d_is_weighing h_are_parts
  have h_is_row := ok_is_row (P := P) (w := w) (base := base) T.B T.d_is_row T.g_WORDS h_are_parts
  have hK_is_row := okK_is_row (P := P) (w := w) (base := base) T.B T.d_is_row T.g_WORDS h_are_parts
  have h_need_log := ok_need_log (P := P) (w := w) (base := base) T.B T.d_need_log h_is_row
  have x_NoRow := ok_ex_NoRow (P := P) (w := w) (base := base) T.d_ex_NoRow T.b_BeamError
  have y_need_log := oky_need_log (P := P) (w := w) (base := base) T.B T.d_need_log h_is_row x_NoRow
  have yK_need_log := okyK_need_log (P := P) (w := w) (base := base) T.B T.d_need_log h_is_row x_NoRow
  have h_weighings_at := ok_weighings_at (P := P) (w := w) (base := base) T.B T.d_weighings_at h_pans
  have h_weighings := ok_weighings (P := P) (w := w) (base := base) T.B T.d_weighings h_Yard_beams h_weighings_at
  have hK_weighings := okK_weighings (P := P) (w := w) (base := base) T.B T.d_weighings h_Yard_beams h_weighings_at
  have h__law_next := ok__law_next (P := P) (w := w) (base := base) T.B T.d__law_next
  have h__law_pick := ok__law_pick (P := P) (w := w) (base := base) T.B T.d__law_pick h__law_next
  have h__law_names := ok__law_names (P := P) (w := w) (base := base) T.B T.d__law_names h__law_next h__law_pick
  have h__law_row := ok__law_row (P := P) (w := w) (base := base) T.B T.d__law_row h__law_next h__law_names h__law_pick
  have h__law_weighing := ok__law_weighing (P := P) (w := w) (base := base) T.B T.d__law_weighing h__law_pick
  have h__law_is_parts := ok__law_is_parts (P := P) (w := w) (base := base) T.B T.d__law_is_parts
  have h__law_is_weighing := ok__law_is_weighing (P := P) (w := w) (base := base) T.B T.d__law_is_weighing h__law_is_parts
  have h__law_is_row := ok__law_is_row (P := P) (w := w) (base := base) T.B T.d__law_is_row h__law_is_parts
  have h__law_odd := ok__law_odd (P := P) (w := w) (base := base) T.B T.d__law_odd h__law_next h__law_pick
  have h__law_item := ok__law_item (P := P) (w := w) (base := base) T.B T.d__law_item h__law_weighing h__law_next h__law_pick h__law_odd
  have h__law_all := ok__law_all (P := P) (w := w) (base := base) T.B T.d__law_all
  have qT_B := T.B
  have qT_d__law_refused := T.d__law_refused
  have qT_ix_NoRow := T.ix_NoRow
  have qT_xf_NoRow_at := T.xf_NoRow_at
  have qT_ct_BeamError := T.ct_BeamError
  have qT_ixs_NoBeam_NoPan := T.ixs_NoBeam_NoPan
  have hUg__law_refused : UHasLY T0 base P w K mg 7 8 "_law_refused" 1 m__law_refusedC := fun T2 b2 lm W hLMY => @ok__law_refusedC T2 P w K mg b2 lm qT_B qT_d__law_refused qT_ix_NoRow qT_xf_NoRow_at qT_ct_BeamError qT_ixs_NoBeam_NoPan hLMY
  have FU : ∀ (T2 : Tab) (b2 : Heap), Wid T0 base T2 b2 → (HasY P w K mg b2 6 "need_log" false 2 my_need_log) ∧ (HasKY P w K mg b2 6 "need_log" false 2 ["log", "yard"] [1, 0] my_need_log) ∧ True := fun T2 b2 W => @facts_law T2 P w K mg b2 (Top.retab T0 T2 T) 
  have hUl_law_0 := oky_law_0 (P := P) (w := w) (K := K) (mg := mg) (base := base) T.B (fun T2 b2 W => (FU T2 b2 W).1)
  have hUl_law_1 := oky_law_1 (P := P) (w := w) (K := K) (mg := mg) (base := base) T.B (fun T2 b2 W => (FU T2 b2 W).2.1)
  exact body_law T.B h__law_row h__law_item h_is_row h_is_weighing h__law_is_row h__law_is_weighing h__law_next h__law_weighing h__law_pick h_weighings h__law_all h_need_log hI_Yard hK_is_row hK_is_weighing hK_weighings hy_law_0 hUl_law_0 hy_law_1 hUl_law_1 hUg__law_refused f cdv A outer s H E hr hgd hlh
def Math : Prop := ∀ ns : List Int, ns.length ≤ 63 → Wp (b_law (some (D.ro (ns.map D.int)) :: some .st :: List.replicate (N_law.length - 2) none) (begunD ns)) fun c _ => c = .ret (.bl true)
def spLaw3 (K : PySem.W.Frag) : Sp := fun vs H Q _ => ∃ (a : Addr) (ns : List Int), vs = [.ref a] ∧ SqL K H a (ns.map V.int) ∧ ns.length ≤ 63 ∧ (∀ p ∈ Tab.T, H p.1 = some (.tbl #[]) ∧ p.1 ≠ a) ∧ ∀ H', Q (.bl true) H'
theorem ok_law (T : Top K mg) (M : Math) (hy_law_0 : Tab.L "law_0" = none) (hy_law_1 : Tab.L "law_1" = none) {f : Addr} {fd : FuncData} (F : Fun K "law" "law" s_law f fd) (hlw : ∃ c P, fd.code = .ref c ∧ LamX.TabB base mg c P ∧ (P, (("law" : Str) ++ ".<locals>." ++ "<lambda>")) ∈ Tab.T) : FnG P w K mg base 9 f fd ["script"] (spLaw3 K) := by
  obtain ⟨fB, fdB, FB, mB⟩ := T.d__law_begun
  have hB : FnOk P w K mg base CX0 1 fB fdB ["script"] (spBegun K) := ok_begun FB T.B
  have bB : Binds K fdB ["script"] [] := FB.binds fun _ _ _ _ _ _ us hl => match us, hl with | [_], _ => rfl
  obtain ⟨oc, od, kV, doc, pm, an, cdv, ct, osl, efd, lk, hcd⟩ := F.ex
  subst efd
  refine fnG_of lk hcd sc_law (fun vs H Q E h => ?_) fun A outer s H vs Q E hr hgd h => ?_
  · obtain ⟨a, ns, e, _⟩ := h
    rw [e] <;> rfl
  · obtain ⟨a, ns, e, hS, hlen, hT, k⟩ := h
    subst e
    obtain ⟨ts, p, sm⟩ := all_law (P := P) (w := w) (base := base) T hy_law_0 hy_law_1 f cdv A outer s H E hr hgd (by obtain ⟨c, PT, ec, TB, hT⟩ := hlw; exact ⟨c, PT, ec, TB, hT⟩)
    refine ⟨_, PSs.nox (pss_cons (ps_set (i := 1) sc_law.nd rfl (by first | exact .inl rfl | exact .inr rfl) (pe_call hB (hr.mono (by decide)) (by rfl) mB FB.kp bB .nil pass0 (pa_cons (pv 0) pa_nil))) p), ?_⟩
    refine ⟨_, rfl, a, ns, rfl, hS, Nat.le_trans hlen (by decide), hT, fun S H' st keep n1 n2 n3 n4 n5 => ?_⟩
    refine sm ⟨S, gOf H a, H'⟩ (gOf H a) _ H' _ (begunD ns) _ (IM.law _ hS hT st keep n1 n2 n3 n4 n5) ((M ns hlen).imp fun c d e => ?_)
    subst e
    intro v H2 G2 A2 r
    cases r
    exact k H2
end
end K3
end
section
set_option maxHeartbeats 400000
namespace Cm
open PySem PySem.Spec PyProof.Rows L2 Mir
theorem dEq_int (i j : Int) : dEq (.int i) (.int j) = pure (.bl (decide (i = j))) := by
  have h : ∀ k : Int, SeqAt.shaped (.int k) = true := fun k => by simp [SeqAt.shaped, PyData.canLay0, PyData.depth]
  have e : (PyData.int i).eqv (.int j) = decide (i = j) := by
    simp only [PyData.eqv]
    exact Bool.eq_iff_iff.mpr (by simp)
  simp [dEq, dEqB, dEqP, toPy, guardB, h, e]
theorem dGt_int (i j : Int) : dGt (.int i) (.int j) = pure (.bl (decide (j < i))) := by rfl
end Cm
end
section
set_option maxHeartbeats 400000
namespace Cm
open PySem PySem.Spec PyProof.Rows L2 Mir
structure DOk (d : Drw) : Prop where
  dg : 0 ≤ d.dg
  gr : ∀ g ∈ d.gr, 1 ≤ g
  ce : ∀ c ∈ d.ce, 0 ≤ c ∧ c < 10 ^ 18
  tn : 0 ≤ d.tn
structure Dr {α : Type} (k : Nat) (m : M α) (P : α → Prop) : Prop where
  run : ∀ d, DOk d → d.tn + k ≤ 2 ^ 40 → Wp (m d) fun a d' => DOk d' ∧ d'.tn ≤ d.tn + k ∧ P a
theorem Dr.pure {α : Type} {a : α} {k : Nat} {P : α → Prop} (h : P a) : Dr k (Pure.pure a : M α) P := ⟨fun d hd ht => ⟨hd, by omega, h⟩⟩
theorem Dr.bind {α β : Type} {m : M α} {f : α → M β} {k1 k2 k : Nat} {P : α → Prop} {Q : β → Prop} (h1 : Dr k1 m P) (h2 : ∀ a, P a → Dr k2 (f a) Q) (hk : k1 + k2 ≤ k) : Dr k (m >>= f) Q := ⟨fun d hd ht => by
  rw [Wp_bind]
  refine (h1.run d hd (by omega)).imp fun a d1 ⟨o1, t1, p⟩ => ?_
  exact ((h2 a p).run d1 o1 (by omega)).imp fun b d2 ⟨o2, t2, q⟩ => ⟨o2, by omega, q⟩⟩
theorem Dr.imp {α : Type} {m : M α} {k k' : Nat} {P Q : α → Prop} (h : Dr k m P) (hk : k ≤ k') (i : ∀ a, P a → Q a) : Dr k' m Q := ⟨fun d hd ht =>
  (h.run d hd (by omega)).imp fun a d1 ⟨o, t, p⟩ => ⟨o, by omega, i a p⟩⟩
theorem Dr.guard {α : Type} {m : M α} {b : Bool} {k : Nat} {P : α → Prop} (hb : b = true) (h : Dr k m P) : Dr k (guardB b m) P := by
  rw [guard_of hb]; exact h
theorem DOk.begun (ns : List Int) : DOk (begunD ns) where
  dg := Int.le_refl 0
  gr := fun g hg => by
    obtain ⟨c, hc, e⟩ := List.mem_map.mp hg
    have h := of_decide_eq_true (List.mem_filter.mp hc).2
    subst e
    have h10 : (0 : Int) < 10 ^ 18 := by decide
    exact (Int.le_ediv_iff_mul_le h10).mpr (by omega)
  ce := fun c hc => by
    obtain ⟨x, _, e⟩ := List.mem_map.mp hc
    subst e
    have h10 : (0 : Int) < 10 ^ 18 := by decide
    exact ⟨Int.emod_nonneg _ (by omega), Int.emod_lt_of_pos _ h10⟩
  tn := Int.le_refl 0
end Cm
end
section
set_option maxHeartbeats 400000
namespace Cm
open PySem PySem.Spec PyProof.Rows L2 Mir
theorem dMod_int {i j : Int} (h : 0 < j) : dMod (.int i) (.int j) = pure (.int (i % j)) := by
  show guardB (decide (0 < j)) (pure (D.int (i % j))) = _
  rw [decide_eq_true h]; rfl
theorem dDiv_int {i j : Int} (h : 0 < j) (h2 : j < 1073741824) : dDiv (.int i) (.int j) = pure (.int (i / j)) := by
  show guardB _ (pure (D.int (i.fdiv j))) = _
  rw [guard_of (by simp; omega), Int.fdiv_eq_ediv_of_nonneg _ (by omega)]
theorem dMul_int {i j : Int} (h : -(2 ^ 64) < i ∧ i < 2 ^ 64) : dMul (.int i) (.int j) = pure (.int (i * j)) := by
  show guardB (mulOk i j) (pure (D.int (i * j))) = _
  rw [guard_of (by unfold mulOk; simp; omega)]
theorem dPow_int {i j : Int} (h : 0 ≤ j ∧ j ≤ 1000000 ∧ i.natAbs < 2 ^ 64) : dPow (.int i) (.int j) = pure (.int (i ^ j.toNat)) := by
  show guardB _ (pure (D.int (i ^ j.toNat))) = _
  rw [guard_of (by simp; omega)]
theorem dAdd_int (i j : Int) : dAdd (.int i) (.int j) = pure (.int (i + j)) := rfl
def fill1 (d : Drw) : Drw := if d.dg = 0 then (match d.gr with
  | [] => d
  | g :: r => { d with dg := g, gr := r }) else d
abbrev whN : Ev → M Bool := tAnd' (tB' (eBin dEq (eSt 0 fun d => .int d.dg) (eC (.int 0)))) (tB' (eSt 0 fun d => .bl (!decide (d.gr = []))))
theorem whN_run (env : Ev) (h : isSt env 0 = true) (d : Drw) : whN env d = .ok (decide (d.dg = 0) && !decide (d.gr = [])) d := by
  simp only [tAnd', tB', eBin, eSt, eC, h, guard_true, bind_run, rdM, dEq_int, pure_run]
  by_cases z : d.dg = 0
  · simp [z, dEq_int, pure_run, bind_run, rdM]
  · simp [z, dEq_int, pure_run, bind_run, rdM]
theorem wh_run (env : Ev) (h : isSt env 0 = true) (d : Drw) (hd : DOk d) (k : Nat) : whGo whN (cStPop 0) (k + 2) env d = .ok (.nx env) (fill1 d) := by
  unfold whGo
  rw [bind_run, whN_run env h]
  by_cases z : d.dg = 0
  · cases hg : d.gr with
    | nil => simp [z, hg, fill1, pure_run]
    | cons g r =>
      have e1 : cStPop 0 env d = .ok (.nx env) { d with dg := g, gr := r } := by
        unfold cStPop
        rw [guard_of h, bind_run]
        show (match d.gr with
          | g :: r => wrM (fun d => { d with dg := g, gr := r }) >>= fun _ => pure (Ctl.nx env)
          | [] => bad : M Ctl) d = _
        rw [hg]
        rfl
      have g1 := hd.gr g (by rw [hg]; exact List.mem_cons_self ..)
      have g0 : g ≠ 0 := by omega
      have e2 : whGo whN (cStPop 0) (k + 1) env { d with dg := g, gr := r } = .ok (.nx env) { d with dg := g, gr := r } := by
        unfold whGo
        rw [bind_run, whN_run env h]
        simp [g0, pure_run]
      simp only [z, decide_true, List.cons_ne_nil, decide_false, Bool.not_false, Bool.and_self, if_true]
      rw [bind_run, e1]
      simp only [fill1, z, hg, if_true]
      exact e2
  · simp [z, fill1, pure_run]
end Cm
end
section
set_option maxHeartbeats 400000
namespace Cm
open PySem PySem.Spec PyProof.Rows L2 Mir
theorem seq_nx {a b : Ev → M Ctl} {env e : Ev} {d d1 : Drw} (h : a env d = .ok (.nx e) d1) : cSeq a b env d = b e d1 := by
  unfold cSeq
  rw [bind_run, h]
theorem seq_ret {a b : Ev → M Ctl} {env : Ev} {x : D} {d d1 : Drw} (h : a env d = .ok (.ret x) d1) : cSeq a b env d = .ok (.ret x) d1 := by
  unfold cSeq
  rw [bind_run, h]
  rfl
theorem set_nx {i : Nat} {m : Ev → M D} {env : Ev} {x : D} {d d1 : Drw} (h : m env d = .ok x d1) : cSet i m env d = .ok (.nx (env.set i (some x))) d1 := by
  unfold cSet
  rw [bind_run, h]
  rfl
theorem ret_run {m : Ev → M D} {env : Ev} {x : D} {d d1 : Drw} (h : m env d = .ok x d1) : cRet m env d = .ok (.ret x) d1 := by
  unfold cRet
  rw [bind_run, h]
  rfl
theorem if_run {n : Ev → M Bool} {a b : Ev → M Ctl} {env : Ev} {t : Bool} {d d1 : Drw} (h : n env d = .ok t d1) : cIf n a b env d = if t = true then a env d1 else b env d1 := by
  unfold cIf
  rw [bind_run, h]
  cases t <;> rfl
theorem bin_run {g : D → D → M D} {ma mb : Ev → M D} {env : Ev} {x y : D} {d d1 d2 : Drw} (h1 : ma env d = .ok x d1) (h2 : mb env d1 = .ok y d2) : eBin g ma mb env d = g x y d2 := by
  unfold eBin
  rw [bind_run, h1]
  show (mb env >>= fun y => g x y) d1 = _
  rw [bind_run, h2]
theorem tB_run {m : Ev → M D} {env : Ev} {b : Bool} {d d1 : Drw} (h : m env d = .ok (.bl b) d1) : tB' m env d = .ok b d1 := by
  unfold tB'
  rw [bind_run, h]
  rfl
theorem var_run {i : Nat} {env : Ev} {x : D} {d : Drw} (h : env[i]? = some (some x)) : eVar i env d = .ok x d := by
  unfold eVar
  rw [h]
  rfl
theorem st_run {i : Nat} {f : Drw → D} {env : Ev} {d : Drw} (h : isSt env i = true) : eSt i f env d = .ok (f d) d := by
  unfold eSt
  rw [guard_of h]
  rfl
theorem fill1_ok {d : Drw} (hd : DOk d) : DOk (fill1 d) ∧ (fill1 d).tn = d.tn := by
  unfold fill1
  split
  · cases hg : d.gr with
    | nil => exact ⟨hd, rfl⟩
    | cons g r => exact ⟨⟨by have := hd.gr g (by rw [hg]; exact List.mem_cons_self ..); show 0 ≤ g; omega, fun x hx => hd.gr x (by rw [hg]; exact List.mem_cons_of_mem _ hx), hd.ce, hd.tn⟩, rfl⟩
  · exact ⟨hd, rfl⟩
theorem next_dr {n : Int} (h0 : 0 < n) (h1 : n < 1073741824) : Dr 1 (m__law_next [.st, .int n]) fun x => ∃ i, x = .int i ∧ 0 ≤ i ∧ i < n := by
  refine ⟨fun d hd ht => ?_⟩
  unfold m__law_next defM
  rw [Wp_bind]
  show Wp (b__law_next [some .st, some (.int n), none, none, none, none] d) _
  unfold b__law_next
  rw [seq_nx (show cWhile whN (cStPop 0) _ d = .ok (.nx _) (fill1 d) from wh_run _ rfl d hd 999999998)]
  obtain ⟨hd1, ht1⟩ := fill1_ok hd
  generalize fill1 d = d1 at hd1 ht1
  have tst : tB' (eBin dGt (eSt 0 fun d => .int d.dg) (eC (.int 0))) [some .st, some (.int n), none, none, none, none] d1 = .ok (decide (0 < d1.dg)) d1 :=
    tB_run (by rw [bin_run (st_run rfl) (show eC (.int 0) _ d1 = .ok (.int 0) d1 from rfl)]; rfl)
  by_cases z : 0 < d1.dg
  · rw [seq_ret (x := .int (d1.dg % n)) (d1 := { d1 with dg := d1.dg / n })]
    · refine ⟨⟨Int.ediv_nonneg hd1.dg (by omega), hd1.gr, hd1.ce, hd1.tn⟩, ?_, _, rfl, Int.emod_nonneg _ (by omega), Int.emod_lt_of_pos _ h0⟩
      show d1.tn ≤ d.tn + 1
      omega
    · rw [if_run tst, if_pos (by simpa using z)]
      rw [seq_nx (set_nx (x := .int (d1.dg % n)) (d1 := d1) (by rw [bin_run (st_run rfl) (var_run rfl), dMod_int h0]; rfl))]
      rw [seq_nx (e := [some .st, some (.int n), some (.int (d1.dg % n)), none, none, none]) (d1 := { d1 with dg := d1.dg / n })]
      · exact ret_run (var_run rfl)
      · unfold cStDg
        rw [bind_run, bin_run (st_run rfl) (var_run rfl), dDiv_int h0 h1]
        rfl
  · rw [seq_nx (e := [some .st, some (.int n), none, none, none, none]) (d1 := d1) (by rw [if_run tst, if_neg (by simpa using z)]; rfl)]
    have t1 : 1 ≤ d1.tn + 1 := by have := hd1.tn; omega
    have t2 : d1.tn + 1 ≤ 2 ^ 40 := by
      rw [ht1]
      exact ht
    generalize ht3 : d1.tn + 1 = t at t1 t2
    have hd2 : DOk { d1 with tn := t } := ⟨hd1.dg, hd1.gr, hd1.ce, by show 0 ≤ t; omega⟩
    rw [seq_nx (e := [some .st, some (.int n), none, none, none, none]) (d1 := { d1 with tn := t }) (by rw [← ht3]; rfl)]
    rw [seq_nx (set_nx (x := .int t) (d1 := { d1 with tn := t }) (st_run rfl))]
    rw [seq_nx (set_nx (x := .int 0) (d1 := { d1 with tn := t }) rfl)]
    show Wp (cSeq _ _ [some .st, some (.int n), none, some (.int t), some (.int 0), none] _) _
    have hc : ∃ c, 0 ≤ c ∧ c < 10 ^ 18 ∧ cIf (tB' (eSt 0 fun d => .bl (!decide (d.ce = [])))) (cSet 4 (eStCe 0 (eBin dMod (eVar 3) (eSt 0 fun d => .int d.ce.length)))) cNx [some .st, some (.int n), none, some (.int t), some (.int 0), none] { d1 with tn := t } = .ok (.nx [some .st, some (.int n), none, some (.int t), some (.int c), none]) { d1 with tn := t } := by
      have tst2 : tB' (eSt 0 fun d => .bl (!decide (d.ce = []))) [some .st, some (.int n), none, some (.int t), some (.int 0), none] { d1 with tn := t } = .ok (!decide (d1.ce = [])) { d1 with tn := t } := tB_run (st_run rfl)
      by_cases e : d1.ce = []
      · exact ⟨0, by decide, by decide, by rw [if_run tst2, if_neg (by simp [e])]; rfl⟩
      · have lp : 0 < d1.ce.length := List.length_pos_iff.mpr e
        have i0 : 0 ≤ t % (d1.ce.length : Int) := Int.emod_nonneg _ (by omega)
        have i1 : t % (d1.ce.length : Int) < d1.ce.length := Int.emod_lt_of_pos _ (by omega)
        obtain ⟨j, hj⟩ : ∃ j : Nat, t % (d1.ce.length : Int) = j := ⟨_, (Int.toNat_of_nonneg i0).symm⟩
        have hjl : j < d1.ce.length := by omega
        have ha : atI d1.ce (t % (d1.ce.length : Int)) = some d1.ce[j] := by
          rw [hj]
          exact atI_nat (List.getElem?_eq_getElem hjl)
        have hm := hd1.ce _ (List.getElem_mem hjl)
        refine ⟨d1.ce[j], hm.1, hm.2, ?_⟩
        rw [if_run tst2, if_pos (by simp [e])]
        refine set_nx ?_
        unfold eStCe
        have gst : isSt [some D.st, some (.int n), none, some (.int t), some (.int 0), none] 0 = true := rfl
        rw [guard_of gst, bind_run, bin_run (var_run (x := .int t) rfl) (st_run rfl), dMod_int (by show (0 : Int) < (d1.ce.length : Int); omega)]
        show ((rdM (fun d => atI d.ce (t % (d1.ce.length : Int))) >>= fun c => (match c with
          | some c => pure (D.int c)
          | none => bad : M D)) : M D) { d1 with tn := t } = _
        rw [bind_run]
        show (match atI d1.ce (t % (d1.ce.length : Int)) with
          | some c => pure (D.int c)
          | none => bad : M D) { d1 with tn := t } = _
        rw [ha]
        rfl
    obtain ⟨c, c0, c1, hcc⟩ := hc
    rw [seq_nx hcc]
    generalize hd2e : ({ d1 with tn := t } : Drw) = d2 at *
    have en : ∀ {e : Ev} {i : Int}, eC (.int i) e d2 = .ok (.int i) d2 := fun {e i} => rfl
    have m1 : 0 ≤ c % 2147483629 := Int.emod_nonneg _ (by decide)
    have m2 : c % 2147483629 < 2147483629 := Int.emod_lt_of_pos _ (by decide)
    rw [seq_nx (set_nx (x := .int ((c % 2147483629 + 40009 * t) ^ 3 % 2147483647)) (d1 := d2) (by
      rw [bin_run (x := .int ((c % 2147483629 + 40009 * t) ^ 3)) (d1 := d2) (by
        rw [bin_run (x := .int (c % 2147483629 + 40009 * t)) (d1 := d2) (by
          rw [bin_run (x := .int (c % 2147483629)) (d1 := d2) (by rw [bin_run (var_run (x := .int c) rfl) en, dMod_int (by decide)]; rfl) (y := .int (40009 * t)) (d2 := d2) (by rw [bin_run en (var_run (x := .int t) rfl), dMul_int (by decide)]; rfl)]; rfl) en, dPow_int ⟨by decide, by decide, by omega⟩]; rfl) en, dMod_int (by decide)]; rfl))]
    have q1 : 0 ≤ (c % 2147483629 + 40009 * t) ^ 3 % 2147483647 := Int.emod_nonneg _ (by decide)
    have q2 : (c % 2147483629 + 40009 * t) ^ 3 % 2147483647 < 2147483647 := Int.emod_lt_of_pos _ (by decide)
    generalize (c % 2147483629 + 40009 * t) ^ 3 % 2147483647 = mx at q1 q2
    rw [ret_run (x := .int ((mx + 104729 * t) ^ 5 % 2147483629 / 11 % n)) (d1 := d2) (by
      rw [bin_run (x := .int ((mx + 104729 * t) ^ 5 % 2147483629 / 11)) (d1 := d2) (by
        rw [bin_run (x := .int ((mx + 104729 * t) ^ 5 % 2147483629)) (d1 := d2) (by
          rw [bin_run (x := .int ((mx + 104729 * t) ^ 5)) (d1 := d2) (by
            rw [bin_run (x := .int (mx + 104729 * t)) (d1 := d2) (by
              rw [bin_run (var_run (x := .int mx) rfl) (y := .int (104729 * t)) (d2 := d2) (by rw [bin_run en (var_run (x := .int t) rfl), dMul_int (by decide)]; rfl)]; rfl) en, dPow_int ⟨by decide, by decide, by omega⟩]; rfl) en, dMod_int (by decide)]; rfl) en, dDiv_int (by decide) (by decide)]; rfl) (var_run (x := .int n) rfl), dMod_int h0]; rfl)]
    refine ⟨hd2, ?_, _, rfl, Int.emod_nonneg _ (by omega), Int.emod_lt_of_pos _ h0⟩
    rw [← hd2e]
    show t ≤ d.tn + 1
    omega
end Cm
end
section
set_option maxHeartbeats 400000
namespace Cm
open PySem PySem.Spec PyProof.Rows L2 Mir
theorem pick_dr {xs : List D} (h0 : xs ≠ []) (h1 : xs.length < 1073741824) : Dr 1 (m__law_pick [.st, .lst xs]) fun x => x ∈ xs := by
  have e : m__law_pick [.st, .lst xs] = m__law_next [.st, .int xs.length] >>= fun y => dAt (.lst xs) y := by
    unfold m__law_pick defM b__law_pick cRet eBin eCall aCons aNil eUn eVar
    simp only [List.map, List.length, List.cons_append, List.nil_append, List.getElem?_cons_zero, List.getElem?_cons_succ, pure_bind', dLen]
    show (((((((m__law_next [.st, .int xs.length]) : M D)) >>= fun y => dAt (.lst xs) y) >>= fun x => pure (Ctl.ret x)) >>= fun c => match c with
      | .ret x => pure x
      | .nx _ => pure .non
      | _ => bad) : M D) = _
    rw [bind_assoc', bind_assoc']
    congr 1
    funext y
    exact bind_pure' _
  rw [e]
  have lp : 0 < xs.length := List.length_pos_iff.mpr h0
  refine Dr.bind (k2 := 0) (next_dr (by omega) (by omega)) (fun y ⟨i, ey, i0, i1⟩ => ?_) (Nat.le_refl _)
  subst ey
  obtain ⟨j, rfl⟩ : ∃ j : Nat, i = j := ⟨_, (Int.toNat_of_nonneg i0).symm⟩
  have hj : j < xs.length := by omega
  have ha : atI xs (j : Int) = some xs[j] := atI_nat (List.getElem?_eq_getElem hj)
  have ed : dAt (.lst xs) (.int (j : Int)) = pure xs[j] := by
    show (match atI xs (j : Int) with
      | some z => pure z
      | none => bad : M D) = _
    rw [ha]
  rw [ed]
  exact Dr.pure (List.getElem_mem hj)
end Cm
end
section
set_option maxHeartbeats 400000
namespace Cm
open PySem PySem.Spec PyProof.Rows L2 Mir
theorem for_dr {t : Ev → D → Option Ev} {b : Ev → M Ctl} {k : Nat} (J : Nat → Ev → Prop) : ∀ (xs : List D) (i : Nat) (env : Ev), J i env → (∀ j x env, xs[j]? = some x → J (i + j) env → ∃ e, t env x = some e ∧ Dr k (b e) fun c => ∃ e', c = .nx e' ∧ J (i + j + 1) e') →
    Dr (xs.length * k) (forGo t b xs env) fun c => ∃ e', c = .nx e' ∧ J (i + xs.length) e'
  | [], i, env, h, _ => Dr.pure ⟨env, rfl, h⟩
  | x :: xs, i, env, h, hb => by
    obtain ⟨e, et, hd⟩ := hb 0 x env rfl h
    have eq : forGo t b (x :: xs) env = b e >>= fun c => match c with
      | .nx e' => forGo t b xs e'
      | .cont e' => forGo t b xs e'
      | .brk e' => pure (.nx e')
      | .ret y => pure (.ret y) := by
      simp only [forGo, et] <;> rfl
    rw [eq]
    refine Dr.bind (k2 := xs.length * k) hd (fun c ⟨e', ec, j'⟩ => ?_) (by rw [List.length_cons, Nat.add_mul, Nat.one_mul]; omega)
    subst ec
    refine (for_dr J xs (i + 1) e' j' fun j x env hx hj => ?_).imp (Nat.le_refl _) fun c ⟨e2, h1, h2⟩ => ⟨e2, h1, by rw [List.length_cons, Nat.add_comm xs.length 1, ← Nat.add_assoc]; exact h2⟩
    have := hb (j + 1) x env (by simpa using hx) (by rw [← Nat.add_assoc, Nat.add_right_comm]; exact hj)
    rw [← Nat.add_assoc, Nat.add_right_comm i j 1] at this
    exact this
end Cm
end
section
set_option maxHeartbeats 400000
namespace Cm
open PySem PySem.Spec PyProof.Rows L2 Mir
theorem pickS_dr {z : Str} (h0 : 0 < z.cps.toList.length) (h1 : z.length ≤ sizeLine) (hz : z.length = z.cps.toList.length) : Dr 1 (m__law_pick [.st, .str z]) fun x => ∃ c ∈ z.cps.toList, x = .str ⟨#[c]⟩ := by
  have e : m__law_pick [.st, .str z] = m__law_next [.st, .int z.length] >>= fun y => dAt (.str z) y := by
    unfold m__law_pick defM b__law_pick cRet eBin eCall aCons aNil eUn eVar
    simp only [List.map, List.length, List.cons_append, List.nil_append, List.getElem?_cons_zero, List.getElem?_cons_succ, pure_bind', dLen]
    rw [guard_of (decide_eq_true h1)]
    show (((((((m__law_next [.st, .int z.length]) : M D)) >>= fun y => dAt (.str z) y) >>= fun x => pure (Ctl.ret x)) >>= fun c => match c with
      | .ret x => pure x
      | .nx _ => pure .non
      | _ => bad) : M D) = _
    rw [bind_assoc', bind_assoc']
    congr 1
    funext y
    exact bind_pure' _
  rw [e]
  have sz : sizeLine < 1073741824 := by decide
  refine Dr.bind (k2 := 0) (next_dr (by omega) (by omega)) (fun y ⟨i, ey, i0, i1⟩ => ?_) (Nat.le_refl _)
  subst ey
  obtain ⟨j, rfl⟩ : ∃ j : Nat, i = j := ⟨_, (Int.toNat_of_nonneg i0).symm⟩
  have hj : j < z.cps.toList.length := by omega
  have ha : atI z.cps.toList (j : Int) = some z.cps.toList[j] := atI_nat (List.getElem?_eq_getElem hj)
  have ed : dAt (.str z) (.int (j : Int)) = pure (.str ⟨#[z.cps.toList[j]]⟩) := by
    show guardB (decide (z.length ≤ sizeLine)) (match atI z.cps.toList (j : Int) with
      | some c => pure (D.str ⟨#[c]⟩)
      | none => bad : M D) = _
    rw [guard_of (decide_eq_true h1), ha]
  rw [ed]
  exact Dr.pure ⟨_, List.getElem_mem hj, rfl⟩
end Cm
end
section
set_option maxHeartbeats 400000
namespace Cm
open PySem PySem.Spec PyProof.Rows L2 Mir
theorem is_whole_int (i : Int) : m_is_whole [.int i] = pure (.bl true) := by rfl
theorem dLe_int (i j : Int) : dLe (.int i) (.int j) = pure (.bl (decide (i ≤ j))) := rfl
theorem is_from_int (t lo hi : Int) : m_is_from [.int t, .int lo, .int hi] = pure (.bl (decide (lo ≤ t) && decide (t ≤ hi))) := by
  simp only [m_is_from, b_is_from, defM, cRet, eAnd, eCall, aCons, aNil, eVar, eChain, pure_bind', List.map, List.length, List.cons_append, List.getElem?_cons_zero, List.getElem?_cons_succ, dLe_int]
  rw [show (0 + 1 == 1) = true from rfl, guard_true, is_whole_int]
  simp only [pure_bind']
  by_cases h : lo ≤ t
  · simp [h, pure_bind', dLe_int]
  · simp [h, pure_bind', dLe_int]
theorem dLt_int (i j : Int) : dLt (.int i) (.int j) = pure (.bl (decide (i < j))) := rfl
theorem dSub_int (i j : Int) : dSub (.int i) (.int j) = pure (.int (i - j)) := rfl
end Cm
end
section
set_option maxHeartbeats 400000
namespace Cm
open PySem PySem.Spec PyProof.Rows L2 Mir
def NameOk (x : Str) : Prop := 1 ≤ x.cps.size ∧ x.cps.size ≤ 8 ∧ ∀ c ∈ x.cps.toList, c ∈ ("abcdefghijklmnopqrstuvwxyz" : Str).cps.toList
theorem all_go {e0 : Ev} : ∀ (cs : List Nat) (acc : List D), (∀ c ∈ cs, c ∈ ("abcdefghijklmnopqrstuvwxyz" : Str).cps.toList) → acc.length + cs.length ≤ sizeLine → 1 < e0.length →
    lcGo e0 (gN 1) nYes (eBin (dIn false) (eVar 1) (eC (.str "abcdefghijklmnopqrstuvwxyz"))) (cs.map fun c => D.str ⟨#[c]⟩) acc = pure (acc ++ cs.map fun _ => D.bl true)
  | [], acc, _, _, _ => by rw [List.map_nil, List.map_nil, List.append_nil]; rfl
  | c :: cs, acc, h, hl, he => by
    have hc := h c (List.mem_cons_self ..)
    rw [List.length_cons] at hl
    have e1 : eBin (dIn false) (eVar 1) (eC (.str "abcdefghijklmnopqrstuvwxyz")) (e0.set 1 (some (.str ⟨#[c]⟩))) = pure (.bl true) := by
      unfold eBin eVar eC
      rw [List.getElem?_set_self he]
      simp only [pure_bind']
      show guardB (decide ((⟨#[c]⟩ : Str).cps.size = 1)) (pure (D.bl (decide (c ∈ ("abcdefghijklmnopqrstuvwxyz" : Str).cps.toList)))) = _
      rw [decide_eq_true hc]
      rfl
    rw [List.map_cons, List.map_cons]
    simp only [lcGo, gN, nYes, pure_bind', if_true]
    rw [e1]
    simp only [pure_bind']
    rw [guard_of (decide_eq_true (by omega)), all_go (e0 := e0) cs (acc ++ [D.bl true]) (fun x hx => h x (List.mem_cons_of_mem _ hx)) (by rw [List.length_append, List.length_singleton]; omega) he, List.append_assoc]
    rfl
section
variable {ma mb mc m : Ev → M D} {n : Ev → M Bool} {a b : Ev → M Ctl} {env e : Ev} {x y z : D} {g g2 : D → D → M D} {u : D → M D}
theorem and_t (h : ma env = pure (.bl true)) : eAnd ma mb env = mb env := by unfold eAnd; rw [h]; rfl
theorem ret_p (h : m env = pure x) : cRet m env = pure (.ret x) := by unfold cRet; rw [h]; rfl
theorem un_p (h : m env = pure x) : eUn u m env = u x := by unfold eUn; rw [h]; rfl
theorem chain_t (h1 : ma env = pure x) (h2 : mb env = pure y) (h3 : mc env = pure z) (h : g x y = pure (.bl true)) : eChain g g2 ma mb mc env = g2 y z := by
  unfold eChain
  rw [h1, pure_bind', h2, pure_bind', h, pure_bind']
  show (mc env >>= fun w => g2 y w) = _
  rw [h3]; rfl
theorem def_p {nl : Nat} {ds : List D} (h : a (ds.map some ++ List.replicate (nl - ds.length) none) = pure (.ret x)) : defM nl a ds = pure x := by unfold defM; rw [h]; rfl
end
theorem bls_true : ∀ cs : List Nat, bls (cs.map fun _ => D.bl true) = some (cs.map fun _ => true)
  | [] => rfl
  | c :: cs => by
    rw [List.map_cons, List.map_cons]
    show (bls (cs.map fun _ => D.bl true)).map (true :: ·) = _
    rw [bls_true cs]; rfl
theorem is_name_ok {x : Str} (h : NameOk x) : m_is_name [.str x] = pure (.bl true) := by
  obtain ⟨h1, h2, h3⟩ := h
  have hl : x.length = x.cps.size := rfl
  have sz : (8 : Nat) ≤ sizeLine := by decide
  have lc : eLc (iOn dIt (eVar 0)) [1] (gN 1) nYes (eBin (dIn false) (eVar 1) (eC (.str "abcdefghijklmnopqrstuvwxyz"))) [some (.str x), none] = pure (.lst (x.cps.toList.map fun _ => D.bl true)) := by
    unfold eLc iOn
    show (lcGo (wipeE [some (.str x), none] [1]) (gN 1) nYes _ (charsD x) [] >>= fun ys => pure (D.lst ys)) = _
    unfold charsD
    rw [all_go (e0 := wipeE [some (.str x), none] [1]) _ [] h3 (by simp; omega) (show 1 < 2 by decide)]
    rfl
  have ln : eUn dLen (eVar 0) [some (.str x), none] = pure (.int x.length) := by
    show guardB (decide (x.length ≤ sizeLine)) (pure (D.int x.length)) = _
    rw [guard_of (decide_eq_true (by omega))]
  have all : dAll (.lst (x.cps.toList.map fun _ => D.bl true)) = pure (.bl true) := by
    show (match bls (x.cps.toList.map fun _ => D.bl true) with
      | some bs => pure (D.bl (bs.all id))
      | none => bad : M D) = _
    rw [bls_true]
    show pure (D.bl ((x.cps.toList.map fun _ => true).all id)) = _
    congr 2
    simp
  have c1 : (1 : Int) ≤ x.length := by omega
  have c2 : (x.length : Int) ≤ 8 := by omega
  refine def_p (ret_p ?_)
  show eAnd _ _ [some (.str x), none] = _
  rw [and_t (show eUn (dIsi isStr) (eVar 0) [some (.str x), none] = pure (.bl true) from rfl)]
  rw [and_t (show eChain dLe dLe (eC (.int 1)) (eUn dLen (eVar 0)) (eC (.int 8)) [some (.str x), none] = pure (.bl true) from by
    rw [chain_t (z := .int 8) rfl ln rfl (by rw [dLe_int, decide_eq_true c1]), dLe_int, decide_eq_true c2])]
  rw [un_p lc]
  exact all
end Cm
end
section
set_option maxHeartbeats 400000
namespace Cm
open PySem PySem.Spec PyProof.Rows L2 Mir
def panD : Option Str → D
  | none => .non
  | some x => .str x
def beamD (p : Str × Int) : D := .tup [.str p.1, .int p.2]
def dOf (ks : List Str) (f : Str → Int) : List (Key × D) := ks.map fun k => (.inr k, .int (f k))
theorem putD_new {kvs : List (Key × D)} {k : Key} {v : D} (h : ∀ p ∈ kvs, p.1 ≠ k) : putD kvs k v = kvs ++ [(k, v)] := by
  unfold putD
  rw [if_neg]
  intro a
  obtain ⟨p, hp, e⟩ := List.any_eq_true.mp a
  exact h p hp (of_decide_eq_true e)
theorem mergeD_new : ∀ (more kvs : List (Key × D)), (kvs.map (·.1) ++ more.map (·.1)).Nodup → mergeD kvs more = kvs ++ more
  | [], kvs, _ => by rw [List.append_nil]; rfl
  | (k, v) :: more, kvs, h => by
    have e : mergeD kvs ((k, v) :: more) = mergeD (putD kvs k v) more := rfl
    have h1 : ∀ p ∈ kvs, p.1 ≠ k := fun p hp e => by
      rw [List.nodup_append] at h
      exact h.2.2 p.1 (List.mem_map.mpr ⟨p, hp, rfl⟩) k (by simp) e
    rw [e, putD_new h1, mergeD_new more _ (by rw [List.map_append, List.append_assoc]; exact h), List.append_assoc]
    rfl
def fnOf (l : List (Str × Int)) (k : Str) : Int := ((l.find? fun p => decide (p.1 = k)).map (·.2)).getD 0
theorem dEq_str (x y : Str) : dEq (.str x) (.str y) = pure (.bl (decide (x = y))) := rfl
theorem dNe_str (x y : Str) : dNe (.str x) (.str y) = pure (.bl (!decide (x = y))) := rfl
theorem dNe_int (i j : Int) : dNe (.int i) (.int j) = pure (.bl (!decide (i = j))) := by
  have h : ∀ k : Int, SeqAt.shaped (.int k) = true := fun k => by simp [SeqAt.shaped, PyData.canLay0, PyData.depth]
  have e : (PyData.int i).eqv (.int j) = decide (i = j) := by
    simp only [PyData.eqv]
    exact Bool.eq_iff_iff.mpr (by simp)
  simp [dNe, dEqB, dEqP, toPy, guardB, h, e]
theorem inD_strs (x : Str) : ∀ xs : List Str, inD (.str x) (xs.map .str) = decide (x ∈ xs)
  | [] => rfl
  | y :: xs => by
    have e : inD (.str x) ((y :: xs).map .str) = ((y == x) || inD (.str x) (xs.map .str)) := rfl
    rw [e, inD_strs x xs, Bool.eq_iff_iff, Bool.or_eq_true, beq_iff_eq, decide_eq_true_iff, decide_eq_true_iff, List.mem_cons, eq_comm (a := y)]
theorem flat_strs : ∀ xs : List Str, (xs.map D.str).all flatD = true
  | [] => rfl
  | x :: xs => by rw [List.map_cons, List.all_cons, flat_strs xs]; rfl
theorem dNin_strs (x : Str) (xs : List Str) : dNin (.str x) (.lst (xs.map .str)) = pure (.bl (!decide (x ∈ xs))) := by
  show guardB (flatD (.str x) && (xs.map D.str).all flatD) (pure (D.bl (!inD (.str x) (xs.map .str)))) = _
  rw [flat_strs, inD_strs]
  rfl
theorem dIn_strs (x : Str) (xs : List Str) : dIn false (.str x) (.lst (xs.map .str)) = pure (.bl (decide (x ∈ xs))) := by
  show guardB (flatD (.str x) && (xs.map D.str).all flatD) (pure (D.bl (inD (.str x) (xs.map .str)))) = _
  rw [flat_strs, inD_strs]
  rfl
theorem dIsN_pan (p : Option Str) : dIsN false (panD p) .non = pure (.bl (decide (p = none))) := by cases p <;> rfl
theorem dNe_pan (p q : Option Str) (hp : ∀ x, p = some x → PyData.strOk x = true) (hq : ∀ x, q = some x → PyData.strOk x = true) : dNe (panD p) (panD q) = pure (.bl (!decide (p = q))) := by
  have hn : SeqAt.shaped .none = true := by simp [SeqAt.shaped, PyData.canLay0, PyData.depth]
  have hs : ∀ x, PyData.strOk x = true → SeqAt.shaped (.str x) = true := fun x h => by simp [SeqAt.shaped, PyData.canLay0, PyData.depth, h]
  cases p with
  | none =>
    cases q with
    | none => simp [dNe, dEqB, dEqP, panD, toPy, guardB, hn, PyData.eqv]
    | some y => simp [dNe, dEqB, dEqP, panD, toPy, guardB, hn, hs y (hq y rfl), PyData.eqv]
  | some x =>
    cases q with
    | none => simp [dNe, dEqB, dEqP, panD, toPy, guardB, hn, hs x (hp x rfl), PyData.eqv]
    | some y =>
      show pure (D.bl (!decide (x = y))) = _
      congr 2
      simp
theorem NameOk.ok {x : Str} (h : NameOk x) : PyData.strOk x = true := by
  have g : ∀ c ∈ ("abcdefghijklmnopqrstuvwxyz" : Str).cps.toList, c < 0x110000 := by decide +kernel
  unfold PyData.strOk
  rw [Array.all_eq_true']
  exact fun c hc => decide_eq_true (g c (h.2.2 c (Array.mem_toList_iff.mpr hc)))
end Cm
end
section
set_option maxHeartbeats 400000
namespace Cm
open PySem PySem.Spec PyProof.Rows L2 Mir
structure Yd where
  ns : List Str
  bs : List (Str × Int)
  mo : Int
  le : Int
structure YdOk (y : Yd) : Prop where
  n1 : 1 ≤ y.ns.length
  n8 : y.ns.length ≤ 8
  nk : ∀ x ∈ y.ns, NameOk x
  nd : y.ns.Nodup
  b1 : 1 ≤ y.bs.length
  b3 : y.bs.length ≤ 3
  bk : ∀ p ∈ y.bs, NameOk p.1
  bd : (y.bs.map (·.1)).Nodup
  st : ∀ p ∈ y.bs, -5 ≤ p.2 ∧ p.2 ≤ 5 ∧ p.2 ≠ 0
  m1 : 1 ≤ y.mo
  m2 : y.mo ≤ 100
  l1 : 0 ≤ y.le
  l2 : y.le ≤ 9
  tu : (2 * y.le + 1) ^ y.bs.length ≤ 400
def Yd.bn (y : Yd) : List Str := y.bs.map (·.1)
abbrev namesD (xs : List Str) : List D := xs.map .str
abbrev beamsD (l : List (Str × Int)) : List D := l.map beamD
def fldsD (y : Yd) : List (Str × D) := [("thing_names", .plt (namesD y.ns)), ("beam_steps", .plt (beamsD y.bs)), ("heaviest", .int y.mo), ("farthest", .int y.le)]
def courtD (y : Yd) : D := .obj "Yard" (fldsD y)
def rowD (y : Yd) : D := .tup [.lst (namesD y.ns), .lst (beamsD y.bs), .int y.mo, .int y.le]
theorem lk_things (y : Yd) : (fldsD y).lookup ("thing_names" : Str) = some (.plt (namesD y.ns)) := by kernel_rfl
theorem lk_beams (y : Yd) : (fldsD y).lookup ("beam_steps" : Str) = some (.plt (beamsD y.bs)) := by kernel_rfl
theorem lk_m1 (y : Yd) : (fldsD y).lookup ("things" : Str) = none := by kernel_rfl
theorem lk_m2 (y : Yd) : (fldsD y).lookup ("beams" : Str) = none := by kernel_rfl
theorem things_eq (y : Yd) : m_Yard_things [courtD y] = pure (.lst (namesD y.ns)) := def_ret (st_ret (ev_un (ev_fld (ev_var rfl) (lk_things y)) rfl))
theorem beams_eq (y : Yd) : m_Yard_beams [courtD y] = pure (.lst (beamsD y.bs)) := def_ret (st_ret (ev_un (ev_fld (ev_var rfl) (lk_beams y)) rfl))
section
variable {y : Yd} {mo : Ev → M D} {env : Ev}
theorem ev_things (h : mo env = pure (courtD y)) : eMeth "Yard" "things" 1 m_Yard_things mo aNil env = pure (.lst (namesD y.ns)) := ev_meth h (lk_m1 y) ev_nil rfl (things_eq y)
theorem ev_beams (h : mo env = pure (courtD y)) : eMeth "Yard" "beams" 1 m_Yard_beams mo aNil env = pure (.lst (beamsD y.bs)) := ev_meth h (lk_m2 y) ev_nil rfl (beams_eq y)
end
theorem lc_bn {e0 : Ev} {l : List (Str × Int)} (h : 3 < e0.length) (hl : l.length ≤ 1000) : lcGo e0 (gT (gsCons (gN 2) (gsCons (gN 3) gsNil))) nYes (eVar 2) (beamsD l) [] = pure (namesD (l.map (·.1))) := by
  have hz : (1000 : Nat) ≤ sizeLine := by decide
  rw [lc_map (f := fun d => match d with
    | .tup [a, _] => a
    | _ => .non)]
  · rw [List.nil_append, List.map_map]
    show pure (l.map fun p => D.str p.1) = (pure ((l.map (·.1)).map D.str) : M (List D))
    rw [List.map_map]
    rfl
  · intro x hx
    obtain ⟨p, _, rfl⟩ := List.mem_map.mp hx
    refine ⟨_, rfl, rfl, ev_var ?_⟩
    rw [List.getElem?_set_ne (by decide), List.getElem?_set_self (by omega)]
    rfl
  · rw [List.length_map, List.length_nil]; omega
def PanOk (y : Yd) (p : Option Str) : Prop := ∀ x, p = some x → x ∈ y.ns
structure Wg where
  b : Str
  l : Option Str
  r : Option Str
structure WgOk (y : Yd) (w : Wg) : Prop where
  b : w.b ∈ y.bn
  l : PanOk y w.l
  r : PanOk y w.r
  ne : w.l = none ∨ w.l ≠ w.r
def wgD (w : Wg) : D := .tup [.str w.b, panD w.l, panD w.r]
theorem PanOk.ok {y : Yd} (o : YdOk y) {p : Option Str} (h : PanOk y p) : ∀ x, p = some x → PyData.strOk x = true := fun x e => (o.nk x (h x e)).ok
theorem zIf {n : Ev → M Bool} {a b : Ev → MY Ctl} {env : Ev} {t : Bool} (h : n env = pure t) : yIf n a b env = if t = true then a env else b env := by
  unfold yIf
  rw [h]
  rfl
theorem zCall {n : Nat} {f : List D → MY D} {ms : Ev → M (List D)} {env : Ev} {xs : List D} (h : ms env = pure xs) (hl : (xs.length == n) = true) : yCall n f ms env = f xs := by
  unfold yCall
  rw [h]
  show guardY (xs.length == n) (f xs) = f xs
  unfold guardY
  rw [if_pos hl]
theorem zDrop {m : Ev → MY D} {env : Ev} {x : D} (h : m env = pure x) : yDrop m env = pure (.nx env) := by
  unfold yDrop
  rw [h]
  rfl
theorem zDropX {m : Ev → MY D} {env : Ev} {x : D} (h : m env = excY x) : yDrop m env = excY x := by
  unfold yDrop
  rw [h]
  rfl
theorem zSeq {a b : Ev → MY Ctl} {env e : Ev} (h : a env = pure (.nx e)) : ySeq a b env = b e := by
  unfold ySeq
  rw [h]
  rfl
theorem zSeqX {a b : Ev → MY Ctl} {env : Ev} {x : D} (h : a env = excY x) : ySeq a b env = excY x := by
  unfold ySeq
  rw [h]
  rfl
theorem zRaise {c f : Str} {m : Ev → M D} {env : Ev} {z : D} (h : m env = pure z) : yRaise c f m env = excY (.exc c [(f, z)]) := by
  unfold yRaise
  rw [h]
  rfl
theorem zDef {n : Nat} {b : Ev → MY Ctl} {ds : List D} {e : Ev} (h : b (ds.map some ++ List.replicate (n - ds.length) none) = pure (.nx e)) : defY n b ds = pure .non := by
  unfold defY
  rw [h]
  rfl
theorem zDefX {n : Nat} {b : Ev → MY Ctl} {ds : List D} {x : D} (h : b (ds.map some ++ List.replicate (n - ds.length) none) = excY x) : defY n b ds = excY x := by
  unfold defY
  rw [h]
  rfl
theorem zTry {tab : List Str} {m : Ev → MY Ctl} {r : D} {env : Ev} {c : Ctl} (h : m env = pure c) : cTryR tab m r env = pure c := by
  funext s
  unfold cTryR
  rw [h]
  rfl
theorem zTryX {tab : List Str} {m : Ev → MY Ctl} {r : D} {env : Ev} {c : Str} {fs : List (Str × D)} (h : m env = excY (.exc c fs)) (hc : c ∈ tab) : cTryR tab m r env = pure (.ret r) := by
  funext s
  unfold cTryR
  rw [h]
  show (if c ∈ tab then _ else _) = _
  rw [if_pos hc]
  rfl
def okB (y : Yd) : D → Bool
  | .str s => decide (s ∈ y.bn)
  | _ => false
def okP (y : Yd) : D → Bool
  | .non => true
  | .str s => decide (s ∈ y.ns)
  | _ => false
def unB : D → D → Bool
  | .str s, .str t => !decide (s = t)
  | _, _ => true
def partsB (y : Yd) (a b c : D) : Bool := okB y a && (okP y b && (okP y c && unB b c))
theorem isi_of {g : D → Bool} {a : D} (h : (tyN a).isSome = true) : dIsi g a = pure (.bl (g a)) := by
  unfold dIsi
  rw [guard_of h]
theorem str_of {a : D} (h : isStr a = true) : ∃ s, a = .str s := by
  cases a <;> first | exact ⟨_, rfl⟩ | cases h
theorem need_beam_any {y : Yd} (o : YdOk y) {a : D} (ha : (tyN a).isSome = true) : my_need_beam [courtD y, a] = if okB y a = true then pure .non else excY (.exc "NoBeam" [("beam", a)]) := by
  have hb := o.b3
  have hc : (tOr' (tNot' (tB' (eUn (dIsi isStr) (eVar 1)))) (tB' (eBin dNin (eVar 1) (eLc (iOn dIt (eMeth "Yard" "beams" 1 m_Yard_beams (eVar 0) aNil)) [2, 3] (gT (gsCons (gN 2) (gsCons (gN 3) gsNil))) nYes (eVar 2))))) [some (courtD y), some a, none, none] = pure (!okB y a) := by
    by_cases hs : isStr a = true
    · obtain ⟨s, rfl⟩ := str_of hs
      exact ev_tOr (t1 := false) (t2 := !decide (s ∈ y.bn)) (ev_tNot (t := true) (ev_tB (ev_un (ev_var rfl) rfl))) fun _ => ev_tB (ev_bin (ev_var rfl) (ev_lc (ev_iOn (ev_beams (ev_var rfl)) rfl) (lc_bn (show 3 < 4 by decide) (by omega))) (dNin_strs s y.bn))
    · have hs' : isStr a = false := by simpa using hs
      have e : okB y a = false := by
        cases a <;> first | rfl | cases hs'
      rw [e]
      exact ev_tOr (t1 := true) (t2 := true) (ev_tNot (t := false) (ev_tB (ev_un (ev_var rfl) (by rw [isi_of ha, hs'])))) fun e => nomatch e
  cases e : okB y a with
  | true =>
    rw [if_pos rfl]
    refine zDef (e := [some (courtD y), some a, none, none]) ((zIf hc).trans ?_)
    rw [e]
    rfl
  | false =>
    rw [if_neg (by decide)]
    refine zDefX ((zIf hc).trans ?_)
    rw [e]
    exact zRaise (ev_var rfl)
theorem need_pan_any {y : Yd} {a : D} (ha : (tyN a).isSome = true) : my_need_pan [courtD y, a] = if okP y a = true then pure .non else excY (.exc "NoPan" [("pan", a)]) := by
  have hc : (tAnd' (tB' (eBin (dIsN true) (eVar 1) (eC .non))) (tOr' (tNot' (tB' (eUn (dIsi isStr) (eVar 1)))) (tB' (eBin dNin (eVar 1) (eMeth "Yard" "things" 1 m_Yard_things (eVar 0) aNil))))) [some (courtD y), some a] = pure (!okP y a) := by
    by_cases hn : a = .non
    · subst hn
      exact ev_tAnd (t1 := false) (t2 := false) (ev_tB (ev_bin (ev_var rfl) ev_c rfl)) fun e => nomatch e
    have nn : isNon a = false := by
      cases a <;> first | rfl | exact absurd rfl hn
    have h1 : tB' (eBin (dIsN true) (eVar 1) (eC .non)) [some (courtD y), some a] = pure true := ev_tB (ev_bin (ev_var rfl) ev_c (by
      show pure (D.bl (!isNon a)) = _
      rw [nn]; rfl))
    by_cases hs : isStr a = true
    · obtain ⟨s, rfl⟩ := str_of hs
      exact ev_tAnd (t1 := true) (t2 := !decide (s ∈ y.ns)) h1 fun _ => ev_tOr (t1 := false) (t2 := !decide (s ∈ y.ns)) (ev_tNot (t := true) (ev_tB (ev_un (ev_var rfl) rfl))) fun _ => ev_tB (ev_bin (ev_var rfl) (ev_things (ev_var rfl)) (dNin_strs s y.ns))
    · have hs' : isStr a = false := by simpa using hs
      have e : okP y a = false := by
        cases a <;> first | exact absurd rfl hn | rfl | cases hs'
      rw [e]
      exact ev_tAnd (t1 := true) (t2 := true) h1 fun _ => ev_tOr (t1 := true) (t2 := true) (ev_tNot (t := false) (ev_tB (ev_un (ev_var rfl) (by rw [isi_of ha, hs'])))) fun e => nomatch e
  cases e : okP y a with
  | true =>
    rw [if_pos rfl]
    refine zDef (e := [some (courtD y), some a]) ((zIf hc).trans ?_)
    rw [e]
    rfl
  | false =>
    rw [if_neg (by decide)]
    refine zDefX ((zIf hc).trans ?_)
    rw [e]
    exact zRaise (ev_var rfl)
theorem pan_of {y : Yd} {b : D} (h : okP y b = true) : ∃ p : Option Str, b = panD p ∧ PanOk y p := by
  cases b with
  | non => exact ⟨none, rfl, fun _ e => nomatch e⟩
  | str s => exact ⟨some s, rfl, fun z e => by cases e; exact of_decide_eq_true h⟩
  | _ => cases h
theorem okP_pan {y : Yd} {p : Option Str} : okP y (panD p) = true ↔ PanOk y p := by
  cases p with
  | none => exact ⟨fun _ _ e => (nomatch e), fun _ => rfl⟩
  | some s => exact ⟨fun h z e => by cases e; exact of_decide_eq_true h, fun h => decide_eq_true (h s rfl)⟩
theorem unB_pan (p q : Option Str) : (decide (p = none) || !decide (p = q)) = unB (panD p) (panD q) := by
  cases p with
  | none => cases q <;> rfl
  | some s =>
    cases q with
    | none => rfl
    | some t =>
      show (decide (some s = none) || !decide (some s = some t)) = !decide (s = t)
      simp
theorem are_parts_any {y : Yd} (o : YdOk y) {a b c : D} (ha : (tyN a).isSome = true) (hb : (tyN b).isSome = true) (hc : (tyN c).isSome = true) : m_are_parts [courtD y, a, b, c] = pure (.bl (partsB y a b c)) := by
  refine def_ret ?_
  have c1 := zCall (n := 2) (f := my_need_beam) (ms := aCons (eVar 0) (aCons (eVar 1) aNil)) (env := [some (courtD y), some a, some b, some c]) (xs := [courtD y, a]) (ev_cons (ev_var rfl) (ev_cons (ev_var rfl) ev_nil)) rfl
  have c2 := zCall (n := 2) (f := my_need_pan) (ms := aCons (eVar 0) (aCons (eVar 2) aNil)) (env := [some (courtD y), some a, some b, some c]) (xs := [courtD y, b]) (ev_cons (ev_var rfl) (ev_cons (ev_var rfl) ev_nil)) rfl
  have c3 := zCall (n := 2) (f := my_need_pan) (ms := aCons (eVar 0) (aCons (eVar 3) aNil)) (env := [some (courtD y), some a, some b, some c]) (xs := [courtD y, c]) (ev_cons (ev_var rfl) (ev_cons (ev_var rfl) ev_nil)) rfl
  rw [need_beam_any o ha] at c1
  rw [need_pan_any hb] at c2
  rw [need_pan_any hc] at c3
  unfold partsB
  cases ea : okB y a with
  | false =>
    rw [ea, if_neg (by decide)] at c1
    exact st_seqr (zTryX (zSeqX (zDropX c1)) (by decide))
  | true =>
    rw [ea, if_pos rfl] at c1
    cases eb : okP y b with
    | false =>
      rw [eb, if_neg (by decide)] at c2
      exact st_seqr (zTryX ((zSeq (zDrop c1)).trans (zSeqX (zDropX c2))) (by decide))
    | true =>
      rw [eb, if_pos rfl] at c2
      cases ec : okP y c with
      | false =>
        rw [ec, if_neg (by decide)] at c3
        exact st_seqr (zTryX ((zSeq (zDrop c1)).trans ((zSeq (zDrop c2)).trans (zDropX c3))) (by decide))
      | true =>
        rw [ec, if_pos rfl] at c3
        obtain ⟨p, rfl, hp⟩ := pan_of eb
        obtain ⟨q, rfl, hq⟩ := pan_of ec
        refine st_seq (zTry ((zSeq (zDrop c1)).trans ((zSeq (zDrop c2)).trans (zDrop c3)))) ?_
        rw [st_ret (ev_or (t1 := decide (p = none)) (t2 := !decide (p = q)) (ev_bin (ev_var rfl) ev_c (dIsN_pan _)) fun _ => ev_bin (ev_var rfl) (ev_var rfl) (dNe_pan _ _ (hp.ok o) (hq.ok o)))]
        rw [unB_pan]
        rfl
theorem ty_pan (p : Option Str) : (tyN (panD p)).isSome = true := by cases p <;> rfl
def words3 : List Str := ["left", "even", "right"]
structure Rw where
  w : Wg
  u : Str
structure RwOk (y : Yd) (r : Rw) : Prop where
  w : WgOk y r.w
  u : r.u ∈ words3
inductive SeqOf (xs : List D) : D → Prop
  | lst : SeqOf xs (.lst xs)
  | tup : SeqOf xs (.tup xs)
theorem SeqOf.it {xs : List D} {d : D} (h : SeqOf xs d) : dIt d = pure xs := by cases h <;> rfl
theorem SeqOf.en {xs : List D} {d : D} (h : SeqOf xs d) : dEnum [d] = pure (enumD 0 xs) := by cases h <;> rfl
theorem SeqOf.si {xs : List D} {d : D} (h : SeqOf xs d) : dIsi (fun x => isLst x || isTup x) d = pure (.bl true) := by cases h <;> rfl
theorem SeqOf.tp {xs : List D} {d : D} (h : SeqOf xs d) : dTuple d = pure (.tup xs) := by cases h <;> rfl
end Cm
end
section
set_option maxHeartbeats 400000
namespace Cm
open PySem PySem.Spec PyProof.Rows L2 Mir
section
variable {α σ : Type}
theorem lc_mapT {e0 : Ev} {tg : Ev → D → Option Ev} {n : Ev → M Bool} {me : Ev → M D} (φ ψ : α → D) : ∀ (xs : List α) (acc : List D), (∀ x ∈ xs, ∃ e, tg e0 (φ x) = some e ∧ n e = pure true ∧ me e = pure (ψ x)) → acc.length + xs.length ≤ sizeLine → lcGo e0 tg n me (xs.map φ) acc = pure (acc ++ xs.map ψ)
  | [], acc, _, _ => by rw [List.map_nil, List.map_nil, List.append_nil]; rfl
  | x :: xs, acc, h, hl => by
    obtain ⟨e, h1, h2, h3⟩ := h x (List.mem_cons_self ..)
    rw [List.length_cons] at hl
    rw [List.map_cons, List.map_cons]
    simp only [lcGo, h1, h2, h3, pure_bind', if_true]
    rw [guard_of (decide_eq_true (by omega)), lc_mapT φ ψ xs (acc ++ [ψ x]) (fun y hy => h y (List.mem_cons_of_mem _ hy)) (by rw [List.length_append, List.length_singleton]; omega)]
    rw [List.append_assoc]; rfl
theorem lc_filterT {e0 : Ev} {tg : Ev → D → Option Ev} {n : Ev → M Bool} {me : Ev → M D} (φ ψ : α → D) (p : α → Bool) : ∀ (xs : List α) (acc : List D), (∀ x ∈ xs, ∃ e, tg e0 (φ x) = some e ∧ n e = pure (p x) ∧ (p x = true → me e = pure (ψ x))) → acc.length + xs.length ≤ sizeLine → lcGo e0 tg n me (xs.map φ) acc = pure (acc ++ (xs.filter p).map ψ)
  | [], acc, _, _ => by rw [List.filter_nil, List.map_nil, List.map_nil, List.append_nil]; rfl
  | x :: xs, acc, h, hl => by
    obtain ⟨e, h1, h2, h3⟩ := h x (List.mem_cons_self ..)
    rw [List.length_cons] at hl
    rw [List.map_cons]
    simp only [lcGo, h1, h2, pure_bind']
    cases hp : p x with
    | true =>
      rw [if_pos rfl, h3 hp, pure_bind', guard_of (decide_eq_true (by omega)), lc_filterT φ ψ p xs (acc ++ [ψ x]) (fun y hy => h y (List.mem_cons_of_mem _ hy)) (by rw [List.length_append, List.length_singleton]; omega)]
      rw [List.append_assoc, List.filter_cons_of_pos hp, List.map_cons]; rfl
    | false =>
      rw [if_neg (by decide), lc_filterT φ ψ p xs acc (fun y hy => h y (List.mem_cons_of_mem _ hy)) (by omega), List.filter_cons_of_neg (by rw [hp]; decide)]
theorem dc_mapT {e0 : Ev} {tg : Ev → D → Option Ev} {n : Ev → M Bool} {mk mv : Ev → M D} (φ : α → D) (ψ : α → Key × D) : ∀ (xs : List α) (acc : List (Key × D)), (∀ x ∈ xs, ∃ e kd, tg e0 (φ x) = some e ∧ n e = pure true ∧ mk e = pure kd ∧ keyD kd = some (ψ x).1 ∧ mv e = pure (ψ x).2) → acc.length + xs.length ≤ sizeLine → dcGo e0 tg n mk mv (xs.map φ) acc = pure (mergeD acc (xs.map ψ))
  | [], acc, _, _ => rfl
  | x :: xs, acc, h, hl => by
    obtain ⟨e, kd, h1, h2, h3, h4, h5⟩ := h x (List.mem_cons_self ..)
    rw [List.length_cons] at hl
    have pl : (putD acc (ψ x).1 (ψ x).2).length ≤ acc.length + 1 := by
      unfold putD; split
      · rw [List.length_map]; omega
      · rw [List.length_append]; exact Nat.le_refl _
    rw [List.map_cons]
    simp only [dcGo, h1, h2, h3, h4, h5, pure_bind', if_true]
    rw [guard_of (decide_eq_true (by omega)), dc_mapT φ ψ xs _ (fun y hy => h y (List.mem_cons_of_mem _ hy)) (by omega)]
    rfl
theorem for_foldT {tg : Ev → D → Option Ev} {b : Ev → M Ctl} (φ : α → D) (J : Nat → σ → Ev → Prop) (st : σ → α → σ) : ∀ (xs : List α) (i : Nat) (s : σ) (env : Ev), J i s env → (∀ x ∈ xs, ∀ j s env, j < i + xs.length → J j s env → ∃ e e', tg env (φ x) = some e ∧ b e = pure (.nx e') ∧ J (j + 1) (st s x) e') → ∃ e', forGo tg b (xs.map φ) env = pure (.nx e') ∧ J (i + xs.length) (xs.foldl st s) e'
  | [], i, s, env, h, _ => ⟨env, rfl, h⟩
  | x :: xs, i, s, env, h, hb => by
    obtain ⟨e, e', h1, h2, h3⟩ := hb x (List.mem_cons_self ..) i s env (by rw [List.length_cons]; omega) h
    obtain ⟨e2, h4, h5⟩ := for_foldT φ J st xs (i + 1) (st s x) e' h3 fun y hy j s env hj => hb y (List.mem_cons_of_mem _ hy) j s env (by rw [List.length_cons]; omega)
    refine ⟨e2, ?_, by rw [List.length_cons, Nat.add_comm xs.length 1, ← Nat.add_assoc]; exact h5⟩
    rw [List.map_cons]
    simp only [forGo, h1, h2, pure_bind']
    exact h4
theorem bls_all : ∀ xs : List α, bls (xs.map fun _ => D.bl true) = some (xs.map fun _ => true)
  | [] => rfl
  | c :: cs => by
    rw [List.map_cons, List.map_cons]
    show (bls (cs.map fun _ => D.bl true)).map (true :: ·) = _
    rw [bls_all cs]; rfl
theorem all_true (xs : List α) : dAll (.lst (xs.map fun _ => D.bl true)) = pure (.bl true) := by
  show (match bls (xs.map fun _ => D.bl true) with
    | some bs => pure (D.bl (bs.all id))
    | none => bad : M D) = _
  rw [bls_all]
  show pure (D.bl ((xs.map fun _ => true).all id)) = _
  congr 2
  simp
end
structure Wd where
  ks : List Str
  f : Str → Int
  bk : List Str
  g : Str → Int
structure WdOk (y : Yd) (w : Wd) : Prop where
  kp : w.ks.Perm y.ns
  bp : w.bk.Perm y.bn
  f : ∀ k ∈ y.ns, 1 ≤ w.f k ∧ w.f k ≤ y.mo
  g : ∀ b ∈ y.bn, -y.le ≤ w.g b ∧ w.g b ≤ y.le
end Cm
end
section
set_option maxHeartbeats 400000
namespace Cm
open PySem PySem.Spec PyProof.Rows L2 Mir
end Cm
end
section
set_option maxHeartbeats 400000
namespace Cm
open PySem PySem.Spec PyProof.Rows L2 Mir
def Plain (d : D) (w e : Nat) : Prop := ∃ p, toPy d = some p ∧ shP d = some p ∧ p.canLay0 = true ∧ p.showable = true ∧ p.leavesShort 13 = true ∧ p.weight ≤ w ∧ p.depth ≤ e
def Plains (xs : List D) (w e : Nat) : Prop := ∃ ps, toPys xs = some ps ∧ shPs xs = some ps ∧ PyData.canLayAll0 ps = true ∧ PyData.showableAll ps = true ∧ PyData.leavesShortAll 13 ps = true ∧ PyData.weightAll ps ≤ xs.length * (w + 1) ∧ PyData.depthAll ps ≤ e
theorem Plains.of {w e : Nat} : ∀ {xs : List D}, (∀ x ∈ xs, Plain x w e) → Plains xs w e
  | [], _ => ⟨[], rfl, rfl, by simp [PyData.canLayAll0], by simp [PyData.showableAll], by simp [PyData.leavesShortAll], by simp [PyData.weightAll], by simp [PyData.depthAll]⟩
  | x :: xs, h => by
    obtain ⟨p, a1, a2, a3, a4, a5, a6, a7⟩ := h x (List.mem_cons_self ..)
    obtain ⟨ps, b1, b2, b3, b4, b5, b6, b7⟩ := Plains.of fun y hy => h y (List.mem_cons_of_mem _ hy)
    refine ⟨p :: ps, by simp only [toPys, a1, b1], by simp only [shPs, a2, b2], by simp only [PyData.canLayAll0, a3, b3]; rfl, by simp only [PyData.showableAll, a4, b4]; rfl, by simp only [PyData.leavesShortAll, a5, b5]; rfl, ?_, ?_⟩
    · simp only [PyData.weightAll]
      rw [List.length_cons, Nat.add_mul, Nat.one_mul]
      omega
    · simp only [PyData.depthAll]
      omega
theorem Plain.tup {xs : List D} {w e : Nat} (h : ∀ x ∈ xs, Plain x w e) : Plain (.tup xs) (xs.length * (w + 1)) (e + 1) := by
  obtain ⟨ps, b1, b2, b3, b4, b5, b6, b7⟩ := Plains.of h
  exact ⟨.tuple ps, by simp only [toPy, b1, Option.map_some], by simp only [shP, b2, Option.map_some], by simpa only [PyData.canLay0] using b3, by simpa only [PyData.showable] using b4, by simpa only [PyData.leavesShort] using b5, by simpa only [PyData.weight] using b6, by simp only [PyData.depth]; omega⟩
theorem Plain.lst {xs : List D} {w e : Nat} (h : ∀ x ∈ xs, Plain x w e) : Plain (.lst xs) (xs.length * (w + 1)) (e + 1) := by
  obtain ⟨ps, b1, b2, b3, b4, b5, b6, b7⟩ := Plains.of h
  exact ⟨.list ps, by simp only [toPy, b1, Option.map_some], by simp only [shP, b2, Option.map_some], by simpa only [PyData.canLay0] using b3, by simpa only [PyData.showable] using b4, by simpa only [PyData.leavesShort] using b5, by simpa only [PyData.weight] using b6, by simp only [PyData.depth]; omega⟩
theorem Plain.mono {d : D} {w w' e e' : Nat} (h : Plain d w e) (hw : w ≤ w') (he : e ≤ e') : Plain d w' e' := by
  obtain ⟨p, a1, a2, a3, a4, a5, a6, a7⟩ := h
  exact ⟨p, a1, a2, a3, a4, a5, by omega, by omega⟩
theorem Plain.non : Plain .non 64 0 := ⟨.none, rfl, rfl, by simp [PyData.canLay0], by simp [PyData.showable], by simp [PyData.leavesShort], by simp [PyData.weight], by simp [PyData.depth]⟩
theorem Plain.bl (b : Bool) : Plain (.bl b) 64 0 := ⟨.bool b, rfl, rfl, by simp [PyData.canLay0], by simp [PyData.showable], by simp [PyData.leavesShort], by simp [PyData.weight], by simp [PyData.depth]⟩
theorem log_lt {n k : Nat} (h : n < 2 ^ k) (hk : 0 < k) : n.log2 < k := by
  by_cases z : n = 0
  · subst z; simpa using hk
  · exact (Nat.log2_lt z).mpr h
theorem Plain.int {i : Int} (h : i.natAbs < 10 ^ 12) : Plain (.int i) 64 0 := by
  have l : i.natAbs.log2 < 60 := log_lt (by omega) (by decide)
  refine ⟨.int i, rfl, rfl, by simp [PyData.canLay0], ?_, ?_, ?_, by simp [PyData.depth]⟩
  · simp only [PyData.showable]
    exact decide_eq_true (by omega)
  · simp only [PyData.leavesShort]
    exact decide_eq_true (PyData.shown_int_le h)
  · simp only [PyData.weight]
    split <;> omega
theorem ok_lt {x : Str} (h : PyData.strOk x = true) : (x.cps.toList.all fun c => decide (c < 16 ^ 8)) = true := by
  unfold PyData.strOk at h
  rw [Array.all_eq_true'] at h
  refine List.all_eq_true.mpr fun c hc => decide_eq_true ?_
  have := of_decide_eq_true (h c (Array.mem_toList_iff.mp hc))
  omega
theorem Plain.str {x : Str} (h : PyData.strOk x = true) (hl : x.cps.size ≤ 64) : Plain (.str x) 64 0 :=
  ⟨.str x, rfl, rfl, by simpa only [PyData.canLay0] using h, by simp [PyData.showable], by simpa only [PyData.leavesShort] using ok_lt h, by simpa only [PyData.weight] using hl, by simp [PyData.depth]⟩
theorem NameOk.plain {x : Str} (h : NameOk x) : Plain (.str x) 64 0 := Plain.str h.ok (by have := h.2.1; omega)
theorem shaped_of {p : PyData} (h : p.canLay0 = true) (hd : p.depth ≤ 64) : SeqAt.shaped p = true := by
  unfold SeqAt.shaped
  rw [h, decide_eq_true hd]; rfl
theorem dEqB_P {neg : Bool} {x y : D} (hx : isRefD x = true) : dEqB neg x y = dEqP neg x y := by
  cases x <;> first | exact (Bool.false_ne_true hx).elim | rfl
theorem dEqP_val {neg : Bool} {x y : D} {p q : PyData} (e1 : toPy x = some p) (e2 : toPy y = some q) (s1 : SeqAt.shaped p = true) (s2 : SeqAt.shaped q = true) : dEqP neg x y = pure (.bl (if neg = true then !PyData.eqv p q else PyData.eqv p q)) := by
  simp only [dEqP, e1, e2, s1, s2]
  rfl
def Shows (d : D) (w e : Nat) : Prop := ∃ p, shP d = some p ∧ p.showable = true ∧ p.leavesShort 13 = true ∧ p.weight ≤ w ∧ p.depth ≤ e
theorem Plain.shows {d : D} {w e : Nat} (h : Plain d w e) : Shows d w e := by
  obtain ⟨p, a1, a2, a3, a4, a5, a6, a7⟩ := h
  exact ⟨p, a2, a4, a5, a6, a7⟩
theorem Shows.mono {d : D} {w w' e e' : Nat} (h : Shows d w e) (hw : w ≤ w') (he : e ≤ e') : Shows d w' e' := by
  obtain ⟨p, a1, a2, a3, a4, a5⟩ := h
  exact ⟨p, a1, a2, a3, by omega, by omega⟩
theorem Plain.good {d : D} {w e : Nat} (h : Plain d w e) : good1 d = true := by
  obtain ⟨p, a1, a2, a3, a4, a5, a6, a7⟩ := h
  unfold good1
  rw [a2]
  show (!p.hasDict || noL d) = true
  rw [PyData.hasDict_of_canLay p a3]
  rfl
theorem Shows.good {d : D} {w e : Nat} (h : Shows d w e) (n : noL d = true) : good1 d = true := by
  obtain ⟨p, a1, a2, a3, a4, a5⟩ := h
  unfold good1
  rw [a1]
  show (!p.hasDict || noL d) = true
  rw [n, Bool.or_true]
theorem Shows.repr {d : D} {w e : Nat} (h : Shows d w e) (hr : isRefD d = true) (hg : goodR d = true) (hw : w ≤ 2 ^ 20) (he : e ≤ 60) : ∃ z, dRepr d = pure (.str z) := by
  obtain ⟨p, a1, a2, a3, a4, a5⟩ := h
  refine ⟨p.shown, ?_⟩
  unfold dRepr
  rw [a1]
  show guardB _ _ = _
  rw [guard_of]
  rw [show okR d = true by unfold okR; rw [hr]; rfl, hg, a2, decide_eq_true (PyData.shown_fits (B := 13) (by decide) (by decide) a3 (by omega)), decide_eq_true (show p.depth ≤ 60 by omega)]
  rfl
theorem shPk_dOf {f : Str → Int} : ∀ {ks : List Str}, (∀ k ∈ ks, PyData.strOk k = true ∧ k.cps.size ≤ 64 ∧ (f k).natAbs < 10 ^ 12) → ∃ ps, shPk (dOf ks f) = some ps ∧ PyData.showableKv ps = true ∧ PyData.leavesShortKv 13 ps = true ∧ PyData.weightKv ps ≤ ks.length * 130 ∧ PyData.depthKv ps ≤ 0
  | [], _ => ⟨[], rfl, by simp [PyData.showableKv], by simp [PyData.leavesShortKv], by simp [PyData.weightKv], by simp [PyData.depthKv]⟩
  | k :: ks, h => by
    obtain ⟨ps, b1, b2, b3, b4, b5⟩ := shPk_dOf fun x hx => h x (List.mem_cons_of_mem _ hx)
    obtain ⟨k1, k2, k3⟩ := h k (List.mem_cons_self ..)
    obtain ⟨p, c1, c2, c3, c4, c5, c6, c7⟩ := Plain.str k1 k2
    obtain ⟨q, d1, d2, d3, d4, d5, d6, d7⟩ := Plain.int k3
    cases c1; cases d1
    have e : shPk (dOf (k :: ks) f) = some ((PyData.str k, PyData.int (f k)) :: ps) := by
      show shPk ((Sum.inr k, D.int (f k)) :: dOf ks f) = _
      simp only [shPk, b1, shP, keyPy]
    refine ⟨_, e, by simp only [PyData.showableKv, c4, d4, b2]; rfl, by simp only [PyData.leavesShortKv, c5, d5, b3]; rfl, ?_, ?_⟩
    · simp only [PyData.weightKv]
      rw [List.length_cons, Nat.add_mul, Nat.one_mul]
      omega
    · simp only [PyData.depthKv]
      omega
theorem Shows.dOf {ks : List Str} {f : Str → Int} (h : ∀ k ∈ ks, PyData.strOk k = true ∧ k.cps.size ≤ 64 ∧ (f k).natAbs < 10 ^ 12) : Shows (.dic (dOf ks f)) (ks.length * 130) 1 := by
  obtain ⟨ps, b1, b2, b3, b4, b5⟩ := shPk_dOf h
  refine ⟨.dict ps, by simp only [shP, b1, Option.map_some], by simpa only [PyData.showable] using b2, by simpa only [PyData.leavesShort] using b3, by simpa only [PyData.weight] using b4, ?_⟩
  simp only [PyData.depth]
  omega
theorem word_plain {u : Str} (h : u ∈ words3) : Plain (.str u) 64 0 := by
  have g : ∀ u ∈ words3, PyData.strOk u = true ∧ u.cps.size ≤ 64 := by decide +kernel
  exact Plain.str (g u h).1 (g u h).2
theorem pan_plain {y : Yd} (o : YdOk y) {p : Option Str} (h : PanOk y p) : Plain (panD p) 64 0 := by
  cases p with
  | none => exact Plain.non
  | some x => exact (o.nk x (h x rfl)).plain
theorem bn_name {y : Yd} (o : YdOk y) {b : Str} (h : b ∈ y.bn) : NameOk b := by
  obtain ⟨p, hp, rfl⟩ := List.mem_map.mp h
  exact o.bk p hp
end Cm
end
section
set_option maxHeartbeats 400000
namespace Cm
open PySem PySem.Spec PyProof.Rows L2 Mir
def dOf' (ns : List Str) : List (Key × D) := ns.map fun k => (Sum.inr k, D.bl true)
theorem are_names_eq {ns : List Str} {mo : Int} (h1 : 1 ≤ ns.length) (hm : (ns.length : Int) ≤ mo) (hl : ns.length ≤ 1000) (hk : ∀ x ∈ ns, NameOk x) (nd : ns.Nodup) : m_are_names [.lst (namesD ns), .int mo] = pure (.bl true) := by
  have hz : (1000 : Nat) ≤ sizeLine := by decide
  have ln : (namesD ns).length = ns.length := List.length_map ..
  refine def_ret (st_seq (st_iff (t := _) (ev_tOr (t1 := false) (t2 := false) (ev_tNot (t := true) (ev_tB (ev_un (ev_var rfl) rfl))) fun _ => ev_tNot (t := true) (ev_tB ?_)) rfl st_nx) (st_ret (ev_and (t1 := true) (t2 := true) (ev_un (ev_lc (ev_iOn (ev_var rfl) rfl) (lc_mapT D.str (fun _ => D.bl true) ns [] (fun x hx => ⟨_, rfl, rfl, ev_call (ev_cons (ev_var rfl) ev_nil) rfl (is_name_ok (hk x hx))⟩) (by simp; omega))) (all_true ns)) fun _ => ev_bin (x := .int ns.length) (y := .int ns.length) (ev_un (x := .dic (dOf' ns)) (ev_dc (ev_iOn (ev_var rfl) rfl) ?_) ?_) (ev_un (ev_var rfl) ?_) ?_)))
  · refine ev_chain (t1 := true) (t2 := true) (z := .int mo) ev_c (y := .int ns.length) (ev_un (ev_var rfl) ?_) ?_ (fun _ => ev_var rfl) fun _ => ?_
    · show pure (D.int (namesD ns).length) = _
      rw [ln]
    · rw [dLe_int, decide_eq_true (by omega)]
    · rw [dLe_int, decide_eq_true hm]
  · rw [dc_mapT D.str (fun k => (Sum.inr k, D.bl true)) ns [] (fun x hx => ⟨_, _, rfl, rfl, ev_var rfl, rfl, ev_c⟩) (by simp; omega)]
    rw [mergeD_new _ _ (by
      show ((ns.map fun k => (Sum.inr k, D.bl true)).map (·.1)).Nodup
      rw [List.map_map]
      exact List.Pairwise.map _ (fun a b e z => e (by injection z)) nd), List.nil_append]
    rfl
  · show pure (D.int (dOf' ns).length) = _
    rw [show (dOf' ns).length = ns.length from List.length_map ..]
  · show pure (D.int (namesD ns).length) = _
    rw [ln]
  · rw [dEq_int, decide_eq_true rfl]
theorem is_beam_eq {p : Str × Int} (h : NameOk p.1) (hs : -5 ≤ p.2 ∧ p.2 ≤ 5 ∧ p.2 ≠ 0) : m_is_beam [beamD p] = pure (.bl true) := by
  refine def_ret (st_seq (st_iff (t := _) (ev_tOr (t1 := false) (t2 := false) (ev_tNot (t := true) (ev_tB (ev_un (ev_var rfl) rfl))) fun _ => ev_tOr (t1 := false) (t2 := false) (ev_tB (ev_bin (x := .int 2) (ev_un (ev_var rfl) rfl) ev_c ?_)) fun _ => ev_tNot (t := true) (ev_tB (ev_call (ev_cons (ev_bin (ev_var rfl) ev_c rfl) ev_nil) rfl (is_name_ok h)))) rfl st_nx) (st_ret (ev_and (t1 := true) (t2 := true) (ev_call (ev_cons (ev_bin (ev_var rfl) ev_c rfl) (ev_cons (ev_neg ev_c) (ev_cons ev_c ev_nil))) rfl ?_) fun _ => ev_bin (ev_bin (ev_var rfl) ev_c rfl) ev_c ?_)))
  · rw [dNe_int]; rfl
  · rw [is_from_int, decide_eq_true hs.1, decide_eq_true hs.2.1]; rfl
  · rw [dNe_int, decide_eq_false hs.2.2]; rfl
theorem are_beams_eq {l : List (Str × Int)} (h1 : 1 ≤ l.length) (h3 : l.length ≤ 3) (hk : ∀ p ∈ l, NameOk p.1) (hs : ∀ p ∈ l, -5 ≤ p.2 ∧ p.2 ≤ 5 ∧ p.2 ≠ 0) (nd : (l.map (·.1)).Nodup) : m_are_beams [.lst (beamsD l)] = pure (.bl true) := by
  have hz : (1000 : Nat) ≤ sizeLine := by decide
  have lm : (l.map (·.1)).length = l.length := List.length_map ..
  refine def_ret (st_seq (st_iff (t := _) (ev_tOr (t1 := false) (t2 := false) (ev_tNot (t := true) (ev_tB (ev_un (ev_var rfl) rfl))) fun _ => ev_tNot (t := true) (ev_tB (ev_un (ev_lc (ev_iOn (ev_var rfl) rfl) (lc_mapT beamD (fun _ => D.bl true) l [] (fun p hp => ⟨_, rfl, rfl, ev_call (ev_cons (ev_var rfl) ev_nil) rfl (is_beam_eq (hk p hp) (hs p hp))⟩) (by simp; omega))) (all_true l)))) rfl st_nx) (st_ret (ev_call (ev_cons (ev_lc (ys := namesD (l.map (·.1))) (ev_iOn (ev_var rfl) rfl) ?_) (ev_cons ev_c ev_nil)) rfl (are_names_eq (by omega) (by omega) (by omega) (fun x hx => ?_) nd))))
  · rw [lc_mapT beamD (fun p => D.str p.1) l [] (fun p hp => ⟨_, rfl, rfl, ev_bin (x := beamD p) (ev_var rfl) ev_c rfl⟩) (by simp; omega), List.nil_append]
    unfold namesD
    rw [List.map_map]
    rfl
  · obtain ⟨p, hp, rfl⟩ := List.mem_map.mp hx
    exact hk p hp
theorem dMul_int2 {i j : Int} (h : -(2 ^ 64) < j ∧ j < 2 ^ 64) : dMul (.int i) (.int j) = pure (.int (i * j)) := by
  show guardB (mulOk i j) (pure (D.int (i * j))) = _
  rw [guard_of (by unfold mulOk; simp; omega)]
theorem range_eq (n : Nat) (h : n ≤ 1000) : dRange [.int n] = pure ((List.range n).map fun (k : Nat) => D.int (0 + (k : Int))) := by
  show guardB (decide (-(2 ^ 62) ≤ (n : Int) ∧ (n : Int) < 2 ^ 62)) (pure (intsD 0 (n : Int).toNat)) = _
  rw [guard_of (decide_eq_true (by omega)), Int.toNat_natCast]
  rfl
theorem tuples_eq {le : Int} (h0 : 0 ≤ le) (h9 : le ≤ 9) (n : Nat) (hn : n ≤ 3) : m_tuples_of [.int le, .int n] = pure (.int ((2 * le + 1) ^ n)) := by
  obtain ⟨e', h1, h2⟩ := for_foldT (tg := gN 3) (b := cSet 2 (eBin dMul (eVar 2) (eBin dAdd (eBin dMul (eC (.int 2)) (eVar 0)) (eC (.int 1))))) (fun (k : Nat) => D.int (0 + (k : Int))) (fun i (s : Int) env => s = (2 * le + 1) ^ i ∧ ∃ a, env = [some (.int le), some (.int n), some (.int s), a]) (fun s _ => s * (2 * le + 1)) (List.range n) 0 1 [some (.int le), some (.int n), some (.int 1), none] ⟨(Int.pow_zero _).symm, _, rfl⟩ fun k hk j s env hj hJ => by
    obtain ⟨hs, a, rfl⟩ := hJ
    refine ⟨_, _, rfl, st_set (ev_bin (ev_var rfl) (ev_bin (ev_bin ev_c (ev_var rfl) (dMul_int (by omega))) ev_c (dAdd_int _ _)) (dMul_int2 (by omega))), ?_, _, rfl⟩
    rw [hs, Int.pow_succ]
  obtain ⟨hs, a, rfl⟩ := h2
  refine def_ret (st_seq (st_set ev_c) (st_seq (st_for (ev_iRange (ev_cons (ev_var rfl) ev_nil) (range_eq n (by omega))) h1) (st_ret (ev_var ?_))))
  rw [hs, List.length_range, Nat.zero_add]
  rfl
theorem init_eq {y : Yd} (o : YdOk y) : m_Yard_init [.lst (namesD y.ns), .lst (beamsD y.bs), .int y.mo, .int y.le] = pure (fldsD y) := by
  have n8 := o.n8
  have b3 := o.b3
  have lb : (beamsD y.bs).length = y.bs.length := List.length_map ..
  have E0 : initM 5 b_Yard_init [.lst (namesD y.ns), .lst (beamsD y.bs), .int y.mo, .int y.le] = b_Yard_init [none, some (.lst (namesD y.ns)), some (.lst (beamsD y.bs)), some (.int y.mo), some (.int y.le)] [] := rfl
  show initM 5 b_Yard_init _ = _
  rw [E0]
  refine in_if (ev_tOr (t1 := false) (t2 := false) (ev_tNot (t := true) (ev_tB (ev_call (ev_cons (ev_var rfl) (ev_cons ev_c ev_nil)) rfl (are_names_eq o.n1 (by omega) (by omega) o.nk o.nd)))) fun _ => ev_tNot (t := true) (ev_tB (ev_call (ev_cons (ev_var rfl) ev_nil) rfl (are_beams_eq o.b1 o.b3 o.bk o.st o.bd)))) rfl ?_
  refine in_if (ev_tOr (t1 := false) (t2 := false) (ev_tNot (t := true) (ev_tB (ev_call (ev_cons (ev_var rfl) (ev_cons ev_c (ev_cons ev_c ev_nil))) rfl ?_))) fun _ => ev_tNot (t := true) (ev_tB (ev_call (ev_cons (ev_var rfl) (ev_cons ev_c (ev_cons ev_c ev_nil))) rfl ?_))) rfl ?_
  · rw [is_from_int, decide_eq_true o.m1, decide_eq_true o.m2]; rfl
  · rw [is_from_int, decide_eq_true o.l1, decide_eq_true o.l2]; rfl
  refine in_if (t := false) (ev_tB (ev_bin (x := .int ((2 * y.le + 1) ^ y.bs.length)) (ev_call (ev_cons (ev_var rfl) (ev_cons (x := .int y.bs.length) (ev_un (ev_var rfl) ?_) ev_nil)) rfl (tuples_eq o.l1 o.l2 _ o.b3)) ev_c ?_)) rfl ?_
  · show pure (D.int (beamsD y.bs).length) = _
    rw [lb]
  · rw [dGt_int, decide_eq_false (by have := o.tu; omega)]
  refine in_fld (ev_un (ev_var rfl) rfl) rfl (in_fld (ev_un (ev_var rfl) rfl) rfl (in_fld (ev_var rfl) rfl (in_fld (ev_var rfl) rfl ?_)))
  kernel_rfl
def Wd.turned (w : Wd) : Wd := ⟨w.ks.reverse, w.f, w.bk.reverse, w.g⟩
theorem WdOk.turned {y : Yd} {w : Wd} (h : WdOk y w) : WdOk y w.turned := ⟨(List.reverse_perm _).trans h.kp, (List.reverse_perm _).trans h.bp, h.f, h.g⟩
end Cm
end
section
set_option maxHeartbeats 400000
namespace Cm
open PySem PySem.Spec PyProof.Rows L2 Mir
inductive F2 {α β : Type} (P : α → β → Prop) : List α → List β → Prop
  | nil : F2 P [] []
  | cons {x : α} {y : β} {xs : List α} {ys : List β} : P x y → F2 P xs ys → F2 P (x :: xs) (y :: ys)
section
variable {α β σ : Type} {ma mb m : Ev → M D} {a b : Ev → M Ctl} {ms : Ev → M (List D)} {env e : Ev} {x y z : D} {xs ys ds : List D} {k k1 k2 i j nn : Nat} {f : List D → M D} {P P1 P2 Q : D → Prop} {R : Ctl → Prop} {n : Ev → M Bool}
theorem dr_eq {m : M α} {x : α} {P : α → Prop} (h : m = pure x) (p : P x) : Dr k m P := by rw [h]; exact Dr.pure p
theorem dr_set (h1 : Dr k1 (m env) P) (h2 : ∀ x, P x → Dr k2 (b (env.set i (some x))) R) (hk : k1 + k2 ≤ k) : Dr k (cSeq (cSet i m) b env) R := by
  have e : cSeq (cSet i m) b env = m env >>= fun x => b (env.set i (some x)) := by
    unfold cSeq cSet
    rw [bind_assoc']
    rfl
  rw [e]
  exact Dr.bind h1 h2 hk
theorem dr_seq (h : a env = pure (.nx e)) (h2 : Dr k (b e) R) : Dr k (cSeq a b env) R := by
  rw [st_seq h rfl]; exact h2
theorem dr_seqD {P : Ctl → Prop} (h1 : Dr k1 (a env) P) (h2 : ∀ c, P c → ∃ e, c = .nx e ∧ Dr k2 (b e) R) (hk : k1 + k2 ≤ k) : Dr k (cSeq a b env) R := by
  unfold cSeq
  refine Dr.bind h1 (fun c pc => ?_) hk
  obtain ⟨e, rfl, h⟩ := h2 c pc
  exact h
theorem dr_ret (h : Dr k (m env) P) : Dr k (cRet m env) fun c => ∃ x, c = .ret x ∧ P x := by
  unfold cRet
  exact Dr.bind (k2 := 0) h (fun x px => Dr.pure ⟨x, rfl, px⟩) (Nat.le_refl _)
theorem dr_def (h : Dr k (a (ds.map some ++ List.replicate (nn - ds.length) none)) fun c => ∃ x, c = .ret x ∧ P x) : Dr k (defM nn a ds) P := by
  unfold defM
  refine Dr.bind (k2 := 0) h (fun c ⟨x, e, px⟩ => ?_) (Nat.le_refl _)
  subst e
  exact Dr.pure px
theorem dr_call (h : ms env = pure xs) (hl : (xs.length == nn) = true) (h2 : Dr k (f xs) P) : Dr k (eCall nn f ms env) P := by
  unfold eCall
  rw [h, pure_bind', guard_of hl]
  exact h2
theorem dr_callD {A : List D → Prop} (h : Dr k1 (ms env) A) (h2 : ∀ xs, A xs → (xs.length == nn) = true ∧ Dr k2 (f xs) P) (hk : k1 + k2 ≤ k) : Dr k (eCall nn f ms env) P := by
  unfold eCall
  exact Dr.bind h (fun xs ax => Dr.guard (h2 xs ax).1 (h2 xs ax).2) hk
theorem dr_bin {g : D → D → M D} (h1 : Dr k1 (ma env) P1) (h2 : ∀ x, P1 x → Dr k2 (mb env) P2) (h : ∀ x y, P1 x → P2 y → ∃ z, g x y = pure z ∧ P z) (hk : k1 + k2 ≤ k) : Dr k (eBin g ma mb env) P := by
  unfold eBin
  refine Dr.bind h1 (fun x px => Dr.bind (k2 := 0) (h2 x px) (fun y py => ?_) (Nat.le_refl _)) hk
  obtain ⟨z, e, pz⟩ := h x y px py
  exact dr_eq e pz
theorem dr_binL {g : D → D → M D} (h1 : ma env = pure x) (h2 : Dr k (mb env) P2) (h : ∀ y, P2 y → ∃ z, g x y = pure z ∧ P z) : Dr k (eBin g ma mb env) P :=
  dr_bin (k1 := 0) (dr_eq (P := fun z => z = x) h1 rfl) (fun _ _ => h2) (fun u v hu hv => by subst hu; exact h v hv) (by omega)
theorem dr_binR {g : D → D → M D} (h1 : Dr k (ma env) P1) (h2 : mb env = pure y) (h : ∀ x, P1 x → ∃ z, g x y = pure z ∧ P z) : Dr k (eBin g ma mb env) P :=
  dr_bin (k2 := 0) h1 (fun _ _ => dr_eq (P := fun z => z = y) h2 rfl) (fun u v hu hv => by subst hv; exact h u hu) (by omega)
theorem dr_nil {A : List D → Prop} (h : A []) : Dr k (aNil env) A := Dr.pure h
theorem dr_cons {A A2 : List D → Prop} (h1 : Dr k1 (m env) P1) (h2 : ∀ x, P1 x → Dr k2 (ms env) A2) (h : ∀ x xs, P1 x → A2 xs → A (x :: xs)) (hk : k1 + k2 ≤ k) : Dr k (aCons m ms env) A := by
  unfold aCons
  exact Dr.bind h1 (fun x px => Dr.bind (k2 := 0) (h2 x px) (fun xs pxs => Dr.pure (h x xs px pxs)) (Nat.le_refl _)) hk
theorem dr_consP {A A2 : List D → Prop} (h1 : m env = pure x) (h2 : Dr k (ms env) A2) (h : ∀ xs, A2 xs → A (x :: xs)) : Dr k (aCons m ms env) A :=
  dr_cons (k1 := 0) (dr_eq (P := fun z => z = x) h1 rfl) (fun _ _ => h2) (fun u v hu hv => by subst hu; exact h v hv) (by omega)
theorem dr_tup {A : List D → Prop} (h : Dr k (ms env) A) (h2 : ∀ xs, A xs → decide (xs.length ≤ sizeLine) = true ∧ P (.tup xs)) : Dr k (eTup ms env) P := by
  unfold eTup
  exact Dr.bind (k2 := 0) h (fun xs ax => Dr.guard (h2 xs ax).1 (Dr.pure (h2 xs ax).2)) (Nat.le_refl _)
theorem dr_lc {tg : Ev → D → Option Ev} {vs : List Nat} {A B : List D → Prop} (h : Dr k1 (ms env) A) (h2 : ∀ ds, A ds → Dr k2 (lcGo (wipeE env vs) tg n m ds []) B) (hP : ∀ ys, B ys → P (.lst ys)) (hk : k1 + k2 ≤ k) : Dr k (eLc ms vs tg n m env) P := by
  unfold eLc
  exact Dr.bind h (fun ds ad => Dr.bind (k2 := 0) (h2 ds ad) (fun ys by' => Dr.pure (hP ys by')) (Nat.le_refl _)) hk
theorem dr_cif {B : Bool → Prop} (h : Dr k1 (n env) B) (h1 : B true → Dr k2 (a env) R) (h2 : B false → Dr k2 (b env) R) (hk : k1 + k2 ≤ k) : Dr k (cIf n a b env) R := by
  unfold cIf
  refine Dr.bind h (fun t bt => ?_) hk
  cases t with
  | true => rw [if_pos rfl]; exact h1 bt
  | false => rw [if_neg (by decide)]; exact h2 bt
theorem lc_drT {e0 : Ev} {tg : Ev → D → Option Ev} {me : Ev → M D} (φ : α → D) (P : α → D → Prop) : ∀ (xs : List α) (acc : List D), (∀ x ∈ xs, ∃ e, tg e0 (φ x) = some e ∧ Dr k (me e) (P x)) → acc.length + xs.length ≤ sizeLine →
    Dr (xs.length * k) (lcGo e0 tg nYes me (xs.map φ) acc) fun ys => ∃ zs, ys = acc ++ zs ∧ F2 P xs zs
  | [], acc, _, _ => Dr.pure ⟨[], by rw [List.append_nil], .nil⟩
  | x :: xs, acc, h, hl => by
    obtain ⟨e, et, hm⟩ := h x (List.mem_cons_self ..)
    rw [List.map_cons]
    have eq : lcGo e0 tg nYes me (φ x :: xs.map φ) acc = me e >>= fun y => guardB (decide (acc.length < sizeLine)) (lcGo e0 tg nYes me (xs.map φ) (acc ++ [y])) := by
      simp only [lcGo, et, nYes, pure_bind', if_true]
    rw [eq]
    rw [List.length_cons] at hl
    refine Dr.bind (k2 := xs.length * k) hm (fun y py => Dr.guard (decide_eq_true (by omega)) ?_) (by rw [List.length_cons, Nat.add_mul, Nat.one_mul]; omega)
    refine (lc_drT φ P xs (acc ++ [y]) (fun z hz => h z (List.mem_cons_of_mem _ hz)) (by rw [List.length_append, List.length_singleton]; omega)).imp (Nat.le_refl _) fun ys ⟨zs, e1, e2⟩ => ?_
    exact ⟨y :: zs, by rw [e1, List.append_assoc]; rfl, .cons py e2⟩
end
theorem f2_map {α β γ : Type} {P : α → β → Prop} {Q : γ → Prop} {φ : γ → β} {xs : List α} {ys : List β} (h : F2 P xs ys) (hp : ∀ x ∈ xs, ∀ y, P x y → ∃ c, y = φ c ∧ Q c) : ∃ cs : List γ, ys = cs.map φ ∧ cs.length = xs.length ∧ ∀ c ∈ cs, Q c := by
  induction h with
  | nil => exact ⟨[], rfl, rfl, fun _ h => nomatch h⟩
  | @cons x y xs ys p _ ih =>
    obtain ⟨cs, e1, e2, e3⟩ := ih fun z hz => hp z (List.mem_cons_of_mem _ hz)
    obtain ⟨c, f1, f2⟩ := hp x (List.mem_cons_self ..) y p
    refine ⟨c :: cs, by rw [e1, f1]; rfl, by rw [List.length_cons, List.length_cons, e2], fun d hd => ?_⟩
    rcases List.mem_cons.mp hd with q | q
    · rw [q]; exact f2
    · exact e3 d q
def LT : Str := "abcdefghijklmnopqrstuvwxyz"
def chD (c : Nat) : D := .str ⟨#[c]⟩
theorem LT_at : ∀ j : Fin 26, LT.cps.toList[j.val]? = some (97 + j.val) := by decide +kernel
theorem mem_LT {j : Nat} (h : j < 26) : 97 + j ∈ LT.cps.toList := List.mem_of_getElem? (LT_at ⟨j, h⟩)
theorem at_LT {i : Int} (h0 : 0 ≤ i) (h1 : i < 26) : dAt (.str LT) (.int i) = pure (chD (97 + i.toNat)) := by
  obtain ⟨j, rfl⟩ : ∃ j : Nat, i = j := ⟨_, (Int.toNat_of_nonneg h0).symm⟩
  show guardB (decide (LT.length ≤ sizeLine)) (match atI LT.cps.toList (j : Int) with
    | some c => pure (D.str ⟨#[c]⟩)
    | none => bad : M D) = _
  rw [guard_of (by decide +kernel), atI_nat (LT_at ⟨j, by omega⟩), Int.toNat_natCast]
  rfl
theorem strs_chD : ∀ cs : List Nat, strsD (cs.map chD) = some (cs.map fun c => ⟨#[c]⟩)
  | [] => rfl
  | c :: cs => by
    rw [List.map_cons]
    show (strsD (cs.map chD)).map _ = _
    rw [strs_chD cs]; rfl
theorem joinL_one : ∀ cs : List Nat, TL.joinL [] (cs.map fun c => [c]) = cs
  | [] => rfl
  | [c] => rfl
  | c :: d :: r => by
    have e := joinL_one (d :: r)
    show [c] ++ ([] ++ TL.joinL [] ((d :: r).map fun c => [c])) = c :: d :: r
    rw [e]; rfl
theorem join_chD (cs : List Nat) (h : cs.length ≤ 100) : dJoin (.str "") (.lst (cs.map chD)) = pure (.str ⟨cs.toArray⟩) := by
  show (match strsD (cs.map chD) with
    | some ys => guardB (decide ((ys.map fun y : Str => y.length).sum + ys.length * ("" : Str).length ≤ 16777216)) (pure (D.str (Txt.join "" ys)))
    | none => bad) = _
  rw [strs_chD]
  have e0 : ("" : Str).length = 0 := by decide +kernel
  have es : ((cs.map fun c => (⟨#[c]⟩ : Str)).map fun x : Str => x.length).sum = cs.length := by
    clear h
    induction cs with
    | nil => rfl
    | cons c cs ih => rw [List.map_cons, List.map_cons, List.sum_cons, ih, List.length_cons]; show 1 + _ = _; omega
  show guardB _ _ = _
  rw [guard_of (decide_eq_true (by rw [es, e0]; omega))]
  congr 2
  refine TL.ext_tl ((congrArg TL.tl (TL.join_eq _ _)).trans ?_)
  rw [TL.tl_join, List.map_map]
  exact joinL_one cs
theorem range26 {t : Int} (h : t = 1 ∨ t = 3 ∨ t = 5 ∨ t = 7 ∨ t = 9 ∨ t = 11) {s : Int} {k k' : Nat} (hk : k < 26) (hk' : k' < 26) (e : (s + t * k) % 26 = (s + t * k') % 26) : k = k' := by
  rcases h with h | h | h | h | h | h <;> subst h <;> omega
def nmK (cs : List Nat) (at' : Nat) (s t : Int) (k : Nat) : Str := ⟨(cs.set at' (97 + ((s + t * (k : Int)) % 26).toNat)).toArray⟩
theorem nmK_ok {cs : List Nat} (h1 : 1 ≤ cs.length) (h8 : cs.length ≤ 8) (hc : ∀ c ∈ cs, c ∈ LT.cps.toList) (at' : Nat) (s t : Int) (k : Nat) : NameOk (nmK cs at' s t k) := by
  refine ⟨?_, ?_, fun c h => ?_⟩
  · show 1 ≤ (cs.set at' _).toArray.size
    rw [List.size_toArray, List.length_set]; exact h1
  · show (cs.set at' _).toArray.size ≤ 8
    rw [List.size_toArray, List.length_set]; exact h8
  · have h' : c ∈ cs.set at' (97 + ((s + t * (k : Int)) % 26).toNat) := h
    rcases List.mem_or_eq_of_mem_set h' with q | q
    · exact hc c q
    · rw [q]; exact mem_LT (by omega)
theorem nmK_inj {cs : List Nat} {at' : Nat} (ha : at' < cs.length) {s t : Int} (h : t = 1 ∨ t = 3 ∨ t = 5 ∨ t = 7 ∨ t = 9 ∨ t = 11) {k k' : Nat} (hk : k < 26) (hk' : k' < 26) (e : nmK cs at' s t k = nmK cs at' s t k') : k = k' := by
  have e1 : cs.set at' (97 + ((s + t * (k : Int)) % 26).toNat) = cs.set at' (97 + ((s + t * (k' : Int)) % 26).toNat) := by
    have := congrArg (fun x : Str => x.cps.toList) e
    simpa [nmK] using this
  have e2 := congrArg (fun l : List Nat => l[at']?) e1
  simp only [List.getElem?_set_self ha] at e2
  injection e2 with e3
  exact range26 (s := s) h hk hk' (by omega)
theorem names_nd {cs : List Nat} {at' : Nat} (ha : at' < cs.length) {s t : Int} (h : t = 1 ∨ t = 3 ∨ t = 5 ∨ t = 7 ∨ t = 9 ∨ t = 11) {n : Nat} (hn : n ≤ 26) : ((List.range n).map (nmK cs at' s t)).Nodup := by
  refine List.pairwise_map.mpr (List.Pairwise.imp_of_mem (fun {a b} ma mb hab e => hab ?_) List.nodup_range)
  exact nmK_inj ha h (by have := List.mem_range.mp ma; omega) (by have := List.mem_range.mp mb; omega) e
theorem names_dr (n : Nat) (hn : n ≤ 26) : Dr 20 (m__law_names [.st, .int n]) fun x => ∃ ns : List Str, x = .lst (namesD ns) ∧ ns.length = n ∧ ns.Nodup ∧ ∀ z ∈ ns, NameOk z := by
  have hz : (1000 : Nat) ≤ sizeLine := by decide
  refine dr_def ?_
  refine dr_seq (st_set ev_c) ?_
  refine dr_set (k1 := 9) (k2 := 11) (P := fun x => ∃ cs : List Nat, x = .lst (cs.map chD) ∧ 1 ≤ cs.length ∧ cs.length ≤ 8 ∧ ∀ c ∈ cs, c ∈ LT.cps.toList) ?_ ?_ (by decide)
  · refine dr_lc (k1 := 1) (k2 := 8) (A := fun ys => ∃ n : Nat, 1 ≤ n ∧ n ≤ 8 ∧ ys = (List.range n).map fun (j : Nat) => D.int (0 + (j : Int))) (B := fun ys => ∃ cs : List Nat, ys = cs.map chD ∧ 1 ≤ cs.length ∧ cs.length ≤ 8 ∧ ∀ c ∈ cs, c ∈ LT.cps.toList) ?_ ?_ (fun ys ⟨cs, e, r⟩ => ⟨cs, by rw [e], r⟩) (by decide)
    · unfold iRange
      refine Dr.bind (k1 := 1) (k2 := 0) (P := fun xs => ∃ n : Nat, 1 ≤ n ∧ n ≤ 8 ∧ xs = [.int n]) ?_ (fun xs ⟨n, n1, n8, e⟩ => by
          rw [e]
          have q := range_eq n (by omega)
          exact dr_eq q ⟨n, n1, n8, rfl⟩) (by decide)
      refine dr_cons (k1 := 1) (k2 := 0) (P1 := fun x => ∃ n : Nat, 1 ≤ n ∧ n ≤ 8 ∧ x = .int n) (A2 := fun xs => xs = []) ?_ (fun x _ => dr_nil rfl) (fun x xs ⟨n, a, b, e⟩ e2 => ⟨n, a, b, by rw [e, e2]⟩) (by decide)
      refine dr_binL ev_c (dr_call (ev_cons (ev_var rfl) (ev_cons ev_c ev_nil)) rfl (next_dr (by decide) (by decide))) fun y ⟨i, e, i0, i1⟩ => ?_
      subst e
      refine ⟨_, dAdd_int _ _, (1 + i).toNat, by omega, by omega, ?_⟩
      rw [Int.toNat_of_nonneg (by omega)]
    · intro ds ⟨n, n1, n8, e⟩
      subst e
      refine (lc_drT (k := 1) (fun (j : Nat) => D.int (0 + (j : Int))) (fun _ x => ∃ c ∈ LT.cps.toList, x = .str ⟨#[c]⟩) (List.range n) [] (fun j hj => ⟨_, rfl, dr_call (ev_cons (ev_var rfl) (ev_cons (ev_var rfl) ev_nil)) rfl (pickS_dr (z := LT) (by decide +kernel) (by decide +kernel) rfl)⟩) (by simp; omega)).imp (by rw [List.length_range]; omega) fun ys ⟨zs, e1, e2⟩ => ?_
      obtain ⟨cs, f1, f2, f3⟩ := f2_map (φ := chD) (Q := fun c => c ∈ LT.cps.toList) e2 fun x _ y ⟨c, hc, e⟩ => ⟨c, e, hc⟩
      rw [List.length_range] at f2
      exact ⟨cs, by rw [e1, f1, List.nil_append], by omega, by omega, f3⟩
  · intro x ⟨cs, e, c1, c8, hc⟩
    subst e
    have lcs : (cs.map chD).length = cs.length := List.length_map ..
    refine dr_set (k1 := 1) (k2 := 2) (P := fun x => ∃ a : Nat, x = .int a ∧ a < cs.length) (dr_call (xs := [.st, .int cs.length]) (ev_cons (ev_var rfl) (ev_cons (ev_un (ev_var rfl) (by show pure (D.int (cs.map chD).length) = _; rw [lcs])) ev_nil)) rfl ((next_dr (by omega) (by omega)).imp (Nat.le_refl _) fun x ⟨i, e, i0, i1⟩ => ⟨i.toNat, by rw [e, Int.toNat_of_nonneg i0], by omega⟩)) ?_ (by decide)
    intro x ⟨a, e, ha⟩
    subst e
    refine dr_seqD (k1 := 2) (k2 := 0) (P := fun c => ∃ (s t : Int), (t = 1 ∨ t = 3 ∨ t = 5 ∨ t = 7 ∨ t = 9 ∨ t = 11) ∧ c = .nx [some .st, some (.int n), some (.str LT), some (.lst (cs.map chD)), none, some (.int a), some (.int s), some (.int t), none]) ?_ ?_ (by decide)
    · unfold cPar2
      refine Dr.bind (k1 := 1) (k2 := 1) (dr_call (ev_cons (ev_var rfl) (ev_cons ev_c ev_nil)) rfl (next_dr (by decide) (by decide))) (fun x ⟨s, e, _, _⟩ => ?_) (by decide)
      subst e
      refine Dr.bind (k1 := 1) (k2 := 0) (dr_call (ev_cons (ev_var rfl) (ev_cons (ev_lst (ev_cons ev_c (ev_cons ev_c (ev_cons ev_c (ev_cons ev_c (ev_cons ev_c (ev_cons ev_c ev_nil)))))) rfl) ev_nil)) rfl (pick_dr (by simp) (by simp))) (fun x hx => ?_) (by decide)
      simp only [List.mem_cons, List.not_mem_nil, or_false] at hx
      refine Dr.pure ⟨s, ?_⟩
      rcases hx with e | e | e | e | e | e <;> subst e
      · exact ⟨1, by omega, rfl⟩
      · exact ⟨3, by omega, rfl⟩
      · exact ⟨5, by omega, rfl⟩
      · exact ⟨7, by omega, rfl⟩
      · exact ⟨9, by omega, rfl⟩
      · exact ⟨11, by omega, rfl⟩
    · intro c ⟨s, t, ht, e⟩
      refine ⟨_, e, ?_⟩
      have tb : -(2 ^ 64) < t ∧ t < 2 ^ 64 := by omega
      have q8 : ∀ env : Ev, eLst aNil env = pure (.lst []) := fun _ => ev_lst ev_nil rfl
      have q9 := fun env : Ev => st_set (i := 8) (q8 env)
      refine dr_seq (q9 _) ?_
      obtain ⟨e', h1, h2⟩ := for_foldT (tg := gN 4) (b := cSeq (cSetL 3 (eVar 5) (eBin dAt (eVar 2) (eBin dMod (eBin dAdd (eVar 6) (eBin dMul (eVar 7) (eVar 4))) (eC (.int 26))))) (cApp 8 (eBin dJoin (eC (.str "")) (eVar 3)))) (fun (k : Nat) => D.int (0 + (k : Int)))
        (fun i (s' : List Str) env => s'.length = i ∧ ∃ cs' a4, cs'.length = cs.length ∧ (∀ v, cs'.set a v = cs.set a v) ∧ env = [some .st, some (.int n), some (.str LT), some (.lst (cs'.map chD)), a4, some (.int a), some (.int s), some (.int t), some (.lst (namesD s'))]) (fun s' k => s' ++ [nmK cs a s t k]) (List.range n) 0 [] [some .st, some (.int n), some (.str LT), some (.lst (cs.map chD)), none, some (.int a), some (.int s), some (.int t), some (.lst [])] ⟨rfl, cs, none, rfl, fun _ => rfl, rfl⟩ fun k hk j s' env hj hJ => by
          obtain ⟨hs, cs', a4, hl, hset, rfl⟩ := hJ
          have m0 : 0 ≤ (s + t * (k : Int)) % 26 := Int.emod_nonneg _ (by decide)
          have m1 : (s + t * (k : Int)) % 26 < 26 := Int.emod_lt_of_pos _ (by decide)
          have lcs' : (cs'.map chD).length = cs'.length := List.length_map ..
          have lrn : (List.range n).length = n := List.length_range
          refine ⟨_, [some .st, some (.int n), some (.str LT), some (.lst ((cs.set a (97 + ((s + t * (k : Int)) % 26).toNat)).map chD)), some (.int (0 + (k : Int))), some (.int a), some (.int s), some (.int t), some (.lst (namesD (s' ++ [nmK cs a s t k])))], rfl, ?_, ?_⟩
          · refine st_seq (st_setL (y := chD (97 + ((s + t * (k : Int)) % 26).toNat)) (q := a) (j := a) (ev_bin (ev_var rfl) (ev_bin (ev_bin (ev_var rfl) (ev_bin (ev_var rfl) (ev_var rfl) (dMul_int tb)) (dAdd_int _ _)) ev_c (dMod_int (by decide))) ?_) (ev_var rfl) rfl ?_) ?_
            · rw [Int.zero_add]
              exact at_LT m0 m1
            · show (if (0 : Int) ≤ (a : Int) then (if (a : Int) < ((cs'.map chD).length : Int) then some (a : Int).toNat else none) else _) = _
              rw [if_pos (by omega), if_pos (by rw [lcs', hl]; omega), Int.toNat_natCast]
            · rw [st_app (y := .str (nmK cs a s t k)) (ev_bin (x := .str "") (y := .lst ((cs.set a (97 + ((s + t * (k : Int)) % 26).toNat)).map chD)) ev_c (ev_var ?_) (join_chD _ (by rw [List.length_set]; omega))) rfl (by rw [List.length_map, hs]; omega)]
              · unfold namesD
                rw [← hset, List.map_set, List.map_append]
                rfl
              · rw [← hset, List.map_set]
                rfl
          · refine ⟨by rw [List.length_append, hs]; rfl, cs.set a (97 + ((s + t * (k : Int)) % 26).toNat), _, List.length_set .., fun v => List.set_set .., rfl⟩
      have hf : ∀ (l : List Nat) (s' : List Str), l.foldl (fun s' k => s' ++ [nmK cs a s t k]) s' = s' ++ l.map (nmK cs a s t) := fun l => by
        induction l with
        | nil => exact fun s' => (List.append_nil s').symm
        | cons p l ih => exact fun s' => by rw [List.foldl_cons, ih, List.append_assoc]; rfl
      rw [hf, List.nil_append] at h2
      obtain ⟨_, cs', a4, _, _, rfl⟩ := h2
      refine dr_seq (st_for (ev_iRange (ev_cons (ev_var rfl) ev_nil) (range_eq n (by omega))) h1) (dr_ret (dr_eq (ev_var rfl) ⟨(List.range n).map (nmK cs a s t), rfl, by rw [List.length_map, List.length_range], names_nd ha ht hn, fun z hz => ?_⟩))
      obtain ⟨k, _, rfl⟩ := List.mem_map.mp hz
      exact nmK_ok c1 c8 hc _ _ _ _
end Cm
end
section
set_option maxHeartbeats 400000
namespace Cm
open PySem PySem.Spec PyProof.Rows L2 Mir
theorem next_nat {n : Nat} (h0 : 0 < n) (h1 : n < 1000000) : Dr 1 (m__law_next [.st, .int n]) fun x => ∃ i : Nat, x = .int i ∧ i < n :=
  (next_dr (by omega) (by omega)).imp (Nat.le_refl _) fun x ⟨i, e, i0, i1⟩ => ⟨i.toNat, by rw [e, Int.toNat_of_nonneg i0], by omega⟩
section
variable {m : Ev → M D} {env : Ev} {k : Nat} {P : D → Prop} {ms : Ev → M (List D)}
theorem dr_next {n : Int} (h0 : 0 < n) (h1 : n < 1000000) (h : m env = pure (.int n)) (hs : env[0]? = some (some .st)) : Dr 1 (eCall 2 m__law_next (aCons (eVar 0) (aCons m aNil)) env) fun x => ∃ i, x = .int i ∧ 0 ≤ i ∧ i < n :=
  dr_call (ev_cons (ev_var hs) (ev_cons h ev_nil)) rfl (next_dr h0 (by omega))
theorem dr_pick {xs : List D} (h0 : xs ≠ []) (h1 : xs.length < 1000000) (h : m env = pure (.lst xs)) (hs : env[0]? = some (some .st)) : Dr 1 (eCall 2 m__law_pick (aCons (eVar 0) (aCons m aNil)) env) fun x => x ∈ xs :=
  dr_call (ev_cons (ev_var hs) (ev_cons h ev_nil)) rfl (pick_dr h0 (by omega))
end
theorem rev_names (ns : List Str) : dRev (.lst (namesD ns)) = pure (.lst (namesD ns.reverse)) := by
  show pure (D.lst (namesD ns).reverse) = _
  unfold namesD
  rw [List.map_reverse]
theorem cut_names (ns : List Str) (n : Nat) (h : n ≤ ns.length) : dSl (.lst (namesD ns)) none (some (n : Int)) = pure (.lst (namesD (ns.take n))) := by
  show pure (D.lst (cutL (namesD ns) none (some (n : Int)))) = _
  unfold cutL
  rw [HT.sIx_none, HT.sIx_nat, Nat.sub_zero, List.drop_zero]
  unfold namesD
  rw [List.length_map, Nat.min_eq_left h, List.map_take]
theorem tups_beams : ∀ (ns : List Str) (ss : List Int), tups2 (namesD ns) (ss.map D.int) = beamsD (ns.zip ss)
  | [], _ => rfl
  | _ :: _, [] => rfl
  | n :: ns, s :: ss => by
    show D.tup [.str n, .int s] :: tups2 (namesD ns) (ss.map D.int) = beamD (n, s) :: beamsD (ns.zip ss)
    rw [tups_beams ns ss]; rfl
def StepOk (s : Int) : Prop := -5 ≤ s ∧ s ≤ 5 ∧ s ≠ 0
theorem row_dr : Dr 100 (m__law_row [.st, .int 3, .int 8, .int 100, .int 9]) fun x => ∃ y : Yd, YdOk y ∧ x = rowD y := by
  have hz : (1000 : Nat) ≤ sizeLine := by decide
  refine dr_def ?_
  refine dr_set (k1 := 21) (k2 := 79) (P := fun x => ∃ ns : List Str, x = .lst (namesD ns) ∧ 1 ≤ ns.length ∧ ns.length ≤ 8 ∧ ns.Nodup ∧ ∀ z ∈ ns, NameOk z) ?_ ?_ (by decide)
  · refine dr_callD (k1 := 1) (k2 := 20) (A := fun xs => ∃ n : Nat, 1 ≤ n ∧ n ≤ 8 ∧ xs = [.st, .int n]) ?_ (fun xs ⟨n, n1, n8, e⟩ => ?_) (by decide)
    · refine dr_consP (ev_var rfl) (dr_cons (k1 := 1) (k2 := 0) (P1 := fun x => ∃ n : Nat, 1 ≤ n ∧ n ≤ 8 ∧ x = .int n) (A2 := fun xs => xs = []) ?_ (fun x _ => dr_nil rfl) (A := fun xs => ∃ n : Nat, 1 ≤ n ∧ n ≤ 8 ∧ xs = [.int n]) (fun x xs ⟨n, a, b, e⟩ e2 => ⟨n, a, b, by rw [e, e2]⟩) (by decide)) (fun xs ⟨n, a, b, e⟩ => ⟨n, a, b, by rw [e]⟩)
      refine dr_binL ev_c (dr_next (n := 8) (by decide) (by decide) (ev_var rfl) rfl) fun x ⟨i, e, i0, i1⟩ => ?_
      subst e
      exact ⟨_, dAdd_int _ _, (1 + i).toNat, by omega, by omega, by rw [Int.toNat_of_nonneg (by omega)]⟩
    · subst e
      exact ⟨rfl, (names_dr n (by omega)).imp (Nat.le_refl _) fun x ⟨ns, a, b, c, d⟩ => ⟨ns, a, by omega, by omega, c, d⟩⟩
  intro x ⟨ns, e, n1, n8, nd, nk⟩
  subst e
  refine dr_set (k1 := 1) (k2 := 78) (P := fun x => ∃ n : Nat, 1 ≤ n ∧ n ≤ 3 ∧ x = .int n) ?_ ?_ (by decide)
  · refine dr_binL ev_c (dr_next (n := 3) (by decide) (by decide) (ev_var rfl) rfl) fun x ⟨i, e, i0, i1⟩ => ?_
    subst e
    exact ⟨_, dAdd_int _ _, (1 + i).toNat, by omega, by omega, by rw [Int.toNat_of_nonneg (by omega)]⟩
  intro x ⟨n, b1, b3, e⟩
  subst e
  refine dr_set (k1 := 3) (k2 := 75) (P := fun x => ∃ ss : List Int, x = .lst (ss.map D.int) ∧ ss.length = n ∧ ∀ s ∈ ss, StepOk s) ?_ ?_ (by decide)
  · refine dr_lc (k1 := 0) (k2 := 3) (A := fun ys => ys = (List.range n).map fun (j : Nat) => D.int (0 + (j : Int))) (B := fun ys => ∃ ss : List Int, ys = ss.map D.int ∧ ss.length = n ∧ ∀ s ∈ ss, StepOk s) (dr_eq (ev_iRange (ev_cons (ev_var rfl) ev_nil) (range_eq n (by omega))) rfl) ?_ (fun ys ⟨ss, e, r⟩ => ⟨ss, by rw [e], r⟩) (by decide)
    intro ds e
    subst e
    refine (lc_drT (k := 1) (fun (j : Nat) => D.int (0 + (j : Int))) (fun _ x => ∃ s, x = .int s ∧ StepOk s) (List.range n) [] (fun j hj => ⟨_, rfl, (dr_pick (by simp) (by simp) (ev_lst (ev_cons ev_c (ev_cons ev_c (ev_cons ev_c (ev_cons (ev_neg ev_c) (ev_cons ev_c (ev_cons (ev_neg ev_c) (ev_cons ev_c (ev_cons (ev_neg ev_c) (ev_cons (ev_neg ev_c) (ev_cons (ev_neg ev_c) ev_nil)))))))))) rfl) rfl).imp (Nat.le_refl _) fun x hx => ?_⟩) (by simp; omega)).imp (by rw [List.length_range]; omega) fun ys ⟨zs, e1, e2⟩ => ?_
    · simp only [List.mem_cons, List.not_mem_nil, or_false] at hx
      rcases hx with e | e | e | e | e | e | e | e | e | e <;> exact ⟨_, e, by unfold StepOk; omega⟩
    · obtain ⟨ss, f1, f2, f3⟩ := f2_map (φ := D.int) (Q := StepOk) e2 fun x _ y ⟨s, e, hs⟩ => ⟨s, e, hs⟩
      rw [List.length_range] at f2
      exact ⟨ss, by rw [e1, f1, List.nil_append], f2, f3⟩
  intro x ⟨ss, e, sl, sk⟩
  subst e
  refine dr_set (k1 := 20) (k2 := 55) (P := fun x => ∃ cs : List Str, x = .lst (namesD cs) ∧ cs.length = n ∧ cs.Nodup ∧ ∀ z ∈ cs, NameOk z) (dr_call (ev_cons (ev_var rfl) (ev_cons (ev_var rfl) ev_nil)) rfl (names_dr n (by omega))) ?_ (by decide)
  intro x ⟨cs, e, cl, cd, ck⟩
  subst e
  have lns : (namesD ns).length = ns.length := List.length_map ..
  have lcs : (namesD cs).length = cs.length := List.length_map ..
  refine dr_seqD (k1 := 1) (k2 := 54) (P := fun c => ∃ ks : List Str, ks.length = n ∧ ks.Nodup ∧ (∀ z ∈ ks, NameOk z) ∧ c = .nx [some .st, some (.int 3), some (.int 8), some (.int 100), some (.int 9), some (.lst (namesD ns)), some (.int n), some (.lst (ss.map D.int)), none, some (.lst (namesD ks)), none]) ?_ ?_ (by decide)
  · refine dr_cif (k1 := 1) (k2 := 0) (B := fun t => t = true → n ≤ ns.length) ?_ (fun hb => ?_) (fun _ => ?_) (by decide)
    · unfold tAnd'
      refine Dr.bind (k1 := 1) (k2 := 0) (P := fun _ => True) ?_ (fun t _ => ?_) (by decide)
      · unfold tB'
        refine Dr.bind (k1 := 1) (k2 := 0) (P := fun x => ∃ b, x = .bl b) (dr_binR (dr_next (n := 3) (by decide) (by decide) ev_c rfl) ev_c fun x ⟨i, e, _⟩ => ?_) (fun x ⟨b, e⟩ => ?_) (by decide)
        · subst e
          exact ⟨_, dEq_int _ _, _, rfl⟩
        · subst e
          exact Dr.pure trivial
      · cases t with
        | false => exact Dr.pure fun e => nomatch e
        | true =>
          refine dr_eq (x := decide ((n : Int) ≤ (ns.length : Int))) (ev_tB (ev_bin (x := .int ns.length) (ev_un (ev_var rfl) ?_) (ev_var rfl) rfl)) fun e => ?_
          · show pure (D.int (namesD ns).length) = _
            rw [lns]
          · have := of_decide_eq_true e
            omega
    · have hn := hb rfl
      refine dr_eq (st_set (x := .lst (namesD (ns.reverse.take n))) (ev_sl (ev_un (ev_var rfl) (rev_names ns)) ev_oNone (ev_oSome (ev_var rfl)) (cut_names _ _ (by rw [List.length_reverse]; exact hn)))) ⟨ns.reverse.take n, ?_, ?_, ?_, rfl⟩
      · rw [List.length_take, List.length_reverse]; omega
      · exact ((List.reverse_perm ns).nodup_iff.mpr nd).sublist (List.take_sublist ..)
      · intro z hz
        exact nk z (List.mem_reverse.mp (List.mem_of_mem_take hz))
    · exact dr_eq st_nx ⟨cs, cl, cd, ck, rfl⟩
  intro c ⟨ks, kl, kd, kk, e⟩
  refine ⟨_, e, ?_⟩
  have zl : (ks.zip ss).length = n := by rw [List.length_zip]; omega
  have zm : (ks.zip ss).map (·.1) = ks := by
    rw [List.map_fst_zip]
    omega
  refine dr_seq (st_set (x := .lst (beamsD (ks.zip ss))) (by
    rw [← tups_beams]
    exact ev_zip (ev_cons (ev_var rfl) (ev_cons (ev_var rfl) ev_nil)) (by unfold namesD; rw [List.length_map, List.length_map]; omega))) ?_
  obtain ⟨li, hli, hle, htu⟩ : ∃ li : Int, (li = if n = 1 then 9 else if n = 2 then 9 else 3) ∧ li ≤ 9 ∧ ∀ l : Int, 0 ≤ l → l ≤ li → (2 * l + 1) ^ n ≤ 400 := by
    refine ⟨_, rfl, by split <;> (try split) <;> omega, fun l l0 l1 => ?_⟩
    have nc : n = 1 ∨ n = 2 ∨ n = 3 := by omega
    rcases nc with e | e | e <;> subst e
    · have l3 : l ≤ 9 := l1
      have hc : l = 0 ∨ l = 1 ∨ l = 2 ∨ l = 3 ∨ l = 4 ∨ l = 5 ∨ l = 6 ∨ l = 7 ∨ l = 8 ∨ l = 9 := by omega
      rcases hc with e | e | e | e | e | e | e | e | e | e <;> subst e <;> decide
    · have l3 : l ≤ 9 := l1
      have hc : l = 0 ∨ l = 1 ∨ l = 2 ∨ l = 3 ∨ l = 4 ∨ l = 5 ∨ l = 6 ∨ l = 7 ∨ l = 8 ∨ l = 9 := by omega
      rcases hc with e | e | e | e | e | e | e | e | e | e <;> subst e <;> decide
    · have l3 : l ≤ 3 := l1
      have hc : l = 0 ∨ l = 1 ∨ l = 2 ∨ l = 3 := by omega
      rcases hc with e | e | e | e <;> subst e <;> decide
  refine dr_ret ?_
  refine dr_tup (A := fun xs => ∃ m l : Int, 1 ≤ m ∧ m ≤ 100 ∧ 0 ≤ l ∧ l ≤ li ∧ xs = [.lst (namesD ns), .lst (beamsD (ks.zip ss)), .int m, .int l]) ?_ (fun xs ⟨m, l, m1, m2, l1, l2, e⟩ => ?_)
  · refine dr_consP (ev_var rfl) (dr_consP (ev_var rfl) (dr_cons (k1 := 1) (k2 := 1) (P1 := fun x => ∃ m : Int, 1 ≤ m ∧ m ≤ 100 ∧ x = .int m) (A2 := fun xs => ∃ l : Int, 0 ≤ l ∧ l ≤ li ∧ xs = [.int l]) (A := fun xs => ∃ m l : Int, 1 ≤ m ∧ m ≤ 100 ∧ 0 ≤ l ∧ l ≤ li ∧ xs = [.int m, .int l]) ?_ (fun _ _ => ?_) (fun x xs ⟨m, m1, m2, e⟩ ⟨l, l1, l2, e2⟩ => ⟨m, l, m1, m2, l1, l2, by rw [e, e2]⟩) (by decide)) (A := fun xs => ∃ m l : Int, 1 ≤ m ∧ m ≤ 100 ∧ 0 ≤ l ∧ l ≤ li ∧ xs = [.lst (beamsD (ks.zip ss)), .int m, .int l]) (fun xs ⟨m, l, m1, m2, l1, l2, e⟩ => ⟨m, l, m1, m2, l1, l2, by rw [e]⟩)) (fun xs ⟨m, l, m1, m2, l1, l2, e⟩ => ⟨m, l, m1, m2, l1, l2, by rw [e]⟩)
    · refine dr_binL ev_c (dr_next (n := 100) (by decide) (by decide) (ev_var rfl) rfl) fun x ⟨i, e, i0, i1⟩ => ?_
      subst e
      exact ⟨_, dAdd_int _ _, _, by omega, by omega, rfl⟩
    · refine dr_cons (k1 := 1) (k2 := 0) (A2 := fun xs => xs = []) (dr_next (n := 1 + li) (by rw [hli]; split <;> (try split) <;> omega) (by omega) (ev_bin ev_c (y := .int li) (ev_bin (y := .int li) (ev_var rfl) (ev_bin (ev_lst (ev_cons ev_c (ev_cons ev_c (ev_cons ev_c ev_nil))) rfl) (ev_bin (ev_var rfl) ev_c (dSub_int _ _)) ?_) ?_) (dAdd_int _ _)) rfl) (fun _ _ => dr_nil rfl) (fun x xs ⟨i, e, i0, i1⟩ e2 => ⟨i, i0, by omega, by rw [e, e2]⟩) (by decide)
      · have nc : n = 1 ∨ n = 2 ∨ n = 3 := by omega
        rcases nc with e | e | e <;> subst e <;> subst hli <;> rfl
      · show pure (D.int (if li < 9 then li else 9)) = _
        rw [hli]
        split
        · rfl
        · split <;> rfl
  · subst e
    refine ⟨rfl, ⟨ns, ks.zip ss, m, l⟩, ⟨n1, n8, nk, nd, by show 1 ≤ (ks.zip ss).length; omega, by show (ks.zip ss).length ≤ 3; omega, fun p hp => ?_, ?_, fun p hp => ?_, m1, m2, l1, by show l ≤ 9; omega, ?_⟩, rfl⟩
    · exact kk p.1 (List.of_mem_zip (show (p.1, p.2) ∈ ks.zip ss from hp)).1
    · show ((ks.zip ss).map (·.1)).Nodup
      rw [zm]; exact kd
    · exact sk p.2 (List.of_mem_zip (show (p.1, p.2) ∈ ks.zip ss from hp)).2
    · show (2 * l + 1) ^ (ks.zip ss).length ≤ 400
      rw [zl]
      exact htu l l1 l2
theorem pans_mem {ns : List Str} {x : D} (h : x ∈ (D.non :: namesD ns)) : ∃ p : Option Str, x = panD p ∧ ∀ z, p = some z → z ∈ ns := by
  rcases List.mem_cons.mp h with e | e
  · exact ⟨none, e, fun _ e => nomatch e⟩
  · obtain ⟨z, hz, rfl⟩ := List.mem_map.mp e
    exact ⟨some z, rfl, fun w e => by injection e with e; rw [← e]; exact hz⟩
theorem pans_map (ns : List Str) : (D.non :: namesD ns) = (none :: ns.map some).map panD := by
  unfold namesD
  rw [List.map_cons, List.map_map]; rfl
theorem dAdd_pans {ns : List Str} (h : ns.length ≤ 8) : dAdd (.lst [.non]) (.lst (namesD ns)) = pure (.lst (D.non :: namesD ns)) := by
  have hz : (1000 : Nat) ≤ sizeLine := by decide
  show guardB (decide (([D.non] : List D).length + (namesD ns).length ≤ sizeLine)) (pure (D.lst ([.non] ++ namesD ns))) = _
  rw [guard_of (decide_eq_true (by unfold namesD; rw [List.length_map]; simp; omega))]
  rfl
end Cm
end
section
set_option maxHeartbeats 400000
namespace Cm
open PySem PySem.Spec PyProof.Rows L2 Mir
theorem shows_all {w e : Nat} : ∀ {xs : List D}, (∀ x ∈ xs, Shows x w e) → ∃ ps, shPs xs = some ps ∧ PyData.showableAll ps = true ∧ PyData.leavesShortAll 13 ps = true ∧ PyData.weightAll ps ≤ xs.length * (w + 1) ∧ PyData.depthAll ps ≤ e
  | [], _ => ⟨[], rfl, by simp [PyData.showableAll], by simp [PyData.leavesShortAll], by simp [PyData.weightAll], by simp [PyData.depthAll]⟩
  | x :: xs, h => by
    obtain ⟨p, a1, a2, a3, a4, a5⟩ := h x (List.mem_cons_self ..)
    obtain ⟨ps, b1, b2, b3, b4, b5⟩ := shows_all fun y hy => h y (List.mem_cons_of_mem _ hy)
    refine ⟨p :: ps, by simp only [shPs, a1, b1], by simp only [PyData.showableAll, a2, b2]; rfl, by simp only [PyData.leavesShortAll, a3, b3]; rfl, ?_, ?_⟩
    · simp only [PyData.weightAll]
      rw [List.length_cons, Nat.add_mul, Nat.one_mul]
      omega
    · simp only [PyData.depthAll]
      omega
theorem Shows.tup {xs : List D} {w e : Nat} (h : ∀ x ∈ xs, Shows x w e) : Shows (.tup xs) (xs.length * (w + 1)) (e + 1) := by
  obtain ⟨ps, b1, b2, b3, b4, b5⟩ := shows_all h
  exact ⟨.tuple ps, by simp only [shP, b1, Option.map_some], by simpa only [PyData.showable] using b2, by simpa only [PyData.leavesShort] using b3, by simpa only [PyData.weight] using b4, by simp only [PyData.depth]; omega⟩
theorem Shows.lst {xs : List D} {w e : Nat} (h : ∀ x ∈ xs, Shows x w e) : Shows (.lst xs) (xs.length * (w + 1)) (e + 1) := by
  obtain ⟨ps, b1, b2, b3, b4, b5⟩ := shows_all h
  exact ⟨.list ps, by simp only [shP, b1, Option.map_some], by simpa only [PyData.showable] using b2, by simpa only [PyData.leavesShort] using b3, by simpa only [PyData.weight] using b4, by simp only [PyData.depth]; omega⟩
theorem shows_repr {d : D} {w e : Nat} (h : Shows d w e) (hr : okR d = true) (hg : goodR d = true) (hw : w ≤ 2 ^ 20) (he : e ≤ 60) : ∃ z, dRepr d = pure (.str z) := by
  obtain ⟨p, a1, a2, a3, a4, a5⟩ := h
  refine ⟨p.shown, ?_⟩
  unfold dRepr
  rw [a1]
  show guardB _ _ = _
  rw [guard_of]
  rw [hr, hg, a2, decide_eq_true (PyData.shown_fits (B := 13) (by decide) (by decide) a3 (by omega)), decide_eq_true (show p.depth ≤ 60 by omega)]
  rfl
theorem Shows.dic0 : Shows (.dic []) 64 1 := (Shows.dOf (ks := []) (f := fun _ => 0) (fun _ h => nomatch h)).mono (by decide) (Nat.le_refl _)
theorem noLs_all : ∀ {xs : List D}, (∀ x ∈ xs, noL x = true) → noLs xs = true
  | [], _ => rfl
  | x :: xs, h => by
    show (noL x && noLs xs) = true
    rw [h x (List.mem_cons_self ..), noLs_all fun y hy => h y (List.mem_cons_of_mem _ hy)]
    rfl
structure OddI (x : D) : Prop where
  ty : (tyN x).isSome = true
  sh : Shows x 30000 4
  g : good1 x = true
  ok : okR x = true
  el : ∀ xs, x = .tup xs → ∀ z ∈ xs, (tyN z).isSome = true
  nr : ∀ xs, x ≠ .rot xs
theorem OddI.repr {x : D} (h : OddI x) : ∃ z, dRepr x = pure (.str z) := shows_repr h.sh h.ok (by unfold goodR; rw [h.g]; rfl) (by decide) (by decide)
structure Fl (z : D) : Prop where
  ty : (tyN z).isSome = true
  pl : Plain z 64 0
  nl : noL z = true
structure Kc (c : D) : Prop where
  ty : (tyN c).isSome = true
  sh : Shows c 3000 2
  or_ : noL c = true ∨ Plain c 3000 2
theorem Fl.kc {z : D} (h : Fl z) : Kc z := ⟨h.ty, h.pl.shows.mono (by decide) (by decide), .inl h.nl⟩
theorem odd_tup {zs : List D} {c : D} (hc : Kc c) (h : ∀ z ∈ zs, Fl z ∨ z = c) (hl : zs.length ≤ 9) : OddI (.tup zs) where
  ty := rfl
  sh := (Shows.tup (w := 3000) (e := 2) fun z hz => by
    rcases h z hz with q | q
    · exact q.kc.sh
    · rw [q]; exact hc.sh).mono (by omega) (by omega)
  g := by
    rcases hc.or_ with n | p
    · refine (Shows.tup (w := 3000) (e := 2) fun z hz => ?_).good (noLs_all fun z hz => ?_)
      · rcases h z hz with q | q
        · exact q.kc.sh
        · rw [q]; exact hc.sh
      · rcases h z hz with q | q
        · exact q.nl
        · rw [q]; exact n
    · refine (Plain.tup (w := 3000) (e := 2) fun z hz => ?_).good
      rcases h z hz with q | q
      · exact q.pl.mono (by decide) (by decide)
      · rw [q]; exact p
  ok := rfl
  el := fun xs e z hz => by
    cases e
    rcases h z hz with q | q
    · exact q.ty
    · rw [q]; exact hc.ty
  nr := fun _ e => nomatch e
theorem odd_flat {zs : List D} (h : ∀ z ∈ zs, Fl z) (hl : zs.length ≤ 9) : OddI (.tup zs) := odd_tup (c := .non) ⟨rfl, Plain.non.shows.mono (by decide) (by decide), .inl rfl⟩ (fun z hz => .inl (h z hz)) hl
theorem odd_of {x : D} {w e : Nat} (ht : (tyN x).isSome = true) (h : Plain x w e) (hw : w ≤ 30000) (he : e ≤ 4) (hr : okR x = true) (n1 : ∀ xs, x ≠ .tup xs) (n2 : ∀ xs, x ≠ .rot xs) : OddI x := ⟨ht, h.shows.mono hw he, h.good, hr, fun xs e => absurd e (n1 xs), n2⟩
theorem odd_dic0 : OddI (.dic []) := ⟨rfl, Shows.dic0.mono (by decide) (by decide), Shows.dic0.good rfl, rfl, (fun _ e => nomatch e), (fun _ e => nomatch e)⟩
theorem odd_lst {zs : List D} (h : ∀ z ∈ zs, Fl z) (hl : zs.length ≤ 9) : OddI (.lst zs) := odd_of rfl (Plain.lst fun z hz => (h z hz).pl) (by omega) (by decide) rfl (fun _ e => nomatch e) (fun _ e => nomatch e)
def wordB : D → Bool
  | .str s => decide (s ∈ words3)
  | _ => false
def wB (y : Yd) : D → Bool
  | .tup [a, b, c] => partsB y a b c
  | _ => false
def rB (y : Yd) : D → Bool
  | .tup [a, b, c, d] => partsB y a b c && wordB d
  | _ => false
section
variable {y : Yd} {x : D}
theorem tup_of (h : OddI x) (e : isTup x = true) : ∃ xs, x = .tup xs := by
  cases x with
  | tup xs => exact ⟨xs, rfl⟩
  | rot xs => exact absurd rfl (h.nr xs)
  | _ => cases e
theorem len_tup {xs : List D} {env : Ev} {i : Nat} (h : env[i]? = some (some (.tup xs))) : eUn dLen (eVar i) env = pure (.int xs.length) := ev_un (ev_var h) rfl
theorem is_weighing_any (o : YdOk y) (h : OddI x) : m_is_weighing [courtD y, x] = pure (.bl (wB y x)) := by
  refine def_ret (st_ret ?_)
  cases e : isTup x with
  | false =>
    have e2 : wB y x = false := by
      cases x <;> first | rfl | cases e
    rw [e2]
    exact ev_and (t1 := false) (t2 := false) (ev_un (ev_var rfl) (by rw [isi_of h.ty, e])) fun q => nomatch q
  | true =>
    obtain ⟨xs, rfl⟩ := tup_of h e
    have el := h.el xs rfl
    have h1 : eUn (dIsi isTup) (eVar 1) [some (courtD y), some (.tup xs)] = pure (.bl true) := ev_un (ev_var rfl) rfl
    by_cases l : xs.length = 3
    · match xs, l, el with
      | [a, b, c], _, el =>
        exact ev_and (t1 := true) (t2 := partsB y a b c) h1 fun _ => ev_and (t1 := true) (t2 := partsB y a b c) (ev_bin (len_tup rfl) ev_c (dEq_int _ _)) fun _ => ev_call (ev_cons (ev_var rfl) (ev_cons (ev_bin (ev_var rfl) ev_c rfl) (ev_cons (ev_bin (ev_var rfl) ev_c rfl) (ev_cons (ev_bin (ev_var rfl) ev_c rfl) ev_nil)))) rfl (are_parts_any o (el a (by simp)) (el b (by simp)) (el c (by simp)))
    · have e2 : wB y (.tup xs) = false := by
        match xs, l with
        | [], _ => rfl
        | [_], _ => rfl
        | [_, _], _ => rfl
        | [_, _, _], l => exact absurd rfl l
        | _ :: _ :: _ :: _ :: _, _ => rfl
      rw [e2]
      refine ev_and (t1 := true) (t2 := false) h1 fun _ => ev_and (t1 := false) (t2 := false) (ev_bin (len_tup rfl) ev_c ?_) fun q => nomatch q
      rw [dEq_int, decide_eq_false (by omega)]
theorem words_rot (s : Str) : dIn false (.str s) (.rot [.str "left", .str "even", .str "right"]) = pure (.bl (decide (s ∈ words3))) := by
  show guardB (flatD (.str s) && (namesD words3).all flatD) (pure (D.bl (inD (.str s) (words3.map .str)))) = _
  rw [inD_strs]
  rfl
theorem words_lst (s : Str) : dIn false (.str s) (.lst [.str "left", .str "even", .str "right"]) = pure (.bl (decide (s ∈ words3))) := dIn_strs s words3
theorem is_row_any (o : YdOk y) (h : OddI x) : m_is_row [courtD y, x] = pure (.bl (rB y x)) := by
  refine def_ret ?_
  cases e : isTup x with
  | false =>
    have e2 : rB y x = false := by
      cases x <;> first | rfl | cases e
    rw [e2]
    exact st_seqr ((st_ift (t := true) (ev_tOr (t1 := true) (t2 := true) (ev_tNot (t := false) (ev_tB (ev_un (ev_var rfl) (by rw [isi_of h.ty, e])))) fun q => nomatch q) rfl (st_ret ev_c)))
  | true =>
    obtain ⟨xs, rfl⟩ := tup_of h e
    have el := h.el xs rfl
    have h1 : tNot' (tB' (eUn (dIsi isTup) (eVar 1))) [some (courtD y), some (.tup xs)] = pure false := ev_tNot (t := true) (ev_tB (ev_un (ev_var rfl) rfl))
    by_cases l : xs.length = 4
    · match xs, l, el, h1 with
      | [a, b, c, d], _, el, h1 =>
        have hp := are_parts_any o (el a (by simp)) (el b (by simp)) (el c (by simp))
        have hc : (tOr' (tNot' (tB' (eUn (dIsi isTup) (eVar 1)))) (tOr' (tB' (eBin dNe (eUn dLen (eVar 1)) (eC (.int 4)))) (tNot' (tB' (eCall 4 m_are_parts (aCons (eVar 0) (aCons (eBin dAt (eVar 1) (eC (.int 0))) (aCons (eBin dAt (eVar 1) (eC (.int 1))) (aCons (eBin dAt (eVar 1) (eC (.int 2))) aNil))))))))) [some (courtD y), some (.tup [a, b, c, d])] = pure (!partsB y a b c) :=
          ev_tOr (t1 := false) (t2 := !partsB y a b c) h1 fun _ => ev_tOr (t1 := false) (t2 := !partsB y a b c) (ev_tB (ev_bin (len_tup rfl) ev_c (dNe_int _ _))) fun _ => ev_tNot (ev_tB (ev_call (ev_cons (ev_var rfl) (ev_cons (ev_bin (ev_var rfl) ev_c rfl) (ev_cons (ev_bin (ev_var rfl) ev_c rfl) (ev_cons (ev_bin (ev_var rfl) ev_c rfl) ev_nil)))) rfl hp))
        show _ = pure (Ctl.ret (.bl (partsB y a b c && wordB d)))
        cases ep : partsB y a b c with
        | false =>
          rw [ep] at hc
          exact st_seqr (st_ift hc rfl (st_ret ev_c))
        | true =>
          rw [ep] at hc
          refine st_seq (st_iff hc rfl st_nx) (st_ret ?_)
          have hd : eBin dAt (eVar 1) (eC (.int 3)) [some (courtD y), some (.tup [a, b, c, d])] = pure d := ev_bin (ev_var rfl) ev_c rfl
          by_cases hs : isStr d = true
          · obtain ⟨s, rfl⟩ := str_of hs
            exact ev_and (t1 := true) (t2 := decide (s ∈ words3)) (ev_un hd rfl) fun _ => ev_bin hd ev_c (words_rot s)
          · have hs' : isStr d = false := by simpa using hs
            have ew : wordB d = false := by
              cases d <;> first | rfl | cases hs'
            rw [ew]
            exact ev_and (t1 := false) (t2 := false) (ev_un hd (by rw [isi_of (el d (by simp)), hs'])) fun q => nomatch q
    · have e2 : rB y (.tup xs) = false := by
        match xs, l with
        | [], _ => rfl
        | [_], _ => rfl
        | [_, _], _ => rfl
        | [_, _, _], _ => rfl
        | [_, _, _, _], l => exact absurd rfl l
        | _ :: _ :: _ :: _ :: _ :: _, _ => rfl
      rw [e2]
      refine st_seqr (st_ift (t := true) (ev_tOr (t1 := false) (t2 := true) h1 fun _ => ev_tOr (t1 := true) (t2 := true) (ev_tB (ev_bin (len_tup rfl) ev_c ?_)) fun q => nomatch q) rfl (st_ret ev_c))
      rw [dNe_int, decide_eq_false (by omega)]
      rfl
theorem inD_non (xs : List Str) : inD .non (xs.map .str) = false := by
  induction xs with
  | nil => rfl
  | cons z xs ih => exact ih
def optIn (d : Bool) (xs : List Str) : Option Str → Bool
  | some s => decide (s ∈ xs)
  | none => d
theorem nin_bn (r : Option Str) (xs : List Str) : dNin (panD r) (.lst (xs.map .str)) = pure (.bl (!optIn false xs r)) := by
  cases r with
  | none =>
    show guardB (flatD .non && (xs.map D.str).all flatD) (pure (D.bl (!inD .non (xs.map .str)))) = _
    rw [flat_strs, inD_non]
    rfl
  | some s => exact dNin_strs s xs
theorem nin_pans (p : Option Str) (xs : List Str) : dNin (panD p) (.lst (D.non :: xs.map .str)) = pure (.bl (!optIn true xs p)) := by
  cases p with
  | none =>
    show guardB (flatD .non && (flatD .non && (xs.map D.str).all flatD)) (pure (D.bl (!inD .non (D.non :: xs.map .str)))) = _
    rw [flat_strs]
    rfl
  | some s =>
    show guardB (flatD (.str s) && (flatD .non && (xs.map D.str).all flatD)) (pure (D.bl (!inD (.str s) (D.non :: xs.map .str)))) = _
    rw [flat_strs]
    have e : inD (.str s) (D.non :: xs.map .str) = inD (.str s) (xs.map .str) := rfl
    rw [e, inD_strs]
    rfl
theorem go_nx {t : Ev → D → Option Ev} {b : Ev → M Ctl} {x : D} {xs : List D} {env e e' : Ev} (h1 : t env x = some e) (h2 : b e = pure (.nx e')) : forGo t b (x :: xs) env = forGo t b xs e' := by
  simp only [forGo, h1, h2, pure_bind']
theorem go_ret {t : Ev → D → Option Ev} {b : Ev → M Ctl} {x z : D} {xs : List D} {env e : Ev} (h1 : t env x = some e) (h2 : b e = pure (.ret z)) : forGo t b (x :: xs) env = pure (.ret z) := by
  simp only [forGo, h1, h2, pure_bind']
def fl (z : D) : Bool := isNon z || isStr z
abbrev flB : Ev → M Ctl := cIf (tAnd' (tB' (eBin (dIsN true) (eVar 3) (eC .non))) (tNot' (tB' (eUn (dIsi isStr) (eVar 3))))) (cRet (eC (.bl false))) cNx
theorem fl_step {env : Ev} {z : D} (h : env[3]? = some (some z)) (ht : (tyN z).isSome = true) : flB env = if fl z = true then pure (.nx env) else pure (.ret (.bl false)) := by
  have hc : (tAnd' (tB' (eBin (dIsN true) (eVar 3) (eC .non))) (tNot' (tB' (eUn (dIsi isStr) (eVar 3))))) env = pure (!isNon z && !isStr z) :=
    ev_tAnd (t1 := !isNon z) (t2 := !isStr z) (ev_tB (ev_bin (ev_var h) ev_c rfl)) fun _ => ev_tNot (ev_tB (ev_un (ev_var h) (isi_of ht)))
  have e : (!isNon z && !isStr z) = !fl z := by unfold fl; rw [Bool.not_or]
  rw [e] at hc
  cases q : fl z with
  | true =>
    rw [q] at hc
    rw [if_pos rfl]
    exact st_iff hc rfl st_nx
  | false =>
    rw [q] at hc
    rw [if_neg (by decide)]
    exact st_ift hc rfl (st_ret ev_c)
theorem fl_pan {z : D} (h : fl z = true) : ∃ p : Option Str, z = panD p := by
  cases z with
  | non => exact ⟨none, rfl⟩
  | str s => exact ⟨some s, rfl⟩
  | _ => cases h
theorem okB_fl {z : D} (h : fl z = false) : okB y z = false := by
  cases z <;> first | rfl | cases h
theorem okP_fl {z : D} (h : fl z = false) : okP y z = false := by
  cases z <;> first | rfl | cases h
theorem lc_bn0 {e0 : Ev} {l : List (Str × Int)} (h : 4 < e0.length) (hl : l.length ≤ 1000) : lcGo e0 (gN 4) nYes (eBin dAt (eVar 4) (eC (.int 0))) (beamsD l) [] = pure (namesD (l.map (·.1))) := by
  have hz : (1000 : Nat) ≤ sizeLine := by decide
  have := lc_mapT (e0 := e0) (tg := gN 4) (n := nYes) (me := eBin dAt (eVar 4) (eC (.int 0))) beamD (fun p : Str × Int => D.str p.1) l [] (fun p _ => ⟨_, rfl, rfl, ev_bin (x := beamD p) (ev_var (by rw [List.getElem?_set_self (by omega)])) ev_c rfl⟩) (by rw [List.length_nil]; omega)
  rw [List.nil_append] at this
  rw [this]
  unfold namesD
  rw [List.map_map]
  rfl
theorem law_parts_eq (o : YdOk y) {a b c : D} (ha : (tyN a).isSome = true) (hb : (tyN b).isSome = true) (hc : (tyN c).isSome = true) : m__law_is_parts [rowD y, .tup [a, b, c]] = pure (.bl (partsB y a b c)) := by
  have n8 := o.n8
  have b3 := o.b3
  refine def_ret (st_seq (st_set (x := .lst (D.non :: namesD y.ns)) (ev_bin (ev_lst (ev_cons ev_c ev_nil) rfl) (ev_bin (ev_var rfl) ev_c rfl) (dAdd_pans n8))) ?_)
  show cSeq (cFor (iOn dIt (eVar 1)) (gN 3) flB) _ [some (rowD y), some (.tup [a, b, c]), some (.lst (D.non :: namesD y.ns)), none, none] = _
  have it : iOn dIt (eVar 1) [some (rowD y), some (.tup [a, b, c]), some (.lst (D.non :: namesD y.ns)), none, none] = pure [a, b, c] := ev_iOn (ev_var rfl) rfl
  unfold partsB
  cases fa : fl a with
  | false =>
    rw [okB_fl fa]
    exact st_seqr (st_for it (go_ret rfl ((fl_step (z := a) rfl ha).trans (by rw [fa]; rfl))))
  | true =>
    have sa := (fl_step (env := [some (rowD y), some (.tup [a, b, c]), some (.lst (D.non :: namesD y.ns)), some a, none]) (z := a) rfl ha).trans (by rw [fa, if_pos rfl])
    cases fb : fl b with
    | false =>
      rw [okP_fl fb, Bool.false_and, Bool.and_false]
      exact st_seqr (st_for it ((go_nx rfl sa).trans (go_ret rfl ((fl_step (z := b) rfl hb).trans (by rw [fb]; rfl)))))
    | true =>
      have sb := (fl_step (env := [some (rowD y), some (.tup [a, b, c]), some (.lst (D.non :: namesD y.ns)), some b, none]) (z := b) rfl hb).trans (by rw [fb, if_pos rfl])
      cases fc : fl c with
      | false =>
        rw [okP_fl fc, Bool.false_and, Bool.and_false, Bool.and_false]
        exact st_seqr (st_for it ((go_nx rfl sa).trans ((go_nx rfl sb).trans (go_ret rfl ((fl_step (z := c) rfl hc).trans (by rw [fc]; rfl))))))
      | true =>
        have sc := (fl_step (env := [some (rowD y), some (.tup [a, b, c]), some (.lst (D.non :: namesD y.ns)), some c, none]) (z := c) rfl hc).trans (by rw [fc, if_pos rfl])
        refine st_seq (st_for it ((go_nx rfl sa).trans ((go_nx rfl sb).trans ((go_nx rfl sc).trans rfl)))) ?_
        obtain ⟨r, rfl⟩ := fl_pan fa
        obtain ⟨p, rfl⟩ := fl_pan fb
        obtain ⟨q, rfl⟩ := fl_pan fc
        have e1 : okB y (panD r) = optIn false y.bn r := by cases r <;> rfl
        have e2 : ∀ p : Option Str, okP y (panD p) = optIn true y.ns p := fun p => by cases p <;> rfl
        have i1 : ∀ {env : Ev}, env[1]? = some (some (.tup [panD r, panD p, panD q])) → eBin dAt (eVar 1) (eC (.int 0)) env = pure (panD r) ∧ eBin dAt (eVar 1) (eC (.int 1)) env = pure (panD p) ∧ eBin dAt (eVar 1) (eC (.int 2)) env = pure (panD q) := fun h => ⟨ev_bin (ev_var h) ev_c rfl, ev_bin (ev_var h) ev_c rfl, ev_bin (ev_var h) ev_c rfl⟩
        have hcond : (tOr' (tB' (eBin dNin (eBin dAt (eVar 1) (eC (.int 0))) (eLc (iOn dIt (eBin dAt (eVar 0) (eC (.int 1)))) [4] (gN 4) nYes (eBin dAt (eVar 4) (eC (.int 0)))))) (tOr' (tB' (eBin dNin (eBin dAt (eVar 1) (eC (.int 1))) (eVar 2))) (tB' (eBin dNin (eBin dAt (eVar 1) (eC (.int 2))) (eVar 2))))) [some (rowD y), some (.tup [panD r, panD p, panD q]), some (.lst (D.non :: namesD y.ns)), some (panD q), none] = pure (!okB y (panD r) || (!okP y (panD p) || !okP y (panD q))) := by
          refine ev_tOr (t1 := !okB y (panD r)) (ev_tB (ev_bin (i1 rfl).1 (ev_lc (ev_iOn (ev_bin (ev_var rfl) ev_c rfl) rfl) (lc_bn0 (show 4 < 5 by decide) (by omega))) ?_)) fun _ => ev_tOr (t1 := !okP y (panD p)) (ev_tB (ev_bin (i1 rfl).2.1 (ev_var rfl) ?_)) fun _ => ev_tB (ev_bin (i1 rfl).2.2 (ev_var rfl) ?_)
          · rw [e1]; exact nin_bn r y.bn
          · rw [e2]; exact nin_pans p y.ns
          · rw [e2]; exact nin_pans q y.ns
        have e3 : (!okB y (panD r) || (!okP y (panD p) || !okP y (panD q))) = !(okB y (panD r) && (okP y (panD p) && okP y (panD q))) := by rw [Bool.not_and, Bool.not_and]
        rw [e3] at hcond
        have e4 : (okB y (panD r) && (okP y (panD p) && (okP y (panD q) && unB (panD p) (panD q)))) = ((okB y (panD r) && (okP y (panD p) && okP y (panD q))) && unB (panD p) (panD q)) := by rw [Bool.and_assoc, Bool.and_assoc]
        rw [e4]
        cases ec : (okB y (panD r) && (okP y (panD p) && okP y (panD q))) with
        | false =>
          rw [ec] at hcond
          exact st_seqr (st_ift hcond rfl (st_ret ev_c))
        | true =>
          rw [ec] at hcond
          have ec2 := (Bool.and_eq_true_iff.mp ec).2
          have hp := okP_pan.mp (Bool.and_eq_true_iff.mp ec2).1
          have hq := okP_pan.mp (Bool.and_eq_true_iff.mp ec2).2
          refine st_seq (st_iff hcond rfl st_nx) ?_
          rw [st_ret (ev_or (t1 := decide (p = none)) (t2 := !decide (p = q)) (ev_bin (i1 rfl).2.1 ev_c (dIsN_pan _)) fun _ => ev_bin (i1 rfl).2.1 (i1 rfl).2.2 (dNe_pan _ _ (hp.ok o) (hq.ok o)))]
          rw [unB_pan]
          rfl
theorem law_weighing_any (o : YdOk y) (h : OddI x) : m__law_is_weighing [rowD y, x] = pure (.bl (wB y x)) := by
  refine def_ret (st_ret ?_)
  cases e : isTup x with
  | false =>
    have e2 : wB y x = false := by
      cases x <;> first | rfl | cases e
    rw [e2]
    exact ev_and (t1 := false) (t2 := false) (ev_un (ev_var rfl) (by rw [isi_of h.ty, e])) fun q => nomatch q
  | true =>
    obtain ⟨xs, rfl⟩ := tup_of h e
    have el := h.el xs rfl
    have h1 : eUn (dIsi isTup) (eVar 1) [some (rowD y), some (.tup xs)] = pure (.bl true) := ev_un (ev_var rfl) rfl
    by_cases l : xs.length = 3
    · match xs, l, el with
      | [a, b, c], _, el =>
        exact ev_and (t1 := true) (t2 := partsB y a b c) h1 fun _ => ev_and (t1 := true) (t2 := partsB y a b c) (ev_bin (len_tup rfl) ev_c (dEq_int _ _)) fun _ => ev_call (ev_cons (ev_var rfl) (ev_cons (ev_var rfl) ev_nil)) rfl (law_parts_eq o (el a (by simp)) (el b (by simp)) (el c (by simp)))
    · have e2 : wB y (.tup xs) = false := by
        match xs, l with
        | [], _ => rfl
        | [_], _ => rfl
        | [_, _], _ => rfl
        | [_, _, _], l => exact absurd rfl l
        | _ :: _ :: _ :: _ :: _, _ => rfl
      rw [e2]
      refine ev_and (t1 := true) (t2 := false) h1 fun _ => ev_and (t1 := false) (t2 := false) (ev_bin (len_tup rfl) ev_c ?_) fun q => nomatch q
      rw [dEq_int, decide_eq_false (by omega)]
theorem law_row_any (o : YdOk y) (h : OddI x) : m__law_is_row [rowD y, x] = pure (.bl (rB y x)) := by
  refine def_ret ?_
  cases e : isTup x with
  | false =>
    have e2 : rB y x = false := by
      cases x <;> first | rfl | cases e
    rw [e2]
    exact st_seqr ((st_ift (t := true) (ev_tOr (t1 := true) (t2 := true) (ev_tNot (t := false) (ev_tB (ev_un (ev_var rfl) (by rw [isi_of h.ty, e])))) fun q => nomatch q) rfl (st_ret ev_c)))
  | true =>
    obtain ⟨xs, rfl⟩ := tup_of h e
    have el := h.el xs rfl
    have h1 : tNot' (tB' (eUn (dIsi isTup) (eVar 1))) [some (rowD y), some (.tup xs)] = pure false := ev_tNot (t := true) (ev_tB (ev_un (ev_var rfl) rfl))
    by_cases l : xs.length = 4
    · match xs, l, el, h1 with
      | [a, b, c, d], _, el, h1 =>
        have hp := law_parts_eq o (el a (by simp)) (el b (by simp)) (el c (by simp))
        have hc : (tOr' (tNot' (tB' (eUn (dIsi isTup) (eVar 1)))) (tOr' (tB' (eBin dNe (eUn dLen (eVar 1)) (eC (.int 4)))) (tNot' (tB' (eCall 2 m__law_is_parts (aCons (eVar 0) (aCons (eSl (eVar 1) oNone (oSome (eC (.int 3)))) aNil))))))) [some (rowD y), some (.tup [a, b, c, d])] = pure (!partsB y a b c) :=
          ev_tOr (t1 := false) (t2 := !partsB y a b c) h1 fun _ => ev_tOr (t1 := false) (t2 := !partsB y a b c) (ev_tB (ev_bin (len_tup rfl) ev_c (dNe_int _ _))) fun _ => ev_tNot (ev_tB (ev_call (ev_cons (ev_var rfl) (ev_cons (ev_sl (ev_var rfl) ev_oNone (ev_oSome ev_c) rfl) ev_nil)) rfl hp))
        show _ = pure (Ctl.ret (.bl (partsB y a b c && wordB d)))
        cases ep : partsB y a b c with
        | false =>
          rw [ep] at hc
          exact st_seqr (st_ift hc rfl (st_ret ev_c))
        | true =>
          rw [ep] at hc
          refine st_seq (st_iff hc rfl st_nx) (st_ret ?_)
          have hd : eBin dAt (eVar 1) (eC (.int 3)) [some (rowD y), some (.tup [a, b, c, d])] = pure d := ev_bin (ev_var rfl) ev_c rfl
          by_cases hs : isStr d = true
          · obtain ⟨s, rfl⟩ := str_of hs
            exact ev_and (t1 := true) (t2 := decide (s ∈ words3)) (ev_un hd rfl) fun _ => ev_bin hd (ev_lst (ev_cons ev_c (ev_cons ev_c (ev_cons ev_c ev_nil))) rfl) (words_lst s)
          · have hs' : isStr d = false := by simpa using hs
            have ew : wordB d = false := by
              cases d <;> first | rfl | cases hs'
            rw [ew]
            exact ev_and (t1 := false) (t2 := false) (ev_un hd (by rw [isi_of (el d (by simp)), hs'])) fun q => nomatch q
    · have e2 : rB y (.tup xs) = false := by
        match xs, l with
        | [], _ => rfl
        | [_], _ => rfl
        | [_, _], _ => rfl
        | [_, _, _], _ => rfl
        | [_, _, _, _], l => exact absurd rfl l
        | _ :: _ :: _ :: _ :: _ :: _, _ => rfl
      rw [e2]
      refine st_seqr (st_ift (t := true) (ev_tOr (t1 := false) (t2 := true) h1 fun _ => ev_tOr (t1 := true) (t2 := true) (ev_tB (ev_bin (len_tup rfl) ev_c ?_)) fun q => nomatch q) rfl (st_ret ev_c))
      rw [dNe_int, decide_eq_false (by omega)]
      rfl
end
end Cm
end
section
set_option maxHeartbeats 400000
namespace Cm
open PySem PySem.Spec PyProof.Rows L2 Mir
section
variable {y : Yd} {b : Str}
def pansL (y : Yd) : List (Option Str) := none :: y.ns.map some
theorem pansL_len (o : YdOk y) : (pansL y).length ≤ 9 := by
  have := o.n8
  unfold pansL
  rw [List.length_cons, List.length_map]; omega
theorem pansL_ok {p : Option Str} (h : p ∈ pansL y) : PanOk y p := fun z e => by
  rcases List.mem_cons.mp h with q | q
  · rw [q] at e; cases e
  · obtain ⟨s, hs, e2⟩ := List.mem_map.mp q
    rw [← e2] at e
    cases e
    exact hs
theorem pansL_eq (o : YdOk y) : m_pans [courtD y] = pure (.lst ((pansL y).map panD)) := by
  refine def_ret (st_ret ?_)
  have e : (pansL y).map panD = D.non :: namesD y.ns := (pans_map y.ns).symm
  rw [e]
  exact ev_bin (ev_lst (ev_cons ev_c ev_nil) rfl) (ev_things (ev_var rfl)) (dAdd_pans o.n8)
def cP (p q : Option Str) : Bool := decide (p = none) || !decide (p = q)
def tP (b : Str) (p q : Option Str) : D := .tup [.str b, panD p, panD q]
def rowP (y : Yd) (b : Str) (p : Option Str) : List D := ((pansL y).filter (cP p)).map (tP b p)
def atP (y : Yd) (b : Str) : List D := (pansL y).flatMap (rowP y b)
def allP (y : Yd) : List D := y.bs.flatMap fun p => atP y p.1
theorem rowP_len (o : YdOk y) (p : Option Str) : (rowP y b p).length ≤ 9 := by
  unfold rowP
  rw [List.length_map]
  exact Nat.le_trans (List.length_filter_le ..) (pansL_len o)
theorem flat_len {α : Type} {f : α → List D} {n : Nat} : ∀ {xs : List α}, (∀ x ∈ xs, (f x).length ≤ n) → (xs.flatMap f).length ≤ xs.length * n
  | [], _ => by simp
  | x :: xs, h => by
    rw [List.flatMap_cons, List.length_append, List.length_cons, Nat.add_mul, Nat.one_mul]
    have h1 := h x (List.mem_cons_self ..)
    have h2 := flat_len (f := f) (n := n) (xs := xs) fun z hz => h z (List.mem_cons_of_mem _ hz)
    omega
theorem atP_len (o : YdOk y) : (atP y b).length ≤ 81 := Nat.le_trans (flat_len fun p _ => rowP_len o p) (by have := pansL_len o; omega)
theorem allP_len (o : YdOk y) : (allP y).length ≤ 243 := Nat.le_trans (flat_len fun p _ => atP_len o) (by have := o.b3; omega)
theorem fold_flat {α : Type} {f : α → List D} : ∀ (xs : List α) (s : List D), xs.foldl (fun s x => s ++ f x) s = s ++ xs.flatMap f
  | [], s => by simp
  | x :: xs, s => by
    rw [List.foldl_cons, fold_flat xs, List.flatMap_cons, List.append_assoc]
theorem fold_len {α : Type} {f : α → List D} {n : Nat} {s : List D} {j : Nat} {x : α} (h : s.length ≤ j * n) (hf : (f x).length ≤ n) : (s ++ f x).length ≤ (j + 1) * n := by
  rw [List.length_append, Nat.add_mul, Nat.one_mul]; omega
theorem ev_ext {env : Ev} {i : Nat} {m : Ev → M D} {xs ys : List D} (h : m env = pure (.lst ys)) (h2 : env[i]? = some (some (.lst xs))) (hl : xs.length + ys.length ≤ sizeLine) : cExt i m env = pure (.nx (env.set i (some (.lst (xs ++ ys))))) := by
  unfold cExt
  rw [h, pure_bind', h2]
  show guardB _ _ = _
  rw [guard_of (decide_eq_true hl)]
theorem weighings_at_eq (o : YdOk y) (b : Str) : m_weighings_at [courtD y, .str b] = pure (.lst (atP y b)) := by
  have hz : (1000 : Nat) ≤ sizeLine := by decide
  have pl := pansL_len o
  refine def_ret (st_seq (st_set (x := .lst []) (ev_lst ev_nil rfl)) ?_)
  have it : ∀ {env : Ev}, env[0]? = some (some (courtD y)) → iOn dIt (eCall 1 m_pans (aCons (eVar 0) aNil)) env = pure ((pansL y).map panD) := fun h => ev_iOn (ev_call (ev_cons (ev_var h) ev_nil) rfl (pansL_eq o)) rfl
  obtain ⟨e', h1, a3, a4, h2, h3⟩ := for_foldT (tg := gN 3) (b := cExt 2 (eLc (iOn dIt (eCall 1 m_pans (aCons (eVar 0) aNil))) [4] (gN 4) (tOr' (tB' (eBin (dIsN false) (eVar 3) (eC .non))) (tB' (eBin dNe (eVar 3) (eVar 4)))) (eTup (aCons (eVar 1) (aCons (eVar 3) (aCons (eVar 4) aNil)))))) panD
    (fun j s env => ∃ a3 a4, env = [some (courtD y), some (.str b), some (.lst s), a3, a4] ∧ s.length ≤ j * 9) (fun s p => s ++ rowP y b p) (pansL y) 0 [] [some (courtD y), some (.str b), some (.lst []), none, none] ⟨_, _, rfl, by simp⟩
    (fun p hp j s env hj ⟨a3, a4, e, hs⟩ => by
      subst e
      refine ⟨_, _, rfl, ev_ext (ys := rowP y b p) (ev_lc (it rfl) ?_) rfl (by have := rowP_len (b := b) o p; omega), _, _, rfl, fold_len (n := 9) hs (rowP_len o p)⟩
      have := lc_filterT (e0 := wipeE [some (courtD y), some (.str b), some (.lst s), some (panD p), a4] [4]) (tg := gN 4) (n := tOr' (tB' (eBin (dIsN false) (eVar 3) (eC .non))) (tB' (eBin dNe (eVar 3) (eVar 4)))) (me := eTup (aCons (eVar 1) (aCons (eVar 3) (aCons (eVar 4) aNil)))) panD (tP b p) (cP p) (pansL y) [] (fun q hq => ⟨_, rfl, ev_tOr (ev_tB (ev_bin (x := panD p) (ev_var rfl) ev_c (dIsN_pan p))) (fun _ => ev_tB (ev_bin (x := panD p) (ev_var rfl) (ev_var rfl) (dNe_pan p q ((pansL_ok hp).ok o) ((pansL_ok hq).ok o)))), fun _ => ev_tup (ev_cons (ev_var rfl) (ev_cons (ev_var rfl) (ev_cons (ev_var rfl) ev_nil))) rfl⟩) (by rw [List.length_nil]; omega)
      exact this)
  subst h2
  refine st_seq (st_for (it rfl) h1) (st_ret (ev_var ?_))
  rw [fold_flat, List.nil_append]
  rfl
theorem weighings_eq (o : YdOk y) : m_weighings [courtD y] = pure (.lst (allP y)) := by
  have hz : (1000 : Nat) ≤ sizeLine := by decide
  have b3 := o.b3
  refine def_ret (st_seq (st_set (x := .lst []) (ev_lst ev_nil rfl)) ?_)
  obtain ⟨e', h1, a2, a3, h2, h3⟩ := for_foldT (tg := gT (gsCons (gN 2) (gsCons (gN 3) gsNil))) (b := cExt 1 (eCall 2 m_weighings_at (aCons (eVar 0) (aCons (eVar 2) aNil)))) beamD
    (fun j s env => ∃ a2 a3, env = [some (courtD y), some (.lst s), a2, a3] ∧ s.length ≤ j * 81) (fun s p => s ++ atP y p.1) y.bs 0 [] [some (courtD y), some (.lst []), none, none] ⟨_, _, rfl, by simp⟩
    (fun p hp j s env hj ⟨a2, a3, e, hs⟩ => by
      subst e
      exact ⟨_, _, rfl, ev_ext (ys := atP y p.1) (ev_call (ev_cons (ev_var rfl) (ev_cons (ev_var rfl) ev_nil)) rfl (weighings_at_eq o p.1)) rfl (by have := atP_len (b := p.1) o; omega), _, _, rfl, fold_len (n := 81) hs (atP_len o)⟩)
  subst h2
  refine st_seq (st_for (ev_iOn (ev_beams (ev_var rfl)) rfl) h1) (st_ret (ev_var ?_))
  rw [fold_flat, List.nil_append]
  rfl
theorem if_flat (c : Option Str → Bool) (t : Option Str → D) : ∀ qs : List (Option Str), (qs.flatMap fun q => if c q = true then [t q] else []) = (qs.filter c).map t
  | [] => rfl
  | q :: qs => by
    rw [List.flatMap_cons, if_flat c t qs]
    cases h : c q with
    | true => rw [List.filter_cons_of_pos h, if_pos rfl]; rfl
    | false => rw [List.filter_cons_of_neg (by rw [h]; decide), if_neg (by decide)]; rfl
theorem all_eq (o : YdOk y) : m__law_all [rowD y] = pure (.lst (allP y)) := by
  have hz : (1000 : Nat) ≤ sizeLine := by decide
  have b3 := o.b3
  have pl := pansL_len o
  have ep : D.non :: namesD y.ns = (pansL y).map panD := pans_map y.ns
  refine def_ret (st_seq (st_par2 (x := .lst []) (y := .lst ((pansL y).map panD)) (ev_lst ev_nil rfl) (ev_bin (ev_lst (ev_cons ev_c ev_nil) rfl) (ev_bin (ev_var rfl) ev_c rfl) (by rw [← ep]; exact dAdd_pans o.n8))) ?_)
  have inner : ∀ (p : Option Str) (hp : p ∈ pansL y) (bb : Str) (s : List D) (hs : s.length ≤ 900) (a4 a6 : Option D), ∃ e', forGo (gN 6) (cIf (tOr' (tB' (eBin (dIsN false) (eVar 5) (eC .non))) (tB' (eBin dNe (eVar 5) (eVar 6)))) (cApp 1 (eTup (aCons (eVar 3) (aCons (eVar 5) (aCons (eVar 6) aNil))))) cNx) ((pansL y).map panD) [some (rowD y), some (.lst s), some (.lst ((pansL y).map panD)), some (.str bb), a4, some (panD p), a6] = pure (.nx e') ∧ ∃ a6, e' = [some (rowD y), some (.lst (s ++ rowP y bb p)), some (.lst ((pansL y).map panD)), some (.str bb), a4, some (panD p), a6] := by
    intro p hp bb s hs a4 a6
    obtain ⟨e', h1, a6', h2, h3⟩ := for_foldT (tg := gN 6) (b := cIf (tOr' (tB' (eBin (dIsN false) (eVar 5) (eC .non))) (tB' (eBin dNe (eVar 5) (eVar 6)))) (cApp 1 (eTup (aCons (eVar 3) (aCons (eVar 5) (aCons (eVar 6) aNil))))) cNx) panD
      (fun j t env => ∃ a6, env = [some (rowD y), some (.lst t), some (.lst ((pansL y).map panD)), some (.str bb), a4, some (panD p), a6] ∧ t.length ≤ 900 + j) (fun t q => t ++ if cP p q = true then [tP bb p q] else []) (pansL y) 0 s _ ⟨a6, rfl, by omega⟩
      (fun q hq j t env hj ⟨a6, e, ht⟩ => by
        subst e
        have hc : (tOr' (tB' (eBin (dIsN false) (eVar 5) (eC .non))) (tB' (eBin dNe (eVar 5) (eVar 6)))) [some (rowD y), some (.lst t), some (.lst ((pansL y).map panD)), some (.str bb), a4, some (panD p), some (panD q)] = pure (cP p q) := ev_tOr (ev_tB (ev_bin (x := panD p) (ev_var rfl) ev_c (dIsN_pan p))) (fun _ => ev_tB (ev_bin (x := panD p) (ev_var rfl) (ev_var rfl) (dNe_pan p q ((pansL_ok hp).ok o) ((pansL_ok hq).ok o))))
        cases h : cP p q with
        | true =>
          rw [h] at hc
          exact ⟨_, _, rfl, st_ift hc rfl (st_app (y := tP bb p q) (ev_tup (ev_cons (ev_var rfl) (ev_cons (ev_var rfl) (ev_cons (ev_var rfl) ev_nil))) rfl) rfl (by omega)), _, rfl, by rw [if_pos rfl, List.length_append]; simp; omega⟩
        | false =>
          rw [h] at hc
          exact ⟨_, _, rfl, st_iff hc rfl st_nx, _, by rw [if_neg (by decide), List.append_nil]; rfl, by rw [if_neg (by decide), List.append_nil]; omega⟩)
    refine ⟨e', h1, a6', ?_⟩
    rw [h2, fold_flat, if_flat]
    rfl
  have mid : ∀ (bb : Str) (s : List D) (hs : s.length ≤ 300) (a4 a5 a6 : Option D), ∃ e', forGo (gN 5) (cFor (iOn dIt (eVar 2)) (gN 6) (cIf (tOr' (tB' (eBin (dIsN false) (eVar 5) (eC .non))) (tB' (eBin dNe (eVar 5) (eVar 6)))) (cApp 1 (eTup (aCons (eVar 3) (aCons (eVar 5) (aCons (eVar 6) aNil))))) cNx)) ((pansL y).map panD) [some (rowD y), some (.lst s), some (.lst ((pansL y).map panD)), some (.str bb), a4, a5, a6] = pure (.nx e') ∧ ∃ a5 a6, e' = [some (rowD y), some (.lst (s ++ atP y bb)), some (.lst ((pansL y).map panD)), some (.str bb), a4, a5, a6] := by
    intro bb s hs a4 a5 a6
    obtain ⟨e', h1, a5', a6', h2, h3⟩ := for_foldT (tg := gN 5) (b := cFor (iOn dIt (eVar 2)) (gN 6) (cIf (tOr' (tB' (eBin (dIsN false) (eVar 5) (eC .non))) (tB' (eBin dNe (eVar 5) (eVar 6)))) (cApp 1 (eTup (aCons (eVar 3) (aCons (eVar 5) (aCons (eVar 6) aNil))))) cNx)) panD
      (fun j t env => ∃ a5 a6, env = [some (rowD y), some (.lst t), some (.lst ((pansL y).map panD)), some (.str bb), a4, a5, a6] ∧ t.length ≤ 300 + j * 9) (fun t p => t ++ rowP y bb p) (pansL y) 0 s _ ⟨a5, a6, rfl, by omega⟩
      (fun p hp j t env hj ⟨a5, a6, e, ht⟩ => by
        subst e
        obtain ⟨e2, g1, a6', g2⟩ := inner p hp bb t (by omega) a4 a6
        refine ⟨_, _, rfl, st_for (ev_iOn (ev_var rfl) rfl) g1, _, _, g2, ?_⟩
        have := rowP_len (b := bb) o p
        rw [List.length_append]; omega)
    refine ⟨e', h1, a5', a6', ?_⟩
    rw [h2, fold_flat]
    rfl
  obtain ⟨e', h1, a3, a4, a5, a6, h2, h3⟩ := for_foldT (tg := gT (gsCons (gN 3) (gsCons (gN 4) gsNil))) (b := cFor (iOn dIt (eVar 2)) (gN 5) (cFor (iOn dIt (eVar 2)) (gN 6) (cIf (tOr' (tB' (eBin (dIsN false) (eVar 5) (eC .non))) (tB' (eBin dNe (eVar 5) (eVar 6)))) (cApp 1 (eTup (aCons (eVar 3) (aCons (eVar 5) (aCons (eVar 6) aNil))))) cNx))) beamD
    (fun j s env => ∃ a3 a4 a5 a6, env = [some (rowD y), some (.lst s), some (.lst ((pansL y).map panD)), a3, a4, a5, a6] ∧ s.length ≤ j * 81) (fun s p => s ++ atP y p.1) y.bs 0 [] [some (rowD y), some (.lst []), some (.lst ((pansL y).map panD)), none, none, none, none] ⟨_, _, _, _, rfl, by simp⟩
    (fun p hp j s env hj ⟨a3, a4, a5, a6, e, hs⟩ => by
      subst e
      obtain ⟨e2, g1, a5', a6', g2⟩ := mid p.1 s (by omega) (some (.int p.2)) a5 a6
      exact ⟨_, _, rfl, st_for (ev_iOn (ev_var rfl) rfl) g1, _, _, _, _, g2, fold_len (n := 81) hs (atP_len o)⟩)
  subst h2
  refine st_seq (st_for (ev_iOn (ev_bin (ev_var rfl) ev_c rfl) rfl) h1) (st_ret (ev_var ?_))
  rw [fold_flat, List.nil_append]
  rfl
theorem allP_plain (o : YdOk y) : Plain (.lst (allP y)) 60000 2 := by
  refine (Plain.lst (w := 195) (e := 1) fun z hz => ?_).mono (by have := allP_len o; omega) (Nat.le_refl _)
  obtain ⟨p, hp, h1⟩ := List.mem_flatMap.mp hz
  obtain ⟨q, hq, h2⟩ := List.mem_flatMap.mp h1
  obtain ⟨r, hr, h3⟩ := List.mem_map.mp h2
  subst h3
  refine (Plain.tup (w := 64) (e := 0) fun w hw => ?_).mono (by simp) (by decide)
  simp only [List.mem_cons, List.not_mem_nil, or_false] at hw
  rcases hw with e | e | e <;> subst e
  · exact (bn_name o (List.mem_map_of_mem hp)).plain
  · exact pan_plain o (pansL_ok hq)
  · exact pan_plain o (pansL_ok (List.mem_filter.mp hr).1)
def badAt (y : Yd) : List D → Nat → Option Nat
  | [], _ => none
  | x :: xs, i => if rB y x = true then badAt y xs (i + 1) else some i
theorem badAt_filter (y : Yd) : ∀ (xs : List D) (i : Nat), badAt y xs i = (((List.range xs.length).filter fun k => !rB y (xs.getD k .non)).head?).map (i + ·)
  | [], i => rfl
  | x :: xs, i => by
    rw [List.length_cons, List.range_succ_eq_map, List.filter_cons]
    show (if rB y x = true then badAt y xs (i + 1) else some i) = _
    rw [List.getD_cons_zero]
    cases h : rB y x with
    | false => rfl
    | true =>
      rw [if_pos rfl, badAt_filter y xs (i + 1)]
      show _ = ((((List.range xs.length).map Nat.succ).filter fun k => !rB y ((x :: xs).getD k .non)).head?).map (i + ·)
      rw [List.filter_map, List.head?_map, Option.map_map]
      have e : (fun k => !rB y ((x :: xs).getD k .non)) ∘ Nat.succ = fun k => !rB y (xs.getD k .non) := by
        funext k
        show (!rB y ((x :: xs).getD (k + 1) .non)) = _
        rw [List.getD_cons_succ]
      rw [e]
      congr 1
      funext k
      show i + 1 + k = i + (k + 1)
      omega
abbrev bY : Ev → MY Ctl := yIf (tNot' (tB' (eCall 2 m_is_row (aCons (eVar 0) (aCons (eVar 3) aNil))))) (yRaise "NoRow" "at" (eVar 2)) yNx
theorem log_go (o : YdOk y) : ∀ (xs : List D) (i : Nat) (d : D) (a2 a3 : Option D), (∀ x ∈ xs, OddI x) → ∃ e', yForGo (gT (gsCons (gN 2) (gsCons (gN 3) gsNil))) bY (enumD i xs) [some (courtD y), some d, a2, a3] = match badAt y xs i with
    | none => pure (.nx e')
    | some k => excY (.exc "NoRow" [("at", .int k)])
  | [], i, d, a2, a3, _ => ⟨_, rfl⟩
  | x :: xs, i, d, a2, a3, h => by
    have hc : (tNot' (tB' (eCall 2 m_is_row (aCons (eVar 0) (aCons (eVar 3) aNil))))) [some (courtD y), some d, some (.int i), some x] = pure (!rB y x) := ev_tNot (ev_tB (ev_call (ev_cons (ev_var rfl) (ev_cons (ev_var rfl) ev_nil)) rfl (is_row_any o (h x (List.mem_cons_self ..)))))
    obtain ⟨e', he⟩ := log_go o xs (i + 1) d (some (.int i)) (some x) fun z hz => h z (List.mem_cons_of_mem _ hz)
    refine ⟨e', ?_⟩
    show (bY [some (courtD y), some d, some (.int i), some x] >>= fun (c : Ctl) => match c with
      | .nx e' => yForGo (gT (gsCons (gN 2) (gsCons (gN 3) gsNil))) bY (enumD (i + 1) xs) e'
      | .cont e' => yForGo (gT (gsCons (gN 2) (gsCons (gN 3) gsNil))) bY (enumD (i + 1) xs) e'
      | .brk e' => pure (.nx e')
      | .ret y => pure (.ret y)) = _
    rw [show bY [some (courtD y), some d, some (.int i), some x] = _ from zIf hc]
    show _ = (match (if rB y x = true then badAt y xs (i + 1) else some i) with
      | none => pure (Ctl.nx e')
      | some k => excY (.exc "NoRow" [("at", .int k)]))
    cases hb : rB y x with
    | true => exact he
    | false =>
      show (yRaise "NoRow" "at" (eVar 2) [some (courtD y), some d, some (.int i), some x] >>= _) = _
      rw [zRaise (ev_var rfl)]
      rfl
theorem need_log_any (o : YdOk y) {xs : List D} (h : ∀ x ∈ xs, OddI x) {d : D} (hd : SeqOf xs d) : my_need_log [courtD y, d] = match badAt y xs 0 with
    | none => pure .non
    | some k => excY (.exc "NoRow" [("at", .int k)]) := by
  obtain ⟨e', he⟩ := log_go o xs 0 d none none h
  have hc : (tNot' (tB' (eUn (dIsi fun x => isLst x || isTup x) (eVar 1)))) [some (courtD y), some d, none, none] = pure false := ev_tNot (t := true) (ev_tB (ev_un (ev_var rfl) hd.si))
  have h1 : (yIf (tNot' (tB' (eUn (dIsi fun x => isLst x || isTup x) (eVar 1)))) (yRaise "NoRow" "at" (eC (.int 0))) yNx) [some (courtD y), some d, none, none] = pure (.nx [some (courtD y), some d, none, none]) := zIf hc
  have h2 : by_need_log [some (courtD y), some d, none, none] = yForGo (gT (gsCons (gN 2) (gsCons (gN 3) gsNil))) bY (enumD 0 xs) [some (courtD y), some d, none, none] := by
    refine (zSeq h1).trans ?_
    unfold yFor
    rw [show iOns dEnum (aCons (eVar 1) aNil) [some (courtD y), some d, none, none] = pure (enumD 0 xs) from ev_iOns (ev_cons (ev_var rfl) ev_nil) hd.en]
    rfl
  rw [he] at h2
  cases q : badAt y xs 0 with
  | none =>
    rw [q] at h2
    exact zDef h2
  | some k =>
    rw [q] at h2
    exact zDefX h2
theorem need_log_no {d : D} (ht : (tyN d).isSome = true) (hn : (isLst d || isTup d) = false) : my_need_log [courtD y, d] = excY (.exc "NoRow" [("at", .int 0)]) := by
  have hc : (tNot' (tB' (eUn (dIsi fun x => isLst x || isTup x) (eVar 1)))) [some (courtD y), some d, none, none] = pure true := ev_tNot (t := false) (ev_tB (ev_un (ev_var rfl) (by rw [isi_of ht, hn])))
  refine zDefX (zSeqX ((zIf hc).trans ?_))
  exact zRaise ev_c
theorem need_log_good (o : YdOk y) {xs : List D} (h : ∀ x ∈ xs, OddI x) (hb : badAt y xs 0 = none) {d : D} (hd : SeqOf xs d) : m_need_log [courtD y, d] = pure .non := by
  have go : ∀ (xs : List D) (i : Nat) (a2 a3 : Option D), (∀ x ∈ xs, OddI x) → badAt y xs i = none → ∃ e', forGo (gT (gsCons (gN 2) (gsCons (gN 3) gsNil))) (cIf (tNot' (tB' (eCall 2 m_is_row (aCons (eVar 0) (aCons (eVar 3) aNil))))) cNever cNx) (enumD i xs) [some (courtD y), some d, a2, a3] = pure (.nx e') := by
    intro xs
    induction xs with
    | nil => exact fun i a2 a3 _ _ => ⟨_, rfl⟩
    | cons x xs ih =>
      intro i a2 a3 h hb
      have hx : rB y x = true := by
        cases q : rB y x with
        | true => rfl
        | false =>
          have hb : (if rB y x = true then badAt y xs (i + 1) else some i) = none := hb
          rw [q] at hb
          cases hb
      have hb : (if rB y x = true then badAt y xs (i + 1) else some i) = none := hb
      rw [hx, if_pos rfl] at hb
      obtain ⟨e', he⟩ := ih (i + 1) (some (.int i)) (some x) (fun z hz => h z (List.mem_cons_of_mem _ hz)) hb
      refine ⟨e', ?_⟩
      have hc : (tNot' (tB' (eCall 2 m_is_row (aCons (eVar 0) (aCons (eVar 3) aNil))))) [some (courtD y), some d, some (.int i), some x] = pure false := ev_tNot (t := true) (ev_tB (ev_call (ev_cons (ev_var rfl) (ev_cons (ev_var rfl) ev_nil)) rfl (by rw [is_row_any o (h x (List.mem_cons_self ..)), hx])))
      show forGo _ _ (D.tup [.int i, x] :: enumD (i + 1) xs) _ = _
      exact (go_nx rfl (st_iff hc rfl st_nx)).trans he
  obtain ⟨e', he⟩ := go xs 0 none none h hb
  exact def_nx (st_seq (st_iff (t := false) (ev_tNot (t := true) (ev_tB (ev_un (ev_var rfl) hd.si))) rfl st_nx) (st_for (ev_iOns (ev_cons (ev_var rfl) ev_nil) hd.en) he))
theorem callV_eq {env : Ev} {i : Nat} {LM : LMYs} {x : Str} {ws : List D} {m : List D → MY D} (h : env[i]? = some (some (.lamc x ws))) (hx : LM x = some m) : yCallV i LM env = m ws := by
  unfold yCallV
  rw [h]
  show (match LM x with
    | some m => m ws
    | none => badY) = _
  rw [hx]
theorem tryK_ok {i j : Nat} {tab : List Str} {m : Ev → MY D} {env : Ev} {z : D} (h : m env = pure z) : cTry i j tab m env = pure (.nx env) := by
  funext s
  unfold cTry
  rw [h]
  rfl
theorem tryK_exc {i j : Nat} {tab : List Str} {m : Ev → MY D} {env : Ev} {c : Str} {fs : List (Str × D)} (h : m env = excY (.exc c fs)) (hc : c ∈ tab) : cTry i j tab m env = pure (.nx (((env.set j (some (.exc c fs))).set i (some (.exc c fs))).set j none)) := by
  funext s
  unfold cTry
  rw [h]
  show (if c ∈ tab then _ else _) = _
  rw [if_pos hc]
  rfl
theorem refused_ok (lm : LMYs) {x : Str} {ws : List D} {m : List D → MY D} (hx : lm x = some m) {z : D} (hm : m ws = pure z) : m__law_refusedC lm [.lamc x ws] = pure .non :=
  def_ret (st_seq (st_set (x := .non) ev_c) (st_seq (tryK_ok ((callV_eq rfl hx).trans hm)) (st_seqr (st_ift (t := true) (ev_tB (ev_bin (ev_var rfl) ev_c rfl)) rfl (st_ret ev_c)))))
theorem refused_exc (lm : LMYs) {x : Str} {ws : List D} {m : List D → MY D} (hx : lm x = some m) {k : Int} (hm : m ws = excY (.exc "NoRow" [("at", .int k)])) : m__law_refusedC lm [.lamc x ws] = pure (.int k) := by
  have hxf : ∀ {env : Ev}, env[1]? = some (some (.exc "NoRow" [("at", .int k)])) → eXf "NoRow" "at" (eVar 1) env = pure (.int k) := fun h => by
    unfold eXf
    rw [ev_var h, pure_bind']
    rfl
  refine def_ret (st_seq (st_set (x := .non) ev_c) (st_seq (tryK_exc ((callV_eq rfl hx).trans hm) (by decide)) (st_seq (st_iff (t := false) (ev_tB (ev_bin (ev_var rfl) ev_c rfl)) rfl st_nx) (st_seq (st_iff (t := false) ?_ rfl st_nx) (st_ret (hxf rfl))))))
  refine ev_tOr (t1 := false) (t2 := false) (ev_tNot (t := true) (ev_tB (ev_un (ev_var rfl) rfl))) fun _ => ev_tOr (t1 := false) (t2 := false) (ev_tB (ev_un (ev_var rfl) rfl)) fun _ => ev_tB (ev_un (hxf rfl) rfl)
end
end Cm
end
section
set_option maxHeartbeats 400000
namespace Cm
open PySem PySem.Spec PyProof.Rows L2 Mir
theorem weighing_dr {y : Yd} (o : YdOk y) : Dr 3 (m__law_weighing [.st, rowD y]) fun x => ∃ w : Wg, WgOk y w ∧ x = wgD w := by
  have hz : (1000 : Nat) ≤ sizeLine := by decide
  have n8 := o.n8
  have b1 := o.b1
  have b3 := o.b3
  have lns : (namesD y.ns).length = y.ns.length := List.length_map ..
  have lbs : (beamsD y.bs).length = y.bs.length := List.length_map ..
  refine dr_def ?_
  refine dr_set (k1 := 1) (k2 := 2) (dr_pick (xs := D.non :: namesD y.ns) (by simp) (by simp; omega) (ev_bin (ev_lst (ev_cons ev_c ev_nil) rfl) (ev_bin (ev_var rfl) ev_c rfl) (dAdd_pans n8)) rfl) ?_ (by decide)
  intro x hx
  obtain ⟨p, e, hp⟩ := pans_mem hx
  subst e
  refine dr_seq (st_set (x := .lst (((none :: y.ns.map some).filter fun q => decide (q = none) || !decide (q = p)).map panD)) (ev_lc (ds := (none :: y.ns.map some).map panD) (ev_iOn (ev_bin (ev_lst (ev_cons ev_c ev_nil) rfl) (ev_bin (ev_var rfl) ev_c rfl) (dAdd_pans n8)) (by rw [← pans_map]; rfl)) (lc_filterT panD panD (fun q => decide (q = none) || !decide (q = p)) (none :: y.ns.map some) [] (fun q hq => ⟨_, rfl, ev_tOr (ev_tB (ev_bin (x := panD q) (ev_var rfl) ev_c (dIsN_pan q))) (fun _ => ev_tB (ev_bin (x := panD q) (ev_var rfl) (ev_var rfl) (dNe_pan q p (fun z e => ?_) (fun z e => (o.nk z (hp z e)).ok)))), fun _ => ev_var rfl⟩) (by simp; omega)))) ?_
  · subst e
    rcases List.mem_cons.mp hq with e | e
    · cases e
    · obtain ⟨z', hz', e2⟩ := List.mem_map.mp e
      injection e2 with e2
      rw [← e2]
      exact (o.nk z' hz').ok
  generalize hqs : ((none :: y.ns.map some).filter fun q => decide (q = none) || !decide (q = p)) = qs
  have hn : none ∈ qs := by
    rw [← hqs]
    exact List.mem_filter.mpr ⟨List.mem_cons_self .., by simp⟩
  have hl : qs.length ≤ 9 := by
    rw [← hqs]
    refine Nat.le_trans (List.length_filter_le ..) ?_
    simp; omega
  refine dr_ret ?_
  refine dr_tup (A := fun xs => ∃ b q, b ∈ y.bn ∧ q ∈ qs ∧ xs = [.str b, panD p, panD q]) ?_ (fun xs ⟨b, q, hb, hq, e⟩ => ?_)
  · refine dr_cons (k1 := 1) (k2 := 1) (P1 := fun x => ∃ b ∈ y.bn, x = .str b) (A2 := fun xs => ∃ q ∈ qs, xs = [panD p, panD q]) ?_ (fun _ _ => ?_) (fun x xs ⟨b, hb, e⟩ ⟨q, hq, e2⟩ => ⟨b, q, hb, hq, by rw [e, e2]⟩) (by decide)
    · refine dr_binR (dr_pick (xs := beamsD y.bs) (by intro e; rw [e] at lbs; simp at lbs; omega) (by omega) (ev_bin (ev_var rfl) ev_c rfl) rfl) ev_c fun x hx => ?_
      obtain ⟨b, hb, rfl⟩ := List.mem_map.mp hx
      exact ⟨.str b.1, rfl, b.1, List.mem_map.mpr ⟨b, hb, rfl⟩, rfl⟩
    · refine dr_consP (ev_var rfl) (dr_cons (k1 := 1) (k2 := 0) (A2 := fun xs => xs = []) (A := fun xs => ∃ q ∈ qs, xs = [panD q]) (dr_pick (xs := qs.map panD) (by intro e; rw [List.map_eq_nil_iff] at e; rw [e] at hn; cases hn) (by rw [List.length_map]; omega) (ev_var rfl) rfl) (fun _ _ => dr_nil rfl) (fun x xs hx e2 => ?_) (by decide)) (fun xs ⟨q, hq, e⟩ => ⟨q, hq, by rw [e]⟩)
      obtain ⟨q, hq, rfl⟩ := List.mem_map.mp hx
      exact ⟨q, hq, by rw [e2]⟩
  · subst e
    rw [← hqs] at hq
    obtain ⟨h1, h2⟩ := List.mem_filter.mp hq
    have hq' : ∀ z, q = some z → z ∈ y.ns := fun z e => by
      subst e
      rcases List.mem_cons.mp h1 with e | e
      · cases e
      · obtain ⟨z', hz', e2⟩ := List.mem_map.mp e
        injection e2 with e2
        rw [← e2]; exact hz'
    refine ⟨rfl, ⟨b, p, q⟩, ⟨hb, hp, hq', ?_⟩, rfl⟩
    by_cases e : p = none
    · exact .inl e
    · refine .inr fun e2 => ?_
      have e3 : p = q := e2
      subst e3
      rw [Bool.or_eq_true] at h2
      rcases h2 with h2 | h2
      · exact e (of_decide_eq_true h2)
      · simp at h2
theorem dr_par2 {ma mb : Ev → M D} {env : Ev} {i j k1 k2 k : Nat} {P1 P2 : D → Prop} {b : Ev → M Ctl} {R : Ctl → Prop} {k3 : Nat} (h1 : Dr k1 (ma env) P1) (h2 : Dr k2 (mb env) P2) (h3 : ∀ x y, P1 x → P2 y → Dr k3 (b ((env.set i (some x)).set j (some y))) R) (hk : k1 + (k2 + k3) ≤ k) : Dr k (cSeq (cPar2 i j ma mb) b env) R := by
  have e : cSeq (cPar2 i j ma mb) b env = ma env >>= fun x => mb env >>= fun y => b ((env.set i (some x)).set j (some y)) := by
    unfold cSeq cPar2
    rw [bind_assoc']
    congr 1
    funext x
    rw [bind_assoc']
    rfl
  rw [e]
  exact Dr.bind h1 (fun x px => Dr.bind h2 (fun y py => h3 x y px py) (Nat.le_refl _)) hk
theorem lst_nil {xs : List D} {w e : Nat} (h : Plain (.lst xs) w e) (he : e ≤ 64) (neg : Bool) : dEqB neg (.lst xs) (.lst []) = pure (.bl (if neg = true then !decide (xs = []) else decide (xs = []))) := by
  have s0 : SeqAt.shaped (.list []) = true := by simp [SeqAt.shaped, PyData.canLay0, PyData.canLayAll0, PyData.depth, PyData.depthAll]
  obtain ⟨p, a1, a2, a3, a4, a5, a6, a7⟩ := h
  rw [dEqB_P rfl, dEqP_val a1 (q := .list []) rfl (shaped_of a3 (by omega)) s0]
  cases xs with
  | nil =>
    cases a1
    simp [PyData.eqv, PyData.eqvAll]
  | cons x xs =>
    rw [toPy, Option.map_eq_some_iff] at a1
    obtain ⟨ps, b1, b2⟩ := a1
    subst b2
    cases ps with
    | nil =>
      simp only [toPys] at b1
      split at b1 <;> cases b1
    | cons q ps => simp [PyData.eqv, PyData.eqvAll]
theorem dr_range {m : Ev → M D} {env : Ev} {k lo hi : Nat} (hh : hi ≤ 1000) (h : Dr k (m env) fun x => ∃ n : Nat, lo ≤ n ∧ n ≤ hi ∧ x = .int n) : Dr k (iRange (aCons m aNil) env) fun ds => ∃ n : Nat, lo ≤ n ∧ n ≤ hi ∧ ds = (List.range n).map fun (k : Nat) => D.int (0 + (k : Int)) := by
  unfold iRange
  refine Dr.bind (k1 := k) (k2 := 0) (P := fun xs => ∃ n : Nat, lo ≤ n ∧ n ≤ hi ∧ xs = [.int n]) (dr_cons (k1 := k) (k2 := 0) (A2 := fun xs => xs = []) h (fun _ _ => dr_nil rfl) (fun x xs ⟨n, a, b, e⟩ e2 => ⟨n, a, b, by rw [e, e2]⟩) (by omega)) (fun xs ⟨n, a, b, e⟩ => ?_) (by omega)
  subst e
  exact dr_eq (range_eq n (by omega)) ⟨n, a, b, rfl⟩
section
variable {y : Yd} {P : D → Prop} {R : Ctl → Prop} {env : Ev} {k k1 k2 : Nat}
theorem dr_ift {n : Ev → M Bool} {a rest : Ev → M Ctl} (h : n env = pure true) (h2 : Dr k (a env) fun c => ∃ x, c = .ret x ∧ P x) : Dr k (cSeq (cIf n a cNx) rest env) fun c => ∃ x, c = .ret x ∧ P x := by
  have e : cIf n a cNx env = a env := st_ift h rfl rfl
  unfold cSeq
  rw [e]
  refine Dr.bind (k1 := k) (k2 := 0) h2 (fun c ⟨x, ec, p⟩ => ?_) (by omega)
  subst ec
  exact Dr.pure ⟨x, rfl, p⟩
theorem dr_iff {n : Ev → M Bool} {a rest : Ev → M Ctl} (h : n env = pure false) (h2 : Dr k (rest env) R) : Dr k (cSeq (cIf n a cNx) rest env) R := dr_seq (st_iff h rfl st_nx) h2
theorem dr_eifD {n : Ev → M Bool} {ma mb : Ev → M D} (h : Dr k1 (n env) fun _ => True) (h1 : Dr k2 (ma env) P) (h2 : Dr k2 (mb env) P) (hk : k1 + k2 ≤ k) : Dr k (eIf n ma mb env) P := by
  unfold eIf
  refine Dr.bind h (fun t _ => ?_) hk
  cases t with
  | true => exact h1
  | false => exact h2
theorem dr_nextEq {s : Nat} {n i : Int} (h0 : 0 < n) (h1 : n < 1000000) (hs : env[s]? = some (some .st)) : Dr 1 (tB' (eBin dEq (eCall 2 m__law_next (aCons (eVar s) (aCons (eC (.int n)) aNil))) (eC (.int i))) env) fun _ => True := by
  unfold tB'
  refine Dr.bind (k1 := 1) (k2 := 0) (P := fun x => ∃ b, x = .bl b) (dr_binR (dr_call (ev_cons (ev_var hs) (ev_cons ev_c ev_nil)) rfl (next_dr h0 (by omega))) ev_c fun x ⟨j, e, _⟩ => ?_) (fun x ⟨b, e⟩ => ?_) (by omega)
  · subst e
    exact ⟨_, dEq_int _ _, _, rfl⟩
  · subst e
    exact Dr.pure trivial
theorem fl_str {s : Str} (h : PyData.strOk s = true) (hl : s.cps.size ≤ 64) : Fl (.str s) := ⟨rfl, Plain.str h hl, rfl⟩
theorem fl_name {s : Str} (h : NameOk s) : Fl (.str s) := ⟨rfl, h.plain, rfl⟩
theorem fl_panD (o : YdOk y) {p : Option Str} (h : PanOk y p) : Fl (panD p) := ⟨ty_pan p, pan_plain o h, by cases p <;> rfl⟩
theorem fl_word {u : Str} (h : u ∈ words3) : Fl (.str u) := ⟨rfl, word_plain h, rfl⟩
theorem fl_non : Fl .non := ⟨rfl, Plain.non, rfl⟩
theorem kc_lst {zs : List D} (h : ∀ z ∈ zs, Fl z) (hl : zs.length ≤ 9) : Kc (.lst zs) := by
  have p : Plain (.lst zs) 3000 2 := (Plain.lst fun z hz => (h z hz).pl).mono (by omega) (by decide)
  exact ⟨rfl, p.shows, .inr p⟩
theorem kc_tup {zs : List D} (h : ∀ z ∈ zs, Fl z) (hl : zs.length ≤ 9) : Kc (.tup zs) := by
  have p : Plain (.tup zs) 3000 2 := (Plain.tup fun z hz => (h z hz).pl).mono (by omega) (by decide)
  exact ⟨rfl, p.shows, .inr p⟩
theorem odd_fl {z : D} (h : Fl z) (hr : okR z = true) (n1 : ∀ xs, z ≠ .tup xs) (n2 : ∀ xs, z ≠ .rot xs) : OddI z := odd_of h.ty h.pl (by decide) (by decide) hr n1 n2
theorem cut_mem {gs : List D} {lo hi : Option Int} {z : D} (h : z ∈ cutL gs lo hi) : z ∈ gs := List.mem_of_mem_drop (List.mem_of_mem_take h)
theorem cut_len (gs : List D) (lo hi : Option Int) : (cutL gs lo hi).length ≤ gs.length := by
  unfold cutL
  rw [List.length_take, List.length_drop]; omega
theorem lc_bn7 {e0 : Ev} {l : List (Str × Int)} (h : 7 < e0.length) (hl : l.length ≤ 1000) : lcGo e0 (gN 7) nYes (eBin dAt (eVar 7) (eC (.int 0))) (beamsD l) [] = pure (namesD (l.map (·.1))) := by
  have hz : (1000 : Nat) ≤ sizeLine := by decide
  have := lc_mapT (e0 := e0) (tg := gN 7) (n := nYes) (me := eBin dAt (eVar 7) (eC (.int 0))) beamD (fun p : Str × Int => D.str p.1) l [] (fun p _ => ⟨_, rfl, rfl, ev_bin (x := beamD p) (ev_var (by rw [List.getElem?_set_self (by omega)])) ev_c rfl⟩) (by rw [List.length_nil]; omega)
  rw [List.nil_append] at this
  rw [this]
  unfold namesD
  rw [List.map_map]
  rfl
theorem tup_add {as bs : List D} (h : as.length + bs.length ≤ 1000) : dAdd (.tup as) (.tup bs) = pure (.tup (as ++ bs)) := by
  have hz : (1000 : Nat) ≤ sizeLine := by decide
  show guardB _ _ = _
  rw [guard_of (decide_eq_true (by omega))]
structure Good (gs : List D) : Prop where
  l : gs.length = 3 ∨ gs.length = 4
  f : ∀ z ∈ gs, Fl z
theorem Good.odd {gs : List D} (g : Good gs) : OddI (.tup gs) := odd_flat g.f (by have := g.l; omega)
def someL (b n : Str) : List D := [.non, .str "", .str "qqqqqqqq", .int 5, .bl true, .lst [.str "a"], .tup [.str "a"], .dic [], .str b, .str n, .str "left", .str "even", .str "lefts", .str "-", .int 0]
theorem some_kc {b n : Str} (hb : NameOk b) (hn : NameOk n) : ∀ c ∈ someL b n, Kc c := fun c h => by
  have ha : ∀ z ∈ ([.str "a"] : List D), Fl z := fun z hz => by
    rw [List.mem_singleton.mp hz]
    exact fl_str (by decide +kernel) (by decide)
  simp only [someL, List.mem_cons, List.not_mem_nil, or_false] at h
  rcases h with e | e | e | e | e | e | e | e | e | e | e | e | e | e | e <;> subst e
  · exact fl_non.kc
  · exact (fl_str (by decide +kernel) (by decide)).kc
  · exact (fl_str (by decide +kernel) (by decide)).kc
  · exact (Fl.mk rfl (Plain.int (by decide)) rfl).kc
  · exact (Fl.mk rfl (Plain.bl true) rfl).kc
  · exact kc_lst ha (by decide)
  · exact kc_tup ha (by decide)
  · exact ⟨rfl, Shows.dic0.mono (by decide) (by decide), .inl rfl⟩
  · exact (fl_name hb).kc
  · exact (fl_name hn).kc
  · exact (fl_str (by decide +kernel) (by decide)).kc
  · exact (fl_str (by decide +kernel) (by decide)).kc
  · exact (fl_str (by decide +kernel) (by decide)).kc
  · exact (fl_str (by decide +kernel) (by decide)).kc
  · exact (Fl.mk rfl (Plain.int (by decide)) rfl).kc
theorem odd_mid {gs A B : List D} {c : D} (g : Good gs) (hc : Kc c) (ha : ∀ z ∈ A, z ∈ gs) (hb : ∀ z ∈ B, z ∈ gs) (la : A.length ≤ 4) (lb : B.length ≤ 4) : OddI (.tup (A ++ [c] ++ B)) := by
  refine odd_tup hc (fun z hz => ?_) (by simp; omega)
  simp only [List.mem_append, List.mem_singleton] at hz
  rcases hz with (h | h) | h
  · exact .inl (g.f z (ha z h))
  · exact .inr h
  · exact .inl (g.f z (hb z h))
theorem at_zero {z : D} {xs : List D} : dAt (.lst (z :: xs)) (.int 0) = pure z := by
  show (match atI (z :: xs) ((0 : Nat) : Int) with
    | some z => pure z
    | none => bad : M D) = _
  rw [atI_nat (show (z :: xs)[0]? = some z from rfl)]
theorem at_one {z w : D} {xs : List D} : dAt (.tup (z :: w :: xs)) (.int 1) = pure w := by
  show (match atI (z :: w :: xs) ((1 : Nat) : Int) with
    | some z => pure z
    | none => bad : M D) = _
  rw [atI_nat (show (z :: w :: xs)[1]? = some w from rfl)]
theorem odd_dr (o : YdOk y) {gs : List D} (g : Good gs) : Dr 4 (m__law_odd [.st, rowD y, .tup gs]) OddI := by
  have hz : (1000 : Nat) ≤ sizeLine := by decide
  have n8 := o.n8
  have b3 := o.b3
  have gl := g.l
  obtain ⟨a, b, c, t, hg, ht⟩ : ∃ a b c t, gs = a :: b :: c :: t ∧ t.length ≤ 1 := by
    match gs, gl with
    | [a, b, c], _ => exact ⟨a, b, c, [], rfl, by decide⟩
    | [a, b, c, d], _ => exact ⟨a, b, c, [d], rfl, Nat.le_refl _⟩
    | [], h => exact absurd h (by decide)
    | [_], h => exact absurd h (by simp)
    | [_, _], h => exact absurd h (by simp)
    | _ :: _ :: _ :: _ :: _ :: _, h => simp at h
  obtain ⟨p0, ps, hp⟩ : ∃ p0 ps, y.bs = p0 :: ps := by
    have := o.b1
    cases h : y.bs with
    | nil => rw [h] at this; simp at this
    | cons p ps => exact ⟨p, ps, rfl⟩
  obtain ⟨n0, ms, hn⟩ : ∃ n0 ms, y.ns = n0 :: ms := by
    have := o.n1
    cases h : y.ns with
    | nil => rw [h] at this; simp at this
    | cons p ps => exact ⟨p, ps, rfl⟩
  have kb : NameOk p0.1 := bn_name o (b := p0.1) (by unfold Yd.bn; rw [hp]; exact List.mem_cons_self ..)
  have kn : NameOk n0 := o.nk n0 (by rw [hn]; exact List.mem_cons_self ..)
  refine dr_def ?_
  refine dr_par2 (k1 := 1) (k2 := 1) (k3 := 2) (P1 := fun x => ∃ i : Int, x = .int i) (P2 := fun x => ∃ i : Int, x = .int i) ?_ ?_ (fun w at_ ⟨i, ei⟩ ⟨j, ej⟩ => ?_) (by decide)
  · exact (dr_next (n := 8) (by decide) (by decide) ev_c rfl).imp (by decide) fun x ⟨i, e, _⟩ => ⟨i, e⟩
  · exact (dr_next (m := eUn dLen (eVar 2)) (n := (gs.length : Int)) (by omega) (by omega) (ev_un (x := .tup gs) (ev_var rfl) rfl) rfl).imp (by decide) fun x ⟨i, e, _⟩ => ⟨i, e⟩
  subst ei ej
  refine dr_seq (st_par2 (x := .lst (namesD y.bn)) (y := .lst (D.non :: namesD y.ns)) (ev_lc (ev_iOn (ev_bin (ev_var rfl) ev_c rfl) rfl) (lc_bn7 (show 7 < 10 by decide) (by omega))) (ev_bin (ev_lst (ev_cons ev_c ev_nil) rfl) (ev_bin (ev_var rfl) ev_c rfl) (dAdd_pans n8))) ?_
  refine dr_seq (st_set (x := .lst (someL p0.1 n0)) ?_) ?_
  · refine ev_lst (ev_cons ev_c (ev_cons ev_c (ev_cons ev_c (ev_cons ev_c (ev_cons ev_c (ev_cons (ev_lst (ev_cons ev_c ev_nil) rfl) (ev_cons (ev_tup (ev_cons ev_c ev_nil) rfl) (ev_cons ev_c (ev_cons (ev_bin (ev_var rfl) ev_c ?_) (ev_cons (ev_bin (ev_bin (ev_var rfl) ev_c rfl) ev_c ?_) (ev_cons ev_c (ev_cons ev_c (ev_cons ev_c (ev_cons ev_c (ev_cons ev_c ev_nil))))))))))))))) rfl
    · unfold Yd.bn
      rw [hp]
      exact at_zero
    · rw [hn]
      exact at_zero
  have cutA : ∀ {env : Ev} {hi : Option Int} {mh : Ev → M (Option Int)}, env[2]? = some (some (.tup gs)) → mh env = pure hi → eSl (eVar 2) oNone mh env = pure (.tup (cutL gs none hi)) := fun h h2 => ev_sl (ev_var h) ev_oNone h2 rfl
  have cutB : ∀ {env : Ev} {lo : Option Int} {ml : Ev → M (Option Int)}, env[2]? = some (some (.tup gs)) → ml env = pure lo → eSl (eVar 2) ml oNone env = pure (.tup (cutL gs lo none)) := fun h h2 => ev_sl (ev_var h) h2 ev_oNone rfl
  have l4 : ∀ lo hi, (cutL gs lo hi).length ≤ 4 := fun lo hi => Nat.le_trans (cut_len gs lo hi) (by omega)
  have mid : ∀ {c : D} (A B : List D), A.length ≤ 4 → B.length ≤ 4 → ∃ z, dAdd (.tup (A ++ [c])) (.tup B) = pure z ∧ z = .tup (A ++ [c] ++ B) := fun {c} A B la lb => ⟨_, tup_add (by simp; omega), rfl⟩
  by_cases h4 : i < 4
  · refine dr_ift (ev_tB (ev_bin (ev_var rfl) ev_c (by rw [dLt_int, decide_eq_true h4]))) (dr_ret ?_)
    refine (dr_binR (k := 1) (P1 := fun x => ∃ c, Kc c ∧ x = .tup (cutL gs none (some j) ++ [c])) (dr_binL (cutA rfl (ev_oSome (ev_var rfl))) (dr_tup (A := fun xs => ∃ c, Kc c ∧ xs = [c]) (dr_cons (k1 := 1) (k2 := 0) (P1 := fun x => x ∈ someL p0.1 n0) (A2 := fun xs => xs = []) (dr_pick (by simp [someL]) (by simp [someL]) (ev_var rfl) rfl) (fun _ _ => dr_nil rfl) (fun x xs hx e => ⟨x, some_kc kb kn x hx, by rw [e]⟩) (by decide)) (P := fun x => ∃ c, Kc c ∧ x = .tup [c]) fun xs ⟨c, hc, e⟩ => by
      subst e
      exact ⟨by simp; omega, c, hc, rfl⟩) fun x ⟨c, hc, e⟩ => by
      subst e
      exact ⟨_, tup_add (by have := l4 none (some j); simp; omega), c, hc, rfl⟩) (cutB rfl (ev_oSome (ev_bin (ev_var rfl) ev_c (dAdd_int _ _)))) fun x ⟨c, hc, e⟩ => ?_).imp (by decide) fun _ h => h
    subst e
    exact ⟨_, tup_add (by have := l4 none (some j); have := l4 (some (j + 1)) none; simp; omega), odd_mid g hc (fun z hz => cut_mem hz) (fun z hz => cut_mem hz) (l4 _ _) (l4 _ _)⟩
  refine dr_iff (ev_tB (ev_bin (ev_var rfl) ev_c (by rw [dLt_int, decide_eq_false h4]))) ?_
  by_cases e4 : i = 4
  · refine dr_ift (ev_tB (ev_bin (ev_var rfl) ev_c (by rw [dEq_int, decide_eq_true e4]))) ?_
    have hb : ∀ {env : Ev}, env[2]? = some (some (.tup gs)) → eBin dAt (eVar 2) (eC (.int 1)) env = pure b := fun h => ev_bin (ev_var h) ev_c (by rw [hg]; exact at_one)
    refine dr_eq (st_ret (ev_bin (ev_bin (cutA rfl (ev_oSome ev_c)) (ev_tup (ev_cons (hb rfl) (ev_cons (hb rfl) ev_nil)) rfl) (tup_add (by have := l4 none (some 1); simp; omega))) (cutB rfl (ev_oSome ev_c)) (tup_add (by have := l4 none (some 1); have := l4 (some 3) none; simp; omega)))) ⟨_, rfl, odd_flat (fun z hz => ?_) (by
      have h1 : (cutL gs none (some 1)).length ≤ 1 := by
        unfold cutL
        rw [List.length_take]
        show min (HT.sIx gs.length gs.length (some 1) - 0) _ ≤ 1
        have : HT.sIx gs.length gs.length (some ((1 : Nat) : Int)) = min 1 gs.length := HT.sIx_nat ..
        rw [show (some (1 : Int)) = some ((1 : Nat) : Int) from rfl, this]; omega
      have := l4 (some 3) none
      simp; omega)⟩
    simp only [List.mem_append, List.mem_cons, List.not_mem_nil, or_false] at hz
    have hbg : Fl b := g.f b (by rw [hg]; simp)
    rcases hz with (h | h | h) | h
    · exact g.f z (cut_mem h)
    · rw [h]; exact hbg
    · rw [h]; exact hbg
    · exact g.f z (cut_mem h)
  refine dr_iff (ev_tB (ev_bin (ev_var rfl) ev_c (by rw [dEq_int, decide_eq_false e4]))) ?_
  by_cases e5 : i = 5
  · refine dr_ift (ev_tB (ev_bin (ev_var rfl) ev_c (by rw [dEq_int, decide_eq_true e5]))) (dr_ret ?_)
    refine (dr_binR (k := 1) (P1 := fun x => ∃ c, Kc c ∧ x = .tup (cutL gs none (some 2) ++ [c])) (dr_binL (cutA rfl (ev_oSome ev_c)) (dr_tup (A := fun xs => ∃ c, Kc c ∧ xs = [c]) (dr_cons (k1 := 1) (k2 := 0) (P1 := fun x => x ∈ D.non :: namesD y.ns) (A2 := fun xs => xs = []) (dr_pick (by simp) (by simp; omega) (ev_var rfl) rfl) (fun _ _ => dr_nil rfl) (fun x xs hx e => by
      obtain ⟨p, ep, hp'⟩ := pans_mem hx
      subst ep
      exact ⟨_, (fl_panD o hp').kc, by rw [e]⟩) (by decide)) (P := fun x => ∃ c, Kc c ∧ x = .tup [c]) fun xs ⟨c, hc, e⟩ => by
      subst e
      exact ⟨by simp; omega, c, hc, rfl⟩) fun x ⟨c, hc, e⟩ => by
      subst e
      exact ⟨_, tup_add (by have := l4 none (some 2); simp; omega), c, hc, rfl⟩) (cutB rfl (ev_oSome ev_c)) fun x ⟨c, hc, e⟩ => ?_).imp (by decide) fun _ h => h
    subst e
    exact ⟨_, tup_add (by have := l4 none (some 2); have := l4 (some 3) none; simp; omega), odd_mid g hc (fun z hz => cut_mem hz) (fun z hz => cut_mem hz) (l4 _ _) (l4 _ _)⟩
  refine dr_iff (ev_tB (ev_bin (ev_var rfl) ev_c (by rw [dEq_int, decide_eq_false e5]))) ?_
  have hgd : ∀ {env : Ev}, env[2]? = some (some (.tup gs)) → eVar 2 env = pure (.tup gs) := fun h => ev_var h
  let more : List D := [.lst gs, .tup (cutL gs none (some (-1))), .tup (gs ++ [.non]), .tup (gs ++ [.str "left"]), .tup [], .non, .str "abc", .int 5, .dic [], .tup [.tup gs], .tup gs.reverse, .bl true]
  let last : List D := [.tup (cutL gs none (some 3) ++ [.str "LEFT"]), .tup [.tup (cutL gs none (some 1)), .tup (cutL gs (some 1) none)]]
  refine dr_seq (st_set (x := .lst more) ?_) ?_
  · exact ev_lst (ev_cons (ev_un (hgd rfl) rfl) (ev_cons (cutA rfl (ev_oSome (ev_neg ev_c))) (ev_cons (ev_bin (hgd rfl) (ev_tup (ev_cons ev_c ev_nil) rfl) (tup_add (by simp; omega))) (ev_cons (ev_bin (hgd rfl) (ev_tup (ev_cons ev_c ev_nil) rfl) (tup_add (by simp; omega))) (ev_cons (ev_tup ev_nil rfl) (ev_cons ev_c (ev_cons ev_c (ev_cons ev_c (ev_cons ev_c (ev_cons (ev_tup (ev_cons (hgd rfl) ev_nil) rfl) (ev_cons (ev_un (hgd rfl) rfl) (ev_cons ev_c ev_nil)))))))))))) rfl
  refine dr_ret ((dr_pick (xs := more ++ last) (by simp [more]) (by simp [more, last]) (ev_bin (ev_var rfl) (ev_lst (ev_cons (ev_bin (cutA rfl (ev_oSome ev_c)) (ev_tup (ev_cons ev_c ev_nil) rfl) (tup_add (by have := l4 none (some 3); simp; omega))) (ev_cons (ev_tup (ev_cons (cutA rfl (ev_oSome ev_c)) (ev_cons (cutB rfl (ev_oSome ev_c)) ev_nil)) rfl) ev_nil)) rfl) ?_) rfl).imp (by decide) fun x hx => ?_)
  · rfl
  have f1 : ∀ {xs : List D}, (∀ z ∈ xs, z ∈ gs) → ∀ z ∈ xs, Fl z := fun h z hz => g.f z (h z hz)
  simp only [more, last, List.cons_append, List.nil_append, List.mem_cons, List.not_mem_nil, or_false] at hx
  rcases hx with e | e | e | e | e | e | e | e | e | e | e | e | e | e <;> subst e
  · exact odd_lst g.f (by omega)
  · exact odd_flat (f1 fun z hz => cut_mem hz) (by have := l4 none (some (-1)); omega)
  · exact odd_flat (fun z hz => by
      rcases List.mem_append.mp hz with h | h
      · exact g.f z h
      · rw [List.mem_singleton.mp h]; exact fl_non) (by simp; omega)
  · exact odd_flat (fun z hz => by
      rcases List.mem_append.mp hz with h | h
      · exact g.f z h
      · rw [List.mem_singleton.mp h]; exact fl_str (by decide +kernel) (by decide)) (by simp; omega)
  · exact odd_flat (fun _ h => nomatch h) (by decide)
  · exact odd_fl fl_non rfl (fun _ e => nomatch e) (fun _ e => nomatch e)
  · exact odd_fl (fl_str (by decide +kernel) (by decide)) rfl (fun _ e => nomatch e) (fun _ e => nomatch e)
  · exact odd_fl (Fl.mk rfl (Plain.int (by decide)) rfl) (by decide) (fun _ e => nomatch e) (fun _ e => nomatch e)
  · exact odd_dic0
  · exact odd_tup (c := .tup gs) (kc_tup g.f (by omega)) (fun z hz => .inr (List.mem_singleton.mp hz)) (by simp)
  · exact odd_flat (f1 fun z hz => List.mem_reverse.mp hz) (by rw [List.length_reverse]; omega)
  · exact odd_fl (Fl.mk rfl (Plain.bl true) rfl) rfl (fun _ e => nomatch e) (fun _ e => nomatch e)
  · exact odd_flat (fun z hz => by
      rcases List.mem_append.mp hz with h | h
      · exact g.f z (cut_mem h)
      · rw [List.mem_singleton.mp h]; exact fl_str (by decide +kernel) (by decide)) (by have := l4 none (some 3); simp; omega)
  · have k1 := kc_tup (zs := cutL gs none (some 1)) (f1 fun z hz => cut_mem hz) (by have := l4 none (some 1); omega)
    have k2 := kc_tup (zs := cutL gs (some 1) none) (f1 fun z hz => cut_mem hz) (by have := l4 (some 1) none; omega)
    have pl : ∀ z ∈ ([.tup (cutL gs none (some 1)), .tup (cutL gs (some 1) none)] : List D), (tyN z).isSome = true ∧ Plain z 3000 2 := fun z hz => by
      have q : ∀ xs : List D, (∀ z ∈ xs, z ∈ gs) → xs.length ≤ 4 → Plain (.tup xs) 3000 2 := fun xs h l => (Plain.tup fun z hz => (g.f z (h z hz)).pl).mono (by omega) (by decide)
      simp only [List.mem_cons, List.not_mem_nil, or_false] at hz
      rcases hz with e | e <;> subst e
      · exact ⟨rfl, q _ (fun z hz => cut_mem hz) (l4 _ _)⟩
      · exact ⟨rfl, q _ (fun z hz => cut_mem hz) (l4 _ _)⟩
    have pt := (Plain.tup fun z hz => (pl z hz).2)
    exact ⟨rfl, pt.shows.mono (by simp) (by decide), pt.good, rfl, fun xs e z hz => by cases e; exact (pl z hz).1, fun _ e => nomatch e⟩
theorem good_wg (o : YdOk y) {w : Wg} (h : WgOk y w) : Good [.str w.b, panD w.l, panD w.r] := ⟨.inl rfl, fun z hz => by
  simp only [List.mem_cons, List.not_mem_nil, or_false] at hz
  rcases hz with e | e | e <;> subst e
  · exact fl_name (bn_name o h.b)
  · exact fl_panD o h.l
  · exact fl_panD o h.r⟩
theorem good_rw (o : YdOk y) {w : Wg} (h : WgOk y w) {u : Str} (hu : u ∈ words3) : Good [.str w.b, panD w.l, panD w.r, .str u] := ⟨.inr rfl, fun z hz => by
  simp only [List.mem_cons, List.not_mem_nil, or_false] at hz
  rcases hz with e | e | e | e <;> subst e
  · exact fl_name (bn_name o h.b)
  · exact fl_panD o h.l
  · exact fl_panD o h.r
  · exact fl_word hu⟩
theorem word_dr {s i : Nat} (hs : env[s]? = some (some .st)) {m : Ev → M D} {gs : List D} (h : Dr k1 (m env) P) (h2 : ∀ x, P x → ∃ zs : List D, x = .tup zs ∧ zs.length ≤ 10) : Dr (k1 + 1) (eBin dAdd m (eTup (aCons (eCall 2 m__law_pick (aCons (eVar s) (aCons (eLst (aCons (eC (.str "left")) (aCons (eC (.str "even")) (aCons (eC (.str "right")) aNil)))) aNil))) aNil)) env) fun x => ∃ zs u, P (.tup zs) ∧ u ∈ words3 ∧ x = .tup (zs ++ [.str u]) := by
  have hz : (1000 : Nat) ≤ sizeLine := by decide
  refine dr_bin h (fun x _ => dr_tup (A := fun xs => ∃ u ∈ words3, xs = [.str u]) (dr_cons (k1 := 1) (k2 := 0) (P1 := fun x => x ∈ ([.str "left", .str "even", .str "right"] : List D)) (A2 := fun xs => xs = []) (dr_call (ev_cons (ev_var hs) (ev_cons (ev_lst (ev_cons ev_c (ev_cons ev_c (ev_cons ev_c ev_nil))) rfl) ev_nil)) rfl (pick_dr (by simp) (by simp))) (fun _ _ => dr_nil rfl) (fun x xs hx e => ?_) (by decide)) (P := fun x => ∃ u ∈ words3, x = .tup [.str u]) fun xs ⟨u, hu, e⟩ => by subst e; exact ⟨by simp; omega, u, hu, rfl⟩) (fun x z px ⟨u, hu, e⟩ => ?_) (Nat.le_refl _)
  · simp only [List.mem_cons, List.not_mem_nil, or_false] at hx
    rcases hx with q | q | q <;> subst q
    · exact ⟨"left", by decide, by rw [e]⟩
    · exact ⟨"even", by decide, by rw [e]⟩
    · exact ⟨"right", by decide, by rw [e]⟩
  · obtain ⟨zs, ex, hl⟩ := h2 x px
    subst ex e
    exact ⟨_, tup_add (by simp; omega), zs, u, px, hu, rfl⟩
theorem item_dr (o : YdOk y) : Dr 11 (m__law_item [.st, rowD y]) OddI := by
  refine dr_def ?_
  refine dr_set (k1 := 3) (k2 := 8) (P := fun x => ∃ gs, Good gs ∧ gs.length = 3 ∧ x = .tup gs ∧ ∃ w, WgOk y w ∧ x = wgD w) (dr_call (ev_cons (ev_var rfl) (ev_cons (ev_var rfl) ev_nil)) rfl ((weighing_dr o).imp (by decide) fun x ⟨w, hw, e⟩ => ⟨_, good_wg o hw, rfl, e, w, hw, e⟩)) (fun x ⟨gs, g, gl, e, w, hw, e2⟩ => ?_) (by decide)
  subst e
  refine dr_seqD (k1 := 2) (k2 := 6) (P := fun c => ∃ gs, Good gs ∧ c = .nx [some .st, some (rowD y), some (.tup gs)]) ?_ (fun c ⟨gs, g, e⟩ => ⟨_, e, ?_⟩) (by decide)
  · refine dr_cif (k1 := 1) (k2 := 1) (B := fun _ => True) (dr_nextEq (by decide) (by decide) rfl) (fun _ => ?_) (fun _ => dr_eq st_nx ⟨gs, g, rfl⟩) (by decide)
    unfold cSet
    refine Dr.bind (k1 := 1) (k2 := 0) (word_dr (k1 := 0) (i := 0) (gs := gs) rfl (P := fun x => x = .tup gs) (dr_eq (ev_var rfl) rfl) fun x e => ⟨gs, e, by omega⟩) (fun x ⟨zs, u, ez, hu, e⟩ => ?_) (by decide)
    cases ez
    subst e
    refine Dr.pure ⟨_, ?_, rfl⟩
    cases e2
    exact good_rw o hw hu
  · refine dr_ret (dr_eifD (k1 := 1) (k2 := 4) (dr_nextEq (by decide) (by decide) rfl) (dr_eq (ev_var rfl) g.odd) (dr_call (ev_cons (ev_var rfl) (ev_cons (ev_var rfl) (ev_cons (ev_var rfl) ev_nil))) rfl (odd_dr o g)) (by decide))
end
end Cm
end
section
set_option maxHeartbeats 400000
namespace Cm
open PySem PySem.Spec PyProof.Rows L2 Mir
mutual
theorem nlam_sh : ∀ {d : D} {p : PyData}, shP d = some p → nlam d = true
  | .non, _, _ => rfl
  | .bl _, _, _ => rfl
  | .int _, _, _ => rfl
  | .str _, _, _ => rfl
  | .lst xs, p, e => by
    rw [shP, Option.map_eq_some_iff] at e
    obtain ⟨ps, e1, _⟩ := e
    show nlams xs = true
    exact nlams_sh e1
  | .ro xs, p, e => by
    rw [shP, Option.map_eq_some_iff] at e
    obtain ⟨ps, e1, _⟩ := e
    show nlams xs = true
    exact nlams_sh e1
  | .tup xs, p, e => by
    rw [shP, Option.map_eq_some_iff] at e
    obtain ⟨ps, e1, _⟩ := e
    show nlams xs = true
    exact nlams_sh e1
  | .rot xs, p, e => by
    rw [shP, Option.map_eq_some_iff] at e
    obtain ⟨ps, e1, _⟩ := e
    show nlams xs = true
    exact nlams_sh e1
  | .dic kvs, p, e => by
    rw [shP, Option.map_eq_some_iff] at e
    obtain ⟨ps, e1, _⟩ := e
    show nlamk kvs = true
    exact nlamk_sh e1
  | .obj _ _, _, e => by rw [shP] at e; cases e
  | .st, _, e => by rw [shP] at e; cases e
  | .ln _, _, e => by rw [shP] at e; cases e
  | .plt _, _, e => by rw [shP] at e; cases e
  | .dct _, _, e => by rw [shP] at e; cases e
  | .dtn _ _, _, e => by rw [shP] at e; cases e
  | .mem _, _, e => by rw [shP] at e; cases e
  | .lam _, _, e => by rw [shP] at e; cases e
  | .lamc _ _, _, e => by rw [shP] at e; cases e
  | .dnk _ _, _, e => by rw [shP] at e; cases e
  | .exc _ _, _, e => by rw [shP] at e; cases e
theorem nlams_sh : ∀ {xs : List D} {ps : List PyData}, shPs xs = some ps → nlams xs = true
  | [], _, _ => rfl
  | x :: xs, ps, e => by
    cases h1 : shP x with
    | none => simp only [shPs, h1] at e; cases e
    | some p =>
      cases h2 : shPs xs with
      | none => simp only [shPs, h1, h2] at e; cases e
      | some qs =>
        show (nlam x && nlams xs) = true
        rw [nlam_sh h1, nlams_sh h2]
        rfl
theorem nlamk_sh : ∀ {kvs : List (Key × D)} {ps : List (PyData × PyData)}, shPk kvs = some ps → nlamk kvs = true
  | [], _, _ => rfl
  | (k, x) :: kvs, ps, e => by
    cases h1 : shP x with
    | none => simp only [shPk, h1] at e; cases e
    | some p =>
      cases h2 : shPk kvs with
      | none => simp only [shPk, h1, h2] at e; cases e
      | some qs =>
        show (nlam x && nlamk kvs) = true
        rw [nlam_sh h1, nlamk_sh h2]
        rfl
end
section
variable {y : Yd} {x d : D} {rs : List D}
theorem nlams_names (ns : List Str) : nlams (namesD ns) = true := by
  induction ns with
  | nil => rfl
  | cons n ns ih => exact ih
theorem nlams_beams (l : List (Str × Int)) : nlams (beamsD l) = true := by
  induction l with
  | nil => rfl
  | cons n ns ih => exact ih
theorem nlam_court (y : Yd) : nlam (courtD y) = true := by
  show (nlams (namesD y.ns) && (nlams (beamsD y.bs) && (true && (true && true)))) = true
  rw [nlams_names, nlams_beams]
  rfl
theorem ev_callCu {n : Nat} {mf : List D → M D} {z : Str} {js : List Nat} {env : Ev} {ws : List D} {r : D} (hc : capsD env js = some ws) (hl : (0 + 1 == n && (true && nlams ws)) = true) (h2 : mf [.lamc z ws] = pure r) (hz : nlam r = true) : eCallC n mf z js aNil env = pure r := by
  unfold eCallC
  rw [hc]
  show (pure [] >>= fun xs : List D => guardB (xs.length + 1 == n && (nlams xs && nlams ws)) (mf (xs ++ [.lamc z ws]) >>= fun r => guardB (nlam r) (pure r))) = pure r
  rw [pure_bind']
  show guardB (0 + 1 == n && (true && nlams ws)) (mf [.lamc z ws] >>= fun r => guardB (nlam r) (pure r)) = pure r
  rw [guard_of hl, h2, pure_bind', guard_of hz]
theorem dr_cforD {ms : Ev → M (List D)} {t : Ev → D → Option Ev} {b : Ev → M Ctl} {env : Ev} {k1 k2 k : Nat} {A : List D → Prop} {R : Ctl → Prop} (h : Dr k1 (ms env) A) (h2 : ∀ ds, A ds → Dr k2 (forGo t b ds env) R) (hk : k1 + k2 ≤ k) : Dr k (cFor ms t b env) R := by
  unfold cFor
  exact Dr.bind h h2 hk
theorem lst_add {as bs : List D} (h : as.length + bs.length ≤ 1000) : dAdd (.lst as) (.lst bs) = pure (.lst (as ++ bs)) := by
  have hz : (1000 : Nat) ≤ sizeLine := by decide
  show guardB _ _ = _
  rw [guard_of (decide_eq_true (by omega))]
theorem plain_repr3 {d : D} {w e : Nat} (h : Plain d w e) (hr : okR d = true) (hw : w ≤ 2 ^ 20) (he : e ≤ 60) : ∃ z, dRepr d = pure (.str z) := shows_repr h.shows hr (by unfold goodR; rw [h.good]; rfl) hw he
theorem bl4_repr (a b c d : Bool) : ∃ z, dRepr (.lst [.bl a, .bl b, .bl c, .bl d]) = pure (.str z) := plain_repr3 (Plain.lst (w := 64) (e := 0) fun z hz => by
  simp only [List.mem_cons, List.not_mem_nil, or_false] at hz
  rcases hz with e | e | e | e <;> subst e <;> exact Plain.bl _) rfl (by simp) (by decide)
abbrev turnB : Ev → M Ctl := (cSeq (cSet 5 (eCall 2 m__law_item (aCons (eVar 1) (aCons (eVar 2) aNil)))) (cSeq (cSet 6 (eUn dRepr (eVar 5))) (cSeq (cSet 7 (eLst (aCons (eCall 2 m_is_weighing (aCons (eVar 3) (aCons (eVar 5) aNil))) (aCons (eCall 2 m_is_row (aCons (eVar 3) (aCons (eVar 5) aNil))) aNil)))) (cSeq (cSet 7 (eBin dAdd (eVar 7) (eLst (aCons (eCallK 2 [1, 0] m_is_weighing (aCons (eVar 5) (aCons (eVar 3) aNil))) (aCons (eCallK 2 [1, 0] m_is_row (aCons (eVar 5) (aCons (eVar 3) aNil))) aNil))))) (cSeq (cSet 8 (eLst (aCons (eCall 2 m__law_is_weighing (aCons (eVar 2) (aCons (eVar 5) aNil))) (aCons (eCall 2 m__law_is_row (aCons (eVar 2) (aCons (eVar 5) aNil))) aNil)))) (cIf (tOr' (tB' (eBin dNe (eUn dRepr (eVar 7)) (eUn dRepr (eBin dAdd (eVar 8) (eVar 8))))) (tB' (eBin dNe (eUn dRepr (eVar 5)) (eVar 6)))) (cRet (eC (.bl false))) cNx))))))
def En (x0 : Option D) (y : Yd) (a4 a5 a6 a7 a8 a9 a10 a11 a12 a13 : Option D) : Ev := [x0, some .st, some (rowD y), some (courtD y), a4, a5, a6, a7, a8, a9, a10, a11, a12, a13]
theorem turn_dr (o : YdOk y) (x0 a4 a5 a6 a7 a8 a9 a10 a11 a12 a13 : Option D) : Dr 11 (turnB (En x0 y a4 a5 a6 a7 a8 a9 a10 a11 a12 a13)) fun c => ∃ a5 a6 a7 a8, c = .nx (En x0 y a4 a5 a6 a7 a8 a9 a10 a11 a12 a13) := by
  refine dr_set (k1 := 11) (k2 := 0) (dr_call (ev_cons (ev_var rfl) (ev_cons (ev_var rfl) ev_nil)) rfl (item_dr o)) (fun x hx => ?_) (by decide)
  obtain ⟨z, hz⟩ := hx.repr
  refine dr_seq (st_set (x := .str z) (ev_un (ev_var rfl) hz)) ?_
  refine dr_seq (st_set (x := .lst [.bl (wB y x), .bl (rB y x)]) (ev_lst (ev_cons (ev_call (ev_cons (ev_var rfl) (ev_cons (ev_var rfl) ev_nil)) rfl (is_weighing_any o hx)) (ev_cons (ev_call (ev_cons (ev_var rfl) (ev_cons (ev_var rfl) ev_nil)) rfl (is_row_any o hx)) ev_nil)) rfl)) ?_
  refine dr_seq (st_set (x := .lst [.bl (wB y x), .bl (rB y x), .bl (wB y x), .bl (rB y x)]) (ev_bin (ev_var rfl) (ev_lst (ev_cons (ev_callK (xs := [x, courtD y]) (ev_cons (ev_var rfl) (ev_cons (ev_var rfl) ev_nil)) rfl (is_weighing_any o hx)) (ev_cons (ev_callK (xs := [x, courtD y]) (ev_cons (ev_var rfl) (ev_cons (ev_var rfl) ev_nil)) rfl (is_row_any o hx)) ev_nil)) rfl) (lst_add (by simp)))) ?_
  refine dr_seq (st_set (x := .lst [.bl (wB y x), .bl (rB y x)]) (ev_lst (ev_cons (ev_call (ev_cons (ev_var rfl) (ev_cons (ev_var rfl) ev_nil)) rfl (law_weighing_any o hx)) (ev_cons (ev_call (ev_cons (ev_var rfl) (ev_cons (ev_var rfl) ev_nil)) rfl (law_row_any o hx)) ev_nil)) rfl)) ?_
  obtain ⟨v, hv⟩ := bl4_repr (wB y x) (rB y x) (wB y x) (rB y x)
  refine dr_eq (st_iff (t := false) (ev_tOr (t1 := false) (t2 := false) (ev_tB (ev_bin (ev_un (ev_var rfl) hv) (ev_un (ev_bin (ev_var rfl) (ev_var rfl) (lst_add (by simp))) hv) ?_)) fun _ => ev_tB (ev_bin (ev_un (ev_var rfl) hz) (ev_var rfl) ?_)) rfl st_nx) ⟨_, _, _, _, rfl⟩
  · rw [dNe_str, decide_eq_true rfl]; rfl
  · rw [dNe_str, decide_eq_true rfl]; rfl
structure Rows (rs : List D) (n : Nat) : Prop where
  o : ∀ x ∈ rs, OddI x
  l : rs.length ≤ n
abbrev rowB : Ev → M Ctl := (cApp 9 (eBin dAdd (eCall 2 m__law_weighing (aCons (eVar 1) (aCons (eVar 2) aNil))) (eTup (aCons (eCall 2 m__law_pick (aCons (eVar 1) (aCons (eLst (aCons (eC (.str "left")) (aCons (eC (.str "even")) (aCons (eC (.str "right")) aNil)))) aNil))) aNil))))
theorem row_turn (o : YdOk y) {n : Nat} (h : Rows rs n) (hn : n ≤ 20) (x0 a4 a5 a6 a7 a8 a10 a11 a12 a13 : Option D) : Dr 4 (rowB (En x0 y a4 a5 a6 a7 a8 (some (.lst rs)) a10 a11 a12 a13)) fun c => ∃ rs, Rows rs (n + 1) ∧ c = .nx (En x0 y a4 a5 a6 a7 a8 (some (.lst rs)) a10 a11 a12 a13) := by
  have hz : (1000 : Nat) < sizeLine := by decide
  have hl := h.l
  unfold rowB cApp
  refine Dr.bind (k1 := 4) (k2 := 0) (word_dr (k1 := 3) (i := 0) (gs := []) rfl (P := fun x => ∃ w, WgOk y w ∧ x = wgD w) (dr_call (ev_cons (ev_var rfl) (ev_cons (ev_var rfl) ev_nil)) rfl (weighing_dr o)) fun x ⟨w, hw, e⟩ => ⟨_, e, by simp⟩) (fun x ⟨zs, u, ⟨w, hw, ez⟩, hu, e⟩ => ?_) (by decide)
  cases ez
  subst e
  have g : OddI (.tup ([.str w.b, panD w.l, panD w.r] ++ [.str u])) := (good_rw o hw hu).odd
  show Dr 0 (guardB (decide (rs.length < sizeLine)) _) _
  refine Dr.guard (decide_eq_true (by omega)) (Dr.pure ⟨_, ⟨fun z hz => ?_, by rw [List.length_append]; simp; omega⟩, rfl⟩)
  rcases List.mem_append.mp hz with q | q
  · exact h.o z q
  · rw [List.mem_singleton.mp q]; exact g
abbrev insT : Ev → M Ctl := (cSeq (cSet 10 (eCall 2 m__law_next (aCons (eVar 1) (aCons (eBin dAdd (eUn dLen (eVar 9)) (eC (.int 1))) aNil)))) (cInsA 9 (aCons (eVar 10) (aCons (eCall 2 m__law_item (aCons (eVar 1) (aCons (eVar 2) aNil))) aNil))))
theorem ins_turn (o : YdOk y) {n : Nat} (h : Rows rs n) (hn : n ≤ 20) (x0 a4 a5 a6 a7 a8 a10 a11 a12 a13 : Option D) : Dr 12 (insT (En x0 y a4 a5 a6 a7 a8 (some (.lst rs)) a10 a11 a12 a13)) fun c => ∃ rs a10, Rows rs (n + 1) ∧ c = .nx (En x0 y a4 a5 a6 a7 a8 (some (.lst rs)) a10 a11 a12 a13) := by
  have hz : (1000 : Nat) < sizeLine := by decide
  have hl := h.l
  refine dr_set (k1 := 1) (k2 := 11) (P := fun x => ∃ i, x = .int i ∧ 0 ≤ i ∧ i < (rs.length : Int) + 1) (dr_call (xs := [.st, .int ((rs.length : Int) + 1)]) (ev_cons (ev_var rfl) (ev_cons (ev_bin (ev_un (x := .lst rs) (ev_var rfl) rfl) ev_c (dAdd_int _ _)) ev_nil)) rfl (next_dr (by omega) (by omega))) (fun x ⟨i, e, i0, i1⟩ => ?_) (by decide)
  subst e
  unfold cInsA
  refine Dr.bind (k1 := 11) (k2 := 0) (P := fun l => ∃ x, OddI x ∧ l = [.int i, x]) (dr_consP (ev_var rfl) (dr_cons (k1 := 11) (k2 := 0) (P1 := OddI) (A2 := fun xs => xs = []) (A := fun xs => ∃ x, OddI x ∧ xs = [x]) (dr_call (ev_cons (ev_var rfl) (ev_cons (ev_var rfl) ev_nil)) rfl (item_dr o)) (fun _ _ => dr_nil rfl) (fun x xs hx e => ⟨x, hx, by rw [e]⟩) (by decide)) fun xs ⟨x, hx, e⟩ => ⟨x, hx, by rw [e]⟩) (fun l ⟨x, hx, e⟩ => ?_) (by decide)
  subst e
  show Dr 0 (guardB (decide (rs.length < sizeLine) && (decide (0 ≤ i) && decide (i < 2 ^ 63))) _) _
  refine Dr.guard (by rw [decide_eq_true (by omega), decide_eq_true i0, decide_eq_true (by omega)]; rfl) (Dr.pure ⟨_, _, ⟨fun z hz => ?_, ?_⟩, rfl⟩)
  · unfold insL at hz
    simp only [List.mem_append, List.mem_singleton] at hz
    rcases hz with (q | q) | q
    · exact h.o z (List.mem_of_mem_take q)
    · rw [q]; exact hx
    · exact h.o z (List.mem_of_mem_drop q)
  · unfold insL
    simp only [List.length_append, List.length_take, List.length_drop, List.length_singleton]
    omega
structure Hand (y : Yd) (d u : D) : Prop where
  nl : nlam d = true
  rp : ∃ z, dRepr d = pure (.str z)
  c : (u = .non ∧ my_need_log [courtD y, d] = pure .non ∧ m_need_log [courtD y, d] = pure .non) ∨ ∃ k : Int, k.natAbs < 10 ^ 12 ∧ u = .int k ∧ my_need_log [courtD y, d] = excY (.exc "NoRow" [("at", .int k)])
def dueD (y : Yd) (rs : List D) : D := match badAt y rs 0 with
  | none => .non
  | some k => .int k
theorem badAt_lt (y : Yd) : ∀ (xs : List D) (i : Nat) {k : Nat}, badAt y xs i = some k → k < i + xs.length
  | [], _, _, h => nomatch h
  | x :: xs, i, k, h => by
    have h : (if rB y x = true then badAt y xs (i + 1) else some i) = some k := h
    rw [List.length_cons]
    split at h
    · have := badAt_lt y xs (i + 1) h
      omega
    · cases h
      omega
theorem hand_rows (o : YdOk y) {n : Nat} (h : Rows rs n) (hn : n ≤ 30) {d : D} (hd : d = .lst rs ∨ d = .tup rs) : Hand y d (dueD y rs) := by
  have hl := h.l
  have hs : SeqOf rs d := by
    rcases hd with e | e <;> subst e
    · exact .lst
    · exact .tup
  have hsh : Shows d (rs.length * 30001) 5 ∧ okR d = true := by
    rcases hd with e | e <;> subst e
    · exact ⟨Shows.lst fun x hx => (h.o x hx).sh, rfl⟩
    · exact ⟨Shows.tup fun x hx => (h.o x hx).sh, rfl⟩
  have g1 : rs.all good1 = true := List.all_eq_true.mpr fun x hx => (h.o x hx).g
  have hg : goodR d = true := by
    rcases hd with e | e <;> subst e
    · cases rs with
      | nil => rfl
      | cons x xs =>
        unfold goodR
        show (good1 _ || (true && (x :: xs).all good1)) = true
        rw [g1, Bool.true_and, Bool.or_true]
    · unfold goodR
      show (good1 _ || rs.all good1) = true
      rw [g1, Bool.or_true]
  refine ⟨?_, shows_repr hsh.1 hsh.2 hg (Nat.le_trans (Nat.mul_le_mul_right _ (show rs.length ≤ 30 by omega)) (by decide)) (by decide), ?_⟩
  · obtain ⟨p, e, _⟩ := hsh.1
    exact nlam_sh e
  · unfold dueD
    have hy := need_log_any o h.o hs
    cases q : badAt y rs 0 with
    | none =>
      rw [q] at hy
      exact .inl ⟨rfl, hy, need_log_good o h.o q hs⟩
    | some k =>
      rw [q] at hy
      have := badAt_lt y rs 0 q
      exact .inr ⟨k, by omega, rfl, hy⟩
theorem hand_odd (d : D) (ht : (tyN d).isSome = true) (hn : (isLst d || isTup d) = false) (hsh : Shows d 1000 3) (hg : good1 d = true) (hr : okR d = true) : Hand y d (.int 0) := by
  refine ⟨?_, shows_repr hsh hr (by unfold goodR; rw [hg]; rfl) (by decide) (by decide), .inr ⟨0, by decide, rfl, need_log_no ht hn⟩⟩
  obtain ⟨p, e, _⟩ := hsh
  exact nlam_sh e
theorem lst_no {xs : List D} {w e : Nat} (h : Plain (.lst xs) w e) (he : e ≤ 64) (neg : Bool) : dEqB neg (.lst xs) (.lst []) = pure (.bl (if neg = true then !decide (xs = []) else decide (xs = []))) := lst_nil h he neg
end
end Cm
end
section
set_option maxHeartbeats 400000
namespace Cm
open PySem PySem.Spec PyProof.Rows L2 Mir
section
variable {y : Yd} {rs : List D}
theorem at_rows {rs : List D} {k : Nat} (h : k < rs.length) : dAt (.lst rs) (.int (0 + (k : Int))) = pure (rs.getD k .non) := by
  rw [Int.zero_add]
  show (match atI rs (k : Int) with
    | some z => pure z
    | none => bad : M D) = _
  rw [atI_nat (show rs[k]? = some (rs.getD k .non) by rw [List.getD_eq_getElem?_getD, List.getElem?_eq_getElem h]; rfl)]
def wrongL (y : Yd) (rs : List D) : List Nat := (List.range rs.length).filter fun k => !rB y (rs.getD k .non)
theorem wrong_head (y : Yd) (rs : List D) : badAt y rs 0 = (wrongL y rs).head? := by
  rw [badAt_filter]
  show Option.map (0 + ·) (wrongL y rs).head? = _
  cases (wrongL y rs).head? with
  | none => rfl
  | some k => show some (0 + k) = some k; rw [Nat.zero_add]
theorem wrong_due (y : Yd) (rs : List D) : (match wrongL y rs with
    | [] => D.non
    | k :: _ => .int k) = dueD y rs := by
  unfold dueD
  rw [wrong_head]
  cases wrongL y rs <;> rfl
abbrev tailB : Ev → M Ctl := (cSeq (cSet 6 (eUn dRepr (eVar 12))) (cSeq (cSet 13 (eLst (aCons (eCallC 1 (m__law_refusedC (lmY1 "law_0" my_law_0)) "law_0" [3, 12] aNil) aNil))) (cSeq (cApp 13 (eCallC 1 (m__law_refusedC (lmY1 "law_1" my_law_1)) "law_1" [12, 3] aNil)) (cSeq (cIf (tOr' (tB' (eBin dNe (eUn dRepr (eVar 13)) (eUn dRepr (eLst (aCons (eVar 8) (aCons (eVar 8) aNil)))))) (tB' (eBin dNe (eUn dRepr (eVar 12)) (eVar 6)))) (cRet (eC (.bl false))) cNx) (cSeq (cSet 7 (eCall 1 m_weighings (aCons (eVar 3) aNil))) (cSeq (cIf (tB' (eBin dNe (eUn dRepr (eVar 7)) (eUn dRepr (eCall 1 m__law_all (aCons (eVar 2) aNil))))) (cRet (eC (.bl false))) cNx) (cSeq (cClrL 7) (cRet (eAnd (eBin dEq (eUn dRepr (eCallK 1 [0] m_weighings (aCons (eVar 3) aNil))) (eUn dRepr (eCall 1 m__law_all (aCons (eVar 2) aNil)))) (eOr (eBin (dIsN true) (eVar 8) (eC .non)) (eBin (dIsN false) (eCall 2 m_need_log (aCons (eVar 3) (aCons (eVar 12) aNil))) (eC .non))))))))))))
theorem tail_eq (o : YdOk y) {d u : D} (h : Hand y d u) (x0 a4 a5 a6 a7 a9 a10 a11 a13 : Option D) : tailB (En x0 y a4 a5 a6 a7 (some u) a9 a10 a11 (some d) a13) = pure (.ret (.bl true)) := by
  have hz : (1000 : Nat) < sizeLine := by decide
  obtain ⟨z, rz⟩ := h.rp
  have nlu : nlam u = true := by
    rcases h.c with ⟨e, _⟩ | ⟨k, _, e, _⟩ <;> rw [e] <;> rfl
  have pu : Plain u 64 0 := by
    rcases h.c with ⟨e, _⟩ | ⟨k, hk, e, _⟩ <;> rw [e]
    · exact Plain.non
    · exact Plain.int hk
  have r0 : m__law_refusedC (lmY1 "law_0" my_law_0) [.lamc "law_0" [courtD y, d]] = pure u := by
    have e0 : my_law_0 [courtD y, d] = my_need_log [courtD y, d] := zCall (ev_cons (ev_var rfl) (ev_cons (ev_var rfl) ev_nil)) rfl
    rcases h.c with ⟨e, h1, _⟩ | ⟨k, _, e, h1⟩ <;> rw [e]
    · exact refused_ok _ (if_pos rfl) (e0.trans h1)
    · exact refused_exc _ (if_pos rfl) (e0.trans h1)
  have r1 : m__law_refusedC (lmY1 "law_1" my_law_1) [.lamc "law_1" [d, courtD y]] = pure u := by
    have e0 : my_law_1 [d, courtD y] = my_need_log [courtD y, d] := by
      show yCallK 2 [1, 0] my_need_log (aCons (eVar 0) (aCons (eVar 1) aNil)) [some d, some (courtD y)] = _
      unfold yCallK
      rw [show aCons (eVar 0) (aCons (eVar 1) aNil) [some d, some (courtD y)] = pure [d, courtD y] from ev_cons (ev_var rfl) (ev_cons (ev_var rfl) ev_nil)]
      rfl
    rcases h.c with ⟨e, h1, _⟩ | ⟨k, _, e, h1⟩ <;> rw [e]
    · exact refused_ok _ (if_pos rfl) (e0.trans h1)
    · exact refused_exc _ (if_pos rfl) (e0.trans h1)
  obtain ⟨v, hv⟩ := plain_repr3 (Plain.lst (xs := [u, u]) (w := 64) (e := 0) fun z hz => by
    simp only [List.mem_cons, List.not_mem_nil, or_false] at hz
    rcases hz with e | e <;> rw [e] <;> exact pu) rfl (by simp) (by decide)
  obtain ⟨q, hq⟩ := plain_repr3 (allP_plain o) rfl (by decide) (by decide)
  refine st_seq (st_set (x := .str z) (ev_un (ev_var rfl) rz)) ?_
  refine st_seq (st_set (x := .lst [u]) (ev_lst (ev_cons (ev_callCu (ws := [courtD y, d]) rfl (by
    show (true && (true && (nlam (courtD y) && (nlam d && true)))) = true
    rw [nlam_court, h.nl]; rfl) r0 nlu) ev_nil) rfl)) ?_
  refine st_seq (st_app (y := u) (xs := [u]) (ev_callCu (ws := [d, courtD y]) rfl (by
    show (true && (true && (nlam d && (nlam (courtD y) && true)))) = true
    rw [nlam_court, h.nl]; rfl) r1 nlu) rfl (by simp; omega)) ?_
  refine st_seq (st_iff (t := false) (ev_tOr (t1 := false) (t2 := false) (ev_tB (ev_bin (ev_un (x := .lst [u, u]) (ev_var rfl) hv) (ev_un (x := .lst [u, u]) (ev_lst (ev_cons (ev_var rfl) (ev_cons (ev_var rfl) ev_nil)) rfl) hv) ?_)) fun _ => ev_tB (ev_bin (ev_un (ev_var rfl) rz) (ev_var rfl) ?_)) rfl st_nx) ?_
  · rw [dNe_str, decide_eq_true rfl]; rfl
  · rw [dNe_str, decide_eq_true rfl]; rfl
  refine st_seq (st_set (x := .lst (allP y)) (ev_call (ev_cons (ev_var rfl) ev_nil) rfl (weighings_eq o))) ?_
  refine st_seq (st_iff (t := false) (ev_tB (ev_bin (ev_un (ev_var rfl) hq) (ev_un (ev_call (ev_cons (ev_var rfl) ev_nil) rfl (all_eq o)) hq) (by rw [dNe_str, decide_eq_true rfl]; rfl))) rfl st_nx) ?_
  refine st_seq (e := En x0 y a4 a5 (some (.str z)) (some (.lst [])) (some u) a9 a10 a11 (some d) (some (.lst [u, u]))) rfl (st_ret ?_)
  refine ev_and (t1 := true) (t2 := true) (ev_bin (ev_un (ev_callK (xs := [courtD y]) (ev_cons (ev_var rfl) ev_nil) rfl (weighings_eq o)) hq) (ev_un (ev_call (ev_cons (ev_var rfl) ev_nil) rfl (all_eq o)) hq) (by rw [dEq_str, decide_eq_true rfl])) fun _ => ?_
  rcases h.c with ⟨e, _, h2⟩ | ⟨k, _, e, _⟩
  · subst e
    exact ev_or (t1 := false) (t2 := true) (ev_bin (ev_var rfl) ev_c rfl) fun _ => ev_bin (ev_call (ev_cons (ev_var rfl) (ev_cons (ev_var rfl) ev_nil)) rfl h2) ev_c rfl
  · subst e
    exact ev_or (t1 := true) (t2 := true) (ev_bin (ev_var rfl) ev_c rfl) fun e => nomatch e
def oddH : List D := [.non, .int 5, .str "abcd", .dic [], .bl true, .dic [(.inr "a", .int 1)]]
theorem hand_oddH : ∀ d ∈ oddH, Hand y d (.int 0) := fun d h => by
  simp only [oddH, List.mem_cons, List.not_mem_nil, or_false] at h
  rcases h with e | e | e | e | e | e <;> subst e
  · exact hand_odd _ rfl rfl (Plain.non.shows.mono (by decide) (by decide)) Plain.non.good rfl
  · exact hand_odd _ rfl rfl ((Plain.int (by decide)).shows.mono (by decide) (by decide)) (Plain.int (by decide)).good (by decide)
  · exact hand_odd _ rfl rfl ((Plain.str (by decide +kernel) (by decide)).shows.mono (by decide) (by decide)) (Plain.str (by decide +kernel) (by decide)).good rfl
  · exact hand_odd _ rfl rfl (Shows.dic0.mono (by decide) (by decide)) (Shows.dic0.good rfl) rfl
  · exact hand_odd _ rfl rfl ((Plain.bl true).shows.mono (by decide) (by decide)) (Plain.bl true).good rfl
  · have s : Shows (.dic [(.inr "a", .int 1)]) (1 * 130) 1 := Shows.dOf (ks := ["a"]) (f := fun _ => 1) (fun k hk => by
      rw [List.mem_singleton.mp hk]
      exact ⟨by decide +kernel, by decide, by decide⟩)
    exact hand_odd _ rfl rfl (s.mono (by decide) (by decide)) (s.good rfl) rfl
abbrev handB : Ev → M Ctl := (cIf (tAnd' (tB' (eBin dEq (eVar 11) (eLst aNil))) (tB' (eBin dEq (eCall 2 m__law_next (aCons (eVar 1) (aCons (eC (.int 3)) aNil))) (eC (.int 0))))) (cAsg (gT (gsCons (gN 12) (gsCons (gN 8) gsNil))) (eTup (aCons (eCall 2 m__law_pick (aCons (eVar 1) (aCons (eLst (aCons (eC .non) (aCons (eC (.int 5)) (aCons (eC (.str "abcd")) (aCons (eC (.dic [])) (aCons (eC (.bl true)) (aCons (eDisp (pCons (eC (.str "a")) (eC (.int 1)) pNil)) aNil))))))) aNil))) (aCons (eC (.int 0)) aNil)))) cNx)
theorem rest_dr (o : YdOk y) {n : Nat} (h : Rows rs n) (hn : n ≤ 30) (x0 a4 a5 a6 a7 a8 a10 a11 a12 a13 : Option D) : Dr 3 ((cSeq (cSet 11 (eLc (iRange (aCons (eUn dLen (eVar 9)) aNil)) [10] (gN 10) (tNot' (tB' (eCall 2 m__law_is_row (aCons (eVar 2) (aCons (eBin dAt (eVar 9) (eVar 10)) aNil))))) (eVar 10))) (cSeq (cSet 8 (eIf (tB' (eBin dNe (eVar 11) (eLst aNil))) (eBin dAt (eVar 11) (eC (.int 0))) (eC .non))) (cSeq (cSet 12 (eBin dAt (eLst (aCons (eVar 9) (aCons (eUn dTuple (eVar 9)) aNil))) (eCall 2 m__law_next (aCons (eVar 1) (aCons (eC (.int 2)) aNil))))) (cSeq handB tailB)))) (En x0 y a4 a5 a6 a7 a8 (some (.lst rs)) a10 a11 a12 a13)) fun c => c = .ret (.bl true) := by
  have hz : (1000 : Nat) < sizeLine := by decide
  have hl := h.l
  refine dr_seq (st_set (x := .lst ((wrongL y rs).map fun (k : Nat) => D.int (0 + (k : Int)))) (ev_lc (ev_iRange (ev_cons (ev_un (x := .lst rs) (ev_var rfl) rfl) ev_nil) (range_eq rs.length (by omega))) ?_)) ?_
  · have := lc_filterT (e0 := wipeE (En x0 y a4 a5 a6 a7 a8 (some (.lst rs)) a10 a11 a12 a13) [10]) (tg := gN 10) (n := tNot' (tB' (eCall 2 m__law_is_row (aCons (eVar 2) (aCons (eBin dAt (eVar 9) (eVar 10)) aNil))))) (me := eVar 10) (fun (k : Nat) => D.int (0 + (k : Int))) (fun (k : Nat) => D.int (0 + (k : Int))) (fun k => !rB y (rs.getD k .non)) (List.range rs.length) [] (fun k hk => ⟨_, rfl, ev_tNot (ev_tB (ev_call (ev_cons (ev_var rfl) (ev_cons (ev_bin (ev_var rfl) (ev_var rfl) (at_rows (List.mem_range.mp hk))) ev_nil)) rfl (law_row_any o (h.o _ (by
      have hk := List.mem_range.mp hk
      rw [List.getD_eq_getElem?_getD, List.getElem?_eq_getElem hk]
      exact List.getElem_mem hk))))), fun _ => ev_var rfl⟩) (by rw [List.length_nil, List.length_range]; omega)
    exact this
  have wl : (wrongL y rs).length ≤ rs.length := by
    unfold wrongL
    exact Nat.le_trans (List.length_filter_le ..) (by rw [List.length_range]; exact Nat.le_refl _)
  have wp : Plain (.lst ((wrongL y rs).map fun (k : Nat) => D.int (0 + (k : Int)))) _ 1 := Plain.lst (w := 64) (e := 0) fun z hz => by
    obtain ⟨k, hk, e⟩ := List.mem_map.mp hz
    subst e
    have := List.mem_range.mp (List.mem_filter.mp hk).1
    exact Plain.int (by omega)
  refine dr_seq (st_set (x := dueD y rs) ?_) ?_
  · have hc : tB' (eBin dNe (eVar 11) (eLst aNil)) (En x0 y a4 a5 a6 a7 a8 (some (.lst rs)) a10 (some (.lst ((wrongL y rs).map fun (k : Nat) => D.int (0 + (k : Int))))) a12 a13) = pure (!decide ((wrongL y rs).map (fun (k : Nat) => D.int (0 + (k : Int))) = [])) := ev_tB (ev_bin (ev_var rfl) (ev_lst ev_nil rfl) (lst_no wp (by decide) true))
    rw [← wrong_due]
    cases q : wrongL y rs with
    | nil =>
      rw [q] at hc
      exact (ev_if (t := false) (x := .non) (y := .non) hc (fun e => nomatch e) fun _ => ev_c)
    | cons k ks =>
      rw [q] at hc
      refine (ev_if (t := true) (x := .int k) (y := .non) hc (fun _ => ?_) fun e => nomatch e)
      refine ev_bin (ev_var rfl) ev_c ?_
      rw [List.map_cons]
      rw [at_zero, Int.zero_add]
  refine dr_set (k1 := 1) (k2 := 2) (P := fun x => x = .lst rs ∨ x = .tup rs) ?_ (fun d hd => ?_) (by decide)
  · refine dr_binL (ev_lst (ev_cons (ev_var rfl) (ev_cons (ev_un (ev_var rfl) rfl) ev_nil)) rfl) (dr_call (ev_cons (ev_var rfl) (ev_cons ev_c ev_nil)) rfl (next_dr (n := 2) (by decide) (by decide))) fun z ⟨i, e, i0, i1⟩ => ?_
    subst e
    have hi : i = 0 ∨ i = 1 := by omega
    rcases hi with e | e <;> subst e
    · exact ⟨_, rfl, .inl rfl⟩
    · exact ⟨_, rfl, .inr rfl⟩
  have hh := hand_rows o h hn hd
  refine dr_seqD (k1 := 2) (k2 := 0) (P := fun c => ∃ d u, Hand y d u ∧ c = .nx (En x0 y a4 a5 a6 a7 (some u) (some (.lst rs)) a10 (some (.lst ((wrongL y rs).map fun (k : Nat) => D.int (0 + (k : Int))))) (some d) a13)) ?_ (fun c ⟨d, u, hd, e⟩ => ⟨_, e, dr_eq (tail_eq o hd _ _ _ _ _ _ _ _ _) rfl⟩) (by decide)
  refine dr_cif (k1 := 1) (k2 := 1) (B := fun _ => True) ?_ (fun _ => ?_) (fun _ => dr_eq st_nx ⟨d, _, hh, rfl⟩) (by decide)
  · unfold tAnd'
    refine Dr.bind (k1 := 0) (k2 := 1) (P := fun _ => True) (dr_eq (ev_tB (ev_bin (ev_var rfl) (ev_lst ev_nil rfl) (lst_no wp (by decide) false))) trivial) (fun t _ => ?_) (by decide)
    cases t with
    | true => exact dr_nextEq (s := 1) (by decide) (by decide) rfl
    | false => exact Dr.pure trivial
  · unfold cAsg
    refine Dr.bind (k1 := 1) (k2 := 0) (P := fun x => ∃ d ∈ oddH, x = .tup [d, .int 0]) (dr_tup (A := fun xs => ∃ d ∈ oddH, xs = [d, .int 0]) (dr_cons (k1 := 1) (k2 := 0) (P1 := fun x => x ∈ oddH) (A2 := fun xs => xs = [.int 0]) (dr_call (ev_cons (ev_var rfl) (ev_cons (ev_lst (ev_cons ev_c (ev_cons ev_c (ev_cons ev_c (ev_cons ev_c (ev_cons ev_c (ev_cons (x := .dic [(.inr "a", .int 1)]) rfl ev_nil)))))) rfl) ev_nil)) rfl (pick_dr (by simp) (by simp))) (fun _ _ => dr_eq (ev_cons ev_c ev_nil) rfl) (fun x xs hx e => ⟨x, hx, by rw [e]⟩) (by decide)) fun xs ⟨d, hd, e⟩ => by subst e; exact ⟨by simp; omega, d, hd, rfl⟩) (fun x ⟨d, hd, e⟩ => ?_) (by decide)
    subst e
    exact Dr.pure ⟨d, _, hand_oddH d hd, rfl⟩
theorem law_runs (ns : List Int) : Dr 400 (b_law (some (.ro (ns.map D.int)) :: some .st :: List.replicate 12 none)) fun c => c = .ret (.bl true) := by
  have hz : (1000 : Nat) < sizeLine := by decide
  refine dr_set (k1 := 100) (k2 := 300) (dr_call (ev_cons (ev_var rfl) (ev_cons ev_c (ev_cons ev_c (ev_cons ev_c (ev_cons ev_c ev_nil))))) rfl row_dr) (fun x ⟨y, o, e⟩ => ?_) (by decide)
  subst e
  refine dr_seq (st_set (x := courtD y) (ev_mk (xs := [.lst (namesD y.ns), .lst (beamsD y.bs)]) (ys := [.int y.mo, .int y.le]) (ev_cons (ev_bin (x := rowD y) (ev_var rfl) ev_c rfl) (ev_cons (ev_bin (x := rowD y) (ev_var rfl) ev_c rfl) ev_nil)) (ev_cons (ev_bin (x := rowD y) (ev_var rfl) ev_c rfl) (ev_cons (ev_bin (x := rowD y) (ev_var rfl) ev_c rfl) ev_nil)) rfl (init_eq o))) ?_
  generalize hx0 : (some (D.ro (ns.map D.int)) : Option D) = x0
  refine dr_seqD (k1 := 110) (k2 := 190) (P := fun c => ∃ a4 a5 a6 a7 a8, c = .nx (En x0 y a4 a5 a6 a7 a8 none none none none none)) ?_ (fun c ⟨a4, a5, a6, a7, a8, e⟩ => ⟨_, e, ?_⟩) (by decide)
  · refine dr_cforD (k1 := 0) (k2 := 110) (A := fun ds => ds = (List.range 10).map fun (k : Nat) => D.int (0 + (k : Int))) (dr_eq (ev_iRange (ev_cons (x := .int ((10 : Nat) : Int)) ev_c ev_nil) (range_eq 10 (by decide))) rfl) (fun ds e => ?_) (by decide)
    subst e
    refine (for_dr (k := 11) (fun _ env => ∃ a4 a5 a6 a7 a8, env = En x0 y a4 a5 a6 a7 a8 none none none none none) _ 0 _ ⟨none, none, none, none, none, rfl⟩ fun j x env hx ⟨a4, a5, a6, a7, a8, e⟩ => ?_).imp (by simp) fun c ⟨e', hc, a4, a5, a6, a7, a8, e⟩ => ⟨a4, a5, a6, a7, a8, by rw [hc, e]⟩
    subst e
    exact ⟨En x0 y (some x) a5 a6 a7 a8 none none none none none, rfl, (turn_dr o _ _ _ _ _ _ _ _ _ _ _).imp (Nat.le_refl _) fun c ⟨a5, a6, a7, a8, e⟩ => ⟨_, e, _, _, _, _, _, rfl⟩⟩
  refine dr_seq (st_set (x := .lst []) (ev_lst ev_nil rfl)) ?_
  refine dr_seqD (k1 := 40) (k2 := 150) (P := fun c => ∃ rs a4, Rows rs 8 ∧ c = .nx (En x0 y a4 a5 a6 a7 a8 (some (.lst rs)) none none none none)) ?_ (fun c ⟨rs, a4, hr, e⟩ => ⟨_, e, ?_⟩) (by decide)
  · refine dr_cforD (k1 := 1) (k2 := 32) (dr_range (lo := 0) (hi := 8) (by decide) ((dr_call (ev_cons (ev_var rfl) (ev_cons ev_c ev_nil)) rfl (next_nat (n := 9) (by decide) (by decide))).imp (Nat.le_refl _) fun x ⟨i, e, h⟩ => ⟨i, Nat.zero_le _, by omega, e⟩)) (fun ds ⟨n, _, h8, e⟩ => ?_) (by decide)
    subst e
    refine (for_dr (k := 4) (fun i env => i ≤ n ∧ ∃ rs a4, Rows rs i ∧ env = En x0 y a4 a5 a6 a7 a8 (some (.lst rs)) none none none none) _ 0 _ ⟨Nat.zero_le _, [], a4, ⟨(fun _ h => nomatch h), Nat.zero_le _⟩, rfl⟩ fun j x env hx ⟨hj, rs, a4, hr, e⟩ => ?_).imp (by rw [List.length_map, List.length_range]; omega) fun c ⟨e', hc, hi, rs, a4, hr, e⟩ => ⟨rs, a4, ⟨hr.o, by have := hr.l; omega⟩, by rw [hc, e]⟩
    subst e
    have hjn : j < n := by
      have := (List.getElem?_eq_some_iff.mp hx).1
      rwa [List.length_map, List.length_range] at this
    exact ⟨En x0 y (some x) a5 a6 a7 a8 (some (.lst rs)) none none none none, rfl, (row_turn o hr (by omega) _ _ _ _ _ _ _ _ _ _).imp (Nat.le_refl _) fun c ⟨rs, hr, e⟩ => ⟨_, e, by omega, rs, _, hr, rfl⟩⟩
  refine dr_seqD (k1 := 40) (k2 := 110) (P := fun c => ∃ rs a4 a10, Rows rs 11 ∧ c = .nx (En x0 y a4 a5 a6 a7 a8 (some (.lst rs)) a10 none none none)) ?_ (fun c ⟨rs, a4, a10, hr, e⟩ => ⟨_, e, (rest_dr o hr (by decide) _ _ _ _ _ _ _ _ _ _).imp (by decide) fun c e => e⟩) (by decide)
  · refine dr_cforD (k1 := 1) (k2 := 36) (dr_range (lo := 0) (hi := 3) (by decide) ((dr_call (ev_cons (ev_var rfl) (ev_cons ev_c ev_nil)) rfl (next_nat (n := 4) (by decide) (by decide))).imp (Nat.le_refl _) fun x ⟨i, e, h⟩ => ⟨i, Nat.zero_le _, by omega, e⟩)) (fun ds ⟨n, _, h8, e⟩ => ?_) (by decide)
    subst e
    refine (for_dr (k := 12) (fun i env => i ≤ n ∧ ∃ rs a4 a10, Rows rs (8 + i) ∧ env = En x0 y a4 a5 a6 a7 a8 (some (.lst rs)) a10 none none none) _ 0 _ ⟨Nat.zero_le _, rs, a4, none, hr, rfl⟩ fun j x env hx ⟨hj, rs, a4, a10, hr, e⟩ => ?_).imp (by rw [List.length_map, List.length_range]; omega) fun c ⟨e', hc, hi, rs, a4, a10, hr, e⟩ => ⟨rs, a4, a10, ⟨hr.o, by have := hr.l; omega⟩, by rw [hc, e]⟩
    subst e
    have hjn : j < n := by
      have := (List.getElem?_eq_some_iff.mp hx).1
      rwa [List.length_map, List.length_range] at this
    exact ⟨En x0 y (some x) a5 a6 a7 a8 (some (.lst rs)) a10 none none none, rfl, (ins_turn o hr (by omega) _ _ _ _ _ _ _ _ _ _).imp (Nat.le_refl _) fun c ⟨rs, a10, hr, e⟩ => ⟨_, e, by omega, rs, _, a10, hr, rfl⟩⟩
theorem law_math (ns : List Int) : Wp (b_law (some (.ro (ns.map D.int)) :: some .st :: List.replicate 12 none) (begunD ns)) fun c _ => c = .ret (.bl true) :=
  ((law_runs ns).run (begunD ns) (DOk.begun ns) (show (0 : Int) + (400 : Nat) ≤ 2 ^ 40 by decide)).imp fun c d ⟨_, _, h⟩ => h
end
end Cm
end
section
theorem K3.math : K3.Math := fun ns _ => Cm.law_math ns
end
set_option Elab.async false
set_option linter.all false
set_option maxRecDepth 100000
set_option maxHeartbeats 0
namespace K3
open PySem PySem.Spec PyProof.Rows L2 Mir Cm
theorem head_of {l : PySem.W.OpenLaw} {w : World} {K : PySem.W.Frag} {h : Heap} {mg : Str → Option Value} {fa : Addr} (M : Math) (X : K.In h) (G : h.Ns mainGlobals mg) (hfa : mg "law" = some (.ref fa)) (c : Hd.SaysM ex tf (LL.fns more) h K) :
    ∃ (T : Tab) (cs : List (Addr × Addr)) (fd : FuncData), (∀ p ∈ T.T, ∃ r ∈ cs, r.2 = p.1) ∧ (∀ p ∈ cs, h.get? p.2 = some { cls := .none, data := .fields #[] }) ∧ (∀ p ∈ cs, K.lookup p.2 = none) ∧ (∀ p ∈ cs, PySem.W.CodeHd h p.1 p.2) ∧ (∀ (s : Shared) (v : Value), BindsTo s fd ⟨[v], []⟩ [("script", v)]) ∧ ∀ base : Heap, K.In base → base.Ns mainGlobals mg → (∀ p ∈ cs, LamX.TabB base mg p.1 p.2) → FnG l.prog w K mg base 9 fa fd ["script"] (@spLaw3 T K) := by
  have s : Hd.Say LL more K h mg := ⟨X, G, (He.ba c.more).1, c.fn⟩
  have k0 := Hd.ex_of (He.ba c.more).2 0 rfl
  have k1 := Hd.ex_of (He.ba c.more).2 1 rfl
  have k2 := Hd.ex_of (He.ba c.more).2 2 rfl
  have k3 := Hd.ex_of (He.ba c.more).2 3 rfl
  have k4 := Hd.ex_of (He.ba c.more).2 4 rfl
  have aC_NoPan := He.eqO_ok (Hd.nt k0 0 rfl)
  have iC_NoPan := Hd.nt k0 1 rfl
  have tC_NoPan := of_decide_eq_true (Hd.nt k0 2 rfl)
  have ga_NoPan := He.eqO_ok (Hd.nt k0 3 rfl)
  have gg_NoPan := He.eqO_ok (Hd.nt k0 4 rfl)
  have eC_NoPan := of_decide_eq_true (Hd.nt k0 5 rfl)
  have hD_NoPan := Hd.nt k0 6 rfl
  have cl_NoPan := He.eqO_ok (Hd.nt k0 7 rfl)
  have mo_NoPan := of_decide_eq_true (Hd.nt k0 8 rfl)
  have oc_get := He.eqO_ok (Hd.nt k0 9 rfl)
  have oc_tk := of_decide_eq_true (Hd.nt k0 10 rfl)
  have aC_BeamError := He.eqO_ok (Hd.nt k0 11 rfl)
  have iC_BeamError := Hd.nt k0 12 rfl
  have tC_BeamError := of_decide_eq_true (Hd.nt k0 13 rfl)
  have xL_NoPan := Hd.ex_at (Hd.nt k0 14 rfl)
  have xs_NoPan := He.eqO_ok (Hd.nt k0 15 rfl)
  have xk_NoPan := Hd.nt k0 16 rfl
  have xn_NoPan := He.eqO_ok (Hd.nt k0 17 rfl)
  have a_ex_NoPan := He.eqO_ok (Hd.nt k0 18 rfl)
  have xt_NoPan := of_decide_eq_true (Hd.nt k0 19 rfl)
  have l_ex_NoPan := Hd.fn_at (s.mo 0 rfl)
  have c_ex_NoPan := Hd.nt k1 0 rfl
  have k_ex_NoPan := Hd.nt k1 1 rfl
  have br_BeamError := Hd.nt k1 2 rfl
  have bg_BeamError := He.eqO_ok (Hd.nt k1 3 rfl)
  have bv_BeamError := Hd.fc_ok (Hd.nt k1 4 rfl)
  have aC_NoBeam := He.eqO_ok (Hd.nt k1 5 rfl)
  have iC_NoBeam := Hd.nt k1 6 rfl
  have tC_NoBeam := of_decide_eq_true (Hd.nt k1 7 rfl)
  have ga_NoBeam := He.eqO_ok (Hd.nt k1 8 rfl)
  have gg_NoBeam := He.eqO_ok (Hd.nt k1 9 rfl)
  have eC_NoBeam := of_decide_eq_true (Hd.nt k1 10 rfl)
  have hD_NoBeam := Hd.nt k1 11 rfl
  have cl_NoBeam := He.eqO_ok (Hd.nt k1 12 rfl)
  have mo_NoBeam := of_decide_eq_true (Hd.nt k1 13 rfl)
  have xL_NoBeam := Hd.ex_at (Hd.nt k1 14 rfl)
  have xs_NoBeam := He.eqO_ok (Hd.nt k1 15 rfl)
  have xk_NoBeam := Hd.nt k1 16 rfl
  have xn_NoBeam := He.eqO_ok (Hd.nt k1 17 rfl)
  have a_ex_NoBeam := He.eqO_ok (Hd.nt k1 18 rfl)
  have xt_NoBeam := of_decide_eq_true (Hd.nt k1 19 rfl)
  have l_ex_NoBeam := Hd.fn_at (s.mo 1 rfl)
  have c_ex_NoBeam := Hd.nt k2 0 rfl
  have k_ex_NoBeam := Hd.nt k2 1 rfl
  have s_NoPan_NoBeam := of_decide_eq_true (Hd.nt k2 2 rfl)
  have s_NoPan_NoPan := of_decide_eq_true (Hd.nt k2 3 rfl)
  have s_NoBeam_NoBeam := of_decide_eq_true (Hd.nt k2 4 rfl)
  have s_NoBeam_NoPan := of_decide_eq_true (Hd.nt k2 5 rfl)
  have a_WORDS := He.eqO_ok (Hd.nt k2 6 rfl)
  have o_WORDS := Hd.tp_at (Hd.nt k2 7 rfl)
  have aC_NoRow := He.eqO_ok (Hd.nt k2 8 rfl)
  have iC_NoRow := Hd.nt k2 9 rfl
  have tC_NoRow := of_decide_eq_true (Hd.nt k2 10 rfl)
  have ga_NoRow := He.eqO_ok (Hd.nt k2 11 rfl)
  have gg_NoRow := He.eqO_ok (Hd.nt k2 12 rfl)
  have eC_NoRow := of_decide_eq_true (Hd.nt k2 13 rfl)
  have hD_NoRow := Hd.nt k2 14 rfl
  have cl_NoRow := He.eqO_ok (Hd.nt k2 15 rfl)
  have mo_NoRow := of_decide_eq_true (Hd.nt k2 16 rfl)
  have xL_NoRow := Hd.ex_at (Hd.nt k2 17 rfl)
  have xs_NoRow := He.eqO_ok (Hd.nt k2 18 rfl)
  have xk_NoRow := Hd.nt k2 19 rfl
  have xn_NoRow := He.eqO_ok (Hd.nt k3 0 rfl)
  have a_ex_NoRow := He.eqO_ok (Hd.nt k3 1 rfl)
  have xt_NoRow := of_decide_eq_true (Hd.nt k3 2 rfl)
  have l_ex_NoRow := Hd.fn_at (s.mo 2 rfl)
  have c_ex_NoRow := Hd.nt k3 3 rfl
  have k_ex_NoRow := Hd.nt k3 4 rfl
  have s_NoBeam_NoRow := of_decide_eq_true (Hd.nt k3 5 rfl)
  have ne_NoBeam_NoRow := of_decide_eq_true (Hd.nt k3 6 rfl)
  have s_NoPan_NoRow := of_decide_eq_true (Hd.nt k3 7 rfl)
  have ne_NoPan_NoRow := of_decide_eq_true (Hd.nt k3 8 rfl)
  have s_NoRow_NoRow := of_decide_eq_true (Hd.nt k3 9 rfl)
  have eC_BeamError := of_decide_eq_true (Hd.nt k3 10 rfl)
  have s_NoRow_BeamError := of_decide_eq_true (Hd.nt k3 11 rfl)
  have s_NoPan_BeamError := of_decide_eq_true (Hd.nt k3 12 rfl)
  have s_NoBeam_BeamError := of_decide_eq_true (Hd.nt k3 13 rfl)
  have ne_NoBeam_NoPan := of_decide_eq_true (Hd.nt k3 14 rfl)
  have ne_NoPan_NoBeam := of_decide_eq_true (Hd.nt k3 15 rfl)
  have s_NoRow_NoBeam := of_decide_eq_true (Hd.nt k3 16 rfl)
  have ne_NoRow_NoBeam := of_decide_eq_true (Hd.nt k3 17 rfl)
  have s_NoRow_NoPan := of_decide_eq_true (Hd.nt k3 18 rfl)
  have ne_NoRow_NoPan := of_decide_eq_true (Hd.nt k3 19 rfl)
  have a_law := He.eqO_ok (Hd.nt k4 0 rfl)
  have l_law := Hd.fn_atC (s.mo 3 rfl) (of_decide_eq_true (Hd.nt k4 1 rfl))
  have c_law := Hd.nt k4 2 rfl
  have k_law := Hd.nt k4 3 rfl
  have t1_law := Hd.cd_at (Hd.nt k4 4 rfl)
  have t2_law := of_decide_eq_true (Hd.nt k4 5 rfl)
  have t3_law := Hd.nt k4 6 rfl
  have t4_law := Hd.no_ok (Hd.nt k4 7 rfl)
  let TT : Tab := ⟨[((He.tabOf K (He.codeOf K ("law", none))), "law" ++ ".<locals>." ++ "<lambda>")], fun x => none, look_ok (show (([((He.tabOf K (He.codeOf K ("law", none))), "law" ++ ".<locals>." ++ "<lambda>")] : List (Addr × Str)).map (·.1)).Nodup from (by simp))⟩
  have e := hfa.symm.trans (PySem.W.mg_of X G a_law)
  cases e
  have T : @Top TT K mg := {
    B := fun x hx => s.fr (List.mem_append_left _ hx)
    d__law_begun := s.df 0 rfl
    d_is_name := s.df 1 rfl
    g_SMALL := s.gs 0 rfl
    g_LONGEST := s.gi 0 rfl
    d_is_whole := s.df 2 rfl
    d_is_from := s.df 3 rfl
    d_are_names := s.df 4 rfl
    d_is_beam := s.df 5 rfl
    g_MOST_STEP := s.gi 1 rfl
    d_are_beams := s.df 6 rfl
    g_MOST_BEAMS := s.gi 2 rfl
    d_tuples_of := s.df 7 rfl
    d_Yard_init := s.di 0 rfl
    g_MOST_THINGS := s.gi 3 rfl
    g_MOST_LEAN := s.gi 4 rfl
    g_MOST_WEIGHT := s.gi 5 rfl
    g_MOST_TUPLES := s.gi 6 rfl
    f_Yard_thing_names := s.hf 0 rfl
    f_Yard_beam_steps := s.hf 1 rfl
    f_Yard_heaviest := s.hf 2 rfl
    f_Yard_farthest := s.hf 3 rfl
    d_Yard_things := s.dm 0 rfl
    d_Yard_beams := s.dm 1 rfl
    d_pans := s.df 8 rfl
    d_need_pan := s.df 9 rfl
    d_need_beam := s.df 10 rfl
    d_ex_NoPan := ⟨_, _, _, PySem.W.mg_of X G aC_NoPan, ⟨⟨_, _, _, _, _, _, _, _, _, _, _, _, _, _, _, xL_NoPan, refsVE_one _⟩, xs_NoPan, eC_NoPan, tC_NoPan, xk_NoPan⟩, xn_NoPan, a_ex_NoPan, xt_NoPan, (fun_mk (st := s_NoPan_init) l_ex_NoPan c_ex_NoPan k_ex_NoPan)⟩
    b_BeamError := ⟨_, PySem.W.mg_of X G aC_BeamError, ⟨br_BeamError, bg_BeamError, bv_BeamError⟩⟩
    d_ex_NoBeam := ⟨_, _, _, PySem.W.mg_of X G aC_NoBeam, ⟨⟨_, _, _, _, _, _, _, _, _, _, _, _, _, _, _, xL_NoBeam, refsVE_one _⟩, xs_NoBeam, eC_NoBeam, tC_NoBeam, xk_NoBeam⟩, xn_NoBeam, a_ex_NoBeam, xt_NoBeam, (fun_mk (st := s_NoBeam_init) l_ex_NoBeam c_ex_NoBeam k_ex_NoBeam)⟩
    d_are_parts := s.df 11 rfl
    ct2_NoBeam_NoPan := catT2_one (PySem.W.mg_of X G aC_NoBeam) (PySem.W.mg_of X G aC_NoPan) (fun e he => by
      simp only [List.mem_cons, List.not_mem_nil, or_false] at he
      rcases he with rfl | rfl
      · exact ⟨_, PySem.W.mg_of X G aC_NoPan, exm_any2 (exm_subv eC_NoBeam iC_NoBeam tC_NoBeam s_NoPan_NoBeam) (exm_subv eC_NoPan iC_NoPan tC_NoPan s_NoPan_NoPan) rfl⟩
      · exact ⟨_, PySem.W.mg_of X G aC_NoBeam, exm_any2 (exm_subv eC_NoBeam iC_NoBeam tC_NoBeam s_NoBeam_NoBeam) (exm_subv eC_NoPan iC_NoPan tC_NoPan s_NoBeam_NoPan) rfl⟩)
    d_is_weighing := s.df 12 rfl
    d_is_row := s.df 13 rfl
    g_WORDS := ⟨.ref (He.ga K "WORDS"), _, PySem.W.mg_of X G a_WORDS, rfl, fun S G => .rot (vs := [.str "left", .str "even", .str "right"]) (.inr ⟨_, _, _, o_WORDS, rfl, rfl, (show 3 ≤ sizeLine by decide), (.cons ⟨_, rfl⟩ (.cons ⟨_, rfl⟩ (.cons ⟨_, rfl⟩ .nil)))⟩) (.cons (.str _) (.cons (.str _) (.cons (.str _) .nil)))⟩
    d_need_log := s.df 14 rfl
    d_ex_NoRow := ⟨_, _, _, PySem.W.mg_of X G aC_NoRow, ⟨⟨_, _, _, _, _, _, _, _, _, _, _, _, _, _, _, xL_NoRow, refsVE_one _⟩, xs_NoRow, eC_NoRow, tC_NoRow, xk_NoRow⟩, xn_NoRow, a_ex_NoRow, xt_NoRow, (fun_mk (st := s_NoRow_init) l_ex_NoRow c_ex_NoRow k_ex_NoRow)⟩
    d_weighings_at := s.df 15 rfl
    d_weighings := s.df 16 rfl
    d__law_next := s.df 17 rfl
    d__law_pick := s.df 18 rfl
    d__law_names := s.df 19 rfl
    d__law_row := s.df 20 rfl
    d__law_weighing := s.df 21 rfl
    d__law_is_parts := s.df 22 rfl
    d__law_is_weighing := s.df 23 rfl
    d__law_is_row := s.df 24 rfl
    d__law_odd := s.df 25 rfl
    d__law_item := s.df 26 rfl
    d__law_all := s.df 27 rfl
    d__law_refused := s.df 28 rfl
    ix_NoRow := ⟨_, PySem.W.mg_of X G aC_NoRow, (isTab_cons (PySem.W.mg_of X G aC_NoRow) ⟨ga_NoRow, gg_NoRow, eC_NoRow, hD_NoRow, cl_NoRow, oc_get, oc_tk, mo_NoRow⟩ (kit_sub iC_NoRow tC_NoRow s_NoRow_NoRow (fun _ => rfl)) (isTab_cons (PySem.W.mg_of X G aC_NoPan) ⟨ga_NoPan, gg_NoPan, eC_NoPan, hD_NoPan, cl_NoPan, oc_get, oc_tk, mo_NoPan⟩ (kit_sub iC_NoRow tC_NoRow s_NoPan_NoRow (fun e => absurd e ne_NoPan_NoRow)) (isTab_cons (PySem.W.mg_of X G aC_NoBeam) ⟨ga_NoBeam, gg_NoBeam, eC_NoBeam, hD_NoBeam, cl_NoBeam, oc_get, oc_tk, mo_NoBeam⟩ (kit_sub iC_NoRow tC_NoRow s_NoBeam_NoRow (fun e => absurd e ne_NoBeam_NoRow)) isTab_nil)))⟩
    xf_NoRow_at := ⟨_, PySem.W.mg_of X G aC_NoRow, ⟨ga_NoRow, gg_NoRow, eC_NoRow, hD_NoRow⟩, xn_NoRow⟩
    ct_BeamError := ⟨_, PySem.W.mg_of X G aC_BeamError, fun e he => by
      simp only [List.mem_cons, List.not_mem_nil, or_false] at he
      rcases he with rfl | rfl | rfl
      · exact ⟨_, PySem.W.mg_of X G aC_NoRow, exm_sub eC_BeamError iC_BeamError tC_BeamError s_NoRow_BeamError⟩
      · exact ⟨_, PySem.W.mg_of X G aC_NoPan, exm_sub eC_BeamError iC_BeamError tC_BeamError s_NoPan_BeamError⟩
      · exact ⟨_, PySem.W.mg_of X G aC_NoBeam, exm_sub eC_BeamError iC_BeamError tC_BeamError s_NoBeam_BeamError⟩⟩
    ixs_NoBeam_NoPan := isXs2 (PySem.W.mg_of X G aC_NoBeam) (PySem.W.mg_of X G aC_NoPan) (isTabs_cons (PySem.W.mg_of X G aC_NoRow) ⟨ga_NoRow, gg_NoRow, eC_NoRow, hD_NoRow, cl_NoRow, oc_get, oc_tk, mo_NoRow⟩ (kitAny_cons (kit_sub iC_NoBeam tC_NoBeam s_NoRow_NoBeam (fun e => absurd e ne_NoRow_NoBeam)) (kitAny_cons (kit_sub iC_NoPan tC_NoPan s_NoRow_NoPan (fun e => absurd e ne_NoRow_NoPan)) rfl)) (isTabs_cons (PySem.W.mg_of X G aC_NoPan) ⟨ga_NoPan, gg_NoPan, eC_NoPan, hD_NoPan, cl_NoPan, oc_get, oc_tk, mo_NoPan⟩ (kitAny_cons (kit_sub iC_NoBeam tC_NoBeam s_NoPan_NoBeam (fun e => absurd e ne_NoPan_NoBeam)) (kitAny_cons (kit_sub iC_NoPan tC_NoPan s_NoPan_NoPan (fun _ => rfl)) rfl)) (isTabs_cons (PySem.W.mg_of X G aC_NoBeam) ⟨ga_NoBeam, gg_NoBeam, eC_NoBeam, hD_NoBeam, cl_NoBeam, oc_get, oc_tk, mo_NoBeam⟩ (kitAny_cons (kit_sub iC_NoBeam tC_NoBeam s_NoBeam_NoBeam (fun _ => rfl)) (kitAny_cons (kit_sub iC_NoPan tC_NoPan s_NoBeam_NoPan (fun e => absurd e ne_NoBeam_NoPan)) rfl)) isTabs_nil))) }
  have F := (fun_mk (st := s_law) l_law c_law k_law)
  refine ⟨TT, [((He.codeOf K ("law", none)), (He.tabOf K (He.codeOf K ("law", none))))], PySem.W.fnOf "law" "law" (defArgs s_law) (defBody s_law) (defScope s_law) .none _ _ _ _ _ _, fun p hp => ?_, fun p hp => ?_, fun p hp => ?_, fun p hp => ?_, fun s v => .of_eq rfl, fun base _ _ TBs => ok_law T M (rfl) (rfl) F ⟨_, _, rfl, TBs _ (List.mem_cons_self), List.mem_cons_self⟩⟩
  · have hp : p ∈ ([((He.tabOf K (He.codeOf K ("law", none))), "law" ++ ".<locals>." ++ "<lambda>")] : List (Addr × Str)) := hp
    simp only [List.mem_cons, List.not_mem_nil, or_false] at hp
    rcases hp with rfl
    · exact ⟨_, List.mem_cons_self, rfl⟩
  · simp only [List.mem_cons, List.not_mem_nil, or_false] at hp
    rcases hp with rfl
    · exact c.empty ("law", none) (List.mem_cons_self)
  · simp only [List.mem_cons, List.not_mem_nil, or_false] at hp
    rcases hp with rfl
    · exact t4_law
  · simp only [List.mem_cons, List.not_mem_nil, or_false] at hp
    rcases hp with rfl
    · exact PySem.W.codeHd_of_K X (codeVs_hd t1_law t3_law)
end K3
open PySem PySem.W PyProof.Rows
set_option maxRecDepth 100000 in
set_option maxHeartbeats 0 in
theorem PySem.Challenge.cw_wearybeams_k02_weighings_and_rows_holds : PySem.Challenge.rw_wearybeams_k02_weighings_and_rows.Holds := by
  w_on; o_law
  refine HandSHeadRun.head_any (r := OpenLaw.row PySem.Challenge.rw_wearybeams_k02_weighings_and_rows) (q := view (OpenLaw.row PySem.Challenge.rw_wearybeams_k02_weighings_and_rows).prog [53]) (H := K3.hk) (ob := K3.ob) (M := 100000) (loose := K3.loose) (d := HandSHeadRun.topDef (OpenLaw.row PySem.Challenge.rw_wearybeams_k02_weighings_and_rows).prog 53) (kwd := []) K3.ob_eq
    (by kernel_rfl) (fun s => by kernel_rfl) K3.run (by kernel_rfl) (by kernel_rfl) (by kernel_rfl) (by rfl) (by first | assumption | decide +kernel) (by decide +kernel) ⟨rfl, rfl, rfl, rfl, rfl, by decide +kernel⟩ ?hw ?hc
  case hw => w_witness2
  case hc =>
    refine Mir.walk_ofTE (l := PySem.Challenge.rw_wearybeams_k02_weighings_and_rows) (n := 63) (k := 9) (x := "script") (sp := @K3.spLaw3) rfl (by decide) (by kernel_rfl) ⟨rfl, by decide, by decide⟩ ?F (fun T _ _ a ns hl _ hT hS => ⟨a, ns, rfl, hS, hl, hT, fun _ => rfl⟩)
    intro w mg fa h Y G hmg0
    obtain ⟨K, KX, c⟩ := Y
    have hmg : mg ("law" : PySem.Str) = some (.ref fa) := by
      have e : (HandSHeadRun.topDef (OpenLaw.row PySem.Challenge.rw_wearybeams_k02_weighings_and_rows).prog 53).name = ("law" : PySem.Str) := by kernel_rfl
      rw [← e]
      exact hmg0
    exact ⟨K, KX, K3.head_of K3.math KX G hmg c⟩
