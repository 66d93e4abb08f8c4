import PyProof.Rows.All
import HandS.ForMost
import HandS.ForExc
import HandS.CallSlots
import HandS.Defaults
import HandS.Lambda
import HandS.Ends
import HandS.More
import HandS.Words
import HandS.WordsExc
import HandS.Head0
import HandS.Head1
import HandS.Head2
import HandS.HeadEnd
import HandS.HeadHook1
import HandS.HeadHook2
import HandS.Property
import KE.KNestM
import KE.KExcSuper
import KE.KSuper
import HandS.Exc
import HandS.ExcField
import KE.KIsAll
import HandS.Flow
import HandS.Zip
import HandS.Deep
import HandS.TupAny
import HandS.Style
import HandS.IsInst
import HandS.Wide
import HandS.Text
import HandS.Dict
import HandS.Strs
import HandS.Codes
import HandS.DictComp
import KE.KSortKeySt
import HandS.SortKw
import HandS.Star
import HandS.NoneIn
import KE.GoesEnum
import HandS.Conv
import HandS.TupMul
import HandS.SlotsOwn
import OpenK.KMeth
import HandS.ListItems
import KE.KDictPairs
import HandS.Iter
import HandS.TupLen
import HandS.WordsDict
import PyProof.ReprRoads
import PyProof.ReprLen
import HandS.Flt
import HandS.WideBits
import KE.KDictItemsList
import KE.KDictZip
import HandS.NamedTupGet
import HandS.DictEq
import HandS.DeepEq
import KE.SortData
import KE.KMinKey
import PyProof.WalksMore
import KE.KDictDisplayH
import HandS.Zip0
import KE.KDictList
import KE.DataMinMax
import HandS.ExcInit
import HandS.ExcIs
import HandS.ExcSuper
import KE.KExcIs
import HandS.RaiseMore
import PyProof.Rows.StrRev
import PySem.Challenge.RW_stretchneeds_k00_errors_and_what_they_ke
set_option Elab.async false
set_option linter.all false
set_option maxRecDepth 100000
set_option maxHeartbeats 0
namespace Mi
open PySem PySem.Spec PyProof.Rows L2
abbrev Ck := PySem.W.Frag → Bool
structure DefM where
  adr : PySem.W.Frag → Addr
  name : Str
  qual : Str
  params : Arguments
  body : List Stmt
  scope : Scope
  dfl : List He.Dv
def DefM.val (d : DefM) : He.FnW := some (d.name, d.qual, d.params, .stmts d.body, d.scope, mainGlobals, [], builtinsNs)
def fnWM (K : PySem.W.Frag) (a : Addr) : He.FnW := match K.lookup a with
  | none => none
  | some o => match o.data with
    | .func z => some (z.name, z.qualname, z.params, z.body, z.scope, z.globals, z.closure, z.builtins)
    | _ => none
def DefM.ok (K : PySem.W.Frag) (d : DefM) : Bool := PySem.W.keepIn K (.ref (d.adr K)) && (match K.lookup (d.adr K) with
  | none => false
  | some o => match o.data with
    | .func z => PySem.W.codeIn K z.code d.qual && He.dflB K z.defaults (d.dfl.map (He.Dv.v K))
    | _ => false)
theorem DefM.funD {K : PySem.W.Frag} {d : DefM} (e : fnWM K (d.adr K) = d.val) (c : d.ok K = true) : ∃ fd, FunD K d.name d.qual d.params d.body d.scope (d.dfl.map (He.Dv.v K)) [] (d.adr K) fd := by
  obtain ⟨kp, c2⟩ := He.ba c
  unfold fnWM at e
  cases q : K.lookup (d.adr K) with
  | none => rw [q] at e; exact nomatch (show (none : He.FnW) = some _ from e)
  | some o =>
    obtain ⟨oc, od, dt, osl⟩ := o
    rw [q] at c2 e
    cases dt with
    | func fd =>
      obtain ⟨n1, n2, n3, n4, n5, n6, n7, n8, n9, n10, n11, n12, n13, n14, n15⟩ := fd
      have e2 : (some (n1, n2, n3, n4, n5, n6, n7, n15) : He.FnW) = some (d.name, d.qual, d.params, .stmts d.body, d.scope, mainGlobals, [], builtinsNs) := e
      rw [Option.some.injEq, Prod.mk.injEq, Prod.mk.injEq, Prod.mk.injEq, Prod.mk.injEq, Prod.mk.injEq, Prod.mk.injEq, Prod.mk.injEq] at e2
      obtain ⟨h1, h2, h3, h4, h5, h6, h7, h8⟩ := e2
      subst h1 h2 h3 h4 h5 h6 h7 h8
      obtain ⟨k1, k2⟩ := He.ba (show (PySem.W.codeIn K n13 d.qual && He.dflB K n8 (d.dfl.map (He.Dv.v K))) = true from c2)
      exact ⟨_, ⟨oc, od, n8, n9, n10, n11, n12, n13, n14, osl, rfl, q, k1, He.dflB_ok k2, .inl rfl⟩, kp⟩
    | _ => cases c2
abbrev AlM : Type := Bool × List He.FnW
def obsM (fa : List He.Fa) (fn : List DefM) (ck : List Ck) (K : PySem.W.Frag) : AlM := ((fa.all fun f => f.ok K) && (fn.all fun d => d.ok K) && ck.all fun c => c K, fn.map fun d => fnWM K (d.adr K))
def valM (fn : List DefM) : AlM := (true, fn.map DefM.val)
def SaysM (fa : List He.Fa) (fn : List DefM) (ck : List Ck) (K : PySem.W.Frag) : Prop := obsM fa fn ck K = valM fn
end Mi
namespace Mi
open PySem PySem.Spec PyProof.Rows L2
def noTab : Obj → Bool
  | ⟨.none, none, .fields vs, sl⟩ => vs.isEmpty && sl.isEmpty
  | _ => false
def frE (g : Addr → Option Obj) (as : List Addr) : PySem.W.Frag := (He.frG g as).filter fun q => !noTab q.2
def cdAt (K : PySem.W.Frag) (f : Addr) : Addr := match K.lookup f with
  | some ⟨_, _, .func fd, _⟩ => (match fd.code with
    | .ref c => c
    | _ => 0)
  | _ => 0
def tbAt (K : PySem.W.Frag) (f : Addr) : Addr := match K.lookup (cdAt K f) with
  | some ⟨_, _, .fields vs, _⟩ => (match vs.getD 11 .none with
    | .ref P => P
    | _ => 0)
  | _ => 0
def ckTab (ad : PySem.W.Frag → Addr) : Ck := fun K => PySem.W.codeHdIn K (cdAt K (ad K)) (tbAt K (ad K)) && (decide (tbAt K (ad K) ≠ mainGlobals) && ((K.lookup (tbAt K (ad K))).isNone && (match K.lookup (He.ga K "__builtins__") with
  | some ⟨.type m, some dd, .plain, _⟩ => decide (m = "module") && (decide (dd = builtinsNs) && (decide (He.ga K "__builtins__" ≠ builtinsNs) && (decide (He.ga K "__builtins__" ≠ mainGlobals) && decide (He.ga K "__builtins__" ≠ tbAt K (ad K)))))
  | _ => false)))
def ckTabs (ads : List (PySem.W.Frag → Addr)) : Ck := fun K => decide ((ads.map fun ad => tbAt K (ad K)).Nodup)
abbrev AlE : Type := AlM × Bool
def emptyAt (g : Addr → Option Obj) (P : Addr) : Bool := match g P with
  | some o => noTab o
  | none => false
theorem frE_in {as : List Addr} {h : Heap} : (frE h.get? as).In h := by
  have mem : ∀ {a : Addr} {o : Obj} {l : List (Addr × Obj)}, l.lookup a = some o → (a, o) ∈ l := fun {a o l} => by
    induction l with
    | nil => intro z; cases z
    | cons q l ih =>
      intro z
      obtain ⟨b, u⟩ := q
      rw [List.lookup_cons] at z
      split at z
      · rename_i e
        cases z
        rw [eq_of_beq e]
        exact List.mem_cons_self
      · exact List.mem_cons_of_mem _ (ih z)
  intro a o e
  have h1 := (List.mem_filter.mp (mem e)).1
  unfold He.frG at h1
  obtain ⟨b, _, e2⟩ := List.mem_filterMap.mp h1
  cases q : h.get? b with
  | none => rw [q] at e2; cases e2
  | some u =>
    rw [q] at e2
    cases e2
    exact q
theorem noTab_eq {o : Obj} (h : noTab o = true) : o = { cls := .none, data := .fields #[] } := by
  unfold noTab at h
  split at h
  · rename_i vs sl
    rw [Bool.and_eq_true] at h
    rw [Array.isEmpty_iff.mp h.1, Array.isEmpty_iff.mp h.2]
  · cases h
theorem emptyAt_ok {g : Addr → Option Obj} {P : Addr} (h : emptyAt g P = true) : g P = some { cls := .none, data := .fields #[] } := by
  unfold emptyAt at h
  split at h
  · rename_i o e
    rw [e, noTab_eq h]
  · cases h
def SaysE (fa : List He.Fa) (fn : List DefM) (ck : List Ck) (tf : List (PySem.W.Frag → Addr)) (h : Heap) (K : PySem.W.Frag) : Prop := SaysM fa fn ck K ∧ ∀ ad ∈ tf, h.get? (tbAt K (ad K)) = some { cls := .none, data := .fields #[] }
abbrev TbL : Type := List ((PySem.W.Frag → Addr) × Str)
def tabl (l : TbL) (K : PySem.W.Frag) : List (Addr × Str) := l.map fun z => (tbAt K (z.1 K), z.2)
def ckAll (l : TbL) : Ck := fun K => ((l.map (·.1)).all fun ad => ckTab ad K) && ckTabs (l.map (·.1)) K
end Mi
namespace Mi
open PySem PySem.Spec PyProof.Rows L2
def obsA (as : List Addr) (fa : List He.Fa) (fn : List DefM) (ck : List Ck) (tf : List (PySem.W.Frag → Addr)) (g : Addr → Option Obj) : AlE :=
  (obsM fa fn ck (frE g as), tf.all fun ad => emptyAt g (tbAt (frE g as) (ad (frE g as))))
def hookA (as : List Addr) (fa : List He.Fa) (fn : List DefM) (ck : List Ck) (tf : List (PySem.W.Frag → Addr)) : PySem.W.Hook where
  α := AlE
  obs := fun s => obsA as fa fn ck tf s.heap.get?
  val := fun _ => (valM fn, true)
  says := fun _ h => ∃ K : PySem.W.Frag, K.In h ∧ SaysE fa fn ck tf h K
  of := fun _ _ e => ⟨_, frE_in, congrArg Prod.fst e, fun ad hm => emptyAt_ok (List.all_eq_true.mp (congrArg Prod.snd e) ad hm)⟩
  keeps := fun _ _ _ ⟨K, hK, c⟩ k => ⟨K, PySem.W.Frag.In.keeps hK k, c.1, fun ad hm => k _ _ (c.2 ad hm)⟩
theorem obsA_eq {as : List Addr} {fa : List He.Fa} {fn : List DefM} {ck : List Ck} {tf : List (PySem.W.Frag → Addr)} {g : Addr → Option Obj} {s : Shared} (h : ∀ a, g a = s.heap.get? a) : obsA as fa fn ck tf g = (hookA as fa fn ck tf).obs s := by
  have e : g = s.heap.get? := funext h
  subst e
  rfl
end Mi
namespace Mi
open PySem PySem.Spec PyProof.Rows L2
def bodB : FuncBody → Bool
  | .stmts [.Expr (.Call (.Attribute (.Call (.Name a _) [] [] _) b p3) [.Name c _] [] p5) _, .Assign [.Attribute (.Name d _) e _] (.Name f _) _] => decide (a = "super") && (decide (b = "__init__") && (decide (c = "value") && (decide (d = "self") && (decide (e = "value") && (decide (f = "value") && (p3.endLine == p5.line))))))
  | _ => false
def parB (p : Arguments) : Bool := match p with
  | ⟨[], [x, y], none, [], [], none, []⟩ => decide (x.arg = "self") && decide (y.arg = "value")
  | _ => false
def scB (sc : Scope) : Bool := decide (sc.kind = .function) && (!sc.isCoroutine && (!sc.isGenerator && ((sc.names.all fun x => !decide (x.2 = .cell)) && (decide (sc.names.lookup ("super" : Str) = some .globalImplicit) && (decide (sc.names.lookup ("__class__" : Str) = some .free) && (decide (sc.names.lookup ("self" : Str) = some .local) && decide (sc.names.lookup ("value" : Str) = some .local)))))))
def initK (K : PySem.W.Frag) (f D : Addr) : Bool := match K.lookup f with
  | some ⟨_, _, .func z, _⟩ => decide (z.name = "__init__") && (decide (z.qualname = "NeedError.__init__") && (parB z.params && (bodB z.body && (scB z.scope && (decide (z.globals = mainGlobals) && (decide (z.builtins = builtinsNs) && (match z.closure, z.code, z.defaults with
    | [(n, cc)], .ref cda, .none => decide (n = "__class__") && (PySem.W.codeIn K (.ref cda) "NeedError.__init__" && ((match K.lookup cda with
        | some ⟨_, _, .fields vs, _⟩ => (match (vs[2]? : Option Value) with
          | some (Value.str file _) => decide (file = "/claim/cut.py")
          | _ => false)
        | _ => false) && (match K.lookup cc with
        | some ⟨_, _, .cell (some (.ref D')), _⟩ => decide (D' = D)
        | _ => false)))
    | _, _, _ => false)))))))
  | _ => false
abbrev erD (K : PySem.W.Frag) : Addr := He.ga K "NeedError"
abbrev erI (K : PySem.W.Frag) : Addr := He.ma K (erD K) "__init__"
def oexB (K : PySem.W.Frag) (C : Addr) : Bool := match K.lookup C with
  | some ⟨.type t, _, .cls cd, sl⟩ => decide (t = "type") && (match cd.mro, sl.toList with
    | .ref C' :: bm, [_, _, _, _, some (.builtin n), _] => decide (C' = C) && (decide (n = "ValueError.__new__") && (!cd.hasDel && (PySem.HandSPX.refsVE bm && cd.hasDict)))
    | _, _ => false)
  | _ => false
def errB (K : PySem.W.Frag) (C D fI : Addr) : Bool := oexB K C && (He.eqO (PySem.W.findIn K (.ref C) "__setattr__") (some (some (.builtin "object.__setattr__"))) && (decide (PySem.W.subIn K (.ref C) (.type "BaseException") = some true) && (decide (PySem.W.typeIn K (.ref C) = some (.type "type")) && (PySem.W.keepIn K (.ref C) &&
  (He.eqO (PySem.W.findIn K (.ref C) "value") (some none) && (decide (PySem.W.mroIn K C (.ref D) = some true) && (He.eqO (PySem.W.ks_superIn K C D "__init__") (some (some (.builtin "ValueError.__init__"))) && (decide (PySem.W.subIn K (.ref C) (.type "ValueError") = some true) && (He.eqO (PySem.W.nsIn K cStatics "thirdparty.any") (some none) &&
  (xfB K C && ((PySem.W.clsIn K C).isSome && (He.eqO (PySem.W.findIn K (.ref C) "__class__") (some (some (.builtin "object.__class__"))) && (He.eqO (PySem.W.specialIn K (.builtin "object.__class__") "__get__") (some (some (.builtin "getset_descriptor.__get__"))) && (decide (PySem.W.takesIn K (.builtin "object.__class__") = some true) && (decide (PySem.W.mroIn K C (.type "object") = some true) &&
  (He.eqO (PySem.W.findIn K (.ref C) "__init__") (some (some (.ref fI))) && (decide (PySem.W.typeIn K (.ref fI) = some (.type "function")) && (decide (PySem.W.exmOne K (.ref C) (.ref D) = some true) && decide (PySem.W.kitOne K (.type "NoneType") (.ref C) = some false)))))))))))))))))))
def ckErr (x : Str) : Ck := fun K => errB K (He.ga K x) (erD K) (erI K)
def ckInit : Ck := fun K => initK K (erI K) (erD K) && (PySem.W.clsIn K (erD K)).isSome
def ckKit (x y : Str) (b : Bool) : Ck := fun K => decide (PySem.W.kitOne K (.ref (He.ga K x)) (.ref (He.ga K y)) = some b)
end Mi
namespace K00
open PySem PySem.Spec PyProof.Rows L2 Mi
def top (i : Nat) : Stmt := PySem.Challenge.pw_stretchneeds_k00_errors_and_what_they_ke.main.body.getD i (.Pass ⟨0, 0, 0, 0⟩)
abbrev s_ulaw_places : Stmt := (top 30)
abbrev s_ulaw_take : Stmt := (top 28)
abbrev s_ulaw_of : Stmt := (top 29)
abbrev s_ulaw_odd : Stmt := (top 32)
abbrev s_ulaw_bent : Stmt := (top 31)
abbrev s_ulaw_errors : Stmt := (top 33)
abbrev s_ulaw_marks : Stmt := (top 34)
abbrev s_ulaw_right : Stmt := (top 35)
abbrev s_ulaw_pot : Stmt := (top 27)
abbrev s_law : Stmt := (top 36)
def dummyD : DefM := ⟨fun _ => 0, "", "", defArgs (.Pass ⟨0, 0, 0, 0⟩), [], defScope (.Pass ⟨0, 0, 0, 0⟩), []⟩
def tbs : TbL := []
def fa : List He.Fa := [.free "len", .free "min", .free "max", .free "list", .free "range", .glo "_law_places", .keep "_law_places", .free "isinstance", .free "tuple", .free "int", .glo "_law_take", .keep "_law_take", .glo "_law_of", .keep "_law_of", .free "bool", .free "str", .glo "_law_odd", .keep "_law_odd", .glo "_law_bent", .keep "_law_bent", .glo "Full", .free "super", .glo "BadNeed", .glo "BadHour", .glo "NoWork", .glo "BadBook", .glo "BadDone", .glo "Apart", .glo "BadHands", .glo "NoDue", .glo "NoNeed", .glo "BadLot", .glo "BadOffers", .glo "NoPlan", .glo "BadBar", .glo "BadPlan", .glo "NothingToUndo", .glo "Behind", .glo "Hands", .glo "Early", .glo "Done", .glo "BadLine", .glo "BadJournal", .glo "NoTrial", .glo "NothingToRedo", .glo "_law_errors", .keep "_law_errors", .free "enumerate", .glo "NeedError", .free "ValueError", .free "repr", .glo "_law_marks", .keep "_law_marks", .glo "_law_right", .keep "_law_right", .free "abs", .glo "_law_pot", .keep "_law_pot", .free "all", .glo "law", .keep "law"]
def fn : List DefM := [⟨fun K => He.ga K "_law_places", "_law_places", "_law_places", defArgs s_ulaw_places, defBody s_ulaw_places, defScope s_ulaw_places, []⟩,
  ⟨fun K => He.ga K "_law_take", "_law_take", "_law_take", defArgs s_ulaw_take, defBody s_ulaw_take, defScope s_ulaw_take, []⟩,
  ⟨fun K => He.ga K "_law_of", "_law_of", "_law_of", defArgs s_ulaw_of, defBody s_ulaw_of, defScope s_ulaw_of, []⟩,
  ⟨fun K => He.ga K "_law_odd", "_law_odd", "_law_odd", defArgs s_ulaw_odd, defBody s_ulaw_odd, defScope s_ulaw_odd, []⟩,
  ⟨fun K => He.ga K "_law_bent", "_law_bent", "_law_bent", defArgs s_ulaw_bent, defBody s_ulaw_bent, defScope s_ulaw_bent, []⟩,
  ⟨fun K => He.ga K "_law_errors", "_law_errors", "_law_errors", defArgs s_ulaw_errors, defBody s_ulaw_errors, defScope s_ulaw_errors, []⟩,
  ⟨fun K => He.ga K "_law_marks", "_law_marks", "_law_marks", defArgs s_ulaw_marks, defBody s_ulaw_marks, defScope s_ulaw_marks, []⟩,
  ⟨fun K => He.ga K "_law_right", "_law_right", "_law_right", defArgs s_ulaw_right, defBody s_ulaw_right, defScope s_ulaw_right, []⟩,
  ⟨fun K => He.ga K "_law_pot", "_law_pot", "_law_pot", defArgs s_ulaw_pot, defBody s_ulaw_pot, defScope s_ulaw_pot, []⟩,
  ⟨fun K => He.ga K "law", "law", "law", defArgs s_law, defBody s_law, defScope s_law, []⟩]
def ck : List Ck := [ckErr "Full", ckInit, ckErr "BadNeed", ckErr "BadHour", ckErr "NoWork", ckErr "BadBook", ckErr "BadDone", ckErr "Apart", ckErr "BadHands", ckErr "NoDue", ckErr "NoNeed", ckErr "BadLot", ckErr "BadOffers", ckErr "NoPlan", ckErr "BadBar", ckErr "BadPlan", ckErr "NothingToUndo", ckErr "Behind", ckErr "Hands", ckErr "Early", ckErr "Done", ckErr "BadLine", ckErr "BadJournal", ckErr "NoTrial", ckErr "NothingToRedo", ckErr "NeedError", ckKit "BadLine" "NeedError" true, ckKit "BadJournal" "NeedError" true, ckKit "NoTrial" "NeedError" true, ckKit "NothingToRedo" "NeedError" true, ckKit "NothingToUndo" "NeedError" true, ckKit "Behind" "NeedError" true, ckKit "Hands" "NeedError" true, ckKit "Early" "NeedError" true, ckKit "Done" "NeedError" true, ckKit "BadLot" "NeedError" true, ckKit "BadOffers" "NeedError" true, ckKit "NoPlan" "NeedError" true, ckKit "BadBar" "NeedError" true, ckKit "BadPlan" "NeedError" true, ckKit "BadDone" "NeedError" true, ckKit "Apart" "NeedError" true, ckKit "BadHands" "NeedError" true, ckKit "NoDue" "NeedError" true, ckKit "NoNeed" "NeedError" true, ckKit "Full" "NeedError" true, ckKit "BadNeed" "NeedError" true, ckKit "BadHour" "NeedError" true, ckKit "NoWork" "NeedError" true, ckKit "BadBook" "NeedError" true, ckKit "NeedError" "NeedError" true, (fun K => decide (PySem.W.kitOne K (.ref (He.ga K "BadLine")) (.type "ValueError") = some true)), (fun K => decide (PySem.W.kitOne K (.ref (He.ga K "BadJournal")) (.type "ValueError") = some true)), (fun K => decide (PySem.W.kitOne K (.ref (He.ga K "NoTrial")) (.type "ValueError") = some true)), (fun K => decide (PySem.W.kitOne K (.ref (He.ga K "NothingToRedo")) (.type "ValueError") = some true)), (fun K => decide (PySem.W.kitOne K (.ref (He.ga K "NothingToUndo")) (.type "ValueError") = some true)), (fun K => decide (PySem.W.kitOne K (.ref (He.ga K "Behind")) (.type "ValueError") = some true)), (fun K => decide (PySem.W.kitOne K (.ref (He.ga K "Hands")) (.type "ValueError") = some true)), (fun K => decide (PySem.W.kitOne K (.ref (He.ga K "Early")) (.type "ValueError") = some true)), (fun K => decide (PySem.W.kitOne K (.ref (He.ga K "Done")) (.type "ValueError") = some true)), (fun K => decide (PySem.W.kitOne K (.ref (He.ga K "BadLot")) (.type "ValueError") = some true)), (fun K => decide (PySem.W.kitOne K (.ref (He.ga K "BadOffers")) (.type "ValueError") = some true)), (fun K => decide (PySem.W.kitOne K (.ref (He.ga K "NoPlan")) (.type "ValueError") = some true)), (fun K => decide (PySem.W.kitOne K (.ref (He.ga K "BadBar")) (.type "ValueError") = some true)), (fun K => decide (PySem.W.kitOne K (.ref (He.ga K "BadPlan")) (.type "ValueError") = some true)), (fun K => decide (PySem.W.kitOne K (.ref (He.ga K "BadDone")) (.type "ValueError") = some true)), (fun K => decide (PySem.W.kitOne K (.ref (He.ga K "Apart")) (.type "ValueError") = some true)), (fun K => decide (PySem.W.kitOne K (.ref (He.ga K "BadHands")) (.type "ValueError") = some true)), (fun K => decide (PySem.W.kitOne K (.ref (He.ga K "NoDue")) (.type "ValueError") = some true)), (fun K => decide (PySem.W.kitOne K (.ref (He.ga K "NoNeed")) (.type "ValueError") = some true)), (fun K => decide (PySem.W.kitOne K (.ref (He.ga K "Full")) (.type "ValueError") = some true)), (fun K => decide (PySem.W.kitOne K (.ref (He.ga K "BadNeed")) (.type "ValueError") = some true)), (fun K => decide (PySem.W.kitOne K (.ref (He.ga K "BadHour")) (.type "ValueError") = some true)), (fun K => decide (PySem.W.kitOne K (.ref (He.ga K "NoWork")) (.type "ValueError") = some true)), (fun K => decide (PySem.W.kitOne K (.ref (He.ga K "BadBook")) (.type "ValueError") = some true)), (fun K => decide (PySem.W.kitOne K (.ref (He.ga K "NeedError")) (.type "ValueError") = some true)), ckKit "BadLine" "BadHour" false, ckKit "BadJournal" "BadHour" false, ckKit "NoTrial" "BadHour" false, ckKit "NothingToRedo" "BadHour" false, ckKit "NothingToUndo" "BadHour" false, ckKit "Behind" "BadHour" false, ckKit "Hands" "BadHour" false, ckKit "Early" "BadHour" false, ckKit "Done" "BadHour" false, ckKit "BadLot" "BadHour" false, ckKit "BadOffers" "BadHour" false, ckKit "NoPlan" "BadHour" false, ckKit "BadBar" "BadHour" false, ckKit "BadPlan" "BadHour" false, ckKit "BadDone" "BadHour" false, ckKit "Apart" "BadHour" false, ckKit "BadHands" "BadHour" false, ckKit "NoDue" "BadHour" false, ckKit "NoNeed" "BadHour" false, ckKit "Full" "BadHour" false, ckKit "BadNeed" "BadHour" false, ckKit "BadHour" "BadHour" true, ckKit "NoWork" "BadHour" false, ckKit "BadBook" "BadHour" false, ckKit "NeedError" "BadHour" false, ckKit "BadLine" "NoWork" false, ckKit "BadJournal" "NoWork" false, ckKit "NoTrial" "NoWork" false, ckKit "NothingToRedo" "NoWork" false, ckKit "NothingToUndo" "NoWork" false, ckKit "Behind" "NoWork" false, ckKit "Hands" "NoWork" false, ckKit "Early" "NoWork" false, ckKit "Done" "NoWork" false, ckKit "BadLot" "NoWork" false, ckKit "BadOffers" "NoWork" false, ckKit "NoPlan" "NoWork" false, ckKit "BadBar" "NoWork" false, ckKit "BadPlan" "NoWork" false, ckKit "BadDone" "NoWork" false, ckKit "Apart" "NoWork" false, ckKit "BadHands" "NoWork" false, ckKit "NoDue" "NoWork" false, ckKit "NoNeed" "NoWork" false, ckKit "Full" "NoWork" false, ckKit "BadNeed" "NoWork" false, ckKit "BadHour" "NoWork" false, ckKit "NoWork" "NoWork" true, ckKit "BadBook" "NoWork" false, ckKit "NeedError" "NoWork" false, ckKit "BadLine" "BadBook" false, ckKit "BadJournal" "BadBook" false, ckKit "NoTrial" "BadBook" false, ckKit "NothingToRedo" "BadBook" false, ckKit "NothingToUndo" "BadBook" false, ckKit "Behind" "BadBook" false, ckKit "Hands" "BadBook" false, ckKit "Early" "BadBook" false, ckKit "Done" "BadBook" false, ckKit "BadLot" "BadBook" false, ckKit "BadOffers" "BadBook" false, ckKit "NoPlan" "BadBook" false, ckKit "BadBar" "BadBook" false, ckKit "BadPlan" "BadBook" false, ckKit "BadDone" "BadBook" false, ckKit "Apart" "BadBook" false, ckKit "BadHands" "BadBook" false, ckKit "NoDue" "BadBook" false, ckKit "NoNeed" "BadBook" false, ckKit "Full" "BadBook" false, ckKit "BadNeed" "BadBook" false, ckKit "BadHour" "BadBook" false, ckKit "NoWork" "BadBook" false, ckKit "BadBook" "BadBook" true, ckKit "NeedError" "BadBook" false, ckKit "BadLine" "NoNeed" false, ckKit "BadJournal" "NoNeed" false, ckKit "NoTrial" "NoNeed" false, ckKit "NothingToRedo" "NoNeed" false, ckKit "NothingToUndo" "NoNeed" false, ckKit "Behind" "NoNeed" false, ckKit "Hands" "NoNeed" false, ckKit "Early" "NoNeed" false, ckKit "Done" "NoNeed" false, ckKit "BadLot" "NoNeed" false, ckKit "BadOffers" "NoNeed" false, ckKit "NoPlan" "NoNeed" false, ckKit "BadBar" "NoNeed" false, ckKit "BadPlan" "NoNeed" false, ckKit "BadDone" "NoNeed" false, ckKit "Apart" "NoNeed" false, ckKit "BadHands" "NoNeed" false, ckKit "NoDue" "NoNeed" false, ckKit "NoNeed" "NoNeed" true, ckKit "Full" "NoNeed" false, ckKit "BadNeed" "NoNeed" false, ckKit "BadHour" "NoNeed" false, ckKit "NoWork" "NoNeed" false, ckKit "BadBook" "NoNeed" false, ckKit "NeedError" "NoNeed" false, ckKit "BadLine" "Full" false, ckKit "BadJournal" "Full" false, ckKit "NoTrial" "Full" false, ckKit "NothingToRedo" "Full" false, ckKit "NothingToUndo" "Full" false, ckKit "Behind" "Full" false, ckKit "Hands" "Full" false, ckKit "Early" "Full" false, ckKit "Done" "Full" false, ckKit "BadLot" "Full" false, ckKit "BadOffers" "Full" false, ckKit "NoPlan" "Full" false, ckKit "BadBar" "Full" false, ckKit "BadPlan" "Full" false, ckKit "BadDone" "Full" false, ckKit "Apart" "Full" false, ckKit "BadHands" "Full" false, ckKit "NoDue" "Full" false, ckKit "NoNeed" "Full" false, ckKit "Full" "Full" true, ckKit "BadNeed" "Full" false, ckKit "BadHour" "Full" false, ckKit "NoWork" "Full" false, ckKit "BadBook" "Full" false, ckKit "NeedError" "Full" false, ckKit "BadLine" "BadNeed" false, ckKit "BadJournal" "BadNeed" false, ckKit "NoTrial" "BadNeed" false, ckKit "NothingToRedo" "BadNeed" false, ckKit "NothingToUndo" "BadNeed" false, ckKit "Behind" "BadNeed" false, ckKit "Hands" "BadNeed" false, ckKit "Early" "BadNeed" false, ckKit "Done" "BadNeed" false, ckKit "BadLot" "BadNeed" false, ckKit "BadOffers" "BadNeed" false, ckKit "NoPlan" "BadNeed" false, ckKit "BadBar" "BadNeed" false, ckKit "BadPlan" "BadNeed" false, ckKit "BadDone" "BadNeed" false, ckKit "Apart" "BadNeed" false, ckKit "BadHands" "BadNeed" false, ckKit "NoDue" "BadNeed" false, ckKit "NoNeed" "BadNeed" false, ckKit "Full" "BadNeed" false, ckKit "BadNeed" "BadNeed" true, ckKit "BadHour" "BadNeed" false, ckKit "NoWork" "BadNeed" false, ckKit "BadBook" "BadNeed" false, ckKit "NeedError" "BadNeed" false, ckKit "BadLine" "Apart" false, ckKit "BadJournal" "Apart" false, ckKit "NoTrial" "Apart" false, ckKit "NothingToRedo" "Apart" false, ckKit "NothingToUndo" "Apart" false, ckKit "Behind" "Apart" false, ckKit "Hands" "Apart" false, ckKit "Early" "Apart" false, ckKit "Done" "Apart" false, ckKit "BadLot" "Apart" false, ckKit "BadOffers" "Apart" false, ckKit "NoPlan" "Apart" false, ckKit "BadBar" "Apart" false, ckKit "BadPlan" "Apart" false, ckKit "BadDone" "Apart" false, ckKit "Apart" "Apart" true, ckKit "BadHands" "Apart" false, ckKit "NoDue" "Apart" false, ckKit "NoNeed" "Apart" false, ckKit "Full" "Apart" false, ckKit "BadNeed" "Apart" false, ckKit "BadHour" "Apart" false, ckKit "NoWork" "Apart" false, ckKit "BadBook" "Apart" false, ckKit "NeedError" "Apart" false, ckKit "BadLine" "BadHands" false, ckKit "BadJournal" "BadHands" false, ckKit "NoTrial" "BadHands" false, ckKit "NothingToRedo" "BadHands" false, ckKit "NothingToUndo" "BadHands" false, ckKit "Behind" "BadHands" false, ckKit "Hands" "BadHands" false, ckKit "Early" "BadHands" false, ckKit "Done" "BadHands" false, ckKit "BadLot" "BadHands" false, ckKit "BadOffers" "BadHands" false, ckKit "NoPlan" "BadHands" false, ckKit "BadBar" "BadHands" false, ckKit "BadPlan" "BadHands" false, ckKit "BadDone" "BadHands" false, ckKit "Apart" "BadHands" false, ckKit "BadHands" "BadHands" true, ckKit "NoDue" "BadHands" false, ckKit "NoNeed" "BadHands" false, ckKit "Full" "BadHands" false, ckKit "BadNeed" "BadHands" false, ckKit "BadHour" "BadHands" false, ckKit "NoWork" "BadHands" false, ckKit "BadBook" "BadHands" false, ckKit "NeedError" "BadHands" false, ckKit "BadLine" "NoDue" false, ckKit "BadJournal" "NoDue" false, ckKit "NoTrial" "NoDue" false, ckKit "NothingToRedo" "NoDue" false, ckKit "NothingToUndo" "NoDue" false, ckKit "Behind" "NoDue" false, ckKit "Hands" "NoDue" false, ckKit "Early" "NoDue" false, ckKit "Done" "NoDue" false, ckKit "BadLot" "NoDue" false, ckKit "BadOffers" "NoDue" false, ckKit "NoPlan" "NoDue" false, ckKit "BadBar" "NoDue" false, ckKit "BadPlan" "NoDue" false, ckKit "BadDone" "NoDue" false, ckKit "Apart" "NoDue" false, ckKit "BadHands" "NoDue" false, ckKit "NoDue" "NoDue" true, ckKit "NoNeed" "NoDue" false, ckKit "Full" "NoDue" false, ckKit "BadNeed" "NoDue" false, ckKit "BadHour" "NoDue" false, ckKit "NoWork" "NoDue" false, ckKit "BadBook" "NoDue" false, ckKit "NeedError" "NoDue" false, ckKit "BadLine" "BadBar" false, ckKit "BadJournal" "BadBar" false, ckKit "NoTrial" "BadBar" false, ckKit "NothingToRedo" "BadBar" false, ckKit "NothingToUndo" "BadBar" false, ckKit "Behind" "BadBar" false, ckKit "Hands" "BadBar" false, ckKit "Early" "BadBar" false, ckKit "Done" "BadBar" false, ckKit "BadLot" "BadBar" false, ckKit "BadOffers" "BadBar" false, ckKit "NoPlan" "BadBar" false, ckKit "BadBar" "BadBar" true, ckKit "BadPlan" "BadBar" false, ckKit "BadDone" "BadBar" false, ckKit "Apart" "BadBar" false, ckKit "BadHands" "BadBar" false, ckKit "NoDue" "BadBar" false, ckKit "NoNeed" "BadBar" false, ckKit "Full" "BadBar" false, ckKit "BadNeed" "BadBar" false, ckKit "BadHour" "BadBar" false, ckKit "NoWork" "BadBar" false, ckKit "BadBook" "BadBar" false, ckKit "NeedError" "BadBar" false, ckKit "BadLine" "BadPlan" false, ckKit "BadJournal" "BadPlan" false, ckKit "NoTrial" "BadPlan" false, ckKit "NothingToRedo" "BadPlan" false, ckKit "NothingToUndo" "BadPlan" false, ckKit "Behind" "BadPlan" false, ckKit "Hands" "BadPlan" false, ckKit "Early" "BadPlan" false, ckKit "Done" "BadPlan" false, ckKit "BadLot" "BadPlan" false, ckKit "BadOffers" "BadPlan" false, ckKit "NoPlan" "BadPlan" false, ckKit "BadBar" "BadPlan" false, ckKit "BadPlan" "BadPlan" true, ckKit "BadDone" "BadPlan" false, ckKit "Apart" "BadPlan" false, ckKit "BadHands" "BadPlan" false, ckKit "NoDue" "BadPlan" false, ckKit "NoNeed" "BadPlan" false, ckKit "Full" "BadPlan" false, ckKit "BadNeed" "BadPlan" false, ckKit "BadHour" "BadPlan" false, ckKit "NoWork" "BadPlan" false, ckKit "BadBook" "BadPlan" false, ckKit "NeedError" "BadPlan" false, ckKit "BadLine" "BadDone" false, ckKit "BadJournal" "BadDone" false, ckKit "NoTrial" "BadDone" false, ckKit "NothingToRedo" "BadDone" false, ckKit "NothingToUndo" "BadDone" false, ckKit "Behind" "BadDone" false, ckKit "Hands" "BadDone" false, ckKit "Early" "BadDone" false, ckKit "Done" "BadDone" false, ckKit "BadLot" "BadDone" false, ckKit "BadOffers" "BadDone" false, ckKit "NoPlan" "BadDone" false, ckKit "BadBar" "BadDone" false, ckKit "BadPlan" "BadDone" false, ckKit "BadDone" "BadDone" true, ckKit "Apart" "BadDone" false, ckKit "BadHands" "BadDone" false, ckKit "NoDue" "BadDone" false, ckKit "NoNeed" "BadDone" false, ckKit "Full" "BadDone" false, ckKit "BadNeed" "BadDone" false, ckKit "BadHour" "BadDone" false, ckKit "NoWork" "BadDone" false, ckKit "BadBook" "BadDone" false, ckKit "NeedError" "BadDone" false, ckKit "BadLine" "BadLot" false, ckKit "BadJournal" "BadLot" false, ckKit "NoTrial" "BadLot" false, ckKit "NothingToRedo" "BadLot" false, ckKit "NothingToUndo" "BadLot" false, ckKit "Behind" "BadLot" false, ckKit "Hands" "BadLot" false, ckKit "Early" "BadLot" false, ckKit "Done" "BadLot" false, ckKit "BadLot" "BadLot" true, ckKit "BadOffers" "BadLot" false, ckKit "NoPlan" "BadLot" false, ckKit "BadBar" "BadLot" false, ckKit "BadPlan" "BadLot" false, ckKit "BadDone" "BadLot" false, ckKit "Apart" "BadLot" false, ckKit "BadHands" "BadLot" false, ckKit "NoDue" "BadLot" false, ckKit "NoNeed" "BadLot" false, ckKit "Full" "BadLot" false, ckKit "BadNeed" "BadLot" false, ckKit "BadHour" "BadLot" false, ckKit "NoWork" "BadLot" false, ckKit "BadBook" "BadLot" false, ckKit "NeedError" "BadLot" false, ckKit "BadLine" "BadOffers" false, ckKit "BadJournal" "BadOffers" false, ckKit "NoTrial" "BadOffers" false, ckKit "NothingToRedo" "BadOffers" false, ckKit "NothingToUndo" "BadOffers" false, ckKit "Behind" "BadOffers" false, ckKit "Hands" "BadOffers" false, ckKit "Early" "BadOffers" false, ckKit "Done" "BadOffers" false, ckKit "BadLot" "BadOffers" false, ckKit "BadOffers" "BadOffers" true, ckKit "NoPlan" "BadOffers" false, ckKit "BadBar" "BadOffers" false, ckKit "BadPlan" "BadOffers" false, ckKit "BadDone" "BadOffers" false, ckKit "Apart" "BadOffers" false, ckKit "BadHands" "BadOffers" false, ckKit "NoDue" "BadOffers" false, ckKit "NoNeed" "BadOffers" false, ckKit "Full" "BadOffers" false, ckKit "BadNeed" "BadOffers" false, ckKit "BadHour" "BadOffers" false, ckKit "NoWork" "BadOffers" false, ckKit "BadBook" "BadOffers" false, ckKit "NeedError" "BadOffers" false, ckKit "BadLine" "NoPlan" false, ckKit "BadJournal" "NoPlan" false, ckKit "NoTrial" "NoPlan" false, ckKit "NothingToRedo" "NoPlan" false, ckKit "NothingToUndo" "NoPlan" false, ckKit "Behind" "NoPlan" false, ckKit "Hands" "NoPlan" false, ckKit "Early" "NoPlan" false, ckKit "Done" "NoPlan" false, ckKit "BadLot" "NoPlan" false, ckKit "BadOffers" "NoPlan" false, ckKit "NoPlan" "NoPlan" true, ckKit "BadBar" "NoPlan" false, ckKit "BadPlan" "NoPlan" false, ckKit "BadDone" "NoPlan" false, ckKit "Apart" "NoPlan" false, ckKit "BadHands" "NoPlan" false, ckKit "NoDue" "NoPlan" false, ckKit "NoNeed" "NoPlan" false, ckKit "Full" "NoPlan" false, ckKit "BadNeed" "NoPlan" false, ckKit "BadHour" "NoPlan" false, ckKit "NoWork" "NoPlan" false, ckKit "BadBook" "NoPlan" false, ckKit "NeedError" "NoPlan" false, ckKit "BadLine" "Hands" false, ckKit "BadJournal" "Hands" false, ckKit "NoTrial" "Hands" false, ckKit "NothingToRedo" "Hands" false, ckKit "NothingToUndo" "Hands" false, ckKit "Behind" "Hands" false, ckKit "Hands" "Hands" true, ckKit "Early" "Hands" false, ckKit "Done" "Hands" false, ckKit "BadLot" "Hands" false, ckKit "BadOffers" "Hands" false, ckKit "NoPlan" "Hands" false, ckKit "BadBar" "Hands" false, ckKit "BadPlan" "Hands" false, ckKit "BadDone" "Hands" false, ckKit "Apart" "Hands" false, ckKit "BadHands" "Hands" false, ckKit "NoDue" "Hands" false, ckKit "NoNeed" "Hands" false, ckKit "Full" "Hands" false, ckKit "BadNeed" "Hands" false, ckKit "BadHour" "Hands" false, ckKit "NoWork" "Hands" false, ckKit "BadBook" "Hands" false, ckKit "NeedError" "Hands" false, ckKit "BadLine" "Early" false, ckKit "BadJournal" "Early" false, ckKit "NoTrial" "Early" false, ckKit "NothingToRedo" "Early" false, ckKit "NothingToUndo" "Early" false, ckKit "Behind" "Early" false, ckKit "Hands" "Early" false, ckKit "Early" "Early" true, ckKit "Done" "Early" false, ckKit "BadLot" "Early" false, ckKit "BadOffers" "Early" false, ckKit "NoPlan" "Early" false, ckKit "BadBar" "Early" false, ckKit "BadPlan" "Early" false, ckKit "BadDone" "Early" false, ckKit "Apart" "Early" false, ckKit "BadHands" "Early" false, ckKit "NoDue" "Early" false, ckKit "NoNeed" "Early" false, ckKit "Full" "Early" false, ckKit "BadNeed" "Early" false, ckKit "BadHour" "Early" false, ckKit "NoWork" "Early" false, ckKit "BadBook" "Early" false, ckKit "NeedError" "Early" false, ckKit "BadLine" "Done" false, ckKit "BadJournal" "Done" false, ckKit "NoTrial" "Done" false, ckKit "NothingToRedo" "Done" false, ckKit "NothingToUndo" "Done" false, ckKit "Behind" "Done" false, ckKit "Hands" "Done" false, ckKit "Early" "Done" false, ckKit "Done" "Done" true, ckKit "BadLot" "Done" false, ckKit "BadOffers" "Done" false, ckKit "NoPlan" "Done" false, ckKit "BadBar" "Done" false, ckKit "BadPlan" "Done" false, ckKit "BadDone" "Done" false, ckKit "Apart" "Done" false, ckKit "BadHands" "Done" false, ckKit "NoDue" "Done" false, ckKit "NoNeed" "Done" false, ckKit "Full" "Done" false, ckKit "BadNeed" "Done" false, ckKit "BadHour" "Done" false, ckKit "NoWork" "Done" false, ckKit "BadBook" "Done" false, ckKit "NeedError" "Done" false, ckKit "BadLine" "NothingToUndo" false, ckKit "BadJournal" "NothingToUndo" false, ckKit "NoTrial" "NothingToUndo" false, ckKit "NothingToRedo" "NothingToUndo" false, ckKit "NothingToUndo" "NothingToUndo" true, ckKit "Behind" "NothingToUndo" false, ckKit "Hands" "NothingToUndo" false, ckKit "Early" "NothingToUndo" false, ckKit "Done" "NothingToUndo" false, ckKit "BadLot" "NothingToUndo" false, ckKit "BadOffers" "NothingToUndo" false, ckKit "NoPlan" "NothingToUndo" false, ckKit "BadBar" "NothingToUndo" false, ckKit "BadPlan" "NothingToUndo" false, ckKit "BadDone" "NothingToUndo" false, ckKit "Apart" "NothingToUndo" false, ckKit "BadHands" "NothingToUndo" false, ckKit "NoDue" "NothingToUndo" false, ckKit "NoNeed" "NothingToUndo" false, ckKit "Full" "NothingToUndo" false, ckKit "BadNeed" "NothingToUndo" false, ckKit "BadHour" "NothingToUndo" false, ckKit "NoWork" "NothingToUndo" false, ckKit "BadBook" "NothingToUndo" false, ckKit "NeedError" "NothingToUndo" false, ckKit "BadLine" "Behind" false, ckKit "BadJournal" "Behind" false, ckKit "NoTrial" "Behind" false, ckKit "NothingToRedo" "Behind" false, ckKit "NothingToUndo" "Behind" false, ckKit "Behind" "Behind" true, ckKit "Hands" "Behind" false, ckKit "Early" "Behind" false, ckKit "Done" "Behind" false, ckKit "BadLot" "Behind" false, ckKit "BadOffers" "Behind" false, ckKit "NoPlan" "Behind" false, ckKit "BadBar" "Behind" false, ckKit "BadPlan" "Behind" false, ckKit "BadDone" "Behind" false, ckKit "Apart" "Behind" false, ckKit "BadHands" "Behind" false, ckKit "NoDue" "Behind" false, ckKit "NoNeed" "Behind" false, ckKit "Full" "Behind" false, ckKit "BadNeed" "Behind" false, ckKit "BadHour" "Behind" false, ckKit "NoWork" "Behind" false, ckKit "BadBook" "Behind" false, ckKit "NeedError" "Behind" false, ckKit "BadLine" "NoTrial" false, ckKit "BadJournal" "NoTrial" false, ckKit "NoTrial" "NoTrial" true, ckKit "NothingToRedo" "NoTrial" false, ckKit "NothingToUndo" "NoTrial" false, ckKit "Behind" "NoTrial" false, ckKit "Hands" "NoTrial" false, ckKit "Early" "NoTrial" false, ckKit "Done" "NoTrial" false, ckKit "BadLot" "NoTrial" false, ckKit "BadOffers" "NoTrial" false, ckKit "NoPlan" "NoTrial" false, ckKit "BadBar" "NoTrial" false, ckKit "BadPlan" "NoTrial" false, ckKit "BadDone" "NoTrial" false, ckKit "Apart" "NoTrial" false, ckKit "BadHands" "NoTrial" false, ckKit "NoDue" "NoTrial" false, ckKit "NoNeed" "NoTrial" false, ckKit "Full" "NoTrial" false, ckKit "BadNeed" "NoTrial" false, ckKit "BadHour" "NoTrial" false, ckKit "NoWork" "NoTrial" false, ckKit "BadBook" "NoTrial" false, ckKit "NeedError" "NoTrial" false, ckKit "BadLine" "NothingToRedo" false, ckKit "BadJournal" "NothingToRedo" false, ckKit "NoTrial" "NothingToRedo" false, ckKit "NothingToRedo" "NothingToRedo" true, ckKit "NothingToUndo" "NothingToRedo" false, ckKit "Behind" "NothingToRedo" false, ckKit "Hands" "NothingToRedo" false, ckKit "Early" "NothingToRedo" false, ckKit "Done" "NothingToRedo" false, ckKit "BadLot" "NothingToRedo" false, ckKit "BadOffers" "NothingToRedo" false, ckKit "NoPlan" "NothingToRedo" false, ckKit "BadBar" "NothingToRedo" false, ckKit "BadPlan" "NothingToRedo" false, ckKit "BadDone" "NothingToRedo" false, ckKit "Apart" "NothingToRedo" false, ckKit "BadHands" "NothingToRedo" false, ckKit "NoDue" "NothingToRedo" false, ckKit "NoNeed" "NothingToRedo" false, ckKit "Full" "NothingToRedo" false, ckKit "BadNeed" "NothingToRedo" false, ckKit "BadHour" "NothingToRedo" false, ckKit "NoWork" "NothingToRedo" false, ckKit "BadBook" "NothingToRedo" false, ckKit "NeedError" "NothingToRedo" false, ckKit "BadLine" "BadLine" true, ckKit "BadJournal" "BadLine" false, ckKit "NoTrial" "BadLine" false, ckKit "NothingToRedo" "BadLine" false, ckKit "NothingToUndo" "BadLine" false, ckKit "Behind" "BadLine" false, ckKit "Hands" "BadLine" false, ckKit "Early" "BadLine" false, ckKit "Done" "BadLine" false, ckKit "BadLot" "BadLine" false, ckKit "BadOffers" "BadLine" false, ckKit "NoPlan" "BadLine" false, ckKit "BadBar" "BadLine" false, ckKit "BadPlan" "BadLine" false, ckKit "BadDone" "BadLine" false, ckKit "Apart" "BadLine" false, ckKit "BadHands" "BadLine" false, ckKit "NoDue" "BadLine" false, ckKit "NoNeed" "BadLine" false, ckKit "Full" "BadLine" false, ckKit "BadNeed" "BadLine" false, ckKit "BadHour" "BadLine" false, ckKit "NoWork" "BadLine" false, ckKit "BadBook" "BadLine" false, ckKit "NeedError" "BadLine" false, ckKit "BadLine" "BadJournal" false, ckKit "BadJournal" "BadJournal" true, ckKit "NoTrial" "BadJournal" false, ckKit "NothingToRedo" "BadJournal" false, ckKit "NothingToUndo" "BadJournal" false, ckKit "Behind" "BadJournal" false, ckKit "Hands" "BadJournal" false, ckKit "Early" "BadJournal" false, ckKit "Done" "BadJournal" false, ckKit "BadLot" "BadJournal" false, ckKit "BadOffers" "BadJournal" false, ckKit "NoPlan" "BadJournal" false, ckKit "BadBar" "BadJournal" false, ckKit "BadPlan" "BadJournal" false, ckKit "BadDone" "BadJournal" false, ckKit "Apart" "BadJournal" false, ckKit "BadHands" "BadJournal" false, ckKit "NoDue" "BadJournal" false, ckKit "NoNeed" "BadJournal" false, ckKit "Full" "BadJournal" false, ckKit "BadNeed" "BadJournal" false, ckKit "BadHour" "BadJournal" false, ckKit "NoWork" "BadJournal" false, ckKit "BadBook" "BadJournal" false, ckKit "NeedError" "BadJournal" false, ckAll tbs]
end K00
namespace K00
open PySem PySem.Spec PyProof.Rows L2 Mi
def loose0 : List Str := ["__name__", "NeedError", "BadBook", "NoWork", "BadHour", "BadNeed", "Full", "NoNeed", "NoDue", "BadHands", "Apart", "BadDone", "BadPlan", "BadBar", "NoPlan", "BadOffers", "BadLot", "Done", "Early", "Hands", "Behind", "NothingToUndo", "NothingToRedo", "NoTrial", "BadJournal", "BadLine", "_law_pot", "_law_take", "_law_of", "_law_places"]
def loose1 : List Str := ["_law_bent", "_law_odd", "_law_errors", "_law_marks", "_law_right"]
def loose : List Str := loose0 ++ loose1
def told0 : List Addr := [3, 6, 4, 33, 46, 58, 70, 82, 94, 106, 118, 130, 142, 154, 166, 178, 190, 202, 214, 226, 238, 250, 262, 274, 286, 298, 310, 322, 331, 338, 345, 352, 359, 366, 373, 380, 385, 390, 0, 32, 45, 57, 69, 81, 93, 105, 117, 129, 141, 153, 165, 177, 189, 201, 213, 225, 237, 249, 261, 273, 285, 297, 309, 321, 330, 337, 344, 351, 358, 365, 372, 379, 384, 389, 30, 31, 34, 44, 56, 68, 80, 92, 104, 116, 128, 140, 152, 164, 176, 188, 200, 212, 224, 236, 248, 260, 272, 284, 296, 308, 320, 325, 326, 327, 328, 329, 332, 333, 334, 335, 336, 339, 340, 341, 342, 343, 346, 347, 348, 349, 350, 353, 354, 355, 356, 357, 360, 361, 362, 363, 364, 367, 368, 369, 370, 371, 374, 375, 376, 377, 378, 381, 382, 383, 386, 387, 388, 29, 18, 24, 25, 26, 27, 28, 2]
def told : List Addr := told0
abbrev TheRow : PySem.W.OpenRow := PySem.W.OpenLaw.row PySem.Challenge.rw_stretchneeds_k00_errors_and_what_they_ke
abbrev hk : PySem.W.Hook := hookA told fa fn ck (tbs.map (·.1))
def ob (s : PySem.W.SharedT) : AlE := obsA told fa fn ck (tbs.map (·.1)) (HandSHeadRun.getT s)
theorem ob_eq (s : PySem.W.SharedT) : ob s = hk.obs s.abs := obsA_eq (HandSHeadRun.getT_eq s)
theorem run (w : World) : HandSHeadRun.RunEq TheRow (PySem.W.view TheRow.prog [36]) hk ob 8000 loose w := by
  intro os
  kernel_rfl
end K00
namespace Mi
open PySem PySem.Spec PyProof.Rows L2

inductive T where
  | non | bl (b : Bool) | int (i : Int) | str (x : List Nat)
  | tup (xs : List T) | lst (xs : List T) | dct (tk : Bool) (kvs : List (T × T))
  | obj (c : Nat) (fs : List T)
  | xob (c : Nat) (t : T)
  | ktup (xs : List T) | klst (xs : List T)
  | loc (n : Nat)
  deriving Inhabited

inductive MO where
  | gone | lst (xs : List T) | dct (tk : Bool) (kvs : List (T × T)) | obj (c : Nat) (fs : List T)
  deriving Inhabited

abbrev Mem := List MO
abbrev TV := List (Option T)

inductive Res (α : Type) where
  | ok (a : α) (M : Mem)
  | exc (c : Nat) (v : T) (M : Mem)
  | err
  deriving Inhabited

def symB : Nat := 1114112
def symN : Nat := 16
def awayW : List (List Nat) := [[110, 111, 115, 117, 99, 104], [109, 111, 114, 101], [97, 98, 99, 100, 101, 102, 103, 104]]
structure Om where
  cls : Nat → Addr
  fld : Nat → List Str
  
  rho : Nat → List Nat
  rne : ∀ c, rho c ≠ []
  rle : ∀ c, (rho c).length ≤ 8
  rch : ∀ c x, x ∈ rho c → 97 ≤ x ∧ x ≤ 122
  raw : ∀ c, rho c ∉ awayW
  
  tabs : List (Addr × Str) := []
  rij : ∀ i j, i < symN → j < symN → rho (symB + i) = rho (symB + j) → i = j

def spell (r : Nat → List Nat) (x : List Nat) : List Nat := x.flatMap fun c => if c < symB then [c] else r c

def Live (ι : List Addr) (M : Mem) (a : Addr) : Prop := ∃ (n : Nat) (o : MO), ι[n]? = some a ∧ M[n]? = some o ∧ o ≠ .gone

inductive RK (Ω : Om) : T → Key → Prop
  | int (i) : RK Ω (.int i) (.inl i)
  | str (x s) : s.cps.toList = spell Ω.rho x → RK Ω (.str x) (.inr s)
inductive RKs (Ω : Om) : List T → List Key → Prop
  | nil : RKs Ω [] []
  | cons {t k ts ks} : RK Ω t k → RKs Ω ts ks → RKs Ω (t :: ts) (k :: ks)
inductive RKt (Ω : Om) : T → List Key → Prop
  | mk {ts ks} : RKs Ω ts ks → RKt Ω (.tup ts) ks
inductive RKts (Ω : Om) : List T → List (List Key) → Prop
  | nil : RKts Ω [] []
  | cons {t k ts ks} : RKt Ω t k → RKts Ω ts ks → RKts Ω (t :: ts) (k :: ks)


abbrev KL (K : PySem.W.Frag) (H : Hp) (a : Addr) (vs : List V) : Prop := (∃ o, H a = some (.frz o (.lst vs))) ∨ ∃ (o : Obj) (its : Array Value) (n : Nat), K.lookup a = some o ∧ o.cls = .type "list" ∧ o.dict = none ∧ o.data = .seq its n ∧ its.size ≤ sizeLine ∧ Vals vs its.toList
def ND (K : PySem.W.Frag) (H : Hp) (a : Addr) : Prop := (∃ (o : Obj) (ws : List V), H a = some (.frz o (.tup ws)) ∧ o.cls = .type "tuple" ∧ o.dict = none) ∨ ∃ o : Obj, K.lookup a = some o ∧ o.cls = .type "tuple" ∧ o.dict = none
theorem KL.sql {K : PySem.W.Frag} {H : Hp} {a : Addr} {vs : List V} (h : KL K H a vs) : SqL K H a vs := h.elim (fun q => .inl (.inr q)) .inr
abbrev xO : HO := .ext fun _ => True
section
variable (K : PySem.W.Frag) (Ω : Om) (Z : List Addr) (ι : List Addr) (M : Mem) (H : Hp)
def Still (a : Addr) : Prop := ¬ Live ι M a ∧ a ∉ Z
mutual
inductive R : T → V → Prop
  | non : R .non .non
  | bl (b) : R (.bl b) (.bl b)
  | int (i) : R (.int i) (.int i)
  | str (x s) : s.cps.toList = spell Ω.rho x → x.length ≤ 2000000 → R (.str x) (.str s)
  | tup {ts a vs} : H a = some (.tup vs) → Rs ts vs → R (.tup ts) (.ref a)
  | ktup {ts a vs} : SqT K H a vs → ND K H a → Rs ts vs → R (.ktup ts) (.ref a)
  | lst {ts a vs} : H a = some (.lst vs) → Still Z ι M a → Rs ts vs → R (.lst ts) (.ref a)
  | klst {ts a vs} : KL K H a vs → Rs ts vs → R (.klst ts) (.ref a)
  | dK {kvs a ws} : Rd H a (.dK ws) → Still Z ι M a → RKs Ω (kvs.map (·.1)) (ws.map (·.1)) → Rs (kvs.map (·.2)) (ws.map (·.2)) → R (.dct false kvs) (.ref a)
  | dT {kvs a ws} : Rd H a (.dT ws) → Still Z ι M a → RKts Ω (kvs.map (·.1)) (ws.map (·.1)) → Rs (kvs.map (·.2)) (ws.map (·.2)) → R (.dct true kvs) (.ref a)
  | obj {c fs a dx ws} : H a = some (.ins (Ω.cls c) dx ws) → Still Z ι M a → ws.map (·.1) = (Ω.fld c).take ws.length → Rs fs (ws.map (·.2)) → R (.obj c fs) (.ref a)
  | loc {n a} : ι[n]? = some a → R (.loc n) (.ref a)
  | xob {c t a oe d v} : H a = some (.frz oe xO) → (oe.cls = .ref (Ω.cls c) ∧ oe.dict = some d) → (∃ vs, oe.data = .fields vs) → H d = some (.xd [("value", v)]) → Still Z ι M d → R t v → R (.xob c t) (.ref a)
inductive Rs : List T → List V → Prop
  | nil : Rs [] []
  | cons {t v ts vs} : R t v → Rs ts vs → Rs (t :: ts) (v :: vs)
end

inductive RO : MO → Addr → Prop
  | gone {a o} : H a = some o → RO .gone a
  | lst {ts a vs} : H a = some (.lst vs) → Rs K Ω Z ι M H ts vs → RO (.lst ts) a
  | dK {kvs a ws} : H a = some (.dK ws) → RKs Ω (kvs.map (·.1)) (ws.map (·.1)) → Rs K Ω Z ι M H (kvs.map (·.2)) (ws.map (·.2)) → RO (.dct false kvs) a
  | dT {kvs a ws} : H a = some (.dT ws) → RKts Ω (kvs.map (·.1)) (ws.map (·.1)) → Rs K Ω Z ι M H (kvs.map (·.2)) (ws.map (·.2)) → RO (.dct true kvs) a
  | obj {c fs a dx ws} : H a = some (.ins (Ω.cls c) dx ws) → ws.map (·.1) = (Ω.fld c).take ws.length → Rs K Ω Z ι M H fs (ws.map (·.2)) → RO (.obj c fs) a

structure RM : Prop where
  tab : LamX.Tabs Ω.tabs H
  len : ι.length = M.length
  nd : ∀ (i j : Nat) (a : Addr) (o u : MO), ι[i]? = some a → ι[j]? = some a → M[i]? = some o → M[j]? = some u → o ≠ .gone → u ≠ .gone → i = j
  mem : ∀ (n : Nat) (a : Addr) (o : MO), ι[n]? = some a → M[n]? = some o → RO K Ω Z ι M H o a
  zin : ∀ z ∈ Z, H z ≠ none ∧ ¬ Live ι M z
structure RV (σT : TV) (σ : L2.St) : Prop where
  len : σT.length = σ.length
  at_ : ∀ (i : Nat) (t : T), σT[i]? = some (some t) → ∃ v, σ[i]? = some (some v) ∧ R K Ω Z ι M H t v
end

theorem tabs_upd {T : List (Addr × Str)} {H : Hp} {p : Addr} {o u : HO} (t : LamX.Tabs T H) (h : H p = some o) (t3 : ∀ ps, o ≠ .tbl ps) (t4 : ∀ φ, o ≠ .ext φ) : LamX.Tabs T (upd H p u) := fun q hq => by
  obtain ⟨ps, h1, h2, h3⟩ := t q hq
  refine ⟨ps, by rw [upd_ne (fun z => t3 ps (by rw [z, h] at h1; exact Option.some.inj h1))]; exact h1, h2, fun pos cv hc => ?_⟩
  obtain ⟨c, e1, e2⟩ := h3 pos cv hc
  exact ⟨c, e1, by rw [upd_ne (fun z => t4 _ (by rw [z, h] at e2; exact Option.some.inj e2))]; exact e2⟩
def NT (o : HO) : Prop := ∀ ps, o ≠ .tbl ps
structure Ext (Z : List Addr) (ι : List Addr) (M : Mem) (H : Hp) (ι' : List Addr) (M' : Mem) (H' : Hp) : Prop where
  pre : ∃ more, ι' = ι ++ more
  frozE : ∀ a o, H a = some o → Still Z ι M a → NT o → H' a = some o ∧ ¬ Live ι' M' a
  tups : ∀ a vs, H a = some (.tup vs) → H' a = some (.tup vs)
  frzs : ∀ a o u, H a = some (.frz o u) → H' a = some (.frz o u)
  there : ∀ a, H a ≠ none → H' a ≠ none

section
variable {K : PySem.W.Frag} {Ω : Om} {Z : List Addr} {ι ι' ι'' : List Addr} {M M' M'' : Mem} {H H' H'' : Hp}
theorem Ext.froz (e : Ext Z ι M H ι' M' H') (a : Addr) (o : HO) (h : H a = some o) (n : Still Z ι M a) (t : NT o := by intro _ z; cases z) : H' a = some o ∧ ¬ Live ι' M' a := e.frozE a o h n t
theorem Ext.to {Z' : List Addr} (e : Ext Z ι M H ι' M' H') (h : ∀ z ∈ Z, z ∈ Z') : Ext Z' ι M H ι' M' H' := ⟨e.pre, fun a o q n t => e.froz a o q ⟨n.1, fun z => n.2 (h a z)⟩ t, e.tups, e.frzs, e.there⟩
theorem Ext.any (e : Ext [] ι M H ι' M' H') : Ext Z ι M H ι' M' H' := e.to (by simp)
theorem Ext.drop {p : Addr} (e : Ext (p :: Z) ι M H ι' M' H') (h : H p = none) : Ext Z ι M H ι' M' H' := ⟨e.pre, fun a o q n t => e.froz a o q ⟨n.1, fun z => (List.mem_cons.mp z).elim (fun x => by rw [x, h] at q; cases q) n.2⟩ t, e.tups, e.frzs, e.there⟩
theorem Ext.refl : Ext Z ι M H ι M H := ⟨⟨[], by simp⟩, fun _ _ h n _ => ⟨h, n.1⟩, fun _ _ h => h, fun _ _ _ h => h, fun _ h => h⟩
theorem Ext.trans (a : Ext Z ι M H ι' M' H') (b : Ext Z ι' M' H' ι'' M'' H'') : Ext Z ι M H ι'' M'' H'' := by
  obtain ⟨m1, e1⟩ := a.pre
  obtain ⟨m2, e2⟩ := b.pre
  refine ⟨⟨m1 ++ m2, by rw [e2, e1, List.append_assoc]⟩, fun p o h n t => ?_, fun p vs h => b.tups p vs (a.tups p vs h), fun p o u h => b.frzs p o u (a.frzs p o u h), fun p h => b.there p (a.there p h)⟩
  obtain ⟨h1, n1⟩ := a.froz p o h n t
  exact b.froz p o h1 ⟨n1, n.2⟩ t
theorem Ext.still (e : Ext Z ι M H ι' M' H') {a : Addr} {o : HO} (h : H a = some o) (n : Still Z ι M a) (t : NT o := by intro _ z; cases z) : H' a = some o ∧ Still Z ι' M' a :=
  let q := e.froz a o h n t
  ⟨q.1, q.2, n.2⟩
theorem Ext.rd (e : Ext Z ι M H ι' M' H') {a : Addr} {u : HO} (h : Rd H a u) (n : Still Z ι M a) (t : NT u := by intro _ z; cases z) : Rd H' a u ∧ Still Z ι' M' a := by
  rcases h with h | ⟨o, h⟩
  · exact ⟨.inl (e.still h n t).1, (e.still h n t).2⟩
  · exact ⟨.inr ⟨o, (e.still h n).1⟩, (e.still h n).2⟩
theorem Ext.sqt (e : Ext Z ι M H ι' M' H') {a : Addr} {vs : List V} (h : SqT K H a vs) : SqT K H' a vs := by
  rcases h with (h | ⟨o, h⟩) | h
  · exact .inl (.inl (e.tups a _ h))
  · exact .inl (.inr ⟨o, e.frzs a _ _ h⟩)
  · exact .inr h
theorem Ext.nd (e : Ext Z ι M H ι' M' H') {a : Addr} (h : ND K H a) : ND K H' a := h.elim (fun ⟨o, u, q, r⟩ => .inl ⟨o, u, e.frzs a _ _ q, r⟩) .inr
mutual
theorem R.ext (e : Ext Z ι M H ι' M' H') : ∀ {t : T} {v : V}, R K Ω Z ι M H t v → R K Ω Z ι' M' H' t v
  | _, _, .non => .non
  | _, _, .bl b => .bl b
  | _, _, .int i => .int i
  | _, _, .str x s h l => .str x s h l
  | _, _, .tup h r => .tup (e.tups _ _ h) (Rs.ext e r)
  | _, _, .ktup h d r => .ktup (e.sqt h) (e.nd d) (Rs.ext e r)
  | _, _, .lst h n r => .lst (e.still h n).1 (e.still h n).2 (Rs.ext e r)
  | _, _, .klst h r => .klst (h.elim (fun ⟨o, q⟩ => .inl ⟨o, e.frzs _ _ _ q⟩) .inr) (Rs.ext e r)
  | _, _, .dK h n k r => .dK (e.rd h n).1 (e.rd h n).2 k (Rs.ext e r)
  | _, _, .dT h n k r => .dT (e.rd h n).1 (e.rd h n).2 k (Rs.ext e r)
  | _, _, .obj h n k r => .obj (e.still h n).1 (e.still h n).2 k (Rs.ext e r)
  | _, _, .xob h1 h2 h3 h4 n r => .xob (e.frzs _ _ _ h1) h2 h3 (e.still h4 n).1 (e.still h4 n).2 (R.ext e r)
  | _, _, .loc h => .loc (by
      obtain ⟨m, q⟩ := e.pre
      rw [q, List.getElem?_append_left (List.getElem?_eq_some_iff.mp h).1]
      exact h)
theorem Rs.ext (e : Ext Z ι M H ι' M' H') : ∀ {ts : List T} {vs : List V}, Rs K Ω Z ι M H ts vs → Rs K Ω Z ι' M' H' ts vs
  | _, _, .nil => .nil
  | _, _, .cons r t => .cons (R.ext e r) (Rs.ext e t)
end
theorem RV.ext (e : Ext Z ι M H ι' M' H') {σT : TV} {σ : L2.St} (r : RV K Ω Z ι M H σT σ) : RV K Ω Z ι' M' H' σT σ := ⟨r.len, fun i t h =>
  let ⟨v, a, b⟩ := r.at_ i t h
  ⟨v, a, b.ext e⟩⟩
theorem Still.sub {Z' : List Addr} (h : ∀ z ∈ Z', z ∈ Z) {a : Addr} (n : Still Z ι M a) : Still Z' ι M a := ⟨n.1, fun z => n.2 (h a z)⟩
mutual
theorem R.sub {Z' : List Addr} (h : ∀ z ∈ Z', z ∈ Z) : ∀ {t : T} {v : V}, R K Ω Z ι M H t v → R K Ω Z' ι M H t v
  | _, _, .non => .non
  | _, _, .bl b => .bl b
  | _, _, .int i => .int i
  | _, _, .str x s h l => .str x s h l
  | _, _, .tup q r => .tup q (Rs.sub h r)
  | _, _, .ktup q d r => .ktup q d (Rs.sub h r)
  | _, _, .lst q n r => .lst q (n.sub h) (Rs.sub h r)
  | _, _, .klst q r => .klst q (Rs.sub h r)
  | _, _, .dK q n k r => .dK q (n.sub h) k (Rs.sub h r)
  | _, _, .dT q n k r => .dT q (n.sub h) k (Rs.sub h r)
  | _, _, .obj q n k r => .obj q (n.sub h) k (Rs.sub h r)
  | _, _, .xob h1 h2 h3 h4 n r => .xob h1 h2 h3 h4 (n.sub h) (R.sub h r)
  | _, _, .loc q => .loc q
theorem Rs.sub {Z' : List Addr} (h : ∀ z ∈ Z', z ∈ Z) : ∀ {ts : List T} {vs : List V}, Rs K Ω Z ι M H ts vs → Rs K Ω Z' ι M H ts vs
  | _, _, .nil => .nil
  | _, _, .cons r t => .cons (R.sub h r) (Rs.sub h t)
end
theorem RO.sub {Z' : List Addr} (h : ∀ z ∈ Z', z ∈ Z) : ∀ {o : MO} {a : Addr}, RO K Ω Z ι M H o a → RO K Ω Z' ι M H o a
  | _, _, .gone q => .gone q
  | _, _, .lst q r => .lst q (r.sub h)
  | _, _, .dK q k r => .dK q k (r.sub h)
  | _, _, .dT q k r => .dT q k (r.sub h)
  | _, _, .obj q k r => .obj q k (r.sub h)
theorem RM.sub {Z' : List Addr} (h : ∀ z ∈ Z', z ∈ Z) (m : RM K Ω Z ι M H) : RM K Ω Z' ι M H := ⟨m.tab, m.len, m.nd, fun n a o x y => (m.mem n a o x y).sub h, fun z q => m.zin z (h z q)⟩
theorem RV.sub {Z' : List Addr} (h : ∀ z ∈ Z', z ∈ Z) {σT : TV} {σ : L2.St} (r : RV K Ω Z ι M H σT σ) : RV K Ω Z' ι M H σT σ := ⟨r.len, fun i t q =>
  let ⟨v, a, b⟩ := r.at_ i t q
  ⟨v, a, b.sub h⟩⟩
theorem RO.ext (e : Ext Z ι M H ι' M' H') (k : ∀ (a : Addr) (o : HO), H a = some o → (∃ n : Nat, ι[n]? = some a) → ∃ o', H' a = some o') : ∀ {o : MO} {a : Addr}, (∃ n : Nat, ι[n]? = some a) → RO K Ω Z ι M H o a → (o ≠ .gone → H' a = H a) → RO K Ω Z ι' M' H' o a
  | _, _, i, .gone q, _ => let ⟨_, z⟩ := k _ _ q i; .gone z
  | _, _, _, .lst q r, h => .lst ((h (by intro z; cases z)).trans q) (r.ext e)
  | _, _, _, .dK q k r, h => .dK ((h (by intro z; cases z)).trans q) k (r.ext e)
  | _, _, _, .dT q k r, h => .dT ((h (by intro z; cases z)).trans q) k (r.ext e)
  | _, _, _, .obj q k r, h => .obj ((h (by intro z; cases z)).trans q) k (r.ext e)
theorem RO.there : ∀ {o : MO} {a : Addr}, RO K Ω Z ι M H o a → H a ≠ none
  | _, _, .gone q => by rw [q]; exact nofun
  | _, _, .lst q _ => by rw [q]; exact nofun
  | _, _, .dK q _ _ => by rw [q]; exact nofun
  | _, _, .dT q _ _ => by rw [q]; exact nofun
  | _, _, .obj q _ _ => by rw [q]; exact nofun
theorem RM.at {n : Nat} {a : Addr} (m : RM K Ω Z ι M H) (h : ι[n]? = some a) : ∃ o, M[n]? = some o ∧ RO K Ω Z ι M H o a := by
  have hl : n < M.length := by rw [← m.len]; exact (List.getElem?_eq_some_iff.mp h).1
  exact ⟨M[n], List.getElem?_eq_getElem hl, m.mem n a _ h (List.getElem?_eq_getElem hl)⟩
theorem RM.addr {n : Nat} {o : MO} (m : RM K Ω Z ι M H) (h : M[n]? = some o) : ∃ a, ι[n]? = some a ∧ RO K Ω Z ι M H o a := by
  have hl : n < ι.length := by rw [m.len]; exact (List.getElem?_eq_some_iff.mp h).1
  exact ⟨ι[n], List.getElem?_eq_getElem hl, m.mem n _ _ (List.getElem?_eq_getElem hl) h⟩
theorem RM.new (m : RM K Ω Z ι M H) {p : Addr} (h : H p = none) : p ∉ ι := fun q => by
  obtain ⟨n, hn, e⟩ := List.getElem_of_mem q
  obtain ⟨o, _, r⟩ := m.at (n := n) (a := p) (by rw [List.getElem?_eq_getElem hn, e])
  exact r.there h
theorem RM.notLive (m : RM K Ω Z ι M H) {p : Addr} (h : H p = none) : ¬ Live ι M p := fun ⟨n, o, a, _, _⟩ => m.new h (List.mem_of_getElem? a)
theorem RM.notZ (m : RM K Ω Z ι M H) {p : Addr} (h : H p = none) : p ∉ Z := fun z => (m.zin p z).1 h
theorem Ext.new {p : Addr} {o : HO} (h : H p = none) : Ext Z ι M H ι M (upd H p o) := by
  have ne : ∀ a, H a ≠ none → a ≠ p := fun a q e => q (by rw [e]; exact h)
  exact ⟨⟨[], by simp⟩, fun a u q n _ => ⟨by rw [upd_ne (ne a (by rw [q]; exact nofun))]; exact q, n.1⟩, fun a vs q => by rw [upd_ne (ne a (by rw [q]; exact nofun))]; exact q,
    fun a u x q => by rw [upd_ne (ne a (by rw [q]; exact nofun))]; exact q, fun a q => by rw [upd_ne (ne a q)]; exact q⟩
theorem RM.lay (m : RM K Ω Z ι M H) {p : Addr} {o : HO} (h : H p = none) : RM K Ω Z ι M (upd H p o) := by
  have e : Ext Z ι M H ι M (upd H p o) := Ext.new h
  have ne : ∀ a, H a ≠ none → upd H p o a = H a := fun a q => upd_ne fun z => q (by rw [z]; exact h)
  refine ⟨m.tab.ext fun b u q => by rw [ne b (by rw [q]; exact nofun)]; exact q, m.len, m.nd, fun n a u x y => ?_, fun z q => ⟨by rw [ne z (m.zin z q).1]; exact (m.zin z q).1, (m.zin z q).2⟩⟩
  have r := m.mem n a u x y
  exact r.ext e (fun b w q _ => ⟨w, by rw [ne b (by rw [q]; exact nofun)]; exact q⟩) ⟨n, x⟩ (fun _ => ne a r.there)
theorem still_hide {p a : Addr} {u : HO} (h : H p = none) (q : Rd H a u) (n : Still Z ι M a) : Still (p :: Z) ι M a := ⟨n.1, fun z => (List.mem_cons.mp z).elim (fun e => by
  rcases q with q | ⟨_, q⟩ <;> (rw [e, h] at q; cases q)) n.2⟩
mutual
theorem R.hide {p : Addr} (h : H p = none) : ∀ {t : T} {v : V}, R K Ω Z ι M H t v → R K Ω (p :: Z) ι M H t v
  | _, _, .non => .non
  | _, _, .bl b => .bl b
  | _, _, .int i => .int i
  | _, _, .str x s h l => .str x s h l
  | _, _, .tup q r => .tup q (Rs.hide h r)
  | _, _, .ktup q d r => .ktup q d (Rs.hide h r)
  | _, _, .lst q n r => .lst q (still_hide h (.inl q) n) (Rs.hide h r)
  | _, _, .klst q r => .klst q (Rs.hide h r)
  | _, _, .dK q n k r => .dK q (still_hide h q n) k (Rs.hide h r)
  | _, _, .dT q n k r => .dT q (still_hide h q n) k (Rs.hide h r)
  | _, _, .obj q n k r => .obj q ⟨n.1, fun z => (List.mem_cons.mp z).elim (fun e => by rw [e, h] at q; cases q) n.2⟩ k (Rs.hide h r)
  | _, _, .loc q => .loc q
  | _, _, .xob h1 h2 h3 h4 n r => .xob h1 h2 h3 h4 (still_hide h (.inl h4) n) (R.hide h r)
theorem Rs.hide {p : Addr} (h : H p = none) : ∀ {ts : List T} {vs : List V}, Rs K Ω Z ι M H ts vs → Rs K Ω (p :: Z) ι M H ts vs
  | _, _, .nil => .nil
  | _, _, .cons r t => .cons (R.hide h r) (Rs.hide h t)
end
theorem RO.hide {p : Addr} (h : H p = none) : ∀ {o : MO} {a : Addr}, RO K Ω Z ι M H o a → RO K Ω (p :: Z) ι M H o a
  | _, _, .gone q => .gone q
  | _, _, .lst q r => .lst q (r.hide h)
  | _, _, .dK q k r => .dK q k (r.hide h)
  | _, _, .dT q k r => .dT q k (r.hide h)
  | _, _, .obj q k r => .obj q k (r.hide h)
theorem RV.hide {p : Addr} (h : H p = none) {σT : TV} {σ : L2.St} (r : RV K Ω Z ι M H σT σ) : RV K Ω (p :: Z) ι M H σT σ := ⟨r.len, fun i t q =>
  let ⟨v, a, b⟩ := r.at_ i t q
  ⟨v, a, b.hide h⟩⟩
theorem RM.layH (m : RM K Ω Z ι M H) {p : Addr} {o : HO} (h : H p = none) : RM K Ω (p :: Z) ι M (upd H p o) := by
  have e : Ext (p :: Z) ι M H ι M (upd H p o) := Ext.new h
  have ne : ∀ a, H a ≠ none → upd H p o a = H a := fun a q => upd_ne fun z => q (by rw [z]; exact h)
  refine ⟨m.tab.ext fun b u q => by rw [ne b (by rw [q]; exact nofun)]; exact q, m.len, m.nd, fun n a u x y => ?_, fun z q => ?_⟩
  · have r := m.mem n a u x y
    exact (r.hide h).ext e (fun b w q _ => ⟨w, by rw [ne b (by rw [q]; exact nofun)]; exact q⟩) ⟨n, x⟩ (fun _ => ne a r.there)
  · rcases List.mem_cons.mp q with rfl | q
    · exact ⟨by rw [upd_same]; exact nofun, m.notLive h⟩
    · exact ⟨by rw [ne z (m.zin z q).1]; exact (m.zin z q).1, (m.zin z q).2⟩
theorem Ext.turn {p : Addr} {o u : HO} (h : H p = some o) (t1 : ∀ xs, o ≠ .tup xs) (t2 : ∀ x y, o ≠ .frz x y) : Ext (p :: Z) ι M H ι M (upd H p u) := by
  refine ⟨⟨[], by simp⟩, fun a w q n _ => ⟨by rw [upd_ne (fun z => n.2 (by simp [z]))]; exact q, n.1⟩, fun a vs q => ?_, fun a w x q => ?_, fun a q => ?_⟩
  · by_cases z : a = p
    · rw [z, h] at q; exact absurd (Option.some.inj q) (t1 vs)
    · rw [upd_ne z]; exact q
  · by_cases z : a = p
    · rw [z, h] at q; exact absurd (Option.some.inj q) (t2 w x)
    · rw [upd_ne z]; exact q
  · by_cases z : a = p
    · rw [z, upd_same]; exact nofun
    · rw [upd_ne z]; exact q
theorem RM.notIota (m : RM K Ω Z ι M H) {p : Addr} (hp : p ∈ Z) {n : Nat} {o : MO} (h : ι[n]? = some p) (k : M[n]? = some o) : o = .gone := by
  cases o with
  | gone => rfl
  | lst _ => exact absurd ⟨n, _, h, k, nofun⟩ (m.zin p hp).2
  | dct _ _ => exact absurd ⟨n, _, h, k, nofun⟩ (m.zin p hp).2
  | obj _ _ => exact absurd ⟨n, _, h, k, nofun⟩ (m.zin p hp).2
theorem RM.turn {p : Addr} {o u : HO} (m : RM K Ω (p :: Z) ι M H) (h : H p = some o) (t1 : ∀ xs, o ≠ .tup xs) (t2 : ∀ x y, o ≠ .frz x y) (t3 : ∀ ps, o ≠ .tbl ps := by intro _ z; cases z) (t4 : ∀ φ, o ≠ .ext φ := by intro _ z; cases z) : RM K Ω (p :: Z) ι M (upd H p u) := by
  have e : Ext (p :: Z) ι M H ι M (upd H p u) := Ext.turn h t1 t2
  refine ⟨tabs_upd m.tab h t3 t4, m.len, m.nd, fun n a w x y => ?_, fun z q => ⟨e.there z (m.zin z q).1, (m.zin z q).2⟩⟩
  refine (m.mem n a w x y).ext e (fun b v q _ => ?_) ⟨n, x⟩ (fun ng => upd_ne fun z => ng (m.notIota (p := a) (by simp [z]) x y))
  have := e.there b (by rw [q]; exact nofun)
  cases r : upd H p u b with
  | none => exact absurd r this
  | some o' => exact ⟨o', rfl⟩
theorem live_set {n : Nat} {o o' : MO} {a : Addr} (h : M[n]? = some o) (ho : o ≠ .gone) (hn : ι[n]? = some a) (b : Addr) : Live ι (M.set n o') b → Live ι M b := fun ⟨m, u, x, y, z⟩ => by
  have hl : n < M.length := (List.getElem?_eq_some_iff.mp h).1
  by_cases e : n = m
  · subst e
    exact ⟨n, o, x, h, ho⟩
  · rw [List.getElem?_set_ne e] at y
    exact ⟨m, u, x, y, z⟩
theorem Ext.write {n : Nat} {a : Addr} {o o' : MO} {v u : HO} (hn : ι[n]? = some a) (h : M[n]? = some o) (ho : o ≠ .gone) (hv : H a = some v) (t1 : ∀ xs, v ≠ .tup xs) (t2 : ∀ x y, v ≠ .frz x y) : Ext Z ι M H ι (M.set n o') (upd H a u) := by
  have lv : Live ι M a := ⟨n, o, hn, h, ho⟩
  refine ⟨⟨[], by simp⟩, fun b w q s _ => ⟨by rw [upd_ne (fun z => s.1 (by rw [z]; exact lv))]; exact q, fun z => s.1 (live_set h ho hn b z)⟩, fun b vs q => ?_, fun b w x q => ?_, fun b q => ?_⟩
  · by_cases z : b = a
    · rw [z, hv] at q; exact absurd (Option.some.inj q) (t1 vs)
    · rw [upd_ne z]; exact q
  · by_cases z : b = a
    · rw [z, hv] at q; exact absurd (Option.some.inj q) (t2 w x)
    · rw [upd_ne z]; exact q
  · by_cases z : b = a
    · rw [z, upd_same]; exact nofun
    · rw [upd_ne z]; exact q
theorem RM.write (m : RM K Ω Z ι M H) {n : Nat} {a : Addr} {o o' : MO} {v u : HO} (hn : ι[n]? = some a) (h : M[n]? = some o) (ho : o ≠ .gone) (hv : H a = some v) (t1 : ∀ xs, v ≠ .tup xs) (t2 : ∀ x y, v ≠ .frz x y)
    (new : Ext Z ι M H ι (M.set n o') (upd H a u) → RO K Ω Z ι (M.set n o') (upd H a u) o' a) (t3 : ∀ ps, v ≠ .tbl ps := by intro _ z; cases z) (t4 : ∀ φ, v ≠ .ext φ := by intro _ z; cases z) : RM K Ω Z ι (M.set n o') (upd H a u) := by
  have e : Ext Z ι M H ι (M.set n o') (upd H a u) := Ext.write hn h ho hv t1 t2
  have hl : n < M.length := (List.getElem?_eq_some_iff.mp h).1
  have back : ∀ (k : Nat) (w : MO), (M.set n o')[k]? = some w → w ≠ .gone → ∃ w', M[k]? = some w' ∧ w' ≠ .gone := fun k w y g => by
    by_cases z : n = k
    · subst z
      exact ⟨o, h, ho⟩
    · rw [List.getElem?_set_ne z] at y
      exact ⟨w, y, g⟩
  refine ⟨tabs_upd m.tab hv t3 t4, by rw [List.length_set]; exact m.len, fun i j b u w x y p q g1 g2 => ?_, fun k b w x y => ?_, fun z q => ⟨e.there z (m.zin z q).1, fun s => (m.zin z q).2 (live_set h ho hn z s)⟩⟩
  · obtain ⟨_, p1, p2⟩ := back i u p g1
    obtain ⟨_, q1, q2⟩ := back j w q g2
    exact m.nd i j b _ _ x y p1 q1 p2 q2
  by_cases z : n = k
  · subst z
    rw [List.getElem?_set_self hl] at y
    cases y
    rw [hn] at x
    cases x
    exact new e
  · rw [List.getElem?_set_ne z] at y
    have nb : w ≠ .gone → b ≠ a := fun g q => by
      subst q
      exact z (m.nd n k b o w hn x h y ho g)
    refine (m.mem k b w x y).ext e (fun c v q _ => ?_) ⟨k, x⟩ (fun g => upd_ne (nb g))
    have := e.there c (by rw [q]; exact nofun)
    cases r : upd H a u c with
    | none => exact absurd r this
    | some o' => exact ⟨o', rfl⟩
theorem live_push {p : Addr} {o : MO} (len : ι.length = M.length) {b : Addr} (h : Live (ι ++ [p]) (M ++ [o]) b) : Live ι M b ∨ b = p := by
  obtain ⟨k, w, x, y, z⟩ := h
  by_cases q : k < ι.length
  · rw [List.getElem?_append_left q] at x
    rw [List.getElem?_append_left (by omega)] at y
    exact .inl ⟨k, w, x, y, z⟩
  · rw [List.getElem?_append_right (by omega)] at x
    by_cases r : k - ι.length = 0
    · rw [r] at x
      exact .inr (Option.some.inj x).symm
    · rw [List.getElem?_eq_none (by simp; omega)] at x
      cases x
theorem Ext.push {p : Addr} {o : MO} (len : ι.length = M.length) : Ext (p :: Z) ι M H (ι ++ [p]) (M ++ [o]) H :=
  ⟨⟨[p], rfl⟩, fun b w q s _ => ⟨q, fun z => (live_push len z).elim s.1 fun e => s.2 (by simp [e])⟩, fun b vs q => q, fun b w x q => q, fun b q => q⟩
theorem RM.push {p : Addr} {o : MO} (m : RM K Ω (p :: Z) ι M H) (hz : p ∉ Z) (new : Ext (p :: Z) ι M H (ι ++ [p]) (M ++ [o]) H → RO K Ω Z (ι ++ [p]) (M ++ [o]) H o p) : RM K Ω Z (ι ++ [p]) (M ++ [o]) H := by
  have e : Ext (p :: Z) ι M H (ι ++ [p]) (M ++ [o]) H := Ext.push m.len
  have hs : ∀ z ∈ Z, z ∈ p :: Z := fun z q => List.mem_cons_of_mem _ q
  have nl : ¬ Live ι M p := (m.zin p (by simp)).2
  have two : ∀ (k : Nat) (b : Addr) (w : MO), (ι ++ [p])[k]? = some b → (M ++ [o])[k]? = some w → (ι[k]? = some b ∧ M[k]? = some w) ∨ (k = ι.length ∧ b = p) := fun k b w x y => by
    by_cases q : k < ι.length
    · rw [List.getElem?_append_left q] at x
      rw [List.getElem?_append_left (by rw [← m.len]; exact q)] at y
      exact .inl ⟨x, y⟩
    · have hk : k = ι.length := by
        have := (List.getElem?_eq_some_iff.mp x).1
        simp at this
        omega
      subst hk
      rw [List.getElem?_append_right (Nat.le_refl _), Nat.sub_self] at x
      exact .inr ⟨rfl, (Option.some.inj x).symm⟩
  refine ⟨m.tab, by simp [m.len], fun i j b u w x y p1 q1 g1 g2 => ?_, fun k b w x y => ?_, fun z q => ⟨(m.zin z (hs z q)).1, fun s => (live_push m.len s).elim (m.zin z (hs z q)).2 fun e => hz (e ▸ q)⟩⟩
  · rcases two i b u x p1 with ⟨x1, p2⟩ | ⟨x1, x2⟩
    · rcases two j b w y q1 with ⟨y1, q2⟩ | ⟨y1, y2⟩
      · exact m.nd i j b u w x1 y1 p2 q2 g1 g2
      · subst y2
        exact absurd ⟨i, u, x1, p2, g1⟩ nl
    · rcases two j b w y q1 with ⟨y1, q2⟩ | ⟨y1, y2⟩
      · subst x2
        exact absurd ⟨j, w, y1, q2, g2⟩ nl
      · rw [x1, y1]
  · by_cases q : k < ι.length
    · rw [List.getElem?_append_left q] at x
      rw [List.getElem?_append_left (by rw [← m.len]; exact q)] at y
      exact ((m.mem k b w x y).ext e (fun c v q _ => ⟨v, q⟩) ⟨k, x⟩ (fun _ => rfl)).sub hs
    · have hk : k = ι.length := by
        have := (List.getElem?_eq_some_iff.mp x).1
        simp at this
        omega
      subst hk
      rw [List.getElem?_append_right (Nat.le_refl _), Nat.sub_self] at x
      rw [m.len, List.getElem?_append_right (Nat.le_refl _), Nat.sub_self] at y
      cases x
      cases y
      exact new e
theorem RV.set {σT : TV} {σ : L2.St} (r : RV K Ω Z ι M H σT σ) (i : Nat) {t : T} {v : V} (q : R K Ω Z ι M H t v) : RV K Ω Z ι M H (σT.set i (some t)) (σ.set i (some v)) := ⟨by simp [r.len], fun j u h => by
  have hl := r.len
  by_cases e : i = j
  · subst e
    by_cases hi : i < σT.length
    · rw [List.getElem?_set_self hi] at h
      cases h
      exact ⟨v, by rw [List.getElem?_set_self (by omega)], q⟩
    · rw [List.getElem?_eq_none (by simpa using hi)] at h
      cases h
  · rw [List.getElem?_set_ne e] at h
    obtain ⟨w, a, b⟩ := r.at_ j u h
    exact ⟨w, by rw [List.getElem?_set_ne e]; exact a, b⟩⟩
end
end Mi
namespace Mi
open PySem PySem.Spec PyProof.Rows L2

def Res.bind {α β : Type} (r : Res α) (k : α → Mem → Res β) : Res β := match r with
  | .ok a M => k a M
  | .exc c v M => .exc c v M
  | .err => .err
def Res.calm {α : Type} : Res α → Res α
  | .ok a M => .ok a M
  | _ => .err
abbrev EF := TV → Mem → Res T
abbrev TF := TV → Mem → Res Bool
abbrev AF := TV → Mem → Res (List T)
inductive Fl where
  | nx (σ : TV) | rt (t : T) | bk (σ : TV) | ct (σ : TV) | ex (σ : TV) (c : Nat) (t : T)
  deriving Inhabited
abbrev SF := TV → Mem → Option (Fl × Mem)

section
variable (K : PySem.W.Frag) (Ω : Om)
abbrev Rel (α β : Type) := List Addr → List Addr → Mem → Hp → α → β → Prop
def Post {α β : Type} (Rα : Rel α β) (W : Value → Option Addr → Hp → Prop) (Z : List Addr) (ι : List Addr) (M : Mem) (H : Hp) (Q : β → Hp → Prop) : Res α → Prop
  | .ok t M' => ∀ ι' H' v, RM K Ω Z ι' M' H' → Ext [] ι M H ι' M' H' → Rα Z ι' M' H' t v → Q v H'
  | .exc c t M' => ∀ ι' H' dd v, RM K Ω Z ι' M' H' → Ext [] ι M H ι' M' H' → R K Ω Z ι' M' H' t v → H' dd = some (.xd [("value", v)]) → Still Z ι' M' dd → W (.ref (Ω.cls c)) (some dd) H'
  | .err => False
def RB : Rel Bool Bool := fun _ _ _ _ a b => a = b
def lift {α β : Type} (Rα : Rel α β) (W : WX) (f : TV → Mem → Res α) : L2.St → Hp → (β → Hp → Prop) → Prop := fun σ H Q =>
  ∃ Z ι M σT, RM K Ω Z ι M H ∧ RV K Ω Z ι M H σT σ ∧ Post K Ω Rα (fun c d H' => W c d σ H') Z ι M H Q (f σT M)
abbrev liftE : WX → EF → TE := lift K Ω (R K Ω)
abbrev liftT : WX → TF → TT := lift K Ω RB
abbrev liftA : WX → AF → TA := lift K Ω (Rs K Ω)
def PostS (W : WX) (Z : List Addr) (ι : List Addr) (M : Mem) (H : Hp) (D : L2.Ends) : Option (Fl × Mem) → Prop
  | some (.nx σT, M') => ∀ ι' σ' H', RM K Ω Z ι' M' H' → Ext [] ι M H ι' M' H' → RV K Ω Z ι' M' H' σT σ' → D.nx σ' H'
  | some (.rt t, M') => ∀ ι' H' v, RM K Ω Z ι' M' H' → Ext [] ι M H ι' M' H' → R K Ω Z ι' M' H' t v → D.rt v H'
  | some (.bk σT, M') => ∀ ι' σ' H', RM K Ω Z ι' M' H' → Ext [] ι M H ι' M' H' → RV K Ω Z ι' M' H' σT σ' → D.bk σ' H'
  | some (.ct σT, M') => ∀ ι' σ' H', RM K Ω Z ι' M' H' → Ext [] ι M H ι' M' H' → RV K Ω Z ι' M' H' σT σ' → D.ct σ' H'
  | some (.ex σT c t, M') => ∀ ι' σ' H' dd v, RM K Ω Z ι' M' H' → Ext [] ι M H ι' M' H' → RV K Ω Z ι' M' H' σT σ' → R K Ω Z ι' M' H' t v → H' dd = some (.xd [("value", v)]) → Still Z ι' M' dd → W (.ref (Ω.cls c)) (some dd) σ' H'
  | none => False
def liftS (W : WX) (f : SF) : TS := fun D σ H => ∃ Z ι M σT, RM K Ω Z ι M H ∧ RV K Ω Z ι M H σT σ ∧ PostS K Ω W Z ι M H D (f σT M)
end

section
variable {K : PySem.W.Frag} {Ω : Om} {α β γ δ : Type} {Rα : Rel α β} {Rγ : Rel γ δ} {W : WX} {Wh : Value → Option Addr → Hp → Prop} {Z ι ι' : List Addr} {M M' : Mem} {H H' : Hp} {Q : β → Hp → Prop}
theorem Post.ext {r : Res α} (p : Post K Ω Rα Wh Z ι M H Q r) (e : Ext [] ι M H ι' M' H') : Post K Ω Rα Wh Z ι' M' H' Q r := by
  cases r with
  | ok t M2 => exact fun ι2 H2 v m x q => p ι2 H2 v m (e.trans x) q
  | exc c t M2 => exact fun ι2 H2 dd v m x q => p ι2 H2 dd v m (e.trans x) q
  | err => exact p
theorem PostS.ext {D : L2.Ends} {r : Option (Fl × Mem)} (p : PostS K Ω W Z ι M H D r) (e : Ext [] ι M H ι' M' H') : PostS K Ω W Z ι' M' H' D r := by
  match r, p with
  | some (.nx _, _), p => exact fun ι2 σ2 H2 m x q => p ι2 σ2 H2 m (e.trans x) q
  | some (.rt _, _), p => exact fun ι2 H2 v m x q => p ι2 H2 v m (e.trans x) q
  | some (.bk _, _), p => exact fun ι2 σ2 H2 m x q => p ι2 σ2 H2 m (e.trans x) q
  | some (.ct _, _), p => exact fun ι2 σ2 H2 m x q => p ι2 σ2 H2 m (e.trans x) q
  | some (.ex _ _ _, _), p => exact fun ι2 σ2 H2 dd v m x q => p ι2 σ2 H2 dd v m (e.trans x) q
theorem Post.bind {r : Res α} {k : α → Mem → Res γ} {Q : δ → Hp → Prop} {T' : β → Hp → Prop} (p : Post K Ω Rγ Wh Z ι M H Q (r.bind k))
    (h : ∀ ι1 M1 H1 t v, RM K Ω Z ι1 M1 H1 → Ext [] ι M H ι1 M1 H1 → Rα Z ι1 M1 H1 t v → Post K Ω Rγ Wh Z ι1 M1 H1 Q (k t M1) → T' v H1) : Post K Ω Rα Wh Z ι M H T' r := by
  cases r with
  | ok t M1 => exact fun ι1 H1 v m1 e1 r1 => h ι1 M1 H1 t v m1 e1 r1 (Post.ext p e1)
  | exc c t M1 => exact p
  | err => exact p
theorem Post.pure {r : α} {v : β} (p : Post K Ω Rα Wh Z ι M H Q (.ok r M)) (m : RM K Ω Z ι M H) (h : Rα Z ι M H r v) : Q v H := p ι H v m Ext.refl h
end
theorem L2PE.imp {X : Cx} {e : Expr} {t t' : TE} (h : PE X e t) (k : ∀ σ H Q, t' σ H Q → t σ H Q) : PE X e t' := ⟨fun pins s σ H Q I q => h.run pins s σ H Q I (k σ H Q q)⟩
theorem L2PT.imp {X : Cx} {e : Expr} {t t' : TT} (h : PT X e t) (k : ∀ σ H Q, t' σ H Q → t σ H Q) : PT X e t' := ⟨fun pins s σ H Q I q => h.run pins s σ H Q I (k σ H Q q)⟩
theorem L2PA.imp {X : Cx} {e : List Expr} {t t' : TA} (h : PA X e t) (k : ∀ σ H Q, t' σ H Q → t σ H Q) : PA X e t' := ⟨fun pos pins s σ H Q I q => h.run pos pins s σ H Q I (k σ H Q q)⟩
theorem L2PS.imp {X : Cx} {e : Stmt} {t t' : TS} (h : PS X e t) (k : ∀ D σ H, t' D σ H → t D σ H) : PS X e t' := ⟨fun pins s σ H D I q => h.run pins s σ H D I (k D σ H q)⟩
theorem L2PSs.imp {X : Cx} {e : List Stmt} {t t' : TS} (h : PSs X e t) (k : ∀ D σ H, t' D σ H → t D σ H) : PSs X e t' := ⟨fun pins s σ H D I q => h.run pins s σ H D I (k D σ H q)⟩

abbrev ME (X : Cx) (Ω : Om) (W : WX) (e : Expr) (f : EF) : Prop := PE X e (liftE X.K Ω W f)
abbrev MT (X : Cx) (Ω : Om) (W : WX) (e : Expr) (f : TF) : Prop := PT X e (liftT X.K Ω W f)
abbrev MA (X : Cx) (Ω : Om) (W : WX) (es : List Expr) (f : AF) : Prop := PA X es (liftA X.K Ω W f)
abbrev MS (X : Cx) (Ω : Om) (W : WX) (s : Stmt) (f : SF) : Prop := PS X s (liftS X.K Ω W f)
abbrev MSs (X : Cx) (Ω : Om) (W : WX) (s : List Stmt) (f : SF) : Prop := PSs X s (liftS X.K Ω W f)

section
variable {X : Cx} {Ω : Om} {W : WX} {e a b c : Expr} {es : List Expr} {f g : EF} {fa : AF} {ft gt : TF} {pos : Pos}
def eVar (i : Nat) : EF := fun σ M => match σ[i]? with
  | some (some t) => .ok t M
  | _ => .err
def eC (t : T) : EF := fun _ M => .ok t M
theorem me_var (i : Nat) {x : Str} (hN : X.N[i]? = some x := by rfl) (hv : Vis X.env.scope x := by first | exact Or.inl rfl | exact Or.inr (Or.inl rfl) | exact Or.inr (Or.inr rfl)) (hd : (x == ("__debug__" : Str)) = false := by decide)
    (hcd : (x == ("__classdict__" : Str)) = false := by decide) : ME X Ω W (.Name x pos) (eVar i) := L2PE.imp (pe_var hN hv hd hcd) fun σ H Q h => by
  obtain ⟨Z, ι, M, σT, m, r, p⟩ := h
  unfold eVar at p
  split at p
  · rename_i t q
    obtain ⟨v, e, rv⟩ := r.at_ i t q
    exact ⟨v, e, p.pure m rv⟩
  · exact p.elim
theorem me_c {t : T} {v : V} (h : PE X e (tC v)) (hr : ∀ Z ι M H, R X.K Ω Z ι M H t v) : ME X Ω W e (eC t) := L2PE.imp h fun σ H Q q => by
  obtain ⟨Z, ι, M, σT, m, r, p⟩ := q
  exact p.pure m (hr Z ι M H)
theorem me_int {i : Int} {j} : ME X Ω W (.Constant (.int i) j pos) (eC (.int i)) := me_c pe_int fun _ _ _ _ => .int i
theorem me_bl {i : Bool} {j} : ME X Ω W (.Constant (.bool i) j pos) (eC (.bl i)) := me_c pe_bl fun _ _ _ _ => .bl i
theorem me_non {j} : ME X Ω W (.Constant .none j pos) (eC .non) := me_c pe_non fun _ _ _ _ => .non
theorem spell_flat {r : Nat → List Nat} : ∀ {x : List Nat}, x.all (fun c => decide (c < symB)) = true → spell r x = x
  | [], _ => rfl
  | c :: x, h => by
    rw [List.all_cons, Bool.and_eq_true, decide_eq_true_eq] at h
    unfold spell
    rw [List.flatMap_cons, if_pos h.1]
    show c :: spell r x = c :: x
    rw [spell_flat h.2]
theorem me_str {x : Str} {y : List Nat} {j} (h : x.cps.toList = y := by rfl) (hf : (y.all (fun c => decide (c < symB)) && decide (y.length ≤ 2000000)) = true := by decide) : ME X Ω W (.Constant (.str x) j pos) (eC (.str y)) := by
  rw [Bool.and_eq_true, decide_eq_true_eq] at hf
  exact me_c pe_str fun _ _ _ _ => .str y x (by rw [spell_flat hf.1]; exact h) hf.2
def aNil : AF := fun _ M => .ok [] M
def aCons (f : EF) (g : AF) : AF := fun σ M => (f σ M).bind fun t M1 => (g σ M1).bind fun ts M2 => .ok (t :: ts) M2
theorem ma_nil : MA X Ω W [] aNil := L2PA.imp pa_nil fun σ H Q ⟨Z, ι, M, σT, m, r, p⟩ => p.pure m .nil
theorem ma_cons (ha : ME X Ω W e f) (hr : MA X Ω W es fa) (hs : starEach (e :: es) X.env = (false, eval e X.env) :: starEach es X.env := by rfl) : MA X Ω W (e :: es) (aCons f fa) := L2PA.imp (pa_cons ha hr hs) fun σ H Q ⟨Z, ι, M, σT, m, r, p⟩ =>
  ⟨Z, ι, M, σT, m, r, Post.bind p fun ι1 M1 H1 t v m1 e1 q1 p1 => ⟨Z, ι1, M1, σT, m1, r.ext e1.any, Post.bind p1 fun ι2 M2 H2 ts vs m2 e2 q2 p2 => p2.pure m2 (.cons (q1.ext e2.any) q2)⟩⟩
abbrev Op2 := Mem → T → T → Option T
def Res.of {α : Type} (o : Option α) (M : Mem) : Res α := match o with
  | some t => .ok t M
  | none => .err
def eOp (op : Op2) (f g : EF) : EF := fun σ M => (f σ M).bind fun t M1 => (g σ M1).bind fun u M2 => .of (op M2 t u) M2
def OpS (K : PySem.W.Frag) (Ω : Om) (r : R2) (op : Op2) : Prop := ∀ Z ι M H t u v w z Q, RM K Ω Z ι M H → R K Ω Z ι M H t v → R K Ω Z ι M H u w → op M t u = some z →
  (∀ ι' H' x, RM K Ω Z ι' M H' → Ext [] ι M H ι' M H' → R K Ω Z ι' M H' z x → Q x H') → r v w H Q
theorem tOp_of {r : R2} {op : Op2} (h : OpS X.K Ω r op) {σ : L2.St} {H : Hp} {Q : VK} (q : liftE X.K Ω W (eOp op f g) σ H Q) : tOp r (liftE X.K Ω W f) (liftE X.K Ω W g) σ H Q := by
  obtain ⟨Z, ι, M, σT, m, rv, p⟩ := q
  refine ⟨Z, ι, M, σT, m, rv, Post.bind p fun ι1 M1 H1 t v m1 e1 q1 p1 => ⟨Z, ι1, M1, σT, m1, rv.ext e1.any, Post.bind p1 fun ι2 M2 H2 u w m2 e2 q2 p2 => ?_⟩⟩
  cases e : op M2 t u with
  | none => rw [e] at p2; exact p2.elim
  | some z => rw [e] at p2; exact h Z ι2 M2 H2 t u v w z Q m2 (q1.ext e2.any) q2 e fun ι' H' x m' e' r' => p2 ι' H' x m' e' r'
theorem me_bin {o : Operator} {r : R2} {op : Op2} (ho : OpR X (binaryOp o) r) (h : OpS X.K Ω r op) (ha : ME X Ω W a f) (hb : ME X Ω W b g) : ME X Ω W (.BinOp a o b pos) (eOp op f g) := L2PE.imp (pe_op ho ha hb) fun _ _ _ q => tOp_of h q
theorem me_cmp {o : CmpOp} {r : R2} {op : Op2} (ho : OpR X (compareOp o) r) (h : OpS X.K Ω r op) (ha : ME X Ω W a f) (hb : ME X Ω W b g) (hm : behindInMarks o b = false := by rfl) : ME X Ω W (.Compare a [o] [b] pos) (eOp op f g) := L2PE.imp (pe_cmpR ho ha hb hm) fun _ _ _ q => tOp_of h q
def tVal (f : EF) : TF := fun σ M => (f σ M).bind fun t M1 => match t with
  | .bl k => .ok k M1
  | _ => .err
theorem mt_cmp {o : CmpOp} {r : R2} {op : Op2} (ho : OpR X (compareOp o) r) (h : OpS X.K Ω r op) (ha : ME X Ω W a f) (hb : ME X Ω W b g) (hm : behindInMarks o b = false := by rfl) : MT X Ω W (.Compare a [o] [b] pos) (tVal (eOp op f g)) := L2PT.imp (pt_cmpR ho ha hb hm) fun σ H Q q => by
  refine tOp_of h ?_
  obtain ⟨Z, ι, M, σT, m, rv, p⟩ := q
  refine ⟨Z, ι, M, σT, m, rv, Post.bind p fun ι1 M1 H1 t v m1 e1 q1 p1 => ?_⟩
  cases t with
  | bl k => cases q1; exact ⟨k, rfl, p1.pure m1 rfl⟩
  | _ => exact p1.elim
def truth (M : Mem) : T → Option Bool
  | .non => some false
  | .bl k => some k
  | .int i => some (i != 0)
  | .str x => some (!x.isEmpty)
  | .tup xs => some (!xs.isEmpty)
  | .ktup xs => some (!xs.isEmpty)
  | .lst xs => some (!xs.isEmpty)
  | .klst xs => some (!xs.isEmpty)
  | .dct _ _ => none
  | .obj _ _ => none
  | .xob _ _ => none
  | .loc n => match M[n]? with
    | some (.lst xs) => some (!xs.isEmpty)
    | _ => none
def tTru (f : EF) : TF := fun σ M => (f σ M).bind fun t M1 => .of (truth M1 t) M1
theorem spell_nil {x : List Nat} : (spell Ω.rho x).isEmpty = x.isEmpty := by
  cases x with
  | nil => rfl
  | cons c x =>
    unfold spell
    rw [List.flatMap_cons]
    have : (if c < symB then [c] else Ω.rho c) ≠ [] := by
      split
      · simp
      · exact Ω.rne c
    cases q : (if c < symB then [c] else Ω.rho c) with
    | nil => exact absurd q this
    | cons _ _ => rfl
theorem Rs.length {K : PySem.W.Frag} {Z ι M H} : ∀ {ts : List T} {vs : List V}, Rs K Ω Z ι M H ts vs → ts.length = vs.length
  | _, _, .nil => rfl
  | _, _, .cons _ t => by simp [Rs.length t]
theorem Rs.isEmpty {K : PySem.W.Frag} {Z ι M H} {ts : List T} {vs : List V} (h : Rs K Ω Z ι M H ts vs) : vs.isEmpty = ts.isEmpty := by cases h <;> rfl

theorem spell_le {x : List Nat} : (spell Ω.rho x).length ≤ 8 * x.length := by
  induction x with
  | nil => exact Nat.zero_le _
  | cons c x ih =>
    unfold spell at ih ⊢
    rw [List.flatMap_cons, List.length_append, List.length_cons]
    have : (if c < symB then [c] else Ω.rho c).length ≤ 8 := by
      split
      · simp
      · exact Ω.rle c
    omega
theorem str_size {x : List Nat} {s : Str} (h : s.cps.toList = spell Ω.rho x) (l : x.length ≤ 2000000) : s.length ≤ sizeLine := by
  have e : s.length = s.cps.toList.length := by rw [Array.length_toList]; rfl
  rw [e, h, sizeLine_eq]
  have := spell_le (Ω := Ω) (x := x)
  omega
theorem str_zero {x : List Nat} {s : Str} (h : s.cps.toList = spell Ω.rho x) : (((s.length : Nat) : Int) != 0) = !x.isEmpty := by
  have e : s.length = s.cps.toList.length := by rw [Array.length_toList]; rfl
  rw [e, h, ← spell_nil (Ω := Ω) (x := x)]
  cases spell Ω.rho x with
  | nil => rfl
  | cons c y =>
    rw [List.length_cons]
    simp only [List.isEmpty_cons, Bool.not_false, bne_iff_ne, ne_eq]
    omega
theorem truV_of {K : PySem.W.Frag} {Z ι M H} {t : T} {v : V} {k : Bool} (m : RM K Ω Z ι M H) (r : R K Ω Z ι M H t v) (h : truth M t = some k) : TruV K v H k := by
  cases r with
  | non => cases h; rfl
  | bl b => cases h; rfl
  | int i => cases h; rfl
  | str x s e l => cases h; exact ⟨str_size e l, (str_zero e).symm⟩
  | tup q rs => cases h; exact .inr (.inl ⟨_, .of q, by rw [rs.isEmpty]⟩)
  | ktup q _ rs => cases h; exact .inr (.inl ⟨_, q, by rw [rs.isEmpty]⟩)
  | lst q n rs => cases h; exact .inl ⟨_, .inl (.inl q), by rw [rs.isEmpty]⟩
  | klst q rs => cases h; exact .inl ⟨_, KL.sql q, by rw [rs.isEmpty]⟩
  | dK q n k rs => cases h
  | xob => cases h
  | dT q n k rs => cases h
  | obj q n k rs => cases h
  | loc q =>
    rename_i n a
    obtain ⟨o, e, ro⟩ := m.at q
    have h : (match M[n]? with | some (MO.lst xs) => some (!xs.isEmpty) | _ => none) = some k := h
    rw [e] at h
    cases ro with
    | lst hl rs => cases h; exact .inl ⟨_, .inl (.inl hl), by rw [rs.isEmpty]⟩
    | gone _ => cases h
    | obj _ _ _ => cases h
    | dK _ _ _ => cases h
    | dT _ _ _ => cases h
theorem mt_tru (ha : ME X Ω W a f) (he : ∀ whole, isTrue a X.env whole = (do let v ← whole; standAt a.pos; holding [v] (PySem.truthy v)) := by intro _; rfl) : MT X Ω W a (tTru f) := L2PT.imp (pt_truth ha he) fun σ H Q ⟨Z, ι, M, σT, m, rv, p⟩ =>
  ⟨Z, ι, M, σT, m, rv, Post.bind p fun ι1 M1 H1 t v m1 e1 q1 p1 => by
    cases e : truth M1 t with
    | none => rw [e] at p1; exact p1.elim
    | some k => rw [e] at p1; exact ⟨k, truV_of m1 q1 e, p1.pure m1 rfl⟩⟩
abbrev MW (X : Cx) (Ω : Om) (W : WX) (e : Expr) (f : TF) : Prop := PW X e (liftT X.K Ω W f)
def tAnd2 (f g : TF) : TF := fun σ M => (f σ M).bind fun k M1 => bif k then g σ M1 else .ok false M1
def tOr2 (f g : TF) : TF := fun σ M => (f σ M).bind fun k M1 => bif k then .ok true M1 else g σ M1
def tNot2 (f : TF) : TF := fun σ M => (f σ M).bind fun k M1 => .ok (!k) M1
theorem L2PW.imp {X : Cx} {e : Expr} {t t' : TT} (h : PW X e t) (k : ∀ σ H Q, t' σ H Q → t σ H Q) : PW X e t' := ⟨fun wh pins s σ H Q I q => h.run wh pins s σ H Q I (k σ H Q q)⟩
theorem mw_and1 (ha : MT X Ω W a ft) : MW X Ω W (.BoolOp .And [a] pos) ft := pw_and1 ha
theorem mw_or1 (ha : MT X Ω W a ft) : MW X Ω W (.BoolOp .Or [a] pos) ft := pw_or1 ha
theorem mw_and {rest : List Expr} (ha : MT X Ω W a ft) (hb : MW X Ω W (.BoolOp .And (b :: rest) pos) gt) : MW X Ω W (.BoolOp .And (a :: b :: rest) pos) (tAnd2 ft gt) := L2PW.imp (pw_and ha hb) fun σ H Q ⟨Z, ι, M, σT, m, rv, p⟩ =>
  ⟨Z, ι, M, σT, m, rv, Post.bind p fun ι1 M1 H1 t v m1 e1 q1 p1 => by
    cases q1
    cases t with
    | true => rw [if_pos rfl]; exact ⟨Z, ι1, M1, σT, m1, rv.ext e1.any, p1⟩
    | false => rw [if_neg Bool.false_ne_true]; exact p1.pure m1 rfl⟩
theorem mw_or {rest : List Expr} (ha : MT X Ω W a ft) (hb : MW X Ω W (.BoolOp .Or (b :: rest) pos) gt) : MW X Ω W (.BoolOp .Or (a :: b :: rest) pos) (tOr2 ft gt) := L2PW.imp (pw_or ha hb) fun σ H Q ⟨Z, ι, M, σT, m, rv, p⟩ =>
  ⟨Z, ι, M, σT, m, rv, Post.bind p fun ι1 M1 H1 t v m1 e1 q1 p1 => by
    cases q1
    cases t with
    | false => rw [if_neg Bool.false_ne_true]; exact ⟨Z, ι1, M1, σT, m1, rv.ext e1.any, p1⟩
    | true => rw [if_pos rfl]; exact p1.pure m1 rfl⟩
theorem mt_w (h : MW X Ω W a ft) : MT X Ω W a ft := PW.pt h
theorem mt_not (ha : MT X Ω W a ft) : MT X Ω W (.UnaryOp .Not a pos) (tNot2 ft) := L2PT.imp (pt_not ha) fun σ H Q ⟨Z, ι, M, σT, m, rv, p⟩ =>
  ⟨Z, ι, M, σT, m, rv, Post.bind p fun ι1 M1 H1 t v m1 e1 q1 p1 => by
    cases q1
    exact p1.pure m1 rfl⟩
def eIf (c : TF) (f g : EF) : EF := fun σ M => (c σ M).bind fun k M1 => bif k then f σ M1 else g σ M1
theorem me_if (hc : MT X Ω W c ft) (ha : ME X Ω W a f) (hb : ME X Ω W b g) : ME X Ω W (.IfExp c a b pos) (eIf ft f g) := L2PE.imp (pe_ifExp hc ha hb) fun σ H Q ⟨Z, ι, M, σT, m, rv, p⟩ =>
  ⟨Z, ι, M, σT, m, rv, Post.bind p fun ι1 M1 H1 t v m1 e1 q1 p1 => by
    cases q1
    cases t with
    | true => rw [if_pos rfl]; exact ⟨Z, ι1, M1, σT, m1, rv.ext e1.any, p1⟩
    | false => rw [if_neg Bool.false_ne_true]; exact ⟨Z, ι1, M1, σT, m1, rv.ext e1.any, p1⟩⟩
def big (n : Nat) : Bool := decide (n ≤ 2000000)
theorem big_ok {n : Nat} (h : big n = true) : n ≤ sizeLine := by
  have := of_decide_eq_true h
  rw [sizeLine_eq]; omega
def eTup (g : AF) : EF := fun σ M => (g σ M).bind fun ts M1 => bif big ts.length then .ok (.tup ts) M1 else .err
theorem me_tup {x1} (h : MA X Ω W es fa) : ME X Ω W (.Tuple es x1 pos) (eTup fa) := L2PE.imp (pe_tup h) fun σ H Q ⟨Z, ι, M, σT, m, rv, p⟩ =>
  ⟨Z, ι, M, σT, m, rv, Post.bind p fun ι1 M1 H1 ts vs m1 e1 q1 p1 => by
    cases z : big ts.length with
    | false => rw [z] at p1; exact p1.elim
    | true =>
      rw [z] at p1
      refine ⟨by rw [← q1.length]; exact big_ok z, fun q np => ?_⟩
      exact p1 ι1 _ _ (m1.lay np) (Ext.new np) (.tup upd_same (q1.ext (Ext.new np)))⟩
abbrev MLr (K : PySem.W.Frag) (Ω : Om) (W : WX) (f : AF) : TE := fun σ H Q => ∃ Z ι M σT, RM K Ω Z ι M H ∧ RV K Ω Z ι M H σT σ ∧ match f σT M with
  | .ok ts M' => ∀ ι' H' p vs, H p = none → RM K Ω (p :: Z) ι' M' H' → p ∉ Z → Ext [] ι M H ι' M' H' → H' p = some (.lst vs) → Rs K Ω (p :: Z) ι' M' H' ts vs → Q (.ref p) H'
  | .exc c t M' => ∀ ι' H' dd v, RM K Ω Z ι' M' H' → Ext [] ι M H ι' M' H' → R K Ω Z ι' M' H' t v → H' dd = some (.xd [("value", v)]) → Still Z ι' M' dd → W (.ref (Ω.cls c)) (some dd) σ H'
  | .err => False
abbrev ML (X : Cx) (Ω : Om) (W : WX) (e : Expr) (f : AF) : Prop := PE X e (MLr X.K Ω W f)
def eLst (g : AF) : AF := fun σ M => (g σ M).bind fun ts M1 => bif big ts.length then .ok ts M1 else .err
theorem ml_lst (h : MA X Ω W es fa) : ML X Ω W (.List es pos) (eLst fa) := L2PE.imp (pe_lst h) fun σ H Q ⟨Z, ι, M, σT, m, rv, p⟩ => by
  refine ⟨Z, ι, M, σT, m, rv, ?_⟩
  unfold eLst at p
  cases q : fa σT M with
  | ok ts M1 =>
    rw [q] at p
    intro ι1 H1 vs m1 e1 q1
    cases z : big ts.length with
    | false =>
      simp only [Res.bind, z] at p
      exact p.elim
    | true =>
      simp only [Res.bind, z] at p
      refine ⟨by rw [← q1.length]; exact big_ok z, fun q np => ?_⟩
      have hp : H q = none := by
        cases e : H q with
        | none => rfl
        | some o => exact absurd np (e1.there q (by rw [e]; exact nofun))
      exact p ι1 _ q vs hp (m1.layH np) (m1.notZ np) (e1.trans (Ext.new np)) upd_same ((q1.hide np).ext (Ext.new np))
  | exc c t M1 => rw [q] at p; exact p
  | err => rw [q] at p; exact p
def eFroz (g : AF) : EF := fun σ M => (g σ M).bind fun ts M1 => .ok (.lst ts) M1
theorem froz_of {K : PySem.W.Frag} {σ : L2.St} {H : Hp} {Q : VK} (q : liftE K Ω W (eFroz fa) σ H Q) : MLr K Ω W fa σ H Q := by
  obtain ⟨Z, ι, M, σT, m, rv, p⟩ := q
  refine ⟨Z, ι, M, σT, m, rv, ?_⟩
  unfold eFroz at p
  cases q : fa σT M with
  | ok ts M1 =>
    rw [q] at p
    intro ι1 H1 a vs hp m1 hz e1 ha rs
    have hs : ∀ z ∈ Z, z ∈ a :: Z := fun z q => List.mem_cons_of_mem _ q
    have nl : ¬ Live ι1 M1 a := (m1.zin a List.mem_cons_self).2
    exact p ι1 H1 _ (m1.sub hs) e1 (.lst ha ⟨nl, hz⟩ (rs.sub hs))
  | exc c t M1 => rw [q] at p; exact p
  | err => rw [q] at p; exact p
theorem me_lst (h : ML X Ω W e fa) : ME X Ω W e (eFroz fa) := L2PE.imp h fun σ H Q => froz_of
def eNewL (g : AF) : EF := fun σ M => (g σ M).bind fun ts M1 => .ok (.loc M1.length) (M1 ++ [.lst ts])
theorem newL_of {K : PySem.W.Frag} {σ : L2.St} {H : Hp} {Q : VK} (q : liftE K Ω W (eNewL fa) σ H Q) : MLr K Ω W fa σ H Q := by
  obtain ⟨Z, ι, M, σT, m, rv, p⟩ := q
  refine ⟨Z, ι, M, σT, m, rv, ?_⟩
  unfold eNewL at p
  cases q : fa σT M with
  | ok ts M1 =>
    rw [q] at p
    intro ι1 H1 a vs hp m1 hz e1 ha rs
    have hs : ∀ z ∈ Z, z ∈ a :: Z := fun z q => List.mem_cons_of_mem _ q
    have e2 : Ext (a :: Z) ι1 M1 H1 (ι1 ++ [a]) (M1 ++ [.lst ts]) H1 := Ext.push m1.len
    have e3 : Ext [a] ι1 M1 H1 (ι1 ++ [a]) (M1 ++ [.lst ts]) H1 := Ext.push m1.len
    refine p (ι1 ++ [a]) H1 _ (m1.push hz fun e => .lst ha ((rs.ext e).sub hs)) ((e1.any.trans e3).drop hp) (.loc ?_)
    rw [← m1.len, List.getElem?_append_right (Nat.le_refl _), Nat.sub_self]
    rfl
  | exc c t M1 => rw [q] at p; exact p
  | err => rw [q] at p; exact p
theorem me_newL (h : ML X Ω W e fa) : ME X Ω W e (eNewL fa) := L2PE.imp h fun σ H Q => newL_of
end
end Mi
namespace Mi
open PySem PySem.Spec PyProof.Rows L2

def Res.go {α : Type} (r : Res α) (σ : TV) (k : α → Mem → Option (Fl × Mem)) : Option (Fl × Mem) := match r with
  | .ok a M => k a M
  | .exc c t M => some (.ex σ c t, M)
  | .err => none
section
variable {K : PySem.W.Frag} {Ω : Om} {α β : Type} {Rα : Rel α β} {W : WX} {Z ι : List Addr} {M : Mem} {H : Hp} {D : L2.Ends}
theorem PostS.go {r : Res α} {σT : TV} {σ : L2.St} {k : α → Mem → Option (Fl × Mem)} {T' : β → Hp → Prop} (p : PostS K Ω W Z ι M H D (r.go σT k)) (rv : RV K Ω Z ι M H σT σ)
    (h : ∀ ι1 M1 H1 t v, RM K Ω Z ι1 M1 H1 → Ext [] ι M H ι1 M1 H1 → RV K Ω Z ι1 M1 H1 σT σ → Rα Z ι1 M1 H1 t v → PostS K Ω W Z ι1 M1 H1 D (k t M1) → T' v H1) : Post K Ω Rα (fun c d H' => W c d σ H') Z ι M H T' r := by
  cases r with
  | ok t M1 => exact fun ι1 H1 v m1 e1 r1 => h ι1 M1 H1 t v m1 e1 (rv.ext e1.any) r1 (PostS.ext p e1)
  | exc c t M1 => exact fun ι1 H1 dd v m1 e1 r1 x => p ι1 σ H1 dd v m1 e1 (rv.ext e1.any) r1 x
  | err => exact p
theorem PostS.nx {σT : TV} {σ : L2.St} (p : PostS K Ω W Z ι M H D (some (.nx σT, M))) (m : RM K Ω Z ι M H) (rv : RV K Ω Z ι M H σT σ) : D.nx σ H := p ι σ H m Ext.refl rv
theorem PostS.rt {t : T} {v : V} (p : PostS K Ω W Z ι M H D (some (.rt t, M))) (m : RM K Ω Z ι M H) (r : R K Ω Z ι M H t v) : D.rt v H := p ι H v m Ext.refl r
end
section
variable {K : PySem.W.Frag} {X : Cx} {Ω : Om} {W : WX} {e a b c : Expr} {st : Stmt} {rest ba bb : List Stmt} {f g : EF} {fa : AF} {ft : TF} {s1 s2 : SF} {pos : Pos}
def sNil : SF := fun σ M => some (.nx σ, M)
def sSeq (f g : SF) : SF := fun σ M => match f σ M with
  | some (.nx σ1, M1) => g σ1 M1
  | r => r
theorem mss_nil : MSs X Ω W [] sNil := L2PSs.imp pss_nil fun D σ H ⟨Z, ι, M, σT, m, rv, p⟩ => PostS.nx p m rv
theorem seq_of {g : SF} {D : L2.Ends} {Z ι : List Addr} {M : Mem} {H : Hp} {r : Option (Fl × Mem)} (p : PostS X.K Ω W Z ι M H D (match r with | some (.nx σ1, M1) => g σ1 M1 | r => r)) :
    PostS X.K Ω W Z ι M H { D with nx := liftS X.K Ω W g D } r := by
  match r, p with
  | some (.nx σ1, M1), p => exact fun ι' σ' H' m e rv => ⟨Z, ι', M1, σ1, m, rv, PostS.ext p e⟩
  | some (.rt _, _), p => exact p
  | some (.bk _, _), p => exact p
  | some (.ct _, _), p => exact p
  | some (.ex _ _ _, _), p => exact p
theorem mss_cons (h1 : MS X Ω W st s1) (h2 : MSs X Ω W rest s2) : MSs X Ω W (st :: rest) (sSeq s1 s2) := L2PSs.imp (pss_cons h1 h2) fun D σ H ⟨Z, ι, M, σT, m, rv, p⟩ => ⟨Z, ι, M, σT, m, rv, seq_of p⟩
theorem mss_one (h1 : MS X Ω W st s1) : MSs X Ω W [st] s1 := pss_one h1
def sExpr (f : EF) : SF := fun σ M => (f σ M).go σ fun _ M1 => some (.nx σ, M1)
theorem ms_expr (he : ME X Ω W e f) (hs : swapsWith e none pos.line X.env = pure false := by rfl) : MS X Ω W (.Expr e pos) (sExpr f) := L2PS.imp (ps_expr he hs) fun D σ H ⟨Z, ι, M, σT, m, rv, p⟩ =>
  ⟨Z, ι, M, σT, m, rv, PostS.go p rv fun ι1 M1 H1 t v m1 e1 rv1 q1 p1 => p1.nx m1 rv1⟩
def sRet (f : EF) : SF := fun σ M => (f σ M).go σ fun t M1 => some (.rt t, M1)
theorem ms_ret (he : ME X Ω W e f) : MS X Ω W (.Return (some e) pos) (sRet f) := L2PS.imp (ps_ret he) fun D σ H ⟨Z, ι, M, σT, m, rv, p⟩ =>
  ⟨Z, ι, M, σT, m, rv, PostS.go p rv fun ι1 M1 H1 t v m1 e1 rv1 q1 p1 => p1.rt m1 q1⟩
def sIf (c : TF) (f g : SF) : SF := fun σ M => (c σ M).go σ fun k M1 => bif k then f σ M1 else g σ M1
theorem ms_if (hc : MT X Ω W c ft) (ha : MSs X Ω W ba s1) (hb : MSs X Ω W bb s2) : MS X Ω W (.If c ba bb pos) (sIf ft s1 s2) := L2PS.imp (ps_if hc ha hb) fun D σ H ⟨Z, ι, M, σT, m, rv, p⟩ =>
  ⟨Z, ι, M, σT, m, rv, PostS.go p rv fun ι1 M1 H1 t v m1 e1 rv1 q1 p1 => by
    cases q1
    cases t with
    | true => rw [if_pos rfl]; exact ⟨Z, ι1, M1, σT, m1, rv1, p1⟩
    | false => rw [if_neg Bool.false_ne_true]; exact ⟨Z, ι1, M1, σT, m1, rv1, p1⟩⟩
def sNo : SF := fun _ _ => none
theorem mss_no : MSs X Ω W rest sNo := L2PSs.imp (pss_never (sts := rest)) fun D σ H ⟨Z, ι, M, σT, m, rv, p⟩ => p
def sSet (i : Nat) (f : EF) : SF := fun σ M => (f σ M).go σ fun t M1 => some (.nx (σ.set i (some t)), M1)
theorem ms_set {i : Nat} {x : Str} {pos' : Pos} (hN : X.N.Nodup) (hi : X.N[i]? = some x) (hx : Loc X.env.scope x) (he : ME X Ω W e f) (hs : swapsWith e (some (.Name x pos')) pos.line X.env = pure false := by rfl) (hf : X.fn x = true ∨ X.env.scope.names.lookup x = some .local := by first | exact .inl rfl | exact .inr rfl | assumption) :
    MS X Ω W (.Assign [.Name x pos'] e pos) (sSet i f) := L2PS.imp (ps_set hN hi hx he hs hf) fun D σ H ⟨Z, ι, M, σT, m, rv, p⟩ =>
  ⟨Z, ι, M, σT, m, rv, PostS.go p rv fun ι1 M1 H1 t v m1 e1 rv1 q1 p1 => p1.nx m1 (rv1.set i q1)⟩
abbrev PF := T → TV → Mem → Option TV
def PatS (K : PySem.W.Frag) (Ω : Om) (g : TG) (Γ : PF) (vs : List Nat) : Prop := ∀ Z ι M H σT σ t v σT' Q, RM K Ω Z ι M H → RV K Ω Z ι M H σT σ → R K Ω Z ι M H t v → Γ t σT M = some σT' →
  (∀ σ', RV K Ω Z ι M H σT' σ' → (∀ us : List Nat, (∀ i ∈ vs, i ∈ us) → wipe σ' us = wipe σ us) → Q σ' H) → g v σ H Q
def pName (i : Nat) : PF := fun t σ _ => some (σ.set i (some t))
theorem wipe_at {σ : L2.St} {i : Nat} : ∀ {us : List Nat}, (wipe σ us)[i]? = if i ∈ us then (if i < σ.length then some none else none) else σ[i]?
  | [] => by simp [wipe]
  | u :: us => by
    unfold wipe
    by_cases e : u = i
    · subst e
      rw [if_pos (by simp)]
      by_cases h : u < σ.length
      · rw [if_pos h, List.getElem?_set_self (by rw [wipe_length]; exact h)]
      · rw [if_neg h, List.getElem?_eq_none (by rw [List.length_set, wipe_length]; omega)]
    · rw [List.getElem?_set_ne e, wipe_at]
      by_cases h : i ∈ us
      · rw [if_pos h, if_pos (List.mem_cons_of_mem _ h)]
      · rw [if_neg h, if_neg (fun z => (List.mem_cons.mp z).elim (fun q => e q.symm) h)]
theorem wipe_set {σ : L2.St} {i : Nat} {v : Option V} {us : List Nat} (h : i ∈ us) : wipe (σ.set i v) us = wipe σ us := by
  apply List.ext_getElem?
  intro j
  rw [wipe_at, wipe_at, List.length_set]
  by_cases e : j ∈ us
  · rw [if_pos e, if_pos e]
  · rw [if_neg e, if_neg e, List.getElem?_set_ne (fun z => e (by rw [← z]; exact h))]
theorem pat_name (i : Nat) : PatS K Ω (gName i) (pName i) [i] := fun Z ι M H σT σ t v σT' Q m rv r h q => by
  cases h
  exact q _ (rv.set i r) fun us hu => wipe_set (hu i (by simp))
def PatsS (K : PySem.W.Frag) (Ω : Om) (g : TGs) (Γ : List T → TV → Mem → Option TV) (vs : List Nat) : Prop := ∀ Z ι M H σT σ ts xs σT' Q, RM K Ω Z ι M H → RV K Ω Z ι M H σT σ → Rs K Ω Z ι M H ts xs → Γ ts σT M = some σT' →
  (∀ σ', RV K Ω Z ι M H σT' σ' → (∀ us : List Nat, (∀ i ∈ vs, i ∈ us) → wipe σ' us = wipe σ us) → Q σ' H) → g xs σ H Q
def psNil : List T → TV → Mem → Option TV := fun ts σ _ => match ts with
  | [] => some σ
  | _ => none
def psCons (p : PF) (q : List T → TV → Mem → Option TV) : List T → TV → Mem → Option TV := fun ts σ M => match ts with
  | t :: r => (p t σ M).bind fun σ1 => q r σ1 M
  | [] => none
theorem pats_nil : PatsS K Ω gNil psNil [] := fun Z ι M H σT σ ts xs σT' Q m rv r h q => by
  cases r with
  | nil => cases h; exact ⟨rfl, q σ rv fun _ _ => rfl⟩
  | cons _ _ => cases h
theorem pats_cons {g : TG} {gs : TGs} {p : PF} {q : List T → TV → Mem → Option TV} {vs ws : List Nat} (h1 : PatS K Ω g p vs) (h2 : PatsS K Ω gs q ws) : PatsS K Ω (gCons g gs) (psCons p q) (vs ++ ws) := fun Z ι M H σT σ ts xs σT' Q m rv r h k => by
  cases r with
  | nil => cases h
  | cons r rs =>
    rename_i t v ts xs
    have h : (p t σT M).bind (fun σ1 => q ts σ1 M) = some σT' := h
    cases e : p t σT M with
    | none => rw [e] at h; cases h
    | some σ1 =>
      rw [e] at h
      refine ⟨v, xs, rfl, h1 Z ι M H σT σ t v σ1 _ m rv r e fun σ2 rv2 w2 => h2 Z ι M H σ1 σ2 ts xs σT' _ m rv2 rs h fun σ3 rv3 w3 => k σ3 rv3 fun us hu => ?_⟩
      rw [w3 us fun i hi => hu i (List.mem_append_right _ hi), w2 us fun i hi => hu i (List.mem_append_left _ hi)]
end
end Mi
namespace Mi
open PySem PySem.Spec PyProof.Rows L2

section
variable {K : PySem.W.Frag} {Ω : Om} {Z Z' ι ι' : List Addr} {M M' : Mem} {H H' : Hp}
theorem Rs.get : ∀ {ts : List T} {vs : List V} {i : Nat} {t : T}, Rs K Ω Z ι M H ts vs → ts[i]? = some t → ∃ v, vs[i]? = some v ∧ R K Ω Z ι M H t v
  | _, _, _, _, .nil, h => by simp at h
  | _, _, 0, _, .cons r _, h => by
    simp at h
    subst h
    exact ⟨_, rfl, r⟩
  | _, _, i + 1, t, .cons _ q, h => by
    obtain ⟨v, a, b⟩ := Rs.get (i := i) (t := t) q (by simpa using h)
    exact ⟨v, by simpa using a, b⟩
theorem still_grow {a : Addr} {o : HO} (h : H a = some o) (n : Still Z ι M a) (g : ∀ z ∈ Z', z ∈ Z ∨ H z = none) : Still Z' ι M a :=
  ⟨n.1, fun z => (g a z).elim n.2 fun e => by rw [e] at h; cases h⟩
mutual
theorem R.grow (g : ∀ z ∈ Z', z ∈ Z ∨ H z = none) : ∀ {t : T} {v : V}, R K Ω Z ι M H t v → R K Ω Z' ι M H t v
  | _, _, .non => .non
  | _, _, .bl b => .bl b
  | _, _, .int i => .int i
  | _, _, .str x s h l => .str x s h l
  | _, _, .tup h r => .tup h (Rs.grow g r)
  | _, _, .ktup h d r => .ktup h d (Rs.grow g r)
  | _, _, .lst h n r => .lst h (still_grow h n g) (Rs.grow g r)
  | _, _, .klst h r => .klst h (Rs.grow g r)
  | _, _, .dK h n k r => .dK h (h.elim (fun q => still_grow q n g) fun ⟨_, q⟩ => still_grow q n g) k (Rs.grow g r)
  | _, _, .dT h n k r => .dT h (h.elim (fun q => still_grow q n g) fun ⟨_, q⟩ => still_grow q n g) k (Rs.grow g r)
  | _, _, .obj h n k r => .obj h (still_grow h n g) k (Rs.grow g r)
  | _, _, .xob h1 h2 h3 h4 n r => .xob h1 h2 h3 h4 (still_grow h4 n g) (R.grow g r)
  | _, _, .loc h => .loc h
theorem Rs.grow (g : ∀ z ∈ Z', z ∈ Z ∨ H z = none) : ∀ {ts : List T} {vs : List V}, Rs K Ω Z ι M H ts vs → Rs K Ω Z' ι M H ts vs
  | _, _, .nil => .nil
  | _, _, .cons r t => .cons (R.grow g r) (Rs.grow g t)
end
end

def RIt (K : PySem.W.Frag) (Ω : Om) : Rel (List T) It := fun Z ι M H ts J => ∀ Z' ι' M' H', RM K Ω Z' ι' M' H' → Ext Z' ι M H ι' M' H' → (∀ z ∈ Z', z ∈ Z ∨ H z = none) →
  J.stop ts.length H' ∧ ∀ (i : Nat) t, ts[i]? = some t → J.go i H' ∧ ∀ x H2, J.yld i H' x H2 → RM K Ω Z' ι' M' H2 ∧ Ext [] ι' M' H' ι' M' H2 ∧ R K Ω Z' ι' M' H2 t x
abbrev MI (X : Cx) (Ω : Om) (W : WX) (tg it : Expr) (f : AF) : Prop := PI X tg it (lift X.K Ω (RIt X.K Ω) W f)
section
variable {X : Cx} {Ω : Om} {W : WX} {e e2 tg : Expr} {f g : EF} {fa : AF} {pos p : Pos}
theorem L2PI.imp {X : Cx} {tg e : Expr} {t t' : TI} (h : PI X tg e t) (k : ∀ σ H Q, t' σ H Q → t σ H Q) : PI X tg e t' := ⟨fun pins s σ H Q I q => h.run pins s σ H Q I (k σ H Q q)⟩
theorem L2PI.or {X : Cx} {tg e : Expr} {t t' : TI} (h : PI X tg e t) (h' : PI X tg e t') : PI X tg e (fun σ H Q => t σ H Q ∨ t' σ H Q) :=
  ⟨fun pins s σ H Q I q => q.elim (h.run pins s σ H Q I) (h'.run pins s σ H Q I)⟩
theorem rit_list {Z ι : List Addr} {M : Mem} {H : Hp} {ts : List T} {a : Addr} {vs : List V} (h : Rd H a (.lst vs)) (n : Still Z ι M a) (r : Rs X.K Ω Z ι M H ts vs) : RIt X.K Ω Z ι M H ts (Itl X.K a) := fun Z' ι' M' H' m e g => by
  have n' : Still Z' ι M a := h.elim (fun q => still_grow q n g) fun ⟨_, q⟩ => still_grow q n g
  have h' : SqL X.K H' a vs := .inl (e.rd h n').1
  have r' := (r.grow g).ext e
  refine ⟨⟨vs, h', by rw [r.length]; exact Nat.le_refl _⟩, fun i t q => ?_⟩
  obtain ⟨v, hv, rv⟩ := r'.get q
  refine ⟨⟨vs, v, h', hv⟩, fun x H2 y => ?_⟩
  obtain ⟨rfl, y⟩ := y
  have := y vs h'
  rw [hv] at this
  cases this
  exact ⟨m, Ext.refl, rv⟩
theorem rit_tup {Z ι : List Addr} {M : Mem} {H : Hp} {ts : List T} {a : Addr} {vs : List V} (h : SqT X.K H a vs) (r : Rs X.K Ω Z ι M H ts vs) : RIt X.K Ω Z ι M H ts (Itt X.K a) := fun Z' ι' M' H' m e g => by
  have h' : SqT X.K H' a vs := e.sqt h
  have r' := (r.grow g).ext e
  refine ⟨⟨vs, h', by rw [r.length]; exact Nat.le_refl _⟩, fun i t q => ?_⟩
  obtain ⟨v, hv, rv⟩ := r'.get q
  refine ⟨⟨vs, v, h', hv⟩, fun x H2 y => ?_⟩
  obtain ⟨rfl, y⟩ := y
  have := y vs h'
  rw [hv] at this
  cases this
  exact ⟨m, Ext.refl, rv⟩
def items : T → Option (List T)
  | .tup ts => some ts
  | .ktup ts => some ts
  | .lst ts => some ts
  | _ => none
def iSeq (f : EF) : AF := fun σ M => (f σ M).bind fun t M1 => .of (items t) M1
theorem mi_seq (he : ME X Ω W e f) : MI X Ω W tg e (iSeq f) := L2PI.imp (L2PI.or (pi_list he) (pi_tup he)) fun σ H Q ⟨Z, ι, M, σT, m, rv, p⟩ => by
  unfold iSeq at p
  cases q : f σT M with
  | err => rw [q] at p; exact p.elim
  | exc c t M1 => rw [q] at p; exact .inl ⟨Z, ι, M, σT, m, rv, by rw [q]; exact p⟩
  | ok t M1 =>
    rw [q] at p
    match t, p, q with
    | .lst ts, p, q =>
      refine .inl ⟨Z, ι, M, σT, m, rv, ?_⟩
      rw [q]
      intro ι1 H1 v m1 e1 r1
      match v, r1 with
      | _, .lst h n r => exact ⟨_, rfl, ⟨_, .inl (.inl h)⟩, p ι1 H1 _ m1 e1 (rit_list (.inl h) n r)⟩
    | .tup ts, p, q =>
      refine .inr ⟨Z, ι, M, σT, m, rv, ?_⟩
      rw [q]
      intro ι1 H1 v m1 e1 r1
      match v, r1 with
      | _, .tup h r => exact ⟨_, rfl, ⟨_, .of h⟩, p ι1 H1 _ m1 e1 (rit_tup (.of h) r)⟩
    | .ktup ts, p, q =>
      refine .inr ⟨Z, ι, M, σT, m, rv, ?_⟩
      rw [q]
      intro ι1 H1 v m1 e1 r1
      match v, r1 with
      | _, .ktup h _ r => exact ⟨_, rfl, ⟨_, h⟩, p ι1 H1 _ m1 e1 (rit_tup h r)⟩
    | .non, p, _ => exact p.elim
    | .bl _, p, _ => exact p.elim
    | .int _, p, _ => exact p.elim
    | .str _, p, _ => exact p.elim
    | .dct _ _, p, _ => exact p.elim
    | .obj _ _, p, _ => exact p.elim
    | .xob _ _, p, _ => exact p.elim
    | .loc _, p, _ => exact p.elim
    | .klst _, p, _ => exact p.elim
def rngT (lo : Int) (n : Nat) : List T := (List.range n).map fun i => .int (lo + (i : Nat))
def inR (j : Int) : Bool := decide (-(2 ^ 62) ≤ j) && decide (j < 2 ^ 62)
def rg1 (ts : List T) : Option (List T) := match ts with
  | [.int j] => bif inR j then some (rngT 0 j.toNat) else none
  | _ => none
def iFun (o : List T → Option (List T)) (fa : AF) : AF := fun σ M => (fa σ M).bind fun ts M1 => .of (o ts) M1
theorem inR_ok {j : Int} (h : inR j = true) : -(2 ^ 62) ≤ j ∧ j < 2 ^ 62 := by
  unfold inR at h
  rw [Bool.and_eq_true, decide_eq_true_eq, decide_eq_true_eq] at h
  exact h
theorem rit_rng {Z ι : List Addr} {M : Mem} {H : Hp} {lo : Int} {n : Nat} : RIt X.K Ω Z ι M H (rngT lo n) (Itr lo n) := fun Z' ι' M' H' m e g => by
  refine ⟨by unfold rngT; rw [List.length_map, List.length_range]; exact Nat.le_refl n, fun i t q => ?_⟩
  unfold rngT at q
  rw [List.getElem?_map] at q
  by_cases h : i < n
  · rw [List.getElem?_range h] at q
    cases q
    refine ⟨h, fun x H2 y => ?_⟩
    obtain ⟨rfl, rfl⟩ := y
    exact ⟨m, Ext.refl, .int _⟩
  · rw [List.getElem?_eq_none (by simpa using h)] at q
    cases q
theorem Post.of {K : PySem.W.Frag} {α β : Type} {Rα : Rel α β} {Wh : Value → Option Addr → Hp → Prop} {Z ι : List Addr} {M : Mem} {H : Hp} {Q : β → Hp → Prop} {o : Option α} (p : Post K Ω Rα Wh Z ι M H Q (.of o M)) : ∃ t, o = some t ∧ Post K Ω Rα Wh Z ι M H Q (.ok t M) := by
  cases o with
  | none => exact p.elim
  | some t => exact ⟨t, rfl, p⟩
theorem mi_range1 {a : Expr} (hg : Gl X "range") (hm : X.mg "range" = none) (ha : MA X Ω W [a] fa) (hs : starEach [a] X.env = [(false, eval a X.env)] := by rfl) : MI X Ω W tg (.Call (.Name "range" p) [a] [] pos) (iFun rg1 fa) := L2PI.imp (pi_range1 hg hm ha hs) fun σ H Q ⟨Z, ι, M, σT, m, rv, q⟩ =>
  ⟨Z, ι, M, σT, m, rv, Post.bind q fun ι1 M1 H1 ts vs m1 e1 q1 p1 => by
    obtain ⟨r, h, p1⟩ := Post.of p1
    unfold rg1 at h
    split at h
    · rename_i j
      cases z : inR j with
      | false => rw [z] at h; cases h
      | true =>
        rw [z] at h
        cases h
        cases q1 with
        | cons r1 r2 =>
          cases r2
          cases r1
          exact ⟨j, rfl, (inR_ok z).1, (inR_ok z).2, p1.pure m1 rit_rng⟩
    · cases h⟩
def enumT (k : Nat) : List T → List T
  | [] => []
  | t :: ts => .tup [.int k, t] :: enumT (k + 1) ts
theorem enumT_get : ∀ {ts : List T} {k i : Nat} {t : T}, (enumT k ts)[i]? = some t → ∃ u, ts[i]? = some u ∧ t = .tup [.int ((k + i : Nat) : Int), u]
  | [], _, _, _, h => by simp [enumT] at h
  | u :: ts, k, 0, t, h => by
    simp [enumT] at h
    exact ⟨u, rfl, h.symm⟩
  | u :: ts, k, i + 1, t, h => by
    simp only [enumT, List.getElem?_cons_succ] at h
    obtain ⟨w, a, b⟩ := enumT_get h
    exact ⟨w, by simpa using a, by rw [b, show k + 1 + i = k + (i + 1) by omega]⟩
theorem enumT_len : ∀ {ts : List T} {k : Nat}, (enumT k ts).length = ts.length
  | [], _ => rfl
  | _ :: ts, k => by simp [enumT, enumT_len (ts := ts)]
theorem rit_enum {Z ι : List Addr} {M : Mem} {H : Hp} {ts : List T} {a : Addr} {vs : List V} (h : Rd H a (.lst vs)) (n : Still Z ι M a) (r : Rs X.K Ω Z ι M H ts vs) : RIt X.K Ω Z ι M H (enumT 0 ts) (Ite X.K a) := fun Z' ι' M' H' m e g => by
  have n' : Still Z' ι M a := h.elim (fun q => still_grow q n g) fun ⟨_, q⟩ => still_grow q n g
  have h' : SqL X.K H' a vs := .inl (e.rd h n').1
  have r' := (r.grow g).ext e
  refine ⟨⟨vs, h', by rw [enumT_len, r.length]; exact Nat.le_refl _⟩, fun i t q => ?_⟩
  obtain ⟨u, hu, rfl⟩ := enumT_get q
  obtain ⟨v, hv, rv⟩ := r'.get hu
  refine ⟨⟨vs, v, h', hv⟩, fun x H2 y => ?_⟩
  obtain ⟨T', w, rfl, nT, rfl, y⟩ := y
  have := y vs h'
  rw [hv] at this
  cases this
  refine ⟨m.lay nT, Ext.new nT, .tup upd_same (.cons ?_ (.cons (rv.ext (Ext.new nT)) .nil))⟩
  rw [Nat.zero_add]
  exact .int _
def forL (p : PF) (b : SF) : List T → SF
  | [] => fun σ M => some (.nx σ, M)
  | t :: ts => fun σ M => match p t σ M with
    | none => none
    | some σ1 => match b σ1 M with
      | some (.nx σ2, M2) => forL p b ts σ2 M2
      | some (.ct σ2, M2) => forL p b ts σ2 M2
      | some (.bk σ2, M2) => some (.nx σ2, M2)
      | r => r
def sFor (p : PF) (it : AF) (b : SF) : SF := fun σ M => (it σ M).go σ fun ts M1 => forL p b ts σ M1
theorem ms_for {iter : Expr} {body : List Stmt} {gt : TG} {pf : PF} {vs : List Nat} {b : SF} {it : AF} (hpo : PassesOwn (model X.prog X.w) X.A X.env X.xe) (hc : X.calm = true) (hi : MI X Ω W tg iter it) (hp : PatS X.K Ω gt pf vs) (hg : PG X tg gt) (hb : MSs X Ω W body b)
    (hs : ∀ x, foldedSetIterable iter X.env x = pure x := by intro _; rfl) : MS X Ω W (.For tg iter body [] pos) (sFor pf it b) := L2PS.imp (ps_for hpo hc hi hg hb hs) fun D σ H ⟨Z, ι, M, σT, m, rv, p⟩ =>
  ⟨Z, ι, M, σT, m, rv, PostS.go p rv fun ι1 M1 H1 ts J m1 e1 rv1 q1 p1 => by
    refine ⟨fun i n σ H => n = ts.length - i ∧ i ≤ ts.length ∧ ∃ ι M σT, RM X.K Ω Z ι M H ∧ RV X.K Ω Z ι M H σT σ ∧ Ext Z ι1 M1 H1 ι M H ∧ PostS X.K Ω W Z ι M H D (forL pf b (ts.drop i) σT M), ⟨ts.length, by omega, Nat.zero_le _, ι1, M1, σT, m1, rv1, Ext.refl, p1⟩, ?_⟩
    rintro i n σ H ⟨rfl, hi, ι, M, σT, m, rv, ex, q⟩
    obtain ⟨stop, go⟩ := q1 Z ι M H m ex fun z h => .inl h
    by_cases hlt : i < ts.length
    · have hd : ts.drop i = ts[i] :: ts.drop (i + 1) := List.drop_eq_getElem_cons hlt
      rw [hd] at q
      obtain ⟨g1, y1⟩ := go i ts[i] (List.getElem?_eq_getElem hlt)
      refine .inr ⟨g1, fun σ' H' => i + 1 ≤ ts.length ∧ ∃ ι M σT, RM X.K Ω Z ι M H' ∧ RV X.K Ω Z ι M H' σT σ' ∧ Ext Z ι1 M1 H1 ι M H' ∧ PostS X.K Ω W Z ι M H' D (forL pf b (ts.drop (i + 1)) σT M), fun σ' H' ⟨a, h⟩ => ⟨ts.length - (i + 1), by omega, rfl, a, h⟩, fun x H' y => ?_⟩
      obtain ⟨m2, e2, r2⟩ := y1 x H' y
      have q : PostS X.K Ω W Z ι M H D (match pf ts[i] σT M with
        | none => none
        | some σ1 => match b σ1 M with
          | some (.nx σ2, M2) => forL pf b (ts.drop (i + 1)) σ2 M2
          | some (.ct σ2, M2) => forL pf b (ts.drop (i + 1)) σ2 M2
          | some (.bk σ2, M2) => some (.nx σ2, M2)
          | r => r) := q
      cases z : pf ts[i] σT M with
      | none => rw [z] at q; exact q.elim
      | some σ1 =>
        rw [z] at q
        have q := PostS.ext q e2
        refine hp Z ι M H' σT σ ts[i] x σ1 _ m2 (rv.ext e2.any) r2 z fun σ2 rv2 _ => ⟨Z, ι, M, σ1, m2, rv2, ?_⟩
        have ex2 : Ext Z ι1 M1 H1 ι M H' := ex.trans e2.any
        have q : PostS X.K Ω W Z ι M H' D (match b σ1 M with
          | some (.nx σ2, M2) => forL pf b (ts.drop (i + 1)) σ2 M2
          | some (.ct σ2, M2) => forL pf b (ts.drop (i + 1)) σ2 M2
          | some (.bk σ2, M2) => some (.nx σ2, M2)
          | r => r) := q
        generalize b σ1 M = r at q ⊢
        match r, q with
        | none, q => exact q
        | some (.nx σ3, M3), q => exact fun ι3 σ' H3 m3 e3 rv3 => ⟨hlt, ι3, M3, σ3, m3, rv3, ex2.trans e3.any, PostS.ext q e3⟩
        | some (.ct σ3, M3), q => exact fun ι3 σ' H3 m3 e3 rv3 => ⟨hlt, ι3, M3, σ3, m3, rv3, ex2.trans e3.any, PostS.ext q e3⟩
        | some (.bk σ3, M3), q => exact q
        | some (.rt _, _), q => exact q
        | some (.ex _ _ _, _), q => exact q
    · have e : i = ts.length := by omega
      subst e
      rw [List.drop_length] at q
      exact .inl ⟨stop, q.nx m rv⟩⟩
def wipeT (σ : TV) : List Nat → TV
  | [] => σ
  | v :: vs => (wipeT σ vs).set v none
theorem RV.wipe {K : PySem.W.Frag} {Z ι : List Addr} {M : Mem} {H : Hp} {σT : TV} {σ : L2.St} (r : RV K Ω Z ι M H σT σ) : ∀ vs : List Nat, RV K Ω Z ι M H (wipeT σT vs) (L2.wipe σ vs)
  | [] => r
  | v :: vs => by
    have q := RV.wipe r vs
    refine ⟨by simp [wipeT, L2.wipe, q.len], fun j u h => ?_⟩
    unfold wipeT at h
    unfold L2.wipe
    by_cases e : v = j
    · subst e
      by_cases hi : v < (wipeT σT vs).length
      · rw [List.getElem?_set_self hi] at h; cases h
      · rw [List.getElem?_eq_none (by simpa using hi)] at h; cases h
    · rw [List.getElem?_set_ne e] at h
      obtain ⟨w, a, b⟩ := q.at_ j u h
      exact ⟨w, by rw [List.getElem?_set_ne e]; exact a, b⟩
theorem wipe_wipe {σ : L2.St} {us : List Nat} : L2.wipe (L2.wipe σ us) us = L2.wipe σ us := by
  apply List.ext_getElem?
  intro j
  rw [wipe_at, wipe_at, wipe_length]
  by_cases e : j ∈ us
  · rw [if_pos e, if_pos e]
  · rw [if_neg e, if_neg e]
def compL (p : PF) (c : TF) (f : EF) (σ : TV) : List T → List T → Mem → Res (List T)
  | [], acc, M => .ok acc M
  | t :: ts, acc, M => match p t σ M with
    | none => .err
    | some σ1 => match c σ1 M with
      | .ok true M1 => (match f σ1 M1 with
        | .ok u M2 => compL p c f σ ts (acc ++ [u]) M2
        | _ => .err)
      | .ok false M1 => compL p c f σ ts acc M1
      | _ => .err
def eLc (own : List Nat) (p : PF) (it : AF) (c : TF) (f : EF) : AF := fun σ M => (it σ M).bind fun ts M1 => bif big ts.length then compL p c f (wipeT σ own) ts [] M1 else .err
def tTrue : TF := fun _ M => .ok true M
abbrev W0 : WX := fun _ _ _ _ => False
abbrev MTs (X : Cx) (Ω : Om) (W : WX) (es : List Expr) (f : TF) : Prop := PTs X es (liftT X.K Ω W f)
theorem mts_nil : MTs X Ω W [] tTrue := ⟨fun pins s σ H Q I ⟨Z, ι, M, σT, m, rv, p⟩ => pts_nil.run pins s σ H Q I (p.pure m rfl)⟩
end
section
variable {X : Cx} {Ω : Om} {W : WX} {elt iter tg : Expr} {f : EF} {c : TF} {it : AF} {pos : Pos} {ifs : List Expr} {scope : Scope} {own : List (Str × Nat)} {gt : TG} {pf : PF} {vs : List Nat}
theorem lc_of {K : PySem.W.Frag} {σ : L2.St} {H : Hp} {Q : VK} (hp : PatS K Ω gt pf vs) (hv : ∀ i ∈ vs, i ∈ own.map (·.2)) (q : MLr K Ω W (eLc (own.map (·.2)) pf it c f) σ H Q) : tLc (lift K Ω (RIt K Ω) W it) gt (liftT K Ω W0 c) (liftE K Ω W0 f) (own.map (·.2)) σ H Q := by
  obtain ⟨Z, ι, M, σT, m, rv, p⟩ := q
  refine ⟨Z, ι, M, σT, m, rv, ?_⟩
  unfold eLc at p
  cases q0 : it σT M with
  | exc c t M1 => rw [q0] at p; exact p
  | err => rw [q0] at p; exact p
  | ok ts M1 =>
    rw [q0] at p
    intro ι1 H1 J m1 e1 q1 D nD
    have p : match (bif big ts.length then compL pf c f (wipeT σT (own.map (·.2))) ts [] M1 else .err) with
      | .ok ts M' => ∀ ι' H' p vs, H p = none → RM K Ω (p :: Z) ι' M' H' → p ∉ Z → Ext [] ι M H ι' M' H' → H' p = some (.lst vs) → Rs K Ω (p :: Z) ι' M' H' ts vs → Q (.ref p) H'
      | .exc c t M' => ∀ ι' H' dd v, RM K Ω Z ι' M' H' → Ext [] ι M H ι' M' H' → R K Ω Z ι' M' H' t v → H' dd = some (.xd [("value", v)]) → Still Z ι' M' dd → W (.ref (Ω.cls c)) (some dd) σ H'
      | .err => False := p
    cases zb : big ts.length with
    | false => rw [zb] at p; exact p.elim
    | true =>
    rw [zb] at p
    have hsz : ts.length ≤ 2000000 := of_decide_eq_true zb
    have hD : H D = none := by
      cases z : H D with
      | none => rfl
      | some o => exact absurd nD (e1.there D (by rw [z]; exact nofun))
    have dZ : D ∉ Z := m1.notZ nD
    have rv1 : RV K Ω Z ι1 M1 H1 σT σ := rv.ext e1.any
    -- the invariant
    refine ⟨fun i n H => n = ts.length - i ∧ i ≤ ts.length ∧ ∃ ι2 M2 acc ws, RM K Ω (D :: Z) ι2 M2 H ∧ Ext [D] ι1 M1 H1 ι2 M2 H ∧ H D = some (.lst ws) ∧ Rs K Ω (D :: Z) ι2 M2 H acc ws ∧ acc.length ≤ i ∧ (match compL pf c f (wipeT σT (own.map (·.2))) (ts.drop i) acc M2 with
      | .ok ts M' => ∀ ι' H' p vs, H1 p = none → RM K Ω (p :: Z) ι' M' H' → p ∉ Z → Ext [] ι1 M1 H1 ι' M' H' → H' p = some (.lst vs) → Rs K Ω (p :: Z) ι' M' H' ts vs → Q (.ref p) H'
      | _ => False), ⟨ts.length, by omega, Nat.zero_le _, ι1, M1, [], [], m1.layH nD, Ext.new nD, upd_same, .nil, Nat.le_refl _, ?_⟩, ?_⟩
    · generalize hr : compL pf c f (wipeT σT (own.map (·.2))) ts [] M1 = r at p
      rw [show ts.drop 0 = ts from rfl, hr]
      have nex : ∀ (l : List T) (acc : List T) (M0 : Mem) c' t' M', compL pf c f (wipeT σT (own.map (·.2))) l acc M0 ≠ .exc c' t' M' := by
        intro l
        induction l with
        | nil => intro acc M0 c' t' M' h; cases h
        | cons t l ih =>
          intro acc M0 c' t' M' h
          unfold compL at h
          split at h
          · cases h
          · split at h
            · split at h
              · exact ih _ _ _ _ _ h
              · cases h
            · exact ih _ _ _ _ _ h
            · cases h
      match r, p with
      | .ok ts' M', p =>
        exact fun ι' H' q vs hq mm hz ex hv rs => p ι' H' q vs (by
          cases z : H q with
          | none => rfl
          | some o => exact absurd hq (e1.there q (by rw [z]; exact nofun))) mm hz (e1.trans ex) hv rs
      | .exc c' t' M', p => exact absurd hr (nex _ _ _ _ _ _)
    · rintro i n H3 ⟨rfl, hi3, ι2, M2, acc, ws, m2, ex2, hD2, rs2, hacc, p2⟩
      obtain ⟨stop, go⟩ := q1 (D :: Z) ι2 M2 H3 m2 (ex2.to fun z h => by simp at h; simp [h]) fun z h => (List.mem_cons.mp h).elim (fun e => .inr (by rw [e]; exact nD)) .inl
      by_cases hlt : i < ts.length
      · have hd : ts.drop i = ts[i] :: ts.drop (i + 1) := List.drop_eq_getElem_cons hlt
        rw [hd] at p2
        obtain ⟨g1, y1⟩ := go i ts[i] (List.getElem?_eq_getElem hlt)
        refine .inr ⟨g1, fun H' => i + 1 ≤ ts.length ∧ ∃ ι2 M2 acc ws, RM K Ω (D :: Z) ι2 M2 H' ∧ Ext [D] ι1 M1 H1 ι2 M2 H' ∧ H' D = some (.lst ws) ∧ Rs K Ω (D :: Z) ι2 M2 H' acc ws ∧ acc.length ≤ i + 1 ∧ (match compL pf c f (wipeT σT (own.map (·.2))) (ts.drop (i + 1)) acc M2 with
          | .ok ts M' => ∀ ι' H' p vs, H1 p = none → RM K Ω (p :: Z) ι' M' H' → p ∉ Z → Ext [] ι1 M1 H1 ι' M' H' → H' p = some (.lst vs) → Rs K Ω (p :: Z) ι' M' H' ts vs → Q (.ref p) H'
          | _ => False), fun H' ⟨a, h⟩ => ⟨ts.length - (i + 1), by omega, rfl, a, h⟩, fun x H4 y => ?_⟩
        obtain ⟨m4, e4, r4⟩ := y1 x H4 y
        have ex4 : Ext [D] ι1 M1 H1 ι2 M2 H4 := ex2.trans e4.any
        have hD4 : H4 D = some (.lst ws) := (e4.froz D _ hD2 ⟨(m2.zin D (by simp)).2, by simp⟩).1
        have rv4 : RV K Ω (D :: Z) ι2 M2 H4 (wipeT σT (own.map (·.2))) (wipe σ (own.map (·.2))) := by
          have h0 : RV K Ω (D :: Z) ι1 M1 (upd H1 D (.lst [])) σT σ := (rv1.hide nD).ext (Ext.new nD)
          have h1 : RV K Ω (D :: Z) ι1 M1 H1 σT σ := rv1.hide nD
          exact (h1.ext (ex4.to fun z h => by simp at h; simp [h])).wipe _
        unfold compL at p2
        cases zp : pf ts[i] (wipeT σT (own.map (·.2))) M2 with
        | none => rw [zp] at p2; exact p2.elim
        | some σ1 =>
          rw [zp] at p2
          refine hp (D :: Z) ι2 M2 H4 _ _ ts[i] x σ1 _ m4 rv4 r4 zp fun σ5 rv5 w5 => ⟨(w5 _ hv).trans wipe_wipe, D :: Z, ι2, M2, σ1, m4, rv5, ?_⟩
          dsimp only at p2
          cases zc : c σ1 M2 with
          | err => rw [zc] at p2; exact p2.elim
          | exc _ _ _ => rw [zc] at p2; exact p2.elim
          | ok k M5 =>
            rw [zc] at p2
            intro ι5 H5 b m5 e5 hb
            cases hb
            have ex5 : Ext [D] ι1 M1 H1 ι5 M5 H5 := ex4.trans e5.any
            have hD5 : H5 D = some (.lst ws) := (e5.froz D _ hD4 ⟨(m4.zin D (by simp)).2, by simp⟩).1
            have rs5 : Rs K Ω (D :: Z) ι5 M5 H5 acc ws := (rs2.ext e4.any).ext e5.any
            cases k with
            | false =>
              rw [if_neg Bool.false_ne_true]
              exact ⟨hlt, ι5, M5, acc, ws, m5, ex5, hD5, rs5, by omega, p2⟩
            | true =>
              rw [if_pos rfl]
              refine ⟨D :: Z, ι5, M5, σ1, m5, rv5.ext e5.any, ?_⟩
              dsimp only at p2
              cases zf : f σ1 M5 with
              | err => rw [zf] at p2; exact p2.elim
              | exc _ _ _ => rw [zf] at p2; exact p2.elim
              | ok u M6 =>
                rw [zf] at p2
                intro ι6 H6 v6 m6 e6 r6
                have hD6 : H6 D = some (.lst ws) := (e6.froz D _ hD5 ⟨(m5.zin D (by simp)).2, by simp⟩).1
                have rs6 : Rs K Ω (D :: Z) ι6 M6 H6 acc ws := rs5.ext e6.any
                have et : Ext (D :: Z) ι6 M6 H6 ι6 M6 (upd H6 D (.lst (ws ++ [v6]))) := Ext.turn hD6 (by intro xs h; cases h) (by intro x y h; cases h)
                have et1 : Ext [D] ι6 M6 H6 ι6 M6 (upd H6 D (.lst (ws ++ [v6]))) := Ext.turn hD6 (by intro xs h; cases h) (by intro x y h; cases h)
                refine ⟨ws, hD6, ?_, hlt, ι6, M6, acc ++ [u], ws ++ [v6], m6.turn hD6 (by intro xs h; cases h) (by intro x y h; cases h), (ex5.trans e6.any).trans et1, upd_same, ?_, by simp; omega, p2⟩
                · rw [← rs6.length, sizeLine_eq]; omega
                · have ap : ∀ {ts : List T} {vs : List V} {t : T} {v : V}, Rs K Ω (D :: Z) ι6 M6 (upd H6 D (.lst (ws ++ [v6]))) ts vs → R K Ω (D :: Z) ι6 M6 (upd H6 D (.lst (ws ++ [v6]))) t v → Rs K Ω (D :: Z) ι6 M6 (upd H6 D (.lst (ws ++ [v6]))) (ts ++ [t]) (vs ++ [v]) := by
                    intro ts
                    induction ts with
                    | nil => intro vs t v h r; cases h; exact .cons r .nil
                    | cons a ts ih => intro vs t v h r; cases h with | cons h1 h2 => exact .cons h1 (ih h2 r)
                  exact ap (rs6.ext et) (r6.ext et)
      · have e : i = ts.length := by omega
        subst e
        rw [List.drop_length] at p2
        exact .inl ⟨stop, p2 ι2 H3 D ws nD m2 dZ (ex2.drop nD) hD2 rs2⟩
theorem ml_lc (hc : X.calm = true) (hN : X.N.Nodup) (hi : MI X Ω W tg iter it) (ok : BlkOk X.N X.env.scope scope own) (hp : PatS X.K Ω gt pf vs) (hv : ∀ i ∈ vs, i ∈ own.map (·.2))
    (hg : ∀ (s : Shared) (H : Hp) (C : Addr) (cl : List (Str × Addr)) (fp : List Addr), PG (X.blk s H scope (compEnvC scope cl C X.env) fp) tg gt)
    (ht : ∀ (s : Shared) (H : Hp) (C : Addr) (cl : List (Str × Addr)) (fp : List Addr), MTs (X.blk s H scope (compEnvC scope cl C X.env) fp) Ω W0 ifs c)
    (he : ∀ (s : Shared) (H : Hp) (C : Addr) (cl : List (Str × Addr)) (fp : List Addr), ME (X.blk s H scope (compEnvC scope cl C X.env) fp) Ω W0 elt f) (hs : ∀ x, foldedSetIterable iter X.env x = pure x := by intro _; rfl) :
    ML X Ω W (.ListComp elt [⟨tg, iter, ifs, 0⟩] scope pos) (eLc (own.map (·.2)) pf it c f) := L2PE.imp (pe_lc (tt := liftT X.K Ω W0 c) (te := liftE X.K Ω W0 f) hc hN hi ok hg ht he hs) fun σ H Q => lc_of hp hv
end
end Mi
namespace Mi
open PySem PySem.Spec PyProof.Rows L2

abbrev FF := List T → Mem → Res T
def runB (n : Nat) (b : SF) : FF := fun ts M => match b (ts.map some ++ List.replicate (n - ts.length) none) M with
  | some (.nx _, M') => .ok .non M'
  | some (.rt t, M') => .ok t M'
  | some (.ex _ c t, M') => .exc c t M'
  | _ => .err
def spF (K : PySem.W.Frag) (Ω : Om) (n : Nat) (F : FF) : Sp := fun vs H Q E => ∃ Z ι M ts, RM K Ω Z ι M H ∧ Rs K Ω Z ι M H ts vs ∧ ts.length = n ∧ Post K Ω (R K Ω) E Z ι M H Q (F ts M)
theorem rv_start {K : PySem.W.Frag} {Ω : Om} {Z ι : List Addr} {M : Mem} {H : Hp} {ts : List T} {vs : List V} {N : List Str} (r : Rs K Ω Z ι M H ts vs) : RV K Ω Z ι M H (ts.map some ++ List.replicate (N.length - ts.length) none) (L2.start N vs) := by
  have hl := r.length
  refine ⟨by unfold L2.start; simp [hl], fun i t h => ?_⟩
  unfold L2.start
  by_cases hi : i < ts.length
  · rw [List.getElem?_append_left (by simpa using hi), List.getElem?_map] at h
    cases e : ts[i]? with
    | none => rw [e] at h; cases h
    | some u =>
      rw [e] at h
      cases h
      obtain ⟨v, hv, rv⟩ := r.get e
      exact ⟨v, by rw [List.getElem?_append_left (by simp; omega), List.getElem?_map, hv]; rfl, rv⟩
  · rw [List.getElem?_append_right (by simpa using hi), List.getElem?_replicate] at h
    split at h <;> cases h

section
variable {P : Program} {w : World} {K : PySem.W.Frag} {mg : Str → Option Value} {base : Heap} {Ω : Om}
abbrev cxD (P : Program) (w : World) (K : PySem.W.Frag) (mg : Str → Option Value) (base : Heap) (N : List Str) (qual : Str) (sc : Scope) (f : Addr) (cdv : Value) (A : Around) (outer : List Env) (s : Shared) (H : Hp) (E : XK) : Cx := cxOf (L2.CX P w) P w K mg base N qual sc f cdv A outer s H E
def BodyS (P : Program) (w : World) (K : PySem.W.Frag) (mg : Str → Option Value) (base : Heap) (Ω : Om) (k : Nat) (N : List Str) (sc : Scope) (body : List Stmt) (b : SF) : Prop :=
  ∀ (qual : Str) (f : Addr) (cdv : Value) (A : Around) (outer : List Env) (s : Shared) (H : Hp) (E : XK), Room k (A.deeper (envOfC qual sc s.heap.objs.size f cdv)) → MSs (cxD P w K mg base N qual sc f cdv A outer s H E) Ω (fun c d _ H' => E c d H') body b
theorem body_ok {qual : Str} {sc : Scope} {f : Addr} {cdv : Value} {A : Around} {outer : List Env} {s : Shared} {N ps : List Str} {H : Hp} {E : XK} {body : List Stmt} {b : SF} {vs : List V} {Q : VK} {k : Nat}
    (h : MSs (cxD P w K mg base N qual sc f cdv A outer s H E) Ω (fun c d _ H' => E c d H') body b) (q : spF K Ω ps.length (runB N.length b) vs H Q E) :
    ∃ t, PSs (cxD P w K mg base N qual sc f cdv A outer s H E) body t ∧ t { nx := fun _ H' => Q .non H', rt := Q } (L2.start N vs) H := by
  refine ⟨_, h, ?_⟩
  obtain ⟨Z, ι, M, ts, m, rs, hl, p⟩ := q
  refine ⟨Z, ι, M, _, m, rv_start rs, ?_⟩
  unfold runB at p
  generalize b (ts.map some ++ List.replicate (N.length - ts.length) none) M = r at p ⊢
  match r, p with
  | some (.nx _, M'), p => exact fun ι' σ' H' m' e rv => p ι' H' .non m' e .non
  | some (.rt t, M'), p => exact p
  | some (.ex _ c t, M'), p => exact fun ι' σ' H' dd v m' e rv rt x => p ι' H' dd v m' e rt x
  | some (.bk _, _), p => exact p.elim
  | some (.ct _, _), p => exact p.elim
  | none, p => exact p.elim
structure FnG (P : Program) (w : World) (K : PySem.W.Frag) (mg : Str → Option Value) (base : Heap) (Ω : Om) (x : Str) (k n : Nat) (dts : List T) (F : FF) : Prop where
  ex : ∃ (f : Addr) (fd : FuncData) (ps : List Str), mg x = some (.ref f) ∧ PySem.W.keepIn K (.ref f) = true ∧ ps.length = n ∧ FnOk P w K mg base (L2.CX P w) k f fd ps (spF K Ω n F) ∧
    ∀ j ≤ dts.length, ∃ (ds : List Value) (dvs : List V), Binds K fd ps ds ∧ Vals dvs ds ∧ ∀ Z ι M H, Rs K Ω Z ι M H (dts.drop j) dvs
structure MeG (P : Program) (w : World) (K : PySem.W.Frag) (mg : Str → Option Value) (base : Heap) (Ω : Om) (c : Nat) (m : Str) (k n : Nat) (dts : List T) (F : FF) : Prop where
  ex : ∃ (f : Addr) (fd : FuncData) (ps : List Str), Cls K (Ω.cls c) ∧ Meth K (Ω.cls c) m f ∧ m ∉ Ω.fld c ∧ ps.length = n ∧ FnOk P w K mg base (L2.CX P w) k f fd ps (spF K Ω n F) ∧
    ∀ j ≤ dts.length, ∃ (ds : List Value) (dvs : List V), Binds K fd ps ds ∧ Vals dvs ds ∧ ∀ Z ι M H, Rs K Ω Z ι M H (dts.drop j) dvs
structure PrG (P : Program) (w : World) (K : PySem.W.Frag) (mg : Str → Option Value) (base : Heap) (Ω : Om) (c : Nat) (m : Str) (k : Nat) (F : FF) : Prop where
  ex : ∃ (f p : Addr) (fd : FuncData) (ps : List Str), Cls K (Ω.cls c) ∧ PropOf K (Ω.cls c) m p f ∧ ps.length = 1 ∧ FnOk P w K mg base (L2.CX P w) k f fd ps (spF K Ω 1 F) ∧ Binds K fd ps []
structure MkG (P : Program) (w : World) (K : PySem.W.Frag) (mg : Str → Option Value) (base : Heap) (Ω : Om) (x : Str) (c k n : Nat) (F : FF) : Prop where
  ex : ∃ (f : Addr) (fd : FuncData) (ps : List Str), mg x = some (.ref (Ω.cls c)) ∧ Mk K (Ω.cls c) f ∧ ps.length = n ∧ FnOk P w K mg base (L2.CX P w) k f fd ps (spF K Ω n F) ∧ Binds K fd ps []
end

section
variable {X : Cx} {Ω : Om} {W : WX} {e o : Expr} {es : List Expr} {fo : EF} {fa : AF} {pos p apos : Pos} {F : FF} {k n j c : Nat} {dts : List T} {x : Str}
theorem Rs.append {K : PySem.W.Frag} {Z ι : List Addr} {M : Mem} {H : Hp} : ∀ {ts us : List T} {vs ws : List V}, Rs K Ω Z ι M H ts vs → Rs K Ω Z ι M H us ws → Rs K Ω Z ι M H (ts ++ us) (vs ++ ws)
  | _, _, _, _, .nil, s => s
  | _, _, _, _, .cons r t, s => .cons r (Rs.append t s)
def eCall (n : Nat) (F : FF) (ds : List T) (fa : AF) : EF := fun σ M => (fa σ M).bind fun ts M1 => bif (ts ++ ds).length == n then F (ts ++ ds) M1 else .err
theorem call_of {sp : Sp} {dvs : List V} {E : L2.St → XK} {ds : List T} (hE : ∀ σ, E σ = fun c d H' => W c d σ H') (hsp : ∀ vs H Q E, spF X.K Ω n F vs H Q E → sp vs H Q E) (hd : ∀ Z ι M H, Rs X.K Ω Z ι M H ds dvs)
    {σ : L2.St} {H : Hp} {Q : VK} (q : liftE X.K Ω W (eCall n F ds fa) σ H Q) : tCallSD sp dvs E (liftA X.K Ω W fa) σ H Q := by
  obtain ⟨Z, ι, M, σT, m, rv, q⟩ := q
  refine ⟨Z, ι, M, σT, m, rv, Post.bind q fun ι1 M1 H1 ts vs m1 e1 q1 p1 => hsp _ _ _ _ ?_⟩
  cases z : (ts ++ ds).length == n with
  | false => rw [z] at p1; exact p1.elim
  | true =>
    rw [z] at p1
    refine ⟨Z, ι1, M1, ts ++ ds, m1, q1.append (hd Z ι1 M1 H1), beq_iff_eq.mp z, ?_⟩
    rw [hE]
    exact p1
theorem passAtW {X : Cx} {W : WX} (tk : Takes X W) (σ : L2.St) : PassesAt (L2.CX X.prog X.w) X σ (fun c d H' => W c d σ H') := passAt tk σ
theorem me_call (j : Nat) (G : FnG X.prog X.w X.K X.mg X.base Ω x k n dts F) (hr : Room k X.A) (tk : Takes X W) (hg : Gl X x) (ha : MA X Ω W (e :: es) fa) (hj : j ≤ dts.length := by decide) (hdb : (x == ("__debug__" : Str)) = false := by decide)
    (he : starEach (e :: es) X.env = (false, eval e X.env) :: starEach es X.env := by rfl) (hpl : (backTo pos (starEach es X.env)).any (·.1) = false := by rfl) :
    ME X Ω W (.Call (.Name x p) (e :: es) [] pos) (eCall n F (dts.drop j) fa) := by
  obtain ⟨f, fd, ps, gm, kp, hl, ok, bd⟩ := G.ex
  obtain ⟨ds, dvs, hb, hv, hd⟩ := bd j hj
  exact L2PE.imp (pe_callSD ok hr hg gm kp hb hv (passAtW tk) ha hdb he hpl) fun σ H Q q => call_of (fun _ => rfl) (fun _ _ _ _ h => h) hd q

def objF (c : Nat) (M : Mem) : T → Option (List T)
  | .obj c' fs => bif c' == c then some fs else none
  | .loc n => match M[n]? with
    | some (.obj c' fs) => bif c' == c then some fs else none
    | _ => none
  | _ => none
theorem Rs.setI {K : PySem.W.Frag} {Z ι : List Addr} {M : Mem} {H : Hp} {t : T} {v : V} (r : R K Ω Z ι M H t v) : ∀ {ts : List T} {vs : List V} (i : Nat), Rs K Ω Z ι M H ts vs → Rs K Ω Z ι M H (ts.set i t) (vs.set i v)
  | _, _, _, .nil => .nil
  | _, _, 0, .cons _ q => .cons r q
  | _, _, i + 1, .cons p q => .cons p (Rs.setI r i q)
end
end Mi
namespace Mi
open PySem PySem.Spec PyProof.Rows L2

def ground (x : List Nat) : Bool := x.all fun c => decide (c < symB)
def isSym (c : Nat) : Bool := decide (symB ≤ c) && decide (c < symB + symN)
def letters (x : List Nat) : Bool := !x.isEmpty && decide (x.length ≤ 8) && x.all fun c => decide (97 ≤ c) && decide (c ≤ 122)
def mayBe (x : List Nat) : Bool := letters x && !awayW.contains x
def strEq (x y : List Nat) : Option Bool :=
  bif x == y then some true else bif ground x && ground y then some false else match x, y with
    | [c], [d] => bif isSym c && isSym d then some false else none
    | [c], y => bif isSym c && ground y && !mayBe y then some false else none
    | x, [d] => bif isSym d && ground x && !mayBe x then some false else none
    | _, _ => none
section
variable {Ω : Om}
theorem spell_ground {x : List Nat} (h : ground x = true) : spell Ω.rho x = x := spell_flat h
theorem spell_sym {c : Nat} (h : isSym c = true) : spell Ω.rho [c] = Ω.rho c := by
  unfold isSym at h
  rw [Bool.and_eq_true, decide_eq_true_eq, decide_eq_true_eq] at h
  unfold spell
  rw [List.flatMap_cons, if_neg (by omega)]
  simp
theorem letters_rho (c : Nat) : letters (Ω.rho c) = true := by
  unfold letters
  rw [Bool.and_eq_true, Bool.and_eq_true]
  refine ⟨⟨?_, decide_eq_true (Ω.rle c)⟩, List.all_eq_true.mpr fun x hx => ?_⟩
  · cases h : Ω.rho c with
    | nil => exact absurd h (Ω.rne c)
    | cons _ _ => rfl
  · have := Ω.rch c x hx
    rw [Bool.and_eq_true, decide_eq_true_eq, decide_eq_true_eq]
    exact this
theorem strEq_ok {x y : List Nat} {b : Bool} (h : strEq x y = some b) : decide (spell Ω.rho x = spell Ω.rho y) = b := by
  unfold strEq at h
  cases e : x == y with
  | true =>
    rw [e] at h
    cases h
    rw [beq_iff_eq.mp e]
    exact decide_eq_true rfl
  | false =>
    rw [e] at h
    have ne : x ≠ y := fun z => by rw [z, beq_self_eq_true] at e; cases e
    cases g : ground x && ground y with
    | true =>
      rw [g] at h
      cases h
      rw [Bool.and_eq_true] at g
      rw [spell_ground g.1, spell_ground g.2]
      exact decide_eq_false ne
    | false =>
      rw [g] at h
      dsimp only [cond_false] at h
      have lit : ∀ {c : Nat} {z : List Nat}, (isSym c && ground z && !mayBe z) = true → Ω.rho c ≠ z ∧ spell Ω.rho [c] = Ω.rho c ∧ spell Ω.rho z = z := by
        intro c z q
        rw [Bool.and_eq_true, Bool.and_eq_true] at q
        refine ⟨fun e => ?_, spell_sym q.1.1, spell_ground q.1.2⟩
        have := letters_rho (Ω := Ω) c
        have h2 : awayW.contains z = false := by
          rw [← e]
          cases h : awayW.contains (Ω.rho c) with
          | false => rfl
          | true => exact absurd (by simpa using h) (Ω.raw c)
        rw [e] at this
        unfold mayBe at q
        rw [this, h2] at q
        exact absurd q.2 (by decide)
      split at h
      · rename_i c d
        cases q : isSym c && isSym d with
        | false => rw [q] at h; cases h
        | true =>
          rw [q] at h
          cases h
          rw [Bool.and_eq_true] at q
          rw [spell_sym q.1, spell_sym q.2]
          refine decide_eq_false fun z => ne ?_
          have h1 := q.1
          have h2 := q.2
          unfold isSym at h1 h2
          rw [Bool.and_eq_true, decide_eq_true_eq, decide_eq_true_eq] at h1 h2
          have := Ω.rij (c - symB) (d - symB) (by omega) (by omega) (by rw [show symB + (c - symB) = c by omega, show symB + (d - symB) = d by omega]; exact z)
          rw [show c = d by omega]
      · rename_i c _
        cases q : isSym c && ground y && !mayBe y with
        | false => rw [q] at h; cases h
        | true =>
          rw [q] at h
          cases h
          obtain ⟨n, e1, e2⟩ := lit q
          rw [e1, e2]
          exact decide_eq_false n
      · rename_i d _
        cases q : isSym d && ground x && !mayBe x with
        | false => rw [q] at h; cases h
        | true =>
          rw [q] at h
          cases h
          obtain ⟨n, e1, e2⟩ := lit q
          rw [e1, e2]
          exact decide_eq_false (Ne.symm n)
      · cases h
end
def plainN : Nat → T → Bool
  | 0, _ => false
  | n + 1, t => match t with
    | .non => true
    | .bl _ => true
    | .int _ => true
    | .str _ => true
    | .tup ts => ts.all (plainN n)
    | .ktup ts => ts.all (plainN n)
    | .lst ts => ts.all (plainN n)
    | _ => false
def teqs (f : T → T → Option Bool) : List T → List T → Option Bool
  | x :: xs, y :: ys => match f x y with
    | some true => teqs f xs ys
    | r => r
  | [], [] => some true
  | _, _ => some false
def teqN : Nat → T → T → Option Bool
  | 0, _, _ => none
  | n + 1, t, u => match t, u with
    | .non, .non => some true
    | .bl a, .bl b => some (a == b)
    | .bl a, .int j => some ((if a then 1 else 0) == j)
    | .int i, .bl b => some (i == (if b then 1 else 0))
    | .int i, .int j => some (i == j)
    | .str x, .str y => strEq x y
    | .tup xs, .tup ys => bif xs.length == ys.length then teqs (teqN n) xs ys else some false
    | .ktup xs, .tup ys => bif xs.length == ys.length then teqs (teqN n) xs ys else some false
    | .tup xs, .ktup ys => bif xs.length == ys.length then teqs (teqN n) xs ys else some false
    | .ktup xs, .ktup ys => bif xs.length == ys.length then teqs (teqN n) xs ys else some false
    | .lst xs, .lst ys => bif xs.length == ys.length then teqs (teqN n) xs ys else some false
    | .klst _, _ => none
    | .dct _ _, _ => none
    | .obj _ _, _ => none
    | .xob _ _, _ => none
    | .loc _, _ => none
    | _, .klst _ => none
    | _, .dct _ _ => none
    | _, .obj _ _ => none
    | _, .xob _ _ => none
    | _, .loc _ => none
    | _, _ => some false
def toStr (x : List Nat) : Str := ⟨x.toArray⟩
section
variable {Ω : Om}
mutual
def dat (Ω : Om) : T → PyData
  | .bl b => .bool b
  | .int i => .int i
  | .str x => .str (toStr (spell Ω.rho x))
  | .tup ts => .tuple (dats Ω ts)
  | .ktup ts => .tuple (dats Ω ts)
  | .lst ts => .list (dats Ω ts)
  | _ => .none
def dats (Ω : Om) : List T → List PyData
  | [] => []
  | t :: ts => dat Ω t :: dats Ω ts
end
theorem toStr_of {s : Str} {x : List Nat} (h : s.cps.toList = x) : s = toStr x := by
  cases s
  unfold toStr
  congr 1
  rw [← h]
theorem dats_len : ∀ {ts : List T}, (dats Ω ts).length = ts.length
  | [] => rfl
  | _ :: ts => by simp [dats, dats_len (ts := ts)]
theorem strOk_spell {x : List Nat} : PyData.strOk (toStr (spell Ω.rho x)) = true := by
  unfold PyData.strOk toStr
  rw [← Array.all_toList]
  refine List.all_eq_true.mpr fun c hc => ?_
  have hc : c ∈ spell Ω.rho x := by simpa using hc
  unfold spell at hc
  rw [List.mem_flatMap] at hc
  obtain ⟨d, _, hd⟩ := hc
  split at hd
  · rename_i h
    have : c = d := by simpa using hd
    subst this
    exact decide_eq_true h
  · have := Ω.rch d c hd
    exact decide_eq_true (by omega)
mutual
theorem plain_dat : ∀ (n : Nat) (t : T), plainN n t = true → (dat Ω t).canLay0 = true ∧ (dat Ω t).depth ≤ n
  | 0, _, h => by cases h
  | n + 1, .non, _ => ⟨by simp [dat, PyData.canLay0], by simp [dat, PyData.depth]⟩
  | n + 1, .bl _, _ => ⟨by simp [dat, PyData.canLay0], by simp [dat, PyData.depth]⟩
  | n + 1, .int _, _ => ⟨by simp [dat, PyData.canLay0], by simp [dat, PyData.depth]⟩
  | n + 1, .str x, _ => ⟨by simp only [dat, PyData.canLay0]; exact strOk_spell, by simp [dat, PyData.depth]⟩
  | n + 1, .tup ts, h => by
    obtain ⟨a, b⟩ := plain_dats n ts h
    exact ⟨by simp only [dat, PyData.canLay0]; exact a, by simp only [dat, PyData.depth]; omega⟩
  | n + 1, .ktup ts, h => by
    obtain ⟨a, b⟩ := plain_dats n ts h
    exact ⟨by simp only [dat, PyData.canLay0]; exact a, by simp only [dat, PyData.depth]; omega⟩
  | n + 1, .lst ts, h => by
    obtain ⟨a, b⟩ := plain_dats n ts h
    exact ⟨by simp only [dat, PyData.canLay0]; exact a, by simp only [dat, PyData.depth]; omega⟩
  | n + 1, .dct _ _, h => by cases h
  | n + 1, .klst _, h => by cases h
  | n + 1, .obj _ _, h => by cases h
  | n + 1, .xob _ _, h => by cases h
  | n + 1, .loc _, h => by cases h
theorem plain_dats : ∀ (n : Nat) (ts : List T), ts.all (plainN n) = true → PyData.canLayAll0 (dats Ω ts) = true ∧ PyData.depthAll (dats Ω ts) ≤ n
  | n, [], _ => ⟨by simp [dats, PyData.canLayAll0], by simp [dats, PyData.depthAll]⟩
  | n, t :: ts, h => by
    rw [List.all_cons, Bool.and_eq_true] at h
    obtain ⟨a, b⟩ := plain_dat n t h.1
    obtain ⟨c, d⟩ := plain_dats n ts h.2
    exact ⟨by simp only [dats, PyData.canLayAll0]; rw [a, c]; rfl, by simp only [dats, PyData.depthAll]; omega⟩
end
theorem plain_shaped {t : T} (h : plainN 60 t = true) : SeqAt.shaped (dat Ω t) = true := by
  obtain ⟨a, b⟩ := plain_dat (Ω := Ω) 60 t h
  unfold SeqAt.shaped
  rw [a, decide_eq_true (show (dat Ω t).depth ≤ 64 by omega)]
  rfl
variable {K : PySem.W.Frag} {Z ι : List Addr} {M : Mem} {H : Hp}
mutual
theorem R.dp : ∀ (n : Nat) {t : T} {v : V}, R K Ω Z ι M H t v → plainN n t = true → Dp K H v (dat Ω t)
  | 0, _, _, _, h => by cases h
  | n + 1, _, _, .non, _ => .non
  | n + 1, _, _, .bl b, _ => .bl b
  | n + 1, _, _, .int i, _ => .int i
  | n + 1, _, _, .str x s e _, _ => by
    simp only [dat]
    rw [toStr_of e]
    exact .str _
  | n + 1, _, _, .tup q r, h => by
    simp only [dat]
    exact .tup (.of q) (Rs.dp n r h)
  | n + 1, _, _, .ktup q _ r, h => by
    simp only [dat]
    exact .tup q (Rs.dp n r h)
  | n + 1, _, _, .lst q _ r, h => by
    simp only [dat]
    exact .lst (.inl (.inl q)) (Rs.dp n r h)
  | n + 1, _, _, .klst q r, h => by cases h
  | n + 1, _, _, .dK _ _ _ _, h => by cases h
  | n + 1, _, _, .dT _ _ _ _, h => by cases h
  | n + 1, _, _, .obj _ _ _ _, h => by cases h
  | n + 1, _, _, .xob _ _ _ _ _ _, h => by cases h
  | n + 1, _, _, .loc _, h => by cases h
theorem Rs.dp : ∀ (n : Nat) {ts : List T} {vs : List V}, Rs K Ω Z ι M H ts vs → ts.all (plainN n) = true → DpAll K H vs (dats Ω ts)
  | n, _, _, .nil, _ => .nil
  | n, _, _, .cons r q, h => by
    rw [List.all_cons, Bool.and_eq_true] at h
    simp only [dats]
    exact .cons (R.dp n r h.1) (Rs.dp n q h.2)
end
theorem toStr_inj {x y : List Nat} : (toStr x == toStr y) = decide (x = y) := by
  unfold toStr
  by_cases e : x = y
  · rw [e, decide_eq_true rfl]
    exact beq_self_eq_true _
  · rw [decide_eq_false e]
    exact beq_eq_false_iff_ne.mpr fun h => e (by injection h with h; simpa using congrArg Array.toList h)
theorem teqs_ok {f : T → T → Option Bool} (hf : ∀ t u b, f t u = some b → PyData.eqv (dat Ω t) (dat Ω u) = b) : ∀ (ts us : List T) (b : Bool), teqs f ts us = some b → PyData.eqvAll (dats Ω ts) (dats Ω us) = b
  | [], [], b, h => by cases h; simp [dats, PyData.eqvAll]
  | [], _ :: _, b, h => by cases h; simp [dats, PyData.eqvAll]
  | _ :: _, [], b, h => by cases h; simp [dats, PyData.eqvAll]
  | t :: ts, u :: us, b, h => by
    unfold teqs at h
    simp only [dats, PyData.eqvAll]
    cases e : f t u with
    | none => rw [e] at h; cases h
    | some k =>
      rw [e] at h
      rw [hf t u k e]
      cases k with
      | true => exact (Bool.true_and _).trans (teqs_ok hf ts us b h)
      | false => cases h; rfl
theorem eqvAll_len : ∀ (xs ys : List PyData), xs.length ≠ ys.length → PyData.eqvAll xs ys = false
  | [], [], h => absurd rfl h
  | [], _ :: _, _ => by simp [PyData.eqvAll]
  | _ :: _, [], _ => by simp [PyData.eqvAll]
  | x :: xs, y :: ys, h => by
    simp only [PyData.eqvAll]
    rw [eqvAll_len xs ys (by simpa using h), Bool.and_false]
theorem teqN_ok : ∀ (n : Nat) (t u : T) (b : Bool), teqN n t u = some b → PyData.eqv (dat Ω t) (dat Ω u) = b
  | 0, _, _, _, h => by cases h
  | n + 1, t, u, b, h => by
    have two : ∀ (xs ys : List T), (bif xs.length == ys.length then teqs (teqN n) xs ys else some false) = some b → PyData.eqvAll (dats Ω xs) (dats Ω ys) = b := by
      intro xs ys q
      cases e : xs.length == ys.length with
      | true => rw [e] at q; exact teqs_ok (teqN_ok n) xs ys b q
      | false =>
        rw [e] at q
        cases q
        exact eqvAll_len _ _ (by rw [dats_len, dats_len]; exact beq_eq_false_iff_ne.mp e)
    cases t <;> cases u <;> simp only [teqN] at h <;> first
      | (cases h; simp [dat, PyData.eqv]; done)
      | (simp only [dat, PyData.eqv]; exact two _ _ h)
      | (simp only [dat, PyData.eqv]; rw [toStr_inj]; exact strEq_ok h)
      | (cases h; simp only [dat, PyData.eqv])
      | cases h
end
def teq (t u : T) : Option Bool := bif plainN 60 t && plainN 60 u then teqN 60 t u else none
def opEq : Op2 := fun _ t u => (teq t u).map .bl
def opNe : Op2 := fun _ t u => (teq t u).map fun b => .bl (!b)
section
variable {K : PySem.W.Frag} {Ω : Om}
theorem teq_dp {Z ι : List Addr} {M : Mem} {H : Hp} {t u : T} {v w : V} {b : Bool} (r : R K Ω Z ι M H t v) (q : R K Ω Z ι M H u w) (h : teq t u = some b) :
    Dp K H v (dat Ω t) ∧ Dp K H w (dat Ω u) ∧ SeqAt.shaped (dat Ω t) = true ∧ SeqAt.shaped (dat Ω u) = true ∧ PyData.eqv (dat Ω t) (dat Ω u) = b := by
  unfold teq at h
  cases e : plainN 60 t && plainN 60 u with
  | false => rw [e] at h; cases h
  | true =>
    rw [e] at h
    rw [Bool.and_eq_true] at e
    exact ⟨r.dp 60 e.1, q.dp 60 e.2, plain_shaped e.1, plain_shaped e.2, teqN_ok 60 t u b h⟩
theorem opEq_ok : OpS K Ω (rEqD K) opEq := fun Z ι M H t u v w z Q m r q h k => by
  unfold opEq at h
  cases e : teq t u with
  | none => rw [e] at h; cases h
  | some b =>
    rw [e] at h
    cases h
    obtain ⟨d1, d2, s1, s2, hb⟩ := teq_dp r q e
    exact ⟨_, _, d1, d2, s1, s2, by rw [hb]; exact k ι H _ m Ext.refl (.bl b)⟩
theorem opNe_ok : OpS K Ω (rNeD K) opNe := fun Z ι M H t u v w z Q m r q h k => by
  unfold opNe at h
  cases e : teq t u with
  | none => rw [e] at h; cases h
  | some b =>
    rw [e] at h
    cases h
    obtain ⟨d1, d2, s1, s2, hb⟩ := teq_dp r q e
    exact ⟨_, _, d1, d2, s1, s2, by rw [hb]; exact k ι H _ m Ext.refl (.bl _)⟩
end
end Mi
namespace Mi
open PySem PySem.Spec PyProof.Rows L2

section
variable {K : PySem.W.Frag} {Ω : Om} {X : Cx} {Z ι : List Addr} {M : Mem} {H : Hp}
def seqT (M : Mem) : T → Option (List T)
  | .tup ts => some ts
  | .ktup ts => some ts
  | .lst ts => some ts
  | .klst ts => some ts
  | .loc n => match M[n]? with
    | some (.lst ts) => some ts
    | _ => none
  | _ => none
theorem seqT_ok {t : T} {v : V} {ts : List T} (m : RM K Ω Z ι M H) (r : R K Ω Z ι M H t v) (h : seqT M t = some ts) : ∃ a vs, v = .ref a ∧ (SqL K H a vs ∨ SqT K H a vs) ∧ Rs K Ω Z ι M H ts vs := by
  cases r with
  | tup q rs => cases h; exact ⟨_, _, rfl, .inr (.of q), rs⟩
  | ktup q _ rs => cases h; exact ⟨_, _, rfl, .inr q, rs⟩
  | lst q n rs => cases h; exact ⟨_, _, rfl, .inl (.inl (.inl q)), rs⟩
  | klst q rs => cases h; exact ⟨_, _, rfl, .inl (KL.sql q), rs⟩
  | loc q =>
    rename_i n a
    obtain ⟨o, e, ro⟩ := m.at q
    have h : (match M[n]? with | some (MO.lst ts) => some ts | _ => none) = some ts := h
    rw [e] at h
    cases ro with
    | lst hl rs => cases h; exact ⟨_, _, rfl, .inl (.inl (.inl hl)), rs⟩
    | gone _ => cases h
    | obj _ _ _ => cases h
    | dK _ _ _ => cases h
    | dT _ _ _ => cases h
  | _ => cases h
def opAdd : Op2 := fun _ t u => match t, u with
  | .int i, .int j => some (.int (i + j))
  | .str x, .str y => bif big (x ++ y).length then some (.str (x ++ y)) else none
  | .tup xs, .tup ys => bif big (xs ++ ys).length then some (.tup (xs ++ ys)) else none
  | _, _ => none
abbrev rAddI : R2 := rI0 fun i j => .int (i + j)
abbrev rAddS : R2 := fun x y H Q => ∃ i j, x = .str i ∧ y = .str j ∧ i.length + j.length ≤ sizeLine ∧ Q (.str (i ++ j)) H
abbrev rAdd3 (K : PySem.W.Frag) : R2 := fun x y H Q => rAddI x y H Q ∨ rAddS x y H Q ∨ rCatA K x y H Q
theorem op_add3 : OpR X (binaryOp .Add) (rAdd3 X.K) := op_add.or (op_add_str.or op_catA)
theorem spell_app (r : Nat → List Nat) (x y : List Nat) : spell r (x ++ y) = spell r x ++ spell r y := by
  unfold spell
  rw [List.flatMap_append]
theorem cps_app (a b : Str) : (a ++ b).cps.toList = a.cps.toList ++ b.cps.toList := by
  show (a.cps ++ b.cps).toList = _
  exact Array.toList_append
theorem opAdd_ok : OpS K Ω (rAdd3 K) opAdd := fun Z ι M H t u v w z Q m r q h k => by
  unfold opAdd at h
  split at h
  · cases h
    cases r
    cases q
    exact .inl ⟨_, _, rfl, rfl, k ι H _ m Ext.refl (.int _)⟩
  · rename_i x y
    cases e : big (x ++ y).length with
    | false => rw [e] at h; cases h
    | true =>
      rw [e] at h
      cases h
      have hb : (x ++ y).length ≤ 2000000 := of_decide_eq_true e
      cases r with
      | str _ s hs _ =>
        cases q with
        | str _ s' hs' _ =>
          have e1 : (s ++ s').cps.toList = spell Ω.rho (x ++ y) := by rw [cps_app, hs, hs', spell_app]
          refine .inr (.inl ⟨s, s', rfl, rfl, ?_, k ι H _ m Ext.refl (.str _ _ e1 hb)⟩)
          have := str_size e1 hb
          have l : (s ++ s').length = s.length + s'.length := by
            show (s.cps ++ s'.cps).size = _
            exact Array.size_append
          omega
  · rename_i xs ys
    cases e : big (xs ++ ys).length with
    | false => rw [e] at h; cases h
    | true =>
      rw [e] at h
      cases h
      have hb := big_ok e
      cases r with
      | tup h1 r1 =>
        cases q with
        | tup h2 r2 =>
          rename_i a vs b ws
          refine .inr (.inr ⟨a, b, vs, ws, rfl, rfl, .of h1, .of h2, by rw [← r1.length, ← r2.length, ← List.length_append]; exact hb, fun e1 => ?_, fun _ e2 => ?_, fun _ _ p np => ?_⟩)
          · subst e1
            cases r1
            exact k ι H _ m Ext.refl (.tup h2 r2)
          · subst e2
            cases r2
            rw [List.append_nil] at k
            exact k ι H _ m Ext.refl (.tup h1 r1)
          · exact k ι _ _ (m.lay np) (Ext.new np) (.tup upd_same ((r1.append r2).ext (Ext.new np)))
  · cases h
def opSub : Op2 := fun _ t u => match t, u with
  | .int i, .int j => some (.int (i - j))
  | _, _ => none
theorem opI_ok {C : Int → Int → Prop} {g : Int → Int → Int} {o : Op2} (ho : ∀ M t u z, o M t u = some z → ∃ i j, t = .int i ∧ u = .int j ∧ C i j ∧ z = .int (g i j)) : OpS K Ω (rI C fun i j => .int (g i j)) o := fun Z ι M H t u v w z Q m r q h k => by
  obtain ⟨i, j, rfl, rfl, hc, rfl⟩ := ho M t u z h
  cases r
  cases q
  exact ⟨i, j, rfl, rfl, hc, k ι H _ m Ext.refl (.int _)⟩
theorem opI0_ok {g : Int → Int → Int} {o : Op2} (ho : ∀ M t u z, o M t u = some z → ∃ i j, t = .int i ∧ u = .int j ∧ z = .int (g i j)) : OpS K Ω (rI0 fun i j => .int (g i j)) o := fun Z ι M H t u v w z Q m r q h k => by
  obtain ⟨i, j, rfl, rfl, rfl⟩ := ho M t u z h
  cases r
  cases q
  exact ⟨i, j, rfl, rfl, k ι H _ m Ext.refl (.int _)⟩
theorem opB0_ok {g : Int → Int → Bool} {o : Op2} (ho : ∀ M t u z, o M t u = some z → ∃ i j, t = .int i ∧ u = .int j ∧ z = .bl (g i j)) : OpS K Ω (rI0 fun i j => .bl (g i j)) o := fun Z ι M H t u v w z Q m r q h k => by
  obtain ⟨i, j, rfl, rfl, rfl⟩ := ho M t u z h
  cases r
  cases q
  exact ⟨i, j, rfl, rfl, k ι H _ m Ext.refl (.bl _)⟩
theorem opSub_ok : OpS K Ω (rI0 fun i j => .int (i - j)) opSub := opI0_ok fun M t u z h => by
  unfold opSub at h
  split at h
  · cases h; exact ⟨_, _, rfl, rfl, rfl⟩
  · cases h
def opMul : Op2 := fun _ t u => match t, u with
  | .int i, .int j => bif decide (-(2 ^ 64) < j) && decide (j < 2 ^ 64) || decide (-(2 ^ 64) < i) && decide (i < 2 ^ 64) then some (.int (i * j)) else none
  | _, _ => none
theorem opMul_ok : OpS K Ω (rI CMul fun i j => .int (i * j)) opMul := opI_ok fun M t u z h => by
  unfold opMul at h
  split at h
  · rename_i i j
    cases e : decide (-(2 ^ 64) < j) && decide (j < 2 ^ 64) || decide (-(2 ^ 64) < i) && decide (i < 2 ^ 64) with
    | false => rw [e] at h; cases h
    | true =>
      rw [e] at h
      cases h
      rw [Bool.or_eq_true, Bool.and_eq_true, Bool.and_eq_true, decide_eq_true_eq, decide_eq_true_eq, decide_eq_true_eq, decide_eq_true_eq] at e
      exact ⟨i, j, rfl, rfl, e.symm, rfl⟩
  · cases h
def opFdiv : Op2 := fun _ t u => match t, u with
  | .int i, .int j => bif decide (0 < j) && decide (j < 1073741824) then some (.int (i / j)) else none
  | _, _ => none
theorem opFdiv_ok : OpS K Ω (rI CDiv fun i j => .int (i / j)) opFdiv := opI_ok fun M t u z h => by
  unfold opFdiv at h
  split at h
  · rename_i i j
    cases e : decide (0 < j) && decide (j < 1073741824) with
    | false => rw [e] at h; cases h
    | true =>
      rw [e] at h
      cases h
      rw [Bool.and_eq_true, decide_eq_true_eq, decide_eq_true_eq] at e
      exact ⟨i, j, rfl, rfl, e, rfl⟩
  · cases h
def opMod : Op2 := fun _ t u => match t, u with
  | .int i, .int j => bif decide (0 < j) then some (.int (i % j)) else none
  | _, _ => none
theorem opMod_ok : OpS K Ω (rI (fun _ j => 0 < j) fun i j => .int (i % j)) opMod := opI_ok fun M t u z h => by
  unfold opMod at h
  split at h
  · rename_i i j
    cases e : decide (0 < j) with
    | false => rw [e] at h; cases h
    | true =>
      rw [e] at h
      cases h
      exact ⟨i, j, rfl, rfl, of_decide_eq_true e, rfl⟩
  · cases h
def CPowW (i j : Int) : Prop := 0 ≤ j ∧ (Builtin.Int.intBits i : Int) * j ≤ 2 ^ 27
theorem op_powW : OpR X (binaryOp .Pow) (rI CPowW fun i j => .int (i ^ j.toNat)) := opI fun _ _ _ _ _ _ _ hc q => pow_int hc.1 hc.2 q
def opPow : Op2 := fun _ t u => match t, u with
  | .int i, .int j => bif decide (0 ≤ j) && decide ((Builtin.Int.intBits i : Int) * j ≤ 2 ^ 27) then some (.int (i ^ j.toNat)) else none
  | _, _ => none
theorem opPow_ok : OpS K Ω (rI CPowW fun i j => .int (i ^ j.toNat)) opPow := opI_ok fun M t u z h => by
  unfold opPow at h
  split at h
  · rename_i i j
    cases e : decide (0 ≤ j) && decide ((Builtin.Int.intBits i : Int) * j ≤ 2 ^ 27) with
    | false => rw [e] at h; cases h
    | true =>
      rw [e] at h
      cases h
      rw [Bool.and_eq_true, decide_eq_true_eq, decide_eq_true_eq] at e
      exact ⟨i, j, rfl, rfl, e, rfl⟩
  · cases h
def opLt : Op2 := fun _ t u => match t, u with
  | .int i, .int j => some (.bl (decide (i < j)))
  | _, _ => none
def opGt : Op2 := fun _ t u => match t, u with
  | .int i, .int j => some (.bl (decide (j < i)))
  | _, _ => none
def opGe : Op2 := fun _ t u => match t, u with
  | .int i, .int j => some (.bl (decide (j ≤ i)))
  | _, _ => none
theorem opLt_ok : OpS K Ω (rI0 fun i j => .bl (decide (i < j))) opLt := opB0_ok fun M t u z h => by
  unfold opLt at h
  split at h
  · cases h; exact ⟨_, _, rfl, rfl, rfl⟩
  · cases h
theorem opGt_ok : OpS K Ω (rI0 fun i j => .bl (decide (j < i))) opGt := opB0_ok fun M t u z h => by
  unfold opGt at h
  split at h
  · cases h; exact ⟨_, _, rfl, rfl, rfl⟩
  · cases h
theorem opGe_ok : OpS K Ω (rI0 fun i j => .bl (decide (j ≤ i))) opGe := opB0_ok fun M t u z h => by
  unfold opGe at h
  split at h
  · cases h; exact ⟨_, _, rfl, rfl, rfl⟩
  · cases h
def eNeg (f : EF) : EF := fun σ M => (f σ M).bind fun t M1 => match t with
  | .int i => .ok (.int (-i)) M1
  | _ => .err
theorem me_neg {W : WX} {a : Expr} {f : EF} {pos : Pos} (ha : ME X Ω W a f) : ME X Ω W (.UnaryOp .USub a pos) (eNeg f) := L2PE.imp (pe_un un_neg ha) fun σ H Q ⟨Z, ι, M, σT, m, rv, p⟩ =>
  ⟨Z, ι, M, σT, m, rv, Post.bind p fun ι1 M1 H1 t v m1 e1 q1 p1 => by
    cases t with
    | int i => cases q1; exact ⟨i, rfl, p1.pure m1 (.int _)⟩
    | _ => exact p1.elim⟩
def tin (x : T) : List T → Option Bool
  | [] => some false
  | y :: ys => match teqN 60 y x with
    | some true => some true
    | some false => tin x ys
    | none => none
def inSeq (M : Mem) (t u : T) : Option Bool := match seqT M u with
  | some ts => bif plainN 60 t && ts.all (plainN 59) then tin t ts else none
  | none => none
def inStr (t u : T) : Option Bool := match t, u with
  | .str [c], .str z => bif decide (c < symB) && ground z then some (decide (c ∈ z)) else none
  | _, _ => none
def opIn : Op2 := fun M t u => (match u with
  | .str _ => inStr t u
  | _ => inSeq M t u).map .bl
theorem tin_ok {x : T} : ∀ {ts : List T} {b : Bool}, tin x ts = some b → ((dats Ω ts).any fun z => PyData.eqv z (dat Ω x)) = b
  | [], b, h => by cases h; simp [dats]
  | y :: ys, b, h => by
    unfold tin at h
    cases e : teqN 60 y x with
    | none => rw [e] at h; cases h
    | some k =>
      rw [e] at h
      simp only [dats, List.any_cons]
      rw [teqN_ok 60 y x k e]
      cases k with
      | true => cases h; rfl
      | false => exact (Bool.false_or _).trans (tin_ok h)
def rInS (K : PySem.W.Frag) (neg : Bool) : R2 := fun x y H Q => ∃ d ds, Dp K H x d ∧ (Dp K H y (.list ds) ∨ Dp K H y (.tuple ds)) ∧ SeqAt.shaped d = true ∧ PyData.canLayAll0 ds = true ∧ Q (.bl (if neg then !ds.any fun z => PyData.eqv z d else ds.any fun z => PyData.eqv z d)) H
theorem room_in {A : Around} {d : PyData} {ds : List PyData} (h : SeqAt.shaped d = true) (hu : A.units + 65 < cLine) : A.units + 1 + min (PyData.depthAll ds) d.depth < cLine := by
  have := SeqAt.depth_of_shaped h
  omega
theorem op_inS (hu : X.A.units + 65 < cLine) : OpR X (compareOp .In) (rInS X.K false) := by
  intro pins s σ H x y v u Q I rx ry ⟨d, ds, hd, he, sd, se, q⟩
  obtain ⟨as, r1⟩ := Dp.reads I d x v hd rx
  rcases he with he | he
  · obtain ⟨bs, r2⟩ := Dp.reads I _ y u he ry
    exact SeqAt.in_list_reads r2 r1 se (SeqAt.canLay_of_shaped sd) (room_in sd hu) ⟨.bl _, H, I, rfl, q⟩
  · obtain ⟨bs, r2⟩ := Dp.reads I _ y u he ry
    exact SeqAt.in_tuple_reads r2 r1 se (SeqAt.canLay_of_shaped sd) (room_in sd hu) ⟨.bl _, H, I, rfl, q⟩
abbrev rInSign : R2 := fun x y H Q => ∃ (c : Nat) (z : Str), x = .str ⟨#[c]⟩ ∧ y = .str z ∧ Q (.bl (decide (c ∈ z.cps.toList))) H
abbrev rIn2 (K : PySem.W.Frag) : R2 := fun x y H Q => rInS K false x y H Q ∨ rInSign x y H Q
theorem op_in2 (hu : X.A.units + 65 < cLine) : OpR X (compareOp .In) (rIn2 X.K) := (op_inS hu).or op_in_sign
theorem inSeq_ok {t u : T} {v w : V} {b : Bool} (m : RM K Ω Z ι M H) (r : R K Ω Z ι M H t v) (q : R K Ω Z ι M H u w) (h : inSeq M t u = some b) :
    ∃ d ds, Dp K H v d ∧ (Dp K H w (.list ds) ∨ Dp K H w (.tuple ds)) ∧ SeqAt.shaped d = true ∧ PyData.canLayAll0 ds = true ∧ (ds.any fun z => PyData.eqv z d) = b := by
  unfold inSeq at h
  cases e : seqT M u with
  | none => rw [e] at h; cases h
  | some ts =>
    rw [e] at h
    have h : (bif plainN 60 t && ts.all (plainN 59) then tin t ts else none) = some b := h
    cases z : plainN 60 t && ts.all (plainN 59) with
    | false => rw [z] at h; cases h
    | true =>
      rw [z] at h
      rw [Bool.and_eq_true] at z
      obtain ⟨a, vs, rfl, hs, rs⟩ := seqT_ok m q e
      refine ⟨dat Ω t, dats Ω ts, r.dp 60 z.1, ?_, plain_shaped z.1, (plain_dats 59 ts z.2).1, tin_ok h⟩
      rcases hs with hs | hs
      · exact .inl (.lst hs (rs.dp 59 z.2))
      · exact .inr (.tup hs (rs.dp 59 z.2))
theorem inStr_ok {t u : T} {v w : V} {b : Bool} (r : R K Ω Z ι M H t v) (q : R K Ω Z ι M H u w) (h : inStr t u = some b) :
    ∃ (c : Nat) (z : Str), v = .str ⟨#[c]⟩ ∧ w = .str z ∧ decide (c ∈ z.cps.toList) = b := by
  unfold inStr at h
  split at h
  · rename_i c z
    cases e : decide (c < symB) && ground z with
    | false => rw [e] at h; cases h
    | true =>
      rw [e] at h
      cases h
      rw [Bool.and_eq_true, decide_eq_true_eq] at e
      cases r with
      | str _ s hs _ =>
        cases q with
        | str _ s' hs' _ =>
          rw [spell_ground (by unfold ground; simp [e.1])] at hs
          rw [spell_ground e.2] at hs'
          refine ⟨c, s', ?_, rfl, by rw [hs']⟩
          rw [toStr_of hs]
          rfl
  · cases h
theorem opIn_ok : OpS K Ω (rIn2 K) opIn := fun Z ι M H t u v w z Q m r q h k => by
  unfold opIn at h
  split at h
  · cases e : inStr t (.str _) with
    | none => rw [e] at h; cases h
    | some b =>
      rw [e] at h
      cases h
      obtain ⟨c, z, h1, h2, h3⟩ := inStr_ok r q e
      exact .inr ⟨c, z, h1, h2, by rw [h3]; exact k ι H _ m Ext.refl (.bl b)⟩
  · cases e : inSeq M t u with
    | none => rw [e] at h; cases h
    | some b =>
      rw [e] at h
      cases h
      obtain ⟨d, ds, h1, h2, h3, h4, h5⟩ := inSeq_ok m r q e
      exact .inl ⟨d, ds, h1, h2, h3, h4, by rw [h5]; exact k ι H _ m Ext.refl (.bl b)⟩
end
end Mi
namespace Mi
open PySem PySem.Spec PyProof.Rows L2

section
variable {K : PySem.W.Frag} {Ω : Om} {X : Cx} {W : WX} {Z ι : List Addr} {M : Mem} {H : Hp} {e o : Expr} {es : List Expr} {fa : AF} {f g fo : EF} {pos p apos : Pos}
abbrev OpN := Mem → List T → Option T
def CallS (K : PySem.W.Frag) (Ω : Om) (r : List V → Hp → VK → Prop) (op : OpN) : Prop := ∀ Z ι M H ts vs z Q, RM K Ω Z ι M H → Rs K Ω Z ι M H ts vs → op M ts = some z →
  (∀ ι' H' x, RM K Ω Z ι' M H' → Ext [] ι M H ι' M H' → R K Ω Z ι' M H' z x → Q x H') → r vs H Q
def eBi (op : OpN) (fa : AF) : EF := fun σ M => (fa σ M).bind fun ts M1 => .of (op M1 ts) M1
theorem tCB_of {r : List V → Hp → VK → Prop} {op : OpN} (h : CallS X.K Ω r op) {σ : L2.St} {H : Hp} {Q : VK} (q : liftE X.K Ω W (eBi op fa) σ H Q) : tCB r (liftA X.K Ω W fa) σ H Q := by
  obtain ⟨Z, ι, M, σT, m, rv, q⟩ := q
  refine ⟨Z, ι, M, σT, m, rv, Post.bind q fun ι1 M1 H1 ts vs m1 e1 q1 p1 => ?_⟩
  obtain ⟨z, hz, p1⟩ := Post.of p1
  exact h Z ι1 M1 H1 ts vs z Q m1 q1 hz fun ι' H' x m' e' r' => p1 ι' H' x m' e' r'
theorem me_callB {id : String} {x : Str} {r : List V → Hp → VK → Prop} {op : OpN} (hc : CallR X (.builtin id) r) (h : CallS X.K Ω r op) (hg : Gl X x) (hm : X.mg x = none) (hv : bootBuiltins x = some (.builtin id)) (ha : MA X Ω W (e :: es) fa) (hn : x ≠ "__name__" := by decide) (hdb : (x == ("__debug__" : Str)) = false := by decide)
    (he : starEach (e :: es) X.env = (false, eval e X.env) :: starEach es X.env := by rfl) (hpl : (backTo pos (starEach es X.env)).any (·.1) = false := by rfl) : ME X Ω W (.Call (.Name x p) (e :: es) [] pos) (eBi op fa) := L2PE.imp (pe_callB hc hg hm hv ha hn hdb he hpl) fun _ _ _ q => tCB_of h q
theorem me_callTy {ty : String} {x : Str} {r : List V → Hp → VK → Prop} {op : OpN} (hc : CallR X (.type ty) r) (h : CallS X.K Ω r op) (hg : Gl X x) (hm : X.mg x = none) (hv : bootBuiltins x = some (.type ty)) (ha : MA X Ω W (e :: es) fa) (hn : x ≠ "__name__" := by decide) (hdb : (x == ("__debug__" : Str)) = false := by decide)
    (he : starEach (e :: es) X.env = (false, eval e X.env) :: starEach es X.env := by rfl) (hpl : (backTo pos (starEach es X.env)).any (·.1) = false := by rfl) : ME X Ω W (.Call (.Name x p) (e :: es) [] pos) (eBi op fa) := L2PE.imp (pe_callTy hc hg hm hv ha hn hdb he hpl) fun _ _ _ q => tCB_of h q
theorem Rs.one {ts : List T} {t : T} {vs : List V} (r : Rs K Ω Z ι M H ts vs) (h : ts = [t]) : ∃ v, vs = [v] ∧ R K Ω Z ι M H t v := by
  subst h
  cases r with
  | cons a b => cases b; exact ⟨_, rfl, a⟩
theorem Rs.two {ts : List T} {t u : T} {vs : List V} (r : Rs K Ω Z ι M H ts vs) (h : ts = [t, u]) : ∃ v w, vs = [v, w] ∧ R K Ω Z ι M H t v ∧ R K Ω Z ι M H u w := by
  subst h
  cases r with
  | cons a b =>
    cases b with
    | cons b c => cases c; exact ⟨_, _, rfl, a, b⟩
def CallL (K : PySem.W.Frag) (Ω : Om) (r : List V → Hp → VK → Prop) (op : Mem → List T → Option (List T)) : Prop := ∀ Z ι M H ts vs zs Q, RM K Ω Z ι M H → Rs K Ω Z ι M H ts vs → op M ts = some zs →
  (∀ p ws, H p = none → Rs K Ω Z ι M H zs ws → Q (.ref p) (upd H p (.lst ws))) → r vs H Q
def eBiL (op : Mem → List T → Option (List T)) (fa : AF) : AF := fun σ M => (fa σ M).bind fun ts M1 => .of (op M1 ts) M1
theorem laid_of {Q : VK} {σ : L2.St} {zs : List T} {ι1 : List Addr} {M1 : Mem} {H1 : Hp} (m1 : RM X.K Ω Z ι1 M1 H1) (e1 : Ext [] ι M H ι1 M1 H1)
    (p1 : ∀ ι' H' p vs, H p = none → RM X.K Ω (p :: Z) ι' M1 H' → p ∉ Z → Ext [] ι M H ι' M1 H' → H' p = some (.lst vs) → Rs X.K Ω (p :: Z) ι' M1 H' zs vs → Q (.ref p) H') {p : Addr} {ws : List V} (np : H1 p = none) (rs : Rs X.K Ω Z ι1 M1 H1 zs ws) : Q (.ref p) (upd H1 p (.lst ws)) := by
  have hp : H p = none := by
    cases z : H p with
    | none => rfl
    | some o => exact absurd np (e1.there p (by rw [z]; exact nofun))
  exact p1 ι1 _ p ws hp (m1.layH np) (m1.notZ np) (e1.trans (Ext.new np)) upd_same ((rs.hide np).ext (Ext.new np))
theorem ml_of {r : List V → Hp → VK → Prop} {op : Mem → List T → Option (List T)} (h : CallL X.K Ω r op) (hp : PE X e (tCB r (liftA X.K Ω W fa))) : ML X Ω W e (eBiL op fa) := L2PE.imp hp fun σ H Q ⟨Z, ι, M, σT, m, rv, p⟩ => by
  refine ⟨Z, ι, M, σT, m, rv, ?_⟩
  unfold eBiL at p
  cases q : fa σT M with
  | ok ts M1 =>
    rw [q] at p
    intro ι1 H1 vs m1 e1 q1
    cases z : op M1 ts with
    | none => simp only [Res.bind, z] at p; exact p.elim
    | some zs =>
      simp only [Res.bind, z] at p
      exact h Z ι1 M1 H1 ts vs zs Q m1 q1 z fun p' ws np rs => laid_of (σ := σ) m1 e1 p np rs
  | exc c t M1 => rw [q] at p; exact p
  | err => rw [q] at p; exact p
theorem ml_callTy {ty : String} {x : Str} {r : List V → Hp → VK → Prop} {op : Mem → List T → Option (List T)} (hc : CallR X (.type ty) r) (h : CallL X.K Ω r op) (hg : Gl X x) (hm : X.mg x = none) (hv : bootBuiltins x = some (.type ty)) (ha : MA X Ω W (e :: es) fa) (hn : x ≠ "__name__" := by decide) (hdb : (x == ("__debug__" : Str)) = false := by decide)
    (he : starEach (e :: es) X.env = (false, eval e X.env) :: starEach es X.env := by rfl) (hpl : (backTo pos (starEach es X.env)).any (·.1) = false := by rfl) : ML X Ω W (.Call (.Name x p) (e :: es) [] pos) (eBiL op fa) := ml_of h (pe_callTy hc hg hm hv ha hn hdb he hpl)
def lstT (M : Mem) : T → Option (List T)
  | .lst ts => some ts
  | .loc n => match M[n]? with
    | some (.lst ts) => some ts
    | _ => none
  | _ => none
theorem lstT_at {t : T} {v : V} {ts : List T} (m : RM K Ω Z ι M H) (r : R K Ω Z ι M H t v) (h : lstT M t = some ts) : ∃ a vs, v = .ref a ∧ H a = some (.lst vs) ∧ Rs K Ω Z ι M H ts vs := by
  cases r with
  | lst q n rs => cases h; exact ⟨_, _, rfl, q, rs⟩
  | loc q =>
    rename_i n a
    obtain ⟨o, e, ro⟩ := m.at q
    have h : (match M[n]? with | some (MO.lst ts) => some ts | _ => none) = some ts := h
    rw [e] at h
    cases ro with
    | lst hl rs => cases h; exact ⟨_, _, rfl, hl, rs⟩
    | gone _ => cases h
    | obj _ _ _ => cases h
    | dK _ _ _ => cases h
    | dT _ _ _ => cases h
  | _ => cases h
theorem lstT_ok {t : T} {v : V} {ts : List T} (m : RM K Ω Z ι M H) (r : R K Ω Z ι M H t v) (h : lstT M t = some ts) : ∃ a vs, v = .ref a ∧ SqL K H a vs ∧ Rs K Ω Z ι M H ts vs :=
  let ⟨a, vs, h1, h2, h3⟩ := lstT_at m r h
  ⟨a, vs, h1, .inl (.inl h2), h3⟩
def bLen : OpN := fun M ts => match ts with
  | [.str x] => bif ground x then some (.int x.length) else none
  | [t] => (seqT M t).map fun xs => .int xs.length
  | _ => none
abbrev rLenSeq (K : PySem.W.Frag) : List V → Hp → VK → Prop := fun xs H Q => ∃ p ys, xs = [.ref p] ∧ (SqL K H p ys ∨ SqT K H p ys) ∧ Q (.int ys.length) H
abbrev rLenStr : List V → Hp → VK → Prop := fun xs H Q => ∃ z, xs = [.str z] ∧ z.length ≤ sizeLine ∧ Q (.int z.length) H
abbrev rLen2 (K : PySem.W.Frag) : List V → Hp → VK → Prop := fun xs H Q => rLenSeq K xs H Q ∨ rLenStr xs H Q
theorem call_len2 : CallR X (.builtin "len") (rLen2 X.K) := call_len_seq.or call_len_str
theorem bLen_ok : CallS K Ω (rLen2 K) bLen := fun Z ι M H ts vs z Q m r h k => by
  unfold bLen at h
  split at h
  · rename_i x
    obtain ⟨v, rfl, rv⟩ := r.one rfl
    cases e : ground x with
    | false => rw [e] at h; cases h
    | true =>
      rw [e] at h
      cases h
      cases rv with
      | str _ s hs hl =>
        have hz := str_size hs hl
        have el : s.length = x.length := by
          rw [spell_ground e] at hs
          rw [← hs, Array.length_toList]
          rfl
        exact .inr ⟨s, rfl, hz, by rw [el]; exact k ι H _ m Ext.refl (.int _)⟩
  · rename_i t _
    obtain ⟨v, rfl, rv⟩ := r.one rfl
    cases e : seqT M t with
    | none => rw [e] at h; cases h
    | some xs =>
      rw [e] at h
      cases h
      obtain ⟨a, ws, rfl, hs, rs⟩ := seqT_ok m rv e
      exact .inl ⟨a, ws, rfl, hs, by rw [← rs.length]; exact k ι H _ m Ext.refl (.int _)⟩
  · cases h
def bList : Mem → List T → Option (List T) := fun M ts => match ts with
  | [t] => seqT M t
  | _ => none
abbrev rListOf (K : PySem.W.Frag) : List V → Hp → VK → Prop := fun xs H Q => ∃ p ys, xs = [.ref p] ∧ (SqL K H p ys ∨ SqT K H p ys) ∧ ∀ l, H l = none → Q (.ref l) (upd H l (.lst ys))
theorem bList_ok : CallL K Ω (rListOf K) bList := fun Z ι M H ts vs zs Q m r h k => by
  unfold bList at h
  split at h
  · rename_i t
    obtain ⟨v, rfl, rv⟩ := r.one rfl
    obtain ⟨a, ws, rfl, hs, rs⟩ := seqT_ok m rv h
    exact ⟨a, ws, rfl, hs, fun l nl => k l ws nl rs⟩
  · cases h
def boolsT : List T → Option (List Bool)
  | [] => some []
  | .bl b :: ts => (boolsT ts).map (b :: ·)
  | _ => none
theorem bools_ok : ∀ {ts : List T} {bs : List Bool} {vs : List V}, boolsT ts = some bs → Rs K Ω Z ι M H ts vs → vs = bs.map V.bl
  | [], bs, vs, h, r => by cases h; cases r; rfl
  | t :: ts, bs, vs, h, r => by
    cases t with
    | bl b =>
      have h : (boolsT ts).map (b :: ·) = some bs := h
      cases e : boolsT ts with
      | none => rw [e] at h; cases h
      | some cs =>
        rw [e] at h
        cases h
        cases r with
        | cons r1 r2 => cases r1; rw [bools_ok e r2]; rfl
    | _ => cases h
def bBools (g : List Bool → Bool) : OpN := fun M ts => match ts with
  | [t] => ((lstT M t).bind boolsT).map fun bs => .bl (g bs)
  | _ => none
theorem bBools_ok {g : List Bool → Bool} {r : List V → Hp → VK → Prop} (hr : ∀ H Q a bs, SqL K H a (bs.map V.bl) → Q (.bl (g bs)) H → r [.ref a] H Q) : CallS K Ω r (bBools g) := fun Z ι M H ts vs z Q m rs h k => by
  unfold bBools at h
  split at h
  · rename_i t
    obtain ⟨v, rfl, rv⟩ := rs.one rfl
    cases e : lstT M t with
    | none => rw [e] at h; cases h
    | some xs =>
      rw [e] at h
      have h : (boolsT xs).map (fun bs => T.bl (g bs)) = some z := h
      cases e2 : boolsT xs with
      | none => rw [e2] at h; cases h
      | some bs =>
        rw [e2] at h
        cases h
        obtain ⟨a, ws, rfl, hs, rs⟩ := lstT_ok m rv e
        rw [bools_ok e2 rs] at hs
        exact hr H Q a bs hs (k ι H _ m Ext.refl (.bl _))
  · cases h
def bAll : OpN := bBools fun bs => bs.all id
theorem bAll_ok : CallS K Ω (rAll K) bAll := bBools_ok fun H Q a bs h q => ⟨a, bs, rfl, h, q⟩
abbrev rInt1 : List V → Hp → VK → Prop := fun xs H Q => (∃ i, xs = [.int i] ∧ Q (.int i) H) ∨ ∃ k, xs = [.bl k] ∧ Q (.int (if k then 1 else 0)) H
abbrev rIntS : List V → Hp → VK → Prop := fun xs H Q => ∃ a n, xs = [.str a] ∧ PySem.intText? a = some n ∧ a.length ≤ 640 ∧ Q (.int n) H
abbrev rInt2 : List V → Hp → VK → Prop := fun xs H Q => rInt1 xs H Q ∨ rIntS xs H Q
theorem call_int2 : CallR X (.type "int") rInt2 := call_int1.or call_int_str
def bInt : OpN := fun _ ts => match ts with
  | [.int i] => some (.int i)
  | [.bl k] => some (.int (if k then 1 else 0))
  | [.str x] => bif ground x && decide (x.length ≤ 640) then (PySem.intText? (toStr x)).map .int else none
  | _ => none
theorem bInt_ok : CallS K Ω rInt2 bInt := fun Z ι M H ts vs z Q m r h k => by
  unfold bInt at h
  split at h
  · cases h
    obtain ⟨v, rfl, rv⟩ := r.one rfl
    cases rv
    exact .inl (.inl ⟨_, rfl, k ι H _ m Ext.refl (.int _)⟩)
  · cases h
    obtain ⟨v, rfl, rv⟩ := r.one rfl
    cases rv
    exact .inl (.inr ⟨_, rfl, k ι H _ m Ext.refl (.int _)⟩)
  · rename_i x
    cases e : ground x && decide (x.length ≤ 640) with
    | false => rw [e] at h; cases h
    | true =>
      rw [e] at h
      rw [Bool.and_eq_true, decide_eq_true_eq] at e
      have h : (PySem.intText? (toStr x)).map T.int = some z := h
      cases e2 : PySem.intText? (toStr x) with
      | none => rw [e2] at h; cases h
      | some n =>
        rw [e2] at h
        cases h
        obtain ⟨v, rfl, rv⟩ := r.one rfl
        cases rv with
        | str _ s hs _ =>
          rw [spell_ground e.1] at hs
          have es := toStr_of hs
          subst es
          refine .inr ⟨_, n, rfl, e2, ?_, k ι H _ m Ext.refl (.int _)⟩
          show (toStr x).cps.size ≤ 640
          unfold toStr
          simpa using e.2
  · cases h
abbrev rAbs : List V → Hp → VK → Prop := fun xs H Q => ∃ i, xs = [.int i] ∧ Q (.int (if i < 0 then -i else i)) H
def bAbs : OpN := fun _ ts => match ts with
  | [.int i] => some (.int (if i < 0 then -i else i))
  | _ => none
theorem bAbs_ok : CallS K Ω rAbs bAbs := fun Z ι M H ts vs z Q m r h k => by
  unfold bAbs at h
  split at h
  · cases h
    obtain ⟨v, rfl, rv⟩ := r.one rfl
    cases rv
    exact ⟨_, rfl, k ι H _ m Ext.refl (.int _)⟩
  · cases h
abbrev rMax2 : List V → Hp → VK → Prop := fun xs H Q => ∃ i j, xs = [.int i, .int j] ∧ Q (.int (if j > i then j else i)) H
abbrev rMin2 : List V → Hp → VK → Prop := fun xs H Q => ∃ i j, xs = [.int i, .int j] ∧ Q (.int (if j < i then j else i)) H
def bMax2 : OpN := fun _ ts => match ts with
  | [.int i, .int j] => some (.int (if j > i then j else i))
  | _ => none
def bMin2 : OpN := fun _ ts => match ts with
  | [.int i, .int j] => some (.int (if j < i then j else i))
  | _ => none
theorem bMax2_ok : CallS K Ω rMax2 bMax2 := fun Z ι M H ts vs z Q m r h k => by
  unfold bMax2 at h
  split at h
  · cases h
    obtain ⟨v, w, rfl, rv, rw'⟩ := r.two rfl
    cases rv
    cases rw'
    exact ⟨_, _, rfl, k ι H _ m Ext.refl (.int _)⟩
  · cases h
theorem bMin2_ok : CallS K Ω rMin2 bMin2 := fun Z ι M H ts vs z Q m r h k => by
  unfold bMin2 at h
  split at h
  · cases h
    obtain ⟨v, w, rfl, rv, rw'⟩ := r.two rfl
    cases rv
    cases rw'
    exact ⟨_, _, rfl, k ι H _ m Ext.refl (.int _)⟩
  · cases h
def tyName (M : Mem) : T → Option String
  | .non => some "NoneType"
  | .bl _ => some "bool"
  | .int _ => some "int"
  | .str _ => some "str"
  | .tup _ => some "tuple"
  | .ktup _ => none
  | .klst _ => none
  | .lst _ => some "list"
  | .dct false _ => some "dict"
  | .dct true _ => none
  | .obj _ _ => none
  | .xob _ _ => none
  | .loc n => match M[n]? with
    | some (.lst _) => some "list"
    | some (.dct _ _) => some "dict"
    | _ => none
def subTy (a b : String) : Bool := a == b || (a == "bool" && b == "int")
def eIsT (n : String) (f : EF) : EF := fun σ M => (f σ M).bind fun t M1 => match tyName M1 t with
  | some a => .ok (.bl (subTy a n)) M1
  | none => .err
end
end Mi
namespace Mi
open PySem PySem.Spec PyProof.Rows L2

section
variable {K : PySem.W.Frag} {Ω : Om} {X : Cx} {W : WX} {Z ι : List Addr} {M : Mem} {H : Hp} {e e2 o : Expr} {es : List Expr} {fa : AF} {f g fo : EF} {pos p apos cpos p1 : Pos}
theorem tyName_ok {t : T} {v : V} {a : String} (m : RM K Ω Z ι M H) (r : R K Ω Z ι M H t v) (h : tyName M t = some a) : TyX K H v (.type a) := by
  cases r with
  | non => cases h; exact .base .non
  | bl b => cases h; exact .base (.bl b)
  | int i => cases h; exact .base (.int i)
  | str x s _ _ => cases h; exact .base (.str s)
  | tup q rs => cases h; exact .base (.tup q)
  | ktup _ _ _ => cases h
  | klst _ _ => cases h
  | xob => cases h
  | lst q n rs =>
    cases h
    exact .base (.lst q)
  | dK q n k rs =>
    cases h
    rcases q with q | ⟨_, q⟩
    · exact .base (.dK q)
    · exact .fDict q
  | dT q n k rs => cases h
  | obj _ _ _ _ => cases h
  | loc q =>
    rename_i n a'
    obtain ⟨ob, e, ro⟩ := m.at q
    have h : (match M[n]? with | some (MO.lst _) => some "list" | some (MO.dct _ _) => some "dict" | _ => none) = some a := h
    rw [e] at h
    cases ro with
    | lst hl _ => cases h; exact .base (.lst hl)
    | dK hl _ _ => cases h; exact .base (.dK hl)
    | dT hl _ _ => cases h; exact .base (.dT hl)
    | gone _ => cases h
    | obj _ _ _ => cases h
theorem kit_sub {a n : String} (ha : a ∈ ["NoneType", "bool", "int", "str", "tuple", "list", "dict"]) (hn : n ∈ ["bool", "int", "str", "tuple", "list", "dict"]) : PySem.W.kitOne K (.type a) (.type n) = some (subTy a n) := by
  have h : ∀ a ∈ ["NoneType", "bool", "int", "str", "tuple", "list", "dict"], ∀ n ∈ ["bool", "int", "str", "tuple", "list", "dict"], kitB a n = some (subTy a n) := by decide +kernel
  exact kit_ty (h a ha n hn)
theorem tyName_mem {t : T} {a : String} (h : tyName M t = some a) : a ∈ ["NoneType", "bool", "int", "str", "tuple", "list", "dict"] := by
  unfold tyName at h
  split at h <;> first
    | (cases h; simp; done)
    | (split at h <;> first | (cases h; simp; done) | cases h)
    | cases h
theorem me_isT {n : String} {x : Str} (hn : n ∈ ["bool", "int", "str", "tuple", "list", "dict"]) (hgI : Gl X "isinstance") (hmI : X.mg "isinstance" = none) (hg : Gl X x) (hm : X.mg x = none) (hv : bootBuiltins x = some (.type n)) (he : ME X Ω W e f)
    (hnn : x ≠ "__name__" := by decide) (hd : (x == ("__debug__" : Str)) = false := by decide) (hs1 : starEach [e, .Name x p1] X.env = (false, eval e X.env) :: starEach [.Name x p1] X.env := by rfl) (hs2 : starEach [.Name x p1] X.env = (false, eval (.Name x p1) X.env) :: starEach [] X.env := by rfl) (hpl : (backTo pos (starEach [.Name x p1] X.env)).any (·.1) = false := by rfl) :
    ME X Ω W (.Call (.Name "isinstance" p) [e, .Name x p1] [] pos) (eIsT n f) := by
  have hB : PE X (.Name x p1) (tC (.ty n)) := pe_bltn hg hm hv rfl hnn hd
  refine L2PE.imp (pe_callB call_isi hgI hmI (by decide +kernel) (pa_cons he (pa_cons hB pa_nil hs2) hs1) (by decide) (by decide) hs1 hpl) fun σ H Q ⟨Z, ι, M, σT, m, rv, q⟩ => ⟨Z, ι, M, σT, m, rv, Post.bind q fun ι1 M1 H1 t v m1 e1 q1 p1 => ?_⟩
  cases ht : tyName M1 t with
  | none => rw [ht] at p1; exact p1.elim
  | some a =>
    rw [ht] at p1
    exact ⟨v, .ty n, .type a, .type n, subTy a n, rfl, .ty n, tyName_ok m1 q1 ht, kit_sub (tyName_mem ht) hn, p1.pure m1 (.bl _)⟩
end
end Mi
namespace Mi
open PySem PySem.Spec PyProof.Rows L2

section
variable {K : PySem.W.Frag} {Ω : Om} {X : Cx} {W : WX} {Z ι : List Addr} {M : Mem} {H : Hp} {e e2 o a b : Expr} {es : List Expr} {fa : AF} {f g fo : EF} {pos p apos cpos p1 p2 : Pos}
def opIx : Op2 := fun M t u => match u with
  | .int i => (match t with
    | .str x => bif ground x then (atI x i).map fun c => .str [c] else none
    | _ => (seqT M t).bind fun ts => atI ts i)
  | _ => none
theorem Rs.atI {ts : List T} {vs : List V} {i : Int} {t : T} (r : Rs K Ω Z ι M H ts vs) (h : L2.atI ts i = some t) : ∃ v, L2.atI vs i = some v ∧ R K Ω Z ι M H t v := by
  unfold L2.atI at h ⊢
  rw [← r.length]
  cases e : ixN ts.length i with
  | none => rw [e] at h; cases h
  | some j =>
    rw [e] at h
    exact r.get h
theorem opIx_ok : OpS K Ω (rIx K) opIx := fun Z ι M H t u v w z Q m r q h k => by
  unfold opIx at h
  split at h
  · rename_i i
    cases q
    split at h
    · rename_i x
      cases r with
      | str _ s hs hl =>
        cases e : ground x with
        | false => rw [e] at h; cases h
        | true =>
          rw [e] at h
          have h : (L2.atI x i).map (fun c => T.str [c]) = some z := h
          cases y : L2.atI x i with
          | none => rw [y] at h; cases h
          | some c =>
            rw [y] at h
            cases h
            have hz := str_size hs hl
            rw [spell_ground e] at hs
            have hc : c < symB := by
              unfold L2.atI at y
              cases z : ixN x.length i with
              | none => rw [z] at y; cases y
              | some j =>
                rw [z] at y
                have : c ∈ x := List.mem_of_getElem? (show x[j]? = some c from y)
                exact of_decide_eq_true (List.all_eq_true.mp e c this)
            refine .inr (.inr ⟨s, i, c, rfl, rfl, hz, by rw [hs]; exact y, k ι H _ m Ext.refl (.str _ _ ?_ (by simp))⟩)
            rw [spell_ground (by unfold ground; simp [hc])]
    · cases e : seqT M t with
      | none => rw [e] at h; cases h
      | some ts =>
        rw [e] at h
        obtain ⟨a, vs, rfl, hs, rs⟩ := seqT_ok m r e
        obtain ⟨x, hx, rx⟩ := rs.atI h
        rcases hs with hs | hs
        · exact .inl ⟨a, vs, i, x, rfl, rfl, hs, hx, k ι H _ m Ext.refl rx⟩
        · exact .inr (.inl ⟨a, vs, i, x, rfl, rfl, hs, hx, k ι H _ m Ext.refl rx⟩)
  · cases h
theorem me_ix (ha : ME X Ω W a f) (hb : ME X Ω W b g) (hs : PlainIx b := by intro _ _; rfl) : ME X Ω W (.Subscript a b pos) (eOp opIx f g) := L2PE.imp (pe_ix ix_seq ha hb hs) fun _ _ _ q => tOp_of opIx_ok q
def cutT {α : Type} (xs : List α) (lo hi : Option Int) : List α := (xs.drop (HT.sIx xs.length 0 lo)).take (HT.sIx xs.length xs.length hi - HT.sIx xs.length 0 lo)
def pf (o : Option EF) : TV → Mem → Res (Option Int) := fun σ M => match o with
  | none => .ok none M
  | some g => (g σ M).bind fun u M2 => match u with
    | .int i => .ok (some i) M2
    | _ => .err
abbrev MP (X : Cx) (Ω : Om) (W : WX) (e : Option Expr) (o : Option EF) : Prop := PO X e (lift X.K Ω (fun _ _ _ _ a b => a = b) W (pf o))
theorem mp_none : MP X Ω W none none := ⟨fun pins s σ H Q I ⟨Z, ι, M, σT, m, rv, p⟩ => po_none.run pins s σ H Q I (p ι H none m Ext.refl rfl)⟩
theorem mp_some (h : ME X Ω W e f) : MP X Ω W (some e) (some f) := ⟨fun pins s σ H Q I ⟨Z, ι, M, σT, m, rv, p⟩ => (po_some h).run pins s σ H Q I ⟨Z, ι, M, σT, m, rv, Post.bind p fun ι1 M1 H1 t v m1 e1 q1 p1 => by
  cases t with
  | int i => cases q1; exact ⟨i, rfl, p1 ι1 H1 (some i) m1 Ext.refl rfl⟩
  | _ => exact p1.elim⟩⟩
def eSlice (f : EF) (lo hi : Option EF) (op : Mem → T → Option Int → Option Int → Option T) : EF := fun σ M => (f σ M).bind fun t M1 => (pf lo σ M1).bind fun l M2 => (pf hi σ M2).bind fun h M3 => .of (op M3 t l h) M3
def slT (M : Mem) (t : T) (lo hi : Option Int) : Option T := match t with
  | .tup xs => some (.tup (cutT xs lo hi))
  | .str x => bif ground x then some (.str (cutT x lo hi)) else none
  | t => (lstT M t).map fun xs => .lst (cutT xs lo hi)
theorem Rs.take {ts : List T} {vs : List V} : ∀ (n : Nat), Rs K Ω Z ι M H ts vs → Rs K Ω Z ι M H (ts.take n) (vs.take n)
  | 0, _ => .nil
  | _ + 1, .nil => .nil
  | n + 1, .cons r t => .cons r (Rs.take n t)
theorem Rs.drop {ts : List T} {vs : List V} : ∀ (n : Nat), Rs K Ω Z ι M H ts vs → Rs K Ω Z ι M H (ts.drop n) (vs.drop n)
  | 0, r => r
  | _ + 1, .nil => .nil
  | n + 1, .cons _ t => Rs.drop n t
theorem Rs.cut {ts : List T} {vs : List V} {lo hi : Option Int} (r : Rs K Ω Z ι M H ts vs) : Rs K Ω Z ι M H (cutT ts lo hi) (cutV vs lo hi) := by
  unfold cutT cutV
  rw [← r.length]
  exact (r.drop _).take _
theorem cut_whole {α : Type} {xs : List α} {lo hi : Option Int} (h : HT.sIx xs.length 0 lo = 0 ∧ HT.sIx xs.length xs.length hi = xs.length) : cutT xs lo hi = xs := by
  unfold cutT
  rw [h.1, h.2, List.drop_zero, Nat.sub_zero, List.take_length]
abbrev rSl2 (K : PySem.W.Frag) : V → Option Int → Option Int → Hp → VK → Prop := fun x lo hi H Q => rSlA K x lo hi H Q ∨ rSlS x lo hi H Q ∨ rSlL K x lo hi H Q
theorem sl_2 : SlR X (rSl2 X.K) := sl_tupA.or (sl_str.or sl_list)
theorem cutS_list (z : Str) (lo hi : Option Int) : (cutS z lo hi).cps.toList = cutT z.cps.toList lo hi := by
  have e : z.length = z.cps.toList.length := by rw [Array.length_toList]; rfl
  unfold cutS cutT
  rw [e]
theorem me_slice {lo hi : Option Expr} {l h : Option EF} (he : ME X Ω W e f) (hl : MP X Ω W lo l) (hu : MP X Ω W hi h) : ME X Ω W (.Subscript e (.Slice lo hi none p2) pos) (eSlice f l h slT) := L2PE.imp (pe_slice sl_2 he hl hu) fun σ H Q ⟨Z, ι, M, σT, m, rv, q⟩ =>
  ⟨Z, ι, M, σT, m, rv, Post.bind q fun ι1 M1 H1 t v m1 e1 q1 p1 => ⟨Z, ι1, M1, σT, m1, rv.ext e1.any, Post.bind p1 fun ι2 M2 H2 l l' m2 e2 q2 p2 => ⟨Z, ι2, M2, σT, m2, (rv.ext e1.any).ext e2.any, Post.bind p2 fun ι3 M3 H3 h h' m3 e3 q3 p3 => by
    cases q2
    cases q3
    obtain ⟨z, hz, p3⟩ := Post.of p3
    have r3 := (q1.ext e2.any).ext e3.any
    unfold slT at hz
    split at hz
    · cases hz
      cases r3 with
      | tup ha rs =>
        refine .inl ⟨_, _, rfl, .of ha, fun w => ?_, fun w p np => ?_⟩
        · rw [← rs.length] at w
          exact p3.pure m3 (by rw [cut_whole w]; exact .tup ha rs)
        · exact p3 ι3 _ _ (m3.lay np) (Ext.new np) (.tup upd_same (rs.cut.ext (Ext.new np)))
    · rename_i x
      cases g : ground x with
      | false => rw [g] at hz; cases hz
      | true =>
        rw [g] at hz
        cases hz
        cases r3 with
        | str _ s hs hx =>
          refine .inr (.inl ⟨s, rfl, str_size hs hx, p3.pure m3 (.str _ _ ?_ ?_)⟩)
          · rw [spell_ground g] at hs
            rw [cutS_list, hs]
            refine (spell_ground ?_).symm
            unfold ground cutT
            refine List.all_eq_true.mpr fun c hc => List.all_eq_true.mp g c ?_
            exact List.mem_of_mem_drop (List.mem_of_mem_take hc)
          · unfold cutT
            rw [List.length_take, List.length_drop]
            omega
    · cases y : lstT M3 t with
      | none => rw [y] at hz; cases hz
      | some xs =>
        rw [y] at hz
        cases hz
        obtain ⟨a, vs, rfl, hs, rs⟩ := lstT_ok m3 r3 y
        exact .inr (.inr ⟨a, vs, rfl, hs, fun p np => p3 ι3 _ _ (m3.lay np) (Ext.new np) (.lst upd_same ⟨m3.notLive np, m3.notZ np⟩ (rs.cut.ext (Ext.new np)))⟩)⟩⟩⟩
abbrev OpM := Mem → T → List T → Option (T × Mem)
def MtS (K : PySem.W.Frag) (Ω : Om) (ty : String) (r : V → List V → Hp → VK → Prop) (op : OpM) : Prop := ∀ Z ι M H t ts v vs z M' Q, RM K Ω Z ι M H → R K Ω Z ι M H t v → Rs K Ω Z ι M H ts vs → op M t ts = some (z, M') →
  (∀ ι' H' x, RM K Ω Z ι' M' H' → Ext [] ι M H ι' M' H' → R K Ω Z ι' M' H' z x → Q x H') → r v vs H Q
def eMt (ty : Mem → T → Bool) (op : OpM) (f : EF) (fa : AF) : EF := fun σ M => (f σ M).bind fun t M1 => bif ty M1 t then (fa σ M1).bind fun ts M2 => match op M2 t ts with
  | some (z, M3) => .ok z M3
  | none => .err
  else .err
theorem me_mt {T' id : String} {name : Str} {r : V → List V → Hp → VK → Prop} {op : OpM} {ty : Mem → T → Bool} (pa : PlainAttrs T') (slot : Slot T' name id) (hty : typeOf (.builtin id) = pure (.type "method_descriptor")) (hm : MtR X id r) (h : MtS X.K Ω T' r op)
    (ht : ∀ Z ι M H t v, RM X.K Ω Z ι M H → R X.K Ω Z ι M H t v → ty M t = true → tyV X.K T' v H) (ho : ME X Ω W o f) (ha : MA X Ω W (e :: es) fa)
    (hbase : attributeBase o name X.env (eval o X.env) = eval o X.env := by rfl)
    (hfew : ((backTo cpos (starEach (e :: es) X.env)).all (fun x => !x.1) && (backToKw cpos (keywordEach [] X.env)).all (fun x => x.1.isSome)
      && decide ((e :: es).length + ([] : List Keyword).length + (if ([] : List Keyword).isEmpty then 0 else 1) < 30)) = true := by rfl)
    (hline : (apos.endLine == cpos.line) = true := by rfl) (hs : starEach (e :: es) X.env = (false, eval e X.env) :: starEach es X.env := by rfl) (hplain : (backTo cpos (starEach es X.env)).any (·.1) = false := by rfl) :
    ME X Ω W (.Call (.Attribute o name apos) (e :: es) [] cpos) (eMt ty op f fa) := L2PE.imp (pe_bm pa slot hty hm ho ha hbase hfew hline hs hplain) fun σ H Q ⟨Z, ι, M, σT, m, rv, q⟩ => ⟨Z, ι, M, σT, m, rv, Post.bind q fun ι1 M1 H1 t v m1 e1 q1 p1 => by
    cases y : ty M1 t with
    | false => rw [y] at p1; exact p1.elim
    | true =>
      rw [y] at p1
      refine ⟨ht Z ι1 M1 H1 t v m1 q1 y, Z, ι1, M1, σT, m1, rv.ext e1.any, Post.bind p1 fun ι2 M2 H2 ts vs m2 e2 q2 p2 => ?_⟩
      cases z : op M2 t ts with
      | none => rw [z] at p2; exact p2.elim
      | some w => rw [z] at p2; exact h Z ι2 M2 H2 t ts v vs w.1 w.2 Q m2 (q1.ext e2.any) q2 z fun ι' H' x m' e' r' => p2 ι' H' x m' e' r'⟩
def locL (M : Mem) : T → Option (Nat × List T)
  | .loc n => match M[n]? with
    | some (.lst ts) => some (n, ts)
    | _ => none
  | _ => none
theorem locL_ok {t : T} {v : V} {n : Nat} {ts : List T} (m : RM K Ω Z ι M H) (r : R K Ω Z ι M H t v) (h : locL M t = some (n, ts)) : ∃ a vs, v = .ref a ∧ t = .loc n ∧ ι[n]? = some a ∧ M[n]? = some (.lst ts) ∧ H a = some (.lst vs) ∧ Rs K Ω Z ι M H ts vs := by
  cases r with
  | loc q =>
    rename_i i a
    obtain ⟨o, e, ro⟩ := m.at q
    have h : (match M[i]? with | some (MO.lst ts) => some (i, ts) | _ => none) = some (n, ts) := h
    rw [e] at h
    cases ro with
    | lst hl rs => cases h; exact ⟨_, _, rfl, rfl, q, e, hl, rs⟩
    | gone _ => cases h
    | obj _ _ _ => cases h
    | dK _ _ _ => cases h
    | dT _ _ _ => cases h
  | _ => cases h
def isLoc (M : Mem) (t : T) : Bool := (locL M t).isSome
theorem isLoc_ok {t : T} {v : V} (m : RM K Ω Z ι M H) (r : R K Ω Z ι M H t v) (h : isLoc M t = true) : tyV K "list" v H := by
  unfold isLoc at h
  cases e : locL M t with
  | none => rw [e] at h; cases h
  | some w =>
    obtain ⟨a, vs, rfl, _, _, _, hl, _⟩ := locL_ok (n := w.1) (ts := w.2) m r e
    exact .inl ⟨rfl, vs, .inl (.inl hl)⟩
theorem put_list {n : Nat} {a : Addr} {ts us : List T} {vs ws : List V} (m : RM K Ω Z ι M H) (hn : ι[n]? = some a) (hm : M[n]? = some (.lst ts)) (ha : H a = some (.lst vs)) (ru : Rs K Ω Z ι M H us ws) :
    RM K Ω Z ι (M.set n (.lst us)) (upd H a (.lst ws)) ∧ ∀ Z', Ext Z' ι M H ι (M.set n (.lst us)) (upd H a (.lst ws)) := by
  have t1 : ∀ xs, HO.lst vs ≠ .tup xs := by intro xs h; cases h
  have t2 : ∀ x y, HO.lst vs ≠ .frz x y := by intro x y h; cases h
  have hg : MO.lst ts ≠ .gone := by intro h; cases h
  exact ⟨m.write hn hm hg ha t1 t2 fun ex => .lst upd_same (ru.ext ex), fun _ => Ext.write hn hm hg ha t1 t2⟩
def mExtend : OpM := fun M t ts => match locL M t, ts with
  | some (n, xs), [u] => (match lstT M u with
    | some ys => bif big (xs.length + ys.length) then some (.non, M.set n (.lst (xs ++ ys))) else none
    | none => none)
  | _, _ => none
theorem mExtend_ok : MtS K Ω "list" rExtend mExtend := fun Z ι M H t ts v vs z M' Q m r rs h k => by
  unfold mExtend at h
  split at h
  · rename_i n xs u hl
    split at h
    · rename_i ys hy
      cases e : big (xs.length + ys.length) with
      | false => rw [e] at h; cases h
      | true =>
        rw [e] at h
        cases h
        obtain ⟨a, ws, rfl, rfl, hn, hm, ha, r1⟩ := locL_ok m r hl
        obtain ⟨w, rfl, ru⟩ := rs.one rfl
        obtain ⟨b, us, rfl, hb, r2⟩ := lstT_at m ru hy
        obtain ⟨m2, e2⟩ := put_list m hn hm ha (r1.append r2)
        refine ⟨a, b, ws, us, rfl, rfl, ha, hb, ?_, k ι _ _ m2 (e2 []) .non⟩
        have hz := of_decide_eq_true e
        rw [← r1.length, ← r2.length, sizeLine_eq]
        omega
    · cases h
  · cases h
theorem Rs.dropLast : ∀ {ts : List T} {vs : List V}, Rs K Ω Z ι M H ts vs → Rs K Ω Z ι M H ts.dropLast vs.dropLast
  | _, _, .nil => .nil
  | _, _, .cons r .nil => .nil
  | _, _, .cons r (.cons r2 t) => .cons r (Rs.dropLast (.cons r2 t))
theorem me_extend (ho : ME X Ω W o f) (ha : MA X Ω W [e] fa) (hbase : attributeBase o "extend" X.env (eval o X.env) = eval o X.env := by rfl)
    (hfew : ((backTo cpos (starEach [e] X.env)).all (fun x => !x.1) && (backToKw cpos (keywordEach [] X.env)).all (fun x => x.1.isSome) && decide ([e].length + ([] : List Keyword).length + (if ([] : List Keyword).isEmpty then 0 else 1) < 30)) = true := by rfl)
    (hline : (apos.endLine == cpos.line) = true := by rfl) (hs : starEach [e] X.env = (false, eval e X.env) :: starEach [] X.env := by rfl) (hplain : (backTo cpos (starEach [] X.env)).any (·.1) = false := by rfl) :
    ME X Ω W (.Call (.Attribute o "extend" apos) [e] [] cpos) (eMt isLoc mExtend f fa) :=
  me_mt PySem.F.plainAttrs_list PySem.F.slot_list_extend PySem.F.type_list_extend mt_extend mExtend_ok (fun _ _ _ _ _ _ m r h => isLoc_ok m r h) ho ha hbase hfew hline hs hplain
end
end Mi
namespace Mi
open PySem PySem.Spec PyProof.Rows L2

section
variable {K : PySem.W.Frag} {Ω : Om} {Z ι : List Addr} {M : Mem} {H : Hp}
def DctAt (K : PySem.W.Frag) (Ω : Om) (Z ι : List Addr) (M : Mem) (H : Hp) (tk : Bool) (kvs : List (T × T)) (a : Addr) : Prop := match tk with
  | false => ∃ ws, Rd H a (.dK ws) ∧ RKs Ω (kvs.map (·.1)) (ws.map (·.1)) ∧ Rs K Ω Z ι M H (kvs.map (·.2)) (ws.map (·.2))
  | true => ∃ ws, Rd H a (.dT ws) ∧ RKts Ω (kvs.map (·.1)) (ws.map (·.1)) ∧ Rs K Ω Z ι M H (kvs.map (·.2)) (ws.map (·.2))
end
section
variable {X : Cx} {Ω : Om} {W : WX} {e e2 o i value : Expr} {fa : AF} {f g fo fi fv : EF} {pos p apos cpos pos' : Pos}
theorem tB_of {σ : L2.St} {H : Hp} {Q : Bool → Hp → Prop} (q : liftT X.K Ω W (tVal f) σ H Q) : liftE X.K Ω W f σ H fun x H1 => ∃ c, x = .bl c ∧ Q c H1 := by
  obtain ⟨Z, ι, M, σT, m, rv, p⟩ := q
  refine ⟨Z, ι, M, σT, m, rv, Post.bind p fun ι1 M1 H1 t v m1 e1 q1 p1 => ?_⟩
  cases t with
  | bl k => cases q1; exact ⟨k, rfl, p1.pure m1 rfl⟩
  | _ => exact p1.elim
theorem DctAt.isD {K : PySem.W.Frag} {Z ι : List Addr} {M : Mem} {H : Hp} {tk : Bool} {kvs : List (T × T)} {a : Addr} (d : DctAt K Ω Z ι M H tk kvs a) : IsD H a := by
  cases tk with
  | false => obtain ⟨ws, h, _⟩ := d; exact .inl ⟨ws, h⟩
  | true => obtain ⟨ws, h, _⟩ := d; exact .inr ⟨ws, h⟩
theorem RKs.append {Ω : Om} : ∀ {ts us : List T} {ks ls : List Key}, RKs Ω ts ks → RKs Ω us ls → RKs Ω (ts ++ us) (ks ++ ls)
  | _, _, _, _, .nil, s => s
  | _, _, _, _, .cons r t, s => .cons r (RKs.append t s)
theorem RKts.append {Ω : Om} : ∀ {ts us : List T} {ks ls : List (List Key)}, RKts Ω ts ks → RKts Ω us ls → RKts Ω (ts ++ us) (ks ++ ls)
  | _, _, _, _, .nil, s => s
  | _, _, _, _, .cons r t, s => .cons r (RKts.append t s)
end
end Mi
namespace Mi
open PySem PySem.Spec PyProof.Rows L2

def insK {α : Type} (p : Int × α) : List (Int × α) → List (Int × α)
  | [] => [p]
  | q :: r => bif decide (p.1 ≤ q.1) then p :: q :: r else q :: insK p r
inductive RelK {α β : Type} (F : α → β → Prop) : List (Int × α) → List (Int × β) → Prop
  | nil : RelK F [] []
  | cons {k a b l m} : F a b → RelK F l m → RelK F ((k, a) :: l) ((k, b) :: m)
theorem RelK.ins {α β : Type} {F : α → β → Prop} {k : Int} {a : α} {b : β} (h : F a b) : ∀ {l m}, RelK F l m → RelK F (insK (k, a) l) (insK (k, b) m)
  | _, _, .nil => .cons h .nil
  | _, _, .cons (k := j) g r => by
    unfold insK
    show RelK F (bif decide (k ≤ j) then _ else _) (bif decide (k ≤ j) then _ else _)
    cases decide (k ≤ j) with
    | true => exact .cons h (.cons g r)
    | false => exact .cons g (RelK.ins h r)
theorem RelK.zip : ∀ {ks : List Int} {vs : List V} {us : List Value}, Vals vs us → ks.length = vs.length → RelK RelV (ks.zip vs) (ks.zip us)
  | [], _, _, .nil, _ => .nil
  | _ :: _, _, _, .nil, h => by cases h
  | [], _, _, .cons _ _, h => by cases h
  | k :: ks, _, _, .cons r t, h => .cons r (RelK.zip t (by simpa using h))
section
variable {X : Cx}
end
end Mi
namespace Mi
open PySem PySem.Spec PyProof.Rows L2
section
variable {K : PySem.W.Frag} {Ω : Om} {X : Cx} {W : WX} {Z ι : List Addr} {M : Mem} {H : Hp} {e e2 o a b c : Expr} {es : List Expr} {fa ga : AF} {f g fo h3 : EF} {pos p p2 kpos apos cpos p1 : Pos}
theorem RelK.rs {l : List (Int × T)} {n : List (Int × V)} (h : RelK (R K Ω Z ι M H) l n) : Rs K Ω Z ι M H (l.map (·.2)) (n.map (·.2)) := by
  induction h with
  | nil => exact .nil
  | cons h _ ih => exact .cons h ih
end
end Mi
namespace Mi
open PySem PySem.Spec PyProof.Rows L2
set_option maxHeartbeats 1000000 in
theorem enumNew1 {v : Value} {o : Obj} {Hh : Heap → Prop} (B : Begins v o Hh) : Meets (Builtin.«enumerate.__new__» ⟨[.type "enumerate", v], []⟩) (fun _ R s => Hh s.heap ∧
      R (.ok (.ret (.ref (s.heap.push o).objs.size))) { s with heap := (s.heap.push o).push { cls := .type "enumerate", data := .fields #[.none, .bool false, .ref s.heap.objs.size, rawInt 0, .none, .none] } }) :=
  .of_wp fun prog w A R s ⟨h1, h⟩ => by
    obtain ⟨hp, g, d, tk, os⟩ := s
    have hsub := sub_enumerate
    have it1 : ∀ {A' : Around} {E : Value → Shared → Prop} {Q : Value → Shared → Prop}, Q (.ref hp.objs.size) ⟨hp.push o, g, d, tk, os⟩ → wpAny (model prog w) A' (pyIter v) Q E ⟨hp, g, d, tk, os⟩ := fun z => B.iter prog w _ _ ⟨hp, g, d, tk, os⟩ _ h1 z
    wp_walk using it1
    refine wpAny_stack_any fun st => wpAny_pure ?_
    split
    · rename_i c _ _ _ _ _
      cases (c == Value.type "enumerate") <;> (wp_walk using it1; exact ⟨_, rfl, h⟩)
    · wp_walk using it1
      exact ⟨_, rfl, h⟩
theorem enum_call {prog : Program} {w : World} {A : Around} {E : Value → Shared → Prop} {s : Shared} {v : Value} {o : Obj} {Hh : Heap → Prop} {Q : Value → Shared → Prop} (B : Begins v o Hh) (h1 : Hh s.heap)
    (h : ∀ h', IsEnum h' (s.heap.objs.size + 1) s.heap.objs.size 0 .none → h'.get? s.heap.objs.size = some o → (∀ b x, s.heap.get? b = some x → h'.get? b = some x) → Q (.ref (s.heap.objs.size + 1)) { s with heap := h' }) :
    wpAny (model prog w) A (call (.type "enumerate") [v]) Q E s := by
  refine callType_new F.called_enumerate (by decide) (F.typeCall_enumerate_1 _) (F.newCall_enumerate_1 _) (fun obj => F.args_object_init_2 obj _) F.entry_enumerate_new (enumNew1 B) ⟨h1, ?_⟩
  have hz : (s.heap.push o).objs.size = s.heap.objs.size + 1 := Heap.size_push ..
  show _ ∧ _
  rw [hz]
  have he : IsEnum ((s.heap.push o).push { cls := .type "enumerate", data := .fields #[.none, .bool false, .ref s.heap.objs.size, rawInt 0, .none, .none] }) (s.heap.objs.size + 1) s.heap.objs.size 0 .none := by
    have k := Heap.get?_push_size (s.heap.push o) (o := { cls := .type "enumerate", data := .fields #[.none, .bool false, .ref s.heap.objs.size, rawInt 0, .none, .none] }) rfl
    rw [hz] at k
    exact k
  exact ⟨⟨_, he, rfl⟩, h _ he (Heap.get?_push_of_some _ (Heap.get?_push_size _ B.free)) fun b x z => Heap.get?_push_of_some _ (Heap.get?_push_of_some _ z)⟩
def IteT (K : PySem.W.Frag) (a : Addr) : It :=
  ⟨fun i H => ∃ (xs : List V) (x : V), SqT K H a xs ∧ xs[i]? = some x, fun i H v H' => ∃ T x, v = .ref T ∧ H T = none ∧ H' = upd H T (.tup [.int (i : Nat), x]) ∧ ∀ xs, SqT K H a xs → xs[i]? = some x, fun i H => ∃ xs : List V, SqT K H a xs ∧ xs.length ≤ i⟩
theorem tup_apart {X : Cx} {pins : List (Addr × Obj)} {σ : L2.St} {H : Hp} {s : Shared} {a it : Addr} {xs : List V} (I : L2.Inv X pins σ H s) (hq : SqT X.K H a xs) (hit : s.heap.IsTupleIter it a 0 ∨ ∃ i, s.heap.IsTupleIter it a i) : a ≠ it := by
  obtain ⟨its, rv, ⟨o, ho, hc, n, hd⟩, hz⟩ := I.tuple hq
  have hit : ∃ i, s.heap.IsTupleIter it a i := hit.elim (fun z => ⟨0, z⟩) id
  obtain ⟨i, o2, ho2, hc2, hd2⟩ := hit
  rintro rfl
  rw [ho] at ho2
  cases ho2
  rw [hd] at hd2
  cases hd2
theorem turn_enumT {P : Program} {w : World} {K : PySem.W.Frag} {elts : List Expr} {kk : Nat} {tpos : Pos} (a e it : Addr) :
    Turn P w K (.Tuple elts kk tpos) (IteT K a) [e, it] e (fun i h => (∃ old, IsEnum h e it ((i : Nat) : Int) old) ∧ h.IsTupleIter it a i ∧ e ≠ it) where
  mem := by simp
  obj := fun i h ⟨⟨old, he⟩, ⟨o, ho, hc, hd⟩, _⟩ b hb => by
    rcases (show b = e ∨ b = it by simpa using hb) with z | z
    · rw [z]; exact ⟨_, he, fun v q => nomatch q⟩
    · rw [z]; exact ⟨o, ho, fun v q => by rw [hd] at q; cases q⟩
  keep := fun i h h' ⟨⟨old, he⟩, hi, hne⟩ k => ⟨⟨old, k e (by simp) _ he⟩, hi.at fun o q => k it (by simp) o q, hne⟩
  item := by
    intro X hP hw hK hc i pins s σ H E I hf ⟨⟨old, he⟩, hit, hne⟩ ⟨xs, x, hq, hx⟩
    subst hP hw hK
    obtain ⟨its, rv, p, hz⟩ := I.tuple hq
    obtain ⟨u, hu, ru⟩ := rv.get hx
    have hea : e ≠ a := by
      rintro rfl
      obtain ⟨o, ho, hc2, n, hd⟩ := p
      have he : s.heap.get? e = some _ := he
      rw [he] at ho
      cases ho
      cases hd
    have hel : e < s.heap.objs.size := Heap.lt_size he
    have hil : it < s.heap.objs.size := by obtain ⟨_, q, _⟩ := hit; exact Heap.lt_size q
    have hlt : i < its.toArray.size := by
      rw [List.size_toArray]
      exact (List.getElem?_eq_some_iff.mp hu).1
    refine wpAny_pyNext_enum_itemD (Draws.tuple (by rw [show X.A.in1.handled = X.A.handled from rfl]; exact I.ok.hd hc) it a (tup_apart I hq (.inr ⟨i, hit⟩)) its.toArray) he ⟨hit, p⟩ hlt hne (by simp [hea, hne]) fun x' h' tk hx' ho hit' hT hsz hk => ?_
    obtain rfl : u = x' := by
      have hx' : its.toArray[i]? = some x' := hx'
      simp only [List.getElem?_toArray] at hx'
      rw [hu] at hx'
      exact Option.some.inj hx'
    refine ⟨_, rfl, wpAny_letOwnedTupleGo_enum (s := { s with heap := h', toks := tk + 1 }) ho fun h'' he' sb => ?_⟩
    have hT2 : h''.get? s.heap.objs.size = some { cls := .type "tuple", data := .seq #[.int i tk, u] } := (sb.2 _ (Nat.ne_of_gt hel)).trans hT
    have new : ObjOk X.prog X.w (upd H s.heap.objs.size (.tup [.int (i : Nat), x])) h'' s.heap.objs.size (.tup [.int (i : Nat), x]) :=
      ⟨by show 2 ≤ sizeLine; decide, [.int i tk, u], .cons ⟨_, rfl⟩ (.cons ru .nil), ⟨_, hT2, rfl, _, rfl⟩⟩
    have I1 : L2.Inv X pins σ (upd H s.heap.objs.size (.tup [.int (i : Nat), x])) { s with heap := h'', toks := tk + 1 } :=
      I.turnedNew (ch := [e, it]) (fun b ob hb q => (sb.2 b (fun z => hb (by simp [z]))).trans (hk b ob (fun z => hb (by simp [z])) (fun z => hb (by simp [z])) q)) hf (Nat.le_refl _) new
    refine ⟨.ref s.heap.objs.size, _, I1, rfl, ⟨_, x, rfl, I.hok.fresh (Nat.le_refl _), rfl, fun ys hy => by rw [I.tuple_inj hy hq]; exact hx⟩, ⟨⟨u, ?_⟩, hit'.1.at fun o q => (sb.2 it (Ne.symm hne)).trans q, hne⟩, fun b hb => ?_⟩
    · rw [show ((i + 1 : Nat) : Int) = (i : Int) + 1 by omega]
      exact he'
    · have hb' : b < s.heap.objs.size := by
        rcases (show b = e ∨ b = it by simpa using hb) with z | z
        · rw [z]; exact hel
        · rw [z]; exact hil
      rw [upd_ne (Nat.ne_of_lt hb')]
      exact (hf b hb).1
  done := by
    intro X hP hw hK hc i pins s σ H E I hf ⟨⟨old, he⟩, hit, hne⟩ ⟨xs, hq, hx⟩
    subst hP hw hK
    obtain ⟨its, rv, p, hz⟩ := I.tuple hq
    obtain ⟨f0, f1, f2, f3, f4, f5⟩ := hf it (by simp)
    have hT : s.TypeIs (.ref e) "enumerate" := ⟨_, he, rfl⟩
    have hl := rv.length
    unfold pyNext
    refine wpAny_bind (wpAny_attempt (wpAny_callSpecial?_slot (name := Str.ofString "__next__") hT F.slot_enumerate_next
      (wpAny_call_entry F.slot_enumerate_next hT F.entry_enumerate_next ?_ (F.args_enumerate_next_1 _))))
    show wpAny _ _ (field (.ref e) 2 >>= _) _ _ _
    refine wpAny_bind (wpAny_field he rfl (x := .ref it) rfl ?_)
    refine wpAny_bind (wpAny_nextOf_tuple_end (by rw [show X.A.in1.in1.handled = X.A.handled from rfl]; exact I.ok.hd hc) hit p (by simp; omega) fun h' x eb ⟨o, ho, hcl⟩ => ?_)
    refine wpAny_bind (wpAny_isInstance (T := "StopIteration") (b := true) ⟨o, ho, hcl⟩ isSubtype_stop ?_)
    exact wpAny_pure ⟨rfl, I.turned (t' := s.toks) (fun b o hb q => eb b o hb q) f0 f1 f3 f4 f5⟩
  self := fun A i s Q E ⟨⟨_, he⟩, _⟩ h => wpAny_pyIter_enum he h
theorem pi_enumT {X : Cx} {e : Expr} {ta : TA} {p pos tpos : Pos} {elts : List Expr} {kk : Nat} (hg : Gl X "enumerate") (hm : X.mg "enumerate" = none) (ha : PA X [e] ta) (hs : starEach [e] X.env = [(false, eval e X.env)] := by rfl) :
    PI X (.Tuple elts kk tpos) (.Call (.Name "enumerate" p) [e] [] pos) (fun σ H R => ta σ H fun vs H1 => ∃ a xs, vs = [.ref a] ∧ SqT X.K H1 a xs ∧ R (IteT X.K a) H1) := by
  refine ⟨fun pins s σ H R I h => ?_⟩
  refine Call_ (ld_blt I hg hm boot_enumerate (PyProof.Rows.callWith_type1 (thn (ha.run pos pins s σ H _ I h) fun us s1 ⟨vs, H1, I1, r1, a, xs, ex, hq, q⟩ => ?_) hs rfl))
  subst ex
  obtain ⟨u, rfl, ru⟩ := vals1 r1
  obtain rfl : u = Value.ref a := ru
  obtain ⟨its, rv, p', hz⟩ := I1.tuple hq
  refine enum_call (begins_tuple a its.toArray) p' fun h' he hit hk => wpAny_pyIter_enum he ?_
  refine ⟨s1.heap.objs.size + 1, [s1.heap.objs.size + 1, s1.heap.objs.size], _, _, H1, rfl, I1.kept (t' := s1.toks) hk, turn_enumT a (s1.heap.objs.size + 1) s1.heap.objs.size, ⟨⟨.none, he⟩, ⟨_, hit, rfl, rfl⟩, Nat.succ_ne_self _⟩, fun b hb => ?_, q⟩
  have hle : s1.heap.objs.size ≤ b := by
    rcases (show b = s1.heap.objs.size + 1 ∨ b = s1.heap.objs.size by simpa using hb) with z | z
    · rw [z]; exact Nat.le_add_right _ _
    · rw [z]; exact Nat.le_refl _
  exact I1.fpOk hle (I1.hok.fresh hle)
end Mi
namespace Mi
open PySem PySem.Spec PyProof.Rows L2
section
variable {K : PySem.W.Frag} {Ω : Om} {X : Cx} {W : WX} {Z ι : List Addr} {M : Mem} {H : Hp} {e e2 o a b c : Expr} {es : List Expr} {fa ga : AF} {f g fo h3 : EF} {pos p p2 kpos apos cpos p1 : Pos}
def opPlus : Op2 := fun M t u => match lstT M t, lstT M u with
  | some xs, some ys => bif big (xs ++ ys).length then some (.lst (xs ++ ys)) else none
  | _, _ => opAdd M t u
theorem op_plus : OpR X (binaryOp .Add) (fun x y H Q => rAdd3 X.K x y H Q ∨ rCat x y H Q) := op_add3.or op_cat
theorem opPlus_ok : OpS K Ω (fun x y H Q => rAdd3 K x y H Q ∨ rCat x y H Q) opPlus := fun Z ι M H t u v w z Q m r q h k => by
  unfold opPlus at h
  split at h
  · rename_i xs ys h1 h2
    cases zb : big (xs ++ ys).length with
    | false => rw [zb] at h; cases h
    | true =>
      rw [zb] at h
      cases h
      obtain ⟨p, vs, rfl, hp, rp⟩ := lstT_at m r h1
      obtain ⟨p', ws, rfl, hp', rp'⟩ := lstT_at m q h2
      refine .inr ⟨p, p', vs, ws, rfl, rfl, hp, hp', ?_, fun d hd => ?_⟩
      · have := big_ok zb
        rw [List.length_append, rp.length, rp'.length] at this
        exact this
      · exact k ι _ _ (m.lay hd) (Ext.new hd) (.lst upd_same ⟨m.notLive hd, m.notZ hd⟩ ((rp.append rp').ext (Ext.new hd)))
  · exact .inl (opAdd_ok Z ι M H t u v w z Q m r q h k)
def pSeq (n : Nat) (q : List T → TV → Mem → Option TV) : PF := fun t σ M => match seqT M t with
  | some ts => bif ts.length == n then q ts σ M else none
  | none => none
theorem L2PG.or {tg : Expr} {g1 g2 : TG} (h1 : PG X tg g1) (h2 : PG X tg g2) : PG X tg (fun v σ H Q => g1 v σ H Q ∨ g2 v σ H Q) := ⟨fun pins s σ H v u Q I r q => q.elim (h1.run pins s σ H v u Q I r) (h2.run pins s σ H v u Q I r)⟩
theorem pat_seq {n : Nat} {gs : TGs} {q : List T → TV → Mem → Option TV} {vs : List Nat} (h : PatsS K Ω gs q vs) : PatS K Ω (fun v σ H Q => gTup K n gs v σ H Q ∨ gUnl K n gs v σ H Q) (pSeq n q) vs := fun Z ι M H σT σ t v σT' Q m rv r e k => by
  unfold pSeq at e
  cases e1 : seqT M t with
  | none => rw [e1] at e; cases e
  | some ts =>
    rw [e1] at e
    have e : (bif ts.length == n then q ts σT M else none) = some σT' := e
    cases z : ts.length == n with
    | false => rw [z] at e; cases e
    | true =>
      rw [z] at e
      obtain ⟨a, xs, rfl, hs, rs⟩ := seqT_ok m r e1
      have hl : xs.length = n := by rw [← rs.length]; exact beq_iff_eq.mp z
      rcases hs with hs | hs
      · exact .inr ⟨a, xs, rfl, hs, hl, h Z ι M H σT σ ts xs σT' _ m rv rs e k⟩
      · exact .inl ⟨a, xs, rfl, hs, hl, h Z ι M H σT σ ts xs σT' _ m rv rs e k⟩
theorem pg_seq {es : List Expr} {k : Nat} {t : TGs} {n : Nat} (hc : X.calm = true) (h : PGs X es t) (hn : (assignEach es X.env).length = n := by rfl) (hst : (assignEach es X.env).findIdx? (·.1) = none := by rfl) :
    PG X (.Tuple es k pos) (fun v σ H Q => gTup X.K n t v σ H Q ∨ gUnl X.K n t v σ H Q) := L2PG.or (pg_tup hc h hn hst) (pg_unl hc h hn hst)
def enS (ts : List T) : Option (List T) := match ts with
  | [t] => (items t).map (enumT 0)
  | _ => none
theorem rit_enumT {Z ι : List Addr} {M : Mem} {H : Hp} {ts : List T} {a : Addr} {vs : List V} (h : SqT X.K H a vs) (r : Rs X.K Ω Z ι M H ts vs) : RIt X.K Ω Z ι M H (enumT 0 ts) (IteT X.K a) := fun Z' ι' M' H' m e g => by
  have h' : SqT X.K H' a vs := e.sqt h
  have r' := (r.grow g).ext e
  refine ⟨⟨vs, h', by rw [enumT_len, r.length]; exact Nat.le_refl _⟩, fun i t q => ?_⟩
  obtain ⟨u, hu, rfl⟩ := enumT_get q
  obtain ⟨v, hv, rv⟩ := r'.get hu
  refine ⟨⟨vs, v, h', hv⟩, fun x H2 y => ?_⟩
  obtain ⟨T', w, rfl, nT, rfl, y⟩ := y
  have := y vs h'
  rw [hv] at this
  cases this
  refine ⟨m.lay nT, Ext.new nT, .tup upd_same (.cons ?_ (.cons (rv.ext (Ext.new nT)) .nil))⟩
  rw [Nat.zero_add]
  exact .int _
theorem mi_enumS {tpos : Pos} {elts : List Expr} {kk : Nat} (hg : Gl X "enumerate") (hm : X.mg "enumerate" = none) (ha : MA X Ω W [e] fa) (hs : starEach [e] X.env = [(false, eval e X.env)] := by rfl) : MI X Ω W (.Tuple elts kk tpos) (.Call (.Name "enumerate" p) [e] [] pos) (iFun enS fa) := L2PI.imp (L2PI.or (pi_enum hg hm ha hs) (pi_enumT hg hm ha hs)) fun σ H Q ⟨Z, ι, M, σT, m, rv, q⟩ => by
  unfold iFun at q
  cases z : fa σT M with
  | err => rw [z] at q; exact q.elim
  | exc c t M1 => rw [z] at q; exact .inl ⟨Z, ι, M, σT, m, rv, by rw [z]; exact q⟩
  | ok ts M1 =>
    rw [z] at q
    match ts, q, z with
    | [.lst xs], q, z =>
      refine .inl ⟨Z, ι, M, σT, m, rv, ?_⟩
      rw [z]
      intro ι1 H1 vs m1 e1 r1
      cases r1 with
      | cons r1 r2 =>
        cases r2
        cases r1 with
        | lst hl hn rs => exact ⟨_, _, rfl, .inl (.inl hl), q ι1 H1 _ m1 e1 (rit_enum (.inl hl) hn rs)⟩
    | [.tup xs], q, z =>
      refine .inr ⟨Z, ι, M, σT, m, rv, ?_⟩
      rw [z]
      intro ι1 H1 vs m1 e1 r1
      cases r1 with
      | cons r1 r2 =>
        cases r2
        cases r1 with
        | tup ht rs => exact ⟨_, _, rfl, .of ht, q ι1 H1 _ m1 e1 (rit_enumT (.of ht) rs)⟩
    | [.ktup xs], q, z =>
      refine .inr ⟨Z, ι, M, σT, m, rv, ?_⟩
      rw [z]
      intro ι1 H1 vs m1 e1 r1
      cases r1 with
      | cons r1 r2 =>
        cases r2
        cases r1 with
        | ktup ht _ rs => exact ⟨_, _, rfl, ht, q ι1 H1 _ m1 e1 (rit_enumT ht rs)⟩
    | [], q, _ => exact q.elim
    | [.non], q, _ => exact q.elim
    | [.bl _], q, _ => exact q.elim
    | [.int _], q, _ => exact q.elim
    | [.str _], q, _ => exact q.elim
    | [.dct _ _], q, _ => exact q.elim
    | [.obj _ _], q, _ => exact q.elim
    | [.xob _ _], q, _ => exact q.elim
    | [.klst _], q, _ => exact q.elim
    | [.loc _], q, _ => exact q.elim
    | _ :: _ :: _, q, _ => exact q.elim
end
section
variable {X : Cx} {Ω : Om} {W : WX} {o a b : Expr} {fa : AF} {fo : EF}
end
end Mi
namespace Mi
open PySem PySem.Spec PyProof.Rows L2
section
variable {K : PySem.W.Frag} {Ω : Om} {X : Cx} {W : WX} {Z ι : List Addr} {M : Mem} {H : Hp} {e e2 o a b c value i : Expr} {st : Stmt} {es : List Expr} {fa ga : AF} {f g fo fi fv : EF} {pos p p2 kpos apos cpos p1 pos' : Pos}
def Res.or {α : Type} (r : Res α) (s : Res α) : Res α := match r with
  | .err => s
  | r => r
def eAlt (f g : EF) : EF := fun σ M => (f σ M).or (g σ M)
theorem L2PE.or {t t' : TE} (h : PE X e t) (h' : PE X e t') : PE X e (fun σ H Q => t σ H Q ∨ t' σ H Q) := ⟨fun pins s σ H Q I q => q.elim (h.run pins s σ H Q I) (h'.run pins s σ H Q I)⟩
theorem L2PT.or {t t' : TT} (h : PT X e t) (h' : PT X e t') : PT X e (fun σ H Q => t σ H Q ∨ t' σ H Q) := ⟨fun pins s σ H Q I q => q.elim (h.run pins s σ H Q I) (h'.run pins s σ H Q I)⟩
theorem L2PS.or {t t' : TS} (h : PS X st t) (h' : PS X st t') : PS X st (fun D σ H => t D σ H ∨ t' D σ H) := ⟨fun pins s σ H Q I q => q.elim (h.run pins s σ H Q I) (h'.run pins s σ H Q I)⟩
theorem me_alt (h : ME X Ω W e f) (h' : ME X Ω W e g) : ME X Ω W e (eAlt f g) := L2PE.imp (L2PE.or h h') fun σ H Q ⟨Z, ι, M, σT, m, rv, p⟩ => by
  unfold eAlt at p
  cases q : f σT M with
  | err => rw [q] at p; exact .inr ⟨Z, ι, M, σT, m, rv, p⟩
  | ok t M1 => rw [q] at p; exact .inl ⟨Z, ι, M, σT, m, rv, by rw [q]; exact p⟩
  | exc c t M1 => rw [q] at p; exact .inl ⟨Z, ι, M, σT, m, rv, by rw [q]; exact p⟩
def tupT : T → Option (List T)
  | .tup xs => some xs
  | .ktup xs => some xs
  | _ => none
theorem tupT_ok {t : T} {v : V} {ts : List T} (r : R K Ω Z ι M H t v) (h : tupT t = some ts) : ∃ a vs, v = .ref a ∧ SqT K H a vs ∧ Rs K Ω Z ι M H ts vs := by
  cases r with
  | tup q rs => cases h; exact ⟨_, _, rfl, .of q, rs⟩
  | ktup q _ rs => cases h; exact ⟨_, _, rfl, q, rs⟩
  | _ => cases h
def eNewD (tk : Bool) : EF := fun _ M => .ok (.loc M.length) (M ++ [.dct tk []])
theorem newObj_of {u : HO} {o : MO} {σT : TV} {σ : L2.St} {Q : VK} (m : RM K Ω Z ι M H) (ro : ∀ ι' M' H' p, H' p = some u → RO K Ω Z ι' M' H' o p) (p : Post K Ω (R K Ω) (fun c d H' => W c d σ H') Z ι M H Q (.ok (.loc M.length) (M ++ [o]))) {d : Addr} (hd : H d = none) : Q (.ref d) (upd H d u) := by
  have e1 : Ext (d :: Z) ι M (upd H d u) (ι ++ [d]) (M ++ [o]) (upd H d u) := Ext.push m.len
  have e2 : Ext [d] ι M (upd H d u) (ι ++ [d]) (M ++ [o]) (upd H d u) := Ext.push m.len
  refine p (ι ++ [d]) _ _ ((m.layH hd).push (m.notZ hd) fun _ => ro _ _ _ _ upd_same) (((Ext.new (Z := [d]) hd).trans e2).drop hd) (.loc ?_)
  rw [← m.len, List.getElem?_append_right (Nat.le_refl _), Nat.sub_self]
  rfl
theorem me_newDK : ME X Ω W (.Dict [] [] pos) (eNewD false) := L2PE.imp pe_dnewK fun σ H Q ⟨Z, ι, M, σT, m, rv, p⟩ d hd => newObj_of (W := W) (σT := σT) (σ := σ) m (fun ι' M' H' q hq => .dK (ws := []) hq .nil .nil) p hd
def sLput (fv fo fi : EF) : SF := fun σ M => (fv σ M).go σ fun v M1 => match (match fo σ M1 with
  | .ok t M2 => (match fi σ M2 with
    | .ok (.int i) M3 => (match locL M3 t with
      | some (n, xs) => (ixN xs.length i).map fun j => M3.set n (.lst (xs.set j v))
      | none => none)
    | _ => none)
  | _ => none : Option Mem) with
  | some M4 => some (.nx σ, M4)
  | none => none
theorem ms_lput (ho : ME X Ω W0 o fo) (hi : ME X Ω W0 i fi) (hv : ME X Ω W value fv) (hs : swapsWithSole [.Subscript o i pos'] value pos.line X.env = pure false := by rfl) (hw : swappedStores [.Subscript o i pos'] value X.env = pure none := by rfl)
    (ha : ∀ v, assign (.Subscript o i pos') X.env v = (do
      let ov ← holding [v] (eval o X.env)
      let iv ← holding [v, ov] (eval i X.env)
      standAt pos'
      holding [v, ov, iv] (setItem ov iv v)
      release [v, ov, iv] []) := by intro _; rfl) : MS X Ω W (.Assign [.Subscript o i pos'] value pos) (sLput fv fo fi) := L2PS.imp (ps_asg hv (pg_sub ho hi set_list ha) hs hw) fun D σ H ⟨Z, ι, M, σT, m0, rv, q⟩ => by
  refine ⟨Z, ι, M, σT, m0, rv, PostS.go q rv fun ι1 M1 H1 v y m1 e1 rv1 q1 p1 => ?_⟩
  refine ⟨Z, ι1, M1, σT, m1, rv1, ?_⟩
  cases z1 : fo σT M1 with
  | err => simp only [z1] at p1; exact p1.elim
  | exc _ _ _ => simp only [z1] at p1; exact p1.elim
  | ok t M2 =>
    simp only [z1] at p1
    intro ι2 H2 tv m2 e2 r2
    refine ⟨Z, ι2, M2, σT, m2, rv1.ext e2.any, ?_⟩
    cases z2 : fi σT M2 with
    | err => simp only [z2] at p1; exact p1.elim
    | exc _ _ _ => simp only [z2] at p1; exact p1.elim
    | ok u M3 =>
      simp only [z2] at p1
      intro ι3 H3 uv m3 e3 r3
      cases u with
      | int i =>
        cases r3
        simp only at p1
        cases z3 : locL M3 t with
        | none => simp only [z3] at p1; exact p1.elim
        | some w =>
          obtain ⟨n, xs⟩ := w
          simp only [z3] at p1
          cases z4 : ixN xs.length i with
          | none => simp only [z4] at p1; exact p1.elim
          | some j =>
            simp only [z4] at p1
            obtain ⟨a, ws, rfl, rfl, hn, hm, ha2, rx⟩ := locL_ok m3 (r2.ext (Z := Z) e3.any) z3
            have ry := (q1.ext (Z := Z) e2.any).ext (Z := Z) e3.any
            obtain ⟨m4, e4⟩ := put_list m3 hn hm ha2 (Rs.setI ry j rx)
            refine ⟨a, ws, i, j, rfl, rfl, ha2, by rw [← rx.length]; exact z4, ?_⟩
            exact p1 ι3 σ _ m4 ((e2.trans e3).trans (e4 [])) (((rv1.ext e2.any).ext e3.any).ext (e4 Z))
      | _ => exact p1.elim
def rgL1 (ts : List T) : Option (List T) := match ts with
  | [.int j] => bif decide (0 ≤ j) && decide (j ≤ 1000000) then some (rngT 0 j.toNat) else none
  | _ => none
theorem rs_rng {n : Nat} : ∀ lo : Int, Rs K Ω Z ι M H (rngT lo n) ((List.range n).map fun i => V.int (lo + (i : Nat))) := fun lo => by
  unfold rngT
  generalize List.range n = l
  induction l with
  | nil => exact .nil
  | cons a l ih => exact .cons (.int _) ih
def eLrg (f : EF) : AF := fun σ M => (f σ M).bind fun t M1 => .of (rgL1 [t]) M1
theorem ml_range1 (hc : X.calm = true) (hg : Gl X "list") (hm : X.mg "list" = none) (hg2 : Gl X "range") (hm2 : X.mg "range" = none) (ha : ME X Ω W a f) (na : starEach [a] X.env = (false, eval a X.env) :: starEach [] X.env := by rfl)
    (na2 : starEach [Expr.Call (.Name "range" p2) [a] [] p1] X.env = (false, eval (Expr.Call (.Name "range" p2) [a] [] p1) X.env) :: starEach [] X.env := by rfl) :
    ML X Ω W (.Call (.Name "list" p) [.Call (.Name "range" p2) [a] [] p1] [] pos) (eLrg f) := L2PE.imp (pe_listRg hc hg hm (prg_1 hg2 hm2 ha na) na2) fun σ H Q ⟨Z, ι, M, σT, m, rv, q⟩ => by
  refine ⟨Z, ι, M, σT, m, rv, ?_⟩
  unfold eLrg at q
  cases z : f σT M with
  | err => rw [z] at q; exact q.elim
  | exc c t M1 => rw [z] at q; exact q
  | ok t M1 =>
    rw [z] at q
    intro ι1 H1 v m1 e1 r1
    cases y : rgL1 [t] with
    | none => simp only [Res.bind, y] at q; exact q.elim
    | some zs =>
      simp only [Res.bind, y] at q
      unfold rgL1 at y
      split at y
      · rename_i t' j e
        cases e
        cases r1
        cases w : decide (0 ≤ j) && decide (j ≤ 1000000) with
        | false => rw [w] at y; cases y
        | true =>
          rw [w] at y
          cases y
          rw [Bool.and_eq_true, decide_eq_true_eq, decide_eq_true_eq] at w
          refine ⟨j, rfl, .of_le (Int.le_refl 0) (by omega) (by omega) w.1, fun d hd => laid_of (σ := σ) m1 e1 q hd ?_⟩
          have := rs_rng (K := X.K) (Ω := Ω) (Z := Z) (ι := ι1) (M := M1) (H := H1) (n := j.toNat) 0
          unfold rgV
          rw [Int.sub_zero]
          exact this
      · cases y
end
end Mi
namespace Mi
open PySem PySem.Spec PyProof.Rows L2
section
variable {X : Cx} {Ω : Om} {W : WX} {kx vx iter tg : Expr} {fk f : EF} {c : TF} {it : AF} {pos : Pos} {ifs : List Expr} {scope : Scope} {own : List (Str × Nat)} {gt : TG} {pf : PF} {vs : List Nat}
end
end Mi
namespace Mi
open PySem PySem.Spec PyProof.Rows L2
section
variable {fa : List He.Fa} {fn : List DefM} {ck : List Ck} {K : PySem.W.Frag}
theorem SaysM.all (c : SaysM fa fn ck K) : ((fa.all fun f => f.ok K) && (fn.all fun d => d.ok K) && ck.all fun c => c K) = true := congrArg (fun z : AlM => z.1) c
theorem SaysM.fact (c : SaysM fa fn ck K) (i : Nat) {f : He.Fa} (h : fa[i]? = some f := by rfl) : f.ok K = true := List.all_eq_true.mp (He.ba (He.ba c.all).1).1 f (List.mem_of_getElem? h)
theorem SaysM.chk (c : SaysM fa fn ck K) (i : Nat) {f : Ck} (h : ck[i]? = some f := by rfl) : f K = true := List.all_eq_true.mp (He.ba c.all).2 f (List.mem_of_getElem? h)
theorem SaysM.def_ (c : SaysM fa fn ck K) (i : Nat) {d : DefM} (h : fn[i]? = some d := by rfl) : ∃ fd, FunD K d.name d.qual d.params d.body d.scope (d.dfl.map (He.Dv.v K)) [] (d.adr K) fd := by
  have e : fn.map (fun d => fnWM K (d.adr K)) = fn.map DefM.val := congrArg (fun z : AlM => z.2) c
  have e2 : (fn.map fun d => fnWM K (d.adr K))[i]? = (fn.map DefM.val)[i]? := congrArg (fun z => z[i]?) e
  rw [List.getElem?_map, List.getElem?_map, h] at e2
  exact DefM.funD (Option.some.inj e2) (List.all_eq_true.mp (He.ba (He.ba c.all).1).2 d (List.mem_of_getElem? h))
end
structure Gf (fa : List He.Fa) (fn : List DefM) (ck : List Ck) (K : PySem.W.Frag) (mg : Str → Option Value) : Prop where
  ex : ∃ h : Heap, K.In h ∧ h.Ns mainGlobals mg ∧ SaysM fa fn ck K
section
variable {fa : List He.Fa} {fn : List DefM} {ck : List Ck} {K : PySem.W.Frag} {mg : Str → Option Value}
theorem Gf.says (g : Gf fa fn ck K mg) : SaysM fa fn ck K := let ⟨_, _, _, c⟩ := g.ex; c
theorem Gf.free (g : Gf fa fn ck K mg) (i : Nat) {x : Str} (h : fa[i]? = some (.free x) := by rfl) : mg x = none := let ⟨_, X, G, c⟩ := g.ex; He.free_ok X G (c.fact i h)
theorem Gf.glo (g : Gf fa fn ck K mg) (i : Nat) {x : Str} (h : fa[i]? = some (.glo x) := by rfl) : mg x = some (.ref (He.ga K x)) := let ⟨_, X, G, c⟩ := g.ex; He.glo_ok X G (c.fact i h)
theorem Gf.int (g : Gf fa fn ck K mg) (i : Nat) {x : Str} {n : Int} (h : fa[i]? = some (.int x n) := by rfl) : ∃ t, mg x = some (.int n t) := let ⟨_, X, G, c⟩ := g.ex; He.int_ok X G (c.fact i h)
theorem Gf.str (g : Gf fa fn ck K mg) (i : Nat) {x z : Str} (h : fa[i]? = some (.str x z) := by rfl) : ∃ t, mg x = some (.str z t) := let ⟨_, X, G, c⟩ := g.ex; He.str_ok X G (c.fact i h)
theorem Gf.cls (g : Gf fa fn ck K mg) (i : Nat) {x : Str} (h : fa[i]? = some (.cls x) := by rfl) : Cls K (He.ga K x) := He.cls_ok (g.says.fact i h)
theorem Gf.def_ (g : Gf fa fn ck K mg) (i : Nat) {d : DefM} (h : fn[i]? = some d := by rfl) : ∃ fd, FunD K d.name d.qual d.params d.body d.scope (d.dfl.map (He.Dv.v K)) [] (d.adr K) fd := g.says.def_ i h
variable {P : Program} {w : World} {base : Heap} {Ω : Om} {k : Nat} {N ps : List Str} {b : SF}
abbrev BndL (K : PySem.W.Frag) (fd : FuncData) (ps : List Str) (Ω : Om) (dts : List T) : Prop := ∀ j ≤ dts.length, ∃ (ds : List Value) (dvs : List V), Binds K fd ps ds ∧ Vals dvs ds ∧ ∀ Z ι M H, Rs K Ω Z ι M H (dts.drop j) dvs
theorem fnOk_of {x qual : Str} {params : Arguments} {body : List Stmt} {scope : Scope} {dvs : List V} {kws : List (Str × V)} {f : Addr} {fd : FuncData} (F : FunD K x qual params body scope dvs kws f fd) (S : FnScope N ps scope) (hb : BodyS P w K mg base Ω k N scope body b) : FnOk P w K mg base (L2.CX P w) (k + 1) f fd ps (spF K Ω ps.length (runB N.length b)) :=
  F.ok S (fun vs H Q E ⟨Z, ι, M, ts, m, rs, hl, _⟩ => by rw [← rs.length]; exact hl) fun cdv A outer s H vs Q E hr h => body_ok (k := 0) (hb qual f cdv A outer s H E hr) h
theorem bndN {x qual : Str} {params : Arguments} {body : List Stmt} {scope : Scope} {f : Addr} {fd : FuncData} (F : FunD K x qual params body scope [] [] f fd)
    (h : ∀ (kV doc pm : Value) (an : Option Addr) (cdv ct : Value) (us : List Value), us.length = ps.length → bindArgs (PySem.W.fnOf x qual params body scope .none kV doc pm an cdv ct) ⟨us, []⟩ = pure (ps.zip us)) : BndL K fd ps Ω [] := fun j _ => ⟨[], [], F.bindsN h, .nil, fun _ _ _ _ => by rw [List.drop_nil]; exact .nil⟩
end
end Mi
namespace Mi
open PySem PySem.Spec PyProof.Rows L2
section
variable {X : Cx} {Ω : Om} {W : WX} {elt iter tg : Expr} {f : EF} {fa : AF} {c : TF} {it : AF} {pos spos py : Pos} {ifs : List Expr} {scope : Scope} {own : List (Str × Nat)} {gt : TG} {pf : PF} {vs : List Nat} {i : Nat} {y : Str}
theorem takes0 : Takes X W0 := fun _ _ ⟨_, _, _, _, _, _, _, _, _, _, _, _, _, _, _, _, h⟩ => h.elim
theorem set_of {g : EF} {D : L2.Ends} {σ : L2.St} {H : Hp} (q : liftS X.K Ω W (sSet i g) D σ H) : liftE X.K Ω W g σ H fun x H1 => D.nx (σ.set i (some x)) H1 := by
  obtain ⟨Z, ι, M, σT, m, rv, p⟩ := q
  exact ⟨Z, ι, M, σT, m, rv, PostS.go p rv fun ι1 M1 H1 t v m1 e1 rv1 q1 p1 => p1.nx m1 (rv1.set i q1)⟩
theorem ms_lcF (hc : X.calm = true) (hN : X.N.Nodup) (hy : X.N[i]? = some y) (hyl : X.env.scope.names.lookup y = some .local) (hi : MI X Ω W tg iter it) (ok : BlkOk X.N X.env.scope scope own) (hp : PatS X.K Ω gt pf vs) (hv : ∀ i ∈ vs, i ∈ own.map (·.2))
    (hg : ∀ (s : Shared) (H : Hp) (C : Addr) (cl : List (Str × Addr)) (fp : List Addr), PG (X.blk s H scope (compEnvC scope cl C X.env) fp) tg gt)
    (ht : ∀ (s : Shared) (H : Hp) (C : Addr) (cl : List (Str × Addr)) (fp : List Addr), MTs (X.blk s H scope (compEnvC scope cl C X.env) fp) Ω W0 ifs c)
    (he : ∀ (s : Shared) (H : Hp) (C : Addr) (cl : List (Str × Addr)) (fp : List Addr), ME (X.blk s H scope (compEnvC scope cl C X.env) fp) Ω W0 elt f)
    (hsw : swapsWith (.ListComp elt [⟨tg, iter, ifs, 0⟩] scope pos) (some (.Name y py)) spos.line X.env = pure true := by rfl) (hs : ∀ x, foldedSetIterable iter X.env x = pure x := by intro _; rfl) :
    MS X Ω W (.Assign [.Name y py] (.ListComp elt [⟨tg, iter, ifs, 0⟩] scope pos) spos) (sSet i (eFroz (eLc (own.map (·.2)) pf it c f))) :=
  L2PS.imp (ps_setLc (tt := liftT X.K Ω W0 c) (te := liftE X.K Ω W0 f) hc hN hy hyl hsw hi ok hg ht he hs) fun D σ H q => lc_of hp hv (froz_of (set_of q))
end
end Mi
namespace Mi
open PySem PySem.Spec PyProof.Rows L2
section
variable {X : Cx} {Ω : Om} {W : WX} {e tg : Expr} {f : EF}
end
section
variable {X : Cx} {Ω : Om} {W : WX} {elt iter tg : Expr} {f : EF} {c : TF} {it : TV → Mem → Res Nat} {pos : Pos} {ifs : List Expr} {scope : Scope} {own : List (Str × Nat)} {gt : TG} {pf : PF} {vs : List Nat}
end
end Mi
namespace Mi
open PySem PySem.Spec PyProof.Rows L2
theorem Gf.keep {fa : List He.Fa} {fn : List DefM} {ck : List Ck} {K : PySem.W.Frag} {mg : Str → Option Value} (g : Gf fa fn ck K mg) (i : Nat) {x : Str} (h : fa[i]? = some (.keep x) := by rfl) : PySem.W.keepIn K (.ref (He.ga K x)) = true := He.keep_ok (g.says.fact i h)
section
variable {P : Program} {w : World} {K : PySem.W.Frag} {mg : Str → Option Value} {base : Heap} {Ω : Om} {k n : Nat} {ps : List Str} {F : FF} {f : Addr} {fd : FuncData} {dts : List T} {x m : Str} {c : Nat}
theorem gFn (hl : ps.length = n) (gm : mg x = some (.ref f)) (kp : PySem.W.keepIn K (.ref f) = true) (ok : FnOk P w K mg base (L2.CX P w) k f fd ps (spF K Ω n F)) (bd : BndL K fd ps Ω dts) : FnG P w K mg base Ω x k n dts F := ⟨f, fd, ps, gm, kp, hl, ok, bd⟩
end
theorem blkOk {N : List Str} {sc scope : Scope} {own : List (Str × Nat)} (h : decide (scope.kind = .function ∧ (∀ y ∈ scope.names, scope.names.lookup y.1 = some y.2) ∧ (∀ p ∈ own, N[p.2]? = some p.1) ∧
    (∀ y ∈ scope.names, y.2 = .free → sc.names.lookup y.1 = some .cell ∨ sc.names.lookup y.1 = some .free) ∧ ∀ y ∈ scope.names, y.2 = .local ∨ y.2 = .cell → y.1 ∈ own.map (·.1) ∨ y.1 ∉ N) = true) : BlkOk N sc scope own :=
  let ⟨a, b, c, d, e⟩ := of_decide_eq_true h
  ⟨a, b, c, d, e⟩
section
variable {fa : List He.Fa} {fn : List DefM} {ck : List Ck} {X : Cx} {Ω : Om} {W : WX} {x : Str} {zs : List Str} {ys : List (List Nat)} {pos apos cpos : Pos} {e : Expr} {f : AF}
end
structure Rho where
  rho : Nat → List Nat
  rne : ∀ c, rho c ≠ []
  rle : ∀ c, (rho c).length ≤ 8
  rch : ∀ c x, x ∈ rho c → 97 ≤ x ∧ x ≤ 122
  raw : ∀ c, rho c ∉ awayW
  rij : ∀ i j, i < symN → j < symN → rho (symB + i) = rho (symB + j) → i = j
theorem un65 {k : Nat} {A : Around} (r : Room k A) : A.units + 65 < cLine := by have := r.un; omega
theorem un64 {k : Nat} {A : Around} (r : Room k A) : A.units + 64 < cLine := by have := r.un; omega
section
variable {K : PySem.W.Frag} {Ω : Om} {X : Cx} {W : WX} {e : Expr} {f g : AF}
end
end Mi
namespace Mi
open PySem PySem.Spec PyProof.Rows L2
def itemsS (t : T) : Option (List T) := match t with
  | .str x => bif ground x then some (x.map fun c => .str [c]) else none
  | t => items t
def iSeqS (f : EF) : AF := fun σ M => (f σ M).bind fun t M1 => .of (itemsS t) M1
section
variable {X : Cx} {Ω : Om} {W : WX} {e tg : Expr} {f : EF}
theorem rit_str {Z ι : List Addr} {M : Mem} {H : Hp} {x : List Nat} {s : Str} (g : ground x = true) (h : s.cps.toList = x) : RIt X.K Ω Z ι M H (x.map fun c => T.str [c]) (Its s) := fun Z' ι' M' H' m e g' => by
  have hs : s.cps.size = x.length := by rw [← h, Array.length_toList]
  refine ⟨by show s.cps.size ≤ _; rw [List.length_map, hs]; exact Nat.le_refl _, fun i t q => ?_⟩
  rw [List.getElem?_map] at q
  cases hx : x[i]? with
  | none => rw [hx] at q; cases q
  | some c =>
    rw [hx] at q
    cases q
    have hi : i < x.length := (List.getElem?_eq_some_iff.mp hx).1
    refine ⟨by show i < s.cps.size; rw [hs]; exact hi, fun v H2 ⟨e1, c', hc, ev⟩ => ?_⟩
    subst e1 ev
    have hc2 : x[i]? = some c' := by rw [← h, Array.getElem?_toList]; exact hc
    rw [hx] at hc2
    cases hc2
    have gc : c < symB := by
      unfold ground at g
      exact of_decide_eq_true (List.all_eq_true.mp g c (List.mem_of_getElem? hx))
    refine ⟨m, Ext.refl, .str _ _ ?_ (by simp)⟩
    rw [spell_ground (by unfold ground; simp [gc])]
theorem mi_seqS (he : ME X Ω W e f) : MI X Ω W tg e (iSeqS f) := L2PI.imp (L2PI.or (pi_str he) (mi_seq he)) fun σ H Q ⟨Z, ι, M, σT, m, rv, p⟩ => by
  unfold iSeqS at p
  cases q : f σT M with
  | err => rw [q] at p; exact p.elim
  | exc c t M1 => rw [q] at p; exact .inl ⟨Z, ι, M, σT, m, rv, by rw [q]; exact p⟩
  | ok t M1 =>
    rw [q] at p
    have other : itemsS t = items t → lift X.K Ω (RIt X.K Ω) W (iSeq f) σ H Q := fun h => ⟨Z, ι, M, σT, m, rv, by
      unfold iSeq
      rw [q]
      have p : Post X.K Ω (RIt X.K Ω) (fun c d H' => W c d σ H') Z ι M H Q (.of (itemsS t) M1) := p
      rw [h] at p
      exact p⟩
    cases t with
    | str x =>
      refine .inl ⟨Z, ι, M, σT, m, rv, ?_⟩
      rw [q]
      intro ι1 H1 v m1 e1 r1
      have p : Post X.K Ω (RIt X.K Ω) (fun c d H' => W c d σ H') Z ι M H Q (.of (bif ground x then some (x.map fun c => T.str [c]) else none) M1) := p
      cases g : ground x with
      | false => rw [g] at p; exact p.elim
      | true =>
        rw [g] at p
        cases r1 with
        | str _ s hs hl => exact ⟨s, rfl, p ι1 H1 _ m1 e1 (rit_str g (by rw [spell_ground g] at hs; exact hs))⟩
    | _ => exact .inr (other rfl)
end
end Mi
namespace Mi
open PySem PySem.Spec PyProof.Rows L2
def extraW : List (List Nat) := (List.range 16).map fun j => [113, 113, 113, 97 + j]
def okW (n : Nat) (ws : List (List Nat)) : Bool := decide (ws.length = n) && ws.all mayBe && decide (ws ++ extraW).Nodup && decide (n ≤ symN)
theorem letters_ok {x : List Nat} (h : letters x = true) : x ≠ [] ∧ x.length ≤ 8 ∧ (∀ c ∈ x, 97 ≤ c ∧ c ≤ 122) ∧ ground x = true := by
  unfold letters at h
  rw [Bool.and_eq_true, Bool.and_eq_true, decide_eq_true_eq] at h
  have h3 : ∀ c ∈ x, 97 ≤ c ∧ c ≤ 122 := fun c hc => by
    have := List.all_eq_true.mp h.2 c hc
    rw [Bool.and_eq_true, decide_eq_true_eq, decide_eq_true_eq] at this
    exact this
  refine ⟨fun z => ?_, h.1.2, h3, ?_⟩
  · have := h.1.1
    rw [z] at this
    cases this
  · unfold ground
    refine List.all_eq_true.mpr fun c hc => decide_eq_true ?_
    have := h3 c hc
    unfold symB
    omega
def rhoW (ws : List (List Nat)) (c : Nat) : List Nat := ((ws ++ extraW)[c - symB]?).getD [97]
theorem rhoW_may {n : Nat} {ws : List (List Nat)} (h : okW n ws = true) (c : Nat) : mayBe (rhoW ws c) = true := by
  unfold okW at h
  rw [Bool.and_eq_true, Bool.and_eq_true, Bool.and_eq_true] at h
  unfold rhoW
  cases e : (ws ++ extraW)[c - symB]? with
  | none => decide
  | some w =>
    have hm := List.mem_of_getElem? e
    rcases List.mem_append.mp hm with hm | hm
    · exact List.all_eq_true.mp h.1.1.2 w hm
    · have : extraW.all mayBe = true := by decide
      exact List.all_eq_true.mp this w hm
theorem may_letters {x : List Nat} (h : mayBe x = true) : letters x = true := (Bool.and_eq_true_iff.mp h).1
theorem rhoW_letters {n : Nat} {ws : List (List Nat)} (h : okW n ws = true) (c : Nat) : letters (rhoW ws c) = true := may_letters (rhoW_may h c)
def rhoOf {n : Nat} {ws : List (List Nat)} (h : okW n ws = true) : Rho where
  rho := rhoW ws
  rne := fun c => (letters_ok (rhoW_letters h c)).1
  rle := fun c => (letters_ok (rhoW_letters h c)).2.1
  rch := fun c x hx => (letters_ok (rhoW_letters h c)).2.2.1 x hx
  raw := fun c hm => by
    have h2 := (Bool.and_eq_true_iff.mp (rhoW_may h c)).2
    rw [List.contains_iff_mem.mpr hm] at h2
    cases h2
  rij := fun i j hi hj e => by
    have nd : (ws ++ extraW).Nodup := by
      unfold okW at h
      rw [Bool.and_eq_true, Bool.and_eq_true] at h
      exact of_decide_eq_true h.1.2
    have hl : (16 : Nat) ≤ (ws ++ extraW).length := by rw [List.length_append]; show 16 ≤ ws.length + 16; omega
    unfold symN at hi hj
    unfold rhoW at e
    rw [show symB + i - symB = i by omega, show symB + j - symB = j by omega, List.getElem?_eq_getElem (by omega), List.getElem?_eq_getElem (by omega)] at e
    have pw := List.pairwise_iff_getElem.mp nd
    rcases Nat.lt_trichotomy i j with h | h | h
    · exact absurd e (pw i j (by omega) (by omega) h)
    · exact h
    · exact absurd e.symm (pw j i (by omega) (by omega) h)
section
variable {P : Program} {w : World} {K : PySem.W.Frag} {mg : Str → Option Value} {base : Heap} {om : Rho → Om} {ρ : Rho} {k i nw L : Nat} {N ps : List Str} {b1 b2 : SF}
end
end Mi
namespace Mi
end Mi
namespace K00
open PySem PySem.Spec PyProof.Rows L2 Mi
def flds : Nat → List Str := fun c => match c with | 0 => ["value"] | 1 => ["value"] | 2 => ["value"] | 3 => ["value"] | 4 => ["value"] | 5 => ["value"] | 6 => ["value"] | 7 => ["value"] | 8 => ["value"] | 9 => ["value"] | 10 => ["value"] | 11 => ["value"] | 12 => ["value"] | 13 => ["value"] | 14 => ["value"] | 15 => ["value"] | 16 => ["value"] | 17 => ["value"] | 18 => ["value"] | 19 => ["value"] | 20 => ["value"] | 21 => ["value"] | 22 => ["value"] | 23 => ["value"] | 24 => ["value"] | _ => []
def omOf (K : PySem.W.Frag) (ρ : Rho) : Om := { ρ with cls := fun c => match c with | 0 => He.ga K "NeedError" | 1 => He.ga K "BadBook" | 2 => He.ga K "NoWork" | 3 => He.ga K "BadHour" | 4 => He.ga K "BadNeed" | 5 => He.ga K "Full" | 6 => He.ga K "NoNeed" | 7 => He.ga K "NoDue" | 8 => He.ga K "BadHands" | 9 => He.ga K "Apart" | 10 => He.ga K "BadDone" | 11 => He.ga K "BadPlan" | 12 => He.ga K "BadBar" | 13 => He.ga K "NoPlan" | 14 => He.ga K "BadOffers" | 15 => He.ga K "BadLot" | 16 => He.ga K "Done" | 17 => He.ga K "Early" | 18 => He.ga K "Hands" | 19 => He.ga K "Behind" | 20 => He.ga K "NothingToUndo" | 21 => He.ga K "NothingToRedo" | 22 => He.ga K "NoTrial" | 23 => He.ga K "BadJournal" | 24 => He.ga K "BadLine" | _ => 0, fld := flds, tabs := tabl tbs K }
end K00
namespace Mi
open PySem L2
section
variable {σ : TV} {M M1 M2 M3 : Mem} {t u z : T} {ts us : List T} {f g h : EF} {fa : AF} {c : TF} {s s1 s2 : SF} {i j k : Nat} {fl : Fl} {b : Bool} {op : Op2} {a : Int} {r : Option (Fl × Mem)}
theorem eC_ok : eC t σ M = .ok t M := rfl
theorem eVar_ok (h : σ[i]? = some (some t)) : eVar i σ M = .ok t M := by unfold eVar; rw [h]
theorem eOp_ok (h1 : f σ M = .ok t M1) (h2 : g σ M1 = .ok u M2) (h3 : op M2 t u = some z) : eOp op f g σ M = .ok z M2 := by unfold eOp; rw [h1]; show (g σ M1).bind _ = _; rw [h2]; show Res.of (op M2 t u) M2 = _; rw [h3]; rfl
theorem aNil_ok : aNil σ M = .ok [] M := rfl
theorem aCons_ok (h1 : f σ M = .ok t M1) (h2 : fa σ M1 = .ok ts M2) : aCons f fa σ M = .ok (t :: ts) M2 := by unfold aCons; rw [h1]; show (fa σ M1).bind _ = _; rw [h2]; rfl
theorem eBi_ok {o : OpN} (h1 : fa σ M = .ok ts M1) (h2 : o M1 ts = some z) : eBi o fa σ M = .ok z M1 := by unfold eBi; rw [h1]; show Res.of (o M1 ts) M1 = _; rw [h2]; rfl
theorem eLst_ok (h1 : fa σ M = .ok ts M1) (h2 : big ts.length = true) : eLst fa σ M = .ok ts M1 := by unfold eLst; rw [h1]; show (bif big ts.length then _ else _) = _; rw [h2]; rfl
theorem eFroz_ok (h1 : fa σ M = .ok ts M1) : eFroz fa σ M = .ok (.lst ts) M1 := by unfold eFroz; rw [h1]; rfl
theorem eNewL_ok (h1 : fa σ M = .ok ts M1) : eNewL fa σ M = .ok (.loc M1.length) (M1 ++ [.lst ts]) := by unfold eNewL; rw [h1]; rfl
theorem eCall_ok {n : Nat} {F : FF} {ds : List T} (h1 : fa σ M = .ok ts M1) (h2 : ((ts ++ ds).length == n) = true) (h3 : F (ts ++ ds) M1 = .ok z M2) : eCall n F ds fa σ M = .ok z M2 := by unfold eCall; rw [h1]; show (bif (ts ++ ds).length == n then _ else _) = _; rw [h2]; exact h3
theorem eMt_ok {ty : Mem → T → Bool} {o : OpM} (h1 : f σ M = .ok t M1) (h2 : ty M1 t = true) (h3 : fa σ M1 = .ok ts M2) (h4 : o M2 t ts = some (z, M3)) : eMt ty o f fa σ M = .ok z M3 := by unfold eMt; rw [h1]; show (bif ty M1 t then _ else _) = _; rw [h2]; show (fa σ M1).bind _ = _; rw [h3]; show (match o M2 t ts with | some (z, M3) => Res.ok z M3 | none => .err) = _; rw [h4]
theorem tVal_ok (h1 : f σ M = .ok (.bl b) M1) : tVal f σ M = .ok b M1 := by unfold tVal; rw [h1]; rfl
theorem eIf_t (h1 : c σ M = .ok true M1) (h2 : f σ M1 = .ok t M2) : eIf c f g σ M = .ok t M2 := by unfold eIf; rw [h1]; exact h2
theorem eIf_f (h1 : c σ M = .ok false M1) (h2 : g σ M1 = .ok t M2) : eIf c f g σ M = .ok t M2 := by unfold eIf; rw [h1]; exact h2
theorem sRet_ok (h1 : f σ M = .ok t M1) : sRet f σ M = some (.rt t, M1) := by unfold sRet; rw [h1]; rfl
theorem sSet_ok (h1 : f σ M = .ok t M1) : sSet i f σ M = some (.nx (σ.set i (some t)), M1) := by unfold sSet; rw [h1]; rfl
theorem sExpr_ok (h1 : f σ M = .ok t M1) : sExpr f σ M = some (.nx σ, M1) := by unfold sExpr; rw [h1]; rfl
theorem sNil_ok : sNil σ M = some (.nx σ, M) := rfl
theorem sSeq_nx {σ1 : TV} (h1 : s1 σ M = some (.nx σ1, M1)) (h2 : s2 σ1 M1 = r) : sSeq s1 s2 σ M = r := by unfold sSeq; rw [h1]; exact h2
theorem sSeq_rt (h1 : s1 σ M = some (.rt t, M1)) : sSeq s1 s2 σ M = some (.rt t, M1) := by unfold sSeq; rw [h1]
theorem sIf_t (h1 : c σ M = .ok true M1) (h2 : s1 σ M1 = r) : sIf c s1 s2 σ M = r := by unfold sIf; rw [h1]; exact h2
theorem sIf_f (h1 : c σ M = .ok false M1) (h2 : s2 σ M1 = r) : sIf c s1 s2 σ M = r := by unfold sIf; rw [h1]; exact h2
theorem sLput_ok {fv fo fi : EF} {n p : Nat} {xs : List T} (h1 : fv σ M = .ok t M1) (h2 : fo σ M1 = .ok (.loc n) M2) (h3 : fi σ M2 = .ok (.int a) M3) (h4 : M3[n]? = some (.lst xs)) (h5 : ixN xs.length a = some p) : sLput fv fo fi σ M = some (.nx σ, M3.set n (.lst (xs.set p t))) := by
  unfold sLput
  rw [h1]
  have e : locL M3 (.loc n) = some (n, xs) := by
    show (match M3[n]? with | some (.lst ts) => some (n, ts) | _ => none) = _
    rw [h4]
  simp only [Res.go, h2, h3, e, h5, Option.map_some]
theorem runB_rt {n : Nat} (h1 : s (ts.map some ++ List.replicate (n - ts.length) none) M = some (.rt t, M1)) : runB n s ts M = .ok t M1 := by unfold runB; rw [h1]
theorem sFor_ok {p : PF} {it : AF} (h1 : it σ M = .ok ts M1) (h2 : forL p s ts σ M1 = r) : sFor p it s σ M = r := by unfold sFor; rw [h1]; exact h2
theorem iFun_ok {o : List T → Option (List T)} (h1 : fa σ M = .ok ts M1) (h2 : o ts = some us) : iFun o fa σ M = .ok us M1 := by unfold iFun; rw [h1]; show Res.of (o ts) M1 = _; rw [h2]; rfl
theorem iSeqS_ok (h1 : f σ M = .ok t M1) (h2 : itemsS t = some us) : iSeqS f σ M = .ok us M1 := by unfold iSeqS; rw [h1]; show Res.of (itemsS t) M1 = _; rw [h2]; rfl
theorem eLc_ok {own : List Nat} {p : PF} {it : AF} (h1 : it σ M = .ok ts M1) (h2 : big ts.length = true) (h3 : compL p c f (wipeT σ own) ts [] M1 = .ok us M2) : eLc own p it c f σ M = .ok us M2 := by unfold eLc; rw [h1]; show (bif big ts.length then _ else _) = _; rw [h2]; exact h3
theorem opMul_r {i j : Int} (h : -(2 ^ 64) < j ∧ j < 2 ^ 64) : opMul M (.int i) (.int j) = some (.int (i * j)) := by
  show (bif decide (-(2 ^ 64) < j) && decide (j < 2 ^ 64) || decide (-(2 ^ 64) < i) && decide (i < 2 ^ 64) then some (T.int (i * j)) else none) = _
  rw [decide_eq_true h.1, decide_eq_true h.2]
  rfl
theorem opMul_l {i j : Int} (h : -(2 ^ 64) < i ∧ i < 2 ^ 64) : opMul M (.int i) (.int j) = some (.int (i * j)) := by
  show (bif decide (-(2 ^ 64) < j) && decide (j < 2 ^ 64) || decide (-(2 ^ 64) < i) && decide (i < 2 ^ 64) then some (T.int (i * j)) else none) = _
  rw [decide_eq_true h.1, decide_eq_true h.2, Bool.and_self, Bool.or_true]
  rfl
theorem opMod_p {i j : Int} (h : 0 < j) : opMod M (.int i) (.int j) = some (.int (i % j)) := by
  show (bif decide (0 < j) then some (T.int (i % j)) else none) = _
  rw [decide_eq_true h]
  rfl
theorem opFdiv_p {i j : Int} (h : 0 < j ∧ j < 1073741824) : opFdiv M (.int i) (.int j) = some (.int (i / j)) := by
  show (bif decide (0 < j) && decide (j < 1073741824) then some (T.int (i / j)) else none) = _
  rw [decide_eq_true h.1, decide_eq_true h.2]
  rfl
theorem opPow_3 {i : Int} (h0 : 0 ≤ i) (h : i < 2 ^ 200) : opPow M (.int i) (.int 3) = some (.int (i ^ 3)) := by
  have hn : i.natAbs < 2 ^ 200 := by omega
  have hb : (Builtin.Int.intBits i : Int) * 3 ≤ 2 ^ 27 := by
    have h2 : Builtin.Int.intBits i ≤ 200 := by
      unfold Builtin.Int.intBits
      split
      · omega
      · rename_i hz
        have hz : i.natAbs ≠ 0 := by
          intro z
          apply hz
          rw [beq_iff_eq]
          omega
        have := (Nat.log2_lt hz).mpr hn
        omega
    have : (Builtin.Int.intBits i : Int) ≤ 200 := by omega
    omega
  show (bif decide ((0 : Int) ≤ 3) && decide ((Builtin.Int.intBits i : Int) * 3 ≤ 2 ^ 27) then some (T.int (i ^ (3 : Int).toNat)) else none) = _
  rw [decide_eq_true hb]
  rfl
theorem opIx_loc {n : Nat} {xs : List T} {a : Int} {t : T} (h : M[n]? = some (.lst xs)) (h2 : L2.atI xs a = some t) : opIx M (.loc n) (.int a) = some t := by
  unfold opIx
  show (seqT M (.loc n)).bind (fun ts => L2.atI ts a) = _
  have : seqT M (.loc n) = some xs := by
    show (match M[n]? with | some (.lst ts) => some ts | _ => none) = _
    rw [h]
  rw [this]
  exact h2
theorem compL_all {n : Nat} {t0 : T} {f : EF} {σ : TV} (P : T → Prop) (h : ∀ t M, P t → ∃ M', f (σ.set n (some t)) M = .ok t0 M') : ∀ (ts acc : List T) (M : Mem), (∀ t ∈ ts, P t) → ∃ M', compL (pName n) tTrue f σ ts acc M = .ok (acc ++ List.replicate ts.length t0) M'
  | [], acc, M, _ => ⟨M, by simp [compL]⟩
  | t :: ts, acc, M, hp => by
    obtain ⟨M1, h1⟩ := h t M (hp t (by simp))
    obtain ⟨M2, h2⟩ := compL_all P h ts (acc ++ [t0]) M1 fun t ht => hp t (List.mem_cons_of_mem _ ht)
    refine ⟨M2, ?_⟩
    unfold compL
    simp only [pName, tTrue, h1]
    rw [h2, List.length_cons, List.replicate_succ]
    simp
theorem bAll_rep {n : Nat} : bAll M [.lst (List.replicate n (.bl true))] = some (.bl true) := by
  have h1 : ∀ n : Nat, boolsT (List.replicate n (.bl true)) = some (List.replicate n true) := fun n => by
    induction n with
    | zero => rfl
    | succ n ih =>
      rw [List.replicate_succ, List.replicate_succ]
      show (boolsT (List.replicate n (.bl true))).map (true :: ·) = _
      rw [ih]
      rfl
  unfold bAll bBools
  show ((boolsT (List.replicate n (.bl true))).map fun bs => T.bl _) = _
  rw [h1]
  simp
end
end Mi
namespace Mi
open PySem PySem.Spec PyProof.Rows L2
end Mi
namespace Mi
open PySem PySem.Spec PyProof.Rows L2
section
variable {X : Cx} {Ω : Om} {W : WX} {elt iter tg iter1 tg1 : Expr} {f : EF} {c c1 : TF} {it it1 : AF} {pos : Pos} {ifs ifs1 : List Expr} {scope : Scope} {own : List (Str × Nat)} {gt gt1 : TG} {pf pf1 : PF} {vs us vs1 : List Nat}
end
end Mi
namespace Mi
open PySem PySem.Spec PyProof.Rows L2
section
variable {K : PySem.W.Frag} {Ω : Om} {X : Cx}
def opTimes : Op2 := fun M t u => match tupT t, u with
  | some xs, .int k => bif !xs.isEmpty && (decide (2 ≤ k) && decide (k ≤ 1000)) && decide (xs.length ≤ 1000) then some (.tup (List.replicate k.toNat xs).flatten) else none
  | _, _ => opMul M t u
theorem rs_rep {Z ι : List Addr} {M : Mem} {H : Hp} {ts : List T} {vs : List V} (h : Rs K Ω Z ι M H ts vs) : ∀ n : Nat, Rs K Ω Z ι M H (List.replicate n ts).flatten (List.replicate n vs).flatten
  | 0 => .nil
  | n + 1 => by
    rw [List.replicate_succ, List.replicate_succ, List.flatten_cons, List.flatten_cons]
    exact h.append (rs_rep h n)
theorem op_times : OpR X (binaryOp .Mult) (fun x y H Q => rRepT X.K x y H Q ∨ rI CMul (fun i j => .int (i * j)) x y H Q) := op_repT.or op_mul
theorem opTimes_ok : OpS K Ω (fun x y H Q => rRepT K x y H Q ∨ rI CMul (fun i j => .int (i * j)) x y H Q) opTimes := fun Z ι M H t u v w z Q m r q h k => by
  unfold opTimes at h
  split at h
  · rename_i xs j hx
    cases hb : !xs.isEmpty && (decide (2 ≤ j) && decide (j ≤ 1000)) && decide (xs.length ≤ 1000) with
    | false => rw [hb] at h; cases h
    | true =>
      rw [hb] at h
      cases h
      rw [Bool.and_eq_true, Bool.and_eq_true, Bool.and_eq_true, decide_eq_true_eq, decide_eq_true_eq, decide_eq_true_eq] at hb
      obtain ⟨a, vs, rfl, hs, rs⟩ := tupT_ok r hx
      cases q
      refine .inl ⟨a, j, vs, rfl, rfl, hs, fun e => ?_, hb.1.2.1, hb.1.2.2, by rw [← rs.length]; exact hb.2, fun p hp => k ι _ _ (m.lay hp) (Ext.new hp) (.tup upd_same ((rs_rep rs _).ext (Ext.new hp)))⟩
      have h1 := hb.1.1
      rw [← rs.isEmpty, e] at h1
      cases h1
  · exact .inr (opMul_ok Z ι M H t _ v w z Q m r q h k)
end
end Mi
namespace Mi
open PySem PySem.Spec PyProof.Rows L2
section
variable {X : Cx} {Ω : Om} {W : WX} {elt iter tg iter1 tg1 : Expr} {f : EF} {c c1 : TF} {it it1 : AF} {pos spos py : Pos} {ifs ifs1 : List Expr} {scope : Scope} {own : List (Str × Nat)} {gt gt1 : TG} {pf pf1 : PF} {vs us : List Nat} {i : Nat} {y : Str}
end
section
variable {X : Cx} {CX : CXT} {n : Nat} {C g : Addr} {fd : FuncData} {ps : List Str} {sp : Sp} {E : XK}
end
section
variable {X : Cx} {Ω : Om} {a b : Expr} {f g : EF} {pos : Pos} {c k : Nat} {F : FF}
end
section
variable {prog : Program} {w : World} {A : Around} {E : Value → Shared → Prop} {s : Shared}
theorem sliceRev {sl : Addr} {vl vu : Value} {t : Tok} {n : Nat} {Q : Int × Int × Nat → Shared → Prop} (hs : s.heap.IsSliceOf sl vl vu (.int (-1) t)) (pl : IsPart vl none) (pu : IsPart vu none)
    (h : Q ((n : Int) - 1, -1, n) s) : wpAny (model prog w) A (Builtin.Slice.sliceApplied (.ref sl) (pure (n : Int))) Q E s := by
  obtain ⟨os, hos, hcs, hds⟩ := id hs
  unfold Builtin.Slice.sliceApplied Builtin.Slice.sliceFields
  refine wpAny_bind (wpAny_bind (wpAny_field hos hds (x := vl) rfl (wpAny_bind (wpAny_field hos hds (x := vu) rfl (wpAny_bind (wpAny_field hos hds (x := .int (-1) t) rfl (wpAny_pure ?_)))))))
  refine wpAny_bind (HT.slicePart_ (.int (-1) t) ?_)
  show wpAny _ _ (if ((-1 : Int) == 0) = true then _ else _) _ _ s
  rw [if_neg (by decide)]
  refine wpAny_bind (HT.slicePart_ pl (wpAny_bind (HT.slicePart_ pu (wpAny_bind (wpAny_pure ?_)))))
  show wpAny _ _ (pure ((n : Int) - 1, (-1 : Int), Builtin.Slice.slicePlaces ((n : Int) - 1) (-1) (-1))) _ _ s
  have e : Builtin.Slice.slicePlaces ((n : Int) - 1) (-1) (-1) = n := by
    unfold Builtin.Slice.slicePlaces
    have h1 : ¬ ((-1 : Int) > 0) := by decide
    simp only [h1, if_false]
    split
    · rw [show (- -1 : Int) = 1 by decide, Int.ediv_one]
      omega
    · omega
  rw [e]
  exact wpAny_pure h
theorem fm_some {α β : Type} {f : α → Option β} {g : α → β} : ∀ {l : List α}, (∀ m ∈ l, f m = some (g m)) → l.filterMap f = l.map g
  | [], _ => rfl
  | a :: l, h => by
    rw [List.filterMap_cons, h a (by simp), List.map_cons, fm_some fun m hm => h m (List.mem_cons_of_mem _ hm)]
theorem pickRev (xs : List Value) : ((List.range xs.length).filterMap fun (m : Nat) => xs.toArray[(((xs.length : Nat) : Int) - 1 + (m : Int) * (-1)).toNat]?) = xs.reverse := by
  apply List.ext_getElem?
  intro j
  have hf : ∀ m ∈ List.range xs.length, (fun (m : Nat) => xs.toArray[(((xs.length : Nat) : Int) - 1 + (m : Int) * (-1)).toNat]?) m = some (xs.reverse.getD m .none) := fun m hm => by
    have hm := List.mem_range.mp hm
    show xs.toArray[(((xs.length : Nat) : Int) - 1 + (m : Int) * (-1)).toNat]? = _
    rw [show (((xs.length : Nat) : Int) - 1 + (m : Int) * (-1)).toNat = xs.length - 1 - m by omega, List.getElem?_toArray, List.getD_eq_getElem?_getD, List.getElem?_reverse hm, List.getElem?_eq_getElem (by omega)]
    rfl
  have e : (List.range xs.length).filterMap (fun (m : Nat) => xs.toArray[(((xs.length : Nat) : Int) - 1 + (m : Int) * (-1)).toNat]?) = (List.range xs.length).map fun m => xs.reverse.getD m .none := by
    exact fm_some hf
  rw [e, List.getElem?_map]
  by_cases hj : j < xs.length
  · rw [List.getElem?_range hj]
    show some (xs.reverse.getD j .none) = _
    rw [List.getD_eq_getElem?_getD, List.getElem?_eq_getElem (by simpa using hj)]
    rfl
  · rw [List.getElem?_eq_none (by simpa using hj), List.getElem?_eq_none (by simpa using hj)]
    rfl
theorem getItem_rev {t sl : Addr} {items : List Value} {vl vu : Value} {tk : Tok} {Q : Value → Shared → Prop} (ht : IsTup s.heap t items.toArray) (hs : s.heap.IsSliceOf sl vl vu (.int (-1) tk)) (pl : IsPart vl none) (pu : IsPart vu none)
    (h : Q (.ref s.heap.objs.size) { s with heap := s.heap.push { cls := .type "tuple", data := .seq items.reverse.toArray } }) (hsz : items.length ≤ sizeLine) : wpAny (model prog w) A (getItem (.ref t) (.ref sl)) Q E s := by
  obtain ⟨os, hos, hcs, hds⟩ := id hs
  have hTs : s.TypeIs (.ref sl) "slice" := ⟨os, hos, hcs⟩
  have hok : sizeOk (.seq items.reverse.toArray) := by
    show items.reverse.toArray.size ≤ sizeLine
    rw [List.size_toArray, List.length_reverse]
    exact hsz
  unfold getItem
  try with_reducible refine wpAny_holding ?_
  first | refine wpAny_bind (wpAny_pure ?_) | skip
  refine wpAny_bind (wpAny_sequenceKey ht.typeIs (by decide) ?_)
  refine wpAny_bind (wpAny_callSpecial?_slot (name := Str.ofString "__getitem__") ht.typeIs PyProof.Rows.slot_tuple_getitem
    (wpAny_call_entry PyProof.Rows.slot_tuple_getitem ht.typeIs entry_tuple_getitem ?_ (args_tuple_getitem _ _)))
  show wpAny _ _ (Builtin.Tuple.tupleItemsOf (.ref t) >>= _) _ _ s
  refine wpAny_bind (tupleItemsOf_ ht ?_)
  refine wpAny_bind (wpAny_typeOf hTs ?_)
  rw [if_pos (by decide)]
  refine wpAny_bind (sliceRev (n := items.toArray.size) hs pl pu ?_)
  have hno : ¬ ((((items.toArray.size : Nat) : Int) - 1 == 0 && (-1 : Int) == 1 && items.toArray.size == items.toArray.size) = true) := by
    intro q
    rw [Bool.and_eq_true, Bool.and_eq_true] at q
    exact absurd q.1.2 (by decide)
  show wpAny _ _ (if (((items.toArray.size : Nat) : Int) - 1 == 0 && (-1 : Int) == 1 && items.toArray.size == items.toArray.size) = true then _ else _) _ _ s
  have ep := pickRev items
  rw [if_neg hno, List.size_toArray, ep]
  first
    | exact wpAny_bind (m := Builtin.Tuple.tupleExact _) (wpAny_newObj_type (wpAny_pure ⟨_, rfl, wpAny_pure h⟩) hok)
    | exact wpAny_bind (m := Builtin.Tuple.tupleExact _) (wpAny_newObj_type (wpAny_bind (wpAny_pure (wpAny_pure ⟨_, rfl, wpAny_pure h⟩))) hok)
    | exact wpAny_bind (wpAny_bind (m := Builtin.Tuple.tupleExact _) (wpAny_newObj_type (wpAny_pure (wpAny_pure ⟨_, rfl, wpAny_pure h⟩)) hok))
    | exact wpAny_bind (wpAny_bind (m := Builtin.Tuple.tupleExact _) (wpAny_newObj_type (wpAny_pure ⟨_, rfl, wpAny_pure h⟩) hok))
end
end Mi
namespace Mi
open PySem PySem.Spec PyProof.Rows L2
section
variable {X : Cx} {Ω : Om} {W : WX} {e : Expr} {te : TE} {f : EF} {k : Nat} {p1 p2 p3 pos : Pos}
theorem pe_revT (he : PE X e te) : PE X (.Subscript e (.Slice none none (some (.UnaryOp .USub (.Constant (.int 1) k p1) p2)) p3) pos) (fun σ H Q => te σ H fun x H1 => ∃ a xs, x = .ref a ∧ SqT X.K H1 a xs ∧ ∀ p, H1 p = none → Q (.ref p) (upd H1 p (.tup xs.reverse))) := by
  refine ⟨fun pins s σ H Q I h => Subscript_ (thn (he.run pins s σ H _ I h) fun v s1 ⟨x, H1, I1, r1, a, xs, ex, hx, q⟩ => ?_)⟩
  subst ex
  obtain rfl : v = Value.ref a := r1
  have hst : PO X (some (.UnaryOp .USub (.Constant (.int 1) k p1) p2)) (tPart (tUn (rU fun i => .int (-i)) (tC (.int 1)))) := po_some (pe_un un_neg pe_int)
  refine wpAny_Slice (thn (po_none.run pins s1 σ H1 (fun o H2 => o = none ∧ H2 = H1) I1 ⟨rfl, rfl⟩) fun vl s2 ⟨l, H2, I2, pl, el, e2⟩ => ?_)
  subst el e2
  refine thn (po_none.run pins s2 σ H2 (fun o H3 => o = none ∧ H3 = H2) I2 ⟨rfl, rfl⟩) fun vu s3 ⟨u, H3, I3, pu, eu, e3⟩ => ?_
  subst eu e3
  refine thn (hst.run pins s3 σ H3 (fun o H4 => o = some (-1) ∧ H4 = H3) I3 ⟨1, rfl, -1, rfl, rfl, rfl⟩) fun vs s4 ⟨o, H4, I4, ps, eo, e4⟩ => ?_
  subst eo e4
  have I5 : L2.Inv X pins σ H4 { s4 with heap := s4.heap.push { cls := .type "slice", data := .fields #[vl, vu, vs] } } := I4.kept (t' := s4.toks) fun b ob q => Heap.get?_push_of_some _ q
  obtain ⟨its, r, ht, hz⟩ := I5.tuple hx
  have hlen := r.length
  cases ps with
  | int j t =>
    show wpAny (model X.prog X.w) X.A (subscriptTail e (.Slice none none (some (.UnaryOp .USub (.Constant (.int 1) k p1) p2)) p3) (.ref a) (.ref s4.heap.objs.size)) (EP X pins σ Q) X.xe { s4 with heap := s4.heap.push { cls := .type "slice", data := .fields #[vl, vu, .int (-1) t] } }
    refine tail_any (ops := [.ref a, .ref s4.heap.objs.size]) ht.typeIs (PyProof.Rows.slot_tuple_getitem.lookup) ?_ (by with_unfolding_all rfl)
    refine getItem_rev ht (Heap.IsSliceOf.new _ vl vu (.int (-1) t)) pl pu ?_ (by omega)
    refine ⟨.ref _, _, I5.laid (t' := s4.toks) (o := .tup xs.reverse) (fun b ob q => Heap.get?_push_of_some _ q) (Nat.le_refl _) ?_, rfl, q _ (I5.hok.fresh (Nat.le_refl _))⟩
    exact ⟨by rw [List.length_reverse]; exact hz, its.reverse, r.reverse, ⟨_, Heap.get?_push_size _ rfl, rfl, _, rfl⟩⟩
def eRevT (f : EF) : EF := fun σ M => (f σ M).bind fun t M1 => match tupT t with
  | some xs => .ok (.tup xs.reverse) M1
  | none => .err
theorem Rs.reverse {K : PySem.W.Frag} {Z ι : List Addr} {M : Mem} {H : Hp} : ∀ {ts : List T} {vs : List V}, Rs K Ω Z ι M H ts vs → Rs K Ω Z ι M H ts.reverse vs.reverse
  | _, _, .nil => .nil
  | _, _, .cons r t => by
    rw [List.reverse_cons, List.reverse_cons]
    exact (Rs.reverse t).append (.cons r .nil)
theorem me_revT (he : ME X Ω W e f) : ME X Ω W (.Subscript e (.Slice none none (some (.UnaryOp .USub (.Constant (.int 1) k p1) p2)) p3) pos) (eRevT f) := L2PE.imp (pe_revT he) fun σ H Q ⟨Z, ι, M, σT, m, rv, p⟩ =>
  ⟨Z, ι, M, σT, m, rv, Post.bind p fun ι1 M1 H1 t v m1 e1 q1 p1 => by
    cases z : tupT t with
    | none => rw [z] at p1; exact p1.elim
    | some xs =>
      rw [z] at p1
      obtain ⟨a, vs, rfl, hs, rs⟩ := tupT_ok q1 z
      exact ⟨a, vs, rfl, hs, fun p hp => p1 ι1 _ _ (m1.lay hp) (Ext.new hp) (.tup upd_same (rs.reverse.ext (Ext.new hp)))⟩⟩
end
end Mi
namespace Mi
open PySem PySem.Spec PyProof.Rows L2
section
variable {prog : Program} {w : World} {A : Around} {E : Value → Shared → Prop} {s : Shared} {K : Type} [DecidableEq K] {knd : KeyKind prog w K} {kvs : List (K × Value)} {ep : Nat} {r d : Addr}
end
section
variable {X : Cx} {e : Expr} {te : TE} {p apos cpos pos : Pos}
end
section
variable {X : Cx} {Ω : Om} {W : WX} {e : Expr} {fo : EF} {p apos cpos pos : Pos}
end
end Mi
namespace Mi
open PySem PySem.Spec PyProof.Rows L2
section
variable {X : Cx} {Ω : Om} {W : WX} {a b : Expr} {f g : EF} {pos : Pos}
end
end Mi
namespace Mi
open PySem PySem.Spec PyProof.Rows L2
set_option maxRecDepth 100000 in
theorem extT_meets (l : Addr) (items : Array Value) (n : Nat) (b : Addr) (items2 : Array Value) (n2 : Nat) (dd : Option Addr) (sl : Array (Option Value)) (hs0 : ¬(!items.isEmpty && Builtin.List.listTooLong (items.size + items2.size)) = true) (hs1 : items.size ≤ sizeLine) (hs2 : items.size + items2.size ≤ sizeLine + 1) :
    Meets (Builtin.«list.extend» ⟨[.ref l, .ref b], []⟩) (fun _ R s => s.heap.get? l = some { cls := .type "list", dict := none, data := .seq items n, slots := #[] } ∧ s.heap.get? b = some { cls := .type "tuple", dict := dd, data := .seq items2 n2, slots := sl } ∧
      R (.ok (.ret Value.none)) { s with heap := s.heap.update l (Obj.mapSeq fun x => x ++ items2), toks := s.toks }) :=
  .of_wp fun prog w A R s ⟨hl, hb, h⟩ => by
    obtain ⟨hp, gg, dr, tk, os⟩ := s
    have k1 := AutoSeq1.idx_int
    have k2 := AutoSeq1.sub_tuple_tuple
    have k3 := AutoSeq1.sub_list_list
    have k4 := AutoSeq1.sub_tuple_list
    have k5 := AutoSeq1.sub_list_tuple
    have hsum : (items ++ items2).size ≤ sizeLine + 1 := by rw [Array.size_append]; exact hs2
    wp_walk using (wpAny_updateSeq hl rfl (hz := hs1) (_hz' := hsum)), wpAny_loadPart' hl, wpAny_loadPart' hb
    exact ⟨_, rfl, h⟩
section
variable {K : PySem.W.Frag} {Ω : Om} {X : Cx} {W : WX} {e o : Expr} {f : EF} {fa : AF} {apos cpos : Pos}
def rExtT (K : PySem.W.Frag) : V → List V → Hp → VK → Prop := fun x vs H Q => ∃ l b xs zs, x = .ref l ∧ vs = [.ref b] ∧ H l = some (.lst xs) ∧ SqT K H b zs ∧ xs.length + zs.length ≤ sizeLine ∧ Q .non (upd H l (.lst (xs ++ zs)))
theorem mt_extT : MtR X "list.extend" (rExtT X.K) := by
  intro pins s σ H x vs v us Q I rx rv h
  obtain ⟨l, b, xs, zs, rfl, rfl, hH, hB, hz, q⟩ := h
  obtain rfl : v = Value.ref l := rx
  obtain ⟨u, rfl, ru⟩ := vals1 rv
  obtain rfl : u = Value.ref b := ru
  obtain ⟨z, its, n, r, hl, e⟩ := I.lstM hH
  obtain ⟨its2, r2, ⟨⟨cls, dd, data, sl⟩, e2, hc, n2, hd⟩, hz2⟩ := I.tuple hB
  simp only at hc hd
  subst hc hd
  have l2 := r2.length
  have hsz : its.toArray.size + its2.toArray.size ≤ sizeLine := by rw [List.size_toArray, List.size_toArray]; omega
  have hlong : ¬ (!its.toArray.isEmpty && Builtin.List.listTooLong (its.toArray.size + its2.toArray.size)) = true := by
    rw [notLongL hsz, Bool.and_false]
    exact Bool.false_ne_true
  refine call_meets F.slot_list_extend ⟨_, e, rfl⟩ F.entry_list_extend (F.args_list_extend_2 _ _) (extT_meets l its.toArray n b its2.toArray n2 dd sl hlong (by rw [List.size_toArray]; omega) (by omega)) ⟨e, e2, ?_⟩
  · refine ⟨.non, _, I.lset (its' := its ++ its2) hH e (by simp) (r.append r2) ?_, rfl, q⟩
    rw [List.length_append]
    omega
def mExtT : OpM := fun M t ts => match locL M t, ts with
  | some (n, xs), [u] => (match tupT u with
    | some ys => bif big (xs.length + ys.length) then some (.non, M.set n (.lst (xs ++ ys))) else none
    | none => none)
  | _, _ => none
theorem mExtT_ok : MtS K Ω "list" (rExtT K) mExtT := fun Z ι M H t ts v vs z M' Q m r rs h k => by
  unfold mExtT at h
  split at h
  · rename_i n xs u hl
    split at h
    · rename_i ys hy
      cases zb : big (xs.length + ys.length) with
      | false => rw [zb] at h; cases h
      | true =>
        rw [zb] at h
        cases h
        obtain ⟨a, ws, rfl, rfl, hn, hm, ha, r1⟩ := locL_ok m r hl
        obtain ⟨w, rfl, ru⟩ := rs.one rfl
        obtain ⟨b, us, rfl, hb, r2⟩ := tupT_ok ru hy
        obtain ⟨m2, e2⟩ := put_list m hn hm ha (r1.append r2)
        have hz := of_decide_eq_true zb
        exact ⟨a, b, ws, us, rfl, rfl, ha, hb, by rw [← r1.length, ← r2.length, sizeLine_eq]; omega, k ι _ _ m2 (e2 []) .non⟩
    · cases h
  · cases h
theorem me_ext2 (ho : ME X Ω W o f) (ha : MA X Ω W [e] fa) (hbase : attributeBase o "extend" X.env (eval o X.env) = eval o X.env := by rfl)
    (hfew : ((backTo cpos (starEach [e] X.env)).all (fun x => !x.1) && (backToKw cpos (keywordEach [] X.env)).all (fun x => x.1.isSome) && decide ([e].length + ([] : List Keyword).length + (if ([] : List Keyword).isEmpty then 0 else 1) < 30)) = true := by rfl)
    (hline : (apos.endLine == cpos.line) = true := by rfl) (hs : starEach [e] X.env = (false, eval e X.env) :: starEach [] X.env := by rfl) (hplain : (backTo cpos (starEach [] X.env)).any (·.1) = false := by rfl) :
    ME X Ω W (.Call (.Attribute o "extend" apos) [e] [] cpos) (eAlt (eMt isLoc mExtend f fa) (eMt isLoc mExtT f fa)) :=
  me_alt (me_extend ho ha hbase hfew hline hs hplain) (me_mt PySem.F.plainAttrs_list PySem.F.slot_list_extend PySem.F.type_list_extend mt_extT mExtT_ok (fun _ _ _ _ _ _ m r h => isLoc_ok m r h) ho ha hbase hfew hline hs hplain)
end
end Mi
namespace Mi
open PySem PySem.Spec PyProof.Rows L2

mutual
def T.lo (n : Nat) : T → Bool
  | .loc k => decide (k < n)
  | .tup xs => T.los n xs
  | .lst xs => T.los n xs
  | .ktup xs => T.los n xs
  | .klst xs => T.los n xs
  | .dct _ kvs => T.lok n kvs
  | .obj _ fs => T.los n fs
  | .xob _ t => T.lo n t
  | .non => true
  | .bl _ => true
  | .int _ => true
  | .str _ => true
def T.los (n : Nat) : List T → Bool
  | [] => true
  | t :: ts => T.lo n t && T.los n ts
def T.lok (n : Nat) : List (T × T) → Bool
  | [] => true
  | kv :: r => T.lo n kv.2 && T.lok n r
end
def MO.lo (n : Nat) : MO → Bool
  | .gone => true
  | .lst xs => T.los n xs
  | .dct _ kvs => T.lok n kvs
  | .obj _ fs => T.los n fs

theorem los_of_lok {n : Nat} : ∀ {kvs : List (T × T)}, T.lok n kvs = true → T.los n (kvs.map (·.2)) = true
  | [], _ => by simp [T.los]
  | kv :: r, h => by
    have h' : kv.2.lo n = true ∧ T.lok n r = true := by simpa [T.lok] using h
    simp [T.los, h'.1, los_of_lok h'.2]
theorem lok_of_los : ∀ {kvs : List (T × T)} {n : Nat}, T.los n (kvs.map (·.2)) = true → T.lok n kvs = true
  | [], _, _ => rfl
  | kv :: r, n, h => by
    have h' : kv.2.lo n = true ∧ T.los n (r.map (·.2)) = true := by simpa [T.los] using h
    simp [T.lok, h'.1, lok_of_los h'.2]
mutual
inductive Fz (M : Mem) (n : Nat) : T → T → Prop
  | same {t} : t.lo n = true → Fz M n t t
  | lst {k xs ys} : n ≤ k → M[k]? = some (.lst xs) → Fzs M n xs ys → Fz M n (.loc k) (.lst ys)
  | dct {k b kvs lvs} : n ≤ k → M[k]? = some (.dct b kvs) → Fzk M n kvs lvs → Fz M n (.loc k) (.dct b lvs)
  | obj {k c xs ys} : n ≤ k → M[k]? = some (.obj c xs) → Fzs M n xs ys → Fz M n (.loc k) (.obj c ys)
  | tup {xs ys} : Fzs M n xs ys → Fz M n (.tup xs) (.tup ys)
  | lstF {xs ys} : Fzs M n xs ys → Fz M n (.lst xs) (.lst ys)
  | dctF {b kvs lvs} : Fzk M n kvs lvs → Fz M n (.dct b kvs) (.dct b lvs)
  | objF {c xs ys} : Fzs M n xs ys → Fz M n (.obj c xs) (.obj c ys)
inductive Fzs (M : Mem) (n : Nat) : List T → List T → Prop
  | nil : Fzs M n [] []
  | cons {t u ts us} : Fz M n t u → Fzs M n ts us → Fzs M n (t :: ts) (u :: us)
inductive Fzk (M : Mem) (n : Nat) : List (T × T) → List (T × T) → Prop
  | nil : Fzk M n [] []
  | cons {k t u ts us} : Fz M n t u → Fzk M n ts us → Fzk M n ((k, t) :: ts) ((k, u) :: us)
end
section
variable {M : Mem} {n : Nat}
mutual
theorem Fz.of_lo : ∀ {t u : T}, Fz M n t u → t.lo n = true → t = u
  | _, _, .same _, _ => rfl
  | _, _, .lst h _ _, q => by have := of_decide_eq_true (show decide (_ < n) = true from q); omega
  | _, _, .dct h _ _, q => by have := of_decide_eq_true (show decide (_ < n) = true from q); omega
  | _, _, .obj h _ _, q => by have := of_decide_eq_true (show decide (_ < n) = true from q); omega
  | _, _, .tup (xs := xs) h, q => by rw [Fzs.of_lo h (show T.los n xs = true by simpa [T.lo] using q)]
  | _, _, .lstF (xs := xs) h, q => by rw [Fzs.of_lo h (show T.los n xs = true by simpa [T.lo] using q)]
  | _, _, .dctF (kvs := kvs) h, q => by rw [Fzk.of_lo h (show T.lok n kvs = true by simpa [T.lo] using q)]
  | _, _, .objF (xs := xs) h, q => by rw [Fzs.of_lo h (show T.los n xs = true by simpa [T.lo] using q)]
theorem Fzs.of_lo : ∀ {ts us : List T}, Fzs M n ts us → T.los n ts = true → ts = us
  | _, _, .nil, _ => rfl
  | _, _, .cons (t := t) (ts := ts) h r, q => by
    have q' : t.lo n = true ∧ T.los n ts = true := by simpa [T.los] using q
    rw [Fz.of_lo h q'.1, Fzs.of_lo r q'.2]
theorem Fzk.of_lo : ∀ {ts us : List (T × T)}, Fzk M n ts us → T.lok n ts = true → ts = us
  | _, _, .nil, _ => rfl
  | _, _, .cons (t := t) (ts := ts) h r, q => by
    have q' : t.lo n = true ∧ T.lok n ts = true := by simpa [T.lok] using q
    rw [Fz.of_lo h q'.1, Fzk.of_lo r q'.2]
end
mutual
theorem Fz.uniq : ∀ {t u v : T}, Fz M n t u → Fz M n t v → u = v
  | _, _, _, .same h, g => Fz.of_lo g h
  | _, _, _, .lst h e r, g => by
    cases g with
    | same q => have := of_decide_eq_true (show decide (_ < n) = true from q); omega
    | lst h' e' r' => rw [e] at e'; cases e'; rw [Fzs.uniq r r']
    | dct h' e' r' => rw [e] at e'; cases e'
    | obj h' e' r' => rw [e] at e'; cases e'
  | _, _, _, .dct h e r, g => by
    cases g with
    | same q => have := of_decide_eq_true (show decide (_ < n) = true from q); omega
    | lst h' e' r' => rw [e] at e'; cases e'
    | dct h' e' r' => rw [e] at e'; cases e'; rw [Fzk.uniq r r']
    | obj h' e' r' => rw [e] at e'; cases e'
  | _, _, _, .obj h e r, g => by
    cases g with
    | same q => have := of_decide_eq_true (show decide (_ < n) = true from q); omega
    | lst h' e' r' => rw [e] at e'; cases e'
    | dct h' e' r' => rw [e] at e'; cases e'
    | obj h' e' r' => rw [e] at e'; cases e'; rw [Fzs.uniq r r']
  | _, _, _, .tup h, g => by
    cases g with
    | same q => exact (Fz.of_lo (.tup h) q).symm
    | tup h' => rw [Fzs.uniq h h']
  | _, _, _, .lstF h, g => by
    cases g with
    | same q => exact (Fz.of_lo (.lstF h) q).symm
    | lstF h' => rw [Fzs.uniq h h']
  | _, _, _, .dctF h, g => by
    cases g with
    | same q => exact (Fz.of_lo (.dctF h) q).symm
    | dctF h' => rw [Fzk.uniq h h']
  | _, _, _, .objF h, g => by
    cases g with
    | same q => exact (Fz.of_lo (.objF h) q).symm
    | objF h' => rw [Fzs.uniq h h']
theorem Fzs.uniq : ∀ {t u v : List T}, Fzs M n t u → Fzs M n t v → u = v
  | _, _, _, .nil, g => by cases g; rfl
  | _, _, _, .cons h r, g => by
    cases g with
    | cons h' r' => rw [Fz.uniq h h', Fzs.uniq r r']
theorem Fzk.uniq : ∀ {t u v : List (T × T)}, Fzk M n t u → Fzk M n t v → u = v
  | _, _, _, .nil, g => by cases g; rfl
  | _, _, _, .cons h r, g => by
    cases g with
    | cons h' r' => rw [Fz.uniq h h', Fzk.uniq r r']
end
end
theorem Fzk.split {M : Mem} {n : Nat} : ∀ {ts us : List (T × T)}, Fzk M n ts us → ts.map (·.1) = us.map (·.1) ∧ True
  | _, _, .nil => ⟨rfl, trivial⟩
  | _, _, .cons _ fs => ⟨by simp [(Fzk.split fs).1], trivial⟩
def Kept (M0 M' : Mem) : Prop := M0.length ≤ M'.length ∧ ∀ (i : Nat) (o : MO), i < M0.length → M'[i]? = some o → M0[i]? = some o ∨ o.lo M0.length = true
open Classical in
noncomputable def scr (F : FF) : FF := fun ts M => match F ts M with
  | .ok t' M' => if h : (∃ t, Fz M' M.length t' t) ∧ Kept M M' then .ok h.1.choose (M'.take M.length) else .err
  | .exc c t' M' => if h : (∃ t, Fz M' M.length t' t) ∧ Kept M M' then .exc c h.1.choose (M'.take M.length) else .err
  | .err => .err
open Classical in
theorem scr_ok {F : FF} {ts : List T} {M M' : Mem} {t' t : T} (h : F ts M = .ok t' M') (z : Fz M' M.length t' t) (k : Kept M M') : scr F ts M = .ok t (M'.take M.length) := by
  unfold scr
  rw [h]
  have hh : (∃ t, Fz M' M.length t' t) ∧ Kept M M' := ⟨⟨t, z⟩, k⟩
  show (if h : (∃ t, Fz M' M.length t' t) ∧ Kept M M' then Res.ok h.1.choose (M'.take M.length) else .err) = _
  rw [dif_pos hh, Fz.uniq hh.1.choose_spec z]
theorem Kept.new {M more : Mem} : Kept M (M ++ more) := ⟨by simp, fun i o hi h => .inl (by rw [List.getElem?_append_left hi] at h; exact h)⟩
theorem Kept.refl {M : Mem} : Kept M M := ⟨Nat.le_refl _, fun i o _ h => .inl h⟩
theorem scr_pure {F : FF} {ts : List T} {M more : Mem} {t' t : T} (h : F ts M = .ok t' (M ++ more)) (z : Fz (M ++ more) M.length t' t) : scr F ts M = .ok t M := by
  rw [scr_ok h z .new, List.take_left]
theorem scr_pure0 {F : FF} {ts : List T} {M : Mem} {t : T} (h : F ts M = .ok t M) (z : t.lo M.length = true) : scr F ts M = .ok t M := by
  rw [scr_ok h (.same z) .refl, List.take_length]
section
variable {K : PySem.W.Frag} {Ω : Om} {Z ι : List Addr} {M : Mem} {H : Hp} {n : Nat}
theorem live_take {a : Addr} (h : Live (ι.take n) (M.take n) a) : Live ι M a ∧ ∃ i o, i < n ∧ ι[i]? = some a ∧ M[i]? = some o ∧ o ≠ .gone := by
  obtain ⟨i, o, h1, h2, h3⟩ := h
  rw [List.getElem?_take] at h1 h2
  by_cases hi : i < n
  · rw [if_pos hi] at h1 h2
    exact ⟨⟨i, o, h1, h2, h3⟩, i, o, hi, h1, h2, h3⟩
  · rw [if_neg hi] at h1; cases h1
theorem still_take {a : Addr} (s : Still Z ι M a) : Still Z (ι.take n) (M.take n) a := ⟨fun l => s.1 (live_take l).1, s.2⟩
mutual
theorem R.low (m : RM K Ω Z ι M H) : ∀ {t : T} {v : V}, R K Ω Z ι M H t v → t.lo n = true → R K Ω Z (ι.take n) (M.take n) H t v
  | _, _, .non, _ => .non
  | _, _, .bl b, _ => .bl b
  | _, _, .int i, _ => .int i
  | _, _, .str x s h l, _ => .str x s h l
  | _, _, .tup h r, q => .tup h (Rs.low m r (by simpa [T.lo] using q))
  | _, _, .ktup h d r, q => .ktup h d (Rs.low m r (by simpa [T.lo] using q))
  | _, _, .lst h s r, q => .lst h (still_take s) (Rs.low m r (by simpa [T.lo] using q))
  | _, _, .klst h r, q => .klst h (Rs.low m r (by simpa [T.lo] using q))
  | _, _, .dK h s k r, q => .dK h (still_take s) k (Rs.low m r (los_of_lok (by simpa [T.lo] using q)))
  | _, _, .dT h s k r, q => .dT h (still_take s) k (Rs.low m r (los_of_lok (by simpa [T.lo] using q)))
  | _, _, .obj h s k r, q => .obj h (still_take s) k (Rs.low m r (by simpa [T.lo] using q))
  | _, _, .xob h1 h2 h3 h4 s r, q => .xob h1 h2 h3 h4 (still_take s) (R.low m r (by simpa [T.lo] using q))
  | _, _, .loc (n := k) h, q => .loc (by
      have : k < n := of_decide_eq_true (show decide (k < n) = true by simpa [T.lo] using q)
      rw [List.getElem?_take, if_pos this]
      exact h)
theorem Rs.low (m : RM K Ω Z ι M H) : ∀ {ts : List T} {vs : List V}, Rs K Ω Z ι M H ts vs → T.los n ts = true → Rs K Ω Z (ι.take n) (M.take n) H ts vs
  | _, _, .nil, _ => .nil
  | _, _, .cons (t := t) (ts := ts) r rs, q => .cons (R.low m r (show t.lo n = true ∧ T.los n ts = true by simpa [T.los] using q).1) (Rs.low m rs (show t.lo n = true ∧ T.los n ts = true by simpa [T.los] using q).2)
end
mutual
theorem R.lo : ∀ {t : T} {v : V}, R K Ω Z ι M H t v → t.lo ι.length = true
  | _, _, .non => rfl
  | _, _, .bl b => rfl
  | _, _, .int i => rfl
  | _, _, .str x s h l => rfl
  | _, _, .tup h r => by simpa [T.lo] using Rs.lo r
  | _, _, .ktup h _ r => by simpa [T.lo] using Rs.lo r
  | _, _, .lst h s r => by simpa [T.lo] using Rs.lo r
  | _, _, .klst h r => by simpa [T.lo] using Rs.lo r
  | _, _, .dK h s k r => by simpa [T.lo] using lok_of_los (Rs.lo r)
  | _, _, .dT h s k r => by simpa [T.lo] using lok_of_los (Rs.lo r)
  | _, _, .obj h s k r => by simpa [T.lo] using Rs.lo r
  | _, _, .xob _ _ _ _ _ r => by simpa [T.lo] using R.lo r
  | _, _, .loc h => by simpa [T.lo] using (List.getElem?_eq_some_iff.mp h).1
theorem Rs.lo : ∀ {ts : List T} {vs : List V}, Rs K Ω Z ι M H ts vs → T.los ι.length ts = true
  | _, _, .nil => rfl
  | _, _, .cons r rs => by simp [T.los, R.lo r, Rs.lo rs]
end
theorem RO.lo {o : MO} {a : Addr} (r : RO K Ω Z ι M H o a) : o.lo ι.length = true := by
  cases r with
  | gone _ => rfl
  | lst _ r => exact r.lo
  | dK _ _ r => exact lok_of_los r.lo
  | dT _ _ r => exact lok_of_los r.lo
  | obj _ _ r => exact r.lo
theorem RO.low (m : RM K Ω Z ι M H) {o : MO} {a : Addr} (r : RO K Ω Z ι M H o a) (h : o.lo n = true) : RO K Ω Z (ι.take n) (M.take n) H o a := by
  cases r with
  | gone q => exact .gone q
  | lst q r => exact .lst q (r.low m h)
  | dK q k r => exact .dK q k (r.low m (los_of_lok h))
  | dT q k r => exact .dT q k (r.low m (los_of_lok h))
  | obj q k r => exact .obj q k (r.low m h)
theorem still_new (m : RM K Ω Z ι M H) {k : Nat} {a : Addr} {o : MO} (hk : n ≤ k) (h : ι[k]? = some a) (e : M[k]? = some o) (g : o ≠ .gone) : Still Z (ι.take n) (M.take n) a := by
  refine ⟨fun l => ?_, fun z => (m.zin a z).2 ⟨k, o, h, e, g⟩⟩
  obtain ⟨_, i, u, hi, h1, h2, h3⟩ := live_take l
  have := m.nd i k a u o h1 h h2 e h3 g
  omega
mutual
theorem Fz.sound (m : RM K Ω Z ι M H) : ∀ {t u : T} {v : V}, Fz M n t u → R K Ω Z ι M H t v → R K Ω Z (ι.take n) (M.take n) H u v
  | _, _, _, .same h, r => R.low m r h
  | _, _, _, .lst hk e f, r => by
    cases r with
    | loc h =>
      obtain ⟨o, e2, ro⟩ := m.at h
      rw [e] at e2
      cases e2
      cases ro with
      | lst q rs => exact .lst q (still_new m hk h e (by intro z; cases z)) (Fzs.sound m f rs)
  | _, _, _, .dct hk e f, r => by
    cases r with
    | loc h =>
      obtain ⟨o, e2, ro⟩ := m.at h
      rw [e] at e2
      cases e2
      cases ro with
      | dK q k rs =>
        obtain ⟨f1, f2⟩ := Fzk.split f
        exact .dK (.inl q) (still_new m hk h e (by intro z; cases z)) (by rw [← f1]; exact k) (Fzk.sound m f rs)
      | dT q k rs =>
        obtain ⟨f1, f2⟩ := Fzk.split f
        exact .dT (.inl q) (still_new m hk h e (by intro z; cases z)) (by rw [← f1]; exact k) (Fzk.sound m f rs)
  | _, _, _, .obj hk e f, r => by
    cases r with
    | loc h =>
      obtain ⟨o, e2, ro⟩ := m.at h
      rw [e] at e2
      cases e2
      cases ro with
      | obj q k rs => exact .obj q (still_new m hk h e (by intro z; cases z)) k (Fzs.sound m f rs)
  | _, _, _, .tup f, r => by
    cases r with
    | tup q rs => exact .tup q (Fzs.sound m f rs)
  | _, _, _, .lstF f, r => by
    cases r with
    | lst q s rs => exact .lst q (still_take s) (Fzs.sound m f rs)
  | _, _, _, .dctF f, r => by
    cases r with
    | dK q s k rs =>
      obtain ⟨f1, f2⟩ := Fzk.split f
      exact .dK q (still_take s) (by rw [← f1]; exact k) (Fzk.sound m f rs)
    | dT q s k rs =>
      obtain ⟨f1, f2⟩ := Fzk.split f
      exact .dT q (still_take s) (by rw [← f1]; exact k) (Fzk.sound m f rs)
  | _, _, _, .objF f, r => by
    cases r with
    | obj q s k rs => exact .obj q (still_take s) k (Fzs.sound m f rs)
theorem Fzs.sound (m : RM K Ω Z ι M H) : ∀ {ts us : List T} {vs : List V}, Fzs M n ts us → Rs K Ω Z ι M H ts vs → Rs K Ω Z (ι.take n) (M.take n) H us vs
  | _, _, _, .nil, r => by cases r; exact .nil
  | _, _, _, .cons f fs, r => by
    cases r with
    | cons r rs => exact .cons (Fz.sound m f r) (Fzs.sound m fs rs)
theorem Fzk.sound (m : RM K Ω Z ι M H) : ∀ {ts us : List (T × T)} {vs : List V}, Fzk M n ts us → Rs K Ω Z ι M H (ts.map (·.2)) vs → Rs K Ω Z (ι.take n) (M.take n) H (us.map (·.2)) vs
  | _, _, _, .nil, r => by cases r; exact .nil
  | _, _, _, .cons f fs, r => by
    cases r with
    | cons r rs => exact .cons (Fz.sound m f r) (Fzk.sound m fs rs)
end
theorem rm_take {ι' : List Addr} {M' : Mem} {H' : Hp} (m : RM K Ω Z ι M H) (m' : RM K Ω Z ι' M' H') (k : Kept M M') : RM K Ω Z (ι'.take M.length) (M'.take M.length) H' := by
  refine ⟨m'.tab, by rw [List.length_take, List.length_take, m'.len], fun i j a o u h1 h2 h3 h4 g1 g2 => ?_, fun i a o h1 h2 => ?_, fun z q => ⟨(m'.zin z q).1, fun l => (m'.zin z q).2 (live_take l).1⟩⟩
  · rw [List.getElem?_take] at h1 h2 h3 h4
    by_cases hi : i < M.length
    · by_cases hj : j < M.length
      · rw [if_pos hi] at h1 h3
        rw [if_pos hj] at h2 h4
        exact m'.nd i j a o u h1 h2 h3 h4 g1 g2
      · rw [if_neg hj] at h2; cases h2
    · rw [if_neg hi] at h1; cases h1
  · rw [List.getElem?_take] at h1 h2
    by_cases hi : i < M.length
    · rw [if_pos hi] at h1 h2
      refine (m'.mem i a o h1 h2).low m' ?_
      rcases k.2 i o hi h2 with q | q
      · obtain ⟨b, hb, ro⟩ := m.addr q
        have := ro.lo
        rw [m.len] at this
        exact this
      · exact q
    · rw [if_neg hi] at h1; cases h1
theorem ext_take {ι' : List Addr} {M' : Mem} {H' : Hp} (m : RM K Ω Z ι M H) (e : Ext [] ι M H ι' M' H') : ι'.take M.length = ι ∧ Ext [] ι M H (ι'.take M.length) (M'.take M.length) H' := by
  obtain ⟨more, hm⟩ := e.pre
  have h1 : ι'.take M.length = ι := by rw [hm, ← m.len, List.take_left]
  refine ⟨h1, ⟨⟨[], by rw [h1, List.append_nil]⟩, fun a o q s t => ⟨(e.froz a o q s t).1, fun l => (e.froz a o q s t).2 (live_take l).1⟩, e.tups, e.frzs, e.there⟩⟩
open Classical in
theorem spF_scr {k : Nat} {F : FF} {vs : List V} {Q : VK} {E : XK} (h : spF K Ω k (scr F) vs H Q E) : spF K Ω k F vs H Q E := by
  obtain ⟨Z, ι, M, ts, m, rs, hl, p⟩ := h
  refine ⟨Z, ι, M, ts, m, rs, hl, ?_⟩
  unfold scr at p
  cases e : F ts M with
  | err => rw [e] at p; exact p.elim
  | ok t' M' =>
    rw [e] at p
    dsimp only at p
    split at p
    · rename_i hh
      intro ι' H' v m' x r
      exact p _ H' v (rm_take m m' hh.2) (ext_take m x).2 (hh.1.choose_spec.sound m' r)
    · exact p.elim
  | exc c t' M' =>
    rw [e] at p
    dsimp only at p
    split at p
    · rename_i hh
      intro ι' H' dd v m' x r hd
      exact fun st => p _ H' dd v (rm_take m m' hh.2) (ext_take m x).2 (hh.1.choose_spec.sound m' r) hd (still_take st)
    · exact p.elim
end
end Mi
namespace Mi
open PySem PySem.Spec PyProof.Rows L2

section
variable {X : Cx}
end
abbrev DF := TV → Mem → Res (List (T × T))
section
variable {X : Cx} {Ω : Om} {W : WX} {e : Expr} {tk : Bool} {f : DF}
end
section
variable {X : Cx} {Ω : Om} {W : WX} {e : Expr} {f : EF} {g : DF} {pos p : Pos} {keys : List (Option Expr)} {values : List Expr}
end
section
variable {K : PySem.W.Frag} {Ω : Om} {Z ι : List Addr} {M : Mem} {H : Hp}
end
section
variable {X : Cx} {Ω : Om} {W : WX} {e : Expr} {f : EF} {pos p : Pos}
end
end Mi
namespace Mi
open PySem PySem.Spec PyProof.Rows L2
section
variable {X : Cx} {Ω : Om} {W : WX} {e : Expr} {f : EF}
end
end Mi
namespace Mi
open PySem L2

class Enc (α : Type) [DecidableEq α] where
  t : α → T
  dep : Nat
  pl : ∀ n a, dep ≤ n → plainN n (t a) = true
  eq : ∀ n a b, dep ≤ n → teqN n (t a) (t b) = some (decide (a = b))
  lo : ∀ n a, (t a).lo n = true
structure Nm where
  x : List Nat
  ok : letters x = true
  deriving DecidableEq
theorem Nm.ext' {a b : Nm} (h : a.x = b.x) : a = b := by cases a; cases b; cases h; rfl
def Nm.t (w : Nm) : T := .str w.x
theorem letters_ground {x : List Nat} (h : letters x = true) : ground x = true := by
  unfold letters at h
  rw [Bool.and_eq_true, Bool.and_eq_true] at h
  refine List.all_eq_true.mpr fun c hc => ?_
  have := List.all_eq_true.mp h.2 c hc
  rw [Bool.and_eq_true, decide_eq_true_eq, decide_eq_true_eq] at this
  exact decide_eq_true (by unfold symB; omega)
theorem strEq_ground {x y : List Nat} (hx : ground x = true) (hy : ground y = true) : strEq x y = some (decide (x = y)) := by
  unfold strEq
  by_cases h : x = y
  · subst h; simp
  · have : (x == y) = false := by simpa using h
    rw [this, hx, hy, decide_eq_false h]
    rfl
instance : Enc Nm where
  t := Nm.t
  dep := 1
  pl := fun n a h => by
    cases n with
    | zero => omega
    | succ n => rfl
  eq := fun n a b h => by
    cases n with
    | zero => omega
    | succ n =>
      show strEq a.x b.x = _
      rw [strEq_ground (letters_ground a.ok) (letters_ground b.ok)]
      congr 1
      exact decide_eq_decide.mpr ⟨Nm.ext', fun h => by rw [h]⟩
  lo := fun n a => rfl
instance : Enc Int where
  t := T.int
  dep := 1
  pl := fun n a h => by
    cases n with
    | zero => omega
    | succ n => rfl
  eq := fun n a b h => by
    cases n with
    | zero => omega
    | succ n =>
      show some (a == b) = _
      by_cases e : a = b <;> simp [e]
  lo := fun n a => rfl
def natT (n : Nat) : T := .int (n : Nat)
instance : Enc Nat where
  t := natT
  dep := 1
  pl := fun n a h => by
    cases n with
    | zero => omega
    | succ n => rfl
  eq := fun n a b h => by
    cases n with
    | zero => omega
    | succ n =>
      show some ((a : Int) == (b : Int)) = _
      by_cases e : a = b
      · subst e; simp
      · have : ((a : Int) == (b : Int)) = false := by simpa using (fun z : (a : Int) = b => e (by omega))
        rw [this, decide_eq_false e]
  lo := fun n a => rfl
theorem teqs_map {α : Type} [DecidableEq α] [Enc α] {n : Nat} (h : Enc.dep α ≤ n) : ∀ (xs ys : List α), teqs (teqN n) (xs.map Enc.t) (ys.map Enc.t) = some (decide (xs = ys))
  | [], [] => rfl
  | [], _ :: _ => rfl
  | _ :: _, [] => rfl
  | x :: xs, y :: ys => by
    show (match teqN n (Enc.t x) (Enc.t y) with | some true => teqs (teqN n) (xs.map Enc.t) (ys.map Enc.t) | r => r) = _
    rw [Enc.eq n x y h]
    by_cases e : x = y
    · subst e
      rw [decide_eq_true rfl]
      show teqs (teqN n) (xs.map Enc.t) (ys.map Enc.t) = _
      rw [teqs_map h xs ys]
      by_cases e2 : xs = ys <;> simp [e2]
    · rw [decide_eq_false e]
      simp [e]
theorem los_map {α : Type} [DecidableEq α] [Enc α] {n : Nat} : ∀ (xs : List α), T.los n (xs.map Enc.t) = true
  | [] => rfl
  | x :: xs => by simp [T.los, Enc.lo, los_map xs]
theorem pl_map {α : Type} [DecidableEq α] [Enc α] {n : Nat} (h : Enc.dep α ≤ n) (xs : List α) : (xs.map Enc.t).all (plainN n) = true := by
  rw [List.all_eq_true]
  intro t ht
  obtain ⟨x, _, rfl⟩ := List.mem_map.mp ht
  exact Enc.pl n x h
def tupE {α : Type} [DecidableEq α] [Enc α] (xs : List α) : T := .tup (xs.map Enc.t)
instance {α : Type} [DecidableEq α] [Enc α] : Enc (List α) where
  t := tupE
  dep := Enc.dep α + 1
  pl := fun n a h => by
    cases n with
    | zero => omega
    | succ n => exact pl_map (by omega) a
  eq := fun n a b h => by
    cases n with
    | zero => omega
    | succ n =>
      show (bif (a.map Enc.t).length == (b.map Enc.t).length then teqs (teqN n) (a.map Enc.t) (b.map Enc.t) else some false) = _
      rw [List.length_map, List.length_map, teqs_map (by omega)]
      cases z : a.length == b.length with
      | true => rfl
      | false =>
        have : a ≠ b := fun e => by rw [e] at z; simp at z
        rw [decide_eq_false this]
        rfl
  lo := fun n a => by show T.lo n (.tup _) = true; simp [T.lo, los_map]
def pairE {α β : Type} [DecidableEq α] [DecidableEq β] [Enc α] [Enc β] (p : α × β) : T := .tup [Enc.t p.1, Enc.t p.2]
instance {α β : Type} [DecidableEq α] [DecidableEq β] [Enc α] [Enc β] : Enc (α × β) where
  t := pairE
  dep := max (Enc.dep α) (Enc.dep β) + 1
  pl := fun n a h => by
    cases n with
    | zero => omega
    | succ n =>
      show ([Enc.t a.1, Enc.t a.2] : List T).all (plainN n) = true
      simp [Enc.pl n a.1 (by omega), Enc.pl n a.2 (by omega)]
  eq := fun n a b h => by
    cases n with
    | zero => omega
    | succ n =>
      show teqs (teqN n) [Enc.t a.1, Enc.t a.2] [Enc.t b.1, Enc.t b.2] = _
      simp only [teqs, Enc.eq n a.1 b.1 (by omega), Enc.eq n a.2 b.2 (by omega)]
      obtain ⟨a1, a2⟩ := a
      obtain ⟨b1, b2⟩ := b
      by_cases e1 : a1 = b1 <;> by_cases e2 : a2 = b2 <;> simp [e1, e2]
  lo := fun n a => by show T.lo n (.tup _) = true; simp [T.lo, T.los, Enc.lo]
section
variable {α : Type} [DecidableEq α] [Enc α] {M : Mem}
end
section
variable {α : Type} {p : PF} {c : TF} {f : EF} {σ : TV} {M : Mem} {it : AF} {own : List Nat} {b : SF}
theorem forL_inv (φ : α → T) (I : List α → TV → Mem → Prop) : ∀ (xs done : List α) (σ : TV) (M : Mem), I done σ M →
    (∀ dn x rest σ M, done ++ xs = dn ++ x :: rest → I dn σ M → ∃ σ1 σ2 M2, p (φ x) σ M = some σ1 ∧ (b σ1 M = some (.nx σ2, M2) ∨ b σ1 M = some (.ct σ2, M2)) ∧ I (dn ++ [x]) σ2 M2) →
    ∃ σ2 M2, forL p b (xs.map φ) σ M = some (.nx σ2, M2) ∧ I (done ++ xs) σ2 M2
  | [], done, σ, M, h0, _ => ⟨σ, M, rfl, by simpa using h0⟩
  | x :: xs, done, σ, M, h0, hs => by
    obtain ⟨σ1, σ2, M2, h1, h2, h3⟩ := hs done x xs σ M rfl h0
    obtain ⟨σ3, M3, h4, h5⟩ := forL_inv φ I xs (done ++ [x]) σ2 M2 h3 fun dn y rest σ M e => hs dn y rest σ M (by rw [← e]; simp)
    refine ⟨σ3, M3, ?_, by simpa using h5⟩
    rw [List.map_cons]
    unfold forL
    rw [h1]
    dsimp only
    rcases h2 with h2 | h2 <;> (rw [h2]; exact h4)
theorem sFor_inv (φ : α → T) (xs : List α) (I : List α → TV → Mem → Prop) (hi : it σ M = .ok (xs.map φ) M) (h0 : I [] σ M)
    (hs : ∀ dn x rest σ M, xs = dn ++ x :: rest → I dn σ M → ∃ σ1 σ2 M2, p (φ x) σ M = some σ1 ∧ (b σ1 M = some (.nx σ2, M2) ∨ b σ1 M = some (.ct σ2, M2)) ∧ I (dn ++ [x]) σ2 M2) :
    ∃ σ2 M2, sFor p it b σ M = some (.nx σ2, M2) ∧ I xs σ2 M2 := by
  obtain ⟨σ2, M2, h1, h2⟩ := forL_inv φ I xs [] σ M h0 (by simpa using hs)
  exact ⟨σ2, M2, sFor_ok hi h1, by simpa using h2⟩
end
theorem isLoc_t {M : Mem} {n : Nat} {xs : List T} (h : M[n]? = some (.lst xs)) : locL M (.loc n) = some (n, xs) := by
  show (match M[n]? with | some (.lst ts) => some (n, ts) | _ => none) = _
  rw [h]
theorem mExtend_lst {M : Mem} {n : Nat} {xs ys : List T} (h : M[n]? = some (.lst xs)) (hl : xs.length + ys.length ≤ 2000000) : mExtend M (.loc n) [.lst ys] = some (.non, M.set n (.lst (xs ++ ys))) := by
  unfold mExtend
  rw [isLoc_t h]
  show (bif big (xs.length + ys.length) then some (T.non, M.set n (.lst (xs ++ ys))) else none) = _
  rw [show big (xs.length + ys.length) = true from decide_eq_true hl]
  rfl
theorem atI_nat {α : Type} (xs : List α) (k : Nat) : L2.atI xs (k : Nat) = xs[k]? := by
  unfold L2.atI L2.ixN
  rw [if_pos (by omega)]
  by_cases h : k < xs.length
  · rw [if_pos (by omega), Option.bind_some, Int.toNat_natCast]
  · rw [if_neg (by omega), List.getElem?_eq_none (by omega)]
    rfl
theorem opIx_seq {M : Mem} {u : T} {xs : List T} {k : Nat} {t : T} (hs : ∀ x, u ≠ .str x) (hu : seqT M u = some xs) (h : xs[k]? = some t) : opIx M u (.int (k : Nat)) = some t := by
  unfold opIx
  cases u with
  | str x => exact absurd rfl (hs x)
  | _ => (dsimp only; rw [hu]; show L2.atI xs (k : Nat) = _; rw [atI_nat, h])
section
variable {M : Mem} {a b c x : MO}
theorem tail0 {l : Mem} : (M ++ a :: l)[M.length]? = some a := by simp
theorem set0 {l : Mem} : (M ++ a :: l).set M.length x = M ++ x :: l := by rw [List.set_append_right _ _ (Nat.le_refl _), Nat.sub_self]; rfl
end
section
variable {M : Mem}
end
end Mi
namespace Mi
open PySem L2
section
variable {σ : TV} {M M1 M2 M3 : Mem} {t u z : T} {ts us : List T} {f g h fo fi fv : EF} {fa : AF} {c : TF} {s s1 s2 : SF} {i j k : Nat} {b : Bool}
theorem tTru_b {b : Bool} (h1 : f σ M = .ok (.bl b) M1) : tTru f σ M = .ok b M1 := by unfold tTru; rw [h1]; rfl
theorem eTup_ok (h1 : fa σ M = .ok ts M1) (h2 : big ts.length = true) : eTup fa σ M = .ok (.tup ts) M1 := by unfold eTup; rw [h1]; show (bif big ts.length then _ else _) = _; rw [h2]; rfl
end
end Mi
namespace Mi
open PySem L2
section
variable {σ : TV} {M M1 M2 M3 : Mem} {p : PF} {c : TF} {fk f : EF} {it : AF} {own : List Nat}
end
section
variable {α : Type} {p : PF} {b : SF} {M : Mem}
end
end Mi
namespace Mi
open PySem L2
abbrev P3 := Int × Int × Int
def potO (p : P3) : MO := .lst [.int p.1, .int p.2.1, .int p.2.2]
def pm (M : Mem) (n : Nat) (p : P3) : Mem := M.set n (potO p)
def Bud (k : Nat) (p : P3) : Prop := 0 ≤ p.1 ∧ (0 ≤ p.2.1 ∧ p.2.1 < 2305843009213693951) ∧ 0 ≤ p.2.2 ∧ p.2.2 + k ≤ 2 ^ 50
section
variable {M more l : Mem} {n i k j : Nat} {p q : P3} {F : FF} {ts : List T} {t t' : T}
theorem Bud.le (h : Bud k p) (g : j ≤ k) : Bud j p := ⟨h.1, h.2.1, h.2.2.1, by have := h.2.2.2; omega⟩
theorem pm_len : (pm M n p).length = M.length := List.length_set
theorem pm_get (h : n < M.length) : (pm M n p)[n]? = some (.lst [.int p.1, .int p.2.1, .int p.2.2]) := List.getElem?_set_self h
theorem pm_ne (h : n ≠ i) : (pm M n p)[i]? = M[i]? := List.getElem?_set_ne h
theorem pm_app (h : n < M.length) : pm (M ++ l) n p = pm M n p ++ l := List.set_append_left _ _ h
theorem pm_set : (pm M n p).set n (.lst [.int q.1, .int q.2.1, .int q.2.2]) = pm M n q := List.set_set _
theorem kept_pm (hn : n < M.length) : Kept (pm M n p) (pm M n q ++ more) := by
  refine ⟨by rw [List.length_append, pm_len, pm_len]; omega, fun i o hi h => ?_⟩
  rw [pm_len] at hi
  rw [List.getElem?_append_left (by rw [pm_len]; exact hi)] at h
  by_cases e : n = i
  · subst e
    rw [pm_get hn] at h
    cases h
    exact .inr rfl
  · rw [pm_ne e] at h ⊢
    exact .inl h
theorem scr_pm (hn : n < M.length) (h : F ts (pm M n p) = .ok t' (pm M n q ++ more)) (z : Fz (pm M n q ++ more) M.length t' t) : scr F ts (pm M n p) = .ok t (pm M n q) := by
  rw [scr_ok h (by rw [pm_len]; exact z) (kept_pm hn)]
  congr 1
  rw [pm_len, show M.length = (pm M n q).length from pm_len.symm, List.take_left]
theorem scr_pm0 (hn : n < M.length) (h : F ts (pm M n p) = .ok t (pm M n q)) (z : t.lo M.length = true) : scr F ts (pm M n p) = .ok t (pm M n q) := scr_pm (more := []) hn (by rw [List.append_nil]; exact h) (.same z)
end
theorem gt_t {M : Mem} {i j : Int} (h : j < i) : opGt M (.int i) (.int j) = some (.bl true) := by show some (T.bl (decide (j < i))) = _; rw [decide_eq_true h]
theorem gt_f {M : Mem} {i j : Int} (h : ¬ j < i) : opGt M (.int i) (.int j) = some (.bl false) := by show some (T.bl (decide (j < i))) = _; rw [decide_eq_false h]
theorem lt_t {M : Mem} {i j : Int} (h : i < j) : opLt M (.int i) (.int j) = some (.bl true) := by show some (T.bl (decide (i < j))) = _; rw [decide_eq_true h]
theorem lt_f {M : Mem} {i j : Int} (h : ¬ i < j) : opLt M (.int i) (.int j) = some (.bl false) := by show some (T.bl (decide (i < j))) = _; rw [decide_eq_false h]
theorem tim_l {M : Mem} {i j : Int} (h : -(2 ^ 64) < i ∧ i < 2 ^ 64) : opTimes M (.int i) (.int j) = some (.int (i * j)) := opMul_l (M := M) h
theorem tim_r {M : Mem} {i j : Int} (h : -(2 ^ 64) < j ∧ j < 2 ^ 64) : opTimes M (.int i) (.int j) = some (.int (i * j)) := opMul_r (M := M) h
def takeB (c1 c2 c3 c4 c5 : Int) : SF := (sSeq (sIf (tVal (eOp opGt (eOp opIx (eVar 0) (eC (.int 0))) (eC (.int 0)))) (sSeq (sSet 2 (eOp opMod (eBi bInt (aCons (eOp opIx (eVar 0) (eC (.int 0))) aNil)) (eVar 1)))
  (sSeq (sLput (eOp opFdiv (eOp opIx (eVar 0) (eC (.int 0))) (eVar 1)) (eVar 0) (eC (.int 0)))
  (sRet (eVar 2)))) sNil)
  (sSeq (sLput (eOp opPlus (eOp opIx (eVar 0) (eC (.int 2))) (eC (.int 1))) (eVar 0) (eC (.int 2)))
  (sSeq (sSet 3 (eOp opIx (eFroz (eLst (aCons (eC (.int 2147483647)) (aCons (eC (.int 2147483629)) (aCons (eC (.int 2147483587)) (aCons (eC (.int 2147483579)) (aCons (eC (.int 2147483563)) aNil))))))) (eOp opMod (eBi bInt (aCons (eOp opIx (eVar 0) (eC (.int 2))) aNil)) (eC (.int 5)))))
  (sSeq (sSet 4 (eOp opMod (eBi bInt (aCons (eOp opPow (eBi bInt (aCons (eOp opPlus (eOp opPlus (eOp opIx (eVar 0) (eC (.int 1))) (eOp opTimes (eOp opTimes (eC (.int c1)) (eOp opIx (eVar 0) (eC (.int 2)))) (eOp opIx (eVar 0) (eC (.int 2))))) (eC (.int c2))) aNil)) (eC (.int 3))) aNil)) (eVar 3)))
  (sRet (eOp opMod (eBi bInt (aCons (eOp opFdiv (eOp opTimes (eVar 4) (eOp opPlus (eOp opMod (eBi bInt (aCons (eVar 4) aNil)) (eC (.int c3))) (eOp opTimes (eC (.int c4)) (eOp opIx (eVar 0) (eC (.int 2)))))) (eC (.int c5))) aNil)) (eVar 1)))))))
def TakeOk (G : FF) : Prop := ∀ (M : Mem) (n : Nat) (p : P3) (k u : Nat), n < M.length → Bud (k + 1) p → 1 ≤ u → u ≤ 1000000 → ∃ (d : Nat) (q : P3), G [.loc n, natT u] (pm M n p) = .ok (natT d) (pm M n q) ∧ d < u ∧ Bud k q
theorem takeB_ok {c1 c2 c3 c4 c5 : Int} (h1 : 0 ≤ c1 ∧ c1 < 2 ^ 40) (h2 : 0 ≤ c2 ∧ c2 < 2 ^ 40) (h3 : 0 < c3 ∧ c3 < 2 ^ 30) (h4 : 0 ≤ c4 ∧ c4 < 2 ^ 12) (h5 : 0 < c5 ∧ c5 < 1073741824) : TakeOk (scr (runB 5 (takeB c1 c2 c3 c4 c5))) := by
  intro M n p k u hn hb hu hu2
  obtain ⟨a, b, c⟩ := p
  obtain ⟨ha, hb, hc, hk⟩ := hb
  dsimp only at ha hb hc hk
  have hM := pm_get (p := (a, b, c)) hn
  generalize hN : pm M n (a, b, c) = N at hM
  have hl : n < N.length := by rw [← hN, pm_len]; exact hn
  have nn : ∀ z : Int, 0 ≤ z % (u : Nat) ∧ z % (u : Nat) < (u : Nat) := fun z => ⟨Int.emod_nonneg _ (by omega), Int.emod_lt_of_pos _ (by omega)⟩
  have back : ∀ q : P3, N.set n (.lst [.int q.1, .int q.2.1, .int q.2.2]) = pm M n q := fun q => by rw [← hN, pm_set]
  by_cases h : 0 < a
  · obtain ⟨d, hd⟩ := Int.eq_ofNat_of_zero_le (nn a).1
    refine ⟨d, (a / (u : Nat), b, c), ?_, by have := (nn a).2; omega, Int.ediv_nonneg ha (by omega), hb, hc, by have := hk; simp only at this ⊢; omega⟩
    rw [← hN]
    refine scr_pm0 hn ?_ rfl
    rw [hN, ← back, show natT d = .int (a % (u : Nat)) by rw [hd]; rfl]
    exact runB_rt (sSeq_rt (sIf_t (tVal_ok (eOp_ok (eOp_ok (eVar_ok rfl) eC_ok (opIx_loc hM rfl)) eC_ok (gt_t h)))
      (sSeq_nx (sSet_ok (eOp_ok (eBi_ok (aCons_ok (eOp_ok (eVar_ok rfl) eC_ok (opIx_loc hM rfl)) aNil_ok) rfl) (eVar_ok rfl) (opMod_p (by omega))))
      (sSeq_nx (sLput_ok (eOp_ok (eOp_ok (eVar_ok rfl) eC_ok (opIx_loc hM rfl)) (eVar_ok rfl) (opFdiv_p (by omega))) (eVar_ok rfl) eC_ok hM rfl) (sRet_ok (eVar_ok rfl))))))
  · have hM2 : (N.set n (.lst [.int a, .int b, .int (c + 1)]))[n]? = some (.lst [.int a, .int b, .int (c + 1)]) := List.getElem?_set_self hl
    have h5' : 0 ≤ (c + 1) % 5 ∧ (c + 1) % 5 < 5 := ⟨Int.emod_nonneg _ (by omega), Int.emod_lt_of_pos _ (by omega)⟩
    obtain ⟨r, hp, hp1⟩ : ∃ p : Int, L2.atI [T.int 2147483647, .int 2147483629, .int 2147483587, .int 2147483579, .int 2147483563] ((c + 1) % 5) = some (.int p) ∧ 0 < p ∧ p ≤ 2147483647 := by
      generalize (c + 1) % 5 = r at h5'
      have : r = 0 ∨ r = 1 ∨ r = 2 ∨ r = 3 ∨ r = 4 := by omega
      rcases this with rfl | rfl | rfl | rfl | rfl
      · exact ⟨_, rfl, by decide⟩
      · exact ⟨_, rfl, by decide⟩
      · exact ⟨_, rfl, by decide⟩
      · exact ⟨_, rfl, by decide⟩
      · exact ⟨_, rfl, by decide⟩
    have hcc : 0 ≤ (c + 1) * (c + 1) ∧ (c + 1) * (c + 1) ≤ 2 ^ 50 * 2 ^ 50 := ⟨Int.mul_nonneg (by omega) (by omega), Int.mul_le_mul (by omega) (by omega) (by omega) (by omega)⟩
    have hz : c1 * (c + 1) * (c + 1) = c1 * ((c + 1) * (c + 1)) := Int.mul_assoc _ _ _
    have hz2 : 0 ≤ c1 * ((c + 1) * (c + 1)) ∧ c1 * ((c + 1) * (c + 1)) ≤ 2 ^ 40 * (2 ^ 50 * 2 ^ 50) := ⟨Int.mul_nonneg h1.1 hcc.1, Int.mul_le_mul (by omega) hcc.2 hcc.1 (by omega)⟩
    have hbt : ∀ x : Int, -(2 ^ 64) < x % c3 + c4 * (c + 1) ∧ x % c3 + c4 * (c + 1) < 2 ^ 64 := fun x => by
      have g1 := Int.emod_nonneg x (show c3 ≠ 0 by omega)
      have g2 := Int.emod_lt_of_pos x h3.1
      have g3 : 0 ≤ c4 * (c + 1) := Int.mul_nonneg h4.1 (by omega)
      have g4 : c4 * (c + 1) ≤ 2 ^ 12 * 2 ^ 50 := Int.mul_le_mul (by omega) (by omega) (by omega) (by omega)
      omega
    have run := runB_rt (n := 5) (s := takeB c1 c2 c3 c4 c5) (ts := [.loc n, natT u]) (M := N) (sSeq_nx (sIf_f (tVal_ok (eOp_ok (eOp_ok (eVar_ok rfl) eC_ok (opIx_loc hM rfl)) eC_ok (gt_f h))) sNil_ok)
      (sSeq_nx (sLput_ok (eOp_ok (eOp_ok (eVar_ok rfl) eC_ok (opIx_loc hM rfl)) eC_ok rfl) (eVar_ok rfl) eC_ok hM rfl)
      (sSeq_nx (sSet_ok (eOp_ok (eFroz_ok (eLst_ok (aCons_ok eC_ok (aCons_ok eC_ok (aCons_ok eC_ok (aCons_ok eC_ok (aCons_ok eC_ok aNil_ok))))) rfl)) (eOp_ok (eBi_ok (aCons_ok (eOp_ok (eVar_ok rfl) eC_ok (opIx_loc hM2 rfl)) aNil_ok) rfl) eC_ok (opMod_p (by omega))) (show opIx _ (.lst _) (.int _) = _ from hp)))
      (sSeq_nx (sSet_ok (eOp_ok (eBi_ok (aCons_ok (eOp_ok (eBi_ok (aCons_ok (eOp_ok (eOp_ok (eOp_ok (eVar_ok rfl) eC_ok (opIx_loc hM2 rfl)) (eOp_ok (eOp_ok eC_ok (eOp_ok (eVar_ok rfl) eC_ok (opIx_loc hM2 rfl)) (tim_l (by omega))) (eOp_ok (eVar_ok rfl) eC_ok (opIx_loc hM2 rfl)) (tim_r (by omega))) rfl) eC_ok rfl) aNil_ok) rfl) eC_ok (opPow_3 (by omega) (by omega))) aNil_ok) rfl) (eVar_ok rfl) (opMod_p hp1.1)))
      (sRet_ok (eOp_ok (eBi_ok (aCons_ok (eOp_ok (eOp_ok (eVar_ok rfl) (eOp_ok (eOp_ok (eBi_ok (aCons_ok (eVar_ok rfl) aNil_ok) rfl) eC_ok (opMod_p h3.1)) (eOp_ok eC_ok (eOp_ok (eVar_ok rfl) eC_ok (opIx_loc hM2 rfl)) (tim_l (by omega))) rfl) (tim_r (hbt _))) eC_ok (opFdiv_p h5)) aNil_ok) rfl) (eVar_ok rfl) (opMod_p (j := (u : Nat)) (by omega))))))))
    generalize hx : ((((b + c1 * (c + 1) * (c + 1) + c2) ^ 3 % r) * (((b + c1 * (c + 1) * (c + 1) + c2) ^ 3 % r) % c3 + c4 * (c + 1))) / c5) = x at run
    obtain ⟨d, hd⟩ := Int.eq_ofNat_of_zero_le (nn x).1
    refine ⟨d, (a, b, c + 1), ?_, by have := (nn x).2; omega, ha, hb, by simp only; omega, by simp only; omega⟩
    rw [← hN]
    refine scr_pm0 hn ?_ rfl
    rw [hN, ← back, show natT d = .int (x % (u : Nat)) by rw [hd]; rfl]
    exact run
end Mi
namespace Mi
open PySem L2
theorem fzs_same {M : Mem} {n : Nat} : ∀ {ts : List T}, T.los n ts = true → Fzs M n ts ts
  | [], _ => .nil
  | t :: ts, h => by
    have h' : t.lo n = true ∧ T.los n ts = true := by simpa [T.los] using h
    exact .cons (.same h'.1) (fzs_same h'.2)
theorem rngT_nat (k : Nat) : rngT 0 k = (List.range k).map natT := by
  unfold rngT
  refine List.map_congr_left fun i _ => ?_
  rw [Int.zero_add]
  rfl
def ofB (tk : FF) : SF := (sRet (eOp opIx (eVar 1) (eCall 2 tk [] (aCons (eVar 0) (aCons (eBi bLen (aCons (eVar 1) aNil)) aNil)))))
def OfOk (G : FF) : Prop := ∀ (M : Mem) (n : Nat) (p : P3) (k : Nat) (xs : List T), n < M.length → 1 ≤ xs.length → xs.length ≤ 1000 → Bud (k + 1) p → (∀ x ∈ xs, x.lo M.length = true) →
  ∃ (t : T) (q : P3), G [.loc n, .lst xs] (pm M n p) = .ok t (pm M n q) ∧ t ∈ xs ∧ Bud k q
theorem ofB_ok {tk : FF} (ht : TakeOk tk) : OfOk (scr (runB 2 (ofB tk))) := by
  intro M n p k xs hn h1 h2 hb hlo
  obtain ⟨d, q, e, hd, hq⟩ := ht M n p k xs.length hn hb h1 (by omega)
  refine ⟨xs[d], q, scr_pm0 hn (runB_rt (n := 2) (s := ofB tk) (sRet_ok (eOp_ok (eVar_ok (t := .lst xs) rfl) (eCall_ok (aCons_ok (eVar_ok (t := .loc n) rfl) (aCons_ok (eBi_ok (aCons_ok (eVar_ok (t := .lst xs) rfl) aNil_ok) rfl) aNil_ok)) rfl e) (opIx_seq (by intro x h; cases h) (xs := xs) rfl (List.getElem?_eq_getElem hd))))) (hlo _ (List.getElem_mem hd)), List.getElem_mem hd, hq⟩
def placesB : SF := (sRet (eFroz (eLrg (eBi bMax2 (aCons (eC (.int 1)) (aCons (eBi bMin2 (aCons (eVar 1) (aCons (eBi bLen (aCons (eVar 0) aNil)) aNil))) aNil))))))
theorem placesB_ok (zs : List Int) (m : Nat) (hm : m ≤ 1000) (M : Mem) : ∃ k : Nat, k ≤ m + 1 ∧ scr (runB 2 placesB) [.klst (zs.map .int), .int (m : Nat)] M = .ok (.lst ((List.range k).map natT)) M := by
  have hl : bLen M [.klst (zs.map .int)] = some (.int zs.length) := by
    show some (T.int ((zs.map T.int).length : Nat)) = _
    rw [List.length_map]
  obtain ⟨w, hw, hw1, hw2⟩ : ∃ w : Int, eBi bMax2 (aCons (eC (.int 1)) (aCons (eBi bMin2 (aCons (eVar 1) (aCons (eBi bLen (aCons (eVar 0) aNil)) aNil))) aNil)) [some (.klst (zs.map .int)), some (.int (m : Nat))] M = .ok (.int w) M ∧ 0 ≤ w ∧ w ≤ m + 1 := by
    refine ⟨if (if (zs.length : Int) < (m : Nat) then (zs.length : Int) else (m : Nat)) > 1 then (if (zs.length : Int) < (m : Nat) then (zs.length : Int) else (m : Nat)) else 1, eBi_ok (aCons_ok eC_ok (aCons_ok (eBi_ok (aCons_ok (eVar_ok rfl) (aCons_ok (eBi_ok (aCons_ok (eVar_ok rfl) aNil_ok) hl) aNil_ok)) rfl) aNil_ok)) rfl, ?_⟩
    split <;> split <;> omega
  refine ⟨w.toNat, by omega, scr_pure0 ?_ ?_⟩
  · refine runB_rt (n := 2) (s := placesB) ?_
    show placesB [some (.klst (zs.map .int)), some (.int (m : Nat))] M = _
    unfold placesB
    refine sRet_ok (eFroz_ok ?_)
    unfold eLrg
    rw [hw]
    show Res.of (bif decide (0 ≤ w) && decide (w ≤ 1000000) then some (rngT 0 w.toNat) else none) M = _
    rw [decide_eq_true hw1, decide_eq_true (show w ≤ 1000000 by omega), rngT_nat]
    rfl
  · show T.los _ _ = true
    exact los_map (α := Nat) _
theorem atI_ints {zs : List Int} {k : Nat} (h : k < zs.length) : L2.atI (zs.map T.int) (k : Nat) = some (.int zs[k]) := by
  rw [atI_nat, List.getElem?_map, List.getElem?_eq_getElem h]
  rfl
def potB (c1 c2 c3 c4 c5 : Int) : SF := (sSeq (sSet 2 (eIf (tVal (eOp opLt (eVar 1) (eBi bLen (aCons (eVar 0) aNil)))) (eOp opIx (eVar 0) (eVar 1)) (eOp opPlus (eOp opTimes (eC (.int c1)) (eVar 1)) (eC (.int c2)))))
  (sSeq (sSet 3 (eOp opTimes (eOp opMod (eBi bInt (aCons (eBi bAbs (aCons (eVar 2) aNil)) aNil)) (eOp opPow (eOp opPow (eC (.int 10)) (eC (.int 60))) (eC (.int 5)))) (eBi bInt (aCons (eOp opGe (eBi bAbs (aCons (eVar 2) aNil)) (eOp opPow (eC (.int 10)) (eC (.int 18)))) aNil))))
  (sSeq (sSet 4 (eOp opMod (eBi bInt (aCons (eVar 2) aNil)) (eC (.int 2305843009213693951))))
  (sRet (eNewL (eLst (aCons (eVar 3) (aCons (eOp opMod (eBi bInt (aCons (eOp opPlus (eOp opPlus (eOp opTimes (eVar 4) (eC (.int c3))) (eOp opTimes (eOp opTimes (eC (.int c4)) (eVar 1)) (eVar 1))) (eC (.int c5))) aNil)) (eC (.int 2305843009213693921))) (aCons (eC (.int 0)) aNil)))))))))
theorem potB_ok {c1 c2 c3 c4 c5 : Int} (h1 : 0 ≤ c1 ∧ c1 < 2 ^ 40) (h3 : 0 ≤ c3 ∧ c3 < 2 ^ 40) (h4 : 0 ≤ c4 ∧ c4 < 2 ^ 40) (zs : List Int) (k : Nat) (hk : k ≤ 100) (M : Mem) : ∃ p : P3, runB 5 (potB c1 c2 c3 c4 c5) [.klst (zs.map .int), natT k] M = .ok (.loc M.length) (M ++ [potO p]) ∧ Bud 1000000000 p := by
  obtain ⟨z, hz⟩ : ∃ z : Int, eIf (tVal (eOp opLt (eVar 1) (eBi bLen (aCons (eVar 0) aNil)))) (eOp opIx (eVar 0) (eVar 1)) (eOp opPlus (eOp opTimes (eC (.int c1)) (eVar 1)) (eC (.int c2))) [some (.klst (zs.map .int)), some (.int (k : Nat)), none, none, none] M = .ok (.int z) M := by
    have hl : bLen M [.klst (zs.map .int)] = some (.int zs.length) := by
      show some (T.int ((zs.map T.int).length : Nat)) = _
      rw [List.length_map]
    by_cases h : k < zs.length
    · exact ⟨zs[k], eIf_t (tVal_ok (eOp_ok (eVar_ok rfl) (eBi_ok (aCons_ok (eVar_ok rfl) aNil_ok) hl) (lt_t (by omega)))) (eOp_ok (eVar_ok rfl) (eVar_ok rfl) (atI_ints h))⟩
    · exact ⟨_, eIf_f (tVal_ok (eOp_ok (eVar_ok rfl) (eBi_ok (aCons_ok (eVar_ok rfl) aNil_ok) hl) (lt_f (by omega)))) (eOp_ok (eOp_ok eC_ok (eVar_ok rfl) (tim_l (by omega))) eC_ok rfl)⟩
  have pw : ∀ (i j : Int) (r : Int), (decide (0 ≤ j) && decide ((Builtin.Int.intBits i : Int) * j ≤ 2 ^ 27)) = true → i ^ j.toNat = r → opPow M (.int i) (.int j) = some (.int r) := fun i j r h1 h2 => by
    show (bif decide (0 ≤ j) && decide ((Builtin.Int.intBits i : Int) * j ≤ 2 ^ 27) then some (T.int (i ^ j.toNat)) else none) = _
    rw [h1, ← h2]
    rfl
  have p1 : ∀ σ : TV, eOp opPow (eOp opPow (eC (.int 10)) (eC (.int 60))) (eC (.int 5)) σ M = .ok (.int ((10 ^ 60) ^ 5)) M := fun σ => eOp_ok (eOp_ok eC_ok eC_ok (pw 10 60 (10 ^ 60) (by decide +kernel) rfl)) eC_ok (pw (10 ^ 60) 5 _ (by decide +kernel) rfl)
  have p2 : ∀ σ : TV, eOp opPow (eC (.int 10)) (eC (.int 18)) σ M = .ok (.int (10 ^ 18)) M := fun σ => eOp_ok eC_ok eC_ok (pw 10 18 _ (by decide +kernel) rfl)
  have hpos : (0 : Int) < (10 ^ 60) ^ 5 := by decide +kernel
  generalize ((10 : Int) ^ 60) ^ 5 = P at p1 hpos
  generalize (10 : Int) ^ 18 = P18 at p2
  generalize hw : (if z < 0 then -z else z) = w
  have hab : bAbs M [.int z] = some (.int w) := by
    show some (T.int (if z < 0 then -z else z)) = _
    rw [hw]
  obtain ⟨e, he, he1⟩ : ∃ e : Int, eBi bInt (aCons (eOp opGe (eBi bAbs (aCons (eVar 2) aNil)) (eOp opPow (eC (.int 10)) (eC (.int 18)))) aNil) [some (.klst (zs.map .int)), some (.int (k : Nat)), some (.int z), none, none] M = .ok (.int e) M ∧ 0 ≤ e ∧ e ≤ 1 := by
    refine ⟨if decide (P18 ≤ w) then 1 else 0, eBi_ok (aCons_ok (eOp_ok (eBi_ok (aCons_ok (eVar_ok rfl) aNil_ok) hab) (p2 _) rfl) aNil_ok) rfl, ?_⟩
    split <;> omega
  have hq : 0 ≤ (z % 2305843009213693951 * c3 + c4 * (k : Nat) * (k : Nat) + c5) % 2305843009213693921 ∧ (z % 2305843009213693951 * c3 + c4 * (k : Nat) * (k : Nat) + c5) % 2305843009213693921 < 2305843009213693921 := ⟨Int.emod_nonneg _ (by decide), Int.emod_lt_of_pos _ (by decide)⟩
  refine ⟨(w % P * e, (z % 2305843009213693951 * c3 + c4 * (k : Nat) * (k : Nat) + c5) % 2305843009213693921, 0), ?_, Int.mul_nonneg (Int.emod_nonneg _ (by omega)) he1.1, ⟨hq.1, Int.lt_trans hq.2 (by decide)⟩, by simp, by simp⟩
  refine runB_rt (n := 5) (s := potB c1 c2 c3 c4 c5) ?_
  show potB c1 c2 c3 c4 c5 [some (.klst (zs.map .int)), some (.int (k : Nat)), none, none, none] M = _
  unfold potB
  exact sSeq_nx (sSet_ok hz) (sSeq_nx (sSet_ok (eOp_ok (eOp_ok (eBi_ok (aCons_ok (eBi_ok (aCons_ok (eVar_ok rfl) aNil_ok) hab) aNil_ok) rfl) (p1 _) (opMod_p hpos)) he (tim_r (by omega))))
    (sSeq_nx (sSet_ok (eOp_ok (eBi_ok (aCons_ok (eVar_ok rfl) aNil_ok) rfl) eC_ok (opMod_p (j := 2305843009213693951) (by decide))))
    (sRet_ok (eNewL_ok (eLst_ok (aCons_ok (eVar_ok rfl) (aCons_ok (eOp_ok (eBi_ok (aCons_ok (eOp_ok (eOp_ok (eOp_ok (eVar_ok rfl) eC_ok (tim_r (j := c3) (by omega))) (eOp_ok (eOp_ok eC_ok (eVar_ok rfl) (tim_l (i := c4) (by omega))) (eVar_ok rfl) (tim_r (j := (k : Nat)) (by omega))) rfl) eC_ok rfl) aNil_ok) rfl) eC_ok (opMod_p (j := 2305843009213693921) (by decide))) (aCons_ok eC_ok aNil_ok))) rfl)))))
end Mi
namespace Mi
section
variable {α : Type} [DecidableEq α]
end
end Mi
namespace Mi
open PySem L2
section
variable {α : Type} [DecidableEq α] [Enc α] {M : Mem}
end
theorem eAlt_l {f g : EF} {σ : TV} {M M1 : Mem} {t : T} (h : f σ M = .ok t M1) : eAlt f g σ M = .ok t M1 := by
  unfold eAlt
  rw [h]
  rfl
end Mi
namespace Mi
open PySem L2
mutual
theorem T.lo_mono {m n : Nat} (h : m ≤ n) : ∀ {t : T}, t.lo m = true → t.lo n = true
  | .non, _ => rfl
  | .bl _, _ => rfl
  | .int _, _ => rfl
  | .str _, _ => rfl
  | .loc k, q => by
    have : k < m := of_decide_eq_true (by simpa [T.lo] using q)
    simp [T.lo]
    omega
  | .tup xs, q => by simpa [T.lo] using T.los_mono h (show T.los m xs = true by simpa [T.lo] using q)
  | .lst xs, q => by simpa [T.lo] using T.los_mono h (show T.los m xs = true by simpa [T.lo] using q)
  | .ktup xs, q => by simpa [T.lo] using T.los_mono h (show T.los m xs = true by simpa [T.lo] using q)
  | .klst xs, q => by simpa [T.lo] using T.los_mono h (show T.los m xs = true by simpa [T.lo] using q)
  | .dct _ kvs, q => by simpa [T.lo] using T.lok_mono h (show T.lok m kvs = true by simpa [T.lo] using q)
  | .obj _ xs, q => by simpa [T.lo] using T.los_mono h (show T.los m xs = true by simpa [T.lo] using q)
  | .xob _ t, q => by simpa [T.lo] using T.lo_mono h (show T.lo m t = true by simpa [T.lo] using q)
theorem T.los_mono {m n : Nat} (h : m ≤ n) : ∀ {ts : List T}, T.los m ts = true → T.los n ts = true
  | [], _ => by simp [T.los]
  | t :: ts, q => by
    have q' : t.lo m = true ∧ T.los m ts = true := by simpa [T.los] using q
    simp [T.los, T.lo_mono h q'.1, T.los_mono h q'.2]
theorem T.lok_mono {m n : Nat} (h : m ≤ n) : ∀ {ts : List (T × T)}, T.lok m ts = true → T.lok n ts = true
  | [], _ => by simp [T.lok]
  | (a, t) :: ts, q => by
    have q' : t.lo m = true ∧ T.lok m ts = true := by simpa [T.lok] using q
    simp [T.lok, T.lo_mono h q'.1, T.lok_mono h q'.2]
end
section
variable {σ : TV} {M M1 M2 : Mem} {f g : EF} {t u : T}
end
section
variable {G : FF} {M : Mem} {n : Nat} {p : P3} {k u : Nat}
end
end Mi
namespace Mi
open PySem PySem.Spec PyProof.Rows L2
structure Sw (d : Addr) (u : HO) (H H' : Hp) : Prop where
  isD : (∃ ws, u = .dK ws) ∨ ∃ ws, u = .dT ws
  same : ∀ a, a ≠ d → H' a = H a
  at_ : (H d = some u ∧ ∃ od, H' d = some (.frz od u)) ∨ (H' d = some u ∧ ∃ od, H d = some (.frz od u))
section
variable {d : Addr} {u : HO} {H H' : Hp}
theorem Sw.free {od : Obj} (hD : (∃ ws, u = .dK ws) ∨ ∃ ws, u = .dT ws) (h : H d = some (.frz od u)) : Sw d u H (upd H d u) := ⟨hD, fun a ha => upd_ne ha, .inr ⟨upd_same, od, h⟩⟩
theorem Sw.rd (s : Sw d u H H') {a : Addr} {v : HO} (h : Rd H a v) (hv : ∀ o w, v ≠ .frz o w) : Rd H' a v := by
  by_cases e : a = d
  · subst e
    rcases s.at_ with ⟨h1, od, h2⟩ | ⟨h1, od, h2⟩
    · rcases h with h | ⟨o, h⟩
      · rw [h1] at h
        cases h
        exact .inr ⟨od, h2⟩
      · rw [h1] at h
        cases h
        rcases s.isD with ⟨_, q⟩ | ⟨_, q⟩ <;> cases q
    · rcases h with h | ⟨o, h⟩
      · rw [h2] at h
        cases h
        exact absurd rfl (hv _ _)
      · rw [h2] at h
        cases h
        exact .inl h1
  · rcases h with h | ⟨o, h⟩
    · exact .inl (by rw [s.same a e]; exact h)
    · exact .inr ⟨o, by rw [s.same a e]; exact h⟩
theorem Sw.eq (s : Sw d u H H') {a : Addr} {o : HO} (h : H a = some o) (h1 : ∀ o' w, o ≠ .frz o' w) (h2 : ∀ ws, o ≠ .dK ws) (h3 : ∀ ws, o ≠ .dT ws) : H' a = some o := by
  by_cases e : a = d
  · subst e
    rcases s.at_ with ⟨g, _⟩ | ⟨_, _, g⟩
    · rw [g] at h
      cases h
      rcases s.isD with ⟨_, q⟩ | ⟨_, q⟩
      · exact absurd q (h2 _)
      · exact absurd q (h3 _)
    · rw [g] at h
      cases h
      exact absurd rfl (h1 _ _)
  · rw [s.same a e]; exact h
theorem Sw.frz (s : Sw d u H H') {a : Addr} {o : Obj} {w : HO} (h : H a = some (.frz o w)) (h2 : ∀ ws, w ≠ .dK ws) (h3 : ∀ ws, w ≠ .dT ws) : H' a = some (.frz o w) := by
  by_cases e : a = d
  · subst e
    rcases s.at_ with ⟨g, _⟩ | ⟨_, _, g⟩
    · rw [g] at h
      cases h
      rcases s.isD with ⟨_, q⟩ | ⟨_, q⟩ <;> cases q
    · rw [g] at h
      cases h
      rcases s.isD with ⟨_, q⟩ | ⟨_, q⟩
      · exact absurd q (h2 _)
      · exact absurd q (h3 _)
  · rw [s.same a e]; exact h
theorem Sw.sqt {K : PySem.W.Frag} (s : Sw d u H H') {a : Addr} {vs : List V} (h : SqT K H a vs) : SqT K H' a vs := by
  rcases h with h | h
  · exact .inl (s.rd h (by intro _ _ z; cases z))
  · exact .inr h
theorem Sw.nd {K : PySem.W.Frag} (s : Sw d u H H') {a : Addr} (h : ND K H a) : ND K H' a := h.elim (fun ⟨o, ws, q, r⟩ => .inl ⟨o, ws, s.frz q (by intro _ z; cases z) (by intro _ z; cases z), r⟩) .inr
variable {K : PySem.W.Frag} {Ω : Om} {Z ι : List Addr} {M : Mem}
theorem Sw.there (s : Sw d u H H') {a : Addr} (h : H a ≠ none) : H' a ≠ none := by
  by_cases e : a = d
  · subst e
    rcases s.at_ with ⟨_, _, g⟩ | ⟨g, _⟩ <;> (rw [g]; exact nofun)
  · rw [s.same a e]; exact h
end
end Mi
namespace Mi
open PySem PySem.Spec PyProof.Rows L2
section
variable {X : Cx} {e tg : Expr} {t : TE} {st : Stmt} {ts : TS}
end
end Mi
namespace Mi
open PySem PySem.Spec PyProof.Rows L2
section
variable {K : PySem.W.Frag} {Ω : Om} {W : WX} {gt : TG} {pf : PF} {vs : List Nat} {b : SF}
end
section
variable {X : Cx} {Ω : Om} {W : WX} {tg e : Expr} {body : List Stmt} {gt : TG} {pf : PF} {vs : List Nat} {b : SF} {f : EF} {pos : Pos}
end
end Mi
namespace Mi
open PySem PySem.Spec PyProof.Rows L2
section
variable {K : PySem.W.Frag} {Ω : Om} {W : WX} {gt : TG} {pf : PF} {vs : List Nat} {c : TF} {f : EF} {own : List (Str × Nat)}
end
section
variable {X : Cx} {Ω : Om} {W : WX} {elt e tg : Expr} {f fd : EF} {c : TF} {pos : Pos} {ifs : List Expr} {scope : Scope} {own : List (Str × Nat)} {gt : TG} {pf : PF} {vs : List Nat}
end
end Mi
namespace Mi
open PySem PySem.Spec PyProof.Rows L2
section
variable {X : Cx} {e : Expr} {te : TE} {p apos cpos pos : Pos}
end
theorem RO.grow {K : PySem.W.Frag} {Ω : Om} {Z Z' ι : List Addr} {M : Mem} {H : Hp} (g : ∀ z ∈ Z', z ∈ Z ∨ H z = none) : ∀ {o : MO} {a : Addr}, RO K Ω Z ι M H o a → RO K Ω Z' ι M H o a
  | _, _, .gone q => .gone q
  | _, _, .lst q r => .lst q (r.grow g)
  | _, _, .dK q k r => .dK q k (r.grow g)
  | _, _, .dT q k r => .dT q k (r.grow g)
  | _, _, .obj q k r => .obj q k (r.grow g)
section
variable {X : Cx} {Ω : Om} {W : WX} {e : Expr} {fo : EF} {p apos cpos pos : Pos}
end
end Mi
namespace Mi
open PySem PySem.Spec PyProof.Rows L2
section
variable {K : PySem.W.Frag} {Ω : Om} {X : Cx}
end
section
variable {M M1 M2 : Mem} {f g fi fo : EF} {σ : TV}
end
section
variable {p : PF} {b : SF} {it : AF}
end
end Mi
namespace Mi
open PySem PySem.Spec PyProof.Rows L2
structure FnQ (P : Program) (w : World) (K : PySem.W.Frag) (mg : Str → Option Value) (base : Heap) (CX : CXT) (k : Nat) (f : Addr) (fd : FuncData) (ps : List Str) (sp : Sp) : Prop where
  len : ∀ vs H Q E, sp vs H Q E → vs.length = ps.length
  run : ∀ (A : Around) (outer : List Env) (s : Shared) (H : Hp) (args : Args) (us : List Value) (vs : List V) (Q : VK) (E : XK), Room k A → A.guards = some [] → Env0 P w K mg base A outer s H → BindsTo s fd args (ps.zip us) → Vals vs us → sp vs H Q E → codeAny (model P w) A (.call (.ref f) args) (CR CX outer P w H s Q E) s
section
variable {P : Program} {w : World} {K : PySem.W.Frag} {mg : Str → Option Value} {base : Heap} {Ω : Om} {CX : CXT} {k : Nat} {f : Addr} {fd : FuncData} {ps : List Str} {sp sp' : Sp}
theorem FnQ.imp (F : FnQ P w K mg base CX k f fd ps sp) (h : ∀ vs H Q E, sp' vs H Q E → sp vs H Q E) : FnQ P w K mg base CX k f fd ps sp' :=
  ⟨fun vs H Q E q => F.len vs H Q E (h _ _ _ _ q), fun A outer s H args us vs Q E hr hg e0 hb hv hs => F.run A outer s H args us vs Q E hr hg e0 hb hv (h _ _ _ _ hs)⟩
theorem _root_.L2.FnOk.q (F : FnOk P w K mg base CX k f fd ps sp) : FnQ P w K mg base CX k f fd ps sp :=
  ⟨F.len, fun A outer s H args us vs Q E hr _ e0 hb hv hs => F.run A outer s H args us vs Q E hr e0 hb hv hs⟩
def BodyQ (P : Program) (w : World) (K : PySem.W.Frag) (mg : Str → Option Value) (base : Heap) (Ω : Om) (k : Nat) (N : List Str) (sc : Scope) (body : List Stmt) (b : SF) : Prop :=
  ∀ (qual : Str) (f : Addr) (cdv : Value) (A : Around) (outer : List Env) (s : Shared) (H : Hp) (E : XK), Room k (A.deeper (envOfC qual sc s.heap.objs.size f cdv)) → (A.deeper (envOfC qual sc s.heap.objs.size f cdv)).guards = some [] → MSs (cxD P w K mg base N qual sc f cdv A outer s H E) Ω (fun c d _ H' => E c d H') body b
theorem fnQ_of {x qual : Str} {params : Arguments} {body : List Stmt} {scope : Scope} {N : List Str} {b : SF} {dvs : List V} {kws : List (Str × V)} (F : FunD K x qual params body scope dvs kws f fd) (S : FnScope N ps scope) (hb : BodyQ P w K mg base Ω k N scope body b) : FnQ P w K mg base (L2.CX P w) (k + 1) f fd ps (spF K Ω ps.length (runB N.length b)) := by
  obtain ⟨oc, od, dV, kV, doc, pm, an, cdv, ct, osl, rfl, lk, hcd, _, _⟩ := F.ex
  have hlen : ∀ vs H Q E, spF K Ω ps.length (runB N.length b) vs H Q E → vs.length = ps.length := fun vs H Q E ⟨Z, ι, M, ts, m, rs, hl, _⟩ => by rw [← rs.length]; exact hl
  refine ⟨hlen, fun A outer s H args us vs Q E hr hg e0 hbd hv hs => ?_⟩
  exact LamX.run_ofS lk hcd S hr e0 hbd hv (hlen _ _ _ _ hs) fun hr2 => body_ok (k := 0) (hb qual f cdv A outer s H E hr2 hg) hs
structure FnGQ (P : Program) (w : World) (K : PySem.W.Frag) (mg : Str → Option Value) (base : Heap) (Ω : Om) (x : Str) (k n : Nat) (dts : List T) (F : FF) : Prop where
  ex : ∃ (f : Addr) (fd : FuncData) (ps : List Str), mg x = some (.ref f) ∧ PySem.W.keepIn K (.ref f) = true ∧ ps.length = n ∧ FnQ P w K mg base (L2.CX P w) k f fd ps (spF K Ω n F) ∧
    ∀ j ≤ dts.length, ∃ (ds : List Value) (dvs : List V), Binds K fd ps ds ∧ Vals dvs ds ∧ ∀ Z ι M H, Rs K Ω Z ι M H (dts.drop j) dvs
end
section
variable {X : Cx} {Ω : Om} {W : WX} {e : Expr} {es : List Expr} {fa : AF} {pos p : Pos} {F : FF} {k n : Nat} {dts : List T} {x : Str}
theorem pe_callQ {CX : CXT} {f : Addr} {fd : FuncData} {ps : List Str} {sp : Sp} {dvs : List V} {ds : List Value} {E : L2.St → XK} {t : TA} (Fn : FnQ X.prog X.w X.K X.mg X.base CX k f fd ps sp) (hr : Room k X.A) (hgd : X.A.guards = some []) (hg : Gl X x) (hm : X.mg x = some (.ref f)) (hk : PySem.W.keepIn X.K (.ref f) = true) (hb : Binds X.K fd ps ds) (hd : Vals dvs ds) (hx : ∀ σ, PassesAt CX X σ (E σ)) (ha : PA X (e :: es) t) (hdb : (x == ("__debug__" : Str)) = false := by decide) (he : starEach (e :: es) X.env = (false, eval e X.env) :: starEach es X.env := by rfl) (hpl : (backTo pos (starEach es X.env)).any (·.1) = false := by rfl) :
    PE X (.Call (.Name x p) (e :: es) [] pos) (tCallSD sp dvs E t) := ⟨fun pins s σ H Q I h => wpAny_Call_Name_kw (ld_glob I hg hm (PySem.W.callWith_K (h₀ := X.base) I.ok.mod.kin hk (thn (ha.run pos pins s σ H _ I h) fun us s1 ⟨vs, H1, I1, r, q⟩ => ⟨I1.kIn, by
  have both : Vals (vs ++ dvs) (us ++ ds) := r.append hd
  have same : (us ++ ds).length = ps.length := both.length.symm.trans (Fn.len _ _ _ _ q)
  refine wpAny_call (codeAny_mono (Fn.run X.A X.stack s1 H1 ⟨us, []⟩ _ _ Q (E σ) hr hgd I1.env0 (hb s1 us I1.kIn same) both q) fun out s2 hq => ?_)
  match out, hq with
  | .error er, hq => exact hx σ pins H1 s1 er s2 I1 hq
  | .ok (.ret u), hq => exact I1.after hq
  | .ok .next, hq => exact hq.elim
  | .ok .brk, hq => exact hq.elim
  | .ok .cont, hq => exact hq.elim⟩) he hpl) hdb)⟩
theorem me_callQ (j : Nat) (G : FnGQ X.prog X.w X.K X.mg X.base Ω x k n dts F) (hr : Room k X.A) (hgd : X.A.guards = some []) (tk : Takes X W) (hg : Gl X x) (ha : MA X Ω W (e :: es) fa) (hj : j ≤ dts.length := by decide) (hdb : (x == ("__debug__" : Str)) = false := by decide)
    (he : starEach (e :: es) X.env = (false, eval e X.env) :: starEach es X.env := by rfl) (hpl : (backTo pos (starEach es X.env)).any (·.1) = false := by rfl) :
    ME X Ω W (.Call (.Name x p) (e :: es) [] pos) (eCall n F (dts.drop j) fa) := by
  obtain ⟨f, fd, ps, gm, kp, hl, ok, bd⟩ := G.ex
  obtain ⟨ds, dvs, hb, hv, hd⟩ := bd j hj
  exact L2PE.imp (pe_callQ ok hr hgd hg gm kp hb hv (passAtW tk) ha hdb he hpl) fun σ H Q q => call_of (fun _ => rfl) (fun _ _ _ _ h => h) hd q
end
mutual
def few : T → Bool
  | .non => true
  | .bl _ => true
  | .int i => decide (i.natAbs < 10 ^ 12)
  | .str _ => true
  | .tup ts => fews ts
  | .lst ts => fews ts
  | _ => false
def fews : List T → Bool
  | [] => true
  | t :: ts => few t && fews ts
end
mutual
def wt : T → Nat
  | .int _ => 60
  | .str x => 8 * x.length
  | .tup ts => wts ts
  | .lst ts => wts ts
  | _ => 0
def wts : List T → Nat
  | [] => 0
  | t :: ts => wt t + 1 + wts ts
end
mutual
def tsame : T → T → Bool
  | .non, .non => true
  | .bl a, .bl b => a == b
  | .int i, .int j => i == j
  | .str x, .str y => x == y
  | .tup xs, .tup ys => tsames xs ys
  | .lst xs, .lst ys => tsames xs ys
  | _, _ => false
def tsames : List T → List T → Bool
  | [], [] => true
  | x :: xs, y :: ys => tsame x y && tsames xs ys
  | _, _ => false
end
mutual
theorem tsame_eq : ∀ {t u : T}, tsame t u = true → t = u
  | .non, u, h => by cases u <;> first | rfl | (simp [tsame] at h)
  | .bl a, u, h => by cases u <;> first | (simp [tsame] at h; rw [h]) | (simp [tsame] at h)
  | .int i, u, h => by cases u <;> first | (simp [tsame] at h; rw [h]) | (simp [tsame] at h)
  | .str x, u, h => by cases u <;> first | (simp [tsame] at h; rw [h]) | (simp [tsame] at h)
  | .tup xs, u, h => by
    cases u with
    | tup ys => rw [tsames_eq (show tsames xs ys = true by simpa [tsame] using h)]
    | _ => simp [tsame] at h
  | .lst xs, u, h => by
    cases u with
    | lst ys => rw [tsames_eq (show tsames xs ys = true by simpa [tsame] using h)]
    | _ => simp [tsame] at h
  | .dct _ _, u, h => by cases u <;> simp [tsame] at h
  | .obj _ _, u, h => by cases u <;> simp [tsame] at h
  | .xob _ _, u, h => by cases u <;> simp [tsame] at h
  | .ktup _, u, h => by cases u <;> simp [tsame] at h
  | .klst _, u, h => by cases u <;> simp [tsame] at h
  | .loc _, u, h => by cases u <;> simp [tsame] at h
theorem tsames_eq : ∀ {ts us : List T}, tsames ts us = true → ts = us
  | [], [], _ => rfl
  | [], _ :: _, h => by simp [tsames] at h
  | _ :: _, [], h => by simp [tsames] at h
  | t :: ts, u :: us, h => by
    have h : (tsame t u && tsames ts us) = true := by simpa [tsames] using h
    rw [Bool.and_eq_true] at h
    rw [tsame_eq h.1, tsames_eq h.2]
end
section
variable {Ω : Om}
mutual
theorem few_dat : ∀ {t : T}, few t = true → (dat Ω t).intsShort 13 = true ∧ (dat Ω t).showable = true ∧ (dat Ω t).weight ≤ wt t
  | .non, _ => by simp [dat, PyData.intsShort, PyData.showable, PyData.weight]
  | .bl _, _ => by simp [dat, PyData.intsShort, PyData.showable, PyData.weight]
  | .int i, h => by
    have h : i.natAbs < 10 ^ 12 := of_decide_eq_true h
    have h1 := PyData.shown_int_le h
    refine ⟨by simpa [dat, PyData.intsShort] using h1, ?_, ?_⟩
    · have : i.natAbs.log2 < 1920 := by
        by_cases z : i.natAbs = 0
        · rw [z]; decide
        · exact (Nat.log2_lt z).mpr (Nat.lt_of_lt_of_le h (by decide))
      simpa [dat, PyData.showable] using this
    · show (dat Ω (.int i)).weight ≤ 60
      simp only [dat, PyData.weight]
      split
      · omega
      · rename_i z
        have z' : i.natAbs ≠ 0 := fun e => by simp at z; omega
        have : i.natAbs.log2 < 59 := (Nat.log2_lt z').mpr (Nat.lt_of_lt_of_le h (by decide))
        omega
  | .str x, _ => by
    refine ⟨by simp [dat, PyData.intsShort], by simp [dat, PyData.showable], ?_⟩
    have := spell_le (Ω := Ω) (x := x)
    show (dat Ω (.str x)).weight ≤ 8 * x.length
    simp only [dat, PyData.weight, toStr]
    simpa using this
  | .tup ts, h => by
    obtain ⟨a, b, c⟩ := fews_dat (show fews ts = true by simpa [few] using h)
    exact ⟨by simpa [dat, PyData.intsShort] using a, by simpa [dat, PyData.showable] using b, by simpa [dat, PyData.weight, wt] using c⟩
  | .lst ts, h => by
    obtain ⟨a, b, c⟩ := fews_dat (show fews ts = true by simpa [few] using h)
    exact ⟨by simpa [dat, PyData.intsShort] using a, by simpa [dat, PyData.showable] using b, by simpa [dat, PyData.weight, wt] using c⟩
  | .dct _ _, h => by simp [few] at h
  | .obj _ _, h => by simp [few] at h
  | .xob _ _, h => by simp [few] at h
  | .ktup _, h => by simp [few] at h
  | .klst _, h => by simp [few] at h
  | .loc _, h => by simp [few] at h
theorem fews_dat : ∀ {ts : List T}, fews ts = true → PyData.intsShortAll 13 (dats Ω ts) = true ∧ PyData.showableAll (dats Ω ts) = true ∧ PyData.weightAll (dats Ω ts) ≤ wts ts
  | [], _ => by simp [dats, PyData.intsShortAll, PyData.showableAll, PyData.weightAll]
  | t :: ts, h => by
    have h : (few t && fews ts) = true := by simpa [fews] using h
    rw [Bool.and_eq_true] at h
    obtain ⟨a, b, c⟩ := few_dat h.1
    obtain ⟨d, e, f⟩ := fews_dat h.2
    refine ⟨by simp [dats, PyData.intsShortAll, a, d], by simp [dats, PyData.showableAll, b, e], ?_⟩
    simp only [dats, PyData.weightAll, wts]
    omega
end
def short (t : T) : Bool := plainN 60 t && few t && decide (wt t ≤ 100000)
abbrev rRepr (K : PySem.W.Frag) : List V → Hp → VK → Prop := fun xs H Q => ∃ v d, xs = [v] ∧ Dp K H v d ∧ d.canLay0 = true ∧ d.depth ≤ 60 ∧ d.showable = true ∧ d.shown.length ≤ 2000000 ∧ Q (.str d.shown) H
theorem call_reprD {X : Cx} (hgd : X.A.guards = some []) (hu : X.A.units + 65 < cLine) : CallR X (.builtin "repr") (rRepr X.K) := by
  intro pins s σ H xs us Q I r h
  obtain ⟨v, d, rfl, dp, cl, hd, hs, hz, q⟩ := h
  obtain ⟨u, rfl, ru⟩ := vals1 r
  obtain ⟨as, rd⟩ := Dp.reads I d v u dp ru
  have hz2 : d.shown.length ≤ sizeLine := by rw [sizeLine_eq]; omega
  have hnd := PyData.hasDict_of_canLay d cl
  cases rd with
  | none => exact PySem.P.repr_of_none ⟨.str (PyData.none).shown, H, I.tok _, ⟨_, rfl⟩, q⟩
  | bool b => exact PySem.P.repr_of_bool ⟨.str (PyData.bool b).shown, H, I.tok _, ⟨_, rfl⟩, q⟩
  | int i t => exact PySem.P.repr_of_int (by simpa [PyData.showable] using hs) ⟨.str (PyData.int i).shown, H, I.tok _, ⟨_, rfl⟩, q⟩
  | str x t => exact PySem.P.repr_of_str ⟨.str (PyData.str x).shown, H, I.tok _, ⟨_, rfl⟩, q⟩ hz2
  | list h1 h2 h3 h4 => exact repr_of_reads' (.list h1 h2 h3 h4) hs (PyData.noDict_hsm hnd) hgd (by omega) (fun _ _ e => e) (fun h' u tk hk => ⟨.str _, H, I.kept (t' := tk) hk, ⟨_, rfl⟩, q⟩) hz2
  | tuple h1 h2 h3 h4 => exact repr_of_reads' (.tuple h1 h2 h3 h4) hs (PyData.noDict_hsm hnd) hgd (by omega) (fun _ _ e => e) (fun h' u tk hk => ⟨.str _, H, I.kept (t' := tk) hk, ⟨_, rfl⟩, q⟩) hz2
  | dict h1 h2 h3 h4 h5 => exact absurd hnd (by simp [PyData.hasDict])
theorem short_dp {K : PySem.W.Frag} {Z ι : List Addr} {M : Mem} {H : Hp} {t : T} {v : V} (r : R K Ω Z ι M H t v) (h : short t = true) {Q : VK} (q : Q (.str (dat Ω t).shown) H) : rRepr K [v] H Q := by
  unfold short at h
  rw [Bool.and_eq_true, Bool.and_eq_true, decide_eq_true_eq] at h
  obtain ⟨⟨h1, h2⟩, h3⟩ := h
  obtain ⟨c1, c2⟩ := plain_dat (Ω := Ω) 60 t h1
  obtain ⟨d1, d2, d3⟩ := few_dat (Ω := Ω) h2
  have h4 := PyData.shown_le 13 (by decide) _ (PyData.leavesShort_of_canLay0 13 _ c1 d1)
  exact ⟨v, _, rfl, r.dp 60 h1, c1, c2, d2, by omega, q⟩
section
variable {X : Cx} {W : WX} {e1 e2 : Expr} {f g : EF} {p1 p2 q1 q2 pos : Pos}
end
end
end Mi
namespace Mi
open PySem PySem.Spec PyProof.Rows L2
abbrev EndOk (s₁ : Shared) : Result → Shared → Prop := fun r s' => r = .ok (.ret (.bool true)) ∧ OldK s₁.heap s'.heap ∧ s'.os = s₁.os ∧ AllBare s'.gens
section
variable {P : Program} {w : World} {K : PySem.W.Frag} {mg mb : Str → Option Value} {k : Nat} {fa a : Addr} {fd : FuncData} {x : Str} {sp : Sp} {s₁ : Shared} {vs : List Value} {ns : List Int}
end
theorem calm_fnQ {P : Program} {w : World} {K : PySem.W.Frag} {mg : Str → Option Value} {base : Heap} {k : Nat} {f : Addr} {fd : FuncData} {ps : List Str} {sp : Sp} (F : FnQ P w K mg base (L2.CX P w) k f fd ps sp) : FnQ P w K mg base (fun _ _ _ _ _ _ => False) k f fd ps (fun vs H Q _ => sp vs H Q fun _ _ _ => False) :=
  ⟨fun vs H Q _ h => F.len vs H Q _ h, fun A outer s H args us vs Q E hr hg e0 hb hv hs => codeAny_mono (F.run A outer s H args us vs Q _ hr hg e0 hb hv hs) fun r s' hq => by
    match r, hq with
    | .error e, hq =>
      obtain ⟨_, _, _, _, _, _, _, _, _, _, _, _, _, he⟩ := hq

    | .ok (.ret u), hq => exact hq
    | .ok .next, hq => exact hq
    | .ok .brk, hq => exact hq
    | .ok .cont, hq => exact hq⟩
end Mi
namespace Mi
open PySem PySem.Spec PyProof.Rows L2
section
variable {P : Program} {w : World} {K : PySem.W.Frag} {mg : Str → Option Value} {base : Heap} {Ω : Om} {x : Str} {k n : Nat} {f : Addr} {fd : FuncData} {ps : List Str} {dts : List T} {F : FF}
theorem gFnQ (hl : ps.length = n) (gm : mg x = some (.ref f)) (kp : PySem.W.keepIn K (.ref f) = true) (ok : FnQ P w K mg base (L2.CX P w) k f fd ps (spF K Ω n F)) (bd : BndL K fd ps Ω dts) : FnGQ P w K mg base Ω x k n dts F := ⟨f, fd, ps, gm, kp, hl, ok, bd⟩
end
section
variable {X : Cx} {Ω : Om} {W : WX} {e1 e2 : Expr} {f g : EF} {p1 p2 q1 q2 pos : Pos}
end
section
variable {K : PySem.W.Frag} {Ω : Om}
end
section
variable {M M1 M2 : Mem} {f g : EF} {σ : TV} {t : T}
end
end Mi
namespace Mi
open PySem Mi L2
section
variable {α β : Type} {p p1 : PF} {it it1 : AF} {c c1 : TF} {f : EF} {σ : TV} {M : Mem} {own vs1 : List Nat}
end
section
variable {M : Mem} {f : EF} {fa : AF} {σ : TV}
end
section
end
end Mi
namespace Mi
open PySem Mi L2
section
variable {α β : Type} {p : PF} {b : SF}
end
section
variable {α γ δ : Type}
end
section
end
section
end
section
variable {α β : Type} {p : PF} {f : EF} {σ : TV} {n : Nat} {N : Mem}
end
end Mi
namespace Mi
open PySem PySem.Spec PyProof.Rows L2
section
variable {X : Cx} {CX : CXT} {E : L2.St → XK} {x : Str} {f : Addr} {fd : FuncData} {ps : List Str} {ds : List Value} {dvs : List V} {sp : Sp} {k : Nat} {p pos : Pos}
end
section
variable {X : Cx} {Ω : Om} {W : WX} {x : Str} {k n : Nat} {dts : List T} {F : FF} {p pos : Pos}
end
section
variable {K : PySem.W.Frag} {Ω : Om}
end
end Mi
namespace ZpL
open PySem PySem.Calls PyProof.Rows PyProof.V PySem.Spec
theorem ne_above {a lo b : Nat} (h1 : a ≤ lo) (h2 : lo < b) : b ≠ a := by omega
structure ZG (xs ys : Array Value) (lo : Addr) (h : Heap) (as : List Addr) : Prop where
  rise : as.Pairwise (· < ·)
  above : ∀ a ∈ as, lo < a
  pairs : ∀ (j : Nat) (a : Addr), as[j]? = some a → ∃ x y, xs[j]? = some x ∧ ys[j]? = some y ∧ IsPair h a x y
theorem ZG.there {xs ys : Array Value} {lo : Addr} {h : Heap} {as : List Addr} (g : ZG xs ys lo h as) {a : Addr} (ha : a ∈ as) : a < h.objs.size := by
  obtain ⟨j, hj⟩ := List.mem_iff_getElem?.mp ha
  obtain ⟨_, _, _, _, e⟩ := g.pairs j a hj
  exact Heap.lt_size e
theorem ZG.low {xs ys : Array Value} {lo lo' : Addr} {h : Heap} {as : List Addr} (g : ZG xs ys lo h as) (hl : lo' ≤ lo) : ZG xs ys lo' h as := ⟨g.rise, fun a ha => Nat.lt_of_le_of_lt hl (g.above a ha), g.pairs⟩
def ZSt (h : Heap) (z TI TO i1 i2 l1 l2 S : Addr) (i : Nat) : Prop :=
  IsPair h TI (.ref i1) (.ref i2) ∧ h.IsListIter i1 l1 i ∧ h.IsListIter i2 l2 i ∧ ((IsZip h z TI TO .none ∧ ∃ a b, IsPair h TO a b) ∨ ∃ (T : Addr) (f : Bool) (oT : Obj), IsZipHeld h z TI TO T f ∧ h.get? T = some oT ∧ T ≠ z ∧ T ≠ i1 ∧ T ≠ i2 ∧ T ≠ S)
section
variable {prog : Program} {w : World} {A : Around} {E : Value → Shared → Prop} {s : Shared} {z TI TO i1 i2 l1 l2 S : Addr} {i : Nat} {xs ys : Array Value}
theorem ZSt.lt {h : Heap} (st : ZSt h z TI TO i1 i2 l1 l2 S i) : z < h.objs.size ∧ i1 < h.objs.size ∧ i2 < h.objs.size ∧ TI < h.objs.size := by
  obtain ⟨hTI, ⟨o1, h1, _⟩, ⟨o2, h2, _⟩, hz | ⟨T, f, oT, hz, _⟩⟩ := st
  · exact ⟨Heap.lt_size hz.1, Heap.lt_size h1, Heap.lt_size h2, Heap.lt_size hTI⟩
  · exact ⟨Heap.lt_size hz, Heap.lt_size h1, Heap.lt_size h2, Heap.lt_size hTI⟩
theorem ZSt.keep {h h' : Heap} (D : ZipApart z TI TO i1 i2 l1 l2) (st : ZSt h z TI TO i1 i2 l1 l2 S i) (hS : S ≠ z ∧ S ≠ TO ∧ S ≠ i1 ∧ S ≠ i2 ∧ S ≠ TI) (up : ∀ b o, b ≠ S → h.get? b = some o → h'.get? b = some o) : ZSt h' z TI TO i1 i2 l1 l2 S i := by
  obtain ⟨s1, s2, s3, s4, s5⟩ := hS
  obtain ⟨hTI, ⟨o1, h1, r1⟩, ⟨o2, h2, r2⟩, ⟨hz, a, b, hTO⟩ | ⟨T, f, oT, hz, hT, t1, t2, t3, t4⟩⟩ := st
  · exact ⟨up _ _ s5.symm hTI, ⟨o1, up _ _ s3.symm h1, r1⟩, ⟨o2, up _ _ s4.symm h2, r2⟩, .inl ⟨up _ _ s1.symm hz, a, b, up _ _ s2.symm hTO⟩⟩
  · exact ⟨up _ _ s5.symm hTI, ⟨o1, up _ _ s3.symm h1, r1⟩, ⟨o2, up _ _ s4.symm h2, r2⟩, .inr ⟨T, f, oT, up _ _ s1.symm hz, up _ _ t4 hT, t1, t2, t3, t4⟩⟩
end
section
variable {prog : Program} {w : World} {A : Around} {s : Shared} {R : Result → Shared → Prop} {z TI TO i1 i2 l1 l2 S : Addr} {xs ys : Array Value}
theorem zip_no_len : typeLookup (.type "zip") "__len__" = pure none := am_miss_of_fast (by decide +kernel)
theorem zip_no_hint : typeLookup (.type "zip") "__length_hint__" = pure none := am_miss_of_fast (by decide +kernel)
end
section
variable {prog : Program} {w : World} {A : Around} {E : Value → Shared → Prop} {s : Shared} {z TI TO i1 i2 l1 l2 : Addr} {xs ys : Array Value}
end
end ZpL
namespace ZpL
open PySem PySem.Spec PyProof.Rows L2
section
variable {X : Cx} {e e2 : Expr} {ta : TA} {p p2 p1 pos : Pos}
end
end ZpL
namespace Mi
open PySem PySem.Spec PyProof.Rows L2
section
variable {X : Cx} {Ω : Om} {W : WX} {e e2' : Expr} {fa : AF} {p p2 p1 pos : Pos}
end
end Mi
namespace Mi
open PySem PySem.Spec PyProof.Rows L2
section
variable {X : Cx} {CX : CXT} {n : Nat} {C g : Addr} {fd : FuncData} {ps : List Str} {sp : Sp} {E : XK}
end
section
variable {X : Cx} {Ω : Om} {a : Expr} {fa : AF} {p pos : Pos} {c k : Nat} {F : FF} {x : Str}
end
end Mi
namespace TpM
open PySem PySem.Spec PyProof.Rows L2
section
variable {X : Cx}
end
end TpM
namespace Mi
open PySem PySem.Spec PyProof.Rows L2
section
variable {K : PySem.W.Frag} {Ω : Om} {X : Cx}
end
end Mi
namespace DsM
open PySem
open Sem (wp)
section
variable {prog : Program} {w : World} {K : Type} [DecidableEq K] {knd : KeyKind prog w K} {A : Around} {E : Value → Shared → Prop} {s : Shared}
end
end DsM
namespace DsM
open PySem PySem.Spec PyProof.Rows L2
section
variable {X : Cx} {em ek ev : Expr} {tm tk tv : TE} {pos : Pos}
end
end DsM
namespace Mi
open PySem PySem.Spec PyProof.Rows L2
section
variable {X : Cx} {Ω : Om} {W : WX} {em ek ev : Expr} {f fk fv : EF} {pos : Pos}
end
end Mi
namespace Mi
open PySem PySem.Spec PyProof.Rows L2
def pick (is : List Nat) {α : Type} (xs : List α) : List α := is.filterMap fun i => xs[i]?
abbrev KB (K : PySem.W.Frag) (fd : FuncData) (ps : List Str) (n : Nat) (ks : List Str) (is : List Nat) : Prop := KBn K fd ps n ks (fun us ws => us ++ pick is ws) (fun vs zs => vs ++ pick is zs)
section
variable {K : PySem.W.Frag} {x qual : Str} {params : Arguments} {body : List Stmt} {scope : Scope} {f : Addr} {fd : FuncData} {ps : List Str}
end
structure FnK (P : Program) (w : World) (K : PySem.W.Frag) (mg : Str → Option Value) (base : Heap) (Ω : Om) (x : Str) (k n : Nat) (ks : List Str) (is : List Nat) (F : FF) : Prop where
  ex : ∃ (f : Addr) (fd : FuncData) (ps : List Str), mg x = some (.ref f) ∧ PySem.W.keepIn K (.ref f) = true ∧ FnOk P w K mg base (L2.CX P w) k f fd ps (spF K Ω n F) ∧ KB K fd ps 0 ks is
structure MeK (P : Program) (w : World) (K : PySem.W.Frag) (mg : Str → Option Value) (base : Heap) (Ω : Om) (c : Nat) (m : Str) (k n : Nat) (ks : List Str) (is : List Nat) (F : FF) : Prop where
  ex : ∃ (f : Addr) (fd : FuncData) (ps : List Str), Cls K (Ω.cls c) ∧ Meth K (Ω.cls c) m f ∧ m ∉ Ω.fld c ∧ FnOk P w K mg base (L2.CX P w) k f fd ps (spF K Ω n F) ∧ KB K fd ps 1 ks is
structure MkK (P : Program) (w : World) (K : PySem.W.Frag) (mg : Str → Option Value) (base : Heap) (Ω : Om) (x : Str) (c k n : Nat) (ks : List Str) (is : List Nat) (F : FF) : Prop where
  ex : ∃ (f : Addr) (fd : FuncData) (ps : List Str), mg x = some (.ref (Ω.cls c)) ∧ Mk K (Ω.cls c) f ∧ FnOk P w K mg base (L2.CX P w) k f fd ps (spF K Ω n F) ∧ KB K fd ps 1 ks is
section
variable {X : Cx} {CX : CXT} {k : Nat} {f C : Addr} {fd : FuncData} {ps ks : List Str} {is : List Nat} {sp : Sp} {E : XK} {x m : Str} {p pos apos : Pos} {o : Expr} {kws : List Keyword} {ta : TE} {tk : TA}
end
section
variable {X : Cx} {Ω : Om} {W : WX}
theorem L2PK.imp {kws : List Keyword} {t t' : TA} (a : PK X kws t) (h : ∀ σ H Q, t' σ H Q → t σ H Q) : PK X kws t' := ⟨fun pos pins s σ H Q I q => a.run pos pins s σ H Q I (h _ _ _ q)⟩
theorem Rs.len {K : PySem.W.Frag} {Z ι : List Addr} {M : Mem} {H : Hp} : ∀ {ts : List T} {vs : List V}, Rs K Ω Z ι M H ts vs → ts.length = vs.length
  | _, _, .nil => rfl
  | _, _, .cons _ s => congrArg Nat.succ (Rs.len s)
end
section
variable {X : Cx} {Ω : Om} {E : XK} {x m : Str} {p pos apos : Pos} {o : Expr} {kws : List Keyword} {k n c l : Nat} {ks : List Str} {is : List Nat} {F : FF} {fa : AF} {fo : EF}
end
end Mi
namespace Mi
open PySem PySem.Spec PyProof.Rows L2
structure InstK (K : PySem.W.Frag) (C : Addr) : Prop where
  ha : PySem.W.findIn K (.ref C) "__class__" = some (some (.builtin "object.__class__"))
  hn : PySem.W.specialIn K (.builtin "object.__class__") "__get__" = some (some (.builtin "getset_descriptor.__get__"))
  htk : PySem.W.takesIn K (.builtin "object.__class__") = some true
  hm : PySem.W.mroIn K C (.type "object") = some true
section
variable {X : Cx} {Ω : Om} {W : WX} {e a b : Expr} {f g : EF} {p p1 pos : Pos} {c k : Nat} {x : Str} {F : FF} {E : XK}
end
end Mi
namespace Mi
open PySem PySem.Spec PyProof.Rows L2
section
variable {X : Cx} {Ω : Om} {W : WX} {a b c : Expr} {fa : AF} {pos : Pos}
end
end Mi
namespace Mi
open PySem PySem.Spec PyProof.Rows L2
section
variable {X : Cx} {Ω : Om} {W : WX} {e : Expr} {f : EF}
end
section
variable {f : EF} {σ : TV} {M M1 : Mem}
end
end Mi
namespace Mi
open PySem L2
end Mi
namespace ZpM
open PySem PySem.Spec PyProof.Rows L2 RZ
open PySem.Sem (wp)
section
variable {prog : Program} {w : World} {A : Around} {E : Value → Shared → Prop} {s : Shared} {z TI TO i j l m : Addr} {k : Nat} {us vs : Array Value} {a b : Value}
end
end ZpM
namespace ZpM
open PySem PySem.Spec PyProof.Rows L2 RZ
section
variable {prog : Program} {w : World} {A : Around} {E : Value → Shared → Prop} {s : Shared} {z TI TO i j l m : Addr} {k : Nat} {us vs : Array Value} {a b : Value}
end
section
variable {prog : Program} {w : World} {A : Around} {E : Value → Shared → Prop} {s : Shared}
end
end ZpM
namespace Mi
open PySem PySem.Spec PyProof.Rows L2
section
variable {X : Cx} {Ω : Om} {W : WX} {e e2 : Expr} {fa : AF} {p pos : Pos}
end
end Mi
namespace SoL
open PySem PySem.Spec PyProof.Rows L2 PySem.W PySem.Calls Mi
section
variable {prog : Program} {w : World} {A : Around} {E : Value → Shared → Prop} {s : Shared} {l : Addr} {vs : List Value}
end
section
variable {X : Cx}
theorem FpOk.to {X : Cx} {pins : List (Addr × Obj)} {H H' : Hp} {b : Addr} (h : FpOk X pins H b) (n : H' b = none) : FpOk X pins H' b := ⟨n, h.2⟩
end
end SoL
namespace SoL
open PySem PySem.Spec PyProof.Rows L2 PySem.W PySem.Calls Mi
theorem among_more {p : Pos} {cv : Value} (l m : List Value) (h : TriplesOk l) (hc : codeAmong p l = some cv) : codeAmong p (l ++ m) = some cv := by
  fun_induction TriplesOk l with
  | case1 => cases hc
  | case2 a t b u x rest ih =>
    simp only [List.cons_append, codeAmong] at hc ⊢
    split
    · rename_i q
      rw [if_pos q] at hc
      exact hc
    · rename_i q
      rw [if_neg q] at hc
      exact ih h hc
  | case3 l h1 h2 => exact h.elim
def Told (P : Addr) (pos : Pos) (c' : Addr) (H : Hp) : Prop := ∃ ps more : Array Value, H P = some (.tbl (ps ++ more)) ∧ TriplesOk ps.toList ∧ codeAmong pos ps.toList = some (.ref c')
theorem Told.code {P c' : Addr} {pos : Pos} {q : Str} {H : Hp} (h : Told P pos c' H) (t : LamX.TabS H P q) : H c' = some (LamX.CodeO c' q) := by
  obtain ⟨ps, more, h1, h3, h2⟩ := h
  obtain ⟨qs, g1, _, g2⟩ := t
  rw [h1] at g1
  cases g1
  obtain ⟨c, e1, e2⟩ := g2 pos (.ref c') (by rw [Array.toList_append]; exact among_more _ _ h3 h2)
  cases e1
  exact e2
theorem Told.un {P c' : Addr} {pos : Pos} {fs : List Addr} {H1 H2 : Hp} {h1 h2 : Heap} (q : Un fs [] H1 H2 h1 h2) (t : Told P pos c' H1) : Told P pos c' H2 := by
  obtain ⟨ps, more, a1, a2, a3⟩ := t
  obtain ⟨m2, e⟩ := q.tbls P _ a1
  exact ⟨ps, more ++ m2, by rw [e, Array.append_assoc], a2, a3⟩
section
variable {X : Cx} {pins : List (Addr × Obj)} {σ : L2.St} {H : Hp} {s : Shared}
structure LamS1 (sc scope : Scope) (a : Str) : Prop where
  kind : scope.kind = .function
  co : scope.isCoroutine = false
  gen : scope.isGenerator = false
  par : scope.names.lookup a = some .local
  own : ∀ y ∈ scope.names, y.2 ≠ .cell ∧ (y.2 = .local → y.1 = a)
  free : ∀ y ∈ scope.names, y.2 = .free → sc.names.lookup y.1 = some .cell ∨ sc.names.lookup y.1 = some .free
end
end SoL
namespace Mi
open PySem PySem.Spec PyProof.Rows L2 SoL
section
variable {K : PySem.W.Frag} {Ω : Om} {X : Cx} {W : WX} {Z ι : List Addr} {M : Mem} {H H1 : Hp} {e : Expr} {f g : EF} {pos p kpos lpos : Pos}
end
end Mi
namespace Mi
open PySem PySem.Spec PyProof.Rows L2
theorem tab_ok {K : PySem.W.Frag} {mg : Str → Option Value} {ad : PySem.W.Frag → Addr} {base : Heap} (h : ckTab ad K = true) (hm : mg "__builtins__" = some (.ref (He.ga K "__builtins__"))) (X : K.In base) : LamX.TabB base mg (cdAt K (ad K)) (tbAt K (ad K)) := by
  obtain ⟨h1, h2⟩ := He.ba h
  obtain ⟨h3, h4⟩ := He.ba h2
  obtain ⟨_, h5⟩ := He.ba h4
  refine ⟨PySem.W.codeHd_of_K X h1, ?_, fun z => of_decide_eq_true h3 z.symm⟩
  cases q : K.lookup (He.ga K "__builtins__") with
  | none => rw [q] at h5; cases h5
  | some o =>
    rw [q] at h5
    obtain ⟨oc, od, dt, osl⟩ := o
    cases oc with
    | type m =>
      cases od with
      | some dd =>
        cases dt with
        | plain =>
          obtain ⟨a1, a2⟩ := He.ba h5
          obtain ⟨a3, a4⟩ := He.ba a2
          obtain ⟨a5, a6⟩ := He.ba a4
          obtain ⟨a7, a8⟩ := He.ba a6
          exact ⟨_, _, hm, of_decide_eq_true a5, of_decide_eq_true a7, of_decide_eq_true a8, X _ _ q, congrArg Value.type (of_decide_eq_true a1), congrArg some (of_decide_eq_true a3), rfl⟩
        | _ => cases h5
      | none => cases dt <;> cases h5
    | _ => cases od <;> cases dt <;> cases h5
theorem tab_out {K : PySem.W.Frag} {ad : PySem.W.Frag → Addr} (h : ckTab ad K = true) : K.lookup (tbAt K (ad K)) = none := by
  obtain ⟨_, h2⟩ := He.ba h
  obtain ⟨_, h4⟩ := He.ba h2
  obtain ⟨h6, _⟩ := He.ba h4
  exact Option.isNone_iff_eq_none.mp h6
theorem tab_cd {K : PySem.W.Frag} {ad : PySem.W.Frag → Addr} (h : ckTab ad K = true) : PySem.W.codeHdIn K (cdAt K (ad K)) (tbAt K (ad K)) = true := (He.ba h).1
section
variable {fa : List He.Fa} {fn : List DefM} {ck : List Ck} {K : PySem.W.Frag} {mg : Str → Option Value} {l : TbL}
theorem ckAll_at (h : ckAll l K = true) : ∀ ad ∈ l.map (·.1), ckTab ad K = true := fun ad hm => List.all_eq_true.mp (He.ba h).1 ad hm
theorem Gf.tab (g : Gf fa fn ck K mg) (i j n : Nat) {ad : PySem.W.Frag → Addr} {q : Str} (h : ck[i]? = some (ckAll l) := by rfl) (hb : fa[j]? = some (.glo "__builtins__") := by rfl) (hn : l[n]? = some (ad, q) := by rfl) :
    ∀ base : Heap, K.In base → LamX.TabB base mg (cdAt K (ad K)) (tbAt K (ad K)) := fun base X => tab_ok (ckAll_at (g.says.chk i h) ad (List.mem_map.mpr ⟨_, List.mem_of_getElem? hn, rfl⟩)) (g.glo j hb) X
theorem tabs_new {H : Hp} (h : ∀ ad ∈ l.map (·.1), H (tbAt K (ad K)) = some (.tbl #[])) : LamX.Tabs (tabl l K) H := fun p hp => by
  obtain ⟨z, hz, rfl⟩ := List.mem_map.mp hp
  exact LamX.TabS.nil (h z.1 (List.mem_map.mpr ⟨z, hz, rfl⟩))
end
section
variable {P : Program} {w : World} {K : PySem.W.Frag} {mg : Str → Option Value} {base : Heap} {Ω : Om} {k : Nat} {f : Addr} {fd : FuncData} {ps : List Str}
end
def OnlyT (ps : List Addr) (H : Hp) : Prop := ∀ b, H b = none ∨ (∃ o xs, H b = some (.frz o (.lst xs))) ∨ (b ∈ ps ∧ H b = some (.tbl #[]))
section
variable {P : Program} {w : World} {K : PySem.W.Frag} {mg mb : Str → Option Value} {k : Nat} {fa a : Addr} {fd : FuncData} {x : Str} {sp : Sp} {s₁ : Shared} {vs : List Value} {ns : List Int} {ps : List Addr}
theorem end_ofL {H : Hp} (hO : OnlyT ps H) (hC : ∀ p ∈ ps, isCodeTable s₁.heap p) (hok : HOk P w H s₁.heap) {r : Result} {s' : Shared} (h : CR (fun _ _ _ _ _ _ => False) [] P w H s₁ (fun v _ => v = .bl true) (fun _ _ _ => False) r s') : EndOk s₁ r s' := by
  match r, h with
  | .ok (.ret u), h =>
    obtain ⟨v, H', os, bare, un, hok', rv, q⟩ := h
    have q : v = .bl true := q
    rw [q] at rv
    have ru : u = Value.bool true := rv
    have each : ∀ b o, s₁.heap.get? b = some o → s'.heap.get? b = some o ∨ (b ∈ ps ∧ o = { cls := .none, data := .fields #[] } ∧ ∃ more, s'.heap.get? b = some { cls := .none, data := .fields more }) := fun b o e => by
      rcases hO b with z | ⟨ob, xs, z⟩ | ⟨hm, z⟩
      · exact .inl (un.keep b o e z (fun y => absurd (show b ∈ ([] : List Addr) from y) (by simp)) (by simp))
      · have e1 := (hok b _ z).1
        have e2 := (hok' b _ (un.frzs b ob _ z)).1
        exact .inl (e2.trans (e1.symm.trans e))
      · obtain ⟨more, z2⟩ := un.tbls b #[] z
        have e1 : s₁.heap.get? b = some { cls := .none, data := .fields #[] } := hok b _ z
        rw [e] at e1
        cases e1
        exact .inr ⟨hm, rfl, _, hok' b _ z2⟩
    refine ⟨by rw [ru], ⟨fun b o e => ?_, fun b o e => ?_⟩, os, bare⟩
    · rcases each b o e with z | ⟨hm, rfl, more, z⟩
      · exact .inl z
      · exact .inr (.inl ⟨hC b hm, rfl, #[], more, rfl, by rw [Array.empty_append]; exact z⟩)
    · rcases each b o e with z | ⟨_, _, more, z⟩
      · exact ⟨o, z⟩
      · exact ⟨_, z⟩
theorem callL (KX : K.In s₁.heap) (hns : s₁.heap.Ns mainGlobals mg) (hb : s₁.heap.Ns builtinsNs mb) (hbb : ∀ x : Str, x ≠ "__name__" → mb x = bootBuiltins x) (hlim : s₁.heap.NoLimit) (hg : s₁.gens = #[])
    (hT : ∀ p ∈ ps, s₁.heap.get? p = some { cls := .none, data := .fields #[] }) (nT : ∀ p ∈ ps, K.lookup p = none) (hC : ∀ p ∈ ps, isCodeTable s₁.heap p)
    (ha : s₁.heap.get? a = some { cls := .type "list", data := .seq vs.toArray }) (hi : IntsAre vs ns) (hl : ns.length ≤ sizeLine) (hr : Room k callerA)
    (F : ∀ base : Heap, FnQ P w K mg base (fun _ _ _ _ _ _ => False) k fa fd [x] sp) (hbind : ∀ (s : Shared) (u : Value), BindsTo s fd ⟨[u], []⟩ [(x, u)])
    (hsp : ∀ H : Hp, OnlyT ps H → (∀ p ∈ ps, H p = some (.tbl #[])) → SqL K H a (ns.map V.int) → sp [.ref a] H (fun v _ => v = .bl true) fun _ _ _ => False) :
    codeAny (model P w) callerA (.call (.ref fa) ⟨[.ref a], []⟩) (EndOk s₁) s₁ := by
  have naT : a ∉ ps := fun z => by
    have q := hT a z
    rw [ha] at q
    cases q
  have go : ∀ H : Hp, OnlyT ps H → (∀ p ∈ ps, H p = some (.tbl #[])) → SqL K H a (ns.map V.int) → HOk P w H s₁.heap → (∀ b, b ≠ a → b ∉ ps → H b = none) → (H a = none ∨ K.lookup a = none) → codeAny (model P w) callerA (.call (.ref fa) ⟨[.ref a], []⟩) (EndOk s₁) s₁ := fun H hO hP hS hok hA hK => by
    have there : ∀ (b : Addr) (o : Obj), s₁.heap.get? b = some o → (b = a → H a = none) → (b ∉ ps) → (hidT s₁.heap H).get? b = some o := fun b o e z n => hidT_get e (by
      by_cases y : b = a
      · rw [y]; exact z y
      · exact hA b y n)
    have names : ∀ {b : Addr} {m : Str → Option Value}, s₁.heap.Ns b m → (hidT s₁.heap H).Ns b m := fun {b m} ⟨o, es, ep, e, d, r⟩ => ⟨o, es, ep, there b o e (fun y => by
      rw [y, ha] at e
      cases e
      exact absurd d (by intro z; cases z)) (fun y => by
      rw [hT b y] at e
      cases e
      exact absurd d (by intro z; cases z)), d, r⟩
    have frag : K.In (hidT s₁.heap H) := fun b o e => there b o (KX b o e) (fun y => hK.resolve_right fun z => by rw [y, z] at e; cases e) fun y => by rw [nT b y] at e; cases e
    have low : (hidT s₁.heap H).NoLimit := let ⟨mc, h1, h2⟩ := hlim; ⟨mc, names h1, h2⟩
    exact codeAny_mono ((F (hidT s₁.heap H)).run callerA [] s₁ H _ [.ref a] [.ref a] _ _ hr rfl ⟨rfl, ⟨frag, names hns, ⟨mb, names hb, hbb⟩, low⟩, fun _ _ e => of_hidT e, Nat.le_of_eq (hidT_size _ _), trivial, fun b y => absurd (show b ∈ ([] : List Addr) from y) (by simp), hok, .of_eq hg⟩
      (hbind s₁ (.ref a)) (.cons rfl .nil) (hsp H hO hP hS)) fun r s' h => end_ofL hO hC hok h
  have nums := vals_ints hi
  have tabO : ∀ b ∈ ps, ObjOk P w (fun b => if b ∈ ps then some (.tbl #[]) else none) s₁.heap b (.tbl #[]) := fun b hb => hT b hb
  cases hk : K.lookup a with
  | some o =>
    have same := (KX a o hk).symm.trans ha
    cases same
    have len : vs.toArray.size ≤ sizeLine := by rw [List.size_toArray, hi.length]; exact hl
    refine go (fun b => if b ∈ ps then some (.tbl #[]) else none) (fun b => ?_) (fun p hp => if_pos hp) (.inr ⟨_, vs.toArray, _, hk, rfl, rfl, rfl, len, nums⟩) (fun b u z => ?_) (fun b _ hn => if_neg hn) (.inl (if_neg naT))
    · by_cases y : b ∈ ps
      · exact .inr (.inr ⟨y, if_pos y⟩)
      · exact .inl (if_neg y)
    · by_cases y : b ∈ ps
      · have z' := (if_pos y).symm.trans z
        cases z'
        exact hT b y
      · exact nomatch (if_neg y).symm.trans z
  | none =>
    let o : Obj := { cls := .type "list", data := .seq vs.toArray }
    refine go (fun b => if b = a then some (.frz o (.lst (ns.map V.int))) else if b ∈ ps then some (.tbl #[]) else none) (fun b => ?_) (fun p hp => (if_neg (fun z => naT (by rw [← z]; exact hp))).trans (if_pos hp)) (.inl (.inr ⟨o, if_pos rfl⟩)) (fun b u z => ?_) (fun b y n => (if_neg y).trans (if_neg n)) (.inr hk)
    · by_cases y : b = a
      · exact .inr (.inl ⟨o, _, if_pos y⟩)
      · by_cases y2 : b ∈ ps
        · exact .inr (.inr ⟨y2, (if_neg y).trans (if_pos y2)⟩)
        · exact .inl ((if_neg y).trans (if_neg y2))
    · by_cases y : b = a
      · subst y
        cases (if_pos rfl).symm.trans z
        exact ⟨ha, by rw [List.length_map]; exact hl, vs, _, nums, ha⟩
      · by_cases y2 : b ∈ ps
        · have z' := ((if_neg y).trans (if_pos y2)).symm.trans z
          cases z'
          exact hT b y2
        · exact nomatch ((if_neg y).trans (if_neg y2)).symm.trans z
end
theorem walkL {l : PySem.W.OpenLaw} {n k : Nat} {q : Program} {loose : List Str} {XP : (Str → Option Value) → Heap → Prop} {YP : World → Heap → Prop} {d : DefRec} {x : Str} (hn : l.most = some n) (hn2 : n ≤ sizeLine) (hdf : d.params.defaults = []) (hr : Room k callerA)
    (F : ∀ (w : World) (mg : Str → Option Value) (fa : Addr) (h : Heap), YP w h → h.Ns mainGlobals mg → mg d.name = some (.ref fa) → ∃ (K : PySem.W.Frag) (fd : FuncData) (sp : Sp) (ads : List (PySem.W.Frag → Addr)), K.In h ∧ (∀ ad ∈ ads, ckTab ad K = true) ∧ (∀ ad ∈ ads, h.get? (tbAt K (ad K)) = some { cls := .none, data := .fields #[] }) ∧
        (∀ (s : Shared) (u : Value), BindsTo s fd ⟨[u], []⟩ [(x, u)]) ∧
        (∀ (H : Hp) (a : Addr) (ns : List Int), ns.length ≤ n → OnlyT (ads.map fun ad => tbAt K (ad K)) H → (∀ ad ∈ ads, H (tbAt K (ad K)) = some (.tbl #[])) → SqL K H a (ns.map V.int) → sp [.ref a] H (fun v _ => v = .bl true) fun _ _ _ => False) ∧
        ∀ base : Heap, FnQ l.prog w K mg base (fun _ _ _ _ _ _ => False) k fa fd [x] sp) :
    PySem.W.WalkO q loose XP YP l.row.toRowW d [] (fun f vs => PySem.call f vs) :=
  Att.attach_call hn hdf fun w s₀ s₁ mg mb fa o pm cd doc a vs ns G Y ho hd hcd hmg hobj hints hlen hg => by
    obtain ⟨K, fd, sp, ads, KX, hck, hE, hb, hsp, hF⟩ := F w mg fa _ Y G.T.g hmg
    have each : ∀ p ∈ ads.map (fun ad => tbAt K (ad K)), ∃ ad ∈ ads, tbAt K (ad K) = p := fun p hp => List.mem_map.mp hp
    have hT : ∀ p ∈ ads.map (fun ad => tbAt K (ad K)), s₁.heap.get? p = some { cls := .none, data := .fields #[] } := fun p hp => by
      obtain ⟨ad, h1, rfl⟩ := each p hp
      exact hE ad h1
    refine callL (ps := ads.map fun ad => tbAt K (ad K)) KX G.T.g G.T.b G.T.builtins G.T.nolimit hg hT (fun p hp => ?_) (fun p hp => ?_) hobj hints (Nat.le_trans hlen hn2) hr hF hb fun H hO hP hS => hsp H a ns hlen hO (fun ad h1 => hP _ (List.mem_map.mpr ⟨ad, h1, rfl⟩)) hS
    · obtain ⟨ad, h1, rfl⟩ := each p hp
      exact tab_out (hck ad h1)
    · obtain ⟨ad, h1, rfl⟩ := each p hp
      exact ((PySem.W.codeHd_of_K KX (tab_cd (hck ad h1))).tab (hT _ hp)).isCodeTable
theorem law_spL {K : PySem.W.Frag} {Ω : Om} {F : FF} {ps : List Addr} (h : ∀ zs : List Int, ∃ M', F [.klst (zs.map .int)] [] = .ok (.bl true) M') (H : Hp) (a : Addr) (ns : List Int) (ho : OnlyT ps H) (hs : SqL K H a (ns.map V.int)) (ht : LamX.Tabs Ω.tabs H) : spF K Ω 1 F [.ref a] H (fun v _ => v = .bl true) fun _ _ _ => False := by
  have kl : KL K H a (ns.map V.int) := by
    rcases hs with (hs | hs) | hs
    · rcases ho a with z | ⟨o, xs, z⟩ | ⟨_, z⟩ <;> rw [z] at hs <;> cases hs
    · exact .inl hs
    · exact .inr hs
  have rs : Rs K Ω [] [] [] H (ns.map T.int) (ns.map V.int) := by
    clear h hs kl
    induction ns with
    | nil => exact .nil
    | cons n ns ih => exact .cons (.int n) ih
  obtain ⟨M', e⟩ := h ns
  refine ⟨[], [], [], [.klst (ns.map .int)], ⟨ht, rfl, fun i j a o u h => by simp at h, fun n a o h => by simp at h, fun z q => by simp at q⟩, .cons (.klst kl rs) .nil, rfl, ?_⟩
  rw [e]
  intro ι' H' v m ex r
  cases r
  rfl
end Mi
namespace Mi
open PySem PySem.Spec PyProof.Rows L2
section
variable {X : Cx} {Ω : Om} {W : WX} {st : Stmt} {s : SF}
end
end Mi
namespace Mi
open PySem PySem.Spec PyProof.Rows L2
inductive VHits (K : PySem.W.Frag) (H : Hp) (ls : List (Key × V)) : List (Key × V) → Bool → Prop
  | nil : VHits K H ls [] true
  | miss {k v r} : valV ls k = none → VHits K H ls ((k, v) :: r) false
  | hit {k v y r d e b} : valV ls k = some y → Dp K H v d → Dp K H y e → SeqAt.shaped d = true → SeqAt.shaped e = true → VHits K H ls r b → VHits K H ls ((k, v) :: r) (PyData.eqv d e && b)
section
variable {X : Cx} {pins : List (Addr × Obj)} {σ : L2.St} {H : Hp} {s : Shared}
end
section
variable {K : PySem.W.Frag} {Ω : Om} {Z ι : List Addr} {M : Mem} {H : Hp}
end
end Mi
namespace Mi
open PySem PySem.Spec PyProof.Rows L2
end Mi
namespace Mi
open PySem PySem.Spec PyProof.Rows L2
section
variable {Ω : Om}
end
theorem DpAll.len {K : PySem.W.Frag} {H : Hp} : ∀ {xs : List V} {ds : List PyData}, DpAll K H xs ds → xs.length = ds.length
  | _, _, .nil => rfl
  | _, _, .cons _ t => by rw [List.length_cons, List.length_cons, DpAll.len t]
section
variable {X : Cx}
end
section
variable {K : PySem.W.Frag} {Ω : Om} {Z ι : List Addr} {M : Mem} {H : Hp}
end
section
variable {X : Cx} {Ω : Om} {W : WX} {e : Expr} {es : List Expr} {fa : AF} {pos p : Pos}
end
end Mi
namespace Mi
open PySem PySem.Spec PyProof.Rows L2
section
variable {K : PySem.W.Frag} {Ω : Om} {Z ι : List Addr} {M : Mem} {H : Hp}
end
section
variable {X : Cx} {Ω : Om} {W : WX} {o e : Expr} {f : EF} {fa : AF} {apos cpos : Pos}
end
section
variable {X : Cx} {Ω : Om} {W : WX} {c : Expr} {as : List Expr} {ks : List Keyword} {f : EF} {x y : Str} {p1 p2 p3 pos : Pos}
end
end Mi
namespace SoL
open PySem PySem.Spec PyProof.Rows L2 PySem.W PySem.Calls Mi
section
variable {X : Cx}
def Best (ks : List Int) (i j : Nat) : Prop := ∀ j', j' ≤ j → ks.getD i 0 ≥ ks.getD j' 0 ∧ (j' < i → ks.getD i 0 > ks.getD j' 0)
theorem Best.more {ks : List Int} {i j : Nat} (h : Best ks i j) (hij : i ≤ j) (c : ¬ ks.getD (j + 1) 0 > ks.getD i 0) : Best ks i (j + 1) := fun j' hj' => by
  by_cases e : j' = j + 1
  · subst e
    exact ⟨by omega, fun _ => by omega⟩
  · exact h j' (by omega)
theorem Best.new {ks : List Int} {i j : Nat} (h : Best ks i j) (hij : i ≤ j) (c : ks.getD (j + 1) 0 > ks.getD i 0) : Best ks (j + 1) (j + 1) := fun j' hj' => by
  by_cases e : j' = j + 1
  · subst e
    exact ⟨by omega, fun _ => by omega⟩
  · have := (h j' (by omega)).1
    exact ⟨by omega, fun _ => by omega⟩
structure MxSt (X : Cx) (pins : List (Addr × Obj)) (σ : L2.St) (J : Hp → Prop) (G : Nat → Hp → Prop) (f p I S : Addr) (fo : Obj) (xs : List V) (i j : Nat) (s : Shared) (H : Hp) (sv : Array Value) : Prop where
  inv : Inv X pins σ H s
  jH : J H
  gH : G j H
  hs : SqT X.K H p xs
  nf : H f = none
  hf : s.heap.get? f = some fo
  fI : FpOk X pins H I
  fS : FpOk X pins H S
  hS : ∃ c, s.heap.get? S = some (seqObj "list" sv c)
  hI : s.heap.IsTupleIter I p i
end
end SoL
namespace Mi
open PySem PySem.Spec PyProof.Rows L2 SoL
section
variable {K : PySem.W.Frag} {Ω : Om} {X : Cx} {W : WX} {Z ι : List Addr} {M : Mem} {H H1 : Hp} {e : Expr} {f g : EF} {pos p kpos lpos : Pos}
end
end Mi
namespace DsT
open PySem PySem.Spec PyProof.Rows L2
section
variable {X : Cx} {ek ev : Expr} {tk tv : TE} {pos : Pos}
end
end DsT
namespace Mi
open PySem PySem.Spec PyProof.Rows L2
section
variable {X : Cx} {Ω : Om} {W : WX} {ek ev : Expr} {fk fv : EF} {pos : Pos}
end
end Mi
namespace Mi
open PySem PySem.Spec PyProof.Rows L2
section
variable {X : Cx} {Ω : Om} {W : WX} {a b : Expr} {f g : EF} {p p1 p2 pos : Pos}
end
end Mi
namespace Mi
open PySem PySem.Spec PyProof.Rows L2
section
variable {X : Cx} {Ω : Om} {W : WX} {o i e : Expr} {fo fi fe : EF} {tpos pos : Pos}
end
end Mi
namespace Mi
open PySem PySem.Spec PyProof.Rows L2
section
variable {K : PySem.W.Frag} {Ω : Om} {Z ι : List Addr} {M : Mem} {H : Hp}
end
section
variable {X : Cx} {Ω : Om} {W : WX} {e : Expr} {te : TE} {f : EF} {k : Nat} {p1 p2 p3 pos : Pos}
end
end Mi
namespace Mi
open PySem PySem.Spec PyProof.Rows L2
section
variable {K : PySem.W.Frag} {Ω : Om} {W : WX} {gt : TG} {pf : PF} {vs : List Nat} {c : TF} {fk f : EF} {own : List (Str × Nat)}
end
section
variable {X : Cx} {Ω : Om} {W : WX} {kx vx e : Expr} {fk f fd : EF} {c : TF} {pos apos cpos tpos : Pos} {elts : List Expr} {kk : Nat} {ifs : List Expr} {scope : Scope} {own : List (Str × Nat)} {gt : TG} {pf : PF} {vs : List Nat}
end
end Mi
namespace MxL
open PySem PySem.Spec PyProof.Rows L2 PySem.W PySem.Calls Mi SoL
section
variable {X : Cx}
structure MlSt (X : Cx) (pins : List (Addr × Obj)) (σ : L2.St) (p I S : Addr) (xs : List V) (i : Nat) (s : Shared) (H : Hp) (sv : Array Value) : Prop where
  inv : Inv X pins σ H s
  hs : SqL X.K H p xs
  fI : FpOk X pins H I
  fS : FpOk X pins H S
  hS : ∃ c, s.heap.get? S = some (seqObj "list" sv c)
  hI : s.heap.IsListIter I p i
end
end MxL
namespace Mi
open PySem PySem.Spec PyProof.Rows L2 SoL MxL
section
variable {K : PySem.W.Frag} {Ω : Om} {X : Cx} {W : WX} {Z ι : List Addr} {M : Mem} {H : Hp} {e : Expr} {fa : AF} {pos p p2 kpos : Pos}
end
end Mi
namespace Mi
open PySem PySem.Spec PyProof.Rows L2
section
variable {K : PySem.W.Frag} {Ω : Om} {Z ι : List Addr} {M : Mem} {H : Hp}
end
end Mi
namespace ZpT
open PySem PySem.Calls PyProof.Rows PyProof.V PySem.Spec
open ZpL (ne_above ZG zip_no_len zip_no_hint)
section
variable {prog : Program} {w : World} {A : Around} {E : Value → Shared → Prop} {s : Shared} {z TI TO T i j l m : Addr} {f : Bool} {oT : Obj} {k1 k2 : Nat} {us vs : Array Value}
end
def ZSt (h : Heap) (z TI TO i1 i2 l1 l2 S : Addr) (i : Nat) : Prop :=
  IsPair h TI (.ref i1) (.ref i2) ∧ h.IsTupleIter i1 l1 i ∧ h.IsTupleIter i2 l2 i ∧ ((IsZip h z TI TO .none ∧ ∃ a b, IsPair h TO a b) ∨ ∃ (T : Addr) (f : Bool) (oT : Obj), IsZipHeld h z TI TO T f ∧ h.get? T = some oT ∧ T ≠ z ∧ T ≠ i1 ∧ T ≠ i2 ∧ T ≠ S)
section
variable {prog : Program} {w : World} {A : Around} {E : Value → Shared → Prop} {s : Shared} {z TI TO i1 i2 l1 l2 S : Addr} {i : Nat} {xs ys : Array Value}
theorem ZSt.lt {h : Heap} (st : ZSt h z TI TO i1 i2 l1 l2 S i) : z < h.objs.size ∧ i1 < h.objs.size ∧ i2 < h.objs.size ∧ TI < h.objs.size := by
  obtain ⟨hTI, ⟨o1, h1, _⟩, ⟨o2, h2, _⟩, hz | ⟨T, f, oT, hz, _⟩⟩ := st
  · exact ⟨Heap.lt_size hz.1, Heap.lt_size h1, Heap.lt_size h2, Heap.lt_size hTI⟩
  · exact ⟨Heap.lt_size hz, Heap.lt_size h1, Heap.lt_size h2, Heap.lt_size hTI⟩
theorem ZSt.keep {h h' : Heap} (D : ZipApart z TI TO i1 i2 l1 l2) (st : ZSt h z TI TO i1 i2 l1 l2 S i) (hS : S ≠ z ∧ S ≠ TO ∧ S ≠ i1 ∧ S ≠ i2 ∧ S ≠ TI) (up : ∀ b o, b ≠ S → h.get? b = some o → h'.get? b = some o) : ZSt h' z TI TO i1 i2 l1 l2 S i := by
  obtain ⟨s1, s2, s3, s4, s5⟩ := hS
  obtain ⟨hTI, ⟨o1, h1, r1⟩, ⟨o2, h2, r2⟩, ⟨hz, a, b, hTO⟩ | ⟨T, f, oT, hz, hT, t1, t2, t3, t4⟩⟩ := st
  · exact ⟨up _ _ s5.symm hTI, ⟨o1, up _ _ s3.symm h1, r1⟩, ⟨o2, up _ _ s4.symm h2, r2⟩, .inl ⟨up _ _ s1.symm hz, a, b, up _ _ s2.symm hTO⟩⟩
  · exact ⟨up _ _ s5.symm hTI, ⟨o1, up _ _ s3.symm h1, r1⟩, ⟨o2, up _ _ s4.symm h2, r2⟩, .inr ⟨T, f, oT, up _ _ s1.symm hz, up _ _ t4 hT, t1, t2, t3, t4⟩⟩
end
section
variable {prog : Program} {w : World} {A : Around} {s : Shared} {R : Result → Shared → Prop} {z TI TO i1 i2 l1 l2 S : Addr} {xs ys : Array Value}
end
section
variable {prog : Program} {w : World} {A : Around} {E : Value → Shared → Prop} {s : Shared} {z TI TO i1 i2 l1 l2 : Addr} {xs ys : Array Value}
end
end ZpT
namespace ZpT
open PySem PySem.Spec PyProof.Rows L2
open ZpL (ZG)
section
variable {X : Cx} {e e2 : Expr} {ta : TA} {p p2 p1 pos : Pos}
end
end ZpT
namespace Mi
open PySem PySem.Spec PyProof.Rows L2
section
variable {X : Cx} {Ω : Om} {W : WX} {e e2' : Expr} {fa : AF} {p p2 p1 pos : Pos}
end
end Mi
namespace VsX
open PySem PySem.Spec PyProof.Rows L2 PySem.W
section
variable {prog : Program} {w : World} {A : Around} {E : Value → Shared → Prop} {s : Shared} {T : String} {r d : Addr} {n : Nat} {P : Nat → Value → Prop} {OK : Heap → Prop}
end
section
variable {X : Cx} {e : Expr} {es : List Expr} {te : TE} {t : TA} {p apos cpos : Pos}
end
end VsX
namespace Mi
open PySem PySem.Spec PyProof.Rows L2 PySem.W
section
variable {X : Cx} {Ω : Om} {W : WX} {e : Expr} {es : List Expr} {f : EF} {fa : AF} {p apos cpos : Pos}
end
end Mi
namespace Mi
open PySem PySem.Spec PyProof.Rows L2 PySem.W
section
variable {prog : Program} {w : World} {A : Around} {E : Value → Shared → Prop} {s : Shared}
end
section
variable {X : Cx}
end
abbrev Tk : Type := Int ⊕ List Nat
mutual
def toks : T → List Tk
  | .bl b => [.inl (if b = true then 1 else 0)]
  | .int n => [.inl n]
  | .str x => [.inr x]
  | .tup ts => tokss ts
  | .ktup ts => tokss ts
  | .lst ts => tokss ts
  | _ => []
def tokss : List T → List Tk
  | [] => [.inl 0]
  | t :: ts => .inl 1 :: (toks t ++ tokss ts)
end
section
variable {Ω : Om}
end
section
variable {Ω : Om}
end
section
variable {K : PySem.W.Frag} {Ω : Om}
end
end Mi
namespace Mi
open PySem PySem.Spec PyProof.Rows L2
section
variable {P : Program} {w : World} {K : PySem.W.Frag} {mg : Str → Option Value} {base : Heap} {om : Rho → Om} {ρ : Rho} {k i nw L : Nat} {N ps : List Str} {b1 b2 : SF}
end
end Mi
namespace Mi
open PySem PySem.Spec PyProof.Rows L2 PySem.W
section
variable {X : Cx} {Ω : Om} {W : WX} {e : Expr} {f : EF} {pos p : Pos}
end
end Mi
namespace Mi
end Mi
namespace Mi
open PySem PySem.Spec PyProof.Rows L2
section
variable {K : PySem.W.Frag} {Ω : Om} {H : Hp}
end
end Mi
namespace Mi
end Mi
namespace XtL
open PySem PySem.Spec PyProof.Rows L2 PySem.W Mi
section
variable {X : Cx}
variable {o e : Expr} {es : List Expr} {to : TE} {t : TA} {name : Str} {apos cpos : Pos} {id : String} {r : V → List V → Hp → VK → Prop}
end
end XtL
namespace Mi
open PySem PySem.Spec PyProof.Rows L2 PySem.W
section
variable {K : PySem.W.Frag} {Ω : Om}
end
section
variable {X : Cx} {Ω : Om} {W : WX} {o e : Expr} {f : EF} {fa : AF} {apos cpos : Pos}
end
end Mi
namespace Mi
open PySem PySem.Spec PyProof.Rows L2
section
variable {X : Cx} {Ω : Om} {W : WX} {e e2' : Expr} {fa : AF} {p p2 p1 pos : Pos}
end
end Mi
namespace Mi
open PySem PySem.Spec PyProof.Rows L2
section
variable {X : Cx} {Ω : Om} {W : WX} {elt e tg : Expr} {f fd : EF} {c : TF} {pos apos cpos : Pos} {ifs : List Expr} {scope : Scope} {own : List (Str × Nat)} {gt : TG} {pf : PF} {vs : List Nat}
end
end Mi
namespace Mi
open PySem PySem.Spec PyProof.Rows L2
section
variable {X : Cx} {Ω : Om} {W : WX} {st : Stmt} {s : SF}
end
end Mi
namespace ZpX
open PySem PySem.Spec PyProof.Rows L2 RZ
open PySem.Sem (wp)
section
variable {prog : Program} {w : World} {A : Around} {E : Value → Shared → Prop} {s : Shared} {z TI TO i j l m : Addr} {k : Nat} {us vs : Array Value} {a b : Value}
end
section
variable {prog : Program} {w : World} {A : Around} {E : Value → Shared → Prop} {s : Shared} {z TI TO i j l m : Addr} {k : Nat} {us vs : Array Value} {a b : Value}
end
section
variable {prog : Program} {w : World} {A : Around} {E : Value → Shared → Prop} {s : Shared}
end
end ZpX
namespace ZpX
open PySem PySem.Calls PyProof.Rows PyProof.V PySem.Spec
open ZpL (ne_above ZG zip_no_len zip_no_hint)
section
variable {prog : Program} {w : World} {A : Around} {E : Value → Shared → Prop} {s : Shared} {z TI TO T i j l m : Addr} {f : Bool} {oT : Obj} {k1 k2 : Nat} {us vs : Array Value}
end
def ZSt (h : Heap) (z TI TO i1 i2 l1 l2 S : Addr) (i : Nat) : Prop :=
  IsPair h TI (.ref i1) (.ref i2) ∧ h.IsTupleIter i1 l1 i ∧ h.IsListIter i2 l2 i ∧ ((IsZip h z TI TO .none ∧ ∃ a b, IsPair h TO a b) ∨ ∃ (T : Addr) (f : Bool) (oT : Obj), IsZipHeld h z TI TO T f ∧ h.get? T = some oT ∧ T ≠ z ∧ T ≠ i1 ∧ T ≠ i2 ∧ T ≠ S)
section
variable {prog : Program} {w : World} {A : Around} {E : Value → Shared → Prop} {s : Shared} {z TI TO i1 i2 l1 l2 S : Addr} {i : Nat} {xs ys : Array Value}
theorem ZSt.lt {h : Heap} (st : ZSt h z TI TO i1 i2 l1 l2 S i) : z < h.objs.size ∧ i1 < h.objs.size ∧ i2 < h.objs.size ∧ TI < h.objs.size := by
  obtain ⟨hTI, ⟨o1, h1, _⟩, ⟨o2, h2, _⟩, hz | ⟨T, f, oT, hz, _⟩⟩ := st
  · exact ⟨Heap.lt_size hz.1, Heap.lt_size h1, Heap.lt_size h2, Heap.lt_size hTI⟩
  · exact ⟨Heap.lt_size hz, Heap.lt_size h1, Heap.lt_size h2, Heap.lt_size hTI⟩
theorem ZSt.keep {h h' : Heap} (D : ZipApart z TI TO i1 i2 l1 l2) (st : ZSt h z TI TO i1 i2 l1 l2 S i) (hS : S ≠ z ∧ S ≠ TO ∧ S ≠ i1 ∧ S ≠ i2 ∧ S ≠ TI) (up : ∀ b o, b ≠ S → h.get? b = some o → h'.get? b = some o) : ZSt h' z TI TO i1 i2 l1 l2 S i := by
  obtain ⟨s1, s2, s3, s4, s5⟩ := hS
  obtain ⟨hTI, ⟨o1, h1, r1⟩, ⟨o2, h2, r2⟩, ⟨hz, a, b, hTO⟩ | ⟨T, f, oT, hz, hT, t1, t2, t3, t4⟩⟩ := st
  · exact ⟨up _ _ s5.symm hTI, ⟨o1, up _ _ s3.symm h1, r1⟩, ⟨o2, up _ _ s4.symm h2, r2⟩, .inl ⟨up _ _ s1.symm hz, a, b, up _ _ s2.symm hTO⟩⟩
  · exact ⟨up _ _ s5.symm hTI, ⟨o1, up _ _ s3.symm h1, r1⟩, ⟨o2, up _ _ s4.symm h2, r2⟩, .inr ⟨T, f, oT, up _ _ s1.symm hz, up _ _ t4 hT, t1, t2, t3, t4⟩⟩
end
section
variable {prog : Program} {w : World} {A : Around} {s : Shared} {R : Result → Shared → Prop} {z TI TO i1 i2 l1 l2 S : Addr} {xs ys : Array Value}
end
section
variable {prog : Program} {w : World} {A : Around} {E : Value → Shared → Prop} {s : Shared} {z TI TO i1 i2 l1 l2 : Addr} {xs ys : Array Value}
end
end ZpX
namespace ZpX
open PySem PySem.Spec PyProof.Rows L2
open ZpL (ZG)
section
variable {X : Cx} {e e2 : Expr} {ta : TA} {p p2 p1 pos : Pos}
end
end ZpX
namespace Mi
open PySem PySem.Spec PyProof.Rows L2
section
variable {X : Cx} {Ω : Om} {W : WX} {e e2' : Expr} {fa : AF} {p p2 p1 pos : Pos}
end
end Mi
namespace Mi
open PySem PySem.Spec PyProof.Rows PySem.Calls L2

structure InitC (prog : Program) (K : PySem.W.Frag) (mg : Str → Option Value) (fI D : Addr) (params : Arguments) (body : List Stmt) (scope : Scope) (fd : FuncData) : Prop where
  fn : ∃ (cc cda : Addr) (oc : Value) (od : Option Addr) (osl : Array (Option Value)) (dV kV doc pm ct : Value) (an : Option Addr), fd = PySem.W.ksFn "__init__" "NeedError.__init__" params body scope dV kV doc pm an (.ref cda) ct cc ∧
    K.lookup fI = some ⟨oc, od, .func fd, osl⟩ ∧ PySem.W.codeIn K (.ref cda) "NeedError.__init__" = true ∧
    (∃ (ccl : Value) (cdd : Option Addr) (ccs : Array (Option Value)) (vs : Array Value) (file : Str) (tf : Tok), K.lookup cda = some ⟨ccl, cdd, .fields vs, ccs⟩ ∧ vs[2]? = some (.str file tf) ∧ ((prog.main.file : Str) == file) = true) ∧
    (∃ (cl : Value) (cld : Option Addr) (csl : Array (Option Value)), K.lookup cc = some ⟨cl, cld, .cell (some (.ref D)), csl⟩)
  cD : ∃ cdD, PySem.W.clsIn K D = some cdD
  nosuper : mg "super" = none
  top : (prog.main.scope.names.lookup ("super" : Str)).isSome = false
structure ErrC (K : PySem.W.Frag) (D C : Addr) : Prop where
  ox : OexC K C
  novalue : PySem.W.findIn K (.ref C) "value" = some none
  sub : PySem.W.mroIn K C (.ref D) = some true
  sup : PySem.W.ks_superIn K C D "__init__" = some (some (.builtin "ValueError.__init__"))
  ve : PySem.W.subIn K (.ref C) (.type "ValueError") = some true
  opq : PySem.W.nsIn K cStatics "thirdparty.any" = some none
abbrev bwV (x : Addr) : Obj := PySem.W.kxs_mw "ValueError.__init__" x
section
variable {prog : Program} {w : World} {A : Around} {E : Value → Shared → Prop} {h : Heap} {g : Array GenState} {d : Drawn} {t : Nat} {os : OsState}
variable {nm q : Str} {C N : Addr} {bs bm : List Value} {hdct : Bool} {sn : List Str} {sub : List Value} {ab : Bool} {col : Option Bool} {dd : Option Addr} {k0 k1 k2 k3 k5 : Option Value}
theorem call_bwV {u e t0 : Addr} {rest : List Value} {Q : Value → Shared → Prop}
    (hC : h.get? C = some (excClassObj nm q C N bs bm hdct sn sub ab col dd k0 k1 k2 k3 k5 "ValueError.__new__")) (he : h.get? e = some (PySem.HandSPX.excO C t0)) (hu : h.get? u = some (bwV e)) (hrest : rest.length ≤ sizeLine)
    (hq : ∀ h' t1, (∀ b o, b ≠ e → h.get? b = some o → h'.get? b = some o) → h'.get? e = some (PySem.HandSPX.excO C t1) → Q .none ⟨h', g, d, t, os⟩) :
    wpAny (model prog w) A (call (.ref u) rest) Q E ⟨h, g, d, t, os⟩ := by
  refine wpAny_call (codeAny_of_tree ?_)
  show wpAny _ A.in1 (callAny (.ref u) ⟨rest, []⟩) _ _ _
  simp only [callAny]
  refine wpAny_bind (wpAny_load hu ?_)
  simp only [PySem.W.kxs_mw, show (Value.type "method-wrapper" == Value.type "method" || Value.type "method-wrapper" == Value.type "builtin_function_or_method" || Value.type "method-wrapper" == Value.type "method-wrapper") = true by decide, if_true]
  refine PySem.W.KFB.if_so (by decide) ?_
  refine wpAny_bind (PySem.ESX.check_bound F.excBase_ValueError hC he rfl ?_)
  refine wpAny_bind (wpAny_pure (wpAny_pure ?_))
  refine ⟨Code.quiet_builtin _ (by decide +kernel), codeAny_builtin F.excBase_ValueError.initEntry ?_⟩
  exact PySem.W.exc_init_tree (cls := .ref C) (t0 := t0) (dv := none) (c2 := .none) (c3 := .none) (b4 := .bool false) he hrest fun h' k e' _ => hq h' _ k e'
end
section
variable {P : Program} {w : World} {K : PySem.W.Frag} {mg : Str → Option Value} {base : Heap} {fI D : Addr} {fd : FuncData} {scope : Scope}
abbrev initB (p1 p2 p3 p4 p5 p6 p7 p8 p9 p10 : Pos) : List Stmt := [.Expr (.Call (.Attribute (.Call (.Name "super" p1) [] [] p2) "__init__" p3) [.Name "value" p4] [] p5) p6, .Assign [.Attribute (.Name "self" p7) "value" p8] (.Name "value" p9) p10]
def spI (K : PySem.W.Frag) (D : Addr) : Sp := fun vs H Q _ => ∃ (a C : Addr) (y : V), vs = [.ref a, y] ∧ ErrC K D C ∧ H a = some (exo a C none) ∧ ∀ dx, H dx = none → dx ≠ a → Q .non (upd (upd H dx (exd dx [("value", y)])) a (exo a C (some dx)))
theorem init_ok {k : Nat} {params : Arguments} {p1 p2 p3 p4 p5 p6 p7 p8 p9 p10 : Pos} (T : InitC P K mg fI D params (initB p1 p2 p3 p4 p5 p6 p7 p8 p9 p10) scope fd)
    (he : ∀ env : Env, ∃ pl : Sem Bool, eval (.Call (.Attribute (.Call (.Name "super" p1) [] [] p2) "__init__" p3) [.Name "value" p4] [] p5) env = (do
      let ov ← attributeBase (.Call (.Name "super" p1) [] [] p2) "__init__" env (eval (.Call (.Name "super" p1) [] [] p2) env)
      standAt p3.atName
      let (f, first) ← holding [ov] (getMethod ov "__init__" pl)
      callWith p5 f first (backTo p5 (starEach [.Name "value" p4] env)) []))
    (hpar : (params.posonlyargs ++ params.args).head?.map (·.arg) = some ("self" : Str))
    (hk : scope.kind = .function) (hco : scope.isCoroutine = false) (hgen : scope.isGenerator = false) (hcell : ∀ x ∈ scope.names, x.2 ≠ .cell)
    (hks : scope.names.lookup ("super" : Str) = some .globalImplicit) (hkc : scope.names.lookup ("__class__" : Str) = some .free) (hkself : scope.names.lookup ("self" : Str) = some .local) (hkval : scope.names.lookup ("value" : Str) = some .local) :
    FnOk P w K mg base (L2.CX P w) (k + 1) fI fd ["self", "value"] (spI K D) := by
  refine ⟨fun vs H Q E ⟨a, C, y, e, _⟩ => by rw [e]; rfl, fun A outer s H args us vs Q E hr e0 hb rv sp => ?_⟩
  obtain ⟨a, C, y, rfl, EC, ha, hq⟩ := sp
  obtain ⟨u, rfl, ry⟩ : ∃ u, us = [.ref a, u] ∧ RelV y u := by
    cases rv with
    | @cons _ ua _ ur r1 r2 =>
      cases r2 with
      | @cons _ u _ _ r3 r4 =>
        cases r4
        obtain rfl : ua = Value.ref a := r1
        exact ⟨u, rfl, r3⟩
  have X : K.In s.heap := e0.mod.kin.keeps fun b o e => (e0.bs b o e).1
  have lim : s.heap.NoLimit := e0.mod.nolimit.keeps fun b o e => (e0.bs b o e).1
  have glob : s.heap.Ns mainGlobals mg := e0.mod.glob.keeps fun b o e => (e0.bs b o e).1
  obtain ⟨mb, blt0, hblt⟩ := e0.mod.blt
  have blt : s.heap.Ns builtinsNs mb := blt0.keeps fun b o e => (e0.bs b o e).1
  obtain ⟨cc, cda, oc, od, osl, dV, kV, doc, pm, ct, an, rfl, lk, hcd, ⟨ccl, cdd, ccs, cvs, file, tf, lkc, hvs, hfile⟩, ⟨cl, cld, csl, lkcell⟩⟩ := T.fn
  obtain ⟨cdD, hD⟩ := T.cD
  obtain ⟨oD, hD1, hD2⟩ : ∃ oD, K.lookup D = some oD ∧ oD.data = .cls cdD := by
    unfold PySem.W.clsIn at hD
    split at hD
    · rename_i c d cd' sl ho
      cases hD
      exact ⟨_, ho, rfl⟩
    · cases hD
  obtain ⟨ar, har, harn⟩ : ∃ ar, (params.posonlyargs ++ params.args).head? = some ar ∧ ar.arg = ("self" : Str) := by
    cases z : (params.posonlyargs ++ params.args).head? with
    | none => rw [z] at hpar; cases hpar
    | some ar => rw [z] at hpar; exact ⟨ar, rfl, Option.some.inj hpar⟩
  obtain ⟨t0, hoa⟩ := exo_at e0.hok ha
  obtain ⟨nm, q, N, bs, bm, sn, sub, ab, col, dd, k0, k1, k2, k3, k5, hC, hbm⟩ := EC.ox.cls
  have hcl : PySem.W.clsIn K C = some { name := nm, bases := bs, mro := .ref C :: bm, ns := N, qualname := q, hasDict := true, slotNames := sn, subclasses := sub, abstract := ab, collection := col, hasDel := false } := by unfold PySem.W.clsIn; rw [hC] <;> rfl
  refine PySem.ks_codeAny_call_defAt (fd := PySem.W.ksFn "__init__" "NeedError.__init__" params (initB p1 p2 p3 p4 p5 p6 p7 p8 p9 p10) scope dV kV doc pm an (.ref cda) ct cc) (body := initB p1 p2 p3 p4 p5 p6 p7 p8 p9 p10) (binds := [("self", .ref a), ("value", u)]) hr.depth (X _ _ lk) rfl lim (PySem.W.codeRec_of X hcd) rfl hb hcell (fun x hx => ?_) (fun h₁ hns hk₁ => ?_) hco hgen hk
  · rcases List.mem_cons.mp hx with rfl | hx
    · exact hkself
    · rcases List.mem_cons.mp hx with rfl | hx
      · exact hkval
      · cases hx
  -- super().__init__(value)
  have K1 : K.In h₁ := X.keeps hk₁
  have g1 : h₁.Ns mainGlobals mg := glob.keeps hk₁
  have b1 : h₁.Ns builtinsNs mb := blt.keeps hk₁
  have a1 : h₁.get? a = some (PySem.HandSPX.excO C t0) := hk₁ _ _ hoa
  have mself : (fun x => ([("self", Value.ref a), ("value", u)] : List (Str × Value)).reverse.lookup x) "self" = some (.ref a) := rfl
  have mval : (fun x => ([("self", Value.ref a), ("value", u)] : List (Str × Value)).reverse.lookup x) "value" = some u := rfl
  obtain ⟨pl, hev⟩ := he (callEnv (PySem.W.ksFn "__init__" "NeedError.__init__" params (initB p1 p2 p3 p4 p5 p6 p7 p8 p9 p10) scope dV kV doc pm an (.ref cda) ct cc) s.heap.objs.size fI)
  refine PySem.ks_wpAt_execs_cons (PySem.ks_wpAt_Expr_any (PySem.ks_wpAt_MethodCall (he := hev) (PySem.ks_wpAt_super_base (of := ⟨oc, od, .func (PySem.W.ksFn "__init__" "NeedError.__init__" params (initB p1 p2 p3 p4 p5 p6 p7 p8 p9 p10) scope dV kV doc pm an (.ref cda) ct cc), osl⟩) hks hkc (by decide) rfl (K1 _ _ lk) rfl har rfl (K1 _ _ lkc) rfl hvs hfile T.top ?_)) (by show (scope.kind == .module && _) = false; rw [hk]; rfl) rfl)
  refine PySem.W.ks_loadName_global hk hks (loadGlobal_builtin g1 T.nosuper b1 ((hblt _ (by decide +kernel)).trans PyProof.Rows.Boot.«super») ⟨rfl, ?_⟩)
  refine wpAny_loadName_free hk hkc rfl ⟨_, K1 _ _ lkcell, rfl⟩ ?_
  rw [harn]
  refine wpAny_loadName_local hk hkself hns mself ?_
  refine PySem.ks_wpAny_isType_cls (K1 _ _ hD1) hD2 ⟨rfl, ?_⟩
  refine PySem.ks_wpAny_call_super (K1 _ _ hD1) hD2 a1 rfl (fun c e => by cases e) (PySem.W.looks_mroIn K1 EC.sub) (fun h₂ hso hk₂ => ?_)
  -- its __init__
  have K2 : K.In h₂ := K1.keeps hk₂
  have a2 := hk₂ _ _ a1
  have hxC : a ≠ C := fun z => by
    have := K2 _ _ hC
    rw [← z, a2] at this
    cases this
  have hsup := EC.sup
  unfold PySem.W.ks_superIn at hsup
  rw [hcl] at hsup
  have I2 : PySem.W.InstAt h₂ a (PySem.HandSPX.excO C t0) C none := ⟨a2, rfl, rfl, trivial⟩
  refine PySem.W.kxs_getMethod (l₀ := .ref C :: bm) PySem.W.kxs_ValueError hso (PySem.W.looks_opaque K2 EC.opq) ((PySem.W.looks_clsIn K2 hcl).andThen .now) rfl K2 hsup (I2.type.andThen (PySem.W.looks_subIn K2 EC.ve)) hxC (by decide) ?_
  have hk₃ : ∀ b o, h₂.get? b = some o → (h₂.push (PySem.W.kxs_mw "ValueError.__init__" a)).get? b = some o := fun b o e => Heap.get?_push_of_some _ e
  have hmw : (h₂.push (PySem.W.kxs_mw "ValueError.__init__" a)).get? h₂.objs.size = some (bwV a) := Heap.get?_push_at rfl rfl
  have ns3 := hns.keeps fun b o e => hk₃ b o (hk₂ b o e)
  -- called
  refine PySem.W.kxs_callWith (i := "ValueError.__init__") (x := a) rfl ?_
  refine evalArgs_plain (spliced_cons (wpAny_Name (wpAny_loadName_local hk hkval ns3 mval (spliced_nil ⟨hmw, ?_⟩)) (by decide)))
  refine call_bwV (K2.keeps hk₃ _ _ hC) (hk₃ _ _ a2) hmw (by rw [sizeLine_eq]; show 1 ≤ _; omega) (fun h₄ t1 hk₄ a4 => ?_)
  -- self.value = value
  have k4 : ∀ b o, b ≠ a → h₁.get? b = some o → h₄.get? b = some o := fun b o nb e => hk₄ b o nb (hk₃ b o (hk₂ b o e))
  have na : ∀ {b : Addr}, H b = none → b ≠ a := fun {b} n z => by
    rw [z, ha] at n
    cases n
  have K4 : K.In h₄ := fun b o e => k4 b o (na (e0.bs b o (e0.mod.kin _ _ e)).2) (K1 b o e)
  have La : s.heap.objs.size ≠ a := Nat.ne_of_gt (Heap.lt_size hoa)
  have ns4 : h₄.Ns s.heap.objs.size (fun x => ([("self", Value.ref a), ("value", u)] : List (Str × Value)).reverse.lookup x) := by
    obtain ⟨o, es, ep, ho, r⟩ := hns
    exact ⟨o, es, ep, k4 _ _ La ho, r⟩
  refine PySem.ks_wpAt_execs_cons (PySem.ks_wpAt_Assign_Attr (wpAt_of_wpAny (wpAny_Name (wpAny_loadName_local hk hkval ns4 mval (wpAny_Name (wpAny_loadName_local hk hkself ns4 mself ?_) (by decide))) (by decide))) rfl)
  refine PySem.W.set_plain K4 (ox := PySem.HandSPX.excO C t1) (od := none) ⟨a4, rfl, rfl, trivial⟩ EC.ox.sa ?_
  refine PySem.HandSPX.exc_osa K4 a4 hcl (show PySem.HandSPX.refsVE (.ref C :: bm) = true from hbm) rfl EC.novalue (fun h₅ tk' dx k5' dn dne hx hn => ?_)
  refine wpAt_of_wpAny (wpAny_execs_nil ?_)
  have kk : ∀ b o, b ≠ a → s.heap.get? b = some o → h₅.get? b = some o := fun b o nb e => k5' b o nb (k4 b o nb (hk₁ b o e))
  have lt4 : ∀ {b : Addr} {o : Obj}, s.heap.get? b = some o → b < h₄.objs.size := fun {b o} e => by
    by_cases nb : b = a
    · rw [nb]; exact Heap.lt_size a4
    · exact Heap.lt_size (k4 b o nb (hk₁ b o e))
  have nd : ∀ {b : Addr} {o : Obj}, s.heap.get? b = some o → b ≠ dx := fun {b o} q => Nat.ne_of_lt (Nat.lt_of_lt_of_le (lt4 q) dn)
  have hnd : H dx = none := by
    cases z : H dx with
    | none => rfl
    | some o =>
      have := e0.hok.lt z
      obtain ⟨ob, hob⟩ := objOk_get (e0.hok _ _ z)
      exact absurd rfl (nd hob)
  have Un1 : Un (frs outer) [] H (upd (upd H dx (exd dx [("value", y)])) a (exo a C (some dx))) s.heap h₅ := {
    keep := fun b o q n _ _ => kk b o (na n) q
    slot := fun b o q n _ _ => ⟨o.slots, kk b o (na n) q⟩
    free := fun b o q n _ => by rw [upd_ne (na n), upd_ne (nd q)]; exact n
    there := fun b o q _ => by
      by_cases hb : b = a
      · exact ⟨_, by rw [hb]; exact hx⟩
      · exact ⟨o, kk b o hb q⟩
    tups := fun b xs q => by rw [upd_ne (at_ne ha q exo_tup), upd_ne (ne_of_none q hnd)]; exact q
    frzs := fun b o v q => by rw [upd_ne (at_ne ha q exo_frz), upd_ne (ne_of_none q hnd)]; exact q
    tbls := fun b ps q => ⟨#[], by rw [upd_ne (at_ne ha q exo_tbl), upd_ne (ne_of_none q hnd), q]; simp⟩ }
  refine ⟨.non, _, rfl, e0.bare, Un1, fun b o q => ?_, rfl, hq dx hnd dne⟩
  by_cases hb : b = a
  · subst hb
    rw [upd_same] at q
    cases q
    exact exo_ok hx
  · rw [upd_ne hb] at q
    by_cases hd : b = dx
    · subst hd
      rw [upd_same] at q
      cases q
      exact exd_ok hn (relO_put (fs := []) ry fun g => True.intro)
    · rw [upd_ne hd] at q
      exact (e0.hok b o q).stay (fun c v hc z => kk c v (by
          rcases hc with hc | hc
          · rw [hc]
            exact hb
          · exact at_ne ha hc exo_own) z)
        (fun c hc => by rw [upd_ne (at_ne ha hc exo_own), upd_ne (ne_of_none hc hnd)]; exact hc) (fun c xs hc => by rw [upd_ne (at_ne ha hc exo_tup), upd_ne (ne_of_none hc hnd)]; exact hc)
end
end Mi
namespace Mi
open PySem PySem.Spec PyProof.Rows L2
structure XcG (P : Program) (w : World) (K : PySem.W.Frag) (mg : Str → Option Value) (base : Heap) (Ω : Om) (x : Str) (c k : Nat) : Prop where
  ex : ∃ (fI D : Addr) (fd : FuncData), mg x = some (.ref (Ω.cls c)) ∧ ErrC K D (Ω.cls c) ∧ PySem.W.findIn K (.ref (Ω.cls c)) "__init__" = some (some (.ref fI)) ∧ PySem.W.typeIn K (.ref fI) = some (.type "function") ∧ FnOk P w K mg base (L2.CX P w) k fI fd ["self", "value"] (spI K D) ∧ Binds K fd ["self", "value"] []
section
variable {X : Cx} {Ω : Om} {W : WX} {e : Expr} {f : EF} {x : Str} {c k : Nat} {p pos pos' : Pos}
theorem passL0 {CX : CXT} : Passes (L2.CX X.prog X.w) X (fun _ _ _ => False) := fun pins σ H s e s' I h => by
  obtain ⟨_, _, _, _, _, _, _, _, _, _, _, _, z⟩ := h
  exact z.elim
end
end Mi
namespace L2
open PySem PySem.Spec PyProof.Rows
section
variable {X : Cx} {pins : List (Addr × Obj)} {σ : St} {H : Hp} {s : Shared}
abbrev xKept (oe : Obj) : HO := .frz oe (.ext fun _ => True)
end
section
variable {X : Cx} {x n : Str} {c : Value} {i : Nat} {body suite : List Stmt} {b₀ : Stmt} {np pos pos' : Pos} {tb : WX → TS} {ts : Addr → Value → Option Addr → Obj → TS} {Wout : WX}
end
end L2
namespace LamX
open PySem PySem.Spec PyProof.Rows L2
section
variable {X : Cx} {pins : List (Addr × Obj)} {σ : L2.St} {H HZ : Hp} {s s1 : Shared}
end
end LamX
namespace LamX
open PySem PySem.Spec PyProof.Rows L2
def slT (f : Addr) : L2.St := [some (.ref f), some .non, some .non, none]
section
variable {X : Cx} {Ng : List Str} {x a e q : Str} {sg : Scope} {g CS : Addr} {cdg : Value} {S1 : Stmt} {j : Nat} {p1 p2 p3 p4 p5 p6 p7 p8 p9 p10 p11 p12 p13 p14 : Pos} {kx : Nat}
end
end LamX
namespace Mi
open PySem PySem.Spec PyProof.Rows L2 LamX
section
variable {K : PySem.W.Frag} {Ω : Om} {CS : Addr} {cs : List Nat} {f : EF} {W : WX}
end
end Mi
namespace Mi
open PySem PySem.Spec PyProof.Rows L2
structure ErrI (K : PySem.W.Frag) (C : Addr) : Prop where
  xf : XfC K C
  novalue : PySem.W.findIn K (.ref C) "value" = some none
  cl : (PySem.W.clsIn K C).isSome = true
  ha : PySem.W.findIn K (.ref C) "__class__" = some (some (.builtin "object.__class__"))
  hn : PySem.W.specialIn K (.builtin "object.__class__") "__get__" = some (some (.builtin "getset_descriptor.__get__"))
  htk : PySem.W.takesIn K (.builtin "object.__class__") = some true
  hm : PySem.W.mroIn K C (.type "object") = some true
def rIsX (K : PySem.W.Frag) : List V → Hp → VK → Prop := fun xs H Q => ∃ (a C d : Addr) (oe : Obj) (fs : List (Str × V)) (c : V) (cv : Value) (b : Bool), xs = [.ref a, c] ∧ H a = some (.frz oe xO) ∧ (oe.cls = .ref C ∧ oe.dict = some d) ∧ (∃ vs, oe.data = .fields vs) ∧ H d = some (.xd fs) ∧ ErrI K C ∧
  (∀ u, RelV c u → u = cv) ∧ PySem.W.kitOne K (.ref C) cv = some b ∧ Q (.bl b) H
theorem inst_kept {X : Cx} {pins : List (Addr × Obj)} {σ : L2.St} {H : Hp} {s : Shared} (I : Inv X pins σ H s) {a C d : Addr} {oe : Obj} {fs : List (Str × V)} (ha : H a = some (.frz oe xO)) (hz : oe.cls = .ref C ∧ oe.dict = some d) (hf : ∃ vs, oe.data = .fields vs) (hd : H d = some (.xd fs)) :
    ∃ (od : Obj) (mA : Str → Option Value), PySem.W.InstAt s.heap a oe C (some od) ∧ (∀ f, RelO (fs.lookup f) (mA f)) ∧ ∀ f, PySem.W.lookIn f od = some (mA f) := by
  obtain ⟨vs, hf⟩ := hf
  obtain ⟨h1, _⟩ := I.hok a _ ha
  obtain ⟨mA, hns, hr⟩ := I.hok d _ hd
  obtain ⟨od, ho, hl⟩ := lookIn_ns hns
  exact ⟨od, mA, ⟨h1, hz.1, by unfold PySem.W.notCls; rw [hf] <;> rfl, by rw [hz.2]; exact ho⟩, hr, hl⟩
theorem call_isX {X : Cx} : CallR X (.builtin "isinstance") (rIsX X.K) := by
  intro pins s σ H xs us Q I r h
  obtain ⟨a, C, d, oe, fs, c, cv, b, rfl, ha, hz, hf, hd, E, hcv, e, q⟩ := h
  cases r with
  | cons rx rr =>
    cases rr with
    | cons rt rr =>
      cases rr
      cases rx
      have ec := hcv _ rt
      subst ec
      obtain ⟨od, mA, J, _, _⟩ := inst_kept I ha hz hf hd
      exact PySem.W.kia_one (PySem.W.kitx_exc E.cl E.xf.ga E.xf.gg E.xf.exC E.ha E.hn E.htk E.hm) I.kIn J e (fun z => nomatch z) fun tk => ⟨.bl b, H, I.kept (t' := tk) fun _ _ z => z, rfl, q⟩
def tXv (K : PySem.W.Frag) (te : TE) : TE := fun σ H Q => te σ H fun x H1 => ∃ (a C d : Addr) (oe : Obj) (fs : List (Str × V)) (v : V), x = .ref a ∧ H1 a = some (.frz oe xO) ∧ (oe.cls = .ref C ∧ oe.dict = some d) ∧ (∃ vs, oe.data = .fields vs) ∧ H1 d = some (.xd fs) ∧ ErrI K C ∧ fs.lookup ("value" : Str) = some v ∧ Q v H1
theorem pe_xv {X : Cx} {e : Expr} {te : TE} {pos : Pos} (he : PE X e te) (hb : attributeBase e "value" X.env (eval e X.env) = eval e X.env := by rfl) : PE X (.Attribute e "value" pos) (tXv X.K te) := by
  refine ⟨fun pins s σ H Q I h => ?_⟩
  refine attr_of hb (thn (he.run pins s σ H _ I h) fun u s1 hh => ?_)
  obtain ⟨x, H1, I1, rx, a, C, d, oe, fs, v, rfl, ha, hz, hf, hd, E, hl, q⟩ := hh
  obtain rfl : u = Value.ref a := rx
  obtain ⟨od, mA, J, hr, hm⟩ := inst_kept I1 ha hz hf hd
  obtain ⟨w, hw, rw'⟩ := RelO.some_of (v := v) (o := mA "value") (by rw [← hl]; exact hr "value")
  exact HandSPX.exc_get I1.kIn J E.xf.ga E.xf.gg E.xf.exC (PySem.W.findObj_own E.xf.hdC E.novalue rfl (by rw [hm, hw])) (handed_of rw') ⟨v, H1, I1.tok _, rw', q⟩
def eIsX (cs : List Nat) (c : Nat) (f : EF) : EF := fun σ M => (f σ M).bind fun t M1 => match t with
  | .xob c' _ => bif cs.contains c' then .ok (.bl (c' == c)) M1 else .err
  | .non => .ok (.bl false) M1
  | _ => .err
def eXv (cs : List Nat) (f : EF) : EF := fun σ M => (f σ M).bind fun t M1 => match t with
  | .xob c' u => bif cs.contains c' then .ok u M1 else .err
  | _ => .err
section
variable {X : Cx} {Ω : Om} {W : WX} {e : Expr} {f : EF} {p p1 pos : Pos} {c : Nat} {cs : List Nat} {x : Str}
theorem me_isX (hgI : Gl X "isinstance") (hmI : X.mg "isinstance" = none) (hg : Gl X x) (hm : X.mg x = some (.ref (Ω.cls c))) (hE : ∀ c' ∈ cs, ErrI X.K (Ω.cls c')) (hk : ∀ c' ∈ cs, PySem.W.kitOne X.K (.ref (Ω.cls c')) (.ref (Ω.cls c)) = some (c' == c))
    (hn : PySem.W.kitOne X.K (.type "NoneType") (.ref (Ω.cls c)) = some false) (he : ME X Ω W e f)
    (hd : (x == ("__debug__" : Str)) = false := by decide) (hs1 : starEach [e, .Name x p1] X.env = (false, eval e X.env) :: starEach [.Name x p1] X.env := by rfl) (hs2 : starEach [.Name x p1] X.env = (false, eval (.Name x p1) X.env) :: starEach [] X.env := by rfl) (hpl : (backTo pos (starEach [.Name x p1] X.env)).any (·.1) = false := by rfl) :
    ME X Ω W (.Call (.Name "isinstance" p) [e, .Name x p1] [] pos) (eIsX cs c f) := by
  have hB : PE X (.Name x p1) (tC (.ref (Ω.cls c))) := pe_glob (v := .ref (Ω.cls c)) hg hm rfl hd
  have P1 := pe_callB (call_isX (X := X)) hgI hmI (by decide +kernel) (pa_cons he (pa_cons hB pa_nil hs2) hs1) (by decide) (by decide) hs1 hpl (p := p) (pos := pos)
  have P2 := pe_callB (call_isi (X := X)) hgI hmI (by decide +kernel) (pa_cons he (pa_cons hB pa_nil hs2) hs1) (by decide) (by decide) hs1 hpl (p := p) (pos := pos)
  refine L2PE.imp (L2PE.or P1 P2) fun σ H Q ⟨Z, ι, M, σT, m, rv, q⟩ => ?_
  unfold eIsX at q
  cases z : f σT M with
  | err => rw [z] at q; exact q.elim
  | exc c' t M1 =>
    rw [z] at q
    refine .inl ⟨Z, ι, M, σT, m, rv, ?_⟩
    rw [z]
    exact q
  | ok t M1 =>
    rw [z] at q
    cases t with
    | xob c' u =>
      refine .inl ⟨Z, ι, M, σT, m, rv, ?_⟩
      rw [z]
      intro ι1 H1 v m1 e1 r1
      cases r1 with
      | @xob _ _ a oe d w h1 h2 h3 h4 st r =>
        cases hc : cs.contains c' with
        | false => dsimp only [Res.bind] at q; rw [hc] at q; exact q.elim
        | true =>
          dsimp only [Res.bind] at q
          rw [hc] at q
          have hm' : c' ∈ cs := by simpa using hc
          exact ⟨a, Ω.cls c', d, oe, _, .ref (Ω.cls c), .ref (Ω.cls c), c' == c, rfl, h1, h2, h3, h4, hE c' hm', fun u hu => hu, hk c' hm', q ι1 H1 _ m1 e1 (.bl _)⟩
    | non =>
      refine .inr ⟨Z, ι, M, σT, m, rv, ?_⟩
      rw [z]
      intro ι1 H1 v m1 e1 r1
      cases r1
      exact ⟨.non, .ref (Ω.cls c), .type "NoneType", .ref (Ω.cls c), false, rfl, .own _, .base .non, hn, q ι1 H1 _ m1 e1 (.bl _)⟩
    | _ => exact q.elim
theorem me_xv (hE : ∀ c' ∈ cs, ErrI X.K (Ω.cls c')) (he : ME X Ω W e f) (hb : attributeBase e "value" X.env (eval e X.env) = eval e X.env := by rfl) : ME X Ω W (.Attribute e "value" pos) (eXv cs f) := by
  refine L2PE.imp (pe_xv he hb) fun σ H Q ⟨Z, ι, M, σT, m, rv, q⟩ => ⟨Z, ι, M, σT, m, rv, Post.bind q fun ι1 M1 H1 t v m1 e1 q1 p1 => ?_⟩
  cases q1 with
  | @xob c' u a oe d w h1 h2 h3 h4 st r =>
    cases hc : cs.contains c' with
    | false => dsimp only at p1; rw [hc] at p1; exact p1.elim
    | true =>
      dsimp only at p1
      rw [hc] at p1
      exact ⟨a, Ω.cls c', d, oe, _, w, rfl, h1, h2, h3, h4, hE c' (by simpa using hc), rfl, p1.pure m1 r⟩
  | _ => exact p1.elim
end
end Mi
namespace Mi
open PySem PySem.Spec PyProof.Rows L2
class ProgF (P : Program) : Prop where
  file : ((P.main.file : Str) == ("/claim/cut.py" : Str)) = true
  top : (P.main.scope.names.lookup ("super" : Str)).isSome = false
instance {CX : CXT} {P : Program} {w : World} {K : PySem.W.Frag} {mg : Str → Option Value} {base : Heap} {N : List Str} {qual : Str} {scope : Scope} {f : Addr} {cd : Value} {A : Around} {outer : List Env} {s : Shared} {H : Hp} {E : XK} [h : ProgF P] :
    ProgF (cxOf CX P w K mg base N qual scope f cd A outer s H E).prog := h
instance {X : Cx} {A : Around} {outer : List Env} {s : Shared} {H : Hp} {E : XK} {scope : Scope} {f c' : Addr} [h : ProgF X.prog] : ProgF (LamX.lamCx X A outer s H E scope f c').prog := h
theorem bodB_ok {b : FuncBody} (h : bodB b = true) : ∃ p1 p2 p3 p4 p5 p6 p7 p8 p9 p10, b = .stmts (initB p1 p2 p3 p4 p5 p6 p7 p8 p9 p10) ∧ (p3.endLine == p5.line) = true := by
  unfold bodB at h
  split at h
  · rename_i a p1 p2 b p3 c p4 p5 p6 d p7 e p8 f p9 p10
    obtain ⟨h1, h⟩ := Bool.and_eq_true_iff.mp h
    obtain ⟨h2, h⟩ := Bool.and_eq_true_iff.mp h
    obtain ⟨h3, h⟩ := Bool.and_eq_true_iff.mp h
    obtain ⟨h4, h⟩ := Bool.and_eq_true_iff.mp h
    obtain ⟨h5, h⟩ := Bool.and_eq_true_iff.mp h
    obtain ⟨h6, h7⟩ := Bool.and_eq_true_iff.mp h
    have h1 := of_decide_eq_true h1
    have h2 := of_decide_eq_true h2
    have h3 := of_decide_eq_true h3
    have h4 := of_decide_eq_true h4
    have h5 := of_decide_eq_true h5
    have h6 := of_decide_eq_true h6
    subst h1 h2 h3 h4 h5 h6
    exact ⟨_, _, _, _, _, _, _, _, _, _, rfl, h7⟩
  · cases h
theorem parB_ok {p : Arguments} (h : parB p = true) : ∃ x y : Arg, p = ⟨[], [x, y], none, [], [], none, []⟩ ∧ x.arg = "self" ∧ y.arg = "value" := by
  unfold parB at h
  split at h
  · rename_i x y
    obtain ⟨h1, h2⟩ := Bool.and_eq_true_iff.mp h
    exact ⟨x, y, rfl, of_decide_eq_true h1, of_decide_eq_true h2⟩
  · cases h
theorem superEval {p1 p2 p3 p4 p5 : Pos} {env : Env} (h : (p3.endLine == p5.line) = true) : ∃ pl : Sem Bool, eval (.Call (.Attribute (.Call (.Name "super" p1) [] [] p2) "__init__" p3) [.Name "value" p4] [] p5) env = (do
      let ov ← attributeBase (.Call (.Name "super" p1) [] [] p2) "__init__" env (eval (.Call (.Name "super" p1) [] [] p2) env)
      standAt p3.atName
      let (f, first) ← holding [ov] (getMethod ov "__init__" pl)
      callWith p5 f first (backTo p5 (starEach [.Name "value" p4] env)) []) := by
  have e : ∀ few : Bool, methodCallPos few (.Call (.Name "super" p1) [] [] p2) env p3 p5 = pure p5 := fun few => by
    unfold methodCallPos
    rw [h, Bool.or_true]
    rfl
  refine ⟨(do return (← importBound (.Call (.Name "super" p1) [] [] p2) env).getD true), ?_⟩
  show (do
    let ov ← attributeBase (.Call (.Name "super" p1) [] [] p2) "__init__" env (eval (.Call (.Name "super" p1) [] [] p2) env)
    standAt p3.atName
    methodCall (.Call (.Name "super" p1) [] [] p2) "__init__" p3 p5 env ov 1 (backTo p5 (starEach [.Name "value" p4] env)) []) = _
  unfold methodCall
  simp only [e, pure_bind]
  rfl
section
variable {P : Program} {w : World} {K : PySem.W.Frag} {mg : Str → Option Value} {base : Heap} {f D : Addr} {k : Nat}
theorem initK_ok [PF : ProgF P] (h : initK K f D = true) (hs : mg "super" = none) (hD : (PySem.W.clsIn K D).isSome = true) : ∃ fd, FnOk P w K mg base (L2.CX P w) (k + 1) f fd ["self", "value"] (spI K D) ∧ Binds K fd ["self", "value"] [] := by
  unfold initK at h
  split at h
  · rename_i oc od z osl lk
    obtain ⟨h1, h⟩ := Bool.and_eq_true_iff.mp h
    obtain ⟨h2, h⟩ := Bool.and_eq_true_iff.mp h
    obtain ⟨h3, h⟩ := Bool.and_eq_true_iff.mp h
    obtain ⟨h4, h⟩ := Bool.and_eq_true_iff.mp h
    obtain ⟨h5, h⟩ := Bool.and_eq_true_iff.mp h
    obtain ⟨h6, h⟩ := Bool.and_eq_true_iff.mp h
    obtain ⟨h7, h⟩ := Bool.and_eq_true_iff.mp h
    split at h
    · rename_i n cc cda e1 e2 e3
      obtain ⟨g1, h⟩ := Bool.and_eq_true_iff.mp h
      obtain ⟨g2, h⟩ := Bool.and_eq_true_iff.mp h
      obtain ⟨g3, g4⟩ := Bool.and_eq_true_iff.mp h
      obtain ⟨n1, n2, n3, n4, n5, n6, n7, n8, n9, n10, n11, n12, n13, n14, n15⟩ := z
      have q1 : n1 = _ := of_decide_eq_true h1
      have q2 : n2 = _ := of_decide_eq_true h2
      have q6 : n6 = _ := of_decide_eq_true h6
      have q7 : n15 = _ := of_decide_eq_true h7
      have r1 := of_decide_eq_true g1
      clear h1 h2 h6 h7 g1
      dsimp only at e1 e2 e3 h3 h4 h5
      obtain ⟨p1, p2, p3, p4, p5, p6, p7, p8, p9, p10, h4, hpos⟩ := bodB_ok h4
      obtain ⟨x, y, h3, hx, hy⟩ := parB_ok h3
      subst q1 q2 q6 q7 r1 e1 e2 e3 h4 h3
      obtain ⟨s1, h5⟩ := Bool.and_eq_true_iff.mp h5
      obtain ⟨s2, h5⟩ := Bool.and_eq_true_iff.mp h5
      obtain ⟨s3, h5⟩ := Bool.and_eq_true_iff.mp h5
      obtain ⟨s4, h5⟩ := Bool.and_eq_true_iff.mp h5
      obtain ⟨s5, h5⟩ := Bool.and_eq_true_iff.mp h5
      obtain ⟨s6, h5⟩ := Bool.and_eq_true_iff.mp h5
      obtain ⟨s7, s8⟩ := Bool.and_eq_true_iff.mp h5
      obtain ⟨cD, hcD⟩ := Option.isSome_iff_exists.mp hD
      refine ⟨_, init_ok (fd := PySem.W.ksFn "__init__" "NeedError.__init__" ⟨[], [x, y], none, [], [], none, []⟩ (initB p1 p2 p3 p4 p5 p6 p7 p8 p9 p10) n5 .none n9 n10 n11 n12 (.ref cda) n14 cc) ⟨⟨cc, cda, oc, od, osl, .none, n9, n10, n11, n14, n12, rfl, lk, g2, ?_, ?_⟩, ⟨cD, hcD⟩, hs, PF.top⟩ (fun env => superEval hpos) (by show some x.arg = _; rw [hx]) (of_decide_eq_true s1) (by simpa using s2) (by simpa using s3) (fun y hy => by
        have := List.all_eq_true.mp s4 y hy
        simpa using this) (of_decide_eq_true s5) (of_decide_eq_true s6) (of_decide_eq_true s7) (of_decide_eq_true s8), .all fun us hl => ?_⟩
      · split at g3
        · rename_i ccl cdd vs ccs lkc
          split at g3
          · rename_i file tf hv
            exact ⟨ccl, cdd, ccs, vs, file, tf, lkc, hv, by rw [of_decide_eq_true g3]; exact PF.file⟩
          · cases g3
        · cases g3
      · split at g4
        · rename_i cl cld D' csl lkcc
          have g4 := of_decide_eq_true g4
          subst g4
          exact ⟨cl, cld, csl, lkcc⟩
        · cases g4
      · match us, hl with
        | [u1, u2], _ =>
          obtain ⟨xa, x2, x3⟩ := x
          obtain ⟨ya, y2, y3⟩ := y
          dsimp only at hx hy
          subst hx hy
          rfl
    · cases h
  · cases h
end
end Mi
namespace Mi
open PySem PySem.Spec PyProof.Rows L2 LamX
theorem oexB_ok {K : PySem.W.Frag} {C : Addr} (h : oexB K C = true) : ∃ nm q N bs bm sn sub ab col dd k0 k1 k2 k3 k5, K.lookup C = some (excClassObj nm q C N bs bm true sn sub ab col dd k0 k1 k2 k3 k5 "ValueError.__new__") ∧ PySem.HandSPX.refsVE bm = true := by
  unfold oexB at h
  split at h
  · rename_i t dd cd sl ho
    obtain ⟨h0, h⟩ := Bool.and_eq_true_iff.mp h
    split at h
    · rename_i C' bm k0 k1 k2 k3 n k5 hm hs
      obtain ⟨h1, h⟩ := Bool.and_eq_true_iff.mp h
      obtain ⟨h2, h⟩ := Bool.and_eq_true_iff.mp h
      obtain ⟨h3, h⟩ := Bool.and_eq_true_iff.mp h
      obtain ⟨h4, h5⟩ := Bool.and_eq_true_iff.mp h
      have h0 := of_decide_eq_true h0
      have h1 := of_decide_eq_true h1
      have h2 := of_decide_eq_true h2
      obtain ⟨l⟩ := sl
      dsimp only at hs
      obtain ⟨a1, a2, a3, a4, a5, a6, a7, a8, a9, a10, a11⟩ := cd
      dsimp only at hm h3 h5
      have h3 : a11 = false := by simpa using h3
      subst h0 h1 h2 hs hm h3 h5
      exact ⟨_, _, _, _, bm, _, _, _, _, _, k0, k1, k2, k3, k5, ho, h4⟩
    · cases h
  · cases h
structure ErrA (K : PySem.W.Frag) (C D fI : Addr) : Prop where
  c : ErrC K D C
  i : ErrI K C
  init : PySem.W.findIn K (.ref C) "__init__" = some (some (.ref fI))
  ty : PySem.W.typeIn K (.ref fI) = some (.type "function")
  exm : PySem.W.exmOne K (.ref C) (.ref D) = some true
  kit : PySem.W.kitOne K (.type "NoneType") (.ref C) = some false
theorem errB_ok {K : PySem.W.Frag} {C D fI : Addr} (h : errB K C D fI = true) : ErrA K C D fI := by
  unfold errB at h
  obtain ⟨h1, h⟩ := He.ba h
  obtain ⟨h2, h⟩ := He.ba h
  obtain ⟨h3, h⟩ := He.ba h
  obtain ⟨h4, h⟩ := He.ba h
  obtain ⟨h5, h⟩ := He.ba h
  obtain ⟨h6, h⟩ := He.ba h
  obtain ⟨h7, h⟩ := He.ba h
  obtain ⟨h8, h⟩ := He.ba h
  obtain ⟨h9, h⟩ := He.ba h
  obtain ⟨h10, h⟩ := He.ba h
  obtain ⟨h11, h⟩ := He.ba h
  obtain ⟨h12, h⟩ := He.ba h
  obtain ⟨h13, h⟩ := He.ba h
  obtain ⟨h14, h⟩ := He.ba h
  obtain ⟨h15, h⟩ := He.ba h
  obtain ⟨h16, h⟩ := He.ba h
  obtain ⟨h17, h⟩ := He.ba h
  obtain ⟨h18, h⟩ := He.ba h
  obtain ⟨h19, h20⟩ := He.ba h
  exact ⟨⟨⟨oexB_ok h1, He.eqO_ok h2, of_decide_eq_true h3, of_decide_eq_true h4, h5⟩, He.eqO_ok h6, of_decide_eq_true h7, He.eqO_ok h8, of_decide_eq_true h9, He.eqO_ok h10⟩,
    ⟨xfB_ok h11, He.eqO_ok h6, h12, He.eqO_ok h13, He.eqO_ok h14, of_decide_eq_true h15, of_decide_eq_true h16⟩, He.eqO_ok h17, of_decide_eq_true h18, of_decide_eq_true h19, of_decide_eq_true h20⟩
section
variable {fa : List He.Fa} {fn : List DefM} {ck : List Ck} {K : PySem.W.Frag} {mg : Str → Option Value} {P : Program} {w : World} {base : Heap} {Ω : Om} {k : Nat}
theorem Gf.err (g : Gf fa fn ck K mg) (i : Nat) {x : Str} (h : ck[i]? = some (ckErr x) := by rfl) : ErrA K (He.ga K x) (erD K) (erI K) := errB_ok (g.says.chk i h)
theorem Gf.kit (g : Gf fa fn ck K mg) (i : Nat) {x y : Str} {b : Bool} (h : ck[i]? = some (ckKit x y b) := by rfl) : PySem.W.kitOne K (.ref (He.ga K x)) (.ref (He.ga K y)) = some b := of_decide_eq_true (g.says.chk i h)
theorem Gf.xcG [ProgF P] (g : Gf fa fn ck K mg) (i j l m : Nat) {x : Str} {c : Nat} (hO : Ω.cls c = He.ga K x) (hi : ck[i]? = some (ckErr x) := by rfl) (hj : ck[j]? = some ckInit := by rfl) (hl : fa[l]? = some (.glo x) := by rfl) (hm : fa[m]? = some (.free "super") := by rfl) :
    XcG P w K mg base Ω x c 1 := by
  obtain ⟨h1, h2⟩ := He.ba (g.says.chk j hj)
  obtain ⟨fd, F, B⟩ := initK_ok (P := P) (w := w) (base := base) (k := 0) h1 (g.free m hm) h2
  have e := g.err i hi
  exact ⟨erI K, erD K, fd, by rw [hO]; exact g.glo l hl, by rw [hO]; exact e.c, by rw [hO]; exact e.init, e.ty, F, B⟩
end
theorem allC {p : Nat → Prop} {a : Nat} {l : List Nat} (h : p a) (t : ∀ c ∈ l, p c) : ∀ c ∈ a :: l, p c := fun c hc => by
  rcases List.mem_cons.mp hc with rfl | hc
  · exact h
  · exact t c hc
theorem allN {p : Nat → Prop} : ∀ c ∈ ([] : List Nat), p c := fun c hc => by cases hc
section
variable {X : Cx} {Ω : Om} {W : WX} {f : EF} {x a : Str} {gA CS c P : Addr} {k : Nat} {cs : List Nat} {pg : Arguments} {bg : List Stmt} {sg : Scope} {fd : FuncData} {Ng : List Str} {params : Arguments} {body : Expr} {scope : Scope} {p lpos pos : Pos}
end
end Mi
namespace SumT
open PySem PySem.Spec PyProof.Rows L2 PySem.W PySem.Calls Mi
section
variable {prog : Program} {w : World} {A : Around} {E : Value → Shared → Prop}
abbrev Kept (h h' : Heap) : Prop := ∀ b o, h.get? b = some o → h'.get? b = some o
end
section
variable {X : Cx}
end
end SumT
namespace Mi
open PySem PySem.Spec PyProof.Rows L2
section
variable {K : PySem.W.Frag} {Ω : Om} {X : Cx} {W : WX} {e : Expr} {f : EF} {pos : Pos} {p2 : Pos}
end
end Mi
namespace L2
open PySem PySem.Spec PyProof.Rows
section
variable {X : Cx}
theorem pe_of_mk {e : Expr} {t : St → Hp → XK → Prop} (he : PMk X e t) : PE X e (fun σ H Q => t σ H fun cls d H' => ∀ a oe, H' a = none → Zc cls d oe → (∃ vs, oe.data = .fields vs) → Q (.ref a) (upd H' a (xKept oe))) := by
  refine ⟨fun pins s σ H Q I h => thn (he pins s σ H _ I h) fun u s1 hu => ?_⟩
  obtain ⟨a, oe, vs, sI, H', cls, d, rfl, J, k, hne, ha, hz, hd, h1, na, os, ag, r, q⟩ := hu
  obtain ⟨hp, g, dr, tk, os1⟩ := s1
  have os : os1 = sI.os := os
  subst os
  have k : ∀ b o, sI.heap.get? b = some o → hp.get? b = some o := k
  have ha : hp.get? a = some oe := ha
  have ne : ∀ {b : Addr} {o : HO}, H' b = some o → b ≠ a := fun {b o} e z => by rw [z, na] at e; cases e
  have ne2 : ∀ {b : Addr} {o : Obj}, sI.heap.get? b = some o → b ≠ a := fun {b o} e z => by rw [z, hne] at e; cases e
  refine ⟨.ref a, upd H' a (xKept oe), ?_, rfl, q a oe na hz ⟨_, hd⟩⟩
  refine J.step (h' := hp) (g' := g) (d' := dr) (t' := tk) (ch := []) (fun _ z => nomatch z) (fun b o _ _ _ e _ => k b o e) (fun b o _ _ _ e _ => ⟨o.slots, k b o e⟩) (fun b o _ e n => by rw [upd_ne (ne2 e)]; exact n) (fun b o _ e => ⟨o, k b o e⟩)
    (fun b xs e => by rw [upd_ne (ne e)]; exact e) (fun b o u e => by rw [upd_ne (ne e)]; exact e) (fun b ps e => ⟨#[], by rw [upd_ne (ne e), e]; simp⟩) (fun m hm => ?_) (fun b o e => ?_) ag
  · obtain ⟨o, es, ep, ho, r⟩ := hm
    exact ⟨o, es, ep, k _ o ho, r⟩
  · by_cases hb : b = a
    · rw [hb, upd_same] at e
      cases e
      rw [hb]
      exact ⟨ha, True.intro, ⟨oe, ha⟩, fun _ _ _ _ => True.intro⟩
    · rw [upd_ne hb] at e
      exact (J.hok b o e).stay (fun c u _ q => k c u q) (fun c q => by rw [upd_ne (ne q)]; exact q) fun c xs q => by rw [upd_ne (ne q)]; exact q
end
end L2
namespace Mi
open PySem PySem.Spec PyProof.Rows L2
def eMkX (c : Nat) (f : EF) : EF := fun σ M => (f σ M).bind fun t M1 => .ok (.xob c t) M1
section
variable {X : Cx} {Ω : Om} {W : WX} {e : Expr} {f : EF} {x : Str} {c k : Nat} {p pos pos' : Pos}
theorem me_mkX (G : XcG X.prog X.w X.K X.mg X.base Ω x c k) (hr : Room (k + 1) X.A) (hg : Gl X x) (he : ME X Ω W e f) (hdb : (x == ("__debug__" : Str)) = false := by decide)
    (hst : starEach [e] X.env = (false, eval e X.env) :: starEach [] X.env := by rfl) (hpl : (backTo pos (starEach [] X.env)).any (·.1) = false := by rfl) :
    ME X Ω W (.Call (.Name x p) [e] [] pos) (eMkX c f) := by
  obtain ⟨fI, D, fd, gm, EC, hi, ti, F1, hb⟩ := G.ex
  refine L2PE.imp (pe_of_mk (pmk_oex (ta := liftA X.K Ω W (aCons f aNil)) EC.ox hi ti F1 hr hb .nil (passL0 (CX := L2.CX X.prog X.w)) hg gm (ma_cons he ma_nil hst) hdb hst hpl)) fun σ H Q q => ?_
  obtain ⟨Z, ι, M, σT, m, rv, q⟩ := q
  refine ⟨Z, ι, M, σT, m, rv, ?_⟩
  unfold eMkX at q
  show Post X.K Ω (Rs X.K Ω) (fun c d H' => W c d σ H') Z ι M H _ ((f σT M).bind fun t M1 => (Res.ok [] M1).bind fun ts M2 => .ok (t :: ts) M2)
  cases z : f σT M with
  | err => rw [z] at q; exact q.elim
  | exc c' t M1 =>
    rw [z] at q
    exact q
  | ok t M1 =>
    rw [z] at q
    intro ι1 H1 vs m1 e1 rs
    cases rs with
    | @cons _ y _ _ ry r0 =>
      cases r0
      refine ⟨by show 1 ≤ 1000; omega, fun a ha => ⟨a, Ω.cls c, y, rfl, EC, upd_same, fun dx hdx dne => ⟨rfl, dx, [("value", y)], upd_same, by rw [upd_ne dne, upd_same], ?_, ?_⟩⟩⟩
      · rw [upd_ne dne] at hdx; exact hdx
      · have hdx : H1 dx = none := by rw [upd_ne dne] at hdx; exact hdx
        have eH : upd (L2.del (upd (upd (upd H1 a (exo a (Ω.cls c) none)) dx (exd dx [("value", y)])) a (exo a (Ω.cls c) (some dx))) a) dx (.xd [("value", y)]) = upd H1 dx (.xd [("value", y)]) := by
          funext b
          by_cases hb1 : b = dx
          · rw [hb1, upd_same, upd_same]
          · rw [upd_ne hb1, upd_ne hb1]
            by_cases hb2 : b = a
            · rw [hb2, del_same, ha]
            · rw [del_ne hb2, upd_ne hb2, upd_ne hb1, upd_ne hb2]
        rw [eH]
        intro a2 oe na2 hz hd
        have e2 : Ext Z ι1 M1 H1 ι1 M1 (upd H1 dx (.xd [("value", y)])) := Ext.new hdx
        have e2' : Ext [] ι1 M1 H1 ι1 M1 (upd H1 dx (.xd [("value", y)])) := Ext.new hdx
        have e3 : Ext Z ι1 M1 (upd H1 dx (.xd [("value", y)])) ι1 M1 (upd (upd H1 dx (.xd [("value", y)])) a2 (xKept oe)) := Ext.new na2
        have e3' : Ext [] ι1 M1 (upd H1 dx (.xd [("value", y)])) ι1 M1 (upd (upd H1 dx (.xd [("value", y)])) a2 (xKept oe)) := Ext.new na2
        have h3 := e3.still upd_same ⟨fun l => m1.notLive hdx l, m1.notZ hdx⟩
        exact q ι1 _ _ ((m1.lay hdx).lay na2) ((e1.trans e2').trans e3') (.xob upd_same hz hd h3.1 h3.2 ((ry.ext e2).ext e3))
end
end Mi
namespace Mi
open PySem PySem.Spec PyProof.Rows L2
def eIsXb (cs : List Nat) (b : Bool) (f : EF) : EF := fun σ M => (f σ M).bind fun t M1 => match t with
  | .xob c' _ => bif cs.contains c' then .ok (.bl b) M1 else .err
  | _ => .err
section
variable {X : Cx} {Ω : Om} {W : WX} {e : Expr} {f : EF} {p p1 pos : Pos} {c : Nat} {cs : List Nat} {x : Str}
theorem me_isXof {b : Bool} {v : V} {cv : Value} (hB : PE X (.Name x p1) (tC v)) (hv : ∀ u, RelV v u → u = cv) (hgI : Gl X "isinstance") (hmI : X.mg "isinstance" = none) (hE : ∀ c' ∈ cs, ErrI X.K (Ω.cls c')) (hk : ∀ c' ∈ cs, PySem.W.kitOne X.K (.ref (Ω.cls c')) cv = some b)
    (he : ME X Ω W e f) (hs1 : starEach [e, .Name x p1] X.env = (false, eval e X.env) :: starEach [.Name x p1] X.env := by rfl) (hs2 : starEach [.Name x p1] X.env = (false, eval (.Name x p1) X.env) :: starEach [] X.env := by rfl) (hpl : (backTo pos (starEach [.Name x p1] X.env)).any (·.1) = false := by rfl) :
    ME X Ω W (.Call (.Name "isinstance" p) [e, .Name x p1] [] pos) (eIsXb cs b f) := by
  refine L2PE.imp (pe_callB (call_isX (X := X)) hgI hmI (by decide +kernel) (pa_cons he (pa_cons hB pa_nil hs2) hs1) (by decide) (by decide) hs1 hpl) fun σ H Q ⟨Z, ι, M, σT, m, rv, q⟩ => ⟨Z, ι, M, σT, m, rv, Post.bind q fun ι1 M1 H1 t w m1 e1 r1 p1 => ?_⟩
  cases r1 with
  | @xob c' u a oe d w h1 h2 h3 h4 st r =>
    cases hc : cs.contains c' with
    | false => dsimp only at p1; rw [hc] at p1; exact p1.elim
    | true =>
      dsimp only at p1
      rw [hc] at p1
      have hm' : c' ∈ cs := by simpa using hc
      exact ⟨a, Ω.cls c', d, oe, _, v, cv, b, rfl, h1, h2, h3, h4, hE c' hm', hv, hk c' hm', p1.pure m1 (.bl _)⟩
  | _ => exact p1.elim
theorem me_isXu {b : Bool} (hgI : Gl X "isinstance") (hmI : X.mg "isinstance" = none) (hg : Gl X x) (hm : X.mg x = some (.ref (Ω.cls c))) (hE : ∀ c' ∈ cs, ErrI X.K (Ω.cls c')) (hk : ∀ c' ∈ cs, PySem.W.kitOne X.K (.ref (Ω.cls c')) (.ref (Ω.cls c)) = some b)
    (he : ME X Ω W e f) (hd : (x == ("__debug__" : Str)) = false := by decide) (hs1 : starEach [e, .Name x p1] X.env = (false, eval e X.env) :: starEach [.Name x p1] X.env := by rfl) (hs2 : starEach [.Name x p1] X.env = (false, eval (.Name x p1) X.env) :: starEach [] X.env := by rfl) (hpl : (backTo pos (starEach [.Name x p1] X.env)).any (·.1) = false := by rfl) :
    ME X Ω W (.Call (.Name "isinstance" p) [e, .Name x p1] [] pos) (eIsXb cs b f) :=
  me_isXof (v := .ref (Ω.cls c)) (cv := .ref (Ω.cls c)) (pe_glob (v := .ref (Ω.cls c)) hg hm rfl hd) (fun u hu => hu) hgI hmI hE hk he hs1 hs2 hpl
theorem me_isXt {n : String} {b : Bool} (hgI : Gl X "isinstance") (hmI : X.mg "isinstance" = none) (hg : Gl X x) (hm : X.mg x = none) (hv : bootBuiltins x = some (.type n)) (hE : ∀ c' ∈ cs, ErrI X.K (Ω.cls c')) (hk : ∀ c' ∈ cs, PySem.W.kitOne X.K (.ref (Ω.cls c')) (.type n) = some b)
    (he : ME X Ω W e f) (hnn : x ≠ "__name__" := by decide) (hd : (x == ("__debug__" : Str)) = false := by decide) (hs1 : starEach [e, .Name x p1] X.env = (false, eval e X.env) :: starEach [.Name x p1] X.env := by rfl) (hs2 : starEach [.Name x p1] X.env = (false, eval (.Name x p1) X.env) :: starEach [] X.env := by rfl) (hpl : (backTo pos (starEach [.Name x p1] X.env)).any (·.1) = false := by rfl) :
    ME X Ω W (.Call (.Name "isinstance" p) [e, .Name x p1] [] pos) (eIsXb cs b f) :=
  me_isXof (v := .ty n) (cv := .type n) (pe_bltn hg hm hv rfl hnn hd) (fun u hu => hu) hgI hmI hE hk he hs1 hs2 hpl
end
def noKeys : T → Bool
  | .dct false [] => true
  | _ => false
def shortD (t : T) : Bool := short t || noKeys t
def tsameD (t u : T) : Bool := tsame t u || (noKeys t && noKeys u)
theorem noKeys_eq {t : T} (h : noKeys t = true) : t = .dct false [] := by
  unfold noKeys at h
  split at h
  · rfl
  · cases h
theorem tsameD_eq {t u : T} (h : tsameD t u = true) : t = u := by
  unfold tsameD at h
  rcases Bool.or_eq_true_iff.mp h with h | h
  · exact tsame_eq h
  · obtain ⟨h1, h2⟩ := Bool.and_eq_true_iff.mp h
    rw [noKeys_eq h1, noKeys_eq h2]
def rReprO (K : PySem.W.Frag) : List V → Hp → VK → Prop := fun xs H Q => ∃ a, xs = [.ref a] ∧ Rd H a (.dK []) ∧ Q (.str (PyData.dict []).shown) H
abbrev rReprD (K : PySem.W.Frag) : List V → Hp → VK → Prop := fun xs H Q => rRepr K xs H Q ∨ rReprO K xs H Q
theorem call_reprO {X : Cx} (hgd : X.A.guards = some []) (hu : X.A.units + 65 < cLine) : CallR X (.builtin "repr") (rReprO X.K) := by
  intro pins s σ H xs us Q I r h
  obtain ⟨a, rfl, hd, q⟩ := h
  cases r with
  | cons rx rr =>
    cases rr
    cases rx
    obtain ⟨_, hsm, vs, kv, dd⟩ := dk_rd I.hok hd
    cases kv
    obtain ⟨o, es, ep, ho, hx, hdt, hk, hp, _⟩ := dd
    have he : es.toList = [] := by
      cases z : es.toList with
      | nil => rfl
      | cons y ys => rw [z] at hp; cases hp
    have rd : Reads s.heap (.ref a) (.dict []) (a :: [] ++ []) := .dict (kvs := []) ho hx.1 hdt (by rw [he]; exact .nil) (by rw [he]; exact .nil)
    refine repr_of_reads' rd rfl (fun _ hm => ?_) hgd (by show X.A.units + (1 + 1) < cLine; omega) (fun _ _ e => e) (fun h' u tk hk => ⟨.str _, H, I.kept (t' := tk) hk, ⟨_, rfl⟩, q⟩) (by rw [sizeLine_eq]; decide)
    have e2 : sysModules = a := by simpa using hm
    rw [e2] at hsm
    simp at hsm
theorem call_reprDD {X : Cx} (hgd : X.A.guards = some []) (hu : X.A.units + 65 < cLine) : CallR X (.builtin "repr") (rReprD X.K) := (call_reprD hgd hu).or (call_reprO hgd hu)
def txtD (Ω : Om) (t : T) : Str := bif noKeys t then (PyData.dict []).shown else (dat Ω t).shown
theorem shortD_dp {K : PySem.W.Frag} {Ω : Om} {Z ι : List Addr} {M : Mem} {H : Hp} {t : T} {v : V} (r : R K Ω Z ι M H t v) (h : shortD t = true) {Q : VK} (q : Q (.str (txtD Ω t)) H) : rReprD K [v] H Q := by
  unfold txtD at q
  cases e : noKeys t with
  | false =>
    unfold shortD at h
    rw [e, Bool.or_false] at h
    rw [e] at q
    exact .inl (short_dp r h q)
  | true =>
    rw [e] at q
    have e := noKeys_eq e
    subst e
    cases r with
    | dK hd st rk rs =>
      rename_i a ws
      cases ws with
      | nil => exact .inr ⟨a, rfl, hd, q⟩
      | cons w ws => cases rs
section
variable {X : Cx} {Ω : Om} {W : WX} {e1 e2 : Expr} {f g : EF} {p1 p2 q1 q2 pos : Pos}
def eReprEqD (neg : Bool) (f g : EF) : EF := fun σ M => (f σ M).bind fun t M1 => bif shortD t then (g σ M1).bind fun u M2 => bif tsameD t u then .ok (.bl (!neg)) M2 else .err else .err
theorem reprD_of {neg : Bool} {r : R2} (hr : ∀ (x : Str) (H : Hp) (Q : VK), Q (.bl (!neg)) H → r (.str x) (.str x) H Q) {σ : L2.St} {H : Hp} {Q : VK} (q : liftE X.K Ω W (eReprEqD neg f g) σ H Q) :
    tOp r (tCB (rReprD X.K) (liftA X.K Ω W (aCons f aNil))) (tCB (rReprD X.K) (liftA X.K Ω W (aCons g aNil))) σ H Q := by
  obtain ⟨Z, ι, M, σT, m, rv, p⟩ := q
  have p : Post X.K Ω (R X.K Ω) (fun c d H' => W c d σ H') Z ι M H Q ((f σT M).bind fun t M1 => bif shortD t then (g σT M1).bind fun u M2 => bif tsameD t u then .ok (.bl (!neg)) M2 else .err else .err) := p
  refine ⟨Z, ι, M, σT, m, rv, ?_⟩
  show Post X.K Ω (Rs X.K Ω) (fun c d H' => W c d σ H') Z ι M H _ ((f σT M).bind fun t M1 => (Res.ok [] M1).bind fun ts M2 => .ok (t :: ts) M2)
  cases ef : f σT M with
  | err => rw [ef] at p; exact p.elim
  | exc c t M1 => rw [ef] at p; exact p
  | ok t M1 =>
    rw [ef] at p
    intro ι1 H1 vs m1 ex1 r1
    obtain ⟨v, rfl, rvt⟩ := r1.one rfl
    have p1 : Post X.K Ω (R X.K Ω) (fun c d H' => W c d σ H') Z ι M H Q (bif shortD t then (g σT M1).bind fun u M2 => bif tsameD t u then .ok (.bl (!neg)) M2 else .err else .err) := p
    cases hst : shortD t with
    | false => rw [hst] at p1; exact p1.elim
    | true =>
      rw [hst] at p1
      refine shortD_dp rvt hst ⟨Z, ι1, M1, σT, m1, rv.ext ex1.any, ?_⟩
      have p2 := Post.ext p1 ex1
      have p2 : Post X.K Ω (R X.K Ω) (fun c d H' => W c d σ H') Z ι1 M1 H1 Q ((g σT M1).bind fun u M2 => bif tsameD t u then .ok (.bl (!neg)) M2 else .err) := p2
      show Post X.K Ω (Rs X.K Ω) (fun c d H' => W c d σ H') Z ι1 M1 H1 _ ((g σT M1).bind fun t M1 => (Res.ok [] M1).bind fun ts M2 => .ok (t :: ts) M2)
      cases eg : g σT M1 with
      | err => rw [eg] at p2; exact p2.elim
      | exc c u M2 => rw [eg] at p2; exact p2
      | ok u M2 =>
        rw [eg] at p2
        intro ι2 H2 ws m2 ex2 r2
        obtain ⟨w, rfl, rwu⟩ := r2.one rfl
        have p3 : Post X.K Ω (R X.K Ω) (fun c d H' => W c d σ H') Z ι1 M1 H1 Q (bif tsameD t u then .ok (.bl (!neg)) M2 else .err) := p2
        cases hs : tsameD t u with
        | false => rw [hs] at p3; exact p3.elim
        | true =>
          rw [hs] at p3
          have e := tsameD_eq hs
          subst e
          exact shortD_dp rwu hst (hr _ _ _ (p3 ι2 H2 _ m2 ex2 (.bl _)))
theorem mt_reprDNe (hgd : X.A.guards = some []) (hu : X.A.units + 65 < cLine) (hg : Gl X "repr") (hm : X.mg "repr" = none) (ha : ME X Ω W e1 f) (hb : ME X Ω W e2 g)
    (hs1 : starEach [e1] X.env = (false, eval e1 X.env) :: starEach [] X.env := by rfl) (hs2 : starEach [e2] X.env = (false, eval e2 X.env) :: starEach [] X.env := by rfl) (h1 : (backTo q1 (starEach [] X.env)).any (·.1) = false := by rfl) (h2 : (backTo q2 (starEach [] X.env)).any (·.1) = false := by rfl)
    (hmk : behindInMarks .NotEq (.Call (.Name "repr" p2) [e2] [] q2) = false := by rfl) :
    MT X Ω W (.Compare (.Call (.Name "repr" p1) [e1] [] q1) [.NotEq] [.Call (.Name "repr" p2) [e2] [] q2] pos) (tVal (eReprEqD true f g)) :=
  L2PT.imp (pt_cmpR op_ne (pe_callB (call_reprDD hgd hu) hg hm (by decide +kernel) (ma_cons ha ma_nil hs1) (by decide) (by decide) hs1 h1) (pe_callB (call_reprDD hgd hu) hg hm (by decide +kernel) (ma_cons hb ma_nil hs2) (by decide) (by decide) hs2 h2) hmk)
    fun σ H Q q => reprD_of (fun x H Q q => ⟨rfl, by rw [decide_eq_true rfl]; exact q⟩) (tB_of q)
end
end Mi
namespace Mi
open PySem PySem.Spec PyProof.Rows L2
section
variable {X : Cx} {Ω : Om} {W : WX} {e : Expr} {te : TE} {f : EF} {k : Nat} {p1 p2 p3 pos : Pos}
theorem rev_list (x : Str) (u : Tok) : (Txt.sliceBy x none none (-1, u)).cps.toList = x.cps.toList.reverse := by
  rw [step_rev_list]
  apply List.ext_getElem?
  intro j
  rw [List.getElem?_map]
  have hl : x.length = x.cps.toList.length := by rw [Array.length_toList]; rfl
  by_cases hj : j < x.length
  · rw [List.getElem?_range hj, List.getElem?_reverse (by omega), List.getElem?_eq_getElem (by omega)]
    show some (x.cps.getD (x.length - 1 - j) 0) = _
    have h2 : x.length - 1 - j < x.cps.size := by show x.length - 1 - j < x.length; omega
    rw [Array.getD_eq_getD_getElem?, Array.getElem?_eq_getElem h2]
    show some x.cps[x.length - 1 - j] = _
    congr 1
  · rw [List.getElem?_eq_none (by simpa using hj), List.getElem?_eq_none (by rw [List.length_reverse]; omega)]
    rfl
theorem pe_revS (he : PE X e te) : PE X (.Subscript e (.Slice none none (some (.UnaryOp .USub (.Constant (.int 1) k p1) p2)) p3) pos) (fun σ H Q => te σ H fun x H1 => ∃ z : Str, x = .str z ∧ z.length ≤ sizeLine ∧ ∀ y : Str, y.cps.toList = z.cps.toList.reverse → Q (.str y) H1) := by
  refine ⟨fun pins s σ H Q I h => Subscript_ (thn (he.run pins s σ H _ I h) fun v s1 ⟨x, H1, I1, r1, z, ex, hz, q⟩ => ?_)⟩
  subst ex
  obtain ⟨tz, rfl⟩ := r1
  have hst : PO X (some (.UnaryOp .USub (.Constant (.int 1) k p1) p2)) (tPart (tUn (rU fun i => .int (-i)) (tC (.int 1)))) := po_some (pe_un un_neg pe_int)
  refine wpAny_Slice (thn (po_none.run pins s1 σ H1 (fun o H2 => o = none ∧ H2 = H1) I1 ⟨rfl, rfl⟩) fun vl s2 ⟨l, H2, I2, pl, el, e2⟩ => ?_)
  subst el e2
  refine thn (po_none.run pins s2 σ H2 (fun o H3 => o = none ∧ H3 = H2) I2 ⟨rfl, rfl⟩) fun vu s3 ⟨u, H3, I3, pu, eu, e3⟩ => ?_
  subst eu e3
  refine thn (hst.run pins s3 σ H3 (fun o H4 => o = some (-1) ∧ H4 = H3) I3 ⟨1, rfl, -1, rfl, rfl, rfl⟩) fun vs s4 ⟨o, H4, I4, ps, eo, e4⟩ => ?_
  subst eo e4
  have I5 : L2.Inv X pins σ H4 { s4 with heap := s4.heap.push { cls := .type "slice", data := .fields #[vl, vu, vs] } } := I4.kept (t' := s4.toks) fun b ob q => Heap.get?_push_of_some _ q
  cases ps with
  | int j t =>
    obtain ⟨l, rfl, hl⟩ := IsPart.raw pl
    obtain ⟨u, rfl, hu⟩ := IsPart.raw pu
    cases l with
    | some l => cases hl
    | none =>
    cases u with
    | some u => cases hu
    | none =>
    show wpAny (model X.prog X.w) X.A (subscriptTail e (.Slice none none (some (.UnaryOp .USub (.Constant (.int 1) k p1) p2)) p3) (.str z tz) (.ref s4.heap.objs.size)) (EP X pins σ Q) X.xe _
    refine tail_any (ops := [.ref s4.heap.objs.size, .str z tz]) (typeIs_str _ z tz) F.slot_str_getitem.lookup ?_ (by with_unfolding_all rfl)
    refine wpAny_getItem_str_slice (l := none) (u := none) (st := some (-1, t)) ⟨_, Heap.get?_push_size _ rfl, rfl, rfl⟩ rfl ?_
    have hy := rev_list z t
    have hlen : (Txt.sliceBy z none none (-1, t)).length ≤ sizeLine := by
      rw [step_rev_len]
      exact hz
    have hm : sliceMade z tz none none (some (-1, t)) = .str (Txt.sliceBy z none none (-1, t)) := by
      unfold sliceMade Txt.sliceBy
      have h1 : ¬ (((((some ((-1 : Int), t)).map (·.1)).getD 1 == 1) && ((slicePicked z none none (some (-1, t))).length == z.length)) = true) := by
        have : ((((some ((-1 : Int), t)).map (·.1)).getD 1 == 1)) = false := rfl
        rw [this]; simp
      rw [if_neg h1, if_neg h1]
    rw [hm]
    exact ⟨hlen, .str _, H4, I5.tok _, ⟨_, rfl⟩, q _ hy⟩
def eRevS (f : EF) : EF := fun σ M => (f σ M).bind fun t M1 => match t with
  | .str x => bif ground x then .ok (.str x.reverse) M1 else .err
  | _ => .err
theorem me_revS (he : ME X Ω W e f) : ME X Ω W (.Subscript e (.Slice none none (some (.UnaryOp .USub (.Constant (.int 1) k p1) p2)) p3) pos) (eRevS f) := L2PE.imp (pe_revS he) fun σ H Q ⟨Z, ι, M, σT, m, rv, p⟩ =>
  ⟨Z, ι, M, σT, m, rv, Post.bind p fun ι1 M1 H1 t v m1 e1 q1 p1 => by
    cases q1 with
    | str x s hs hx =>
      cases g : ground x with
      | false => dsimp only at p1; rw [g] at p1; exact p1.elim
      | true =>
        dsimp only at p1
        rw [g] at p1
        refine ⟨s, rfl, str_size hs hx, fun y hy => p1.pure m1 (.str _ _ ?_ (by rw [List.length_reverse]; exact hx))⟩
        rw [hy, hs, spell_ground g]
        refine (spell_ground ?_).symm
        unfold ground
        exact List.all_eq_true.mpr fun c hc => List.all_eq_true.mp g c (List.mem_reverse.mp hc)
    | _ => exact p1.elim⟩
end
end Mi
namespace K00
open PySem PySem.Spec PyProof.Rows L2 Mi
noncomputable section
variable {P : Program} [ProgF P] {w : World} {K : PySem.W.Frag} {mg : Str → Option Value} {base : Heap} {ρ : Rho}
def b_ulaw_places : SF := (sRet (eFroz (eLrg (eBi bMax2 (aCons (eC (.int 1)) (aCons (eBi bMin2 (aCons (eVar 1) (aCons (eBi bLen (aCons (eVar 0) aNil)) aNil))) aNil))))))
def F_ulaw_places : FF := runB 2 b_ulaw_places
abbrev N_ulaw_places : List Str := ["_law_script", "_law_most"]
theorem nd_ulaw_places : (N_ulaw_places).Nodup := by decide +kernel
theorem bs_ulaw_places (g : Gf fa fn ck K mg) : BodyS P w K mg base (omOf K ρ) 0 N_ulaw_places (defScope s_ulaw_places) (defBody s_ulaw_places) b_ulaw_places := fun qual f cdv A outer s H E hr => (mss_one (ms_ret (me_lst (ml_range1 rfl rfl (g.free 3) rfl (g.free 4) (me_callB (call_max2 rfl) bMax2_ok rfl (g.free 2) (by decide +kernel) (ma_cons me_int (ma_cons (me_callB (call_min2 rfl) bMin2_ok rfl (g.free 1) (by decide +kernel) (ma_cons (me_var 1) (ma_cons (me_callB call_len2 bLen_ok rfl (g.free 0) (by decide +kernel) (ma_cons (me_var 0) ma_nil)) ma_nil))) ma_nil)))))))
theorem sc_ulaw_places : FnScope N_ulaw_places ["_law_script", "_law_most"] (defScope s_ulaw_places) := ⟨rfl, rfl, rfl, nd_ulaw_places, rfl, by decide +kernel, by decide +kernel⟩
theorem fk_ulaw_places (g : Gf fa fn ck K mg) : ∃ fd, FnOk P w K mg base (L2.CX P w) 1 ((fn.getD 0 dummyD).adr K) fd ["_law_script", "_law_most"] (spF K (omOf K ρ) 2 F_ulaw_places) ∧ BndL K fd ["_law_script", "_law_most"] (omOf K ρ) [] := by
  obtain ⟨fd, F⟩ := g.def_ 0 (d := fn.getD 0 dummyD)
  exact ⟨fd, fnOk_of F sc_ulaw_places (bs_ulaw_places g), bndN F fun _ _ _ _ _ _ us hl => match us, hl with | [_, _], _ => rfl⟩
noncomputable def G_ulaw_places : FF := scr F_ulaw_places
theorem fkG_ulaw_places (g : Gf fa fn ck K mg) : ∃ fd, FnOk P w K mg base (L2.CX P w) 1 ((fn.getD 0 dummyD).adr K) fd ["_law_script", "_law_most"] (spF K (omOf K ρ) 2 G_ulaw_places) ∧ BndL K fd ["_law_script", "_law_most"] (omOf K ρ) [] := let ⟨fd, ok, bd⟩ := fk_ulaw_places g; ⟨fd, ok.imp fun _ _ _ _ h => spF_scr h, bd⟩
theorem fg_ulaw_places (g : Gf fa fn ck K mg) : FnG P w K mg base (omOf K ρ) "_law_places" 1 2 [] G_ulaw_places := by
  obtain ⟨fd, ok, bd⟩ := fkG_ulaw_places (P := P) (w := w) (base := base) (ρ := ρ) g
  exact gFn rfl (g.glo 5) (g.keep 6) ok bd
def b_ulaw_take : SF := (sSeq (sIf (tVal (eOp opGt (eOp opIx (eVar 0) (eC (.int 0))) (eC (.int 0)))) (sSeq (sSet 2 (eOp opMod (eBi bInt (aCons (eOp opIx (eVar 0) (eC (.int 0))) aNil)) (eVar 1)))
  (sSeq (sLput (eOp opFdiv (eOp opIx (eVar 0) (eC (.int 0))) (eVar 1)) (eVar 0) (eC (.int 0)))
  (sRet (eVar 2)))) sNil)
  (sSeq (sLput (eOp opPlus (eOp opIx (eVar 0) (eC (.int 2))) (eC (.int 1))) (eVar 0) (eC (.int 2)))
  (sSeq (sSet 3 (eOp opIx (eFroz (eLst (aCons (eC (.int 2147483647)) (aCons (eC (.int 2147483629)) (aCons (eC (.int 2147483587)) (aCons (eC (.int 2147483579)) (aCons (eC (.int 2147483563)) aNil))))))) (eOp opMod (eBi bInt (aCons (eOp opIx (eVar 0) (eC (.int 2))) aNil)) (eC (.int 5)))))
  (sSeq (sSet 4 (eOp opMod (eBi bInt (aCons (eOp opPow (eBi bInt (aCons (eOp opPlus (eOp opPlus (eOp opIx (eVar 0) (eC (.int 1))) (eOp opTimes (eOp opTimes (eC (.int 92003)) (eOp opIx (eVar 0) (eC (.int 2)))) (eOp opIx (eVar 0) (eC (.int 2))))) (eC (.int 3))) aNil)) (eC (.int 3))) aNil)) (eVar 3)))
  (sRet (eOp opMod (eBi bInt (aCons (eOp opFdiv (eOp opTimes (eVar 4) (eOp opPlus (eOp opMod (eBi bInt (aCons (eVar 4) aNil)) (eC (.int 10007))) (eOp opTimes (eC (.int 97)) (eOp opIx (eVar 0) (eC (.int 2)))))) (eC (.int 127))) aNil)) (eVar 1)))))))
def F_ulaw_take : FF := runB 5 b_ulaw_take
abbrev N_ulaw_take : List Str := ["_law_pot_here", "_law_upto", "_law_digit", "_law_prime", "_law_blend"]
theorem nd_ulaw_take : (N_ulaw_take).Nodup := by decide +kernel
theorem bs_ulaw_take (g : Gf fa fn ck K mg) : BodyS P w K mg base (omOf K ρ) 0 N_ulaw_take (defScope s_ulaw_take) (defBody s_ulaw_take) b_ulaw_take := fun qual f cdv A outer s H E hr => (mss_cons (ms_if (mt_cmp op_gt opGt_ok (me_ix (me_var 0) me_int) me_int (nomark _)) (mss_cons (ms_set nd_ulaw_take rfl (Or.inl rfl) (me_bin op_mod opMod_ok (me_callTy call_int2 bInt_ok rfl (g.free 9) (by decide +kernel) (ma_cons (me_ix (me_var 0) me_int) ma_nil)) (me_var 1)))
  (mss_cons (ms_lput (me_var 0) me_int (me_bin op_fdiv opFdiv_ok (me_ix (me_var 0) me_int) (me_var 1)))
  (mss_one (ms_ret (me_var 2))))) mss_nil)
  (mss_cons (ms_lput (me_var 0) me_int (me_bin op_plus opPlus_ok (me_ix (me_var 0) me_int) me_int))
  (mss_cons (ms_set nd_ulaw_take rfl (Or.inl rfl) (me_ix (me_lst (ml_lst (ma_cons me_int (ma_cons me_int (ma_cons me_int (ma_cons me_int (ma_cons me_int ma_nil))))))) (me_bin op_mod opMod_ok (me_callTy call_int2 bInt_ok rfl (g.free 9) (by decide +kernel) (ma_cons (me_ix (me_var 0) me_int) ma_nil)) me_int)))
  (mss_cons (ms_set nd_ulaw_take rfl (Or.inl rfl) (me_bin op_mod opMod_ok (me_callTy call_int2 bInt_ok rfl (g.free 9) (by decide +kernel) (ma_cons (me_bin op_powW opPow_ok (me_callTy call_int2 bInt_ok rfl (g.free 9) (by decide +kernel) (ma_cons (me_bin op_plus opPlus_ok (me_bin op_plus opPlus_ok (me_ix (me_var 0) me_int) (me_bin op_times opTimes_ok (me_bin op_times opTimes_ok me_int (me_ix (me_var 0) me_int)) (me_ix (me_var 0) me_int))) me_int) ma_nil)) me_int) ma_nil)) (me_var 3)))
  (mss_one (ms_ret (me_bin op_mod opMod_ok (me_callTy call_int2 bInt_ok rfl (g.free 9) (by decide +kernel) (ma_cons (me_bin op_fdiv opFdiv_ok (me_bin op_times opTimes_ok (me_var 4) (me_bin op_plus opPlus_ok (me_bin op_mod opMod_ok (me_callTy call_int2 bInt_ok rfl (g.free 9) (by decide +kernel) (ma_cons (me_var 4) ma_nil)) me_int) (me_bin op_times opTimes_ok me_int (me_ix (me_var 0) me_int)))) me_int) ma_nil)) (me_var 1))))))))
theorem sc_ulaw_take : FnScope N_ulaw_take ["_law_pot_here", "_law_upto"] (defScope s_ulaw_take) := ⟨rfl, rfl, rfl, nd_ulaw_take, rfl, by decide +kernel, by decide +kernel⟩
theorem fk_ulaw_take (g : Gf fa fn ck K mg) : ∃ fd, FnOk P w K mg base (L2.CX P w) 1 ((fn.getD 1 dummyD).adr K) fd ["_law_pot_here", "_law_upto"] (spF K (omOf K ρ) 2 F_ulaw_take) ∧ BndL K fd ["_law_pot_here", "_law_upto"] (omOf K ρ) [] := by
  obtain ⟨fd, F⟩ := g.def_ 1 (d := fn.getD 1 dummyD)
  exact ⟨fd, fnOk_of F sc_ulaw_take (bs_ulaw_take g), bndN F fun _ _ _ _ _ _ us hl => match us, hl with | [_, _], _ => rfl⟩
noncomputable def G_ulaw_take : FF := scr F_ulaw_take
theorem fkG_ulaw_take (g : Gf fa fn ck K mg) : ∃ fd, FnOk P w K mg base (L2.CX P w) 1 ((fn.getD 1 dummyD).adr K) fd ["_law_pot_here", "_law_upto"] (spF K (omOf K ρ) 2 G_ulaw_take) ∧ BndL K fd ["_law_pot_here", "_law_upto"] (omOf K ρ) [] := let ⟨fd, ok, bd⟩ := fk_ulaw_take g; ⟨fd, ok.imp fun _ _ _ _ h => spF_scr h, bd⟩
theorem fg_ulaw_take (g : Gf fa fn ck K mg) : FnG P w K mg base (omOf K ρ) "_law_take" 1 2 [] G_ulaw_take := by
  obtain ⟨fd, ok, bd⟩ := fkG_ulaw_take (P := P) (w := w) (base := base) (ρ := ρ) g
  exact gFn rfl (g.glo 10) (g.keep 11) ok bd
def b_ulaw_of : SF := (sRet (eOp opIx (eVar 1) (eCall 2 G_ulaw_take [] (aCons (eVar 0) (aCons (eBi bLen (aCons (eVar 1) aNil)) aNil)))))
def F_ulaw_of : FF := runB 2 b_ulaw_of
abbrev N_ulaw_of : List Str := ["_law_pot_here", "_law_some"]
theorem nd_ulaw_of : (N_ulaw_of).Nodup := by decide +kernel
theorem bs_ulaw_of (g : Gf fa fn ck K mg) : BodyS P w K mg base (omOf K ρ) 1 N_ulaw_of (defScope s_ulaw_of) (defBody s_ulaw_of) b_ulaw_of := fun qual f cdv A outer s H E hr => (mss_one (ms_ret (me_ix (me_var 1) (me_call 0 (fg_ulaw_take g) (hr.mono (by decide)) (takes_of rfl rfl rfl rfl) rfl (ma_cons (me_var 0) (ma_cons (me_callB call_len2 bLen_ok rfl (g.free 0) (by decide +kernel) (ma_cons (me_var 1) ma_nil)) ma_nil))))))
theorem sc_ulaw_of : FnScope N_ulaw_of ["_law_pot_here", "_law_some"] (defScope s_ulaw_of) := ⟨rfl, rfl, rfl, nd_ulaw_of, rfl, by decide +kernel, by decide +kernel⟩
theorem fk_ulaw_of (g : Gf fa fn ck K mg) : ∃ fd, FnOk P w K mg base (L2.CX P w) 2 ((fn.getD 2 dummyD).adr K) fd ["_law_pot_here", "_law_some"] (spF K (omOf K ρ) 2 F_ulaw_of) ∧ BndL K fd ["_law_pot_here", "_law_some"] (omOf K ρ) [] := by
  obtain ⟨fd, F⟩ := g.def_ 2 (d := fn.getD 2 dummyD)
  exact ⟨fd, fnOk_of F sc_ulaw_of (bs_ulaw_of g), bndN F fun _ _ _ _ _ _ us hl => match us, hl with | [_, _], _ => rfl⟩
noncomputable def G_ulaw_of : FF := scr F_ulaw_of
theorem fkG_ulaw_of (g : Gf fa fn ck K mg) : ∃ fd, FnOk P w K mg base (L2.CX P w) 2 ((fn.getD 2 dummyD).adr K) fd ["_law_pot_here", "_law_some"] (spF K (omOf K ρ) 2 G_ulaw_of) ∧ BndL K fd ["_law_pot_here", "_law_some"] (omOf K ρ) [] := let ⟨fd, ok, bd⟩ := fk_ulaw_of g; ⟨fd, ok.imp fun _ _ _ _ h => spF_scr h, bd⟩
theorem fg_ulaw_of (g : Gf fa fn ck K mg) : FnG P w K mg base (omOf K ρ) "_law_of" 2 2 [] G_ulaw_of := by
  obtain ⟨fd, ok, bd⟩ := fkG_ulaw_of (P := P) (w := w) (base := base) (ρ := ρ) g
  exact gFn rfl (g.glo 12) (g.keep 13) ok bd
def b_ulaw_odd : SF := (sSeq (sSet 1 (eFroz (eLst (aCons (eC .non) (aCons (eC (.bl true)) (aCons (eC (.bl false)) (aCons (eC (.int 0)) (aCons (eC (.int 1)) (aCons (eNeg (eC (.int 1))) (aCons (eC (.int 41)) (aCons (eOp opPow (eC (.int 10)) (eC (.int 8))) (aCons (eC (.str [])) (aCons (eC (.str [97])) (aCons (eC (.str [119, 111, 114, 107, 115])) (aCons (eTup aNil) (aCons (eFroz (eLst aNil)) (aCons (eNewD false) (aCons (eTup (aCons (eTup aNil) aNil)) (aCons (eTup (aCons (eC (.int 0)) aNil)) (aCons (eTup (aCons (eC (.str [])) aNil)) (aCons (eFroz (eLst (aCons (eC (.int 0)) aNil))) (aCons (eTup (aCons (eC (.int 1)) (aCons (eC (.int 0)) aNil))) aNil))))))))))))))))))))))
  (sRet (eCall 2 G_ulaw_of [] (aCons (eVar 0) (aCons (eOp opPlus (eVar 1) (eFroz (eLst (aCons (eTup (aCons (eC (.str [97])) aNil)) (aCons (eTup (aCons (eC (.str [97])) (aCons (eC (.str [98])) aNil))) (aCons (eC (.str [48])) (aCons (eTup (aCons (eTup (aCons (eC (.str [97])) aNil)) (aCons (eTup aNil) aNil))) (aCons (eC (.int 2)) (aCons (eTup (aCons (eC (.int 2)) aNil)) (aCons (eC (.str [65])) (aCons (eTup (aCons (eC (.str [97, 112, 97, 114, 116])) aNil)) (aCons (eTup (aCons (eTup (aCons (eC (.int 0)) (aCons (eC (.int 1)) aNil))) aNil)) aNil)))))))))))) aNil)))))
def F_ulaw_odd : FF := runB 2 b_ulaw_odd
abbrev N_ulaw_odd : List Str := ["_law_pot_here", "_law_some"]
theorem nd_ulaw_odd : (N_ulaw_odd).Nodup := by decide +kernel
theorem bs_ulaw_odd (g : Gf fa fn ck K mg) : BodyS P w K mg base (omOf K ρ) 2 N_ulaw_odd (defScope s_ulaw_odd) (defBody s_ulaw_odd) b_ulaw_odd := fun qual f cdv A outer s H E hr => (mss_cons (ms_set nd_ulaw_odd rfl (Or.inl rfl) (me_lst (ml_lst (ma_cons me_non (ma_cons me_bl (ma_cons me_bl (ma_cons me_int (ma_cons me_int (ma_cons (me_neg me_int) (ma_cons me_int (ma_cons (me_bin op_powW opPow_ok me_int me_int) (ma_cons me_str (ma_cons me_str (ma_cons me_str (ma_cons (me_tup ma_nil) (ma_cons (me_lst (ml_lst ma_nil)) (ma_cons me_newDK (ma_cons (me_tup (ma_cons (me_tup ma_nil) ma_nil)) (ma_cons (me_tup (ma_cons me_int ma_nil)) (ma_cons (me_tup (ma_cons me_str ma_nil)) (ma_cons (me_lst (ml_lst (ma_cons me_int ma_nil))) (ma_cons (me_tup (ma_cons me_int (ma_cons me_int ma_nil))) ma_nil))))))))))))))))))))))
  (mss_one (ms_ret (me_call 0 (fg_ulaw_of g) (hr.mono (by decide)) (takes_of rfl rfl rfl rfl) rfl (ma_cons (me_var 0) (ma_cons (me_bin op_plus opPlus_ok (me_var 1) (me_lst (ml_lst (ma_cons (me_tup (ma_cons me_str ma_nil)) (ma_cons (me_tup (ma_cons me_str (ma_cons me_str ma_nil))) (ma_cons me_str (ma_cons (me_tup (ma_cons (me_tup (ma_cons me_str ma_nil)) (ma_cons (me_tup ma_nil) ma_nil))) (ma_cons me_int (ma_cons (me_tup (ma_cons me_int ma_nil)) (ma_cons me_str (ma_cons (me_tup (ma_cons me_str ma_nil)) (ma_cons (me_tup (ma_cons (me_tup (ma_cons me_int (ma_cons me_int ma_nil))) ma_nil)) ma_nil)))))))))))) ma_nil))))))
theorem sc_ulaw_odd : FnScope N_ulaw_odd ["_law_pot_here"] (defScope s_ulaw_odd) := ⟨rfl, rfl, rfl, nd_ulaw_odd, rfl, by decide +kernel, by decide +kernel⟩
theorem fk_ulaw_odd (g : Gf fa fn ck K mg) : ∃ fd, FnOk P w K mg base (L2.CX P w) 3 ((fn.getD 3 dummyD).adr K) fd ["_law_pot_here"] (spF K (omOf K ρ) 1 F_ulaw_odd) ∧ BndL K fd ["_law_pot_here"] (omOf K ρ) [] := by
  obtain ⟨fd, F⟩ := g.def_ 3 (d := fn.getD 3 dummyD)
  exact ⟨fd, fnOk_of F sc_ulaw_odd (bs_ulaw_odd g), bndN F fun _ _ _ _ _ _ us hl => match us, hl with | [_], _ => rfl⟩
noncomputable def G_ulaw_odd : FF := scr F_ulaw_odd
theorem fkG_ulaw_odd (g : Gf fa fn ck K mg) : ∃ fd, FnOk P w K mg base (L2.CX P w) 3 ((fn.getD 3 dummyD).adr K) fd ["_law_pot_here"] (spF K (omOf K ρ) 1 G_ulaw_odd) ∧ BndL K fd ["_law_pot_here"] (omOf K ρ) [] := let ⟨fd, ok, bd⟩ := fk_ulaw_odd g; ⟨fd, ok.imp fun _ _ _ _ h => spF_scr h, bd⟩
theorem fg_ulaw_odd (g : Gf fa fn ck K mg) : FnG P w K mg base (omOf K ρ) "_law_odd" 3 1 [] G_ulaw_odd := by
  obtain ⟨fd, ok, bd⟩ := fkG_ulaw_odd (P := P) (w := w) (base := base) (ρ := ρ) g
  exact gFn rfl (g.glo 16) (g.keep 17) ok bd
def b_ulaw_bent (R : FF) : SF := (sSeq (sIf (tAnd2 (tTru (eIsT "tuple" (eVar 1))) (tAnd2 (tVal (eOp opNe (eVar 1) (eTup aNil))) (tVal (eOp opGt (eCall 2 G_ulaw_take [] (aCons (eVar 0) (aCons (eC (.int 6)) aNil))) (eC (.int 0)))))) (sSeq (sSet 2 (eCall 2 G_ulaw_take [] (aCons (eVar 0) (aCons (eBi bLen (aCons (eVar 1) aNil)) aNil))))
  (sRet (eOp opPlus (eOp opPlus (eSlice (eVar 1) none (some (eVar 2)) slT) (eTup (aCons (eCall 2 R [] (aCons (eVar 0) (aCons (eOp opIx (eVar 1) (eVar 2)) aNil))) aNil))) (eSlice (eVar 1) (some (eOp opPlus (eVar 2) (eC (.int 1)))) none slT)))) sNil)
  (sSeq (sIf (tTru (eIsT "tuple" (eVar 1))) (sRet (eCall 2 G_ulaw_of [] (aCons (eVar 0) (aCons (eFroz (eLst (aCons (eFroz (eBiL bList (aCons (eVar 1) aNil))) (aCons (eSlice (eVar 1) (some (eC (.int 1))) none slT) (aCons (eSlice (eVar 1) none (some (eNeg (eC (.int 1)))) slT) (aCons (eOp opPlus (eVar 1) (eSlice (eVar 1) (some (eNeg (eC (.int 1)))) none slT)) (aCons (eAlt (eRevT (eVar 1)) (eRevS (eVar 1))) (aCons (eTup aNil) (aCons (eOp opPlus (eVar 1) (eTup (aCons (eC (.int 0)) aNil))) aNil))))))))) aNil)))) sNil)
  (sSeq (sIf (tAnd2 (tTru (eIsT "int" (eVar 1))) (tNot2 (tTru (eIsT "bool" (eVar 1))))) (sRet (eCall 2 G_ulaw_of [] (aCons (eVar 0) (aCons (eFroz (eLst (aCons (eOp opPlus (eVar 1) (eC (.int 1))) (aCons (eOp opSub (eVar 1) (eC (.int 1))) (aCons (eNeg (eVar 1)) (aCons (eOp opEq (eVar 1) (eC (.int 1))) (aCons (eC (.str [55])) (aCons (eC (.int 0)) (aCons (eC .non) (aCons (eOp opPlus (eVar 1) (eC (.int 60))) (aCons (eOp opSub (eVar 1) (eC (.int 60))) aNil))))))))))) aNil)))) sNil)
  (sSeq (sIf (tTru (eIsT "str" (eVar 1))) (sRet (eCall 2 G_ulaw_of [] (aCons (eVar 0) (aCons (eFroz (eLst (aCons (eOp opPlus (eVar 1) (eC (.str [120]))) (aCons (eSlice (eVar 1) none (some (eNeg (eC (.int 1)))) slT) (aCons (eAlt (eRevT (eVar 1)) (eRevS (eVar 1))) (aCons (eC (.str [97, 115, 107])) (aCons (eC (.str [116, 101, 108, 108])) (aCons (eC (.str [98, 111, 116, 104])) (aCons (eC .non) (aCons (eC (.int 0)) (aCons (eFroz (eLst (aCons (eVar 1) aNil))) (aCons (eC (.str [104, 97, 110, 100])) aNil)))))))))))) aNil)))) sNil)
  (sRet (eCall 1 G_ulaw_odd [] (aCons (eVar 0) aNil)))))))
noncomputable def Fr_ulaw_bent : Nat → FF
  | 0 => scr (runB 3 sNo)
  | d + 1 => scr (runB 3 (b_ulaw_bent (Fr_ulaw_bent d)))
abbrev N_ulaw_bent : List Str := ["_law_pot_here", "_law_value", "_law_at"]
theorem nd_ulaw_bent : (N_ulaw_bent).Nodup := by decide +kernel
theorem bs_ulaw_bent (g : Gf fa fn ck K mg) (d : Nat) {R : FF} (hR : FnG P w K mg base (omOf K ρ) "_law_bent" (3 + d + 1) 2 [] R) : BodyS P w K mg base (omOf K ρ) (3 + d + 1) N_ulaw_bent (defScope s_ulaw_bent) (defBody s_ulaw_bent) (b_ulaw_bent R) := fun qual f cdv A outer s H E hr => (mss_cons (ms_if (mt_w (mw_and (mt_tru (me_isT (n := "tuple") (by decide) rfl (g.free 7) rfl (g.free 8) (by decide +kernel) (me_var 1))) (mw_and (mt_cmp (op_neD (un64 hr)) opNe_ok (me_var 1) (me_tup ma_nil) (nomark _)) (mw_and1 (mt_cmp op_gt opGt_ok (me_call 0 (fg_ulaw_take g) (hr.mono (by omega)) (takes_of rfl rfl rfl rfl) rfl (ma_cons (me_var 0) (ma_cons me_int ma_nil))) me_int (nomark _)))))) (mss_cons (ms_set nd_ulaw_bent rfl (Or.inl rfl) (me_call 0 (fg_ulaw_take g) (hr.mono (by omega)) (takes_of rfl rfl rfl rfl) rfl (ma_cons (me_var 0) (ma_cons (me_callB call_len2 bLen_ok rfl (g.free 0) (by decide +kernel) (ma_cons (me_var 1) ma_nil)) ma_nil))))
  (mss_one (ms_ret (me_bin op_plus opPlus_ok (me_bin op_plus opPlus_ok (me_slice (me_var 1) mp_none (mp_some (me_var 2))) (me_tup (ma_cons (me_call 0 hR (hr.mono (by omega)) (takes_of rfl rfl rfl rfl) rfl (ma_cons (me_var 0) (ma_cons (me_ix (me_var 1) (me_var 2)) ma_nil))) ma_nil))) (me_slice (me_var 1) (mp_some (me_bin op_plus opPlus_ok (me_var 2) me_int)) mp_none))))) mss_nil)
  (mss_cons (ms_if (mt_tru (me_isT (n := "tuple") (by decide) rfl (g.free 7) rfl (g.free 8) (by decide +kernel) (me_var 1))) (mss_one (ms_ret (me_call 0 (fg_ulaw_of g) (hr.mono (by omega)) (takes_of rfl rfl rfl rfl) rfl (ma_cons (me_var 0) (ma_cons (me_lst (ml_lst (ma_cons (me_lst (ml_callTy call_list_of bList_ok rfl (g.free 3) (by decide +kernel) (ma_cons (me_var 1) ma_nil))) (ma_cons (me_slice (me_var 1) (mp_some me_int) mp_none) (ma_cons (me_slice (me_var 1) mp_none (mp_some (me_neg me_int))) (ma_cons (me_bin op_plus opPlus_ok (me_var 1) (me_slice (me_var 1) (mp_some (me_neg me_int)) mp_none)) (ma_cons (me_alt (me_revT (me_var 1)) (me_revS (me_var 1))) (ma_cons (me_tup ma_nil) (ma_cons (me_bin op_plus opPlus_ok (me_var 1) (me_tup (ma_cons me_int ma_nil))) ma_nil))))))))) ma_nil))))) mss_nil)
  (mss_cons (ms_if (mt_w (mw_and (mt_tru (me_isT (n := "int") (by decide) rfl (g.free 7) rfl (g.free 9) (by decide +kernel) (me_var 1))) (mw_and1 (mt_not (mt_tru (me_isT (n := "bool") (by decide) rfl (g.free 7) rfl (g.free 14) (by decide +kernel) (me_var 1))))))) (mss_one (ms_ret (me_call 0 (fg_ulaw_of g) (hr.mono (by omega)) (takes_of rfl rfl rfl rfl) rfl (ma_cons (me_var 0) (ma_cons (me_lst (ml_lst (ma_cons (me_bin op_plus opPlus_ok (me_var 1) me_int) (ma_cons (me_bin op_sub opSub_ok (me_var 1) me_int) (ma_cons (me_neg (me_var 1)) (ma_cons (me_cmp (op_eqD (un64 hr)) opEq_ok (me_var 1) me_int (nomark _)) (ma_cons me_str (ma_cons me_int (ma_cons me_non (ma_cons (me_bin op_plus opPlus_ok (me_var 1) me_int) (ma_cons (me_bin op_sub opSub_ok (me_var 1) me_int) ma_nil))))))))))) ma_nil))))) mss_nil)
  (mss_cons (ms_if (mt_tru (me_isT (n := "str") (by decide) rfl (g.free 7) rfl (g.free 15) (by decide +kernel) (me_var 1))) (mss_one (ms_ret (me_call 0 (fg_ulaw_of g) (hr.mono (by omega)) (takes_of rfl rfl rfl rfl) rfl (ma_cons (me_var 0) (ma_cons (me_lst (ml_lst (ma_cons (me_bin op_plus opPlus_ok (me_var 1) me_str) (ma_cons (me_slice (me_var 1) mp_none (mp_some (me_neg me_int))) (ma_cons (me_alt (me_revT (me_var 1)) (me_revS (me_var 1))) (ma_cons me_str (ma_cons me_str (ma_cons me_str (ma_cons me_non (ma_cons me_int (ma_cons (me_lst (ml_lst (ma_cons (me_var 1) ma_nil))) (ma_cons me_str ma_nil)))))))))))) ma_nil))))) mss_nil)
  (mss_one (ms_ret (me_call 0 (fg_ulaw_odd g) (hr.mono (by omega)) (takes_of rfl rfl rfl rfl) rfl (ma_cons (me_var 0) ma_nil))))))))
theorem sc_ulaw_bent : FnScope N_ulaw_bent ["_law_pot_here", "_law_value"] (defScope s_ulaw_bent) := ⟨rfl, rfl, rfl, nd_ulaw_bent, rfl, by decide +kernel, by decide +kernel⟩
theorem fr_ulaw_bent (g : Gf fa fn ck K mg) : ∀ d, FnG P w K mg base (omOf K ρ) "_law_bent" (3 + d + 1) 2 [] (Fr_ulaw_bent d)
  | 0 => by
    obtain ⟨fd, F⟩ := g.def_ 4 (d := fn.getD 4 dummyD)
    have ok := fnOk_of (N := N_ulaw_bent) (ps := ["_law_pot_here", "_law_value"]) F sc_ulaw_bent (show BodyS P w K mg base (omOf K ρ) 3 N_ulaw_bent (defScope s_ulaw_bent) (defBody s_ulaw_bent) sNo from fun _ _ _ _ _ _ _ _ _ => mss_no)
    exact gFn rfl (g.glo 18) (g.keep 19) (ok.imp fun _ _ _ _ h => spF_scr h) (bndN F fun _ _ _ _ _ _ us hl => match us, hl with | [_, _], _ => rfl)
  | d + 1 => by
    obtain ⟨fd, F⟩ := g.def_ 4 (d := fn.getD 4 dummyD)
    have ok := fnOk_of (N := N_ulaw_bent) (ps := ["_law_pot_here", "_law_value"]) F sc_ulaw_bent (bs_ulaw_bent (P := P) (w := w) (base := base) (ρ := ρ) g d (fr_ulaw_bent g d))
    exact gFn rfl (g.glo 18) (g.keep 19) (ok.imp fun _ _ _ _ h => spF_scr h) (bndN F fun _ _ _ _ _ _ us hl => match us, hl with | [_, _], _ => rfl)
noncomputable def G_ulaw_bent : FF := Fr_ulaw_bent 6
theorem fg_ulaw_bent (g : Gf fa fn ck K mg) : FnG P w K mg base (omOf K ρ) "_law_bent" 10 2 [] G_ulaw_bent := fr_ulaw_bent g 6
def b_ulaw_errors : SF := (sSeq (sSet 1 (eNewL (eLst (aCons (eMkX 1 (eVar 0)) (aCons (eMkX 2 (eVar 0)) (aCons (eMkX 3 (eVar 0)) (aCons (eMkX 4 (eVar 0)) (aCons (eMkX 5 (eVar 0)) aNil))))))))
  (sSeq (sExpr (eAlt (eMt isLoc mExtend (eVar 1) (aCons (eFroz (eLst (aCons (eMkX 6 (eVar 0)) (aCons (eMkX 7 (eVar 0)) (aCons (eMkX 8 (eVar 0)) (aCons (eMkX 9 (eVar 0)) (aCons (eMkX 10 (eVar 0)) aNil))))))) aNil)) (eMt isLoc mExtT (eVar 1) (aCons (eFroz (eLst (aCons (eMkX 6 (eVar 0)) (aCons (eMkX 7 (eVar 0)) (aCons (eMkX 8 (eVar 0)) (aCons (eMkX 9 (eVar 0)) (aCons (eMkX 10 (eVar 0)) aNil))))))) aNil))))
  (sSeq (sExpr (eAlt (eMt isLoc mExtend (eVar 1) (aCons (eFroz (eLst (aCons (eMkX 11 (eVar 0)) (aCons (eMkX 12 (eVar 0)) (aCons (eMkX 13 (eVar 0)) (aCons (eMkX 14 (eVar 0)) (aCons (eMkX 15 (eVar 0)) aNil))))))) aNil)) (eMt isLoc mExtT (eVar 1) (aCons (eFroz (eLst (aCons (eMkX 11 (eVar 0)) (aCons (eMkX 12 (eVar 0)) (aCons (eMkX 13 (eVar 0)) (aCons (eMkX 14 (eVar 0)) (aCons (eMkX 15 (eVar 0)) aNil))))))) aNil))))
  (sSeq (sExpr (eAlt (eMt isLoc mExtend (eVar 1) (aCons (eFroz (eLst (aCons (eMkX 16 (eVar 0)) (aCons (eMkX 17 (eVar 0)) (aCons (eMkX 18 (eVar 0)) (aCons (eMkX 19 (eVar 0)) (aCons (eMkX 20 (eVar 0)) aNil))))))) aNil)) (eMt isLoc mExtT (eVar 1) (aCons (eFroz (eLst (aCons (eMkX 16 (eVar 0)) (aCons (eMkX 17 (eVar 0)) (aCons (eMkX 18 (eVar 0)) (aCons (eMkX 19 (eVar 0)) (aCons (eMkX 20 (eVar 0)) aNil))))))) aNil))))
  (sSeq (sExpr (eAlt (eMt isLoc mExtend (eVar 1) (aCons (eFroz (eLst (aCons (eMkX 21 (eVar 0)) (aCons (eMkX 22 (eVar 0)) (aCons (eMkX 23 (eVar 0)) (aCons (eMkX 24 (eVar 0)) aNil)))))) aNil)) (eMt isLoc mExtT (eVar 1) (aCons (eFroz (eLst (aCons (eMkX 21 (eVar 0)) (aCons (eMkX 22 (eVar 0)) (aCons (eMkX 23 (eVar 0)) (aCons (eMkX 24 (eVar 0)) aNil)))))) aNil))))
  (sRet (eVar 1)))))))
def F_ulaw_errors : FF := runB 2 b_ulaw_errors
abbrev N_ulaw_errors : List Str := ["_law_value", "_law_found"]
theorem nd_ulaw_errors : (N_ulaw_errors).Nodup := by decide +kernel
theorem bs_ulaw_errors (g : Gf fa fn ck K mg) : BodyS P w K mg base (omOf K ρ) 2 N_ulaw_errors (defScope s_ulaw_errors) (defBody s_ulaw_errors) b_ulaw_errors := fun qual f cdv A outer s H E hr => (mss_cons (ms_set nd_ulaw_errors rfl (Or.inl rfl) (me_newL (ml_lst (ma_cons (me_mkX (g.xcG 5 1 25 21 (c := 1) rfl) (hr.mono (by decide)) rfl (me_var 0)) (ma_cons (me_mkX (g.xcG 4 1 24 21 (c := 2) rfl) (hr.mono (by decide)) rfl (me_var 0)) (ma_cons (me_mkX (g.xcG 3 1 23 21 (c := 3) rfl) (hr.mono (by decide)) rfl (me_var 0)) (ma_cons (me_mkX (g.xcG 2 1 22 21 (c := 4) rfl) (hr.mono (by decide)) rfl (me_var 0)) (ma_cons (me_mkX (g.xcG 0 1 20 21 (c := 5) rfl) (hr.mono (by decide)) rfl (me_var 0)) ma_nil))))))))
  (mss_cons (ms_expr (me_ext2 (me_var 1) (ma_cons (me_lst (ml_lst (ma_cons (me_mkX (g.xcG 10 1 30 21 (c := 6) rfl) (hr.mono (by decide)) rfl (me_var 0)) (ma_cons (me_mkX (g.xcG 9 1 29 21 (c := 7) rfl) (hr.mono (by decide)) rfl (me_var 0)) (ma_cons (me_mkX (g.xcG 8 1 28 21 (c := 8) rfl) (hr.mono (by decide)) rfl (me_var 0)) (ma_cons (me_mkX (g.xcG 7 1 27 21 (c := 9) rfl) (hr.mono (by decide)) rfl (me_var 0)) (ma_cons (me_mkX (g.xcG 6 1 26 21 (c := 10) rfl) (hr.mono (by decide)) rfl (me_var 0)) ma_nil))))))) ma_nil)))
  (mss_cons (ms_expr (me_ext2 (me_var 1) (ma_cons (me_lst (ml_lst (ma_cons (me_mkX (g.xcG 15 1 35 21 (c := 11) rfl) (hr.mono (by decide)) rfl (me_var 0)) (ma_cons (me_mkX (g.xcG 14 1 34 21 (c := 12) rfl) (hr.mono (by decide)) rfl (me_var 0)) (ma_cons (me_mkX (g.xcG 13 1 33 21 (c := 13) rfl) (hr.mono (by decide)) rfl (me_var 0)) (ma_cons (me_mkX (g.xcG 12 1 32 21 (c := 14) rfl) (hr.mono (by decide)) rfl (me_var 0)) (ma_cons (me_mkX (g.xcG 11 1 31 21 (c := 15) rfl) (hr.mono (by decide)) rfl (me_var 0)) ma_nil))))))) ma_nil)))
  (mss_cons (ms_expr (me_ext2 (me_var 1) (ma_cons (me_lst (ml_lst (ma_cons (me_mkX (g.xcG 20 1 40 21 (c := 16) rfl) (hr.mono (by decide)) rfl (me_var 0)) (ma_cons (me_mkX (g.xcG 19 1 39 21 (c := 17) rfl) (hr.mono (by decide)) rfl (me_var 0)) (ma_cons (me_mkX (g.xcG 18 1 38 21 (c := 18) rfl) (hr.mono (by decide)) rfl (me_var 0)) (ma_cons (me_mkX (g.xcG 17 1 37 21 (c := 19) rfl) (hr.mono (by decide)) rfl (me_var 0)) (ma_cons (me_mkX (g.xcG 16 1 36 21 (c := 20) rfl) (hr.mono (by decide)) rfl (me_var 0)) ma_nil))))))) ma_nil)))
  (mss_cons (ms_expr (me_ext2 (me_var 1) (ma_cons (me_lst (ml_lst (ma_cons (me_mkX (g.xcG 24 1 44 21 (c := 21) rfl) (hr.mono (by decide)) rfl (me_var 0)) (ma_cons (me_mkX (g.xcG 23 1 43 21 (c := 22) rfl) (hr.mono (by decide)) rfl (me_var 0)) (ma_cons (me_mkX (g.xcG 22 1 42 21 (c := 23) rfl) (hr.mono (by decide)) rfl (me_var 0)) (ma_cons (me_mkX (g.xcG 21 1 41 21 (c := 24) rfl) (hr.mono (by decide)) rfl (me_var 0)) ma_nil)))))) ma_nil)))
  (mss_one (ms_ret (me_var 1))))))))
theorem sc_ulaw_errors : FnScope N_ulaw_errors ["_law_value"] (defScope s_ulaw_errors) := ⟨rfl, rfl, rfl, nd_ulaw_errors, rfl, by decide +kernel, by decide +kernel⟩
theorem fk_ulaw_errors (g : Gf fa fn ck K mg) : ∃ fd, FnOk P w K mg base (L2.CX P w) 3 ((fn.getD 5 dummyD).adr K) fd ["_law_value"] (spF K (omOf K ρ) 1 F_ulaw_errors) ∧ BndL K fd ["_law_value"] (omOf K ρ) [] := by
  obtain ⟨fd, F⟩ := g.def_ 5 (d := fn.getD 5 dummyD)
  exact ⟨fd, fnOk_of F sc_ulaw_errors (bs_ulaw_errors g), bndN F fun _ _ _ _ _ _ us hl => match us, hl with | [_], _ => rfl⟩
noncomputable def G_ulaw_errors : FF := scr F_ulaw_errors
theorem fkG_ulaw_errors (g : Gf fa fn ck K mg) : ∃ fd, FnOk P w K mg base (L2.CX P w) 3 ((fn.getD 5 dummyD).adr K) fd ["_law_value"] (spF K (omOf K ρ) 1 G_ulaw_errors) ∧ BndL K fd ["_law_value"] (omOf K ρ) [] := let ⟨fd, ok, bd⟩ := fk_ulaw_errors g; ⟨fd, ok.imp fun _ _ _ _ h => spF_scr h, bd⟩
theorem fg_ulaw_errors (g : Gf fa fn ck K mg) : FnG P w K mg base (omOf K ρ) "_law_errors" 3 1 [] G_ulaw_errors := by
  obtain ⟨fd, ok, bd⟩ := fkG_ulaw_errors (P := P) (w := w) (base := base) (ρ := ρ) g
  exact gFn rfl (g.glo 45) (g.keep 46) ok bd
def b_ulaw_marks : SF := (sSeq (sSet 1 (eNewL (eLst (aCons (eIsX [0, 1, 2, 3, 4, 5, 6, 7, 8, 9, 10, 11, 12, 13, 14, 15, 16, 17, 18, 19, 20, 21, 22, 23, 24] 1 (eVar 0)) (aCons (eIsX [0, 1, 2, 3, 4, 5, 6, 7, 8, 9, 10, 11, 12, 13, 14, 15, 16, 17, 18, 19, 20, 21, 22, 23, 24] 2 (eVar 0)) (aCons (eIsX [0, 1, 2, 3, 4, 5, 6, 7, 8, 9, 10, 11, 12, 13, 14, 15, 16, 17, 18, 19, 20, 21, 22, 23, 24] 3 (eVar 0)) aNil))))))
  (sSeq (sExpr (eAlt (eMt isLoc mExtend (eVar 1) (aCons (eFroz (eLst (aCons (eIsX [0, 1, 2, 3, 4, 5, 6, 7, 8, 9, 10, 11, 12, 13, 14, 15, 16, 17, 18, 19, 20, 21, 22, 23, 24] 4 (eVar 0)) (aCons (eIsX [0, 1, 2, 3, 4, 5, 6, 7, 8, 9, 10, 11, 12, 13, 14, 15, 16, 17, 18, 19, 20, 21, 22, 23, 24] 5 (eVar 0)) (aCons (eIsX [0, 1, 2, 3, 4, 5, 6, 7, 8, 9, 10, 11, 12, 13, 14, 15, 16, 17, 18, 19, 20, 21, 22, 23, 24] 6 (eVar 0)) aNil))))) aNil)) (eMt isLoc mExtT (eVar 1) (aCons (eFroz (eLst (aCons (eIsX [0, 1, 2, 3, 4, 5, 6, 7, 8, 9, 10, 11, 12, 13, 14, 15, 16, 17, 18, 19, 20, 21, 22, 23, 24] 4 (eVar 0)) (aCons (eIsX [0, 1, 2, 3, 4, 5, 6, 7, 8, 9, 10, 11, 12, 13, 14, 15, 16, 17, 18, 19, 20, 21, 22, 23, 24] 5 (eVar 0)) (aCons (eIsX [0, 1, 2, 3, 4, 5, 6, 7, 8, 9, 10, 11, 12, 13, 14, 15, 16, 17, 18, 19, 20, 21, 22, 23, 24] 6 (eVar 0)) aNil))))) aNil))))
  (sSeq (sExpr (eAlt (eMt isLoc mExtend (eVar 1) (aCons (eFroz (eLst (aCons (eIsX [0, 1, 2, 3, 4, 5, 6, 7, 8, 9, 10, 11, 12, 13, 14, 15, 16, 17, 18, 19, 20, 21, 22, 23, 24] 7 (eVar 0)) (aCons (eIsX [0, 1, 2, 3, 4, 5, 6, 7, 8, 9, 10, 11, 12, 13, 14, 15, 16, 17, 18, 19, 20, 21, 22, 23, 24] 8 (eVar 0)) (aCons (eIsX [0, 1, 2, 3, 4, 5, 6, 7, 8, 9, 10, 11, 12, 13, 14, 15, 16, 17, 18, 19, 20, 21, 22, 23, 24] 9 (eVar 0)) aNil))))) aNil)) (eMt isLoc mExtT (eVar 1) (aCons (eFroz (eLst (aCons (eIsX [0, 1, 2, 3, 4, 5, 6, 7, 8, 9, 10, 11, 12, 13, 14, 15, 16, 17, 18, 19, 20, 21, 22, 23, 24] 7 (eVar 0)) (aCons (eIsX [0, 1, 2, 3, 4, 5, 6, 7, 8, 9, 10, 11, 12, 13, 14, 15, 16, 17, 18, 19, 20, 21, 22, 23, 24] 8 (eVar 0)) (aCons (eIsX [0, 1, 2, 3, 4, 5, 6, 7, 8, 9, 10, 11, 12, 13, 14, 15, 16, 17, 18, 19, 20, 21, 22, 23, 24] 9 (eVar 0)) aNil))))) aNil))))
  (sSeq (sExpr (eAlt (eMt isLoc mExtend (eVar 1) (aCons (eFroz (eLst (aCons (eIsX [0, 1, 2, 3, 4, 5, 6, 7, 8, 9, 10, 11, 12, 13, 14, 15, 16, 17, 18, 19, 20, 21, 22, 23, 24] 10 (eVar 0)) (aCons (eIsX [0, 1, 2, 3, 4, 5, 6, 7, 8, 9, 10, 11, 12, 13, 14, 15, 16, 17, 18, 19, 20, 21, 22, 23, 24] 11 (eVar 0)) (aCons (eIsX [0, 1, 2, 3, 4, 5, 6, 7, 8, 9, 10, 11, 12, 13, 14, 15, 16, 17, 18, 19, 20, 21, 22, 23, 24] 12 (eVar 0)) aNil))))) aNil)) (eMt isLoc mExtT (eVar 1) (aCons (eFroz (eLst (aCons (eIsX [0, 1, 2, 3, 4, 5, 6, 7, 8, 9, 10, 11, 12, 13, 14, 15, 16, 17, 18, 19, 20, 21, 22, 23, 24] 10 (eVar 0)) (aCons (eIsX [0, 1, 2, 3, 4, 5, 6, 7, 8, 9, 10, 11, 12, 13, 14, 15, 16, 17, 18, 19, 20, 21, 22, 23, 24] 11 (eVar 0)) (aCons (eIsX [0, 1, 2, 3, 4, 5, 6, 7, 8, 9, 10, 11, 12, 13, 14, 15, 16, 17, 18, 19, 20, 21, 22, 23, 24] 12 (eVar 0)) aNil))))) aNil))))
  (sSeq (sExpr (eAlt (eMt isLoc mExtend (eVar 1) (aCons (eFroz (eLst (aCons (eIsX [0, 1, 2, 3, 4, 5, 6, 7, 8, 9, 10, 11, 12, 13, 14, 15, 16, 17, 18, 19, 20, 21, 22, 23, 24] 13 (eVar 0)) (aCons (eIsX [0, 1, 2, 3, 4, 5, 6, 7, 8, 9, 10, 11, 12, 13, 14, 15, 16, 17, 18, 19, 20, 21, 22, 23, 24] 14 (eVar 0)) (aCons (eIsX [0, 1, 2, 3, 4, 5, 6, 7, 8, 9, 10, 11, 12, 13, 14, 15, 16, 17, 18, 19, 20, 21, 22, 23, 24] 15 (eVar 0)) aNil))))) aNil)) (eMt isLoc mExtT (eVar 1) (aCons (eFroz (eLst (aCons (eIsX [0, 1, 2, 3, 4, 5, 6, 7, 8, 9, 10, 11, 12, 13, 14, 15, 16, 17, 18, 19, 20, 21, 22, 23, 24] 13 (eVar 0)) (aCons (eIsX [0, 1, 2, 3, 4, 5, 6, 7, 8, 9, 10, 11, 12, 13, 14, 15, 16, 17, 18, 19, 20, 21, 22, 23, 24] 14 (eVar 0)) (aCons (eIsX [0, 1, 2, 3, 4, 5, 6, 7, 8, 9, 10, 11, 12, 13, 14, 15, 16, 17, 18, 19, 20, 21, 22, 23, 24] 15 (eVar 0)) aNil))))) aNil))))
  (sSeq (sExpr (eAlt (eMt isLoc mExtend (eVar 1) (aCons (eFroz (eLst (aCons (eIsX [0, 1, 2, 3, 4, 5, 6, 7, 8, 9, 10, 11, 12, 13, 14, 15, 16, 17, 18, 19, 20, 21, 22, 23, 24] 16 (eVar 0)) (aCons (eIsX [0, 1, 2, 3, 4, 5, 6, 7, 8, 9, 10, 11, 12, 13, 14, 15, 16, 17, 18, 19, 20, 21, 22, 23, 24] 17 (eVar 0)) (aCons (eIsX [0, 1, 2, 3, 4, 5, 6, 7, 8, 9, 10, 11, 12, 13, 14, 15, 16, 17, 18, 19, 20, 21, 22, 23, 24] 18 (eVar 0)) aNil))))) aNil)) (eMt isLoc mExtT (eVar 1) (aCons (eFroz (eLst (aCons (eIsX [0, 1, 2, 3, 4, 5, 6, 7, 8, 9, 10, 11, 12, 13, 14, 15, 16, 17, 18, 19, 20, 21, 22, 23, 24] 16 (eVar 0)) (aCons (eIsX [0, 1, 2, 3, 4, 5, 6, 7, 8, 9, 10, 11, 12, 13, 14, 15, 16, 17, 18, 19, 20, 21, 22, 23, 24] 17 (eVar 0)) (aCons (eIsX [0, 1, 2, 3, 4, 5, 6, 7, 8, 9, 10, 11, 12, 13, 14, 15, 16, 17, 18, 19, 20, 21, 22, 23, 24] 18 (eVar 0)) aNil))))) aNil))))
  (sSeq (sExpr (eAlt (eMt isLoc mExtend (eVar 1) (aCons (eFroz (eLst (aCons (eIsX [0, 1, 2, 3, 4, 5, 6, 7, 8, 9, 10, 11, 12, 13, 14, 15, 16, 17, 18, 19, 20, 21, 22, 23, 24] 19 (eVar 0)) (aCons (eIsX [0, 1, 2, 3, 4, 5, 6, 7, 8, 9, 10, 11, 12, 13, 14, 15, 16, 17, 18, 19, 20, 21, 22, 23, 24] 20 (eVar 0)) aNil)))) aNil)) (eMt isLoc mExtT (eVar 1) (aCons (eFroz (eLst (aCons (eIsX [0, 1, 2, 3, 4, 5, 6, 7, 8, 9, 10, 11, 12, 13, 14, 15, 16, 17, 18, 19, 20, 21, 22, 23, 24] 19 (eVar 0)) (aCons (eIsX [0, 1, 2, 3, 4, 5, 6, 7, 8, 9, 10, 11, 12, 13, 14, 15, 16, 17, 18, 19, 20, 21, 22, 23, 24] 20 (eVar 0)) aNil)))) aNil))))
  (sSeq (sExpr (eAlt (eMt isLoc mExtend (eVar 1) (aCons (eFroz (eLst (aCons (eIsX [0, 1, 2, 3, 4, 5, 6, 7, 8, 9, 10, 11, 12, 13, 14, 15, 16, 17, 18, 19, 20, 21, 22, 23, 24] 21 (eVar 0)) (aCons (eIsX [0, 1, 2, 3, 4, 5, 6, 7, 8, 9, 10, 11, 12, 13, 14, 15, 16, 17, 18, 19, 20, 21, 22, 23, 24] 22 (eVar 0)) aNil)))) aNil)) (eMt isLoc mExtT (eVar 1) (aCons (eFroz (eLst (aCons (eIsX [0, 1, 2, 3, 4, 5, 6, 7, 8, 9, 10, 11, 12, 13, 14, 15, 16, 17, 18, 19, 20, 21, 22, 23, 24] 21 (eVar 0)) (aCons (eIsX [0, 1, 2, 3, 4, 5, 6, 7, 8, 9, 10, 11, 12, 13, 14, 15, 16, 17, 18, 19, 20, 21, 22, 23, 24] 22 (eVar 0)) aNil)))) aNil))))
  (sSeq (sExpr (eAlt (eMt isLoc mExtend (eVar 1) (aCons (eFroz (eLst (aCons (eIsX [0, 1, 2, 3, 4, 5, 6, 7, 8, 9, 10, 11, 12, 13, 14, 15, 16, 17, 18, 19, 20, 21, 22, 23, 24] 23 (eVar 0)) (aCons (eIsX [0, 1, 2, 3, 4, 5, 6, 7, 8, 9, 10, 11, 12, 13, 14, 15, 16, 17, 18, 19, 20, 21, 22, 23, 24] 24 (eVar 0)) aNil)))) aNil)) (eMt isLoc mExtT (eVar 1) (aCons (eFroz (eLst (aCons (eIsX [0, 1, 2, 3, 4, 5, 6, 7, 8, 9, 10, 11, 12, 13, 14, 15, 16, 17, 18, 19, 20, 21, 22, 23, 24] 23 (eVar 0)) (aCons (eIsX [0, 1, 2, 3, 4, 5, 6, 7, 8, 9, 10, 11, 12, 13, 14, 15, 16, 17, 18, 19, 20, 21, 22, 23, 24] 24 (eVar 0)) aNil)))) aNil))))
  (sRet (eVar 1)))))))))))
def F_ulaw_marks : FF := runB 2 b_ulaw_marks
abbrev N_ulaw_marks : List Str := ["_law_error", "_law_found"]
theorem nd_ulaw_marks : (N_ulaw_marks).Nodup := by decide +kernel
theorem bs_ulaw_marks (g : Gf fa fn ck K mg) : BodyS P w K mg base (omOf K ρ) 0 N_ulaw_marks (defScope s_ulaw_marks) (defBody s_ulaw_marks) b_ulaw_marks := fun qual f cdv A outer s H E hr => (mss_cons (ms_set nd_ulaw_marks rfl (Or.inl rfl) (me_newL (ml_lst (ma_cons (me_isX rfl (g.free 7) rfl (g.glo 25) (allC (g.err 25).i (allC (g.err 5).i (allC (g.err 4).i (allC (g.err 3).i (allC (g.err 2).i (allC (g.err 0).i (allC (g.err 10).i (allC (g.err 9).i (allC (g.err 8).i (allC (g.err 7).i (allC (g.err 6).i (allC (g.err 15).i (allC (g.err 14).i (allC (g.err 13).i (allC (g.err 12).i (allC (g.err 11).i (allC (g.err 20).i (allC (g.err 19).i (allC (g.err 18).i (allC (g.err 17).i (allC (g.err 16).i (allC (g.err 24).i (allC (g.err 23).i (allC (g.err 22).i (allC (g.err 21).i allN))))))))))))))))))))))))) (allC (g.kit 150) (allC (g.kit 149) (allC (g.kit 148) (allC (g.kit 147) (allC (g.kit 146) (allC (g.kit 145) (allC (g.kit 144) (allC (g.kit 143) (allC (g.kit 142) (allC (g.kit 141) (allC (g.kit 140) (allC (g.kit 139) (allC (g.kit 138) (allC (g.kit 137) (allC (g.kit 136) (allC (g.kit 135) (allC (g.kit 134) (allC (g.kit 133) (allC (g.kit 132) (allC (g.kit 131) (allC (g.kit 130) (allC (g.kit 129) (allC (g.kit 128) (allC (g.kit 127) (allC (g.kit 126) allN))))))))))))))))))))))))) (g.err 5).kit (me_var 0)) (ma_cons (me_isX rfl (g.free 7) rfl (g.glo 24) (allC (g.err 25).i (allC (g.err 5).i (allC (g.err 4).i (allC (g.err 3).i (allC (g.err 2).i (allC (g.err 0).i (allC (g.err 10).i (allC (g.err 9).i (allC (g.err 8).i (allC (g.err 7).i (allC (g.err 6).i (allC (g.err 15).i (allC (g.err 14).i (allC (g.err 13).i (allC (g.err 12).i (allC (g.err 11).i (allC (g.err 20).i (allC (g.err 19).i (allC (g.err 18).i (allC (g.err 17).i (allC (g.err 16).i (allC (g.err 24).i (allC (g.err 23).i (allC (g.err 22).i (allC (g.err 21).i allN))))))))))))))))))))))))) (allC (g.kit 125) (allC (g.kit 124) (allC (g.kit 123) (allC (g.kit 122) (allC (g.kit 121) (allC (g.kit 120) (allC (g.kit 119) (allC (g.kit 118) (allC (g.kit 117) (allC (g.kit 116) (allC (g.kit 115) (allC (g.kit 114) (allC (g.kit 113) (allC (g.kit 112) (allC (g.kit 111) (allC (g.kit 110) (allC (g.kit 109) (allC (g.kit 108) (allC (g.kit 107) (allC (g.kit 106) (allC (g.kit 105) (allC (g.kit 104) (allC (g.kit 103) (allC (g.kit 102) (allC (g.kit 101) allN))))))))))))))))))))))))) (g.err 4).kit (me_var 0)) (ma_cons (me_isX rfl (g.free 7) rfl (g.glo 23) (allC (g.err 25).i (allC (g.err 5).i (allC (g.err 4).i (allC (g.err 3).i (allC (g.err 2).i (allC (g.err 0).i (allC (g.err 10).i (allC (g.err 9).i (allC (g.err 8).i (allC (g.err 7).i (allC (g.err 6).i (allC (g.err 15).i (allC (g.err 14).i (allC (g.err 13).i (allC (g.err 12).i (allC (g.err 11).i (allC (g.err 20).i (allC (g.err 19).i (allC (g.err 18).i (allC (g.err 17).i (allC (g.err 16).i (allC (g.err 24).i (allC (g.err 23).i (allC (g.err 22).i (allC (g.err 21).i allN))))))))))))))))))))))))) (allC (g.kit 100) (allC (g.kit 99) (allC (g.kit 98) (allC (g.kit 97) (allC (g.kit 96) (allC (g.kit 95) (allC (g.kit 94) (allC (g.kit 93) (allC (g.kit 92) (allC (g.kit 91) (allC (g.kit 90) (allC (g.kit 89) (allC (g.kit 88) (allC (g.kit 87) (allC (g.kit 86) (allC (g.kit 85) (allC (g.kit 84) (allC (g.kit 83) (allC (g.kit 82) (allC (g.kit 81) (allC (g.kit 80) (allC (g.kit 79) (allC (g.kit 78) (allC (g.kit 77) (allC (g.kit 76) allN))))))))))))))))))))))))) (g.err 3).kit (me_var 0)) ma_nil))))))
  (mss_cons (ms_expr (me_ext2 (me_var 1) (ma_cons (me_lst (ml_lst (ma_cons (me_isX rfl (g.free 7) rfl (g.glo 22) (allC (g.err 25).i (allC (g.err 5).i (allC (g.err 4).i (allC (g.err 3).i (allC (g.err 2).i (allC (g.err 0).i (allC (g.err 10).i (allC (g.err 9).i (allC (g.err 8).i (allC (g.err 7).i (allC (g.err 6).i (allC (g.err 15).i (allC (g.err 14).i (allC (g.err 13).i (allC (g.err 12).i (allC (g.err 11).i (allC (g.err 20).i (allC (g.err 19).i (allC (g.err 18).i (allC (g.err 17).i (allC (g.err 16).i (allC (g.err 24).i (allC (g.err 23).i (allC (g.err 22).i (allC (g.err 21).i allN))))))))))))))))))))))))) (allC (g.kit 225) (allC (g.kit 224) (allC (g.kit 223) (allC (g.kit 222) (allC (g.kit 221) (allC (g.kit 220) (allC (g.kit 219) (allC (g.kit 218) (allC (g.kit 217) (allC (g.kit 216) (allC (g.kit 215) (allC (g.kit 214) (allC (g.kit 213) (allC (g.kit 212) (allC (g.kit 211) (allC (g.kit 210) (allC (g.kit 209) (allC (g.kit 208) (allC (g.kit 207) (allC (g.kit 206) (allC (g.kit 205) (allC (g.kit 204) (allC (g.kit 203) (allC (g.kit 202) (allC (g.kit 201) allN))))))))))))))))))))))))) (g.err 2).kit (me_var 0)) (ma_cons (me_isX rfl (g.free 7) rfl (g.glo 20) (allC (g.err 25).i (allC (g.err 5).i (allC (g.err 4).i (allC (g.err 3).i (allC (g.err 2).i (allC (g.err 0).i (allC (g.err 10).i (allC (g.err 9).i (allC (g.err 8).i (allC (g.err 7).i (allC (g.err 6).i (allC (g.err 15).i (allC (g.err 14).i (allC (g.err 13).i (allC (g.err 12).i (allC (g.err 11).i (allC (g.err 20).i (allC (g.err 19).i (allC (g.err 18).i (allC (g.err 17).i (allC (g.err 16).i (allC (g.err 24).i (allC (g.err 23).i (allC (g.err 22).i (allC (g.err 21).i allN))))))))))))))))))))))))) (allC (g.kit 200) (allC (g.kit 199) (allC (g.kit 198) (allC (g.kit 197) (allC (g.kit 196) (allC (g.kit 195) (allC (g.kit 194) (allC (g.kit 193) (allC (g.kit 192) (allC (g.kit 191) (allC (g.kit 190) (allC (g.kit 189) (allC (g.kit 188) (allC (g.kit 187) (allC (g.kit 186) (allC (g.kit 185) (allC (g.kit 184) (allC (g.kit 183) (allC (g.kit 182) (allC (g.kit 181) (allC (g.kit 180) (allC (g.kit 179) (allC (g.kit 178) (allC (g.kit 177) (allC (g.kit 176) allN))))))))))))))))))))))))) (g.err 0).kit (me_var 0)) (ma_cons (me_isX rfl (g.free 7) rfl (g.glo 30) (allC (g.err 25).i (allC (g.err 5).i (allC (g.err 4).i (allC (g.err 3).i (allC (g.err 2).i (allC (g.err 0).i (allC (g.err 10).i (allC (g.err 9).i (allC (g.err 8).i (allC (g.err 7).i (allC (g.err 6).i (allC (g.err 15).i (allC (g.err 14).i (allC (g.err 13).i (allC (g.err 12).i (allC (g.err 11).i (allC (g.err 20).i (allC (g.err 19).i (allC (g.err 18).i (allC (g.err 17).i (allC (g.err 16).i (allC (g.err 24).i (allC (g.err 23).i (allC (g.err 22).i (allC (g.err 21).i allN))))))))))))))))))))))))) (allC (g.kit 175) (allC (g.kit 174) (allC (g.kit 173) (allC (g.kit 172) (allC (g.kit 171) (allC (g.kit 170) (allC (g.kit 169) (allC (g.kit 168) (allC (g.kit 167) (allC (g.kit 166) (allC (g.kit 165) (allC (g.kit 164) (allC (g.kit 163) (allC (g.kit 162) (allC (g.kit 161) (allC (g.kit 160) (allC (g.kit 159) (allC (g.kit 158) (allC (g.kit 157) (allC (g.kit 156) (allC (g.kit 155) (allC (g.kit 154) (allC (g.kit 153) (allC (g.kit 152) (allC (g.kit 151) allN))))))))))))))))))))))))) (g.err 10).kit (me_var 0)) ma_nil))))) ma_nil)))
  (mss_cons (ms_expr (me_ext2 (me_var 1) (ma_cons (me_lst (ml_lst (ma_cons (me_isX rfl (g.free 7) rfl (g.glo 29) (allC (g.err 25).i (allC (g.err 5).i (allC (g.err 4).i (allC (g.err 3).i (allC (g.err 2).i (allC (g.err 0).i (allC (g.err 10).i (allC (g.err 9).i (allC (g.err 8).i (allC (g.err 7).i (allC (g.err 6).i (allC (g.err 15).i (allC (g.err 14).i (allC (g.err 13).i (allC (g.err 12).i (allC (g.err 11).i (allC (g.err 20).i (allC (g.err 19).i (allC (g.err 18).i (allC (g.err 17).i (allC (g.err 16).i (allC (g.err 24).i (allC (g.err 23).i (allC (g.err 22).i (allC (g.err 21).i allN))))))))))))))))))))))))) (allC (g.kit 300) (allC (g.kit 299) (allC (g.kit 298) (allC (g.kit 297) (allC (g.kit 296) (allC (g.kit 295) (allC (g.kit 294) (allC (g.kit 293) (allC (g.kit 292) (allC (g.kit 291) (allC (g.kit 290) (allC (g.kit 289) (allC (g.kit 288) (allC (g.kit 287) (allC (g.kit 286) (allC (g.kit 285) (allC (g.kit 284) (allC (g.kit 283) (allC (g.kit 282) (allC (g.kit 281) (allC (g.kit 280) (allC (g.kit 279) (allC (g.kit 278) (allC (g.kit 277) (allC (g.kit 276) allN))))))))))))))))))))))))) (g.err 9).kit (me_var 0)) (ma_cons (me_isX rfl (g.free 7) rfl (g.glo 28) (allC (g.err 25).i (allC (g.err 5).i (allC (g.err 4).i (allC (g.err 3).i (allC (g.err 2).i (allC (g.err 0).i (allC (g.err 10).i (allC (g.err 9).i (allC (g.err 8).i (allC (g.err 7).i (allC (g.err 6).i (allC (g.err 15).i (allC (g.err 14).i (allC (g.err 13).i (allC (g.err 12).i (allC (g.err 11).i (allC (g.err 20).i (allC (g.err 19).i (allC (g.err 18).i (allC (g.err 17).i (allC (g.err 16).i (allC (g.err 24).i (allC (g.err 23).i (allC (g.err 22).i (allC (g.err 21).i allN))))))))))))))))))))))))) (allC (g.kit 275) (allC (g.kit 274) (allC (g.kit 273) (allC (g.kit 272) (allC (g.kit 271) (allC (g.kit 270) (allC (g.kit 269) (allC (g.kit 268) (allC (g.kit 267) (allC (g.kit 266) (allC (g.kit 265) (allC (g.kit 264) (allC (g.kit 263) (allC (g.kit 262) (allC (g.kit 261) (allC (g.kit 260) (allC (g.kit 259) (allC (g.kit 258) (allC (g.kit 257) (allC (g.kit 256) (allC (g.kit 255) (allC (g.kit 254) (allC (g.kit 253) (allC (g.kit 252) (allC (g.kit 251) allN))))))))))))))))))))))))) (g.err 8).kit (me_var 0)) (ma_cons (me_isX rfl (g.free 7) rfl (g.glo 27) (allC (g.err 25).i (allC (g.err 5).i (allC (g.err 4).i (allC (g.err 3).i (allC (g.err 2).i (allC (g.err 0).i (allC (g.err 10).i (allC (g.err 9).i (allC (g.err 8).i (allC (g.err 7).i (allC (g.err 6).i (allC (g.err 15).i (allC (g.err 14).i (allC (g.err 13).i (allC (g.err 12).i (allC (g.err 11).i (allC (g.err 20).i (allC (g.err 19).i (allC (g.err 18).i (allC (g.err 17).i (allC (g.err 16).i (allC (g.err 24).i (allC (g.err 23).i (allC (g.err 22).i (allC (g.err 21).i allN))))))))))))))))))))))))) (allC (g.kit 250) (allC (g.kit 249) (allC (g.kit 248) (allC (g.kit 247) (allC (g.kit 246) (allC (g.kit 245) (allC (g.kit 244) (allC (g.kit 243) (allC (g.kit 242) (allC (g.kit 241) (allC (g.kit 240) (allC (g.kit 239) (allC (g.kit 238) (allC (g.kit 237) (allC (g.kit 236) (allC (g.kit 235) (allC (g.kit 234) (allC (g.kit 233) (allC (g.kit 232) (allC (g.kit 231) (allC (g.kit 230) (allC (g.kit 229) (allC (g.kit 228) (allC (g.kit 227) (allC (g.kit 226) allN))))))))))))))))))))))))) (g.err 7).kit (me_var 0)) ma_nil))))) ma_nil)))
  (mss_cons (ms_expr (me_ext2 (me_var 1) (ma_cons (me_lst (ml_lst (ma_cons (me_isX rfl (g.free 7) rfl (g.glo 26) (allC (g.err 25).i (allC (g.err 5).i (allC (g.err 4).i (allC (g.err 3).i (allC (g.err 2).i (allC (g.err 0).i (allC (g.err 10).i (allC (g.err 9).i (allC (g.err 8).i (allC (g.err 7).i (allC (g.err 6).i (allC (g.err 15).i (allC (g.err 14).i (allC (g.err 13).i (allC (g.err 12).i (allC (g.err 11).i (allC (g.err 20).i (allC (g.err 19).i (allC (g.err 18).i (allC (g.err 17).i (allC (g.err 16).i (allC (g.err 24).i (allC (g.err 23).i (allC (g.err 22).i (allC (g.err 21).i allN))))))))))))))))))))))))) (allC (g.kit 375) (allC (g.kit 374) (allC (g.kit 373) (allC (g.kit 372) (allC (g.kit 371) (allC (g.kit 370) (allC (g.kit 369) (allC (g.kit 368) (allC (g.kit 367) (allC (g.kit 366) (allC (g.kit 365) (allC (g.kit 364) (allC (g.kit 363) (allC (g.kit 362) (allC (g.kit 361) (allC (g.kit 360) (allC (g.kit 359) (allC (g.kit 358) (allC (g.kit 357) (allC (g.kit 356) (allC (g.kit 355) (allC (g.kit 354) (allC (g.kit 353) (allC (g.kit 352) (allC (g.kit 351) allN))))))))))))))))))))))))) (g.err 6).kit (me_var 0)) (ma_cons (me_isX rfl (g.free 7) rfl (g.glo 35) (allC (g.err 25).i (allC (g.err 5).i (allC (g.err 4).i (allC (g.err 3).i (allC (g.err 2).i (allC (g.err 0).i (allC (g.err 10).i (allC (g.err 9).i (allC (g.err 8).i (allC (g.err 7).i (allC (g.err 6).i (allC (g.err 15).i (allC (g.err 14).i (allC (g.err 13).i (allC (g.err 12).i (allC (g.err 11).i (allC (g.err 20).i (allC (g.err 19).i (allC (g.err 18).i (allC (g.err 17).i (allC (g.err 16).i (allC (g.err 24).i (allC (g.err 23).i (allC (g.err 22).i (allC (g.err 21).i allN))))))))))))))))))))))))) (allC (g.kit 350) (allC (g.kit 349) (allC (g.kit 348) (allC (g.kit 347) (allC (g.kit 346) (allC (g.kit 345) (allC (g.kit 344) (allC (g.kit 343) (allC (g.kit 342) (allC (g.kit 341) (allC (g.kit 340) (allC (g.kit 339) (allC (g.kit 338) (allC (g.kit 337) (allC (g.kit 336) (allC (g.kit 335) (allC (g.kit 334) (allC (g.kit 333) (allC (g.kit 332) (allC (g.kit 331) (allC (g.kit 330) (allC (g.kit 329) (allC (g.kit 328) (allC (g.kit 327) (allC (g.kit 326) allN))))))))))))))))))))))))) (g.err 15).kit (me_var 0)) (ma_cons (me_isX rfl (g.free 7) rfl (g.glo 34) (allC (g.err 25).i (allC (g.err 5).i (allC (g.err 4).i (allC (g.err 3).i (allC (g.err 2).i (allC (g.err 0).i (allC (g.err 10).i (allC (g.err 9).i (allC (g.err 8).i (allC (g.err 7).i (allC (g.err 6).i (allC (g.err 15).i (allC (g.err 14).i (allC (g.err 13).i (allC (g.err 12).i (allC (g.err 11).i (allC (g.err 20).i (allC (g.err 19).i (allC (g.err 18).i (allC (g.err 17).i (allC (g.err 16).i (allC (g.err 24).i (allC (g.err 23).i (allC (g.err 22).i (allC (g.err 21).i allN))))))))))))))))))))))))) (allC (g.kit 325) (allC (g.kit 324) (allC (g.kit 323) (allC (g.kit 322) (allC (g.kit 321) (allC (g.kit 320) (allC (g.kit 319) (allC (g.kit 318) (allC (g.kit 317) (allC (g.kit 316) (allC (g.kit 315) (allC (g.kit 314) (allC (g.kit 313) (allC (g.kit 312) (allC (g.kit 311) (allC (g.kit 310) (allC (g.kit 309) (allC (g.kit 308) (allC (g.kit 307) (allC (g.kit 306) (allC (g.kit 305) (allC (g.kit 304) (allC (g.kit 303) (allC (g.kit 302) (allC (g.kit 301) allN))))))))))))))))))))))))) (g.err 14).kit (me_var 0)) ma_nil))))) ma_nil)))
  (mss_cons (ms_expr (me_ext2 (me_var 1) (ma_cons (me_lst (ml_lst (ma_cons (me_isX rfl (g.free 7) rfl (g.glo 33) (allC (g.err 25).i (allC (g.err 5).i (allC (g.err 4).i (allC (g.err 3).i (allC (g.err 2).i (allC (g.err 0).i (allC (g.err 10).i (allC (g.err 9).i (allC (g.err 8).i (allC (g.err 7).i (allC (g.err 6).i (allC (g.err 15).i (allC (g.err 14).i (allC (g.err 13).i (allC (g.err 12).i (allC (g.err 11).i (allC (g.err 20).i (allC (g.err 19).i (allC (g.err 18).i (allC (g.err 17).i (allC (g.err 16).i (allC (g.err 24).i (allC (g.err 23).i (allC (g.err 22).i (allC (g.err 21).i allN))))))))))))))))))))))))) (allC (g.kit 450) (allC (g.kit 449) (allC (g.kit 448) (allC (g.kit 447) (allC (g.kit 446) (allC (g.kit 445) (allC (g.kit 444) (allC (g.kit 443) (allC (g.kit 442) (allC (g.kit 441) (allC (g.kit 440) (allC (g.kit 439) (allC (g.kit 438) (allC (g.kit 437) (allC (g.kit 436) (allC (g.kit 435) (allC (g.kit 434) (allC (g.kit 433) (allC (g.kit 432) (allC (g.kit 431) (allC (g.kit 430) (allC (g.kit 429) (allC (g.kit 428) (allC (g.kit 427) (allC (g.kit 426) allN))))))))))))))))))))))))) (g.err 13).kit (me_var 0)) (ma_cons (me_isX rfl (g.free 7) rfl (g.glo 32) (allC (g.err 25).i (allC (g.err 5).i (allC (g.err 4).i (allC (g.err 3).i (allC (g.err 2).i (allC (g.err 0).i (allC (g.err 10).i (allC (g.err 9).i (allC (g.err 8).i (allC (g.err 7).i (allC (g.err 6).i (allC (g.err 15).i (allC (g.err 14).i (allC (g.err 13).i (allC (g.err 12).i (allC (g.err 11).i (allC (g.err 20).i (allC (g.err 19).i (allC (g.err 18).i (allC (g.err 17).i (allC (g.err 16).i (allC (g.err 24).i (allC (g.err 23).i (allC (g.err 22).i (allC (g.err 21).i allN))))))))))))))))))))))))) (allC (g.kit 425) (allC (g.kit 424) (allC (g.kit 423) (allC (g.kit 422) (allC (g.kit 421) (allC (g.kit 420) (allC (g.kit 419) (allC (g.kit 418) (allC (g.kit 417) (allC (g.kit 416) (allC (g.kit 415) (allC (g.kit 414) (allC (g.kit 413) (allC (g.kit 412) (allC (g.kit 411) (allC (g.kit 410) (allC (g.kit 409) (allC (g.kit 408) (allC (g.kit 407) (allC (g.kit 406) (allC (g.kit 405) (allC (g.kit 404) (allC (g.kit 403) (allC (g.kit 402) (allC (g.kit 401) allN))))))))))))))))))))))))) (g.err 12).kit (me_var 0)) (ma_cons (me_isX rfl (g.free 7) rfl (g.glo 31) (allC (g.err 25).i (allC (g.err 5).i (allC (g.err 4).i (allC (g.err 3).i (allC (g.err 2).i (allC (g.err 0).i (allC (g.err 10).i (allC (g.err 9).i (allC (g.err 8).i (allC (g.err 7).i (allC (g.err 6).i (allC (g.err 15).i (allC (g.err 14).i (allC (g.err 13).i (allC (g.err 12).i (allC (g.err 11).i (allC (g.err 20).i (allC (g.err 19).i (allC (g.err 18).i (allC (g.err 17).i (allC (g.err 16).i (allC (g.err 24).i (allC (g.err 23).i (allC (g.err 22).i (allC (g.err 21).i allN))))))))))))))))))))))))) (allC (g.kit 400) (allC (g.kit 399) (allC (g.kit 398) (allC (g.kit 397) (allC (g.kit 396) (allC (g.kit 395) (allC (g.kit 394) (allC (g.kit 393) (allC (g.kit 392) (allC (g.kit 391) (allC (g.kit 390) (allC (g.kit 389) (allC (g.kit 388) (allC (g.kit 387) (allC (g.kit 386) (allC (g.kit 385) (allC (g.kit 384) (allC (g.kit 383) (allC (g.kit 382) (allC (g.kit 381) (allC (g.kit 380) (allC (g.kit 379) (allC (g.kit 378) (allC (g.kit 377) (allC (g.kit 376) allN))))))))))))))))))))))))) (g.err 11).kit (me_var 0)) ma_nil))))) ma_nil)))
  (mss_cons (ms_expr (me_ext2 (me_var 1) (ma_cons (me_lst (ml_lst (ma_cons (me_isX rfl (g.free 7) rfl (g.glo 40) (allC (g.err 25).i (allC (g.err 5).i (allC (g.err 4).i (allC (g.err 3).i (allC (g.err 2).i (allC (g.err 0).i (allC (g.err 10).i (allC (g.err 9).i (allC (g.err 8).i (allC (g.err 7).i (allC (g.err 6).i (allC (g.err 15).i (allC (g.err 14).i (allC (g.err 13).i (allC (g.err 12).i (allC (g.err 11).i (allC (g.err 20).i (allC (g.err 19).i (allC (g.err 18).i (allC (g.err 17).i (allC (g.err 16).i (allC (g.err 24).i (allC (g.err 23).i (allC (g.err 22).i (allC (g.err 21).i allN))))))))))))))))))))))))) (allC (g.kit 525) (allC (g.kit 524) (allC (g.kit 523) (allC (g.kit 522) (allC (g.kit 521) (allC (g.kit 520) (allC (g.kit 519) (allC (g.kit 518) (allC (g.kit 517) (allC (g.kit 516) (allC (g.kit 515) (allC (g.kit 514) (allC (g.kit 513) (allC (g.kit 512) (allC (g.kit 511) (allC (g.kit 510) (allC (g.kit 509) (allC (g.kit 508) (allC (g.kit 507) (allC (g.kit 506) (allC (g.kit 505) (allC (g.kit 504) (allC (g.kit 503) (allC (g.kit 502) (allC (g.kit 501) allN))))))))))))))))))))))))) (g.err 20).kit (me_var 0)) (ma_cons (me_isX rfl (g.free 7) rfl (g.glo 39) (allC (g.err 25).i (allC (g.err 5).i (allC (g.err 4).i (allC (g.err 3).i (allC (g.err 2).i (allC (g.err 0).i (allC (g.err 10).i (allC (g.err 9).i (allC (g.err 8).i (allC (g.err 7).i (allC (g.err 6).i (allC (g.err 15).i (allC (g.err 14).i (allC (g.err 13).i (allC (g.err 12).i (allC (g.err 11).i (allC (g.err 20).i (allC (g.err 19).i (allC (g.err 18).i (allC (g.err 17).i (allC (g.err 16).i (allC (g.err 24).i (allC (g.err 23).i (allC (g.err 22).i (allC (g.err 21).i allN))))))))))))))))))))))))) (allC (g.kit 500) (allC (g.kit 499) (allC (g.kit 498) (allC (g.kit 497) (allC (g.kit 496) (allC (g.kit 495) (allC (g.kit 494) (allC (g.kit 493) (allC (g.kit 492) (allC (g.kit 491) (allC (g.kit 490) (allC (g.kit 489) (allC (g.kit 488) (allC (g.kit 487) (allC (g.kit 486) (allC (g.kit 485) (allC (g.kit 484) (allC (g.kit 483) (allC (g.kit 482) (allC (g.kit 481) (allC (g.kit 480) (allC (g.kit 479) (allC (g.kit 478) (allC (g.kit 477) (allC (g.kit 476) allN))))))))))))))))))))))))) (g.err 19).kit (me_var 0)) (ma_cons (me_isX rfl (g.free 7) rfl (g.glo 38) (allC (g.err 25).i (allC (g.err 5).i (allC (g.err 4).i (allC (g.err 3).i (allC (g.err 2).i (allC (g.err 0).i (allC (g.err 10).i (allC (g.err 9).i (allC (g.err 8).i (allC (g.err 7).i (allC (g.err 6).i (allC (g.err 15).i (allC (g.err 14).i (allC (g.err 13).i (allC (g.err 12).i (allC (g.err 11).i (allC (g.err 20).i (allC (g.err 19).i (allC (g.err 18).i (allC (g.err 17).i (allC (g.err 16).i (allC (g.err 24).i (allC (g.err 23).i (allC (g.err 22).i (allC (g.err 21).i allN))))))))))))))))))))))))) (allC (g.kit 475) (allC (g.kit 474) (allC (g.kit 473) (allC (g.kit 472) (allC (g.kit 471) (allC (g.kit 470) (allC (g.kit 469) (allC (g.kit 468) (allC (g.kit 467) (allC (g.kit 466) (allC (g.kit 465) (allC (g.kit 464) (allC (g.kit 463) (allC (g.kit 462) (allC (g.kit 461) (allC (g.kit 460) (allC (g.kit 459) (allC (g.kit 458) (allC (g.kit 457) (allC (g.kit 456) (allC (g.kit 455) (allC (g.kit 454) (allC (g.kit 453) (allC (g.kit 452) (allC (g.kit 451) allN))))))))))))))))))))))))) (g.err 18).kit (me_var 0)) ma_nil))))) ma_nil)))
  (mss_cons (ms_expr (me_ext2 (me_var 1) (ma_cons (me_lst (ml_lst (ma_cons (me_isX rfl (g.free 7) rfl (g.glo 37) (allC (g.err 25).i (allC (g.err 5).i (allC (g.err 4).i (allC (g.err 3).i (allC (g.err 2).i (allC (g.err 0).i (allC (g.err 10).i (allC (g.err 9).i (allC (g.err 8).i (allC (g.err 7).i (allC (g.err 6).i (allC (g.err 15).i (allC (g.err 14).i (allC (g.err 13).i (allC (g.err 12).i (allC (g.err 11).i (allC (g.err 20).i (allC (g.err 19).i (allC (g.err 18).i (allC (g.err 17).i (allC (g.err 16).i (allC (g.err 24).i (allC (g.err 23).i (allC (g.err 22).i (allC (g.err 21).i allN))))))))))))))))))))))))) (allC (g.kit 575) (allC (g.kit 574) (allC (g.kit 573) (allC (g.kit 572) (allC (g.kit 571) (allC (g.kit 570) (allC (g.kit 569) (allC (g.kit 568) (allC (g.kit 567) (allC (g.kit 566) (allC (g.kit 565) (allC (g.kit 564) (allC (g.kit 563) (allC (g.kit 562) (allC (g.kit 561) (allC (g.kit 560) (allC (g.kit 559) (allC (g.kit 558) (allC (g.kit 557) (allC (g.kit 556) (allC (g.kit 555) (allC (g.kit 554) (allC (g.kit 553) (allC (g.kit 552) (allC (g.kit 551) allN))))))))))))))))))))))))) (g.err 17).kit (me_var 0)) (ma_cons (me_isX rfl (g.free 7) rfl (g.glo 36) (allC (g.err 25).i (allC (g.err 5).i (allC (g.err 4).i (allC (g.err 3).i (allC (g.err 2).i (allC (g.err 0).i (allC (g.err 10).i (allC (g.err 9).i (allC (g.err 8).i (allC (g.err 7).i (allC (g.err 6).i (allC (g.err 15).i (allC (g.err 14).i (allC (g.err 13).i (allC (g.err 12).i (allC (g.err 11).i (allC (g.err 20).i (allC (g.err 19).i (allC (g.err 18).i (allC (g.err 17).i (allC (g.err 16).i (allC (g.err 24).i (allC (g.err 23).i (allC (g.err 22).i (allC (g.err 21).i allN))))))))))))))))))))))))) (allC (g.kit 550) (allC (g.kit 549) (allC (g.kit 548) (allC (g.kit 547) (allC (g.kit 546) (allC (g.kit 545) (allC (g.kit 544) (allC (g.kit 543) (allC (g.kit 542) (allC (g.kit 541) (allC (g.kit 540) (allC (g.kit 539) (allC (g.kit 538) (allC (g.kit 537) (allC (g.kit 536) (allC (g.kit 535) (allC (g.kit 534) (allC (g.kit 533) (allC (g.kit 532) (allC (g.kit 531) (allC (g.kit 530) (allC (g.kit 529) (allC (g.kit 528) (allC (g.kit 527) (allC (g.kit 526) allN))))))))))))))))))))))))) (g.err 16).kit (me_var 0)) ma_nil)))) ma_nil)))
  (mss_cons (ms_expr (me_ext2 (me_var 1) (ma_cons (me_lst (ml_lst (ma_cons (me_isX rfl (g.free 7) rfl (g.glo 44) (allC (g.err 25).i (allC (g.err 5).i (allC (g.err 4).i (allC (g.err 3).i (allC (g.err 2).i (allC (g.err 0).i (allC (g.err 10).i (allC (g.err 9).i (allC (g.err 8).i (allC (g.err 7).i (allC (g.err 6).i (allC (g.err 15).i (allC (g.err 14).i (allC (g.err 13).i (allC (g.err 12).i (allC (g.err 11).i (allC (g.err 20).i (allC (g.err 19).i (allC (g.err 18).i (allC (g.err 17).i (allC (g.err 16).i (allC (g.err 24).i (allC (g.err 23).i (allC (g.err 22).i (allC (g.err 21).i allN))))))))))))))))))))))))) (allC (g.kit 625) (allC (g.kit 624) (allC (g.kit 623) (allC (g.kit 622) (allC (g.kit 621) (allC (g.kit 620) (allC (g.kit 619) (allC (g.kit 618) (allC (g.kit 617) (allC (g.kit 616) (allC (g.kit 615) (allC (g.kit 614) (allC (g.kit 613) (allC (g.kit 612) (allC (g.kit 611) (allC (g.kit 610) (allC (g.kit 609) (allC (g.kit 608) (allC (g.kit 607) (allC (g.kit 606) (allC (g.kit 605) (allC (g.kit 604) (allC (g.kit 603) (allC (g.kit 602) (allC (g.kit 601) allN))))))))))))))))))))))))) (g.err 24).kit (me_var 0)) (ma_cons (me_isX rfl (g.free 7) rfl (g.glo 43) (allC (g.err 25).i (allC (g.err 5).i (allC (g.err 4).i (allC (g.err 3).i (allC (g.err 2).i (allC (g.err 0).i (allC (g.err 10).i (allC (g.err 9).i (allC (g.err 8).i (allC (g.err 7).i (allC (g.err 6).i (allC (g.err 15).i (allC (g.err 14).i (allC (g.err 13).i (allC (g.err 12).i (allC (g.err 11).i (allC (g.err 20).i (allC (g.err 19).i (allC (g.err 18).i (allC (g.err 17).i (allC (g.err 16).i (allC (g.err 24).i (allC (g.err 23).i (allC (g.err 22).i (allC (g.err 21).i allN))))))))))))))))))))))))) (allC (g.kit 600) (allC (g.kit 599) (allC (g.kit 598) (allC (g.kit 597) (allC (g.kit 596) (allC (g.kit 595) (allC (g.kit 594) (allC (g.kit 593) (allC (g.kit 592) (allC (g.kit 591) (allC (g.kit 590) (allC (g.kit 589) (allC (g.kit 588) (allC (g.kit 587) (allC (g.kit 586) (allC (g.kit 585) (allC (g.kit 584) (allC (g.kit 583) (allC (g.kit 582) (allC (g.kit 581) (allC (g.kit 580) (allC (g.kit 579) (allC (g.kit 578) (allC (g.kit 577) (allC (g.kit 576) allN))))))))))))))))))))))))) (g.err 23).kit (me_var 0)) ma_nil)))) ma_nil)))
  (mss_cons (ms_expr (me_ext2 (me_var 1) (ma_cons (me_lst (ml_lst (ma_cons (me_isX rfl (g.free 7) rfl (g.glo 42) (allC (g.err 25).i (allC (g.err 5).i (allC (g.err 4).i (allC (g.err 3).i (allC (g.err 2).i (allC (g.err 0).i (allC (g.err 10).i (allC (g.err 9).i (allC (g.err 8).i (allC (g.err 7).i (allC (g.err 6).i (allC (g.err 15).i (allC (g.err 14).i (allC (g.err 13).i (allC (g.err 12).i (allC (g.err 11).i (allC (g.err 20).i (allC (g.err 19).i (allC (g.err 18).i (allC (g.err 17).i (allC (g.err 16).i (allC (g.err 24).i (allC (g.err 23).i (allC (g.err 22).i (allC (g.err 21).i allN))))))))))))))))))))))))) (allC (g.kit 675) (allC (g.kit 674) (allC (g.kit 673) (allC (g.kit 672) (allC (g.kit 671) (allC (g.kit 670) (allC (g.kit 669) (allC (g.kit 668) (allC (g.kit 667) (allC (g.kit 666) (allC (g.kit 665) (allC (g.kit 664) (allC (g.kit 663) (allC (g.kit 662) (allC (g.kit 661) (allC (g.kit 660) (allC (g.kit 659) (allC (g.kit 658) (allC (g.kit 657) (allC (g.kit 656) (allC (g.kit 655) (allC (g.kit 654) (allC (g.kit 653) (allC (g.kit 652) (allC (g.kit 651) allN))))))))))))))))))))))))) (g.err 22).kit (me_var 0)) (ma_cons (me_isX rfl (g.free 7) rfl (g.glo 41) (allC (g.err 25).i (allC (g.err 5).i (allC (g.err 4).i (allC (g.err 3).i (allC (g.err 2).i (allC (g.err 0).i (allC (g.err 10).i (allC (g.err 9).i (allC (g.err 8).i (allC (g.err 7).i (allC (g.err 6).i (allC (g.err 15).i (allC (g.err 14).i (allC (g.err 13).i (allC (g.err 12).i (allC (g.err 11).i (allC (g.err 20).i (allC (g.err 19).i (allC (g.err 18).i (allC (g.err 17).i (allC (g.err 16).i (allC (g.err 24).i (allC (g.err 23).i (allC (g.err 22).i (allC (g.err 21).i allN))))))))))))))))))))))))) (allC (g.kit 650) (allC (g.kit 649) (allC (g.kit 648) (allC (g.kit 647) (allC (g.kit 646) (allC (g.kit 645) (allC (g.kit 644) (allC (g.kit 643) (allC (g.kit 642) (allC (g.kit 641) (allC (g.kit 640) (allC (g.kit 639) (allC (g.kit 638) (allC (g.kit 637) (allC (g.kit 636) (allC (g.kit 635) (allC (g.kit 634) (allC (g.kit 633) (allC (g.kit 632) (allC (g.kit 631) (allC (g.kit 630) (allC (g.kit 629) (allC (g.kit 628) (allC (g.kit 627) (allC (g.kit 626) allN))))))))))))))))))))))))) (g.err 21).kit (me_var 0)) ma_nil)))) ma_nil)))
  (mss_one (ms_ret (me_var 1))))))))))))
theorem sc_ulaw_marks : FnScope N_ulaw_marks ["_law_error"] (defScope s_ulaw_marks) := ⟨rfl, rfl, rfl, nd_ulaw_marks, rfl, by decide +kernel, by decide +kernel⟩
theorem fk_ulaw_marks (g : Gf fa fn ck K mg) : ∃ fd, FnOk P w K mg base (L2.CX P w) 1 ((fn.getD 6 dummyD).adr K) fd ["_law_error"] (spF K (omOf K ρ) 1 F_ulaw_marks) ∧ BndL K fd ["_law_error"] (omOf K ρ) [] := by
  obtain ⟨fd, F⟩ := g.def_ 6 (d := fn.getD 6 dummyD)
  exact ⟨fd, fnOk_of F sc_ulaw_marks (bs_ulaw_marks g), bndN F fun _ _ _ _ _ _ us hl => match us, hl with | [_], _ => rfl⟩
noncomputable def G_ulaw_marks : FF := scr F_ulaw_marks
theorem fkG_ulaw_marks (g : Gf fa fn ck K mg) : ∃ fd, FnOk P w K mg base (L2.CX P w) 1 ((fn.getD 6 dummyD).adr K) fd ["_law_error"] (spF K (omOf K ρ) 1 G_ulaw_marks) ∧ BndL K fd ["_law_error"] (omOf K ρ) [] := let ⟨fd, ok, bd⟩ := fk_ulaw_marks g; ⟨fd, ok.imp fun _ _ _ _ h => spF_scr h, bd⟩
theorem fg_ulaw_marks (g : Gf fa fn ck K mg) : FnG P w K mg base (omOf K ρ) "_law_marks" 1 1 [] G_ulaw_marks := by
  obtain ⟨fd, ok, bd⟩ := fkG_ulaw_marks (P := P) (w := w) (base := base) (ρ := ρ) g
  exact gFn rfl (g.glo 51) (g.keep 52) ok bd
def b_ulaw_right : SF := (sSeq (sSet 1 (eFroz (eLst (aCons (eCall 1 G_ulaw_odd [] (aCons (eVar 0) aNil)) (aCons (eCall 1 G_ulaw_odd [] (aCons (eVar 0) aNil)) (aCons (eCall 2 G_ulaw_bent [] (aCons (eVar 0) (aCons (eTup (aCons (eC (.int 2)) (aCons (eTup (aCons (eC (.str [97])) (aCons (eC (.str [98])) aNil))) aNil))) aNil))) (aCons (eCall 2 G_ulaw_bent [] (aCons (eVar 0) (aCons (eTup (aCons (eTup (aCons (eC (.str [97])) aNil)) (aCons (eTup aNil) (aCons (eC (.int 3)) aNil)))) aNil))) aNil)))))))
  (sSeq (sFor (pName 2) (iSeqS (eVar 1)) (sSeq (sSet 3 (eCall 1 G_ulaw_errors [] (aCons (eVar 2) aNil)))
  (sSeq (sFor (pSeq 2 (psCons (pName 4) (psCons (pName 5) psNil))) (iFun enS (aCons (eVar 3) aNil)) (sSeq (sIf (tOr2 (tNot2 (tTru (eIsXb [0, 1, 2, 3, 4, 5, 6, 7, 8, 9, 10, 11, 12, 13, 14, 15, 16, 17, 18, 19, 20, 21, 22, 23, 24] true (eVar 5)))) (tNot2 (tTru (eIsXb [0, 1, 2, 3, 4, 5, 6, 7, 8, 9, 10, 11, 12, 13, 14, 15, 16, 17, 18, 19, 20, 21, 22, 23, 24] true (eVar 5))))) (sRet (eC (.bl false))) sNil)
  (sSeq (sSet 6 (eFroz (eLc (List.map (·.2) ([("_law_place", 8)] : List (Str × Nat))) (pName 8) (iFun rg1 (aCons (eBi bLen (aCons (eVar 3) aNil)) aNil)) tTrue (eOp opEq (eVar 4) (eVar 8)))))
  (sIf (tOr2 (tVal (eReprEqD true (eXv [0, 1, 2, 3, 4, 5, 6, 7, 8, 9, 10, 11, 12, 13, 14, 15, 16, 17, 18, 19, 20, 21, 22, 23, 24] (eVar 5)) (eVar 2))) (tVal (eOp opNe (eCall 1 G_ulaw_marks [] (aCons (eVar 5) aNil)) (eVar 6)))) (sRet (eC (.bl false))) sNil))))
  (sSeq (sSet 7 (eMkX 0 (eVar 2)))
  (sIf (tOr2 (tVal (eReprEqD true (eXv [0, 1, 2, 3, 4, 5, 6, 7, 8, 9, 10, 11, 12, 13, 14, 15, 16, 17, 18, 19, 20, 21, 22, 23, 24] (eVar 7)) (eVar 2))) (tOr2 (tVal (eOp opIn (eC (.bl true)) (eCall 1 G_ulaw_marks [] (aCons (eVar 7) aNil)))) (tNot2 (tTru (eIsXb [0, 1, 2, 3, 4, 5, 6, 7, 8, 9, 10, 11, 12, 13, 14, 15, 16, 17, 18, 19, 20, 21, 22, 23, 24] true (eVar 7)))))) (sRet (eC (.bl false))) sNil)))))
  (sRet (eC (.bl true)))))
def F_ulaw_right : FF := runB 9 b_ulaw_right
abbrev N_ulaw_right : List Str := ["_law_pot_here", "_law_values", "_law_value", "_law_errors_here", "_law_at", "_law_error", "_law_marks_here", "_law_bare", "_law_place"]
theorem nd_ulaw_right : (N_ulaw_right).Nodup := by decide +kernel
theorem bs_ulaw_right (g : Gf fa fn ck K mg) : BodyQ P w K mg base (omOf K ρ) 10 N_ulaw_right (defScope s_ulaw_right) (defBody s_ulaw_right) b_ulaw_right := fun qual f cdv A outer s H E hr hgd => (mss_cons (ms_set nd_ulaw_right rfl (Or.inl rfl) (me_lst (ml_lst (ma_cons (me_call 0 (fg_ulaw_odd g) (hr.mono (by decide)) (takes_of rfl rfl rfl rfl) rfl (ma_cons (me_var 0) ma_nil)) (ma_cons (me_call 0 (fg_ulaw_odd g) (hr.mono (by decide)) (takes_of rfl rfl rfl rfl) rfl (ma_cons (me_var 0) ma_nil)) (ma_cons (me_call 0 (fg_ulaw_bent g) (hr.mono (by decide)) (takes_of rfl rfl rfl rfl) rfl (ma_cons (me_var 0) (ma_cons (me_tup (ma_cons me_int (ma_cons (me_tup (ma_cons me_str (ma_cons me_str ma_nil))) ma_nil))) ma_nil))) (ma_cons (me_call 0 (fg_ulaw_bent g) (hr.mono (by decide)) (takes_of rfl rfl rfl rfl) rfl (ma_cons (me_var 0) (ma_cons (me_tup (ma_cons (me_tup (ma_cons me_str ma_nil)) (ma_cons (me_tup ma_nil) (ma_cons me_int ma_nil)))) ma_nil))) ma_nil)))))))
  (mss_cons (ms_for (passes_of rfl) rfl (mi_seqS (me_var 1)) (pat_name 2) (pg_name nd_ulaw_right rfl (Or.inl rfl)) (mss_cons (ms_set nd_ulaw_right rfl (Or.inl rfl) (me_call 0 (fg_ulaw_errors g) (hr.mono (by decide)) (takes_of rfl rfl rfl rfl) rfl (ma_cons (me_var 2) ma_nil)))
  (mss_cons (ms_for (passes_of rfl) rfl (mi_enumS rfl (g.free 47) (ma_cons (me_var 3) ma_nil)) (pat_seq (n := 2) (pats_cons (pat_name 4) (pats_cons (pat_name 5) pats_nil))) (pg_seq (n := 2) rfl (pgs_cons (pg_name nd_ulaw_right rfl (Or.inr rfl)) (pgs_cons (pg_name nd_ulaw_right rfl (Or.inl rfl)) pgs_nil))) (mss_cons (ms_if (mt_w (mw_or (mt_not (mt_tru (me_isXu (c := 0) rfl (g.free 7) rfl (g.glo 48) (allC (g.err 25).i (allC (g.err 5).i (allC (g.err 4).i (allC (g.err 3).i (allC (g.err 2).i (allC (g.err 0).i (allC (g.err 10).i (allC (g.err 9).i (allC (g.err 8).i (allC (g.err 7).i (allC (g.err 6).i (allC (g.err 15).i (allC (g.err 14).i (allC (g.err 13).i (allC (g.err 12).i (allC (g.err 11).i (allC (g.err 20).i (allC (g.err 19).i (allC (g.err 18).i (allC (g.err 17).i (allC (g.err 16).i (allC (g.err 24).i (allC (g.err 23).i (allC (g.err 22).i (allC (g.err 21).i allN))))))))))))))))))))))))) (allC (g.kit 50) (allC (g.kit 49) (allC (g.kit 48) (allC (g.kit 47) (allC (g.kit 46) (allC (g.kit 45) (allC (g.kit 44) (allC (g.kit 43) (allC (g.kit 42) (allC (g.kit 41) (allC (g.kit 40) (allC (g.kit 39) (allC (g.kit 38) (allC (g.kit 37) (allC (g.kit 36) (allC (g.kit 35) (allC (g.kit 34) (allC (g.kit 33) (allC (g.kit 32) (allC (g.kit 31) (allC (g.kit 30) (allC (g.kit 29) (allC (g.kit 28) (allC (g.kit 27) (allC (g.kit 26) allN))))))))))))))))))))))))) (me_var 5)))) (mw_or1 (mt_not (mt_tru (me_isXt (n := "ValueError") rfl (g.free 7) rfl (g.free 49) (by decide +kernel) (allC (g.err 25).i (allC (g.err 5).i (allC (g.err 4).i (allC (g.err 3).i (allC (g.err 2).i (allC (g.err 0).i (allC (g.err 10).i (allC (g.err 9).i (allC (g.err 8).i (allC (g.err 7).i (allC (g.err 6).i (allC (g.err 15).i (allC (g.err 14).i (allC (g.err 13).i (allC (g.err 12).i (allC (g.err 11).i (allC (g.err 20).i (allC (g.err 19).i (allC (g.err 18).i (allC (g.err 17).i (allC (g.err 16).i (allC (g.err 24).i (allC (g.err 23).i (allC (g.err 22).i (allC (g.err 21).i allN))))))))))))))))))))))))) (allC (of_decide_eq_true (g.says.chk 75 rfl)) (allC (of_decide_eq_true (g.says.chk 74 rfl)) (allC (of_decide_eq_true (g.says.chk 73 rfl)) (allC (of_decide_eq_true (g.says.chk 72 rfl)) (allC (of_decide_eq_true (g.says.chk 71 rfl)) (allC (of_decide_eq_true (g.says.chk 70 rfl)) (allC (of_decide_eq_true (g.says.chk 69 rfl)) (allC (of_decide_eq_true (g.says.chk 68 rfl)) (allC (of_decide_eq_true (g.says.chk 67 rfl)) (allC (of_decide_eq_true (g.says.chk 66 rfl)) (allC (of_decide_eq_true (g.says.chk 65 rfl)) (allC (of_decide_eq_true (g.says.chk 64 rfl)) (allC (of_decide_eq_true (g.says.chk 63 rfl)) (allC (of_decide_eq_true (g.says.chk 62 rfl)) (allC (of_decide_eq_true (g.says.chk 61 rfl)) (allC (of_decide_eq_true (g.says.chk 60 rfl)) (allC (of_decide_eq_true (g.says.chk 59 rfl)) (allC (of_decide_eq_true (g.says.chk 58 rfl)) (allC (of_decide_eq_true (g.says.chk 57 rfl)) (allC (of_decide_eq_true (g.says.chk 56 rfl)) (allC (of_decide_eq_true (g.says.chk 55 rfl)) (allC (of_decide_eq_true (g.says.chk 54 rfl)) (allC (of_decide_eq_true (g.says.chk 53 rfl)) (allC (of_decide_eq_true (g.says.chk 52 rfl)) (allC (of_decide_eq_true (g.says.chk 51 rfl)) allN))))))))))))))))))))))))) (me_var 5))))))) (mss_one (ms_ret me_bl)) mss_nil)
  (mss_cons (ms_lcF rfl nd_ulaw_right rfl rfl (mi_range1 rfl (g.free 4) (ma_cons (me_callB call_len2 bLen_ok rfl (g.free 0) (by decide +kernel) (ma_cons (me_var 3) ma_nil)) ma_nil)) (own := [("_law_place", 8)]) (blkOk (N := N_ulaw_right) (sc := defScope s_ulaw_right) (by decide +kernel)) (pat_name 8) (by decide +kernel) (fun _ _ _ _ _ => (pg_name nd_ulaw_right rfl (Or.inl rfl))) (fun _ _ _ _ _ => mts_nil) (fun _ _ _ _ _ => (me_cmp (op_eqD (un64 hr)) opEq_ok (me_var 4) (me_var 8) (nomark _))))
  (mss_one (ms_if (mt_w (mw_or (mt_reprDNe hgd (un65 hr) rfl (g.free 50) (me_xv (allC (g.err 25).i (allC (g.err 5).i (allC (g.err 4).i (allC (g.err 3).i (allC (g.err 2).i (allC (g.err 0).i (allC (g.err 10).i (allC (g.err 9).i (allC (g.err 8).i (allC (g.err 7).i (allC (g.err 6).i (allC (g.err 15).i (allC (g.err 14).i (allC (g.err 13).i (allC (g.err 12).i (allC (g.err 11).i (allC (g.err 20).i (allC (g.err 19).i (allC (g.err 18).i (allC (g.err 17).i (allC (g.err 16).i (allC (g.err 24).i (allC (g.err 23).i (allC (g.err 22).i (allC (g.err 21).i allN))))))))))))))))))))))))) (me_var 5)) (me_var 2) rfl rfl rfl rfl (nomark _)) (mw_or1 (mt_cmp (op_neD (un64 hr)) opNe_ok (me_call 0 (fg_ulaw_marks g) (hr.mono (by decide)) (takes_of rfl rfl rfl rfl) rfl (ma_cons (me_var 5) ma_nil)) (me_var 6) (nomark _))))) (mss_one (ms_ret me_bl)) mss_nil)))))
  (mss_cons (ms_set nd_ulaw_right rfl (Or.inl rfl) (me_mkX (g.xcG 25 1 48 21 (c := 0) rfl) (hr.mono (by decide)) rfl (me_var 2)))
  (mss_one (ms_if (mt_w (mw_or (mt_reprDNe hgd (un65 hr) rfl (g.free 50) (me_xv (allC (g.err 25).i (allC (g.err 5).i (allC (g.err 4).i (allC (g.err 3).i (allC (g.err 2).i (allC (g.err 0).i (allC (g.err 10).i (allC (g.err 9).i (allC (g.err 8).i (allC (g.err 7).i (allC (g.err 6).i (allC (g.err 15).i (allC (g.err 14).i (allC (g.err 13).i (allC (g.err 12).i (allC (g.err 11).i (allC (g.err 20).i (allC (g.err 19).i (allC (g.err 18).i (allC (g.err 17).i (allC (g.err 16).i (allC (g.err 24).i (allC (g.err 23).i (allC (g.err 22).i (allC (g.err 21).i allN))))))))))))))))))))))))) (me_var 7)) (me_var 2) rfl rfl rfl rfl (nomark _)) (mw_or (mt_cmp (op_in2 (un65 hr)) opIn_ok me_bl (me_call 0 (fg_ulaw_marks g) (hr.mono (by decide)) (takes_of rfl rfl rfl rfl) rfl (ma_cons (me_var 7) ma_nil))) (mw_or1 (mt_not (mt_tru (me_isXt (n := "ValueError") rfl (g.free 7) rfl (g.free 49) (by decide +kernel) (allC (g.err 25).i (allC (g.err 5).i (allC (g.err 4).i (allC (g.err 3).i (allC (g.err 2).i (allC (g.err 0).i (allC (g.err 10).i (allC (g.err 9).i (allC (g.err 8).i (allC (g.err 7).i (allC (g.err 6).i (allC (g.err 15).i (allC (g.err 14).i (allC (g.err 13).i (allC (g.err 12).i (allC (g.err 11).i (allC (g.err 20).i (allC (g.err 19).i (allC (g.err 18).i (allC (g.err 17).i (allC (g.err 16).i (allC (g.err 24).i (allC (g.err 23).i (allC (g.err 22).i (allC (g.err 21).i allN))))))))))))))))))))))))) (allC (of_decide_eq_true (g.says.chk 75 rfl)) (allC (of_decide_eq_true (g.says.chk 74 rfl)) (allC (of_decide_eq_true (g.says.chk 73 rfl)) (allC (of_decide_eq_true (g.says.chk 72 rfl)) (allC (of_decide_eq_true (g.says.chk 71 rfl)) (allC (of_decide_eq_true (g.says.chk 70 rfl)) (allC (of_decide_eq_true (g.says.chk 69 rfl)) (allC (of_decide_eq_true (g.says.chk 68 rfl)) (allC (of_decide_eq_true (g.says.chk 67 rfl)) (allC (of_decide_eq_true (g.says.chk 66 rfl)) (allC (of_decide_eq_true (g.says.chk 65 rfl)) (allC (of_decide_eq_true (g.says.chk 64 rfl)) (allC (of_decide_eq_true (g.says.chk 63 rfl)) (allC (of_decide_eq_true (g.says.chk 62 rfl)) (allC (of_decide_eq_true (g.says.chk 61 rfl)) (allC (of_decide_eq_true (g.says.chk 60 rfl)) (allC (of_decide_eq_true (g.says.chk 59 rfl)) (allC (of_decide_eq_true (g.says.chk 58 rfl)) (allC (of_decide_eq_true (g.says.chk 57 rfl)) (allC (of_decide_eq_true (g.says.chk 56 rfl)) (allC (of_decide_eq_true (g.says.chk 55 rfl)) (allC (of_decide_eq_true (g.says.chk 54 rfl)) (allC (of_decide_eq_true (g.says.chk 53 rfl)) (allC (of_decide_eq_true (g.says.chk 52 rfl)) (allC (of_decide_eq_true (g.says.chk 51 rfl)) allN))))))))))))))))))))))))) (me_var 7)))))))) (mss_one (ms_ret me_bl)) mss_nil))))))
  (mss_one (ms_ret me_bl))))
theorem sc_ulaw_right : FnScope N_ulaw_right ["_law_pot_here"] (defScope s_ulaw_right) := ⟨rfl, rfl, rfl, nd_ulaw_right, rfl, by decide +kernel, by decide +kernel⟩
theorem fk_ulaw_right (g : Gf fa fn ck K mg) : ∃ fd, FnQ P w K mg base (L2.CX P w) 11 ((fn.getD 7 dummyD).adr K) fd ["_law_pot_here"] (spF K (omOf K ρ) 1 F_ulaw_right) ∧ BndL K fd ["_law_pot_here"] (omOf K ρ) [] := by
  obtain ⟨fd, F⟩ := g.def_ 7 (d := fn.getD 7 dummyD)
  exact ⟨fd, fnQ_of F sc_ulaw_right (bs_ulaw_right g), bndN F fun _ _ _ _ _ _ us hl => match us, hl with | [_], _ => rfl⟩
noncomputable def G_ulaw_right : FF := scr F_ulaw_right
theorem fkG_ulaw_right (g : Gf fa fn ck K mg) : ∃ fd, FnQ P w K mg base (L2.CX P w) 11 ((fn.getD 7 dummyD).adr K) fd ["_law_pot_here"] (spF K (omOf K ρ) 1 G_ulaw_right) ∧ BndL K fd ["_law_pot_here"] (omOf K ρ) [] := let ⟨fd, ok, bd⟩ := fk_ulaw_right g; ⟨fd, ok.imp fun _ _ _ _ h => spF_scr h, bd⟩
theorem fg_ulaw_right (g : Gf fa fn ck K mg) : FnGQ P w K mg base (omOf K ρ) "_law_right" 11 1 [] G_ulaw_right := by
  obtain ⟨fd, ok, bd⟩ := fkG_ulaw_right (P := P) (w := w) (base := base) (ρ := ρ) g
  exact gFnQ rfl (g.glo 53) (g.keep 54) ok bd
def b_ulaw_pot : SF := (sSeq (sSet 2 (eIf (tVal (eOp opLt (eVar 1) (eBi bLen (aCons (eVar 0) aNil)))) (eOp opIx (eVar 0) (eVar 1)) (eOp opPlus (eOp opTimes (eC (.int 1)) (eVar 1)) (eC (.int 3)))))
  (sSeq (sSet 3 (eOp opTimes (eOp opMod (eBi bInt (aCons (eBi bAbs (aCons (eVar 2) aNil)) aNil)) (eOp opPow (eOp opPow (eC (.int 10)) (eC (.int 60))) (eC (.int 5)))) (eBi bInt (aCons (eOp opGe (eBi bAbs (aCons (eVar 2) aNil)) (eOp opPow (eC (.int 10)) (eC (.int 18)))) aNil))))
  (sSeq (sSet 4 (eOp opMod (eBi bInt (aCons (eVar 2) aNil)) (eC (.int 2305843009213693951))))
  (sRet (eNewL (eLst (aCons (eVar 3) (aCons (eOp opMod (eBi bInt (aCons (eOp opPlus (eOp opPlus (eOp opTimes (eVar 4) (eC (.int 78317))) (eOp opTimes (eOp opTimes (eC (.int 9007)) (eVar 1)) (eVar 1))) (eC (.int 229))) aNil)) (eC (.int 2305843009213693921))) (aCons (eC (.int 0)) aNil)))))))))
def F_ulaw_pot : FF := runB 5 b_ulaw_pot
abbrev N_ulaw_pot : List Str := ["_law_script", "_law_k", "_law_cell", "_law_first", "_law_small"]
theorem nd_ulaw_pot : (N_ulaw_pot).Nodup := by decide +kernel
theorem bs_ulaw_pot (g : Gf fa fn ck K mg) : BodyS P w K mg base (omOf K ρ) 0 N_ulaw_pot (defScope s_ulaw_pot) (defBody s_ulaw_pot) b_ulaw_pot := fun qual f cdv A outer s H E hr => (mss_cons (ms_set nd_ulaw_pot rfl (Or.inl rfl) (me_if (mt_cmp op_lt opLt_ok (me_var 1) (me_callB call_len2 bLen_ok rfl (g.free 0) (by decide +kernel) (ma_cons (me_var 0) ma_nil)) (nomark _)) (me_ix (me_var 0) (me_var 1)) (me_bin op_plus opPlus_ok (me_bin op_times opTimes_ok me_int (me_var 1)) me_int)))
  (mss_cons (ms_set nd_ulaw_pot rfl (Or.inl rfl) (me_bin op_times opTimes_ok (me_bin op_mod opMod_ok (me_callTy call_int2 bInt_ok rfl (g.free 9) (by decide +kernel) (ma_cons (me_callB call_abs bAbs_ok rfl (g.free 55) (by decide +kernel) (ma_cons (me_var 2) ma_nil)) ma_nil)) (me_bin op_powW opPow_ok (me_bin op_powW opPow_ok me_int me_int) me_int)) (me_callTy call_int2 bInt_ok rfl (g.free 9) (by decide +kernel) (ma_cons (me_cmp op_ge opGe_ok (me_callB call_abs bAbs_ok rfl (g.free 55) (by decide +kernel) (ma_cons (me_var 2) ma_nil)) (me_bin op_powW opPow_ok me_int me_int) (nomark _)) ma_nil))))
  (mss_cons (ms_set nd_ulaw_pot rfl (Or.inl rfl) (me_bin op_mod opMod_ok (me_callTy call_int2 bInt_ok rfl (g.free 9) (by decide +kernel) (ma_cons (me_var 2) ma_nil)) me_int))
  (mss_one (ms_ret (me_newL (ml_lst (ma_cons (me_var 3) (ma_cons (me_bin op_mod opMod_ok (me_callTy call_int2 bInt_ok rfl (g.free 9) (by decide +kernel) (ma_cons (me_bin op_plus opPlus_ok (me_bin op_plus opPlus_ok (me_bin op_times opTimes_ok (me_var 4) me_int) (me_bin op_times opTimes_ok (me_bin op_times opTimes_ok me_int (me_var 1)) (me_var 1))) me_int) ma_nil)) me_int) (ma_cons me_int ma_nil))))))))))
theorem sc_ulaw_pot : FnScope N_ulaw_pot ["_law_script", "_law_k"] (defScope s_ulaw_pot) := ⟨rfl, rfl, rfl, nd_ulaw_pot, rfl, by decide +kernel, by decide +kernel⟩
theorem fk_ulaw_pot (g : Gf fa fn ck K mg) : ∃ fd, FnOk P w K mg base (L2.CX P w) 1 ((fn.getD 8 dummyD).adr K) fd ["_law_script", "_law_k"] (spF K (omOf K ρ) 2 F_ulaw_pot) ∧ BndL K fd ["_law_script", "_law_k"] (omOf K ρ) [] := by
  obtain ⟨fd, F⟩ := g.def_ 8 (d := fn.getD 8 dummyD)
  exact ⟨fd, fnOk_of F sc_ulaw_pot (bs_ulaw_pot g), bndN F fun _ _ _ _ _ _ us hl => match us, hl with | [_, _], _ => rfl⟩
theorem fg_ulaw_pot (g : Gf fa fn ck K mg) : FnG P w K mg base (omOf K ρ) "_law_pot" 1 2 [] F_ulaw_pot := by
  obtain ⟨fd, ok, bd⟩ := fk_ulaw_pot (P := P) (w := w) (base := base) (ρ := ρ) g
  exact gFn rfl (g.glo 56) (g.keep 57) ok bd
def b_law : SF := (sRet (eBi bAll (aCons (eFroz (eLc (List.map (·.2) ([("_law_place", 1)] : List (Str × Nat))) (pName 1) (iSeqS (eCall 2 G_ulaw_places [] (aCons (eVar 0) (aCons (eC (.int 4)) aNil)))) tTrue (eCall 1 G_ulaw_right [] (aCons (eCall 2 F_ulaw_pot [] (aCons (eVar 0) (aCons (eVar 1) aNil))) aNil)))) aNil)))
def F_law : FF := runB 2 b_law
abbrev N_law : List Str := ["_law_script", "_law_place"]
theorem nd_law : (N_law).Nodup := by decide +kernel
theorem bs_law (g : Gf fa fn ck K mg) : BodyQ P w K mg base (omOf K ρ) 11 N_law (defScope s_law) (defBody s_law) b_law := fun qual f cdv A outer s H E hr hgd => (mss_one (ms_ret (me_callB (cr_all rfl) bAll_ok rfl (g.free 58) (by decide +kernel) (ma_cons (me_lst (ml_lc rfl nd_law (mi_seqS (me_call 0 (fg_ulaw_places g) (hr.mono (by decide)) (takes_of rfl rfl rfl rfl) rfl (ma_cons (me_var 0) (ma_cons me_int ma_nil)))) (own := [("_law_place", 1)]) (blkOk (N := N_law) (sc := defScope s_law) (by decide +kernel)) (pat_name 1) (by decide +kernel) (fun _ _ _ _ _ => (pg_name nd_law rfl (Or.inl rfl))) (fun _ _ _ _ _ => mts_nil) (fun _ _ _ _ _ => (me_callQ 0 (fg_ulaw_right g) (hr.mono (by decide)) hgd Mi.takes0 rfl (ma_cons (me_call 0 (fg_ulaw_pot g) (hr.mono (by decide)) Mi.takes0 rfl (ma_cons (me_var 0) (ma_cons (me_var 1) ma_nil))) ma_nil))))) ma_nil))))
theorem sc_law : FnScope N_law ["_law_script"] (defScope s_law) := ⟨rfl, rfl, rfl, nd_law, rfl, by decide +kernel, by decide +kernel⟩
end
end K00
namespace K00
open PySem PySem.Spec PyProof.Rows L2 Mi
theorem take_ok : TakeOk G_ulaw_take := takeB_ok (c1 := 92003) (c2 := 3) (c3 := 10007) (c4 := 97) (c5 := 127) (by decide) (by decide) (by decide) (by decide) (by decide)
theorem of_ok : OfOk G_ulaw_of := ofB_ok take_ok
def oddA : List T := [.non, .bl true, .bl false, .int 0, .int 1, .int (-1), .int 41, .int 100000000, .str [], .str [97], .str [119, 111, 114, 107, 115], .tup [], .lst []]
def oddB : List T := [.tup [.tup []], .tup [.int 0], .tup [.str []], .lst [.int 0], .tup [.int 1, .int 0]]
def oddC : List T := [.tup [.str [97]], .tup [.str [97], .str [98]], .str [48], .tup [.tup [.str [97]], .tup []], .int 2, .tup [.int 2], .str [65], .tup [.str [97, 112, 97, 114, 116]], .tup [.tup [.int 0, .int 1]]]
def okV (t : T) : Bool := t.lo 0 && (shortD t && tsameD t t)
theorem odd_all : (oddA ++ T.dct false [] :: (oddB ++ oddC)).all okV = true := by decide +kernel
theorem odd_ok {M : Mem} {n : Nat} {p : P3} {k : Nat} (hn : n < M.length) (hb : Bud (k + 1) p) : ∃ (t : T) (q : P3), G_ulaw_odd [.loc n] (pm M n p) = .ok t (pm M n q) ∧ okV t = true ∧ Bud k q := by
  have hM : n < (M ++ [MO.dct false []]).length := by rw [List.length_append]; omega
  have hl : (pm M n p).length = M.length := pm_len
  have al := List.all_eq_true.mp odd_all
  have lo0 : ∀ x ∈ oddA ++ T.dct false [] :: (oddB ++ oddC), x.lo 0 = true := fun x hx => (Bool.and_eq_true_iff.mp (al x hx)).1
  obtain ⟨t, q, e, ht, hq⟩ := of_ok (M ++ [.dct false []]) n p k (oddA ++ T.loc M.length :: (oddB ++ oddC)) hM (by simp [oddA]) (by simp [oddA, oddB, oddC]) hb (fun x hx => by
    rcases List.mem_append.mp hx with h | h
    · exact T.lo_mono (Nat.zero_le _) (lo0 x (List.mem_append_left _ h))
    · rcases List.mem_cons.mp h with h | h
      · rw [h]; show decide (M.length < (M ++ [MO.dct false []]).length) = true; rw [List.length_append]; exact decide_eq_true (Nat.lt_succ_self _)
      · exact T.lo_mono (Nat.zero_le _) (lo0 x (List.mem_append_right _ (List.mem_cons_of_mem _ h))))
  rw [pm_app hn, pm_app hn] at e
  have e1 : runB 2 b_ulaw_odd [.loc n] (pm M n p) = .ok t (pm M n q ++ [.dct false []]) := by
    refine runB_rt (n := 2) (s := b_ulaw_odd) ?_
    show b_ulaw_odd [some (.loc n), none] (pm M n p) = _
    unfold b_ulaw_odd
    have s1 : ∀ M' : Mem, (eFroz (eLst (aCons (eC .non) (aCons (eC (.bl true)) (aCons (eC (.bl false)) (aCons (eC (.int 0)) (aCons (eC (.int 1)) (aCons (eNeg (eC (.int 1))) (aCons (eC (.int 41)) (aCons (eOp opPow (eC (.int 10)) (eC (.int 8))) (aCons (eC (.str [])) (aCons (eC (.str [97])) (aCons (eC (.str [119, 111, 114, 107, 115])) (aCons (eTup aNil) (aCons (eFroz (eLst aNil)) (aCons (eNewD false) (aCons (eTup (aCons (eTup aNil) aNil)) (aCons (eTup (aCons (eC (.int 0)) aNil)) (aCons (eTup (aCons (eC (.str [])) aNil)) (aCons (eFroz (eLst (aCons (eC (.int 0)) aNil))) (aCons (eTup (aCons (eC (.int 1)) (aCons (eC (.int 0)) aNil))) aNil))))))))))))))))))))) [some (.loc n), none] M' = .ok (.lst (oddA ++ T.loc M'.length :: oddB)) (M' ++ [.dct false []]) := fun M' => by kernel_rfl
    refine sSeq_nx (sSet_ok (s1 _)) (sRet_ok (eCall_ok (aCons_ok (eVar_ok rfl) (aCons_ok (t := .lst (oddA ++ T.loc M.length :: (oddB ++ oddC))) ?_ aNil_ok)) rfl e))
    rw [hl]
    kernel_rfl
  rcases List.mem_append.mp ht with h | h
  · exact ⟨t, q, scr_pm hn e1 (.same (T.lo_mono (Nat.zero_le _) (lo0 t (List.mem_append_left _ h)))), al t (List.mem_append_left _ h), hq⟩
  · rcases List.mem_cons.mp h with h | h
    · subst h
      exact ⟨.dct false [], q, scr_pm hn e1 (.dct (Nat.le_refl _) (by rw [List.getElem?_append_right (by rw [pm_len]; exact Nat.le_refl _), pm_len, Nat.sub_self]; rfl) .nil), by decide +kernel, hq⟩
    · exact ⟨t, q, scr_pm hn e1 (.same (T.lo_mono (Nat.zero_le _) (lo0 t (List.mem_append_right _ (List.mem_cons_of_mem _ h))))), al t (List.mem_append_right _ (List.mem_cons_of_mem _ h)), hq⟩
end K00
namespace K00
open PySem PySem.Spec PyProof.Rows L2 Mi
def lT : AF := (aCons (eFroz (eBiL bList (aCons (eVar 1) aNil))) (aCons (eSlice (eVar 1) (some (eC (.int 1))) none slT) (aCons (eSlice (eVar 1) none (some (eNeg (eC (.int 1)))) slT) (aCons (eOp opPlus (eVar 1) (eSlice (eVar 1) (some (eNeg (eC (.int 1)))) none slT)) (aCons (eAlt (eRevT (eVar 1)) (eRevS (eVar 1))) (aCons (eTup aNil) (aCons (eOp opPlus (eVar 1) (eTup (aCons (eC (.int 0)) aNil))) aNil)))))))
def lI : AF := (aCons (eOp opPlus (eVar 1) (eC (.int 1))) (aCons (eOp opSub (eVar 1) (eC (.int 1))) (aCons (eNeg (eVar 1)) (aCons (eOp opEq (eVar 1) (eC (.int 1))) (aCons (eC (.str [55])) (aCons (eC (.int 0)) (aCons (eC .non) (aCons (eOp opPlus (eVar 1) (eC (.int 60))) (aCons (eOp opSub (eVar 1) (eC (.int 60))) aNil)))))))))
def lS : AF := (aCons (eOp opPlus (eVar 1) (eC (.str [120]))) (aCons (eSlice (eVar 1) none (some (eNeg (eC (.int 1)))) slT) (aCons (eAlt (eRevT (eVar 1)) (eRevS (eVar 1))) (aCons (eC (.str [97, 115, 107])) (aCons (eC (.str [116, 101, 108, 108])) (aCons (eC (.str [98, 111, 116, 104])) (aCons (eC .non) (aCons (eC (.int 0)) (aCons (eFroz (eLst (aCons (eVar 1) aNil))) (aCons (eC (.str [104, 97, 110, 100])) aNil))))))))))
noncomputable def ofL (A : AF) : SF := sRet (eCall 2 G_ulaw_of [] (aCons (eVar 0) (aCons (eFroz (eLst A)) aNil)))
noncomputable def cT : TF := tAnd2 (tTru (eIsT "tuple" (eVar 1))) (tAnd2 (tVal (eOp opNe (eVar 1) (eTup aNil))) (tVal (eOp opGt (eCall 2 G_ulaw_take [] (aCons (eVar 0) (aCons (eC (.int 6)) aNil))) (eC (.int 0)))))
def pT (R : FF) : EF := eOp opPlus (eOp opPlus (eSlice (eVar 1) none (some (eVar 2)) slT) (eTup (aCons (eCall 2 R [] (aCons (eVar 0) (aCons (eOp opIx (eVar 1) (eVar 2)) aNil))) aNil))) (eSlice (eVar 1) (some (eOp opPlus (eVar 2) (eC (.int 1)))) none slT)
theorem bent_eq (R : FF) : b_ulaw_bent R = sSeq (sIf cT (sSeq (sSet 2 (eCall 2 G_ulaw_take [] (aCons (eVar 0) (aCons (eBi bLen (aCons (eVar 1) aNil)) aNil)))) (sRet (pT R))) sNil)
  (sSeq (sIf (tTru (eIsT "tuple" (eVar 1))) (ofL lT) sNil)
  (sSeq (sIf (tAnd2 (tTru (eIsT "int" (eVar 1))) (tNot2 (tTru (eIsT "bool" (eVar 1))))) (ofL lI) sNil)
  (sSeq (sIf (tTru (eIsT "str" (eVar 1))) (ofL lS) sNil) (sRet (eCall 1 G_ulaw_odd [] (aCons (eVar 0) aNil)))))) := rfl
def Bt (R : FF) (v : T) (b : Nat) (L : List T) : Prop := ∀ (M : Mem) (n : Nat) (p : P3) (k : Nat), n < M.length → Bud (k + b) p → ∃ (u : T) (q : P3), R [.loc n, v] (pm M n p) = .ok u (pm M n q) ∧ u ∈ L ∧ Bud k q
theorem ofL_ok {A : AF} {v : T} {L : List T} {x : Option T} (hA : ∀ (n : Nat) (M : Mem), A [some (.loc n), some v, none] M = .ok L M) (h1 : (decide (1 ≤ L.length) && decide (L.length ≤ 1000)) = true) (hlo : L.all (fun x => x.lo 0) = true) {M : Mem} {n : Nat} {p : P3} {k : Nat} (hn : n < M.length) (hb : Bud (k + 1) p) :
    ∃ (u : T) (q : P3), ofL A [some (.loc n), some v, none] (pm M n p) = some (.rt u, pm M n q) ∧ u ∈ L ∧ u.lo M.length = true ∧ Bud k q := by
  obtain ⟨h1, h2⟩ := Bool.and_eq_true_iff.mp h1
  have h1 := of_decide_eq_true h1
  have h2 := of_decide_eq_true h2
  have lo : ∀ x ∈ L, x.lo M.length = true := fun x hx => T.lo_mono (Nat.zero_le _) (List.all_eq_true.mp hlo x hx)
  obtain ⟨u, q, e, hu, hq⟩ := of_ok M n p k L hn h1 h2 hb lo
  exact ⟨u, q, sRet_ok (eCall_ok (aCons_ok (eVar_ok rfl) (aCons_ok (eFroz_ok (eLst_ok (hA n _) (decide_eq_true (by omega)))) aNil_ok)) rfl e), hu, lo u hu, hq⟩
theorem bt_of {d : Nat} {A : AF} {v : T} {L : List T} (hs : ∀ (n : Nat) (M M1 : Mem) (u : T), ofL A [some (.loc n), some v, none] M = some (.rt u, M1) → b_ulaw_bent (Fr_ulaw_bent d) [some (.loc n), some v, none] M = some (.rt u, M1))
    (hA : ∀ (n : Nat) (M : Mem), A [some (.loc n), some v, none] M = .ok L M) (h1 : (decide (1 ≤ L.length) && decide (L.length ≤ 1000)) = true) (hlo : L.all (fun x => x.lo 0) = true) : Bt (Fr_ulaw_bent (d + 1)) v 1 L := by
  intro M n p k hn hb
  obtain ⟨u, q, e, hu, hl, hq⟩ := ofL_ok (x := none) hA h1 hlo hn hb
  exact ⟨u, q, scr_pm0 hn (runB_rt (n := 3) (s := b_ulaw_bent (Fr_ulaw_bent d)) (hs n _ _ _ e)) hl, hu, hq⟩
def leafI (i : Int) : List T := [.int (i + 1), .int (i - 1), .int (-i), .bl false, .str [55], .int 0, .non, .int (i + 60), .int (i - 60)]
def leafS (x : List Nat) : List T := [.str (x ++ [120]), .str x.dropLast, .str x.reverse, .str [97, 115, 107], .str [116, 101, 108, 108], .str [98, 111, 116, 104], .non, .int 0, .lst [.str x], .str [104, 97, 110, 100]]
def leafT (xs : List T) : List T := [.lst xs, .tup (xs.drop 1), .tup xs.dropLast, .tup (xs ++ xs.drop (xs.length - 1)), .tup xs.reverse, .tup [], .tup (xs ++ [.int 0])]
theorem bt_2 (d : Nat) : Bt (Fr_ulaw_bent (d + 1)) (.int 2) 1 (leafI 2) := bt_of (A := lI) (fun n M M1 u h => by
  rw [bent_eq]
  exact sSeq_nx (sIf_f (M1 := M) rfl sNil_ok) (sSeq_nx (sIf_f (M1 := M) rfl sNil_ok) (sSeq_rt (sIf_t (M1 := M) rfl h)))) (fun n M => by kernel_rfl) (by decide +kernel) (by decide +kernel)
theorem bt_3 (d : Nat) : Bt (Fr_ulaw_bent (d + 1)) (.int 3) 1 (leafI 3) := bt_of (A := lI) (fun n M M1 u h => by
  rw [bent_eq]
  exact sSeq_nx (sIf_f (M1 := M) rfl sNil_ok) (sSeq_nx (sIf_f (M1 := M) rfl sNil_ok) (sSeq_rt (sIf_t (M1 := M) rfl h)))) (fun n M => by kernel_rfl) (by decide +kernel) (by decide +kernel)
theorem bt_a (d : Nat) : Bt (Fr_ulaw_bent (d + 1)) (.str [97]) 1 (leafS [97]) := bt_of (A := lS) (fun n M M1 u h => by
  rw [bent_eq]
  exact sSeq_nx (sIf_f (M1 := M) rfl sNil_ok) (sSeq_nx (sIf_f (M1 := M) rfl sNil_ok) (sSeq_nx (sIf_f (M1 := M) rfl sNil_ok) (sSeq_rt (sIf_t (M1 := M) rfl h))))) (fun n M => by kernel_rfl) (by decide +kernel) (by decide +kernel)
theorem bt_b (d : Nat) : Bt (Fr_ulaw_bent (d + 1)) (.str [98]) 1 (leafS [98]) := bt_of (A := lS) (fun n M M1 u h => by
  rw [bent_eq]
  exact sSeq_nx (sIf_f (M1 := M) rfl sNil_ok) (sSeq_nx (sIf_f (M1 := M) rfl sNil_ok) (sSeq_nx (sIf_f (M1 := M) rfl sNil_ok) (sSeq_rt (sIf_t (M1 := M) rfl h))))) (fun n M => by kernel_rfl) (by decide +kernel) (by decide +kernel)
theorem bt_nil (d : Nat) : Bt (Fr_ulaw_bent (d + 1)) (.tup []) 1 (leafT []) := bt_of (A := lT) (fun n M M1 u h => by
  rw [bent_eq]
  exact sSeq_nx (sIf_f (M1 := M) rfl sNil_ok) (sSeq_rt (sIf_t (M1 := M) rfl h))) (fun n M => by kernel_rfl) (by decide +kernel) (by decide +kernel)
theorem cut_lo {α : Type} (xs : List α) (i : Nat) (h : i < xs.length) : cutT xs none (some (i : Int)) = xs.take i := by
  unfold cutT
  rw [HT.sIx_none, HT.sIx_nat, Nat.min_eq_left (by omega), List.drop_zero, Nat.sub_zero]
theorem cut_hi {α : Type} (xs : List α) (i : Nat) (h : i < xs.length) : cutT xs (some ((i : Int) + 1)) none = xs.drop (i + 1) := by
  unfold cutT
  rw [show (i : Int) + 1 = ((i + 1 : Nat) : Int) from rfl, HT.sIx_none, HT.sIx_nat, Nat.min_eq_left (by omega)]
  exact List.take_of_length_le (by rw [List.length_drop]; omega)
theorem plus_tt {M : Mem} {a b : List T} (h : (a ++ b).length ≤ 1000) : opPlus M (.tup a) (.tup b) = some (.tup (a ++ b)) := by
  show (bif big (a ++ b).length then some (T.tup (a ++ b)) else none) = _
  rw [show big (a ++ b).length = true from decide_eq_true (by omega)]
  rfl
theorem bt_tup {d b : Nat} {xs : List T} {L : List T} (hne : ∀ M, opNe M (.tup xs) (.tup []) = some (.bl true)) (h1 : (decide (1 ≤ xs.length) && decide (xs.length ≤ 100)) = true)
    (hR : ∀ i (h : i < xs.length), ∃ Li, Bt (Fr_ulaw_bent d) xs[i] b Li ∧ ∀ u ∈ Li, T.tup (xs.take i ++ [u] ++ xs.drop (i + 1)) ∈ L)
    (hA : ∀ (n : Nat) (M : Mem), lT [some (.loc n), some (.tup xs), none] M = .ok (leafT xs) M) (hlo : L.all (fun x => x.lo 0) = true) (hT : ∀ u ∈ leafT xs, u ∈ L) : Bt (Fr_ulaw_bent (d + 1)) (.tup xs) (b + 2) L := by
  intro M n p k hn hb
  obtain ⟨h1, h2⟩ := Bool.and_eq_true_iff.mp h1
  have h1 := of_decide_eq_true h1
  have h2 := of_decide_eq_true h2
  have lo : ∀ x ∈ L, x.lo M.length = true := fun x hx => T.lo_mono (Nat.zero_le _) (List.all_eq_true.mp hlo x hx)
  obtain ⟨c, q1, e1, hc, hb1⟩ := take_ok M n p (k + b + 1) 6 hn hb (by decide) (by decide)
  have hcond : cT [some (.loc n), some (.tup xs), none] (pm M n p) = .ok (decide (0 < c)) (pm M n q1) := by
    have g1 : eCall 2 G_ulaw_take [] (aCons (eVar 0) (aCons (eC (.int 6)) aNil)) [some (.loc n), some (.tup xs), none] (pm M n p) = .ok (natT c) (pm M n q1) := eCall_ok (aCons_ok (eVar_ok rfl) (aCons_ok eC_ok aNil_ok)) rfl e1
    have g2 : tVal (eOp opGt (eCall 2 G_ulaw_take [] (aCons (eVar 0) (aCons (eC (.int 6)) aNil))) (eC (.int 0))) [some (.loc n), some (.tup xs), none] (pm M n p) = .ok (decide (0 < c)) (pm M n q1) := by
      refine tVal_ok (eOp_ok g1 eC_ok ?_)
      by_cases z : 0 < c
      · rw [decide_eq_true z]; exact gt_t (by omega)
      · rw [decide_eq_false z]; exact gt_f (by omega)
    have g3 : tVal (eOp opNe (eVar 1) (eTup aNil)) [some (.loc n), some (.tup xs), none] (pm M n p) = .ok true (pm M n p) := tVal_ok (eOp_ok (eVar_ok rfl) rfl (hne _))
    show (tAnd2 (tVal (eOp opNe (eVar 1) (eTup aNil))) _) [some (.loc n), some (.tup xs), none] (pm M n p) = _
    unfold tAnd2
    rw [g3]
    exact g2
  by_cases z : 0 < c
  · rw [decide_eq_true z] at hcond
    obtain ⟨i, q2, e2, hi, hb2⟩ := take_ok M n q1 (k + b) xs.length hn hb1 h1 (by omega)
    obtain ⟨Li, HB, hL⟩ := hR i hi
    obtain ⟨u, q3, e3, hu, hb3⟩ := HB M n q2 k hn hb2
    have hin := hL u hu
    have s1 : eSlice (eVar 1) none (some (eVar 2)) slT [some (.loc n), some (.tup xs), some (natT i)] (pm M n q2) = .ok (.tup (xs.take i)) (pm M n q2) := by
      have := cut_lo xs i hi
      show Res.ok (T.tup (cutT xs none (some (i : Int)))) _ = _
      rw [this]
    have s2 : eSlice (eVar 1) (some (eOp opPlus (eVar 2) (eC (.int 1)))) none slT [some (.loc n), some (.tup xs), some (natT i)] (pm M n q3) = .ok (.tup (xs.drop (i + 1))) (pm M n q3) := by
      have := cut_hi xs i hi
      show Res.ok (T.tup (cutT xs (some ((i : Int) + 1)) none)) _ = _
      rw [this]
    have s3 : eTup (aCons (eCall 2 (Fr_ulaw_bent d) [] (aCons (eVar 0) (aCons (eOp opIx (eVar 1) (eVar 2)) aNil))) aNil) [some (.loc n), some (.tup xs), some (natT i)] (pm M n q2) = .ok (.tup [u]) (pm M n q3) :=
      eTup_ok (aCons_ok (eCall_ok (aCons_ok (eVar_ok rfl) (aCons_ok (eOp_ok (eVar_ok (t := .tup xs) rfl) (eVar_ok rfl) (opIx_seq (by intro x h; cases h) (xs := xs) rfl (List.getElem?_eq_getElem hi))) aNil_ok)) rfl e3) aNil_ok) rfl
    have hlen : (xs.take i ++ [u] ++ xs.drop (i + 1)).length ≤ 1000 := by
      rw [List.length_append, List.length_append, List.length_take, List.length_drop, List.length_cons, List.length_nil]
      omega
    have hlen1 : (xs.take i ++ [u]).length ≤ 1000 := by
      rw [List.length_append] at hlen
      omega
    refine ⟨_, q3, scr_pm0 hn (runB_rt (n := 3) (s := b_ulaw_bent (Fr_ulaw_bent d)) ?_) (lo _ hin), hin, hb3⟩
    show b_ulaw_bent (Fr_ulaw_bent d) [some (.loc n), some (.tup xs), none] (pm M n p) = _
    rw [bent_eq]
    refine sSeq_rt (sIf_t hcond (sSeq_nx (sSet_ok (eCall_ok (aCons_ok (eVar_ok rfl) (aCons_ok (eBi_ok (aCons_ok (eVar_ok (t := .tup xs) rfl) aNil_ok) (z := natT xs.length) rfl) aNil_ok)) rfl e2)) (sRet_ok ?_)))
    exact eOp_ok (eOp_ok s1 s3 (plus_tt hlen1)) s2 (plus_tt hlen)
  · rw [decide_eq_false z] at hcond
    obtain ⟨u, q, e, hu, hl, hq⟩ := ofL_ok (x := none) (M := M) (n := n) (p := q1) (k := k) hA (by rw [Bool.and_eq_true, decide_eq_true_eq, decide_eq_true_eq]; exact ⟨show 1 ≤ 7 by decide, show 7 ≤ 1000 by decide⟩) (List.all_eq_true.mpr fun x hx => List.all_eq_true.mp hlo x (hT x hx)) hn (by
      obtain ⟨a1, a2, a3, a4⟩ := hb1
      exact ⟨a1, a2, a3, by omega⟩)
    refine ⟨u, q, scr_pm0 hn (runB_rt (n := 3) (s := b_ulaw_bent (Fr_ulaw_bent d)) ?_) hl, hT u hu, hq⟩
    show b_ulaw_bent (Fr_ulaw_bent d) [some (.loc n), some (.tup xs), none] (pm M n p) = _
    rw [bent_eq]
    exact sSeq_nx (sIf_f hcond sNil_ok) (sSeq_rt (sIf_t (M1 := pm M n q1) rfl e))
def lAB : List T := (leafS [97]).map (fun u => T.tup [u, .str [98]]) ++ ((leafS [98]).map (fun u => T.tup [.str [97], u]) ++ leafT [.str [97], .str [98]])
def lA : List T := (leafS [97]).map (fun u => T.tup [u]) ++ leafT [.str [97]]
def lOne : List T := (leafI 2).map (fun u => T.tup [u, .tup [.str [97], .str [98]]]) ++ (lAB.map (fun u => T.tup [.int 2, u]) ++ leafT [.int 2, .tup [.str [97], .str [98]]])
def lTwo : List T := lA.map (fun u => T.tup [u, .tup [], .int 3]) ++ ((leafT []).map (fun u => T.tup [.tup [.str [97]], u, .int 3]) ++ ((leafI 3).map (fun u => T.tup [.tup [.str [97]], .tup [], u]) ++ leafT [.tup [.str [97]], .tup [], .int 3]))
theorem bt_ab (d : Nat) : Bt (Fr_ulaw_bent (d + 2)) (.tup [.str [97], .str [98]]) 3 lAB := bt_tup (b := 1) (fun M => by kernel_rfl) (by decide) (fun i h => match i, h with
  | 0, _ => ⟨_, bt_a d, fun u hu => List.mem_append_left _ (List.mem_map_of_mem hu)⟩
  | 1, _ => ⟨_, bt_b d, fun u hu => List.mem_append_right _ (List.mem_append_left _ (List.mem_map_of_mem hu))⟩) (fun n M => by kernel_rfl) (by decide +kernel) (fun u hu => List.mem_append_right _ (List.mem_append_right _ hu))
theorem bt_a1 (d : Nat) : Bt (Fr_ulaw_bent (d + 2)) (.tup [.str [97]]) 3 lA := bt_tup (b := 1) (fun M => by kernel_rfl) (by decide) (fun i h => match i, h with
  | 0, _ => ⟨_, bt_a d, fun u hu => List.mem_append_left _ (List.mem_map_of_mem hu)⟩) (fun n M => by kernel_rfl) (by decide +kernel) (fun u hu => List.mem_append_right _ hu)
theorem Bt.more {R : FF} {v : T} {b c : Nat} {L : List T} (h : Bt R v b L) (hc : b ≤ c) : Bt R v c L := fun M n p k hn hb => h M n p k hn (by
  obtain ⟨a1, a2, a3, a4⟩ := hb
  exact ⟨a1, a2, a3, by omega⟩)
theorem bt_one : Bt G_ulaw_bent (.tup [.int 2, .tup [.str [97], .str [98]]]) 5 lOne := bt_tup (d := 5) (b := 3) (fun M => by kernel_rfl) (by decide) (fun i h => match i, h with
  | 0, _ => ⟨_, (bt_2 4).more (by decide), fun u hu => List.mem_append_left _ (List.mem_map_of_mem hu)⟩
  | 1, _ => ⟨_, bt_ab 3, fun u hu => List.mem_append_right _ (List.mem_append_left _ (List.mem_map_of_mem hu))⟩) (fun n M => by kernel_rfl) (by decide +kernel) (fun u hu => List.mem_append_right _ (List.mem_append_right _ hu))
theorem bt_two : Bt G_ulaw_bent (.tup [.tup [.str [97]], .tup [], .int 3]) 5 lTwo := bt_tup (d := 5) (b := 3) (fun M => by kernel_rfl) (by decide) (fun i h => match i, h with
  | 0, _ => ⟨_, bt_a1 3, fun u hu => List.mem_append_left _ (List.mem_map_of_mem hu)⟩
  | 1, _ => ⟨_, (bt_nil 4).more (by decide), fun u hu => List.mem_append_right _ (List.mem_append_left _ (List.mem_map_of_mem hu))⟩
  | 2, _ => ⟨_, (bt_3 4).more (by decide), fun u hu => List.mem_append_right _ (List.mem_append_right _ (List.mem_append_left _ (List.mem_map_of_mem hu)))⟩) (fun n M => by kernel_rfl) (by decide +kernel) (fun u hu => List.mem_append_right _ (List.mem_append_right _ (List.mem_append_right _ hu)))
theorem one_all : lOne.all okV = true := by decide +kernel
theorem two_all : lTwo.all okV = true := by decide +kernel
end K00
namespace K00
open PySem PySem.Spec PyProof.Rows L2 Mi
theorem set_tail {M : Mem} {a b : MO} : (M ++ [a]).set M.length b = M ++ [b] := by
  rw [List.set_append_right _ _ (Nat.le_refl _), Nat.sub_self]
  rfl
theorem isLoc_tail {M : Mem} {xs : List T} : isLoc (M ++ [.lst xs]) (.loc M.length) = true := by
  have h : (M ++ [MO.lst xs])[M.length]? = some (.lst xs) := tail0
  show (match (M ++ [MO.lst xs])[M.length]? with | some (.lst ts) => some (M.length, ts) | _ => none).isSome = true
  rw [h]
  rfl
theorem ext_ok {A : AF} {g : EF} {v : T} {M : Mem} {xs ys : List T} (hA : ∀ M', A [some v, some (.loc M.length)] M' = .ok ys M') (h : (decide (ys.length ≤ 1000) && decide (xs.length ≤ 1000)) = true) :
    sExpr (eAlt (eMt isLoc mExtend (eVar 1) (aCons (eFroz (eLst A)) aNil)) g) [some v, some (.loc M.length)] (M ++ [.lst xs]) = some (.nx [some v, some (.loc M.length)], M ++ [.lst (xs ++ ys)]) := by
  obtain ⟨h1, h2⟩ := Bool.and_eq_true_iff.mp h
  have h1 := of_decide_eq_true h1
  have h2 := of_decide_eq_true h2
  have e := mExtend_lst (ys := ys) (tail0 (M := M) (a := MO.lst xs) (l := [])) (by omega)
  rw [set_tail] at e
  exact sExpr_ok (eAlt_l (eMt_ok (eVar_ok rfl) isLoc_tail (aCons_ok (eFroz_ok (eLst_ok (hA _) (decide_eq_true (by omega)))) aNil_ok) e))
def xsOf (v : T) (a b : Nat) : List T := (List.range b).map fun j => .xob (a + j + 1) v
def errs (v : T) : List T := xsOf v 0 24
def msOf (c a b : Nat) : List T := (List.range b).map fun j => .bl (c == a + j + 1)
def ms (c : Nat) : List T := msOf c 0 24
theorem errors_ok {v : T} (hv : v.lo 0 = true) (M : Mem) : G_ulaw_errors [v] M = .ok (.lst (errs v)) M := by
  have e : runB 2 b_ulaw_errors [v] M = .ok (.loc M.length) (M ++ [.lst (errs v)]) := by
    refine runB_rt (n := 2) (s := b_ulaw_errors) ?_
    show b_ulaw_errors [some v, none] M = _
    unfold b_ulaw_errors
    exact sSeq_nx (sSet_ok (eNewL_ok (eLst_ok (ts := xsOf v 0 5) (by kernel_rfl) rfl))) (sSeq_nx (ext_ok (ys := xsOf v 5 5) (fun M1 => by kernel_rfl) rfl) (sSeq_nx (ext_ok (ys := xsOf v 10 5) (fun M1 => by kernel_rfl) rfl) (sSeq_nx (ext_ok (ys := xsOf v 15 5) (fun M1 => by kernel_rfl) rfl) (sSeq_nx (ext_ok (ys := xsOf v 20 4) (fun M1 => by kernel_rfl) rfl) (sRet_ok (eVar_ok rfl))))))
  refine scr_pure e (.lst (Nat.le_refl _) tail0 (fzs_same ?_))
  have hl : v.lo M.length = true := T.lo_mono (Nat.zero_le _) hv
  have : ∀ ts : List T, (∀ t ∈ ts, t.lo M.length = true) → T.los M.length ts = true := fun ts => by
    induction ts with
    | nil => intro _; rfl
    | cons a ts ih =>
      intro h
      simp only [T.los, Bool.and_eq_true]
      exact ⟨h a List.mem_cons_self, ih fun t ht => h t (List.mem_cons_of_mem _ ht)⟩
  refine this _ fun t ht => ?_
  obtain ⟨j, _, rfl⟩ := List.mem_map.mp ht
  show T.lo M.length (.xob _ v) = true
  simp only [T.lo]
  exact hl
theorem is_ok {c j : Nat} {v : T} {x : Option T} {M : Mem} (hc : ([0, 1, 2, 3, 4, 5, 6, 7, 8, 9, 10, 11, 12, 13, 14, 15, 16, 17, 18, 19, 20, 21, 22, 23, 24] : List Nat).contains c = true) : eIsX [0, 1, 2, 3, 4, 5, 6, 7, 8, 9, 10, 11, 12, 13, 14, 15, 16, 17, 18, 19, 20, 21, 22, 23, 24] j (eVar 0) [some (.xob c v), x] M = .ok (.bl (c == j)) M := by
  show (bif ([0, 1, 2, 3, 4, 5, 6, 7, 8, 9, 10, 11, 12, 13, 14, 15, 16, 17, 18, 19, 20, 21, 22, 23, 24] : List Nat).contains c then Res.ok (T.bl (c == j)) M else .err) = _
  rw [hc]
  rfl
theorem marks_ok {v : T} {c : Nat} (hc : ([0, 1, 2, 3, 4, 5, 6, 7, 8, 9, 10, 11, 12, 13, 14, 15, 16, 17, 18, 19, 20, 21, 22, 23, 24] : List Nat).contains c = true) (M : Mem) : G_ulaw_marks [.xob c v] M = .ok (.lst (ms c)) M := by
  have e : runB 2 b_ulaw_marks [.xob c v] M = .ok (.loc M.length) (M ++ [.lst (ms c)]) := by
    refine runB_rt (n := 2) (s := b_ulaw_marks) ?_
    show b_ulaw_marks [some (.xob c v), none] M = _
    unfold b_ulaw_marks
    exact sSeq_nx (sSet_ok (eNewL_ok (eLst_ok (ts := msOf c 0 3) (aCons_ok (is_ok hc) (aCons_ok (is_ok hc) (aCons_ok (is_ok hc) (aNil_ok)))) rfl))) (sSeq_nx (ext_ok (ys := msOf c 3 3) (fun M1 => aCons_ok (is_ok hc) (aCons_ok (is_ok hc) (aCons_ok (is_ok hc) (aNil_ok)))) rfl) (sSeq_nx (ext_ok (ys := msOf c 6 3) (fun M1 => aCons_ok (is_ok hc) (aCons_ok (is_ok hc) (aCons_ok (is_ok hc) (aNil_ok)))) rfl) (sSeq_nx (ext_ok (ys := msOf c 9 3) (fun M1 => aCons_ok (is_ok hc) (aCons_ok (is_ok hc) (aCons_ok (is_ok hc) (aNil_ok)))) rfl) (sSeq_nx (ext_ok (ys := msOf c 12 3) (fun M1 => aCons_ok (is_ok hc) (aCons_ok (is_ok hc) (aCons_ok (is_ok hc) (aNil_ok)))) rfl) (sSeq_nx (ext_ok (ys := msOf c 15 3) (fun M1 => aCons_ok (is_ok hc) (aCons_ok (is_ok hc) (aCons_ok (is_ok hc) (aNil_ok)))) rfl) (sSeq_nx (ext_ok (ys := msOf c 18 2) (fun M1 => aCons_ok (is_ok hc) (aCons_ok (is_ok hc) (aNil_ok))) rfl) (sSeq_nx (ext_ok (ys := msOf c 20 2) (fun M1 => aCons_ok (is_ok hc) (aCons_ok (is_ok hc) (aNil_ok))) rfl) (sSeq_nx (ext_ok (ys := msOf c 22 2) (fun M1 => aCons_ok (is_ok hc) (aCons_ok (is_ok hc) (aNil_ok))) rfl) (sRet_ok (eVar_ok rfl))))))))))
  refine scr_pure e (.lst (Nat.le_refl _) tail0 (fzs_same ?_))
  have : ∀ bs : List Bool, T.los M.length (bs.map T.bl) = true := fun bs => by
    induction bs with
    | nil => rfl
    | cons a bs ih => simp only [List.map_cons, T.los, T.lo, ih, Bool.and_self]
  have e2 : ms c = ((List.range 24).map fun j => c == 0 + j + 1).map T.bl := by rw [List.map_map]; rfl
  rw [e2]
  exact this _
end K00
namespace K00
open PySem PySem.Spec PyProof.Rows L2 Mi
abbrev nos : List Nat := [0, 1, 2, 3, 4, 5, 6, 7, 8, 9, 10, 11, 12, 13, 14, 15, 16, 17, 18, 19, 20, 21, 22, 23, 24]
def elB : EF := (eFroz (eLc (List.map (·.2) ([("_law_place", 8)] : List (Str × Nat))) (pName 8) (iFun rg1 (aCons (eBi bLen (aCons (eVar 3) aNil)) aNil)) tTrue (eOp opEq (eVar 4) (eVar 8))))
noncomputable def inB : SF := (sSeq (sIf (tOr2 (tNot2 (tTru (eIsXb [0, 1, 2, 3, 4, 5, 6, 7, 8, 9, 10, 11, 12, 13, 14, 15, 16, 17, 18, 19, 20, 21, 22, 23, 24] true (eVar 5)))) (tNot2 (tTru (eIsXb [0, 1, 2, 3, 4, 5, 6, 7, 8, 9, 10, 11, 12, 13, 14, 15, 16, 17, 18, 19, 20, 21, 22, 23, 24] true (eVar 5))))) (sRet (eC (.bl false))) sNil)
  (sSeq (sSet 6 elB)
  (sIf (tOr2 (tVal (eReprEqD true (eXv [0, 1, 2, 3, 4, 5, 6, 7, 8, 9, 10, 11, 12, 13, 14, 15, 16, 17, 18, 19, 20, 21, 22, 23, 24] (eVar 5)) (eVar 2))) (tVal (eOp opNe (eCall 1 G_ulaw_marks [] (aCons (eVar 5) aNil)) (eVar 6)))) (sRet (eC (.bl false))) sNil)))
noncomputable def outB : SF := (sSeq (sSet 3 (eCall 1 G_ulaw_errors [] (aCons (eVar 2) aNil)))
  (sSeq (sFor (pSeq 2 (psCons (pName 4) (psCons (pName 5) psNil))) (iFun enS (aCons (eVar 3) aNil)) inB)
  (sSeq (sSet 7 (eMkX 0 (eVar 2)))
  (sIf (tOr2 (tVal (eReprEqD true (eXv [0, 1, 2, 3, 4, 5, 6, 7, 8, 9, 10, 11, 12, 13, 14, 15, 16, 17, 18, 19, 20, 21, 22, 23, 24] (eVar 7)) (eVar 2))) (tOr2 (tVal (eOp opIn (eC (.bl true)) (eCall 1 G_ulaw_marks [] (aCons (eVar 7) aNil)))) (tNot2 (tTru (eIsXb [0, 1, 2, 3, 4, 5, 6, 7, 8, 9, 10, 11, 12, 13, 14, 15, 16, 17, 18, 19, 20, 21, 22, 23, 24] true (eVar 7)))))) (sRet (eC (.bl false))) sNil))))
noncomputable def valB : EF := (eFroz (eLst (aCons (eCall 1 G_ulaw_odd [] (aCons (eVar 0) aNil)) (aCons (eCall 1 G_ulaw_odd [] (aCons (eVar 0) aNil)) (aCons (eCall 2 G_ulaw_bent [] (aCons (eVar 0) (aCons (eTup (aCons (eC (.int 2)) (aCons (eTup (aCons (eC (.str [97])) (aCons (eC (.str [98])) aNil))) aNil))) aNil))) (aCons (eCall 2 G_ulaw_bent [] (aCons (eVar 0) (aCons (eTup (aCons (eTup (aCons (eC (.str [97])) aNil)) (aCons (eTup aNil) (aCons (eC (.int 3)) aNil)))) aNil))) aNil))))))
theorem right_eq : b_ulaw_right = sSeq (sSet 1 valB) (sSeq (sFor (pName 2) (iSeqS (eVar 1)) outB) (sRet (eC (.bl true)))) := rfl
theorem okV_parts {v : T} (h : okV v = true) : v.lo 0 = true ∧ shortD v = true ∧ tsameD v v = true := by
  unfold okV at h
  obtain ⟨h1, h⟩ := Bool.and_eq_true_iff.mp h
  obtain ⟨h2, h3⟩ := Bool.and_eq_true_iff.mp h
  exact ⟨h1, h2, h3⟩
theorem repr_f {σ : TV} {M : Mem} {c i : Nat} {v : T} (h5 : σ[i]? = some (some (.xob c v))) (h2 : σ[2]? = some (some v)) (hc : nos.contains c = true) (hs : shortD v = true) (ht : tsameD v v = true) : tVal (eReprEqD true (eXv nos (eVar i)) (eVar 2)) σ M = .ok false M := by
  have e1 : eXv nos (eVar i) σ M = .ok v M := by
    unfold eXv
    rw [eVar_ok h5]
    show (bif nos.contains c then Res.ok v M else .err) = _
    rw [hc]
    rfl
  refine tVal_ok ?_
  unfold eReprEqD
  rw [e1]
  show (bif shortD v then (eVar 2 σ M).bind fun u M2 => bif tsameD v u then Res.ok (T.bl (!true)) M2 else .err else .err) = _
  rw [hs, eVar_ok h2]
  show (bif tsameD v v then Res.ok (T.bl (!true)) M else .err) = _
  rw [ht]
  rfl
theorem isx_f {σ : TV} {M : Mem} {c i : Nat} {v : T} (h5 : σ[i]? = some (some (.xob c v))) (hc : nos.contains c = true) : tNot2 (tTru (eIsXb nos true (eVar i))) σ M = .ok false M := by
  have e1 : eIsXb nos true (eVar i) σ M = .ok (.bl true) M := by
    unfold eIsXb
    rw [eVar_ok h5]
    show (bif nos.contains c then Res.ok (T.bl true) M else .err) = _
    rw [hc]
    rfl
  unfold tNot2
  rw [tTru_b e1]
  rfl
theorem or_f {f g : TF} {σ : TV} {M : Mem} (h1 : f σ M = .ok false M) (h2 : g σ M = .ok false M) : tOr2 f g σ M = .ok false M := by
  unfold tOr2
  rw [h1]
  exact h2
theorem nos_in : ∀ j < 24, nos.contains (j + 1) = true := by decide
theorem ms_ne (j : Nat) (hj : j < 24) : ∀ M, opNe M (.lst (ms (j + 1))) (.lst (ms (j + 1))) = some (.bl false) := fun M => by
  have h : ∀ j < 24, teq (.lst (ms (j + 1))) (.lst (ms (j + 1))) = some true := by decide +kernel
  show (teq (.lst (ms (j + 1))) (.lst (ms (j + 1)))).map (fun b => T.bl (!b)) = _
  rw [h j hj]
  rfl
theorem el_ok {a0 a1 x6 x7 : Option T} {v : T} {M : Mem} : ∀ j, j < 24 → elB [a0, a1, some v, some (.lst (errs v)), some (.int (j : Nat)), some (.xob (j + 1) v), x6, x7, none] M = .ok (.lst (ms (j + 1))) M
  | 0, _ => by kernel_rfl
  | 1, _ => by kernel_rfl
  | 2, _ => by kernel_rfl
  | 3, _ => by kernel_rfl
  | 4, _ => by kernel_rfl
  | 5, _ => by kernel_rfl
  | 6, _ => by kernel_rfl
  | 7, _ => by kernel_rfl
  | 8, _ => by kernel_rfl
  | 9, _ => by kernel_rfl
  | 10, _ => by kernel_rfl
  | 11, _ => by kernel_rfl
  | 12, _ => by kernel_rfl
  | 13, _ => by kernel_rfl
  | 14, _ => by kernel_rfl
  | 15, _ => by kernel_rfl
  | 16, _ => by kernel_rfl
  | 17, _ => by kernel_rfl
  | 18, _ => by kernel_rfl
  | 19, _ => by kernel_rfl
  | 20, _ => by kernel_rfl
  | 21, _ => by kernel_rfl
  | 22, _ => by kernel_rfl
  | 23, _ => by kernel_rfl
  | j + 24, h => absurd h (by omega)
theorem in_ok {a0 a1 x6 x7 : Option T} {v : T} {M : Mem} {j : Nat} (hj : j < 24) (hs : shortD v = true) (ht : tsameD v v = true) :
    inB [a0, a1, some v, some (.lst (errs v)), some (.int (j : Nat)), some (.xob (j + 1) v), x6, x7, none] M = some (.nx [a0, a1, some v, some (.lst (errs v)), some (.int (j : Nat)), some (.xob (j + 1) v), some (.lst (ms (j + 1))), x7, none], M) := by
  have hc := nos_in j hj
  unfold inB
  refine sSeq_nx (sIf_f (or_f (isx_f rfl hc) (isx_f rfl hc)) sNil_ok) (sSeq_nx (sSet_ok (el_ok j hj)) (sIf_f (or_f (repr_f rfl rfl hc hs ht) ?_) sNil_ok))
  exact tVal_ok (eOp_ok (eCall_ok (aCons_ok (eVar_ok rfl) aNil_ok) rfl (marks_ok hc M)) (eVar_ok rfl) (ms_ne j hj M))
theorem out_ok {a0 a1 x3 x4 x5 x6 x7 : Option T} {v : T} {M : Mem} (hv : okV v = true) : ∃ y3 y4 y5 y6 y7 : Option T, outB [a0, a1, some v, x3, x4, x5, x6, x7, none] M = some (.nx [a0, a1, some v, y3, y4, y5, y6, y7, none], M) := by
  obtain ⟨h1, h2, h3⟩ := okV_parts hv
  let I : List Nat → TV → Mem → Prop := fun _ σ M' => (∃ y4 y5 y6, σ = [a0, a1, some v, some (.lst (errs v)), y4, y5, y6, x7, none]) ∧ M' = M
  obtain ⟨σ2, M2, hf, ⟨y4, y5, y6, rfl⟩, hM⟩ := sFor_inv (p := pSeq 2 (psCons (pName 4) (psCons (pName 5) psNil))) (it := iFun enS (aCons (eVar 3) aNil)) (b := inB) (σ := [a0, a1, some v, some (.lst (errs v)), x4, x5, x6, x7, none]) (M := M)
    (fun j : Nat => T.tup [.int (j : Nat), .xob (j + 1) v]) (List.range 24) I (iFun_ok (aCons_ok (eVar_ok rfl) aNil_ok) (show enS [.lst (errs v)] = some _ by kernel_rfl)) ⟨⟨x4, x5, x6, rfl⟩, rfl⟩
    (fun dn j rest σ M' e ⟨⟨y4, y5, y6, hσ⟩, hM⟩ => by
      subst hσ hM
      have hj : j < 24 := List.mem_range.mp (by rw [e]; simp)
      exact ⟨_, _, _, rfl, .inl (in_ok hj h2 h3), ⟨_, _, _, rfl⟩, rfl⟩)
  subst hM
  refine ⟨some (.lst (errs v)), y4, y5, y6, some (.xob 0 v), ?_⟩
  unfold outB
  refine sSeq_nx (sSet_ok (eCall_ok (aCons_ok (eVar_ok rfl) aNil_ok) rfl (errors_ok h1 _))) (sSeq_nx hf (sSeq_nx (sSet_ok (t := .xob 0 v) rfl) (sIf_f (or_f (repr_f rfl rfl (by decide) h2 h3) (or_f ?_ (isx_f rfl (by decide)))) sNil_ok)))
  exact tVal_ok (eOp_ok eC_ok (eCall_ok (aCons_ok (eVar_ok rfl) aNil_ok) rfl (marks_ok (c := 0) (by decide) _)) (by kernel_rfl))
theorem right_ok {M : Mem} {n : Nat} {p : P3} (hn : n < M.length) (hb : Bud 12 p) : ∃ q, G_ulaw_right [.loc n] (pm M n p) = .ok (.bl true) (pm M n q) := by
  obtain ⟨t1, q1, e1, v1, b1⟩ := odd_ok (k := 11) hn hb
  obtain ⟨t2, q2, e2, v2, b2⟩ := odd_ok (k := 10) hn b1
  obtain ⟨t3, q3, e3, v3, b3⟩ := bt_one M n q2 5 hn b2
  obtain ⟨t4, q4, e4, v4, b4⟩ := bt_two M n q3 0 hn b3
  have v3 := List.all_eq_true.mp one_all t3 v3
  have v4 := List.all_eq_true.mp two_all t4 v4
  have hval : valB [some (.loc n), none, none, none, none, none, none, none, none] (pm M n p) = .ok (.lst [t1, t2, t3, t4]) (pm M n q4) := by
    unfold valB
    exact eFroz_ok (eLst_ok (aCons_ok (eCall_ok (aCons_ok (eVar_ok rfl) aNil_ok) rfl e1) (aCons_ok (eCall_ok (aCons_ok (eVar_ok rfl) aNil_ok) rfl e2)
      (aCons_ok (eCall_ok (aCons_ok (eVar_ok rfl) (aCons_ok rfl aNil_ok)) rfl e3) (aCons_ok (eCall_ok (aCons_ok (eVar_ok rfl) (aCons_ok rfl aNil_ok)) rfl e4) aNil_ok)))) rfl)
  let I : List T → TV → Mem → Prop := fun _ σ M' => (∃ y2 y3 y4 y5 y6 y7, σ = [some (.loc n), some (.lst [t1, t2, t3, t4]), y2, y3, y4, y5, y6, y7, none]) ∧ M' = pm M n q4
  obtain ⟨σ2, M2, hf, ⟨y2, y3, y4, y5, y6, y7, rfl⟩, hM⟩ := sFor_inv (p := pName 2) (it := iSeqS (eVar 1)) (b := outB) (σ := [some (.loc n), some (.lst [t1, t2, t3, t4]), none, none, none, none, none, none, none]) (M := pm M n q4)
    (fun t : T => t) [t1, t2, t3, t4] I (iSeqS_ok (eVar_ok rfl) rfl) ⟨⟨_, _, _, _, _, _, rfl⟩, rfl⟩
    (fun dn t rest σ M' e ⟨⟨y2, y3, y4, y5, y6, y7, hσ⟩, hM⟩ => by
      subst hσ hM
      have ht : t ∈ [t1, t2, t3, t4] := by rw [e]; simp
      have hv : okV t = true := by
        simp only [List.mem_cons, List.not_mem_nil, or_false] at ht
        rcases ht with rfl | rfl | rfl | rfl <;> assumption
      obtain ⟨z3, z4, z5, z6, z7, ho⟩ := out_ok (a0 := some (.loc n)) (a1 := some (.lst [t1, t2, t3, t4])) (x3 := y3) (x4 := y4) (x5 := y5) (x6 := y6) (x7 := y7) (M := pm M n q4) hv
      exact ⟨_, _, _, rfl, .inl ho, ⟨_, _, _, _, _, _, rfl⟩, rfl⟩)
  subst hM
  refine ⟨q4, scr_pm0 hn (runB_rt (n := 9) (s := b_ulaw_right) ?_) rfl⟩
  show b_ulaw_right [some (.loc n), none, none, none, none, none, none, none, none] (pm M n p) = _
  rw [right_eq]
  exact sSeq_nx (sSet_ok hval) (sSeq_nx hf (sRet_ok eC_ok))
theorem law_ok (zs : List Int) (M : Mem) : ∃ M', F_law [.klst (zs.map .int)] M = .ok (.bl true) M' := by
  obtain ⟨k, hk, e1⟩ := placesB_ok zs 4 (by decide) M
  have e1 : G_ulaw_places [.klst (zs.map .int), .int 4] M = .ok (.lst ((List.range k).map natT)) M := e1
  obtain ⟨M', e2⟩ := compL_all (n := 1) (t0 := .bl true) (f := eCall 1 G_ulaw_right [] (aCons (eCall 2 F_ulaw_pot [] (aCons (eVar 0) (aCons (eVar 1) aNil))) aNil))
    (σ := wipeT [some (.klst (zs.map .int)), none] (List.map (·.2) ([("_law_place", 1)] : List (Str × Nat)))) (fun t => ∃ i : Nat, t = natT i ∧ i ≤ 100) (fun t M ⟨i, ht, hi⟩ => by
      subst ht
      obtain ⟨p, h1, h2⟩ := potB_ok (c1 := 1) (c2 := 3) (c3 := 78317) (c4 := 9007) (c5 := 229) (by decide) (by decide) (by decide) zs i hi M
      obtain ⟨q, h3⟩ := right_ok (M := M ++ [potO p]) (n := M.length) (by simp) (p := p) (h2.le (by omega))
      have hpm : pm (M ++ [potO p]) M.length p = M ++ [potO p] := set0
      rw [hpm] at h3
      exact ⟨_, eCall_ok (aCons_ok (eCall_ok (aCons_ok (eVar_ok rfl) (aCons_ok (eVar_ok rfl) aNil_ok)) rfl h1) aNil_ok) rfl h3⟩) ((List.range k).map natT) [] M (fun t ht => by
      obtain ⟨i, hi, rfl⟩ := List.mem_map.mp ht
      have := List.mem_range.mp hi
      exact ⟨i, rfl, by omega⟩)
  refine ⟨M', runB_rt (n := 2) (s := b_law) ?_⟩
  show b_law [some (.klst (zs.map .int)), none] M = _
  unfold b_law
  refine sRet_ok (eBi_ok (aCons_ok (eFroz_ok (eLc_ok (iSeqS_ok (eCall_ok (aCons_ok (eVar_ok rfl) (aCons_ok eC_ok aNil_ok)) rfl e1) rfl) (decide_eq_true (by rw [List.length_map, List.length_range]; omega)) e2)) aNil_ok) ?_)
  exact bAll_rep
end K00
namespace K00
open PySem PySem.Spec PyProof.Rows L2 Mi
def rho0 : Rho := rhoOf (n := 0) (ws := []) (by decide)
theorem lawF {P : Program} [ProgF P] {w : World} {K : PySem.W.Frag} {mg : Str → Option Value} (g : Gf fa fn ck K mg) : ∃ fd, (∀ (s : Shared) (v : Value), BindsTo s fd ⟨[v], []⟩ [("_law_script", v)]) ∧ ∀ base : Heap, FnQ P w K mg base (fun _ _ _ _ _ _ => False) 12 (He.ga K "law") fd ["_law_script"] (fun vs H Q _ => spF K (omOf K rho0) 1 F_law vs H Q fun _ _ _ => False) := by
  obtain ⟨fd, F⟩ := g.def_ 9 (d := fn.getD 9 dummyD)
  have b := FunD.bindsA (ps := ["_law_script"]) F fun _ _ _ _ _ _ us hl => match us, hl with | [_], _ => rfl
  exact ⟨fd, fun s v => b s [v] rfl, fun base => calm_fnQ (fnQ_of F sc_law (bs_law g))⟩
end K00
instance : Mi.ProgF (PySem.Challenge.rw_stretchneeds_k00_errors_and_what_they_ke).prog := ⟨by decide +kernel, by decide +kernel⟩
open PySem PySem.W PySem.Calls PyProof.Rows
theorem PySem.Challenge.cw_stretchneeds_k00_errors_and_what_they_ke_holds : PySem.Challenge.rw_stretchneeds_k00_errors_and_what_they_ke.Holds := by
  w_on; o_law
  refine HandSHeadRun.head_any (r := OpenLaw.row PySem.Challenge.rw_stretchneeds_k00_errors_and_what_they_ke) (q := view (OpenLaw.row PySem.Challenge.rw_stretchneeds_k00_errors_and_what_they_ke).prog [36]) (H := K00.hk) (ob := K00.ob) (M := 8000) (loose := K00.loose) (d := HandSHeadRun.topDef (OpenLaw.row PySem.Challenge.rw_stretchneeds_k00_errors_and_what_they_ke).prog 36) (kwd := []) K00.ob_eq
    (by kernel_rfl) (fun s => by kernel_rfl) K00.run (by kernel_rfl) (by kernel_rfl) (by kernel_rfl) (by rfl) (by first | assumption | decide +kernel) (by decide +kernel) ⟨rfl, rfl, rfl, rfl, rfl, by decide +kernel⟩ ?hw ?hc
  case hw => w_witness2
  case hc =>
    refine Mi.walkL (l := PySem.Challenge.rw_stretchneeds_k00_errors_and_what_they_ke) (n := 63) (k := 12) (x := "_law_script") rfl (by decide) (by kernel_rfl) ⟨rfl, by decide, by decide⟩ ?F
    intro w mg fa h Y G hmg0
    obtain ⟨K, KX, c, cE⟩ := Y
    have hmg : mg ("law" : PySem.Str) = some (.ref fa) := by
      have e : (HandSHeadRun.topDef (OpenLaw.row PySem.Challenge.rw_stretchneeds_k00_errors_and_what_they_ke).prog 36).name = ("law" : PySem.Str) := by kernel_rfl
      rw [← e]
      exact hmg0
    have g : Mi.Gf K00.fa K00.fn K00.ck K mg := ⟨h, KX, G, c⟩
    have ef := hmg.symm.trans (g.glo (x := "law") 59 rfl)
    cases ef
    obtain ⟨fd, hb, hF⟩ := K00.lawF (P := (PySem.Challenge.rw_stretchneeds_k00_errors_and_what_they_ke).prog) (w := w) g
    exact ⟨K, fd, fun vs H Q _ => Mi.spF K (K00.omOf K K00.rho0) 1 K00.F_law vs H Q fun _ _ _ => False, K00.tbs.map (·.1), KX, Mi.ckAll_at (g.says.chk 676 (f := Mi.ckAll K00.tbs) rfl), cE, hb, fun H a ns _ ho hp hs => Mi.law_spL (fun zs => K00.law_ok zs []) H a ns ho hs (Mi.tabs_new hp), hF⟩
