import PyProof.Rows.All
import HandS.ForMost
import HandS.ForExc
import HandS.CallSlots
import HandS.Defaults
import HandS.Lambda
import HandS.Ends
import HandS.More
import HandS.Words
import HandS.WordsExc
import HandS.Head0
import HandS.Head1
import HandS.Head2
import HandS.HeadEnd
import HandS.HeadHook1
import HandS.HeadHook2
import HandS.Property
import KE.KNestM
import KE.KExcSuper
import KE.KSuper
import HandS.Exc
import HandS.ExcField
import KE.KIsAll
import HandS.Flow
import HandS.Zip
import HandS.Deep
import HandS.TupAny
import HandS.Style
import HandS.IsInst
import HandS.Wide
import HandS.Text
import HandS.Dict
import HandS.Strs
import HandS.Codes
import HandS.DictComp
import KE.KSortKeySt
import HandS.SortKw
import HandS.Star
import HandS.NoneIn
import KE.GoesEnum
import HandS.Conv
import HandS.TupMul
import HandS.SlotsOwn
import OpenK.KMeth
import HandS.ListItems
import KE.KDictPairs
import HandS.Iter
import HandS.TupLen
import HandS.WordsDict
import PyProof.ReprRoads
import PyProof.ReprLen
import HandS.Flt
import HandS.WideBits
import KE.KDictItemsList
import KE.KDictZip
import HandS.NamedTupGet
import HandS.DictEq
import HandS.DeepEq
import KE.SortData
import KE.KMinKey
import PyProof.WalksMore
import KE.KDictDisplayH
import HandS.Zip0
import KE.KDictList
import KE.DataMinMax
import HandS.ExcInit
import HandS.ExcIs
import HandS.ExcSuper
import KE.KExcIs
import HandS.RaiseMore
import PySem.Challenge.RW_stretchneeds_k03_bounds_of_books
set_option Elab.async false
set_option linter.all false
set_option maxRecDepth 100000
set_option maxHeartbeats 0
namespace Mi
open PySem PySem.Spec PyProof.Rows L2
abbrev Ck := PySem.W.Frag → Bool
structure DefM where
  adr : PySem.W.Frag → Addr
  name : Str
  qual : Str
  params : Arguments
  body : List Stmt
  scope : Scope
  dfl : List He.Dv
def DefM.val (d : DefM) : He.FnW := some (d.name, d.qual, d.params, .stmts d.body, d.scope, mainGlobals, [], builtinsNs)
def fnWM (K : PySem.W.Frag) (a : Addr) : He.FnW := match K.lookup a with
  | none => none
  | some o => match o.data with
    | .func z => some (z.name, z.qualname, z.params, z.body, z.scope, z.globals, z.closure, z.builtins)
    | _ => none
def DefM.ok (K : PySem.W.Frag) (d : DefM) : Bool := PySem.W.keepIn K (.ref (d.adr K)) && (match K.lookup (d.adr K) with
  | none => false
  | some o => match o.data with
    | .func z => PySem.W.codeIn K z.code d.qual && He.dflB K z.defaults (d.dfl.map (He.Dv.v K))
    | _ => false)
theorem DefM.funD {K : PySem.W.Frag} {d : DefM} (e : fnWM K (d.adr K) = d.val) (c : d.ok K = true) : ∃ fd, FunD K d.name d.qual d.params d.body d.scope (d.dfl.map (He.Dv.v K)) [] (d.adr K) fd := by
  obtain ⟨kp, c2⟩ := He.ba c
  unfold fnWM at e
  cases q : K.lookup (d.adr K) with
  | none => rw [q] at e; exact nomatch (show (none : He.FnW) = some _ from e)
  | some o =>
    obtain ⟨oc, od, dt, osl⟩ := o
    rw [q] at c2 e
    cases dt with
    | func fd =>
      obtain ⟨n1, n2, n3, n4, n5, n6, n7, n8, n9, n10, n11, n12, n13, n14, n15⟩ := fd
      have e2 : (some (n1, n2, n3, n4, n5, n6, n7, n15) : He.FnW) = some (d.name, d.qual, d.params, .stmts d.body, d.scope, mainGlobals, [], builtinsNs) := e
      rw [Option.some.injEq, Prod.mk.injEq, Prod.mk.injEq, Prod.mk.injEq, Prod.mk.injEq, Prod.mk.injEq, Prod.mk.injEq, Prod.mk.injEq] at e2
      obtain ⟨h1, h2, h3, h4, h5, h6, h7, h8⟩ := e2
      subst h1 h2 h3 h4 h5 h6 h7 h8
      obtain ⟨k1, k2⟩ := He.ba (show (PySem.W.codeIn K n13 d.qual && He.dflB K n8 (d.dfl.map (He.Dv.v K))) = true from c2)
      exact ⟨_, ⟨oc, od, n8, n9, n10, n11, n12, n13, n14, osl, rfl, q, k1, He.dflB_ok k2, .inl rfl⟩, kp⟩
    | _ => cases c2
abbrev AlM : Type := Bool × List He.FnW
def obsM (fa : List He.Fa) (fn : List DefM) (ck : List Ck) (K : PySem.W.Frag) : AlM := ((fa.all fun f => f.ok K) && (fn.all fun d => d.ok K) && ck.all fun c => c K, fn.map fun d => fnWM K (d.adr K))
def valM (fn : List DefM) : AlM := (true, fn.map DefM.val)
def SaysM (fa : List He.Fa) (fn : List DefM) (ck : List Ck) (K : PySem.W.Frag) : Prop := obsM fa fn ck K = valM fn
def ckTup (x : Str) (zs : List Str) : Ck := fun K => He.tupB K x (zs.map He.Dv.str) && (match K.lookup (He.ga K x) with
  | some ⟨.type c, none, _, _⟩ => decide (c = "tuple")
  | _ => false)
def pAd (K : PySem.W.Frag) (C : Addr) (m : Str) : Addr := match PySem.W.findIn K (.ref C) m with
  | some (some (.ref a)) => a
  | _ => 0
def gAd (K : PySem.W.Frag) (C : Addr) (m : Str) : Addr := match PySem.W.recIn K (pAd K C m) "property" with
  | some (.ref g :: _) => g
  | _ => 0
def ckProp (x m : Str) : Ck := fun K => He.eqO (PySem.W.findIn K (.ref (He.ga K x)) m) (some (some (.ref (pAd K (He.ga K x) m)))) && (He.eqO (PySem.W.specialIn K (.ref (pAd K (He.ga K x) m)) "__get__") (some (some (.builtin "property.__get__"))) &&
  (decide (PySem.W.takesIn K (.ref (pAd K (He.ga K x) m)) = some true) && (match PySem.W.recIn K (pAd K (He.ga K x) m) "property" with
    | some (.ref g :: _) => decide (g = gAd K (He.ga K x) m)
    | _ => false)))
def clsB (s : Stmt) : List Stmt := match s with
  | .ClassDef (body := b) .. => b
  | _ => []
end Mi
namespace Mi
open PySem PySem.Spec PyProof.Rows L2
def noTab : Obj → Bool
  | ⟨.none, none, .fields vs, sl⟩ => vs.isEmpty && sl.isEmpty
  | _ => false
def frE (g : Addr → Option Obj) (as : List Addr) : PySem.W.Frag := (He.frG g as).filter fun q => !noTab q.2
def cdAt (K : PySem.W.Frag) (f : Addr) : Addr := match K.lookup f with
  | some ⟨_, _, .func fd, _⟩ => (match fd.code with
    | .ref c => c
    | _ => 0)
  | _ => 0
def tbAt (K : PySem.W.Frag) (f : Addr) : Addr := match K.lookup (cdAt K f) with
  | some ⟨_, _, .fields vs, _⟩ => (match vs.getD 11 .none with
    | .ref P => P
    | _ => 0)
  | _ => 0
def ckTab (ad : PySem.W.Frag → Addr) : Ck := fun K => PySem.W.codeHdIn K (cdAt K (ad K)) (tbAt K (ad K)) && (decide (tbAt K (ad K) ≠ mainGlobals) && ((K.lookup (tbAt K (ad K))).isNone && (match K.lookup (He.ga K "__builtins__") with
  | some ⟨.type m, some dd, .plain, _⟩ => decide (m = "module") && (decide (dd = builtinsNs) && (decide (He.ga K "__builtins__" ≠ builtinsNs) && (decide (He.ga K "__builtins__" ≠ mainGlobals) && decide (He.ga K "__builtins__" ≠ tbAt K (ad K)))))
  | _ => false)))
def ckTabs (ads : List (PySem.W.Frag → Addr)) : Ck := fun K => decide ((ads.map fun ad => tbAt K (ad K)).Nodup)
abbrev AlE : Type := AlM × Bool
def emptyAt (g : Addr → Option Obj) (P : Addr) : Bool := match g P with
  | some o => noTab o
  | none => false
theorem frE_in {as : List Addr} {h : Heap} : (frE h.get? as).In h := by
  have mem : ∀ {a : Addr} {o : Obj} {l : List (Addr × Obj)}, l.lookup a = some o → (a, o) ∈ l := fun {a o l} => by
    induction l with
    | nil => intro z; cases z
    | cons q l ih =>
      intro z
      obtain ⟨b, u⟩ := q
      rw [List.lookup_cons] at z
      split at z
      · rename_i e
        cases z
        rw [eq_of_beq e]
        exact List.mem_cons_self
      · exact List.mem_cons_of_mem _ (ih z)
  intro a o e
  have h1 := (List.mem_filter.mp (mem e)).1
  unfold He.frG at h1
  obtain ⟨b, _, e2⟩ := List.mem_filterMap.mp h1
  cases q : h.get? b with
  | none => rw [q] at e2; cases e2
  | some u =>
    rw [q] at e2
    cases e2
    exact q
theorem noTab_eq {o : Obj} (h : noTab o = true) : o = { cls := .none, data := .fields #[] } := by
  unfold noTab at h
  split at h
  · rename_i vs sl
    rw [Bool.and_eq_true] at h
    rw [Array.isEmpty_iff.mp h.1, Array.isEmpty_iff.mp h.2]
  · cases h
theorem emptyAt_ok {g : Addr → Option Obj} {P : Addr} (h : emptyAt g P = true) : g P = some { cls := .none, data := .fields #[] } := by
  unfold emptyAt at h
  split at h
  · rename_i o e
    rw [e, noTab_eq h]
  · cases h
def SaysE (fa : List He.Fa) (fn : List DefM) (ck : List Ck) (tf : List (PySem.W.Frag → Addr)) (h : Heap) (K : PySem.W.Frag) : Prop := SaysM fa fn ck K ∧ ∀ ad ∈ tf, h.get? (tbAt K (ad K)) = some { cls := .none, data := .fields #[] }
abbrev TbL : Type := List ((PySem.W.Frag → Addr) × Str)
def tabl (l : TbL) (K : PySem.W.Frag) : List (Addr × Str) := l.map fun z => (tbAt K (z.1 K), z.2)
def ckAll (l : TbL) : Ck := fun K => ((l.map (·.1)).all fun ad => ckTab ad K) && ckTabs (l.map (·.1)) K
end Mi
namespace Mi
open PySem PySem.Spec PyProof.Rows L2
def obsA (as : List Addr) (fa : List He.Fa) (fn : List DefM) (ck : List Ck) (tf : List (PySem.W.Frag → Addr)) (g : Addr → Option Obj) : AlE :=
  (obsM fa fn ck (frE g as), tf.all fun ad => emptyAt g (tbAt (frE g as) (ad (frE g as))))
def hookA (as : List Addr) (fa : List He.Fa) (fn : List DefM) (ck : List Ck) (tf : List (PySem.W.Frag → Addr)) : PySem.W.Hook where
  α := AlE
  obs := fun s => obsA as fa fn ck tf s.heap.get?
  val := fun _ => (valM fn, true)
  says := fun _ h => ∃ K : PySem.W.Frag, K.In h ∧ SaysE fa fn ck tf h K
  of := fun _ _ e => ⟨_, frE_in, congrArg Prod.fst e, fun ad hm => emptyAt_ok (List.all_eq_true.mp (congrArg Prod.snd e) ad hm)⟩
  keeps := fun _ _ _ ⟨K, hK, c⟩ k => ⟨K, PySem.W.Frag.In.keeps hK k, c.1, fun ad hm => k _ _ (c.2 ad hm)⟩
theorem obsA_eq {as : List Addr} {fa : List He.Fa} {fn : List DefM} {ck : List Ck} {tf : List (PySem.W.Frag → Addr)} {g : Addr → Option Obj} {s : Shared} (h : ∀ a, g a = s.heap.get? a) : obsA as fa fn ck tf g = (hookA as fa fn ck tf).obs s := by
  have e : g = s.heap.get? := funext h
  subst e
  rfl
end Mi
namespace Mi
open PySem PySem.Spec PyProof.Rows L2
def bodB : FuncBody → Bool
  | .stmts [.Expr (.Call (.Attribute (.Call (.Name a _) [] [] _) b p3) [.Name c _] [] p5) _, .Assign [.Attribute (.Name d _) e _] (.Name f _) _] => decide (a = "super") && (decide (b = "__init__") && (decide (c = "value") && (decide (d = "self") && (decide (e = "value") && (decide (f = "value") && (p3.endLine == p5.line))))))
  | _ => false
def parB (p : Arguments) : Bool := match p with
  | ⟨[], [x, y], none, [], [], none, []⟩ => decide (x.arg = "self") && decide (y.arg = "value")
  | _ => false
def scB (sc : Scope) : Bool := decide (sc.kind = .function) && (!sc.isCoroutine && (!sc.isGenerator && ((sc.names.all fun x => !decide (x.2 = .cell)) && (decide (sc.names.lookup ("super" : Str) = some .globalImplicit) && (decide (sc.names.lookup ("__class__" : Str) = some .free) && (decide (sc.names.lookup ("self" : Str) = some .local) && decide (sc.names.lookup ("value" : Str) = some .local)))))))
def initK (K : PySem.W.Frag) (f D : Addr) : Bool := match K.lookup f with
  | some ⟨_, _, .func z, _⟩ => decide (z.name = "__init__") && (decide (z.qualname = "NeedError.__init__") && (parB z.params && (bodB z.body && (scB z.scope && (decide (z.globals = mainGlobals) && (decide (z.builtins = builtinsNs) && (match z.closure, z.code, z.defaults with
    | [(n, cc)], .ref cda, .none => decide (n = "__class__") && (PySem.W.codeIn K (.ref cda) "NeedError.__init__" && ((match K.lookup cda with
        | some ⟨_, _, .fields vs, _⟩ => (match (vs[2]? : Option Value) with
          | some (Value.str file _) => decide (file = "/claim/cut.py")
          | _ => false)
        | _ => false) && (match K.lookup cc with
        | some ⟨_, _, .cell (some (.ref D')), _⟩ => decide (D' = D)
        | _ => false)))
    | _, _, _ => false)))))))
  | _ => false
abbrev erD (K : PySem.W.Frag) : Addr := He.ga K "NeedError"
abbrev erI (K : PySem.W.Frag) : Addr := He.ma K (erD K) "__init__"
def oexB (K : PySem.W.Frag) (C : Addr) : Bool := match K.lookup C with
  | some ⟨.type t, _, .cls cd, sl⟩ => decide (t = "type") && (match cd.mro, sl.toList with
    | .ref C' :: bm, [_, _, _, _, some (.builtin n), _] => decide (C' = C) && (decide (n = "ValueError.__new__") && (!cd.hasDel && (PySem.HandSPX.refsVE bm && cd.hasDict)))
    | _, _ => false)
  | _ => false
def errB (K : PySem.W.Frag) (C D fI : Addr) : Bool := oexB K C && (He.eqO (PySem.W.findIn K (.ref C) "__setattr__") (some (some (.builtin "object.__setattr__"))) && (decide (PySem.W.subIn K (.ref C) (.type "BaseException") = some true) && (decide (PySem.W.typeIn K (.ref C) = some (.type "type")) && (PySem.W.keepIn K (.ref C) &&
  (He.eqO (PySem.W.findIn K (.ref C) "value") (some none) && (decide (PySem.W.mroIn K C (.ref D) = some true) && (He.eqO (PySem.W.ks_superIn K C D "__init__") (some (some (.builtin "ValueError.__init__"))) && (decide (PySem.W.subIn K (.ref C) (.type "ValueError") = some true) && (He.eqO (PySem.W.nsIn K cStatics "thirdparty.any") (some none) &&
  (xfB K C && ((PySem.W.clsIn K C).isSome && (He.eqO (PySem.W.findIn K (.ref C) "__class__") (some (some (.builtin "object.__class__"))) && (He.eqO (PySem.W.specialIn K (.builtin "object.__class__") "__get__") (some (some (.builtin "getset_descriptor.__get__"))) && (decide (PySem.W.takesIn K (.builtin "object.__class__") = some true) && (decide (PySem.W.mroIn K C (.type "object") = some true) &&
  (He.eqO (PySem.W.findIn K (.ref C) "__init__") (some (some (.ref fI))) && (decide (PySem.W.typeIn K (.ref fI) = some (.type "function")) && (decide (PySem.W.exmOne K (.ref C) (.ref D) = some true) && decide (PySem.W.kitOne K (.type "NoneType") (.ref C) = some false)))))))))))))))))))
def ckErr (x : Str) : Ck := fun K => errB K (He.ga K x) (erD K) (erI K)
def ckInit : Ck := fun K => initK K (erI K) (erD K) && (PySem.W.clsIn K (erD K)).isSome
def ckKit (x y : Str) (b : Bool) : Ck := fun K => decide (PySem.W.kitOne K (.ref (He.ga K x)) (.ref (He.ga K y)) = some b)
end Mi
namespace K03
open PySem PySem.Spec PyProof.Rows L2 Mi
def top (i : Nat) : Stmt := PySem.Challenge.pw_stretchneeds_k03_bounds_of_books.main.body.getD i (.Pass ⟨0, 0, 0, 0⟩)
abbrev s_ulaw_places : Stmt := (top 44)
abbrev s_ulaw_take : Stmt := (top 42)
abbrev s_ulaw_some : Stmt := (top 43)
abbrev s_ulaw_told : Stmt := (top 45)
abbrev s_Reading_init : Stmt := ((Mi.clsB (top 35)).getD 0 (.Pass ⟨0, 0, 0, 0⟩))
abbrev s_are_unlike : Stmt := (top 17)
abbrev s_is_name : Stmt := (top 15)
abbrev s_Reading_reads_works : Stmt := ((Mi.clsB (top 35)).getD 2 (.Pass ⟨0, 0, 0, 0⟩))
abbrev s_reached : Stmt := (top 20)
abbrev s_Reading_reads_need : Stmt := ((Mi.clsB (top 35)).getD 3 (.Pass ⟨0, 0, 0, 0⟩))
abbrev s_number_in : Stmt := (top 16)
abbrev s_Reading_reads_due : Stmt := ((Mi.clsB (top 35)).getD 4 (.Pass ⟨0, 0, 0, 0⟩))
abbrev s_is_integer : Stmt := (top 13)
abbrev s_are_hands : Stmt := (top 34)
abbrev s_Reading_reads_hands : Stmt := ((Mi.clsB (top 35)).getD 5 (.Pass ⟨0, 0, 0, 0⟩))
abbrev s_Reading_reads : Stmt := ((Mi.clsB (top 35)).getD 1 (.Pass ⟨0, 0, 0, 0⟩))
abbrev s_lot_of : Stmt := (top 18)
abbrev s_Frame_init : Stmt := ((Mi.clsB (top 21)).getD 0 (.Pass ⟨0, 0, 0, 0⟩))
abbrev s_read : Stmt := (top 36)
abbrev s_Book_init : Stmt := ((Mi.clsB (top 39)).getD 0 (.Pass ⟨0, 0, 0, 0⟩))
abbrev s_Book_text : Stmt := ((Mi.clsB (top 39)).getD 1 (.Pass ⟨0, 0, 0, 0⟩))
abbrev s_ulaw_is_book : Stmt := (top 46)
abbrev s_ulaw_is_wrong : Stmt := (top 47)
abbrev s_ulaw_are_names_right : Stmt := (top 48)
abbrev s_ulaw_are_needs_right : Stmt := (top 49)
abbrev s_ulaw_are_numbers_right : Stmt := (top 50)
abbrev s_ulaw_right : Stmt := (top 51)
abbrev s_ulaw_pot : Stmt := (top 41)
abbrev s_law : Stmt := (top 52)
def dummyD : DefM := ⟨fun _ => 0, "", "", defArgs (.Pass ⟨0, 0, 0, 0⟩), [], defScope (.Pass ⟨0, 0, 0, 0⟩), []⟩
def tbs : TbL := [(fun K => He.ga K "_law_is_book", ("_law_is_book" : Str) ++ ".<locals>." ++ "<lambda>"),
  (fun K => He.ga K "_law_is_wrong", ("_law_is_wrong" : Str) ++ ".<locals>." ++ "<lambda>")]
def fa : List He.Fa := [.free "len", .free "min", .free "max", .free "list", .free "range", .glo "_law_places", .keep "_law_places", .free "int", .glo "_law_take", .keep "_law_take", .glo "_law_some", .keep "_law_some", .glo "__builtins__", .free "isinstance", .free "str", .glo "BadBook", .free "super", .str "FEED" "\n", .cls "Reading", .noat "Reading" "told_works", .noat "Reading" "told_needs", .noat "Reading" "told_dues", .noat "Reading" "told_hands", .noat "Reading" "own_stage", .glo "Reading", .mkr "Reading", .free "enumerate", .str "BLANK" " ", .glo "LINES", .str "WORKS" "works", .free "tuple", .int "MOST_WORKS" 8, .free "all", .glo "are_unlike", .keep "are_unlike", .int "MOST_SIGNS" 8, .str "SIGNS" "abcdefghijklmnopqrstuvwxyz", .glo "is_name", .keep "is_name", .meth "Reading" "reads_works", .str "AHEAD" "ahead", .int "PAIR" 2, .int "MOST_NEEDS" 20, .glo "reached", .keep "reached", .meth "Reading" "reads_need", .str "DUE" "due", .str "MINUS" "-", .str "FIGURES" "0123456789", .glo "number_in", .keep "number_in", .int "MOST_HOUR" 40, .meth "Reading" "reads_due", .int "MOST_NUMBERS" 12, .free "bool", .glo "is_integer", .keep "is_integer", .int "MOST_HANDS" 4, .glo "are_hands", .keep "are_hands", .meth "Reading" "reads_hands", .meth "Reading" "reads", .cls "Frame", .noat "Frame" "all_works", .noat "Frame" "all_needs", .noat "Frame" "all_dues", .noat "Frame" "all_hands", .glo "lot_of", .keep "lot_of", .noat "Frame" "after", .noat "Frame" "before", .glo "Frame", .mkr "Frame", .glo "read", .keep "read", .cls "Book", .noat "Book" "own_frame", .noat "Book" "own_text", .glo "Book", .mkr "Book", .glo "_law_told", .glo "NeedError", .glo "_law_is_book", .keep "_law_is_book", .free "repr", .glo "_law_is_wrong", .keep "_law_is_wrong", .glo "_law_are_names_right", .keep "_law_are_names_right", .free "zip", .glo "_law_are_needs_right", .keep "_law_are_needs_right", .glo "_law_are_numbers_right", .keep "_law_are_numbers_right", .glo "_law_right", .keep "_law_right", .free "abs", .glo "_law_pot", .keep "_law_pot", .glo "law", .keep "law"]
def fn : List DefM := [⟨fun K => He.ga K "_law_places", "_law_places", "_law_places", defArgs s_ulaw_places, defBody s_ulaw_places, defScope s_ulaw_places, []⟩,
  ⟨fun K => He.ga K "_law_take", "_law_take", "_law_take", defArgs s_ulaw_take, defBody s_ulaw_take, defScope s_ulaw_take, []⟩,
  ⟨fun K => He.ga K "_law_some", "_law_some", "_law_some", defArgs s_ulaw_some, defBody s_ulaw_some, defScope s_ulaw_some, []⟩,
  ⟨fun K => He.ga K "_law_told", "_law_told", "_law_told", defArgs s_ulaw_told, defBody s_ulaw_told, defScope s_ulaw_told, []⟩,
  ⟨fun K => He.ma K (He.ga K "Reading") "__init__", "__init__", "Reading.__init__", defArgs s_Reading_init, defBody s_Reading_init, defScope s_Reading_init, []⟩,
  ⟨fun K => He.ga K "are_unlike", "are_unlike", "are_unlike", defArgs s_are_unlike, defBody s_are_unlike, defScope s_are_unlike, []⟩,
  ⟨fun K => He.ga K "is_name", "is_name", "is_name", defArgs s_is_name, defBody s_is_name, defScope s_is_name, []⟩,
  ⟨fun K => He.ma K (He.ga K "Reading") "reads_works", "reads_works", "Reading.reads_works", defArgs s_Reading_reads_works, defBody s_Reading_reads_works, defScope s_Reading_reads_works, []⟩,
  ⟨fun K => He.ga K "reached", "reached", "reached", defArgs s_reached, defBody s_reached, defScope s_reached, []⟩,
  ⟨fun K => He.ma K (He.ga K "Reading") "reads_need", "reads_need", "Reading.reads_need", defArgs s_Reading_reads_need, defBody s_Reading_reads_need, defScope s_Reading_reads_need, []⟩,
  ⟨fun K => He.ga K "number_in", "number_in", "number_in", defArgs s_number_in, defBody s_number_in, defScope s_number_in, []⟩,
  ⟨fun K => He.ma K (He.ga K "Reading") "reads_due", "reads_due", "Reading.reads_due", defArgs s_Reading_reads_due, defBody s_Reading_reads_due, defScope s_Reading_reads_due, []⟩,
  ⟨fun K => He.ga K "is_integer", "is_integer", "is_integer", defArgs s_is_integer, defBody s_is_integer, defScope s_is_integer, [.non, .non]⟩,
  ⟨fun K => He.ga K "are_hands", "are_hands", "are_hands", defArgs s_are_hands, defBody s_are_hands, defScope s_are_hands, []⟩,
  ⟨fun K => He.ma K (He.ga K "Reading") "reads_hands", "reads_hands", "Reading.reads_hands", defArgs s_Reading_reads_hands, defBody s_Reading_reads_hands, defScope s_Reading_reads_hands, []⟩,
  ⟨fun K => He.ma K (He.ga K "Reading") "reads", "reads", "Reading.reads", defArgs s_Reading_reads, defBody s_Reading_reads, defScope s_Reading_reads, []⟩,
  ⟨fun K => He.ga K "lot_of", "lot_of", "lot_of", defArgs s_lot_of, defBody s_lot_of, defScope s_lot_of, []⟩,
  ⟨fun K => He.ma K (He.ga K "Frame") "__init__", "__init__", "Frame.__init__", defArgs s_Frame_init, defBody s_Frame_init, defScope s_Frame_init, []⟩,
  ⟨fun K => He.ga K "read", "read", "read", defArgs s_read, defBody s_read, defScope s_read, []⟩,
  ⟨fun K => He.ma K (He.ga K "Book") "__init__", "__init__", "Book.__init__", defArgs s_Book_init, defBody s_Book_init, defScope s_Book_init, []⟩,
  ⟨fun K => gAd K (He.ga K "Book") "text", "text", "Book.text", defArgs s_Book_text, defBody s_Book_text, defScope s_Book_text, []⟩,
  ⟨fun K => He.ga K "_law_is_book", "_law_is_book", "_law_is_book", defArgs s_ulaw_is_book, defBody s_ulaw_is_book, defScope s_ulaw_is_book, []⟩,
  ⟨fun K => He.ga K "_law_is_wrong", "_law_is_wrong", "_law_is_wrong", defArgs s_ulaw_is_wrong, defBody s_ulaw_is_wrong, defScope s_ulaw_is_wrong, []⟩,
  ⟨fun K => He.ga K "_law_are_names_right", "_law_are_names_right", "_law_are_names_right", defArgs s_ulaw_are_names_right, defBody s_ulaw_are_names_right, defScope s_ulaw_are_names_right, []⟩,
  ⟨fun K => He.ga K "_law_are_needs_right", "_law_are_needs_right", "_law_are_needs_right", defArgs s_ulaw_are_needs_right, defBody s_ulaw_are_needs_right, defScope s_ulaw_are_needs_right, []⟩,
  ⟨fun K => He.ga K "_law_are_numbers_right", "_law_are_numbers_right", "_law_are_numbers_right", defArgs s_ulaw_are_numbers_right, defBody s_ulaw_are_numbers_right, defScope s_ulaw_are_numbers_right, []⟩,
  ⟨fun K => He.ga K "_law_right", "_law_right", "_law_right", defArgs s_ulaw_right, defBody s_ulaw_right, defScope s_ulaw_right, []⟩,
  ⟨fun K => He.ga K "_law_pot", "_law_pot", "_law_pot", defArgs s_ulaw_pot, defBody s_ulaw_pot, defScope s_ulaw_pot, []⟩,
  ⟨fun K => He.ga K "law", "law", "law", defArgs s_law, defBody s_law, defScope s_law, []⟩]
def ck : List Ck := [ckAll tbs, ckErr "BadBook", ckInit, ckTup "LINES" ["works", "ahead", "due", "hands"], ckProp "Book" "text", ckKit "BadBook" "BadBook" true]
end K03
namespace K03
open PySem PySem.Spec PyProof.Rows L2 Mi
def loose0 : List Str := ["_wall", "__name__", "NeedError", "BadBook", "NoWork", "BadHands", "BLANK", "FEED", "MINUS", "SIGNS", "FIGURES", "MOST_SIGNS", "is_integer", "is_word", "is_name", "number_in", "are_unlike", "lot_of", "reached", "Frame", "WORKS", "AHEAD", "DUE", "HANDS", "LINES", "MOST_WORKS", "MOST_NEEDS", "MOST_HOUR", "MOST_NUMBERS", "MOST_HANDS"]
def loose1 : List Str := ["PAIR", "are_hands", "Reading", "read", "text_by", "Book", "_law_pot", "_law_take", "_law_some", "_law_places", "_law_told", "_law_is_book", "_law_is_wrong", "_law_are_names_right", "_law_are_needs_right", "_law_are_numbers_right", "_law_right"]
def loose : List Str := loose0 ++ loose1
def told0 : List Addr := [3, 6, 4, 21, 40, 53, 65, 77, 87, 94, 99, 104, 109, 114, 119, 181, 186, 191, 237, 248, 253, 408, 419, 426, 433, 440, 447, 454, 461, 466, 471, 476, 483, 488, 0, 20, 39, 52, 64, 76, 86, 80, 93, 98, 103, 108, 113, 118, 180, 190, 236, 247, 252, 407, 418, 425, 432, 439, 446, 453, 460, 465, 470, 475, 482, 487, 15, 16, 17, 18, 19, 37, 38, 41, 51, 63, 75, 81, 82, 83, 84, 85, 88, 89, 90, 91, 92, 95, 96, 97, 100, 101, 102, 105, 106, 107, 110, 111, 112, 115, 116, 117, 131, 138, 145, 152, 159, 166, 171, 178, 179, 182, 183, 187, 188, 189, 205, 212, 217, 222, 229, 234, 235, 238, 239, 242, 243, 244, 245, 246, 249, 250, 251, 267, 275, 283, 291, 299, 307, 314, 321, 328, 335, 342, 349, 356, 363, 370, 377, 384, 391, 398, 405, 406, 409, 410, 413, 414, 415, 416, 417, 420, 421, 422, 423, 424, 427, 428, 429, 430, 431, 434, 435, 436, 437, 438, 441, 442, 443, 444, 445, 448, 449, 450, 451, 452, 455, 456, 457, 458, 459, 462, 463, 464, 467, 468, 469, 472, 473, 474]
def told1 : List Addr := [477, 478, 479, 480, 481, 484, 485, 486, 36, 25, 130, 137, 144, 151, 158, 165, 170, 177, 204, 211, 216, 221, 228, 233, 266, 274, 282, 290, 298, 306, 313, 320, 327, 334, 341, 348, 355, 362, 369, 376, 383, 390, 397, 404, 31, 32, 33, 34, 35, 127, 128, 129, 132, 133, 134, 135, 136, 139, 140, 141, 142, 143, 146, 147, 148, 149, 150, 153, 154, 155, 156, 157, 160, 161, 162, 163, 164, 167, 168, 169, 172, 173, 174, 175, 176, 199, 200, 201, 202, 203, 206, 207, 208, 209, 210, 213, 214, 215, 218, 219, 220, 223, 224, 225, 226, 227, 230, 231, 232, 261, 262, 263, 264, 265, 273, 281, 289, 297, 305, 308, 309, 310, 311, 312, 315, 316, 317, 318, 319, 322, 323, 324, 325, 326, 329, 330, 331, 332, 333, 336, 337, 338, 339, 340, 343, 344, 345, 346, 347, 350, 351, 352, 353, 354, 357, 358, 359, 360, 361, 364, 365, 366, 367, 368, 371, 372, 373, 374, 375, 378, 379, 380, 381, 382, 385, 386, 387, 388, 389, 392, 393, 394, 395, 396, 399, 400, 401, 402, 403, 2]
def told : List Addr := told0 ++ told1
abbrev TheRow : PySem.W.OpenRow := PySem.W.OpenLaw.row PySem.Challenge.rw_stretchneeds_k03_bounds_of_books
abbrev hk : PySem.W.Hook := hookA told fa fn ck (tbs.map (·.1))
def ob (s : PySem.W.SharedT) : AlE := obsA told fa fn ck (tbs.map (·.1)) (HandSHeadRun.getT s)
theorem ob_eq (s : PySem.W.SharedT) : ob s = hk.obs s.abs := obsA_eq (HandSHeadRun.getT_eq s)
theorem run (w : World) : HandSHeadRun.RunEq TheRow (PySem.W.view TheRow.prog [52]) hk ob 8000 loose w := by
  intro os
  kernel_rfl
end K03
namespace Mi
open PySem PySem.Spec PyProof.Rows L2

inductive T where
  | non | bl (b : Bool) | int (i : Int) | str (x : List Nat)
  | tup (xs : List T) | lst (xs : List T) | dct (tk : Bool) (kvs : List (T × T))
  | obj (c : Nat) (fs : List T)
  | xob (c : Nat) (t : T)
  | ktup (xs : List T) | klst (xs : List T)
  | loc (n : Nat)
  deriving Inhabited

inductive MO where
  | gone | lst (xs : List T) | dct (tk : Bool) (kvs : List (T × T)) | obj (c : Nat) (fs : List T)
  deriving Inhabited

abbrev Mem := List MO
abbrev TV := List (Option T)

inductive Res (α : Type) where
  | ok (a : α) (M : Mem)
  | exc (c : Nat) (v : T) (M : Mem)
  | err
  deriving Inhabited

def symB : Nat := 1114112
def symN : Nat := 16
def awayW : List (List Nat) := [[110, 111, 115, 117, 99, 104], [109, 111, 114, 101], [97, 98, 99, 100, 101, 102, 103, 104]]
structure Om where
  cls : Nat → Addr
  fld : Nat → List Str
  
  rho : Nat → List Nat
  rne : ∀ c, rho c ≠ []
  rle : ∀ c, (rho c).length ≤ 8
  rch : ∀ c x, x ∈ rho c → 97 ≤ x ∧ x ≤ 122
  raw : ∀ c, rho c ∉ awayW
  
  tabs : List (Addr × Str) := []
  rij : ∀ i j, i < symN → j < symN → rho (symB + i) = rho (symB + j) → i = j

def spell (r : Nat → List Nat) (x : List Nat) : List Nat := x.flatMap fun c => if c < symB then [c] else r c

def Live (ι : List Addr) (M : Mem) (a : Addr) : Prop := ∃ (n : Nat) (o : MO), ι[n]? = some a ∧ M[n]? = some o ∧ o ≠ .gone

inductive RK (Ω : Om) : T → Key → Prop
  | int (i) : RK Ω (.int i) (.inl i)
  | str (x s) : s.cps.toList = spell Ω.rho x → RK Ω (.str x) (.inr s)
inductive RKs (Ω : Om) : List T → List Key → Prop
  | nil : RKs Ω [] []
  | cons {t k ts ks} : RK Ω t k → RKs Ω ts ks → RKs Ω (t :: ts) (k :: ks)
inductive RKt (Ω : Om) : T → List Key → Prop
  | mk {ts ks} : RKs Ω ts ks → RKt Ω (.tup ts) ks
inductive RKts (Ω : Om) : List T → List (List Key) → Prop
  | nil : RKts Ω [] []
  | cons {t k ts ks} : RKt Ω t k → RKts Ω ts ks → RKts Ω (t :: ts) (k :: ks)


abbrev KL (K : PySem.W.Frag) (H : Hp) (a : Addr) (vs : List V) : Prop := (∃ o, H a = some (.frz o (.lst vs))) ∨ ∃ (o : Obj) (its : Array Value) (n : Nat), K.lookup a = some o ∧ o.cls = .type "list" ∧ o.dict = none ∧ o.data = .seq its n ∧ its.size ≤ sizeLine ∧ Vals vs its.toList
def ND (K : PySem.W.Frag) (H : Hp) (a : Addr) : Prop := (∃ (o : Obj) (ws : List V), H a = some (.frz o (.tup ws)) ∧ o.cls = .type "tuple" ∧ o.dict = none) ∨ ∃ o : Obj, K.lookup a = some o ∧ o.cls = .type "tuple" ∧ o.dict = none
theorem KL.sql {K : PySem.W.Frag} {H : Hp} {a : Addr} {vs : List V} (h : KL K H a vs) : SqL K H a vs := h.elim (fun q => .inl (.inr q)) .inr
abbrev xO : HO := .ext fun _ => True
section
variable (K : PySem.W.Frag) (Ω : Om) (Z : List Addr) (ι : List Addr) (M : Mem) (H : Hp)
def Still (a : Addr) : Prop := ¬ Live ι M a ∧ a ∉ Z
mutual
inductive R : T → V → Prop
  | non : R .non .non
  | bl (b) : R (.bl b) (.bl b)
  | int (i) : R (.int i) (.int i)
  | str (x s) : s.cps.toList = spell Ω.rho x → x.length ≤ 2000000 → R (.str x) (.str s)
  | tup {ts a vs} : H a = some (.tup vs) → Rs ts vs → R (.tup ts) (.ref a)
  | ktup {ts a vs} : SqT K H a vs → ND K H a → Rs ts vs → R (.ktup ts) (.ref a)
  | lst {ts a vs} : H a = some (.lst vs) → Still Z ι M a → Rs ts vs → R (.lst ts) (.ref a)
  | klst {ts a vs} : KL K H a vs → Rs ts vs → R (.klst ts) (.ref a)
  | dK {kvs a ws} : Rd H a (.dK ws) → Still Z ι M a → RKs Ω (kvs.map (·.1)) (ws.map (·.1)) → Rs (kvs.map (·.2)) (ws.map (·.2)) → R (.dct false kvs) (.ref a)
  | dT {kvs a ws} : Rd H a (.dT ws) → Still Z ι M a → RKts Ω (kvs.map (·.1)) (ws.map (·.1)) → Rs (kvs.map (·.2)) (ws.map (·.2)) → R (.dct true kvs) (.ref a)
  | obj {c fs a dx ws} : H a = some (.ins (Ω.cls c) dx ws) → Still Z ι M a → ws.map (·.1) = (Ω.fld c).take ws.length → Rs fs (ws.map (·.2)) → R (.obj c fs) (.ref a)
  | loc {n a} : ι[n]? = some a → R (.loc n) (.ref a)
  | xob {c t a oe d v} : H a = some (.frz oe xO) → (oe.cls = .ref (Ω.cls c) ∧ oe.dict = some d) → (∃ vs, oe.data = .fields vs) → H d = some (.xd [("value", v)]) → Still Z ι M d → R t v → R (.xob c t) (.ref a)
inductive Rs : List T → List V → Prop
  | nil : Rs [] []
  | cons {t v ts vs} : R t v → Rs ts vs → Rs (t :: ts) (v :: vs)
end

inductive RO : MO → Addr → Prop
  | gone {a o} : H a = some o → RO .gone a
  | lst {ts a vs} : H a = some (.lst vs) → Rs K Ω Z ι M H ts vs → RO (.lst ts) a
  | dK {kvs a ws} : H a = some (.dK ws) → RKs Ω (kvs.map (·.1)) (ws.map (·.1)) → Rs K Ω Z ι M H (kvs.map (·.2)) (ws.map (·.2)) → RO (.dct false kvs) a
  | dT {kvs a ws} : H a = some (.dT ws) → RKts Ω (kvs.map (·.1)) (ws.map (·.1)) → Rs K Ω Z ι M H (kvs.map (·.2)) (ws.map (·.2)) → RO (.dct true kvs) a
  | obj {c fs a dx ws} : H a = some (.ins (Ω.cls c) dx ws) → ws.map (·.1) = (Ω.fld c).take ws.length → Rs K Ω Z ι M H fs (ws.map (·.2)) → RO (.obj c fs) a

structure RM : Prop where
  tab : LamX.Tabs Ω.tabs H
  len : ι.length = M.length
  nd : ∀ (i j : Nat) (a : Addr) (o u : MO), ι[i]? = some a → ι[j]? = some a → M[i]? = some o → M[j]? = some u → o ≠ .gone → u ≠ .gone → i = j
  mem : ∀ (n : Nat) (a : Addr) (o : MO), ι[n]? = some a → M[n]? = some o → RO K Ω Z ι M H o a
  zin : ∀ z ∈ Z, H z ≠ none ∧ ¬ Live ι M z
structure RV (σT : TV) (σ : L2.St) : Prop where
  len : σT.length = σ.length
  at_ : ∀ (i : Nat) (t : T), σT[i]? = some (some t) → ∃ v, σ[i]? = some (some v) ∧ R K Ω Z ι M H t v
end

theorem tabs_upd {T : List (Addr × Str)} {H : Hp} {p : Addr} {o u : HO} (t : LamX.Tabs T H) (h : H p = some o) (t3 : ∀ ps, o ≠ .tbl ps) (t4 : ∀ φ, o ≠ .ext φ) : LamX.Tabs T (upd H p u) := fun q hq => by
  obtain ⟨ps, h1, h2, h3⟩ := t q hq
  refine ⟨ps, by rw [upd_ne (fun z => t3 ps (by rw [z, h] at h1; exact Option.some.inj h1))]; exact h1, h2, fun pos cv hc => ?_⟩
  obtain ⟨c, e1, e2⟩ := h3 pos cv hc
  exact ⟨c, e1, by rw [upd_ne (fun z => t4 _ (by rw [z, h] at e2; exact Option.some.inj e2))]; exact e2⟩
def NT (o : HO) : Prop := ∀ ps, o ≠ .tbl ps
structure Ext (Z : List Addr) (ι : List Addr) (M : Mem) (H : Hp) (ι' : List Addr) (M' : Mem) (H' : Hp) : Prop where
  pre : ∃ more, ι' = ι ++ more
  frozE : ∀ a o, H a = some o → Still Z ι M a → NT o → H' a = some o ∧ ¬ Live ι' M' a
  tups : ∀ a vs, H a = some (.tup vs) → H' a = some (.tup vs)
  frzs : ∀ a o u, H a = some (.frz o u) → H' a = some (.frz o u)
  there : ∀ a, H a ≠ none → H' a ≠ none

section
variable {K : PySem.W.Frag} {Ω : Om} {Z : List Addr} {ι ι' ι'' : List Addr} {M M' M'' : Mem} {H H' H'' : Hp}
theorem Ext.froz (e : Ext Z ι M H ι' M' H') (a : Addr) (o : HO) (h : H a = some o) (n : Still Z ι M a) (t : NT o := by intro _ z; cases z) : H' a = some o ∧ ¬ Live ι' M' a := e.frozE a o h n t
theorem Ext.to {Z' : List Addr} (e : Ext Z ι M H ι' M' H') (h : ∀ z ∈ Z, z ∈ Z') : Ext Z' ι M H ι' M' H' := ⟨e.pre, fun a o q n t => e.froz a o q ⟨n.1, fun z => n.2 (h a z)⟩ t, e.tups, e.frzs, e.there⟩
theorem Ext.any (e : Ext [] ι M H ι' M' H') : Ext Z ι M H ι' M' H' := e.to (by simp)
theorem Ext.drop {p : Addr} (e : Ext (p :: Z) ι M H ι' M' H') (h : H p = none) : Ext Z ι M H ι' M' H' := ⟨e.pre, fun a o q n t => e.froz a o q ⟨n.1, fun z => (List.mem_cons.mp z).elim (fun x => by rw [x, h] at q; cases q) n.2⟩ t, e.tups, e.frzs, e.there⟩
theorem Ext.refl : Ext Z ι M H ι M H := ⟨⟨[], by simp⟩, fun _ _ h n _ => ⟨h, n.1⟩, fun _ _ h => h, fun _ _ _ h => h, fun _ h => h⟩
theorem Ext.trans (a : Ext Z ι M H ι' M' H') (b : Ext Z ι' M' H' ι'' M'' H'') : Ext Z ι M H ι'' M'' H'' := by
  obtain ⟨m1, e1⟩ := a.pre
  obtain ⟨m2, e2⟩ := b.pre
  refine ⟨⟨m1 ++ m2, by rw [e2, e1, List.append_assoc]⟩, fun p o h n t => ?_, fun p vs h => b.tups p vs (a.tups p vs h), fun p o u h => b.frzs p o u (a.frzs p o u h), fun p h => b.there p (a.there p h)⟩
  obtain ⟨h1, n1⟩ := a.froz p o h n t
  exact b.froz p o h1 ⟨n1, n.2⟩ t
theorem Ext.still (e : Ext Z ι M H ι' M' H') {a : Addr} {o : HO} (h : H a = some o) (n : Still Z ι M a) (t : NT o := by intro _ z; cases z) : H' a = some o ∧ Still Z ι' M' a :=
  let q := e.froz a o h n t
  ⟨q.1, q.2, n.2⟩
theorem Ext.rd (e : Ext Z ι M H ι' M' H') {a : Addr} {u : HO} (h : Rd H a u) (n : Still Z ι M a) (t : NT u := by intro _ z; cases z) : Rd H' a u ∧ Still Z ι' M' a := by
  rcases h with h | ⟨o, h⟩
  · exact ⟨.inl (e.still h n t).1, (e.still h n t).2⟩
  · exact ⟨.inr ⟨o, (e.still h n).1⟩, (e.still h n).2⟩
theorem Ext.sqt (e : Ext Z ι M H ι' M' H') {a : Addr} {vs : List V} (h : SqT K H a vs) : SqT K H' a vs := by
  rcases h with (h | ⟨o, h⟩) | h
  · exact .inl (.inl (e.tups a _ h))
  · exact .inl (.inr ⟨o, e.frzs a _ _ h⟩)
  · exact .inr h
theorem Ext.nd (e : Ext Z ι M H ι' M' H') {a : Addr} (h : ND K H a) : ND K H' a := h.elim (fun ⟨o, u, q, r⟩ => .inl ⟨o, u, e.frzs a _ _ q, r⟩) .inr
mutual
theorem R.ext (e : Ext Z ι M H ι' M' H') : ∀ {t : T} {v : V}, R K Ω Z ι M H t v → R K Ω Z ι' M' H' t v
  | _, _, .non => .non
  | _, _, .bl b => .bl b
  | _, _, .int i => .int i
  | _, _, .str x s h l => .str x s h l
  | _, _, .tup h r => .tup (e.tups _ _ h) (Rs.ext e r)
  | _, _, .ktup h d r => .ktup (e.sqt h) (e.nd d) (Rs.ext e r)
  | _, _, .lst h n r => .lst (e.still h n).1 (e.still h n).2 (Rs.ext e r)
  | _, _, .klst h r => .klst (h.elim (fun ⟨o, q⟩ => .inl ⟨o, e.frzs _ _ _ q⟩) .inr) (Rs.ext e r)
  | _, _, .dK h n k r => .dK (e.rd h n).1 (e.rd h n).2 k (Rs.ext e r)
  | _, _, .dT h n k r => .dT (e.rd h n).1 (e.rd h n).2 k (Rs.ext e r)
  | _, _, .obj h n k r => .obj (e.still h n).1 (e.still h n).2 k (Rs.ext e r)
  | _, _, .xob h1 h2 h3 h4 n r => .xob (e.frzs _ _ _ h1) h2 h3 (e.still h4 n).1 (e.still h4 n).2 (R.ext e r)
  | _, _, .loc h => .loc (by
      obtain ⟨m, q⟩ := e.pre
      rw [q, List.getElem?_append_left (List.getElem?_eq_some_iff.mp h).1]
      exact h)
theorem Rs.ext (e : Ext Z ι M H ι' M' H') : ∀ {ts : List T} {vs : List V}, Rs K Ω Z ι M H ts vs → Rs K Ω Z ι' M' H' ts vs
  | _, _, .nil => .nil
  | _, _, .cons r t => .cons (R.ext e r) (Rs.ext e t)
end
theorem RV.ext (e : Ext Z ι M H ι' M' H') {σT : TV} {σ : L2.St} (r : RV K Ω Z ι M H σT σ) : RV K Ω Z ι' M' H' σT σ := ⟨r.len, fun i t h =>
  let ⟨v, a, b⟩ := r.at_ i t h
  ⟨v, a, b.ext e⟩⟩
theorem Still.sub {Z' : List Addr} (h : ∀ z ∈ Z', z ∈ Z) {a : Addr} (n : Still Z ι M a) : Still Z' ι M a := ⟨n.1, fun z => n.2 (h a z)⟩
mutual
theorem R.sub {Z' : List Addr} (h : ∀ z ∈ Z', z ∈ Z) : ∀ {t : T} {v : V}, R K Ω Z ι M H t v → R K Ω Z' ι M H t v
  | _, _, .non => .non
  | _, _, .bl b => .bl b
  | _, _, .int i => .int i
  | _, _, .str x s h l => .str x s h l
  | _, _, .tup q r => .tup q (Rs.sub h r)
  | _, _, .ktup q d r => .ktup q d (Rs.sub h r)
  | _, _, .lst q n r => .lst q (n.sub h) (Rs.sub h r)
  | _, _, .klst q r => .klst q (Rs.sub h r)
  | _, _, .dK q n k r => .dK q (n.sub h) k (Rs.sub h r)
  | _, _, .dT q n k r => .dT q (n.sub h) k (Rs.sub h r)
  | _, _, .obj q n k r => .obj q (n.sub h) k (Rs.sub h r)
  | _, _, .xob h1 h2 h3 h4 n r => .xob h1 h2 h3 h4 (n.sub h) (R.sub h r)
  | _, _, .loc q => .loc q
theorem Rs.sub {Z' : List Addr} (h : ∀ z ∈ Z', z ∈ Z) : ∀ {ts : List T} {vs : List V}, Rs K Ω Z ι M H ts vs → Rs K Ω Z' ι M H ts vs
  | _, _, .nil => .nil
  | _, _, .cons r t => .cons (R.sub h r) (Rs.sub h t)
end
theorem RO.sub {Z' : List Addr} (h : ∀ z ∈ Z', z ∈ Z) : ∀ {o : MO} {a : Addr}, RO K Ω Z ι M H o a → RO K Ω Z' ι M H o a
  | _, _, .gone q => .gone q
  | _, _, .lst q r => .lst q (r.sub h)
  | _, _, .dK q k r => .dK q k (r.sub h)
  | _, _, .dT q k r => .dT q k (r.sub h)
  | _, _, .obj q k r => .obj q k (r.sub h)
theorem RM.sub {Z' : List Addr} (h : ∀ z ∈ Z', z ∈ Z) (m : RM K Ω Z ι M H) : RM K Ω Z' ι M H := ⟨m.tab, m.len, m.nd, fun n a o x y => (m.mem n a o x y).sub h, fun z q => m.zin z (h z q)⟩
theorem RV.sub {Z' : List Addr} (h : ∀ z ∈ Z', z ∈ Z) {σT : TV} {σ : L2.St} (r : RV K Ω Z ι M H σT σ) : RV K Ω Z' ι M H σT σ := ⟨r.len, fun i t q =>
  let ⟨v, a, b⟩ := r.at_ i t q
  ⟨v, a, b.sub h⟩⟩
theorem RO.ext (e : Ext Z ι M H ι' M' H') (k : ∀ (a : Addr) (o : HO), H a = some o → (∃ n : Nat, ι[n]? = some a) → ∃ o', H' a = some o') : ∀ {o : MO} {a : Addr}, (∃ n : Nat, ι[n]? = some a) → RO K Ω Z ι M H o a → (o ≠ .gone → H' a = H a) → RO K Ω Z ι' M' H' o a
  | _, _, i, .gone q, _ => let ⟨_, z⟩ := k _ _ q i; .gone z
  | _, _, _, .lst q r, h => .lst ((h (by intro z; cases z)).trans q) (r.ext e)
  | _, _, _, .dK q k r, h => .dK ((h (by intro z; cases z)).trans q) k (r.ext e)
  | _, _, _, .dT q k r, h => .dT ((h (by intro z; cases z)).trans q) k (r.ext e)
  | _, _, _, .obj q k r, h => .obj ((h (by intro z; cases z)).trans q) k (r.ext e)
theorem RO.there : ∀ {o : MO} {a : Addr}, RO K Ω Z ι M H o a → H a ≠ none
  | _, _, .gone q => by rw [q]; exact nofun
  | _, _, .lst q _ => by rw [q]; exact nofun
  | _, _, .dK q _ _ => by rw [q]; exact nofun
  | _, _, .dT q _ _ => by rw [q]; exact nofun
  | _, _, .obj q _ _ => by rw [q]; exact nofun
theorem RM.at {n : Nat} {a : Addr} (m : RM K Ω Z ι M H) (h : ι[n]? = some a) : ∃ o, M[n]? = some o ∧ RO K Ω Z ι M H o a := by
  have hl : n < M.length := by rw [← m.len]; exact (List.getElem?_eq_some_iff.mp h).1
  exact ⟨M[n], List.getElem?_eq_getElem hl, m.mem n a _ h (List.getElem?_eq_getElem hl)⟩
theorem RM.addr {n : Nat} {o : MO} (m : RM K Ω Z ι M H) (h : M[n]? = some o) : ∃ a, ι[n]? = some a ∧ RO K Ω Z ι M H o a := by
  have hl : n < ι.length := by rw [m.len]; exact (List.getElem?_eq_some_iff.mp h).1
  exact ⟨ι[n], List.getElem?_eq_getElem hl, m.mem n _ _ (List.getElem?_eq_getElem hl) h⟩
theorem RM.new (m : RM K Ω Z ι M H) {p : Addr} (h : H p = none) : p ∉ ι := fun q => by
  obtain ⟨n, hn, e⟩ := List.getElem_of_mem q
  obtain ⟨o, _, r⟩ := m.at (n := n) (a := p) (by rw [List.getElem?_eq_getElem hn, e])
  exact r.there h
theorem RM.notLive (m : RM K Ω Z ι M H) {p : Addr} (h : H p = none) : ¬ Live ι M p := fun ⟨n, o, a, _, _⟩ => m.new h (List.mem_of_getElem? a)
theorem RM.notZ (m : RM K Ω Z ι M H) {p : Addr} (h : H p = none) : p ∉ Z := fun z => (m.zin p z).1 h
theorem Ext.new {p : Addr} {o : HO} (h : H p = none) : Ext Z ι M H ι M (upd H p o) := by
  have ne : ∀ a, H a ≠ none → a ≠ p := fun a q e => q (by rw [e]; exact h)
  exact ⟨⟨[], by simp⟩, fun a u q n _ => ⟨by rw [upd_ne (ne a (by rw [q]; exact nofun))]; exact q, n.1⟩, fun a vs q => by rw [upd_ne (ne a (by rw [q]; exact nofun))]; exact q,
    fun a u x q => by rw [upd_ne (ne a (by rw [q]; exact nofun))]; exact q, fun a q => by rw [upd_ne (ne a q)]; exact q⟩
theorem RM.lay (m : RM K Ω Z ι M H) {p : Addr} {o : HO} (h : H p = none) : RM K Ω Z ι M (upd H p o) := by
  have e : Ext Z ι M H ι M (upd H p o) := Ext.new h
  have ne : ∀ a, H a ≠ none → upd H p o a = H a := fun a q => upd_ne fun z => q (by rw [z]; exact h)
  refine ⟨m.tab.ext fun b u q => by rw [ne b (by rw [q]; exact nofun)]; exact q, m.len, m.nd, fun n a u x y => ?_, fun z q => ⟨by rw [ne z (m.zin z q).1]; exact (m.zin z q).1, (m.zin z q).2⟩⟩
  have r := m.mem n a u x y
  exact r.ext e (fun b w q _ => ⟨w, by rw [ne b (by rw [q]; exact nofun)]; exact q⟩) ⟨n, x⟩ (fun _ => ne a r.there)
theorem still_hide {p a : Addr} {u : HO} (h : H p = none) (q : Rd H a u) (n : Still Z ι M a) : Still (p :: Z) ι M a := ⟨n.1, fun z => (List.mem_cons.mp z).elim (fun e => by
  rcases q with q | ⟨_, q⟩ <;> (rw [e, h] at q; cases q)) n.2⟩
mutual
theorem R.hide {p : Addr} (h : H p = none) : ∀ {t : T} {v : V}, R K Ω Z ι M H t v → R K Ω (p :: Z) ι M H t v
  | _, _, .non => .non
  | _, _, .bl b => .bl b
  | _, _, .int i => .int i
  | _, _, .str x s h l => .str x s h l
  | _, _, .tup q r => .tup q (Rs.hide h r)
  | _, _, .ktup q d r => .ktup q d (Rs.hide h r)
  | _, _, .lst q n r => .lst q (still_hide h (.inl q) n) (Rs.hide h r)
  | _, _, .klst q r => .klst q (Rs.hide h r)
  | _, _, .dK q n k r => .dK q (still_hide h q n) k (Rs.hide h r)
  | _, _, .dT q n k r => .dT q (still_hide h q n) k (Rs.hide h r)
  | _, _, .obj q n k r => .obj q ⟨n.1, fun z => (List.mem_cons.mp z).elim (fun e => by rw [e, h] at q; cases q) n.2⟩ k (Rs.hide h r)
  | _, _, .loc q => .loc q
  | _, _, .xob h1 h2 h3 h4 n r => .xob h1 h2 h3 h4 (still_hide h (.inl h4) n) (R.hide h r)
theorem Rs.hide {p : Addr} (h : H p = none) : ∀ {ts : List T} {vs : List V}, Rs K Ω Z ι M H ts vs → Rs K Ω (p :: Z) ι M H ts vs
  | _, _, .nil => .nil
  | _, _, .cons r t => .cons (R.hide h r) (Rs.hide h t)
end
theorem RO.hide {p : Addr} (h : H p = none) : ∀ {o : MO} {a : Addr}, RO K Ω Z ι M H o a → RO K Ω (p :: Z) ι M H o a
  | _, _, .gone q => .gone q
  | _, _, .lst q r => .lst q (r.hide h)
  | _, _, .dK q k r => .dK q k (r.hide h)
  | _, _, .dT q k r => .dT q k (r.hide h)
  | _, _, .obj q k r => .obj q k (r.hide h)
theorem RV.hide {p : Addr} (h : H p = none) {σT : TV} {σ : L2.St} (r : RV K Ω Z ι M H σT σ) : RV K Ω (p :: Z) ι M H σT σ := ⟨r.len, fun i t q =>
  let ⟨v, a, b⟩ := r.at_ i t q
  ⟨v, a, b.hide h⟩⟩
theorem RM.layH (m : RM K Ω Z ι M H) {p : Addr} {o : HO} (h : H p = none) : RM K Ω (p :: Z) ι M (upd H p o) := by
  have e : Ext (p :: Z) ι M H ι M (upd H p o) := Ext.new h
  have ne : ∀ a, H a ≠ none → upd H p o a = H a := fun a q => upd_ne fun z => q (by rw [z]; exact h)
  refine ⟨m.tab.ext fun b u q => by rw [ne b (by rw [q]; exact nofun)]; exact q, m.len, m.nd, fun n a u x y => ?_, fun z q => ?_⟩
  · have r := m.mem n a u x y
    exact (r.hide h).ext e (fun b w q _ => ⟨w, by rw [ne b (by rw [q]; exact nofun)]; exact q⟩) ⟨n, x⟩ (fun _ => ne a r.there)
  · rcases List.mem_cons.mp q with rfl | q
    · exact ⟨by rw [upd_same]; exact nofun, m.notLive h⟩
    · exact ⟨by rw [ne z (m.zin z q).1]; exact (m.zin z q).1, (m.zin z q).2⟩
theorem Ext.turn {p : Addr} {o u : HO} (h : H p = some o) (t1 : ∀ xs, o ≠ .tup xs) (t2 : ∀ x y, o ≠ .frz x y) : Ext (p :: Z) ι M H ι M (upd H p u) := by
  refine ⟨⟨[], by simp⟩, fun a w q n _ => ⟨by rw [upd_ne (fun z => n.2 (by simp [z]))]; exact q, n.1⟩, fun a vs q => ?_, fun a w x q => ?_, fun a q => ?_⟩
  · by_cases z : a = p
    · rw [z, h] at q; exact absurd (Option.some.inj q) (t1 vs)
    · rw [upd_ne z]; exact q
  · by_cases z : a = p
    · rw [z, h] at q; exact absurd (Option.some.inj q) (t2 w x)
    · rw [upd_ne z]; exact q
  · by_cases z : a = p
    · rw [z, upd_same]; exact nofun
    · rw [upd_ne z]; exact q
theorem RM.notIota (m : RM K Ω Z ι M H) {p : Addr} (hp : p ∈ Z) {n : Nat} {o : MO} (h : ι[n]? = some p) (k : M[n]? = some o) : o = .gone := by
  cases o with
  | gone => rfl
  | lst _ => exact absurd ⟨n, _, h, k, nofun⟩ (m.zin p hp).2
  | dct _ _ => exact absurd ⟨n, _, h, k, nofun⟩ (m.zin p hp).2
  | obj _ _ => exact absurd ⟨n, _, h, k, nofun⟩ (m.zin p hp).2
theorem RM.turn {p : Addr} {o u : HO} (m : RM K Ω (p :: Z) ι M H) (h : H p = some o) (t1 : ∀ xs, o ≠ .tup xs) (t2 : ∀ x y, o ≠ .frz x y) (t3 : ∀ ps, o ≠ .tbl ps := by intro _ z; cases z) (t4 : ∀ φ, o ≠ .ext φ := by intro _ z; cases z) : RM K Ω (p :: Z) ι M (upd H p u) := by
  have e : Ext (p :: Z) ι M H ι M (upd H p u) := Ext.turn h t1 t2
  refine ⟨tabs_upd m.tab h t3 t4, m.len, m.nd, fun n a w x y => ?_, fun z q => ⟨e.there z (m.zin z q).1, (m.zin z q).2⟩⟩
  refine (m.mem n a w x y).ext e (fun b v q _ => ?_) ⟨n, x⟩ (fun ng => upd_ne fun z => ng (m.notIota (p := a) (by simp [z]) x y))
  have := e.there b (by rw [q]; exact nofun)
  cases r : upd H p u b with
  | none => exact absurd r this
  | some o' => exact ⟨o', rfl⟩
theorem live_set {n : Nat} {o o' : MO} {a : Addr} (h : M[n]? = some o) (ho : o ≠ .gone) (hn : ι[n]? = some a) (b : Addr) : Live ι (M.set n o') b → Live ι M b := fun ⟨m, u, x, y, z⟩ => by
  have hl : n < M.length := (List.getElem?_eq_some_iff.mp h).1
  by_cases e : n = m
  · subst e
    exact ⟨n, o, x, h, ho⟩
  · rw [List.getElem?_set_ne e] at y
    exact ⟨m, u, x, y, z⟩
theorem Ext.write {n : Nat} {a : Addr} {o o' : MO} {v u : HO} (hn : ι[n]? = some a) (h : M[n]? = some o) (ho : o ≠ .gone) (hv : H a = some v) (t1 : ∀ xs, v ≠ .tup xs) (t2 : ∀ x y, v ≠ .frz x y) : Ext Z ι M H ι (M.set n o') (upd H a u) := by
  have lv : Live ι M a := ⟨n, o, hn, h, ho⟩
  refine ⟨⟨[], by simp⟩, fun b w q s _ => ⟨by rw [upd_ne (fun z => s.1 (by rw [z]; exact lv))]; exact q, fun z => s.1 (live_set h ho hn b z)⟩, fun b vs q => ?_, fun b w x q => ?_, fun b q => ?_⟩
  · by_cases z : b = a
    · rw [z, hv] at q; exact absurd (Option.some.inj q) (t1 vs)
    · rw [upd_ne z]; exact q
  · by_cases z : b = a
    · rw [z, hv] at q; exact absurd (Option.some.inj q) (t2 w x)
    · rw [upd_ne z]; exact q
  · by_cases z : b = a
    · rw [z, upd_same]; exact nofun
    · rw [upd_ne z]; exact q
theorem RM.write (m : RM K Ω Z ι M H) {n : Nat} {a : Addr} {o o' : MO} {v u : HO} (hn : ι[n]? = some a) (h : M[n]? = some o) (ho : o ≠ .gone) (hv : H a = some v) (t1 : ∀ xs, v ≠ .tup xs) (t2 : ∀ x y, v ≠ .frz x y)
    (new : Ext Z ι M H ι (M.set n o') (upd H a u) → RO K Ω Z ι (M.set n o') (upd H a u) o' a) (t3 : ∀ ps, v ≠ .tbl ps := by intro _ z; cases z) (t4 : ∀ φ, v ≠ .ext φ := by intro _ z; cases z) : RM K Ω Z ι (M.set n o') (upd H a u) := by
  have e : Ext Z ι M H ι (M.set n o') (upd H a u) := Ext.write hn h ho hv t1 t2
  have hl : n < M.length := (List.getElem?_eq_some_iff.mp h).1
  have back : ∀ (k : Nat) (w : MO), (M.set n o')[k]? = some w → w ≠ .gone → ∃ w', M[k]? = some w' ∧ w' ≠ .gone := fun k w y g => by
    by_cases z : n = k
    · subst z
      exact ⟨o, h, ho⟩
    · rw [List.getElem?_set_ne z] at y
      exact ⟨w, y, g⟩
  refine ⟨tabs_upd m.tab hv t3 t4, by rw [List.length_set]; exact m.len, fun i j b u w x y p q g1 g2 => ?_, fun k b w x y => ?_, fun z q => ⟨e.there z (m.zin z q).1, fun s => (m.zin z q).2 (live_set h ho hn z s)⟩⟩
  · obtain ⟨_, p1, p2⟩ := back i u p g1
    obtain ⟨_, q1, q2⟩ := back j w q g2
    exact m.nd i j b _ _ x y p1 q1 p2 q2
  by_cases z : n = k
  · subst z
    rw [List.getElem?_set_self hl] at y
    cases y
    rw [hn] at x
    cases x
    exact new e
  · rw [List.getElem?_set_ne z] at y
    have nb : w ≠ .gone → b ≠ a := fun g q => by
      subst q
      exact z (m.nd n k b o w hn x h y ho g)
    refine (m.mem k b w x y).ext e (fun c v q _ => ?_) ⟨k, x⟩ (fun g => upd_ne (nb g))
    have := e.there c (by rw [q]; exact nofun)
    cases r : upd H a u c with
    | none => exact absurd r this
    | some o' => exact ⟨o', rfl⟩
theorem Ext.freeze {n : Nat} {o : MO} {a : Addr} (hn : ι[n]? = some a) (h : M[n]? = some o) (ho : o ≠ .gone) : Ext Z ι M H ι (M.set n .gone) H :=
  ⟨⟨[], by simp⟩, fun b w q s _ => ⟨q, fun z => s.1 (live_set h ho hn b z)⟩, fun b vs q => q, fun b w x q => q, fun b q => q⟩
theorem RM.freeze (m : RM K Ω Z ι M H) {n : Nat} {o : MO} {a : Addr} (hn : ι[n]? = some a) (h : M[n]? = some o) (ho : o ≠ .gone) : RM K Ω Z ι (M.set n .gone) H ∧ Still Z ι (M.set n .gone) a := by
  have e : Ext Z ι M H ι (M.set n .gone) H := Ext.freeze hn h ho
  have hl : n < M.length := (List.getElem?_eq_some_iff.mp h).1
  have back : ∀ (k : Nat) (w : MO), (M.set n .gone)[k]? = some w → w ≠ .gone → n ≠ k ∧ M[k]? = some w := fun k w y g => by
    by_cases z : n = k
    · subst z
      rw [List.getElem?_set_self hl] at y
      cases y
      exact absurd rfl g
    · rw [List.getElem?_set_ne z] at y
      exact ⟨z, y⟩
  have na : ¬ Live ι (M.set n .gone) a := fun ⟨k, w, x, y, z⟩ => by
    obtain ⟨q, y⟩ := back k w y z
    exact q (m.nd n k a o w hn x h y ho z)
  refine ⟨⟨m.tab, by rw [List.length_set]; exact m.len, fun i j b u w x y p q g1 g2 => m.nd i j b _ _ x y (back i u p g1).2 (back j w q g2).2 g1 g2, fun k b w x y => ?_, fun z q => ⟨(m.zin z q).1, fun s => (m.zin z q).2 (live_set h ho hn z s)⟩⟩, na, fun z => (m.zin a z).2 ⟨n, o, hn, h, ho⟩⟩
  by_cases z : n = k
  · subst z
    rw [List.getElem?_set_self hl] at y
    cases y
    rw [hn] at x
    cases x
    cases q : H a with
    | none => exact absurd q (m.mem n a o hn h).there
    | some v => exact .gone q
  · rw [List.getElem?_set_ne z] at y
    exact (m.mem k b w x y).ext e (fun c v q _ => ⟨v, q⟩) ⟨k, x⟩ (fun _ => rfl)
theorem live_push {p : Addr} {o : MO} (len : ι.length = M.length) {b : Addr} (h : Live (ι ++ [p]) (M ++ [o]) b) : Live ι M b ∨ b = p := by
  obtain ⟨k, w, x, y, z⟩ := h
  by_cases q : k < ι.length
  · rw [List.getElem?_append_left q] at x
    rw [List.getElem?_append_left (by omega)] at y
    exact .inl ⟨k, w, x, y, z⟩
  · rw [List.getElem?_append_right (by omega)] at x
    by_cases r : k - ι.length = 0
    · rw [r] at x
      exact .inr (Option.some.inj x).symm
    · rw [List.getElem?_eq_none (by simp; omega)] at x
      cases x
theorem Ext.push {p : Addr} {o : MO} (len : ι.length = M.length) : Ext (p :: Z) ι M H (ι ++ [p]) (M ++ [o]) H :=
  ⟨⟨[p], rfl⟩, fun b w q s _ => ⟨q, fun z => (live_push len z).elim s.1 fun e => s.2 (by simp [e])⟩, fun b vs q => q, fun b w x q => q, fun b q => q⟩
theorem RM.push {p : Addr} {o : MO} (m : RM K Ω (p :: Z) ι M H) (hz : p ∉ Z) (new : Ext (p :: Z) ι M H (ι ++ [p]) (M ++ [o]) H → RO K Ω Z (ι ++ [p]) (M ++ [o]) H o p) : RM K Ω Z (ι ++ [p]) (M ++ [o]) H := by
  have e : Ext (p :: Z) ι M H (ι ++ [p]) (M ++ [o]) H := Ext.push m.len
  have hs : ∀ z ∈ Z, z ∈ p :: Z := fun z q => List.mem_cons_of_mem _ q
  have nl : ¬ Live ι M p := (m.zin p (by simp)).2
  have two : ∀ (k : Nat) (b : Addr) (w : MO), (ι ++ [p])[k]? = some b → (M ++ [o])[k]? = some w → (ι[k]? = some b ∧ M[k]? = some w) ∨ (k = ι.length ∧ b = p) := fun k b w x y => by
    by_cases q : k < ι.length
    · rw [List.getElem?_append_left q] at x
      rw [List.getElem?_append_left (by rw [← m.len]; exact q)] at y
      exact .inl ⟨x, y⟩
    · have hk : k = ι.length := by
        have := (List.getElem?_eq_some_iff.mp x).1
        simp at this
        omega
      subst hk
      rw [List.getElem?_append_right (Nat.le_refl _), Nat.sub_self] at x
      exact .inr ⟨rfl, (Option.some.inj x).symm⟩
  refine ⟨m.tab, by simp [m.len], fun i j b u w x y p1 q1 g1 g2 => ?_, fun k b w x y => ?_, fun z q => ⟨(m.zin z (hs z q)).1, fun s => (live_push m.len s).elim (m.zin z (hs z q)).2 fun e => hz (e ▸ q)⟩⟩
  · rcases two i b u x p1 with ⟨x1, p2⟩ | ⟨x1, x2⟩
    · rcases two j b w y q1 with ⟨y1, q2⟩ | ⟨y1, y2⟩
      · exact m.nd i j b u w x1 y1 p2 q2 g1 g2
      · subst y2
        exact absurd ⟨i, u, x1, p2, g1⟩ nl
    · rcases two j b w y q1 with ⟨y1, q2⟩ | ⟨y1, y2⟩
      · subst x2
        exact absurd ⟨j, w, y1, q2, g2⟩ nl
      · rw [x1, y1]
  · by_cases q : k < ι.length
    · rw [List.getElem?_append_left q] at x
      rw [List.getElem?_append_left (by rw [← m.len]; exact q)] at y
      exact ((m.mem k b w x y).ext e (fun c v q _ => ⟨v, q⟩) ⟨k, x⟩ (fun _ => rfl)).sub hs
    · have hk : k = ι.length := by
        have := (List.getElem?_eq_some_iff.mp x).1
        simp at this
        omega
      subst hk
      rw [List.getElem?_append_right (Nat.le_refl _), Nat.sub_self] at x
      rw [m.len, List.getElem?_append_right (Nat.le_refl _), Nat.sub_self] at y
      cases x
      cases y
      exact new e
theorem RV.set {σT : TV} {σ : L2.St} (r : RV K Ω Z ι M H σT σ) (i : Nat) {t : T} {v : V} (q : R K Ω Z ι M H t v) : RV K Ω Z ι M H (σT.set i (some t)) (σ.set i (some v)) := ⟨by simp [r.len], fun j u h => by
  have hl := r.len
  by_cases e : i = j
  · subst e
    by_cases hi : i < σT.length
    · rw [List.getElem?_set_self hi] at h
      cases h
      exact ⟨v, by rw [List.getElem?_set_self (by omega)], q⟩
    · rw [List.getElem?_eq_none (by simpa using hi)] at h
      cases h
  · rw [List.getElem?_set_ne e] at h
    obtain ⟨w, a, b⟩ := r.at_ j u h
    exact ⟨w, by rw [List.getElem?_set_ne e]; exact a, b⟩⟩
end
end Mi
namespace Mi
open PySem PySem.Spec PyProof.Rows L2

def Res.bind {α β : Type} (r : Res α) (k : α → Mem → Res β) : Res β := match r with
  | .ok a M => k a M
  | .exc c v M => .exc c v M
  | .err => .err
def Res.calm {α : Type} : Res α → Res α
  | .ok a M => .ok a M
  | _ => .err
abbrev EF := TV → Mem → Res T
abbrev TF := TV → Mem → Res Bool
abbrev AF := TV → Mem → Res (List T)
inductive Fl where
  | nx (σ : TV) | rt (t : T) | bk (σ : TV) | ct (σ : TV) | ex (σ : TV) (c : Nat) (t : T)
  deriving Inhabited
abbrev SF := TV → Mem → Option (Fl × Mem)

section
variable (K : PySem.W.Frag) (Ω : Om)
abbrev Rel (α β : Type) := List Addr → List Addr → Mem → Hp → α → β → Prop
def Post {α β : Type} (Rα : Rel α β) (W : Value → Option Addr → Hp → Prop) (Z : List Addr) (ι : List Addr) (M : Mem) (H : Hp) (Q : β → Hp → Prop) : Res α → Prop
  | .ok t M' => ∀ ι' H' v, RM K Ω Z ι' M' H' → Ext [] ι M H ι' M' H' → Rα Z ι' M' H' t v → Q v H'
  | .exc c t M' => ∀ ι' H' dd v, RM K Ω Z ι' M' H' → Ext [] ι M H ι' M' H' → R K Ω Z ι' M' H' t v → H' dd = some (.xd [("value", v)]) → Still Z ι' M' dd → W (.ref (Ω.cls c)) (some dd) H'
  | .err => False
def RB : Rel Bool Bool := fun _ _ _ _ a b => a = b
def lift {α β : Type} (Rα : Rel α β) (W : WX) (f : TV → Mem → Res α) : L2.St → Hp → (β → Hp → Prop) → Prop := fun σ H Q =>
  ∃ Z ι M σT, RM K Ω Z ι M H ∧ RV K Ω Z ι M H σT σ ∧ Post K Ω Rα (fun c d H' => W c d σ H') Z ι M H Q (f σT M)
abbrev liftE : WX → EF → TE := lift K Ω (R K Ω)
abbrev liftT : WX → TF → TT := lift K Ω RB
abbrev liftA : WX → AF → TA := lift K Ω (Rs K Ω)
def PostS (W : WX) (Z : List Addr) (ι : List Addr) (M : Mem) (H : Hp) (D : L2.Ends) : Option (Fl × Mem) → Prop
  | some (.nx σT, M') => ∀ ι' σ' H', RM K Ω Z ι' M' H' → Ext [] ι M H ι' M' H' → RV K Ω Z ι' M' H' σT σ' → D.nx σ' H'
  | some (.rt t, M') => ∀ ι' H' v, RM K Ω Z ι' M' H' → Ext [] ι M H ι' M' H' → R K Ω Z ι' M' H' t v → D.rt v H'
  | some (.bk σT, M') => ∀ ι' σ' H', RM K Ω Z ι' M' H' → Ext [] ι M H ι' M' H' → RV K Ω Z ι' M' H' σT σ' → D.bk σ' H'
  | some (.ct σT, M') => ∀ ι' σ' H', RM K Ω Z ι' M' H' → Ext [] ι M H ι' M' H' → RV K Ω Z ι' M' H' σT σ' → D.ct σ' H'
  | some (.ex σT c t, M') => ∀ ι' σ' H' dd v, RM K Ω Z ι' M' H' → Ext [] ι M H ι' M' H' → RV K Ω Z ι' M' H' σT σ' → R K Ω Z ι' M' H' t v → H' dd = some (.xd [("value", v)]) → Still Z ι' M' dd → W (.ref (Ω.cls c)) (some dd) σ' H'
  | none => False
def liftS (W : WX) (f : SF) : TS := fun D σ H => ∃ Z ι M σT, RM K Ω Z ι M H ∧ RV K Ω Z ι M H σT σ ∧ PostS K Ω W Z ι M H D (f σT M)
end

section
variable {K : PySem.W.Frag} {Ω : Om} {α β γ δ : Type} {Rα : Rel α β} {Rγ : Rel γ δ} {W : WX} {Wh : Value → Option Addr → Hp → Prop} {Z ι ι' : List Addr} {M M' : Mem} {H H' : Hp} {Q : β → Hp → Prop}
theorem Post.ext {r : Res α} (p : Post K Ω Rα Wh Z ι M H Q r) (e : Ext [] ι M H ι' M' H') : Post K Ω Rα Wh Z ι' M' H' Q r := by
  cases r with
  | ok t M2 => exact fun ι2 H2 v m x q => p ι2 H2 v m (e.trans x) q
  | exc c t M2 => exact fun ι2 H2 dd v m x q => p ι2 H2 dd v m (e.trans x) q
  | err => exact p
theorem PostS.ext {D : L2.Ends} {r : Option (Fl × Mem)} (p : PostS K Ω W Z ι M H D r) (e : Ext [] ι M H ι' M' H') : PostS K Ω W Z ι' M' H' D r := by
  match r, p with
  | some (.nx _, _), p => exact fun ι2 σ2 H2 m x q => p ι2 σ2 H2 m (e.trans x) q
  | some (.rt _, _), p => exact fun ι2 H2 v m x q => p ι2 H2 v m (e.trans x) q
  | some (.bk _, _), p => exact fun ι2 σ2 H2 m x q => p ι2 σ2 H2 m (e.trans x) q
  | some (.ct _, _), p => exact fun ι2 σ2 H2 m x q => p ι2 σ2 H2 m (e.trans x) q
  | some (.ex _ _ _, _), p => exact fun ι2 σ2 H2 dd v m x q => p ι2 σ2 H2 dd v m (e.trans x) q
theorem Post.bind {r : Res α} {k : α → Mem → Res γ} {Q : δ → Hp → Prop} {T' : β → Hp → Prop} (p : Post K Ω Rγ Wh Z ι M H Q (r.bind k))
    (h : ∀ ι1 M1 H1 t v, RM K Ω Z ι1 M1 H1 → Ext [] ι M H ι1 M1 H1 → Rα Z ι1 M1 H1 t v → Post K Ω Rγ Wh Z ι1 M1 H1 Q (k t M1) → T' v H1) : Post K Ω Rα Wh Z ι M H T' r := by
  cases r with
  | ok t M1 => exact fun ι1 H1 v m1 e1 r1 => h ι1 M1 H1 t v m1 e1 r1 (Post.ext p e1)
  | exc c t M1 => exact p
  | err => exact p
theorem Post.pure {r : α} {v : β} (p : Post K Ω Rα Wh Z ι M H Q (.ok r M)) (m : RM K Ω Z ι M H) (h : Rα Z ι M H r v) : Q v H := p ι H v m Ext.refl h
end
theorem L2PE.imp {X : Cx} {e : Expr} {t t' : TE} (h : PE X e t) (k : ∀ σ H Q, t' σ H Q → t σ H Q) : PE X e t' := ⟨fun pins s σ H Q I q => h.run pins s σ H Q I (k σ H Q q)⟩
theorem L2PT.imp {X : Cx} {e : Expr} {t t' : TT} (h : PT X e t) (k : ∀ σ H Q, t' σ H Q → t σ H Q) : PT X e t' := ⟨fun pins s σ H Q I q => h.run pins s σ H Q I (k σ H Q q)⟩
theorem L2PA.imp {X : Cx} {e : List Expr} {t t' : TA} (h : PA X e t) (k : ∀ σ H Q, t' σ H Q → t σ H Q) : PA X e t' := ⟨fun pos pins s σ H Q I q => h.run pos pins s σ H Q I (k σ H Q q)⟩
theorem L2PS.imp {X : Cx} {e : Stmt} {t t' : TS} (h : PS X e t) (k : ∀ D σ H, t' D σ H → t D σ H) : PS X e t' := ⟨fun pins s σ H D I q => h.run pins s σ H D I (k D σ H q)⟩
theorem L2PSs.imp {X : Cx} {e : List Stmt} {t t' : TS} (h : PSs X e t) (k : ∀ D σ H, t' D σ H → t D σ H) : PSs X e t' := ⟨fun pins s σ H D I q => h.run pins s σ H D I (k D σ H q)⟩

abbrev ME (X : Cx) (Ω : Om) (W : WX) (e : Expr) (f : EF) : Prop := PE X e (liftE X.K Ω W f)
abbrev MT (X : Cx) (Ω : Om) (W : WX) (e : Expr) (f : TF) : Prop := PT X e (liftT X.K Ω W f)
abbrev MA (X : Cx) (Ω : Om) (W : WX) (es : List Expr) (f : AF) : Prop := PA X es (liftA X.K Ω W f)
abbrev MS (X : Cx) (Ω : Om) (W : WX) (s : Stmt) (f : SF) : Prop := PS X s (liftS X.K Ω W f)
abbrev MSs (X : Cx) (Ω : Om) (W : WX) (s : List Stmt) (f : SF) : Prop := PSs X s (liftS X.K Ω W f)

section
variable {X : Cx} {Ω : Om} {W : WX} {e a b c : Expr} {es : List Expr} {f g : EF} {fa : AF} {ft gt : TF} {pos : Pos}
def eVar (i : Nat) : EF := fun σ M => match σ[i]? with
  | some (some t) => .ok t M
  | _ => .err
def eC (t : T) : EF := fun _ M => .ok t M
theorem me_var (i : Nat) {x : Str} (hN : X.N[i]? = some x := by rfl) (hv : Vis X.env.scope x := by first | exact Or.inl rfl | exact Or.inr (Or.inl rfl) | exact Or.inr (Or.inr rfl)) (hd : (x == ("__debug__" : Str)) = false := by decide)
    (hcd : (x == ("__classdict__" : Str)) = false := by decide) : ME X Ω W (.Name x pos) (eVar i) := L2PE.imp (pe_var hN hv hd hcd) fun σ H Q h => by
  obtain ⟨Z, ι, M, σT, m, r, p⟩ := h
  unfold eVar at p
  split at p
  · rename_i t q
    obtain ⟨v, e, rv⟩ := r.at_ i t q
    exact ⟨v, e, p.pure m rv⟩
  · exact p.elim
theorem me_c {t : T} {v : V} (h : PE X e (tC v)) (hr : ∀ Z ι M H, R X.K Ω Z ι M H t v) : ME X Ω W e (eC t) := L2PE.imp h fun σ H Q q => by
  obtain ⟨Z, ι, M, σT, m, r, p⟩ := q
  exact p.pure m (hr Z ι M H)
theorem me_int {i : Int} {j} : ME X Ω W (.Constant (.int i) j pos) (eC (.int i)) := me_c pe_int fun _ _ _ _ => .int i
theorem me_bl {i : Bool} {j} : ME X Ω W (.Constant (.bool i) j pos) (eC (.bl i)) := me_c pe_bl fun _ _ _ _ => .bl i
theorem me_non {j} : ME X Ω W (.Constant .none j pos) (eC .non) := me_c pe_non fun _ _ _ _ => .non
theorem spell_flat {r : Nat → List Nat} : ∀ {x : List Nat}, x.all (fun c => decide (c < symB)) = true → spell r x = x
  | [], _ => rfl
  | c :: x, h => by
    rw [List.all_cons, Bool.and_eq_true, decide_eq_true_eq] at h
    unfold spell
    rw [List.flatMap_cons, if_pos h.1]
    show c :: spell r x = c :: x
    rw [spell_flat h.2]
theorem me_str {x : Str} {y : List Nat} {j} (h : x.cps.toList = y := by rfl) (hf : (y.all (fun c => decide (c < symB)) && decide (y.length ≤ 2000000)) = true := by decide) : ME X Ω W (.Constant (.str x) j pos) (eC (.str y)) := by
  rw [Bool.and_eq_true, decide_eq_true_eq] at hf
  exact me_c pe_str fun _ _ _ _ => .str y x (by rw [spell_flat hf.1]; exact h) hf.2
def aNil : AF := fun _ M => .ok [] M
def aCons (f : EF) (g : AF) : AF := fun σ M => (f σ M).bind fun t M1 => (g σ M1).bind fun ts M2 => .ok (t :: ts) M2
theorem ma_nil : MA X Ω W [] aNil := L2PA.imp pa_nil fun σ H Q ⟨Z, ι, M, σT, m, r, p⟩ => p.pure m .nil
theorem ma_cons (ha : ME X Ω W e f) (hr : MA X Ω W es fa) (hs : starEach (e :: es) X.env = (false, eval e X.env) :: starEach es X.env := by rfl) : MA X Ω W (e :: es) (aCons f fa) := L2PA.imp (pa_cons ha hr hs) fun σ H Q ⟨Z, ι, M, σT, m, r, p⟩ =>
  ⟨Z, ι, M, σT, m, r, Post.bind p fun ι1 M1 H1 t v m1 e1 q1 p1 => ⟨Z, ι1, M1, σT, m1, r.ext e1.any, Post.bind p1 fun ι2 M2 H2 ts vs m2 e2 q2 p2 => p2.pure m2 (.cons (q1.ext e2.any) q2)⟩⟩
abbrev Op2 := Mem → T → T → Option T
def Res.of {α : Type} (o : Option α) (M : Mem) : Res α := match o with
  | some t => .ok t M
  | none => .err
def eOp (op : Op2) (f g : EF) : EF := fun σ M => (f σ M).bind fun t M1 => (g σ M1).bind fun u M2 => .of (op M2 t u) M2
def OpS (K : PySem.W.Frag) (Ω : Om) (r : R2) (op : Op2) : Prop := ∀ Z ι M H t u v w z Q, RM K Ω Z ι M H → R K Ω Z ι M H t v → R K Ω Z ι M H u w → op M t u = some z →
  (∀ ι' H' x, RM K Ω Z ι' M H' → Ext [] ι M H ι' M H' → R K Ω Z ι' M H' z x → Q x H') → r v w H Q
theorem tOp_of {r : R2} {op : Op2} (h : OpS X.K Ω r op) {σ : L2.St} {H : Hp} {Q : VK} (q : liftE X.K Ω W (eOp op f g) σ H Q) : tOp r (liftE X.K Ω W f) (liftE X.K Ω W g) σ H Q := by
  obtain ⟨Z, ι, M, σT, m, rv, p⟩ := q
  refine ⟨Z, ι, M, σT, m, rv, Post.bind p fun ι1 M1 H1 t v m1 e1 q1 p1 => ⟨Z, ι1, M1, σT, m1, rv.ext e1.any, Post.bind p1 fun ι2 M2 H2 u w m2 e2 q2 p2 => ?_⟩⟩
  cases e : op M2 t u with
  | none => rw [e] at p2; exact p2.elim
  | some z => rw [e] at p2; exact h Z ι2 M2 H2 t u v w z Q m2 (q1.ext e2.any) q2 e fun ι' H' x m' e' r' => p2 ι' H' x m' e' r'
theorem me_bin {o : Operator} {r : R2} {op : Op2} (ho : OpR X (binaryOp o) r) (h : OpS X.K Ω r op) (ha : ME X Ω W a f) (hb : ME X Ω W b g) : ME X Ω W (.BinOp a o b pos) (eOp op f g) := L2PE.imp (pe_op ho ha hb) fun _ _ _ q => tOp_of h q
theorem me_cmp {o : CmpOp} {r : R2} {op : Op2} (ho : OpR X (compareOp o) r) (h : OpS X.K Ω r op) (ha : ME X Ω W a f) (hb : ME X Ω W b g) (hm : behindInMarks o b = false := by rfl) : ME X Ω W (.Compare a [o] [b] pos) (eOp op f g) := L2PE.imp (pe_cmpR ho ha hb hm) fun _ _ _ q => tOp_of h q
def tVal (f : EF) : TF := fun σ M => (f σ M).bind fun t M1 => match t with
  | .bl k => .ok k M1
  | _ => .err
theorem mt_cmp {o : CmpOp} {r : R2} {op : Op2} (ho : OpR X (compareOp o) r) (h : OpS X.K Ω r op) (ha : ME X Ω W a f) (hb : ME X Ω W b g) (hm : behindInMarks o b = false := by rfl) : MT X Ω W (.Compare a [o] [b] pos) (tVal (eOp op f g)) := L2PT.imp (pt_cmpR ho ha hb hm) fun σ H Q q => by
  refine tOp_of h ?_
  obtain ⟨Z, ι, M, σT, m, rv, p⟩ := q
  refine ⟨Z, ι, M, σT, m, rv, Post.bind p fun ι1 M1 H1 t v m1 e1 q1 p1 => ?_⟩
  cases t with
  | bl k => cases q1; exact ⟨k, rfl, p1.pure m1 rfl⟩
  | _ => exact p1.elim
def truth (M : Mem) : T → Option Bool
  | .non => some false
  | .bl k => some k
  | .int i => some (i != 0)
  | .str x => some (!x.isEmpty)
  | .tup xs => some (!xs.isEmpty)
  | .ktup xs => some (!xs.isEmpty)
  | .lst xs => some (!xs.isEmpty)
  | .klst xs => some (!xs.isEmpty)
  | .dct _ _ => none
  | .obj _ _ => none
  | .xob _ _ => none
  | .loc n => match M[n]? with
    | some (.lst xs) => some (!xs.isEmpty)
    | _ => none
def tTru (f : EF) : TF := fun σ M => (f σ M).bind fun t M1 => .of (truth M1 t) M1
theorem spell_nil {x : List Nat} : (spell Ω.rho x).isEmpty = x.isEmpty := by
  cases x with
  | nil => rfl
  | cons c x =>
    unfold spell
    rw [List.flatMap_cons]
    have : (if c < symB then [c] else Ω.rho c) ≠ [] := by
      split
      · simp
      · exact Ω.rne c
    cases q : (if c < symB then [c] else Ω.rho c) with
    | nil => exact absurd q this
    | cons _ _ => rfl
theorem Rs.length {K : PySem.W.Frag} {Z ι M H} : ∀ {ts : List T} {vs : List V}, Rs K Ω Z ι M H ts vs → ts.length = vs.length
  | _, _, .nil => rfl
  | _, _, .cons _ t => by simp [Rs.length t]
theorem Rs.isEmpty {K : PySem.W.Frag} {Z ι M H} {ts : List T} {vs : List V} (h : Rs K Ω Z ι M H ts vs) : vs.isEmpty = ts.isEmpty := by cases h <;> rfl

theorem spell_le {x : List Nat} : (spell Ω.rho x).length ≤ 8 * x.length := by
  induction x with
  | nil => exact Nat.zero_le _
  | cons c x ih =>
    unfold spell at ih ⊢
    rw [List.flatMap_cons, List.length_append, List.length_cons]
    have : (if c < symB then [c] else Ω.rho c).length ≤ 8 := by
      split
      · simp
      · exact Ω.rle c
    omega
theorem str_size {x : List Nat} {s : Str} (h : s.cps.toList = spell Ω.rho x) (l : x.length ≤ 2000000) : s.length ≤ sizeLine := by
  have e : s.length = s.cps.toList.length := by rw [Array.length_toList]; rfl
  rw [e, h, sizeLine_eq]
  have := spell_le (Ω := Ω) (x := x)
  omega
theorem str_zero {x : List Nat} {s : Str} (h : s.cps.toList = spell Ω.rho x) : (((s.length : Nat) : Int) != 0) = !x.isEmpty := by
  have e : s.length = s.cps.toList.length := by rw [Array.length_toList]; rfl
  rw [e, h, ← spell_nil (Ω := Ω) (x := x)]
  cases spell Ω.rho x with
  | nil => rfl
  | cons c y =>
    rw [List.length_cons]
    simp only [List.isEmpty_cons, Bool.not_false, bne_iff_ne, ne_eq]
    omega
theorem truV_of {K : PySem.W.Frag} {Z ι M H} {t : T} {v : V} {k : Bool} (m : RM K Ω Z ι M H) (r : R K Ω Z ι M H t v) (h : truth M t = some k) : TruV K v H k := by
  cases r with
  | non => cases h; rfl
  | bl b => cases h; rfl
  | int i => cases h; rfl
  | str x s e l => cases h; exact ⟨str_size e l, (str_zero e).symm⟩
  | tup q rs => cases h; exact .inr (.inl ⟨_, .of q, by rw [rs.isEmpty]⟩)
  | ktup q _ rs => cases h; exact .inr (.inl ⟨_, q, by rw [rs.isEmpty]⟩)
  | lst q n rs => cases h; exact .inl ⟨_, .inl (.inl q), by rw [rs.isEmpty]⟩
  | klst q rs => cases h; exact .inl ⟨_, KL.sql q, by rw [rs.isEmpty]⟩
  | dK q n k rs => cases h
  | xob => cases h
  | dT q n k rs => cases h
  | obj q n k rs => cases h
  | loc q =>
    rename_i n a
    obtain ⟨o, e, ro⟩ := m.at q
    have h : (match M[n]? with | some (MO.lst xs) => some (!xs.isEmpty) | _ => none) = some k := h
    rw [e] at h
    cases ro with
    | lst hl rs => cases h; exact .inl ⟨_, .inl (.inl hl), by rw [rs.isEmpty]⟩
    | gone _ => cases h
    | obj _ _ _ => cases h
    | dK _ _ _ => cases h
    | dT _ _ _ => cases h
theorem mt_tru (ha : ME X Ω W a f) (he : ∀ whole, isTrue a X.env whole = (do let v ← whole; standAt a.pos; holding [v] (PySem.truthy v)) := by intro _; rfl) : MT X Ω W a (tTru f) := L2PT.imp (pt_truth ha he) fun σ H Q ⟨Z, ι, M, σT, m, rv, p⟩ =>
  ⟨Z, ι, M, σT, m, rv, Post.bind p fun ι1 M1 H1 t v m1 e1 q1 p1 => by
    cases e : truth M1 t with
    | none => rw [e] at p1; exact p1.elim
    | some k => rw [e] at p1; exact ⟨k, truV_of m1 q1 e, p1.pure m1 rfl⟩⟩
abbrev MW (X : Cx) (Ω : Om) (W : WX) (e : Expr) (f : TF) : Prop := PW X e (liftT X.K Ω W f)
def tAnd2 (f g : TF) : TF := fun σ M => (f σ M).bind fun k M1 => bif k then g σ M1 else .ok false M1
def tOr2 (f g : TF) : TF := fun σ M => (f σ M).bind fun k M1 => bif k then .ok true M1 else g σ M1
def tNot2 (f : TF) : TF := fun σ M => (f σ M).bind fun k M1 => .ok (!k) M1
theorem L2PW.imp {X : Cx} {e : Expr} {t t' : TT} (h : PW X e t) (k : ∀ σ H Q, t' σ H Q → t σ H Q) : PW X e t' := ⟨fun wh pins s σ H Q I q => h.run wh pins s σ H Q I (k σ H Q q)⟩
theorem mw_and1 (ha : MT X Ω W a ft) : MW X Ω W (.BoolOp .And [a] pos) ft := pw_and1 ha
theorem mw_or1 (ha : MT X Ω W a ft) : MW X Ω W (.BoolOp .Or [a] pos) ft := pw_or1 ha
theorem mw_and {rest : List Expr} (ha : MT X Ω W a ft) (hb : MW X Ω W (.BoolOp .And (b :: rest) pos) gt) : MW X Ω W (.BoolOp .And (a :: b :: rest) pos) (tAnd2 ft gt) := L2PW.imp (pw_and ha hb) fun σ H Q ⟨Z, ι, M, σT, m, rv, p⟩ =>
  ⟨Z, ι, M, σT, m, rv, Post.bind p fun ι1 M1 H1 t v m1 e1 q1 p1 => by
    cases q1
    cases t with
    | true => rw [if_pos rfl]; exact ⟨Z, ι1, M1, σT, m1, rv.ext e1.any, p1⟩
    | false => rw [if_neg Bool.false_ne_true]; exact p1.pure m1 rfl⟩
theorem mw_or {rest : List Expr} (ha : MT X Ω W a ft) (hb : MW X Ω W (.BoolOp .Or (b :: rest) pos) gt) : MW X Ω W (.BoolOp .Or (a :: b :: rest) pos) (tOr2 ft gt) := L2PW.imp (pw_or ha hb) fun σ H Q ⟨Z, ι, M, σT, m, rv, p⟩ =>
  ⟨Z, ι, M, σT, m, rv, Post.bind p fun ι1 M1 H1 t v m1 e1 q1 p1 => by
    cases q1
    cases t with
    | false => rw [if_neg Bool.false_ne_true]; exact ⟨Z, ι1, M1, σT, m1, rv.ext e1.any, p1⟩
    | true => rw [if_pos rfl]; exact p1.pure m1 rfl⟩
theorem mt_w (h : MW X Ω W a ft) : MT X Ω W a ft := PW.pt h
theorem mt_not (ha : MT X Ω W a ft) : MT X Ω W (.UnaryOp .Not a pos) (tNot2 ft) := L2PT.imp (pt_not ha) fun σ H Q ⟨Z, ι, M, σT, m, rv, p⟩ =>
  ⟨Z, ι, M, σT, m, rv, Post.bind p fun ι1 M1 H1 t v m1 e1 q1 p1 => by
    cases q1
    exact p1.pure m1 rfl⟩
def eAnd (f g : EF) : EF := fun σ M => (f σ M).bind fun t M1 => match truth M1 t with
  | some true => g σ M1
  | some false => .ok t M1
  | none => .err
def eOr (f g : EF) : EF := fun σ M => (f σ M).bind fun t M1 => match truth M1 t with
  | some true => .ok t M1
  | some false => g σ M1
  | none => .err
theorem me_one {op} (h : ME X Ω W a f) : ME X Ω W (.BoolOp op [a] pos) f := pe_one h
theorem me_and {rest : List Expr} (ha : ME X Ω W a f) (hb : ME X Ω W (.BoolOp .And (b :: rest) pos) g) : ME X Ω W (.BoolOp .And (a :: b :: rest) pos) (eAnd f g) := L2PE.imp (pe_andT ha hb) fun σ H Q ⟨Z, ι, M, σT, m, rv, p⟩ =>
  ⟨Z, ι, M, σT, m, rv, Post.bind p fun ι1 M1 H1 t v m1 e1 q1 p1 => by
    cases e : truth M1 t with
    | none => rw [e] at p1; exact p1.elim
    | some k =>
      rw [e] at p1
      refine ⟨k, truV_of m1 q1 e, ?_⟩
      cases k with
      | true => rw [if_pos rfl]; exact ⟨Z, ι1, M1, σT, m1, rv.ext e1.any, p1⟩
      | false => rw [if_neg Bool.false_ne_true]; exact p1.pure m1 q1⟩
theorem me_or {rest : List Expr} (ha : ME X Ω W a f) (hb : ME X Ω W (.BoolOp .Or (b :: rest) pos) g) : ME X Ω W (.BoolOp .Or (a :: b :: rest) pos) (eOr f g) := L2PE.imp (pe_orT ha hb) fun σ H Q ⟨Z, ι, M, σT, m, rv, p⟩ =>
  ⟨Z, ι, M, σT, m, rv, Post.bind p fun ι1 M1 H1 t v m1 e1 q1 p1 => by
    cases e : truth M1 t with
    | none => rw [e] at p1; exact p1.elim
    | some k =>
      rw [e] at p1
      refine ⟨k, truV_of m1 q1 e, ?_⟩
      cases k with
      | false => rw [if_neg Bool.false_ne_true]; exact ⟨Z, ι1, M1, σT, m1, rv.ext e1.any, p1⟩
      | true => rw [if_pos rfl]; exact p1.pure m1 q1⟩
def eIf (c : TF) (f g : EF) : EF := fun σ M => (c σ M).bind fun k M1 => bif k then f σ M1 else g σ M1
theorem me_if (hc : MT X Ω W c ft) (ha : ME X Ω W a f) (hb : ME X Ω W b g) : ME X Ω W (.IfExp c a b pos) (eIf ft f g) := L2PE.imp (pe_ifExp hc ha hb) fun σ H Q ⟨Z, ι, M, σT, m, rv, p⟩ =>
  ⟨Z, ι, M, σT, m, rv, Post.bind p fun ι1 M1 H1 t v m1 e1 q1 p1 => by
    cases q1
    cases t with
    | true => rw [if_pos rfl]; exact ⟨Z, ι1, M1, σT, m1, rv.ext e1.any, p1⟩
    | false => rw [if_neg Bool.false_ne_true]; exact ⟨Z, ι1, M1, σT, m1, rv.ext e1.any, p1⟩⟩
def big (n : Nat) : Bool := decide (n ≤ 2000000)
theorem big_ok {n : Nat} (h : big n = true) : n ≤ sizeLine := by
  have := of_decide_eq_true h
  rw [sizeLine_eq]; omega
def eTup (g : AF) : EF := fun σ M => (g σ M).bind fun ts M1 => bif big ts.length then .ok (.tup ts) M1 else .err
theorem me_tup {x1} (h : MA X Ω W es fa) : ME X Ω W (.Tuple es x1 pos) (eTup fa) := L2PE.imp (pe_tup h) fun σ H Q ⟨Z, ι, M, σT, m, rv, p⟩ =>
  ⟨Z, ι, M, σT, m, rv, Post.bind p fun ι1 M1 H1 ts vs m1 e1 q1 p1 => by
    cases z : big ts.length with
    | false => rw [z] at p1; exact p1.elim
    | true =>
      rw [z] at p1
      refine ⟨by rw [← q1.length]; exact big_ok z, fun q np => ?_⟩
      exact p1 ι1 _ _ (m1.lay np) (Ext.new np) (.tup upd_same (q1.ext (Ext.new np)))⟩
abbrev MLr (K : PySem.W.Frag) (Ω : Om) (W : WX) (f : AF) : TE := fun σ H Q => ∃ Z ι M σT, RM K Ω Z ι M H ∧ RV K Ω Z ι M H σT σ ∧ match f σT M with
  | .ok ts M' => ∀ ι' H' p vs, H p = none → RM K Ω (p :: Z) ι' M' H' → p ∉ Z → Ext [] ι M H ι' M' H' → H' p = some (.lst vs) → Rs K Ω (p :: Z) ι' M' H' ts vs → Q (.ref p) H'
  | .exc c t M' => ∀ ι' H' dd v, RM K Ω Z ι' M' H' → Ext [] ι M H ι' M' H' → R K Ω Z ι' M' H' t v → H' dd = some (.xd [("value", v)]) → Still Z ι' M' dd → W (.ref (Ω.cls c)) (some dd) σ H'
  | .err => False
abbrev ML (X : Cx) (Ω : Om) (W : WX) (e : Expr) (f : AF) : Prop := PE X e (MLr X.K Ω W f)
def eLst (g : AF) : AF := fun σ M => (g σ M).bind fun ts M1 => bif big ts.length then .ok ts M1 else .err
theorem ml_lst (h : MA X Ω W es fa) : ML X Ω W (.List es pos) (eLst fa) := L2PE.imp (pe_lst h) fun σ H Q ⟨Z, ι, M, σT, m, rv, p⟩ => by
  refine ⟨Z, ι, M, σT, m, rv, ?_⟩
  unfold eLst at p
  cases q : fa σT M with
  | ok ts M1 =>
    rw [q] at p
    intro ι1 H1 vs m1 e1 q1
    cases z : big ts.length with
    | false =>
      simp only [Res.bind, z] at p
      exact p.elim
    | true =>
      simp only [Res.bind, z] at p
      refine ⟨by rw [← q1.length]; exact big_ok z, fun q np => ?_⟩
      have hp : H q = none := by
        cases e : H q with
        | none => rfl
        | some o => exact absurd np (e1.there q (by rw [e]; exact nofun))
      exact p ι1 _ q vs hp (m1.layH np) (m1.notZ np) (e1.trans (Ext.new np)) upd_same ((q1.hide np).ext (Ext.new np))
  | exc c t M1 => rw [q] at p; exact p
  | err => rw [q] at p; exact p
def eFroz (g : AF) : EF := fun σ M => (g σ M).bind fun ts M1 => .ok (.lst ts) M1
theorem froz_of {K : PySem.W.Frag} {σ : L2.St} {H : Hp} {Q : VK} (q : liftE K Ω W (eFroz fa) σ H Q) : MLr K Ω W fa σ H Q := by
  obtain ⟨Z, ι, M, σT, m, rv, p⟩ := q
  refine ⟨Z, ι, M, σT, m, rv, ?_⟩
  unfold eFroz at p
  cases q : fa σT M with
  | ok ts M1 =>
    rw [q] at p
    intro ι1 H1 a vs hp m1 hz e1 ha rs
    have hs : ∀ z ∈ Z, z ∈ a :: Z := fun z q => List.mem_cons_of_mem _ q
    have nl : ¬ Live ι1 M1 a := (m1.zin a List.mem_cons_self).2
    exact p ι1 H1 _ (m1.sub hs) e1 (.lst ha ⟨nl, hz⟩ (rs.sub hs))
  | exc c t M1 => rw [q] at p; exact p
  | err => rw [q] at p; exact p
theorem me_lst (h : ML X Ω W e fa) : ME X Ω W e (eFroz fa) := L2PE.imp h fun σ H Q => froz_of
def eNewL (g : AF) : EF := fun σ M => (g σ M).bind fun ts M1 => .ok (.loc M1.length) (M1 ++ [.lst ts])
theorem newL_of {K : PySem.W.Frag} {σ : L2.St} {H : Hp} {Q : VK} (q : liftE K Ω W (eNewL fa) σ H Q) : MLr K Ω W fa σ H Q := by
  obtain ⟨Z, ι, M, σT, m, rv, p⟩ := q
  refine ⟨Z, ι, M, σT, m, rv, ?_⟩
  unfold eNewL at p
  cases q : fa σT M with
  | ok ts M1 =>
    rw [q] at p
    intro ι1 H1 a vs hp m1 hz e1 ha rs
    have hs : ∀ z ∈ Z, z ∈ a :: Z := fun z q => List.mem_cons_of_mem _ q
    have e2 : Ext (a :: Z) ι1 M1 H1 (ι1 ++ [a]) (M1 ++ [.lst ts]) H1 := Ext.push m1.len
    have e3 : Ext [a] ι1 M1 H1 (ι1 ++ [a]) (M1 ++ [.lst ts]) H1 := Ext.push m1.len
    refine p (ι1 ++ [a]) H1 _ (m1.push hz fun e => .lst ha ((rs.ext e).sub hs)) ((e1.any.trans e3).drop hp) (.loc ?_)
    rw [← m1.len, List.getElem?_append_right (Nat.le_refl _), Nat.sub_self]
    rfl
  | exc c t M1 => rw [q] at p; exact p
  | err => rw [q] at p; exact p
theorem me_newL (h : ML X Ω W e fa) : ME X Ω W e (eNewL fa) := L2PE.imp h fun σ H Q => newL_of
end
end Mi
namespace Mi
open PySem PySem.Spec PyProof.Rows L2

def Res.go {α : Type} (r : Res α) (σ : TV) (k : α → Mem → Option (Fl × Mem)) : Option (Fl × Mem) := match r with
  | .ok a M => k a M
  | .exc c t M => some (.ex σ c t, M)
  | .err => none
section
variable {K : PySem.W.Frag} {Ω : Om} {α β : Type} {Rα : Rel α β} {W : WX} {Z ι : List Addr} {M : Mem} {H : Hp} {D : L2.Ends}
theorem PostS.go {r : Res α} {σT : TV} {σ : L2.St} {k : α → Mem → Option (Fl × Mem)} {T' : β → Hp → Prop} (p : PostS K Ω W Z ι M H D (r.go σT k)) (rv : RV K Ω Z ι M H σT σ)
    (h : ∀ ι1 M1 H1 t v, RM K Ω Z ι1 M1 H1 → Ext [] ι M H ι1 M1 H1 → RV K Ω Z ι1 M1 H1 σT σ → Rα Z ι1 M1 H1 t v → PostS K Ω W Z ι1 M1 H1 D (k t M1) → T' v H1) : Post K Ω Rα (fun c d H' => W c d σ H') Z ι M H T' r := by
  cases r with
  | ok t M1 => exact fun ι1 H1 v m1 e1 r1 => h ι1 M1 H1 t v m1 e1 (rv.ext e1.any) r1 (PostS.ext p e1)
  | exc c t M1 => exact fun ι1 H1 dd v m1 e1 r1 x => p ι1 σ H1 dd v m1 e1 (rv.ext e1.any) r1 x
  | err => exact p
theorem PostS.nx {σT : TV} {σ : L2.St} (p : PostS K Ω W Z ι M H D (some (.nx σT, M))) (m : RM K Ω Z ι M H) (rv : RV K Ω Z ι M H σT σ) : D.nx σ H := p ι σ H m Ext.refl rv
theorem PostS.rt {t : T} {v : V} (p : PostS K Ω W Z ι M H D (some (.rt t, M))) (m : RM K Ω Z ι M H) (r : R K Ω Z ι M H t v) : D.rt v H := p ι H v m Ext.refl r
end
section
variable {K : PySem.W.Frag} {X : Cx} {Ω : Om} {W : WX} {e a b c : Expr} {st : Stmt} {rest ba bb : List Stmt} {f g : EF} {fa : AF} {ft : TF} {s1 s2 : SF} {pos : Pos}
def sNil : SF := fun σ M => some (.nx σ, M)
def sSeq (f g : SF) : SF := fun σ M => match f σ M with
  | some (.nx σ1, M1) => g σ1 M1
  | r => r
theorem mss_nil : MSs X Ω W [] sNil := L2PSs.imp pss_nil fun D σ H ⟨Z, ι, M, σT, m, rv, p⟩ => PostS.nx p m rv
theorem seq_of {g : SF} {D : L2.Ends} {Z ι : List Addr} {M : Mem} {H : Hp} {r : Option (Fl × Mem)} (p : PostS X.K Ω W Z ι M H D (match r with | some (.nx σ1, M1) => g σ1 M1 | r => r)) :
    PostS X.K Ω W Z ι M H { D with nx := liftS X.K Ω W g D } r := by
  match r, p with
  | some (.nx σ1, M1), p => exact fun ι' σ' H' m e rv => ⟨Z, ι', M1, σ1, m, rv, PostS.ext p e⟩
  | some (.rt _, _), p => exact p
  | some (.bk _, _), p => exact p
  | some (.ct _, _), p => exact p
  | some (.ex _ _ _, _), p => exact p
theorem mss_cons (h1 : MS X Ω W st s1) (h2 : MSs X Ω W rest s2) : MSs X Ω W (st :: rest) (sSeq s1 s2) := L2PSs.imp (pss_cons h1 h2) fun D σ H ⟨Z, ι, M, σT, m, rv, p⟩ => ⟨Z, ι, M, σT, m, rv, seq_of p⟩
theorem mss_one (h1 : MS X Ω W st s1) : MSs X Ω W [st] s1 := pss_one h1
def sExpr (f : EF) : SF := fun σ M => (f σ M).go σ fun _ M1 => some (.nx σ, M1)
theorem ms_expr (he : ME X Ω W e f) (hs : swapsWith e none pos.line X.env = pure false := by rfl) : MS X Ω W (.Expr e pos) (sExpr f) := L2PS.imp (ps_expr he hs) fun D σ H ⟨Z, ι, M, σT, m, rv, p⟩ =>
  ⟨Z, ι, M, σT, m, rv, PostS.go p rv fun ι1 M1 H1 t v m1 e1 rv1 q1 p1 => p1.nx m1 rv1⟩
def sRet (f : EF) : SF := fun σ M => (f σ M).go σ fun t M1 => some (.rt t, M1)
theorem ms_ret (he : ME X Ω W e f) : MS X Ω W (.Return (some e) pos) (sRet f) := L2PS.imp (ps_ret he) fun D σ H ⟨Z, ι, M, σT, m, rv, p⟩ =>
  ⟨Z, ι, M, σT, m, rv, PostS.go p rv fun ι1 M1 H1 t v m1 e1 rv1 q1 p1 => p1.rt m1 q1⟩
def sIf (c : TF) (f g : SF) : SF := fun σ M => (c σ M).go σ fun k M1 => bif k then f σ M1 else g σ M1
theorem ms_if (hc : MT X Ω W c ft) (ha : MSs X Ω W ba s1) (hb : MSs X Ω W bb s2) : MS X Ω W (.If c ba bb pos) (sIf ft s1 s2) := L2PS.imp (ps_if hc ha hb) fun D σ H ⟨Z, ι, M, σT, m, rv, p⟩ =>
  ⟨Z, ι, M, σT, m, rv, PostS.go p rv fun ι1 M1 H1 t v m1 e1 rv1 q1 p1 => by
    cases q1
    cases t with
    | true => rw [if_pos rfl]; exact ⟨Z, ι1, M1, σT, m1, rv1, p1⟩
    | false => rw [if_neg Bool.false_ne_true]; exact ⟨Z, ι1, M1, σT, m1, rv1, p1⟩⟩
def sSet (i : Nat) (f : EF) : SF := fun σ M => (f σ M).go σ fun t M1 => some (.nx (σ.set i (some t)), M1)
theorem ms_set {i : Nat} {x : Str} {pos' : Pos} (hN : X.N.Nodup) (hi : X.N[i]? = some x) (hx : Loc X.env.scope x) (he : ME X Ω W e f) (hs : swapsWith e (some (.Name x pos')) pos.line X.env = pure false := by rfl) (hf : X.fn x = true ∨ X.env.scope.names.lookup x = some .local := by first | exact .inl rfl | exact .inr rfl | assumption) :
    MS X Ω W (.Assign [.Name x pos'] e pos) (sSet i f) := L2PS.imp (ps_set hN hi hx he hs hf) fun D σ H ⟨Z, ι, M, σT, m, rv, p⟩ =>
  ⟨Z, ι, M, σT, m, rv, PostS.go p rv fun ι1 M1 H1 t v m1 e1 rv1 q1 p1 => p1.nx m1 (rv1.set i q1)⟩
abbrev PF := T → TV → Mem → Option TV
def PatS (K : PySem.W.Frag) (Ω : Om) (g : TG) (Γ : PF) (vs : List Nat) : Prop := ∀ Z ι M H σT σ t v σT' Q, RM K Ω Z ι M H → RV K Ω Z ι M H σT σ → R K Ω Z ι M H t v → Γ t σT M = some σT' →
  (∀ σ', RV K Ω Z ι M H σT' σ' → (∀ us : List Nat, (∀ i ∈ vs, i ∈ us) → wipe σ' us = wipe σ us) → Q σ' H) → g v σ H Q
def pName (i : Nat) : PF := fun t σ _ => some (σ.set i (some t))
theorem wipe_at {σ : L2.St} {i : Nat} : ∀ {us : List Nat}, (wipe σ us)[i]? = if i ∈ us then (if i < σ.length then some none else none) else σ[i]?
  | [] => by simp [wipe]
  | u :: us => by
    unfold wipe
    by_cases e : u = i
    · subst e
      rw [if_pos (by simp)]
      by_cases h : u < σ.length
      · rw [if_pos h, List.getElem?_set_self (by rw [wipe_length]; exact h)]
      · rw [if_neg h, List.getElem?_eq_none (by rw [List.length_set, wipe_length]; omega)]
    · rw [List.getElem?_set_ne e, wipe_at]
      by_cases h : i ∈ us
      · rw [if_pos h, if_pos (List.mem_cons_of_mem _ h)]
      · rw [if_neg h, if_neg (fun z => (List.mem_cons.mp z).elim (fun q => e q.symm) h)]
theorem wipe_set {σ : L2.St} {i : Nat} {v : Option V} {us : List Nat} (h : i ∈ us) : wipe (σ.set i v) us = wipe σ us := by
  apply List.ext_getElem?
  intro j
  rw [wipe_at, wipe_at, List.length_set]
  by_cases e : j ∈ us
  · rw [if_pos e, if_pos e]
  · rw [if_neg e, if_neg e, List.getElem?_set_ne (fun z => e (by rw [← z]; exact h))]
theorem pat_name (i : Nat) : PatS K Ω (gName i) (pName i) [i] := fun Z ι M H σT σ t v σT' Q m rv r h q => by
  cases h
  exact q _ (rv.set i r) fun us hu => wipe_set (hu i (by simp))
def PatsS (K : PySem.W.Frag) (Ω : Om) (g : TGs) (Γ : List T → TV → Mem → Option TV) (vs : List Nat) : Prop := ∀ Z ι M H σT σ ts xs σT' Q, RM K Ω Z ι M H → RV K Ω Z ι M H σT σ → Rs K Ω Z ι M H ts xs → Γ ts σT M = some σT' →
  (∀ σ', RV K Ω Z ι M H σT' σ' → (∀ us : List Nat, (∀ i ∈ vs, i ∈ us) → wipe σ' us = wipe σ us) → Q σ' H) → g xs σ H Q
def psNil : List T → TV → Mem → Option TV := fun ts σ _ => match ts with
  | [] => some σ
  | _ => none
def psCons (p : PF) (q : List T → TV → Mem → Option TV) : List T → TV → Mem → Option TV := fun ts σ M => match ts with
  | t :: r => (p t σ M).bind fun σ1 => q r σ1 M
  | [] => none
theorem pats_nil : PatsS K Ω gNil psNil [] := fun Z ι M H σT σ ts xs σT' Q m rv r h q => by
  cases r with
  | nil => cases h; exact ⟨rfl, q σ rv fun _ _ => rfl⟩
  | cons _ _ => cases h
theorem pats_cons {g : TG} {gs : TGs} {p : PF} {q : List T → TV → Mem → Option TV} {vs ws : List Nat} (h1 : PatS K Ω g p vs) (h2 : PatsS K Ω gs q ws) : PatsS K Ω (gCons g gs) (psCons p q) (vs ++ ws) := fun Z ι M H σT σ ts xs σT' Q m rv r h k => by
  cases r with
  | nil => cases h
  | cons r rs =>
    rename_i t v ts xs
    have h : (p t σT M).bind (fun σ1 => q ts σ1 M) = some σT' := h
    cases e : p t σT M with
    | none => rw [e] at h; cases h
    | some σ1 =>
      rw [e] at h
      refine ⟨v, xs, rfl, h1 Z ι M H σT σ t v σ1 _ m rv r e fun σ2 rv2 w2 => h2 Z ι M H σ1 σ2 ts xs σT' _ m rv2 rs h fun σ3 rv3 w3 => k σ3 rv3 fun us hu => ?_⟩
      rw [w3 us fun i hi => hu i (List.mem_append_right _ hi), w2 us fun i hi => hu i (List.mem_append_left _ hi)]
def sPat (p : PF) (f : EF) : SF := fun σ M => (f σ M).go σ fun t M1 => match p t σ M1 with
  | some σ1 => some (.nx σ1, M1)
  | none => none
theorem ms_pat {tg : Expr} {gt : TG} {p : PF} {vs : List Nat} (hp : PatS X.K Ω gt p vs) (he : ME X Ω W e f) (hg : PG X tg gt) (hs : swapsWithSole [tg] e pos.line X.env = pure false := by rfl) (hw : swappedStores [tg] e X.env = pure none := by rfl)
    (h1 : (assignEach [tg] X.env).map (·.2) = [assign tg X.env] := by rfl) : MS X Ω W (.Assign [tg] e pos) (sPat p f) := L2PS.imp (ps_asg he hg hs hw h1) fun D σ H ⟨Z, ι, M, σT, m, rv, q⟩ =>
  ⟨Z, ι, M, σT, m, rv, PostS.go q rv fun ι1 M1 H1 t v m1 e1 rv1 q1 p1 => by
    cases z : p t σT M1 with
    | none => rw [z] at p1; exact p1.elim
    | some σ1 => rw [z] at p1; exact hp Z ι1 M1 H1 σT σ t v σ1 _ m1 rv1 q1 z fun σ' rv' _ => p1.nx m1 rv'⟩
def sPar (i j : Nat) (fa : AF) : SF := fun σ M => (fa σ M).go σ fun ts M1 => match ts with
  | [t, u] => some (.nx ((σ.set i (some t)).set j (some u)), M1)
  | _ => none
theorem ms_par {i j : Nat} {x y : Str} {px py pt : Pos} {kt k2 pt2} (hc : X.calm = true) (hN : X.N.Nodup) (hi : X.N[i]? = some x) (hj : X.N[j]? = some y) (hij : i ≠ j)
    (hx : X.env.scope.names.lookup x = some .local) (hy : X.env.scope.names.lookup y = some .local) (ha : MA X Ω W [a, b] fa)
    (hw : swappedStores [.Tuple [.Name x px, .Name y py] kt pt] (.Tuple [a, b] k2 pt2) X.env = pure (some [x, y]) := by rfl)
    (hs : swapsWithSole [.Tuple [.Name x px, .Name y py] kt pt] (.Tuple [a, b] k2 pt2) pos.line X.env = pure false := by rfl) :
    MS X Ω W (.Assign [.Tuple [.Name x px, .Name y py] kt pt] (.Tuple [a, b] k2 pt2) pos) (sPar i j fa) := L2PS.imp (ps_par hc hN hi hj hij hx hy ha hw hs) fun D σ H ⟨Z, ι, M, σT, m, rv, q⟩ =>
  ⟨Z, ι, M, σT, m, rv, PostS.go q rv fun ι1 M1 H1 ts vs m1 e1 rv1 q1 p1 => by
    match ts, vs, q1, p1 with
    | [t, u], [v, w], .cons r1 (.cons r2 .nil), p1 => exact ⟨v, w, rfl, p1.nx m1 ((rv1.set i r1).set j r2)⟩
    | [], _, _, p1 => exact p1.elim
    | [_], _, _, p1 => exact p1.elim
    | _ :: _ :: _ :: _, _, _, p1 => exact p1.elim⟩
def sAug (i : Nat) (op : Op2) (f : EF) : SF := fun σ M => match σ[i]? with
  | some (some t) => (f σ M).go σ fun u M1 => match op M1 t u with
    | some z => some (.nx (σ.set i (some z)), M1)
    | none => none
  | _ => none
theorem ms_aug {i : Nat} {x : Str} {o : Operator} {ti : TIp} {op : Op2} {pos' : Pos} (hop : OpS X.K Ω ti op) (hN : X.N.Nodup) (hi : X.N[i]? = some x) (hx : Loc X.env.scope x) (he : ME X Ω W e f) (ho : PIp X o ti) (hf : X.fn x = true ∨ X.env.scope.names.lookup x = some .local := by first | exact .inl rfl | exact .inr rfl | assumption) :
    MS X Ω W (.AugAssign (.Name x pos') o e pos) (sAug i op f) := L2PS.imp (ps_aug hN hi hx he ho hf) fun D σ H ⟨Z, ι, M, σT, m, rv, q⟩ => by
  unfold sAug at q
  split at q
  · rename_i t e0
    obtain ⟨v, ev, r0⟩ := rv.at_ i t e0
    refine ⟨v, ev, Z, ι, M, σT, m, rv, PostS.go q rv fun ι1 M1 H1 u w m1 e1 rv1 q1 p1 => ?_⟩
    cases z : op M1 t u with
    | none => rw [z] at p1; exact p1.elim
    | some y =>
      rw [z] at p1
      exact hop Z ι1 M1 H1 t u v w y _ m1 (r0.ext e1.any) q1 z fun ι2 H2 x2 m2 e2 r2 => PostS.nx (PostS.ext p1 e2) m2 ((rv1.ext e2.any).set i r2)
  · exact q.elim
def whileN (c : TF) (b : SF) : Nat → SF
  | 0 => fun _ _ => none
  | n + 1 => fun σ M => (c σ M).go σ fun k M1 => bif k then (match b σ M1 with
      | some (.nx σ2, M2) => whileN c b n σ2 M2
      | some (.ct σ2, M2) => whileN c b n σ2 M2
      | some (.bk σ2, M2) => some (.nx σ2, M2)
      | r => r) else some (.nx σ, M1)
def sWhile (n : Nat) (c : TF) (b : SF) : SF := whileN c b n
theorem ms_while {body : List Stmt} (n : Nat) (hp : PassesOwn (model X.prog X.w) X.A X.env X.xe) (hc : MT X Ω W c ft) (hb : MSs X Ω W body s1) : MS X Ω W (.While c body [] pos) (sWhile n ft s1) := L2PS.imp (ps_while hp hc hb) fun D σ H ⟨Z, ι, M, σT, m, rv, q⟩ => by
  refine ⟨fun n σ H => ∃ Z ι M σT, RM X.K Ω Z ι M H ∧ RV X.K Ω Z ι M H σT σ ∧ PostS X.K Ω W Z ι M H D (whileN ft s1 n σT M), ⟨n, Z, ι, M, σT, m, rv, q⟩, ?_⟩
  rintro n σ H ⟨Z, ι, M, σT, m, rv, q⟩
  cases n with
  | zero => exact q.elim
  | succ n =>
    refine ⟨Z, ι, M, σT, m, rv, PostS.go q rv fun ι1 M1 H1 k k' m1 e1 rv1 q1 p1 => ?_⟩
    cases q1
    cases k with
    | false => rw [if_neg Bool.false_ne_true]; exact p1.nx m1 rv1
    | true =>
      rw [if_pos rfl]
      refine ⟨fun σ' H' => ∃ Z ι M σT, RM X.K Ω Z ι M H' ∧ RV X.K Ω Z ι M H' σT σ' ∧ PostS X.K Ω W Z ι M H' D (whileN ft s1 n σT M), fun σ' H' h => ⟨n, Nat.lt_succ_self n, h⟩, Z, ι1, M1, σT, m1, rv1, ?_⟩
      have p1 : PostS X.K Ω W Z ι1 M1 H1 D (match s1 σT M1 with | some (.nx σ2, M2) => whileN ft s1 n σ2 M2 | some (.ct σ2, M2) => whileN ft s1 n σ2 M2 | some (.bk σ2, M2) => some (.nx σ2, M2) | r => r) := p1
      generalize s1 σT M1 = r at p1 ⊢
      match r, p1 with
      | some (.nx σ2, M2), p1 => exact fun ι' σ' H' m' e' rv' => ⟨Z, ι', M2, σ2, m', rv', PostS.ext p1 e'⟩
      | some (.ct σ2, M2), p1 => exact fun ι' σ' H' m' e' rv' => ⟨Z, ι', M2, σ2, m', rv', PostS.ext p1 e'⟩
      | some (.bk σ2, M2), p1 => exact p1
      | some (.rt _, _), p1 => exact p1
      | some (.ex _ _ _, _), p1 => exact p1
end
end Mi
namespace Mi
open PySem PySem.Spec PyProof.Rows L2

section
variable {K : PySem.W.Frag} {Ω : Om} {Z Z' ι ι' : List Addr} {M M' : Mem} {H H' : Hp}
theorem Rs.get : ∀ {ts : List T} {vs : List V} {i : Nat} {t : T}, Rs K Ω Z ι M H ts vs → ts[i]? = some t → ∃ v, vs[i]? = some v ∧ R K Ω Z ι M H t v
  | _, _, _, _, .nil, h => by simp at h
  | _, _, 0, _, .cons r _, h => by
    simp at h
    subst h
    exact ⟨_, rfl, r⟩
  | _, _, i + 1, t, .cons _ q, h => by
    obtain ⟨v, a, b⟩ := Rs.get (i := i) (t := t) q (by simpa using h)
    exact ⟨v, by simpa using a, b⟩
theorem still_grow {a : Addr} {o : HO} (h : H a = some o) (n : Still Z ι M a) (g : ∀ z ∈ Z', z ∈ Z ∨ H z = none) : Still Z' ι M a :=
  ⟨n.1, fun z => (g a z).elim n.2 fun e => by rw [e] at h; cases h⟩
mutual
theorem R.grow (g : ∀ z ∈ Z', z ∈ Z ∨ H z = none) : ∀ {t : T} {v : V}, R K Ω Z ι M H t v → R K Ω Z' ι M H t v
  | _, _, .non => .non
  | _, _, .bl b => .bl b
  | _, _, .int i => .int i
  | _, _, .str x s h l => .str x s h l
  | _, _, .tup h r => .tup h (Rs.grow g r)
  | _, _, .ktup h d r => .ktup h d (Rs.grow g r)
  | _, _, .lst h n r => .lst h (still_grow h n g) (Rs.grow g r)
  | _, _, .klst h r => .klst h (Rs.grow g r)
  | _, _, .dK h n k r => .dK h (h.elim (fun q => still_grow q n g) fun ⟨_, q⟩ => still_grow q n g) k (Rs.grow g r)
  | _, _, .dT h n k r => .dT h (h.elim (fun q => still_grow q n g) fun ⟨_, q⟩ => still_grow q n g) k (Rs.grow g r)
  | _, _, .obj h n k r => .obj h (still_grow h n g) k (Rs.grow g r)
  | _, _, .xob h1 h2 h3 h4 n r => .xob h1 h2 h3 h4 (still_grow h4 n g) (R.grow g r)
  | _, _, .loc h => .loc h
theorem Rs.grow (g : ∀ z ∈ Z', z ∈ Z ∨ H z = none) : ∀ {ts : List T} {vs : List V}, Rs K Ω Z ι M H ts vs → Rs K Ω Z' ι M H ts vs
  | _, _, .nil => .nil
  | _, _, .cons r t => .cons (R.grow g r) (Rs.grow g t)
end
end

def RIt (K : PySem.W.Frag) (Ω : Om) : Rel (List T) It := fun Z ι M H ts J => ∀ Z' ι' M' H', RM K Ω Z' ι' M' H' → Ext Z' ι M H ι' M' H' → (∀ z ∈ Z', z ∈ Z ∨ H z = none) →
  J.stop ts.length H' ∧ ∀ (i : Nat) t, ts[i]? = some t → J.go i H' ∧ ∀ x H2, J.yld i H' x H2 → RM K Ω Z' ι' M' H2 ∧ Ext [] ι' M' H' ι' M' H2 ∧ R K Ω Z' ι' M' H2 t x
abbrev MI (X : Cx) (Ω : Om) (W : WX) (tg it : Expr) (f : AF) : Prop := PI X tg it (lift X.K Ω (RIt X.K Ω) W f)
section
variable {X : Cx} {Ω : Om} {W : WX} {e e2 tg : Expr} {f g : EF} {fa : AF} {pos p : Pos}
theorem L2PI.imp {X : Cx} {tg e : Expr} {t t' : TI} (h : PI X tg e t) (k : ∀ σ H Q, t' σ H Q → t σ H Q) : PI X tg e t' := ⟨fun pins s σ H Q I q => h.run pins s σ H Q I (k σ H Q q)⟩
theorem L2PI.or {X : Cx} {tg e : Expr} {t t' : TI} (h : PI X tg e t) (h' : PI X tg e t') : PI X tg e (fun σ H Q => t σ H Q ∨ t' σ H Q) :=
  ⟨fun pins s σ H Q I q => q.elim (h.run pins s σ H Q I) (h'.run pins s σ H Q I)⟩
theorem rit_list {Z ι : List Addr} {M : Mem} {H : Hp} {ts : List T} {a : Addr} {vs : List V} (h : Rd H a (.lst vs)) (n : Still Z ι M a) (r : Rs X.K Ω Z ι M H ts vs) : RIt X.K Ω Z ι M H ts (Itl X.K a) := fun Z' ι' M' H' m e g => by
  have n' : Still Z' ι M a := h.elim (fun q => still_grow q n g) fun ⟨_, q⟩ => still_grow q n g
  have h' : SqL X.K H' a vs := .inl (e.rd h n').1
  have r' := (r.grow g).ext e
  refine ⟨⟨vs, h', by rw [r.length]; exact Nat.le_refl _⟩, fun i t q => ?_⟩
  obtain ⟨v, hv, rv⟩ := r'.get q
  refine ⟨⟨vs, v, h', hv⟩, fun x H2 y => ?_⟩
  obtain ⟨rfl, y⟩ := y
  have := y vs h'
  rw [hv] at this
  cases this
  exact ⟨m, Ext.refl, rv⟩
theorem rit_tup {Z ι : List Addr} {M : Mem} {H : Hp} {ts : List T} {a : Addr} {vs : List V} (h : SqT X.K H a vs) (r : Rs X.K Ω Z ι M H ts vs) : RIt X.K Ω Z ι M H ts (Itt X.K a) := fun Z' ι' M' H' m e g => by
  have h' : SqT X.K H' a vs := e.sqt h
  have r' := (r.grow g).ext e
  refine ⟨⟨vs, h', by rw [r.length]; exact Nat.le_refl _⟩, fun i t q => ?_⟩
  obtain ⟨v, hv, rv⟩ := r'.get q
  refine ⟨⟨vs, v, h', hv⟩, fun x H2 y => ?_⟩
  obtain ⟨rfl, y⟩ := y
  have := y vs h'
  rw [hv] at this
  cases this
  exact ⟨m, Ext.refl, rv⟩
def items : T → Option (List T)
  | .tup ts => some ts
  | .ktup ts => some ts
  | .lst ts => some ts
  | _ => none
def iSeq (f : EF) : AF := fun σ M => (f σ M).bind fun t M1 => .of (items t) M1
theorem mi_seq (he : ME X Ω W e f) : MI X Ω W tg e (iSeq f) := L2PI.imp (L2PI.or (pi_list he) (pi_tup he)) fun σ H Q ⟨Z, ι, M, σT, m, rv, p⟩ => by
  unfold iSeq at p
  cases q : f σT M with
  | err => rw [q] at p; exact p.elim
  | exc c t M1 => rw [q] at p; exact .inl ⟨Z, ι, M, σT, m, rv, by rw [q]; exact p⟩
  | ok t M1 =>
    rw [q] at p
    match t, p, q with
    | .lst ts, p, q =>
      refine .inl ⟨Z, ι, M, σT, m, rv, ?_⟩
      rw [q]
      intro ι1 H1 v m1 e1 r1
      match v, r1 with
      | _, .lst h n r => exact ⟨_, rfl, ⟨_, .inl (.inl h)⟩, p ι1 H1 _ m1 e1 (rit_list (.inl h) n r)⟩
    | .tup ts, p, q =>
      refine .inr ⟨Z, ι, M, σT, m, rv, ?_⟩
      rw [q]
      intro ι1 H1 v m1 e1 r1
      match v, r1 with
      | _, .tup h r => exact ⟨_, rfl, ⟨_, .of h⟩, p ι1 H1 _ m1 e1 (rit_tup (.of h) r)⟩
    | .ktup ts, p, q =>
      refine .inr ⟨Z, ι, M, σT, m, rv, ?_⟩
      rw [q]
      intro ι1 H1 v m1 e1 r1
      match v, r1 with
      | _, .ktup h _ r => exact ⟨_, rfl, ⟨_, h⟩, p ι1 H1 _ m1 e1 (rit_tup h r)⟩
    | .non, p, _ => exact p.elim
    | .bl _, p, _ => exact p.elim
    | .int _, p, _ => exact p.elim
    | .str _, p, _ => exact p.elim
    | .dct _ _, p, _ => exact p.elim
    | .obj _ _, p, _ => exact p.elim
    | .xob _ _, p, _ => exact p.elim
    | .loc _, p, _ => exact p.elim
    | .klst _, p, _ => exact p.elim
def rngT (lo : Int) (n : Nat) : List T := (List.range n).map fun i => .int (lo + (i : Nat))
def inR (j : Int) : Bool := decide (-(2 ^ 62) ≤ j) && decide (j < 2 ^ 62)
def rg1 (ts : List T) : Option (List T) := match ts with
  | [.int j] => bif inR j then some (rngT 0 j.toNat) else none
  | _ => none
def iFun (o : List T → Option (List T)) (fa : AF) : AF := fun σ M => (fa σ M).bind fun ts M1 => .of (o ts) M1
theorem inR_ok {j : Int} (h : inR j = true) : -(2 ^ 62) ≤ j ∧ j < 2 ^ 62 := by
  unfold inR at h
  rw [Bool.and_eq_true, decide_eq_true_eq, decide_eq_true_eq] at h
  exact h
theorem rit_rng {Z ι : List Addr} {M : Mem} {H : Hp} {lo : Int} {n : Nat} : RIt X.K Ω Z ι M H (rngT lo n) (Itr lo n) := fun Z' ι' M' H' m e g => by
  refine ⟨by unfold rngT; rw [List.length_map, List.length_range]; exact Nat.le_refl n, fun i t q => ?_⟩
  unfold rngT at q
  rw [List.getElem?_map] at q
  by_cases h : i < n
  · rw [List.getElem?_range h] at q
    cases q
    refine ⟨h, fun x H2 y => ?_⟩
    obtain ⟨rfl, rfl⟩ := y
    exact ⟨m, Ext.refl, .int _⟩
  · rw [List.getElem?_eq_none (by simpa using h)] at q
    cases q
theorem Post.of {K : PySem.W.Frag} {α β : Type} {Rα : Rel α β} {Wh : Value → Option Addr → Hp → Prop} {Z ι : List Addr} {M : Mem} {H : Hp} {Q : β → Hp → Prop} {o : Option α} (p : Post K Ω Rα Wh Z ι M H Q (.of o M)) : ∃ t, o = some t ∧ Post K Ω Rα Wh Z ι M H Q (.ok t M) := by
  cases o with
  | none => exact p.elim
  | some t => exact ⟨t, rfl, p⟩
theorem mi_range1 {a : Expr} (hg : Gl X "range") (hm : X.mg "range" = none) (ha : MA X Ω W [a] fa) (hs : starEach [a] X.env = [(false, eval a X.env)] := by rfl) : MI X Ω W tg (.Call (.Name "range" p) [a] [] pos) (iFun rg1 fa) := L2PI.imp (pi_range1 hg hm ha hs) fun σ H Q ⟨Z, ι, M, σT, m, rv, q⟩ =>
  ⟨Z, ι, M, σT, m, rv, Post.bind q fun ι1 M1 H1 ts vs m1 e1 q1 p1 => by
    obtain ⟨r, h, p1⟩ := Post.of p1
    unfold rg1 at h
    split at h
    · rename_i j
      cases z : inR j with
      | false => rw [z] at h; cases h
      | true =>
        rw [z] at h
        cases h
        cases q1 with
        | cons r1 r2 =>
          cases r2
          cases r1
          exact ⟨j, rfl, (inR_ok z).1, (inR_ok z).2, p1.pure m1 rit_rng⟩
    · cases h⟩
def enumT (k : Nat) : List T → List T
  | [] => []
  | t :: ts => .tup [.int k, t] :: enumT (k + 1) ts
theorem enumT_get : ∀ {ts : List T} {k i : Nat} {t : T}, (enumT k ts)[i]? = some t → ∃ u, ts[i]? = some u ∧ t = .tup [.int ((k + i : Nat) : Int), u]
  | [], _, _, _, h => by simp [enumT] at h
  | u :: ts, k, 0, t, h => by
    simp [enumT] at h
    exact ⟨u, rfl, h.symm⟩
  | u :: ts, k, i + 1, t, h => by
    simp only [enumT, List.getElem?_cons_succ] at h
    obtain ⟨w, a, b⟩ := enumT_get h
    exact ⟨w, by simpa using a, by rw [b, show k + 1 + i = k + (i + 1) by omega]⟩
theorem enumT_len : ∀ {ts : List T} {k : Nat}, (enumT k ts).length = ts.length
  | [], _ => rfl
  | _ :: ts, k => by simp [enumT, enumT_len (ts := ts)]
theorem rit_enum {Z ι : List Addr} {M : Mem} {H : Hp} {ts : List T} {a : Addr} {vs : List V} (h : Rd H a (.lst vs)) (n : Still Z ι M a) (r : Rs X.K Ω Z ι M H ts vs) : RIt X.K Ω Z ι M H (enumT 0 ts) (Ite X.K a) := fun Z' ι' M' H' m e g => by
  have n' : Still Z' ι M a := h.elim (fun q => still_grow q n g) fun ⟨_, q⟩ => still_grow q n g
  have h' : SqL X.K H' a vs := .inl (e.rd h n').1
  have r' := (r.grow g).ext e
  refine ⟨⟨vs, h', by rw [enumT_len, r.length]; exact Nat.le_refl _⟩, fun i t q => ?_⟩
  obtain ⟨u, hu, rfl⟩ := enumT_get q
  obtain ⟨v, hv, rv⟩ := r'.get hu
  refine ⟨⟨vs, v, h', hv⟩, fun x H2 y => ?_⟩
  obtain ⟨T', w, rfl, nT, rfl, y⟩ := y
  have := y vs h'
  rw [hv] at this
  cases this
  refine ⟨m.lay nT, Ext.new nT, .tup upd_same (.cons ?_ (.cons (rv.ext (Ext.new nT)) .nil))⟩
  rw [Nat.zero_add]
  exact .int _
def zipT : List T → List T → List T
  | t :: ts, u :: us => .tup [t, u] :: zipT ts us
  | _, _ => []
theorem zipT_get : ∀ {ts us : List T} {i : Nat} {t : T}, (zipT ts us)[i]? = some t → ∃ u w, ts[i]? = some u ∧ us[i]? = some w ∧ t = .tup [u, w]
  | [], _, _, _, h => by simp [zipT] at h
  | _ :: _, [], _, _, h => by simp [zipT] at h
  | u :: ts, w :: us, 0, t, h => by
    simp [zipT] at h
    exact ⟨u, w, rfl, rfl, h.symm⟩
  | u :: ts, w :: us, i + 1, t, h => by
    simp only [zipT, List.getElem?_cons_succ] at h
    obtain ⟨a, b, c, d, q⟩ := zipT_get h
    exact ⟨a, b, by simpa using c, by simpa using d, q⟩
theorem zipT_len : ∀ {ts us : List T}, ts.length ≤ (zipT ts us).length ∨ us.length ≤ (zipT ts us).length
  | [], _ => .inl (Nat.zero_le _)
  | _ :: _, [] => .inr (Nat.zero_le _)
  | _ :: ts, _ :: us => by
    simp only [zipT, List.length_cons]
    have := zipT_len (ts := ts) (us := us)
    omega
def zp2 (ts : List T) : Option (List T) := match ts with
  | [.lst xs, .lst ys] => some (zipT xs ys)
  | [.tup xs, .tup ys] => some (zipT xs ys)
  | _ => none
theorem mi_zip {tpos : Pos} {elts : List Expr} {kk : Nat} (hg : Gl X "zip") (hm : X.mg "zip" = none) (ha : MA X Ω W [e, e2] fa)
    (hs : starEach [e, e2] X.env = (false, eval e X.env) :: starEach [e2] X.env := by rfl) (hpl : (backTo pos (starEach [e2] X.env)).any (·.1) = false := by rfl) : MI X Ω W (.Tuple elts kk tpos) (.Call (.Name "zip" p) [e, e2] [] pos) (iFun zp2 fa) := L2PI.imp (RZ.pi_zipA hg hm ha hs hpl) fun σ H Q ⟨Z, ι, M, σT, m, rv, q⟩ =>
  ⟨Z, ι, M, σT, m, rv, Post.bind q fun ι1 M1 H1 ts vs m1 e1 q1 p1 => by
    obtain ⟨r, h, p1⟩ := Post.of p1
    unfold zp2 at h
    split at h
    · cases h
      cases q1 with
      | cons r1 r2 =>
        cases r2 with
        | cons r2 r3 =>
          cases r3
          cases r1 with
          | lst hl hn rs =>
            rename_i xs ys a vs
            cases r2 with
            | lst hl2 hn2 rs2 =>
              rename_i b ws
              refine ⟨a, b, vs, ws, rfl, .inl ⟨.inl (.inl hl), .inl (.inl hl2), p1.pure m1 fun Z' ι' M' H' m e g => ?_⟩⟩
              have n' : Still Z' ι1 M1 a := still_grow hl hn g
              have n2' : Still Z' ι1 M1 b := still_grow hl2 hn2 g
              have h1 : SqL X.K H' a vs := .inl (.inl (e.still hl n').1)
              have h2 : SqL X.K H' b ws := .inl (.inl (e.still hl2 n2').1)
              have r1 := (rs.grow g).ext e
              have r2 := (rs2.grow g).ext e
              refine ⟨⟨vs, ws, h1, h2, by rw [← r1.length, ← r2.length]; exact zipT_len⟩, fun i t q => ?_⟩
              obtain ⟨u, w, hu, hw, rfl⟩ := zipT_get q
              obtain ⟨v, hv, rv⟩ := r1.get hu
              obtain ⟨v2, hv2, rv2⟩ := r2.get hw
              refine ⟨⟨vs, ws, v, v2, h1, h2, hv, hv2⟩, fun x H2 y => ?_⟩
              obtain ⟨T', x1, x2, rfl, nT, rfl, y1, y2⟩ := y
              have e1 := y1 vs h1
              have e2 := y2 ws h2
              rw [hv] at e1
              rw [hv2] at e2
              cases e1
              cases e2
              exact ⟨m.lay nT, Ext.new nT, .tup upd_same (.cons (rv.ext (Ext.new nT)) (.cons (rv2.ext (Ext.new nT)) .nil))⟩
    · cases h
      cases q1 with
      | cons r1 r2 =>
        cases r2 with
        | cons r2 r3 =>
          cases r3
          cases r1 with
          | tup hl rs =>
            rename_i xs ys a vs
            cases r2 with
            | tup hl2 rs2 =>
              rename_i b ws
              refine ⟨a, b, vs, ws, rfl, .inr ⟨.of hl, .of hl2, p1.pure m1 fun Z' ι' M' H' m e g => ?_⟩⟩
              have h1 : SqT X.K H' a vs := .of (e.tups _ _ hl)
              have h2 : SqT X.K H' b ws := .of (e.tups _ _ hl2)
              have r1 := (rs.grow g).ext e
              have r2 := (rs2.grow g).ext e
              refine ⟨⟨vs, ws, h1, h2, by rw [← r1.length, ← r2.length]; exact zipT_len⟩, fun i t q => ?_⟩
              obtain ⟨u, w, hu, hw, rfl⟩ := zipT_get q
              obtain ⟨v, hv, rv⟩ := r1.get hu
              obtain ⟨v2, hv2, rv2⟩ := r2.get hw
              refine ⟨⟨vs, ws, v, v2, h1, h2, hv, hv2⟩, fun x H2 y => ?_⟩
              obtain ⟨T', x1, x2, rfl, nT, rfl, y1, y2⟩ := y
              have e1 := y1 vs h1
              have e2 := y2 ws h2
              rw [hv] at e1
              rw [hv2] at e2
              cases e1
              cases e2
              exact ⟨m.lay nT, Ext.new nT, .tup upd_same (.cons (rv.ext (Ext.new nT)) (.cons (rv2.ext (Ext.new nT)) .nil))⟩
    · cases h⟩
def forL (p : PF) (b : SF) : List T → SF
  | [] => fun σ M => some (.nx σ, M)
  | t :: ts => fun σ M => match p t σ M with
    | none => none
    | some σ1 => match b σ1 M with
      | some (.nx σ2, M2) => forL p b ts σ2 M2
      | some (.ct σ2, M2) => forL p b ts σ2 M2
      | some (.bk σ2, M2) => some (.nx σ2, M2)
      | r => r
def sFor (p : PF) (it : AF) (b : SF) : SF := fun σ M => (it σ M).go σ fun ts M1 => forL p b ts σ M1
theorem ms_for {iter : Expr} {body : List Stmt} {gt : TG} {pf : PF} {vs : List Nat} {b : SF} {it : AF} (hpo : PassesOwn (model X.prog X.w) X.A X.env X.xe) (hc : X.calm = true) (hi : MI X Ω W tg iter it) (hp : PatS X.K Ω gt pf vs) (hg : PG X tg gt) (hb : MSs X Ω W body b)
    (hs : ∀ x, foldedSetIterable iter X.env x = pure x := by intro _; rfl) : MS X Ω W (.For tg iter body [] pos) (sFor pf it b) := L2PS.imp (ps_for hpo hc hi hg hb hs) fun D σ H ⟨Z, ι, M, σT, m, rv, p⟩ =>
  ⟨Z, ι, M, σT, m, rv, PostS.go p rv fun ι1 M1 H1 ts J m1 e1 rv1 q1 p1 => by
    refine ⟨fun i n σ H => n = ts.length - i ∧ i ≤ ts.length ∧ ∃ ι M σT, RM X.K Ω Z ι M H ∧ RV X.K Ω Z ι M H σT σ ∧ Ext Z ι1 M1 H1 ι M H ∧ PostS X.K Ω W Z ι M H D (forL pf b (ts.drop i) σT M), ⟨ts.length, by omega, Nat.zero_le _, ι1, M1, σT, m1, rv1, Ext.refl, p1⟩, ?_⟩
    rintro i n σ H ⟨rfl, hi, ι, M, σT, m, rv, ex, q⟩
    obtain ⟨stop, go⟩ := q1 Z ι M H m ex fun z h => .inl h
    by_cases hlt : i < ts.length
    · have hd : ts.drop i = ts[i] :: ts.drop (i + 1) := List.drop_eq_getElem_cons hlt
      rw [hd] at q
      obtain ⟨g1, y1⟩ := go i ts[i] (List.getElem?_eq_getElem hlt)
      refine .inr ⟨g1, fun σ' H' => i + 1 ≤ ts.length ∧ ∃ ι M σT, RM X.K Ω Z ι M H' ∧ RV X.K Ω Z ι M H' σT σ' ∧ Ext Z ι1 M1 H1 ι M H' ∧ PostS X.K Ω W Z ι M H' D (forL pf b (ts.drop (i + 1)) σT M), fun σ' H' ⟨a, h⟩ => ⟨ts.length - (i + 1), by omega, rfl, a, h⟩, fun x H' y => ?_⟩
      obtain ⟨m2, e2, r2⟩ := y1 x H' y
      have q : PostS X.K Ω W Z ι M H D (match pf ts[i] σT M with
        | none => none
        | some σ1 => match b σ1 M with
          | some (.nx σ2, M2) => forL pf b (ts.drop (i + 1)) σ2 M2
          | some (.ct σ2, M2) => forL pf b (ts.drop (i + 1)) σ2 M2
          | some (.bk σ2, M2) => some (.nx σ2, M2)
          | r => r) := q
      cases z : pf ts[i] σT M with
      | none => rw [z] at q; exact q.elim
      | some σ1 =>
        rw [z] at q
        have q := PostS.ext q e2
        refine hp Z ι M H' σT σ ts[i] x σ1 _ m2 (rv.ext e2.any) r2 z fun σ2 rv2 _ => ⟨Z, ι, M, σ1, m2, rv2, ?_⟩
        have ex2 : Ext Z ι1 M1 H1 ι M H' := ex.trans e2.any
        have q : PostS X.K Ω W Z ι M H' D (match b σ1 M with
          | some (.nx σ2, M2) => forL pf b (ts.drop (i + 1)) σ2 M2
          | some (.ct σ2, M2) => forL pf b (ts.drop (i + 1)) σ2 M2
          | some (.bk σ2, M2) => some (.nx σ2, M2)
          | r => r) := q
        generalize b σ1 M = r at q ⊢
        match r, q with
        | none, q => exact q
        | some (.nx σ3, M3), q => exact fun ι3 σ' H3 m3 e3 rv3 => ⟨hlt, ι3, M3, σ3, m3, rv3, ex2.trans e3.any, PostS.ext q e3⟩
        | some (.ct σ3, M3), q => exact fun ι3 σ' H3 m3 e3 rv3 => ⟨hlt, ι3, M3, σ3, m3, rv3, ex2.trans e3.any, PostS.ext q e3⟩
        | some (.bk σ3, M3), q => exact q
        | some (.rt _, _), q => exact q
        | some (.ex _ _ _, _), q => exact q
    · have e : i = ts.length := by omega
      subst e
      rw [List.drop_length] at q
      exact .inl ⟨stop, q.nx m rv⟩⟩
def wipeT (σ : TV) : List Nat → TV
  | [] => σ
  | v :: vs => (wipeT σ vs).set v none
theorem RV.wipe {K : PySem.W.Frag} {Z ι : List Addr} {M : Mem} {H : Hp} {σT : TV} {σ : L2.St} (r : RV K Ω Z ι M H σT σ) : ∀ vs : List Nat, RV K Ω Z ι M H (wipeT σT vs) (L2.wipe σ vs)
  | [] => r
  | v :: vs => by
    have q := RV.wipe r vs
    refine ⟨by simp [wipeT, L2.wipe, q.len], fun j u h => ?_⟩
    unfold wipeT at h
    unfold L2.wipe
    by_cases e : v = j
    · subst e
      by_cases hi : v < (wipeT σT vs).length
      · rw [List.getElem?_set_self hi] at h; cases h
      · rw [List.getElem?_eq_none (by simpa using hi)] at h; cases h
    · rw [List.getElem?_set_ne e] at h
      obtain ⟨w, a, b⟩ := q.at_ j u h
      exact ⟨w, by rw [List.getElem?_set_ne e]; exact a, b⟩
theorem wipe_wipe {σ : L2.St} {us : List Nat} : L2.wipe (L2.wipe σ us) us = L2.wipe σ us := by
  apply List.ext_getElem?
  intro j
  rw [wipe_at, wipe_at, wipe_length]
  by_cases e : j ∈ us
  · rw [if_pos e, if_pos e]
  · rw [if_neg e, if_neg e]
def compL (p : PF) (c : TF) (f : EF) (σ : TV) : List T → List T → Mem → Res (List T)
  | [], acc, M => .ok acc M
  | t :: ts, acc, M => match p t σ M with
    | none => .err
    | some σ1 => match c σ1 M with
      | .ok true M1 => (match f σ1 M1 with
        | .ok u M2 => compL p c f σ ts (acc ++ [u]) M2
        | _ => .err)
      | .ok false M1 => compL p c f σ ts acc M1
      | _ => .err
def eLc (own : List Nat) (p : PF) (it : AF) (c : TF) (f : EF) : AF := fun σ M => (it σ M).bind fun ts M1 => bif big ts.length then compL p c f (wipeT σ own) ts [] M1 else .err
def tTrue : TF := fun _ M => .ok true M
abbrev W0 : WX := fun _ _ _ _ => False
abbrev MTs (X : Cx) (Ω : Om) (W : WX) (es : List Expr) (f : TF) : Prop := PTs X es (liftT X.K Ω W f)
theorem mts_nil : MTs X Ω W [] tTrue := ⟨fun pins s σ H Q I ⟨Z, ι, M, σT, m, rv, p⟩ => pts_nil.run pins s σ H Q I (p.pure m rfl)⟩
theorem mts_one {c : Expr} {ft : TF} (h : MT X Ω W c ft) : MTs X Ω W [c] ft := pts_one h
end
section
variable {X : Cx} {Ω : Om} {W : WX} {elt iter tg : Expr} {f : EF} {c : TF} {it : AF} {pos : Pos} {ifs : List Expr} {scope : Scope} {own : List (Str × Nat)} {gt : TG} {pf : PF} {vs : List Nat}
theorem lc_of {K : PySem.W.Frag} {σ : L2.St} {H : Hp} {Q : VK} (hp : PatS K Ω gt pf vs) (hv : ∀ i ∈ vs, i ∈ own.map (·.2)) (q : MLr K Ω W (eLc (own.map (·.2)) pf it c f) σ H Q) : tLc (lift K Ω (RIt K Ω) W it) gt (liftT K Ω W0 c) (liftE K Ω W0 f) (own.map (·.2)) σ H Q := by
  obtain ⟨Z, ι, M, σT, m, rv, p⟩ := q
  refine ⟨Z, ι, M, σT, m, rv, ?_⟩
  unfold eLc at p
  cases q0 : it σT M with
  | exc c t M1 => rw [q0] at p; exact p
  | err => rw [q0] at p; exact p
  | ok ts M1 =>
    rw [q0] at p
    intro ι1 H1 J m1 e1 q1 D nD
    have p : match (bif big ts.length then compL pf c f (wipeT σT (own.map (·.2))) ts [] M1 else .err) with
      | .ok ts M' => ∀ ι' H' p vs, H p = none → RM K Ω (p :: Z) ι' M' H' → p ∉ Z → Ext [] ι M H ι' M' H' → H' p = some (.lst vs) → Rs K Ω (p :: Z) ι' M' H' ts vs → Q (.ref p) H'
      | .exc c t M' => ∀ ι' H' dd v, RM K Ω Z ι' M' H' → Ext [] ι M H ι' M' H' → R K Ω Z ι' M' H' t v → H' dd = some (.xd [("value", v)]) → Still Z ι' M' dd → W (.ref (Ω.cls c)) (some dd) σ H'
      | .err => False := p
    cases zb : big ts.length with
    | false => rw [zb] at p; exact p.elim
    | true =>
    rw [zb] at p
    have hsz : ts.length ≤ 2000000 := of_decide_eq_true zb
    have hD : H D = none := by
      cases z : H D with
      | none => rfl
      | some o => exact absurd nD (e1.there D (by rw [z]; exact nofun))
    have dZ : D ∉ Z := m1.notZ nD
    have rv1 : RV K Ω Z ι1 M1 H1 σT σ := rv.ext e1.any
    -- the invariant
    refine ⟨fun i n H => n = ts.length - i ∧ i ≤ ts.length ∧ ∃ ι2 M2 acc ws, RM K Ω (D :: Z) ι2 M2 H ∧ Ext [D] ι1 M1 H1 ι2 M2 H ∧ H D = some (.lst ws) ∧ Rs K Ω (D :: Z) ι2 M2 H acc ws ∧ acc.length ≤ i ∧ (match compL pf c f (wipeT σT (own.map (·.2))) (ts.drop i) acc M2 with
      | .ok ts M' => ∀ ι' H' p vs, H1 p = none → RM K Ω (p :: Z) ι' M' H' → p ∉ Z → Ext [] ι1 M1 H1 ι' M' H' → H' p = some (.lst vs) → Rs K Ω (p :: Z) ι' M' H' ts vs → Q (.ref p) H'
      | _ => False), ⟨ts.length, by omega, Nat.zero_le _, ι1, M1, [], [], m1.layH nD, Ext.new nD, upd_same, .nil, Nat.le_refl _, ?_⟩, ?_⟩
    · generalize hr : compL pf c f (wipeT σT (own.map (·.2))) ts [] M1 = r at p
      rw [show ts.drop 0 = ts from rfl, hr]
      have nex : ∀ (l : List T) (acc : List T) (M0 : Mem) c' t' M', compL pf c f (wipeT σT (own.map (·.2))) l acc M0 ≠ .exc c' t' M' := by
        intro l
        induction l with
        | nil => intro acc M0 c' t' M' h; cases h
        | cons t l ih =>
          intro acc M0 c' t' M' h
          unfold compL at h
          split at h
          · cases h
          · split at h
            · split at h
              · exact ih _ _ _ _ _ h
              · cases h
            · exact ih _ _ _ _ _ h
            · cases h
      match r, p with
      | .ok ts' M', p =>
        exact fun ι' H' q vs hq mm hz ex hv rs => p ι' H' q vs (by
          cases z : H q with
          | none => rfl
          | some o => exact absurd hq (e1.there q (by rw [z]; exact nofun))) mm hz (e1.trans ex) hv rs
      | .exc c' t' M', p => exact absurd hr (nex _ _ _ _ _ _)
    · rintro i n H3 ⟨rfl, hi3, ι2, M2, acc, ws, m2, ex2, hD2, rs2, hacc, p2⟩
      obtain ⟨stop, go⟩ := q1 (D :: Z) ι2 M2 H3 m2 (ex2.to fun z h => by simp at h; simp [h]) fun z h => (List.mem_cons.mp h).elim (fun e => .inr (by rw [e]; exact nD)) .inl
      by_cases hlt : i < ts.length
      · have hd : ts.drop i = ts[i] :: ts.drop (i + 1) := List.drop_eq_getElem_cons hlt
        rw [hd] at p2
        obtain ⟨g1, y1⟩ := go i ts[i] (List.getElem?_eq_getElem hlt)
        refine .inr ⟨g1, fun H' => i + 1 ≤ ts.length ∧ ∃ ι2 M2 acc ws, RM K Ω (D :: Z) ι2 M2 H' ∧ Ext [D] ι1 M1 H1 ι2 M2 H' ∧ H' D = some (.lst ws) ∧ Rs K Ω (D :: Z) ι2 M2 H' acc ws ∧ acc.length ≤ i + 1 ∧ (match compL pf c f (wipeT σT (own.map (·.2))) (ts.drop (i + 1)) acc M2 with
          | .ok ts M' => ∀ ι' H' p vs, H1 p = none → RM K Ω (p :: Z) ι' M' H' → p ∉ Z → Ext [] ι1 M1 H1 ι' M' H' → H' p = some (.lst vs) → Rs K Ω (p :: Z) ι' M' H' ts vs → Q (.ref p) H'
          | _ => False), fun H' ⟨a, h⟩ => ⟨ts.length - (i + 1), by omega, rfl, a, h⟩, fun x H4 y => ?_⟩
        obtain ⟨m4, e4, r4⟩ := y1 x H4 y
        have ex4 : Ext [D] ι1 M1 H1 ι2 M2 H4 := ex2.trans e4.any
        have hD4 : H4 D = some (.lst ws) := (e4.froz D _ hD2 ⟨(m2.zin D (by simp)).2, by simp⟩).1
        have rv4 : RV K Ω (D :: Z) ι2 M2 H4 (wipeT σT (own.map (·.2))) (wipe σ (own.map (·.2))) := by
          have h0 : RV K Ω (D :: Z) ι1 M1 (upd H1 D (.lst [])) σT σ := (rv1.hide nD).ext (Ext.new nD)
          have h1 : RV K Ω (D :: Z) ι1 M1 H1 σT σ := rv1.hide nD
          exact (h1.ext (ex4.to fun z h => by simp at h; simp [h])).wipe _
        unfold compL at p2
        cases zp : pf ts[i] (wipeT σT (own.map (·.2))) M2 with
        | none => rw [zp] at p2; exact p2.elim
        | some σ1 =>
          rw [zp] at p2
          refine hp (D :: Z) ι2 M2 H4 _ _ ts[i] x σ1 _ m4 rv4 r4 zp fun σ5 rv5 w5 => ⟨(w5 _ hv).trans wipe_wipe, D :: Z, ι2, M2, σ1, m4, rv5, ?_⟩
          dsimp only at p2
          cases zc : c σ1 M2 with
          | err => rw [zc] at p2; exact p2.elim
          | exc _ _ _ => rw [zc] at p2; exact p2.elim
          | ok k M5 =>
            rw [zc] at p2
            intro ι5 H5 b m5 e5 hb
            cases hb
            have ex5 : Ext [D] ι1 M1 H1 ι5 M5 H5 := ex4.trans e5.any
            have hD5 : H5 D = some (.lst ws) := (e5.froz D _ hD4 ⟨(m4.zin D (by simp)).2, by simp⟩).1
            have rs5 : Rs K Ω (D :: Z) ι5 M5 H5 acc ws := (rs2.ext e4.any).ext e5.any
            cases k with
            | false =>
              rw [if_neg Bool.false_ne_true]
              exact ⟨hlt, ι5, M5, acc, ws, m5, ex5, hD5, rs5, by omega, p2⟩
            | true =>
              rw [if_pos rfl]
              refine ⟨D :: Z, ι5, M5, σ1, m5, rv5.ext e5.any, ?_⟩
              dsimp only at p2
              cases zf : f σ1 M5 with
              | err => rw [zf] at p2; exact p2.elim
              | exc _ _ _ => rw [zf] at p2; exact p2.elim
              | ok u M6 =>
                rw [zf] at p2
                intro ι6 H6 v6 m6 e6 r6
                have hD6 : H6 D = some (.lst ws) := (e6.froz D _ hD5 ⟨(m5.zin D (by simp)).2, by simp⟩).1
                have rs6 : Rs K Ω (D :: Z) ι6 M6 H6 acc ws := rs5.ext e6.any
                have et : Ext (D :: Z) ι6 M6 H6 ι6 M6 (upd H6 D (.lst (ws ++ [v6]))) := Ext.turn hD6 (by intro xs h; cases h) (by intro x y h; cases h)
                have et1 : Ext [D] ι6 M6 H6 ι6 M6 (upd H6 D (.lst (ws ++ [v6]))) := Ext.turn hD6 (by intro xs h; cases h) (by intro x y h; cases h)
                refine ⟨ws, hD6, ?_, hlt, ι6, M6, acc ++ [u], ws ++ [v6], m6.turn hD6 (by intro xs h; cases h) (by intro x y h; cases h), (ex5.trans e6.any).trans et1, upd_same, ?_, by simp; omega, p2⟩
                · rw [← rs6.length, sizeLine_eq]; omega
                · have ap : ∀ {ts : List T} {vs : List V} {t : T} {v : V}, Rs K Ω (D :: Z) ι6 M6 (upd H6 D (.lst (ws ++ [v6]))) ts vs → R K Ω (D :: Z) ι6 M6 (upd H6 D (.lst (ws ++ [v6]))) t v → Rs K Ω (D :: Z) ι6 M6 (upd H6 D (.lst (ws ++ [v6]))) (ts ++ [t]) (vs ++ [v]) := by
                    intro ts
                    induction ts with
                    | nil => intro vs t v h r; cases h; exact .cons r .nil
                    | cons a ts ih => intro vs t v h r; cases h with | cons h1 h2 => exact .cons h1 (ih h2 r)
                  exact ap (rs6.ext et) (r6.ext et)
      · have e : i = ts.length := by omega
        subst e
        rw [List.drop_length] at p2
        exact .inl ⟨stop, p2 ι2 H3 D ws nD m2 dZ (ex2.drop nD) hD2 rs2⟩
theorem ml_lc (hc : X.calm = true) (hN : X.N.Nodup) (hi : MI X Ω W tg iter it) (ok : BlkOk X.N X.env.scope scope own) (hp : PatS X.K Ω gt pf vs) (hv : ∀ i ∈ vs, i ∈ own.map (·.2))
    (hg : ∀ (s : Shared) (H : Hp) (C : Addr) (cl : List (Str × Addr)) (fp : List Addr), PG (X.blk s H scope (compEnvC scope cl C X.env) fp) tg gt)
    (ht : ∀ (s : Shared) (H : Hp) (C : Addr) (cl : List (Str × Addr)) (fp : List Addr), MTs (X.blk s H scope (compEnvC scope cl C X.env) fp) Ω W0 ifs c)
    (he : ∀ (s : Shared) (H : Hp) (C : Addr) (cl : List (Str × Addr)) (fp : List Addr), ME (X.blk s H scope (compEnvC scope cl C X.env) fp) Ω W0 elt f) (hs : ∀ x, foldedSetIterable iter X.env x = pure x := by intro _; rfl) :
    ML X Ω W (.ListComp elt [⟨tg, iter, ifs, 0⟩] scope pos) (eLc (own.map (·.2)) pf it c f) := L2PE.imp (pe_lc (tt := liftT X.K Ω W0 c) (te := liftE X.K Ω W0 f) hc hN hi ok hg ht he hs) fun σ H Q => lc_of hp hv
end
end Mi
namespace Mi
open PySem PySem.Spec PyProof.Rows L2

abbrev FF := List T → Mem → Res T
def runB (n : Nat) (b : SF) : FF := fun ts M => match b (ts.map some ++ List.replicate (n - ts.length) none) M with
  | some (.nx _, M') => .ok .non M'
  | some (.rt t, M') => .ok t M'
  | some (.ex _ c t, M') => .exc c t M'
  | _ => .err
def spF (K : PySem.W.Frag) (Ω : Om) (n : Nat) (F : FF) : Sp := fun vs H Q E => ∃ Z ι M ts, RM K Ω Z ι M H ∧ Rs K Ω Z ι M H ts vs ∧ ts.length = n ∧ Post K Ω (R K Ω) E Z ι M H Q (F ts M)
theorem rv_start {K : PySem.W.Frag} {Ω : Om} {Z ι : List Addr} {M : Mem} {H : Hp} {ts : List T} {vs : List V} {N : List Str} (r : Rs K Ω Z ι M H ts vs) : RV K Ω Z ι M H (ts.map some ++ List.replicate (N.length - ts.length) none) (L2.start N vs) := by
  have hl := r.length
  refine ⟨by unfold L2.start; simp [hl], fun i t h => ?_⟩
  unfold L2.start
  by_cases hi : i < ts.length
  · rw [List.getElem?_append_left (by simpa using hi), List.getElem?_map] at h
    cases e : ts[i]? with
    | none => rw [e] at h; cases h
    | some u =>
      rw [e] at h
      cases h
      obtain ⟨v, hv, rv⟩ := r.get e
      exact ⟨v, by rw [List.getElem?_append_left (by simp; omega), List.getElem?_map, hv]; rfl, rv⟩
  · rw [List.getElem?_append_right (by simpa using hi), List.getElem?_replicate] at h
    split at h <;> cases h

section
variable {P : Program} {w : World} {K : PySem.W.Frag} {mg : Str → Option Value} {base : Heap} {Ω : Om}
abbrev cxD (P : Program) (w : World) (K : PySem.W.Frag) (mg : Str → Option Value) (base : Heap) (N : List Str) (qual : Str) (sc : Scope) (f : Addr) (cdv : Value) (A : Around) (outer : List Env) (s : Shared) (H : Hp) (E : XK) : Cx := cxOf (L2.CX P w) P w K mg base N qual sc f cdv A outer s H E
def BodyS (P : Program) (w : World) (K : PySem.W.Frag) (mg : Str → Option Value) (base : Heap) (Ω : Om) (k : Nat) (N : List Str) (sc : Scope) (body : List Stmt) (b : SF) : Prop :=
  ∀ (qual : Str) (f : Addr) (cdv : Value) (A : Around) (outer : List Env) (s : Shared) (H : Hp) (E : XK), Room k (A.deeper (envOfC qual sc s.heap.objs.size f cdv)) → MSs (cxD P w K mg base N qual sc f cdv A outer s H E) Ω (fun c d _ H' => E c d H') body b
theorem body_ok {qual : Str} {sc : Scope} {f : Addr} {cdv : Value} {A : Around} {outer : List Env} {s : Shared} {N ps : List Str} {H : Hp} {E : XK} {body : List Stmt} {b : SF} {vs : List V} {Q : VK} {k : Nat}
    (h : MSs (cxD P w K mg base N qual sc f cdv A outer s H E) Ω (fun c d _ H' => E c d H') body b) (q : spF K Ω ps.length (runB N.length b) vs H Q E) :
    ∃ t, PSs (cxD P w K mg base N qual sc f cdv A outer s H E) body t ∧ t { nx := fun _ H' => Q .non H', rt := Q } (L2.start N vs) H := by
  refine ⟨_, h, ?_⟩
  obtain ⟨Z, ι, M, ts, m, rs, hl, p⟩ := q
  refine ⟨Z, ι, M, _, m, rv_start rs, ?_⟩
  unfold runB at p
  generalize b (ts.map some ++ List.replicate (N.length - ts.length) none) M = r at p ⊢
  match r, p with
  | some (.nx _, M'), p => exact fun ι' σ' H' m' e rv => p ι' H' .non m' e .non
  | some (.rt t, M'), p => exact p
  | some (.ex _ c t, M'), p => exact fun ι' σ' H' dd v m' e rv rt x => p ι' H' dd v m' e rt x
  | some (.bk _, _), p => exact p.elim
  | some (.ct _, _), p => exact p.elim
  | none, p => exact p.elim
structure FnG (P : Program) (w : World) (K : PySem.W.Frag) (mg : Str → Option Value) (base : Heap) (Ω : Om) (x : Str) (k n : Nat) (dts : List T) (F : FF) : Prop where
  ex : ∃ (f : Addr) (fd : FuncData) (ps : List Str), mg x = some (.ref f) ∧ PySem.W.keepIn K (.ref f) = true ∧ ps.length = n ∧ FnOk P w K mg base (L2.CX P w) k f fd ps (spF K Ω n F) ∧
    ∀ j ≤ dts.length, ∃ (ds : List Value) (dvs : List V), Binds K fd ps ds ∧ Vals dvs ds ∧ ∀ Z ι M H, Rs K Ω Z ι M H (dts.drop j) dvs
structure MeG (P : Program) (w : World) (K : PySem.W.Frag) (mg : Str → Option Value) (base : Heap) (Ω : Om) (c : Nat) (m : Str) (k n : Nat) (dts : List T) (F : FF) : Prop where
  ex : ∃ (f : Addr) (fd : FuncData) (ps : List Str), Cls K (Ω.cls c) ∧ Meth K (Ω.cls c) m f ∧ m ∉ Ω.fld c ∧ ps.length = n ∧ FnOk P w K mg base (L2.CX P w) k f fd ps (spF K Ω n F) ∧
    ∀ j ≤ dts.length, ∃ (ds : List Value) (dvs : List V), Binds K fd ps ds ∧ Vals dvs ds ∧ ∀ Z ι M H, Rs K Ω Z ι M H (dts.drop j) dvs
structure PrG (P : Program) (w : World) (K : PySem.W.Frag) (mg : Str → Option Value) (base : Heap) (Ω : Om) (c : Nat) (m : Str) (k : Nat) (F : FF) : Prop where
  ex : ∃ (f p : Addr) (fd : FuncData) (ps : List Str), Cls K (Ω.cls c) ∧ PropOf K (Ω.cls c) m p f ∧ ps.length = 1 ∧ FnOk P w K mg base (L2.CX P w) k f fd ps (spF K Ω 1 F) ∧ Binds K fd ps []
structure MkG (P : Program) (w : World) (K : PySem.W.Frag) (mg : Str → Option Value) (base : Heap) (Ω : Om) (x : Str) (c k n : Nat) (F : FF) : Prop where
  ex : ∃ (f : Addr) (fd : FuncData) (ps : List Str), mg x = some (.ref (Ω.cls c)) ∧ Mk K (Ω.cls c) f ∧ ps.length = n ∧ FnOk P w K mg base (L2.CX P w) k f fd ps (spF K Ω n F) ∧ Binds K fd ps []
end

section
variable {X : Cx} {Ω : Om} {W : WX} {e o : Expr} {es : List Expr} {fo : EF} {fa : AF} {pos p apos : Pos} {F : FF} {k n j c : Nat} {dts : List T} {x : Str}
theorem Rs.append {K : PySem.W.Frag} {Z ι : List Addr} {M : Mem} {H : Hp} : ∀ {ts us : List T} {vs ws : List V}, Rs K Ω Z ι M H ts vs → Rs K Ω Z ι M H us ws → Rs K Ω Z ι M H (ts ++ us) (vs ++ ws)
  | _, _, _, _, .nil, s => s
  | _, _, _, _, .cons r t, s => .cons r (Rs.append t s)
def eCall (n : Nat) (F : FF) (ds : List T) (fa : AF) : EF := fun σ M => (fa σ M).bind fun ts M1 => bif (ts ++ ds).length == n then F (ts ++ ds) M1 else .err
theorem call_of {sp : Sp} {dvs : List V} {E : L2.St → XK} {ds : List T} (hE : ∀ σ, E σ = fun c d H' => W c d σ H') (hsp : ∀ vs H Q E, spF X.K Ω n F vs H Q E → sp vs H Q E) (hd : ∀ Z ι M H, Rs X.K Ω Z ι M H ds dvs)
    {σ : L2.St} {H : Hp} {Q : VK} (q : liftE X.K Ω W (eCall n F ds fa) σ H Q) : tCallSD sp dvs E (liftA X.K Ω W fa) σ H Q := by
  obtain ⟨Z, ι, M, σT, m, rv, q⟩ := q
  refine ⟨Z, ι, M, σT, m, rv, Post.bind q fun ι1 M1 H1 ts vs m1 e1 q1 p1 => hsp _ _ _ _ ?_⟩
  cases z : (ts ++ ds).length == n with
  | false => rw [z] at p1; exact p1.elim
  | true =>
    rw [z] at p1
    refine ⟨Z, ι1, M1, ts ++ ds, m1, q1.append (hd Z ι1 M1 H1), beq_iff_eq.mp z, ?_⟩
    rw [hE]
    exact p1
theorem passAtW {X : Cx} {W : WX} (tk : Takes X W) (σ : L2.St) : PassesAt (L2.CX X.prog X.w) X σ (fun c d H' => W c d σ H') := passAt tk σ
theorem me_call (j : Nat) (G : FnG X.prog X.w X.K X.mg X.base Ω x k n dts F) (hr : Room k X.A) (tk : Takes X W) (hg : Gl X x) (ha : MA X Ω W (e :: es) fa) (hj : j ≤ dts.length := by decide) (hdb : (x == ("__debug__" : Str)) = false := by decide)
    (he : starEach (e :: es) X.env = (false, eval e X.env) :: starEach es X.env := by rfl) (hpl : (backTo pos (starEach es X.env)).any (·.1) = false := by rfl) :
    ME X Ω W (.Call (.Name x p) (e :: es) [] pos) (eCall n F (dts.drop j) fa) := by
  obtain ⟨f, fd, ps, gm, kp, hl, ok, bd⟩ := G.ex
  obtain ⟨ds, dvs, hb, hv, hd⟩ := bd j hj
  exact L2PE.imp (pe_callSD ok hr hg gm kp hb hv (passAtW tk) ha hdb he hpl) fun σ H Q q => call_of (fun _ => rfl) (fun _ _ _ _ h => h) hd q

def objF (c : Nat) (M : Mem) : T → Option (List T)
  | .obj c' fs => bif c' == c then some fs else none
  | .loc n => match M[n]? with
    | some (.obj c' fs) => bif c' == c then some fs else none
    | _ => none
  | _ => none
theorem objF_ok {K : PySem.W.Frag} {Z ι : List Addr} {M : Mem} {H : Hp} {t : T} {v : V} {fs : List T} (m : RM K Ω Z ι M H) (r : R K Ω Z ι M H t v) (h : objF c M t = some fs) :
    ∃ a dx ws, v = .ref a ∧ H a = some (.ins (Ω.cls c) dx ws) ∧ ws.map (·.1) = (Ω.fld c).take ws.length ∧ Rs K Ω Z ι M H fs (ws.map (·.2)) := by
  cases r with
  | obj ha hn hk rs =>
    rename_i c' fs' a dx ws
    have h : (bif c' == c then some fs' else none) = some fs := h
    cases z : c' == c with
    | false => rw [z] at h; cases h
    | true =>
      rw [z] at h
      cases h
      have e := beq_iff_eq.mp z
      subst e
      exact ⟨a, dx, ws, rfl, ha, hk, rs⟩
  | loc q =>
    rename_i i a
    obtain ⟨o, e, ro⟩ := m.at q
    have h : (match M[i]? with | some (MO.obj c' fs) => bif c' == c then some fs else none | _ => none) = some fs := h
    rw [e] at h
    cases ro with
    | obj ha hk rs =>
      rename_i c' fs' dx ws
      have h : (bif c' == c then some fs' else none) = some fs := h
      cases z : c' == c with
      | false => rw [z] at h; cases h
      | true =>
        rw [z] at h
        cases h
        have e := beq_iff_eq.mp z
        subst e
        exact ⟨a, dx, ws, rfl, ha, hk, rs⟩
    | gone _ => cases h
    | lst _ _ => cases h
    | dK _ _ _ => cases h
    | dT _ _ _ => cases h
  | _ => cases h
theorem lookup_none {α : Type} {m : Str} : ∀ {ws : List (Str × α)}, m ∉ ws.map (·.1) → ws.lookup m = none
  | [], _ => rfl
  | (a, b) :: r, h => by
    rw [List.map_cons, List.mem_cons, not_or] at h
    rw [List.lookup_cons, beq_eq_false_iff_ne.mpr h.1]
    exact lookup_none h.2
def eMeth (c n : Nat) (F : FF) (ds : List T) (fo : EF) (fa : AF) : EF := fun σ M => (fo σ M).bind fun o M1 => match objF c M1 o with
  | none => .err
  | some _ => (fa σ M1).bind fun ts M2 => bif (o :: (ts ++ ds)).length == n then F (o :: (ts ++ ds)) M2 else .err
theorem me_meth {E : XK} {m : Str} {pl : Sem Bool} (j : Nat) (G : MeG X.prog X.w X.K X.mg X.base Ω c m k n dts F) (hr : Room k X.A) (tk : Takes X (fun c d _ H' => E c d H')) (ho : ME X Ω (fun c d _ H' => E c d H') o fo) (ha : MA X Ω (fun c d _ H' => E c d H') (e :: es) fa) (hj : j ≤ dts.length := by decide)
    (hst : starEach (e :: es) X.env = (false, eval e X.env) :: starEach es X.env := by rfl) (hpl : (backTo pos (starEach es X.env)).any (·.1) = false := by rfl)
    (ht : eval (.Call (.Attribute o m apos) (e :: es) [] pos) X.env = (do
      let ov ← eval o X.env
      standAt apos.atName
      let (f, first) ← holding [ov] (getMethod ov m pl)
      callWith pos f first (backTo pos (starEach (e :: es) X.env)) (backToKw pos (keywordEach [] X.env))) := by rfl) :
    ME X Ω (fun c d _ H' => E c d H') (.Call (.Attribute o m apos) (e :: es) [] pos) (eMeth c n F (dts.drop j) fo fa) := by
  obtain ⟨f, fd, ps, hc, hm, nf, hl, ok, bd⟩ := G.ex
  obtain ⟨ds, dvs, hb, hv, hd⟩ := bd j hj
  refine L2PE.imp (pe_meth (pl := pl) ho hc hm ok hr hb hv (passes_call tk fun _ _ _ _ h => h) ha hst hpl ht) fun σ H Q q => ?_
  obtain ⟨Z, ι, M, σT, m0, rv, q⟩ := q
  refine ⟨Z, ι, M, σT, m0, rv, Post.bind q fun ι1 M1 H1 t v m1 e1 q1 p1 => ?_⟩
  cases z : objF c M1 t with
  | none => rw [z] at p1; exact p1.elim
  | some fs =>
    rw [z] at p1
    obtain ⟨a, dx, ws, rfl, ha2, hk, rs⟩ := objF_ok m1 q1 z
    refine ⟨a, dx, ws, rfl, ha2, lookup_none (fun h => nf ?_), Z, ι1, M1, σT, m1, rv.ext e1.any, Post.bind p1 fun ι2 M2 H2 ts vs m2 e2 q2 p2 => ?_⟩
    · rw [hk] at h
      exact List.mem_of_mem_take h
    · cases y : (t :: (ts ++ dts.drop j)).length == n with
      | false => rw [y] at p2; exact p2.elim
      | true =>
        rw [y] at p2
        exact ⟨Z, ι2, M2, t :: (ts ++ dts.drop j), m2, .cons (q1.ext e2.any) (q2.append (hd Z ι2 M2 H2)), beq_iff_eq.mp y, p2⟩
def eProp (c : Nat) (F : FF) (fo : EF) : EF := fun σ M => (fo σ M).bind fun o M1 => match objF c M1 o with
  | none => .err
  | some _ => (F [o] M1).calm
theorem me_prop {m : Str} (G : PrG X.prog X.w X.K X.mg X.base Ω c m k F) (hr : Room (k + 1) X.A) (ho : ME X Ω W o fo) (hab : attributeBase o m X.env (eval o X.env) = eval o X.env := by rfl) : ME X Ω W (.Attribute o m pos) (eProp c F fo) := by
  obtain ⟨f, p, fd, ps, hc, hp, hl, ok, hb⟩ := G.ex
  refine L2PE.imp (pe_prop (E := E0) ho hc hp ok hr hb .nil passL hab) fun σ H Q q => ?_
  obtain ⟨Z, ι, M, σT, m0, rv, q⟩ := q
  refine ⟨Z, ι, M, σT, m0, rv, Post.bind q fun ι1 M1 H1 t v m1 e1 q1 p1 => ?_⟩
  cases z : objF c M1 t with
  | none => rw [z] at p1; exact p1.elim
  | some fs =>
    rw [z] at p1
    obtain ⟨a, dx, ws, rfl, ha2, hk, rs⟩ := objF_ok m1 q1 z
    refine ⟨a, dx, ws, rfl, ha2, Z, ι1, M1, [t], m1, .cons q1 .nil, rfl, ?_⟩
    have p1 : Post X.K Ω (R X.K Ω) (fun c d H' => W c d σ H') Z ι1 M1 H1 Q (F [t] M1).calm := p1
    generalize F [t] M1 = r at p1 ⊢
    cases r with
    | ok u M2 => exact p1
    | exc _ _ _ => exact p1.elim
    | err => exact p1.elim
def eFld (c i : Nat) (fo : EF) : EF := fun σ M => (fo σ M).bind fun o M1 => match objF c M1 o with
  | none => .err
  | some fs => .of fs[i]? M1
theorem lookup_at {α : Type} {f : Str} : ∀ {ws : List (Str × α)} {i : Nat} {v : α}, (ws.map (·.1))[i]? = some f → (∀ j < i, (ws.map (·.1))[j]? ≠ some f) → (ws.map (·.2))[i]? = some v → ws.lookup f = some v
  | [], _, _, h, _, _ => by simp at h
  | (a, b) :: r, 0, v, h, _, hv => by
    simp at h hv
    rw [List.lookup_cons, h, beq_self_eq_true, hv]
  | (a, b) :: r, i + 1, v, h, hn, hv => by
    have ne : f ≠ a := fun e => hn 0 (by omega) (by simp [e])
    rw [List.lookup_cons, beq_eq_false_iff_ne.mpr ne]
    exact lookup_at (i := i) (by simpa using h) (fun j hj => by have := hn (j + 1) (by omega); simpa using this) (by simpa using hv)
theorem me_fld {f : Str} {i : Nat} (hc : Cls X.K (Ω.cls c)) (hn : NoAttr X.K (Ω.cls c) f) (hi : (Ω.fld c)[i]? = some f) (hu : ∀ j < i, (Ω.fld c)[j]? ≠ some f) (ho : ME X Ω W o fo) (hab : attributeBase o f X.env (eval o X.env) = eval o X.env := by rfl) : ME X Ω W (.Attribute o f pos) (eFld c i fo) := by
  refine L2PE.imp (pe_fld ho hab) fun σ H Q ⟨Z, ι, M, σT, m0, rv, q⟩ => ⟨Z, ι, M, σT, m0, rv, Post.bind q fun ι1 M1 H1 t v m1 e1 q1 p1 => ?_⟩
  cases z : objF c M1 t with
  | none => rw [z] at p1; exact p1.elim
  | some fs =>
    rw [z] at p1
    obtain ⟨a, dx, ws, rfl, ha2, hk, rs⟩ := objF_ok m1 q1 z
    obtain ⟨u, hu1, p1⟩ := Post.of p1
    obtain ⟨x, hx, rx⟩ := rs.get hu1
    have hl : i < ws.length := by
      have := (List.getElem?_eq_some_iff.mp hx).1
      simpa using this
    refine ⟨a, _, dx, ws, x, rfl, ha2, hc, hn, lookup_at ?_ (fun j hj => ?_) hx, p1.pure m1 rx⟩
    · rw [hk, List.getElem?_take_of_lt hl]
      exact hi
    · rw [hk, List.getElem?_take_of_lt (by omega)]
      exact hu j hj
def setAt (ts : List T) (i : Nat) (t : T) : Option (List T) := bif decide (i < ts.length) then some (ts.set i t) else bif ts.length == i then some (ts ++ [t]) else none
def sFldT (c i : Nat) (f fo : EF) : SF := fun σ M => (f σ M).go σ fun t M1 => (fo σ M1).go σ fun o M2 => match o with
  | .loc n => match M2[n]? with
    | some (.obj c' fs) => bif c' == c then (match setAt fs i t with
      | some fs' => some (.nx σ, M2.set n (.obj c fs'))
      | none => none) else none
    | _ => none
  | _ => none
theorem putF_at {f : Str} {v : V} : ∀ {ws : List (Str × V)} {i : Nat}, (ws.map (·.1))[i]? = some f → (∀ j < i, (ws.map (·.1))[j]? ≠ some f) → (putF f v ws).map (·.1) = ws.map (·.1) ∧ (putF f v ws).map (·.2) = (ws.map (·.2)).set i v
  | [], _, h, _ => by simp at h
  | (a, b) :: r, 0, h, _ => by
    simp at h
    subst h
    simp [putF]
  | (a, b) :: r, i + 1, h, hn => by
    have ne : a ≠ f := fun e => hn 0 (by omega) (by simp [e])
    obtain ⟨h1, h2⟩ := putF_at (f := f) (v := v) (ws := r) (i := i) (by simpa using h) (fun j hj => by have := hn (j + 1) (by omega); simpa using this)
    have e : putF f v ((a, b) :: r) = (a, b) :: putF f v r := by
      simp [putF, ne]
    rw [e]
    simp [h1, h2]
theorem putF_new {f : Str} {v : V} : ∀ {ws : List (Str × V)}, f ∉ ws.map (·.1) → putF f v ws = ws ++ [(f, v)]
  | [], _ => rfl
  | (a, b) :: r, h => by
    rw [List.map_cons, List.mem_cons, not_or] at h
    have e : putF f v ((a, b) :: r) = (a, b) :: putF f v r := by
      simp [putF, Ne.symm h.1]
    rw [e, putF_new h.2]
    rfl
theorem Rs.setI {K : PySem.W.Frag} {Z ι : List Addr} {M : Mem} {H : Hp} {t : T} {v : V} (r : R K Ω Z ι M H t v) : ∀ {ts : List T} {vs : List V} (i : Nat), Rs K Ω Z ι M H ts vs → Rs K Ω Z ι M H (ts.set i t) (vs.set i v)
  | _, _, _, .nil => .nil
  | _, _, 0, .cons _ q => .cons r q
  | _, _, i + 1, .cons p q => .cons p (Rs.setI r i q)
theorem ms_fld {f : Str} {i : Nat} {fv : EF} {value : Expr} {pos' : Pos} (hc : Cls X.K (Ω.cls c)) (hn : NoAttr X.K (Ω.cls c) f) (hi : (Ω.fld c)[i]? = some f) (hu : ∀ j < i, (Ω.fld c)[j]? ≠ some f) (hfew : (Ω.fld c).length < 1000) (ho : ME X Ω W o fo) (hv : ME X Ω W value fv)
    (hs : swapsWith value (some (.Attribute o f pos')) pos.line X.env = pure false := by rfl) : MS X Ω W (.Assign [.Attribute o f pos'] value pos) (sFldT c i fv fo) := by
  refine L2PS.imp (ps_fld ho hv hs) fun D σ H ⟨Z, ι, M, σT, m0, rv, q⟩ => ⟨Z, ι, M, σT, m0, rv, PostS.go q rv fun ι1 M1 H1 t v m1 e1 rv1 q1 p1 => ⟨Z, ι1, M1, σT, m1, rv1, PostS.go p1 rv1 fun ι2 M2 H2 u w m2 e2 rv2 q2 p2 => ?_⟩⟩
  match u, q2, p2 with
  | .loc n, .loc hn2, p2 =>
    rename_i a
    obtain ⟨ob, eo, ro⟩ := m2.at hn2
    have p2 : PostS X.K Ω W Z ι2 M2 H2 D (match M2[n]? with
      | some (MO.obj c' fs) => bif c' == c then (match setAt fs i t with
        | some fs' => some (Fl.nx σT, M2.set n (.obj c fs'))
        | none => none) else none
      | _ => none) := p2
    rw [eo] at p2
    cases ro with
    | obj ha hk rs =>
      rename_i c' fs dx ws
      dsimp only at p2
      cases z : c' == c with
      | false => rw [z] at p2; exact p2.elim
      | true =>
        rw [z] at p2
        have ec := beq_iff_eq.mp z
        subst ec
        dsimp only [cond_true] at p2
        have hlen : fs.length = ws.length := by rw [rs.length]; simp
        have few : ws.length < 1000 := by
          have := congrArg List.length hk
          rw [List.length_map, List.length_take] at this
          omega
        refine ⟨a, _, dx, ws, rfl, ha, hc, hn, few, ?_⟩
        have ev : Ext [] ι2 M2 H2 ι2 (M2.set n (.obj c' (fs ++ [t]))) H2 → True := fun _ => trivial
        unfold setAt at p2
        have t1 : ∀ xs, HO.ins (Ω.cls c') dx ws ≠ .tup xs := by intro xs h; cases h
        have t2 : ∀ x y, HO.ins (Ω.cls c') dx ws ≠ .frz x y := by intro x y h; cases h
        by_cases lt : i < fs.length
        · rw [decide_eq_true lt] at p2
          have key : (ws.map (·.1))[i]? = some f := by rw [hk, List.getElem?_take_of_lt (by omega)]; exact hi
          have first : ∀ j < i, (ws.map (·.1))[j]? ≠ some f := fun j hj => by rw [hk, List.getElem?_take_of_lt (by omega)]; exact hu j hj
          obtain ⟨k1, k2⟩ := putF_at (v := v) key first
          have kl : (putF f v ws).length = ws.length := by have := congrArg List.length k1; simpa using this
          refine p2 ι2 σ _ (m2.write hn2 eo (by intro h; cases h) ha t1 t2 fun ex => .obj upd_same (by rw [k1, kl]; exact hk) ?_) (Ext.write hn2 eo (by intro h; cases h) ha t1 t2) (rv2.ext (Ext.write hn2 eo (by intro h; cases h) ha t1 t2))
          rw [k2]
          exact Rs.setI ((q1.ext e2.any).ext ex) i (rs.ext ex)
        · rw [decide_eq_false lt] at p2
          cases y : fs.length == i with
          | false => rw [y] at p2; exact p2.elim
          | true =>
            rw [y] at p2
            have ei : fs.length = i := beq_iff_eq.mp y
            have fresh : f ∉ ws.map (·.1) := fun h => by
              obtain ⟨j, hj, ej⟩ := List.getElem_of_mem h
              have hj' : j < ws.length := by simpa using hj
              have := hu j (by omega)
              apply this
              have e3 : (ws.map (·.1))[j]? = some f := by rw [List.getElem?_eq_getElem hj, ej]
              rw [hk, List.getElem?_take_of_lt hj'] at e3
              exact e3
            rw [putF_new fresh]
            refine p2 ι2 σ _ (m2.write hn2 eo (by intro h; cases h) ha t1 t2 fun ex => .obj upd_same ?_ ?_) (Ext.write hn2 eo (by intro h; cases h) ha t1 t2) (rv2.ext (Ext.write hn2 eo (by intro h; cases h) ha t1 t2))
            · rw [List.map_append, hk, List.length_append]
              have : i = ws.length := by omega
              rw [List.length_singleton, List.take_add_one, ← this, hi]
              rfl
            · rw [List.map_append]
              exact Rs.append (rs.ext ex) (.cons ((q1.ext e2.any).ext ex) .nil)
    | gone _ => exact p2.elim
    | lst _ _ => exact p2.elim
    | dK _ _ _ => exact p2.elim
    | dT _ _ _ => exact p2.elim
  | .non, _, p2 => exact p2.elim
  | .bl _, _, p2 => exact p2.elim
  | .int _, _, p2 => exact p2.elim
  | .str _, _, p2 => exact p2.elim
  | .tup _, _, p2 => exact p2.elim
  | .ktup _, _, p2 => exact p2.elim
  | .klst _, _, p2 => exact p2.elim
  | .lst _, _, p2 => exact p2.elim
  | .dct _ _, _, p2 => exact p2.elim
  | .obj _ _, _, p2 => exact p2.elim
  | .xob _ _, _, p2 => exact p2.elim
def fin (fz : Bool) (c i : Nat) (M : Mem) : Option (T × Mem) := bif fz then (match M[i]? with
  | some (.obj c' fs) => bif c' == c then some (.obj c fs, M.set i .gone) else none
  | _ => none) else some (.loc i, M)
def eMake (fz : Bool) (c n : Nat) (F : FF) (fa : AF) : EF := fun σ M => (fa σ M).bind fun ts M1 => bif (T.loc M1.length :: ts).length == n then (F (.loc M1.length :: ts) (M1 ++ [.obj c []])).bind fun t M2 => match t with
    | .non => (match fin fz c M1.length M2 with
      | some (u, M3) => .ok u M3
      | none => .err)
    | _ => .err
  else .err
theorem make_of {E : XK} {fz : Bool} {Z ι : List Addr} {M : Mem} {H : Hp} {ts : List T} {vs : List V} {Q : VK} (m : RM X.K Ω Z ι M H) (rs : Rs X.K Ω Z ι M H ts vs)
    (q : Post X.K Ω (R X.K Ω) E Z ι M H Q (bif (T.loc M.length :: ts).length == n then (F (.loc M.length :: ts) (M ++ [.obj c []])).bind fun t M2 => match t with
    | .non => (match fin fz c M.length M2 with
      | some (u, M3) => .ok u M3
      | none => .err)
    | _ => .err
  else .err)) {x dx : Addr} (hx : H x = none) (hdx : H dx = none) (ne : dx ≠ x) : spF X.K Ω n F (.ref x :: (vs ++ [])) (upd (upd H dx (.own x)) x (.ins (Ω.cls c) dx [])) (fun v H2 => v = .non ∧ Q (.ref x) H2) E := by
  cases z : (T.loc M.length :: ts).length == n with
  | false => rw [z] at q; exact q.elim
  | true =>
    rw [z] at q
    have hx1 : upd H dx (.own x) x = none := by rw [upd_ne (Ne.symm ne)]; exact hx
    have e1 : Ext [] ι M H ι M (upd H dx (.own x)) := Ext.new hdx
    have e2 : Ext [] ι M (upd H dx (.own x)) ι M (upd (upd H dx (.own x)) x (.ins (Ω.cls c) dx [])) := Ext.new hx1
    have m1 : RM X.K Ω Z ι M (upd H dx (.own x)) := m.lay hdx
    have m2 : RM X.K Ω (x :: Z) ι M (upd (upd H dx (.own x)) x (.ins (Ω.cls c) dx [])) := m1.layH hx1
    have e3 : Ext [x] ι M (upd (upd H dx (.own x)) x (.ins (Ω.cls c) dx [])) (ι ++ [x]) (M ++ [.obj c []]) (upd (upd H dx (.own x)) x (.ins (Ω.cls c) dx [])) := Ext.push m.len
    have e4 : Ext [] ι M H (ι ++ [x]) (M ++ [.obj c []]) (upd (upd H dx (.own x)) x (.ins (Ω.cls c) dx [])) := ((e1.trans e2).any.trans e3).drop hx
    have m3 : RM X.K Ω Z (ι ++ [x]) (M ++ [.obj c []]) (upd (upd H dx (.own x)) x (.ins (Ω.cls c) dx [])) := m2.push (m.notZ hx) fun _ => .obj upd_same rfl .nil
    have lx : (ι ++ [x])[M.length]? = some x := by
      rw [← m.len, List.getElem?_append_right (Nat.le_refl _), Nat.sub_self]
      rfl
    refine ⟨Z, ι ++ [x], M ++ [.obj c []], .loc M.length :: ts, m3, .cons (.loc lx) ?_, beq_iff_eq.mp z, ?_⟩
    · rw [List.append_nil]
      exact rs.ext e4.any
    · refine Post.bind (Post.ext q e4) fun ι2 M2 H2 t v m5 e5 r5 p5 => ?_
      cases r5 with
      | non =>
        refine ⟨rfl, ?_⟩
        have l2 : ι2[M.length]? = some x := by
          obtain ⟨more, hm⟩ := e5.pre
          rw [hm, List.getElem?_append_left (List.getElem?_eq_some_iff.mp lx).1]
          exact lx
        have p5 : Post X.K Ω (R X.K Ω) E Z ι2 M2 H2 Q (match fin fz c M.length M2 with
          | some (u, M3) => .ok u M3
          | none => .err) := p5
        unfold fin at p5
        cases fz with
        | false => exact p5.pure m5 (.loc l2)
        | true =>
          obtain ⟨o, eo, ro⟩ := m5.at l2
          rw [eo] at p5
          cases ro with
          | obj ha hk rs2 =>
            rename_i c' fs dx ws
            dsimp only [cond_true] at p5
            cases y : c' == c with
            | false => rw [y] at p5; exact p5.elim
            | true =>
              rw [y] at p5
              have ec := beq_iff_eq.mp y
              subst ec
              obtain ⟨m6, st⟩ := m5.freeze l2 eo (by intro h; cases h)
              have e6 : Ext [] ι2 M2 H2 ι2 (M2.set M.length .gone) H2 := Ext.freeze l2 eo (by intro h; cases h)
              exact p5 ι2 H2 _ m6 e6 (.obj ha st hk (rs2.ext e6.any))
          | gone _ => exact p5.elim
          | lst _ _ => exact p5.elim
          | dK _ _ _ => exact p5.elim
          | dT _ _ _ => exact p5.elim
      | _ => exact p5.elim
theorem me_make {E : XK} (fz : Bool) (G : MkG X.prog X.w X.K X.mg X.base Ω x c k n F) (hr : Room (k + 1) X.A) (tk : Takes X (fun c d _ H' => E c d H')) (hg : Gl X x) (ha : MA X Ω (fun c d _ H' => E c d H') (e :: es) fa) (hdb : (x == ("__debug__" : Str)) = false := by decide)
    (he : starEach (e :: es) X.env = (false, eval e X.env) :: starEach es X.env := by rfl) (hpl : (backTo pos (starEach es X.env)).any (·.1) = false := by rfl) : ME X Ω (fun c d _ H' => E c d H') (.Call (.Name x p) (e :: es) [] pos) (eMake fz c n F fa) := by
  obtain ⟨f, fd, ps, gm, mk, hl, ok, hb⟩ := G.ex
  refine L2PE.imp (pe_make mk ok hr hg gm hb .nil (passes_call tk fun _ _ _ _ h => h) ha hdb he hpl) fun σ H Q ⟨Z, ι, M, σT, m0, rv, q⟩ => ⟨Z, ι, M, σT, m0, rv, Post.bind q fun ι1 M1 H1 ts vs m1 e1 q1 p1 x dx hx hdx ne => ?_⟩
  exact make_of m1 q1 p1 hx hdx ne
theorem me_make0 {E : XK} (fz : Bool) (G : MkG X.prog X.w X.K X.mg X.base Ω x c k n F) (hr : Room (k + 1) X.A) (tk : Takes X (fun c d _ H' => E c d H')) (hg : Gl X x) (hdb : (x == ("__debug__" : Str)) = false := by decide) : ME X Ω (fun c d _ H' => E c d H') (.Call (.Name x p) [] [] pos) (eMake fz c n F aNil) := by
  obtain ⟨f, fd, ps, gm, mk, hl, ok, hb⟩ := G.ex
  refine L2PE.imp (pe_make0 mk ok hr hg gm hb .nil (passes_call tk fun _ _ _ _ h => h) hdb) fun σ H Q ⟨Z, ι, M, σT, m0, rv, q⟩ => fun x dx hx hdx ne => ?_
  exact make_of m0 .nil q hx hdx ne
end
end Mi
namespace Mi
open PySem PySem.Spec PyProof.Rows L2

def ground (x : List Nat) : Bool := x.all fun c => decide (c < symB)
def isSym (c : Nat) : Bool := decide (symB ≤ c) && decide (c < symB + symN)
def letters (x : List Nat) : Bool := !x.isEmpty && decide (x.length ≤ 8) && x.all fun c => decide (97 ≤ c) && decide (c ≤ 122)
def mayBe (x : List Nat) : Bool := letters x && !awayW.contains x
def strEq (x y : List Nat) : Option Bool :=
  bif x == y then some true else bif ground x && ground y then some false else match x, y with
    | [c], [d] => bif isSym c && isSym d then some false else none
    | [c], y => bif isSym c && ground y && !mayBe y then some false else none
    | x, [d] => bif isSym d && ground x && !mayBe x then some false else none
    | _, _ => none
section
variable {Ω : Om}
theorem spell_ground {x : List Nat} (h : ground x = true) : spell Ω.rho x = x := spell_flat h
theorem spell_sym {c : Nat} (h : isSym c = true) : spell Ω.rho [c] = Ω.rho c := by
  unfold isSym at h
  rw [Bool.and_eq_true, decide_eq_true_eq, decide_eq_true_eq] at h
  unfold spell
  rw [List.flatMap_cons, if_neg (by omega)]
  simp
theorem letters_rho (c : Nat) : letters (Ω.rho c) = true := by
  unfold letters
  rw [Bool.and_eq_true, Bool.and_eq_true]
  refine ⟨⟨?_, decide_eq_true (Ω.rle c)⟩, List.all_eq_true.mpr fun x hx => ?_⟩
  · cases h : Ω.rho c with
    | nil => exact absurd h (Ω.rne c)
    | cons _ _ => rfl
  · have := Ω.rch c x hx
    rw [Bool.and_eq_true, decide_eq_true_eq, decide_eq_true_eq]
    exact this
theorem strEq_ok {x y : List Nat} {b : Bool} (h : strEq x y = some b) : decide (spell Ω.rho x = spell Ω.rho y) = b := by
  unfold strEq at h
  cases e : x == y with
  | true =>
    rw [e] at h
    cases h
    rw [beq_iff_eq.mp e]
    exact decide_eq_true rfl
  | false =>
    rw [e] at h
    have ne : x ≠ y := fun z => by rw [z, beq_self_eq_true] at e; cases e
    cases g : ground x && ground y with
    | true =>
      rw [g] at h
      cases h
      rw [Bool.and_eq_true] at g
      rw [spell_ground g.1, spell_ground g.2]
      exact decide_eq_false ne
    | false =>
      rw [g] at h
      dsimp only [cond_false] at h
      have lit : ∀ {c : Nat} {z : List Nat}, (isSym c && ground z && !mayBe z) = true → Ω.rho c ≠ z ∧ spell Ω.rho [c] = Ω.rho c ∧ spell Ω.rho z = z := by
        intro c z q
        rw [Bool.and_eq_true, Bool.and_eq_true] at q
        refine ⟨fun e => ?_, spell_sym q.1.1, spell_ground q.1.2⟩
        have := letters_rho (Ω := Ω) c
        have h2 : awayW.contains z = false := by
          rw [← e]
          cases h : awayW.contains (Ω.rho c) with
          | false => rfl
          | true => exact absurd (by simpa using h) (Ω.raw c)
        rw [e] at this
        unfold mayBe at q
        rw [this, h2] at q
        exact absurd q.2 (by decide)
      split at h
      · rename_i c d
        cases q : isSym c && isSym d with
        | false => rw [q] at h; cases h
        | true =>
          rw [q] at h
          cases h
          rw [Bool.and_eq_true] at q
          rw [spell_sym q.1, spell_sym q.2]
          refine decide_eq_false fun z => ne ?_
          have h1 := q.1
          have h2 := q.2
          unfold isSym at h1 h2
          rw [Bool.and_eq_true, decide_eq_true_eq, decide_eq_true_eq] at h1 h2
          have := Ω.rij (c - symB) (d - symB) (by omega) (by omega) (by rw [show symB + (c - symB) = c by omega, show symB + (d - symB) = d by omega]; exact z)
          rw [show c = d by omega]
      · rename_i c _
        cases q : isSym c && ground y && !mayBe y with
        | false => rw [q] at h; cases h
        | true =>
          rw [q] at h
          cases h
          obtain ⟨n, e1, e2⟩ := lit q
          rw [e1, e2]
          exact decide_eq_false n
      · rename_i d _
        cases q : isSym d && ground x && !mayBe x with
        | false => rw [q] at h; cases h
        | true =>
          rw [q] at h
          cases h
          obtain ⟨n, e1, e2⟩ := lit q
          rw [e1, e2]
          exact decide_eq_false (Ne.symm n)
      · cases h
end
def plainN : Nat → T → Bool
  | 0, _ => false
  | n + 1, t => match t with
    | .non => true
    | .bl _ => true
    | .int _ => true
    | .str _ => true
    | .tup ts => ts.all (plainN n)
    | .ktup ts => ts.all (plainN n)
    | .lst ts => ts.all (plainN n)
    | _ => false
def teqs (f : T → T → Option Bool) : List T → List T → Option Bool
  | x :: xs, y :: ys => match f x y with
    | some true => teqs f xs ys
    | r => r
  | [], [] => some true
  | _, _ => some false
def teqN : Nat → T → T → Option Bool
  | 0, _, _ => none
  | n + 1, t, u => match t, u with
    | .non, .non => some true
    | .bl a, .bl b => some (a == b)
    | .bl a, .int j => some ((if a then 1 else 0) == j)
    | .int i, .bl b => some (i == (if b then 1 else 0))
    | .int i, .int j => some (i == j)
    | .str x, .str y => strEq x y
    | .tup xs, .tup ys => bif xs.length == ys.length then teqs (teqN n) xs ys else some false
    | .ktup xs, .tup ys => bif xs.length == ys.length then teqs (teqN n) xs ys else some false
    | .tup xs, .ktup ys => bif xs.length == ys.length then teqs (teqN n) xs ys else some false
    | .ktup xs, .ktup ys => bif xs.length == ys.length then teqs (teqN n) xs ys else some false
    | .lst xs, .lst ys => bif xs.length == ys.length then teqs (teqN n) xs ys else some false
    | .klst _, _ => none
    | .dct _ _, _ => none
    | .obj _ _, _ => none
    | .xob _ _, _ => none
    | .loc _, _ => none
    | _, .klst _ => none
    | _, .dct _ _ => none
    | _, .obj _ _ => none
    | _, .xob _ _ => none
    | _, .loc _ => none
    | _, _ => some false
def toStr (x : List Nat) : Str := ⟨x.toArray⟩
section
variable {Ω : Om}
mutual
def dat (Ω : Om) : T → PyData
  | .bl b => .bool b
  | .int i => .int i
  | .str x => .str (toStr (spell Ω.rho x))
  | .tup ts => .tuple (dats Ω ts)
  | .ktup ts => .tuple (dats Ω ts)
  | .lst ts => .list (dats Ω ts)
  | _ => .none
def dats (Ω : Om) : List T → List PyData
  | [] => []
  | t :: ts => dat Ω t :: dats Ω ts
end
theorem toStr_of {s : Str} {x : List Nat} (h : s.cps.toList = x) : s = toStr x := by
  cases s
  unfold toStr
  congr 1
  rw [← h]
theorem dats_len : ∀ {ts : List T}, (dats Ω ts).length = ts.length
  | [] => rfl
  | _ :: ts => by simp [dats, dats_len (ts := ts)]
theorem strOk_spell {x : List Nat} : PyData.strOk (toStr (spell Ω.rho x)) = true := by
  unfold PyData.strOk toStr
  rw [← Array.all_toList]
  refine List.all_eq_true.mpr fun c hc => ?_
  have hc : c ∈ spell Ω.rho x := by simpa using hc
  unfold spell at hc
  rw [List.mem_flatMap] at hc
  obtain ⟨d, _, hd⟩ := hc
  split at hd
  · rename_i h
    have : c = d := by simpa using hd
    subst this
    exact decide_eq_true h
  · have := Ω.rch d c hd
    exact decide_eq_true (by omega)
mutual
theorem plain_dat : ∀ (n : Nat) (t : T), plainN n t = true → (dat Ω t).canLay0 = true ∧ (dat Ω t).depth ≤ n
  | 0, _, h => by cases h
  | n + 1, .non, _ => ⟨by simp [dat, PyData.canLay0], by simp [dat, PyData.depth]⟩
  | n + 1, .bl _, _ => ⟨by simp [dat, PyData.canLay0], by simp [dat, PyData.depth]⟩
  | n + 1, .int _, _ => ⟨by simp [dat, PyData.canLay0], by simp [dat, PyData.depth]⟩
  | n + 1, .str x, _ => ⟨by simp only [dat, PyData.canLay0]; exact strOk_spell, by simp [dat, PyData.depth]⟩
  | n + 1, .tup ts, h => by
    obtain ⟨a, b⟩ := plain_dats n ts h
    exact ⟨by simp only [dat, PyData.canLay0]; exact a, by simp only [dat, PyData.depth]; omega⟩
  | n + 1, .ktup ts, h => by
    obtain ⟨a, b⟩ := plain_dats n ts h
    exact ⟨by simp only [dat, PyData.canLay0]; exact a, by simp only [dat, PyData.depth]; omega⟩
  | n + 1, .lst ts, h => by
    obtain ⟨a, b⟩ := plain_dats n ts h
    exact ⟨by simp only [dat, PyData.canLay0]; exact a, by simp only [dat, PyData.depth]; omega⟩
  | n + 1, .dct _ _, h => by cases h
  | n + 1, .klst _, h => by cases h
  | n + 1, .obj _ _, h => by cases h
  | n + 1, .xob _ _, h => by cases h
  | n + 1, .loc _, h => by cases h
theorem plain_dats : ∀ (n : Nat) (ts : List T), ts.all (plainN n) = true → PyData.canLayAll0 (dats Ω ts) = true ∧ PyData.depthAll (dats Ω ts) ≤ n
  | n, [], _ => ⟨by simp [dats, PyData.canLayAll0], by simp [dats, PyData.depthAll]⟩
  | n, t :: ts, h => by
    rw [List.all_cons, Bool.and_eq_true] at h
    obtain ⟨a, b⟩ := plain_dat n t h.1
    obtain ⟨c, d⟩ := plain_dats n ts h.2
    exact ⟨by simp only [dats, PyData.canLayAll0]; rw [a, c]; rfl, by simp only [dats, PyData.depthAll]; omega⟩
end
theorem plain_shaped {t : T} (h : plainN 60 t = true) : SeqAt.shaped (dat Ω t) = true := by
  obtain ⟨a, b⟩ := plain_dat (Ω := Ω) 60 t h
  unfold SeqAt.shaped
  rw [a, decide_eq_true (show (dat Ω t).depth ≤ 64 by omega)]
  rfl
variable {K : PySem.W.Frag} {Z ι : List Addr} {M : Mem} {H : Hp}
mutual
theorem R.dp : ∀ (n : Nat) {t : T} {v : V}, R K Ω Z ι M H t v → plainN n t = true → Dp K H v (dat Ω t)
  | 0, _, _, _, h => by cases h
  | n + 1, _, _, .non, _ => .non
  | n + 1, _, _, .bl b, _ => .bl b
  | n + 1, _, _, .int i, _ => .int i
  | n + 1, _, _, .str x s e _, _ => by
    simp only [dat]
    rw [toStr_of e]
    exact .str _
  | n + 1, _, _, .tup q r, h => by
    simp only [dat]
    exact .tup (.of q) (Rs.dp n r h)
  | n + 1, _, _, .ktup q _ r, h => by
    simp only [dat]
    exact .tup q (Rs.dp n r h)
  | n + 1, _, _, .lst q _ r, h => by
    simp only [dat]
    exact .lst (.inl (.inl q)) (Rs.dp n r h)
  | n + 1, _, _, .klst q r, h => by cases h
  | n + 1, _, _, .dK _ _ _ _, h => by cases h
  | n + 1, _, _, .dT _ _ _ _, h => by cases h
  | n + 1, _, _, .obj _ _ _ _, h => by cases h
  | n + 1, _, _, .xob _ _ _ _ _ _, h => by cases h
  | n + 1, _, _, .loc _, h => by cases h
theorem Rs.dp : ∀ (n : Nat) {ts : List T} {vs : List V}, Rs K Ω Z ι M H ts vs → ts.all (plainN n) = true → DpAll K H vs (dats Ω ts)
  | n, _, _, .nil, _ => .nil
  | n, _, _, .cons r q, h => by
    rw [List.all_cons, Bool.and_eq_true] at h
    simp only [dats]
    exact .cons (R.dp n r h.1) (Rs.dp n q h.2)
end
theorem toStr_inj {x y : List Nat} : (toStr x == toStr y) = decide (x = y) := by
  unfold toStr
  by_cases e : x = y
  · rw [e, decide_eq_true rfl]
    exact beq_self_eq_true _
  · rw [decide_eq_false e]
    exact beq_eq_false_iff_ne.mpr fun h => e (by injection h with h; simpa using congrArg Array.toList h)
theorem teqs_ok {f : T → T → Option Bool} (hf : ∀ t u b, f t u = some b → PyData.eqv (dat Ω t) (dat Ω u) = b) : ∀ (ts us : List T) (b : Bool), teqs f ts us = some b → PyData.eqvAll (dats Ω ts) (dats Ω us) = b
  | [], [], b, h => by cases h; simp [dats, PyData.eqvAll]
  | [], _ :: _, b, h => by cases h; simp [dats, PyData.eqvAll]
  | _ :: _, [], b, h => by cases h; simp [dats, PyData.eqvAll]
  | t :: ts, u :: us, b, h => by
    unfold teqs at h
    simp only [dats, PyData.eqvAll]
    cases e : f t u with
    | none => rw [e] at h; cases h
    | some k =>
      rw [e] at h
      rw [hf t u k e]
      cases k with
      | true => exact (Bool.true_and _).trans (teqs_ok hf ts us b h)
      | false => cases h; rfl
theorem eqvAll_len : ∀ (xs ys : List PyData), xs.length ≠ ys.length → PyData.eqvAll xs ys = false
  | [], [], h => absurd rfl h
  | [], _ :: _, _ => by simp [PyData.eqvAll]
  | _ :: _, [], _ => by simp [PyData.eqvAll]
  | x :: xs, y :: ys, h => by
    simp only [PyData.eqvAll]
    rw [eqvAll_len xs ys (by simpa using h), Bool.and_false]
theorem teqN_ok : ∀ (n : Nat) (t u : T) (b : Bool), teqN n t u = some b → PyData.eqv (dat Ω t) (dat Ω u) = b
  | 0, _, _, _, h => by cases h
  | n + 1, t, u, b, h => by
    have two : ∀ (xs ys : List T), (bif xs.length == ys.length then teqs (teqN n) xs ys else some false) = some b → PyData.eqvAll (dats Ω xs) (dats Ω ys) = b := by
      intro xs ys q
      cases e : xs.length == ys.length with
      | true => rw [e] at q; exact teqs_ok (teqN_ok n) xs ys b q
      | false =>
        rw [e] at q
        cases q
        exact eqvAll_len _ _ (by rw [dats_len, dats_len]; exact beq_eq_false_iff_ne.mp e)
    cases t <;> cases u <;> simp only [teqN] at h <;> first
      | (cases h; simp [dat, PyData.eqv]; done)
      | (simp only [dat, PyData.eqv]; exact two _ _ h)
      | (simp only [dat, PyData.eqv]; rw [toStr_inj]; exact strEq_ok h)
      | (cases h; simp only [dat, PyData.eqv])
      | cases h
end
def teq (t u : T) : Option Bool := bif plainN 60 t && plainN 60 u then teqN 60 t u else none
def opEq : Op2 := fun _ t u => (teq t u).map .bl
def opNe : Op2 := fun _ t u => (teq t u).map fun b => .bl (!b)
section
variable {K : PySem.W.Frag} {Ω : Om}
theorem teq_dp {Z ι : List Addr} {M : Mem} {H : Hp} {t u : T} {v w : V} {b : Bool} (r : R K Ω Z ι M H t v) (q : R K Ω Z ι M H u w) (h : teq t u = some b) :
    Dp K H v (dat Ω t) ∧ Dp K H w (dat Ω u) ∧ SeqAt.shaped (dat Ω t) = true ∧ SeqAt.shaped (dat Ω u) = true ∧ PyData.eqv (dat Ω t) (dat Ω u) = b := by
  unfold teq at h
  cases e : plainN 60 t && plainN 60 u with
  | false => rw [e] at h; cases h
  | true =>
    rw [e] at h
    rw [Bool.and_eq_true] at e
    exact ⟨r.dp 60 e.1, q.dp 60 e.2, plain_shaped e.1, plain_shaped e.2, teqN_ok 60 t u b h⟩
theorem opEq_ok : OpS K Ω (rEqD K) opEq := fun Z ι M H t u v w z Q m r q h k => by
  unfold opEq at h
  cases e : teq t u with
  | none => rw [e] at h; cases h
  | some b =>
    rw [e] at h
    cases h
    obtain ⟨d1, d2, s1, s2, hb⟩ := teq_dp r q e
    exact ⟨_, _, d1, d2, s1, s2, by rw [hb]; exact k ι H _ m Ext.refl (.bl b)⟩
theorem opNe_ok : OpS K Ω (rNeD K) opNe := fun Z ι M H t u v w z Q m r q h k => by
  unfold opNe at h
  cases e : teq t u with
  | none => rw [e] at h; cases h
  | some b =>
    rw [e] at h
    cases h
    obtain ⟨d1, d2, s1, s2, hb⟩ := teq_dp r q e
    exact ⟨_, _, d1, d2, s1, s2, by rw [hb]; exact k ι H _ m Ext.refl (.bl _)⟩
end
end Mi
namespace Mi
open PySem PySem.Spec PyProof.Rows L2

section
variable {K : PySem.W.Frag} {Ω : Om} {X : Cx} {Z ι : List Addr} {M : Mem} {H : Hp}
def seqT (M : Mem) : T → Option (List T)
  | .tup ts => some ts
  | .ktup ts => some ts
  | .lst ts => some ts
  | .klst ts => some ts
  | .loc n => match M[n]? with
    | some (.lst ts) => some ts
    | _ => none
  | _ => none
theorem seqT_ok {t : T} {v : V} {ts : List T} (m : RM K Ω Z ι M H) (r : R K Ω Z ι M H t v) (h : seqT M t = some ts) : ∃ a vs, v = .ref a ∧ (SqL K H a vs ∨ SqT K H a vs) ∧ Rs K Ω Z ι M H ts vs := by
  cases r with
  | tup q rs => cases h; exact ⟨_, _, rfl, .inr (.of q), rs⟩
  | ktup q _ rs => cases h; exact ⟨_, _, rfl, .inr q, rs⟩
  | lst q n rs => cases h; exact ⟨_, _, rfl, .inl (.inl (.inl q)), rs⟩
  | klst q rs => cases h; exact ⟨_, _, rfl, .inl (KL.sql q), rs⟩
  | loc q =>
    rename_i n a
    obtain ⟨o, e, ro⟩ := m.at q
    have h : (match M[n]? with | some (MO.lst ts) => some ts | _ => none) = some ts := h
    rw [e] at h
    cases ro with
    | lst hl rs => cases h; exact ⟨_, _, rfl, .inl (.inl (.inl hl)), rs⟩
    | gone _ => cases h
    | obj _ _ _ => cases h
    | dK _ _ _ => cases h
    | dT _ _ _ => cases h
  | _ => cases h
def opAdd : Op2 := fun _ t u => match t, u with
  | .int i, .int j => some (.int (i + j))
  | .str x, .str y => bif big (x ++ y).length then some (.str (x ++ y)) else none
  | .tup xs, .tup ys => bif big (xs ++ ys).length then some (.tup (xs ++ ys)) else none
  | _, _ => none
abbrev rAddI : R2 := rI0 fun i j => .int (i + j)
abbrev rAddS : R2 := fun x y H Q => ∃ i j, x = .str i ∧ y = .str j ∧ i.length + j.length ≤ sizeLine ∧ Q (.str (i ++ j)) H
abbrev rAdd3 (K : PySem.W.Frag) : R2 := fun x y H Q => rAddI x y H Q ∨ rAddS x y H Q ∨ rCatA K x y H Q
theorem op_add3 : OpR X (binaryOp .Add) (rAdd3 X.K) := op_add.or (op_add_str.or op_catA)
theorem spell_app (r : Nat → List Nat) (x y : List Nat) : spell r (x ++ y) = spell r x ++ spell r y := by
  unfold spell
  rw [List.flatMap_append]
theorem cps_app (a b : Str) : (a ++ b).cps.toList = a.cps.toList ++ b.cps.toList := by
  show (a.cps ++ b.cps).toList = _
  exact Array.toList_append
theorem opAdd_ok : OpS K Ω (rAdd3 K) opAdd := fun Z ι M H t u v w z Q m r q h k => by
  unfold opAdd at h
  split at h
  · cases h
    cases r
    cases q
    exact .inl ⟨_, _, rfl, rfl, k ι H _ m Ext.refl (.int _)⟩
  · rename_i x y
    cases e : big (x ++ y).length with
    | false => rw [e] at h; cases h
    | true =>
      rw [e] at h
      cases h
      have hb : (x ++ y).length ≤ 2000000 := of_decide_eq_true e
      cases r with
      | str _ s hs _ =>
        cases q with
        | str _ s' hs' _ =>
          have e1 : (s ++ s').cps.toList = spell Ω.rho (x ++ y) := by rw [cps_app, hs, hs', spell_app]
          refine .inr (.inl ⟨s, s', rfl, rfl, ?_, k ι H _ m Ext.refl (.str _ _ e1 hb)⟩)
          have := str_size e1 hb
          have l : (s ++ s').length = s.length + s'.length := by
            show (s.cps ++ s'.cps).size = _
            exact Array.size_append
          omega
  · rename_i xs ys
    cases e : big (xs ++ ys).length with
    | false => rw [e] at h; cases h
    | true =>
      rw [e] at h
      cases h
      have hb := big_ok e
      cases r with
      | tup h1 r1 =>
        cases q with
        | tup h2 r2 =>
          rename_i a vs b ws
          refine .inr (.inr ⟨a, b, vs, ws, rfl, rfl, .of h1, .of h2, by rw [← r1.length, ← r2.length, ← List.length_append]; exact hb, fun e1 => ?_, fun _ e2 => ?_, fun _ _ p np => ?_⟩)
          · subst e1
            cases r1
            exact k ι H _ m Ext.refl (.tup h2 r2)
          · subst e2
            cases r2
            rw [List.append_nil] at k
            exact k ι H _ m Ext.refl (.tup h1 r1)
          · exact k ι _ _ (m.lay np) (Ext.new np) (.tup upd_same ((r1.append r2).ext (Ext.new np)))
  · cases h
theorem opI_ok {C : Int → Int → Prop} {g : Int → Int → Int} {o : Op2} (ho : ∀ M t u z, o M t u = some z → ∃ i j, t = .int i ∧ u = .int j ∧ C i j ∧ z = .int (g i j)) : OpS K Ω (rI C fun i j => .int (g i j)) o := fun Z ι M H t u v w z Q m r q h k => by
  obtain ⟨i, j, rfl, rfl, hc, rfl⟩ := ho M t u z h
  cases r
  cases q
  exact ⟨i, j, rfl, rfl, hc, k ι H _ m Ext.refl (.int _)⟩
theorem opB0_ok {g : Int → Int → Bool} {o : Op2} (ho : ∀ M t u z, o M t u = some z → ∃ i j, t = .int i ∧ u = .int j ∧ z = .bl (g i j)) : OpS K Ω (rI0 fun i j => .bl (g i j)) o := fun Z ι M H t u v w z Q m r q h k => by
  obtain ⟨i, j, rfl, rfl, rfl⟩ := ho M t u z h
  cases r
  cases q
  exact ⟨i, j, rfl, rfl, k ι H _ m Ext.refl (.bl _)⟩
def opMul : Op2 := fun _ t u => match t, u with
  | .int i, .int j => bif decide (-(2 ^ 64) < j) && decide (j < 2 ^ 64) || decide (-(2 ^ 64) < i) && decide (i < 2 ^ 64) then some (.int (i * j)) else none
  | _, _ => none
theorem opMul_ok : OpS K Ω (rI CMul fun i j => .int (i * j)) opMul := opI_ok fun M t u z h => by
  unfold opMul at h
  split at h
  · rename_i i j
    cases e : decide (-(2 ^ 64) < j) && decide (j < 2 ^ 64) || decide (-(2 ^ 64) < i) && decide (i < 2 ^ 64) with
    | false => rw [e] at h; cases h
    | true =>
      rw [e] at h
      cases h
      rw [Bool.or_eq_true, Bool.and_eq_true, Bool.and_eq_true, decide_eq_true_eq, decide_eq_true_eq, decide_eq_true_eq, decide_eq_true_eq] at e
      exact ⟨i, j, rfl, rfl, e.symm, rfl⟩
  · cases h
def opFdiv : Op2 := fun _ t u => match t, u with
  | .int i, .int j => bif decide (0 < j) && decide (j < 1073741824) then some (.int (i / j)) else none
  | _, _ => none
theorem opFdiv_ok : OpS K Ω (rI CDiv fun i j => .int (i / j)) opFdiv := opI_ok fun M t u z h => by
  unfold opFdiv at h
  split at h
  · rename_i i j
    cases e : decide (0 < j) && decide (j < 1073741824) with
    | false => rw [e] at h; cases h
    | true =>
      rw [e] at h
      cases h
      rw [Bool.and_eq_true, decide_eq_true_eq, decide_eq_true_eq] at e
      exact ⟨i, j, rfl, rfl, e, rfl⟩
  · cases h
def opMod : Op2 := fun _ t u => match t, u with
  | .int i, .int j => bif decide (0 < j) then some (.int (i % j)) else none
  | _, _ => none
theorem opMod_ok : OpS K Ω (rI (fun _ j => 0 < j) fun i j => .int (i % j)) opMod := opI_ok fun M t u z h => by
  unfold opMod at h
  split at h
  · rename_i i j
    cases e : decide (0 < j) with
    | false => rw [e] at h; cases h
    | true =>
      rw [e] at h
      cases h
      exact ⟨i, j, rfl, rfl, of_decide_eq_true e, rfl⟩
  · cases h
def CPowW (i j : Int) : Prop := 0 ≤ j ∧ (Builtin.Int.intBits i : Int) * j ≤ 2 ^ 27
theorem op_powW : OpR X (binaryOp .Pow) (rI CPowW fun i j => .int (i ^ j.toNat)) := opI fun _ _ _ _ _ _ _ hc q => pow_int hc.1 hc.2 q
def opPow : Op2 := fun _ t u => match t, u with
  | .int i, .int j => bif decide (0 ≤ j) && decide ((Builtin.Int.intBits i : Int) * j ≤ 2 ^ 27) then some (.int (i ^ j.toNat)) else none
  | _, _ => none
theorem opPow_ok : OpS K Ω (rI CPowW fun i j => .int (i ^ j.toNat)) opPow := opI_ok fun M t u z h => by
  unfold opPow at h
  split at h
  · rename_i i j
    cases e : decide (0 ≤ j) && decide ((Builtin.Int.intBits i : Int) * j ≤ 2 ^ 27) with
    | false => rw [e] at h; cases h
    | true =>
      rw [e] at h
      cases h
      rw [Bool.and_eq_true, decide_eq_true_eq, decide_eq_true_eq] at e
      exact ⟨i, j, rfl, rfl, e, rfl⟩
  · cases h
def opLt : Op2 := fun _ t u => match t, u with
  | .int i, .int j => some (.bl (decide (i < j)))
  | _, _ => none
def opLe : Op2 := fun _ t u => match t, u with
  | .int i, .int j => some (.bl (decide (i ≤ j)))
  | _, _ => none
def opGt : Op2 := fun _ t u => match t, u with
  | .int i, .int j => some (.bl (decide (j < i)))
  | _, _ => none
def opGe : Op2 := fun _ t u => match t, u with
  | .int i, .int j => some (.bl (decide (j ≤ i)))
  | _, _ => none
theorem opLt_ok : OpS K Ω (rI0 fun i j => .bl (decide (i < j))) opLt := opB0_ok fun M t u z h => by
  unfold opLt at h
  split at h
  · cases h; exact ⟨_, _, rfl, rfl, rfl⟩
  · cases h
theorem opLe_ok : OpS K Ω (rI0 fun i j => .bl (decide (i ≤ j))) opLe := opB0_ok fun M t u z h => by
  unfold opLe at h
  split at h
  · cases h; exact ⟨_, _, rfl, rfl, rfl⟩
  · cases h
theorem opGt_ok : OpS K Ω (rI0 fun i j => .bl (decide (j < i))) opGt := opB0_ok fun M t u z h => by
  unfold opGt at h
  split at h
  · cases h; exact ⟨_, _, rfl, rfl, rfl⟩
  · cases h
theorem opGe_ok : OpS K Ω (rI0 fun i j => .bl (decide (j ≤ i))) opGe := opB0_ok fun M t u z h => by
  unfold opGe at h
  split at h
  · cases h; exact ⟨_, _, rfl, rfl, rfl⟩
  · cases h
def eNeg (f : EF) : EF := fun σ M => (f σ M).bind fun t M1 => match t with
  | .int i => .ok (.int (-i)) M1
  | _ => .err
theorem me_neg {W : WX} {a : Expr} {f : EF} {pos : Pos} (ha : ME X Ω W a f) : ME X Ω W (.UnaryOp .USub a pos) (eNeg f) := L2PE.imp (pe_un un_neg ha) fun σ H Q ⟨Z, ι, M, σT, m, rv, p⟩ =>
  ⟨Z, ι, M, σT, m, rv, Post.bind p fun ι1 M1 H1 t v m1 e1 q1 p1 => by
    cases t with
    | int i => cases q1; exact ⟨i, rfl, p1.pure m1 (.int _)⟩
    | _ => exact p1.elim⟩
def opIs : Op2 := fun _ t u => match t, u with
  | .bl a, .bl b => some (.bl (decide (a = b)))
  | .non, .non => some (.bl true)
  | _, .non => some (.bl false)
  | _, _ => none
abbrev rIsNone : R2 := fun x y H Q => y = .non ∧ Q (.bl (decide (x = .non))) H
abbrev rIs2 : R2 := fun x y H Q => rIsNone x y H Q ∨ rIsB x y H Q
theorem op_is2 : OpR X (compareOp .Is) rIs2 := op_isN.or op_isBl
theorem R.non_iff {t : T} {v : V} (r : R K Ω Z ι M H t v) : decide (v = .non) = match t with | .non => true | _ => false := by
  cases r <;> rfl
theorem opIs_ok : OpS K Ω rIs2 opIs := fun Z ι M H t u v w z Q m r q h k => by
  unfold opIs at h
  split at h
  · cases h; cases r; cases q; exact .inr ⟨_, _, rfl, rfl, k ι H _ m Ext.refl (.bl _)⟩
  · cases h; cases r; cases q; exact .inl ⟨rfl, k ι H _ m Ext.refl (.bl _)⟩
  · rename_i n1 n2
    cases h
    cases q
    refine .inl ⟨rfl, ?_⟩
    rw [r.non_iff]
    split
    · exact absurd rfl n2
    · exact k ι H _ m Ext.refl (.bl _)
  · cases h
def tin (x : T) : List T → Option Bool
  | [] => some false
  | y :: ys => match teqN 60 y x with
    | some true => some true
    | some false => tin x ys
    | none => none
def inSeq (M : Mem) (t u : T) : Option Bool := match seqT M u with
  | some ts => bif plainN 60 t && ts.all (plainN 59) then tin t ts else none
  | none => none
def inStr (t u : T) : Option Bool := match t, u with
  | .str [c], .str z => bif decide (c < symB) && ground z then some (decide (c ∈ z)) else none
  | _, _ => none
def opIn : Op2 := fun M t u => (match u with
  | .str _ => inStr t u
  | _ => inSeq M t u).map .bl
def opNotIn : Op2 := fun M t u => (match u with
  | .str _ => inStr t u
  | _ => inSeq M t u).map fun b => .bl (!b)
theorem tin_ok {x : T} : ∀ {ts : List T} {b : Bool}, tin x ts = some b → ((dats Ω ts).any fun z => PyData.eqv z (dat Ω x)) = b
  | [], b, h => by cases h; simp [dats]
  | y :: ys, b, h => by
    unfold tin at h
    cases e : teqN 60 y x with
    | none => rw [e] at h; cases h
    | some k =>
      rw [e] at h
      simp only [dats, List.any_cons]
      rw [teqN_ok 60 y x k e]
      cases k with
      | true => cases h; rfl
      | false => exact (Bool.false_or _).trans (tin_ok h)
def rInS (K : PySem.W.Frag) (neg : Bool) : R2 := fun x y H Q => ∃ d ds, Dp K H x d ∧ (Dp K H y (.list ds) ∨ Dp K H y (.tuple ds)) ∧ SeqAt.shaped d = true ∧ PyData.canLayAll0 ds = true ∧ Q (.bl (if neg then !ds.any fun z => PyData.eqv z d else ds.any fun z => PyData.eqv z d)) H
theorem room_in {A : Around} {d : PyData} {ds : List PyData} (h : SeqAt.shaped d = true) (hu : A.units + 65 < cLine) : A.units + 1 + min (PyData.depthAll ds) d.depth < cLine := by
  have := SeqAt.depth_of_shaped h
  omega
theorem op_inS (hu : X.A.units + 65 < cLine) : OpR X (compareOp .In) (rInS X.K false) := by
  intro pins s σ H x y v u Q I rx ry ⟨d, ds, hd, he, sd, se, q⟩
  obtain ⟨as, r1⟩ := Dp.reads I d x v hd rx
  rcases he with he | he
  · obtain ⟨bs, r2⟩ := Dp.reads I _ y u he ry
    exact SeqAt.in_list_reads r2 r1 se (SeqAt.canLay_of_shaped sd) (room_in sd hu) ⟨.bl _, H, I, rfl, q⟩
  · obtain ⟨bs, r2⟩ := Dp.reads I _ y u he ry
    exact SeqAt.in_tuple_reads r2 r1 se (SeqAt.canLay_of_shaped sd) (room_in sd hu) ⟨.bl _, H, I, rfl, q⟩
theorem op_notInS (hu : X.A.units + 65 < cLine) : OpR X (compareOp .NotIn) (rInS X.K true) := by
  intro pins s σ H x y v u Q I rx ry ⟨d, ds, hd, he, sd, se, q⟩
  obtain ⟨as, r1⟩ := Dp.reads I d x v hd rx
  rcases he with he | he
  · obtain ⟨bs, r2⟩ := Dp.reads I _ y u he ry
    exact SeqAt.notIn_list_reads r2 r1 se (SeqAt.canLay_of_shaped sd) (room_in sd hu) ⟨.bl _, H, I, rfl, q⟩
  · obtain ⟨bs, r2⟩ := Dp.reads I _ y u he ry
    exact SeqAt.notIn_tuple_reads r2 r1 se (SeqAt.canLay_of_shaped sd) (room_in sd hu) ⟨.bl _, H, I, rfl, q⟩
abbrev rInSign : R2 := fun x y H Q => ∃ (c : Nat) (z : Str), x = .str ⟨#[c]⟩ ∧ y = .str z ∧ Q (.bl (decide (c ∈ z.cps.toList))) H
abbrev rNotInSign : R2 := fun x y H Q => ∃ (c : Nat) (z : Str), x = .str ⟨#[c]⟩ ∧ y = .str z ∧ Q (.bl (!decide (c ∈ z.cps.toList))) H
abbrev rIn2 (K : PySem.W.Frag) : R2 := fun x y H Q => rInS K false x y H Q ∨ rInSign x y H Q
abbrev rNotIn2 (K : PySem.W.Frag) : R2 := fun x y H Q => rInS K true x y H Q ∨ rNotInSign x y H Q
theorem op_in2 (hu : X.A.units + 65 < cLine) : OpR X (compareOp .In) (rIn2 X.K) := (op_inS hu).or op_in_sign
theorem op_notIn2 (hu : X.A.units + 65 < cLine) : OpR X (compareOp .NotIn) (rNotIn2 X.K) := (op_notInS hu).or op_notIn_sign
theorem inSeq_ok {t u : T} {v w : V} {b : Bool} (m : RM K Ω Z ι M H) (r : R K Ω Z ι M H t v) (q : R K Ω Z ι M H u w) (h : inSeq M t u = some b) :
    ∃ d ds, Dp K H v d ∧ (Dp K H w (.list ds) ∨ Dp K H w (.tuple ds)) ∧ SeqAt.shaped d = true ∧ PyData.canLayAll0 ds = true ∧ (ds.any fun z => PyData.eqv z d) = b := by
  unfold inSeq at h
  cases e : seqT M u with
  | none => rw [e] at h; cases h
  | some ts =>
    rw [e] at h
    have h : (bif plainN 60 t && ts.all (plainN 59) then tin t ts else none) = some b := h
    cases z : plainN 60 t && ts.all (plainN 59) with
    | false => rw [z] at h; cases h
    | true =>
      rw [z] at h
      rw [Bool.and_eq_true] at z
      obtain ⟨a, vs, rfl, hs, rs⟩ := seqT_ok m q e
      refine ⟨dat Ω t, dats Ω ts, r.dp 60 z.1, ?_, plain_shaped z.1, (plain_dats 59 ts z.2).1, tin_ok h⟩
      rcases hs with hs | hs
      · exact .inl (.lst hs (rs.dp 59 z.2))
      · exact .inr (.tup hs (rs.dp 59 z.2))
theorem inStr_ok {t u : T} {v w : V} {b : Bool} (r : R K Ω Z ι M H t v) (q : R K Ω Z ι M H u w) (h : inStr t u = some b) :
    ∃ (c : Nat) (z : Str), v = .str ⟨#[c]⟩ ∧ w = .str z ∧ decide (c ∈ z.cps.toList) = b := by
  unfold inStr at h
  split at h
  · rename_i c z
    cases e : decide (c < symB) && ground z with
    | false => rw [e] at h; cases h
    | true =>
      rw [e] at h
      cases h
      rw [Bool.and_eq_true, decide_eq_true_eq] at e
      cases r with
      | str _ s hs _ =>
        cases q with
        | str _ s' hs' _ =>
          rw [spell_ground (by unfold ground; simp [e.1])] at hs
          rw [spell_ground e.2] at hs'
          refine ⟨c, s', ?_, rfl, by rw [hs']⟩
          rw [toStr_of hs]
          rfl
  · cases h
theorem opIn_ok : OpS K Ω (rIn2 K) opIn := fun Z ι M H t u v w z Q m r q h k => by
  unfold opIn at h
  split at h
  · cases e : inStr t (.str _) with
    | none => rw [e] at h; cases h
    | some b =>
      rw [e] at h
      cases h
      obtain ⟨c, z, h1, h2, h3⟩ := inStr_ok r q e
      exact .inr ⟨c, z, h1, h2, by rw [h3]; exact k ι H _ m Ext.refl (.bl b)⟩
  · cases e : inSeq M t u with
    | none => rw [e] at h; cases h
    | some b =>
      rw [e] at h
      cases h
      obtain ⟨d, ds, h1, h2, h3, h4, h5⟩ := inSeq_ok m r q e
      exact .inl ⟨d, ds, h1, h2, h3, h4, by rw [h5]; exact k ι H _ m Ext.refl (.bl b)⟩
theorem opNotIn_ok : OpS K Ω (rNotIn2 K) opNotIn := fun Z ι M H t u v w z Q m r q h k => by
  unfold opNotIn at h
  split at h
  · cases e : inStr t (.str _) with
    | none => rw [e] at h; cases h
    | some b =>
      rw [e] at h
      cases h
      obtain ⟨c, z, h1, h2, h3⟩ := inStr_ok r q e
      exact .inr ⟨c, z, h1, h2, by rw [h3]; exact k ι H _ m Ext.refl (.bl _)⟩
  · cases e : inSeq M t u with
    | none => rw [e] at h; cases h
    | some b =>
      rw [e] at h
      cases h
      obtain ⟨d, ds, h1, h2, h3, h4, h5⟩ := inSeq_ok m r q e
      exact .inl ⟨d, ds, h1, h2, h3, h4, by rw [h5]; exact k ι H _ m Ext.refl (.bl _)⟩
end
end Mi
namespace Mi
open PySem PySem.Spec PyProof.Rows L2

section
variable {K : PySem.W.Frag} {Ω : Om} {X : Cx} {W : WX} {Z ι : List Addr} {M : Mem} {H : Hp} {e o : Expr} {es : List Expr} {fa : AF} {f g fo : EF} {pos p apos : Pos}
abbrev OpN := Mem → List T → Option T
def CallS (K : PySem.W.Frag) (Ω : Om) (r : List V → Hp → VK → Prop) (op : OpN) : Prop := ∀ Z ι M H ts vs z Q, RM K Ω Z ι M H → Rs K Ω Z ι M H ts vs → op M ts = some z →
  (∀ ι' H' x, RM K Ω Z ι' M H' → Ext [] ι M H ι' M H' → R K Ω Z ι' M H' z x → Q x H') → r vs H Q
def eBi (op : OpN) (fa : AF) : EF := fun σ M => (fa σ M).bind fun ts M1 => .of (op M1 ts) M1
theorem tCB_of {r : List V → Hp → VK → Prop} {op : OpN} (h : CallS X.K Ω r op) {σ : L2.St} {H : Hp} {Q : VK} (q : liftE X.K Ω W (eBi op fa) σ H Q) : tCB r (liftA X.K Ω W fa) σ H Q := by
  obtain ⟨Z, ι, M, σT, m, rv, q⟩ := q
  refine ⟨Z, ι, M, σT, m, rv, Post.bind q fun ι1 M1 H1 ts vs m1 e1 q1 p1 => ?_⟩
  obtain ⟨z, hz, p1⟩ := Post.of p1
  exact h Z ι1 M1 H1 ts vs z Q m1 q1 hz fun ι' H' x m' e' r' => p1 ι' H' x m' e' r'
theorem me_callB {id : String} {x : Str} {r : List V → Hp → VK → Prop} {op : OpN} (hc : CallR X (.builtin id) r) (h : CallS X.K Ω r op) (hg : Gl X x) (hm : X.mg x = none) (hv : bootBuiltins x = some (.builtin id)) (ha : MA X Ω W (e :: es) fa) (hn : x ≠ "__name__" := by decide) (hdb : (x == ("__debug__" : Str)) = false := by decide)
    (he : starEach (e :: es) X.env = (false, eval e X.env) :: starEach es X.env := by rfl) (hpl : (backTo pos (starEach es X.env)).any (·.1) = false := by rfl) : ME X Ω W (.Call (.Name x p) (e :: es) [] pos) (eBi op fa) := L2PE.imp (pe_callB hc hg hm hv ha hn hdb he hpl) fun _ _ _ q => tCB_of h q
theorem me_callTy {ty : String} {x : Str} {r : List V → Hp → VK → Prop} {op : OpN} (hc : CallR X (.type ty) r) (h : CallS X.K Ω r op) (hg : Gl X x) (hm : X.mg x = none) (hv : bootBuiltins x = some (.type ty)) (ha : MA X Ω W (e :: es) fa) (hn : x ≠ "__name__" := by decide) (hdb : (x == ("__debug__" : Str)) = false := by decide)
    (he : starEach (e :: es) X.env = (false, eval e X.env) :: starEach es X.env := by rfl) (hpl : (backTo pos (starEach es X.env)).any (·.1) = false := by rfl) : ME X Ω W (.Call (.Name x p) (e :: es) [] pos) (eBi op fa) := L2PE.imp (pe_callTy hc hg hm hv ha hn hdb he hpl) fun _ _ _ q => tCB_of h q
theorem Rs.one {ts : List T} {t : T} {vs : List V} (r : Rs K Ω Z ι M H ts vs) (h : ts = [t]) : ∃ v, vs = [v] ∧ R K Ω Z ι M H t v := by
  subst h
  cases r with
  | cons a b => cases b; exact ⟨_, rfl, a⟩
theorem Rs.two {ts : List T} {t u : T} {vs : List V} (r : Rs K Ω Z ι M H ts vs) (h : ts = [t, u]) : ∃ v w, vs = [v, w] ∧ R K Ω Z ι M H t v ∧ R K Ω Z ι M H u w := by
  subst h
  cases r with
  | cons a b =>
    cases b with
    | cons b c => cases c; exact ⟨_, _, rfl, a, b⟩
def CallL (K : PySem.W.Frag) (Ω : Om) (r : List V → Hp → VK → Prop) (op : Mem → List T → Option (List T)) : Prop := ∀ Z ι M H ts vs zs Q, RM K Ω Z ι M H → Rs K Ω Z ι M H ts vs → op M ts = some zs →
  (∀ p ws, H p = none → Rs K Ω Z ι M H zs ws → Q (.ref p) (upd H p (.lst ws))) → r vs H Q
def eBiL (op : Mem → List T → Option (List T)) (fa : AF) : AF := fun σ M => (fa σ M).bind fun ts M1 => .of (op M1 ts) M1
theorem laid_of {Q : VK} {σ : L2.St} {zs : List T} {ι1 : List Addr} {M1 : Mem} {H1 : Hp} (m1 : RM X.K Ω Z ι1 M1 H1) (e1 : Ext [] ι M H ι1 M1 H1)
    (p1 : ∀ ι' H' p vs, H p = none → RM X.K Ω (p :: Z) ι' M1 H' → p ∉ Z → Ext [] ι M H ι' M1 H' → H' p = some (.lst vs) → Rs X.K Ω (p :: Z) ι' M1 H' zs vs → Q (.ref p) H') {p : Addr} {ws : List V} (np : H1 p = none) (rs : Rs X.K Ω Z ι1 M1 H1 zs ws) : Q (.ref p) (upd H1 p (.lst ws)) := by
  have hp : H p = none := by
    cases z : H p with
    | none => rfl
    | some o => exact absurd np (e1.there p (by rw [z]; exact nofun))
  exact p1 ι1 _ p ws hp (m1.layH np) (m1.notZ np) (e1.trans (Ext.new np)) upd_same ((rs.hide np).ext (Ext.new np))
theorem ml_of {r : List V → Hp → VK → Prop} {op : Mem → List T → Option (List T)} (h : CallL X.K Ω r op) (hp : PE X e (tCB r (liftA X.K Ω W fa))) : ML X Ω W e (eBiL op fa) := L2PE.imp hp fun σ H Q ⟨Z, ι, M, σT, m, rv, p⟩ => by
  refine ⟨Z, ι, M, σT, m, rv, ?_⟩
  unfold eBiL at p
  cases q : fa σT M with
  | ok ts M1 =>
    rw [q] at p
    intro ι1 H1 vs m1 e1 q1
    cases z : op M1 ts with
    | none => simp only [Res.bind, z] at p; exact p.elim
    | some zs =>
      simp only [Res.bind, z] at p
      exact h Z ι1 M1 H1 ts vs zs Q m1 q1 z fun p' ws np rs => laid_of (σ := σ) m1 e1 p np rs
  | exc c t M1 => rw [q] at p; exact p
  | err => rw [q] at p; exact p
theorem ml_callTy {ty : String} {x : Str} {r : List V → Hp → VK → Prop} {op : Mem → List T → Option (List T)} (hc : CallR X (.type ty) r) (h : CallL X.K Ω r op) (hg : Gl X x) (hm : X.mg x = none) (hv : bootBuiltins x = some (.type ty)) (ha : MA X Ω W (e :: es) fa) (hn : x ≠ "__name__" := by decide) (hdb : (x == ("__debug__" : Str)) = false := by decide)
    (he : starEach (e :: es) X.env = (false, eval e X.env) :: starEach es X.env := by rfl) (hpl : (backTo pos (starEach es X.env)).any (·.1) = false := by rfl) : ML X Ω W (.Call (.Name x p) (e :: es) [] pos) (eBiL op fa) := ml_of h (pe_callTy hc hg hm hv ha hn hdb he hpl)
def lstT (M : Mem) : T → Option (List T)
  | .lst ts => some ts
  | .loc n => match M[n]? with
    | some (.lst ts) => some ts
    | _ => none
  | _ => none
theorem lstT_at {t : T} {v : V} {ts : List T} (m : RM K Ω Z ι M H) (r : R K Ω Z ι M H t v) (h : lstT M t = some ts) : ∃ a vs, v = .ref a ∧ H a = some (.lst vs) ∧ Rs K Ω Z ι M H ts vs := by
  cases r with
  | lst q n rs => cases h; exact ⟨_, _, rfl, q, rs⟩
  | loc q =>
    rename_i n a
    obtain ⟨o, e, ro⟩ := m.at q
    have h : (match M[n]? with | some (MO.lst ts) => some ts | _ => none) = some ts := h
    rw [e] at h
    cases ro with
    | lst hl rs => cases h; exact ⟨_, _, rfl, hl, rs⟩
    | gone _ => cases h
    | obj _ _ _ => cases h
    | dK _ _ _ => cases h
    | dT _ _ _ => cases h
  | _ => cases h
theorem lstT_ok {t : T} {v : V} {ts : List T} (m : RM K Ω Z ι M H) (r : R K Ω Z ι M H t v) (h : lstT M t = some ts) : ∃ a vs, v = .ref a ∧ SqL K H a vs ∧ Rs K Ω Z ι M H ts vs :=
  let ⟨a, vs, h1, h2, h3⟩ := lstT_at m r h
  ⟨a, vs, h1, .inl (.inl h2), h3⟩
def bLen : OpN := fun M ts => match ts with
  | [.str x] => bif ground x then some (.int x.length) else none
  | [t] => (seqT M t).map fun xs => .int xs.length
  | _ => none
abbrev rLenSeq (K : PySem.W.Frag) : List V → Hp → VK → Prop := fun xs H Q => ∃ p ys, xs = [.ref p] ∧ (SqL K H p ys ∨ SqT K H p ys) ∧ Q (.int ys.length) H
abbrev rLenStr : List V → Hp → VK → Prop := fun xs H Q => ∃ z, xs = [.str z] ∧ z.length ≤ sizeLine ∧ Q (.int z.length) H
abbrev rLen2 (K : PySem.W.Frag) : List V → Hp → VK → Prop := fun xs H Q => rLenSeq K xs H Q ∨ rLenStr xs H Q
theorem call_len2 : CallR X (.builtin "len") (rLen2 X.K) := call_len_seq.or call_len_str
theorem bLen_ok : CallS K Ω (rLen2 K) bLen := fun Z ι M H ts vs z Q m r h k => by
  unfold bLen at h
  split at h
  · rename_i x
    obtain ⟨v, rfl, rv⟩ := r.one rfl
    cases e : ground x with
    | false => rw [e] at h; cases h
    | true =>
      rw [e] at h
      cases h
      cases rv with
      | str _ s hs hl =>
        have hz := str_size hs hl
        have el : s.length = x.length := by
          rw [spell_ground e] at hs
          rw [← hs, Array.length_toList]
          rfl
        exact .inr ⟨s, rfl, hz, by rw [el]; exact k ι H _ m Ext.refl (.int _)⟩
  · rename_i t _
    obtain ⟨v, rfl, rv⟩ := r.one rfl
    cases e : seqT M t with
    | none => rw [e] at h; cases h
    | some xs =>
      rw [e] at h
      cases h
      obtain ⟨a, ws, rfl, hs, rs⟩ := seqT_ok m rv e
      exact .inl ⟨a, ws, rfl, hs, by rw [← rs.length]; exact k ι H _ m Ext.refl (.int _)⟩
  · cases h
def bTuple : OpN := fun M ts => match ts with
  | [.tup xs] => some (.tup xs)
  | [.ktup xs] => some (.ktup xs)
  | [t] => (lstT M t).map .tup
  | _ => none
abbrev rTuple (K : PySem.W.Frag) : List V → Hp → VK → Prop := fun xs H Q => ∃ p ys, xs = [.ref p] ∧ ((SqL K H p ys ∧ ∀ l, H l = none → Q (.ref l) (upd H l (.tup ys))) ∨ (SqT K H p ys ∧ Q (.ref p) H))
theorem bTuple_ok : CallS K Ω (rTuple K) bTuple := fun Z ι M H ts vs z Q m r h k => by
  unfold bTuple at h
  split at h
  · cases h
    obtain ⟨v, rfl, rv⟩ := r.one rfl
    cases rv with
    | tup hs rs => exact ⟨_, _, rfl, .inr ⟨.of hs, k ι H _ m Ext.refl (.tup hs rs)⟩⟩
  · cases h
    obtain ⟨v, rfl, rv⟩ := r.one rfl
    cases rv with
    | ktup hs nd rs => exact ⟨_, _, rfl, .inr ⟨hs, k ι H _ m Ext.refl (.ktup hs nd rs)⟩⟩
  · rename_i t _ _
    obtain ⟨v, rfl, rv⟩ := r.one rfl
    cases e : lstT M t with
    | none => rw [e] at h; cases h
    | some xs =>
      rw [e] at h
      cases h
      obtain ⟨a, ws, rfl, hs, rs⟩ := lstT_ok m rv e
      exact ⟨a, ws, rfl, .inl ⟨hs, fun l nl => k ι _ _ (m.lay nl) (Ext.new nl) (.tup upd_same (rs.ext (Ext.new nl)))⟩⟩
  · cases h
def bList : Mem → List T → Option (List T) := fun M ts => match ts with
  | [t] => seqT M t
  | _ => none
abbrev rListOf (K : PySem.W.Frag) : List V → Hp → VK → Prop := fun xs H Q => ∃ p ys, xs = [.ref p] ∧ (SqL K H p ys ∨ SqT K H p ys) ∧ ∀ l, H l = none → Q (.ref l) (upd H l (.lst ys))
theorem bList_ok : CallL K Ω (rListOf K) bList := fun Z ι M H ts vs zs Q m r h k => by
  unfold bList at h
  split at h
  · rename_i t
    obtain ⟨v, rfl, rv⟩ := r.one rfl
    obtain ⟨a, ws, rfl, hs, rs⟩ := seqT_ok m rv h
    exact ⟨a, ws, rfl, hs, fun l nl => k l ws nl rs⟩
  · cases h
def boolsT : List T → Option (List Bool)
  | [] => some []
  | .bl b :: ts => (boolsT ts).map (b :: ·)
  | _ => none
theorem bools_ok : ∀ {ts : List T} {bs : List Bool} {vs : List V}, boolsT ts = some bs → Rs K Ω Z ι M H ts vs → vs = bs.map V.bl
  | [], bs, vs, h, r => by cases h; cases r; rfl
  | t :: ts, bs, vs, h, r => by
    cases t with
    | bl b =>
      have h : (boolsT ts).map (b :: ·) = some bs := h
      cases e : boolsT ts with
      | none => rw [e] at h; cases h
      | some cs =>
        rw [e] at h
        cases h
        cases r with
        | cons r1 r2 => cases r1; rw [bools_ok e r2]; rfl
    | _ => cases h
def bBools (g : List Bool → Bool) : OpN := fun M ts => match ts with
  | [t] => ((lstT M t).bind boolsT).map fun bs => .bl (g bs)
  | _ => none
theorem bBools_ok {g : List Bool → Bool} {r : List V → Hp → VK → Prop} (hr : ∀ H Q a bs, SqL K H a (bs.map V.bl) → Q (.bl (g bs)) H → r [.ref a] H Q) : CallS K Ω r (bBools g) := fun Z ι M H ts vs z Q m rs h k => by
  unfold bBools at h
  split at h
  · rename_i t
    obtain ⟨v, rfl, rv⟩ := rs.one rfl
    cases e : lstT M t with
    | none => rw [e] at h; cases h
    | some xs =>
      rw [e] at h
      have h : (boolsT xs).map (fun bs => T.bl (g bs)) = some z := h
      cases e2 : boolsT xs with
      | none => rw [e2] at h; cases h
      | some bs =>
        rw [e2] at h
        cases h
        obtain ⟨a, ws, rfl, hs, rs⟩ := lstT_ok m rv e
        rw [bools_ok e2 rs] at hs
        exact hr H Q a bs hs (k ι H _ m Ext.refl (.bl _))
  · cases h
def bAll : OpN := bBools fun bs => bs.all id
theorem bAll_ok : CallS K Ω (rAll K) bAll := bBools_ok fun H Q a bs h q => ⟨a, bs, rfl, h, q⟩
abbrev rInt1 : List V → Hp → VK → Prop := fun xs H Q => (∃ i, xs = [.int i] ∧ Q (.int i) H) ∨ ∃ k, xs = [.bl k] ∧ Q (.int (if k then 1 else 0)) H
abbrev rIntS : List V → Hp → VK → Prop := fun xs H Q => ∃ a n, xs = [.str a] ∧ PySem.intText? a = some n ∧ a.length ≤ 640 ∧ Q (.int n) H
abbrev rInt2 : List V → Hp → VK → Prop := fun xs H Q => rInt1 xs H Q ∨ rIntS xs H Q
theorem call_int2 : CallR X (.type "int") rInt2 := call_int1.or call_int_str
def bInt : OpN := fun _ ts => match ts with
  | [.int i] => some (.int i)
  | [.bl k] => some (.int (if k then 1 else 0))
  | [.str x] => bif ground x && decide (x.length ≤ 640) then (PySem.intText? (toStr x)).map .int else none
  | _ => none
theorem bInt_ok : CallS K Ω rInt2 bInt := fun Z ι M H ts vs z Q m r h k => by
  unfold bInt at h
  split at h
  · cases h
    obtain ⟨v, rfl, rv⟩ := r.one rfl
    cases rv
    exact .inl (.inl ⟨_, rfl, k ι H _ m Ext.refl (.int _)⟩)
  · cases h
    obtain ⟨v, rfl, rv⟩ := r.one rfl
    cases rv
    exact .inl (.inr ⟨_, rfl, k ι H _ m Ext.refl (.int _)⟩)
  · rename_i x
    cases e : ground x && decide (x.length ≤ 640) with
    | false => rw [e] at h; cases h
    | true =>
      rw [e] at h
      rw [Bool.and_eq_true, decide_eq_true_eq] at e
      have h : (PySem.intText? (toStr x)).map T.int = some z := h
      cases e2 : PySem.intText? (toStr x) with
      | none => rw [e2] at h; cases h
      | some n =>
        rw [e2] at h
        cases h
        obtain ⟨v, rfl, rv⟩ := r.one rfl
        cases rv with
        | str _ s hs _ =>
          rw [spell_ground e.1] at hs
          have es := toStr_of hs
          subst es
          refine .inr ⟨_, n, rfl, e2, ?_, k ι H _ m Ext.refl (.int _)⟩
          show (toStr x).cps.size ≤ 640
          unfold toStr
          simpa using e.2
  · cases h
abbrev rAbs : List V → Hp → VK → Prop := fun xs H Q => ∃ i, xs = [.int i] ∧ Q (.int (if i < 0 then -i else i)) H
def bAbs : OpN := fun _ ts => match ts with
  | [.int i] => some (.int (if i < 0 then -i else i))
  | _ => none
theorem bAbs_ok : CallS K Ω rAbs bAbs := fun Z ι M H ts vs z Q m r h k => by
  unfold bAbs at h
  split at h
  · cases h
    obtain ⟨v, rfl, rv⟩ := r.one rfl
    cases rv
    exact ⟨_, rfl, k ι H _ m Ext.refl (.int _)⟩
  · cases h
abbrev rMax2 : List V → Hp → VK → Prop := fun xs H Q => ∃ i j, xs = [.int i, .int j] ∧ Q (.int (if j > i then j else i)) H
abbrev rMin2 : List V → Hp → VK → Prop := fun xs H Q => ∃ i j, xs = [.int i, .int j] ∧ Q (.int (if j < i then j else i)) H
def bMax2 : OpN := fun _ ts => match ts with
  | [.int i, .int j] => some (.int (if j > i then j else i))
  | _ => none
def bMin2 : OpN := fun _ ts => match ts with
  | [.int i, .int j] => some (.int (if j < i then j else i))
  | _ => none
theorem bMax2_ok : CallS K Ω rMax2 bMax2 := fun Z ι M H ts vs z Q m r h k => by
  unfold bMax2 at h
  split at h
  · cases h
    obtain ⟨v, w, rfl, rv, rw'⟩ := r.two rfl
    cases rv
    cases rw'
    exact ⟨_, _, rfl, k ι H _ m Ext.refl (.int _)⟩
  · cases h
theorem bMin2_ok : CallS K Ω rMin2 bMin2 := fun Z ι M H ts vs z Q m r h k => by
  unfold bMin2 at h
  split at h
  · cases h
    obtain ⟨v, w, rfl, rv, rw'⟩ := r.two rfl
    cases rv
    cases rw'
    exact ⟨_, _, rfl, k ι H _ m Ext.refl (.int _)⟩
  · cases h
abbrev rStrI : List V → Hp → VK → Prop := fun xs H Q => ∃ i, xs = [.int i] ∧ i.natAbs.log2 < 1920 ∧ Q (.str (toString i)) H
def tyName (M : Mem) : T → Option String
  | .non => some "NoneType"
  | .bl _ => some "bool"
  | .int _ => some "int"
  | .str _ => some "str"
  | .tup _ => some "tuple"
  | .ktup _ => none
  | .klst _ => none
  | .lst _ => some "list"
  | .dct false _ => some "dict"
  | .dct true _ => none
  | .obj _ _ => none
  | .xob _ _ => none
  | .loc n => match M[n]? with
    | some (.lst _) => some "list"
    | some (.dct _ _) => some "dict"
    | _ => none
def subTy (a b : String) : Bool := a == b || (a == "bool" && b == "int")
def eIsT (n : String) (f : EF) : EF := fun σ M => (f σ M).bind fun t M1 => match tyName M1 t with
  | some a => .ok (.bl (subTy a n)) M1
  | none => .err
end
end Mi
namespace Mi
open PySem PySem.Spec PyProof.Rows L2

section
variable {K : PySem.W.Frag} {Ω : Om} {X : Cx} {W : WX} {Z ι : List Addr} {M : Mem} {H : Hp} {e e2 o : Expr} {es : List Expr} {fa : AF} {f g fo : EF} {pos p apos cpos p1 : Pos}
theorem tyName_ok {t : T} {v : V} {a : String} (m : RM K Ω Z ι M H) (r : R K Ω Z ι M H t v) (h : tyName M t = some a) : TyX K H v (.type a) := by
  cases r with
  | non => cases h; exact .base .non
  | bl b => cases h; exact .base (.bl b)
  | int i => cases h; exact .base (.int i)
  | str x s _ _ => cases h; exact .base (.str s)
  | tup q rs => cases h; exact .base (.tup q)
  | ktup _ _ _ => cases h
  | klst _ _ => cases h
  | xob => cases h
  | lst q n rs =>
    cases h
    exact .base (.lst q)
  | dK q n k rs =>
    cases h
    rcases q with q | ⟨_, q⟩
    · exact .base (.dK q)
    · exact .fDict q
  | dT q n k rs => cases h
  | obj _ _ _ _ => cases h
  | loc q =>
    rename_i n a'
    obtain ⟨ob, e, ro⟩ := m.at q
    have h : (match M[n]? with | some (MO.lst _) => some "list" | some (MO.dct _ _) => some "dict" | _ => none) = some a := h
    rw [e] at h
    cases ro with
    | lst hl _ => cases h; exact .base (.lst hl)
    | dK hl _ _ => cases h; exact .base (.dK hl)
    | dT hl _ _ => cases h; exact .base (.dT hl)
    | gone _ => cases h
    | obj _ _ _ => cases h
theorem kit_sub {a n : String} (ha : a ∈ ["NoneType", "bool", "int", "str", "tuple", "list", "dict"]) (hn : n ∈ ["bool", "int", "str", "tuple", "list", "dict"]) : PySem.W.kitOne K (.type a) (.type n) = some (subTy a n) := by
  have h : ∀ a ∈ ["NoneType", "bool", "int", "str", "tuple", "list", "dict"], ∀ n ∈ ["bool", "int", "str", "tuple", "list", "dict"], kitB a n = some (subTy a n) := by decide +kernel
  exact kit_ty (h a ha n hn)
theorem tyName_mem {t : T} {a : String} (h : tyName M t = some a) : a ∈ ["NoneType", "bool", "int", "str", "tuple", "list", "dict"] := by
  unfold tyName at h
  split at h <;> first
    | (cases h; simp; done)
    | (split at h <;> first | (cases h; simp; done) | cases h)
    | cases h
theorem me_isT {n : String} {x : Str} (hn : n ∈ ["bool", "int", "str", "tuple", "list", "dict"]) (hgI : Gl X "isinstance") (hmI : X.mg "isinstance" = none) (hg : Gl X x) (hm : X.mg x = none) (hv : bootBuiltins x = some (.type n)) (he : ME X Ω W e f)
    (hnn : x ≠ "__name__" := by decide) (hd : (x == ("__debug__" : Str)) = false := by decide) (hs1 : starEach [e, .Name x p1] X.env = (false, eval e X.env) :: starEach [.Name x p1] X.env := by rfl) (hs2 : starEach [.Name x p1] X.env = (false, eval (.Name x p1) X.env) :: starEach [] X.env := by rfl) (hpl : (backTo pos (starEach [.Name x p1] X.env)).any (·.1) = false := by rfl) :
    ME X Ω W (.Call (.Name "isinstance" p) [e, .Name x p1] [] pos) (eIsT n f) := by
  have hB : PE X (.Name x p1) (tC (.ty n)) := pe_bltn hg hm hv rfl hnn hd
  refine L2PE.imp (pe_callB call_isi hgI hmI (by decide +kernel) (pa_cons he (pa_cons hB pa_nil hs2) hs1) (by decide) (by decide) hs1 hpl) fun σ H Q ⟨Z, ι, M, σT, m, rv, q⟩ => ⟨Z, ι, M, σT, m, rv, Post.bind q fun ι1 M1 H1 t v m1 e1 q1 p1 => ?_⟩
  cases ht : tyName M1 t with
  | none => rw [ht] at p1; exact p1.elim
  | some a =>
    rw [ht] at p1
    exact ⟨v, .ty n, .type a, .type n, subTy a n, rfl, .ty n, tyName_ok m1 q1 ht, kit_sub (tyName_mem ht) hn, p1.pure m1 (.bl _)⟩
theorem numL_ground (n : Nat) : ∀ c ∈ TL.numL n, c < symB := fun c h => by
  have := (TL.numL_digits n) c h
  unfold symB
  omega
theorem numL_len : ∀ (n k : Nat), n < 10 ^ k → (TL.numL n).length ≤ k + 1
  | n, 0, h => by
    have : n = 0 := by simpa using h
    subst this
    rw [TL.numL_lt (by decide)]
    simp
  | n, k + 1, h => by
    by_cases h10 : n < 10
    · rw [TL.numL_lt h10]
      simp
    · rw [TL.numL_step (by omega), List.length_append]
      have := numL_len (n / 10) k (by rw [Nat.pow_succ] at h; omega)
      simp
      omega
def bStrI : OpN := fun _ ts => match ts with
  | [.int i] => bif decide (0 ≤ i) && decide (i < 10000000000) then some (.str (TL.numL i.toNat)) else none
  | _ => none
theorem bStrI_ok : CallS K Ω rStrI bStrI := fun Z ι M H ts vs z Q m r h k => by
  unfold bStrI at h
  split at h
  · rename_i i
    cases e : decide (0 ≤ i) && decide (i < 10000000000) with
    | false => rw [e] at h; cases h
    | true =>
      rw [e] at h
      cases h
      rw [Bool.and_eq_true, decide_eq_true_eq, decide_eq_true_eq] at e
      obtain ⟨v, rfl, rv⟩ := r.one rfl
      cases rv
      obtain ⟨n, rfl⟩ := Int.eq_ofNat_of_zero_le e.1
      have hn : n < 10 ^ 10 := by omega
      have hl : n.log2 < 1920 := by
        by_cases h0 : n = 0
        · subst h0; decide
        · exact (Nat.log2_lt h0).mpr (Nat.lt_of_lt_of_le hn (Nat.le_trans (show (10 : Nat) ^ 10 ≤ 2 ^ 34 by decide) (Nat.pow_le_pow_right (by decide) (by decide))))
      refine ⟨_, rfl, hl, k ι H _ m Ext.refl (.str _ _ ?_ ?_)⟩
      · show _ = spell Ω.rho (TL.numL n)
        rw [spell_ground (by unfold ground; exact List.all_eq_true.mpr fun c hc => decide_eq_true (numL_ground n c hc))]
        exact TL.tl_num n
      · have := numL_len n 10 hn
        show (TL.numL n).length ≤ 2000000
        omega
  · cases h
def splitC (s : Nat) : List Nat → List (List Nat)
  | [] => [[]]
  | c :: x => bif c == s then [] :: splitC s x else match splitC s x with
    | [] => [[c]]
    | p :: ps => (c :: p) :: ps
def joinC (S : List Nat) : List (List Nat) → List Nat
  | [] => []
  | [p] => p
  | p :: q :: r => p ++ (S ++ joinC S (q :: r))
theorem joinC_eq (S : List Nat) : ∀ l, TL.joinL S l = joinC S l
  | [] => rfl
  | [_] => rfl
  | p :: q :: r => by
    show p ++ (S ++ TL.joinL S (q :: r)) = p ++ (S ++ joinC S (q :: r))
    rw [joinC_eq S (q :: r)]
theorem splitC_ne (s : Nat) : ∀ x, splitC s x ≠ []
  | [] => nofun
  | c :: x => by
    unfold splitC
    cases c == s with
    | true => exact nofun
    | false =>
      dsimp only [cond_false]
      split <;> exact nofun
theorem join_split (s : Nat) : ∀ x, joinC [s] (splitC s x) = x
  | [] => rfl
  | c :: x => by
    have ih := join_split s x
    unfold splitC
    cases e : c == s with
    | true =>
      dsimp only [cond_true]
      have := beq_iff_eq.mp e
      subst this
      cases h : splitC c x with
      | nil => exact absurd h (splitC_ne c x)
      | cons p ps =>
        rw [h] at ih
        show [] ++ ([c] ++ joinC [c] (p :: ps)) = c :: x
        rw [ih]
        rfl
    | false =>
      dsimp only [cond_false]
      cases h : splitC s x with
      | nil => exact absurd h (splitC_ne s x)
      | cons p ps =>
        rw [h] at ih
        dsimp only
        cases ps with
        | nil => show c :: p = c :: x; rw [show p = x from ih]
        | cons q r =>
          have ih : p ++ ([s] ++ joinC [s] (q :: r)) = x := ih
          show c :: p ++ ([s] ++ joinC [s] (q :: r)) = c :: x
          rw [List.cons_append, ih]
theorem splitC_mem (s : Nat) : ∀ x, ∀ q ∈ splitC s x, s ∉ q ∧ ∀ c ∈ q, c ∈ x
  | [], q, h => by
    have : q = [] := by simpa [splitC] using h
    subst this
    simp
  | c :: x, q, h => by
    unfold splitC at h
    cases e : c == s with
    | true =>
      rw [e] at h
      rcases List.mem_cons.mp h with rfl | h
      · simp
      · obtain ⟨a, b⟩ := splitC_mem s x q h
        exact ⟨a, fun d hd => List.mem_cons_of_mem _ (b d hd)⟩
    | false =>
      rw [e] at h
      dsimp only [cond_false] at h
      cases z : splitC s x with
      | nil => exact absurd z (splitC_ne s x)
      | cons p ps =>
        rw [z] at h
        have ih := splitC_mem s x
        rw [z] at ih
        rcases List.mem_cons.mp h with rfl | h
        · obtain ⟨a, b⟩ := ih p (by simp)
          have ne : s ≠ c := fun w => by rw [w, beq_self_eq_true] at e; cases e
          exact ⟨fun w => (List.mem_cons.mp w).elim ne a, fun d hd => (List.mem_cons.mp hd).elim (fun w => by simp [w]) fun w => List.mem_cons_of_mem _ (b d w)⟩
        · obtain ⟨a, b⟩ := ih q (List.mem_cons_of_mem _ h)
          exact ⟨a, fun d hd => List.mem_cons_of_mem _ (b d hd)⟩
theorem spell_joinC (r : Nat → List Nat) (S : List Nat) : ∀ l, spell r (joinC S l) = joinC (spell r S) (l.map (spell r))
  | [] => rfl
  | [_] => rfl
  | p :: q :: l => by
    show spell r (p ++ (S ++ joinC S (q :: l))) = spell r p ++ (spell r S ++ joinC (spell r S) ((q :: l).map (spell r)))
    rw [spell_app, spell_app, spell_joinC r S (q :: l)]
theorem spell_notin {s : Nat} (hs : s < 97) {x : List Nat} (h : s ∉ x) : s ∉ spell Ω.rho x := fun z => by
  unfold spell at z
  obtain ⟨c, hc, hz⟩ := List.mem_flatMap.mp z
  split at hz
  · have : s = c := by simpa using hz
    exact h (this ▸ hc)
  · have := Ω.rch c s hz
    omega
def mSplit (t u : T) : Option (List T) := match t, u with
  | .str x, .str [s] => bif decide (s < 97) && decide (x.length ≤ 200000) then some ((splitC s x).map .str) else none
  | _, _ => none
def lSplit (f g : EF) : AF := fun σ M => (f σ M).bind fun t M1 => match t with
  | .str _ => (g σ M1).bind fun u M2 => .of (mSplit t u) M2
  | _ => .err
theorem splitC_len (s : Nat) : ∀ x : List Nat, ∀ q ∈ splitC s x, q.length ≤ x.length
  | [], q, h => by
    have : q = [] := by simpa [splitC] using h
    subst this
    simp
  | c :: x, q, h => by
    unfold splitC at h
    have ih := splitC_len s x
    cases e : c == s with
    | true =>
      rw [e] at h
      rcases List.mem_cons.mp h with rfl | h
      · simp
      · have := ih q h
        simp
        omega
    | false =>
      rw [e] at h
      dsimp only [cond_false] at h
      cases z : splitC s x with
      | nil => exact absurd z (splitC_ne s x)
      | cons p ps =>
        rw [z] at h ih
        rcases List.mem_cons.mp h with rfl | h
        · have := ih p (by simp)
          simp
          omega
        · have := ih q (List.mem_cons_of_mem _ h)
          simp
          omega
theorem rs_strs : ∀ {l : List (List Nat)}, (∀ q ∈ l, q.length ≤ 2000000) → Rs K Ω Z ι M H (l.map .str) ((l.map fun q => toStr (spell Ω.rho q)).map V.str)
  | [], _ => .nil
  | q :: l, h => .cons (.str q _ (by simp [toStr]) (h q (by simp))) (rs_strs fun z hz => h z (List.mem_cons_of_mem _ hz))
theorem split_ok {x : List Nat} {a b : Str} {s : Nat} (hs : s < 97) (ha : a.cps.toList = spell Ω.rho x) (hb : b.cps.toList = [s]) : Txt.split a b = (splitC s x).map fun q => toStr (spell Ω.rho q) := by
  have hj : Txt.join b ((splitC s x).map fun q => toStr (spell Ω.rho q)) = a := by
    have e1 : TL.tl (Txt.join b ((splitC s x).map fun q => toStr (spell Ω.rho q))) = TL.tl a := by
      rw [TL.join_eq, TL.tl_join, joinC_eq, List.map_map]
      have e2 : (splitC s x).map (TL.tl ∘ fun q => toStr (spell Ω.rho q)) = (splitC s x).map (spell Ω.rho) := List.map_congr_left fun q _ => by simp [TL.tl, toStr]
      rw [e2, show TL.tl b = [s] from hb]
      have e3 := spell_joinC Ω.rho [s] (splitC s x)
      rw [join_split] at e3
      have e4 : spell Ω.rho [s] = [s] := spell_ground (by unfold ground; simp; unfold symB; omega)
      rw [e4] at e3
      rw [← e3]
      exact ha.symm
    have h2 : (Txt.join b ((splitC s x).map fun q => toStr (spell Ω.rho q))).cps.toList = a.cps.toList := e1
    exact (toStr_of h2).trans (toStr_of rfl).symm
  rw [← hj]
  refine TL.split_join (s := s) (S := []) hb ?_ (fun e => splitC_ne s x (List.map_eq_nil_iff.mp e)) fun q hq => ?_
  · rw [← Array.all_toList, hb]
    simp
    omega
  · obtain ⟨w, hw, rfl⟩ := List.mem_map.mp hq
    show s ∉ (toStr (spell Ω.rho w)).cps.toList
    simp only [toStr]
    exact spell_notin hs (splitC_mem s x w hw).1
theorem ml_split (ho : ME X Ω W o f) (he : ME X Ω W e g) (hs : starEach [e] X.env = [(false, eval e X.env)] := by rfl) (hbase : attributeBase o "split" X.env (eval o X.env) = eval o X.env := by rfl) (hline : (apos.endLine == pos.line) = true := by rfl) :
    ML X Ω W (.Call (.Attribute o "split" apos) [e] [] pos) (lSplit f g) := L2PE.imp (pe_split ho he hs hbase hline) fun σ H Q ⟨Z, ι, M, σT, m, rv, q⟩ => by
  refine ⟨Z, ι, M, σT, m, rv, ?_⟩
  unfold lSplit at q
  cases q1 : f σT M with
  | exc c t M1 => rw [q1] at q; exact q
  | err => rw [q1] at q; exact q
  | ok t M1 =>
    rw [q1] at q
    intro ι1 H1 v m1 e1 r1
    simp only [Res.bind] at q
    cases r1 with
    | str x a ha _ =>
      refine ⟨⟨a, rfl⟩, Z, ι1, M1, σT, m1, rv.ext e1.any, ?_⟩
      dsimp only at q
      cases q2 : g σT M1 with
      | err => rw [q2] at q; exact q.elim
      | exc c u M2 =>
        rw [q2] at q
        exact fun ι2 H2 dd w m2 e2 r2 x2 => q ι2 H2 dd w m2 (e1.trans e2) r2 x2
      | ok u M2 =>
        rw [q2] at q
        simp only [Res.bind] at q
        intro ι2 H2 w m2 e2 r2
        cases z : mSplit (.str x) u with
        | none => rw [z] at q; exact q.elim
        | some zs =>
          rw [z] at q
          unfold mSplit at z
          split at z
          · rename_i x s hx
            cases hx
            cases y : decide (s < 97) && decide (x.length ≤ 200000) with
            | false => rw [y] at z; cases z
            | true =>
              rw [y] at z
              cases z
              rw [Bool.and_eq_true, decide_eq_true_eq, decide_eq_true_eq] at y
              cases r2 with
              | str _ b hb _ =>
                rw [spell_ground (by unfold ground; simp; unfold symB; omega)] at hb
                refine ⟨a, b, rfl, rfl, ?_, ?_, fun p' np => ?_⟩
                · have : b.length = 1 := by
                    show b.cps.size = 1
                    rw [← Array.length_toList, hb]
                    rfl
                  rw [this]
                  rfl
                · have h8 := spell_le (Ω := Ω) (x := x)
                  have : a.length = (spell Ω.rho x).length := by
                    rw [← ha, Array.length_toList]
                    rfl
                  rw [sizeLine_eq]
                  omega
                · rw [split_ok y.1 ha hb]
                  exact laid_of (σ := σ) m2 (e1.trans e2) q np (rs_strs fun w hw => by have := splitC_len s x w hw; omega)
          · cases z
    | _ => exact q.elim
def strsT : List T → Option (List (List Nat))
  | [] => some []
  | .str x :: ts => (strsT ts).map (x :: ·)
  | _ => none
def mJoin (M : Mem) (t u : T) : Option T := match t, seqT M u with
  | .str s, some ts => (strsT ts).bind fun xs => bif decide ((xs.map List.length).sum + xs.length * s.length ≤ 200000) then some (.str (joinC s xs)) else none
  | _, _ => none
def eJoin (f g : EF) : EF := fun σ M => (f σ M).bind fun t M1 => match t with
  | .str _ => (g σ M1).bind fun u M2 => .of (mJoin M2 t u) M2
  | _ => .err
theorem strsT_ok : ∀ {ts : List T} {xs : List (List Nat)} {vs : List V}, strsT ts = some xs → Rs K Ω Z ι M H ts vs → vs = (xs.map fun q => toStr (spell Ω.rho q)).map V.str
  | [], xs, vs, h, r => by cases h; cases r; rfl
  | t :: ts, xs, vs, h, r => by
    cases t with
    | str x =>
      have h : (strsT ts).map (x :: ·) = some xs := h
      cases e : strsT ts with
      | none => rw [e] at h; cases h
      | some cs =>
        rw [e] at h
        cases h
        cases r with
        | cons r1 r2 =>
          cases r1 with
          | str _ s hs _ => rw [strsT_ok e r2, toStr_of hs]; rfl
    | _ => cases h
theorem spell_sum : ∀ xs : List (List Nat), ((xs.map fun q => toStr (spell Ω.rho q)).map (·.length)).sum ≤ 8 * (xs.map List.length).sum
  | [] => Nat.le_refl _
  | x :: xs => by
    have h1 := spell_sum xs
    have h2 := spell_le (Ω := Ω) (x := x)
    have h3 : (toStr (spell Ω.rho x)).length = (spell Ω.rho x).length := by
      show (toStr (spell Ω.rho x)).cps.size = _
      simp [toStr]
    simp only [List.map_cons, List.sum_cons]
    omega
theorem joinC_len (S : List Nat) : ∀ l : List (List Nat), (joinC S l).length ≤ (l.map List.length).sum + l.length * S.length
  | [] => Nat.zero_le _
  | [p] => by simp [joinC]
  | p :: q :: r => by
    have := joinC_len S (q :: r)
    simp only [joinC, List.length_append, List.map_cons, List.sum_cons, List.length_cons, Nat.succ_mul] at this ⊢
    omega
theorem me_join (ho : ME X Ω W o f) (he : ME X Ω W e g) (hs : starEach [e] X.env = [(false, eval e X.env)] := by rfl) (hbase : attributeBase o "join" X.env (eval o X.env) = eval o X.env := by rfl) (hline : (apos.endLine == pos.line) = true := by rfl) :
    ME X Ω W (.Call (.Attribute o "join" apos) [e] [] pos) (eJoin f g) := L2PE.imp (pe_join ho he hs hbase hline) fun σ H Q ⟨Z, ι, M, σT, m, rv, q⟩ => ⟨Z, ι, M, σT, m, rv, Post.bind q fun ι1 M1 H1 t v m1 e1 q1 p1 => by
    match t, q1, p1 with
    | .str s, .str _ a ha _, p1 =>
      refine ⟨⟨a, rfl⟩, Z, ι1, M1, σT, m1, rv.ext e1.any, Post.bind p1 fun ι2 M2 H2 u w m2 e2 q2 p2 => ?_⟩
      obtain ⟨z, hz, p2⟩ := Post.of p2
      unfold mJoin at hz
      cases e : seqT M2 u with
      | none => rw [e] at hz; cases hz
      | some ts =>
        rw [e] at hz
        have hz : ((strsT ts).bind fun xs => bif decide ((xs.map List.length).sum + xs.length * s.length ≤ 200000) then some (T.str (joinC s xs)) else none) = some z := hz
        cases e3 : strsT ts with
        | none => rw [e3] at hz; cases hz
        | some xs =>
          rw [e3] at hz
          have hz : (bif decide ((xs.map List.length).sum + xs.length * s.length ≤ 200000) then some (T.str (joinC s xs)) else none) = some z := hz
          cases y : decide ((xs.map List.length).sum + xs.length * s.length ≤ 200000) with
          | false => rw [y] at hz; cases hz
          | true =>
            rw [y] at hz
            cases hz
            have y := of_decide_eq_true y
            obtain ⟨b, vs, rfl, hq, rs⟩ := seqT_ok m2 q2 e
            rw [strsT_ok e3 rs] at hq
            refine ⟨a, b, xs.map fun q => toStr (spell Ω.rho q), rfl, rfl, hq, ?_, p2.pure m2 (.str _ _ ?_ ?_)⟩
            · have h1 := spell_sum (Ω := Ω) xs
              have h2 := spell_le (Ω := Ω) (x := s)
              have h3 : a.length = (spell Ω.rho s).length := by
                rw [← ha, Array.length_toList]
                rfl
              have h4 : xs.length * a.length ≤ 8 * (xs.length * s.length) := by
                rw [h3, ← Nat.mul_left_comm]
                exact Nat.mul_le_mul_left _ h2
              rw [List.length_map]
              omega
            · show TL.tl (Txt.join a _) = _
              rw [TL.join_eq, TL.tl_join, joinC_eq, List.map_map, spell_joinC]
              rw [show TL.tl a = spell Ω.rho s from ha]
              congr 1
            · have := joinC_len s xs
              omega
    | .non, _, p1 => exact p1.elim
    | .bl _, _, p1 => exact p1.elim
    | .int _, _, p1 => exact p1.elim
    | .tup _, _, p1 => exact p1.elim
    | .ktup _, _, p1 => exact p1.elim
    | .klst _, _, p1 => exact p1.elim
    | .lst _, _, p1 => exact p1.elim
    | .dct _ _, _, p1 => exact p1.elim
    | .obj _ _, _, p1 => exact p1.elim
    | .xob _ _, _, p1 => exact p1.elim
    | .loc _, _, p1 => exact p1.elim⟩
end
end Mi
namespace Mi
open PySem PySem.Spec PyProof.Rows L2

section
variable {K : PySem.W.Frag} {Ω : Om} {X : Cx} {W : WX} {Z ι : List Addr} {M : Mem} {H : Hp} {e e2 o a b : Expr} {es : List Expr} {fa : AF} {f g fo : EF} {pos p apos cpos p1 p2 : Pos}
def opIx : Op2 := fun M t u => match u with
  | .int i => (match t with
    | .str x => bif ground x then (atI x i).map fun c => .str [c] else none
    | _ => (seqT M t).bind fun ts => atI ts i)
  | _ => none
theorem Rs.atI {ts : List T} {vs : List V} {i : Int} {t : T} (r : Rs K Ω Z ι M H ts vs) (h : L2.atI ts i = some t) : ∃ v, L2.atI vs i = some v ∧ R K Ω Z ι M H t v := by
  unfold L2.atI at h ⊢
  rw [← r.length]
  cases e : ixN ts.length i with
  | none => rw [e] at h; cases h
  | some j =>
    rw [e] at h
    exact r.get h
theorem opIx_ok : OpS K Ω (rIx K) opIx := fun Z ι M H t u v w z Q m r q h k => by
  unfold opIx at h
  split at h
  · rename_i i
    cases q
    split at h
    · rename_i x
      cases r with
      | str _ s hs hl =>
        cases e : ground x with
        | false => rw [e] at h; cases h
        | true =>
          rw [e] at h
          have h : (L2.atI x i).map (fun c => T.str [c]) = some z := h
          cases y : L2.atI x i with
          | none => rw [y] at h; cases h
          | some c =>
            rw [y] at h
            cases h
            have hz := str_size hs hl
            rw [spell_ground e] at hs
            have hc : c < symB := by
              unfold L2.atI at y
              cases z : ixN x.length i with
              | none => rw [z] at y; cases y
              | some j =>
                rw [z] at y
                have : c ∈ x := List.mem_of_getElem? (show x[j]? = some c from y)
                exact of_decide_eq_true (List.all_eq_true.mp e c this)
            refine .inr (.inr ⟨s, i, c, rfl, rfl, hz, by rw [hs]; exact y, k ι H _ m Ext.refl (.str _ _ ?_ (by simp))⟩)
            rw [spell_ground (by unfold ground; simp [hc])]
    · cases e : seqT M t with
      | none => rw [e] at h; cases h
      | some ts =>
        rw [e] at h
        obtain ⟨a, vs, rfl, hs, rs⟩ := seqT_ok m r e
        obtain ⟨x, hx, rx⟩ := rs.atI h
        rcases hs with hs | hs
        · exact .inl ⟨a, vs, i, x, rfl, rfl, hs, hx, k ι H _ m Ext.refl rx⟩
        · exact .inr (.inl ⟨a, vs, i, x, rfl, rfl, hs, hx, k ι H _ m Ext.refl rx⟩)
  · cases h
theorem me_ix (ha : ME X Ω W a f) (hb : ME X Ω W b g) (hs : PlainIx b := by intro _ _; rfl) : ME X Ω W (.Subscript a b pos) (eOp opIx f g) := L2PE.imp (pe_ix ix_seq ha hb hs) fun _ _ _ q => tOp_of opIx_ok q
def cutT {α : Type} (xs : List α) (lo hi : Option Int) : List α := (xs.drop (HT.sIx xs.length 0 lo)).take (HT.sIx xs.length xs.length hi - HT.sIx xs.length 0 lo)
def pf (o : Option EF) : TV → Mem → Res (Option Int) := fun σ M => match o with
  | none => .ok none M
  | some g => (g σ M).bind fun u M2 => match u with
    | .int i => .ok (some i) M2
    | _ => .err
abbrev MP (X : Cx) (Ω : Om) (W : WX) (e : Option Expr) (o : Option EF) : Prop := PO X e (lift X.K Ω (fun _ _ _ _ a b => a = b) W (pf o))
theorem mp_none : MP X Ω W none none := ⟨fun pins s σ H Q I ⟨Z, ι, M, σT, m, rv, p⟩ => po_none.run pins s σ H Q I (p ι H none m Ext.refl rfl)⟩
theorem mp_some (h : ME X Ω W e f) : MP X Ω W (some e) (some f) := ⟨fun pins s σ H Q I ⟨Z, ι, M, σT, m, rv, p⟩ => (po_some h).run pins s σ H Q I ⟨Z, ι, M, σT, m, rv, Post.bind p fun ι1 M1 H1 t v m1 e1 q1 p1 => by
  cases t with
  | int i => cases q1; exact ⟨i, rfl, p1 ι1 H1 (some i) m1 Ext.refl rfl⟩
  | _ => exact p1.elim⟩⟩
def eSlice (f : EF) (lo hi : Option EF) (op : Mem → T → Option Int → Option Int → Option T) : EF := fun σ M => (f σ M).bind fun t M1 => (pf lo σ M1).bind fun l M2 => (pf hi σ M2).bind fun h M3 => .of (op M3 t l h) M3
def slT (M : Mem) (t : T) (lo hi : Option Int) : Option T := match t with
  | .tup xs => some (.tup (cutT xs lo hi))
  | .str x => bif ground x then some (.str (cutT x lo hi)) else none
  | t => (lstT M t).map fun xs => .lst (cutT xs lo hi)
theorem Rs.take {ts : List T} {vs : List V} : ∀ (n : Nat), Rs K Ω Z ι M H ts vs → Rs K Ω Z ι M H (ts.take n) (vs.take n)
  | 0, _ => .nil
  | _ + 1, .nil => .nil
  | n + 1, .cons r t => .cons r (Rs.take n t)
theorem Rs.drop {ts : List T} {vs : List V} : ∀ (n : Nat), Rs K Ω Z ι M H ts vs → Rs K Ω Z ι M H (ts.drop n) (vs.drop n)
  | 0, r => r
  | _ + 1, .nil => .nil
  | n + 1, .cons _ t => Rs.drop n t
theorem Rs.cut {ts : List T} {vs : List V} {lo hi : Option Int} (r : Rs K Ω Z ι M H ts vs) : Rs K Ω Z ι M H (cutT ts lo hi) (cutV vs lo hi) := by
  unfold cutT cutV
  rw [← r.length]
  exact (r.drop _).take _
theorem cut_whole {α : Type} {xs : List α} {lo hi : Option Int} (h : HT.sIx xs.length 0 lo = 0 ∧ HT.sIx xs.length xs.length hi = xs.length) : cutT xs lo hi = xs := by
  unfold cutT
  rw [h.1, h.2, List.drop_zero, Nat.sub_zero, List.take_length]
abbrev rSl2 (K : PySem.W.Frag) : V → Option Int → Option Int → Hp → VK → Prop := fun x lo hi H Q => rSlA K x lo hi H Q ∨ rSlS x lo hi H Q ∨ rSlL K x lo hi H Q
theorem sl_2 : SlR X (rSl2 X.K) := sl_tupA.or (sl_str.or sl_list)
theorem cutS_list (z : Str) (lo hi : Option Int) : (cutS z lo hi).cps.toList = cutT z.cps.toList lo hi := by
  have e : z.length = z.cps.toList.length := by rw [Array.length_toList]; rfl
  unfold cutS cutT
  rw [e]
theorem me_slice {lo hi : Option Expr} {l h : Option EF} (he : ME X Ω W e f) (hl : MP X Ω W lo l) (hu : MP X Ω W hi h) : ME X Ω W (.Subscript e (.Slice lo hi none p2) pos) (eSlice f l h slT) := L2PE.imp (pe_slice sl_2 he hl hu) fun σ H Q ⟨Z, ι, M, σT, m, rv, q⟩ =>
  ⟨Z, ι, M, σT, m, rv, Post.bind q fun ι1 M1 H1 t v m1 e1 q1 p1 => ⟨Z, ι1, M1, σT, m1, rv.ext e1.any, Post.bind p1 fun ι2 M2 H2 l l' m2 e2 q2 p2 => ⟨Z, ι2, M2, σT, m2, (rv.ext e1.any).ext e2.any, Post.bind p2 fun ι3 M3 H3 h h' m3 e3 q3 p3 => by
    cases q2
    cases q3
    obtain ⟨z, hz, p3⟩ := Post.of p3
    have r3 := (q1.ext e2.any).ext e3.any
    unfold slT at hz
    split at hz
    · cases hz
      cases r3 with
      | tup ha rs =>
        refine .inl ⟨_, _, rfl, .of ha, fun w => ?_, fun w p np => ?_⟩
        · rw [← rs.length] at w
          exact p3.pure m3 (by rw [cut_whole w]; exact .tup ha rs)
        · exact p3 ι3 _ _ (m3.lay np) (Ext.new np) (.tup upd_same (rs.cut.ext (Ext.new np)))
    · rename_i x
      cases g : ground x with
      | false => rw [g] at hz; cases hz
      | true =>
        rw [g] at hz
        cases hz
        cases r3 with
        | str _ s hs hx =>
          refine .inr (.inl ⟨s, rfl, str_size hs hx, p3.pure m3 (.str _ _ ?_ ?_)⟩)
          · rw [spell_ground g] at hs
            rw [cutS_list, hs]
            refine (spell_ground ?_).symm
            unfold ground cutT
            refine List.all_eq_true.mpr fun c hc => List.all_eq_true.mp g c ?_
            exact List.mem_of_mem_drop (List.mem_of_mem_take hc)
          · unfold cutT
            rw [List.length_take, List.length_drop]
            omega
    · cases y : lstT M3 t with
      | none => rw [y] at hz; cases hz
      | some xs =>
        rw [y] at hz
        cases hz
        obtain ⟨a, vs, rfl, hs, rs⟩ := lstT_ok m3 r3 y
        exact .inr (.inr ⟨a, vs, rfl, hs, fun p np => p3 ι3 _ _ (m3.lay np) (Ext.new np) (.lst upd_same ⟨m3.notLive np, m3.notZ np⟩ (rs.cut.ext (Ext.new np)))⟩)⟩⟩⟩
abbrev OpM := Mem → T → List T → Option (T × Mem)
def MtS (K : PySem.W.Frag) (Ω : Om) (ty : String) (r : V → List V → Hp → VK → Prop) (op : OpM) : Prop := ∀ Z ι M H t ts v vs z M' Q, RM K Ω Z ι M H → R K Ω Z ι M H t v → Rs K Ω Z ι M H ts vs → op M t ts = some (z, M') →
  (∀ ι' H' x, RM K Ω Z ι' M' H' → Ext [] ι M H ι' M' H' → R K Ω Z ι' M' H' z x → Q x H') → r v vs H Q
def eMt (ty : Mem → T → Bool) (op : OpM) (f : EF) (fa : AF) : EF := fun σ M => (f σ M).bind fun t M1 => bif ty M1 t then (fa σ M1).bind fun ts M2 => match op M2 t ts with
  | some (z, M3) => .ok z M3
  | none => .err
  else .err
theorem me_mt {T' id : String} {name : Str} {r : V → List V → Hp → VK → Prop} {op : OpM} {ty : Mem → T → Bool} (pa : PlainAttrs T') (slot : Slot T' name id) (hty : typeOf (.builtin id) = pure (.type "method_descriptor")) (hm : MtR X id r) (h : MtS X.K Ω T' r op)
    (ht : ∀ Z ι M H t v, RM X.K Ω Z ι M H → R X.K Ω Z ι M H t v → ty M t = true → tyV X.K T' v H) (ho : ME X Ω W o f) (ha : MA X Ω W (e :: es) fa)
    (hbase : attributeBase o name X.env (eval o X.env) = eval o X.env := by rfl)
    (hfew : ((backTo cpos (starEach (e :: es) X.env)).all (fun x => !x.1) && (backToKw cpos (keywordEach [] X.env)).all (fun x => x.1.isSome)
      && decide ((e :: es).length + ([] : List Keyword).length + (if ([] : List Keyword).isEmpty then 0 else 1) < 30)) = true := by rfl)
    (hline : (apos.endLine == cpos.line) = true := by rfl) (hs : starEach (e :: es) X.env = (false, eval e X.env) :: starEach es X.env := by rfl) (hplain : (backTo cpos (starEach es X.env)).any (·.1) = false := by rfl) :
    ME X Ω W (.Call (.Attribute o name apos) (e :: es) [] cpos) (eMt ty op f fa) := L2PE.imp (pe_bm pa slot hty hm ho ha hbase hfew hline hs hplain) fun σ H Q ⟨Z, ι, M, σT, m, rv, q⟩ => ⟨Z, ι, M, σT, m, rv, Post.bind q fun ι1 M1 H1 t v m1 e1 q1 p1 => by
    cases y : ty M1 t with
    | false => rw [y] at p1; exact p1.elim
    | true =>
      rw [y] at p1
      refine ⟨ht Z ι1 M1 H1 t v m1 q1 y, Z, ι1, M1, σT, m1, rv.ext e1.any, Post.bind p1 fun ι2 M2 H2 ts vs m2 e2 q2 p2 => ?_⟩
      cases z : op M2 t ts with
      | none => rw [z] at p2; exact p2.elim
      | some w => rw [z] at p2; exact h Z ι2 M2 H2 t ts v vs w.1 w.2 Q m2 (q1.ext e2.any) q2 z fun ι' H' x m' e' r' => p2 ι' H' x m' e' r'⟩
def locL (M : Mem) : T → Option (Nat × List T)
  | .loc n => match M[n]? with
    | some (.lst ts) => some (n, ts)
    | _ => none
  | _ => none
theorem locL_ok {t : T} {v : V} {n : Nat} {ts : List T} (m : RM K Ω Z ι M H) (r : R K Ω Z ι M H t v) (h : locL M t = some (n, ts)) : ∃ a vs, v = .ref a ∧ t = .loc n ∧ ι[n]? = some a ∧ M[n]? = some (.lst ts) ∧ H a = some (.lst vs) ∧ Rs K Ω Z ι M H ts vs := by
  cases r with
  | loc q =>
    rename_i i a
    obtain ⟨o, e, ro⟩ := m.at q
    have h : (match M[i]? with | some (MO.lst ts) => some (i, ts) | _ => none) = some (n, ts) := h
    rw [e] at h
    cases ro with
    | lst hl rs => cases h; exact ⟨_, _, rfl, rfl, q, e, hl, rs⟩
    | gone _ => cases h
    | obj _ _ _ => cases h
    | dK _ _ _ => cases h
    | dT _ _ _ => cases h
  | _ => cases h
def isLoc (M : Mem) (t : T) : Bool := (locL M t).isSome
theorem isLoc_ok {t : T} {v : V} (m : RM K Ω Z ι M H) (r : R K Ω Z ι M H t v) (h : isLoc M t = true) : tyV K "list" v H := by
  unfold isLoc at h
  cases e : locL M t with
  | none => rw [e] at h; cases h
  | some w =>
    obtain ⟨a, vs, rfl, _, _, _, hl, _⟩ := locL_ok (n := w.1) (ts := w.2) m r e
    exact .inl ⟨rfl, vs, .inl (.inl hl)⟩
theorem put_list {n : Nat} {a : Addr} {ts us : List T} {vs ws : List V} (m : RM K Ω Z ι M H) (hn : ι[n]? = some a) (hm : M[n]? = some (.lst ts)) (ha : H a = some (.lst vs)) (ru : Rs K Ω Z ι M H us ws) :
    RM K Ω Z ι (M.set n (.lst us)) (upd H a (.lst ws)) ∧ ∀ Z', Ext Z' ι M H ι (M.set n (.lst us)) (upd H a (.lst ws)) := by
  have t1 : ∀ xs, HO.lst vs ≠ .tup xs := by intro xs h; cases h
  have t2 : ∀ x y, HO.lst vs ≠ .frz x y := by intro x y h; cases h
  have hg : MO.lst ts ≠ .gone := by intro h; cases h
  exact ⟨m.write hn hm hg ha t1 t2 fun ex => .lst upd_same (ru.ext ex), fun _ => Ext.write hn hm hg ha t1 t2⟩
def mAppend : OpM := fun M t ts => match locL M t, ts with
  | some (n, xs), [u] => bif big (xs.length + 1) then some (.non, M.set n (.lst (xs ++ [u]))) else none
  | _, _ => none
theorem mAppend_ok : MtS K Ω "list" rAppend mAppend := fun Z ι M H t ts v vs z M' Q m r rs h k => by
  unfold mAppend at h
  split at h
  · rename_i n xs u hl
    cases e : big (xs.length + 1) with
    | false => rw [e] at h; cases h
    | true =>
      rw [e] at h
      cases h
      obtain ⟨a, ws, rfl, rfl, hn, hm, ha, r1⟩ := locL_ok m r hl
      obtain ⟨w, rfl, ru⟩ := rs.one rfl
      obtain ⟨m2, e2⟩ := put_list m hn hm ha (r1.append (.cons ru .nil))
      refine ⟨a, ws, w, rfl, rfl, ha, ?_, k ι _ _ m2 (e2 []) .non⟩
      have hb := of_decide_eq_true e
      rw [← r1.length, sizeLine_eq]
      omega
  · cases h
def mPopAt : OpM := fun M t ts => match locL M t, ts with
  | some (n, xs), [.int i] => (match bif big xs.length then ixN xs.length i else none with
    | some j => (match xs[j]? with
      | some u => some (u, M.set n (.lst (xs.eraseIdx j)))
      | none => none)
    | none => none)
  | _, _ => none
theorem Rs.eraseIdx {ts : List T} {vs : List V} : ∀ (i : Nat), Rs K Ω Z ι M H ts vs → Rs K Ω Z ι M H (ts.eraseIdx i) (vs.eraseIdx i)
  | _, .nil => .nil
  | 0, .cons _ t => t
  | n + 1, .cons r t => .cons r (Rs.eraseIdx n t)
theorem mPopAt_ok : MtS K Ω "list" rPopAt mPopAt := fun Z ι M H t ts v vs z M' Q m r rs h k => by
  unfold mPopAt at h
  split at h
  · rename_i n xs i hl
    split at h
    · rename_i j hj
      split at h
      · rename_i u hu
        cases h
        cases hb : big xs.length with
        | false => rw [hb] at hj; cases hj
        | true =>
        rw [hb] at hj
        obtain ⟨a, ws, rfl, rfl, hn, hm, ha, r1⟩ := locL_ok m r hl
        obtain ⟨w, rfl, ru⟩ := rs.one rfl
        cases ru
        obtain ⟨m2, e2⟩ := put_list m hn hm ha (r1.eraseIdx j)
        obtain ⟨s1, s2, s3, s4⟩ := ixN_seq hj
        obtain ⟨y, hy, ry⟩ := r1.get hu
        have hsz : xs.length ≤ 2000000 := of_decide_eq_true hb
        refine ⟨a, ws, i, j, y, rfl, rfl, ha, ?_, ?_, by rw [← r1.length]; exact s1, hy, k ι _ _ m2 (e2 []) (ry.ext (e2 Z))⟩
        · omega
        · omega
      · cases h
    · cases h
  · cases h
def mExtend : OpM := fun M t ts => match locL M t, ts with
  | some (n, xs), [u] => (match lstT M u with
    | some ys => bif big (xs.length + ys.length) then some (.non, M.set n (.lst (xs ++ ys))) else none
    | none => none)
  | _, _ => none
theorem mExtend_ok : MtS K Ω "list" rExtend mExtend := fun Z ι M H t ts v vs z M' Q m r rs h k => by
  unfold mExtend at h
  split at h
  · rename_i n xs u hl
    split at h
    · rename_i ys hy
      cases e : big (xs.length + ys.length) with
      | false => rw [e] at h; cases h
      | true =>
        rw [e] at h
        cases h
        obtain ⟨a, ws, rfl, rfl, hn, hm, ha, r1⟩ := locL_ok m r hl
        obtain ⟨w, rfl, ru⟩ := rs.one rfl
        obtain ⟨b, us, rfl, hb, r2⟩ := lstT_at m ru hy
        obtain ⟨m2, e2⟩ := put_list m hn hm ha (r1.append r2)
        refine ⟨a, b, ws, us, rfl, rfl, ha, hb, ?_, k ι _ _ m2 (e2 []) .non⟩
        have hz := of_decide_eq_true e
        rw [← r1.length, ← r2.length, sizeLine_eq]
        omega
    · cases h
  · cases h
theorem me_append (ho : ME X Ω W o f) (ha : MA X Ω W [e] fa) (hbase : attributeBase o "append" X.env (eval o X.env) = eval o X.env := by rfl)
    (hfew : ((backTo cpos (starEach [e] X.env)).all (fun x => !x.1) && (backToKw cpos (keywordEach [] X.env)).all (fun x => x.1.isSome) && decide ([e].length + ([] : List Keyword).length + (if ([] : List Keyword).isEmpty then 0 else 1) < 30)) = true := by rfl)
    (hline : (apos.endLine == cpos.line) = true := by rfl) (hs : starEach [e] X.env = (false, eval e X.env) :: starEach [] X.env := by rfl) (hplain : (backTo cpos (starEach [] X.env)).any (·.1) = false := by rfl) :
    ME X Ω W (.Call (.Attribute o "append" apos) [e] [] cpos) (eMt isLoc mAppend f fa) :=
  me_mt PySem.F.plainAttrs_list PySem.F.slot_list_append PySem.F.type_list_append mt_append mAppend_ok (fun _ _ _ _ _ _ m r h => isLoc_ok m r h) ho ha hbase hfew hline hs hplain
theorem me_extend (ho : ME X Ω W o f) (ha : MA X Ω W [e] fa) (hbase : attributeBase o "extend" X.env (eval o X.env) = eval o X.env := by rfl)
    (hfew : ((backTo cpos (starEach [e] X.env)).all (fun x => !x.1) && (backToKw cpos (keywordEach [] X.env)).all (fun x => x.1.isSome) && decide ([e].length + ([] : List Keyword).length + (if ([] : List Keyword).isEmpty then 0 else 1) < 30)) = true := by rfl)
    (hline : (apos.endLine == cpos.line) = true := by rfl) (hs : starEach [e] X.env = (false, eval e X.env) :: starEach [] X.env := by rfl) (hplain : (backTo cpos (starEach [] X.env)).any (·.1) = false := by rfl) :
    ME X Ω W (.Call (.Attribute o "extend" apos) [e] [] cpos) (eMt isLoc mExtend f fa) :=
  me_mt PySem.F.plainAttrs_list PySem.F.slot_list_extend PySem.F.type_list_extend mt_extend mExtend_ok (fun _ _ _ _ _ _ m r h => isLoc_ok m r h) ho ha hbase hfew hline hs hplain
theorem me_popAt (ho : ME X Ω W o f) (ha : MA X Ω W [e] fa) (hbase : attributeBase o "pop" X.env (eval o X.env) = eval o X.env := by rfl)
    (hfew : ((backTo cpos (starEach [e] X.env)).all (fun x => !x.1) && (backToKw cpos (keywordEach [] X.env)).all (fun x => x.1.isSome) && decide ([e].length + ([] : List Keyword).length + (if ([] : List Keyword).isEmpty then 0 else 1) < 30)) = true := by rfl)
    (hline : (apos.endLine == cpos.line) = true := by rfl) (hs : starEach [e] X.env = (false, eval e X.env) :: starEach [] X.env := by rfl) (hplain : (backTo cpos (starEach [] X.env)).any (·.1) = false := by rfl) :
    ME X Ω W (.Call (.Attribute o "pop" apos) [e] [] cpos) (eMt isLoc mPopAt f fa) :=
  me_mt PySem.F.plainAttrs_list PySem.F.slot_list_pop PySem.F.type_list_pop mt_popAt mPopAt_ok (fun _ _ _ _ _ _ m r h => isLoc_ok m r h) ho ha hbase hfew hline hs hplain
end
end Mi
namespace Mi
open PySem PySem.Spec PyProof.Rows L2

def flatEq : T → T → Option Bool
  | .int i, .int j => some (i == j)
  | .str x, .str y => strEq x y
  | .int _, .str _ => some false
  | .str _, .int _ => some false
  | _, _ => none
def flatEqs : List T → List T → Option Bool
  | [], [] => some true
  | x :: xs, y :: ys => match flatEq x y with
    | some true => flatEqs xs ys
    | r => r
  | _, _ => some false
def keyEq (tk : Bool) (t u : T) : Option Bool := match tk, t, u with
  | false, t, u => flatEq t u
  | true, .tup xs, .tup ys => flatEqs xs ys
  | _, _, _ => none
def flatK : T → Bool
  | .int _ => true
  | .str _ => true
  | _ => false
def isKey (tk : Bool) (t : T) : Bool := match tk, t with
  | false, t => flatK t
  | true, .tup xs => xs.all flatK
  | _, _ => false
def hits (tk : Bool) (x : T) : List (T × T) → Option (List Bool)
  | [] => some []
  | kv :: r => match keyEq tk kv.1 x, hits tk x r with
    | some b, some bs => some (b :: bs)
    | _, _ => none
def dLook (tk : Bool) (x : T) : List (T × T) → Option (Option T)
  | [] => some none
  | kv :: r => match keyEq tk kv.1 x with
    | some true => some (some kv.2)
    | some false => dLook tk x r
    | none => none
def dGet (tk : Bool) (kvs : List (T × T)) (x : T) : Option (Option T) := bif isKey tk x then dLook tk x kvs else none
def putHits (v : T) : List (T × T) → List Bool → List (T × T)
  | kv :: r, b :: bs => (kv.1, bif b then v else kv.2) :: putHits v r bs
  | r, _ => r
def dPut (tk : Bool) (kvs : List (T × T)) (x v : T) : Option (List (T × T)) := bif isKey tk x && big (kvs.length + 1) then (match hits tk x kvs with
  | some bs => some (bif bs.any id then putHits v kvs bs else kvs ++ [(x, v)])
  | none => none) else none
section
variable {K : PySem.W.Frag} {Ω : Om} {Z ι : List Addr} {M : Mem} {H : Hp}
theorem flatEq_ok {t u : T} {k l : Key} {b : Bool} (r : RK Ω t k) (q : RK Ω u l) (h : flatEq t u = some b) : decide (k = l) = b := by
  cases r with
  | int i =>
    cases q with
    | int j => cases h; rw [key_ll]
    | str _ _ _ => cases h; exact key_lr _ _
  | str x s hs =>
    cases q with
    | int j => cases h; exact key_rl _ _
    | str y s' hs' =>
      have := strEq_ok (Ω := Ω) (show strEq x y = some b from h)
      rw [key_rr]
      rw [toStr_of hs, toStr_of hs', ← this]
      have e := toStr_inj (x := spell Ω.rho x) (y := spell Ω.rho y)
      by_cases z : spell Ω.rho x = spell Ω.rho y
      · rw [z, decide_eq_true rfl, decide_eq_true rfl]
      · rw [decide_eq_false z]
        refine decide_eq_false fun w => z ?_
        rw [decide_eq_false z] at e
        rw [w, beq_self_eq_true] at e
        cases e
theorem flatEqs_ok : ∀ {ts us : List T} {ks ls : List Key} {b : Bool}, RKs Ω ts ks → RKs Ω us ls → flatEqs ts us = some b → decide (ks = ls) = b
  | [], [], _, _, b, .nil, .nil, h => by cases h; rfl
  | [], _ :: _, _, _, b, .nil, .cons _ _, h => by cases h; exact decide_eq_false nofun
  | _ :: _, [], _, _, b, .cons _ _, .nil, h => by cases h; exact decide_eq_false nofun
  | t :: ts, u :: us, k :: ks, l :: ls, b, .cons r rs, .cons q qs, h => by
    unfold flatEqs at h
    cases e : flatEq t u with
    | none => rw [e] at h; cases h
    | some c =>
      rw [e] at h
      have hc := flatEq_ok r q e
      cases c with
      | true =>
        have hk := of_decide_eq_true hc
        subst hk
        rw [← flatEqs_ok rs qs h]
        by_cases z : ks = ls
        · rw [z, decide_eq_true rfl, decide_eq_true rfl]
        · rw [decide_eq_false z]
          exact decide_eq_false fun w => z (by injection w)
      | false =>
        cases h
        have hk := of_decide_eq_false hc
        exact decide_eq_false fun w => hk (by injection w)
theorem rk_of {t : T} {v : V} (r : R K Ω Z ι M H t v) (h : flatK t = true) : ∃ k, RK Ω t k ∧ v = kV k := by
  cases r with
  | int i => exact ⟨.inl i, .int i, rfl⟩
  | str x s hs _ => exact ⟨.inr s, .str x s hs, rfl⟩
  | _ => cases h
theorem rks_of : ∀ {ts : List T} {vs : List V}, Rs K Ω Z ι M H ts vs → ts.all flatK = true → ∃ ks, RKs Ω ts ks ∧ vs = ks.map kV
  | _, _, .nil, _ => ⟨[], .nil, rfl⟩
  | _, _, .cons r q, h => by
    rw [List.all_cons, Bool.and_eq_true] at h
    obtain ⟨k, a, e⟩ := rk_of r h.1
    obtain ⟨ks, as, es⟩ := rks_of q h.2
    exact ⟨k :: ks, .cons a as, by rw [e, es]; rfl⟩
def dctT (M : Mem) : T → Option (Bool × List (T × T))
  | .dct tk kvs => some (tk, kvs)
  | .loc n => match M[n]? with
    | some (.dct tk kvs) => some (tk, kvs)
    | _ => none
  | _ => none
def DctAt (K : PySem.W.Frag) (Ω : Om) (Z ι : List Addr) (M : Mem) (H : Hp) (tk : Bool) (kvs : List (T × T)) (a : Addr) : Prop := match tk with
  | false => ∃ ws, Rd H a (.dK ws) ∧ RKs Ω (kvs.map (·.1)) (ws.map (·.1)) ∧ Rs K Ω Z ι M H (kvs.map (·.2)) (ws.map (·.2))
  | true => ∃ ws, Rd H a (.dT ws) ∧ RKts Ω (kvs.map (·.1)) (ws.map (·.1)) ∧ Rs K Ω Z ι M H (kvs.map (·.2)) (ws.map (·.2))
theorem dctT_ok {t : T} {v : V} {tk : Bool} {kvs : List (T × T)} (m : RM K Ω Z ι M H) (r : R K Ω Z ι M H t v) (h : dctT M t = some (tk, kvs)) : ∃ a, v = .ref a ∧ DctAt K Ω Z ι M H tk kvs a := by
  cases r with
  | dK q n k rs => cases h; exact ⟨_, rfl, _, q, k, rs⟩
  | dT q n k rs => cases h; exact ⟨_, rfl, _, q, k, rs⟩
  | loc q =>
    rename_i n a
    obtain ⟨o, e, ro⟩ := m.at q
    have h : (match M[n]? with | some (MO.dct tk kvs) => some (tk, kvs) | _ => none) = some (tk, kvs) := h
    rw [e] at h
    cases ro with
    | dK hl k rs => cases h; exact ⟨_, rfl, _, .inl hl, k, rs⟩
    | dT hl k rs => cases h; exact ⟨_, rfl, _, .inl hl, k, rs⟩
    | gone _ => cases h
    | obj _ _ _ => cases h
    | lst _ _ => cases h
  | _ => cases h
theorem dLookK : ∀ {kvs : List (T × T)} {ws : List (Key × V)} {x : T} {k : Key} {o : Option T}, RKs Ω (kvs.map (·.1)) (ws.map (·.1)) → Rs K Ω Z ι M H (kvs.map (·.2)) (ws.map (·.2)) → RK Ω x k → dLook false x kvs = some o →
    (match o with | some t => ∃ v, valV ws k = some v ∧ R K Ω Z ι M H t v | none => valV ws k = none)
  | [], [], _, _, _, _, _, _, h => by cases h; rfl
  | [], _ :: _, _, _, _, h, _, _, _ => nomatch h
  | _ :: _, [], _, _, _, h, _, _, _ => nomatch h
  | (kt, vt) :: kvs, (kw, vw) :: ws, x, k, o, .cons r rs, .cons q qs, rx, h => by
    unfold dLook at h
    cases e : keyEq false kt x with
    | none => rw [e] at h; cases h
    | some b =>
      rw [e] at h
      have hb := flatEq_ok r rx (show flatEq kt x = some b from e)
      cases b with
      | true =>
        cases h
        exact ⟨vw, valV_pos (of_decide_eq_true hb), q⟩
      | false =>
        rw [valV_neg (of_decide_eq_false hb)]
        exact dLookK rs qs rx h
theorem dLookT : ∀ {kvs : List (T × T)} {ws : List (List Key × V)} {x : T} {k : List Key} {o : Option T}, RKts Ω (kvs.map (·.1)) (ws.map (·.1)) → Rs K Ω Z ι M H (kvs.map (·.2)) (ws.map (·.2)) → RKt Ω x k → dLook true x kvs = some o →
    (match o with | some t => ∃ v, valV ws k = some v ∧ R K Ω Z ι M H t v | none => valV ws k = none)
  | [], [], _, _, _, _, _, _, h => by cases h; rfl
  | [], _ :: _, _, _, _, h, _, _, _ => nomatch h
  | _ :: _, [], _, _, _, h, _, _, _ => nomatch h
  | (kt, vt) :: kvs, (kw, vw) :: ws, x, k, o, .cons r rs, .cons q qs, rx, h => by
    unfold dLook at h
    cases r with
    | mk r =>
    cases rx with
    | mk rx =>
    rename_i t1 t2
    cases e : keyEq true (.tup t1) (.tup t2) with
    | none => rw [e] at h; cases h
    | some b =>
      rw [e] at h
      have hb := flatEqs_ok r rx (show flatEqs t1 t2 = some b from e)
      cases b with
      | true =>
        cases h
        exact ⟨vw, valV_pos (of_decide_eq_true hb), q⟩
      | false =>
        rw [valV_neg (of_decide_eq_false hb)]
        exact dLookT rs qs (.mk rx) h
theorem dGet_ok {tk : Bool} {kvs : List (T × T)} {a : Addr} {x : T} {y : V} {o : Option T} (d : DctAt K Ω Z ι M H tk kvs a) (r : R K Ω Z ι M H x y) (h : dGet tk kvs x = some o) :
    ∃ ov, DGet H a y ov ∧ (match o with | some t => ∃ v, ov = some v ∧ R K Ω Z ι M H t v | none => ov = none) := by
  unfold dGet at h
  cases e : isKey tk x with
  | false => rw [e] at h; cases h
  | true =>
    rw [e] at h
    have h : dLook tk x kvs = some o := h
    cases tk with
    | false =>
      obtain ⟨ws, hd, rk, rs⟩ := d
      obtain ⟨k, hk, rfl⟩ := rk_of r e
      refine ⟨valV ws k, .inl ⟨ws, k, hd, rfl, rfl⟩, ?_⟩
      have := dLookK rk rs hk h
      cases o with
      | none => exact this
      | some t => exact this
    | true =>
      obtain ⟨ws, hd, rk, rs⟩ := d
      cases r with
      | @tup ts b vs hb rt =>
        obtain ⟨ks, hk, rfl⟩ := rks_of rt e
        refine ⟨valV ws ks, .inr ⟨ws, ks, b, hd, rfl, hb, rfl⟩, ?_⟩
        have := dLookT rk rs (.mk hk) h
        cases o with
        | none => exact this
        | some t => exact this
      | _ => cases e
end
section
variable {X : Cx} {Ω : Om} {W : WX} {e e2 o i value : Expr} {fa : AF} {f g fo fi fv : EF} {pos p apos cpos pos' : Pos}
def eDget (fo fi : EF) : EF := fun σ M => (fo σ M).bind fun t M1 => (fi σ M1).bind fun u M2 => match dctT M2 t with
  | some (tk, kvs) => (match dGet tk kvs u with
    | some (some z) => .ok z M2
    | _ => .err)
  | none => .err
theorem me_dget (hu : X.A.units + 1 < cLine) (ho : ME X Ω W o fo) (hi : ME X Ω W i fi) (hs : NoSl i := by intro _ _; rfl) : ME X Ω W (.Subscript o i pos) (eDget fo fi) := L2PE.imp (pe_dget hu ho hi hs) fun σ H Q ⟨Z, ι, M, σT, m, rv, q⟩ =>
  ⟨Z, ι, M, σT, m, rv, Post.bind q fun ι1 M1 H1 t v m1 e1 q1 p1 => ⟨Z, ι1, M1, σT, m1, rv.ext e1.any, Post.bind p1 fun ι2 M2 H2 u w m2 e2 q2 p2 => by
    cases y : dctT M2 t with
    | none => rw [y] at p2; exact p2.elim
    | some d =>
      rw [y] at p2
      have p2 : Post X.K Ω (R X.K Ω) (fun c d H' => W c d σ H') Z ι2 M2 H2 Q (match dGet d.1 d.2 u with
        | some (some z) => .ok z M2
        | _ => .err) := p2
      cases z : dGet d.1 d.2 u with
      | none => rw [z] at p2; exact p2.elim
      | some oz =>
        rw [z] at p2
        cases oz with
        | none => exact p2.elim
        | some w' =>
          obtain ⟨a, rfl, da⟩ := dctT_ok (tk := d.1) (kvs := d.2) m2 (q1.ext e2.any) y
          obtain ⟨ov, dg, x, rfl, rx⟩ := dGet_ok da q2 z
          exact ⟨a, x, rfl, dg, p2.pure m2 rx⟩⟩⟩
def eDin (neg : Bool) (fi fo : EF) : EF := fun σ M => (fi σ M).bind fun u M1 => (fo σ M1).bind fun t M2 => match dctT M2 t with
  | some (tk, kvs) => (match dGet tk kvs u with
    | some r => .ok (.bl (bif neg then !r.isSome else r.isSome)) M2
    | _ => .err)
  | none => .err
theorem din_of {neg : Bool} {σ : L2.St} {H : Hp} {Q : VK} (q : liftE X.K Ω W (eDin neg fi fo) σ H Q) : liftE X.K Ω W fi σ H fun y H1 => liftE X.K Ω W fo σ H1 fun x H2 => ∃ a ov, x = .ref a ∧ DGet H2 a y ov ∧ Q (.bl (bif neg then !ov.isSome else ov.isSome)) H2 := by
  obtain ⟨Z, ι, M, σT, m, rv, q⟩ := q
  refine ⟨Z, ι, M, σT, m, rv, Post.bind q fun ι1 M1 H1 u w m1 e1 q1 p1 => ⟨Z, ι1, M1, σT, m1, rv.ext e1.any, Post.bind p1 fun ι2 M2 H2 t v m2 e2 q2 p2 => ?_⟩⟩
  cases y : dctT M2 t with
  | none => rw [y] at p2; exact p2.elim
  | some d =>
    rw [y] at p2
    have p2 : Post X.K Ω (R X.K Ω) (fun c d H' => W c d σ H') Z ι2 M2 H2 Q (match dGet d.1 d.2 u with
      | some r => .ok (.bl (bif neg then !r.isSome else r.isSome)) M2
      | _ => .err) := p2
    cases z : dGet d.1 d.2 u with
    | none => rw [z] at p2; exact p2.elim
    | some oz =>
      rw [z] at p2
      obtain ⟨a, rfl, da⟩ := dctT_ok (tk := d.1) (kvs := d.2) m2 q2 y
      obtain ⟨ov, dg, hx⟩ := dGet_ok da (q1.ext e2.any) z
      refine ⟨a, ov, rfl, dg, ?_⟩
      have : ov.isSome = oz.isSome := by
        cases oz with
        | none => rw [show ov = none from hx]; rfl
        | some _ => obtain ⟨x, rfl, _⟩ := hx; rfl
      rw [this]
      exact p2.pure m2 (.bl _)
theorem tB_of {σ : L2.St} {H : Hp} {Q : Bool → Hp → Prop} (q : liftT X.K Ω W (tVal f) σ H Q) : liftE X.K Ω W f σ H fun x H1 => ∃ c, x = .bl c ∧ Q c H1 := by
  obtain ⟨Z, ι, M, σT, m, rv, p⟩ := q
  refine ⟨Z, ι, M, σT, m, rv, Post.bind p fun ι1 M1 H1 t v m1 e1 q1 p1 => ?_⟩
  cases t with
  | bl k => cases q1; exact ⟨k, rfl, p1.pure m1 rfl⟩
  | _ => exact p1.elim
theorem mt_din (hu : X.A.units + 1 < cLine) (hi : ME X Ω W i fi) (ho : ME X Ω W o fo) (hm : behindInMarks .In o = false := by rfl) : MT X Ω W (.Compare i [.In] [o] pos) (tVal (eDin false fi fo)) := L2PT.imp (pt_cmp (pc_din hu hi ho) hm) fun σ H Q q => din_of (tB_of q)
theorem DctAt.isD {K : PySem.W.Frag} {Z ι : List Addr} {M : Mem} {H : Hp} {tk : Bool} {kvs : List (T × T)} {a : Addr} (d : DctAt K Ω Z ι M H tk kvs a) : IsD H a := by
  cases tk with
  | false => obtain ⟨ws, h, _⟩ := d; exact .inl ⟨ws, h⟩
  | true => obtain ⟨ws, h, _⟩ := d; exact .inr ⟨ws, h⟩
theorem hits_K {Ω : Om} {x : T} {k : Key} (rx : RK Ω x k) : ∀ {kvs : List (T × T)} {ws : List (Key × V)} {bs : List Bool}, RKs Ω (kvs.map (·.1)) (ws.map (·.1)) → hits false x kvs = some bs → bs = ws.map fun w => decide (w.1 = k)
  | [], [], _, _, h => by cases h; rfl
  | [], _ :: _, _, h, _ => nomatch h
  | _ :: _, [], _, h, _ => nomatch h
  | (kt, vt) :: kvs, (kw, vw) :: ws, bs, .cons r rs, h => by
    unfold hits at h
    cases e : keyEq false kt x with
    | none => rw [e] at h; cases h
    | some b =>
      rw [e] at h
      cases e2 : hits false x kvs with
      | none => rw [e2] at h; cases h
      | some cs =>
        rw [e2] at h
        cases h
        rw [List.map_cons, ← hits_K rx rs e2, flatEq_ok r rx (show flatEq kt x = some b from e)]
theorem hits_T {Ω : Om} {x : T} {k : List Key} (rx : RKt Ω x k) : ∀ {kvs : List (T × T)} {ws : List (List Key × V)} {bs : List Bool}, RKts Ω (kvs.map (·.1)) (ws.map (·.1)) → hits true x kvs = some bs → bs = ws.map fun w => decide (w.1 = k)
  | [], [], _, _, h => by cases h; rfl
  | [], _ :: _, _, h, _ => nomatch h
  | _ :: _, [], _, h, _ => nomatch h
  | (kt, vt) :: kvs, (kw, vw) :: ws, bs, .cons r rs, h => by
    unfold hits at h
    cases r with
    | mk r =>
    cases rx with
    | mk rx =>
    rename_i t1 t2
    cases e : keyEq true (.tup t1) (.tup t2) with
    | none => rw [e] at h; cases h
    | some b =>
      rw [e] at h
      cases e2 : hits true (.tup t2) kvs with
      | none => rw [e2] at h; cases h
      | some cs =>
        rw [e2] at h
        cases h
        rw [List.map_cons, ← hits_T (.mk rx) rs e2, flatEqs_ok r rx (show flatEqs t1 t2 = some b from e)]
theorem putHits_keys {v : T} : ∀ {kvs : List (T × T)} {bs : List Bool}, (putHits v kvs bs).map (·.1) = kvs.map (·.1)
  | [], _ => rfl
  | _ :: _, [] => rfl
  | kv :: kvs, b :: bs => by simp [putHits, putHits_keys (kvs := kvs)]
theorem putHits_vals {K : PySem.W.Frag} {κ : Type} [DecidableEq κ] {k : κ} {v : T} {y : V} {Z ι : List Addr} {M : Mem} {H : Hp} (r : R K Ω Z ι M H v y) : ∀ {kvs : List (T × T)} {ws : List (κ × V)}, Rs K Ω Z ι M H (kvs.map (·.2)) (ws.map (·.2)) →
    Rs K Ω Z ι M H ((putHits v kvs (ws.map fun w => decide (w.1 = k))).map (·.2)) ((ws.map fun kv => if kv.1 = k then (kv.1, y) else kv).map (·.2))
  | [], [], _ => .nil
  | [], _ :: _, h => nomatch h
  | _ :: _, [], h => nomatch h
  | (kt, vt) :: kvs, (kw, vw) :: ws, .cons q qs => by
    simp only [List.map_cons, putHits]
    refine .cons ?_ (putHits_vals r qs)
    by_cases e : kw = k
    · rw [decide_eq_true e, if_pos e]; exact r
    · rw [decide_eq_false e, if_neg e]; exact q
theorem map_keys {κ : Type} [DecidableEq κ] {k : κ} {y : V} : ∀ {ws : List (κ × V)}, (ws.map fun kv => if kv.1 = k then (kv.1, y) else kv).map (·.1) = ws.map (·.1)
  | [] => rfl
  | (kw, vw) :: ws => by
    simp only [List.map_cons]
    rw [map_keys (ws := ws)]
    by_cases e : kw = k
    · rw [if_pos e]
    · rw [if_neg e]
theorem RKs.append {Ω : Om} : ∀ {ts us : List T} {ks ls : List Key}, RKs Ω ts ks → RKs Ω us ls → RKs Ω (ts ++ us) (ks ++ ls)
  | _, _, _, _, .nil, s => s
  | _, _, _, _, .cons r t, s => .cons r (RKs.append t s)
theorem RKts.append {Ω : Om} : ∀ {ts us : List T} {ks ls : List (List Key)}, RKts Ω ts ks → RKts Ω us ls → RKts Ω (ts ++ us) (ks ++ ls)
  | _, _, _, _, .nil, s => s
  | _, _, _, _, .cons r t, s => .cons r (RKts.append t s)
theorem any_hits {κ : Type} [DecidableEq κ] {k : κ} : ∀ {ws : List (κ × V)}, (ws.map fun w => decide (w.1 = k)).any id = ws.any fun kv => decide (kv.1 = k)
  | [] => rfl
  | w :: ws => by simp only [List.map_cons, List.any_cons, id, any_hits (ws := ws)]
theorem put_K {K : PySem.W.Frag} {Z ι : List Addr} {M : Mem} {H : Hp} {kvs us : List (T × T)} {ws : List (Key × V)} {x v : T} {k : Key} {y : V} (rk : RKs Ω (kvs.map (·.1)) (ws.map (·.1))) (rs : Rs K Ω Z ι M H (kvs.map (·.2)) (ws.map (·.2))) (rx : RK Ω x k) (r : R K Ω Z ι M H v y)
    {bs : List Bool} (hb : hits false x kvs = some bs) (h : us = bif bs.any id then putHits v kvs bs else kvs ++ [(x, v)]) : RKs Ω (us.map (·.1)) ((putK ws k y).map (·.1)) ∧ Rs K Ω Z ι M H (us.map (·.2)) ((putK ws k y).map (·.2)) := by
  have e := hits_K rx rk hb
  subst e
  rw [any_hits] at h
  unfold putK
  cases z : ws.any fun kv => decide (kv.1 = k) with
  | true =>
    rw [z] at h
    subst h
    rw [if_pos rfl]
    dsimp only [cond_true]
    rw [putHits_keys, map_keys]
    exact ⟨rk, putHits_vals r rs⟩
  | false =>
    rw [z] at h
    subst h
    rw [if_neg Bool.false_ne_true]
    dsimp only [cond_false]
    rw [List.map_append, List.map_append, List.map_append, List.map_append]
    exact ⟨rk.append (.cons rx .nil), rs.append (.cons r .nil)⟩
theorem put_T {K : PySem.W.Frag} {Z ι : List Addr} {M : Mem} {H : Hp} {kvs us : List (T × T)} {ws : List (List Key × V)} {x v : T} {k : List Key} {y : V} (rk : RKts Ω (kvs.map (·.1)) (ws.map (·.1))) (rs : Rs K Ω Z ι M H (kvs.map (·.2)) (ws.map (·.2))) (rx : RKt Ω x k) (r : R K Ω Z ι M H v y)
    {bs : List Bool} (hb : hits true x kvs = some bs) (h : us = bif bs.any id then putHits v kvs bs else kvs ++ [(x, v)]) : RKts Ω (us.map (·.1)) ((putK ws k y).map (·.1)) ∧ Rs K Ω Z ι M H (us.map (·.2)) ((putK ws k y).map (·.2)) := by
  have e := hits_T rx rk hb
  subst e
  rw [any_hits] at h
  unfold putK
  cases z : ws.any fun kv => decide (kv.1 = k) with
  | true =>
    rw [z] at h
    subst h
    rw [if_pos rfl]
    dsimp only [cond_true]
    rw [putHits_keys, map_keys]
    exact ⟨rk, putHits_vals r rs⟩
  | false =>
    rw [z] at h
    subst h
    rw [if_neg Bool.false_ne_true]
    dsimp only [cond_false]
    rw [List.map_append, List.map_append, List.map_append, List.map_append]
    exact ⟨rk.append (.cons rx .nil), rs.append (.cons r .nil)⟩
def locD (M : Mem) : T → Option (Nat × Bool × List (T × T))
  | .loc n => match M[n]? with
    | some (.dct tk kvs) => some (n, tk, kvs)
    | _ => none
  | _ => none
def sDput (fv fo fi : EF) : SF := fun σ M => (fv σ M).go σ fun v M1 => (fo σ M1).go σ fun t M2 => (fi σ M2).go σ fun x M3 => match locD M3 t with
  | some (n, tk, kvs) => (match dPut tk kvs x v with
    | some us => some (.nx σ, M3.set n (.dct tk us))
    | none => none)
  | none => none
theorem len_of_RKs {Ω : Om} : ∀ {ts : List T} {ks : List Key}, RKs Ω ts ks → ts.length = ks.length
  | _, _, .nil => rfl
  | _, _, .cons _ t => by simp [len_of_RKs t]
theorem len_of_RKts {Ω : Om} : ∀ {ts : List T} {ks : List (List Key)}, RKts Ω ts ks → ts.length = ks.length
  | _, _, .nil => rfl
  | _, _, .cons _ t => by simp [len_of_RKts t]
theorem ms_dput (hu : X.A.units + 1 < cLine) (ho : ME X Ω W o fo) (hi : ME X Ω W i fi) (hv : ME X Ω W value fv) (hs : swapsWith value (some (.Subscript o i pos')) pos.line X.env = pure false := by rfl) : MS X Ω W (.Assign [.Subscript o i pos'] value pos) (sDput fv fo fi) := by
  refine L2PS.imp (ps_dput hu ho hi hv hs) fun D σ H ⟨Z, ι, M, σT, m0, rv, q⟩ => ⟨Z, ι, M, σT, m0, rv, PostS.go q rv fun ι1 M1 H1 v y m1 e1 rv1 q1 p1 => ⟨Z, ι1, M1, σT, m1, rv1, PostS.go p1 rv1 fun ι2 M2 H2 t x m2 e2 rv2 q2 p2 => ⟨Z, ι2, M2, σT, m2, rv2, PostS.go p2 rv2 fun ι3 M3 H3 u w m3 e3 rv3 q3 p3 => ?_⟩⟩⟩
  have rt := q2.ext (Z := Z) e3.any
  have ry := (q1.ext (Z := Z) e2.any).ext (Z := Z) e3.any
  cases z : locD M3 t with
  | none => rw [z] at p3; exact p3.elim
  | some d =>
    obtain ⟨n, tk, kvs⟩ := d
    rw [z] at p3
    have p3 : PostS X.K Ω W Z ι3 M3 H3 D (match dPut tk kvs u v with
      | some us => some (.nx σT, M3.set n (.dct tk us))
      | none => none) := p3
    cases hp : dPut tk kvs u v with
    | none => rw [hp] at p3; exact p3.elim
    | some us =>
      rw [hp] at p3
      unfold dPut at hp
      cases hk : isKey tk u && big (kvs.length + 1) with
      | false => rw [hk] at hp; cases hp
      | true =>
        rw [hk] at hp
        rw [Bool.and_eq_true] at hk
        have hbig := of_decide_eq_true hk.2
        dsimp only [cond_true] at hp
        cases hh : hits tk u kvs with
        | none => rw [hh] at hp; cases hp
        | some bs =>
          rw [hh] at hp
          cases hp
          cases rt with
          | loc hn =>
            rename_i n' a
            obtain ⟨ob, eo, ro⟩ := m3.at hn
            have z : (match M3[n']? with | some (MO.dct tk kvs) => some (n', tk, kvs) | _ => none) = some (n, tk, kvs) := z
            rw [eo] at z
            cases ro with
            | @dK _ _ ws hl rk rs =>
              cases z
              obtain ⟨k, rx, rfl⟩ := rk_of q3 hk.1
              obtain ⟨k1, k2⟩ := put_K rk rs rx ry hh rfl
              have t1 : ∀ xs, HO.dK ws ≠ .tup xs := by intro xs h; cases h
              have t2 : ∀ x y, HO.dK ws ≠ .frz x y := by intro x y h; cases h
              have hg : ∀ {us : List (T × T)}, MO.dct false us ≠ .gone := by intro us h; cases h
              have hlen : ws.length < sizeLine := by
                have := len_of_RKs rk
                simp only [List.length_map] at this
                rw [sizeLine_eq]
                omega
              exact ⟨a, _, rfl, .inl ⟨ws, k, hl, rfl, hlen, rfl⟩, p3 ι3 σ _ (m3.write hn eo hg hl t1 t2 fun ex => .dK upd_same k1 (k2.ext ex)) (Ext.write hn eo hg hl t1 t2) (rv3.ext (Ext.write hn eo hg hl t1 t2))⟩
            | @dT _ _ ws hl rk rs =>
              cases z
              cases q3 with
              | @tup ts b vs hb rt =>
                obtain ⟨ks, rx, rfl⟩ := rks_of rt hk.1
                obtain ⟨k1, k2⟩ := put_T rk rs (.mk rx) ry hh rfl
                have t1 : ∀ xs, HO.dT ws ≠ .tup xs := by intro xs h; cases h
                have t2 : ∀ x y, HO.dT ws ≠ .frz x y := by intro x y h; cases h
                have hg : ∀ {us : List (T × T)}, MO.dct true us ≠ .gone := by intro us h; cases h
                have hlen : ws.length < sizeLine := by
                  have := len_of_RKts rk
                  simp only [List.length_map] at this
                  rw [sizeLine_eq]
                  omega
                exact ⟨a, _, rfl, .inr ⟨ws, ks, b, hl, rfl, hb, hlen, rfl⟩, p3 ι3 σ _ (m3.write hn eo hg hl t1 t2 fun ex => .dT upd_same k1 (k2.ext ex)) (Ext.write hn eo hg hl t1 t2) (rv3.ext (Ext.write hn eo hg hl t1 t2))⟩
              | _ => cases hk.1
            | gone _ => cases z
            | obj _ _ _ => cases z
            | lst _ _ => cases z
          | _ => cases z
end
end Mi
namespace Mi
open PySem PySem.Spec PyProof.Rows L2

def insK {α : Type} (p : Int × α) : List (Int × α) → List (Int × α)
  | [] => [p]
  | q :: r => bif decide (p.1 ≤ q.1) then p :: q :: r else q :: insK p r
inductive RelK {α β : Type} (F : α → β → Prop) : List (Int × α) → List (Int × β) → Prop
  | nil : RelK F [] []
  | cons {k a b l m} : F a b → RelK F l m → RelK F ((k, a) :: l) ((k, b) :: m)
theorem RelK.ins {α β : Type} {F : α → β → Prop} {k : Int} {a : α} {b : β} (h : F a b) : ∀ {l m}, RelK F l m → RelK F (insK (k, a) l) (insK (k, b) m)
  | _, _, .nil => .cons h .nil
  | _, _, .cons (k := j) g r => by
    unfold insK
    show RelK F (bif decide (k ≤ j) then _ else _) (bif decide (k ≤ j) then _ else _)
    cases decide (k ≤ j) with
    | true => exact .cons h (.cons g r)
    | false => exact .cons g (RelK.ins h r)
theorem RelK.zip : ∀ {ks : List Int} {vs : List V} {us : List Value}, Vals vs us → ks.length = vs.length → RelK RelV (ks.zip vs) (ks.zip us)
  | [], _, _, .nil, _ => .nil
  | _ :: _, _, _, .nil, h => by cases h
  | [], _, _, .cons _ _, h => by cases h
  | k :: ks, _, _, .cons r t, h => .cons r (RelK.zip t (by simpa using h))
section
variable {X : Cx}
end
end Mi
namespace Mi
open PySem PySem.Spec PyProof.Rows L2
section
variable {K : PySem.W.Frag} {Ω : Om} {X : Cx} {W : WX} {Z ι : List Addr} {M : Mem} {H : Hp} {e e2 o a b c : Expr} {es : List Expr} {fa ga : AF} {f g fo h3 : EF} {pos p p2 kpos apos cpos p1 : Pos}
theorem RelK.rs {l : List (Int × T)} {n : List (Int × V)} (h : RelK (R K Ω Z ι M H) l n) : Rs K Ω Z ι M H (l.map (·.2)) (n.map (·.2)) := by
  induction h with
  | nil => exact .nil
  | cons h _ ih => exact .cons h ih
end
end Mi
namespace Mi
open PySem PySem.Spec PyProof.Rows L2
set_option maxHeartbeats 1000000 in
theorem enumNew1 {v : Value} {o : Obj} {Hh : Heap → Prop} (B : Begins v o Hh) : Meets (Builtin.«enumerate.__new__» ⟨[.type "enumerate", v], []⟩) (fun _ R s => Hh s.heap ∧
      R (.ok (.ret (.ref (s.heap.push o).objs.size))) { s with heap := (s.heap.push o).push { cls := .type "enumerate", data := .fields #[.none, .bool false, .ref s.heap.objs.size, rawInt 0, .none, .none] } }) :=
  .of_wp fun prog w A R s ⟨h1, h⟩ => by
    obtain ⟨hp, g, d, tk, os⟩ := s
    have hsub := sub_enumerate
    have it1 : ∀ {A' : Around} {E : Value → Shared → Prop} {Q : Value → Shared → Prop}, Q (.ref hp.objs.size) ⟨hp.push o, g, d, tk, os⟩ → wpAny (model prog w) A' (pyIter v) Q E ⟨hp, g, d, tk, os⟩ := fun z => B.iter prog w _ _ ⟨hp, g, d, tk, os⟩ _ h1 z
    wp_walk using it1
    refine wpAny_stack_any fun st => wpAny_pure ?_
    split
    · rename_i c _ _ _ _ _
      cases (c == Value.type "enumerate") <;> (wp_walk using it1; exact ⟨_, rfl, h⟩)
    · wp_walk using it1
      exact ⟨_, rfl, h⟩
theorem enum_call {prog : Program} {w : World} {A : Around} {E : Value → Shared → Prop} {s : Shared} {v : Value} {o : Obj} {Hh : Heap → Prop} {Q : Value → Shared → Prop} (B : Begins v o Hh) (h1 : Hh s.heap)
    (h : ∀ h', IsEnum h' (s.heap.objs.size + 1) s.heap.objs.size 0 .none → h'.get? s.heap.objs.size = some o → (∀ b x, s.heap.get? b = some x → h'.get? b = some x) → Q (.ref (s.heap.objs.size + 1)) { s with heap := h' }) :
    wpAny (model prog w) A (call (.type "enumerate") [v]) Q E s := by
  refine callType_new F.called_enumerate (by decide) (F.typeCall_enumerate_1 _) (F.newCall_enumerate_1 _) (fun obj => F.args_object_init_2 obj _) F.entry_enumerate_new (enumNew1 B) ⟨h1, ?_⟩
  have hz : (s.heap.push o).objs.size = s.heap.objs.size + 1 := Heap.size_push ..
  show _ ∧ _
  rw [hz]
  have he : IsEnum ((s.heap.push o).push { cls := .type "enumerate", data := .fields #[.none, .bool false, .ref s.heap.objs.size, rawInt 0, .none, .none] }) (s.heap.objs.size + 1) s.heap.objs.size 0 .none := by
    have k := Heap.get?_push_size (s.heap.push o) (o := { cls := .type "enumerate", data := .fields #[.none, .bool false, .ref s.heap.objs.size, rawInt 0, .none, .none] }) rfl
    rw [hz] at k
    exact k
  exact ⟨⟨_, he, rfl⟩, h _ he (Heap.get?_push_of_some _ (Heap.get?_push_size _ B.free)) fun b x z => Heap.get?_push_of_some _ (Heap.get?_push_of_some _ z)⟩
def IteT (K : PySem.W.Frag) (a : Addr) : It :=
  ⟨fun i H => ∃ (xs : List V) (x : V), SqT K H a xs ∧ xs[i]? = some x, fun i H v H' => ∃ T x, v = .ref T ∧ H T = none ∧ H' = upd H T (.tup [.int (i : Nat), x]) ∧ ∀ xs, SqT K H a xs → xs[i]? = some x, fun i H => ∃ xs : List V, SqT K H a xs ∧ xs.length ≤ i⟩
theorem tup_apart {X : Cx} {pins : List (Addr × Obj)} {σ : L2.St} {H : Hp} {s : Shared} {a it : Addr} {xs : List V} (I : L2.Inv X pins σ H s) (hq : SqT X.K H a xs) (hit : s.heap.IsTupleIter it a 0 ∨ ∃ i, s.heap.IsTupleIter it a i) : a ≠ it := by
  obtain ⟨its, rv, ⟨o, ho, hc, n, hd⟩, hz⟩ := I.tuple hq
  have hit : ∃ i, s.heap.IsTupleIter it a i := hit.elim (fun z => ⟨0, z⟩) id
  obtain ⟨i, o2, ho2, hc2, hd2⟩ := hit
  rintro rfl
  rw [ho] at ho2
  cases ho2
  rw [hd] at hd2
  cases hd2
theorem turn_enumT {P : Program} {w : World} {K : PySem.W.Frag} {elts : List Expr} {kk : Nat} {tpos : Pos} (a e it : Addr) :
    Turn P w K (.Tuple elts kk tpos) (IteT K a) [e, it] e (fun i h => (∃ old, IsEnum h e it ((i : Nat) : Int) old) ∧ h.IsTupleIter it a i ∧ e ≠ it) where
  mem := by simp
  obj := fun i h ⟨⟨old, he⟩, ⟨o, ho, hc, hd⟩, _⟩ b hb => by
    rcases (show b = e ∨ b = it by simpa using hb) with z | z
    · rw [z]; exact ⟨_, he, fun v q => nomatch q⟩
    · rw [z]; exact ⟨o, ho, fun v q => by rw [hd] at q; cases q⟩
  keep := fun i h h' ⟨⟨old, he⟩, hi, hne⟩ k => ⟨⟨old, k e (by simp) _ he⟩, hi.at fun o q => k it (by simp) o q, hne⟩
  item := by
    intro X hP hw hK hc i pins s σ H E I hf ⟨⟨old, he⟩, hit, hne⟩ ⟨xs, x, hq, hx⟩
    subst hP hw hK
    obtain ⟨its, rv, p, hz⟩ := I.tuple hq
    obtain ⟨u, hu, ru⟩ := rv.get hx
    have hea : e ≠ a := by
      rintro rfl
      obtain ⟨o, ho, hc2, n, hd⟩ := p
      have he : s.heap.get? e = some _ := he
      rw [he] at ho
      cases ho
      cases hd
    have hel : e < s.heap.objs.size := Heap.lt_size he
    have hil : it < s.heap.objs.size := by obtain ⟨_, q, _⟩ := hit; exact Heap.lt_size q
    have hlt : i < its.toArray.size := by
      rw [List.size_toArray]
      exact (List.getElem?_eq_some_iff.mp hu).1
    refine wpAny_pyNext_enum_itemD (Draws.tuple (by rw [show X.A.in1.handled = X.A.handled from rfl]; exact I.ok.hd hc) it a (tup_apart I hq (.inr ⟨i, hit⟩)) its.toArray) he ⟨hit, p⟩ hlt hne (by simp [hea, hne]) fun x' h' tk hx' ho hit' hT hsz hk => ?_
    obtain rfl : u = x' := by
      have hx' : its.toArray[i]? = some x' := hx'
      simp only [List.getElem?_toArray] at hx'
      rw [hu] at hx'
      exact Option.some.inj hx'
    refine ⟨_, rfl, wpAny_letOwnedTupleGo_enum (s := { s with heap := h', toks := tk + 1 }) ho fun h'' he' sb => ?_⟩
    have hT2 : h''.get? s.heap.objs.size = some { cls := .type "tuple", data := .seq #[.int i tk, u] } := (sb.2 _ (Nat.ne_of_gt hel)).trans hT
    have new : ObjOk X.prog X.w (upd H s.heap.objs.size (.tup [.int (i : Nat), x])) h'' s.heap.objs.size (.tup [.int (i : Nat), x]) :=
      ⟨by show 2 ≤ sizeLine; decide, [.int i tk, u], .cons ⟨_, rfl⟩ (.cons ru .nil), ⟨_, hT2, rfl, _, rfl⟩⟩
    have I1 : L2.Inv X pins σ (upd H s.heap.objs.size (.tup [.int (i : Nat), x])) { s with heap := h'', toks := tk + 1 } :=
      I.turnedNew (ch := [e, it]) (fun b ob hb q => (sb.2 b (fun z => hb (by simp [z]))).trans (hk b ob (fun z => hb (by simp [z])) (fun z => hb (by simp [z])) q)) hf (Nat.le_refl _) new
    refine ⟨.ref s.heap.objs.size, _, I1, rfl, ⟨_, x, rfl, I.hok.fresh (Nat.le_refl _), rfl, fun ys hy => by rw [I.tuple_inj hy hq]; exact hx⟩, ⟨⟨u, ?_⟩, hit'.1.at fun o q => (sb.2 it (Ne.symm hne)).trans q, hne⟩, fun b hb => ?_⟩
    · rw [show ((i + 1 : Nat) : Int) = (i : Int) + 1 by omega]
      exact he'
    · have hb' : b < s.heap.objs.size := by
        rcases (show b = e ∨ b = it by simpa using hb) with z | z
        · rw [z]; exact hel
        · rw [z]; exact hil
      rw [upd_ne (Nat.ne_of_lt hb')]
      exact (hf b hb).1
  done := by
    intro X hP hw hK hc i pins s σ H E I hf ⟨⟨old, he⟩, hit, hne⟩ ⟨xs, hq, hx⟩
    subst hP hw hK
    obtain ⟨its, rv, p, hz⟩ := I.tuple hq
    obtain ⟨f0, f1, f2, f3, f4, f5⟩ := hf it (by simp)
    have hT : s.TypeIs (.ref e) "enumerate" := ⟨_, he, rfl⟩
    have hl := rv.length
    unfold pyNext
    refine wpAny_bind (wpAny_attempt (wpAny_callSpecial?_slot (name := Str.ofString "__next__") hT F.slot_enumerate_next
      (wpAny_call_entry F.slot_enumerate_next hT F.entry_enumerate_next ?_ (F.args_enumerate_next_1 _))))
    show wpAny _ _ (field (.ref e) 2 >>= _) _ _ _
    refine wpAny_bind (wpAny_field he rfl (x := .ref it) rfl ?_)
    refine wpAny_bind (wpAny_nextOf_tuple_end (by rw [show X.A.in1.in1.handled = X.A.handled from rfl]; exact I.ok.hd hc) hit p (by simp; omega) fun h' x eb ⟨o, ho, hcl⟩ => ?_)
    refine wpAny_bind (wpAny_isInstance (T := "StopIteration") (b := true) ⟨o, ho, hcl⟩ isSubtype_stop ?_)
    exact wpAny_pure ⟨rfl, I.turned (t' := s.toks) (fun b o hb q => eb b o hb q) f0 f1 f3 f4 f5⟩
  self := fun A i s Q E ⟨⟨_, he⟩, _⟩ h => wpAny_pyIter_enum he h
theorem pi_enumT {X : Cx} {e : Expr} {ta : TA} {p pos tpos : Pos} {elts : List Expr} {kk : Nat} (hg : Gl X "enumerate") (hm : X.mg "enumerate" = none) (ha : PA X [e] ta) (hs : starEach [e] X.env = [(false, eval e X.env)] := by rfl) :
    PI X (.Tuple elts kk tpos) (.Call (.Name "enumerate" p) [e] [] pos) (fun σ H R => ta σ H fun vs H1 => ∃ a xs, vs = [.ref a] ∧ SqT X.K H1 a xs ∧ R (IteT X.K a) H1) := by
  refine ⟨fun pins s σ H R I h => ?_⟩
  refine Call_ (ld_blt I hg hm boot_enumerate (PyProof.Rows.callWith_type1 (thn (ha.run pos pins s σ H _ I h) fun us s1 ⟨vs, H1, I1, r1, a, xs, ex, hq, q⟩ => ?_) hs rfl))
  subst ex
  obtain ⟨u, rfl, ru⟩ := vals1 r1
  obtain rfl : u = Value.ref a := ru
  obtain ⟨its, rv, p', hz⟩ := I1.tuple hq
  refine enum_call (begins_tuple a its.toArray) p' fun h' he hit hk => wpAny_pyIter_enum he ?_
  refine ⟨s1.heap.objs.size + 1, [s1.heap.objs.size + 1, s1.heap.objs.size], _, _, H1, rfl, I1.kept (t' := s1.toks) hk, turn_enumT a (s1.heap.objs.size + 1) s1.heap.objs.size, ⟨⟨.none, he⟩, ⟨_, hit, rfl, rfl⟩, Nat.succ_ne_self _⟩, fun b hb => ?_, q⟩
  have hle : s1.heap.objs.size ≤ b := by
    rcases (show b = s1.heap.objs.size + 1 ∨ b = s1.heap.objs.size by simpa using hb) with z | z
    · rw [z]; exact Nat.le_add_right _ _
    · rw [z]; exact Nat.le_refl _
  exact I1.fpOk hle (I1.hok.fresh hle)
end Mi
namespace Mi
open PySem PySem.Spec PyProof.Rows L2
section
variable {K : PySem.W.Frag} {Ω : Om} {X : Cx} {W : WX} {Z ι : List Addr} {M : Mem} {H : Hp} {e e2 o a b c : Expr} {es : List Expr} {fa ga : AF} {f g fo h3 : EF} {pos p p2 kpos apos cpos p1 : Pos}
def eChain (op op' : Op2) (f g h : EF) : EF := fun σ M => (f σ M).bind fun t M1 => (g σ M1).bind fun u M2 => match op M2 t u with
  | some (.bl true) => (h σ M2).bind fun w M3 => .of (op' M3 u w) M3
  | some (.bl false) => .ok (.bl false) M2
  | _ => .err
theorem chain_of {r r' : R2} {op op' : Op2} (h : OpS X.K Ω r op) (h' : OpS X.K Ω r' op') {σ : L2.St} {H : Hp} {Q : VK} (q : liftE X.K Ω W (eChain op op' f g h3) σ H Q) : tChain r r' (liftE X.K Ω W f) (liftE X.K Ω W g) (liftE X.K Ω W h3) σ H Q := by
  obtain ⟨Z, ι, M, σT, m, rv, p⟩ := q
  refine ⟨Z, ι, M, σT, m, rv, Post.bind p fun ι1 M1 H1 t v m1 e1 q1 p1 => ⟨Z, ι1, M1, σT, m1, rv.ext e1.any, Post.bind p1 fun ι2 M2 H2 u w m2 e2 q2 p2 => ?_⟩⟩
  split at p2
  · rename_i e
    refine h Z ι2 M2 H2 t u v w _ _ m2 (q1.ext e2.any) q2 e fun ι3 H3 x m3 e3 r3 => ?_
    cases r3
    refine ⟨true, rfl, ?_⟩
    rw [if_pos rfl]
    refine ⟨Z, ι3, M2, σT, m3, ((rv.ext e1.any).ext e2.any).ext e3.any, Post.bind (Post.ext p2 e3) fun ι4 M4 H4 y z m4 e4 q4 p4 => ?_⟩
    cases e5 : op' M4 u y with
    | none => rw [e5] at p4; exact p4.elim
    | some z' => rw [e5] at p4; exact h' Z ι4 M4 H4 u y w z z' Q m4 ((q2.ext e3.any).ext e4.any) q4 e5 fun ι' H' x m' e' r' => p4 ι' H' x m' e' r'
  · rename_i e
    refine h Z ι2 M2 H2 t u v w _ _ m2 (q1.ext e2.any) q2 e fun ι3 H3 x m3 e3 r3 => ?_
    cases r3
    refine ⟨false, rfl, ?_⟩
    rw [if_neg Bool.false_ne_true]
    exact p2 ι3 H3 _ m3 e3 (.bl false)
  · exact p2.elim
theorem me_chain {o1 o2 : CmpOp} {r r' : R2} {op op' : Op2} (ho : OpR X (compareOp o1) r) (h : OpS X.K Ω r op) (ho' : OpR X (compareOp o2) r') (h' : OpS X.K Ω r' op') (ha : ME X Ω W a f) (hb : ME X Ω W b g) (hc : ME X Ω W c h3)
    (hm : lastMarks [o1, o2] [b, c] = false := by with_unfolding_all rfl) : ME X Ω W (.Compare a [o1, o2] [b, c] pos) (eChain op op' f g h3) := L2PE.imp (pe_chain ho ho' ha hb hc hm) fun _ _ _ q => chain_of h h' q
theorem mt_chain {o1 o2 : CmpOp} {r r' : R2} {op op' : Op2} (ho : OpR X (compareOp o1) r) (h : OpS X.K Ω r op) (ho' : OpR X (compareOp o2) r') (h' : OpS X.K Ω r' op') (ha : ME X Ω W a f) (hb : ME X Ω W b g) (hc : ME X Ω W c h3)
    (hm : lastMarks [o1, o2] [b, c] = false := by with_unfolding_all rfl) : MT X Ω W (.Compare a [o1, o2] [b, c] pos) (tVal (eChain op op' f g h3)) := L2PT.imp (pt_chain ho ho' ha hb hc hm) fun _ _ _ q => chain_of h h' (tB_of q)
def opPlus : Op2 := fun M t u => match lstT M t, lstT M u with
  | some xs, some ys => bif big (xs ++ ys).length then some (.lst (xs ++ ys)) else none
  | _, _ => opAdd M t u
theorem op_plus : OpR X (binaryOp .Add) (fun x y H Q => rAdd3 X.K x y H Q ∨ rCat x y H Q) := op_add3.or op_cat
theorem opPlus_ok : OpS K Ω (fun x y H Q => rAdd3 K x y H Q ∨ rCat x y H Q) opPlus := fun Z ι M H t u v w z Q m r q h k => by
  unfold opPlus at h
  split at h
  · rename_i xs ys h1 h2
    cases zb : big (xs ++ ys).length with
    | false => rw [zb] at h; cases h
    | true =>
      rw [zb] at h
      cases h
      obtain ⟨p, vs, rfl, hp, rp⟩ := lstT_at m r h1
      obtain ⟨p', ws, rfl, hp', rp'⟩ := lstT_at m q h2
      refine .inr ⟨p, p', vs, ws, rfl, rfl, hp, hp', ?_, fun d hd => ?_⟩
      · have := big_ok zb
        rw [List.length_append, rp.length, rp'.length] at this
        exact this
      · exact k ι _ _ (m.lay hd) (Ext.new hd) (.lst upd_same ⟨m.notLive hd, m.notZ hd⟩ ((rp.append rp').ext (Ext.new hd)))
  · exact .inl (opAdd_ok Z ι M H t u v w z Q m r q h k)
def pSeq (n : Nat) (q : List T → TV → Mem → Option TV) : PF := fun t σ M => match seqT M t with
  | some ts => bif ts.length == n then q ts σ M else none
  | none => none
theorem L2PG.or {tg : Expr} {g1 g2 : TG} (h1 : PG X tg g1) (h2 : PG X tg g2) : PG X tg (fun v σ H Q => g1 v σ H Q ∨ g2 v σ H Q) := ⟨fun pins s σ H v u Q I r q => q.elim (h1.run pins s σ H v u Q I r) (h2.run pins s σ H v u Q I r)⟩
theorem pat_seq {n : Nat} {gs : TGs} {q : List T → TV → Mem → Option TV} {vs : List Nat} (h : PatsS K Ω gs q vs) : PatS K Ω (fun v σ H Q => gTup K n gs v σ H Q ∨ gUnl K n gs v σ H Q) (pSeq n q) vs := fun Z ι M H σT σ t v σT' Q m rv r e k => by
  unfold pSeq at e
  cases e1 : seqT M t with
  | none => rw [e1] at e; cases e
  | some ts =>
    rw [e1] at e
    have e : (bif ts.length == n then q ts σT M else none) = some σT' := e
    cases z : ts.length == n with
    | false => rw [z] at e; cases e
    | true =>
      rw [z] at e
      obtain ⟨a, xs, rfl, hs, rs⟩ := seqT_ok m r e1
      have hl : xs.length = n := by rw [← rs.length]; exact beq_iff_eq.mp z
      rcases hs with hs | hs
      · exact .inr ⟨a, xs, rfl, hs, hl, h Z ι M H σT σ ts xs σT' _ m rv rs e k⟩
      · exact .inl ⟨a, xs, rfl, hs, hl, h Z ι M H σT σ ts xs σT' _ m rv rs e k⟩
theorem pg_seq {es : List Expr} {k : Nat} {t : TGs} {n : Nat} (hc : X.calm = true) (h : PGs X es t) (hn : (assignEach es X.env).length = n := by rfl) (hst : (assignEach es X.env).findIdx? (·.1) = none := by rfl) :
    PG X (.Tuple es k pos) (fun v σ H Q => gTup X.K n t v σ H Q ∨ gUnl X.K n t v σ H Q) := L2PG.or (pg_tup hc h hn hst) (pg_unl hc h hn hst)
def enS (ts : List T) : Option (List T) := match ts with
  | [t] => (items t).map (enumT 0)
  | _ => none
theorem rit_enumT {Z ι : List Addr} {M : Mem} {H : Hp} {ts : List T} {a : Addr} {vs : List V} (h : SqT X.K H a vs) (r : Rs X.K Ω Z ι M H ts vs) : RIt X.K Ω Z ι M H (enumT 0 ts) (IteT X.K a) := fun Z' ι' M' H' m e g => by
  have h' : SqT X.K H' a vs := e.sqt h
  have r' := (r.grow g).ext e
  refine ⟨⟨vs, h', by rw [enumT_len, r.length]; exact Nat.le_refl _⟩, fun i t q => ?_⟩
  obtain ⟨u, hu, rfl⟩ := enumT_get q
  obtain ⟨v, hv, rv⟩ := r'.get hu
  refine ⟨⟨vs, v, h', hv⟩, fun x H2 y => ?_⟩
  obtain ⟨T', w, rfl, nT, rfl, y⟩ := y
  have := y vs h'
  rw [hv] at this
  cases this
  refine ⟨m.lay nT, Ext.new nT, .tup upd_same (.cons ?_ (.cons (rv.ext (Ext.new nT)) .nil))⟩
  rw [Nat.zero_add]
  exact .int _
theorem mi_enumS {tpos : Pos} {elts : List Expr} {kk : Nat} (hg : Gl X "enumerate") (hm : X.mg "enumerate" = none) (ha : MA X Ω W [e] fa) (hs : starEach [e] X.env = [(false, eval e X.env)] := by rfl) : MI X Ω W (.Tuple elts kk tpos) (.Call (.Name "enumerate" p) [e] [] pos) (iFun enS fa) := L2PI.imp (L2PI.or (pi_enum hg hm ha hs) (pi_enumT hg hm ha hs)) fun σ H Q ⟨Z, ι, M, σT, m, rv, q⟩ => by
  unfold iFun at q
  cases z : fa σT M with
  | err => rw [z] at q; exact q.elim
  | exc c t M1 => rw [z] at q; exact .inl ⟨Z, ι, M, σT, m, rv, by rw [z]; exact q⟩
  | ok ts M1 =>
    rw [z] at q
    match ts, q, z with
    | [.lst xs], q, z =>
      refine .inl ⟨Z, ι, M, σT, m, rv, ?_⟩
      rw [z]
      intro ι1 H1 vs m1 e1 r1
      cases r1 with
      | cons r1 r2 =>
        cases r2
        cases r1 with
        | lst hl hn rs => exact ⟨_, _, rfl, .inl (.inl hl), q ι1 H1 _ m1 e1 (rit_enum (.inl hl) hn rs)⟩
    | [.tup xs], q, z =>
      refine .inr ⟨Z, ι, M, σT, m, rv, ?_⟩
      rw [z]
      intro ι1 H1 vs m1 e1 r1
      cases r1 with
      | cons r1 r2 =>
        cases r2
        cases r1 with
        | tup ht rs => exact ⟨_, _, rfl, .of ht, q ι1 H1 _ m1 e1 (rit_enumT (.of ht) rs)⟩
    | [.ktup xs], q, z =>
      refine .inr ⟨Z, ι, M, σT, m, rv, ?_⟩
      rw [z]
      intro ι1 H1 vs m1 e1 r1
      cases r1 with
      | cons r1 r2 =>
        cases r2
        cases r1 with
        | ktup ht _ rs => exact ⟨_, _, rfl, ht, q ι1 H1 _ m1 e1 (rit_enumT ht rs)⟩
    | [], q, _ => exact q.elim
    | [.non], q, _ => exact q.elim
    | [.bl _], q, _ => exact q.elim
    | [.int _], q, _ => exact q.elim
    | [.str _], q, _ => exact q.elim
    | [.dct _ _], q, _ => exact q.elim
    | [.obj _ _], q, _ => exact q.elim
    | [.xob _ _], q, _ => exact q.elim
    | [.klst _], q, _ => exact q.elim
    | [.loc _], q, _ => exact q.elim
    | _ :: _ :: _, q, _ => exact q.elim
theorem pg_fld {f : Str} {ta : TE} (ho : PE X o ta) : PG X (.Attribute o f pos) (fun v σ H Q => ta σ H fun x H1 => ∃ a C dx fs, x = .ref a ∧ H1 a = some (.ins C dx fs) ∧ Cls X.K C ∧ NoAttr X.K C f ∧ fs.length < 1000 ∧ Q σ (upd H1 a (.ins C dx (putF f v fs)))) := by
  refine ⟨fun pins s σ H v u Q I r h => ?_⟩
  rw [assign_Attribute]
  refine wpAny_bind (wpAny_holding (thn (ho.run pins s σ H _ I h) fun ov s1 ⟨x, H1, I1, r1, a, C, dx, fs, ex, ea, c, n, l, q⟩ => ?_))
  subst ex
  obtain rfl : ov = Value.ref a := r1
  refine wpAny_bind (wpAny_standAt (wpAny_bind (wpAny_holding (setattr_ok I1 ea c n l r fun s3 I3 => ?_))))
  exact wpAny_release ⟨σ, _, I3, q⟩
end
section
variable {X : Cx} {Ω : Om} {W : WX} {o a b : Expr} {fa : AF} {fo : EF}
def putFld (c i : Nat) (M : Mem) (o t : T) : Option Mem := match o with
  | .loc n => match M[n]? with
    | some (.obj c' fs) => bif c' == c then (match setAt fs i t with
      | some fs' => some (M.set n (.obj c fs'))
      | none => none) else none
    | _ => none
  | _ => none
theorem putFld_ok {K : PySem.W.Frag} {Z ι : List Addr} {M M' : Mem} {H : Hp} {c i : Nat} {f : Str} {u t : T} {w v : V} (hi : (Ω.fld c)[i]? = some f) (hu : ∀ j < i, (Ω.fld c)[j]? ≠ some f) (hfew : (Ω.fld c).length < 1000)
    (m2 : RM K Ω Z ι M H) (q2 : R K Ω Z ι M H u w) (q1 : R K Ω Z ι M H t v) (h : putFld c i M u t = some M') :
    ∃ a dx ws, w = .ref a ∧ H a = some (.ins (Ω.cls c) dx ws) ∧ ws.length < 1000 ∧ RM K Ω Z ι M' (upd H a (.ins (Ω.cls c) dx (putF f v ws))) ∧ ∀ Z', Ext Z' ι M H ι M' (upd H a (.ins (Ω.cls c) dx (putF f v ws))) := by
  cases q2 with
  | loc hn2 =>
    rename_i n a
    obtain ⟨ob, eo, ro⟩ := m2.at hn2
    have h : (match M[n]? with
      | some (MO.obj c' fs) => bif c' == c then (match setAt fs i t with
        | some fs' => some (M.set n (.obj c fs'))
        | none => none) else none
      | _ => none) = some M' := h
    rw [eo] at h
    cases ro with
    | obj ha hk rs =>
      rename_i c' fs dx ws
      dsimp only at h
      cases z : c' == c with
      | false => rw [z] at h; cases h
      | true =>
        rw [z] at h
        have ec := beq_iff_eq.mp z
        subst ec
        dsimp only [cond_true] at h
        have hlen : fs.length = ws.length := by rw [rs.length]; simp
        have few : ws.length < 1000 := by
          have := congrArg List.length hk
          rw [List.length_map, List.length_take] at this
          omega
        refine ⟨a, dx, ws, rfl, ha, few, ?_⟩
        unfold setAt at h
        have t1 : ∀ xs, HO.ins (Ω.cls c') dx ws ≠ .tup xs := by intro xs h; cases h
        have t2 : ∀ x y, HO.ins (Ω.cls c') dx ws ≠ .frz x y := by intro x y h; cases h
        by_cases lt : i < fs.length
        · rw [decide_eq_true lt] at h
          cases h
          have key : (ws.map (·.1))[i]? = some f := by rw [hk, List.getElem?_take_of_lt (by omega)]; exact hi
          have first : ∀ j < i, (ws.map (·.1))[j]? ≠ some f := fun j hj => by rw [hk, List.getElem?_take_of_lt (by omega)]; exact hu j hj
          obtain ⟨k1, k2⟩ := putF_at (v := v) key first
          have kl : (putF f v ws).length = ws.length := by have := congrArg List.length k1; simpa using this
          refine ⟨m2.write hn2 eo (by intro h; cases h) ha t1 t2 fun ex => .obj upd_same (by rw [k1, kl]; exact hk) ?_, fun _ => Ext.write hn2 eo (by intro h; cases h) ha t1 t2⟩
          rw [k2]
          exact Rs.setI (q1.ext ex) i (rs.ext ex)
        · rw [decide_eq_false lt] at h
          cases y : fs.length == i with
          | false => rw [y] at h; cases h
          | true =>
            rw [y] at h
            cases h
            have ei : fs.length = i := beq_iff_eq.mp y
            have fresh : f ∉ ws.map (·.1) := fun h => by
              obtain ⟨j, hj, ej⟩ := List.getElem_of_mem h
              have hj' : j < ws.length := by simpa using hj
              apply hu j (by omega)
              have e3 : (ws.map (·.1))[j]? = some f := by rw [List.getElem?_eq_getElem hj, ej]
              rw [hk, List.getElem?_take_of_lt hj'] at e3
              exact e3
            rw [putF_new fresh]
            refine ⟨m2.write hn2 eo (by intro h; cases h) ha t1 t2 fun ex => .obj upd_same ?_ ?_, fun _ => Ext.write hn2 eo (by intro h; cases h) ha t1 t2⟩
            · rw [List.map_append, hk, List.length_append]
              have : i = ws.length := by omega
              rw [List.length_singleton, List.take_add_one, ← this, hi]
              rfl
            · rw [List.map_append]
              exact Rs.append (rs.ext ex) (.cons (q1.ext ex) .nil)
    | gone _ => cases h
    | lst _ _ => cases h
    | dK _ _ _ => cases h
    | dT _ _ _ => cases h
  | _ => cases h
def sParF (k c i : Nat) (fa : AF) (fo : EF) : SF := fun σ M => (eTup fa σ M).go σ fun tt M1 => match tt with
  | .tup [t, u] => (match fo (σ.set k (some t)) M1 with
    | .ok w M2 => (match putFld c i M2 w u with
      | some M3 => some (.nx (σ.set k (some t)), M3)
      | none => none)
    | _ => none)
  | _ => none
theorem ms_parF {c i k : Nat} {f x : Str} {px pf pt pos : Pos} {kt k2 pt2} (hc : Cls X.K (Ω.cls c)) (hn : NoAttr X.K (Ω.cls c) f) (hi : (Ω.fld c)[i]? = some f) (hu : ∀ j < i, (Ω.fld c)[j]? ≠ some f) (hfew : (Ω.fld c).length < 1000) (hcalm : X.calm = true)
    (hN : X.N.Nodup) (hk : X.N[k]? = some x) (hx : Loc X.env.scope x) (ha : MA X Ω W [a, b] fa) (ho : ME X Ω W0 o fo)
    (hs : swapsWithSole [.Tuple [.Name x px, .Attribute o f pf] kt pt] (.Tuple [a, b] k2 pt2) pos.line X.env = pure false := by rfl) (hw : swappedStores [.Tuple [.Name x px, .Attribute o f pf] kt pt] (.Tuple [a, b] k2 pt2) X.env = pure none := by rfl) 
    (hf : X.fn x = true ∨ X.env.scope.names.lookup x = some .local := by first | exact .inl rfl | exact .inr rfl | assumption) :
    MS X Ω W (.Assign [.Tuple [.Name x px, .Attribute o f pf] kt pt] (.Tuple [a, b] k2 pt2) pos) (sParF k c i fa fo) := L2PS.imp (ps_asg (me_tup ha) (pg_tup (n := 2) hcalm (pgs_cons (pg_name hN hk hx hf) (pgs_cons (pg_fld ho) pgs_nil))) hs hw) fun D σ H ⟨Z, ι, M, σT, m, rv, q⟩ => by
  refine ⟨Z, ι, M, σT, m, rv, PostS.go q rv fun ι1 M1 H1 tt v m1 e1 rv1 q1 p1 => ?_⟩
  match tt, v, q1, p1 with
  | .tup [t, u], .ref a0, .tup (vs := [x1, x2]) ht (.cons r1 (.cons r2 .nil)), p1 =>
    refine ⟨a0, [x1, x2], rfl, .of ht, rfl, x1, [x2], rfl, x2, [], rfl, Z, ι1, M1, σT.set k (some t), m1, rv1.set k r1, ?_⟩
    cases zf : fo (σT.set k (some t)) M1 with
    | err => simp only [zf] at p1; exact p1.elim
    | exc _ _ _ => simp only [zf] at p1; exact p1.elim
    | ok w M2 =>
      simp only [zf] at p1
      intro ι2 H2 wv m2 e2 q2
      cases zp : putFld c i M2 w u with
      | none => simp only [zp] at p1; exact p1.elim
      | some M3 =>
        simp only [zp] at p1
        obtain ⟨a1, dx, ws, rfl, ha1, few, m3, e3⟩ := putFld_ok hi hu hfew m2 q2 (r2.ext e2.any) zp
        refine ⟨a1, _, dx, ws, rfl, ha1, hc, hn, few, rfl, ?_⟩
        exact p1 ι2 _ _ m3 (e2.trans (e3 [])) (((rv1.ext e2.any).ext (e3 Z)).set k ((r1.ext e2.any).ext (e3 Z)))
  | .tup [], _, _, p1 => exact p1.elim
  | .tup [_], _, _, p1 => exact p1.elim
  | .tup (_ :: _ :: _ :: _), _, _, p1 => exact p1.elim
  | .non, _, _, p1 => exact p1.elim
  | .bl _, _, _, p1 => exact p1.elim
  | .int _, _, _, p1 => exact p1.elim
  | .str _, _, _, p1 => exact p1.elim
  | .lst _, _, _, p1 => exact p1.elim
  | .dct _ _, _, _, p1 => exact p1.elim
  | .obj _ _, _, _, p1 => exact p1.elim
  | .xob _ _, _, _, p1 => exact p1.elim
  | .klst _, _, _, p1 => exact p1.elim
  | .ktup _, _, _, p1 => exact p1.elim
  | .loc _, _, _, p1 => exact p1.elim
end
end Mi
namespace Mi
open PySem PySem.Spec PyProof.Rows L2
section
variable {K : PySem.W.Frag} {Ω : Om} {X : Cx} {W : WX} {Z ι : List Addr} {M : Mem} {H : Hp} {e e2 o a b c value i : Expr} {st : Stmt} {es : List Expr} {fa ga : AF} {f g fo fi fv : EF} {pos p p2 kpos apos cpos p1 pos' : Pos}
def Res.or {α : Type} (r : Res α) (s : Res α) : Res α := match r with
  | .err => s
  | r => r
def eAlt (f g : EF) : EF := fun σ M => (f σ M).or (g σ M)
theorem L2PE.or {t t' : TE} (h : PE X e t) (h' : PE X e t') : PE X e (fun σ H Q => t σ H Q ∨ t' σ H Q) := ⟨fun pins s σ H Q I q => q.elim (h.run pins s σ H Q I) (h'.run pins s σ H Q I)⟩
theorem L2PT.or {t t' : TT} (h : PT X e t) (h' : PT X e t') : PT X e (fun σ H Q => t σ H Q ∨ t' σ H Q) := ⟨fun pins s σ H Q I q => q.elim (h.run pins s σ H Q I) (h'.run pins s σ H Q I)⟩
theorem L2PS.or {t t' : TS} (h : PS X st t) (h' : PS X st t') : PS X st (fun D σ H => t D σ H ∨ t' D σ H) := ⟨fun pins s σ H Q I q => q.elim (h.run pins s σ H Q I) (h'.run pins s σ H Q I)⟩
theorem me_alt (h : ME X Ω W e f) (h' : ME X Ω W e g) : ME X Ω W e (eAlt f g) := L2PE.imp (L2PE.or h h') fun σ H Q ⟨Z, ι, M, σT, m, rv, p⟩ => by
  unfold eAlt at p
  cases q : f σT M with
  | err => rw [q] at p; exact .inr ⟨Z, ι, M, σT, m, rv, p⟩
  | ok t M1 => rw [q] at p; exact .inl ⟨Z, ι, M, σT, m, rv, by rw [q]; exact p⟩
  | exc c t M1 => rw [q] at p; exact .inl ⟨Z, ι, M, σT, m, rv, by rw [q]; exact p⟩
def idxS (x : List Nat) : List (List Nat) → Option Nat
  | [] => none
  | y :: r => match strEq y x with
    | some true => some 0
    | some false => (idxS x r).map (· + 1)
    | none => none
theorem idxS_ok {x : List Nat} : ∀ {ts : List (List Nat)} {j : Nat}, idxS x ts = some j → (ts.map fun q => toStr (spell Ω.rho q))[j]? = some (toStr (spell Ω.rho x)) ∧ ∀ m, m < j → (ts.map fun q => toStr (spell Ω.rho q))[m]? ≠ some (toStr (spell Ω.rho x))
  | [], _, h => by cases h
  | y :: r, j, h => by
    unfold idxS at h
    have inj : ∀ {a b : List Nat}, toStr a = toStr b → a = b := fun {a b} z => by
      have := toStr_inj (x := a) (y := b)
      rw [z, beq_self_eq_true] at this
      exact of_decide_eq_true this.symm
    cases e : strEq y x with
    | none => rw [e] at h; cases h
    | some b =>
      rw [e] at h
      have hb := strEq_ok (Ω := Ω) e
      cases b with
      | true =>
        cases h
        exact ⟨by rw [List.map_cons, of_decide_eq_true hb]; rfl, fun m hm => absurd hm (Nat.not_lt_zero m)⟩
      | false =>
        cases q : idxS x r with
        | none => rw [q] at h; cases h
        | some k =>
          rw [q] at h
          cases h
          obtain ⟨h1, h2⟩ := idxS_ok q
          refine ⟨h1, fun m hm hd => ?_⟩
          cases m with
          | zero =>
            have hd : some (toStr (spell Ω.rho y)) = some (toStr (spell Ω.rho x)) := hd
            exact of_decide_eq_false hb (inj (Option.some.inj hd))
          | succ m => exact h2 m (Nat.lt_of_succ_lt_succ hm) hd
def tupT : T → Option (List T)
  | .tup xs => some xs
  | .ktup xs => some xs
  | _ => none
theorem tupT_ok {t : T} {v : V} {ts : List T} (r : R K Ω Z ι M H t v) (h : tupT t = some ts) : ∃ a vs, v = .ref a ∧ SqT K H a vs ∧ Rs K Ω Z ι M H ts vs := by
  cases r with
  | tup q rs => cases h; exact ⟨_, _, rfl, .of q, rs⟩
  | ktup q _ rs => cases h; exact ⟨_, _, rfl, q, rs⟩
  | _ => cases h
def mIndexT : OpM := fun M t ts => match tupT t, ts with
  | some xs, [.str x] => (strsT xs).bind fun ys => (idxS x ys).map fun j => (.int (j : Nat), M)
  | _, _ => none
abbrev rTupIx (K : PySem.W.Frag) : V → List V → Hp → VK → Prop := fun x xs H Q => ∃ p, ∃ ys : List Str, ∃ z j, x = .ref p ∧ xs = [.str z] ∧ SqT K H p (ys.map V.str) ∧ ys[j]? = some z ∧ (∀ m, m < j → ys[m]? ≠ some z) ∧ Q (.int (j : Nat)) H
theorem mIndexT_ok : MtS K Ω "tuple" (rTupIx K) mIndexT := fun Z ι M H t ts v vs z M' Q m r rs h k => by
  unfold mIndexT at h
  split at h
  · rename_i xs x hl
    cases e : strsT xs with
    | none => rw [e] at h; cases h
    | some ys =>
      rw [e] at h
      have h : (idxS x ys).map (fun j => (T.int (j : Nat), M)) = some (z, M') := h
      cases e2 : idxS x ys with
      | none => rw [e2] at h; cases h
      | some j =>
        rw [e2] at h
        cases h
        obtain ⟨y, rfl, ry⟩ := rs.one rfl
        obtain ⟨a, ws, rfl, hs, r1⟩ := tupT_ok r hl
        obtain ⟨h1, h2⟩ := idxS_ok (Ω := Ω) e2
        cases ry with
        | str _ s hs' hl' =>
          rw [strsT_ok e r1] at hs
          rw [toStr_of hs']
          exact ⟨a, _, _, j, rfl, rfl, hs, h1, h2, k ι H _ m Ext.refl (.int _)⟩
  · cases h
def eIxK (t : T) (fa : AF) : EF := fun σ M => (fa σ M).bind fun ts M2 => match mIndexT M2 t ts with
  | some (z, M3) => .ok z M3
  | none => .err
theorem me_indexK {t : T} {q : Addr} (ho : PE X o (tC (.ref q))) (hk : ∃ ob, X.K.lookup q = some ob ∧ ob.cls = .type "tuple" ∧ ob.dict = none) (hr : ∀ Z ι M H, R X.K Ω Z ι M H t (.ref q)) (ha : MA X Ω W [e] fa) (hbase : attributeBase o "index" X.env (eval o X.env) = eval o X.env := by rfl)
    (hfew : ((backTo cpos (starEach [e] X.env)).all (fun x => !x.1) && (backToKw cpos (keywordEach [] X.env)).all (fun x => x.1.isSome) && decide ([e].length + ([] : List Keyword).length + (if ([] : List Keyword).isEmpty then 0 else 1) < 30)) = true := by rfl)
    (hline : (apos.endLine == cpos.line) = true := by rfl) (hs : starEach [e] X.env = (false, eval e X.env) :: starEach [] X.env := by rfl) (hplain : (backTo cpos (starEach [] X.env)).any (·.1) = false := by rfl) :
    ME X Ω W (.Call (.Attribute o "index" apos) [e] [] cpos) (eIxK t fa) := L2PE.imp (pe_bm PySem.F.plainAttrs_tuple PySem.F.slot_tuple_index PySem.F.type_tuple_index mt_tup_index ho ha hbase hfew hline hs hplain) fun σ H Q ⟨Z, ι, M, σT, m, rv, p⟩ => by
  refine ⟨.inr (.inl ⟨rfl, hk⟩), Z, ι, M, σT, m, rv, Post.bind p fun ι2 M2 H2 ts vs m2 e2 q2 p2 => ?_⟩
  cases z : mIndexT M2 t ts with
  | none => rw [z] at p2; exact p2.elim
  | some w => rw [z] at p2; exact mIndexT_ok Z ι2 M2 H2 t ts _ vs w.1 w.2 Q m2 (hr Z ι2 M2 H2) q2 z fun ι' H' x m' e' r' => p2 ι' H' x m' e' r'
def eNewD (tk : Bool) : EF := fun _ M => .ok (.loc M.length) (M ++ [.dct tk []])
theorem newObj_of {u : HO} {o : MO} {σT : TV} {σ : L2.St} {Q : VK} (m : RM K Ω Z ι M H) (ro : ∀ ι' M' H' p, H' p = some u → RO K Ω Z ι' M' H' o p) (p : Post K Ω (R K Ω) (fun c d H' => W c d σ H') Z ι M H Q (.ok (.loc M.length) (M ++ [o]))) {d : Addr} (hd : H d = none) : Q (.ref d) (upd H d u) := by
  have e1 : Ext (d :: Z) ι M (upd H d u) (ι ++ [d]) (M ++ [o]) (upd H d u) := Ext.push m.len
  have e2 : Ext [d] ι M (upd H d u) (ι ++ [d]) (M ++ [o]) (upd H d u) := Ext.push m.len
  refine p (ι ++ [d]) _ _ ((m.layH hd).push (m.notZ hd) fun _ => ro _ _ _ _ upd_same) (((Ext.new (Z := [d]) hd).trans e2).drop hd) (.loc ?_)
  rw [← m.len, List.getElem?_append_right (Nat.le_refl _), Nat.sub_self]
  rfl
theorem me_newDK : ME X Ω W (.Dict [] [] pos) (eNewD false) := L2PE.imp pe_dnewK fun σ H Q ⟨Z, ι, M, σT, m, rv, p⟩ d hd => newObj_of (W := W) (σT := σT) (σ := σ) m (fun ι' M' H' q hq => .dK (ws := []) hq .nil .nil) p hd
def sLput (fv fo fi : EF) : SF := fun σ M => (fv σ M).go σ fun v M1 => match (match fo σ M1 with
  | .ok t M2 => (match fi σ M2 with
    | .ok (.int i) M3 => (match locL M3 t with
      | some (n, xs) => (ixN xs.length i).map fun j => M3.set n (.lst (xs.set j v))
      | none => none)
    | _ => none)
  | _ => none : Option Mem) with
  | some M4 => some (.nx σ, M4)
  | none => none
theorem ms_lput (ho : ME X Ω W0 o fo) (hi : ME X Ω W0 i fi) (hv : ME X Ω W value fv) (hs : swapsWithSole [.Subscript o i pos'] value pos.line X.env = pure false := by rfl) (hw : swappedStores [.Subscript o i pos'] value X.env = pure none := by rfl)
    (ha : ∀ v, assign (.Subscript o i pos') X.env v = (do
      let ov ← holding [v] (eval o X.env)
      let iv ← holding [v, ov] (eval i X.env)
      standAt pos'
      holding [v, ov, iv] (setItem ov iv v)
      release [v, ov, iv] []) := by intro _; rfl) : MS X Ω W (.Assign [.Subscript o i pos'] value pos) (sLput fv fo fi) := L2PS.imp (ps_asg hv (pg_sub ho hi set_list ha) hs hw) fun D σ H ⟨Z, ι, M, σT, m0, rv, q⟩ => by
  refine ⟨Z, ι, M, σT, m0, rv, PostS.go q rv fun ι1 M1 H1 v y m1 e1 rv1 q1 p1 => ?_⟩
  refine ⟨Z, ι1, M1, σT, m1, rv1, ?_⟩
  cases z1 : fo σT M1 with
  | err => simp only [z1] at p1; exact p1.elim
  | exc _ _ _ => simp only [z1] at p1; exact p1.elim
  | ok t M2 =>
    simp only [z1] at p1
    intro ι2 H2 tv m2 e2 r2
    refine ⟨Z, ι2, M2, σT, m2, rv1.ext e2.any, ?_⟩
    cases z2 : fi σT M2 with
    | err => simp only [z2] at p1; exact p1.elim
    | exc _ _ _ => simp only [z2] at p1; exact p1.elim
    | ok u M3 =>
      simp only [z2] at p1
      intro ι3 H3 uv m3 e3 r3
      cases u with
      | int i =>
        cases r3
        simp only at p1
        cases z3 : locL M3 t with
        | none => simp only [z3] at p1; exact p1.elim
        | some w =>
          obtain ⟨n, xs⟩ := w
          simp only [z3] at p1
          cases z4 : ixN xs.length i with
          | none => simp only [z4] at p1; exact p1.elim
          | some j =>
            simp only [z4] at p1
            obtain ⟨a, ws, rfl, rfl, hn, hm, ha2, rx⟩ := locL_ok m3 (r2.ext (Z := Z) e3.any) z3
            have ry := (q1.ext (Z := Z) e2.any).ext (Z := Z) e3.any
            obtain ⟨m4, e4⟩ := put_list m3 hn hm ha2 (Rs.setI ry j rx)
            refine ⟨a, ws, i, j, rfl, rfl, ha2, by rw [← rx.length]; exact z4, ?_⟩
            exact p1 ι3 σ _ m4 ((e2.trans e3).trans (e4 [])) (((rv1.ext e2.any).ext e3.any).ext (e4 Z))
      | _ => exact p1.elim
def rgL1 (ts : List T) : Option (List T) := match ts with
  | [.int j] => bif decide (0 ≤ j) && decide (j ≤ 1000000) then some (rngT 0 j.toNat) else none
  | _ => none
theorem rs_rng {n : Nat} : ∀ lo : Int, Rs K Ω Z ι M H (rngT lo n) ((List.range n).map fun i => V.int (lo + (i : Nat))) := fun lo => by
  unfold rngT
  generalize List.range n = l
  induction l with
  | nil => exact .nil
  | cons a l ih => exact .cons (.int _) ih
def eLrg (f : EF) : AF := fun σ M => (f σ M).bind fun t M1 => .of (rgL1 [t]) M1
theorem ml_range1 (hc : X.calm = true) (hg : Gl X "list") (hm : X.mg "list" = none) (hg2 : Gl X "range") (hm2 : X.mg "range" = none) (ha : ME X Ω W a f) (na : starEach [a] X.env = (false, eval a X.env) :: starEach [] X.env := by rfl)
    (na2 : starEach [Expr.Call (.Name "range" p2) [a] [] p1] X.env = (false, eval (Expr.Call (.Name "range" p2) [a] [] p1) X.env) :: starEach [] X.env := by rfl) :
    ML X Ω W (.Call (.Name "list" p) [.Call (.Name "range" p2) [a] [] p1] [] pos) (eLrg f) := L2PE.imp (pe_listRg hc hg hm (prg_1 hg2 hm2 ha na) na2) fun σ H Q ⟨Z, ι, M, σT, m, rv, q⟩ => by
  refine ⟨Z, ι, M, σT, m, rv, ?_⟩
  unfold eLrg at q
  cases z : f σT M with
  | err => rw [z] at q; exact q.elim
  | exc c t M1 => rw [z] at q; exact q
  | ok t M1 =>
    rw [z] at q
    intro ι1 H1 v m1 e1 r1
    cases y : rgL1 [t] with
    | none => simp only [Res.bind, y] at q; exact q.elim
    | some zs =>
      simp only [Res.bind, y] at q
      unfold rgL1 at y
      split at y
      · rename_i t' j e
        cases e
        cases r1
        cases w : decide (0 ≤ j) && decide (j ≤ 1000000) with
        | false => rw [w] at y; cases y
        | true =>
          rw [w] at y
          cases y
          rw [Bool.and_eq_true, decide_eq_true_eq, decide_eq_true_eq] at w
          refine ⟨j, rfl, .of_le (Int.le_refl 0) (by omega) (by omega) w.1, fun d hd => laid_of (σ := σ) m1 e1 q hd ?_⟩
          have := rs_rng (K := X.K) (Ω := Ω) (Z := Z) (ι := ι1) (M := M1) (H := H1) (n := j.toNat) 0
          unfold rgV
          rw [Int.sub_zero]
          exact this
      · cases y
end
end Mi
namespace Mi
open PySem PySem.Spec PyProof.Rows L2
def compD (p : PF) (c : TF) (fk f : EF) (σ : TV) : List T → List (T × T) → Mem → Res (List (T × T))
  | [], acc, M => .ok acc M
  | t :: ts, acc, M => match p t σ M with
    | none => .err
    | some σ1 => match c σ1 M with
      | .ok true M1 => (match fk σ1 M1 with
        | .ok k M2 => (match f σ1 M2 with
          | .ok u M3 => (match dPut false acc k u with
            | some acc' => compD p c fk f σ ts acc' M3
            | none => .err)
          | _ => .err)
        | _ => .err)
      | .ok false M1 => compD p c fk f σ ts acc M1
      | _ => .err
def eDc (own : List Nat) (p : PF) (it : AF) (c : TF) (fk f : EF) : EF := fun σ M => (it σ M).bind fun ts M1 => match compD p c fk f (wipeT σ own) ts [] M1 with
  | .ok kvs M2 => .ok (.dct false kvs) M2
  | _ => .err
section
variable {X : Cx} {Ω : Om} {W : WX} {kx vx iter tg : Expr} {fk f : EF} {c : TF} {it : AF} {pos : Pos} {ifs : List Expr} {scope : Scope} {own : List (Str × Nat)} {gt : TG} {pf : PF} {vs : List Nat}
theorem me_dc (hc : X.calm = true) (hN : X.N.Nodup) (hi : MI X Ω W tg iter it) (ok : BlkOk X.N X.env.scope scope own) (hp : PatS X.K Ω gt pf vs) (hv : ∀ i ∈ vs, i ∈ own.map (·.2))
    (hg : ∀ (s : Shared) (H : Hp) (C : Addr) (cl : List (Str × Addr)) (fp : List Addr), PG (X.blk s H scope (compEnvC scope cl C X.env) fp) tg gt)
    (ht : ∀ (s : Shared) (H : Hp) (C : Addr) (cl : List (Str × Addr)) (fp : List Addr), MTs (X.blk s H scope (compEnvC scope cl C X.env) fp) Ω W0 ifs c)
    (hk : ∀ (s : Shared) (H : Hp) (C : Addr) (cl : List (Str × Addr)) (fp : List Addr), ME (X.blk s H scope (compEnvC scope cl C X.env) fp) Ω W0 kx fk)
    (he : ∀ (s : Shared) (H : Hp) (C : Addr) (cl : List (Str × Addr)) (fp : List Addr), ME (X.blk s H scope (compEnvC scope cl C X.env) fp) Ω W0 vx f) (hs : ∀ x, foldedSetIterable iter X.env x = pure x := by intro _; rfl) :
    ME X Ω W (.DictComp kx vx [⟨tg, iter, ifs, 0⟩] scope pos) (eDc (own.map (·.2)) pf it c fk f) := L2PE.imp (pe_dc (tt := liftT X.K Ω W0 c) (tk := liftE X.K Ω W0 fk) (tv := liftE X.K Ω W0 f) hc hN hi ok hg ht hk he hs) fun σ H Q ⟨Z, ι, M, σT, m, rv, p⟩ => by
  refine ⟨Z, ι, M, σT, m, rv, ?_⟩
  unfold eDc at p
  cases q0 : it σT M with
  | exc c t M1 => rw [q0] at p; exact p
  | err => rw [q0] at p; exact p
  | ok ts M1 =>
    rw [q0] at p
    intro ι1 H1 J m1 e1 q1 D nD
    have p : Post X.K Ω (R X.K Ω) (fun c d H' => W c d σ H') Z ι M H Q (match compD pf c fk f (wipeT σT (own.map (·.2))) ts [] M1 with
      | .ok kvs M2 => .ok (.dct false kvs) M2
      | _ => .err) := p
    have dZ : D ∉ Z := m1.notZ nD
    have rv1 : RV X.K Ω Z ι1 M1 H1 σT σ := rv.ext e1.any
    refine ⟨fun i n H => n = ts.length - i ∧ i ≤ ts.length ∧ ∃ ι2 M2 acc ws, RM X.K Ω (D :: Z) ι2 M2 H ∧ Ext [D] ι1 M1 H1 ι2 M2 H ∧ H D = some (.dK ws) ∧ RKs Ω (acc.map (·.1)) (ws.map (·.1)) ∧ Rs X.K Ω (D :: Z) ι2 M2 H (acc.map (·.2)) (ws.map (·.2)) ∧ (match compD pf c fk f (wipeT σT (own.map (·.2))) (ts.drop i) acc M2 with
      | .ok kvs M' => ∀ ι' H' v, RM X.K Ω Z ι' M' H' → Ext [] ι1 M1 H1 ι' M' H' → R X.K Ω Z ι' M' H' (.dct false kvs) v → Q v H'
      | _ => False), ⟨ts.length, by omega, Nat.zero_le _, ι1, M1, [], [], m1.layH nD, Ext.new nD, upd_same, .nil, .nil, ?_⟩, ?_⟩
    · generalize hr : compD pf c fk f (wipeT σT (own.map (·.2))) ts [] M1 = r at p
      rw [show ts.drop 0 = ts from rfl, hr]
      match r, p with
      | .ok kvs M', p => exact fun ι' H' v mm ex r => p ι' H' v mm (e1.trans ex) r
      | .exc _ _ _, p => exact p.elim
      | .err, p => exact p.elim
    · rintro i n H3 ⟨rfl, hi3, ι2, M2, acc, ws, m2, ex2, hD2, rk2, rs2, p2⟩
      obtain ⟨stop, go⟩ := q1 (D :: Z) ι2 M2 H3 m2 (ex2.to fun z h => by simp at h; simp [h]) fun z h => (List.mem_cons.mp h).elim (fun e => .inr (by rw [e]; exact nD)) .inl
      by_cases hlt : i < ts.length
      · have hd : ts.drop i = ts[i] :: ts.drop (i + 1) := List.drop_eq_getElem_cons hlt
        rw [hd] at p2
        obtain ⟨g1, y1⟩ := go i ts[i] (List.getElem?_eq_getElem hlt)
        refine .inr ⟨g1, fun H' => i + 1 ≤ ts.length ∧ ∃ ι2 M2 acc ws, RM X.K Ω (D :: Z) ι2 M2 H' ∧ Ext [D] ι1 M1 H1 ι2 M2 H' ∧ H' D = some (.dK ws) ∧ RKs Ω (acc.map (·.1)) (ws.map (·.1)) ∧ Rs X.K Ω (D :: Z) ι2 M2 H' (acc.map (·.2)) (ws.map (·.2)) ∧ (match compD pf c fk f (wipeT σT (own.map (·.2))) (ts.drop (i + 1)) acc M2 with
          | .ok kvs M' => ∀ ι' H' v, RM X.K Ω Z ι' M' H' → Ext [] ι1 M1 H1 ι' M' H' → R X.K Ω Z ι' M' H' (.dct false kvs) v → Q v H'
          | _ => False), fun H' ⟨a, h⟩ => ⟨ts.length - (i + 1), by omega, rfl, a, h⟩, fun x H4 y => ?_⟩
        obtain ⟨m4, e4, r4⟩ := y1 x H4 y
        have ex4 : Ext [D] ι1 M1 H1 ι2 M2 H4 := ex2.trans e4.any
        have hD4 : H4 D = some (.dK ws) := (e4.froz D _ hD2 ⟨(m2.zin D (by simp)).2, by simp⟩).1
        have rv4 : RV X.K Ω (D :: Z) ι2 M2 H4 (wipeT σT (own.map (·.2))) (wipe σ (own.map (·.2))) := by
          have h1 : RV X.K Ω (D :: Z) ι1 M1 H1 σT σ := rv1.hide nD
          exact (h1.ext (ex4.to fun z h => by simp at h; simp [h])).wipe _
        unfold compD at p2
        cases zp : pf ts[i] (wipeT σT (own.map (·.2))) M2 with
        | none => rw [zp] at p2; exact p2.elim
        | some σ1 =>
          rw [zp] at p2
          refine hp (D :: Z) ι2 M2 H4 _ _ ts[i] x σ1 _ m4 rv4 r4 zp fun σ5 rv5 w5 => ⟨(w5 _ hv).trans wipe_wipe, D :: Z, ι2, M2, σ1, m4, rv5, ?_⟩
          dsimp only at p2
          cases zc : c σ1 M2 with
          | err => rw [zc] at p2; exact p2.elim
          | exc _ _ _ => rw [zc] at p2; exact p2.elim
          | ok k M5 =>
            rw [zc] at p2
            intro ι5 H5 b m5 e5 hb
            cases hb
            have ex5 : Ext [D] ι1 M1 H1 ι5 M5 H5 := ex4.trans e5.any
            have hD5 : H5 D = some (.dK ws) := (e5.froz D _ hD4 ⟨(m4.zin D (by simp)).2, by simp⟩).1
            have rs5 : Rs X.K Ω (D :: Z) ι5 M5 H5 (acc.map (·.2)) (ws.map (·.2)) := (rs2.ext e4.any).ext e5.any
            cases k with
            | false =>
              rw [if_neg Bool.false_ne_true]
              exact ⟨hlt, ι5, M5, acc, ws, m5, ex5, hD5, rk2, rs5, p2⟩
            | true =>
              rw [if_pos rfl]
              refine ⟨D :: Z, ι5, M5, σ1, m5, rv5.ext e5.any, ?_⟩
              dsimp only at p2
              cases zk : fk σ1 M5 with
              | err => rw [zk] at p2; exact p2.elim
              | exc _ _ _ => rw [zk] at p2; exact p2.elim
              | ok tk M6 =>
                rw [zk] at p2
                intro ι6 H6 v6 m6 e6 r6
                have hD6 : H6 D = some (.dK ws) := (e6.froz D _ hD5 ⟨(m5.zin D (by simp)).2, by simp⟩).1
                have rs6 : Rs X.K Ω (D :: Z) ι6 M6 H6 (acc.map (·.2)) (ws.map (·.2)) := rs5.ext e6.any
                refine ⟨D :: Z, ι6, M6, σ1, m6, (rv5.ext e5.any).ext e6.any, ?_⟩
                dsimp only at p2
                cases zf : f σ1 M6 with
                | err => rw [zf] at p2; exact p2.elim
                | exc _ _ _ => rw [zf] at p2; exact p2.elim
                | ok u M7 =>
                  rw [zf] at p2
                  intro ι7 H7 v7 m7 e7 r7
                  have hD7 : H7 D = some (.dK ws) := (e7.froz D _ hD6 ⟨(m6.zin D (by simp)).2, by simp⟩).1
                  have rs7 : Rs X.K Ω (D :: Z) ι7 M7 H7 (acc.map (·.2)) (ws.map (·.2)) := rs6.ext e7.any
                  dsimp only at p2
                  cases zd : dPut false acc tk u with
                  | none => rw [zd] at p2; exact p2.elim
                  | some acc' =>
                    rw [zd] at p2
                    unfold dPut at zd
                    cases hk : isKey false tk && big (acc.length + 1) with
                    | false => rw [hk] at zd; cases zd
                    | true =>
                      rw [hk] at zd
                      rw [Bool.and_eq_true] at hk
                      obtain ⟨kk, rkk, rfl⟩ := rk_of r6 hk.1
                      have et : ∀ Z' o, Ext (D :: Z') ι7 M7 H7 ι7 M7 (upd H7 D o) := fun Z' o => Ext.turn hD7 (by intro xs h; cases h) (by intro x y h; cases h)
                      have lw : acc.length = ws.length := by have := rs7.length; simpa using this
                      have hbig := of_decide_eq_true hk.2
                      dsimp only [cond_true] at zd
                      cases hh : hits false tk acc with
                      | none => rw [hh] at zd; cases zd
                      | some bs =>
                        rw [hh] at zd
                        obtain ⟨k1, k2⟩ := put_K rk2 rs7 rkk r7 hh (Option.some.inj (show some _ = some acc' from zd)).symm
                        refine ⟨ws, kk, rfl, hD7, ?_, hlt, ι7, M7, acc', putK ws kk v7, m7.turn hD7 (by intro xs h; cases h) (by intro x y h; cases h), ((ex5.trans e6.any).trans e7.any).trans (et [] _), upd_same, k1, k2.ext (et Z _), p2⟩
                        rw [← lw, sizeLine_eq]
                        omega
      · have e : i = ts.length := by omega
        subst e
        rw [List.drop_length] at p2
        have hs2 : ∀ z ∈ Z, z ∈ D :: Z := fun z q => List.mem_cons_of_mem _ q
        exact .inl ⟨stop, p2 ι2 H3 _ (m2.sub hs2) (ex2.drop nD) (.dK (.inl hD2) ⟨(m2.zin D (by simp)).2, dZ⟩ rk2 (rs2.sub hs2))⟩
end
end Mi
namespace Mi
open PySem PySem.Spec PyProof.Rows L2
section
variable {fa : List He.Fa} {fn : List DefM} {ck : List Ck} {K : PySem.W.Frag}
theorem SaysM.all (c : SaysM fa fn ck K) : ((fa.all fun f => f.ok K) && (fn.all fun d => d.ok K) && ck.all fun c => c K) = true := congrArg (fun z : AlM => z.1) c
theorem SaysM.fact (c : SaysM fa fn ck K) (i : Nat) {f : He.Fa} (h : fa[i]? = some f := by rfl) : f.ok K = true := List.all_eq_true.mp (He.ba (He.ba c.all).1).1 f (List.mem_of_getElem? h)
theorem SaysM.chk (c : SaysM fa fn ck K) (i : Nat) {f : Ck} (h : ck[i]? = some f := by rfl) : f K = true := List.all_eq_true.mp (He.ba c.all).2 f (List.mem_of_getElem? h)
theorem SaysM.def_ (c : SaysM fa fn ck K) (i : Nat) {d : DefM} (h : fn[i]? = some d := by rfl) : ∃ fd, FunD K d.name d.qual d.params d.body d.scope (d.dfl.map (He.Dv.v K)) [] (d.adr K) fd := by
  have e : fn.map (fun d => fnWM K (d.adr K)) = fn.map DefM.val := congrArg (fun z : AlM => z.2) c
  have e2 : (fn.map fun d => fnWM K (d.adr K))[i]? = (fn.map DefM.val)[i]? := congrArg (fun z => z[i]?) e
  rw [List.getElem?_map, List.getElem?_map, h] at e2
  exact DefM.funD (Option.some.inj e2) (List.all_eq_true.mp (He.ba (He.ba c.all).1).2 d (List.mem_of_getElem? h))
end
structure Gf (fa : List He.Fa) (fn : List DefM) (ck : List Ck) (K : PySem.W.Frag) (mg : Str → Option Value) : Prop where
  ex : ∃ h : Heap, K.In h ∧ h.Ns mainGlobals mg ∧ SaysM fa fn ck K
section
variable {fa : List He.Fa} {fn : List DefM} {ck : List Ck} {K : PySem.W.Frag} {mg : Str → Option Value}
theorem Gf.says (g : Gf fa fn ck K mg) : SaysM fa fn ck K := let ⟨_, _, _, c⟩ := g.ex; c
theorem Gf.free (g : Gf fa fn ck K mg) (i : Nat) {x : Str} (h : fa[i]? = some (.free x) := by rfl) : mg x = none := let ⟨_, X, G, c⟩ := g.ex; He.free_ok X G (c.fact i h)
theorem Gf.glo (g : Gf fa fn ck K mg) (i : Nat) {x : Str} (h : fa[i]? = some (.glo x) := by rfl) : mg x = some (.ref (He.ga K x)) := let ⟨_, X, G, c⟩ := g.ex; He.glo_ok X G (c.fact i h)
theorem Gf.int (g : Gf fa fn ck K mg) (i : Nat) {x : Str} {n : Int} (h : fa[i]? = some (.int x n) := by rfl) : ∃ t, mg x = some (.int n t) := let ⟨_, X, G, c⟩ := g.ex; He.int_ok X G (c.fact i h)
theorem Gf.str (g : Gf fa fn ck K mg) (i : Nat) {x z : Str} (h : fa[i]? = some (.str x z) := by rfl) : ∃ t, mg x = some (.str z t) := let ⟨_, X, G, c⟩ := g.ex; He.str_ok X G (c.fact i h)
theorem Gf.cls (g : Gf fa fn ck K mg) (i : Nat) {x : Str} (h : fa[i]? = some (.cls x) := by rfl) : Cls K (He.ga K x) := He.cls_ok (g.says.fact i h)
theorem Gf.noat (g : Gf fa fn ck K mg) (i : Nat) {x f : Str} (h : fa[i]? = some (.noat x f) := by rfl) : NoAttr K (He.ga K x) f := He.noat_ok (g.says.fact i h)
theorem Gf.meth (g : Gf fa fn ck K mg) (i : Nat) {x m : Str} (h : fa[i]? = some (.meth x m) := by rfl) : Meth K (He.ga K x) m (He.ma K (He.ga K x) m) := He.meth_ok (g.says.fact i h)
theorem Gf.mkr (g : Gf fa fn ck K mg) (i : Nat) {x : Str} (h : fa[i]? = some (.mkr x) := by rfl) : Mk K (He.ga K x) (He.ma K (He.ga K x) "__init__") := He.mkr_ok (g.says.fact i h)
theorem Gf.def_ (g : Gf fa fn ck K mg) (i : Nat) {d : DefM} (h : fn[i]? = some d := by rfl) : ∃ fd, FunD K d.name d.qual d.params d.body d.scope (d.dfl.map (He.Dv.v K)) [] (d.adr K) fd := g.says.def_ i h
theorem Gf.eInt {X : Cx} (g : Gf fa fn ck X.K X.mg) (i : Nat) {x : Str} {n : Int} {Ω : Om} {W : WX} {pos : Pos} (hg : Gl X x) (h : fa[i]? = some (.int x n) := by rfl) (hd : (x == ("__debug__" : Str)) = false := by decide) : ME X Ω W (.Name x pos) (eC (.int n)) := by
  obtain ⟨t, e⟩ := g.int i h
  exact me_c (pe_glob (v := .int n) hg e ⟨t, rfl⟩ hd) fun _ _ _ _ => .int n
theorem Gf.eStr {X : Cx} (g : Gf fa fn ck X.K X.mg) (i : Nat) {x z : Str} {y : List Nat} {Ω : Om} {W : WX} {pos : Pos} (hg : Gl X x) (h : fa[i]? = some (.str x z) := by rfl) (hz : z.cps.toList = y := by rfl) (hf : (y.all (fun c => decide (c < symB)) && decide (y.length ≤ 2000000)) = true := by decide) (hd : (x == ("__debug__" : Str)) = false := by decide) : ME X Ω W (.Name x pos) (eC (.str y)) := by
  obtain ⟨t, e⟩ := g.str i h
  rw [Bool.and_eq_true, decide_eq_true_eq] at hf
  exact me_c (pe_glob (v := .str z) hg e ⟨t, rfl⟩ hd) fun _ _ _ _ => .str y z (by rw [spell_flat hf.1]; exact hz) hf.2
theorem Gf.eTupS {X : Cx} (g : Gf fa fn ck X.K X.mg) (i j : Nat) {x : Str} {zs : List Str} {ys : List (List Nat)} {Ω : Om} {pos : Pos} (hg : Gl X x) (h : fa[i]? = some (.glo x) := by rfl) (hc : ck[j]? = some (ckTup x zs) := by rfl) (hz : (zs.map fun z => z.cps.toList) = ys := by rfl)
    (hf : (ys.all fun y => (y.all (fun c => decide (c < symB)) && decide (y.length ≤ 2000000))) = true := by decide) (hd : (x == ("__debug__" : Str)) = false := by decide) :
    PE X (.Name x pos) (tC (.ref (He.ga X.K x))) ∧ (∃ ob, X.K.lookup (He.ga X.K x) = some ob ∧ ob.cls = .type "tuple" ∧ ob.dict = none) ∧ ∀ Z ι M H, R X.K Ω Z ι M H (.ktup (ys.map .str)) (.ref (He.ga X.K x)) := by
  have h1 := g.says.chk j hc
  obtain ⟨h2, h3⟩ := He.ba (show (He.tupB X.K x (zs.map He.Dv.str) && (match X.K.lookup (He.ga X.K x) with
    | some ⟨.type c, none, _, _⟩ => decide (c = "tuple")
    | _ => false)) = true from h1)
  have hob : ∃ ob, X.K.lookup (He.ga X.K x) = some ob ∧ ob.cls = .type "tuple" ∧ ob.dict = none := by
    cases e : X.K.lookup (He.ga X.K x) with
    | none => rw [e] at h3; cases h3
    | some ob =>
      obtain ⟨oc, od, dt, sl⟩ := ob
      rw [e] at h3
      cases oc with
      | type c =>
        cases od with
        | none => exact ⟨_, rfl, by show Value.type c = _; rw [of_decide_eq_true h3], rfl⟩
        | some _ => cases h3
      | _ => cases od <;> cases h3
  refine ⟨pe_glob (v := .ref (He.ga X.K x)) hg (g.glo i h) rfl hd, hob, fun Z ι M H => .ktup (He.tupB_ok h2 H) (.inr hob) ?_⟩
  · subst hz
    clear h1 h2 h3 hc
    induction zs with
    | nil => exact .nil
    | cons z zs ih =>
      rw [List.map_cons, List.all_cons, Bool.and_eq_true, Bool.and_eq_true, decide_eq_true_eq] at hf
      exact .cons (.str _ z (by rw [spell_flat hf.1.1]) hf.1.2) (ih hf.2)
variable {P : Program} {w : World} {base : Heap} {Ω : Om} {k : Nat} {N ps : List Str} {b : SF}
abbrev BndL (K : PySem.W.Frag) (fd : FuncData) (ps : List Str) (Ω : Om) (dts : List T) : Prop := ∀ j ≤ dts.length, ∃ (ds : List Value) (dvs : List V), Binds K fd ps ds ∧ Vals dvs ds ∧ ∀ Z ι M H, Rs K Ω Z ι M H (dts.drop j) dvs
theorem fnOk_of {x qual : Str} {params : Arguments} {body : List Stmt} {scope : Scope} {dvs : List V} {kws : List (Str × V)} {f : Addr} {fd : FuncData} (F : FunD K x qual params body scope dvs kws f fd) (S : FnScope N ps scope) (hb : BodyS P w K mg base Ω k N scope body b) : FnOk P w K mg base (L2.CX P w) (k + 1) f fd ps (spF K Ω ps.length (runB N.length b)) :=
  F.ok S (fun vs H Q E ⟨Z, ι, M, ts, m, rs, hl, _⟩ => by rw [← rs.length]; exact hl) fun cdv A outer s H vs Q E hr h => body_ok (k := 0) (hb qual f cdv A outer s H E hr) h
theorem bndN {x qual : Str} {params : Arguments} {body : List Stmt} {scope : Scope} {f : Addr} {fd : FuncData} (F : FunD K x qual params body scope [] [] f fd)
    (h : ∀ (kV doc pm : Value) (an : Option Addr) (cdv ct : Value) (us : List Value), us.length = ps.length → bindArgs (PySem.W.fnOf x qual params body scope .none kV doc pm an cdv ct) ⟨us, []⟩ = pure (ps.zip us)) : BndL K fd ps Ω [] := fun j _ => ⟨[], [], F.bindsN h, .nil, fun _ _ _ _ => by rw [List.drop_nil]; exact .nil⟩
theorem Gf.prop (g : Gf fa fn ck K mg) (i : Nat) {x m : Str} (h : ck[i]? = some (ckProp x m) := by rfl) : PropOf K (He.ga K x) m (pAd K (He.ga K x) m) (gAd K (He.ga K x) m) := by
  have h1 := g.says.chk i h
  unfold ckProp at h1
  obtain ⟨h1, h2⟩ := He.ba h1
  obtain ⟨h2, h3⟩ := He.ba h2
  obtain ⟨h3, h4⟩ := He.ba h3
  refine ⟨He.eqO_ok h1, He.eqO_ok h2, of_decide_eq_true h3, ?_⟩
  cases e : PySem.W.recIn K (pAd K (He.ga K x) m) "property" with
  | none => rw [e] at h4; cases h4
  | some l =>
    rw [e] at h4
    cases l with
    | nil => cases h4
    | cons v r =>
      cases v with
      | ref a => exact ⟨r, by rw [of_decide_eq_true h4]⟩
      | _ => cases h4
end
end Mi
namespace Mi
open PySem PySem.Spec PyProof.Rows L2
section
variable {X : Cx} {Ω : Om} {W : WX} {elt iter tg : Expr} {f : EF} {fa : AF} {c : TF} {it : AF} {pos spos py : Pos} {ifs : List Expr} {scope : Scope} {own : List (Str × Nat)} {gt : TG} {pf : PF} {vs : List Nat} {i : Nat} {y : Str}
theorem takes0 : Takes X W0 := fun _ _ ⟨_, _, _, _, _, _, _, _, _, _, _, _, _, _, _, _, h⟩ => h.elim
theorem set_of {g : EF} {D : L2.Ends} {σ : L2.St} {H : Hp} (q : liftS X.K Ω W (sSet i g) D σ H) : liftE X.K Ω W g σ H fun x H1 => D.nx (σ.set i (some x)) H1 := by
  obtain ⟨Z, ι, M, σT, m, rv, p⟩ := q
  exact ⟨Z, ι, M, σT, m, rv, PostS.go p rv fun ι1 M1 H1 t v m1 e1 rv1 q1 p1 => p1.nx m1 (rv1.set i q1)⟩
theorem ms_lcM (hc : X.calm = true) (hN : X.N.Nodup) (hy : X.N[i]? = some y) (hyl : X.env.scope.names.lookup y = some .local) (hi : MI X Ω W tg iter it) (ok : BlkOk X.N X.env.scope scope own) (hp : PatS X.K Ω gt pf vs) (hv : ∀ i ∈ vs, i ∈ own.map (·.2))
    (hg : ∀ (s : Shared) (H : Hp) (C : Addr) (cl : List (Str × Addr)) (fp : List Addr), PG (X.blk s H scope (compEnvC scope cl C X.env) fp) tg gt)
    (ht : ∀ (s : Shared) (H : Hp) (C : Addr) (cl : List (Str × Addr)) (fp : List Addr), MTs (X.blk s H scope (compEnvC scope cl C X.env) fp) Ω W0 ifs c)
    (he : ∀ (s : Shared) (H : Hp) (C : Addr) (cl : List (Str × Addr)) (fp : List Addr), ME (X.blk s H scope (compEnvC scope cl C X.env) fp) Ω W0 elt f)
    (hsw : swapsWith (.ListComp elt [⟨tg, iter, ifs, 0⟩] scope pos) (some (.Name y py)) spos.line X.env = pure true := by rfl) (hs : ∀ x, foldedSetIterable iter X.env x = pure x := by intro _; rfl) :
    MS X Ω W (.Assign [.Name y py] (.ListComp elt [⟨tg, iter, ifs, 0⟩] scope pos) spos) (sSet i (eNewL (eLc (own.map (·.2)) pf it c f))) :=
  L2PS.imp (ps_setLc (tt := liftT X.K Ω W0 c) (te := liftE X.K Ω W0 f) hc hN hy hyl hsw hi ok hg ht he hs) fun D σ H q => lc_of hp hv (newL_of (set_of q))
end
end Mi
namespace Mi
open PySem PySem.Spec PyProof.Rows L2
def lstAt (M : Mem) (n : Nat) : Option (List T) := match M[n]? with
  | some (.lst ts) => some ts
  | _ => none
def RIL (K : PySem.W.Frag) (Ω : Om) : Rel Nat It := fun Z ι M H n J => ∀ Z' ι' M' H', RM K Ω Z' ι' M' H' → Ext Z' ι M H ι' M' H' → ∀ ts, lstAt M' n = some ts → ∀ i : Nat, (ts.length ≤ i → J.stop i H') ∧ ∀ t, ts[i]? = some t → J.go i H' ∧ ∀ x H2, J.yld i H' x H2 → H2 = H' ∧ R K Ω Z' ι' M' H' t x
abbrev MIL (X : Cx) (Ω : Om) (W : WX) (tg it : Expr) (f : TV → Mem → Res Nat) : Prop := PI X tg it (lift X.K Ω (RIL X.K Ω) W f)
section
variable {X : Cx} {Ω : Om} {W : WX} {e tg : Expr} {f : EF}
def iLoc (f : EF) : TV → Mem → Res Nat := fun σ M => (f σ M).bind fun t M1 => match t with
  | .loc n => (match lstAt M1 n with
    | some _ => .ok n M1
    | none => .err)
  | _ => .err
theorem lstAt_ok {K : PySem.W.Frag} {Z ι : List Addr} {M : Mem} {H : Hp} {n : Nat} {a : Addr} {ts : List T} (m : RM K Ω Z ι M H) (hn : ι[n]? = some a) (h : lstAt M n = some ts) : ∃ vs, H a = some (.lst vs) ∧ Rs K Ω Z ι M H ts vs := by
  obtain ⟨o, e, ro⟩ := m.at hn
  unfold lstAt at h
  rw [e] at h
  cases ro with
  | lst hl rs => cases h; exact ⟨_, hl, rs⟩
  | gone _ => cases h
  | obj _ _ _ => cases h
  | dK _ _ _ => cases h
  | dT _ _ _ => cases h
theorem mil_loc (he : ME X Ω W e f) : MIL X Ω W tg e (iLoc f) := L2PI.imp (pi_list he) fun σ H Q ⟨Z, ι, M, σT, m, rv, p⟩ => ⟨Z, ι, M, σT, m, rv, Post.bind p fun ι1 M1 H1 t v m1 e1 q1 p1 => by
  cases t with
  | loc n =>
    cases q1 with
    | loc hn =>
      rename_i a
      have p1 : Post X.K Ω (RIL X.K Ω) (fun c d H' => W c d σ H') Z ι1 M1 H1 Q (match lstAt M1 n with
        | some _ => .ok n M1
        | none => .err) := p1
      cases z : lstAt M1 n with
      | none => rw [z] at p1; exact p1.elim
      | some ts =>
        rw [z] at p1
        obtain ⟨vs, hl, rs⟩ := lstAt_ok m1 hn z
        refine ⟨a, rfl, ⟨vs, .inl (.inl hl)⟩, p1.pure m1 fun Z' ι' M' H' m' e' ts' hs i => ?_⟩
        have hn' : ι'[n]? = some a := by
          obtain ⟨more, hm⟩ := e'.pre
          rw [hm, List.getElem?_append_left (List.getElem?_eq_some_iff.mp hn).1]
          exact hn
        obtain ⟨ws, hw, rw'⟩ := lstAt_ok m' hn' hs
        refine ⟨fun hl => ⟨ws, .inl (.inl hw), by rw [← rw'.length]; exact hl⟩, fun t ht => ?_⟩
        obtain ⟨v, hv, rv'⟩ := rw'.get ht
        refine ⟨⟨ws, v, .inl (.inl hw), hv⟩, fun x H2 y => ?_⟩
        obtain ⟨e1, y⟩ := y
        have := y ws (.inl (.inl hw))
        rw [hv] at this
        cases this
        exact ⟨e1, e1 ▸ rv'⟩
  | _ => exact p1.elim⟩
end
def compLL (p : PF) (c : TF) (f : EF) (σ : TV) (n : Nat) : Nat → Nat → List T → Mem → Res (List T)
  | 0, _, _, _ => .err
  | k + 1, i, acc, M => match lstAt M n with
    | none => .err
    | some ts => match ts[i]? with
      | none => .ok acc M
      | some t => match p t σ M with
        | none => .err
        | some σ1 => match c σ1 M with
          | .ok true M1 => (match f σ1 M1 with
            | .ok u M2 => compLL p c f σ n k (i + 1) (acc ++ [u]) M2
            | _ => .err)
          | .ok false M1 => compLL p c f σ n k (i + 1) acc M1
          | _ => .err
def eLcL (fuel : Nat) (own : List Nat) (p : PF) (it : TV → Mem → Res Nat) (c : TF) (f : EF) : AF := fun σ M => (it σ M).bind fun n M1 => compLL p c f (wipeT σ own) n fuel 0 [] M1
section
variable {X : Cx} {Ω : Om} {W : WX} {elt iter tg : Expr} {f : EF} {c : TF} {it : TV → Mem → Res Nat} {pos : Pos} {ifs : List Expr} {scope : Scope} {own : List (Str × Nat)} {gt : TG} {pf : PF} {vs : List Nat}
theorem lcl_of {K : PySem.W.Frag} {σ : L2.St} {H : Hp} {Q : VK} (fuel : Nat) (hfu : fuel ≤ 2000000) (hp : PatS K Ω gt pf vs) (hv : ∀ i ∈ vs, i ∈ own.map (·.2)) (q : MLr K Ω W (eLcL fuel (own.map (·.2)) pf it c f) σ H Q) : tLc (lift K Ω (RIL K Ω) W it) gt (liftT K Ω W0 c) (liftE K Ω W0 f) (own.map (·.2)) σ H Q := by
  obtain ⟨Z, ι, M, σT, m, rv, p⟩ := q
  refine ⟨Z, ι, M, σT, m, rv, ?_⟩
  unfold eLcL at p
  cases q0 : it σT M with
  | exc c t M1 => rw [q0] at p; exact p
  | err => rw [q0] at p; exact p
  | ok n M1 =>
    rw [q0] at p
    intro ι1 H1 J m1 e1 q1 D nD
    have p : match compLL pf c f (wipeT σT (own.map (·.2))) n fuel 0 [] M1 with
      | .ok ts M' => ∀ ι' H' p vs, H p = none → RM K Ω (p :: Z) ι' M' H' → p ∉ Z → Ext [] ι M H ι' M' H' → H' p = some (.lst vs) → Rs K Ω (p :: Z) ι' M' H' ts vs → Q (.ref p) H'
      | .exc c t M' => ∀ ι' H' dd v, RM K Ω Z ι' M' H' → Ext [] ι M H ι' M' H' → R K Ω Z ι' M' H' t v → H' dd = some (.xd [("value", v)]) → Still Z ι' M' dd → W (.ref (Ω.cls c)) (some dd) σ H'
      | .err => False := p
    have hD : H D = none := by
      cases z : H D with
      | none => rfl
      | some o => exact absurd nD (e1.there D (by rw [z]; exact nofun))
    have dZ : D ∉ Z := m1.notZ nD
    have rv1 : RV K Ω Z ι1 M1 H1 σT σ := rv.ext e1.any
    refine ⟨fun i k H => ∃ ι2 M2 acc ws, RM K Ω (D :: Z) ι2 M2 H ∧ Ext [D] ι1 M1 H1 ι2 M2 H ∧ H D = some (.lst ws) ∧ Rs K Ω (D :: Z) ι2 M2 H acc ws ∧ acc.length + k ≤ 2000000 ∧ (match compLL pf c f (wipeT σT (own.map (·.2))) n k i acc M2 with
      | .ok ts M' => ∀ ι' H' p vs, H1 p = none → RM K Ω (p :: Z) ι' M' H' → p ∉ Z → Ext [] ι1 M1 H1 ι' M' H' → H' p = some (.lst vs) → Rs K Ω (p :: Z) ι' M' H' ts vs → Q (.ref p) H'
      | _ => False), ⟨fuel, ι1, M1, [], [], m1.layH nD, Ext.new nD, upd_same, .nil, by simpa using hfu, ?_⟩, ?_⟩
    · generalize hr : compLL pf c f (wipeT σT (own.map (·.2))) n fuel 0 [] M1 = r at p
      have nex : ∀ (k i : Nat) (acc : List T) (M0 : Mem) c' t' M', compLL pf c f (wipeT σT (own.map (·.2))) n k i acc M0 ≠ .exc c' t' M' := by
        intro k
        induction k with
        | zero => intro i acc M0 c' t' M' h; cases h
        | succ k ih =>
          intro i acc M0 c' t' M' h
          unfold compLL at h
          split at h
          · cases h
          · split at h
            · cases h
            · split at h
              · cases h
              · split at h
                · split at h
                  · exact ih _ _ _ _ _ _ h
                  · cases h
                · exact ih _ _ _ _ _ _ h
                · cases h
      match r, p with
      | .ok ts' M', p =>
        exact fun ι' H' q vs hq mm hz ex hv rs => p ι' H' q vs (by
          cases z : H q with
          | none => rfl
          | some o => exact absurd hq (e1.there q (by rw [z]; exact nofun))) mm hz (e1.trans ex) hv rs
      | .exc c' t' M', p => exact absurd hr (nex _ _ _ _ _ _ _)
    · rintro i k H3 ⟨ι2, M2, acc, ws, m2, ex2, hD2, rs2, hacc, p2⟩
      cases k with
      | zero => exact p2.elim
      | succ k =>
      unfold compLL at p2
      cases zl : lstAt M2 n with
      | none => rw [zl] at p2; exact p2.elim
      | some ts =>
      rw [zl] at p2
      obtain ⟨stop, go⟩ := q1 (D :: Z) ι2 M2 H3 m2 (ex2.to fun z h => by simp at h; simp [h]) ts zl i
      dsimp only at p2
      cases zi : ts[i]? with
      | none =>
        rw [zi] at p2
        have hle : ts.length ≤ i := by
          by_cases h : i < ts.length
          · rw [List.getElem?_eq_getElem h] at zi; cases zi
          · omega
        exact .inl ⟨stop hle, p2 ι2 H3 D ws nD m2 dZ (ex2.drop nD) hD2 rs2⟩
      | some t =>
        rw [zi] at p2
        obtain ⟨g1, y1⟩ := go t zi
        refine .inr ⟨g1, fun H' => ∃ ι2 M2 acc ws, RM K Ω (D :: Z) ι2 M2 H' ∧ Ext [D] ι1 M1 H1 ι2 M2 H' ∧ H' D = some (.lst ws) ∧ Rs K Ω (D :: Z) ι2 M2 H' acc ws ∧ acc.length + k ≤ 2000000 ∧ (match compLL pf c f (wipeT σT (own.map (·.2))) n k (i + 1) acc M2 with
          | .ok ts M' => ∀ ι' H' p vs, H1 p = none → RM K Ω (p :: Z) ι' M' H' → p ∉ Z → Ext [] ι1 M1 H1 ι' M' H' → H' p = some (.lst vs) → Rs K Ω (p :: Z) ι' M' H' ts vs → Q (.ref p) H'
          | _ => False), fun H' h => ⟨k, Nat.lt_succ_self k, h⟩, fun x H4 y => ?_⟩
        obtain ⟨rfl, r4⟩ := y1 x H4 y
        have rv4 : RV K Ω (D :: Z) ι2 M2 H4 (wipeT σT (own.map (·.2))) (wipe σ (own.map (·.2))) := by
          have h1 : RV K Ω (D :: Z) ι1 M1 H1 σT σ := rv1.hide nD
          exact (h1.ext (ex2.to fun z h => by simp at h; simp [h])).wipe _
        dsimp only at p2
        cases zp : pf t (wipeT σT (own.map (·.2))) M2 with
        | none => rw [zp] at p2; exact p2.elim
        | some σ1 =>
          rw [zp] at p2
          refine hp (D :: Z) ι2 M2 H4 _ _ t x σ1 _ m2 rv4 r4 zp fun σ5 rv5 w5 => ⟨(w5 _ hv).trans wipe_wipe, D :: Z, ι2, M2, σ1, m2, rv5, ?_⟩
          dsimp only at p2
          cases zc : c σ1 M2 with
          | err => rw [zc] at p2; exact p2.elim
          | exc _ _ _ => rw [zc] at p2; exact p2.elim
          | ok b M5 =>
            rw [zc] at p2
            intro ι5 H5 b' m5 e5 hb
            cases hb
            have ex5 : Ext [D] ι1 M1 H1 ι5 M5 H5 := ex2.trans e5.any
            have hD5 : H5 D = some (.lst ws) := (e5.froz D _ hD2 ⟨(m2.zin D (by simp)).2, by simp⟩).1
            have rs5 : Rs K Ω (D :: Z) ι5 M5 H5 acc ws := rs2.ext e5.any
            cases b with
            | false =>
              rw [if_neg Bool.false_ne_true]
              exact ⟨ι5, M5, acc, ws, m5, ex5, hD5, rs5, by omega, p2⟩
            | true =>
              rw [if_pos rfl]
              refine ⟨D :: Z, ι5, M5, σ1, m5, rv5.ext e5.any, ?_⟩
              dsimp only at p2
              cases zf : f σ1 M5 with
              | err => rw [zf] at p2; exact p2.elim
              | exc _ _ _ => rw [zf] at p2; exact p2.elim
              | ok u M6 =>
                rw [zf] at p2
                intro ι6 H6 v6 m6 e6 r6
                have hD6 : H6 D = some (.lst ws) := (e6.froz D _ hD5 ⟨(m5.zin D (by simp)).2, by simp⟩).1
                have rs6 : Rs K Ω (D :: Z) ι6 M6 H6 acc ws := rs5.ext e6.any
                have et : ∀ Z', Ext (D :: Z') ι6 M6 H6 ι6 M6 (upd H6 D (.lst (ws ++ [v6]))) := fun Z' => Ext.turn hD6 (by intro xs h; cases h) (by intro x y h; cases h)
                refine ⟨ws, hD6, ?_, ι6, M6, acc ++ [u], ws ++ [v6], m6.turn hD6 (by intro xs h; cases h) (by intro x y h; cases h), (ex5.trans e6.any).trans (et []), upd_same, (rs6.ext (et Z)).append (.cons (r6.ext (et Z)) .nil), by simp; omega, p2⟩
                rw [← rs6.length, sizeLine_eq]
                omega
theorem ml_lcL (fuel : Nat) (hc : X.calm = true) (hN : X.N.Nodup) (hi : MIL X Ω W tg iter it) (ok : BlkOk X.N X.env.scope scope own) (hp : PatS X.K Ω gt pf vs) (hv : ∀ i ∈ vs, i ∈ own.map (·.2))
    (hg : ∀ (s : Shared) (H : Hp) (C : Addr) (cl : List (Str × Addr)) (fp : List Addr), PG (X.blk s H scope (compEnvC scope cl C X.env) fp) tg gt)
    (ht : ∀ (s : Shared) (H : Hp) (C : Addr) (cl : List (Str × Addr)) (fp : List Addr), MTs (X.blk s H scope (compEnvC scope cl C X.env) fp) Ω W0 ifs c)
    (he : ∀ (s : Shared) (H : Hp) (C : Addr) (cl : List (Str × Addr)) (fp : List Addr), ME (X.blk s H scope (compEnvC scope cl C X.env) fp) Ω W0 elt f) (hfu : fuel ≤ 2000000 := by decide) (hs : ∀ x, foldedSetIterable iter X.env x = pure x := by intro _; rfl) :
    ML X Ω W (.ListComp elt [⟨tg, iter, ifs, 0⟩] scope pos) (eLcL fuel (own.map (·.2)) pf it c f) := L2PE.imp (pe_lc (tt := liftT X.K Ω W0 c) (te := liftE X.K Ω W0 f) hc hN hi ok hg ht he hs) fun σ H Q => lcl_of fuel hfu hp hv
end
end Mi
namespace Mi
open PySem PySem.Spec PyProof.Rows L2
theorem Gf.keep {fa : List He.Fa} {fn : List DefM} {ck : List Ck} {K : PySem.W.Frag} {mg : Str → Option Value} (g : Gf fa fn ck K mg) (i : Nat) {x : Str} (h : fa[i]? = some (.keep x) := by rfl) : PySem.W.keepIn K (.ref (He.ga K x)) = true := He.keep_ok (g.says.fact i h)
section
variable {P : Program} {w : World} {K : PySem.W.Frag} {mg : Str → Option Value} {base : Heap} {Ω : Om} {k n : Nat} {ps : List Str} {F : FF} {f : Addr} {fd : FuncData} {dts : List T} {x m : Str} {c : Nat}
theorem gFn (hl : ps.length = n) (gm : mg x = some (.ref f)) (kp : PySem.W.keepIn K (.ref f) = true) (ok : FnOk P w K mg base (L2.CX P w) k f fd ps (spF K Ω n F)) (bd : BndL K fd ps Ω dts) : FnG P w K mg base Ω x k n dts F := ⟨f, fd, ps, gm, kp, hl, ok, bd⟩
theorem gMe (hl : ps.length = n) (hc : Cls K (Ω.cls c)) (hm : Meth K (Ω.cls c) m f) (hn : m ∉ Ω.fld c) (ok : FnOk P w K mg base (L2.CX P w) k f fd ps (spF K Ω n F)) (bd : BndL K fd ps Ω dts) : MeG P w K mg base Ω c m k n dts F := ⟨f, fd, ps, hc, hm, hn, hl, ok, bd⟩
theorem bnd0 (bd : BndL K fd ps Ω []) : Binds K fd ps [] := by
  obtain ⟨ds, dvs, h1, h2, h3⟩ := bd 0 (Nat.zero_le _)
  have := h3 [] [] [] (fun _ => none)
  cases this
  cases h2
  exact h1
theorem gMk (hl : ps.length = n) (gm : mg x = some (.ref (Ω.cls c))) (hm : Mk K (Ω.cls c) f) (ok : FnOk P w K mg base (L2.CX P w) k f fd ps (spF K Ω n F)) (bd : BndL K fd ps Ω []) : MkG P w K mg base Ω x c k n F := ⟨f, fd, ps, gm, hm, hl, ok, bnd0 bd⟩
theorem gPr {p : Addr} (hl : ps.length = 1) (hc : Cls K (Ω.cls c)) (hp : PropOf K (Ω.cls c) m p f) (ok : FnOk P w K mg base (L2.CX P w) k f fd ps (spF K Ω 1 F)) (bd : BndL K fd ps Ω []) : PrG P w K mg base Ω c m k F := ⟨f, p, fd, ps, hc, hp, hl, ok, bnd0 bd⟩
end
theorem blkOk {N : List Str} {sc scope : Scope} {own : List (Str × Nat)} (h : decide (scope.kind = .function ∧ (∀ y ∈ scope.names, scope.names.lookup y.1 = some y.2) ∧ (∀ p ∈ own, N[p.2]? = some p.1) ∧
    (∀ y ∈ scope.names, y.2 = .free → sc.names.lookup y.1 = some .cell ∨ sc.names.lookup y.1 = some .free) ∧ ∀ y ∈ scope.names, y.2 = .local ∨ y.2 = .cell → y.1 ∈ own.map (·.1) ∨ y.1 ∉ N) = true) : BlkOk N sc scope own :=
  let ⟨a, b, c, d, e⟩ := of_decide_eq_true h
  ⟨a, b, c, d, e⟩
section
variable {fa : List He.Fa} {fn : List DefM} {ck : List Ck} {X : Cx} {Ω : Om} {W : WX} {x : Str} {zs : List Str} {ys : List (List Nat)} {pos apos cpos : Pos} {e : Expr} {f : AF}
theorem Gf.cTup (g : Gf fa fn ck X.K X.mg) (i j : Nat) (hg : Gl X x) (h : fa[i]? = some (.glo x) := by rfl) (hc : ck[j]? = some (ckTup x zs) := by rfl) (hz : (zs.map fun z => z.cps.toList) = ys := by rfl)
    (hf : (ys.all fun y => (y.all (fun c => decide (c < symB)) && decide (y.length ≤ 2000000))) = true := by decide) (hd : (x == ("__debug__" : Str)) = false := by decide) : ME X Ω W (.Name x pos) (eC (.ktup (ys.map .str))) :=
  let q := g.eTupS (Ω := Ω) (pos := pos) i j hg h hc hz hf hd
  me_c q.1 q.2.2
theorem Gf.cIndex (g : Gf fa fn ck X.K X.mg) (i j : Nat) (hg : Gl X x) (ha : MA X Ω W [e] f) (h : fa[i]? = some (.glo x) := by rfl) (hc : ck[j]? = some (ckTup x zs) := by rfl) (hz : (zs.map fun z => z.cps.toList) = ys := by rfl)
    (hf : (ys.all fun y => (y.all (fun c => decide (c < symB)) && decide (y.length ≤ 2000000))) = true := by decide) (hd : (x == ("__debug__" : Str)) = false := by decide) (hbase : attributeBase (.Name x pos) "index" X.env (eval (.Name x pos) X.env) = eval (.Name x pos) X.env := by rfl)
    (hfew : ((backTo cpos (starEach [e] X.env)).all (fun x => !x.1) && (backToKw cpos (keywordEach [] X.env)).all (fun x => x.1.isSome) && decide ([e].length + ([] : List Keyword).length + (if ([] : List Keyword).isEmpty then 0 else 1) < 30)) = true := by rfl)
    (hline : (apos.endLine == cpos.line) = true := by rfl) (hs : starEach [e] X.env = (false, eval e X.env) :: starEach [] X.env := by rfl) (hplain : (backTo cpos (starEach [] X.env)).any (·.1) = false := by rfl) :
    ME X Ω W (.Call (.Attribute (.Name x pos) "index" apos) [e] [] cpos) (eIxK (.ktup (ys.map .str)) f) :=
  let q := g.eTupS (Ω := Ω) (pos := pos) i j hg h hc hz hf hd
  me_indexK q.1 q.2.1 q.2.2 ha hbase hfew hline hs hplain
end
structure Rho where
  rho : Nat → List Nat
  rne : ∀ c, rho c ≠ []
  rle : ∀ c, (rho c).length ≤ 8
  rch : ∀ c x, x ∈ rho c → 97 ≤ x ∧ x ≤ 122
  raw : ∀ c, rho c ∉ awayW
  rij : ∀ i j, i < symN → j < symN → rho (symB + i) = rho (symB + j) → i = j
theorem un65 {k : Nat} {A : Around} (r : Room k A) : A.units + 65 < cLine := by have := r.un; omega
theorem un64 {k : Nat} {A : Around} (r : Room k A) : A.units + 64 < cLine := by have := r.un; omega
theorem un1 {k : Nat} {A : Around} (r : Room k A) : A.units + 1 < cLine := by have := r.un; omega
section
variable {K : PySem.W.Frag} {Ω : Om} {X : Cx} {W : WX} {e : Expr} {f g : AF}
def aAlt (f g : AF) : AF := fun σ M => (f σ M).or (g σ M)
theorem ml_alt (h : ML X Ω W e f) (h' : ML X Ω W e g) : ML X Ω W e (aAlt f g) := L2PE.imp (L2PE.or h h') fun σ H Q ⟨Z, ι, M, σT, m, rv, p⟩ => by
  unfold aAlt at p
  cases q : f σT M with
  | err => rw [q] at p; exact .inr ⟨Z, ι, M, σT, m, rv, p⟩
  | ok t M1 => rw [q] at p; exact .inl ⟨Z, ι, M, σT, m, rv, by rw [q]; exact p⟩
  | exc c t M1 => rw [q] at p; exact .inl ⟨Z, ι, M, σT, m, rv, by rw [q]; exact p⟩
def opAddI : Op2 := fun _ t u => match t, u with
  | .int i, .int j => some (.int (i + j))
  | _, _ => none
theorem opAddI_ok : OpS K Ω (ipI fun i j => i + j) opAddI := fun Z ι M H t u v w z Q m r q h k => by
  unfold opAddI at h
  split at h
  · cases h
    cases r
    cases q
    exact ⟨_, _, rfl, rfl, k ι H _ m Ext.refl (.int _)⟩
  · cases h
end
end Mi
namespace Mi
open PySem PySem.Spec PyProof.Rows L2
def itemsS (t : T) : Option (List T) := match t with
  | .str x => bif ground x then some (x.map fun c => .str [c]) else none
  | t => items t
def iSeqS (f : EF) : AF := fun σ M => (f σ M).bind fun t M1 => .of (itemsS t) M1
section
variable {X : Cx} {Ω : Om} {W : WX} {e tg : Expr} {f : EF}
theorem rit_str {Z ι : List Addr} {M : Mem} {H : Hp} {x : List Nat} {s : Str} (g : ground x = true) (h : s.cps.toList = x) : RIt X.K Ω Z ι M H (x.map fun c => T.str [c]) (Its s) := fun Z' ι' M' H' m e g' => by
  have hs : s.cps.size = x.length := by rw [← h, Array.length_toList]
  refine ⟨by show s.cps.size ≤ _; rw [List.length_map, hs]; exact Nat.le_refl _, fun i t q => ?_⟩
  rw [List.getElem?_map] at q
  cases hx : x[i]? with
  | none => rw [hx] at q; cases q
  | some c =>
    rw [hx] at q
    cases q
    have hi : i < x.length := (List.getElem?_eq_some_iff.mp hx).1
    refine ⟨by show i < s.cps.size; rw [hs]; exact hi, fun v H2 ⟨e1, c', hc, ev⟩ => ?_⟩
    subst e1 ev
    have hc2 : x[i]? = some c' := by rw [← h, Array.getElem?_toList]; exact hc
    rw [hx] at hc2
    cases hc2
    have gc : c < symB := by
      unfold ground at g
      exact of_decide_eq_true (List.all_eq_true.mp g c (List.mem_of_getElem? hx))
    refine ⟨m, Ext.refl, .str _ _ ?_ (by simp)⟩
    rw [spell_ground (by unfold ground; simp [gc])]
theorem mi_seqS (he : ME X Ω W e f) : MI X Ω W tg e (iSeqS f) := L2PI.imp (L2PI.or (pi_str he) (mi_seq he)) fun σ H Q ⟨Z, ι, M, σT, m, rv, p⟩ => by
  unfold iSeqS at p
  cases q : f σT M with
  | err => rw [q] at p; exact p.elim
  | exc c t M1 => rw [q] at p; exact .inl ⟨Z, ι, M, σT, m, rv, by rw [q]; exact p⟩
  | ok t M1 =>
    rw [q] at p
    have other : itemsS t = items t → lift X.K Ω (RIt X.K Ω) W (iSeq f) σ H Q := fun h => ⟨Z, ι, M, σT, m, rv, by
      unfold iSeq
      rw [q]
      have p : Post X.K Ω (RIt X.K Ω) (fun c d H' => W c d σ H') Z ι M H Q (.of (itemsS t) M1) := p
      rw [h] at p
      exact p⟩
    cases t with
    | str x =>
      refine .inl ⟨Z, ι, M, σT, m, rv, ?_⟩
      rw [q]
      intro ι1 H1 v m1 e1 r1
      have p : Post X.K Ω (RIt X.K Ω) (fun c d H' => W c d σ H') Z ι M H Q (.of (bif ground x then some (x.map fun c => T.str [c]) else none) M1) := p
      cases g : ground x with
      | false => rw [g] at p; exact p.elim
      | true =>
        rw [g] at p
        cases r1 with
        | str _ s hs hl => exact ⟨s, rfl, p ι1 H1 _ m1 e1 (rit_str g (by rw [spell_ground g] at hs; exact hs))⟩
    | _ => exact .inr (other rfl)
end
def symF (F : FF) : FF := fun ts M => match ts with
  | [.str [c]] => bif isSym c then .ok (.bl true) M else F [.str [c]] M
  | ts => F ts M
theorem symF_of {K : PySem.W.Frag} {Ω : Om} {F : FF} (hl : ∀ x M, letters x = true → F [.str x] M = .ok (.bl true) M) {vs : List V} {H : Hp} {Q : VK} {E : XK} (h : spF K Ω 1 (symF F) vs H Q E) : spF K Ω 1 F vs H Q E := by
  obtain ⟨Z, ι, M, ts, m, rs, hn, p⟩ := h
  by_cases hs : ∃ c, ts = [.str [c]] ∧ isSym c = true
  · obtain ⟨c, rfl, hc⟩ := hs
    have p : Post K Ω (R K Ω) E Z ι M H Q (bif isSym c then .ok (.bl true) M else F [.str [c]] M) := p
    rw [hc] at p
    cases rs with
    | cons r rr =>
      cases rr
      cases r with
      | str _ s hs hlen =>
        rw [spell_sym hc] at hs
        have hg : ground (Ω.rho c) = true := by
          unfold ground
          refine List.all_eq_true.mpr fun x hx => decide_eq_true ?_
          have := Ω.rch c x hx
          unfold symB
          omega
        have hL : letters (Ω.rho c) = true := by
          unfold letters
          rw [Bool.and_eq_true, Bool.and_eq_true, decide_eq_true_eq]
          refine ⟨⟨?_, Ω.rle c⟩, List.all_eq_true.mpr fun x hx => ?_⟩
          · cases z : Ω.rho c with
            | nil => exact absurd z (Ω.rne c)
            | cons _ _ => rfl
          · have := Ω.rch c x hx
            rw [Bool.and_eq_true, decide_eq_true_eq, decide_eq_true_eq]
            exact this
        refine ⟨Z, ι, M, [.str (Ω.rho c)], m, .cons (.str _ s (by rw [spell_ground hg]; exact hs) (by have := Ω.rle c; omega)) .nil, rfl, ?_⟩
        rw [hl _ _ hL]
        exact p
  · refine ⟨Z, ι, M, ts, m, rs, hn, ?_⟩
    have e : symF F ts M = F ts M := by
      unfold symF
      split
      · rename_i c
        cases z : isSym c with
        | true => exact absurd ⟨c, rfl, z⟩ hs
        | false => rfl
      · rfl
    rw [e] at p
    exact p
theorem rm_fresh {K : PySem.W.Frag} {Ω Ω' : Om} {Z ι : List Addr} {M : Mem} {H : Hp} (m : RM K Ω Z ι M H) (ht : Ω'.tabs = Ω.tabs := by rfl) : RM K Ω' Z [] [] H := ⟨by rw [ht]; exact m.tab, rfl, fun i j a o u h => by simp at h, fun n a o h => by simp at h, fun z q => ⟨(m.zin z q).1, fun ⟨n, o, h, _⟩ => by simp at h⟩⟩
def goneN (n : Nat) : Mem := List.replicate n .gone
theorem gone_get {n k : Nat} {o : MO} (h : (goneN n)[k]? = some o) : o = .gone := by
  unfold goneN at h
  rw [List.getElem?_replicate] at h
  split at h
  · exact (Option.some.inj h).symm
  · cases h
theorem gone_not {ι : List Addr} {n : Nat} {a : Addr} : ¬ Live ι (goneN n) a := fun ⟨_, _, _, h, g⟩ => g (gone_get h)
theorem rm_gone {K : PySem.W.Frag} {Ω Ω' : Om} {Z ι ι2 : List Addr} {M M2 : Mem} {H H2 : Hp} (m : RM K Ω Z ι M H) (m2 : RM K Ω' Z ι2 M2 H2) (e : Ext [] [] [] H ι2 M2 H2) (ht : Ω'.tabs = Ω.tabs := by rfl) : RM K Ω Z (ι ++ ι2) (goneN (M.length + M2.length)) H2 := by
  refine ⟨by rw [← ht]; exact m2.tab, by rw [List.length_append, m.len, m2.len]; simp [goneN], fun i j a o u _ _ h _ g => absurd (gone_get h) g, fun n a o hn ho => ?_, fun z q => ⟨(m2.zin z q).1, gone_not⟩⟩
  rw [gone_get ho]
  have hne : H2 a ≠ none := by
    by_cases hl : n < ι.length
    · rw [List.getElem?_append_left hl] at hn
      obtain ⟨o', _, ro⟩ := m.at hn
      exact e.there a ro.there
    · rw [List.getElem?_append_right (by omega)] at hn
      obtain ⟨o', _, ro⟩ := m2.at hn
      exact ro.there
  cases z : H2 a with
  | none => exact absurd z hne
  | some v => exact .gone z
theorem ext_gone {ι ι2 : List Addr} {M M2 : Mem} {H H2 : Hp} {n : Nat} (e : Ext [] [] [] H ι2 M2 H2) : Ext [] ι M H (ι ++ ι2) (goneN n) H2 :=
  ⟨⟨ι2, rfl⟩, fun a o h _ t => ⟨(e.froz a o h ⟨fun ⟨_, _, z, _⟩ => by simp at z, by simp⟩ t).1, gone_not⟩, e.tups, e.frzs, e.there⟩
end Mi
namespace Mi
open PySem PySem.Spec PyProof.Rows L2
def symsN (n : Nat) : List T := (List.range n).map fun j => .str [symB + j]
def extraW : List (List Nat) := (List.range 16).map fun j => [113, 113, 113, 97 + j]
def okW (n : Nat) (ws : List (List Nat)) : Bool := decide (ws.length = n) && ws.all mayBe && decide (ws ++ extraW).Nodup && decide (n ≤ symN)
def wordsAt (i : Nat) (σ : TV) (M : Mem) : Option (List (List Nat)) := match σ[i]? with
  | some (some t) => (lstT M t).bind strsT
  | _ => none
def good (r : Option (Fl × Mem)) : Option Nat := match r with
  | some (.rt (.bl true), M) => some M.length
  | _ => none
def sig0 (n i nw : Nat) : TV := (List.replicate n none).set i (some (.lst (symsN nw)))
def splitF (n i nw L : Nat) (b1 : SF) : FF := fun ts M => match b1 (ts.map some ++ List.replicate (n - ts.length) none) M with
  | some (.nx σ1, M1) => (match wordsAt i σ1 M1 with
    | some ws => bif okW nw ws && decide (σ1.length = n) then .ok (.bl true) (goneN (M1.length + L)) else .err
    | none => .err)
  | _ => .err
theorem letters_ok {x : List Nat} (h : letters x = true) : x ≠ [] ∧ x.length ≤ 8 ∧ (∀ c ∈ x, 97 ≤ c ∧ c ≤ 122) ∧ ground x = true := by
  unfold letters at h
  rw [Bool.and_eq_true, Bool.and_eq_true, decide_eq_true_eq] at h
  have h3 : ∀ c ∈ x, 97 ≤ c ∧ c ≤ 122 := fun c hc => by
    have := List.all_eq_true.mp h.2 c hc
    rw [Bool.and_eq_true, decide_eq_true_eq, decide_eq_true_eq] at this
    exact this
  refine ⟨fun z => ?_, h.1.2, h3, ?_⟩
  · have := h.1.1
    rw [z] at this
    cases this
  · unfold ground
    refine List.all_eq_true.mpr fun c hc => decide_eq_true ?_
    have := h3 c hc
    unfold symB
    omega
def rhoW (ws : List (List Nat)) (c : Nat) : List Nat := ((ws ++ extraW)[c - symB]?).getD [97]
theorem rhoW_may {n : Nat} {ws : List (List Nat)} (h : okW n ws = true) (c : Nat) : mayBe (rhoW ws c) = true := by
  unfold okW at h
  rw [Bool.and_eq_true, Bool.and_eq_true, Bool.and_eq_true] at h
  unfold rhoW
  cases e : (ws ++ extraW)[c - symB]? with
  | none => decide
  | some w =>
    have hm := List.mem_of_getElem? e
    rcases List.mem_append.mp hm with hm | hm
    · exact List.all_eq_true.mp h.1.1.2 w hm
    · have : extraW.all mayBe = true := by decide
      exact List.all_eq_true.mp this w hm
theorem may_letters {x : List Nat} (h : mayBe x = true) : letters x = true := (Bool.and_eq_true_iff.mp h).1
theorem rhoW_letters {n : Nat} {ws : List (List Nat)} (h : okW n ws = true) (c : Nat) : letters (rhoW ws c) = true := may_letters (rhoW_may h c)
def rhoOf {n : Nat} {ws : List (List Nat)} (h : okW n ws = true) : Rho where
  rho := rhoW ws
  rne := fun c => (letters_ok (rhoW_letters h c)).1
  rle := fun c => (letters_ok (rhoW_letters h c)).2.1
  rch := fun c x hx => (letters_ok (rhoW_letters h c)).2.2.1 x hx
  raw := fun c hm => by
    have h2 := (Bool.and_eq_true_iff.mp (rhoW_may h c)).2
    rw [List.contains_iff_mem.mpr hm] at h2
    cases h2
  rij := fun i j hi hj e => by
    have nd : (ws ++ extraW).Nodup := by
      unfold okW at h
      rw [Bool.and_eq_true, Bool.and_eq_true] at h
      exact of_decide_eq_true h.1.2
    have hl : (16 : Nat) ≤ (ws ++ extraW).length := by rw [List.length_append]; show 16 ≤ ws.length + 16; omega
    unfold symN at hi hj
    unfold rhoW at e
    rw [show symB + i - symB = i by omega, show symB + j - symB = j by omega, List.getElem?_eq_getElem (by omega), List.getElem?_eq_getElem (by omega)] at e
    have pw := List.pairwise_iff_getElem.mp nd
    rcases Nat.lt_trichotomy i j with h | h | h
    · exact absurd e (pw i j (by omega) (by omega) h)
    · exact h
    · exact absurd e.symm (pw j i (by omega) (by omega) h)
def StS (P : Program) (w : World) (K : PySem.W.Frag) (mg : Str → Option Value) (base : Heap) (Ω : Om) (k : Nat) (N : List Str) (sc : Scope) (st : Stmt) (b : SF) : Prop :=
  ∀ (qual : Str) (f : Addr) (cdv : Value) (A : Around) (outer : List Env) (s : Shared) (H : Hp) (E : XK), Room k (A.deeper (envOfC qual sc s.heap.objs.size f cdv)) → MS (cxD P w K mg base N qual sc f cdv A outer s H E) Ω (fun c d _ H' => E c d H') st b
section
variable {P : Program} {w : World} {K : PySem.W.Frag} {mg : Str → Option Value} {base : Heap} {om : Rho → Om} {ρ : Rho} {k i nw L : Nat} {N ps : List Str} {b1 b2 : SF}
theorem rs_syms {Ω Ω' : Om} {Z ι : List Addr} {M : Mem} {H : Hp} {Z' ι' : List Addr} {M' : Mem} {H' : Hp} {n : Nat} {ws : List (List Nat)} (h : okW n ws = true) (hr : Ω'.rho = rhoW ws) : ∀ (k : Nat) {us : List (List Nat)} {ts : List T} {vs : List V}, us = ws.drop k → strsT ts = some us → Rs K Ω Z ι M H ts vs →
    Rs K Ω' Z' ι' M' H' ((List.range' k us.length).map fun j => T.str [symB + j]) vs := by
  intro k us
  induction us generalizing k with
  | nil =>
    intro ts vs _ hs rs
    cases ts with
    | nil => cases rs; exact .nil
    | cons t ts =>
      cases t with
      | str x =>
        have hs : (strsT ts).map (x :: ·) = some [] := hs
        cases e : strsT ts with
        | none => rw [e] at hs; cases hs
        | some _ => rw [e] at hs; cases hs
      | _ => cases hs
  | cons u us ih =>
    intro ts vs hu hs rs
    have hws : ws[k]? = some u := by
      have : (ws.drop k)[0]? = some u := by rw [← hu]; rfl
      simpa using this
    have hdr : us = ws.drop (k + 1) := by
      have : (ws.drop k).tail = us := by rw [← hu]; rfl
      rw [List.tail_drop] at this
      exact this.symm
    cases ts with
    | nil => cases hs
    | cons t ts =>
      cases t with
      | str x =>
        have hs : (strsT ts).map (x :: ·) = some (u :: us) := hs
        cases e : strsT ts with
        | none => rw [e] at hs; cases hs
        | some us' =>
          rw [e] at hs
          have hs := Option.some.inj hs
          injection hs with h1 h2
          subst h1 h2
          cases rs with
          | cons r rr =>
            rw [List.length_cons, List.range'_succ, List.map_cons]
            refine .cons ?_ (ih (k + 1) hdr e rr)
            cases r with
            | str _ s hsp hlen =>
              have h' := h
              unfold okW at h'
              rw [Bool.and_eq_true, Bool.and_eq_true, Bool.and_eq_true] at h'
              have hn1 := of_decide_eq_true h'.1.1.1
              have hn2 := of_decide_eq_true h'.2
              have hx : letters x = true := may_letters (List.all_eq_true.mp h'.1.1.2 x (List.mem_of_getElem? hws))
              rw [spell_ground (letters_ok hx).2.2.2] at hsp
              refine .str _ s ?_ (by simp)
              have hk := (List.getElem?_eq_some_iff.mp hws).1
              have hsy : isSym (symB + k) = true := by
                unfold isSym
                rw [Bool.and_eq_true, decide_eq_true_eq, decide_eq_true_eq]
                omega
              rw [spell_sym hsy, hr, hsp]
              unfold rhoW
              rw [show symB + k - symB = k by omega, List.getElem?_append_left hk, hws]
              rfl
      | _ => cases hs
theorem lstT_noZ {K : PySem.W.Frag} {Ω : Om} {Z ι : List Addr} {M : Mem} {H : Hp} {t : T} {a : Addr} {us : List T} (m : RM K Ω Z ι M H) (r : R K Ω Z ι M H t (.ref a)) (h : lstT M t = some us) : a ∉ Z := by
  cases r with
  | lst q n rs => exact n.2
  | loc q =>
    rename_i n
    intro hz
    have h : (match M[n]? with | some (MO.lst ts) => some ts | _ => none) = some us := h
    cases e : M[n]? with
    | none => rw [e] at h; cases h
    | some o =>
      refine (m.zin a hz).2 ⟨n, o, q, e, fun g => ?_⟩
      rw [e, g] at h
      cases h
  | _ => cases h
theorem split_fn {x qual : Str} {params : Arguments} {body rest : List Stmt} {st : Stmt} {scope : Scope} {dvs : List V} {kws : List (Str × V)} {f : Addr} {fd : FuncData} (F : FunD K x qual params body scope dvs kws f fd) (S : FnScope N ps scope)
    (hom : ∀ ρ, (om ρ).rho = ρ.rho) (hb : body = st :: rest) (h1 : StS P w K mg base (om ρ) k N scope st b1) (h2 : ∀ ρ', BodyS P w K mg base (om ρ') k N scope rest b2) (hrun : good (b2 (sig0 N.length i nw) []) = some L) (hi : i < N.length) (htb : ∀ ρ ρ', (om ρ).tabs = (om ρ').tabs := by intro _ _; rfl) :
    FnOk P w K mg base (L2.CX P w) (k + 1) f fd ps (spF K (om ρ) ps.length (splitF N.length i nw L b1)) := by
  refine F.ok S (fun vs H Q E ⟨Z, ι, M, ts, m, rs, hl, _⟩ => by rw [← rs.length]; exact hl) fun cdv A outer s H vs Q E hr ⟨Z, ι, M, ts, m, rs, hl, p⟩ => ?_
  subst hb
  have hrest : PSs (cxD P w K mg base N qual scope f cdv A outer s H E) rest (fun D σ H' => ∃ ρ', liftS K (om ρ') (fun c d _ H' => E c d H') b2 D σ H') := ⟨fun pins s' σ H' D I ⟨ρ', q⟩ => (h2 ρ' qual f cdv A outer s H E hr).run pins s' σ H' D I q⟩
  refine ⟨_, pss_cons (h1 qual f cdv A outer s H E hr) hrest, ?_⟩
  refine ⟨Z, ι, M, _, m, rv_start rs, ?_⟩
  unfold splitF at p
  generalize b1 (ts.map some ++ List.replicate (N.length - ts.length) none) M = r at p ⊢
  match r, p with
  | some (.nx σ1, M1), p =>
    intro ι1 σ' H1 m1 e1 rv1
    cases zw : wordsAt i σ1 M1 with
    | none => simp only [zw] at p; exact p.elim
    | some ws =>
      simp only [zw] at p
      cases ok2 : okW nw ws && decide (σ1.length = N.length) with
      | false => rw [ok2] at p; exact p.elim
      | true =>
        rw [ok2] at p
        rw [Bool.and_eq_true, decide_eq_true_eq] at ok2
        obtain ⟨ok, hlen⟩ := ok2
        unfold wordsAt at zw
        split at zw
        · rename_i t ht
          obtain ⟨v, hv, rt⟩ := rv1.at_ i t ht
          cases hls : lstT M1 t with
          | none => rw [hls] at zw; cases zw
          | some us =>
            rw [hls] at zw
            have zw : strsT us = some ws := zw
            obtain ⟨a, xs, rfl, ha, rxs⟩ := lstT_at m1 rt hls
            have hws : ws.length = nw := by
              unfold okW at ok
              rw [Bool.and_eq_true, Bool.and_eq_true, Bool.and_eq_true, decide_eq_true_eq] at ok
              exact ok.1.1.1
            have naZ : a ∉ Z := lstT_noZ m1 rt hls
            refine ⟨rhoOf ok, Z, [], [], sig0 N.length i nw, rm_fresh m1 (htb _ _), ⟨by unfold sig0; rw [List.length_set, List.length_replicate, ← rv1.len, hlen], fun j u hj => ?_⟩, ?_⟩
            · unfold sig0 at hj
              by_cases e : i = j
              · subst e
                rw [List.getElem?_set_self (by simpa using hi)] at hj
                cases hj
                refine ⟨_, hv, .lst ha ⟨fun ⟨_, _, z, _⟩ => by simp at z, naZ⟩ ?_⟩
                have := rs_syms (K := K) (Ω' := om (rhoOf ok)) (Z' := Z) (ι' := []) (M' := []) (H' := H1) ok (hom _) 0 (us := ws) rfl zw rxs
                have e2 : symsN nw = (List.range' 0 ws.length).map fun j => T.str [symB + j] := by
                  unfold symsN
                  rw [List.range_eq_range', hws]
                rw [e2]
                exact this
              · rw [List.getElem?_set_ne e, List.getElem?_replicate] at hj
                split at hj <;> cases hj
            · cases hb2 : b2 (sig0 N.length i nw) [] with
              | none => rw [hb2] at hrun; cases hrun
              | some q =>
                obtain ⟨fl, M2⟩ := q
                rw [hb2] at hrun
                unfold good at hrun
                split at hrun
                · rename_i M3 e
                  cases e
                  cases hrun
                  intro ι2 H2 v m2 e2 r2
                  cases r2
                  have m3 := rm_gone m1 m2 e2 (htb _ _)
                  have e3 : Ext [] ι M H (ι1 ++ ι2) (goneN (M1.length + M2.length)) H2 := e1.trans (ext_gone e2)
                  exact p _ _ _ m3 e3 (.bl true)
                · cases hrun
        · cases zw
  | some (.rt t, M'), p => exact p.elim
  | some (.bk _, _), p => exact p.elim
  | some (.ct _, _), p => exact p.elim
  | some (.ex _ c t, M'), p => exact p.elim
  | none, p => exact p.elim
end
end Mi
namespace Mi
theorem some_getD {o : Option Nat} (h : o.isSome = true) : o = some (o.getD 0) := by
  cases o with
  | none => cases h
  | some n => rfl
end Mi
namespace K03
open PySem PySem.Spec PyProof.Rows L2 Mi
def flds : Nat → List Str := fun c => match c with | 0 => ["all_works", "all_needs", "all_dues", "all_hands", "after", "before"] | 1 => ["told_works", "told_needs", "told_dues", "told_hands", "own_stage"] | 2 => ["own_frame", "own_text"] | 3 => ["value"] | _ => []
theorem fl_all (c : Nat) : (flds c).length < 1000 := by unfold flds; split <;> decide
def omOf (K : PySem.W.Frag) (ρ : Rho) : Om := { ρ with cls := fun c => match c with | 0 => He.ga K "Frame" | 1 => He.ga K "Reading" | 2 => He.ga K "Book" | 3 => He.ga K "BadBook" | _ => 0, fld := flds, tabs := tabl tbs K }
theorem fu_1_0 : ∀ j < 0, (flds 1)[j]? ≠ some ("told_works" : Str) := by decide +kernel
theorem fu_1_1 : ∀ j < 1, (flds 1)[j]? ≠ some ("told_needs" : Str) := by decide +kernel
theorem fu_1_2 : ∀ j < 2, (flds 1)[j]? ≠ some ("told_dues" : Str) := by decide +kernel
theorem fu_1_3 : ∀ j < 3, (flds 1)[j]? ≠ some ("told_hands" : Str) := by decide +kernel
theorem fu_1_4 : ∀ j < 4, (flds 1)[j]? ≠ some ("own_stage" : Str) := by decide +kernel
theorem nm_Reading_reads_works : ("reads_works" : Str) ∉ flds 1 := by decide +kernel
theorem nm_Reading_reads_need : ("reads_need" : Str) ∉ flds 1 := by decide +kernel
theorem nm_Reading_reads_due : ("reads_due" : Str) ∉ flds 1 := by decide +kernel
theorem nm_Reading_reads_hands : ("reads_hands" : Str) ∉ flds 1 := by decide +kernel
theorem nm_Reading_reads : ("reads" : Str) ∉ flds 1 := by decide +kernel
theorem fu_0_0 : ∀ j < 0, (flds 0)[j]? ≠ some ("all_works" : Str) := by decide +kernel
theorem fu_0_1 : ∀ j < 1, (flds 0)[j]? ≠ some ("all_needs" : Str) := by decide +kernel
theorem fu_0_2 : ∀ j < 2, (flds 0)[j]? ≠ some ("all_dues" : Str) := by decide +kernel
theorem fu_0_3 : ∀ j < 3, (flds 0)[j]? ≠ some ("all_hands" : Str) := by decide +kernel
theorem fu_0_4 : ∀ j < 4, (flds 0)[j]? ≠ some ("after" : Str) := by decide +kernel
theorem fu_0_5 : ∀ j < 5, (flds 0)[j]? ≠ some ("before" : Str) := by decide +kernel
theorem fu_2_0 : ∀ j < 0, (flds 2)[j]? ≠ some ("own_frame" : Str) := by decide +kernel
theorem fu_2_1 : ∀ j < 1, (flds 2)[j]? ≠ some ("own_text" : Str) := by decide +kernel
end K03
namespace Mi
open PySem L2
section
variable {σ : TV} {M M1 M2 M3 : Mem} {t u z : T} {ts us : List T} {f g h : EF} {fa : AF} {c : TF} {s s1 s2 : SF} {i j k : Nat} {fl : Fl} {b : Bool} {op : Op2} {a : Int} {r : Option (Fl × Mem)}
theorem eC_ok : eC t σ M = .ok t M := rfl
theorem eVar_ok (h : σ[i]? = some (some t)) : eVar i σ M = .ok t M := by unfold eVar; rw [h]
theorem eOp_ok (h1 : f σ M = .ok t M1) (h2 : g σ M1 = .ok u M2) (h3 : op M2 t u = some z) : eOp op f g σ M = .ok z M2 := by unfold eOp; rw [h1]; show (g σ M1).bind _ = _; rw [h2]; show Res.of (op M2 t u) M2 = _; rw [h3]; rfl
theorem aNil_ok : aNil σ M = .ok [] M := rfl
theorem aCons_ok (h1 : f σ M = .ok t M1) (h2 : fa σ M1 = .ok ts M2) : aCons f fa σ M = .ok (t :: ts) M2 := by unfold aCons; rw [h1]; show (fa σ M1).bind _ = _; rw [h2]; rfl
theorem eBi_ok {o : OpN} (h1 : fa σ M = .ok ts M1) (h2 : o M1 ts = some z) : eBi o fa σ M = .ok z M1 := by unfold eBi; rw [h1]; show Res.of (o M1 ts) M1 = _; rw [h2]; rfl
theorem eBiL_ok {o : Mem → List T → Option (List T)} (h1 : fa σ M = .ok ts M1) (h2 : o M1 ts = some us) : eBiL o fa σ M = .ok us M1 := by unfold eBiL; rw [h1]; show Res.of (o M1 ts) M1 = _; rw [h2]; rfl
theorem eLst_ok (h1 : fa σ M = .ok ts M1) (h2 : big ts.length = true) : eLst fa σ M = .ok ts M1 := by unfold eLst; rw [h1]; show (bif big ts.length then _ else _) = _; rw [h2]; rfl
theorem eFroz_ok (h1 : fa σ M = .ok ts M1) : eFroz fa σ M = .ok (.lst ts) M1 := by unfold eFroz; rw [h1]; rfl
theorem eNewL_ok (h1 : fa σ M = .ok ts M1) : eNewL fa σ M = .ok (.loc M1.length) (M1 ++ [.lst ts]) := by unfold eNewL; rw [h1]; rfl
theorem eCall_ok {n : Nat} {F : FF} {ds : List T} (h1 : fa σ M = .ok ts M1) (h2 : ((ts ++ ds).length == n) = true) (h3 : F (ts ++ ds) M1 = .ok z M2) : eCall n F ds fa σ M = .ok z M2 := by unfold eCall; rw [h1]; show (bif (ts ++ ds).length == n then _ else _) = _; rw [h2]; exact h3
theorem eMt_ok {ty : Mem → T → Bool} {o : OpM} (h1 : f σ M = .ok t M1) (h2 : ty M1 t = true) (h3 : fa σ M1 = .ok ts M2) (h4 : o M2 t ts = some (z, M3)) : eMt ty o f fa σ M = .ok z M3 := by unfold eMt; rw [h1]; show (bif ty M1 t then _ else _) = _; rw [h2]; show (fa σ M1).bind _ = _; rw [h3]; show (match o M2 t ts with | some (z, M3) => Res.ok z M3 | none => .err) = _; rw [h4]
theorem eAnd_t (h1 : f σ M = .ok t M1) (h2 : truth M1 t = some true) (h3 : g σ M1 = .ok u M2) : eAnd f g σ M = .ok u M2 := by unfold eAnd; rw [h1]; show (match truth M1 t with | some true => g σ M1 | some false => .ok t M1 | none => .err) = _; rw [h2]; exact h3
theorem eChain_t {o1 o2 : Op2} {v w : T} (h1 : f σ M = .ok t M1) (h2 : g σ M1 = .ok u M2) (h3 : o1 M2 t u = some (.bl true)) (h4 : h σ M2 = .ok v M3) (h5 : o2 M3 u v = some w) : eChain o1 o2 f g h σ M = .ok w M3 := by
  unfold eChain; rw [h1]; show (g σ M1).bind _ = _; rw [h2]; show (match o1 M2 t u with | some (.bl true) => (h σ M2).bind fun w M3 => .of (o2 M3 u w) M3 | some (.bl false) => .ok (.bl false) M2 | _ => .err) = _; rw [h3]; show (h σ M2).bind _ = _; rw [h4]; show Res.of (o2 M3 u v) M3 = _; rw [h5]; rfl
theorem tVal_ok (h1 : f σ M = .ok (.bl b) M1) : tVal f σ M = .ok b M1 := by unfold tVal; rw [h1]; rfl
theorem eIf_t (h1 : c σ M = .ok true M1) (h2 : f σ M1 = .ok t M2) : eIf c f g σ M = .ok t M2 := by unfold eIf; rw [h1]; exact h2
theorem eIf_f (h1 : c σ M = .ok false M1) (h2 : g σ M1 = .ok t M2) : eIf c f g σ M = .ok t M2 := by unfold eIf; rw [h1]; exact h2
theorem sRet_ok (h1 : f σ M = .ok t M1) : sRet f σ M = some (.rt t, M1) := by unfold sRet; rw [h1]; rfl
theorem sSet_ok (h1 : f σ M = .ok t M1) : sSet i f σ M = some (.nx (σ.set i (some t)), M1) := by unfold sSet; rw [h1]; rfl
theorem sExpr_ok (h1 : f σ M = .ok t M1) : sExpr f σ M = some (.nx σ, M1) := by unfold sExpr; rw [h1]; rfl
theorem sNil_ok : sNil σ M = some (.nx σ, M) := rfl
theorem sSeq_nx {σ1 : TV} (h1 : s1 σ M = some (.nx σ1, M1)) (h2 : s2 σ1 M1 = r) : sSeq s1 s2 σ M = r := by unfold sSeq; rw [h1]; exact h2
theorem sSeq_rt (h1 : s1 σ M = some (.rt t, M1)) : sSeq s1 s2 σ M = some (.rt t, M1) := by unfold sSeq; rw [h1]
theorem sIf_t (h1 : c σ M = .ok true M1) (h2 : s1 σ M1 = r) : sIf c s1 s2 σ M = r := by unfold sIf; rw [h1]; exact h2
theorem sIf_f (h1 : c σ M = .ok false M1) (h2 : s2 σ M1 = r) : sIf c s1 s2 σ M = r := by unfold sIf; rw [h1]; exact h2
theorem sPar_ok (h1 : fa σ M = .ok [t, u] M1) : sPar i j fa σ M = some (.nx ((σ.set i (some t)).set j (some u)), M1) := by unfold sPar; rw [h1]; rfl
theorem sLput_ok {fv fo fi : EF} {n p : Nat} {xs : List T} (h1 : fv σ M = .ok t M1) (h2 : fo σ M1 = .ok (.loc n) M2) (h3 : fi σ M2 = .ok (.int a) M3) (h4 : M3[n]? = some (.lst xs)) (h5 : ixN xs.length a = some p) : sLput fv fo fi σ M = some (.nx σ, M3.set n (.lst (xs.set p t))) := by
  unfold sLput
  rw [h1]
  have e : locL M3 (.loc n) = some (n, xs) := by
    show (match M3[n]? with | some (.lst ts) => some (n, ts) | _ => none) = _
    rw [h4]
  simp only [Res.go, h2, h3, e, h5, Option.map_some]
theorem runB_rt {n : Nat} (h1 : s (ts.map some ++ List.replicate (n - ts.length) none) M = some (.rt t, M1)) : runB n s ts M = .ok t M1 := by unfold runB; rw [h1]
theorem sFor_ok {p : PF} {it : AF} (h1 : it σ M = .ok ts M1) (h2 : forL p s ts σ M1 = r) : sFor p it s σ M = r := by unfold sFor; rw [h1]; exact h2
theorem iFun_ok {o : List T → Option (List T)} (h1 : fa σ M = .ok ts M1) (h2 : o ts = some us) : iFun o fa σ M = .ok us M1 := by unfold iFun; rw [h1]; show Res.of (o ts) M1 = _; rw [h2]; rfl
theorem iSeqS_ok (h1 : f σ M = .ok t M1) (h2 : itemsS t = some us) : iSeqS f σ M = .ok us M1 := by unfold iSeqS; rw [h1]; show Res.of (itemsS t) M1 = _; rw [h2]; rfl
theorem eLc_ok {own : List Nat} {p : PF} {it : AF} (h1 : it σ M = .ok ts M1) (h2 : big ts.length = true) (h3 : compL p c f (wipeT σ own) ts [] M1 = .ok us M2) : eLc own p it c f σ M = .ok us M2 := by unfold eLc; rw [h1]; show (bif big ts.length then _ else _) = _; rw [h2]; exact h3
theorem opMul_r {i j : Int} (h : -(2 ^ 64) < j ∧ j < 2 ^ 64) : opMul M (.int i) (.int j) = some (.int (i * j)) := by
  show (bif decide (-(2 ^ 64) < j) && decide (j < 2 ^ 64) || decide (-(2 ^ 64) < i) && decide (i < 2 ^ 64) then some (T.int (i * j)) else none) = _
  rw [decide_eq_true h.1, decide_eq_true h.2]
  rfl
theorem opMul_l {i j : Int} (h : -(2 ^ 64) < i ∧ i < 2 ^ 64) : opMul M (.int i) (.int j) = some (.int (i * j)) := by
  show (bif decide (-(2 ^ 64) < j) && decide (j < 2 ^ 64) || decide (-(2 ^ 64) < i) && decide (i < 2 ^ 64) then some (T.int (i * j)) else none) = _
  rw [decide_eq_true h.1, decide_eq_true h.2, Bool.and_self, Bool.or_true]
  rfl
theorem opMod_p {i j : Int} (h : 0 < j) : opMod M (.int i) (.int j) = some (.int (i % j)) := by
  show (bif decide (0 < j) then some (T.int (i % j)) else none) = _
  rw [decide_eq_true h]
  rfl
theorem opFdiv_p {i j : Int} (h : 0 < j ∧ j < 1073741824) : opFdiv M (.int i) (.int j) = some (.int (i / j)) := by
  show (bif decide (0 < j) && decide (j < 1073741824) then some (T.int (i / j)) else none) = _
  rw [decide_eq_true h.1, decide_eq_true h.2]
  rfl
theorem opPow_3 {i : Int} (h0 : 0 ≤ i) (h : i < 2 ^ 200) : opPow M (.int i) (.int 3) = some (.int (i ^ 3)) := by
  have hn : i.natAbs < 2 ^ 200 := by omega
  have hb : (Builtin.Int.intBits i : Int) * 3 ≤ 2 ^ 27 := by
    have h2 : Builtin.Int.intBits i ≤ 200 := by
      unfold Builtin.Int.intBits
      split
      · omega
      · rename_i hz
        have hz : i.natAbs ≠ 0 := by
          intro z
          apply hz
          rw [beq_iff_eq]
          omega
        have := (Nat.log2_lt hz).mpr hn
        omega
    have : (Builtin.Int.intBits i : Int) ≤ 200 := by omega
    omega
  show (bif decide ((0 : Int) ≤ 3) && decide ((Builtin.Int.intBits i : Int) * 3 ≤ 2 ^ 27) then some (T.int (i ^ (3 : Int).toNat)) else none) = _
  rw [decide_eq_true hb]
  rfl
theorem opIx_loc {n : Nat} {xs : List T} {a : Int} {t : T} (h : M[n]? = some (.lst xs)) (h2 : L2.atI xs a = some t) : opIx M (.loc n) (.int a) = some t := by
  unfold opIx
  show (seqT M (.loc n)).bind (fun ts => L2.atI ts a) = _
  have : seqT M (.loc n) = some xs := by
    show (match M[n]? with | some (.lst ts) => some ts | _ => none) = _
    rw [h]
  rw [this]
  exact h2
theorem compL_all {n : Nat} {t0 : T} {f : EF} {σ : TV} (P : T → Prop) (h : ∀ t M, P t → ∃ M', f (σ.set n (some t)) M = .ok t0 M') : ∀ (ts acc : List T) (M : Mem), (∀ t ∈ ts, P t) → ∃ M', compL (pName n) tTrue f σ ts acc M = .ok (acc ++ List.replicate ts.length t0) M'
  | [], acc, M, _ => ⟨M, by simp [compL]⟩
  | t :: ts, acc, M, hp => by
    obtain ⟨M1, h1⟩ := h t M (hp t (by simp))
    obtain ⟨M2, h2⟩ := compL_all P h ts (acc ++ [t0]) M1 fun t ht => hp t (List.mem_cons_of_mem _ ht)
    refine ⟨M2, ?_⟩
    unfold compL
    simp only [pName, tTrue, h1]
    rw [h2, List.length_cons, List.replicate_succ]
    simp
theorem compL_allM {n : Nat} {t0 : T} {f : EF} {σ : TV} {M : Mem} : ∀ (ts acc : List T), (∀ t ∈ ts, f (σ.set n (some t)) M = .ok t0 M) → compL (pName n) tTrue f σ ts acc M = .ok (acc ++ List.replicate ts.length t0) M
  | [], acc, _ => by simp [compL]
  | t :: ts, acc, hp => by
    have h1 := hp t (by simp)
    have h2 := compL_allM (n := n) (f := f) (σ := σ) (M := M) (t0 := t0) ts (acc ++ [t0]) fun t ht => hp t (List.mem_cons_of_mem _ ht)
    unfold compL
    simp only [pName, tTrue, h1]
    rw [h2, List.length_cons, List.replicate_succ]
    simp
theorem bAll_rep {n : Nat} : bAll M [.lst (List.replicate n (.bl true))] = some (.bl true) := by
  have h1 : ∀ n : Nat, boolsT (List.replicate n (.bl true)) = some (List.replicate n true) := fun n => by
    induction n with
    | zero => rfl
    | succ n ih =>
      rw [List.replicate_succ, List.replicate_succ]
      show (boolsT (List.replicate n (.bl true))).map (true :: ·) = _
      rw [ih]
      rfl
  unfold bAll bBools
  show ((boolsT (List.replicate n (.bl true))).map fun bs => T.bl _) = _
  rw [h1]
  simp
end
end Mi
namespace Mi
open PySem PySem.Spec PyProof.Rows L2
theorem calm_fn {P : Program} {w : World} {K : PySem.W.Frag} {mg : Str → Option Value} {base : Heap} {k : Nat} {f : Addr} {fd : FuncData} {ps : List Str} {sp : Sp} (F : FnOk P w K mg base (L2.CX P w) k f fd ps sp) : FnOk P w K mg base (fun _ _ _ _ _ _ => False) k f fd ps (fun vs H Q _ => sp vs H Q fun _ _ _ => False) :=
  ⟨fun vs H Q _ h => F.len vs H Q _ h, fun A outer s H args us vs Q E hr e0 hb hv hs => codeAny_mono (F.run A outer s H args us vs Q _ hr e0 hb hv hs) fun r s' hq => by
    cases r with
    | error e =>
      obtain ⟨_, _, _, _, _, _, _, _, _, _, _, _, _, he⟩ := hq
    | ok fl =>
      cases fl with
      | ret u => exact hq
      | next => exact hq
      | brk => exact hq
      | cont => exact hq⟩
end Mi
namespace Mi
open PySem PySem.Spec PyProof.Rows L2
section
variable {X : Cx} {Ω : Om} {W : WX} {elt iter tg iter1 tg1 : Expr} {f : EF} {c c1 : TF} {it it1 : AF} {pos : Pos} {ifs ifs1 : List Expr} {scope : Scope} {own : List (Str × Nat)} {gt gt1 : TG} {pf pf1 : PF} {vs us vs1 : List Nat}
end
end Mi
namespace Mi
open PySem PySem.Spec PyProof.Rows L2
section
variable {K : PySem.W.Frag} {Ω : Om} {X : Cx}
end
end Mi
namespace Mi
open PySem PySem.Spec PyProof.Rows L2
section
variable {X : Cx} {Ω : Om} {W : WX} {elt iter tg iter1 tg1 : Expr} {f : EF} {c c1 : TF} {it it1 : AF} {pos spos py : Pos} {ifs ifs1 : List Expr} {scope : Scope} {own : List (Str × Nat)} {gt gt1 : TG} {pf pf1 : PF} {vs us : List Nat} {i : Nat} {y : Str}
end
section
variable {X : Cx} {CX : CXT} {n : Nat} {C g : Addr} {fd : FuncData} {ps : List Str} {sp : Sp} {E : XK}
end
section
variable {X : Cx} {Ω : Om} {a b : Expr} {f g : EF} {pos : Pos} {c k : Nat} {F : FF}
end
section
variable {prog : Program} {w : World} {A : Around} {E : Value → Shared → Prop} {s : Shared}
end
end Mi
namespace Mi
open PySem PySem.Spec PyProof.Rows L2
section
variable {X : Cx} {Ω : Om} {W : WX} {e : Expr} {te : TE} {f : EF} {k : Nat} {p1 p2 p3 pos : Pos}
theorem Rs.reverse {K : PySem.W.Frag} {Z ι : List Addr} {M : Mem} {H : Hp} : ∀ {ts : List T} {vs : List V}, Rs K Ω Z ι M H ts vs → Rs K Ω Z ι M H ts.reverse vs.reverse
  | _, _, .nil => .nil
  | _, _, .cons r t => by
    rw [List.reverse_cons, List.reverse_cons]
    exact (Rs.reverse t).append (.cons r .nil)
end
end Mi
namespace Mi
open PySem PySem.Spec PyProof.Rows L2
section
variable {prog : Program} {w : World} {A : Around} {E : Value → Shared → Prop} {s : Shared} {K : Type} [DecidableEq K] {knd : KeyKind prog w K} {kvs : List (K × Value)} {ep : Nat} {r d : Addr}
end
section
variable {X : Cx} {e : Expr} {te : TE} {p apos cpos pos : Pos}
end
section
variable {X : Cx} {Ω : Om} {W : WX} {e : Expr} {fo : EF} {p apos cpos pos : Pos}
end
end Mi
namespace Mi
open PySem PySem.Spec PyProof.Rows L2
def lPlus (f g : EF) : AF := fun σ M => (f σ M).bind fun t M1 => (g σ M1).bind fun u M2 => match lstT M2 t, lstT M2 u with
  | some xs, some ys => bif big (xs ++ ys).length then .ok (xs ++ ys) M2 else .err
  | _, _ => .err
section
variable {X : Cx} {Ω : Om} {W : WX} {a b : Expr} {f g : EF} {pos : Pos}
theorem ml_plus (ha : ME X Ω W a f) (hb : ME X Ω W b g) : ML X Ω W (.BinOp a .Add b pos) (lPlus f g) := L2PE.imp (pe_op op_cat ha hb) fun σ H Q ⟨Z, ι, M, σT, m, rv, q⟩ => by
  refine ⟨Z, ι, M, σT, m, rv, ?_⟩
  unfold lPlus at q
  cases q1 : f σT M with
  | exc c t M1 => rw [q1] at q; exact q
  | err => rw [q1] at q; exact q
  | ok t M1 =>
    rw [q1] at q
    simp only [Res.bind] at q
    intro ι1 H1 v m1 e1 r1
    refine ⟨Z, ι1, M1, σT, m1, rv.ext e1.any, ?_⟩
    cases q2 : g σT M1 with
    | exc c t M2 => rw [q2] at q; exact fun ι2 H2 dd w m2 e2 r2 x2 => q ι2 H2 dd w m2 (e1.trans e2) r2 x2
    | err => rw [q2] at q; exact q
    | ok u M2 =>
      rw [q2] at q
      simp only [Res.bind] at q
      intro ι2 H2 w m2 e2 r2
      cases h1 : lstT M2 t with
      | none => simp only [h1] at q
      | some xs =>
        cases h2 : lstT M2 u with
        | none => simp only [h1, h2] at q
        | some ys =>
          simp only [h1, h2] at q
          cases zb : big (xs ++ ys).length with
          | false => rw [zb] at q; exact q.elim
          | true =>
            rw [zb] at q
            obtain ⟨p, vs, rfl, hp, rp⟩ := lstT_at m2 (r1.ext (Z := Z) e2.any) h1
            obtain ⟨p', ws, rfl, hp', rp'⟩ := lstT_at m2 r2 h2
            refine ⟨p, p', vs, ws, rfl, rfl, hp, hp', ?_, fun d hd => laid_of (σ := σ) m2 (e1.trans e2) q hd (rp.append rp')⟩
            have := big_ok zb
            rw [List.length_append, rp.length, rp'.length] at this
            exact this
end
end Mi
namespace Mi
open PySem PySem.Spec PyProof.Rows L2
set_option maxRecDepth 100000 in
theorem extT_meets (l : Addr) (items : Array Value) (n : Nat) (b : Addr) (items2 : Array Value) (n2 : Nat) (dd : Option Addr) (sl : Array (Option Value)) (hs0 : ¬(!items.isEmpty && Builtin.List.listTooLong (items.size + items2.size)) = true) (hs1 : items.size ≤ sizeLine) (hs2 : items.size + items2.size ≤ sizeLine + 1) :
    Meets (Builtin.«list.extend» ⟨[.ref l, .ref b], []⟩) (fun _ R s => s.heap.get? l = some { cls := .type "list", dict := none, data := .seq items n, slots := #[] } ∧ s.heap.get? b = some { cls := .type "tuple", dict := dd, data := .seq items2 n2, slots := sl } ∧
      R (.ok (.ret Value.none)) { s with heap := s.heap.update l (Obj.mapSeq fun x => x ++ items2), toks := s.toks }) :=
  .of_wp fun prog w A R s ⟨hl, hb, h⟩ => by
    obtain ⟨hp, gg, dr, tk, os⟩ := s
    have k1 := AutoSeq1.idx_int
    have k2 := AutoSeq1.sub_tuple_tuple
    have k3 := AutoSeq1.sub_list_list
    have k4 := AutoSeq1.sub_tuple_list
    have k5 := AutoSeq1.sub_list_tuple
    have hsum : (items ++ items2).size ≤ sizeLine + 1 := by rw [Array.size_append]; exact hs2
    wp_walk using (wpAny_updateSeq hl rfl (hz := hs1) (_hz' := hsum)), wpAny_loadPart' hl, wpAny_loadPart' hb
    exact ⟨_, rfl, h⟩
section
variable {K : PySem.W.Frag} {Ω : Om} {X : Cx} {W : WX} {e o : Expr} {f : EF} {fa : AF} {apos cpos : Pos}
def rExtT (K : PySem.W.Frag) : V → List V → Hp → VK → Prop := fun x vs H Q => ∃ l b xs zs, x = .ref l ∧ vs = [.ref b] ∧ H l = some (.lst xs) ∧ SqT K H b zs ∧ xs.length + zs.length ≤ sizeLine ∧ Q .non (upd H l (.lst (xs ++ zs)))
theorem mt_extT : MtR X "list.extend" (rExtT X.K) := by
  intro pins s σ H x vs v us Q I rx rv h
  obtain ⟨l, b, xs, zs, rfl, rfl, hH, hB, hz, q⟩ := h
  obtain rfl : v = Value.ref l := rx
  obtain ⟨u, rfl, ru⟩ := vals1 rv
  obtain rfl : u = Value.ref b := ru
  obtain ⟨z, its, n, r, hl, e⟩ := I.lstM hH
  obtain ⟨its2, r2, ⟨⟨cls, dd, data, sl⟩, e2, hc, n2, hd⟩, hz2⟩ := I.tuple hB
  simp only at hc hd
  subst hc hd
  have l2 := r2.length
  have hsz : its.toArray.size + its2.toArray.size ≤ sizeLine := by rw [List.size_toArray, List.size_toArray]; omega
  have hlong : ¬ (!its.toArray.isEmpty && Builtin.List.listTooLong (its.toArray.size + its2.toArray.size)) = true := by
    rw [notLongL hsz, Bool.and_false]
    exact Bool.false_ne_true
  refine call_meets F.slot_list_extend ⟨_, e, rfl⟩ F.entry_list_extend (F.args_list_extend_2 _ _) (extT_meets l its.toArray n b its2.toArray n2 dd sl hlong (by rw [List.size_toArray]; omega) (by omega)) ⟨e, e2, ?_⟩
  · refine ⟨.non, _, I.lset (its' := its ++ its2) hH e (by simp) (r.append r2) ?_, rfl, q⟩
    rw [List.length_append]
    omega
def mExtT : OpM := fun M t ts => match locL M t, ts with
  | some (n, xs), [u] => (match tupT u with
    | some ys => bif big (xs.length + ys.length) then some (.non, M.set n (.lst (xs ++ ys))) else none
    | none => none)
  | _, _ => none
theorem mExtT_ok : MtS K Ω "list" (rExtT K) mExtT := fun Z ι M H t ts v vs z M' Q m r rs h k => by
  unfold mExtT at h
  split at h
  · rename_i n xs u hl
    split at h
    · rename_i ys hy
      cases zb : big (xs.length + ys.length) with
      | false => rw [zb] at h; cases h
      | true =>
        rw [zb] at h
        cases h
        obtain ⟨a, ws, rfl, rfl, hn, hm, ha, r1⟩ := locL_ok m r hl
        obtain ⟨w, rfl, ru⟩ := rs.one rfl
        obtain ⟨b, us, rfl, hb, r2⟩ := tupT_ok ru hy
        obtain ⟨m2, e2⟩ := put_list m hn hm ha (r1.append r2)
        have hz := of_decide_eq_true zb
        exact ⟨a, b, ws, us, rfl, rfl, ha, hb, by rw [← r1.length, ← r2.length, sizeLine_eq]; omega, k ι _ _ m2 (e2 []) .non⟩
    · cases h
  · cases h
theorem me_ext2 (ho : ME X Ω W o f) (ha : MA X Ω W [e] fa) (hbase : attributeBase o "extend" X.env (eval o X.env) = eval o X.env := by rfl)
    (hfew : ((backTo cpos (starEach [e] X.env)).all (fun x => !x.1) && (backToKw cpos (keywordEach [] X.env)).all (fun x => x.1.isSome) && decide ([e].length + ([] : List Keyword).length + (if ([] : List Keyword).isEmpty then 0 else 1) < 30)) = true := by rfl)
    (hline : (apos.endLine == cpos.line) = true := by rfl) (hs : starEach [e] X.env = (false, eval e X.env) :: starEach [] X.env := by rfl) (hplain : (backTo cpos (starEach [] X.env)).any (·.1) = false := by rfl) :
    ME X Ω W (.Call (.Attribute o "extend" apos) [e] [] cpos) (eAlt (eMt isLoc mExtend f fa) (eMt isLoc mExtT f fa)) :=
  me_alt (me_extend ho ha hbase hfew hline hs hplain) (me_mt PySem.F.plainAttrs_list PySem.F.slot_list_extend PySem.F.type_list_extend mt_extT mExtT_ok (fun _ _ _ _ _ _ m r h => isLoc_ok m r h) ho ha hbase hfew hline hs hplain)
end
end Mi
namespace Mi
open PySem PySem.Spec PyProof.Rows L2

mutual
def T.lo (n : Nat) : T → Bool
  | .loc k => decide (k < n)
  | .tup xs => T.los n xs
  | .lst xs => T.los n xs
  | .ktup xs => T.los n xs
  | .klst xs => T.los n xs
  | .dct _ kvs => T.lok n kvs
  | .obj _ fs => T.los n fs
  | .xob _ t => T.lo n t
  | .non => true
  | .bl _ => true
  | .int _ => true
  | .str _ => true
def T.los (n : Nat) : List T → Bool
  | [] => true
  | t :: ts => T.lo n t && T.los n ts
def T.lok (n : Nat) : List (T × T) → Bool
  | [] => true
  | kv :: r => T.lo n kv.2 && T.lok n r
end
def MO.lo (n : Nat) : MO → Bool
  | .gone => true
  | .lst xs => T.los n xs
  | .dct _ kvs => T.lok n kvs
  | .obj _ fs => T.los n fs

theorem los_of_lok {n : Nat} : ∀ {kvs : List (T × T)}, T.lok n kvs = true → T.los n (kvs.map (·.2)) = true
  | [], _ => by simp [T.los]
  | kv :: r, h => by
    have h' : kv.2.lo n = true ∧ T.lok n r = true := by simpa [T.lok] using h
    simp [T.los, h'.1, los_of_lok h'.2]
theorem lok_of_los : ∀ {kvs : List (T × T)} {n : Nat}, T.los n (kvs.map (·.2)) = true → T.lok n kvs = true
  | [], _, _ => rfl
  | kv :: r, n, h => by
    have h' : kv.2.lo n = true ∧ T.los n (r.map (·.2)) = true := by simpa [T.los] using h
    simp [T.lok, h'.1, lok_of_los h'.2]
mutual
inductive Fz (M : Mem) (n : Nat) : T → T → Prop
  | same {t} : t.lo n = true → Fz M n t t
  | lst {k xs ys} : n ≤ k → M[k]? = some (.lst xs) → Fzs M n xs ys → Fz M n (.loc k) (.lst ys)
  | dct {k b kvs lvs} : n ≤ k → M[k]? = some (.dct b kvs) → Fzk M n kvs lvs → Fz M n (.loc k) (.dct b lvs)
  | obj {k c xs ys} : n ≤ k → M[k]? = some (.obj c xs) → Fzs M n xs ys → Fz M n (.loc k) (.obj c ys)
  | tup {xs ys} : Fzs M n xs ys → Fz M n (.tup xs) (.tup ys)
  | lstF {xs ys} : Fzs M n xs ys → Fz M n (.lst xs) (.lst ys)
  | dctF {b kvs lvs} : Fzk M n kvs lvs → Fz M n (.dct b kvs) (.dct b lvs)
  | objF {c xs ys} : Fzs M n xs ys → Fz M n (.obj c xs) (.obj c ys)
inductive Fzs (M : Mem) (n : Nat) : List T → List T → Prop
  | nil : Fzs M n [] []
  | cons {t u ts us} : Fz M n t u → Fzs M n ts us → Fzs M n (t :: ts) (u :: us)
inductive Fzk (M : Mem) (n : Nat) : List (T × T) → List (T × T) → Prop
  | nil : Fzk M n [] []
  | cons {k t u ts us} : Fz M n t u → Fzk M n ts us → Fzk M n ((k, t) :: ts) ((k, u) :: us)
end
section
variable {M : Mem} {n : Nat}
mutual
theorem Fz.of_lo : ∀ {t u : T}, Fz M n t u → t.lo n = true → t = u
  | _, _, .same _, _ => rfl
  | _, _, .lst h _ _, q => by have := of_decide_eq_true (show decide (_ < n) = true from q); omega
  | _, _, .dct h _ _, q => by have := of_decide_eq_true (show decide (_ < n) = true from q); omega
  | _, _, .obj h _ _, q => by have := of_decide_eq_true (show decide (_ < n) = true from q); omega
  | _, _, .tup (xs := xs) h, q => by rw [Fzs.of_lo h (show T.los n xs = true by simpa [T.lo] using q)]
  | _, _, .lstF (xs := xs) h, q => by rw [Fzs.of_lo h (show T.los n xs = true by simpa [T.lo] using q)]
  | _, _, .dctF (kvs := kvs) h, q => by rw [Fzk.of_lo h (show T.lok n kvs = true by simpa [T.lo] using q)]
  | _, _, .objF (xs := xs) h, q => by rw [Fzs.of_lo h (show T.los n xs = true by simpa [T.lo] using q)]
theorem Fzs.of_lo : ∀ {ts us : List T}, Fzs M n ts us → T.los n ts = true → ts = us
  | _, _, .nil, _ => rfl
  | _, _, .cons (t := t) (ts := ts) h r, q => by
    have q' : t.lo n = true ∧ T.los n ts = true := by simpa [T.los] using q
    rw [Fz.of_lo h q'.1, Fzs.of_lo r q'.2]
theorem Fzk.of_lo : ∀ {ts us : List (T × T)}, Fzk M n ts us → T.lok n ts = true → ts = us
  | _, _, .nil, _ => rfl
  | _, _, .cons (t := t) (ts := ts) h r, q => by
    have q' : t.lo n = true ∧ T.lok n ts = true := by simpa [T.lok] using q
    rw [Fz.of_lo h q'.1, Fzk.of_lo r q'.2]
end
mutual
theorem Fz.uniq : ∀ {t u v : T}, Fz M n t u → Fz M n t v → u = v
  | _, _, _, .same h, g => Fz.of_lo g h
  | _, _, _, .lst h e r, g => by
    cases g with
    | same q => have := of_decide_eq_true (show decide (_ < n) = true from q); omega
    | lst h' e' r' => rw [e] at e'; cases e'; rw [Fzs.uniq r r']
    | dct h' e' r' => rw [e] at e'; cases e'
    | obj h' e' r' => rw [e] at e'; cases e'
  | _, _, _, .dct h e r, g => by
    cases g with
    | same q => have := of_decide_eq_true (show decide (_ < n) = true from q); omega
    | lst h' e' r' => rw [e] at e'; cases e'
    | dct h' e' r' => rw [e] at e'; cases e'; rw [Fzk.uniq r r']
    | obj h' e' r' => rw [e] at e'; cases e'
  | _, _, _, .obj h e r, g => by
    cases g with
    | same q => have := of_decide_eq_true (show decide (_ < n) = true from q); omega
    | lst h' e' r' => rw [e] at e'; cases e'
    | dct h' e' r' => rw [e] at e'; cases e'
    | obj h' e' r' => rw [e] at e'; cases e'; rw [Fzs.uniq r r']
  | _, _, _, .tup h, g => by
    cases g with
    | same q => exact (Fz.of_lo (.tup h) q).symm
    | tup h' => rw [Fzs.uniq h h']
  | _, _, _, .lstF h, g => by
    cases g with
    | same q => exact (Fz.of_lo (.lstF h) q).symm
    | lstF h' => rw [Fzs.uniq h h']
  | _, _, _, .dctF h, g => by
    cases g with
    | same q => exact (Fz.of_lo (.dctF h) q).symm
    | dctF h' => rw [Fzk.uniq h h']
  | _, _, _, .objF h, g => by
    cases g with
    | same q => exact (Fz.of_lo (.objF h) q).symm
    | objF h' => rw [Fzs.uniq h h']
theorem Fzs.uniq : ∀ {t u v : List T}, Fzs M n t u → Fzs M n t v → u = v
  | _, _, _, .nil, g => by cases g; rfl
  | _, _, _, .cons h r, g => by
    cases g with
    | cons h' r' => rw [Fz.uniq h h', Fzs.uniq r r']
theorem Fzk.uniq : ∀ {t u v : List (T × T)}, Fzk M n t u → Fzk M n t v → u = v
  | _, _, _, .nil, g => by cases g; rfl
  | _, _, _, .cons h r, g => by
    cases g with
    | cons h' r' => rw [Fz.uniq h h', Fzk.uniq r r']
end
end
theorem Fzk.split {M : Mem} {n : Nat} : ∀ {ts us : List (T × T)}, Fzk M n ts us → ts.map (·.1) = us.map (·.1) ∧ True
  | _, _, .nil => ⟨rfl, trivial⟩
  | _, _, .cons _ fs => ⟨by simp [(Fzk.split fs).1], trivial⟩
def Kept (M0 M' : Mem) : Prop := M0.length ≤ M'.length ∧ ∀ (i : Nat) (o : MO), i < M0.length → M'[i]? = some o → M0[i]? = some o ∨ o.lo M0.length = true
open Classical in
noncomputable def scr (F : FF) : FF := fun ts M => match F ts M with
  | .ok t' M' => if h : (∃ t, Fz M' M.length t' t) ∧ Kept M M' then .ok h.1.choose (M'.take M.length) else .err
  | .exc c t' M' => if h : (∃ t, Fz M' M.length t' t) ∧ Kept M M' then .exc c h.1.choose (M'.take M.length) else .err
  | .err => .err
open Classical in
theorem scr_ok {F : FF} {ts : List T} {M M' : Mem} {t' t : T} (h : F ts M = .ok t' M') (z : Fz M' M.length t' t) (k : Kept M M') : scr F ts M = .ok t (M'.take M.length) := by
  unfold scr
  rw [h]
  have hh : (∃ t, Fz M' M.length t' t) ∧ Kept M M' := ⟨⟨t, z⟩, k⟩
  show (if h : (∃ t, Fz M' M.length t' t) ∧ Kept M M' then Res.ok h.1.choose (M'.take M.length) else .err) = _
  rw [dif_pos hh, Fz.uniq hh.1.choose_spec z]
theorem Kept.new {M more : Mem} : Kept M (M ++ more) := ⟨by simp, fun i o hi h => .inl (by rw [List.getElem?_append_left hi] at h; exact h)⟩
theorem Kept.refl {M : Mem} : Kept M M := ⟨Nat.le_refl _, fun i o _ h => .inl h⟩
section
variable {K : PySem.W.Frag} {Ω : Om} {Z ι : List Addr} {M : Mem} {H : Hp} {n : Nat}
theorem live_take {a : Addr} (h : Live (ι.take n) (M.take n) a) : Live ι M a ∧ ∃ i o, i < n ∧ ι[i]? = some a ∧ M[i]? = some o ∧ o ≠ .gone := by
  obtain ⟨i, o, h1, h2, h3⟩ := h
  rw [List.getElem?_take] at h1 h2
  by_cases hi : i < n
  · rw [if_pos hi] at h1 h2
    exact ⟨⟨i, o, h1, h2, h3⟩, i, o, hi, h1, h2, h3⟩
  · rw [if_neg hi] at h1; cases h1
theorem still_take {a : Addr} (s : Still Z ι M a) : Still Z (ι.take n) (M.take n) a := ⟨fun l => s.1 (live_take l).1, s.2⟩
mutual
theorem R.low (m : RM K Ω Z ι M H) : ∀ {t : T} {v : V}, R K Ω Z ι M H t v → t.lo n = true → R K Ω Z (ι.take n) (M.take n) H t v
  | _, _, .non, _ => .non
  | _, _, .bl b, _ => .bl b
  | _, _, .int i, _ => .int i
  | _, _, .str x s h l, _ => .str x s h l
  | _, _, .tup h r, q => .tup h (Rs.low m r (by simpa [T.lo] using q))
  | _, _, .ktup h d r, q => .ktup h d (Rs.low m r (by simpa [T.lo] using q))
  | _, _, .lst h s r, q => .lst h (still_take s) (Rs.low m r (by simpa [T.lo] using q))
  | _, _, .klst h r, q => .klst h (Rs.low m r (by simpa [T.lo] using q))
  | _, _, .dK h s k r, q => .dK h (still_take s) k (Rs.low m r (los_of_lok (by simpa [T.lo] using q)))
  | _, _, .dT h s k r, q => .dT h (still_take s) k (Rs.low m r (los_of_lok (by simpa [T.lo] using q)))
  | _, _, .obj h s k r, q => .obj h (still_take s) k (Rs.low m r (by simpa [T.lo] using q))
  | _, _, .xob h1 h2 h3 h4 s r, q => .xob h1 h2 h3 h4 (still_take s) (R.low m r (by simpa [T.lo] using q))
  | _, _, .loc (n := k) h, q => .loc (by
      have : k < n := of_decide_eq_true (show decide (k < n) = true by simpa [T.lo] using q)
      rw [List.getElem?_take, if_pos this]
      exact h)
theorem Rs.low (m : RM K Ω Z ι M H) : ∀ {ts : List T} {vs : List V}, Rs K Ω Z ι M H ts vs → T.los n ts = true → Rs K Ω Z (ι.take n) (M.take n) H ts vs
  | _, _, .nil, _ => .nil
  | _, _, .cons (t := t) (ts := ts) r rs, q => .cons (R.low m r (show t.lo n = true ∧ T.los n ts = true by simpa [T.los] using q).1) (Rs.low m rs (show t.lo n = true ∧ T.los n ts = true by simpa [T.los] using q).2)
end
mutual
theorem R.lo : ∀ {t : T} {v : V}, R K Ω Z ι M H t v → t.lo ι.length = true
  | _, _, .non => rfl
  | _, _, .bl b => rfl
  | _, _, .int i => rfl
  | _, _, .str x s h l => rfl
  | _, _, .tup h r => by simpa [T.lo] using Rs.lo r
  | _, _, .ktup h _ r => by simpa [T.lo] using Rs.lo r
  | _, _, .lst h s r => by simpa [T.lo] using Rs.lo r
  | _, _, .klst h r => by simpa [T.lo] using Rs.lo r
  | _, _, .dK h s k r => by simpa [T.lo] using lok_of_los (Rs.lo r)
  | _, _, .dT h s k r => by simpa [T.lo] using lok_of_los (Rs.lo r)
  | _, _, .obj h s k r => by simpa [T.lo] using Rs.lo r
  | _, _, .xob _ _ _ _ _ r => by simpa [T.lo] using R.lo r
  | _, _, .loc h => by simpa [T.lo] using (List.getElem?_eq_some_iff.mp h).1
theorem Rs.lo : ∀ {ts : List T} {vs : List V}, Rs K Ω Z ι M H ts vs → T.los ι.length ts = true
  | _, _, .nil => rfl
  | _, _, .cons r rs => by simp [T.los, R.lo r, Rs.lo rs]
end
theorem RO.lo {o : MO} {a : Addr} (r : RO K Ω Z ι M H o a) : o.lo ι.length = true := by
  cases r with
  | gone _ => rfl
  | lst _ r => exact r.lo
  | dK _ _ r => exact lok_of_los r.lo
  | dT _ _ r => exact lok_of_los r.lo
  | obj _ _ r => exact r.lo
theorem RO.low (m : RM K Ω Z ι M H) {o : MO} {a : Addr} (r : RO K Ω Z ι M H o a) (h : o.lo n = true) : RO K Ω Z (ι.take n) (M.take n) H o a := by
  cases r with
  | gone q => exact .gone q
  | lst q r => exact .lst q (r.low m h)
  | dK q k r => exact .dK q k (r.low m (los_of_lok h))
  | dT q k r => exact .dT q k (r.low m (los_of_lok h))
  | obj q k r => exact .obj q k (r.low m h)
theorem still_new (m : RM K Ω Z ι M H) {k : Nat} {a : Addr} {o : MO} (hk : n ≤ k) (h : ι[k]? = some a) (e : M[k]? = some o) (g : o ≠ .gone) : Still Z (ι.take n) (M.take n) a := by
  refine ⟨fun l => ?_, fun z => (m.zin a z).2 ⟨k, o, h, e, g⟩⟩
  obtain ⟨_, i, u, hi, h1, h2, h3⟩ := live_take l
  have := m.nd i k a u o h1 h h2 e h3 g
  omega
mutual
theorem Fz.sound (m : RM K Ω Z ι M H) : ∀ {t u : T} {v : V}, Fz M n t u → R K Ω Z ι M H t v → R K Ω Z (ι.take n) (M.take n) H u v
  | _, _, _, .same h, r => R.low m r h
  | _, _, _, .lst hk e f, r => by
    cases r with
    | loc h =>
      obtain ⟨o, e2, ro⟩ := m.at h
      rw [e] at e2
      cases e2
      cases ro with
      | lst q rs => exact .lst q (still_new m hk h e (by intro z; cases z)) (Fzs.sound m f rs)
  | _, _, _, .dct hk e f, r => by
    cases r with
    | loc h =>
      obtain ⟨o, e2, ro⟩ := m.at h
      rw [e] at e2
      cases e2
      cases ro with
      | dK q k rs =>
        obtain ⟨f1, f2⟩ := Fzk.split f
        exact .dK (.inl q) (still_new m hk h e (by intro z; cases z)) (by rw [← f1]; exact k) (Fzk.sound m f rs)
      | dT q k rs =>
        obtain ⟨f1, f2⟩ := Fzk.split f
        exact .dT (.inl q) (still_new m hk h e (by intro z; cases z)) (by rw [← f1]; exact k) (Fzk.sound m f rs)
  | _, _, _, .obj hk e f, r => by
    cases r with
    | loc h =>
      obtain ⟨o, e2, ro⟩ := m.at h
      rw [e] at e2
      cases e2
      cases ro with
      | obj q k rs => exact .obj q (still_new m hk h e (by intro z; cases z)) k (Fzs.sound m f rs)
  | _, _, _, .tup f, r => by
    cases r with
    | tup q rs => exact .tup q (Fzs.sound m f rs)
  | _, _, _, .lstF f, r => by
    cases r with
    | lst q s rs => exact .lst q (still_take s) (Fzs.sound m f rs)
  | _, _, _, .dctF f, r => by
    cases r with
    | dK q s k rs =>
      obtain ⟨f1, f2⟩ := Fzk.split f
      exact .dK q (still_take s) (by rw [← f1]; exact k) (Fzk.sound m f rs)
    | dT q s k rs =>
      obtain ⟨f1, f2⟩ := Fzk.split f
      exact .dT q (still_take s) (by rw [← f1]; exact k) (Fzk.sound m f rs)
  | _, _, _, .objF f, r => by
    cases r with
    | obj q s k rs => exact .obj q (still_take s) k (Fzs.sound m f rs)
theorem Fzs.sound (m : RM K Ω Z ι M H) : ∀ {ts us : List T} {vs : List V}, Fzs M n ts us → Rs K Ω Z ι M H ts vs → Rs K Ω Z (ι.take n) (M.take n) H us vs
  | _, _, _, .nil, r => by cases r; exact .nil
  | _, _, _, .cons f fs, r => by
    cases r with
    | cons r rs => exact .cons (Fz.sound m f r) (Fzs.sound m fs rs)
theorem Fzk.sound (m : RM K Ω Z ι M H) : ∀ {ts us : List (T × T)} {vs : List V}, Fzk M n ts us → Rs K Ω Z ι M H (ts.map (·.2)) vs → Rs K Ω Z (ι.take n) (M.take n) H (us.map (·.2)) vs
  | _, _, _, .nil, r => by cases r; exact .nil
  | _, _, _, .cons f fs, r => by
    cases r with
    | cons r rs => exact .cons (Fz.sound m f r) (Fzk.sound m fs rs)
end
theorem rm_take {ι' : List Addr} {M' : Mem} {H' : Hp} (m : RM K Ω Z ι M H) (m' : RM K Ω Z ι' M' H') (k : Kept M M') : RM K Ω Z (ι'.take M.length) (M'.take M.length) H' := by
  refine ⟨m'.tab, by rw [List.length_take, List.length_take, m'.len], fun i j a o u h1 h2 h3 h4 g1 g2 => ?_, fun i a o h1 h2 => ?_, fun z q => ⟨(m'.zin z q).1, fun l => (m'.zin z q).2 (live_take l).1⟩⟩
  · rw [List.getElem?_take] at h1 h2 h3 h4
    by_cases hi : i < M.length
    · by_cases hj : j < M.length
      · rw [if_pos hi] at h1 h3
        rw [if_pos hj] at h2 h4
        exact m'.nd i j a o u h1 h2 h3 h4 g1 g2
      · rw [if_neg hj] at h2; cases h2
    · rw [if_neg hi] at h1; cases h1
  · rw [List.getElem?_take] at h1 h2
    by_cases hi : i < M.length
    · rw [if_pos hi] at h1 h2
      refine (m'.mem i a o h1 h2).low m' ?_
      rcases k.2 i o hi h2 with q | q
      · obtain ⟨b, hb, ro⟩ := m.addr q
        have := ro.lo
        rw [m.len] at this
        exact this
      · exact q
    · rw [if_neg hi] at h1; cases h1
theorem ext_take {ι' : List Addr} {M' : Mem} {H' : Hp} (m : RM K Ω Z ι M H) (e : Ext [] ι M H ι' M' H') : ι'.take M.length = ι ∧ Ext [] ι M H (ι'.take M.length) (M'.take M.length) H' := by
  obtain ⟨more, hm⟩ := e.pre
  have h1 : ι'.take M.length = ι := by rw [hm, ← m.len, List.take_left]
  refine ⟨h1, ⟨⟨[], by rw [h1, List.append_nil]⟩, fun a o q s t => ⟨(e.froz a o q s t).1, fun l => (e.froz a o q s t).2 (live_take l).1⟩, e.tups, e.frzs, e.there⟩⟩
open Classical in
theorem spF_scr {k : Nat} {F : FF} {vs : List V} {Q : VK} {E : XK} (h : spF K Ω k (scr F) vs H Q E) : spF K Ω k F vs H Q E := by
  obtain ⟨Z, ι, M, ts, m, rs, hl, p⟩ := h
  refine ⟨Z, ι, M, ts, m, rs, hl, ?_⟩
  unfold scr at p
  cases e : F ts M with
  | err => rw [e] at p; exact p.elim
  | ok t' M' =>
    rw [e] at p
    dsimp only at p
    split at p
    · rename_i hh
      intro ι' H' v m' x r
      exact p _ H' v (rm_take m m' hh.2) (ext_take m x).2 (hh.1.choose_spec.sound m' r)
    · exact p.elim
  | exc c t' M' =>
    rw [e] at p
    dsimp only at p
    split at p
    · rename_i hh
      intro ι' H' dd v m' x r hd
      exact fun st => p _ H' dd v (rm_take m m' hh.2) (ext_take m x).2 (hh.1.choose_spec.sound m' r) hd (still_take st)
    · exact p.elim
end
end Mi
namespace Mi
open PySem PySem.Spec PyProof.Rows L2

section
variable {X : Cx}
end
abbrev DF := TV → Mem → Res (List (T × T))
section
variable {X : Cx} {Ω : Om} {W : WX} {e : Expr} {tk : Bool} {f : DF}
end
section
variable {X : Cx} {Ω : Om} {W : WX} {e : Expr} {f : EF} {g : DF} {pos p : Pos} {keys : List (Option Expr)} {values : List Expr}
end
section
variable {K : PySem.W.Frag} {Ω : Om} {Z ι : List Addr} {M : Mem} {H : Hp}
end
section
variable {X : Cx} {Ω : Om} {W : WX} {e : Expr} {f : EF} {pos p : Pos}
end
end Mi
namespace Mi
open PySem PySem.Spec PyProof.Rows L2
section
variable {X : Cx} {Ω : Om} {W : WX} {e : Expr} {f : EF}
end
end Mi
namespace Mi
open PySem L2

class Enc (α : Type) [DecidableEq α] where
  t : α → T
  dep : Nat
  pl : ∀ n a, dep ≤ n → plainN n (t a) = true
  eq : ∀ n a b, dep ≤ n → teqN n (t a) (t b) = some (decide (a = b))
  lo : ∀ n a, (t a).lo n = true
structure Nm where
  x : List Nat
  ok : letters x = true
  deriving DecidableEq
theorem Nm.ext' {a b : Nm} (h : a.x = b.x) : a = b := by cases a; cases b; cases h; rfl
def Nm.t (w : Nm) : T := .str w.x
theorem letters_ground {x : List Nat} (h : letters x = true) : ground x = true := by
  unfold letters at h
  rw [Bool.and_eq_true, Bool.and_eq_true] at h
  refine List.all_eq_true.mpr fun c hc => ?_
  have := List.all_eq_true.mp h.2 c hc
  rw [Bool.and_eq_true, decide_eq_true_eq, decide_eq_true_eq] at this
  exact decide_eq_true (by unfold symB; omega)
theorem strEq_ground {x y : List Nat} (hx : ground x = true) (hy : ground y = true) : strEq x y = some (decide (x = y)) := by
  unfold strEq
  by_cases h : x = y
  · subst h; simp
  · have : (x == y) = false := by simpa using h
    rw [this, hx, hy, decide_eq_false h]
    rfl
instance : Enc Nm where
  t := Nm.t
  dep := 1
  pl := fun n a h => by
    cases n with
    | zero => omega
    | succ n => rfl
  eq := fun n a b h => by
    cases n with
    | zero => omega
    | succ n =>
      show strEq a.x b.x = _
      rw [strEq_ground (letters_ground a.ok) (letters_ground b.ok)]
      congr 1
      exact decide_eq_decide.mpr ⟨Nm.ext', fun h => by rw [h]⟩
  lo := fun n a => rfl
instance : Enc Int where
  t := T.int
  dep := 1
  pl := fun n a h => by
    cases n with
    | zero => omega
    | succ n => rfl
  eq := fun n a b h => by
    cases n with
    | zero => omega
    | succ n =>
      show some (a == b) = _
      by_cases e : a = b <;> simp [e]
  lo := fun n a => rfl
def natT (n : Nat) : T := .int (n : Nat)
instance : Enc Nat where
  t := natT
  dep := 1
  pl := fun n a h => by
    cases n with
    | zero => omega
    | succ n => rfl
  eq := fun n a b h => by
    cases n with
    | zero => omega
    | succ n =>
      show some ((a : Int) == (b : Int)) = _
      by_cases e : a = b
      · subst e; simp
      · have : ((a : Int) == (b : Int)) = false := by simpa using (fun z : (a : Int) = b => e (by omega))
        rw [this, decide_eq_false e]
  lo := fun n a => rfl
theorem teqs_map {α : Type} [DecidableEq α] [Enc α] {n : Nat} (h : Enc.dep α ≤ n) : ∀ (xs ys : List α), teqs (teqN n) (xs.map Enc.t) (ys.map Enc.t) = some (decide (xs = ys))
  | [], [] => rfl
  | [], _ :: _ => rfl
  | _ :: _, [] => rfl
  | x :: xs, y :: ys => by
    show (match teqN n (Enc.t x) (Enc.t y) with | some true => teqs (teqN n) (xs.map Enc.t) (ys.map Enc.t) | r => r) = _
    rw [Enc.eq n x y h]
    by_cases e : x = y
    · subst e
      rw [decide_eq_true rfl]
      show teqs (teqN n) (xs.map Enc.t) (ys.map Enc.t) = _
      rw [teqs_map h xs ys]
      by_cases e2 : xs = ys <;> simp [e2]
    · rw [decide_eq_false e]
      simp [e]
theorem los_map {α : Type} [DecidableEq α] [Enc α] {n : Nat} : ∀ (xs : List α), T.los n (xs.map Enc.t) = true
  | [] => rfl
  | x :: xs => by simp [T.los, Enc.lo, los_map xs]
theorem pl_map {α : Type} [DecidableEq α] [Enc α] {n : Nat} (h : Enc.dep α ≤ n) (xs : List α) : (xs.map Enc.t).all (plainN n) = true := by
  rw [List.all_eq_true]
  intro t ht
  obtain ⟨x, _, rfl⟩ := List.mem_map.mp ht
  exact Enc.pl n x h
def tupE {α : Type} [DecidableEq α] [Enc α] (xs : List α) : T := .tup (xs.map Enc.t)
instance {α : Type} [DecidableEq α] [Enc α] : Enc (List α) where
  t := tupE
  dep := Enc.dep α + 1
  pl := fun n a h => by
    cases n with
    | zero => omega
    | succ n => exact pl_map (by omega) a
  eq := fun n a b h => by
    cases n with
    | zero => omega
    | succ n =>
      show (bif (a.map Enc.t).length == (b.map Enc.t).length then teqs (teqN n) (a.map Enc.t) (b.map Enc.t) else some false) = _
      rw [List.length_map, List.length_map, teqs_map (by omega)]
      cases z : a.length == b.length with
      | true => rfl
      | false =>
        have : a ≠ b := fun e => by rw [e] at z; simp at z
        rw [decide_eq_false this]
        rfl
  lo := fun n a => by show T.lo n (.tup _) = true; simp [T.lo, los_map]
def pairE {α β : Type} [DecidableEq α] [DecidableEq β] [Enc α] [Enc β] (p : α × β) : T := .tup [Enc.t p.1, Enc.t p.2]
instance {α β : Type} [DecidableEq α] [DecidableEq β] [Enc α] [Enc β] : Enc (α × β) where
  t := pairE
  dep := max (Enc.dep α) (Enc.dep β) + 1
  pl := fun n a h => by
    cases n with
    | zero => omega
    | succ n =>
      show ([Enc.t a.1, Enc.t a.2] : List T).all (plainN n) = true
      simp [Enc.pl n a.1 (by omega), Enc.pl n a.2 (by omega)]
  eq := fun n a b h => by
    cases n with
    | zero => omega
    | succ n =>
      show teqs (teqN n) [Enc.t a.1, Enc.t a.2] [Enc.t b.1, Enc.t b.2] = _
      simp only [teqs, Enc.eq n a.1 b.1 (by omega), Enc.eq n a.2 b.2 (by omega)]
      obtain ⟨a1, a2⟩ := a
      obtain ⟨b1, b2⟩ := b
      by_cases e1 : a1 = b1 <;> by_cases e2 : a2 = b2 <;> simp [e1, e2]
  lo := fun n a => by show T.lo n (.tup _) = true; simp [T.lo, T.los, Enc.lo]
section
variable {α : Type} [DecidableEq α] [Enc α] {M : Mem}
end
section
variable {α : Type} {p : PF} {c : TF} {f : EF} {σ : TV} {M : Mem} {it : AF} {own : List Nat} {b : SF}
end
theorem splitC_app (c : Nat) (rest : List Nat) : ∀ x : List Nat, c ∉ x → splitC c (x ++ c :: rest) = x :: splitC c rest
  | [], _ => by
    show (bif c == c then [] :: splitC c rest else _) = _
    rw [beq_self_eq_true]
    rfl
  | d :: x, h => by
    rw [List.mem_cons, not_or] at h
    show (bif d == c then [] :: splitC c (x ++ c :: rest) else match splitC c (x ++ c :: rest) with | [] => [[d]] | p :: ps => (d :: p) :: ps) = _
    have : (d == c) = false := by simpa using Ne.symm h.1
    rw [this, splitC_app c rest x h.2]
    rfl
theorem splitC_none (c : Nat) : ∀ x : List Nat, c ∉ x → splitC c x = [x]
  | [], _ => rfl
  | d :: x, h => by
    rw [List.mem_cons, not_or] at h
    show (bif d == c then [] :: splitC c x else match splitC c x with | [] => [[d]] | p :: ps => (d :: p) :: ps) = _
    have : (d == c) = false := by simpa using Ne.symm h.1
    rw [this, splitC_none c x h.2]
    rfl
theorem split_join (c : Nat) : ∀ L : List (List Nat), L ≠ [] → (∀ l ∈ L, c ∉ l) → splitC c (joinC [c] L) = L
  | [], h, _ => absurd rfl h
  | [l], _, h => splitC_none c l (h l (by simp))
  | l :: m :: L, _, h => by
    show splitC c (l ++ c :: joinC [c] (m :: L)) = _
    rw [splitC_app c _ l (h l (by simp)), split_join c (m :: L) (by simp) fun x hx => h x (List.mem_cons_of_mem _ hx)]
theorem isLoc_t {M : Mem} {n : Nat} {xs : List T} (h : M[n]? = some (.lst xs)) : locL M (.loc n) = some (n, xs) := by
  show (match M[n]? with | some (.lst ts) => some (n, ts) | _ => none) = _
  rw [h]
theorem isLoc_b {M : Mem} {n : Nat} {xs : List T} (h : M[n]? = some (.lst xs)) : isLoc M (.loc n) = true := by
  unfold isLoc
  rw [isLoc_t h]
  rfl
theorem seqT_loc {M : Mem} {n : Nat} {xs : List T} (h : M[n]? = some (.lst xs)) : seqT M (.loc n) = some xs := by
  show (match M[n]? with | some (.lst ts) => some ts | _ => none) = _
  rw [h]
theorem bLen_loc {M : Mem} {n : Nat} {xs : List T} (h : M[n]? = some (.lst xs)) : bLen M [.loc n] = some (.int xs.length) := by
  show (seqT M (.loc n)).map (fun xs => T.int xs.length) = _
  rw [seqT_loc h]
  rfl
section
variable {M : Mem} {a b c x : MO}
end
section
variable {M : Mem}
end
end Mi
namespace Mi
open PySem L2
section
variable {σ : TV} {M M1 M2 M3 : Mem} {t u z : T} {ts us : List T} {f g h fo fi fv : EF} {fa : AF} {c : TF} {s s1 s2 : SF} {i j k : Nat} {b : Bool}
end
end Mi
namespace Mi
open PySem L2
section
variable {σ : TV} {M M1 M2 M3 : Mem} {p : PF} {c : TF} {fk f : EF} {it : AF} {own : List Nat}
end
section
variable {α : Type} {p : PF} {b : SF} {M : Mem}
end
end Mi
namespace Mi
open PySem L2
abbrev P3 := Int × Int × Int
def potO (p : P3) : MO := .lst [.int p.1, .int p.2.1, .int p.2.2]
def pm (M : Mem) (n : Nat) (p : P3) : Mem := M.set n (potO p)
def Bud (k : Nat) (p : P3) : Prop := 0 ≤ p.1 ∧ (0 ≤ p.2.1 ∧ p.2.1 < 2305843009213693951) ∧ 0 ≤ p.2.2 ∧ p.2.2 + k ≤ 2 ^ 50
section
variable {M more l : Mem} {n i k j : Nat} {p q : P3} {F : FF} {ts : List T} {t t' : T}
theorem Bud.le (h : Bud k p) (g : j ≤ k) : Bud j p := ⟨h.1, h.2.1, h.2.2.1, by have := h.2.2.2; omega⟩
end
end Mi
namespace Mi
open PySem L2
theorem erase_perm {α : Type} : ∀ (l : List α) (j : Nat) (h : j < l.length), (l[j] :: l.eraseIdx j).Perm l
  | a :: l, 0, _ => List.Perm.refl _
  | a :: l, j + 1, h => by
    have ih := erase_perm l j (Nat.lt_of_succ_lt_succ h)
    show ((l[j]'(Nat.lt_of_succ_lt_succ h)) :: a :: l.eraseIdx j).Perm (a :: l)
    exact (List.Perm.swap _ _ _).trans (ih.cons a)
end Mi
namespace Mi
section
variable {α : Type} [DecidableEq α]
end
end Mi
namespace Mi
open PySem L2
section
variable {α : Type} [DecidableEq α] [Enc α] {M : Mem}
end
end Mi
namespace Mi
open PySem L2
section
variable {σ : TV} {M M1 M2 : Mem} {f g : EF} {t u : T}
end
section
variable {G : FF} {M : Mem} {n : Nat} {p : P3} {k u : Nat}
end
end Mi
namespace Mi
open PySem PySem.Spec PyProof.Rows L2
structure Sw (d : Addr) (u : HO) (H H' : Hp) : Prop where
  isD : (∃ ws, u = .dK ws) ∨ ∃ ws, u = .dT ws
  same : ∀ a, a ≠ d → H' a = H a
  at_ : (H d = some u ∧ ∃ od, H' d = some (.frz od u)) ∨ (H' d = some u ∧ ∃ od, H d = some (.frz od u))
section
variable {d : Addr} {u : HO} {H H' : Hp}
theorem Sw.free {od : Obj} (hD : (∃ ws, u = .dK ws) ∨ ∃ ws, u = .dT ws) (h : H d = some (.frz od u)) : Sw d u H (upd H d u) := ⟨hD, fun a ha => upd_ne ha, .inr ⟨upd_same, od, h⟩⟩
theorem Sw.rd (s : Sw d u H H') {a : Addr} {v : HO} (h : Rd H a v) (hv : ∀ o w, v ≠ .frz o w) : Rd H' a v := by
  by_cases e : a = d
  · subst e
    rcases s.at_ with ⟨h1, od, h2⟩ | ⟨h1, od, h2⟩
    · rcases h with h | ⟨o, h⟩
      · rw [h1] at h
        cases h
        exact .inr ⟨od, h2⟩
      · rw [h1] at h
        cases h
        rcases s.isD with ⟨_, q⟩ | ⟨_, q⟩ <;> cases q
    · rcases h with h | ⟨o, h⟩
      · rw [h2] at h
        cases h
        exact absurd rfl (hv _ _)
      · rw [h2] at h
        cases h
        exact .inl h1
  · rcases h with h | ⟨o, h⟩
    · exact .inl (by rw [s.same a e]; exact h)
    · exact .inr ⟨o, by rw [s.same a e]; exact h⟩
theorem Sw.eq (s : Sw d u H H') {a : Addr} {o : HO} (h : H a = some o) (h1 : ∀ o' w, o ≠ .frz o' w) (h2 : ∀ ws, o ≠ .dK ws) (h3 : ∀ ws, o ≠ .dT ws) : H' a = some o := by
  by_cases e : a = d
  · subst e
    rcases s.at_ with ⟨g, _⟩ | ⟨_, _, g⟩
    · rw [g] at h
      cases h
      rcases s.isD with ⟨_, q⟩ | ⟨_, q⟩
      · exact absurd q (h2 _)
      · exact absurd q (h3 _)
    · rw [g] at h
      cases h
      exact absurd rfl (h1 _ _)
  · rw [s.same a e]; exact h
theorem Sw.frz (s : Sw d u H H') {a : Addr} {o : Obj} {w : HO} (h : H a = some (.frz o w)) (h2 : ∀ ws, w ≠ .dK ws) (h3 : ∀ ws, w ≠ .dT ws) : H' a = some (.frz o w) := by
  by_cases e : a = d
  · subst e
    rcases s.at_ with ⟨g, _⟩ | ⟨_, _, g⟩
    · rw [g] at h
      cases h
      rcases s.isD with ⟨_, q⟩ | ⟨_, q⟩ <;> cases q
    · rw [g] at h
      cases h
      rcases s.isD with ⟨_, q⟩ | ⟨_, q⟩
      · exact absurd q (h2 _)
      · exact absurd q (h3 _)
  · rw [s.same a e]; exact h
theorem Sw.sqt {K : PySem.W.Frag} (s : Sw d u H H') {a : Addr} {vs : List V} (h : SqT K H a vs) : SqT K H' a vs := by
  rcases h with h | h
  · exact .inl (s.rd h (by intro _ _ z; cases z))
  · exact .inr h
theorem Sw.nd {K : PySem.W.Frag} (s : Sw d u H H') {a : Addr} (h : ND K H a) : ND K H' a := h.elim (fun ⟨o, ws, q, r⟩ => .inl ⟨o, ws, s.frz q (by intro _ z; cases z) (by intro _ z; cases z), r⟩) .inr
variable {K : PySem.W.Frag} {Ω : Om} {Z ι : List Addr} {M : Mem}
theorem Sw.there (s : Sw d u H H') {a : Addr} (h : H a ≠ none) : H' a ≠ none := by
  by_cases e : a = d
  · subst e
    rcases s.at_ with ⟨_, _, g⟩ | ⟨g, _⟩ <;> (rw [g]; exact nofun)
  · rw [s.same a e]; exact h
end
end Mi
namespace Mi
open PySem PySem.Spec PyProof.Rows L2
section
variable {X : Cx} {e tg : Expr} {t : TE} {st : Stmt} {ts : TS}
end
end Mi
namespace Mi
open PySem PySem.Spec PyProof.Rows L2
section
variable {K : PySem.W.Frag} {Ω : Om} {W : WX} {gt : TG} {pf : PF} {vs : List Nat} {b : SF}
end
section
variable {X : Cx} {Ω : Om} {W : WX} {tg e : Expr} {body : List Stmt} {gt : TG} {pf : PF} {vs : List Nat} {b : SF} {f : EF} {pos : Pos}
end
end Mi
namespace Mi
open PySem PySem.Spec PyProof.Rows L2
section
variable {K : PySem.W.Frag} {Ω : Om} {W : WX} {gt : TG} {pf : PF} {vs : List Nat} {c : TF} {f : EF} {own : List (Str × Nat)}
end
section
variable {X : Cx} {Ω : Om} {W : WX} {elt e tg : Expr} {f fd : EF} {c : TF} {pos : Pos} {ifs : List Expr} {scope : Scope} {own : List (Str × Nat)} {gt : TG} {pf : PF} {vs : List Nat}
end
end Mi
namespace Mi
open PySem PySem.Spec PyProof.Rows L2
section
variable {X : Cx} {e : Expr} {te : TE} {p apos cpos pos : Pos}
end
theorem RO.grow {K : PySem.W.Frag} {Ω : Om} {Z Z' ι : List Addr} {M : Mem} {H : Hp} (g : ∀ z ∈ Z', z ∈ Z ∨ H z = none) : ∀ {o : MO} {a : Addr}, RO K Ω Z ι M H o a → RO K Ω Z' ι M H o a
  | _, _, .gone q => .gone q
  | _, _, .lst q r => .lst q (r.grow g)
  | _, _, .dK q k r => .dK q k (r.grow g)
  | _, _, .dT q k r => .dT q k (r.grow g)
  | _, _, .obj q k r => .obj q k (r.grow g)
section
variable {X : Cx} {Ω : Om} {W : WX} {e : Expr} {fo : EF} {p apos cpos pos : Pos}
end
end Mi
namespace Mi
open PySem PySem.Spec PyProof.Rows L2
section
variable {K : PySem.W.Frag} {Ω : Om} {X : Cx}
end
section
variable {M M1 M2 : Mem} {f g fi fo : EF} {σ : TV}
end
section
variable {p : PF} {b : SF} {it : AF}
end
end Mi
namespace Mi
open PySem PySem.Spec PyProof.Rows L2
structure FnQ (P : Program) (w : World) (K : PySem.W.Frag) (mg : Str → Option Value) (base : Heap) (CX : CXT) (k : Nat) (f : Addr) (fd : FuncData) (ps : List Str) (sp : Sp) : Prop where
  len : ∀ vs H Q E, sp vs H Q E → vs.length = ps.length
  run : ∀ (A : Around) (outer : List Env) (s : Shared) (H : Hp) (args : Args) (us : List Value) (vs : List V) (Q : VK) (E : XK), Room k A → A.guards = some [] → Env0 P w K mg base A outer s H → BindsTo s fd args (ps.zip us) → Vals vs us → sp vs H Q E → codeAny (model P w) A (.call (.ref f) args) (CR CX outer P w H s Q E) s
section
variable {P : Program} {w : World} {K : PySem.W.Frag} {mg : Str → Option Value} {base : Heap} {Ω : Om} {CX : CXT} {k : Nat} {f : Addr} {fd : FuncData} {ps : List Str} {sp sp' : Sp}
theorem FnQ.imp (F : FnQ P w K mg base CX k f fd ps sp) (h : ∀ vs H Q E, sp' vs H Q E → sp vs H Q E) : FnQ P w K mg base CX k f fd ps sp' :=
  ⟨fun vs H Q E q => F.len vs H Q E (h _ _ _ _ q), fun A outer s H args us vs Q E hr hg e0 hb hv hs => F.run A outer s H args us vs Q E hr hg e0 hb hv (h _ _ _ _ hs)⟩
theorem _root_.L2.FnOk.q (F : FnOk P w K mg base CX k f fd ps sp) : FnQ P w K mg base CX k f fd ps sp :=
  ⟨F.len, fun A outer s H args us vs Q E hr _ e0 hb hv hs => F.run A outer s H args us vs Q E hr e0 hb hv hs⟩
structure FnGQ (P : Program) (w : World) (K : PySem.W.Frag) (mg : Str → Option Value) (base : Heap) (Ω : Om) (x : Str) (k n : Nat) (dts : List T) (F : FF) : Prop where
  ex : ∃ (f : Addr) (fd : FuncData) (ps : List Str), mg x = some (.ref f) ∧ PySem.W.keepIn K (.ref f) = true ∧ ps.length = n ∧ FnQ P w K mg base (L2.CX P w) k f fd ps (spF K Ω n F) ∧
    ∀ j ≤ dts.length, ∃ (ds : List Value) (dvs : List V), Binds K fd ps ds ∧ Vals dvs ds ∧ ∀ Z ι M H, Rs K Ω Z ι M H (dts.drop j) dvs
end
section
variable {X : Cx} {Ω : Om} {W : WX} {e : Expr} {es : List Expr} {fa : AF} {pos p : Pos} {F : FF} {k n : Nat} {dts : List T} {x : Str}
end
mutual
def few : T → Bool
  | .non => true
  | .bl _ => true
  | .int i => decide (i.natAbs < 10 ^ 12)
  | .str _ => true
  | .tup ts => fews ts
  | .lst ts => fews ts
  | _ => false
def fews : List T → Bool
  | [] => true
  | t :: ts => few t && fews ts
end
section
variable {Ω : Om}
section
variable {X : Cx} {W : WX} {e1 e2 : Expr} {f g : EF} {p1 p2 q1 q2 pos : Pos}
end
end
end Mi
namespace Mi
open PySem PySem.Spec PyProof.Rows L2
abbrev EndOk (s₁ : Shared) : Result → Shared → Prop := fun r s' => r = .ok (.ret (.bool true)) ∧ OldK s₁.heap s'.heap ∧ s'.os = s₁.os ∧ AllBare s'.gens
section
variable {P : Program} {w : World} {K : PySem.W.Frag} {mg mb : Str → Option Value} {k : Nat} {fa a : Addr} {fd : FuncData} {x : Str} {sp : Sp} {s₁ : Shared} {vs : List Value} {ns : List Int}
end
end Mi
namespace Mi
open PySem PySem.Spec PyProof.Rows L2
section
variable {P : Program} {w : World} {K : PySem.W.Frag} {mg : Str → Option Value} {base : Heap} {Ω : Om} {x : Str} {k n : Nat} {f : Addr} {fd : FuncData} {ps : List Str} {dts : List T} {F : FF}
end
section
variable {X : Cx} {Ω : Om} {W : WX} {e1 e2 : Expr} {f g : EF} {p1 p2 q1 q2 pos : Pos}
end
section
variable {K : PySem.W.Frag} {Ω : Om}
end
section
variable {M M1 M2 : Mem} {f g : EF} {σ : TV} {t : T}
end
end Mi
namespace Mi
open PySem Mi L2
section
variable {α β : Type} {p p1 : PF} {it it1 : AF} {c c1 : TF} {f : EF} {σ : TV} {M : Mem} {own vs1 : List Nat}
end
section
variable {M : Mem} {f : EF} {fa : AF} {σ : TV}
end
section
end
end Mi
namespace Mi
open PySem Mi L2
section
variable {α β : Type} {p : PF} {b : SF}
end
section
variable {α γ δ : Type}
end
section
end
section
end
section
variable {α β : Type} {p : PF} {f : EF} {σ : TV} {n : Nat} {N : Mem}
end
end Mi
namespace Mi
open PySem PySem.Spec PyProof.Rows L2
section
variable {X : Cx} {CX : CXT} {E : L2.St → XK} {x : Str} {f : Addr} {fd : FuncData} {ps : List Str} {ds : List Value} {dvs : List V} {sp : Sp} {k : Nat} {p pos : Pos}
end
section
variable {X : Cx} {Ω : Om} {W : WX} {x : Str} {k n : Nat} {dts : List T} {F : FF} {p pos : Pos}
end
section
variable {K : PySem.W.Frag} {Ω : Om}
end
end Mi
namespace ZpL
open PySem PySem.Calls PyProof.Rows PyProof.V PySem.Spec
theorem ne_above {a lo b : Nat} (h1 : a ≤ lo) (h2 : lo < b) : b ≠ a := by omega
structure ZG (xs ys : Array Value) (lo : Addr) (h : Heap) (as : List Addr) : Prop where
  rise : as.Pairwise (· < ·)
  above : ∀ a ∈ as, lo < a
  pairs : ∀ (j : Nat) (a : Addr), as[j]? = some a → ∃ x y, xs[j]? = some x ∧ ys[j]? = some y ∧ IsPair h a x y
theorem ZG.there {xs ys : Array Value} {lo : Addr} {h : Heap} {as : List Addr} (g : ZG xs ys lo h as) {a : Addr} (ha : a ∈ as) : a < h.objs.size := by
  obtain ⟨j, hj⟩ := List.mem_iff_getElem?.mp ha
  obtain ⟨_, _, _, _, e⟩ := g.pairs j a hj
  exact Heap.lt_size e
theorem ZG.low {xs ys : Array Value} {lo lo' : Addr} {h : Heap} {as : List Addr} (g : ZG xs ys lo h as) (hl : lo' ≤ lo) : ZG xs ys lo' h as := ⟨g.rise, fun a ha => Nat.lt_of_le_of_lt hl (g.above a ha), g.pairs⟩
def ZSt (h : Heap) (z TI TO i1 i2 l1 l2 S : Addr) (i : Nat) : Prop :=
  IsPair h TI (.ref i1) (.ref i2) ∧ h.IsListIter i1 l1 i ∧ h.IsListIter i2 l2 i ∧ ((IsZip h z TI TO .none ∧ ∃ a b, IsPair h TO a b) ∨ ∃ (T : Addr) (f : Bool) (oT : Obj), IsZipHeld h z TI TO T f ∧ h.get? T = some oT ∧ T ≠ z ∧ T ≠ i1 ∧ T ≠ i2 ∧ T ≠ S)
section
variable {prog : Program} {w : World} {A : Around} {E : Value → Shared → Prop} {s : Shared} {z TI TO i1 i2 l1 l2 S : Addr} {i : Nat} {xs ys : Array Value}
theorem ZSt.lt {h : Heap} (st : ZSt h z TI TO i1 i2 l1 l2 S i) : z < h.objs.size ∧ i1 < h.objs.size ∧ i2 < h.objs.size ∧ TI < h.objs.size := by
  obtain ⟨hTI, ⟨o1, h1, _⟩, ⟨o2, h2, _⟩, hz | ⟨T, f, oT, hz, _⟩⟩ := st
  · exact ⟨Heap.lt_size hz.1, Heap.lt_size h1, Heap.lt_size h2, Heap.lt_size hTI⟩
  · exact ⟨Heap.lt_size hz, Heap.lt_size h1, Heap.lt_size h2, Heap.lt_size hTI⟩
theorem ZSt.keep {h h' : Heap} (D : ZipApart z TI TO i1 i2 l1 l2) (st : ZSt h z TI TO i1 i2 l1 l2 S i) (hS : S ≠ z ∧ S ≠ TO ∧ S ≠ i1 ∧ S ≠ i2 ∧ S ≠ TI) (up : ∀ b o, b ≠ S → h.get? b = some o → h'.get? b = some o) : ZSt h' z TI TO i1 i2 l1 l2 S i := by
  obtain ⟨s1, s2, s3, s4, s5⟩ := hS
  obtain ⟨hTI, ⟨o1, h1, r1⟩, ⟨o2, h2, r2⟩, ⟨hz, a, b, hTO⟩ | ⟨T, f, oT, hz, hT, t1, t2, t3, t4⟩⟩ := st
  · exact ⟨up _ _ s5.symm hTI, ⟨o1, up _ _ s3.symm h1, r1⟩, ⟨o2, up _ _ s4.symm h2, r2⟩, .inl ⟨up _ _ s1.symm hz, a, b, up _ _ s2.symm hTO⟩⟩
  · exact ⟨up _ _ s5.symm hTI, ⟨o1, up _ _ s3.symm h1, r1⟩, ⟨o2, up _ _ s4.symm h2, r2⟩, .inr ⟨T, f, oT, up _ _ s1.symm hz, up _ _ t4 hT, t1, t2, t3, t4⟩⟩
end
section
variable {prog : Program} {w : World} {A : Around} {s : Shared} {R : Result → Shared → Prop} {z TI TO i1 i2 l1 l2 S : Addr} {xs ys : Array Value}
theorem zip_no_len : typeLookup (.type "zip") "__len__" = pure none := am_miss_of_fast (by decide +kernel)
theorem zip_no_hint : typeLookup (.type "zip") "__length_hint__" = pure none := am_miss_of_fast (by decide +kernel)
end
section
variable {prog : Program} {w : World} {A : Around} {E : Value → Shared → Prop} {s : Shared} {z TI TO i1 i2 l1 l2 : Addr} {xs ys : Array Value}
end
end ZpL
namespace ZpL
open PySem PySem.Spec PyProof.Rows L2
section
variable {X : Cx} {e e2 : Expr} {ta : TA} {p p2 p1 pos : Pos}
end
end ZpL
namespace Mi
open PySem PySem.Spec PyProof.Rows L2
section
variable {X : Cx} {Ω : Om} {W : WX} {e e2' : Expr} {fa : AF} {p p2 p1 pos : Pos}
end
end Mi
namespace Mi
open PySem PySem.Spec PyProof.Rows L2
section
variable {X : Cx} {CX : CXT} {n : Nat} {C g : Addr} {fd : FuncData} {ps : List Str} {sp : Sp} {E : XK}
end
section
variable {X : Cx} {Ω : Om} {a : Expr} {fa : AF} {p pos : Pos} {c k : Nat} {F : FF} {x : Str}
end
end Mi
namespace TpM
open PySem PySem.Spec PyProof.Rows L2
section
variable {X : Cx}
end
end TpM
namespace Mi
open PySem PySem.Spec PyProof.Rows L2
section
variable {K : PySem.W.Frag} {Ω : Om} {X : Cx}
end
end Mi
namespace DsM
open PySem
open Sem (wp)
section
variable {prog : Program} {w : World} {K : Type} [DecidableEq K] {knd : KeyKind prog w K} {A : Around} {E : Value → Shared → Prop} {s : Shared}
end
end DsM
namespace DsM
open PySem PySem.Spec PyProof.Rows L2
section
variable {X : Cx} {em ek ev : Expr} {tm tk tv : TE} {pos : Pos}
end
end DsM
namespace Mi
open PySem PySem.Spec PyProof.Rows L2
section
variable {X : Cx} {Ω : Om} {W : WX} {em ek ev : Expr} {f fk fv : EF} {pos : Pos}
end
end Mi
namespace Mi
open PySem PySem.Spec PyProof.Rows L2
def pick (is : List Nat) {α : Type} (xs : List α) : List α := is.filterMap fun i => xs[i]?
abbrev KB (K : PySem.W.Frag) (fd : FuncData) (ps : List Str) (n : Nat) (ks : List Str) (is : List Nat) : Prop := KBn K fd ps n ks (fun us ws => us ++ pick is ws) (fun vs zs => vs ++ pick is zs)
section
variable {K : PySem.W.Frag} {x qual : Str} {params : Arguments} {body : List Stmt} {scope : Scope} {f : Addr} {fd : FuncData} {ps : List Str}
end
structure FnK (P : Program) (w : World) (K : PySem.W.Frag) (mg : Str → Option Value) (base : Heap) (Ω : Om) (x : Str) (k n : Nat) (ks : List Str) (is : List Nat) (F : FF) : Prop where
  ex : ∃ (f : Addr) (fd : FuncData) (ps : List Str), mg x = some (.ref f) ∧ PySem.W.keepIn K (.ref f) = true ∧ FnOk P w K mg base (L2.CX P w) k f fd ps (spF K Ω n F) ∧ KB K fd ps 0 ks is
structure MeK (P : Program) (w : World) (K : PySem.W.Frag) (mg : Str → Option Value) (base : Heap) (Ω : Om) (c : Nat) (m : Str) (k n : Nat) (ks : List Str) (is : List Nat) (F : FF) : Prop where
  ex : ∃ (f : Addr) (fd : FuncData) (ps : List Str), Cls K (Ω.cls c) ∧ Meth K (Ω.cls c) m f ∧ m ∉ Ω.fld c ∧ FnOk P w K mg base (L2.CX P w) k f fd ps (spF K Ω n F) ∧ KB K fd ps 1 ks is
structure MkK (P : Program) (w : World) (K : PySem.W.Frag) (mg : Str → Option Value) (base : Heap) (Ω : Om) (x : Str) (c k n : Nat) (ks : List Str) (is : List Nat) (F : FF) : Prop where
  ex : ∃ (f : Addr) (fd : FuncData) (ps : List Str), mg x = some (.ref (Ω.cls c)) ∧ Mk K (Ω.cls c) f ∧ FnOk P w K mg base (L2.CX P w) k f fd ps (spF K Ω n F) ∧ KB K fd ps 1 ks is
section
variable {X : Cx} {CX : CXT} {k : Nat} {f C : Addr} {fd : FuncData} {ps ks : List Str} {is : List Nat} {sp : Sp} {E : XK} {x m : Str} {p pos apos : Pos} {o : Expr} {kws : List Keyword} {ta : TE} {tk : TA}
end
section
variable {X : Cx} {Ω : Om} {W : WX}
theorem L2PK.imp {kws : List Keyword} {t t' : TA} (a : PK X kws t) (h : ∀ σ H Q, t' σ H Q → t σ H Q) : PK X kws t' := ⟨fun pos pins s σ H Q I q => a.run pos pins s σ H Q I (h _ _ _ q)⟩
theorem Rs.len {K : PySem.W.Frag} {Z ι : List Addr} {M : Mem} {H : Hp} : ∀ {ts : List T} {vs : List V}, Rs K Ω Z ι M H ts vs → ts.length = vs.length
  | _, _, .nil => rfl
  | _, _, .cons _ s => congrArg Nat.succ (Rs.len s)
end
section
variable {X : Cx} {Ω : Om} {E : XK} {x m : Str} {p pos apos : Pos} {o : Expr} {kws : List Keyword} {k n c l : Nat} {ks : List Str} {is : List Nat} {F : FF} {fa : AF} {fo : EF}
end
end Mi
namespace Mi
open PySem PySem.Spec PyProof.Rows L2
structure InstK (K : PySem.W.Frag) (C : Addr) : Prop where
  ha : PySem.W.findIn K (.ref C) "__class__" = some (some (.builtin "object.__class__"))
  hn : PySem.W.specialIn K (.builtin "object.__class__") "__get__" = some (some (.builtin "getset_descriptor.__get__"))
  htk : PySem.W.takesIn K (.builtin "object.__class__") = some true
  hm : PySem.W.mroIn K C (.type "object") = some true
section
variable {X : Cx} {Ω : Om} {W : WX} {e a b : Expr} {f g : EF} {p p1 pos : Pos} {c k : Nat} {x : Str} {F : FF} {E : XK}
end
end Mi
namespace Mi
open PySem PySem.Spec PyProof.Rows L2
section
variable {X : Cx} {Ω : Om} {W : WX} {a b c : Expr} {fa : AF} {pos : Pos}
end
end Mi
namespace Mi
open PySem PySem.Spec PyProof.Rows L2
def eFzD (f : EF) : EF := fun σ M => (f σ M).bind fun t M1 => match t with
  | .loc n => (match M1[n]? with
    | some (.dct tk kvs) => .ok (.dct tk kvs) (M1.set n .gone)
    | _ => .err)
  | t => .ok t M1
section
variable {X : Cx} {Ω : Om} {W : WX} {e : Expr} {f : EF}
theorem me_fzD (h : ME X Ω W e f) : ME X Ω W e (eFzD f) := L2PE.imp h fun σ H Q ⟨Z, ι, M, σT, m, rv, p⟩ => by
  refine ⟨Z, ι, M, σT, m, rv, ?_⟩
  unfold eFzD at p
  cases z : f σT M with
  | err => rw [z] at p; exact p.elim
  | exc c t M1 => rw [z] at p; exact p
  | ok t M1 =>
    rw [z] at p
    cases t with
    | loc n =>
      cases hn : M1[n]? with
      | none =>
        have p : Post X.K Ω (R X.K Ω) (fun c d H' => W c d σ H') Z ι M H Q (match M1[n]? with | some (.dct tk kvs) => Res.ok (T.dct tk kvs) (M1.set n .gone) | _ => .err) := p
        rw [hn] at p
        exact p.elim
      | some o =>
        have p : Post X.K Ω (R X.K Ω) (fun c d H' => W c d σ H') Z ι M H Q (match M1[n]? with | some (.dct tk kvs) => Res.ok (T.dct tk kvs) (M1.set n .gone) | _ => .err) := p
        rw [hn] at p
        cases o with
        | dct tk kvs =>
          have p : Post X.K Ω (R X.K Ω) (fun c d H' => W c d σ H') Z ι M H Q (Res.ok (T.dct tk kvs) (M1.set n .gone)) := p
          intro ι1 H1 v m1 e1 r
          cases r with
          | loc hl =>
            rename_i a
            have ro := m1.mem n a _ hl hn
            obtain ⟨m2, st⟩ := m1.freeze hl hn (by intro z; cases z)
            have ex : Ext [] ι1 M1 H1 ι1 (M1.set n .gone) H1 := Ext.freeze hl hn (by intro z; cases z)
            refine p ι1 H1 (.ref a) m2 (e1.trans ex) ?_
            cases ro with
            | dK hd hk rs => exact .dK (.inl hd) st hk (rs.ext ex.any)
            | dT hd hk rs => exact .dT (.inl hd) st hk (rs.ext ex.any)
        | gone => exact p.elim
        | lst _ => exact p.elim
        | obj _ _ => exact p.elim
    | non => exact p
    | bl _ => exact p
    | int _ => exact p
    | str _ => exact p
    | tup _ => exact p
    | lst _ => exact p
    | dct _ _ => exact p
    | obj _ _ => exact p
    | xob _ _ => exact p
    | ktup _ => exact p
    | klst _ => exact p
end
section
variable {f : EF} {σ : TV} {M M1 : Mem}
end
end Mi
namespace Mi
open PySem L2
end Mi
namespace ZpM
open PySem PySem.Spec PyProof.Rows L2 RZ
open PySem.Sem (wp)
section
variable {prog : Program} {w : World} {A : Around} {E : Value → Shared → Prop} {s : Shared} {z TI TO i j l m : Addr} {k : Nat} {us vs : Array Value} {a b : Value}
theorem nx_some {u v : Value} {Q : Value → Shared → Prop} (D : ZipApart z TI TO i j l m) (zz : IsZip s.heap z TI TO .none) (tI : IsPair s.heap TI (.ref i) (.ref j)) (tO : IsPair s.heap TO a b)
    (ii : s.heap.IsListIter i l k) (jj : s.heap.IsTupleIter j m k) (ll : s.heap.IsList l us) (mm : s.heap.IsTuple m vs) (eu : us[k]? = some u) (ev : vs[k]? = some v)
    (q : ∀ h', IsZip h' z TI TO (rawInt s.heap.objs.size) → IsPair h' TO u v → h'.IsListIter i l (k + 1) → h'.IsTupleIter j m (k + 1) → IsPair h' s.heap.objs.size u v → h'.objs.size = s.heap.objs.size + 1 →
      (∀ c o, c ≠ z → c ≠ TO → c ≠ i → c ≠ j → s.heap.get? c = some o → h'.get? c = some o) → Q (.ref s.heap.objs.size) { s with heap := h' }) :
    wpAny (model prog w) A (Builtin.«zip.__next__» ⟨[.ref z], []⟩) (fun fin s' => ∃ v, fin = .done (.ret v) ∧ Q v s') E s := by
  show wpAny _ _ (field (.ref z) 2 >>= fun _ => _) _ _ _
  refine wpAny_bind (wpAny_field zz rfl (x := .bool false) rfl (show wpAny _ _ (field (.ref z) 3 >>= fun _ => _) _ _ _ from ?_))
  refine wpAny_bind (wpAny_field zz rfl (x := .ref TI) rfl (wpAny_bind (wpAny_seqItems tI rfl (show wpAny _ _ (Builtin.SmallTypes.ownedTupleIsFree (.ref z) >>= fun _ => _) _ _ _ from wpAny_bind ?_))))
  unfold Builtin.SmallTypes.ownedTupleIsFree
  refine wpAny_bind (wpAny_field zz rfl (x := .none) rfl (wpAny_pure ?_))
  rw [if_pos rfl]
  refine wpAny_bind (wpAny_rule (wpAny_bind (wpAny_field zz rfl (x := .ref TO) rfl (wpAny_bind (wpAny_setField_rec zz (by simp) fun g1 z1 s1 => ?_)))))
  have z1 : IsZip g1 z TI TO .ellipsis := z1
  simp only [List.zipIdx_cons, List.zipIdx_nil, List.forIn_cons, List.forIn_nil]
  refine wpAny_bind (wpAny_bind (wpAny_bind (wpAny_onRaise (show wpAny _ _ (Builtin.SmallTypes.nextOf (.ref i) >>= fun _ => _) _ _ _ from wpAny_bind (wpAny_nextOf_list_item (ii.extBut s1.extBut D.i1z) (ll.extBut s1.extBut D.l1z) eu fun g2 i2 s2 => wpAny_pure ?_)))))
  have o2 : IsPair g2 TO a b := s2.extBut _ _ D.TOi1 (s1.extBut _ _ D.TOz tO)
  refine wpAny_bind (wpAny_seqItems o2 rfl (wpAny_bind (wpAny_updateSeq_pair o2 fun g3 o3 s3 => wpAny_bind (wpAny_letGo (wpAny_pure (wpAny_bind (wpAny_bind (wpAny_onRaise ?_))))))))
  have o3 : IsPair g3 TO u b := o3
  show wpAny _ _ (Builtin.SmallTypes.nextOf (.ref j) >>= fun _ => _) _ _ _
  refine wpAny_bind (nextOf_tuple_item (((jj.extBut s1.extBut D.i2z).extBut s2.extBut D.i12.symm).extBut s3.extBut D.TOi2.symm) (((mm.extBut s1.extBut D.l2z).extBut s2.extBut D.l2i1).extBut s3.extBut D.l2TO) ev fun g4 j4 s4 => wpAny_pure ?_)
  have o4 : IsPair g4 TO u b := s4.extBut _ _ D.TOi2 o3
  refine wpAny_bind (wpAny_seqItems o4 rfl (wpAny_bind (wpAny_updateSeq_pair o4 fun g5 o5 s5 => wpAny_bind (wpAny_letGo (wpAny_pure (wpAny_pure ?_))))))
  have o5 : IsPair g5 TO u v := o5
  refine wpAny_bind (wpAny_seqItems o5 rfl (wpAny_bind (wpAny_newTuple ?_)))
  have sz : g5.objs.size = s.heap.objs.size := by rw [s5.1, s4.1, s3.1, s2.1, s1.1]
  have z5 : IsZip g5 z TI TO .ellipsis := s5.extBut _ _ D.TOz.symm (s4.extBut _ _ D.i2z.symm (s3.extBut _ _ D.TOz.symm (s2.extBut _ _ D.i1z.symm z1)))
  have k5 : ∀ c o, c ≠ z → c ≠ TO → c ≠ i → c ≠ j → s.heap.get? c = some o → g5.get? c = some o := fun c o p1 p2 p3 p4 e =>
    s5.extBut _ _ p2 (s4.extBut _ _ p4 (s3.extBut _ _ p2 (s2.extBut _ _ p3 (s1.extBut _ _ p1 e))))
  have i5 : g5.IsListIter i l (k + 1) := ((i2.extBut s3.extBut D.TOi1.symm).extBut s4.extBut D.i12).extBut s5.extBut D.TOi1.symm
  have j5 : g5.IsTupleIter j m (k + 1) := j4.extBut s5.extBut D.TOi2.symm
  have zl : z < g5.objs.size := Heap.lt_size z5
  show wpAny _ _ (Builtin.SmallTypes.ownedTupleHandOut (.ref z) (.ref g5.objs.size) >>= fun _ => _) _ _ _
  refine wpAny_bind ?_
  unfold Builtin.SmallTypes.ownedTupleHandOut
  have z6 : IsZip (g5.push { cls := .type "tuple", data := .seq #[u, v] }) z TI TO .ellipsis := Heap.get?_push_of_some _ z5
  refine wpAny_bind (wpAny_setField_rec z6 (by simp) fun g7 z7 s7 => ?_)
  have z7 : IsZip g7 z TI TO (rawInt g5.objs.size) := z7
  refine wpAny_setField_rec z7 (by simp) fun g8 z8 s8 => ?_
  have z8 : IsZip g8 z TI TO (rawInt g5.objs.size) := z8
  have up : ∀ c o, c ≠ z → g5.get? c = some o → g8.get? c = some o := fun c o p1 e => s8.extBut _ _ p1 (s7.extBut _ _ p1 (Heap.get?_push_of_some _ e))
  have t8 : IsPair g8 g5.objs.size u v := s8.extBut _ _ (Nat.ne_of_gt zl) (s7.extBut _ _ (Nat.ne_of_gt zl) (Heap.get?_push_size _ rfl))
  have n8 : g8.objs.size = g5.objs.size + 1 := by rw [s8.1, s7.1, Heap.size_push]
  rw [sz] at z8 t8 n8
  refine wpAny_pure ⟨_, rfl, ?_⟩
  show Q (.ref g5.objs.size) _
  rw [sz]
  exact q g8 z8 (up _ _ D.TOz o5) (i5.at fun o e => up _ o D.i1z e) (j5.at fun o e => up _ o D.i2z e) t8 n8 fun c o p1 p2 p3 p4 e => up c o p1 (k5 c o p1 p2 p3 p4 e)
theorem nx_none {Q : Fin → Shared → Prop} (hh : A.handled = none) (D : ZipApart z TI TO i j l m) (zz : IsZip s.heap z TI TO .none) (tI : IsPair s.heap TI (.ref i) (.ref j)) (tO : IsPair s.heap TO a b)
    (ii : s.heap.IsListIter i l k) (jj : s.heap.IsTupleIter j m k) (ll : s.heap.IsList l us) (mm : s.heap.IsTuple m vs) (en : us[k]? = none ∨ vs[k]? = none)
    (q : ∀ h' e, (∀ c o, c ≠ z → c ≠ TO → c ≠ i → c ≠ j → s.heap.get? c = some o → h'.get? c = some o) → (∃ o, h'.get? e = some o ∧ o.cls = .type "StopIteration") → E (.ref e) { s with heap := h' }) :
    wpAny (model prog w) A (Builtin.«zip.__next__» ⟨[.ref z], []⟩) Q E s := by
  show wpAny _ _ (field (.ref z) 2 >>= fun _ => _) _ _ _
  refine wpAny_bind (wpAny_field zz rfl (x := .bool false) rfl (show wpAny _ _ (field (.ref z) 3 >>= fun _ => _) _ _ _ from ?_))
  refine wpAny_bind (wpAny_field zz rfl (x := .ref TI) rfl (wpAny_bind (wpAny_seqItems tI rfl (show wpAny _ _ (Builtin.SmallTypes.ownedTupleIsFree (.ref z) >>= fun _ => _) _ _ _ from wpAny_bind ?_))))
  unfold Builtin.SmallTypes.ownedTupleIsFree
  refine wpAny_bind (wpAny_field zz rfl (x := .none) rfl (wpAny_pure ?_))
  rw [if_pos rfl]
  refine wpAny_bind (wpAny_rule (wpAny_bind (wpAny_field zz rfl (x := .ref TO) rfl (wpAny_bind (wpAny_setField_rec zz (by simp) fun g1 z1 s1 => ?_)))))
  have z1 : IsZip g1 z TI TO .ellipsis := z1
  simp only [List.zipIdx_cons, List.zipIdx_nil, List.forIn_cons, List.forIn_nil]
  refine wpAny_bind (wpAny_bind (wpAny_bind (wpAny_onRaise (show wpAny _ _ (Builtin.SmallTypes.nextOf (.ref i) >>= fun _ => _) _ _ _ from ?_))))
  cases eu : us[k]? with
  | none =>
    refine wpAny_bind (wpAny_nextOf_list_end hh (ii.extBut s1.extBut D.i1z) (ll.extBut s1.extBut D.l1z) eu fun g2 e s2 ⟨oe, hoe, hce⟩ => ?_)
    have z2 : IsZip g2 z TI TO .ellipsis := s2 _ _ D.i1z.symm z1
    have ez : e ≠ z := fun x => by subst x; rw [z2] at hoe; cases hoe; simp at hce
    exact wpAny_setField_rec z2 (by simp) fun g3 _ s3 => q g3 e (fun c o p1 _ p3 _ x => s3.extBut _ _ p1 (s2 _ _ p3 (s1.extBut _ _ p1 x))) ⟨oe, s3.extBut _ _ ez hoe, hce⟩
  | some u =>
    have ev : vs[k]? = none := en.elim (fun h => by rw [eu] at h; cases h) id
    refine wpAny_bind (wpAny_nextOf_list_item (ii.extBut s1.extBut D.i1z) (ll.extBut s1.extBut D.l1z) eu fun g2 i2 s2 => wpAny_pure ?_)
    have o2 : IsPair g2 TO a b := s2.extBut _ _ D.TOi1 (s1.extBut _ _ D.TOz tO)
    refine wpAny_bind (wpAny_seqItems o2 rfl (wpAny_bind (wpAny_updateSeq_pair o2 fun g3 o3 s3 => wpAny_bind (wpAny_letGo (wpAny_pure (wpAny_bind (wpAny_bind (wpAny_onRaise ?_))))))))
    show wpAny _ _ (Builtin.SmallTypes.nextOf (.ref j) >>= fun _ => _) _ _ _
    refine wpAny_bind (nextOf_tuple_end hh (((jj.extBut s1.extBut D.i2z).extBut s2.extBut D.i12.symm).extBut s3.extBut D.TOi2.symm) (((mm.extBut s1.extBut D.l2z).extBut s2.extBut D.l2i1).extBut s3.extBut D.l2TO) ev fun g4 e s4 ⟨oe, hoe, hce⟩ => ?_)
    have z4 : IsZip g4 z TI TO .ellipsis := s4 _ _ D.i2z.symm (s3.extBut _ _ D.TOz.symm (s2.extBut _ _ D.i1z.symm z1))
    have ez : e ≠ z := fun x => by subst x; rw [z4] at hoe; cases hoe; simp at hce
    exact wpAny_setField_rec z4 (by simp) fun g5 _ s5 => q g5 e (fun c o p1 p2 p3 p4 x => s5.extBut _ _ p1 (s4 _ _ p4 (s3.extBut _ _ p2 (s2.extBut _ _ p3 (s1.extBut _ _ p1 x))))) ⟨oe, s5.extBut _ _ ez hoe, hce⟩
end
end ZpM
namespace ZpM
open PySem PySem.Spec PyProof.Rows L2 RZ
section
variable {prog : Program} {w : World} {A : Around} {E : Value → Shared → Prop} {s : Shared} {z TI TO i j l m : Addr} {k : Nat} {us vs : Array Value} {a b : Value}
theorem next_some {u v : Value} {Q : Option Value → Shared → Prop} (D : ZipApart z TI TO i j l m) (zz : IsZip s.heap z TI TO .none) (tI : IsPair s.heap TI (.ref i) (.ref j)) (tO : IsPair s.heap TO a b)
    (ii : s.heap.IsListIter i l k) (jj : s.heap.IsTupleIter j m k) (ll : s.heap.IsList l us) (mm : s.heap.IsTuple m vs) (eu : us[k]? = some u) (ev : vs[k]? = some v)
    (q : ∀ h', IsZip h' z TI TO (rawInt s.heap.objs.size) → IsPair h' TO u v → h'.IsListIter i l (k + 1) → h'.IsTupleIter j m (k + 1) → IsPair h' s.heap.objs.size u v → h'.objs.size = s.heap.objs.size + 1 →
      (∀ c o, c ≠ z → c ≠ TO → c ≠ i → c ≠ j → s.heap.get? c = some o → h'.get? c = some o) → Q (some (.ref s.heap.objs.size)) { s with heap := h' }) : wpAny (model prog w) A (pyNext (.ref z)) Q E s := by
  have ty : s.TypeIs (.ref z) "zip" := ⟨_, zz, rfl⟩
  unfold pyNext
  refine wpAny_bind (wpAny_attempt (wpAny_callSpecial?_slot (name := Str.ofString "__next__") ty F.slot_zip_next (wpAny_call_entry F.slot_zip_next ty F.entry_zip_next ?_ (F.args_zip_next_1 _))))
  exact nx_some D zz tI tO ii jj ll mm eu ev fun h' a1 a2 a3 a4 a5 a6 a7 => wpAny_pure (q h' a1 a2 a3 a4 a5 a6 a7)
theorem next_none {Q : Option Value → Shared → Prop} (hh : A.handled = none) (D : ZipApart z TI TO i j l m) (zz : IsZip s.heap z TI TO .none) (tI : IsPair s.heap TI (.ref i) (.ref j)) (tO : IsPair s.heap TO a b)
    (ii : s.heap.IsListIter i l k) (jj : s.heap.IsTupleIter j m k) (ll : s.heap.IsList l us) (mm : s.heap.IsTuple m vs) (en : us[k]? = none ∨ vs[k]? = none)
    (q : ∀ h', (∀ c o, c ≠ z → c ≠ TO → c ≠ i → c ≠ j → s.heap.get? c = some o → h'.get? c = some o) → Q none { s with heap := h' }) : wpAny (model prog w) A (pyNext (.ref z)) Q E s := by
  have ty : s.TypeIs (.ref z) "zip" := ⟨_, zz, rfl⟩
  unfold pyNext
  refine wpAny_bind (wpAny_attempt (wpAny_callSpecial?_slot (name := Str.ofString "__next__") ty F.slot_zip_next (wpAny_call_entry F.slot_zip_next ty F.entry_zip_next ?_ (F.args_zip_next_1 _))))
  refine nx_none hh D zz tI tO ii jj ll mm en fun h' e keep ⟨oe, hoe, hce⟩ => ?_
  exact wpAny_bind (wpAny_isInstance (T := "StopIteration") (b := true) ⟨oe, hoe, hce⟩ isSubtype_stop (wpAny_pure (q _ keep)))
end
def ItM (K : PySem.W.Frag) (a b : Addr) : It :=
  ⟨fun n H => ∃ (us vs : List V) (u v : V), SqL K H a us ∧ SqT K H b vs ∧ us[n]? = some u ∧ vs[n]? = some v,
    fun n H x H' => ∃ t u v, x = .ref t ∧ H t = none ∧ H' = upd H t (.tup [u, v]) ∧ (∀ us, SqL K H a us → us[n]? = some u) ∧ ∀ vs, SqT K H b vs → vs[n]? = some v,
    fun n H => ∃ us vs : List V, SqL K H a us ∧ SqT K H b vs ∧ (us.length ≤ n ∨ vs.length ≤ n)⟩
theorem five {z TI TO i j c : Addr} (h : c ∈ [z, TI, TO, i, j]) : c = z ∨ c = TI ∨ c = TO ∨ c = i ∨ c = j := by simpa using h
theorem turnM {P : Program} {w : World} {K : PySem.W.Frag} {elts : List Expr} {kk : Nat} {tpos : Pos} {a b z TI TO i j : Addr} (D : ZipApart z TI TO i j a b) :
    Turn P w K (.Tuple elts kk tpos) (ItM K a b) [z, TI, TO, i, j] z (fun n h => IsZip h z TI TO .none ∧ IsPair h TI (.ref i) (.ref j) ∧ (∃ x y, IsPair h TO x y) ∧ h.IsListIter i a n ∧ h.IsTupleIter j b n) where
  mem := by simp
  self := fun A n s Q E st q => wpAny_pyIter_zip st.1 q
  obj := fun n h ⟨zz, tI, ⟨x, y, tO⟩, ⟨o1, e1, _, d1⟩, ⟨o2, e2, _, d2⟩⟩ c hc => by
    rcases five hc with q | q | q | q | q <;> subst q
    · exact ⟨_, zz, fun v q => nomatch q⟩
    · exact ⟨_, tI, fun v q => nomatch q⟩
    · exact ⟨_, tO, fun v q => nomatch q⟩
    · exact ⟨o1, e1, fun v q => by rw [d1] at q; cases q⟩
    · exact ⟨o2, e2, fun v q => by rw [d2] at q; cases q⟩
  keep := fun n h h' ⟨zz, tI, ⟨x, y, tO⟩, ii, jj⟩ k => ⟨k z (by simp) _ zz, k TI (by simp) _ tI, ⟨x, y, k TO (by simp) _ tO⟩, ii.at fun o q => k i (by simp) o q, jj.at fun o q => k j (by simp) o q⟩
  item := by
    intro X hP hw hK hc n pins s σ H E I hf ⟨zz, tI, ⟨x0, y0, tO⟩, ii, jj⟩ ⟨us, vs, x, y, sa, sb, hx, hy⟩
    subst hP hw hK
    obtain ⟨is1, rv1, p1, _⟩ := I.list sa
    obtain ⟨is2, rv2, p2, _⟩ := I.tuple sb
    obtain ⟨u, hu, ru⟩ := rv1.get hx
    obtain ⟨v, hv, rw2⟩ := rv2.get hy
    have zl : z < s.heap.objs.size := Heap.lt_size zz
    refine next_some D zz tI tO ii jj p1.isList p2 (u := u) (v := v) (by simpa using hu) (by simpa using hv) fun h1 z1 o1 i1 j1 t1 n1 keep => ⟨_, rfl, wpAny_letOwnedTupleGo_zip (s := { s with heap := h1 }) z1 fun h2 z2 sm => ?_⟩
    have t2 : h2.get? s.heap.objs.size = some { cls := .type "tuple", data := .seq #[u, v] } := (sm.2 _ (Nat.ne_of_gt zl)).trans t1
    have new : ObjOk X.prog X.w (upd H s.heap.objs.size (.tup [x, y])) h2 s.heap.objs.size (.tup [x, y]) := ⟨by show 2 ≤ sizeLine; decide, [u, v], .cons ru (.cons rw2 .nil), ⟨_, t2, rfl, _, rfl⟩⟩
    have J : Inv X pins σ (upd H s.heap.objs.size (.tup [x, y])) { s with heap := h2 } := by
      refine I.turnedNew (t' := s.toks) (ch := [z, TI, TO, i, j]) (fun c o nc q => ?_) hf (Nat.le_refl _) new
      have cz : ∀ d ∈ [z, TI, TO, i, j], c ≠ d := fun d hd e => nc (by rw [e]; exact hd)
      exact (sm.2 c (cz z (by simp))).trans (keep c o (cz z (by simp)) (cz TO (by simp)) (cz i (by simp)) (cz j (by simp)) q)
    refine ⟨.ref s.heap.objs.size, _, J, rfl, ⟨_, x, y, rfl, I.hok.fresh (Nat.le_refl _), rfl, fun q hq => by rw [I.list_inj hq sa]; exact hx, fun q hq => by rw [I.tuple_inj hq sb]; exact hy⟩, ⟨z2, (sm.2 _ D.TIz).trans (keep _ _ D.TIz D.TITO D.TIi1 D.TIi2 tI), ⟨u, v, (sm.2 _ D.TOz).trans o1⟩, i1.at fun o q => (sm.2 _ D.i1z).trans q, j1.at fun o q => (sm.2 _ D.i2z).trans q⟩, fun c hcm => ?_⟩
    have lt : c < s.heap.objs.size := by
      rcases five hcm with q | q | q | q | q <;> rw [q]
      · exact zl
      · exact Heap.lt_size tI
      · exact Heap.lt_size tO
      · obtain ⟨_, e, _⟩ := ii; exact Heap.lt_size e
      · obtain ⟨_, e, _⟩ := jj; exact Heap.lt_size e
    rw [upd_ne (Nat.ne_of_lt lt)]
    exact (hf c hcm).1
  done := by
    intro X hP hw hK hc n pins s σ H E I hf ⟨zz, tI, ⟨x0, y0, tO⟩, ii, jj⟩ ⟨us, vs, sa, sb, en⟩
    subst hP hw hK
    obtain ⟨is1, rv1, p1, _⟩ := I.list sa
    obtain ⟨is2, rv2, p2, _⟩ := I.tuple sb
    have n1 := rv1.length
    have n2 := rv2.length
    refine next_none (I.ok.hd hc) D zz tI tO ii jj p1.isList p2 (en.elim (fun q => .inl (by simp; omega)) fun q => .inr (by simp; omega)) fun h1 keep => ⟨rfl, I.turnedL (t' := s.toks) (ch := [z, TI, TO, i, j]) (fun c o nc q => ?_) hf⟩
    have cz : ∀ d ∈ [z, TI, TO, i, j], c ≠ d := fun d hd e => nc (by rw [e]; exact hd)
    exact keep c o (cz z (by simp)) (cz TO (by simp)) (cz i (by simp)) (cz j (by simp)) q
def hpM (h : Heap) (l m : Addr) : Heap := ((((h.push { cls := .type "list_iterator", data := .fields #[.ref l, .int 0 0] }).push { cls := .type "tuple_iterator", data := .fields #[.ref m, .int 0 0] }).push { cls := .type "tuple", data := .seq #[.ref h.objs.size, .ref (h.objs.size + 1)] }).push { cls := .type "tuple", data := .seq #[.none, .none] }).push { cls := .type "zip", data := .fields #[.none, .bool false, .bool false, .ref (h.objs.size + 2), .ref (h.objs.size + 3)] }
theorem meetsM (l m : Addr) (us vs : Array Value) :
    Meets (Builtin.«zip.__new__» ⟨[.type "zip", .ref l, .ref m], []⟩) (fun _ R s => s.heap.IsList l us ∧ s.heap.IsTuple m vs ∧ R (.ok (.ret (.ref (s.heap.objs.size + 4)))) { s with heap := hpM s.heap l m }) :=
  .of_wp fun prog w A R s ⟨il, im, q⟩ => by
    obtain ⟨hp, g, d, tk, os⟩ := s
    have sub := sub_zip
    have h1 : Heap.IsList (Shared.heap ⟨hp, g, d, tk, os⟩) l us := il
    have h2 : Heap.IsTuple (Shared.heap ⟨hp.push { cls := .type "list_iterator", data := .fields #[.ref l, .int 0 0] }, g, d, tk, os⟩) m vs := Heap.IsTuple.push im _
    wp_walk using wpAny_pyIter_list h1, wpAny_pyIter_tuple h2
    refine ⟨_, rfl, ?_⟩
    unfold hpM at q
    simp only [Heap.size_push]
    exact q
section
variable {prog : Program} {w : World} {A : Around} {E : Value → Shared → Prop} {s : Shared}
theorem callM {l m : Addr} {us vs : Array Value} {Q : Value → Shared → Prop} (il : s.heap.IsList l us) (im : s.heap.IsTuple m vs)
    (q : ∀ h', IsZip h' (s.heap.objs.size + 4) (s.heap.objs.size + 2) (s.heap.objs.size + 3) .none → IsPair h' (s.heap.objs.size + 2) (.ref s.heap.objs.size) (.ref (s.heap.objs.size + 1)) → IsPair h' (s.heap.objs.size + 3) .none .none →
      h'.IsListIter s.heap.objs.size l 0 → h'.IsTupleIter (s.heap.objs.size + 1) m 0 → (∀ c o, s.heap.get? c = some o → h'.get? c = some o) → Q (.ref (s.heap.objs.size + 4)) { s with heap := h' }) : wpAny (model prog w) A (call (.type "zip") [.ref l, .ref m]) Q E s := by
  refine callType_new F.called_zip (by decide) (F.typeCall_zip_2 _ _) (F.newCall_zip_2 _ _) (fun obj => F.args_object_init_3 obj _ _) F.entry_zip_new (meetsM l m us vs) ⟨il, im, ?_⟩
  have at_ : ∀ (h : Heap) (o : Obj) (n : Nat), h.objs.size = n → (Obj.isFreed o = false) → (h.push o).get? n = some o := fun h o n e f => by rw [← e]; exact Heap.get?_push_size _ f
  have g5 : (hpM s.heap l m).get? (s.heap.objs.size + 4) = some _ := at_ _ _ _ (by simp only [Heap.size_push]) rfl
  have g4 : (hpM s.heap l m).get? (s.heap.objs.size + 3) = some _ := Heap.get?_push_of_some _ (at_ _ _ _ (by simp only [Heap.size_push]) rfl)
  have g3 : (hpM s.heap l m).get? (s.heap.objs.size + 2) = some _ := Heap.get?_push_of_some _ (Heap.get?_push_of_some _ (at_ _ _ _ (by simp only [Heap.size_push]) rfl))
  have g2 : (hpM s.heap l m).get? (s.heap.objs.size + 1) = some _ := Heap.get?_push_of_some _ (Heap.get?_push_of_some _ (Heap.get?_push_of_some _ (at_ _ _ _ (by simp only [Heap.size_push]) rfl)))
  have g1 : (hpM s.heap l m).get? s.heap.objs.size = some _ := Heap.get?_push_of_some _ (Heap.get?_push_of_some _ (Heap.get?_push_of_some _ (Heap.get?_push_of_some _ (at_ _ _ _ rfl rfl))))
  exact ⟨⟨_, g5, rfl⟩, q _ g5 g3 g4 ⟨_, g1, rfl, rfl⟩ ⟨_, g2, rfl, rfl⟩ fun c o x => Heap.get?_push_of_some _ (Heap.get?_push_of_some _ (Heap.get?_push_of_some _ (Heap.get?_push_of_some _ (Heap.get?_push_of_some _ x))))⟩
end
def iZipM (K : PySem.W.Frag) (ta : TA) : TI := fun σ H R => ta σ H fun vs H1 => ∃ a b xs ys, vs = [.ref a, .ref b] ∧ SqL K H1 a xs ∧ SqT K H1 b ys ∧ R (ItM K a b) H1
theorem pi_zipM {X : Cx} {e e2 : Expr} {ta : TA} {p pos tpos : Pos} {elts : List Expr} {kk : Nat} (hg : Gl X "zip") (hm : X.mg "zip" = none) (ha : PA X [e, e2] ta)
    (he : starEach [e, e2] X.env = (false, eval e X.env) :: starEach [e2] X.env := by rfl) (hpl : (backTo pos (starEach [e2] X.env)).any (·.1) = false := by rfl) :
    PI X (.Tuple elts kk tpos) (.Call (.Name "zip" p) [e, e2] [] pos) (iZipM X.K ta) := by
  refine ⟨fun pins s σ H R I h => Call_ (ld_blt I hg hm PyProof.Rows.boot_zip (PyProof.Rows.callWith_type1 (thn (ha.run pos pins s σ H _ I h) fun us s1 ⟨vs, H1, I1, r1, a, b, xs, ys, ex, sa, sb, q⟩ => ?_) he hpl))⟩
  subst ex
  cases r1 with
  | cons ra rr =>
    cases rr with
    | cons rb rr =>
      cases rr
      cases ra
      cases rb
      obtain ⟨is1, rv1, p1, _⟩ := I1.list sa
      obtain ⟨is2, rv2, p2, _⟩ := I1.tuple sb
      obtain ⟨o2, ho2, _⟩ := id p2
      have fr : ∀ c ∈ [s1.heap.objs.size + 4, s1.heap.objs.size + 2, s1.heap.objs.size + 3, s1.heap.objs.size, s1.heap.objs.size + 1], FpOk X pins H1 c := fun c hc => by
        have le : s1.heap.objs.size ≤ c := by rcases five hc with z | z | z | z | z <;> (rw [z]; omega)
        exact I1.fpOk le (I1.hok.fresh le)
      refine callM p1.isList p2 fun h' zz tI tO ii jj keep => wpAny_pyIter_zip zz ?_
      have I2 : Inv X pins σ H1 { s1 with heap := h' } := I1.kept (t' := s1.toks) keep
      exact ⟨s1.heap.objs.size + 4, [s1.heap.objs.size + 4, s1.heap.objs.size + 2, s1.heap.objs.size + 3, s1.heap.objs.size, s1.heap.objs.size + 1], _, _, H1, rfl, I2, turnM (PySem.W.ktu_apart s1.heap.objs.size a b p1.lt (Heap.lt_size ho2)), ⟨zz, tI, ⟨_, _, tO⟩, ii, jj⟩, fr, q⟩
end ZpM
namespace Mi
open PySem PySem.Spec PyProof.Rows L2
def zpM (ts : List T) : Option (List T) := match ts with
  | [.lst xs, .tup ys] => some (zipT xs ys)
  | _ => none
section
variable {X : Cx} {Ω : Om} {W : WX} {e e2 : Expr} {fa : AF} {p pos : Pos}
theorem mi_zipM {tpos : Pos} {elts : List Expr} {kk : Nat} (hg : Gl X "zip") (hm : X.mg "zip" = none) (ha : MA X Ω W [e, e2] fa)
    (hs : starEach [e, e2] X.env = (false, eval e X.env) :: starEach [e2] X.env := by rfl) (hpl : (backTo pos (starEach [e2] X.env)).any (·.1) = false := by rfl) : MI X Ω W (.Tuple elts kk tpos) (.Call (.Name "zip" p) [e, e2] [] pos) (iFun zpM fa) := L2PI.imp (ZpM.pi_zipM hg hm ha hs hpl) fun σ H Q ⟨Z, ι, M, σT, m, rv, q⟩ =>
  ⟨Z, ι, M, σT, m, rv, Post.bind q fun ι1 M1 H1 ts vs m1 e1 q1 p1 => by
    obtain ⟨r, h, p1⟩ := Post.of p1
    unfold zpM at h
    split at h
    · cases h
      cases q1 with
      | cons r1 r2 =>
        cases r2 with
        | cons r2 r3 =>
          cases r3
          cases r1 with
          | lst hl hn rs =>
            rename_i xs ys a vs
            cases r2 with
            | tup hl2 rs2 =>
              rename_i b ws
              refine ⟨a, b, vs, ws, rfl, .inl (.inl hl), .of hl2, p1.pure m1 fun Z' ι' M' H' m e g => ?_⟩
              have n' : Still Z' ι1 M1 a := still_grow hl hn g
              have h1 : SqL X.K H' a vs := .inl (.inl (e.still hl n').1)
              have h2 : SqT X.K H' b ws := .of (e.tups _ _ hl2)
              have r1 := (rs.grow g).ext e
              have r2 := (rs2.grow g).ext e
              refine ⟨⟨vs, ws, h1, h2, by rw [← r1.length, ← r2.length]; exact zipT_len⟩, fun i t q => ?_⟩
              obtain ⟨u, w, hu, hw, rfl⟩ := zipT_get q
              obtain ⟨v, hv, rv⟩ := r1.get hu
              obtain ⟨v2, hv2, rv2⟩ := r2.get hw
              refine ⟨⟨vs, ws, v, v2, h1, h2, hv, hv2⟩, fun x H2 y => ?_⟩
              obtain ⟨T', x1, x2, rfl, nT, rfl, y1, y2⟩ := y
              have e1 := y1 vs h1
              have e2 := y2 ws h2
              rw [hv] at e1
              rw [hv2] at e2
              cases e1
              cases e2
              exact ⟨m.lay nT, Ext.new nT, .tup upd_same (.cons (rv.ext (Ext.new nT)) (.cons (rv2.ext (Ext.new nT)) .nil))⟩
    · cases h⟩
end
end Mi
namespace SoL
open PySem PySem.Spec PyProof.Rows L2 PySem.W PySem.Calls Mi
section
variable {prog : Program} {w : World} {A : Around} {E : Value → Shared → Prop} {s : Shared} {l : Addr} {vs : List Value}
end
section
variable {X : Cx}
theorem FpOk.to {X : Cx} {pins : List (Addr × Obj)} {H H' : Hp} {b : Addr} (h : FpOk X pins H b) (n : H' b = none) : FpOk X pins H' b := ⟨n, h.2⟩
end
end SoL
namespace SoL
open PySem PySem.Spec PyProof.Rows L2 PySem.W PySem.Calls Mi
theorem among_more {p : Pos} {cv : Value} (l m : List Value) (h : TriplesOk l) (hc : codeAmong p l = some cv) : codeAmong p (l ++ m) = some cv := by
  fun_induction TriplesOk l with
  | case1 => cases hc
  | case2 a t b u x rest ih =>
    simp only [List.cons_append, codeAmong] at hc ⊢
    split
    · rename_i q
      rw [if_pos q] at hc
      exact hc
    · rename_i q
      rw [if_neg q] at hc
      exact ih h hc
  | case3 l h1 h2 => exact h.elim
def Told (P : Addr) (pos : Pos) (c' : Addr) (H : Hp) : Prop := ∃ ps more : Array Value, H P = some (.tbl (ps ++ more)) ∧ TriplesOk ps.toList ∧ codeAmong pos ps.toList = some (.ref c')
theorem Told.code {P c' : Addr} {pos : Pos} {q : Str} {H : Hp} (h : Told P pos c' H) (t : LamX.TabS H P q) : H c' = some (LamX.CodeO c' q) := by
  obtain ⟨ps, more, h1, h3, h2⟩ := h
  obtain ⟨qs, g1, _, g2⟩ := t
  rw [h1] at g1
  cases g1
  obtain ⟨c, e1, e2⟩ := g2 pos (.ref c') (by rw [Array.toList_append]; exact among_more _ _ h3 h2)
  cases e1
  exact e2
theorem Told.un {P c' : Addr} {pos : Pos} {fs : List Addr} {H1 H2 : Hp} {h1 h2 : Heap} (q : Un fs [] H1 H2 h1 h2) (t : Told P pos c' H1) : Told P pos c' H2 := by
  obtain ⟨ps, more, a1, a2, a3⟩ := t
  obtain ⟨m2, e⟩ := q.tbls P _ a1
  exact ⟨ps, more ++ m2, by rw [e, Array.append_assoc], a2, a3⟩
section
variable {X : Cx} {pins : List (Addr × Obj)} {σ : L2.St} {H : Hp} {s : Shared}
theorem lam_made {T : List (Addr × Str)} {c P : Addr} {params : Arguments} {body : Expr} {scope : Scope} {pos : Pos} {E : Value → Shared → Prop} {Q : Value → Shared → Prop} (I : Inv X pins σ H s) (TB : LamX.TabB X.base X.mg c P)
    (hcode : X.env.code = .ref c) (hm : (P, X.env.qual ++ "<lambda>") ∈ T) (hu : ∀ p ∈ T, p.1 = P → p.2 = X.env.qual ++ "<lambda>") (hT : LamX.Tabs T H)
    (hdef : defaultsOf params X.env = ([], [])) (hfree : ∀ y ∈ scope.names, y.2 = .free → ∃ c, X.env.cells.lookup y.1 = some c)
    (h : ∀ (f c' : Addr) (pm ctv : Value) (H1 : Hp) (s' : Shared), Inv X pins σ H1 s' → LamX.ExtN H H1 → (∀ b, H b ≠ none → H1 b ≠ none) → LamX.Tabs T H1 → Told P pos c' H1 →
      s'.heap.get? f = some (kla_obj "<lambda>" (X.env.qual ++ "<lambda>") params body scope (cloFrom X.env.cells scope.names []) pm c' ctv) →
      H1 f = none → f ∉ frs X.stack → Q (.ref f) s') :
    wpAny (model X.prog X.w) X.A (eval (.Lambda params body scope pos) X.env) Q E s := by
  obtain ⟨ps, hP, ht, ha⟩ := hT (P, X.env.qual ++ "<lambda>") hm
  have tabH : s.heap.get? P = some { cls := .none, data := .fields ps } := I.hok P _ hP
  have below : ∀ f, s.heap.objs.size ≤ f → f ∉ frs X.stack := fun f hf z => by
    rcases List.mem_cons.mp (I.stkSub _ z) with e | e
    · have := I.lt
      rw [e] at hf
      exact absurd (Nat.lt_of_lt_of_le this hf) (Nat.lt_irrefl _)
    · exact absurd e (I.nofs hf)
  apply kla_eval hdef
  cases hc : codeAmong pos ps.toList with
  | some cv =>
    obtain ⟨c', rfl, _⟩ := ha pos cv hc
    apply kla_makeFunctionHit (mg := X.mg) (c := c) (P := P) (ps := ps) (closure_ok hfree) I.ok.glob (I.mod.glob.keeps I.bk) hcode
      (TB.code.keeps I.bk) tabH ht hc (TB.bm.keeps I.bk)
    intro ctv h' tk hx hsz
    have J : Inv X pins σ H { s with heap := h'.push (kla_obj "<lambda>" (X.env.qual ++ "<lambda>") params body scope
        (cloFrom X.env.cells scope.names []) ((X.mg "__name__").getD .none) c' ctv), toks := tk } :=
      I.kept fun b o e => Heap.get?_push_of_some _ (hx b o e)
    exact h h'.objs.size c' _ ctv H _ J (LamX.ExtN.refl H) (fun _ q => q) hT ⟨ps, #[], by simpa using hP, ht, hc⟩
      (Heap.get?_push_size _ rfl) (I.hok.fresh hsz) (below _ hsz)
  | none =>
    apply kla_makeFunction (mg := X.mg) (c := c) (P := P) (ps := ps) (closure_ok hfree) I.ok.glob (I.mod.glob.keeps I.bk) hcode
      (TB.code.keeps I.bk) tabH ht hc TB.gP (TB.bm.keeps I.bk)
    intro c' ctv h' tk hx hge hlt hrec htb
    obtain ⟨c2, oc, vs, t, e2, hoc, hd, hv⟩ := hrec
    cases e2
    have hsz := Nat.le_trans hge (Nat.le_of_lt hlt)
    have fresh : H c' = none := I.hok.fresh hge
    have neP : ∀ b o, H b = some o → (∀ q, o ≠ .tbl q) → b ≠ P := fun b o e n z => n ps (Option.some.inj (e.symm.trans (by rw [z]; exact hP)))
    have J := LamX.inv_table (q := X.env.qual ++ "<lambda>") (c := c') (t' := tk) (more := #[rawInt pos.line, rawInt pos.col, .ref c'])
      (h' := h'.push (kla_obj "<lambda>" (X.env.qual ++ "<lambda>") params body scope (cloFrom X.env.cells scope.names [])
        ((X.mg "__name__").getD .none) c' ctv)) I hP (fun b o hb e => Heap.get?_push_of_some _ (hx b o hb e))
      (Heap.get?_push_of_some _ htb) hge ⟨oc, vs, t, Heap.get?_push_of_some _ hoc, hd, hv⟩
    have keep : LamX.ExtN H (upd (upd H P (.tbl (ps ++ #[rawInt pos.line, rawInt pos.col, .ref c']))) c' (LamX.CodeO c' (X.env.qual ++ "<lambda>"))) :=
      fun b o e n => by rw [upd_ne (ne_of_none e fresh), upd_ne (neP b o e n)]; exact e
    have lst : (ps ++ #[rawInt pos.line, rawInt pos.col, Value.ref c']).toList = ps.toList ++ [rawInt pos.line, rawInt pos.col, .ref c'] := by simp
    have atP : upd (upd H P (.tbl (ps ++ #[rawInt pos.line, rawInt pos.col, .ref c']))) c' (LamX.CodeO c' (X.env.qual ++ "<lambda>")) P =
        some (.tbl (ps ++ #[rawInt pos.line, rawInt pos.col, .ref c'])) := by rw [upd_ne (ne_of_none hP fresh), upd_same]
    have there : ∀ b, H b ≠ none → upd (upd H P (.tbl (ps ++ #[rawInt pos.line, rawInt pos.col, .ref c']))) c' (LamX.CodeO c' (X.env.qual ++ "<lambda>")) b ≠ none := fun b q => by
      unfold upd
      split
      · exact nofun
      · split
        · exact nofun
        · exact q
    have good : TriplesOk (ps ++ #[rawInt pos.line, rawInt pos.col, Value.ref c']).toList := by rw [lst]; exact TriplesOk_snoc _ _ _ _ ht
    refine h h'.objs.size c' _ ctv _ _ J keep there (fun p hp => ?_) ⟨ps ++ #[rawInt pos.line, rawInt pos.col, .ref c'], #[], by simpa using atP, good, by rw [lst]; exact codeAmong_snoc _ ht hc⟩
      (Heap.get?_push_size _ rfl) ?_ (below _ hsz)
    · by_cases hb : p.1 = P
      · rw [hu p hp hb, hb]
        refine ⟨_, atP, good, fun p' cv hcv => ?_⟩
        rw [lst] at hcv
        rcases LamX.among_app _ ht hcv with z | z
        · obtain ⟨c0, e1, e2⟩ := ha p' cv z
          exact ⟨c0, e1, keep _ _ e2 LamX.codeO_ne⟩
        · exact ⟨c', z, upd_same⟩
      · obtain ⟨qs, a1, a2, a3⟩ := hT p hp
        refine ⟨qs, by rw [upd_ne (ne_of_none a1 fresh), upd_ne hb]; exact a1, a2, fun p' cv hcv => ?_⟩
        obtain ⟨c0, e1, e2⟩ := a3 p' cv hcv
        exact ⟨c0, e1, keep _ _ e2 LamX.codeO_ne⟩
    · rw [upd_ne (Nat.ne_of_gt hlt), upd_ne (Nat.ne_of_gt (Nat.lt_of_lt_of_le (Heap.lt_size tabH) hsz))]
      exact I.hok.fresh hsz
structure LamS1 (sc scope : Scope) (a : Str) : Prop where
  kind : scope.kind = .function
  co : scope.isCoroutine = false
  gen : scope.isGenerator = false
  par : scope.names.lookup a = some .local
  own : ∀ y ∈ scope.names, y.2 ≠ .cell ∧ (y.2 = .local → y.1 = a)
  free : ∀ y ∈ scope.names, y.2 = .free → sc.names.lookup y.1 = some .cell ∨ sc.names.lookup y.1 = some .free
theorem LamS1.has {scope : Scope} {a : Str} (L : LamS1 X.env.scope scope a) (ok : X.Ok) : ∀ y ∈ scope.names, y.2 = .free → ∃ c, X.env.cells.lookup y.1 = some c := fun y hy e => (L.free y hy e).elim (fun k => ok.has _ (.inl k)) fun k => ok.has _ (.inr k)
end
end SoL
namespace Mi
open PySem PySem.Spec PyProof.Rows L2 SoL
section
variable {K : PySem.W.Frag} {Ω : Om} {X : Cx} {W : WX} {Z ι : List Addr} {M : Mem} {H H1 : Hp} {e : Expr} {f g : EF} {pos p kpos lpos : Pos}
theorem extN_ext (h : LamX.ExtN H H1) (th : ∀ b, H b ≠ none → H1 b ≠ none) : Ext Z ι M H ι M H1 :=
  ⟨⟨[], by simp⟩, fun a o q n t => ⟨h a o q t, n.1⟩, fun a vs q => h a _ q (fun _ z => by cases z), fun a o u q => h a _ q (fun _ z => by cases z), th⟩
theorem RM.extN (m : RM K Ω Z ι M H) (h : LamX.ExtN H H1) (th : ∀ b, H b ≠ none → H1 b ≠ none) (t : LamX.Tabs Ω.tabs H1) : RM K Ω Z ι M H1 := by
  refine ⟨t, m.len, m.nd, fun n a o x y => ?_, fun z q => ⟨th z (m.zin z q).1, (m.zin z q).2⟩⟩
  have r := m.mem n a o x y
  refine r.ext (extN_ext h th) (fun b u q _ => ?_) ⟨n, x⟩ fun ho => ?_
  · cases z : H1 b with
    | none => exact absurd z (th b (by rw [q]; exact nofun))
    | some o' => exact ⟨o', rfl⟩
  · cases r with
    | gone => exact absurd rfl ho
    | lst q _ => rw [q, h a _ q (fun _ z => by cases z)]
    | dK q _ _ => rw [q, h a _ q (fun _ z => by cases z)]
    | dT q _ _ => rw [q, h a _ q (fun _ z => by cases z)]
    | obj q _ _ => rw [q, h a _ q (fun _ z => by cases z)]
theorem RelK.zipT {Z ι M H} : ∀ {ks : List Int} {ts : List T} {vs : List V}, Rs K Ω Z ι M H ts vs → RelK (R K Ω Z ι M H) (ks.zip ts) (ks.zip vs)
  | [], _, _, _ => .nil
  | k :: ks, _, _, .nil => .nil
  | k :: ks, _, _, .cons r rs => .cons r (RelK.zipT rs)
end
end Mi
namespace Mi
open PySem PySem.Spec PyProof.Rows L2
theorem tab_ok {K : PySem.W.Frag} {mg : Str → Option Value} {ad : PySem.W.Frag → Addr} {base : Heap} (h : ckTab ad K = true) (hm : mg "__builtins__" = some (.ref (He.ga K "__builtins__"))) (X : K.In base) : LamX.TabB base mg (cdAt K (ad K)) (tbAt K (ad K)) := by
  obtain ⟨h1, h2⟩ := He.ba h
  obtain ⟨h3, h4⟩ := He.ba h2
  obtain ⟨_, h5⟩ := He.ba h4
  refine ⟨PySem.W.codeHd_of_K X h1, ?_, fun z => of_decide_eq_true h3 z.symm⟩
  cases q : K.lookup (He.ga K "__builtins__") with
  | none => rw [q] at h5; cases h5
  | some o =>
    rw [q] at h5
    obtain ⟨oc, od, dt, osl⟩ := o
    cases oc with
    | type m =>
      cases od with
      | some dd =>
        cases dt with
        | plain =>
          obtain ⟨a1, a2⟩ := He.ba h5
          obtain ⟨a3, a4⟩ := He.ba a2
          obtain ⟨a5, a6⟩ := He.ba a4
          obtain ⟨a7, a8⟩ := He.ba a6
          exact ⟨_, _, hm, of_decide_eq_true a5, of_decide_eq_true a7, of_decide_eq_true a8, X _ _ q, congrArg Value.type (of_decide_eq_true a1), congrArg some (of_decide_eq_true a3), rfl⟩
        | _ => cases h5
      | none => cases dt <;> cases h5
    | _ => cases od <;> cases dt <;> cases h5
theorem tab_out {K : PySem.W.Frag} {ad : PySem.W.Frag → Addr} (h : ckTab ad K = true) : K.lookup (tbAt K (ad K)) = none := by
  obtain ⟨_, h2⟩ := He.ba h
  obtain ⟨_, h4⟩ := He.ba h2
  obtain ⟨h6, _⟩ := He.ba h4
  exact Option.isNone_iff_eq_none.mp h6
theorem tab_cd {K : PySem.W.Frag} {ad : PySem.W.Frag → Addr} (h : ckTab ad K = true) : PySem.W.codeHdIn K (cdAt K (ad K)) (tbAt K (ad K)) = true := (He.ba h).1
section
variable {fa : List He.Fa} {fn : List DefM} {ck : List Ck} {K : PySem.W.Frag} {mg : Str → Option Value} {l : TbL}
theorem ckAll_at (h : ckAll l K = true) : ∀ ad ∈ l.map (·.1), ckTab ad K = true := fun ad hm => List.all_eq_true.mp (He.ba h).1 ad hm
theorem Gf.tab (g : Gf fa fn ck K mg) (i j n : Nat) {ad : PySem.W.Frag → Addr} {q : Str} (h : ck[i]? = some (ckAll l) := by rfl) (hb : fa[j]? = some (.glo "__builtins__") := by rfl) (hn : l[n]? = some (ad, q) := by rfl) :
    ∀ base : Heap, K.In base → LamX.TabB base mg (cdAt K (ad K)) (tbAt K (ad K)) := fun base X => tab_ok (ckAll_at (g.says.chk i h) ad (List.mem_map.mpr ⟨_, List.mem_of_getElem? hn, rfl⟩)) (g.glo j hb) X
theorem tabl_mem (n : Nat) {ad : PySem.W.Frag → Addr} {q : Str} (hn : l[n]? = some (ad, q) := by rfl) : (tbAt K (ad K), q) ∈ tabl l K := List.mem_map.mpr ⟨_, List.mem_of_getElem? hn, rfl⟩
theorem Gf.tabU (g : Gf fa fn ck K mg) (i n : Nat) {ad : PySem.W.Frag → Addr} {q : Str} (h : ck[i]? = some (ckAll l) := by rfl) (hn : l[n]? = some (ad, q) := by rfl) : ∀ p ∈ tabl l K, p.1 = tbAt K (ad K) → p.2 = q := by
  have nd : ((l.map (·.1)).map fun ad => tbAt K (ad K)).Nodup := of_decide_eq_true (He.ba (g.says.chk i h)).2
  intro p hp e
  obtain ⟨z, hz, rfl⟩ := List.mem_map.mp hp
  obtain ⟨m, hm⟩ := List.getElem?_of_mem hz
  have at1 : ((l.map (·.1)).map fun ad => tbAt K (ad K))[m]? = some (tbAt K (z.1 K)) := by rw [List.getElem?_map, List.getElem?_map, hm]; rfl
  have at2 : ((l.map (·.1)).map fun ad => tbAt K (ad K))[n]? = some (tbAt K (ad K)) := by rw [List.getElem?_map, List.getElem?_map, hn]; rfl
  have e : tbAt K (z.1 K) = tbAt K (ad K) := e
  have em : m = n := (List.getElem?_inj (List.getElem?_eq_some_iff.mp at1).1 nd).mp (by rw [at1, at2, e])
  rw [em, hn] at hm
  cases hm
  rfl
theorem tabs_new {H : Hp} (h : ∀ ad ∈ l.map (·.1), H (tbAt K (ad K)) = some (.tbl #[])) : LamX.Tabs (tabl l K) H := fun p hp => by
  obtain ⟨z, hz, rfl⟩ := List.mem_map.mp hp
  exact LamX.TabS.nil (h z.1 (List.mem_map.mpr ⟨z, hz, rfl⟩))
end
section
variable {P : Program} {w : World} {K : PySem.W.Frag} {mg : Str → Option Value} {base : Heap} {Ω : Om} {k : Nat} {f : Addr} {fd : FuncData} {ps : List Str}
def BodyL (P : Program) (w : World) (K : PySem.W.Frag) (mg : Str → Option Value) (base : Heap) (Ω : Om) (k : Nat) (N : List Str) (sc : Scope) (body : List Stmt) (qual : Str) (c : Addr) (b : SF) : Prop :=
  ∀ (f : Addr) (cdv : Value) (A : Around) (outer : List Env) (s : Shared) (H : Hp) (E : XK), cdv = .ref c → Room k (A.deeper (envOfC qual sc s.heap.objs.size f cdv)) →
    MSs (cxD P w K mg base N qual sc f cdv A outer s H E) Ω (fun c d _ H' => E c d H') body b
theorem code_ref {cd : Value} {q : Str} (h : PySem.W.codeIn K cd q = true) : ∃ c, cd = .ref c := by
  cases cd with
  | ref c => exact ⟨c, rfl⟩
  | _ => cases h
theorem fnOk_ofL {x qual : Str} {params : Arguments} {body : List Stmt} {scope : Scope} {N : List Str} {b : SF} {dvs : List V} {kws : List (Str × V)} (F : FunD K x qual params body scope dvs kws f fd) (S : FnScope N ps scope) (hb : BodyL P w K mg base Ω k N scope body qual (cdAt K f) b) :
    FnOk P w K mg base (L2.CX P w) (k + 1) f fd ps (spF K Ω ps.length (runB N.length b)) := by
  obtain ⟨oc, od, dV, kV, doc, pm, an, cdv, ct, osl, rfl, lk, hcd, _, _⟩ := F.ex
  have len : ∀ vs H Q E, spF K Ω ps.length (runB N.length b) vs H Q E → vs.length = ps.length := fun vs H Q E ⟨Z, ι, M, ts, m, rs, hl, _⟩ => by rw [← rs.length]; exact hl
  obtain ⟨c, rfl⟩ := code_ref hcd
  have e : cdAt K f = c := by unfold cdAt; rw [lk]
  exact fn_of lk hcd S len fun A outer s H vs Q E hr h => body_ok (k := 0) (hb f (.ref c) A outer s H E (by rw [e]) hr) h
end
def OnlyT (ps : List Addr) (H : Hp) : Prop := ∀ b, H b = none ∨ (∃ o xs, H b = some (.frz o (.lst xs))) ∨ (b ∈ ps ∧ H b = some (.tbl #[]))
section
variable {P : Program} {w : World} {K : PySem.W.Frag} {mg mb : Str → Option Value} {k : Nat} {fa a : Addr} {fd : FuncData} {x : Str} {sp : Sp} {s₁ : Shared} {vs : List Value} {ns : List Int} {ps : List Addr}
theorem end_ofL {H : Hp} (hO : OnlyT ps H) (hC : ∀ p ∈ ps, isCodeTable s₁.heap p) (hok : HOk P w H s₁.heap) {r : Result} {s' : Shared} (h : CR (fun _ _ _ _ _ _ => False) [] P w H s₁ (fun v _ => v = .bl true) (fun _ _ _ => False) r s') : EndOk s₁ r s' := by
  match r, h with
  | .ok (.ret u), h =>
    obtain ⟨v, H', os, bare, un, hok', rv, q⟩ := h
    have q : v = .bl true := q
    rw [q] at rv
    have ru : u = Value.bool true := rv
    have each : ∀ b o, s₁.heap.get? b = some o → s'.heap.get? b = some o ∨ (b ∈ ps ∧ o = { cls := .none, data := .fields #[] } ∧ ∃ more, s'.heap.get? b = some { cls := .none, data := .fields more }) := fun b o e => by
      rcases hO b with z | ⟨ob, xs, z⟩ | ⟨hm, z⟩
      · exact .inl (un.keep b o e z (fun y => absurd (show b ∈ ([] : List Addr) from y) (by simp)) (by simp))
      · have e1 := (hok b _ z).1
        have e2 := (hok' b _ (un.frzs b ob _ z)).1
        exact .inl (e2.trans (e1.symm.trans e))
      · obtain ⟨more, z2⟩ := un.tbls b #[] z
        have e1 : s₁.heap.get? b = some { cls := .none, data := .fields #[] } := hok b _ z
        rw [e] at e1
        cases e1
        exact .inr ⟨hm, rfl, _, hok' b _ z2⟩
    refine ⟨by rw [ru], ⟨fun b o e => ?_, fun b o e => ?_⟩, os, bare⟩
    · rcases each b o e with z | ⟨hm, rfl, more, z⟩
      · exact .inl z
      · exact .inr (.inl ⟨hC b hm, rfl, #[], more, rfl, by rw [Array.empty_append]; exact z⟩)
    · rcases each b o e with z | ⟨_, _, more, z⟩
      · exact ⟨o, z⟩
      · exact ⟨_, z⟩
theorem callL (KX : K.In s₁.heap) (hns : s₁.heap.Ns mainGlobals mg) (hb : s₁.heap.Ns builtinsNs mb) (hbb : ∀ x : Str, x ≠ "__name__" → mb x = bootBuiltins x) (hlim : s₁.heap.NoLimit) (hg : s₁.gens = #[])
    (hT : ∀ p ∈ ps, s₁.heap.get? p = some { cls := .none, data := .fields #[] }) (nT : ∀ p ∈ ps, K.lookup p = none) (hC : ∀ p ∈ ps, isCodeTable s₁.heap p)
    (ha : s₁.heap.get? a = some { cls := .type "list", data := .seq vs.toArray }) (hi : IntsAre vs ns) (hl : ns.length ≤ sizeLine) (hr : Room k callerA)
    (F : ∀ base : Heap, FnQ P w K mg base (fun _ _ _ _ _ _ => False) k fa fd [x] sp) (hbind : ∀ (s : Shared) (u : Value), BindsTo s fd ⟨[u], []⟩ [(x, u)])
    (hsp : ∀ H : Hp, OnlyT ps H → (∀ p ∈ ps, H p = some (.tbl #[])) → SqL K H a (ns.map V.int) → sp [.ref a] H (fun v _ => v = .bl true) fun _ _ _ => False) :
    codeAny (model P w) callerA (.call (.ref fa) ⟨[.ref a], []⟩) (EndOk s₁) s₁ := by
  have naT : a ∉ ps := fun z => by
    have q := hT a z
    rw [ha] at q
    cases q
  have go : ∀ H : Hp, OnlyT ps H → (∀ p ∈ ps, H p = some (.tbl #[])) → SqL K H a (ns.map V.int) → HOk P w H s₁.heap → (∀ b, b ≠ a → b ∉ ps → H b = none) → (H a = none ∨ K.lookup a = none) → codeAny (model P w) callerA (.call (.ref fa) ⟨[.ref a], []⟩) (EndOk s₁) s₁ := fun H hO hP hS hok hA hK => by
    have there : ∀ (b : Addr) (o : Obj), s₁.heap.get? b = some o → (b = a → H a = none) → (b ∉ ps) → (hidT s₁.heap H).get? b = some o := fun b o e z n => hidT_get e (by
      by_cases y : b = a
      · rw [y]; exact z y
      · exact hA b y n)
    have names : ∀ {b : Addr} {m : Str → Option Value}, s₁.heap.Ns b m → (hidT s₁.heap H).Ns b m := fun {b m} ⟨o, es, ep, e, d, r⟩ => ⟨o, es, ep, there b o e (fun y => by
      rw [y, ha] at e
      cases e
      exact absurd d (by intro z; cases z)) (fun y => by
      rw [hT b y] at e
      cases e
      exact absurd d (by intro z; cases z)), d, r⟩
    have frag : K.In (hidT s₁.heap H) := fun b o e => there b o (KX b o e) (fun y => hK.resolve_right fun z => by rw [y, z] at e; cases e) fun y => by rw [nT b y] at e; cases e
    have low : (hidT s₁.heap H).NoLimit := let ⟨mc, h1, h2⟩ := hlim; ⟨mc, names h1, h2⟩
    exact codeAny_mono ((F (hidT s₁.heap H)).run callerA [] s₁ H _ [.ref a] [.ref a] _ _ hr rfl ⟨rfl, ⟨frag, names hns, ⟨mb, names hb, hbb⟩, low⟩, fun _ _ e => of_hidT e, Nat.le_of_eq (hidT_size _ _), trivial, fun b y => absurd (show b ∈ ([] : List Addr) from y) (by simp), hok, .of_eq hg⟩
      (hbind s₁ (.ref a)) (.cons rfl .nil) (hsp H hO hP hS)) fun r s' h => end_ofL hO hC hok h
  have nums := vals_ints hi
  have tabO : ∀ b ∈ ps, ObjOk P w (fun b => if b ∈ ps then some (.tbl #[]) else none) s₁.heap b (.tbl #[]) := fun b hb => hT b hb
  cases hk : K.lookup a with
  | some o =>
    have same := (KX a o hk).symm.trans ha
    cases same
    have len : vs.toArray.size ≤ sizeLine := by rw [List.size_toArray, hi.length]; exact hl
    refine go (fun b => if b ∈ ps then some (.tbl #[]) else none) (fun b => ?_) (fun p hp => if_pos hp) (.inr ⟨_, vs.toArray, _, hk, rfl, rfl, rfl, len, nums⟩) (fun b u z => ?_) (fun b _ hn => if_neg hn) (.inl (if_neg naT))
    · by_cases y : b ∈ ps
      · exact .inr (.inr ⟨y, if_pos y⟩)
      · exact .inl (if_neg y)
    · by_cases y : b ∈ ps
      · have z' := (if_pos y).symm.trans z
        cases z'
        exact hT b y
      · exact nomatch (if_neg y).symm.trans z
  | none =>
    let o : Obj := { cls := .type "list", data := .seq vs.toArray }
    refine go (fun b => if b = a then some (.frz o (.lst (ns.map V.int))) else if b ∈ ps then some (.tbl #[]) else none) (fun b => ?_) (fun p hp => (if_neg (fun z => naT (by rw [← z]; exact hp))).trans (if_pos hp)) (.inl (.inr ⟨o, if_pos rfl⟩)) (fun b u z => ?_) (fun b y n => (if_neg y).trans (if_neg n)) (.inr hk)
    · by_cases y : b = a
      · exact .inr (.inl ⟨o, _, if_pos y⟩)
      · by_cases y2 : b ∈ ps
        · exact .inr (.inr ⟨y2, (if_neg y).trans (if_pos y2)⟩)
        · exact .inl ((if_neg y).trans (if_neg y2))
    · by_cases y : b = a
      · subst y
        cases (if_pos rfl).symm.trans z
        exact ⟨ha, by rw [List.length_map]; exact hl, vs, _, nums, ha⟩
      · by_cases y2 : b ∈ ps
        · have z' := ((if_neg y).trans (if_pos y2)).symm.trans z
          cases z'
          exact hT b y2
        · exact nomatch ((if_neg y).trans (if_neg y2)).symm.trans z
end
theorem walkL {l : PySem.W.OpenLaw} {n k : Nat} {q : Program} {loose : List Str} {XP : (Str → Option Value) → Heap → Prop} {YP : World → Heap → Prop} {d : DefRec} {x : Str} (hn : l.most = some n) (hn2 : n ≤ sizeLine) (hdf : d.params.defaults = []) (hr : Room k callerA)
    (F : ∀ (w : World) (mg : Str → Option Value) (fa : Addr) (h : Heap), YP w h → h.Ns mainGlobals mg → mg d.name = some (.ref fa) → ∃ (K : PySem.W.Frag) (fd : FuncData) (sp : Sp) (ads : List (PySem.W.Frag → Addr)), K.In h ∧ (∀ ad ∈ ads, ckTab ad K = true) ∧ (∀ ad ∈ ads, h.get? (tbAt K (ad K)) = some { cls := .none, data := .fields #[] }) ∧
        (∀ (s : Shared) (u : Value), BindsTo s fd ⟨[u], []⟩ [(x, u)]) ∧
        (∀ (H : Hp) (a : Addr) (ns : List Int), ns.length ≤ n → OnlyT (ads.map fun ad => tbAt K (ad K)) H → (∀ ad ∈ ads, H (tbAt K (ad K)) = some (.tbl #[])) → SqL K H a (ns.map V.int) → sp [.ref a] H (fun v _ => v = .bl true) fun _ _ _ => False) ∧
        ∀ base : Heap, FnQ l.prog w K mg base (fun _ _ _ _ _ _ => False) k fa fd [x] sp) :
    PySem.W.WalkO q loose XP YP l.row.toRowW d [] (fun f vs => PySem.call f vs) :=
  Att.attach_call hn hdf fun w s₀ s₁ mg mb fa o pm cd doc a vs ns G Y ho hd hcd hmg hobj hints hlen hg => by
    obtain ⟨K, fd, sp, ads, KX, hck, hE, hb, hsp, hF⟩ := F w mg fa _ Y G.T.g hmg
    have each : ∀ p ∈ ads.map (fun ad => tbAt K (ad K)), ∃ ad ∈ ads, tbAt K (ad K) = p := fun p hp => List.mem_map.mp hp
    have hT : ∀ p ∈ ads.map (fun ad => tbAt K (ad K)), s₁.heap.get? p = some { cls := .none, data := .fields #[] } := fun p hp => by
      obtain ⟨ad, h1, rfl⟩ := each p hp
      exact hE ad h1
    refine callL (ps := ads.map fun ad => tbAt K (ad K)) KX G.T.g G.T.b G.T.builtins G.T.nolimit hg hT (fun p hp => ?_) (fun p hp => ?_) hobj hints (Nat.le_trans hlen hn2) hr hF hb fun H hO hP hS => hsp H a ns hlen hO (fun ad h1 => hP _ (List.mem_map.mpr ⟨ad, h1, rfl⟩)) hS
    · obtain ⟨ad, h1, rfl⟩ := each p hp
      exact tab_out (hck ad h1)
    · obtain ⟨ad, h1, rfl⟩ := each p hp
      exact ((PySem.W.codeHd_of_K KX (tab_cd (hck ad h1))).tab (hT _ hp)).isCodeTable
theorem law_spL {K : PySem.W.Frag} {Ω : Om} {F : FF} {ps : List Addr} (h : ∀ zs : List Int, ∃ M', F [.klst (zs.map .int)] [] = .ok (.bl true) M') (H : Hp) (a : Addr) (ns : List Int) (ho : OnlyT ps H) (hs : SqL K H a (ns.map V.int)) (ht : LamX.Tabs Ω.tabs H) : spF K Ω 1 F [.ref a] H (fun v _ => v = .bl true) fun _ _ _ => False := by
  have kl : KL K H a (ns.map V.int) := by
    rcases hs with (hs | hs) | hs
    · rcases ho a with z | ⟨o, xs, z⟩ | ⟨_, z⟩ <;> rw [z] at hs <;> cases hs
    · exact .inl hs
    · exact .inr hs
  have rs : Rs K Ω [] [] [] H (ns.map T.int) (ns.map V.int) := by
    clear h hs kl
    induction ns with
    | nil => exact .nil
    | cons n ns ih => exact .cons (.int n) ih
  obtain ⟨M', e⟩ := h ns
  refine ⟨[], [], [], [.klst (ns.map .int)], ⟨ht, rfl, fun i j a o u h => by simp at h, fun n a o h => by simp at h, fun z q => by simp at q⟩, .cons (.klst kl rs) .nil, rfl, ?_⟩
  rw [e]
  intro ι' H' v m ex r
  cases r
  rfl
end Mi
namespace Mi
open PySem PySem.Spec PyProof.Rows L2
def sFzV (i : Nat) (s : SF) : SF := fun σ M => match σ[i]? with
  | some (some (.loc n)) => (match M[n]? with
    | some (.lst xs) => s (σ.set i (some (.lst xs))) (M.set n .gone)
    | _ => s σ M)
  | _ => s σ M
section
variable {X : Cx} {Ω : Om} {W : WX} {st : Stmt} {s : SF}
theorem ms_fzV (i : Nat) (h : MS X Ω W st s) : MS X Ω W st (sFzV i s) := L2PS.imp h fun D σ H ⟨Z, ι, M, σT, m, rv, p⟩ => by
  unfold sFzV at p
  split at p
  · rename_i n hi
    split at p
    · rename_i xs hn
      obtain ⟨v, hv, r⟩ := rv.at_ i _ hi
      cases r with
      | loc hl =>
        obtain ⟨o, e2, ro⟩ := m.at hl
        rw [hn] at e2
        cases e2
        cases ro with
        | lst q rs =>
          obtain ⟨m6, stl⟩ := m.freeze hl hn (by intro h; cases h)
          have e6 : Ext [] ι M H ι (M.set n .gone) H := Ext.freeze hl hn (by intro h; cases h)
          refine ⟨Z, ι, M.set n .gone, σT.set i (some (.lst xs)), m6, ⟨?_, fun j t hj => ?_⟩, p.ext e6⟩
          · rw [List.length_set]
            exact rv.len
          · by_cases c : j = i
            · subst c
              rw [List.getElem?_set_self (List.getElem?_eq_some_iff.mp hi).1] at hj
              cases hj
              exact ⟨_, hv, .lst q stl (rs.ext e6.any)⟩
            · rw [List.getElem?_set_ne (fun z => c z.symm)] at hj
              obtain ⟨w, h1, h2⟩ := rv.at_ j t hj
              exact ⟨w, h1, h2.ext e6.any⟩
    · exact ⟨Z, ι, M, σT, m, rv, p⟩
  · exact ⟨Z, ι, M, σT, m, rv, p⟩
end
end Mi
namespace Mi
open PySem PySem.Spec PyProof.Rows L2
inductive VHits (K : PySem.W.Frag) (H : Hp) (ls : List (Key × V)) : List (Key × V) → Bool → Prop
  | nil : VHits K H ls [] true
  | miss {k v r} : valV ls k = none → VHits K H ls ((k, v) :: r) false
  | hit {k v y r d e b} : valV ls k = some y → Dp K H v d → Dp K H y e → SeqAt.shaped d = true → SeqAt.shaped e = true → VHits K H ls r b → VHits K H ls ((k, v) :: r) (PyData.eqv d e && b)
section
variable {X : Cx} {pins : List (Addr × Obj)} {σ : L2.St} {H : Hp} {s : Shared}
end
section
variable {K : PySem.W.Frag} {Ω : Om} {Z ι : List Addr} {M : Mem} {H : Hp}
end
end Mi
namespace Mi
open PySem PySem.Spec PyProof.Rows L2
end Mi
namespace Mi
open PySem PySem.Spec PyProof.Rows L2
def Om0 : Om where
  cls := fun _ => 0
  fld := fun _ => []
  rho := fun c => [97 + (c - symB) % 16]
  rne := fun _ => by simp
  rle := fun _ => by simp
  rch := fun c x h => by
    rw [List.mem_singleton] at h
    omega
  raw := fun c h => by
    unfold awayW at h
    simp only [List.mem_cons, List.not_mem_nil, or_false] at h
    rcases h with h | h | h <;> exact absurd (congrArg List.length h) (fun z => by simp at z)
  rij := fun i j hi hj h => by
    have h2 := (List.cons.inj h).1
    unfold symN at hi hj
    omega
def dg (t : T) : PyData := dat Om0 t
section
variable {Ω : Om}
end
def tupB : T → Bool
  | .tup (_ :: _) => true
  | _ => false
theorem DpAll.len {K : PySem.W.Frag} {H : Hp} : ∀ {xs : List V} {ds : List PyData}, DpAll K H xs ds → xs.length = ds.length
  | _, _, .nil => rfl
  | _, _, .cons _ t => by rw [List.length_cons, List.length_cons, DpAll.len t]
section
variable {X : Cx}
end
section
variable {K : PySem.W.Frag} {Ω : Om} {Z ι : List Addr} {M : Mem} {H : Hp}
end
section
variable {X : Cx} {Ω : Om} {W : WX} {e : Expr} {es : List Expr} {fa : AF} {pos p : Pos}
end
end Mi
namespace Mi
open PySem PySem.Spec PyProof.Rows L2
section
variable {K : PySem.W.Frag} {Ω : Om} {Z ι : List Addr} {M : Mem} {H : Hp}
end
section
variable {X : Cx} {Ω : Om} {W : WX} {o e : Expr} {f : EF} {fa : AF} {apos cpos : Pos}
end
section
variable {X : Cx} {Ω : Om} {W : WX} {c : Expr} {as : List Expr} {ks : List Keyword} {f : EF} {x y : Str} {p1 p2 p3 pos : Pos}
end
end Mi
namespace SoL
open PySem PySem.Spec PyProof.Rows L2 PySem.W PySem.Calls Mi
section
variable {X : Cx}
def Best (ks : List Int) (i j : Nat) : Prop := ∀ j', j' ≤ j → ks.getD i 0 ≥ ks.getD j' 0 ∧ (j' < i → ks.getD i 0 > ks.getD j' 0)
theorem Best.more {ks : List Int} {i j : Nat} (h : Best ks i j) (hij : i ≤ j) (c : ¬ ks.getD (j + 1) 0 > ks.getD i 0) : Best ks i (j + 1) := fun j' hj' => by
  by_cases e : j' = j + 1
  · subst e
    exact ⟨by omega, fun _ => by omega⟩
  · exact h j' (by omega)
theorem Best.new {ks : List Int} {i j : Nat} (h : Best ks i j) (hij : i ≤ j) (c : ks.getD (j + 1) 0 > ks.getD i 0) : Best ks (j + 1) (j + 1) := fun j' hj' => by
  by_cases e : j' = j + 1
  · subst e
    exact ⟨by omega, fun _ => by omega⟩
  · have := (h j' (by omega)).1
    exact ⟨by omega, fun _ => by omega⟩
structure MxSt (X : Cx) (pins : List (Addr × Obj)) (σ : L2.St) (J : Hp → Prop) (G : Nat → Hp → Prop) (f p I S : Addr) (fo : Obj) (xs : List V) (i j : Nat) (s : Shared) (H : Hp) (sv : Array Value) : Prop where
  inv : Inv X pins σ H s
  jH : J H
  gH : G j H
  hs : SqT X.K H p xs
  nf : H f = none
  hf : s.heap.get? f = some fo
  fI : FpOk X pins H I
  fS : FpOk X pins H S
  hS : ∃ c, s.heap.get? S = some (seqObj "list" sv c)
  hI : s.heap.IsTupleIter I p i
end
end SoL
namespace Mi
open PySem PySem.Spec PyProof.Rows L2 SoL
section
variable {K : PySem.W.Frag} {Ω : Om} {X : Cx} {W : WX} {Z ι : List Addr} {M : Mem} {H H1 : Hp} {e : Expr} {f g : EF} {pos p kpos lpos : Pos}
end
end Mi
namespace DsT
open PySem PySem.Spec PyProof.Rows L2
section
variable {X : Cx} {ek ev : Expr} {tk tv : TE} {pos : Pos}
end
end DsT
namespace Mi
open PySem PySem.Spec PyProof.Rows L2
section
variable {X : Cx} {Ω : Om} {W : WX} {ek ev : Expr} {fk fv : EF} {pos : Pos}
end
end Mi
namespace Mi
open PySem PySem.Spec PyProof.Rows L2
section
variable {X : Cx} {Ω : Om} {W : WX} {a b : Expr} {f g : EF} {p p1 p2 pos : Pos}
end
end Mi
namespace Mi
open PySem PySem.Spec PyProof.Rows L2
section
variable {X : Cx} {Ω : Om} {W : WX} {o i e : Expr} {fo fi fe : EF} {tpos pos : Pos}
end
end Mi
namespace Mi
open PySem PySem.Spec PyProof.Rows L2
section
variable {K : PySem.W.Frag} {Ω : Om} {Z ι : List Addr} {M : Mem} {H : Hp}
end
section
variable {X : Cx} {Ω : Om} {W : WX} {e : Expr} {te : TE} {f : EF} {k : Nat} {p1 p2 p3 pos : Pos}
end
end Mi
namespace Mi
open PySem PySem.Spec PyProof.Rows L2
section
variable {K : PySem.W.Frag} {Ω : Om} {W : WX} {gt : TG} {pf : PF} {vs : List Nat} {c : TF} {fk f : EF} {own : List (Str × Nat)}
end
section
variable {X : Cx} {Ω : Om} {W : WX} {kx vx e : Expr} {fk f fd : EF} {c : TF} {pos apos cpos tpos : Pos} {elts : List Expr} {kk : Nat} {ifs : List Expr} {scope : Scope} {own : List (Str × Nat)} {gt : TG} {pf : PF} {vs : List Nat}
end
end Mi
namespace MxL
open PySem PySem.Spec PyProof.Rows L2 PySem.W PySem.Calls Mi SoL
section
variable {X : Cx}
structure MlSt (X : Cx) (pins : List (Addr × Obj)) (σ : L2.St) (p I S : Addr) (xs : List V) (i : Nat) (s : Shared) (H : Hp) (sv : Array Value) : Prop where
  inv : Inv X pins σ H s
  hs : SqL X.K H p xs
  fI : FpOk X pins H I
  fS : FpOk X pins H S
  hS : ∃ c, s.heap.get? S = some (seqObj "list" sv c)
  hI : s.heap.IsListIter I p i
end
end MxL
namespace Mi
open PySem PySem.Spec PyProof.Rows L2 SoL MxL
section
variable {K : PySem.W.Frag} {Ω : Om} {X : Cx} {W : WX} {Z ι : List Addr} {M : Mem} {H : Hp} {e : Expr} {fa : AF} {pos p p2 kpos : Pos}
end
end Mi
namespace Mi
open PySem PySem.Spec PyProof.Rows L2
section
variable {K : PySem.W.Frag} {Ω : Om} {Z ι : List Addr} {M : Mem} {H : Hp}
end
end Mi
namespace ZpT
open PySem PySem.Calls PyProof.Rows PyProof.V PySem.Spec
open ZpL (ne_above ZG zip_no_len zip_no_hint)
section
variable {prog : Program} {w : World} {A : Around} {E : Value → Shared → Prop} {s : Shared} {z TI TO T i j l m : Addr} {f : Bool} {oT : Obj} {k1 k2 : Nat} {us vs : Array Value}
end
def ZSt (h : Heap) (z TI TO i1 i2 l1 l2 S : Addr) (i : Nat) : Prop :=
  IsPair h TI (.ref i1) (.ref i2) ∧ h.IsTupleIter i1 l1 i ∧ h.IsTupleIter i2 l2 i ∧ ((IsZip h z TI TO .none ∧ ∃ a b, IsPair h TO a b) ∨ ∃ (T : Addr) (f : Bool) (oT : Obj), IsZipHeld h z TI TO T f ∧ h.get? T = some oT ∧ T ≠ z ∧ T ≠ i1 ∧ T ≠ i2 ∧ T ≠ S)
section
variable {prog : Program} {w : World} {A : Around} {E : Value → Shared → Prop} {s : Shared} {z TI TO i1 i2 l1 l2 S : Addr} {i : Nat} {xs ys : Array Value}
theorem ZSt.lt {h : Heap} (st : ZSt h z TI TO i1 i2 l1 l2 S i) : z < h.objs.size ∧ i1 < h.objs.size ∧ i2 < h.objs.size ∧ TI < h.objs.size := by
  obtain ⟨hTI, ⟨o1, h1, _⟩, ⟨o2, h2, _⟩, hz | ⟨T, f, oT, hz, _⟩⟩ := st
  · exact ⟨Heap.lt_size hz.1, Heap.lt_size h1, Heap.lt_size h2, Heap.lt_size hTI⟩
  · exact ⟨Heap.lt_size hz, Heap.lt_size h1, Heap.lt_size h2, Heap.lt_size hTI⟩
theorem ZSt.keep {h h' : Heap} (D : ZipApart z TI TO i1 i2 l1 l2) (st : ZSt h z TI TO i1 i2 l1 l2 S i) (hS : S ≠ z ∧ S ≠ TO ∧ S ≠ i1 ∧ S ≠ i2 ∧ S ≠ TI) (up : ∀ b o, b ≠ S → h.get? b = some o → h'.get? b = some o) : ZSt h' z TI TO i1 i2 l1 l2 S i := by
  obtain ⟨s1, s2, s3, s4, s5⟩ := hS
  obtain ⟨hTI, ⟨o1, h1, r1⟩, ⟨o2, h2, r2⟩, ⟨hz, a, b, hTO⟩ | ⟨T, f, oT, hz, hT, t1, t2, t3, t4⟩⟩ := st
  · exact ⟨up _ _ s5.symm hTI, ⟨o1, up _ _ s3.symm h1, r1⟩, ⟨o2, up _ _ s4.symm h2, r2⟩, .inl ⟨up _ _ s1.symm hz, a, b, up _ _ s2.symm hTO⟩⟩
  · exact ⟨up _ _ s5.symm hTI, ⟨o1, up _ _ s3.symm h1, r1⟩, ⟨o2, up _ _ s4.symm h2, r2⟩, .inr ⟨T, f, oT, up _ _ s1.symm hz, up _ _ t4 hT, t1, t2, t3, t4⟩⟩
end
section
variable {prog : Program} {w : World} {A : Around} {s : Shared} {R : Result → Shared → Prop} {z TI TO i1 i2 l1 l2 S : Addr} {xs ys : Array Value}
end
section
variable {prog : Program} {w : World} {A : Around} {E : Value → Shared → Prop} {s : Shared} {z TI TO i1 i2 l1 l2 : Addr} {xs ys : Array Value}
end
end ZpT
namespace ZpT
open PySem PySem.Spec PyProof.Rows L2
open ZpL (ZG)
section
variable {X : Cx} {e e2 : Expr} {ta : TA} {p p2 p1 pos : Pos}
end
end ZpT
namespace Mi
open PySem PySem.Spec PyProof.Rows L2
section
variable {X : Cx} {Ω : Om} {W : WX} {e e2' : Expr} {fa : AF} {p p2 p1 pos : Pos}
end
end Mi
namespace VsX
open PySem PySem.Spec PyProof.Rows L2 PySem.W
section
variable {prog : Program} {w : World} {A : Around} {E : Value → Shared → Prop} {s : Shared} {T : String} {r d : Addr} {n : Nat} {P : Nat → Value → Prop} {OK : Heap → Prop}
end
section
variable {X : Cx} {e : Expr} {es : List Expr} {te : TE} {t : TA} {p apos cpos : Pos}
end
end VsX
namespace Mi
open PySem PySem.Spec PyProof.Rows L2 PySem.W
section
variable {X : Cx} {Ω : Om} {W : WX} {e : Expr} {es : List Expr} {f : EF} {fa : AF} {p apos cpos : Pos}
end
end Mi
namespace Mi
open PySem PySem.Spec PyProof.Rows L2 PySem.W
section
variable {prog : Program} {w : World} {A : Around} {E : Value → Shared → Prop} {s : Shared}
end
section
variable {X : Cx}
end
abbrev Tk : Type := Int ⊕ List Nat
mutual
def toks : T → List Tk
  | .bl b => [.inl (if b = true then 1 else 0)]
  | .int n => [.inl n]
  | .str x => [.inr x]
  | .tup ts => tokss ts
  | .ktup ts => tokss ts
  | .lst ts => tokss ts
  | _ => []
def tokss : List T → List Tk
  | [] => [.inl 0]
  | t :: ts => .inl 1 :: (toks t ++ tokss ts)
end
section
variable {Ω : Om}
end
section
variable {Ω : Om}
end
section
variable {K : PySem.W.Frag} {Ω : Om}
end
end Mi
namespace Mi
open PySem PySem.Spec PyProof.Rows L2
section
variable {P : Program} {w : World} {K : PySem.W.Frag} {mg : Str → Option Value} {base : Heap} {om : Rho → Om} {ρ : Rho} {k i nw L : Nat} {N ps : List Str} {b1 b2 : SF}
end
end Mi
namespace Mi
open PySem PySem.Spec PyProof.Rows L2 PySem.W
section
variable {X : Cx} {Ω : Om} {W : WX} {e : Expr} {f : EF} {pos p : Pos}
end
end Mi
namespace Mi
end Mi
namespace Mi
open PySem PySem.Spec PyProof.Rows L2
def scr0 (F : FF) : FF := fun ts M => match M with
  | [] => (match F ts [] with
    | .ok t M' => bif t.lo 0 then .ok t [] else .ok t M'
    | r => r)
  | o :: M' => F ts (o :: M')
theorem scr0_or (F : FF) (ts : List T) (M : Mem) : scr0 F ts M = F ts M ∨ scr0 F ts M = scr F ts M := by
  cases M with
  | cons o M' => exact .inl rfl
  | nil =>
    unfold scr0
    cases e : F ts [] with
    | ok t M' =>
      cases h : t.lo 0 with
      | true => exact .inr (by simp only [h]; exact (scr_ok e (.same h) ⟨Nat.zero_le _, fun i o hi _ => absurd hi (Nat.not_lt_zero i)⟩).symm)
      | false => exact .inl (by simp only [h]; rfl)
    | exc c t M' => exact .inl rfl
    | err => exact .inl rfl
section
variable {K : PySem.W.Frag} {Ω : Om} {H : Hp}
theorem spF_scr0 {k : Nat} {F : FF} {vs : List V} {Q : VK} {E : XK} (h : spF K Ω k (scr0 F) vs H Q E) : spF K Ω k F vs H Q E := by
  obtain ⟨Z, ι, M, ts, m, rs, hl, p⟩ := h
  rcases scr0_or F ts M with e | e
  · exact ⟨Z, ι, M, ts, m, rs, hl, by rw [← e]; exact p⟩
  · exact spF_scr ⟨Z, ι, M, ts, m, rs, hl, by rw [← e]; exact p⟩
end
end Mi
namespace Mi
def tr0 (r : Res T) : Bool := match r with
  | .ok (.bl true) [] => true
  | _ => false
theorem tr0_ok {r : Res T} (h : tr0 r = true) : r = .ok (.bl true) [] := by
  cases r with
  | ok t M' =>
    cases t with
    | bl b =>
      cases b with
      | true =>
        cases M' with
        | nil => rfl
        | cons _ _ => cases h
      | false => cases h
    | _ => cases h
  | exc c t M' => cases h
  | err => cases h
end Mi
namespace XtL
open PySem PySem.Spec PyProof.Rows L2 PySem.W Mi
section
variable {X : Cx}
variable {o e : Expr} {es : List Expr} {to : TE} {t : TA} {name : Str} {apos cpos : Pos} {id : String} {r : V → List V → Hp → VK → Prop}
end
end XtL
namespace Mi
open PySem PySem.Spec PyProof.Rows L2 PySem.W
section
variable {K : PySem.W.Frag} {Ω : Om}
end
section
variable {X : Cx} {Ω : Om} {W : WX} {o e : Expr} {f : EF} {fa : AF} {apos cpos : Pos}
end
end Mi
namespace Mi
open PySem PySem.Spec PyProof.Rows L2
section
variable {X : Cx} {Ω : Om} {W : WX} {e e2' : Expr} {fa : AF} {p p2 p1 pos : Pos}
end
end Mi
namespace Mi
open PySem PySem.Spec PyProof.Rows L2
section
variable {X : Cx} {Ω : Om} {W : WX} {elt e tg : Expr} {f fd : EF} {c : TF} {pos apos cpos : Pos} {ifs : List Expr} {scope : Scope} {own : List (Str × Nat)} {gt : TG} {pf : PF} {vs : List Nat}
end
end Mi
namespace Mi
open PySem PySem.Spec PyProof.Rows L2
section
variable {X : Cx} {Ω : Om} {W : WX} {st : Stmt} {s : SF}
end
end Mi
namespace ZpX
open PySem PySem.Spec PyProof.Rows L2 RZ
open PySem.Sem (wp)
section
variable {prog : Program} {w : World} {A : Around} {E : Value → Shared → Prop} {s : Shared} {z TI TO i j l m : Addr} {k : Nat} {us vs : Array Value} {a b : Value}
theorem nx_some {u v : Value} {Q : Value → Shared → Prop} (D : ZipApart z TI TO i j l m) (zz : IsZip s.heap z TI TO .none) (tI : IsPair s.heap TI (.ref i) (.ref j)) (tO : IsPair s.heap TO a b)
    (ii : s.heap.IsTupleIter i l k) (jj : s.heap.IsListIter j m k) (ll : s.heap.IsTuple l us) (mm : s.heap.IsList m vs) (eu : us[k]? = some u) (ev : vs[k]? = some v)
    (q : ∀ h', IsZip h' z TI TO (rawInt s.heap.objs.size) → IsPair h' TO u v → h'.IsTupleIter i l (k + 1) → h'.IsListIter j m (k + 1) → IsPair h' s.heap.objs.size u v → h'.objs.size = s.heap.objs.size + 1 →
      (∀ c o, c ≠ z → c ≠ TO → c ≠ i → c ≠ j → s.heap.get? c = some o → h'.get? c = some o) → Q (.ref s.heap.objs.size) { s with heap := h' }) :
    wpAny (model prog w) A (Builtin.«zip.__next__» ⟨[.ref z], []⟩) (fun fin s' => ∃ v, fin = .done (.ret v) ∧ Q v s') E s := by
  show wpAny _ _ (field (.ref z) 2 >>= fun _ => _) _ _ _
  refine wpAny_bind (wpAny_field zz rfl (x := .bool false) rfl (show wpAny _ _ (field (.ref z) 3 >>= fun _ => _) _ _ _ from ?_))
  refine wpAny_bind (wpAny_field zz rfl (x := .ref TI) rfl (wpAny_bind (wpAny_seqItems tI rfl (show wpAny _ _ (Builtin.SmallTypes.ownedTupleIsFree (.ref z) >>= fun _ => _) _ _ _ from wpAny_bind ?_))))
  unfold Builtin.SmallTypes.ownedTupleIsFree
  refine wpAny_bind (wpAny_field zz rfl (x := .none) rfl (wpAny_pure ?_))
  rw [if_pos rfl]
  refine wpAny_bind (wpAny_rule (wpAny_bind (wpAny_field zz rfl (x := .ref TO) rfl (wpAny_bind (wpAny_setField_rec zz (by simp) fun g1 z1 s1 => ?_)))))
  have z1 : IsZip g1 z TI TO .ellipsis := z1
  simp only [List.zipIdx_cons, List.zipIdx_nil, List.forIn_cons, List.forIn_nil]
  refine wpAny_bind (wpAny_bind (wpAny_bind (wpAny_onRaise (show wpAny _ _ (Builtin.SmallTypes.nextOf (.ref i) >>= fun _ => _) _ _ _ from wpAny_bind (nextOf_tuple_item (ii.extBut s1.extBut D.i1z) (ll.extBut s1.extBut D.l1z) eu fun g2 i2 s2 => wpAny_pure ?_)))))
  have o2 : IsPair g2 TO a b := s2.extBut _ _ D.TOi1 (s1.extBut _ _ D.TOz tO)
  refine wpAny_bind (wpAny_seqItems o2 rfl (wpAny_bind (wpAny_updateSeq_pair o2 fun g3 o3 s3 => wpAny_bind (wpAny_letGo (wpAny_pure (wpAny_bind (wpAny_bind (wpAny_onRaise ?_))))))))
  have o3 : IsPair g3 TO u b := o3
  show wpAny _ _ (Builtin.SmallTypes.nextOf (.ref j) >>= fun _ => _) _ _ _
  refine wpAny_bind (wpAny_nextOf_list_item (((jj.extBut s1.extBut D.i2z).extBut s2.extBut D.i12.symm).extBut s3.extBut D.TOi2.symm) (((mm.extBut s1.extBut D.l2z).extBut s2.extBut D.l2i1).extBut s3.extBut D.l2TO) ev fun g4 j4 s4 => wpAny_pure ?_)
  have o4 : IsPair g4 TO u b := s4.extBut _ _ D.TOi2 o3
  refine wpAny_bind (wpAny_seqItems o4 rfl (wpAny_bind (wpAny_updateSeq_pair o4 fun g5 o5 s5 => wpAny_bind (wpAny_letGo (wpAny_pure (wpAny_pure ?_))))))
  have o5 : IsPair g5 TO u v := o5
  refine wpAny_bind (wpAny_seqItems o5 rfl (wpAny_bind (wpAny_newTuple ?_)))
  have sz : g5.objs.size = s.heap.objs.size := by rw [s5.1, s4.1, s3.1, s2.1, s1.1]
  have z5 : IsZip g5 z TI TO .ellipsis := s5.extBut _ _ D.TOz.symm (s4.extBut _ _ D.i2z.symm (s3.extBut _ _ D.TOz.symm (s2.extBut _ _ D.i1z.symm z1)))
  have k5 : ∀ c o, c ≠ z → c ≠ TO → c ≠ i → c ≠ j → s.heap.get? c = some o → g5.get? c = some o := fun c o p1 p2 p3 p4 e =>
    s5.extBut _ _ p2 (s4.extBut _ _ p4 (s3.extBut _ _ p2 (s2.extBut _ _ p3 (s1.extBut _ _ p1 e))))
  have i5 : g5.IsTupleIter i l (k + 1) := ((i2.extBut s3.extBut D.TOi1.symm).extBut s4.extBut D.i12).extBut s5.extBut D.TOi1.symm
  have j5 : g5.IsListIter j m (k + 1) := j4.extBut s5.extBut D.TOi2.symm
  have zl : z < g5.objs.size := Heap.lt_size z5
  show wpAny _ _ (Builtin.SmallTypes.ownedTupleHandOut (.ref z) (.ref g5.objs.size) >>= fun _ => _) _ _ _
  refine wpAny_bind ?_
  unfold Builtin.SmallTypes.ownedTupleHandOut
  have z6 : IsZip (g5.push { cls := .type "tuple", data := .seq #[u, v] }) z TI TO .ellipsis := Heap.get?_push_of_some _ z5
  refine wpAny_bind (wpAny_setField_rec z6 (by simp) fun g7 z7 s7 => ?_)
  have z7 : IsZip g7 z TI TO (rawInt g5.objs.size) := z7
  refine wpAny_setField_rec z7 (by simp) fun g8 z8 s8 => ?_
  have z8 : IsZip g8 z TI TO (rawInt g5.objs.size) := z8
  have up : ∀ c o, c ≠ z → g5.get? c = some o → g8.get? c = some o := fun c o p1 e => s8.extBut _ _ p1 (s7.extBut _ _ p1 (Heap.get?_push_of_some _ e))
  have t8 : IsPair g8 g5.objs.size u v := s8.extBut _ _ (Nat.ne_of_gt zl) (s7.extBut _ _ (Nat.ne_of_gt zl) (Heap.get?_push_size _ rfl))
  have n8 : g8.objs.size = g5.objs.size + 1 := by rw [s8.1, s7.1, Heap.size_push]
  rw [sz] at z8 t8 n8
  refine wpAny_pure ⟨_, rfl, ?_⟩
  show Q (.ref g5.objs.size) _
  rw [sz]
  exact q g8 z8 (up _ _ D.TOz o5) (i5.at fun o e => up _ o D.i1z e) (j5.at fun o e => up _ o D.i2z e) t8 n8 fun c o p1 p2 p3 p4 e => up c o p1 (k5 c o p1 p2 p3 p4 e)
theorem nx_none {Q : Fin → Shared → Prop} (hh : A.handled = none) (D : ZipApart z TI TO i j l m) (zz : IsZip s.heap z TI TO .none) (tI : IsPair s.heap TI (.ref i) (.ref j)) (tO : IsPair s.heap TO a b)
    (ii : s.heap.IsTupleIter i l k) (jj : s.heap.IsListIter j m k) (ll : s.heap.IsTuple l us) (mm : s.heap.IsList m vs) (en : us[k]? = none ∨ vs[k]? = none)
    (q : ∀ h' e, (∀ c o, c ≠ z → c ≠ TO → c ≠ i → c ≠ j → s.heap.get? c = some o → h'.get? c = some o) → (∃ o, h'.get? e = some o ∧ o.cls = .type "StopIteration") → E (.ref e) { s with heap := h' }) :
    wpAny (model prog w) A (Builtin.«zip.__next__» ⟨[.ref z], []⟩) Q E s := by
  show wpAny _ _ (field (.ref z) 2 >>= fun _ => _) _ _ _
  refine wpAny_bind (wpAny_field zz rfl (x := .bool false) rfl (show wpAny _ _ (field (.ref z) 3 >>= fun _ => _) _ _ _ from ?_))
  refine wpAny_bind (wpAny_field zz rfl (x := .ref TI) rfl (wpAny_bind (wpAny_seqItems tI rfl (show wpAny _ _ (Builtin.SmallTypes.ownedTupleIsFree (.ref z) >>= fun _ => _) _ _ _ from wpAny_bind ?_))))
  unfold Builtin.SmallTypes.ownedTupleIsFree
  refine wpAny_bind (wpAny_field zz rfl (x := .none) rfl (wpAny_pure ?_))
  rw [if_pos rfl]
  refine wpAny_bind (wpAny_rule (wpAny_bind (wpAny_field zz rfl (x := .ref TO) rfl (wpAny_bind (wpAny_setField_rec zz (by simp) fun g1 z1 s1 => ?_)))))
  have z1 : IsZip g1 z TI TO .ellipsis := z1
  simp only [List.zipIdx_cons, List.zipIdx_nil, List.forIn_cons, List.forIn_nil]
  refine wpAny_bind (wpAny_bind (wpAny_bind (wpAny_onRaise (show wpAny _ _ (Builtin.SmallTypes.nextOf (.ref i) >>= fun _ => _) _ _ _ from ?_))))
  cases eu : us[k]? with
  | none =>
    refine wpAny_bind (nextOf_tuple_end hh (ii.extBut s1.extBut D.i1z) (ll.extBut s1.extBut D.l1z) eu fun g2 e s2 ⟨oe, hoe, hce⟩ => ?_)
    have z2 : IsZip g2 z TI TO .ellipsis := s2 _ _ D.i1z.symm z1
    have ez : e ≠ z := fun x => by subst x; rw [z2] at hoe; cases hoe; simp at hce
    exact wpAny_setField_rec z2 (by simp) fun g3 _ s3 => q g3 e (fun c o p1 _ p3 _ x => s3.extBut _ _ p1 (s2 _ _ p3 (s1.extBut _ _ p1 x))) ⟨oe, s3.extBut _ _ ez hoe, hce⟩
  | some u =>
    have ev : vs[k]? = none := en.elim (fun h => by rw [eu] at h; cases h) id
    refine wpAny_bind (nextOf_tuple_item (ii.extBut s1.extBut D.i1z) (ll.extBut s1.extBut D.l1z) eu fun g2 i2 s2 => wpAny_pure ?_)
    have o2 : IsPair g2 TO a b := s2.extBut _ _ D.TOi1 (s1.extBut _ _ D.TOz tO)
    refine wpAny_bind (wpAny_seqItems o2 rfl (wpAny_bind (wpAny_updateSeq_pair o2 fun g3 o3 s3 => wpAny_bind (wpAny_letGo (wpAny_pure (wpAny_bind (wpAny_bind (wpAny_onRaise ?_))))))))
    show wpAny _ _ (Builtin.SmallTypes.nextOf (.ref j) >>= fun _ => _) _ _ _
    refine wpAny_bind (wpAny_nextOf_list_end hh (((jj.extBut s1.extBut D.i2z).extBut s2.extBut D.i12.symm).extBut s3.extBut D.TOi2.symm) (((mm.extBut s1.extBut D.l2z).extBut s2.extBut D.l2i1).extBut s3.extBut D.l2TO) ev fun g4 e s4 ⟨oe, hoe, hce⟩ => ?_)
    have z4 : IsZip g4 z TI TO .ellipsis := s4 _ _ D.i2z.symm (s3.extBut _ _ D.TOz.symm (s2.extBut _ _ D.i1z.symm z1))
    have ez : e ≠ z := fun x => by subst x; rw [z4] at hoe; cases hoe; simp at hce
    exact wpAny_setField_rec z4 (by simp) fun g5 _ s5 => q g5 e (fun c o p1 p2 p3 p4 x => s5.extBut _ _ p1 (s4 _ _ p4 (s3.extBut _ _ p2 (s2.extBut _ _ p3 (s1.extBut _ _ p1 x))))) ⟨oe, s5.extBut _ _ ez hoe, hce⟩
end
section
variable {prog : Program} {w : World} {A : Around} {E : Value → Shared → Prop} {s : Shared} {z TI TO i j l m : Addr} {k : Nat} {us vs : Array Value} {a b : Value}
theorem next_some {u v : Value} {Q : Option Value → Shared → Prop} (D : ZipApart z TI TO i j l m) (zz : IsZip s.heap z TI TO .none) (tI : IsPair s.heap TI (.ref i) (.ref j)) (tO : IsPair s.heap TO a b)
    (ii : s.heap.IsTupleIter i l k) (jj : s.heap.IsListIter j m k) (ll : s.heap.IsTuple l us) (mm : s.heap.IsList m vs) (eu : us[k]? = some u) (ev : vs[k]? = some v)
    (q : ∀ h', IsZip h' z TI TO (rawInt s.heap.objs.size) → IsPair h' TO u v → h'.IsTupleIter i l (k + 1) → h'.IsListIter j m (k + 1) → IsPair h' s.heap.objs.size u v → h'.objs.size = s.heap.objs.size + 1 →
      (∀ c o, c ≠ z → c ≠ TO → c ≠ i → c ≠ j → s.heap.get? c = some o → h'.get? c = some o) → Q (some (.ref s.heap.objs.size)) { s with heap := h' }) : wpAny (model prog w) A (pyNext (.ref z)) Q E s := by
  have ty : s.TypeIs (.ref z) "zip" := ⟨_, zz, rfl⟩
  unfold pyNext
  refine wpAny_bind (wpAny_attempt (wpAny_callSpecial?_slot (name := Str.ofString "__next__") ty F.slot_zip_next (wpAny_call_entry F.slot_zip_next ty F.entry_zip_next ?_ (F.args_zip_next_1 _))))
  exact nx_some D zz tI tO ii jj ll mm eu ev fun h' a1 a2 a3 a4 a5 a6 a7 => wpAny_pure (q h' a1 a2 a3 a4 a5 a6 a7)
theorem next_none {Q : Option Value → Shared → Prop} (hh : A.handled = none) (D : ZipApart z TI TO i j l m) (zz : IsZip s.heap z TI TO .none) (tI : IsPair s.heap TI (.ref i) (.ref j)) (tO : IsPair s.heap TO a b)
    (ii : s.heap.IsTupleIter i l k) (jj : s.heap.IsListIter j m k) (ll : s.heap.IsTuple l us) (mm : s.heap.IsList m vs) (en : us[k]? = none ∨ vs[k]? = none)
    (q : ∀ h', (∀ c o, c ≠ z → c ≠ TO → c ≠ i → c ≠ j → s.heap.get? c = some o → h'.get? c = some o) → Q none { s with heap := h' }) : wpAny (model prog w) A (pyNext (.ref z)) Q E s := by
  have ty : s.TypeIs (.ref z) "zip" := ⟨_, zz, rfl⟩
  unfold pyNext
  refine wpAny_bind (wpAny_attempt (wpAny_callSpecial?_slot (name := Str.ofString "__next__") ty F.slot_zip_next (wpAny_call_entry F.slot_zip_next ty F.entry_zip_next ?_ (F.args_zip_next_1 _))))
  refine nx_none hh D zz tI tO ii jj ll mm en fun h' e keep ⟨oe, hoe, hce⟩ => ?_
  exact wpAny_bind (wpAny_isInstance (T := "StopIteration") (b := true) ⟨oe, hoe, hce⟩ isSubtype_stop (wpAny_pure (q _ keep)))
end
section
variable {prog : Program} {w : World} {A : Around} {E : Value → Shared → Prop} {s : Shared}
end
end ZpX
namespace ZpX
open PySem PySem.Calls PyProof.Rows PyProof.V PySem.Spec
open ZpL (ne_above ZG zip_no_len zip_no_hint)
section
variable {prog : Program} {w : World} {A : Around} {E : Value → Shared → Prop} {s : Shared} {z TI TO T i j l m : Addr} {f : Bool} {oT : Obj} {k1 k2 : Nat} {us vs : Array Value}
end
def ZSt (h : Heap) (z TI TO i1 i2 l1 l2 S : Addr) (i : Nat) : Prop :=
  IsPair h TI (.ref i1) (.ref i2) ∧ h.IsTupleIter i1 l1 i ∧ h.IsListIter i2 l2 i ∧ ((IsZip h z TI TO .none ∧ ∃ a b, IsPair h TO a b) ∨ ∃ (T : Addr) (f : Bool) (oT : Obj), IsZipHeld h z TI TO T f ∧ h.get? T = some oT ∧ T ≠ z ∧ T ≠ i1 ∧ T ≠ i2 ∧ T ≠ S)
section
variable {prog : Program} {w : World} {A : Around} {E : Value → Shared → Prop} {s : Shared} {z TI TO i1 i2 l1 l2 S : Addr} {i : Nat} {xs ys : Array Value}
theorem ZSt.lt {h : Heap} (st : ZSt h z TI TO i1 i2 l1 l2 S i) : z < h.objs.size ∧ i1 < h.objs.size ∧ i2 < h.objs.size ∧ TI < h.objs.size := by
  obtain ⟨hTI, ⟨o1, h1, _⟩, ⟨o2, h2, _⟩, hz | ⟨T, f, oT, hz, _⟩⟩ := st
  · exact ⟨Heap.lt_size hz.1, Heap.lt_size h1, Heap.lt_size h2, Heap.lt_size hTI⟩
  · exact ⟨Heap.lt_size hz, Heap.lt_size h1, Heap.lt_size h2, Heap.lt_size hTI⟩
theorem ZSt.keep {h h' : Heap} (D : ZipApart z TI TO i1 i2 l1 l2) (st : ZSt h z TI TO i1 i2 l1 l2 S i) (hS : S ≠ z ∧ S ≠ TO ∧ S ≠ i1 ∧ S ≠ i2 ∧ S ≠ TI) (up : ∀ b o, b ≠ S → h.get? b = some o → h'.get? b = some o) : ZSt h' z TI TO i1 i2 l1 l2 S i := by
  obtain ⟨s1, s2, s3, s4, s5⟩ := hS
  obtain ⟨hTI, ⟨o1, h1, r1⟩, ⟨o2, h2, r2⟩, ⟨hz, a, b, hTO⟩ | ⟨T, f, oT, hz, hT, t1, t2, t3, t4⟩⟩ := st
  · exact ⟨up _ _ s5.symm hTI, ⟨o1, up _ _ s3.symm h1, r1⟩, ⟨o2, up _ _ s4.symm h2, r2⟩, .inl ⟨up _ _ s1.symm hz, a, b, up _ _ s2.symm hTO⟩⟩
  · exact ⟨up _ _ s5.symm hTI, ⟨o1, up _ _ s3.symm h1, r1⟩, ⟨o2, up _ _ s4.symm h2, r2⟩, .inr ⟨T, f, oT, up _ _ s1.symm hz, up _ _ t4 hT, t1, t2, t3, t4⟩⟩
end
section
variable {prog : Program} {w : World} {A : Around} {s : Shared} {R : Result → Shared → Prop} {z TI TO i1 i2 l1 l2 S : Addr} {xs ys : Array Value}
end
section
variable {prog : Program} {w : World} {A : Around} {E : Value → Shared → Prop} {s : Shared} {z TI TO i1 i2 l1 l2 : Addr} {xs ys : Array Value}
end
end ZpX
namespace ZpX
open PySem PySem.Spec PyProof.Rows L2
open ZpL (ZG)
section
variable {X : Cx} {e e2 : Expr} {ta : TA} {p p2 p1 pos : Pos}
end
end ZpX
namespace Mi
open PySem PySem.Spec PyProof.Rows L2
section
variable {X : Cx} {Ω : Om} {W : WX} {e e2' : Expr} {fa : AF} {p p2 p1 pos : Pos}
end
end Mi
namespace Mi
open PySem PySem.Spec PyProof.Rows PySem.Calls L2

structure InitC (prog : Program) (K : PySem.W.Frag) (mg : Str → Option Value) (fI D : Addr) (params : Arguments) (body : List Stmt) (scope : Scope) (fd : FuncData) : Prop where
  fn : ∃ (cc cda : Addr) (oc : Value) (od : Option Addr) (osl : Array (Option Value)) (dV kV doc pm ct : Value) (an : Option Addr), fd = PySem.W.ksFn "__init__" "NeedError.__init__" params body scope dV kV doc pm an (.ref cda) ct cc ∧
    K.lookup fI = some ⟨oc, od, .func fd, osl⟩ ∧ PySem.W.codeIn K (.ref cda) "NeedError.__init__" = true ∧
    (∃ (ccl : Value) (cdd : Option Addr) (ccs : Array (Option Value)) (vs : Array Value) (file : Str) (tf : Tok), K.lookup cda = some ⟨ccl, cdd, .fields vs, ccs⟩ ∧ vs[2]? = some (.str file tf) ∧ ((prog.main.file : Str) == file) = true) ∧
    (∃ (cl : Value) (cld : Option Addr) (csl : Array (Option Value)), K.lookup cc = some ⟨cl, cld, .cell (some (.ref D)), csl⟩)
  cD : ∃ cdD, PySem.W.clsIn K D = some cdD
  nosuper : mg "super" = none
  top : (prog.main.scope.names.lookup ("super" : Str)).isSome = false
structure ErrC (K : PySem.W.Frag) (D C : Addr) : Prop where
  ox : OexC K C
  novalue : PySem.W.findIn K (.ref C) "value" = some none
  sub : PySem.W.mroIn K C (.ref D) = some true
  sup : PySem.W.ks_superIn K C D "__init__" = some (some (.builtin "ValueError.__init__"))
  ve : PySem.W.subIn K (.ref C) (.type "ValueError") = some true
  opq : PySem.W.nsIn K cStatics "thirdparty.any" = some none
abbrev bwV (x : Addr) : Obj := PySem.W.kxs_mw "ValueError.__init__" x
section
variable {prog : Program} {w : World} {A : Around} {E : Value → Shared → Prop} {h : Heap} {g : Array GenState} {d : Drawn} {t : Nat} {os : OsState}
variable {nm q : Str} {C N : Addr} {bs bm : List Value} {hdct : Bool} {sn : List Str} {sub : List Value} {ab : Bool} {col : Option Bool} {dd : Option Addr} {k0 k1 k2 k3 k5 : Option Value}
theorem call_bwV {u e t0 : Addr} {rest : List Value} {Q : Value → Shared → Prop}
    (hC : h.get? C = some (excClassObj nm q C N bs bm hdct sn sub ab col dd k0 k1 k2 k3 k5 "ValueError.__new__")) (he : h.get? e = some (PySem.HandSPX.excO C t0)) (hu : h.get? u = some (bwV e)) (hrest : rest.length ≤ sizeLine)
    (hq : ∀ h' t1, (∀ b o, b ≠ e → h.get? b = some o → h'.get? b = some o) → h'.get? e = some (PySem.HandSPX.excO C t1) → Q .none ⟨h', g, d, t, os⟩) :
    wpAny (model prog w) A (call (.ref u) rest) Q E ⟨h, g, d, t, os⟩ := by
  refine wpAny_call (codeAny_of_tree ?_)
  show wpAny _ A.in1 (callAny (.ref u) ⟨rest, []⟩) _ _ _
  simp only [callAny]
  refine wpAny_bind (wpAny_load hu ?_)
  simp only [PySem.W.kxs_mw, show (Value.type "method-wrapper" == Value.type "method" || Value.type "method-wrapper" == Value.type "builtin_function_or_method" || Value.type "method-wrapper" == Value.type "method-wrapper") = true by decide, if_true]
  refine PySem.W.KFB.if_so (by decide) ?_
  refine wpAny_bind (PySem.ESX.check_bound F.excBase_ValueError hC he rfl ?_)
  refine wpAny_bind (wpAny_pure (wpAny_pure ?_))
  refine ⟨Code.quiet_builtin _ (by decide +kernel), codeAny_builtin F.excBase_ValueError.initEntry ?_⟩
  exact PySem.W.exc_init_tree (cls := .ref C) (t0 := t0) (dv := none) (c2 := .none) (c3 := .none) (b4 := .bool false) he hrest fun h' k e' _ => hq h' _ k e'
end
section
variable {P : Program} {w : World} {K : PySem.W.Frag} {mg : Str → Option Value} {base : Heap} {fI D : Addr} {fd : FuncData} {scope : Scope}
abbrev initB (p1 p2 p3 p4 p5 p6 p7 p8 p9 p10 : Pos) : List Stmt := [.Expr (.Call (.Attribute (.Call (.Name "super" p1) [] [] p2) "__init__" p3) [.Name "value" p4] [] p5) p6, .Assign [.Attribute (.Name "self" p7) "value" p8] (.Name "value" p9) p10]
def spI (K : PySem.W.Frag) (D : Addr) : Sp := fun vs H Q _ => ∃ (a C : Addr) (y : V), vs = [.ref a, y] ∧ ErrC K D C ∧ H a = some (exo a C none) ∧ ∀ dx, H dx = none → dx ≠ a → Q .non (upd (upd H dx (exd dx [("value", y)])) a (exo a C (some dx)))
theorem init_ok {k : Nat} {params : Arguments} {p1 p2 p3 p4 p5 p6 p7 p8 p9 p10 : Pos} (T : InitC P K mg fI D params (initB p1 p2 p3 p4 p5 p6 p7 p8 p9 p10) scope fd)
    (he : ∀ env : Env, ∃ pl : Sem Bool, eval (.Call (.Attribute (.Call (.Name "super" p1) [] [] p2) "__init__" p3) [.Name "value" p4] [] p5) env = (do
      let ov ← attributeBase (.Call (.Name "super" p1) [] [] p2) "__init__" env (eval (.Call (.Name "super" p1) [] [] p2) env)
      standAt p3.atName
      let (f, first) ← holding [ov] (getMethod ov "__init__" pl)
      callWith p5 f first (backTo p5 (starEach [.Name "value" p4] env)) []))
    (hpar : (params.posonlyargs ++ params.args).head?.map (·.arg) = some ("self" : Str))
    (hk : scope.kind = .function) (hco : scope.isCoroutine = false) (hgen : scope.isGenerator = false) (hcell : ∀ x ∈ scope.names, x.2 ≠ .cell)
    (hks : scope.names.lookup ("super" : Str) = some .globalImplicit) (hkc : scope.names.lookup ("__class__" : Str) = some .free) (hkself : scope.names.lookup ("self" : Str) = some .local) (hkval : scope.names.lookup ("value" : Str) = some .local) :
    FnOk P w K mg base (L2.CX P w) (k + 1) fI fd ["self", "value"] (spI K D) := by
  refine ⟨fun vs H Q E ⟨a, C, y, e, _⟩ => by rw [e]; rfl, fun A outer s H args us vs Q E hr e0 hb rv sp => ?_⟩
  obtain ⟨a, C, y, rfl, EC, ha, hq⟩ := sp
  obtain ⟨u, rfl, ry⟩ : ∃ u, us = [.ref a, u] ∧ RelV y u := by
    cases rv with
    | @cons _ ua _ ur r1 r2 =>
      cases r2 with
      | @cons _ u _ _ r3 r4 =>
        cases r4
        obtain rfl : ua = Value.ref a := r1
        exact ⟨u, rfl, r3⟩
  have X : K.In s.heap := e0.mod.kin.keeps fun b o e => (e0.bs b o e).1
  have lim : s.heap.NoLimit := e0.mod.nolimit.keeps fun b o e => (e0.bs b o e).1
  have glob : s.heap.Ns mainGlobals mg := e0.mod.glob.keeps fun b o e => (e0.bs b o e).1
  obtain ⟨mb, blt0, hblt⟩ := e0.mod.blt
  have blt : s.heap.Ns builtinsNs mb := blt0.keeps fun b o e => (e0.bs b o e).1
  obtain ⟨cc, cda, oc, od, osl, dV, kV, doc, pm, ct, an, rfl, lk, hcd, ⟨ccl, cdd, ccs, cvs, file, tf, lkc, hvs, hfile⟩, ⟨cl, cld, csl, lkcell⟩⟩ := T.fn
  obtain ⟨cdD, hD⟩ := T.cD
  obtain ⟨oD, hD1, hD2⟩ : ∃ oD, K.lookup D = some oD ∧ oD.data = .cls cdD := by
    unfold PySem.W.clsIn at hD
    split at hD
    · rename_i c d cd' sl ho
      cases hD
      exact ⟨_, ho, rfl⟩
    · cases hD
  obtain ⟨ar, har, harn⟩ : ∃ ar, (params.posonlyargs ++ params.args).head? = some ar ∧ ar.arg = ("self" : Str) := by
    cases z : (params.posonlyargs ++ params.args).head? with
    | none => rw [z] at hpar; cases hpar
    | some ar => rw [z] at hpar; exact ⟨ar, rfl, Option.some.inj hpar⟩
  obtain ⟨t0, hoa⟩ := exo_at e0.hok ha
  obtain ⟨nm, q, N, bs, bm, sn, sub, ab, col, dd, k0, k1, k2, k3, k5, hC, hbm⟩ := EC.ox.cls
  have hcl : PySem.W.clsIn K C = some { name := nm, bases := bs, mro := .ref C :: bm, ns := N, qualname := q, hasDict := true, slotNames := sn, subclasses := sub, abstract := ab, collection := col, hasDel := false } := by unfold PySem.W.clsIn; rw [hC] <;> rfl
  refine PySem.ks_codeAny_call_defAt (fd := PySem.W.ksFn "__init__" "NeedError.__init__" params (initB p1 p2 p3 p4 p5 p6 p7 p8 p9 p10) scope dV kV doc pm an (.ref cda) ct cc) (body := initB p1 p2 p3 p4 p5 p6 p7 p8 p9 p10) (binds := [("self", .ref a), ("value", u)]) hr.depth (X _ _ lk) rfl lim (PySem.W.codeRec_of X hcd) rfl hb hcell (fun x hx => ?_) (fun h₁ hns hk₁ => ?_) hco hgen hk
  · rcases List.mem_cons.mp hx with rfl | hx
    · exact hkself
    · rcases List.mem_cons.mp hx with rfl | hx
      · exact hkval
      · cases hx
  -- super().__init__(value)
  have K1 : K.In h₁ := X.keeps hk₁
  have g1 : h₁.Ns mainGlobals mg := glob.keeps hk₁
  have b1 : h₁.Ns builtinsNs mb := blt.keeps hk₁
  have a1 : h₁.get? a = some (PySem.HandSPX.excO C t0) := hk₁ _ _ hoa
  have mself : (fun x => ([("self", Value.ref a), ("value", u)] : List (Str × Value)).reverse.lookup x) "self" = some (.ref a) := rfl
  have mval : (fun x => ([("self", Value.ref a), ("value", u)] : List (Str × Value)).reverse.lookup x) "value" = some u := rfl
  obtain ⟨pl, hev⟩ := he (callEnv (PySem.W.ksFn "__init__" "NeedError.__init__" params (initB p1 p2 p3 p4 p5 p6 p7 p8 p9 p10) scope dV kV doc pm an (.ref cda) ct cc) s.heap.objs.size fI)
  refine PySem.ks_wpAt_execs_cons (PySem.ks_wpAt_Expr_any (PySem.ks_wpAt_MethodCall (he := hev) (PySem.ks_wpAt_super_base (of := ⟨oc, od, .func (PySem.W.ksFn "__init__" "NeedError.__init__" params (initB p1 p2 p3 p4 p5 p6 p7 p8 p9 p10) scope dV kV doc pm an (.ref cda) ct cc), osl⟩) hks hkc (by decide) rfl (K1 _ _ lk) rfl har rfl (K1 _ _ lkc) rfl hvs hfile T.top ?_)) (by show (scope.kind == .module && _) = false; rw [hk]; rfl) rfl)
  refine PySem.W.ks_loadName_global hk hks (loadGlobal_builtin g1 T.nosuper b1 ((hblt _ (by decide +kernel)).trans PyProof.Rows.Boot.«super») ⟨rfl, ?_⟩)
  refine wpAny_loadName_free hk hkc rfl ⟨_, K1 _ _ lkcell, rfl⟩ ?_
  rw [harn]
  refine wpAny_loadName_local hk hkself hns mself ?_
  refine PySem.ks_wpAny_isType_cls (K1 _ _ hD1) hD2 ⟨rfl, ?_⟩
  refine PySem.ks_wpAny_call_super (K1 _ _ hD1) hD2 a1 rfl (fun c e => by cases e) (PySem.W.looks_mroIn K1 EC.sub) (fun h₂ hso hk₂ => ?_)
  -- its __init__
  have K2 : K.In h₂ := K1.keeps hk₂
  have a2 := hk₂ _ _ a1
  have hxC : a ≠ C := fun z => by
    have := K2 _ _ hC
    rw [← z, a2] at this
    cases this
  have hsup := EC.sup
  unfold PySem.W.ks_superIn at hsup
  rw [hcl] at hsup
  have I2 : PySem.W.InstAt h₂ a (PySem.HandSPX.excO C t0) C none := ⟨a2, rfl, rfl, trivial⟩
  refine PySem.W.kxs_getMethod (l₀ := .ref C :: bm) PySem.W.kxs_ValueError hso (PySem.W.looks_opaque K2 EC.opq) ((PySem.W.looks_clsIn K2 hcl).andThen .now) rfl K2 hsup (I2.type.andThen (PySem.W.looks_subIn K2 EC.ve)) hxC (by decide) ?_
  have hk₃ : ∀ b o, h₂.get? b = some o → (h₂.push (PySem.W.kxs_mw "ValueError.__init__" a)).get? b = some o := fun b o e => Heap.get?_push_of_some _ e
  have hmw : (h₂.push (PySem.W.kxs_mw "ValueError.__init__" a)).get? h₂.objs.size = some (bwV a) := Heap.get?_push_at rfl rfl
  have ns3 := hns.keeps fun b o e => hk₃ b o (hk₂ b o e)
  -- called
  refine PySem.W.kxs_callWith (i := "ValueError.__init__") (x := a) rfl ?_
  refine evalArgs_plain (spliced_cons (wpAny_Name (wpAny_loadName_local hk hkval ns3 mval (spliced_nil ⟨hmw, ?_⟩)) (by decide)))
  refine call_bwV (K2.keeps hk₃ _ _ hC) (hk₃ _ _ a2) hmw (by rw [sizeLine_eq]; show 1 ≤ _; omega) (fun h₄ t1 hk₄ a4 => ?_)
  -- self.value = value
  have k4 : ∀ b o, b ≠ a → h₁.get? b = some o → h₄.get? b = some o := fun b o nb e => hk₄ b o nb (hk₃ b o (hk₂ b o e))
  have na : ∀ {b : Addr}, H b = none → b ≠ a := fun {b} n z => by
    rw [z, ha] at n
    cases n
  have K4 : K.In h₄ := fun b o e => k4 b o (na (e0.bs b o (e0.mod.kin _ _ e)).2) (K1 b o e)
  have La : s.heap.objs.size ≠ a := Nat.ne_of_gt (Heap.lt_size hoa)
  have ns4 : h₄.Ns s.heap.objs.size (fun x => ([("self", Value.ref a), ("value", u)] : List (Str × Value)).reverse.lookup x) := by
    obtain ⟨o, es, ep, ho, r⟩ := hns
    exact ⟨o, es, ep, k4 _ _ La ho, r⟩
  refine PySem.ks_wpAt_execs_cons (PySem.ks_wpAt_Assign_Attr (wpAt_of_wpAny (wpAny_Name (wpAny_loadName_local hk hkval ns4 mval (wpAny_Name (wpAny_loadName_local hk hkself ns4 mself ?_) (by decide))) (by decide))) rfl)
  refine PySem.W.set_plain K4 (ox := PySem.HandSPX.excO C t1) (od := none) ⟨a4, rfl, rfl, trivial⟩ EC.ox.sa ?_
  refine PySem.HandSPX.exc_osa K4 a4 hcl (show PySem.HandSPX.refsVE (.ref C :: bm) = true from hbm) rfl EC.novalue (fun h₅ tk' dx k5' dn dne hx hn => ?_)
  refine wpAt_of_wpAny (wpAny_execs_nil ?_)
  have kk : ∀ b o, b ≠ a → s.heap.get? b = some o → h₅.get? b = some o := fun b o nb e => k5' b o nb (k4 b o nb (hk₁ b o e))
  have lt4 : ∀ {b : Addr} {o : Obj}, s.heap.get? b = some o → b < h₄.objs.size := fun {b o} e => by
    by_cases nb : b = a
    · rw [nb]; exact Heap.lt_size a4
    · exact Heap.lt_size (k4 b o nb (hk₁ b o e))
  have nd : ∀ {b : Addr} {o : Obj}, s.heap.get? b = some o → b ≠ dx := fun {b o} q => Nat.ne_of_lt (Nat.lt_of_lt_of_le (lt4 q) dn)
  have hnd : H dx = none := by
    cases z : H dx with
    | none => rfl
    | some o =>
      have := e0.hok.lt z
      obtain ⟨ob, hob⟩ := objOk_get (e0.hok _ _ z)
      exact absurd rfl (nd hob)
  have Un1 : Un (frs outer) [] H (upd (upd H dx (exd dx [("value", y)])) a (exo a C (some dx))) s.heap h₅ := {
    keep := fun b o q n _ _ => kk b o (na n) q
    slot := fun b o q n _ _ => ⟨o.slots, kk b o (na n) q⟩
    free := fun b o q n _ => by rw [upd_ne (na n), upd_ne (nd q)]; exact n
    there := fun b o q _ => by
      by_cases hb : b = a
      · exact ⟨_, by rw [hb]; exact hx⟩
      · exact ⟨o, kk b o hb q⟩
    tups := fun b xs q => by rw [upd_ne (at_ne ha q exo_tup), upd_ne (ne_of_none q hnd)]; exact q
    frzs := fun b o v q => by rw [upd_ne (at_ne ha q exo_frz), upd_ne (ne_of_none q hnd)]; exact q
    tbls := fun b ps q => ⟨#[], by rw [upd_ne (at_ne ha q exo_tbl), upd_ne (ne_of_none q hnd), q]; simp⟩ }
  refine ⟨.non, _, rfl, e0.bare, Un1, fun b o q => ?_, rfl, hq dx hnd dne⟩
  by_cases hb : b = a
  · subst hb
    rw [upd_same] at q
    cases q
    exact exo_ok hx
  · rw [upd_ne hb] at q
    by_cases hd : b = dx
    · subst hd
      rw [upd_same] at q
      cases q
      exact exd_ok hn (relO_put (fs := []) ry fun g => True.intro)
    · rw [upd_ne hd] at q
      exact (e0.hok b o q).stay (fun c v hc z => kk c v (by
          rcases hc with hc | hc
          · rw [hc]
            exact hb
          · exact at_ne ha hc exo_own) z)
        (fun c hc => by rw [upd_ne (at_ne ha hc exo_own), upd_ne (ne_of_none hc hnd)]; exact hc) (fun c xs hc => by rw [upd_ne (at_ne ha hc exo_tup), upd_ne (ne_of_none hc hnd)]; exact hc)
end
end Mi
namespace Mi
open PySem PySem.Spec PyProof.Rows L2
def sRaise (c : Nat) (f : EF) : SF := fun σ M => match f σ M with
  | .ok t M1 => some (.ex σ c t, M1)
  | .exc c' t M1 => some (.ex σ c' t, M1)
  | .err => none
structure XcG (P : Program) (w : World) (K : PySem.W.Frag) (mg : Str → Option Value) (base : Heap) (Ω : Om) (x : Str) (c k : Nat) : Prop where
  ex : ∃ (fI D : Addr) (fd : FuncData), mg x = some (.ref (Ω.cls c)) ∧ ErrC K D (Ω.cls c) ∧ PySem.W.findIn K (.ref (Ω.cls c)) "__init__" = some (some (.ref fI)) ∧ PySem.W.typeIn K (.ref fI) = some (.type "function") ∧ FnOk P w K mg base (L2.CX P w) k fI fd ["self", "value"] (spI K D) ∧ Binds K fd ["self", "value"] []
section
variable {X : Cx} {Ω : Om} {W : WX} {e : Expr} {f : EF} {x : Str} {c k : Nat} {p pos pos' : Pos}
theorem passL0 {CX : CXT} : Passes (L2.CX X.prog X.w) X (fun _ _ _ => False) := fun pins σ H s e s' I h => by
  obtain ⟨_, _, _, _, _, _, _, _, _, _, _, _, z⟩ := h
  exact z.elim
theorem ms_raise (G : XcG X.prog X.w X.K X.mg X.base Ω x c k) (hc : X.calm = true) (tk : Takes X W) (hr : Room (k + 1) X.A) (hg : Gl X x) (he : ME X Ω W e f) (hdb : (x == ("__debug__" : Str)) = false := by decide)
    (hst : starEach [e] X.env = (false, eval e X.env) :: starEach [] X.env := by rfl) (hpl : (backTo pos (starEach [] X.env)).any (·.1) = false := by rfl) :
    MS X Ω W (.Raise (some (.Call (.Name x p) [e] [] pos)) none pos') (sRaise c f) := by
  obtain ⟨fI, D, fd, gm, EC, hi, ti, F1, hb⟩ := G.ex
  refine L2PS.imp (ps_raise hc tk (pmk_oex (ta := liftA X.K Ω W (aCons f aNil)) EC.ox hi ti F1 hr hb .nil (passL0 (CX := L2.CX X.prog X.w)) hg gm (ma_cons he ma_nil hst) hdb hst hpl)) fun Dn σ H q => ?_
  obtain ⟨Z, ι, M, σT, m, rv, q⟩ := q
  refine ⟨Z, ι, M, σT, m, rv, ?_⟩
  unfold sRaise at q
  show Post X.K Ω (Rs X.K Ω) (fun c d H' => W c d σ H') Z ι M H _ ((f σT M).bind fun t M1 => (Res.ok [] M1).bind fun ts M2 => .ok (t :: ts) M2)
  cases z : f σT M with
  | err => rw [z] at q; exact q.elim
  | exc c' t M1 =>
    rw [z] at q
    intro ι1 H1 dd v m1 e1 r1 hx hs
    exact q ι1 σ H1 dd v m1 e1 (rv.ext e1.any) r1 hx hs
  | ok t M1 =>
    rw [z] at q
    intro ι1 H1 vs m1 e1 rs
    cases rs with
    | @cons _ y _ _ ry r0 =>
      cases r0
      refine ⟨by show 1 ≤ 1000; omega, fun a ha => ⟨a, Ω.cls c, y, rfl, EC, upd_same, fun dx hdx dne => ⟨rfl, dx, [("value", y)], upd_same, by rw [upd_ne dne, upd_same], ?_, ?_⟩⟩⟩
      · rw [upd_ne dne] at hdx; exact hdx
      · have hdx : H1 dx = none := by rw [upd_ne dne] at hdx; exact hdx
        have eH : upd (L2.del (upd (upd (upd H1 a (exo a (Ω.cls c) none)) dx (exd dx [("value", y)])) a (exo a (Ω.cls c) (some dx))) a) dx (.xd [("value", y)]) = upd H1 dx (.xd [("value", y)]) := by
          funext b
          by_cases hb1 : b = dx
          · rw [hb1, upd_same, upd_same]
          · rw [upd_ne hb1, upd_ne hb1]
            by_cases hb2 : b = a
            · rw [hb2, del_same, ha]
            · rw [del_ne hb2, upd_ne hb2, upd_ne hb1, upd_ne hb2]
        rw [eH]
        have e2 : Ext Z ι1 M1 H1 ι1 M1 (upd H1 dx (.xd [("value", y)])) := Ext.new hdx
        have e2' : Ext [] ι1 M1 H1 ι1 M1 (upd H1 dx (.xd [("value", y)])) := Ext.new hdx
        exact q ι1 σ (upd H1 dx (.xd [("value", y)])) dx y (m1.lay hdx) (e1.trans e2') ((rv.ext e1.any).ext e2) (ry.ext e2) upd_same ⟨fun l => m1.notLive hdx l, m1.notZ hdx⟩
end
end Mi
namespace L2
open PySem PySem.Spec PyProof.Rows
section
variable {X : Cx} {pins : List (Addr × Obj)} {σ : St} {H : Hp} {s : Shared}
abbrev xKept (oe : Obj) : HO := .frz oe (.ext fun _ => True)
theorem Inv.keepX (I : Inv X pins σ H s) {a : Addr} {oe : Obj} {vs : Array Value} (ha : s.heap.get? a = some oe) (hd : oe.data = .fields vs) (na : H a = none) (nL : a ≠ X.env.locals) (n0 : X.s_0.heap.get? a = none) (np : ∀ p ∈ X.pn ++ pins, p.1 ≠ a) :
    Inv (X.suite a (X.pn ++ pins)) [] σ (upd H a (xKept oe)) s := by
  have ne : ∀ {b : Addr} {o : HO}, H b = some o → b ≠ a := fun {b o} e z => by rw [z, na] at e; cases e
  have n0' : ∀ {b : Addr} {o : Obj}, X.s_0.heap.get? b = some o → b ≠ a := fun {b o} e z => by rw [z, n0] at e; cases e
  refine ⟨I.ok.suite _ _, I.os, I.bare, ⟨I.base.keep, I.base.slot, fun b o e n hx => ?_, I.base.there, fun b xs e => ?_, fun b o u e => ?_, fun b ps e => ?_⟩, I.loc, I.cell, ?_, fun x c e => ?_, fun p hp => ?_, fun b o e => ?_, I.len⟩
  · rw [upd_ne (n0' e)]; exact I.base.free b o e n hx
  · have q := I.base.tups b xs e
    rw [upd_ne (ne q)]; exact q
  · have q := I.base.frzs b o u e
    rw [upd_ne (ne q)]; exact q
  · obtain ⟨m, q⟩ := I.base.tbls b ps e
    exact ⟨m, by rw [upd_ne (ne q)]; exact q⟩
  · show upd H a _ X.env.locals = none
    rw [upd_ne (Ne.symm nL)]; exact I.free
  · have q := I.freeC x c e
    rw [upd_ne (fun z => ?_)]
    · exact q
    · obtain ⟨v, o, ho, hc⟩ := I.cell x c e
      rw [z, ha] at ho
      cases ho
      rw [hd] at hc
      cases hc
  · have hp' : p ∈ X.pn ++ pins := by rw [List.append_nil] at hp; exact hp
    obtain ⟨e, n, nl, nf, d⟩ := I.pin p hp'
    exact ⟨e, by rw [upd_ne (np p hp')]; exact n, nl, nf, d⟩
  · by_cases hb : b = a
    · rw [hb, upd_same] at e
      cases e
      rw [hb]
      exact ⟨ha, True.intro, ⟨oe, ha⟩, fun _ _ _ _ => True.intro⟩
    · rw [upd_ne hb] at e
      exact (I.hok b o e).stay (fun c u _ q => q) (fun c q => by rw [upd_ne (ne q)]; exact q) fun c xs q => by rw [upd_ne (ne q)]; exact q
theorem Inv.unsuite0 {a : Addr} {pn' : List (Addr × Obj)} (I : Inv (X.suite a (X.pn ++ pins)) pn' σ H s) (ok : X.Ok) : Inv X pins σ H s :=
  ⟨ok, I.os, I.bare, I.base, I.loc, I.cell, I.free, I.freeC, fun p hp => I.pin p (List.mem_append_left _ hp), I.hok, I.len⟩
end
def wKeep (K : PySem.W.Frag) (c : Value) (i : Nat) (ts : Addr → Value → Option Addr → Obj → TS) (Wout : WX) (D : Ends) : WX := fun cls d σ H =>
  ∃ b, PySem.W.exmOne K cls c = some b ∧ (b = true → ∀ a oe, H a = none → Zc cls d oe → (∃ vs, oe.data = .fields vs) → ts a cls d oe { nx := fun σ' H' => D.nx (σ'.set i none) H', rt := D.rt, bk := fun σ' H' => D.bk (σ'.set i none) H', ct := fun σ' H' => D.ct (σ'.set i none) H' } (σ.set i (some (.ref a))) (upd H a (xKept oe))) ∧
    (b = false → Wout cls d σ H)
section
variable {X : Cx} {x n : Str} {c : Value} {i : Nat} {body suite : List Stmt} {b₀ : Stmt} {np pos pos' : Pos} {tb : WX → TS} {ts : Addr → Value → Option Addr → Obj → TS} {Wout : WX}
theorem ps_try_keep (hs : X.stack = X.env :: X.outer) (hf : X.env.frame = some X.env.locals) (hex : X.ex = []) (hN : X.N.Nodup) (hi : X.N[i]? = some n) (hln : X.env.kindOf n = some .local) (hc : Names X x c) (tk : Takes X Wout)
    (hb : ∀ (W : WX) (pn : List (Addr × Obj)) (xe : Value → Shared → Prop), Takes (X.tr pn xe) W → PassesOwn (model X.prog X.w) X.A X.env xe → PSs (X.tr pn xe) body (tb W))
    (hsu : ∀ (a : Addr) (oe : Obj) (cls : Value) (d : Option Addr) (pn : List (Addr × Obj)), PSs (X.suite a pn) (b₀ :: suite) (ts a cls d oe)) :
    PS X (.Try body [.ExceptHandler (some (.Name x np)) (some n) (b₀ :: suite) pos'] [] [] pos) (fun D σ H => tb (wKeep X.K c i ts Wout D) D σ H) := by
  refine ⟨fun pins s σ H D I h => ?_⟩
  have ok := I.ok
  have hfr : X.A.frames = some (X.env :: X.outer) := by rw [ok.frames, hs]
  have hloc : Loc X.env.scope n := .inl hln
  refine wpAny_Try_except ?_
  refine wpAny_mono ((hb (wKeep X.K c i ts Wout D) (X.pn ++ pins) (fun e s₁ => wpAny (model X.prog X.w) X.A (noteFrame e X.env) (fun _ s₂ => wpAny (model X.prog X.w) X.A (setFlight e none) (fun _ s₃ =>
    wpAny (model X.prog X.w) X.A (handleBy e X.env [.ExceptHandler (some (.Name x np)) (some n) (b₀ :: suite) pos']) (SP X pins D) X.xe s₃) X.xe s₂) X.xe s₁) (fun u s' xx => ?_) PassesOwn.looking).run [] s σ H D (I.toTry _) h) (fun f s1 hsp => ?_) (fun e s1 he => he)
  · -- the catch
    obtain ⟨a, B, sI, pins', σ', H', cls, d, rfl, J', nb, up, sky, na, os, ag, b, hb1, hyes, hno⟩ := xx
    have J : Inv X pins σ' H' sI := J'.ofTry ok
    have sky' : Sky B (X.env :: X.outer) a (Zc cls d) X.env.locals s'.heap := by rw [← hs]; exact sky
    show wpAny (model X.prog X.w) X.A (noteFrame (.ref a) X.env) _ _ _
    refine Sky.land Zc.steady hfr hf sky' fun h3 fl3 up3 => ?_
    have J3 : Inv X pins σ' H' { s' with heap := h3 } := J.landed nb fl3.1 (up.trans up3) os ag
    obtain ⟨oe3, vs3, he3, hz3, hd3⟩ := fl3.there
    have notFr : ∀ {h : Heap} {o : Obj} {vs : Array Value}, h.FunFrames B (X.env :: X.outer) → h.get? a = some o → o.data = .fields vs → a ∉ frs (X.env :: X.outer) := fun {h o vs} ff e dd hm => by
      obtain ⟨_, o', e', hnf⟩ := ff.mem hm
      rw [e] at e'; cases e'
      exact hnf _ dd
    have nfr := notFr fl3.2.2.1 he3 hd3
    have nfr' : a ∉ frs X.stack := by rw [hs]; exact nfr
    have nI : ∀ o, sI.heap.get? a ≠ some o := fun o e => by
      have q := nb a o e nfr'
      rw [fl3.2.1] at q; cases q
    have n0 : X.s_0.heap.get? a = none := by
      cases e : X.s_0.heap.get? a with
      | none => rfl
      | some o =>
        obtain ⟨o', q⟩ := J.base.there a o e (by rw [hex]; exact fun z => nomatch z)
        exact absurd q (nI o')
    have npn : ∀ p ∈ X.pn ++ pins, p.1 ≠ a := fun p hp z => nI p.2 (by rw [← z]; exact (J.pin p hp).1)
    have nL : a ≠ X.env.locals := fun z => nfr (List.mem_filterMap.mpr ⟨X.env, List.mem_cons_self, by rw [hf, z]⟩)
    have nF : a ∉ X.fs := fun hm => by
      obtain ⟨e, he, q⟩ := List.mem_filterMap.mp hm
      exact nfr (List.mem_filterMap.mpr ⟨e, List.mem_cons_of_mem _ he, q⟩)
    have S3 := J3.suite he3 hd3 na nL nF
    refine wpAny_handleBy_cons (codeAny_handlers_test ?_) (by intro q; cases q)
    have LT : PySem.W.Looks (model X.prog X.w) h3 (typeOf (.ref a)) cls := fun A Q E s k q => wpAny_typeOf_ref (k _ _ he3) (by rw [hz3.1]; exact q)
    have LM := PySem.W.exm_one (M := model X.prog X.w) (J3.kIn) LT hb1
    have test : ∀ {Q : Value → Shared → Prop} {E : Value → Shared → Prop}, Q c { s' with heap := h3 } → wpAny (model X.prog X.w) (X.A.mark (some (.ref a))) (eval (.Name x np) X.env) Q E { s' with heap := h3 } := fun {Q E} q => by
      obtain ⟨hg, hdbg, hm | ⟨hm, hv, hnn⟩⟩ := hc
      · exact ld_glob (X := X.suite a ((a, oe3) :: (X.pn ++ pins))) S3 hg hm q hdbg
      · exact ld_blt (X := X.suite a ((a, oe3) :: (X.pn ++ pins))) S3 hg hm hv q hnn hdbg
    refine test (LM.here ?_)
    cases b with
    | true =>
      refine codeAny_handlers_suite_as ?_
      refine HandSPX.lands_againZ fl3 fun h4 fl4 up4 => ?_
      have J4 : Inv X pins σ' H' { s' with heap := h4 } := J.landed nb fl4.1 ((up.trans up3).trans up4) os ag
      obtain ⟨oe4, vs4, he4, hz4, hd4⟩ := fl4.there
      have S4 := J4.keepX he4 hd4 na nL n0 npn
      refine store_ok (X := X.suite a (X.pn ++ pins)) (v := .ref a) S4 hN hi hloc rfl (fun s5 S5 => ?_) (.inr hln)
      refine wpAny_mono ((hsu a oe4 cls d (X.pn ++ pins)).run [] s5 _ _ _ S5 (hyes rfl a oe4 na hz4 ⟨_, hd4⟩)) (fun f s6 hsp => ?_) (fun _ _ z => False.elim z)
      have end_ : ∀ {σ6 : St} {H6 : Hp} {Q : Shared → Prop}, Inv (X.suite a (X.pn ++ pins)) [] σ6 H6 s6 → (∀ s7, Inv X pins (σ6.set i none) H6 s7 → Q s7) →
          wpAny (model X.prog X.w) X.A (do bindName X.env n .none; unbindBehindTheSuite X.env n pos') (fun _ s7 => Q s7) X.xe s6 := fun {σ6 H6 Q} S6 hq => gone_ok (S6.unsuite0 ok) hN hi hln hq
      cases f with
      | next =>
        obtain ⟨σ6, H6, S6, q6⟩ := hsp
        exact end_ S6 fun s7 J7 => ⟨_, _, J7, q6⟩
      | brk =>
        obtain ⟨σ6, H6, S6, q6⟩ := hsp
        exact end_ S6 fun s7 J7 => ⟨_, _, J7, q6⟩
      | cont =>
        obtain ⟨σ6, H6, S6, q6⟩ := hsp
        exact end_ S6 fun s7 J7 => ⟨_, _, J7, q6⟩
      | ret u =>
        obtain ⟨v6, σ6, H6, S6, r6, q6⟩ := hsp
        exact end_ S6 fun s7 J7 => ⟨_, _, _, J7, r6, q6⟩
    | false =>
      show wpAny _ X.A (handleBy (.ref a) X.env []) _ _ _
      refine wpAny_handleBy_nil ?_
      obtain ⟨k1, k2, k3, oe, vs, T, oT, ts', he, hz, hd, h1, hr⟩ := id fl3
      unfold PySem.passOn
      refine wpAny_bind (wpAny_field he hd h1 ?_)
      rw [if_neg (show ¬ ((Value.ref T == Value.none) = true) from by simp)]
      have fin : wpAny (model X.prog X.w) X.A (setFlight (.ref a) X.env.frame) (fun _ s4 => wpAny (model X.prog X.w) X.A (throw (.ref a) : Sem Flow) (SP X pins D) X.xe s4) X.xe { s' with heap := h3 } := by
        rw [hf]
        refine HandSPX.setFlight_upZ fl3 fun h4 hh4 up4 => wpAny_throw (tk _ _ ?_)
        exact ⟨a, B, sI, pins, σ', H', cls, d, rfl, J, nb, (up.trans up3).trans up4, .inr (.inr (by rw [hs]; exact hh4)), na, os, ag, hno rfl⟩
      first
        | exact wpAny_bind (wpAny_pure (wpAny_bind fin))
        | exact wpAny_bind fin
  · cases f with
    | next =>
      obtain ⟨σ', H', J', q⟩ := hsp
      exact wpAny_execs_nil ⟨σ', H', J'.ofTry ok, q⟩
    | brk =>
      obtain ⟨σ', H', J', q⟩ := hsp
      exact ⟨σ', H', J'.ofTry ok, q⟩
    | cont =>
      obtain ⟨σ', H', J', q⟩ := hsp
      exact ⟨σ', H', J'.ofTry ok, q⟩
    | ret u =>
      obtain ⟨v, σ', H', J', r, q⟩ := hsp
      exact ⟨v, σ', H', J'.ofTry ok, r, q⟩
end
end L2
namespace LamX
open PySem PySem.Spec PyProof.Rows L2
section
variable {X : Cx} {pins : List (Addr × Obj)} {σ : L2.St} {H HZ : Hp} {s s1 : Shared}
theorem act_told {CXg : CXT} {Eg : XK} {Ng : List Str} {qg : Str} {sg : Scope} {g f c' : Addr} {cdg pm ctv : Value} {params : Arguments} {body : Expr} {scope : Scope} {k i : Nat} {a : Str} {pn : List (Addr × Obj)} {xe : Value → Shared → Prop} {W : WX} {t : XK → TE} {p1 p2 : Pos}
    (I : Inv X pins σ H s) (L : LamS X.env.scope scope) (hf : s.heap.get? f = some (PySem.W.kla_obj "<lambda>" (X.env.qual ++ "<lambda>") params body scope (cloFrom X.env.cells scope.names []) pm c' ctv)) (hfn : H f = none) (hfr : f ∉ frs X.stack)
    (hbind : bindArgs (PySem.W.kla_fn "<lambda>" (X.env.qual ++ "<lambda>") params body scope (cloFrom X.env.cells scope.names []) pm (.ref c') ctv) ⟨[], []⟩ = pure [])
    (tk : Takes ((cxOf CXg X.prog X.w X.K X.mg X.base Ng qg sg g cdg X.A X.stack s H Eg).tr pn xe) W) (hr : Room (k + 1) (X.A.deeper (envOfC qg sg s.heap.objs.size g cdg)))
    (hbody : ∀ (E : XK) (A : Around) (outer : List Env) (s : Shared) (H : Hp), Room k (A.deeper (lamEnv X scope s.heap.objs.size f c')) → PE (lamCx X A outer s H E scope f c') body (t E))
    (hN : Ng[i]? = some a) (hv : Vis sg a) (hd : (a == ("__debug__" : Str)) = false := by decide) (hcd : (a == ("__classdict__" : Str)) = false := by decide) :
    PE ((cxOf CXg X.prog X.w X.K X.mg X.base Ng qg sg g cdg X.A X.stack s H Eg).tr pn xe) (.Call (.Name a p1) [] [] p2)
      (fun σZ HZ Q => σZ[i]? = some (some (.ref f)) ∧ HZ c' = some (CodeO c' (X.env.qual ++ "<lambda>")) ∧ ∃ E : XK, (∀ cls d H', E cls d H' → W cls d σZ H') ∧ t E σ HZ Q) := by
  constructor
  intro pinsZ sZ σZ HZ Q IZ ⟨hs, hc, E, hW, ht⟩
  apply wpAny_Call_Name_kw
  refine thn ((pe_var (pos := p1) (i := i) hN hv hd hcd).run pinsZ sZ σZ HZ (fun v H1 => v = .ref f ∧ H1 = HZ) IZ ⟨.ref f, hs, rfl, rfl⟩) ?_
  rintro u s1 ⟨v, H1, I1, r1, rfl, rfl⟩
  obtain rfl : u = Value.ref f := r1
  have of1 := I1.base.keep f _ hf hfn hfr (fun z => nomatch (show f ∈ ([] : List Addr) from z))
  apply PySem.W.callWith_F0 ⟨_, _, _, _, of1⟩
  have un : Un (frs X.stack) [] H H1 s.heap s1.heap := I1.base
  obtain ⟨⟨oc, vs, tt, hoc, hdc, hvc⟩, _, _⟩ := I1.hok c' _ hc
  apply wpAny_call
  refine codeAny_mono (PySem.W.kla_callFunE (R := CR (L2.CX X.prog X.w) (envOfC qg sg s.heap.objs.size g cdg :: X.stack) X.prog X.w H1 s1 Q E) hr.depth of1 rfl L.co L.gen rfl ⟨c', oc, vs, tt, rfl, hoc, hdc, hvc⟩ ?_) ?_
  · have hb2 : bindArgs (PySem.W.kla_fn "<lambda>" (X.env.qual ++ "<lambda>") params body scope (cloFrom X.env.cells scope.names []) pm (.ref c') ctv) ⟨[] ++ [], []⟩ = pure [] := hbind
    rw [hb2]
    refine wpAny_pure (wpAny_newFunctionEnv (fun y hy => (L.own y hy).2) (fun y hy => absurd hy (by simp)) (fun h₁ hns hsb => ⟨I1.nolimit.fresh _ hsb, ?_⟩) L.kind)
    have kp : ∀ b o, s1.heap.get? b = some o → h₁.get? b = some o := fun b o e => hsb.extBut b o (Nat.ne_of_lt (Heap.lt_size e)) (Heap.get?_push_of_some _ e)
    have J := lam_start2 (E := E) (A := X.A.deeper (envOfC qg sg s.heap.objs.size g cdg)) (outer := envOfC qg sg s.heap.objs.size g cdg :: X.stack) (f := f) (c' := c') (tk := s1.toks + ([] : List (Str × Value)).length) I L I1.env0 hr.hd un hns kp
    apply PySem.W.kla_codeExpr
    refine wpAny_mono ((hbody E _ _ s1 H1 (hr.deeper _)).run [] _ _ H1 Q J ht) ?_ fun e s' hq => hq
    rintro v s' ⟨w', H', J', rv, q⟩
    exact ⟨w', H', J'.os, J'.bare, J'.base, J'.hok, rv, q⟩
  · intro r s' hq
    match r, hq with
    | .error e, hq => exact tk _ _ (XE.of_call I1 hW hq)
    | .ok (.ret u), hq => exact I1.after hq
def GivesAt (X : Cx) (Ng : List Str) (x : Str) (sg : Scope) (g : Addr) (cdg : Value) (bg : List Stmt) (a : Str) (q : Str) (TT : (XK → Hp → VK → Prop) → Hp → VK → Prop) : Prop :=
  ∀ (f c' : Addr) (s : Shared) (H : Hp) (Q : VK) (tl : XK → Hp → VK → Prop),
    (∀ (W : WX) (pn : List (Addr × Obj)) (xe : Value → Shared → Prop) (p1 p2 : Pos), Takes ((cxOf C8.CX0 X.prog X.w X.K X.mg X.base Ng x sg g cdg X.A X.stack s H C8.E0).tr pn xe) W →
      PE ((cxOf C8.CX0 X.prog X.w X.K X.mg X.base Ng x sg g cdg X.A X.stack s H C8.E0).tr pn xe) (.Call (.Name a p1) [] [] p2)
        (fun σZ HZ Q => σZ[0]? = some (some (.ref f)) ∧ HZ c' = some (CodeO c' q) ∧ ∃ E : XK, (∀ cls d H', E cls d H' → W cls d σZ H') ∧ tl E HZ Q)) →
    H c' = some (CodeO c' q) → TT tl H Q →
    ∃ t, PSs (cxOf C8.CX0 X.prog X.w X.K X.mg X.base Ng x sg g cdg X.A X.stack s H C8.E0).nox bg t ∧ t { nx := fun _ H' => Q .non H', rt := Q } (L2.start Ng [.ref f]) H
def tLamT (T : List (Addr × Str)) (TT : (XK → Hp → VK → Prop) → Hp → VK → Prop) (t : XK → TE) : TE := fun σ H Q => Tabs T H ∧ ∀ H1, ExtN H H1 → (∀ b, H b ≠ none → H1 b ≠ none) → Tabs T H1 → TT (fun E H' Q' => t E σ H' Q') H1 Q
theorem pe_toldcall {T : List (Addr × Str)} {TT : (XK → Hp → VK → Prop) → Hp → VK → Prop} {x a : Str} {g c P : Addr} {k : Nat} {pg : Arguments} {bg : List Stmt} {sg : Scope} {dV kV doc pm cdv ct oc : Value} {an od : Option Addr} {osl : Array (Option Value)} {Ng : List Str}
    {params : Arguments} {body : Expr} {scope : Scope} {t : XK → TE} {p lpos pos : Pos} (hg : Gl X x) (hm : X.mg x = some (.ref g)) (hk : PySem.W.keepIn X.K (.ref g) = true)
    (lk : X.K.lookup g = some ⟨oc, od, .func (PySem.W.fnOf x x pg bg sg dV kV doc pm an cdv ct), osl⟩) (hcg : PySem.W.codeIn X.K cdv x = true) (hb : L2.Binds X.K (PySem.W.fnOf x x pg bg sg dV kV doc pm an cdv ct) [a] []) (Sg : FnScope Ng [a] sg) (hNg : Ng[0]? = some a) (hva : Vis sg a)
    (hG : GivesAt X Ng x sg g cdv bg a (X.env.qual ++ "<lambda>") TT)
    (TB : TabB X.base X.mg c P) (hcode : X.env.code = .ref c) (hmT : (P, X.env.qual ++ "<lambda>") ∈ T) (hu : ∀ p ∈ T, p.1 = P → p.2 = X.env.qual ++ "<lambda>") (hr : Room (k + 2) X.A) (L : LamS X.env.scope scope) (hdef : defaultsOf params X.env = ([], []))
    (hbind : ∀ (q : Str) (cl : List (Str × Addr)) (pm cv ctv : Value), bindArgs (PySem.W.kla_fn "<lambda>" q params body scope cl pm cv ctv) ⟨[], []⟩ = pure [])
    (hbody : ∀ (A : Around) (outer : List Env) (s : Shared) (H : Hp) (E : XK) (f c' : Addr), Room k (A.deeper (lamEnv X scope s.heap.objs.size f c')) → PE (lamCx X A outer s H E scope f c') body (t E))
    (hdb : (x == ("__debug__" : Str)) = false := by decide) (hd : (a == ("__debug__" : Str)) = false := by decide) (hcd : (a == ("__classdict__" : Str)) = false := by decide) :
    PE X (.Call (.Name x p) [.Lambda params body scope lpos] [] pos) (tLamT T TT t) := by
  constructor
  intro pins s σ H Q I ⟨hT, h⟩
  apply wpAny_Call_Name_kw
  refine ld_glob I hg hm ?_ hdb
  refine PySem.W.callWith_K (h₀ := X.base) I.ok.mod.kin hk ?_ (by rfl) (by rfl)
  apply Calls.spliced_cons (x := eval (.Lambda params body scope lpos) X.env)
  refine SoL.lam_made I TB hcode hmT hu hT hdef (L.has I.ok) ?_
  intro f c' pm' ctv H1 s' I1 eN th T1 told hf hfn hfr
  have hco := told.code (T1 _ hmT)
  refine Calls.spliced_nil ⟨I1.kIn, wpAny_call (codeAny_mono (run_ofS (CX := C8.CX0) (E := C8.E0) (Q := Q) (N := Ng) (ps := [a]) (us := [.ref f]) (vs := [.ref f]) lk hcg Sg hr I1.env0 (hb s' [.ref f] I1.kIn rfl) (.cons rfl .nil) rfl fun hr' => ?_) ?_)⟩
  · obtain ⟨t', ht', hq'⟩ := hG f c' s' H1 Q (fun E H' Q' => t E σ H' Q') (fun W pn xe p1 p2 tk => act_told (i := 0) I1 L hf hfn hfr (hbind _ _ _ _ _) tk hr' (fun E A outer s H hr2 => hbody A outer s H E f c' hr2) hNg hva hd hcd) hco (h H1 eN th T1)
    exact ⟨t', ht'.nox, hq'⟩
  · intro r s2 hq
    match r, hq with
    | .error e, hq => exact (show False from hq).elim
    | .ok (.ret u), hq => exact I1.after hq
end
end LamX
namespace LamX
open PySem PySem.Spec PyProof.Rows L2
def slT (f : Addr) : L2.St := [some (.ref f), some .non, some .non, none]
def endT (Q : VK) : Ends := { nx := tRet (tTup (tCons (tVar 1) (tCons (tVar 2) tNil))) { nx := fun _ H' => Q .non H', rt := Q }, rt := Q }
def TTpair (K : PySem.W.Frag) (CS : Addr) : (XK → Hp → VK → Prop) → Hp → VK → Prop := fun tl H Q => ∀ f p : Addr, H p = none →
  tl (fun cls d H' => wKeep K (.ref CS) 3 (fun _ _ _ _ => tAsg (tVar 3) (gName 1)) (fun _ _ _ _ => False) (endT Q) cls d (slT f) H')
    (upd H p (.tup [.non, .non])) (fun v H' => gName 2 v (slT f) H' (endT Q).nx)
theorem tt_exc {K : PySem.W.Frag} {CS f : Addr} {cls : Value} {d : Option Addr} {H' : Hp} {Q : VK} (h1 : PySem.W.exmOne K cls (.ref CS) = some true)
    (h2 : ∀ a oe, H' a = none → Zc cls d oe → (∃ vs, oe.data = .fields vs) → ∀ p, upd H' a (xKept oe) p = none → Q (.ref p) (upd (upd H' a (xKept oe)) p (.tup [.ref a, .non]))) :
    wKeep K (.ref CS) 3 (fun _ _ _ _ => tAsg (tVar 3) (gName 1)) (fun _ _ _ _ => False) (endT Q) cls d (slT f) H' :=
  ⟨true, h1, fun _ a oe na hz hd => ⟨.ref a, rfl, ⟨.ref a, rfl, ⟨.non, rfl, by show 2 ≤ sizeLine; rw [sizeLine_eq]; omega, h2 a oe na hz hd⟩⟩⟩, fun z => nomatch z⟩
theorem tt_ok {f : Addr} {v : V} {H' : Hp} {Q : VK} (h : ∀ p, H' p = none → Q (.ref p) (upd H' p (.tup [.non, v]))) : gName 2 v (slT f) H' (endT Q).nx :=
  ⟨.non, rfl, v, rfl, by show 2 ≤ sizeLine; rw [sizeLine_eq]; omega, h⟩
section
variable {X : Cx} {Ng : List Str} {x a e q : Str} {sg : Scope} {g CS : Addr} {cdg : Value} {S1 : Stmt} {j : Nat} {p1 p2 p3 p4 p5 p6 p7 p8 p9 p10 p11 p12 p13 p14 : Pos} {kx : Nat}
theorem told_at (hN : Ng = [a, "_law_caught", "_law_back", "error"]) (nd : Ng.Nodup)
    (k1 : sg.names.lookup ("_law_caught" : Str) = some .local) (k2 : sg.names.lookup ("_law_back" : Str) = some .local) (k3 : sg.names.lookup ("error" : Str) = some .local)
    (hge : sg.names.lookup e = some .globalImplicit) (hme : X.mg e = some (.ref CS)) (hde : (e == ("__debug__" : Str)) = false)
    (h1 : ∀ (s : Shared) (H : Hp), PS (cxOf C8.CX0 X.prog X.w X.K X.mg X.base Ng x sg g cdg X.A X.stack s H C8.E0).nox S1 (tAsg (tTup (tCons (tC .non) (tCons (tC .non) tNil))) (gTup X.K 2 (gCons (gName 1) (gCons (gName 2) gNil))))) :
    GivesAt X Ng x sg g cdg [S1, .Try [.Assign [.Name "_law_back" p1] (.Call (.Name a p2) [] [] p3) p4] [.ExceptHandler (some (.Name e p5)) (some "error") [.Assign [.Name "_law_caught" p6] (.Name "error" p7) p8] p9] [] [] p10, .Return (some (.Tuple [.Name "_law_caught" p11, .Name "_law_back" p12] kx p13)) p14] a q (TTpair X.K CS) := by
  intro f c' s H Q tl act hc h
  subst hN
  have hgl : Gl (cxOf C8.CX0 X.prog X.w X.K X.mg X.base [a, "_law_caught", "_law_back", "error"] x sg g cdg X.A X.stack s H C8.E0).nox e := hge
  have s2 := ps_try_keep (X := (cxOf C8.CX0 X.prog X.w X.K X.mg X.base [a, "_law_caught", "_law_back", "error"] x sg g cdg X.A X.stack s H C8.E0).nox) (c := .ref CS) (i := 3) (n := "error") (np := p5) (pos := p10) (pos' := p9)
    (body := [.Assign [.Name "_law_back" p1] (.Call (.Name a p2) [] [] p3) p4]) (b₀ := .Assign [.Name "_law_caught" p6] (.Name "error" p7) p8) (suite := [])
    (tb := fun W => tAsg (fun σZ HZ Q => σZ[0]? = some (some (.ref f)) ∧ HZ c' = some (CodeO c' q) ∧ ∃ E : XK, (∀ cls d H', E cls d H' → W cls d σZ H') ∧ tl E HZ Q) (gName 2))
    (ts := fun _ _ _ _ => tAsg (tVar 3) (gName 1))
    rfl rfl rfl nd rfl k3 ⟨hgl, hde, .inl hme⟩ takes0
    (fun W pn xe tk _ => pss_one (ps_set (i := 2) nd rfl (.inl k2) (act W pn xe p2 p3 tk) rfl (.inr k2)))
    (fun a oe cls d pn => pss_one (ps_set (i := 1) nd rfl (.inl k1) (pe_var (i := 3) rfl (.inl k3)) rfl (.inr k1)))
  have s3 := ps_ret (X := (cxOf C8.CX0 X.prog X.w X.K X.mg X.base [a, "_law_caught", "_law_back", "error"] x sg g cdg X.A X.stack s H C8.E0).nox) (pos := p14) (pe_tup (x1 := kx) (pos := p13) (pa_cons (pe_var (pos := p11) (i := 1) (x := "_law_caught") rfl (.inl k1)) (pa_cons (pe_var (pos := p12) (i := 2) (x := "_law_back") rfl (.inl k2)) pa_nil)))
  refine ⟨_, pss_cons (h1 s H) (pss_cons s2 (pss_one s3)), ?_⟩
  refine ⟨by show 2 ≤ sizeLine; rw [sizeLine_eq]; omega, fun p hp => ⟨p, [.non, .non], rfl, .of upd_same, rfl, .non, [.non], rfl, .non, [], rfl, rfl, rfl, ?_, _, fun cls d H' z => z, h f p hp⟩⟩
  rw [upd_ne (fun z => by rw [z, hp] at hc; cases hc)]
  exact hc
end
end LamX
namespace Mi
open PySem PySem.Spec PyProof.Rows L2 LamX
def eTold (cs : List Nat) (f : EF) : EF := fun σ M => match f σ M with
  | .ok t M1 => .ok (.tup [.non, t]) M1
  | .exc c t M1 => bif cs.contains c then .ok (.tup [.xob c t, .non]) M1 else .err
  | .err => .err
section
variable {K : PySem.W.Frag} {Ω : Om} {CS : Addr} {cs : List Nat} {f : EF} {W : WX}
theorem told_of (hcs : ∀ c ∈ cs, PySem.W.exmOne K (.ref (Ω.cls c)) (.ref CS) = some true) {σ : L2.St} {H : Hp} {Q : VK} (q : liftE K Ω W (eTold cs f) σ H Q) :
    tLamT Ω.tabs (TTpair K CS) (fun E => liftE K Ω (fun c d _ H' => E c d H') f) σ H Q := by
  obtain ⟨Z, ι, M, σT, m, rv, q⟩ := q
  refine ⟨m.tab, fun H1 eN th T1 fa p0 hp0 => ⟨Z, ι, M, σT, (m.extN eN th T1).lay hp0, (rv.ext (extN_ext eN th)).ext (Ext.new hp0), ?_⟩⟩
  have e0 : Ext [] ι M H ι M (upd H1 p0 (.tup [.non, .non])) := (extN_ext eN th : Ext [] ι M H ι M H1).trans (Ext.new hp0)
  unfold eTold at q
  cases z : f σT M with
  | err => rw [z] at q; exact q.elim
  | ok t M1 =>
    rw [z] at q
    intro ι1 H2 v m1 e1 r1
    refine tt_ok fun p hp => ?_
    have e2 : Ext [] ι1 M1 H2 ι1 M1 (upd H2 p (.tup [.non, v])) := Ext.new hp
    exact q ι1 _ _ (m1.lay hp) ((e0.trans e1).trans e2) (.tup upd_same (.cons .non (.cons (r1.ext (Ext.new hp)) .nil)))
  | exc c t M1 =>
    rw [z] at q
    cases hc : cs.contains c with
    | false => dsimp only at q; rw [hc] at q; exact q.elim
    | true =>
      dsimp only at q
      rw [hc] at q
      intro ι1 H2 dd v m1 e1 r1 hx st
      refine tt_exc (hcs c (by simpa using hc)) fun a oe na hz hd p hp => ?_
      have e2 : Ext [] ι1 M1 H2 ι1 M1 (upd H2 a (xKept oe)) := Ext.new na
      have e3 : Ext [] ι1 M1 (upd H2 a (xKept oe)) ι1 M1 (upd (upd H2 a (xKept oe)) p (.tup [.ref a, .non])) := Ext.new hp
      have E2 : Ext Z ι1 M1 H2 ι1 M1 (upd H2 a (xKept oe)) := Ext.new na
      have E3 : Ext Z ι1 M1 (upd H2 a (xKept oe)) ι1 M1 (upd (upd H2 a (xKept oe)) p (.tup [.ref a, .non])) := Ext.new hp
      have h2 := (E2.still hx st)
      have h3 := (E3.still h2.1 h2.2)
      exact q ι1 _ _ ((m1.lay na).lay hp) (((e0.trans e1).trans e2).trans e3) (.tup upd_same (.cons (.xob (E3.frzs _ _ _ upd_same) hz hd h3.1 h3.2 ((r1.ext E2).ext E3)) (.cons .non .nil)))
end
end Mi
namespace Mi
open PySem PySem.Spec PyProof.Rows L2
structure ErrI (K : PySem.W.Frag) (C : Addr) : Prop where
  xf : XfC K C
  novalue : PySem.W.findIn K (.ref C) "value" = some none
  cl : (PySem.W.clsIn K C).isSome = true
  ha : PySem.W.findIn K (.ref C) "__class__" = some (some (.builtin "object.__class__"))
  hn : PySem.W.specialIn K (.builtin "object.__class__") "__get__" = some (some (.builtin "getset_descriptor.__get__"))
  htk : PySem.W.takesIn K (.builtin "object.__class__") = some true
  hm : PySem.W.mroIn K C (.type "object") = some true
def rIsX (K : PySem.W.Frag) : List V → Hp → VK → Prop := fun xs H Q => ∃ (a C d : Addr) (oe : Obj) (fs : List (Str × V)) (c : V) (cv : Value) (b : Bool), xs = [.ref a, c] ∧ H a = some (.frz oe xO) ∧ (oe.cls = .ref C ∧ oe.dict = some d) ∧ (∃ vs, oe.data = .fields vs) ∧ H d = some (.xd fs) ∧ ErrI K C ∧
  (∀ u, RelV c u → u = cv) ∧ PySem.W.kitOne K (.ref C) cv = some b ∧ Q (.bl b) H
theorem inst_kept {X : Cx} {pins : List (Addr × Obj)} {σ : L2.St} {H : Hp} {s : Shared} (I : Inv X pins σ H s) {a C d : Addr} {oe : Obj} {fs : List (Str × V)} (ha : H a = some (.frz oe xO)) (hz : oe.cls = .ref C ∧ oe.dict = some d) (hf : ∃ vs, oe.data = .fields vs) (hd : H d = some (.xd fs)) :
    ∃ (od : Obj) (mA : Str → Option Value), PySem.W.InstAt s.heap a oe C (some od) ∧ (∀ f, RelO (fs.lookup f) (mA f)) ∧ ∀ f, PySem.W.lookIn f od = some (mA f) := by
  obtain ⟨vs, hf⟩ := hf
  obtain ⟨h1, _⟩ := I.hok a _ ha
  obtain ⟨mA, hns, hr⟩ := I.hok d _ hd
  obtain ⟨od, ho, hl⟩ := lookIn_ns hns
  exact ⟨od, mA, ⟨h1, hz.1, by unfold PySem.W.notCls; rw [hf] <;> rfl, by rw [hz.2]; exact ho⟩, hr, hl⟩
theorem call_isX {X : Cx} : CallR X (.builtin "isinstance") (rIsX X.K) := by
  intro pins s σ H xs us Q I r h
  obtain ⟨a, C, d, oe, fs, c, cv, b, rfl, ha, hz, hf, hd, E, hcv, e, q⟩ := h
  cases r with
  | cons rx rr =>
    cases rr with
    | cons rt rr =>
      cases rr
      cases rx
      have ec := hcv _ rt
      subst ec
      obtain ⟨od, mA, J, _, _⟩ := inst_kept I ha hz hf hd
      exact PySem.W.kia_one (PySem.W.kitx_exc E.cl E.xf.ga E.xf.gg E.xf.exC E.ha E.hn E.htk E.hm) I.kIn J e (fun z => nomatch z) fun tk => ⟨.bl b, H, I.kept (t' := tk) fun _ _ z => z, rfl, q⟩
def tXv (K : PySem.W.Frag) (te : TE) : TE := fun σ H Q => te σ H fun x H1 => ∃ (a C d : Addr) (oe : Obj) (fs : List (Str × V)) (v : V), x = .ref a ∧ H1 a = some (.frz oe xO) ∧ (oe.cls = .ref C ∧ oe.dict = some d) ∧ (∃ vs, oe.data = .fields vs) ∧ H1 d = some (.xd fs) ∧ ErrI K C ∧ fs.lookup ("value" : Str) = some v ∧ Q v H1
theorem pe_xv {X : Cx} {e : Expr} {te : TE} {pos : Pos} (he : PE X e te) (hb : attributeBase e "value" X.env (eval e X.env) = eval e X.env := by rfl) : PE X (.Attribute e "value" pos) (tXv X.K te) := by
  refine ⟨fun pins s σ H Q I h => ?_⟩
  refine attr_of hb (thn (he.run pins s σ H _ I h) fun u s1 hh => ?_)
  obtain ⟨x, H1, I1, rx, a, C, d, oe, fs, v, rfl, ha, hz, hf, hd, E, hl, q⟩ := hh
  obtain rfl : u = Value.ref a := rx
  obtain ⟨od, mA, J, hr, hm⟩ := inst_kept I1 ha hz hf hd
  obtain ⟨w, hw, rw'⟩ := RelO.some_of (v := v) (o := mA "value") (by rw [← hl]; exact hr "value")
  exact HandSPX.exc_get I1.kIn J E.xf.ga E.xf.gg E.xf.exC (PySem.W.findObj_own E.xf.hdC E.novalue rfl (by rw [hm, hw])) (handed_of rw') ⟨v, H1, I1.tok _, rw', q⟩
def eIsX (cs : List Nat) (c : Nat) (f : EF) : EF := fun σ M => (f σ M).bind fun t M1 => match t with
  | .xob c' _ => bif cs.contains c' then .ok (.bl (c' == c)) M1 else .err
  | .non => .ok (.bl false) M1
  | _ => .err
def eXv (cs : List Nat) (f : EF) : EF := fun σ M => (f σ M).bind fun t M1 => match t with
  | .xob c' u => bif cs.contains c' then .ok u M1 else .err
  | _ => .err
section
variable {X : Cx} {Ω : Om} {W : WX} {e : Expr} {f : EF} {p p1 pos : Pos} {c : Nat} {cs : List Nat} {x : Str}
theorem me_isX (hgI : Gl X "isinstance") (hmI : X.mg "isinstance" = none) (hg : Gl X x) (hm : X.mg x = some (.ref (Ω.cls c))) (hE : ∀ c' ∈ cs, ErrI X.K (Ω.cls c')) (hk : ∀ c' ∈ cs, PySem.W.kitOne X.K (.ref (Ω.cls c')) (.ref (Ω.cls c)) = some (c' == c))
    (hn : PySem.W.kitOne X.K (.type "NoneType") (.ref (Ω.cls c)) = some false) (he : ME X Ω W e f)
    (hd : (x == ("__debug__" : Str)) = false := by decide) (hs1 : starEach [e, .Name x p1] X.env = (false, eval e X.env) :: starEach [.Name x p1] X.env := by rfl) (hs2 : starEach [.Name x p1] X.env = (false, eval (.Name x p1) X.env) :: starEach [] X.env := by rfl) (hpl : (backTo pos (starEach [.Name x p1] X.env)).any (·.1) = false := by rfl) :
    ME X Ω W (.Call (.Name "isinstance" p) [e, .Name x p1] [] pos) (eIsX cs c f) := by
  have hB : PE X (.Name x p1) (tC (.ref (Ω.cls c))) := pe_glob (v := .ref (Ω.cls c)) hg hm rfl hd
  have P1 := pe_callB (call_isX (X := X)) hgI hmI (by decide +kernel) (pa_cons he (pa_cons hB pa_nil hs2) hs1) (by decide) (by decide) hs1 hpl (p := p) (pos := pos)
  have P2 := pe_callB (call_isi (X := X)) hgI hmI (by decide +kernel) (pa_cons he (pa_cons hB pa_nil hs2) hs1) (by decide) (by decide) hs1 hpl (p := p) (pos := pos)
  refine L2PE.imp (L2PE.or P1 P2) fun σ H Q ⟨Z, ι, M, σT, m, rv, q⟩ => ?_
  unfold eIsX at q
  cases z : f σT M with
  | err => rw [z] at q; exact q.elim
  | exc c' t M1 =>
    rw [z] at q
    refine .inl ⟨Z, ι, M, σT, m, rv, ?_⟩
    rw [z]
    exact q
  | ok t M1 =>
    rw [z] at q
    cases t with
    | xob c' u =>
      refine .inl ⟨Z, ι, M, σT, m, rv, ?_⟩
      rw [z]
      intro ι1 H1 v m1 e1 r1
      cases r1 with
      | @xob _ _ a oe d w h1 h2 h3 h4 st r =>
        cases hc : cs.contains c' with
        | false => dsimp only [Res.bind] at q; rw [hc] at q; exact q.elim
        | true =>
          dsimp only [Res.bind] at q
          rw [hc] at q
          have hm' : c' ∈ cs := by simpa using hc
          exact ⟨a, Ω.cls c', d, oe, _, .ref (Ω.cls c), .ref (Ω.cls c), c' == c, rfl, h1, h2, h3, h4, hE c' hm', fun u hu => hu, hk c' hm', q ι1 H1 _ m1 e1 (.bl _)⟩
    | non =>
      refine .inr ⟨Z, ι, M, σT, m, rv, ?_⟩
      rw [z]
      intro ι1 H1 v m1 e1 r1
      cases r1
      exact ⟨.non, .ref (Ω.cls c), .type "NoneType", .ref (Ω.cls c), false, rfl, .own _, .base .non, hn, q ι1 H1 _ m1 e1 (.bl _)⟩
    | _ => exact q.elim
theorem me_xv (hE : ∀ c' ∈ cs, ErrI X.K (Ω.cls c')) (he : ME X Ω W e f) (hb : attributeBase e "value" X.env (eval e X.env) = eval e X.env := by rfl) : ME X Ω W (.Attribute e "value" pos) (eXv cs f) := by
  refine L2PE.imp (pe_xv he hb) fun σ H Q ⟨Z, ι, M, σT, m, rv, q⟩ => ⟨Z, ι, M, σT, m, rv, Post.bind q fun ι1 M1 H1 t v m1 e1 q1 p1 => ?_⟩
  cases q1 with
  | @xob c' u a oe d w h1 h2 h3 h4 st r =>
    cases hc : cs.contains c' with
    | false => dsimp only at p1; rw [hc] at p1; exact p1.elim
    | true =>
      dsimp only at p1
      rw [hc] at p1
      exact ⟨a, Ω.cls c', d, oe, _, w, rfl, h1, h2, h3, h4, hE c' (by simpa using hc), rfl, p1.pure m1 r⟩
  | _ => exact p1.elim
end
end Mi
namespace Mi
open PySem PySem.Spec PyProof.Rows L2
class ProgF (P : Program) : Prop where
  file : ((P.main.file : Str) == ("/claim/cut.py" : Str)) = true
  top : (P.main.scope.names.lookup ("super" : Str)).isSome = false
instance {CX : CXT} {P : Program} {w : World} {K : PySem.W.Frag} {mg : Str → Option Value} {base : Heap} {N : List Str} {qual : Str} {scope : Scope} {f : Addr} {cd : Value} {A : Around} {outer : List Env} {s : Shared} {H : Hp} {E : XK} [h : ProgF P] :
    ProgF (cxOf CX P w K mg base N qual scope f cd A outer s H E).prog := h
instance {X : Cx} {A : Around} {outer : List Env} {s : Shared} {H : Hp} {E : XK} {scope : Scope} {f c' : Addr} [h : ProgF X.prog] : ProgF (LamX.lamCx X A outer s H E scope f c').prog := h
theorem bodB_ok {b : FuncBody} (h : bodB b = true) : ∃ p1 p2 p3 p4 p5 p6 p7 p8 p9 p10, b = .stmts (initB p1 p2 p3 p4 p5 p6 p7 p8 p9 p10) ∧ (p3.endLine == p5.line) = true := by
  unfold bodB at h
  split at h
  · rename_i a p1 p2 b p3 c p4 p5 p6 d p7 e p8 f p9 p10
    obtain ⟨h1, h⟩ := Bool.and_eq_true_iff.mp h
    obtain ⟨h2, h⟩ := Bool.and_eq_true_iff.mp h
    obtain ⟨h3, h⟩ := Bool.and_eq_true_iff.mp h
    obtain ⟨h4, h⟩ := Bool.and_eq_true_iff.mp h
    obtain ⟨h5, h⟩ := Bool.and_eq_true_iff.mp h
    obtain ⟨h6, h7⟩ := Bool.and_eq_true_iff.mp h
    have h1 := of_decide_eq_true h1
    have h2 := of_decide_eq_true h2
    have h3 := of_decide_eq_true h3
    have h4 := of_decide_eq_true h4
    have h5 := of_decide_eq_true h5
    have h6 := of_decide_eq_true h6
    subst h1 h2 h3 h4 h5 h6
    exact ⟨_, _, _, _, _, _, _, _, _, _, rfl, h7⟩
  · cases h
theorem parB_ok {p : Arguments} (h : parB p = true) : ∃ x y : Arg, p = ⟨[], [x, y], none, [], [], none, []⟩ ∧ x.arg = "self" ∧ y.arg = "value" := by
  unfold parB at h
  split at h
  · rename_i x y
    obtain ⟨h1, h2⟩ := Bool.and_eq_true_iff.mp h
    exact ⟨x, y, rfl, of_decide_eq_true h1, of_decide_eq_true h2⟩
  · cases h
theorem superEval {p1 p2 p3 p4 p5 : Pos} {env : Env} (h : (p3.endLine == p5.line) = true) : ∃ pl : Sem Bool, eval (.Call (.Attribute (.Call (.Name "super" p1) [] [] p2) "__init__" p3) [.Name "value" p4] [] p5) env = (do
      let ov ← attributeBase (.Call (.Name "super" p1) [] [] p2) "__init__" env (eval (.Call (.Name "super" p1) [] [] p2) env)
      standAt p3.atName
      let (f, first) ← holding [ov] (getMethod ov "__init__" pl)
      callWith p5 f first (backTo p5 (starEach [.Name "value" p4] env)) []) := by
  have e : ∀ few : Bool, methodCallPos few (.Call (.Name "super" p1) [] [] p2) env p3 p5 = pure p5 := fun few => by
    unfold methodCallPos
    rw [h, Bool.or_true]
    rfl
  refine ⟨(do return (← importBound (.Call (.Name "super" p1) [] [] p2) env).getD true), ?_⟩
  show (do
    let ov ← attributeBase (.Call (.Name "super" p1) [] [] p2) "__init__" env (eval (.Call (.Name "super" p1) [] [] p2) env)
    standAt p3.atName
    methodCall (.Call (.Name "super" p1) [] [] p2) "__init__" p3 p5 env ov 1 (backTo p5 (starEach [.Name "value" p4] env)) []) = _
  unfold methodCall
  simp only [e, pure_bind]
  rfl
section
variable {P : Program} {w : World} {K : PySem.W.Frag} {mg : Str → Option Value} {base : Heap} {f D : Addr} {k : Nat}
theorem initK_ok [PF : ProgF P] (h : initK K f D = true) (hs : mg "super" = none) (hD : (PySem.W.clsIn K D).isSome = true) : ∃ fd, FnOk P w K mg base (L2.CX P w) (k + 1) f fd ["self", "value"] (spI K D) ∧ Binds K fd ["self", "value"] [] := by
  unfold initK at h
  split at h
  · rename_i oc od z osl lk
    obtain ⟨h1, h⟩ := Bool.and_eq_true_iff.mp h
    obtain ⟨h2, h⟩ := Bool.and_eq_true_iff.mp h
    obtain ⟨h3, h⟩ := Bool.and_eq_true_iff.mp h
    obtain ⟨h4, h⟩ := Bool.and_eq_true_iff.mp h
    obtain ⟨h5, h⟩ := Bool.and_eq_true_iff.mp h
    obtain ⟨h6, h⟩ := Bool.and_eq_true_iff.mp h
    obtain ⟨h7, h⟩ := Bool.and_eq_true_iff.mp h
    split at h
    · rename_i n cc cda e1 e2 e3
      obtain ⟨g1, h⟩ := Bool.and_eq_true_iff.mp h
      obtain ⟨g2, h⟩ := Bool.and_eq_true_iff.mp h
      obtain ⟨g3, g4⟩ := Bool.and_eq_true_iff.mp h
      obtain ⟨n1, n2, n3, n4, n5, n6, n7, n8, n9, n10, n11, n12, n13, n14, n15⟩ := z
      have q1 : n1 = _ := of_decide_eq_true h1
      have q2 : n2 = _ := of_decide_eq_true h2
      have q6 : n6 = _ := of_decide_eq_true h6
      have q7 : n15 = _ := of_decide_eq_true h7
      have r1 := of_decide_eq_true g1
      clear h1 h2 h6 h7 g1
      dsimp only at e1 e2 e3 h3 h4 h5
      obtain ⟨p1, p2, p3, p4, p5, p6, p7, p8, p9, p10, h4, hpos⟩ := bodB_ok h4
      obtain ⟨x, y, h3, hx, hy⟩ := parB_ok h3
      subst q1 q2 q6 q7 r1 e1 e2 e3 h4 h3
      obtain ⟨s1, h5⟩ := Bool.and_eq_true_iff.mp h5
      obtain ⟨s2, h5⟩ := Bool.and_eq_true_iff.mp h5
      obtain ⟨s3, h5⟩ := Bool.and_eq_true_iff.mp h5
      obtain ⟨s4, h5⟩ := Bool.and_eq_true_iff.mp h5
      obtain ⟨s5, h5⟩ := Bool.and_eq_true_iff.mp h5
      obtain ⟨s6, h5⟩ := Bool.and_eq_true_iff.mp h5
      obtain ⟨s7, s8⟩ := Bool.and_eq_true_iff.mp h5
      obtain ⟨cD, hcD⟩ := Option.isSome_iff_exists.mp hD
      refine ⟨_, init_ok (fd := PySem.W.ksFn "__init__" "NeedError.__init__" ⟨[], [x, y], none, [], [], none, []⟩ (initB p1 p2 p3 p4 p5 p6 p7 p8 p9 p10) n5 .none n9 n10 n11 n12 (.ref cda) n14 cc) ⟨⟨cc, cda, oc, od, osl, .none, n9, n10, n11, n14, n12, rfl, lk, g2, ?_, ?_⟩, ⟨cD, hcD⟩, hs, PF.top⟩ (fun env => superEval hpos) (by show some x.arg = _; rw [hx]) (of_decide_eq_true s1) (by simpa using s2) (by simpa using s3) (fun y hy => by
        have := List.all_eq_true.mp s4 y hy
        simpa using this) (of_decide_eq_true s5) (of_decide_eq_true s6) (of_decide_eq_true s7) (of_decide_eq_true s8), .all fun us hl => ?_⟩
      · split at g3
        · rename_i ccl cdd vs ccs lkc
          split at g3
          · rename_i file tf hv
            exact ⟨ccl, cdd, ccs, vs, file, tf, lkc, hv, by rw [of_decide_eq_true g3]; exact PF.file⟩
          · cases g3
        · cases g3
      · split at g4
        · rename_i cl cld D' csl lkcc
          have g4 := of_decide_eq_true g4
          subst g4
          exact ⟨cl, cld, csl, lkcc⟩
        · cases g4
      · match us, hl with
        | [u1, u2], _ =>
          obtain ⟨xa, x2, x3⟩ := x
          obtain ⟨ya, y2, y3⟩ := y
          dsimp only at hx hy
          subst hx hy
          rfl
    · cases h
  · cases h
end
end Mi
namespace Mi
open PySem PySem.Spec PyProof.Rows L2 LamX
theorem oexB_ok {K : PySem.W.Frag} {C : Addr} (h : oexB K C = true) : ∃ nm q N bs bm sn sub ab col dd k0 k1 k2 k3 k5, K.lookup C = some (excClassObj nm q C N bs bm true sn sub ab col dd k0 k1 k2 k3 k5 "ValueError.__new__") ∧ PySem.HandSPX.refsVE bm = true := by
  unfold oexB at h
  split at h
  · rename_i t dd cd sl ho
    obtain ⟨h0, h⟩ := Bool.and_eq_true_iff.mp h
    split at h
    · rename_i C' bm k0 k1 k2 k3 n k5 hm hs
      obtain ⟨h1, h⟩ := Bool.and_eq_true_iff.mp h
      obtain ⟨h2, h⟩ := Bool.and_eq_true_iff.mp h
      obtain ⟨h3, h⟩ := Bool.and_eq_true_iff.mp h
      obtain ⟨h4, h5⟩ := Bool.and_eq_true_iff.mp h
      have h0 := of_decide_eq_true h0
      have h1 := of_decide_eq_true h1
      have h2 := of_decide_eq_true h2
      obtain ⟨l⟩ := sl
      dsimp only at hs
      obtain ⟨a1, a2, a3, a4, a5, a6, a7, a8, a9, a10, a11⟩ := cd
      dsimp only at hm h3 h5
      have h3 : a11 = false := by simpa using h3
      subst h0 h1 h2 hs hm h3 h5
      exact ⟨_, _, _, _, bm, _, _, _, _, _, k0, k1, k2, k3, k5, ho, h4⟩
    · cases h
  · cases h
structure ErrA (K : PySem.W.Frag) (C D fI : Addr) : Prop where
  c : ErrC K D C
  i : ErrI K C
  init : PySem.W.findIn K (.ref C) "__init__" = some (some (.ref fI))
  ty : PySem.W.typeIn K (.ref fI) = some (.type "function")
  exm : PySem.W.exmOne K (.ref C) (.ref D) = some true
  kit : PySem.W.kitOne K (.type "NoneType") (.ref C) = some false
theorem errB_ok {K : PySem.W.Frag} {C D fI : Addr} (h : errB K C D fI = true) : ErrA K C D fI := by
  unfold errB at h
  obtain ⟨h1, h⟩ := He.ba h
  obtain ⟨h2, h⟩ := He.ba h
  obtain ⟨h3, h⟩ := He.ba h
  obtain ⟨h4, h⟩ := He.ba h
  obtain ⟨h5, h⟩ := He.ba h
  obtain ⟨h6, h⟩ := He.ba h
  obtain ⟨h7, h⟩ := He.ba h
  obtain ⟨h8, h⟩ := He.ba h
  obtain ⟨h9, h⟩ := He.ba h
  obtain ⟨h10, h⟩ := He.ba h
  obtain ⟨h11, h⟩ := He.ba h
  obtain ⟨h12, h⟩ := He.ba h
  obtain ⟨h13, h⟩ := He.ba h
  obtain ⟨h14, h⟩ := He.ba h
  obtain ⟨h15, h⟩ := He.ba h
  obtain ⟨h16, h⟩ := He.ba h
  obtain ⟨h17, h⟩ := He.ba h
  obtain ⟨h18, h⟩ := He.ba h
  obtain ⟨h19, h20⟩ := He.ba h
  exact ⟨⟨⟨oexB_ok h1, He.eqO_ok h2, of_decide_eq_true h3, of_decide_eq_true h4, h5⟩, He.eqO_ok h6, of_decide_eq_true h7, He.eqO_ok h8, of_decide_eq_true h9, He.eqO_ok h10⟩,
    ⟨xfB_ok h11, He.eqO_ok h6, h12, He.eqO_ok h13, He.eqO_ok h14, of_decide_eq_true h15, of_decide_eq_true h16⟩, He.eqO_ok h17, of_decide_eq_true h18, of_decide_eq_true h19, of_decide_eq_true h20⟩
section
variable {fa : List He.Fa} {fn : List DefM} {ck : List Ck} {K : PySem.W.Frag} {mg : Str → Option Value} {P : Program} {w : World} {base : Heap} {Ω : Om} {k : Nat}
theorem Gf.err (g : Gf fa fn ck K mg) (i : Nat) {x : Str} (h : ck[i]? = some (ckErr x) := by rfl) : ErrA K (He.ga K x) (erD K) (erI K) := errB_ok (g.says.chk i h)
theorem Gf.kit (g : Gf fa fn ck K mg) (i : Nat) {x y : Str} {b : Bool} (h : ck[i]? = some (ckKit x y b) := by rfl) : PySem.W.kitOne K (.ref (He.ga K x)) (.ref (He.ga K y)) = some b := of_decide_eq_true (g.says.chk i h)
theorem Gf.xcG [ProgF P] (g : Gf fa fn ck K mg) (i j l m : Nat) {x : Str} {c : Nat} (hO : Ω.cls c = He.ga K x) (hi : ck[i]? = some (ckErr x) := by rfl) (hj : ck[j]? = some ckInit := by rfl) (hl : fa[l]? = some (.glo x) := by rfl) (hm : fa[m]? = some (.free "super") := by rfl) :
    XcG P w K mg base Ω x c 1 := by
  obtain ⟨h1, h2⟩ := He.ba (g.says.chk j hj)
  obtain ⟨fd, F, B⟩ := initK_ok (P := P) (w := w) (base := base) (k := 0) h1 (g.free m hm) h2
  have e := g.err i hi
  exact ⟨erI K, erD K, fd, by rw [hO]; exact g.glo l hl, by rw [hO]; exact e.c, by rw [hO]; exact e.init, e.ty, F, B⟩
end
theorem allC {p : Nat → Prop} {a : Nat} {l : List Nat} (h : p a) (t : ∀ c ∈ l, p c) : ∀ c ∈ a :: l, p c := fun c hc => by
  rcases List.mem_cons.mp hc with rfl | hc
  · exact h
  · exact t c hc
theorem allN {p : Nat → Prop} : ∀ c ∈ ([] : List Nat), p c := fun c hc => by cases hc
section
variable {X : Cx} {Ω : Om} {W : WX} {f : EF} {x a : Str} {gA CS c P : Addr} {k : Nat} {cs : List Nat} {pg : Arguments} {bg : List Stmt} {sg : Scope} {fd : FuncData} {Ng : List Str} {params : Arguments} {body : Expr} {scope : Scope} {p lpos pos : Pos}
theorem me_told (hg : Gl X x) (hm : X.mg x = some (.ref gA)) (F : FunD X.K x x pg bg sg [] [] gA fd)
    (hbd : ∀ (kV doc pm : Value) (an : Option Addr) (cdv ct : Value) (us : List Value), us.length = [a].length → bindArgs (PySem.W.fnOf x x pg bg sg .none kV doc pm an cdv ct) ⟨us, []⟩ = pure ([a].zip us))
    (Sg : FnScope Ng [a] sg) (hNg : Ng[0]? = some a) (hva : Vis sg a) (hG : ∀ cdv : Value, GivesAt X Ng x sg gA cdv bg a (X.env.qual ++ "<lambda>") (TTpair X.K CS)) (hcs : ∀ c ∈ cs, PySem.W.exmOne X.K (.ref (Ω.cls c)) (.ref CS) = some true)
    (TB : Mod X.K X.mg X.base → TabB X.base X.mg c P) (hcode : X.env.code = .ref c) (hmT : (P, X.env.qual ++ "<lambda>") ∈ Ω.tabs) (hu : ∀ p ∈ Ω.tabs, p.1 = P → p.2 = X.env.qual ++ "<lambda>") (hr : Room (k + 2) X.A) (L : LamS X.env.scope scope) (hdef : defaultsOf params X.env = ([], []))
    (hbind : ∀ (q : Str) (cl : List (Str × Addr)) (pm cv ctv : Value), bindArgs (PySem.W.kla_fn "<lambda>" q params body scope cl pm cv ctv) ⟨[], []⟩ = pure [])
    (hbody : ∀ (A : Around) (outer : List Env) (s : Shared) (H : Hp) (E : XK) (f' c' : Addr), Room k (A.deeper (lamEnv X scope s.heap.objs.size f' c')) → ME (lamCx X A outer s H E scope f' c') Ω (fun c d _ H' => E c d H') body f)
    (hdb : (x == ("__debug__" : Str)) = false := by decide) (hd : (a == ("__debug__" : Str)) = false := by decide) (hcd : (a == ("__classdict__" : Str)) = false := by decide) :
    ME X Ω W (.Call (.Name x p) [.Lambda params body scope lpos] [] pos) (eTold cs f) := by
  have B : L2.Binds X.K fd [a] [] := F.bindsN hbd
  obtain ⟨oc, od, dV, kV, doc, pm, an, cdv, ct, osl, rfl, lk, hcg, _, _⟩ := F.ex
  refine ⟨fun pins s σ H Q I q => (pe_toldcall (T := Ω.tabs) (t := fun E => liftE X.K Ω (fun c d _ H' => E c d H') f) hg hm F.kp lk hcg B Sg hNg hva (hG cdv) (TB I.ok.mod) hcode hmT hu hr L hdef hbind hbody hdb hd hcd).run pins s σ H Q I ?_⟩
  exact told_of hcs q
end
end Mi
namespace SumT
open PySem PySem.Spec PyProof.Rows L2 PySem.W PySem.Calls Mi
section
variable {prog : Program} {w : World} {A : Around} {E : Value → Shared → Prop}
abbrev Kept (h h' : Heap) : Prop := ∀ b o, h.get? b = some o → h'.get? b = some o
end
section
variable {X : Cx}
end
end SumT
namespace Mi
open PySem PySem.Spec PyProof.Rows L2
section
variable {K : PySem.W.Frag} {Ω : Om} {X : Cx} {W : WX} {e : Expr} {f : EF} {pos : Pos} {p2 : Pos}
def slP (_ : Mem) (t : T) (lo hi : Option Int) : Option T := match t, lo, hi with
  | .str x, some k, none => bif decide (0 ≤ k) && (decide (k.toNat ≤ x.length) && ground (x.take k.toNat)) then some (.str (x.drop k.toNat)) else none
  | _, _, _ => none
theorem cut_pre {α : Type} (a b : List α) : cutT (a ++ b) (some (a.length : Int)) none = b := by
  unfold cutT
  rw [HT.sIx_nat, HT.sIx_none, List.length_append, Nat.min_eq_left (by omega), List.drop_left]
  exact List.take_of_length_le (by omega)
theorem me_slicePre {lo hi : Option Expr} {l h : Option EF} (he : ME X Ω W e f) (hl : MP X Ω W lo l) (hu : MP X Ω W hi h) : ME X Ω W (.Subscript e (.Slice lo hi none p2) pos) (eSlice f l h slP) := L2PE.imp (pe_slice sl_str he hl hu) fun σ H Q ⟨Z, ι, M, σT, m, rv, q⟩ =>
  ⟨Z, ι, M, σT, m, rv, Post.bind q fun ι1 M1 H1 t v m1 e1 q1 p1 => ⟨Z, ι1, M1, σT, m1, rv.ext e1.any, Post.bind p1 fun ι2 M2 H2 l l' m2 e2 q2 p2 => ⟨Z, ι2, M2, σT, m2, (rv.ext e1.any).ext e2.any, Post.bind p2 fun ι3 M3 H3 h h' m3 e3 q3 p3 => by
    cases q2
    cases q3
    obtain ⟨z, hz, p3⟩ := Post.of p3
    have r3 := (q1.ext e2.any).ext e3.any
    unfold slP at hz
    split at hz
    · rename_i x k
      cases g : decide (0 ≤ k) && (decide (k.toNat ≤ x.length) && ground (x.take k.toNat)) with
      | false => rw [g] at hz; cases hz
      | true =>
        rw [g] at hz
        cases hz
        obtain ⟨g1, g2⟩ := Bool.and_eq_true_iff.mp g
        obtain ⟨g2, g3⟩ := Bool.and_eq_true_iff.mp g2
        have g1 := of_decide_eq_true g1
        have g2 := of_decide_eq_true g2
        obtain ⟨n, rfl⟩ := Int.eq_ofNat_of_zero_le g1
        rw [Int.toNat_natCast] at g2 g3
        cases r3 with
        | str _ s hs hx =>
          refine ⟨s, rfl, str_size hs hx, p3.pure m3 (.str _ _ ?_ ?_)⟩
          · rw [Int.toNat_natCast, cutS_list, hs]
            have e1 : spell Ω.rho x = x.take n ++ spell Ω.rho (x.drop n) := by
              rw [← spell_ground (Ω := Ω) g3, ← spell_app, List.take_append_drop]
            have e2 : (n : Int) = ((x.take n).length : Int) := by rw [List.length_take, Nat.min_eq_left g2]
            rw [e1, e2]
            exact cut_pre _ _
          · rw [List.length_drop]
            omega
    · cases hz⟩⟩⟩
end
end Mi
namespace K03
open PySem PySem.Spec PyProof.Rows L2 Mi
section
variable {P : Program} [ProgF P] {w : World} {K : PySem.W.Frag} {mg : Str → Option Value} {base : Heap} {ρ : Rho}
def b_ulaw_places : SF := (sRet (eFroz (eLrg (eBi bMax2 (aCons (eC (.int 1)) (aCons (eBi bMin2 (aCons (eVar 1) (aCons (eBi bLen (aCons (eVar 0) aNil)) aNil))) aNil))))))
def F_ulaw_places : FF := runB 2 b_ulaw_places
abbrev N_ulaw_places : List Str := ["_law_script", "_law_most"]
theorem nd_ulaw_places : (N_ulaw_places).Nodup := by decide +kernel
theorem bs_ulaw_places (g : Gf fa fn ck K mg) : BodyS P w K mg base (omOf K ρ) 0 N_ulaw_places (defScope s_ulaw_places) (defBody s_ulaw_places) b_ulaw_places := fun qual f cdv A outer s H E hr => (mss_one (ms_ret (me_lst (ml_range1 rfl rfl (g.free 3) rfl (g.free 4) (me_callB (call_max2 rfl) bMax2_ok rfl (g.free 2) (by decide +kernel) (ma_cons me_int (ma_cons (me_callB (call_min2 rfl) bMin2_ok rfl (g.free 1) (by decide +kernel) (ma_cons (me_var 1) (ma_cons (me_callB call_len2 bLen_ok rfl (g.free 0) (by decide +kernel) (ma_cons (me_var 0) ma_nil)) ma_nil))) ma_nil)))))))
theorem sc_ulaw_places : FnScope N_ulaw_places ["_law_script", "_law_most"] (defScope s_ulaw_places) := ⟨rfl, rfl, rfl, nd_ulaw_places, rfl, by decide +kernel, by decide +kernel⟩
theorem fk_ulaw_places (g : Gf fa fn ck K mg) : ∃ fd, FnOk P w K mg base (L2.CX P w) 1 ((fn.getD 0 dummyD).adr K) fd ["_law_script", "_law_most"] (spF K (omOf K ρ) 2 F_ulaw_places) ∧ BndL K fd ["_law_script", "_law_most"] (omOf K ρ) [] := by
  obtain ⟨fd, F⟩ := g.def_ 0 (d := fn.getD 0 dummyD)
  exact ⟨fd, fnOk_of F sc_ulaw_places (bs_ulaw_places g), bndN F fun _ _ _ _ _ _ us hl => match us, hl with | [_, _], _ => rfl⟩
theorem fg_ulaw_places (g : Gf fa fn ck K mg) : FnG P w K mg base (omOf K ρ) "_law_places" 1 2 [] F_ulaw_places := by
  obtain ⟨fd, ok, bd⟩ := fk_ulaw_places (P := P) (w := w) (base := base) (ρ := ρ) g
  exact gFn rfl (g.glo 5) (g.keep 6) ok bd
def b_ulaw_take : SF := (sSeq (sIf (tVal (eOp opGt (eOp opIx (eVar 0) (eC (.int 0))) (eC (.int 0)))) (sSeq (sSet 2 (eOp opMod (eBi bInt (aCons (eOp opIx (eVar 0) (eC (.int 0))) aNil)) (eVar 1)))
  (sSeq (sLput (eOp opFdiv (eOp opIx (eVar 0) (eC (.int 0))) (eVar 1)) (eVar 0) (eC (.int 0)))
  (sRet (eVar 2)))) sNil)
  (sSeq (sLput (eOp opPlus (eOp opIx (eVar 0) (eC (.int 2))) (eC (.int 1))) (eVar 0) (eC (.int 2)))
  (sSeq (sSet 3 (eOp opIx (eFroz (eLst (aCons (eC (.int 2147483647)) (aCons (eC (.int 2147483629)) (aCons (eC (.int 2147483587)) (aCons (eC (.int 2147483579)) (aCons (eC (.int 2147483563)) aNil))))))) (eOp opMod (eBi bInt (aCons (eOp opIx (eVar 0) (eC (.int 2))) aNil)) (eC (.int 5)))))
  (sSeq (sSet 4 (eOp opMod (eBi bInt (aCons (eOp opPow (eBi bInt (aCons (eOp opPlus (eOp opPlus (eOp opIx (eVar 0) (eC (.int 1))) (eOp opMul (eOp opMul (eC (.int 92021)) (eOp opIx (eVar 0) (eC (.int 2)))) (eOp opIx (eVar 0) (eC (.int 2))))) (eC (.int 9))) aNil)) (eC (.int 3))) aNil)) (eVar 3)))
  (sRet (eOp opMod (eBi bInt (aCons (eOp opFdiv (eOp opMul (eVar 4) (eOp opPlus (eOp opMod (eBi bInt (aCons (eVar 4) aNil)) (eC (.int 10007))) (eOp opMul (eC (.int 97)) (eOp opIx (eVar 0) (eC (.int 2)))))) (eC (.int 127))) aNil)) (eVar 1)))))))
def F_ulaw_take : FF := runB 5 b_ulaw_take
abbrev N_ulaw_take : List Str := ["_law_pot_here", "_law_upto", "_law_digit", "_law_prime", "_law_blend"]
theorem nd_ulaw_take : (N_ulaw_take).Nodup := by decide +kernel
theorem bs_ulaw_take (g : Gf fa fn ck K mg) : BodyS P w K mg base (omOf K ρ) 0 N_ulaw_take (defScope s_ulaw_take) (defBody s_ulaw_take) b_ulaw_take := fun qual f cdv A outer s H E hr => (mss_cons (ms_if (mt_cmp op_gt opGt_ok (me_ix (me_var 0) me_int) me_int (nomark _)) (mss_cons (ms_set nd_ulaw_take rfl (Or.inl rfl) (me_bin op_mod opMod_ok (me_callTy call_int2 bInt_ok rfl (g.free 7) (by decide +kernel) (ma_cons (me_ix (me_var 0) me_int) ma_nil)) (me_var 1)))
  (mss_cons (ms_lput (me_var 0) me_int (me_bin op_fdiv opFdiv_ok (me_ix (me_var 0) me_int) (me_var 1)))
  (mss_one (ms_ret (me_var 2))))) mss_nil)
  (mss_cons (ms_lput (me_var 0) me_int (me_bin op_plus opPlus_ok (me_ix (me_var 0) me_int) me_int))
  (mss_cons (ms_set nd_ulaw_take rfl (Or.inl rfl) (me_ix (me_lst (ml_lst (ma_cons me_int (ma_cons me_int (ma_cons me_int (ma_cons me_int (ma_cons me_int ma_nil))))))) (me_bin op_mod opMod_ok (me_callTy call_int2 bInt_ok rfl (g.free 7) (by decide +kernel) (ma_cons (me_ix (me_var 0) me_int) ma_nil)) me_int)))
  (mss_cons (ms_set nd_ulaw_take rfl (Or.inl rfl) (me_bin op_mod opMod_ok (me_callTy call_int2 bInt_ok rfl (g.free 7) (by decide +kernel) (ma_cons (me_bin op_powW opPow_ok (me_callTy call_int2 bInt_ok rfl (g.free 7) (by decide +kernel) (ma_cons (me_bin op_plus opPlus_ok (me_bin op_plus opPlus_ok (me_ix (me_var 0) me_int) (me_bin op_mul opMul_ok (me_bin op_mul opMul_ok me_int (me_ix (me_var 0) me_int)) (me_ix (me_var 0) me_int))) me_int) ma_nil)) me_int) ma_nil)) (me_var 3)))
  (mss_one (ms_ret (me_bin op_mod opMod_ok (me_callTy call_int2 bInt_ok rfl (g.free 7) (by decide +kernel) (ma_cons (me_bin op_fdiv opFdiv_ok (me_bin op_mul opMul_ok (me_var 4) (me_bin op_plus opPlus_ok (me_bin op_mod opMod_ok (me_callTy call_int2 bInt_ok rfl (g.free 7) (by decide +kernel) (ma_cons (me_var 4) ma_nil)) me_int) (me_bin op_mul opMul_ok me_int (me_ix (me_var 0) me_int)))) me_int) ma_nil)) (me_var 1))))))))
theorem sc_ulaw_take : FnScope N_ulaw_take ["_law_pot_here", "_law_upto"] (defScope s_ulaw_take) := ⟨rfl, rfl, rfl, nd_ulaw_take, rfl, by decide +kernel, by decide +kernel⟩
theorem fk_ulaw_take (g : Gf fa fn ck K mg) : ∃ fd, FnOk P w K mg base (L2.CX P w) 1 ((fn.getD 1 dummyD).adr K) fd ["_law_pot_here", "_law_upto"] (spF K (omOf K ρ) 2 F_ulaw_take) ∧ BndL K fd ["_law_pot_here", "_law_upto"] (omOf K ρ) [] := by
  obtain ⟨fd, F⟩ := g.def_ 1 (d := fn.getD 1 dummyD)
  exact ⟨fd, fnOk_of F sc_ulaw_take (bs_ulaw_take g), bndN F fun _ _ _ _ _ _ us hl => match us, hl with | [_, _], _ => rfl⟩
theorem fg_ulaw_take (g : Gf fa fn ck K mg) : FnG P w K mg base (omOf K ρ) "_law_take" 1 2 [] F_ulaw_take := by
  obtain ⟨fd, ok, bd⟩ := fk_ulaw_take (P := P) (w := w) (base := base) (ρ := ρ) g
  exact gFn rfl (g.glo 8) (g.keep 9) ok bd
def b_ulaw_some : SF := (sSeq (sPar 3 4 (aCons (eNewL (eBiL bList (aCons (eVar 1) aNil))) (aCons (eNewL (eLst aNil)) aNil)))
  (sSeq (sFor (pName 5) (iFun rg1 (aCons (eVar 2) aNil)) (sExpr (eMt isLoc mAppend (eVar 4) (aCons (eMt isLoc mPopAt (eVar 3) (aCons (eCall 2 F_ulaw_take [] (aCons (eVar 0) (aCons (eBi bLen (aCons (eVar 3) aNil)) aNil))) aNil)) aNil))))
  (sRet (eVar 4))))
def F_ulaw_some : FF := runB 6 b_ulaw_some
abbrev N_ulaw_some : List Str := ["_law_pot_here", "_law_pool", "_law_amount", "_law_left", "_law_found", "_law_turn"]
theorem nd_ulaw_some : (N_ulaw_some).Nodup := by decide +kernel
theorem bs_ulaw_some (g : Gf fa fn ck K mg) : BodyS P w K mg base (omOf K ρ) 1 N_ulaw_some (defScope s_ulaw_some) (defBody s_ulaw_some) b_ulaw_some := fun qual f cdv A outer s H E hr => (mss_cons (ms_par rfl nd_ulaw_some rfl rfl (by decide) rfl rfl (ma_cons (me_newL (ml_callTy call_list_of bList_ok rfl (g.free 3) (by decide +kernel) (ma_cons (me_var 1) ma_nil))) (ma_cons (me_newL (ml_lst ma_nil)) ma_nil)))
  (mss_cons (ms_for (passes_of rfl) rfl (mi_range1 rfl (g.free 4) (ma_cons (me_var 2) ma_nil)) (pat_name 5) (pg_name nd_ulaw_some rfl (Or.inl rfl)) (mss_one (ms_expr (me_append (me_var 4) (ma_cons (me_popAt (me_var 3) (ma_cons (me_call 0 (fg_ulaw_take g) (hr.mono (by decide)) (takes_of rfl rfl rfl rfl) rfl (ma_cons (me_var 0) (ma_cons (me_callB call_len2 bLen_ok rfl (g.free 0) (by decide +kernel) (ma_cons (me_var 3) ma_nil)) ma_nil))) ma_nil)) ma_nil)))))
  (mss_one (ms_ret (me_var 4)))))
theorem sc_ulaw_some : FnScope N_ulaw_some ["_law_pot_here", "_law_pool", "_law_amount"] (defScope s_ulaw_some) := ⟨rfl, rfl, rfl, nd_ulaw_some, rfl, by decide +kernel, by decide +kernel⟩
theorem fk_ulaw_some (g : Gf fa fn ck K mg) : ∃ fd, FnOk P w K mg base (L2.CX P w) 2 ((fn.getD 2 dummyD).adr K) fd ["_law_pot_here", "_law_pool", "_law_amount"] (spF K (omOf K ρ) 3 F_ulaw_some) ∧ BndL K fd ["_law_pot_here", "_law_pool", "_law_amount"] (omOf K ρ) [] := by
  obtain ⟨fd, F⟩ := g.def_ 2 (d := fn.getD 2 dummyD)
  exact ⟨fd, fnOk_of F sc_ulaw_some (bs_ulaw_some g), bndN F fun _ _ _ _ _ _ us hl => match us, hl with | [_, _, _], _ => rfl⟩
theorem fg_ulaw_some (g : Gf fa fn ck K mg) : FnG P w K mg base (omOf K ρ) "_law_some" 2 3 [] F_ulaw_some := by
  obtain ⟨fd, ok, bd⟩ := fk_ulaw_some (P := P) (w := w) (base := base) (ρ := ρ) g
  exact gFn rfl (g.glo 10) (g.keep 11) ok bd
abbrev N_ulaw_told : List Str := ["_law_look", "_law_caught", "_law_back", "error"]
theorem nd_ulaw_told : (N_ulaw_told).Nodup := by decide +kernel
theorem sc_ulaw_told : FnScope N_ulaw_told ["_law_look"] (defScope s_ulaw_told) := ⟨rfl, rfl, rfl, nd_ulaw_told, rfl, by decide +kernel, by decide +kernel⟩
def b_Reading_init : SF := (sSeq (sFldT 1 0 (eTup aNil) (eVar 0))
  (sSeq (sFldT 1 1 (eNewL (eLst aNil)) (eVar 0))
  (sSeq (sFldT 1 2 (eNewD false) (eVar 0))
  (sSeq (sFldT 1 3 (eTup aNil) (eVar 0))
  (sFldT 1 4 (eC (.int 0)) (eVar 0))))))
def F_Reading_init : FF := runB 1 b_Reading_init
abbrev N_Reading_init : List Str := ["self"]
theorem nd_Reading_init : (N_Reading_init).Nodup := by decide +kernel
theorem bs_Reading_init (g : Gf fa fn ck K mg) : BodyS P w K mg base (omOf K ρ) 0 N_Reading_init (defScope s_Reading_init) (defBody s_Reading_init) b_Reading_init := fun qual f cdv A outer s H E hr => (mss_cons (ms_fld (c := 1) (g.cls 18) (g.noat 19) rfl fu_1_0 (fl_all 1) (me_var 0) (me_tup ma_nil))
  (mss_cons (ms_fld (c := 1) (g.cls 18) (g.noat 20) rfl fu_1_1 (fl_all 1) (me_var 0) (me_newL (ml_lst ma_nil)))
  (mss_cons (ms_fld (c := 1) (g.cls 18) (g.noat 21) rfl fu_1_2 (fl_all 1) (me_var 0) me_newDK)
  (mss_cons (ms_fld (c := 1) (g.cls 18) (g.noat 22) rfl fu_1_3 (fl_all 1) (me_var 0) (me_tup ma_nil))
  (mss_one (ms_fld (c := 1) (g.cls 18) (g.noat 23) rfl fu_1_4 (fl_all 1) (me_var 0) me_int))))))
theorem sc_Reading_init : FnScope N_Reading_init ["self"] (defScope s_Reading_init) := ⟨rfl, rfl, rfl, nd_Reading_init, rfl, by decide +kernel, by decide +kernel⟩
theorem fk_Reading_init (g : Gf fa fn ck K mg) : ∃ fd, FnOk P w K mg base (L2.CX P w) 1 ((fn.getD 4 dummyD).adr K) fd ["self"] (spF K (omOf K ρ) 1 F_Reading_init) ∧ BndL K fd ["self"] (omOf K ρ) [] := by
  obtain ⟨fd, F⟩ := g.def_ 4 (d := fn.getD 4 dummyD)
  exact ⟨fd, fnOk_of F sc_Reading_init (bs_Reading_init g), bndN F fun _ _ _ _ _ _ us hl => match us, hl with | [_], _ => rfl⟩
theorem fg_Reading_init (g : Gf fa fn ck K mg) : MkG P w K mg base (omOf K ρ) "Reading" 1 1 1 F_Reading_init := by
  obtain ⟨fd, ok, bd⟩ := fk_Reading_init (P := P) (w := w) (base := base) (ρ := ρ) g
  exact gMk rfl (g.glo 24) (g.mkr 25) ok bd
def b_are_unlike : SF := (sRet (eBi bAll (aCons (eFroz (eLc (List.map (·.2) ([("at", 1), ("one", 2)] : List (Str × Nat))) (pSeq 2 (psCons (pName 1) (psCons (pName 2) psNil))) (iFun enS (aCons (eVar 0) aNil)) tTrue (eOp opNotIn (eVar 2) (eSlice (eVar 0) none (some (eVar 1)) slT)))) aNil)))
def F_are_unlike : FF := runB 3 b_are_unlike
abbrev N_are_unlike : List Str := ["some", "at", "one"]
theorem nd_are_unlike : (N_are_unlike).Nodup := by decide +kernel
theorem bs_are_unlike (g : Gf fa fn ck K mg) : BodyS P w K mg base (omOf K ρ) 0 N_are_unlike (defScope s_are_unlike) (defBody s_are_unlike) b_are_unlike := fun qual f cdv A outer s H E hr => (mss_one (ms_ret (me_callB (cr_all rfl) bAll_ok rfl (g.free 32) (by decide +kernel) (ma_cons (me_lst (ml_lc rfl nd_are_unlike (mi_enumS rfl (g.free 26) (ma_cons (me_var 0) ma_nil)) (own := [("at", 1), ("one", 2)]) (blkOk (N := N_are_unlike) (sc := defScope s_are_unlike) (by decide +kernel)) (pat_seq (n := 2) (pats_cons (pat_name 1) (pats_cons (pat_name 2) pats_nil))) (by decide +kernel) (fun _ _ _ _ _ => (pg_seq (n := 2) rfl (pgs_cons (pg_name nd_are_unlike rfl (Or.inl rfl)) (pgs_cons (pg_name nd_are_unlike rfl (Or.inl rfl)) pgs_nil)))) (fun _ _ _ _ _ => mts_nil) (fun _ _ _ _ _ => (me_cmp (op_notIn2 (un65 hr)) opNotIn_ok (me_var 2) (me_slice (me_var 0) mp_none (mp_some (me_var 1))))))) ma_nil))))
theorem sc_are_unlike : FnScope N_are_unlike ["some"] (defScope s_are_unlike) := ⟨rfl, rfl, rfl, nd_are_unlike, rfl, by decide +kernel, by decide +kernel⟩
theorem fk_are_unlike (g : Gf fa fn ck K mg) : ∃ fd, FnOk P w K mg base (L2.CX P w) 1 ((fn.getD 5 dummyD).adr K) fd ["some"] (spF K (omOf K ρ) 1 F_are_unlike) ∧ BndL K fd ["some"] (omOf K ρ) [] := by
  obtain ⟨fd, F⟩ := g.def_ 5 (d := fn.getD 5 dummyD)
  exact ⟨fd, fnOk_of F sc_are_unlike (bs_are_unlike g), bndN F fun _ _ _ _ _ _ us hl => match us, hl with | [_], _ => rfl⟩
def G_are_unlike : FF := scr0 F_are_unlike
theorem fkG_are_unlike (g : Gf fa fn ck K mg) : ∃ fd, FnOk P w K mg base (L2.CX P w) 1 ((fn.getD 5 dummyD).adr K) fd ["some"] (spF K (omOf K ρ) 1 G_are_unlike) ∧ BndL K fd ["some"] (omOf K ρ) [] := let ⟨fd, ok, bd⟩ := fk_are_unlike g; ⟨fd, ok.imp fun _ _ _ _ h => spF_scr0 h, bd⟩
theorem fg_are_unlike (g : Gf fa fn ck K mg) : FnG P w K mg base (omOf K ρ) "are_unlike" 1 1 [] G_are_unlike := by
  obtain ⟨fd, ok, bd⟩ := fkG_are_unlike (P := P) (w := w) (base := base) (ρ := ρ) g
  exact gFn rfl (g.glo 33) (g.keep 34) ok bd
def b_is_name : SF := (sRet (eAnd (eIsT "str" (eVar 0)) (eAnd (eChain opLe opLe (eC (.int 1)) (eBi bLen (aCons (eVar 0) aNil)) (eC (.int 8))) (eBi bAll (aCons (eFroz (eLc (List.map (·.2) ([("sign", 1)] : List (Str × Nat))) (pName 1) (iSeqS (eVar 0)) tTrue (eOp opIn (eVar 1) (eC (.str [97, 98, 99, 100, 101, 102, 103, 104, 105, 106, 107, 108, 109, 110, 111, 112, 113, 114, 115, 116, 117, 118, 119, 120, 121, 122]))))) aNil)))))
def F_is_name : FF := runB 2 b_is_name
abbrev N_is_name : List Str := ["value", "sign"]
theorem nd_is_name : (N_is_name).Nodup := by decide +kernel
theorem bs_is_name (g : Gf fa fn ck K mg) : BodyS P w K mg base (omOf K ρ) 0 N_is_name (defScope s_is_name) (defBody s_is_name) b_is_name := fun qual f cdv A outer s H E hr => (mss_one (ms_ret (me_and (me_isT (n := "str") (by decide) rfl (g.free 13) rfl (g.free 14) (by decide +kernel) (me_var 0)) (me_and (me_chain op_le opLe_ok op_le opLe_ok me_int (me_callB call_len2 bLen_ok rfl (g.free 0) (by decide +kernel) (ma_cons (me_var 0) ma_nil)) (g.eInt 35 rfl)) (me_one (me_callB (cr_all rfl) bAll_ok rfl (g.free 32) (by decide +kernel) (ma_cons (me_lst (ml_lc rfl nd_is_name (mi_seqS (me_var 0)) (own := [("sign", 1)]) (blkOk (N := N_is_name) (sc := defScope s_is_name) (by decide +kernel)) (pat_name 1) (by decide +kernel) (fun _ _ _ _ _ => (pg_name nd_is_name rfl (Or.inl rfl))) (fun _ _ _ _ _ => mts_nil) (fun _ _ _ _ _ => (me_cmp (op_in2 (un65 hr)) opIn_ok (me_var 1) (g.eStr 36 rfl))))) ma_nil)))))))
theorem sc_is_name : FnScope N_is_name ["value"] (defScope s_is_name) := ⟨rfl, rfl, rfl, nd_is_name, rfl, by decide +kernel, by decide +kernel⟩
theorem fk_is_name (g : Gf fa fn ck K mg) : ∃ fd, FnOk P w K mg base (L2.CX P w) 1 ((fn.getD 6 dummyD).adr K) fd ["value"] (spF K (omOf K ρ) 1 F_is_name) ∧ BndL K fd ["value"] (omOf K ρ) [] := by
  obtain ⟨fd, F⟩ := g.def_ 6 (d := fn.getD 6 dummyD)
  exact ⟨fd, fnOk_of F sc_is_name (bs_is_name g), bndN F fun _ _ _ _ _ _ us hl => match us, hl with | [_], _ => rfl⟩
def Fs_is_name : FF := symF F_is_name
theorem hs_is_name : ∀ x M, letters x = true → F_is_name [.str x] M = .ok (.bl true) M := fun x M hx => by
  obtain ⟨h1, h2, h3, h4⟩ := letters_ok hx
  have hl : bLen M [.str x] = some (.int x.length) := by
    show (bif ground x then some (T.int x.length) else none) = _
    rw [h4]
    rfl
  have hlp : 1 ≤ x.length := List.length_pos_iff.mpr h1
  refine runB_rt (n := 2) (s := b_is_name) ?_
  show b_is_name [some (.str x), none] M = _
  unfold b_is_name
  refine sRet_ok (eAnd_t (t := .bl true) (M1 := M) rfl rfl (eAnd_t (t := .bl true) (eChain_t eC_ok (eBi_ok (aCons_ok (eVar_ok rfl) aNil_ok) hl) ?_ eC_ok ?_) rfl (eBi_ok (aCons_ok (eFroz_ok (eLc_ok (iSeqS_ok (eVar_ok rfl) (us := x.map fun c => .str [c]) ?_) ?_ (compL_allM (t0 := .bl true) _ _ ?_))) aNil_ok) bAll_rep)))
  · show some (T.bl (decide ((1 : Int) ≤ (x.length : Nat)))) = _
    rw [decide_eq_true (by omega)]
  · show some (T.bl (decide (((x.length : Nat) : Int) ≤ 8))) = _
    rw [decide_eq_true (by omega)]
  · show (bif ground x then some (x.map fun c => T.str [c]) else none) = _
    rw [h4]
    rfl
  · exact decide_eq_true (by rw [List.length_map]; omega)
  · intro t ht
    obtain ⟨c, hc, rfl⟩ := List.mem_map.mp ht
    have hcb := h3 c hc
    refine eOp_ok (eVar_ok rfl) eC_ok ?_
    show (bif decide (c < symB) && ground [97, 98, 99, 100, 101, 102, 103, 104, 105, 106, 107, 108, 109, 110, 111, 112, 113, 114, 115, 116, 117, 118, 119, 120, 121, 122] then some (decide (c ∈ [97, 98, 99, 100, 101, 102, 103, 104, 105, 106, 107, 108, 109, 110, 111, 112, 113, 114, 115, 116, 117, 118, 119, 120, 121, 122])) else none).map T.bl = _
    rw [decide_eq_true (show c < symB by unfold symB; omega), show ground [97, 98, 99, 100, 101, 102, 103, 104, 105, 106, 107, 108, 109, 110, 111, 112, 113, 114, 115, 116, 117, 118, 119, 120, 121, 122] = true by decide]
    have : c ∈ [97, 98, 99, 100, 101, 102, 103, 104, 105, 106, 107, 108, 109, 110, 111, 112, 113, 114, 115, 116, 117, 118, 119, 120, 121, 122] := by
      simp only [List.mem_cons, List.not_mem_nil, or_false]
      omega
    rw [decide_eq_true this]
    rfl
theorem fks_is_name (g : Gf fa fn ck K mg) : ∃ fd, FnOk P w K mg base (L2.CX P w) 1 ((fn.getD 6 dummyD).adr K) fd ["value"] (spF K (omOf K ρ) 1 Fs_is_name) ∧ BndL K fd ["value"] (omOf K ρ) [] := let ⟨fd, ok, bd⟩ := fk_is_name g; ⟨fd, ok.imp fun _ _ _ _ h => symF_of hs_is_name h, bd⟩
theorem fg_is_name (g : Gf fa fn ck K mg) : FnG P w K mg base (omOf K ρ) "is_name" 1 1 [] Fs_is_name := by
  obtain ⟨fd, ok, bd⟩ := fks_is_name (P := P) (w := w) (base := base) (ρ := ρ) g
  exact gFn rfl (g.glo 37) (g.keep 38) ok bd
def b_Reading_reads_works : SF := (sSeq (sFldT 1 0 (eVar 1) (eVar 0))
  (sRet (eAnd (eChain opLe opLe (eC (.int 1)) (eBi bLen (aCons (eVar 1) aNil)) (eC (.int 8))) (eAnd (eCall 1 G_are_unlike [] (aCons (eVar 1) aNil)) (eBi bAll (aCons (eFroz (eLc (List.map (·.2) ([("name", 2)] : List (Str × Nat))) (pName 2) (iSeqS (eVar 1)) tTrue (eCall 1 Fs_is_name [] (aCons (eVar 2) aNil)))) aNil))))))
def F_Reading_reads_works : FF := runB 3 b_Reading_reads_works
abbrev N_Reading_reads_works : List Str := ["self", "names", "name"]
theorem nd_Reading_reads_works : (N_Reading_reads_works).Nodup := by decide +kernel
theorem bs_Reading_reads_works (g : Gf fa fn ck K mg) : BodyS P w K mg base (omOf K ρ) 1 N_Reading_reads_works (defScope s_Reading_reads_works) (defBody s_Reading_reads_works) b_Reading_reads_works := fun qual f cdv A outer s H E hr => (mss_cons (ms_fld (c := 1) (g.cls 18) (g.noat 19) rfl fu_1_0 (fl_all 1) (me_var 0) (me_var 1))
  (mss_one (ms_ret (me_and (me_chain op_le opLe_ok op_le opLe_ok me_int (me_callB call_len2 bLen_ok rfl (g.free 0) (by decide +kernel) (ma_cons (me_var 1) ma_nil)) (g.eInt 31 rfl)) (me_and (me_call 0 (fg_are_unlike g) (hr.mono (by decide)) (takes_of rfl rfl rfl rfl) rfl (ma_cons (me_var 1) ma_nil)) (me_one (me_callB (cr_all rfl) bAll_ok rfl (g.free 32) (by decide +kernel) (ma_cons (me_lst (ml_lc rfl nd_Reading_reads_works (mi_seqS (me_var 1)) (own := [("name", 2)]) (blkOk (N := N_Reading_reads_works) (sc := defScope s_Reading_reads_works) (by decide +kernel)) (pat_name 2) (by decide +kernel) (fun _ _ _ _ _ => (pg_name nd_Reading_reads_works rfl (Or.inl rfl))) (fun _ _ _ _ _ => mts_nil) (fun _ _ _ _ _ => (me_call 0 (fg_is_name g) (hr.mono (by decide)) Mi.takes0 rfl (ma_cons (me_var 2) ma_nil))))) ma_nil))))))))
theorem sc_Reading_reads_works : FnScope N_Reading_reads_works ["self", "names"] (defScope s_Reading_reads_works) := ⟨rfl, rfl, rfl, nd_Reading_reads_works, rfl, by decide +kernel, by decide +kernel⟩
theorem fk_Reading_reads_works (g : Gf fa fn ck K mg) : ∃ fd, FnOk P w K mg base (L2.CX P w) 2 ((fn.getD 7 dummyD).adr K) fd ["self", "names"] (spF K (omOf K ρ) 2 F_Reading_reads_works) ∧ BndL K fd ["self", "names"] (omOf K ρ) [] := by
  obtain ⟨fd, F⟩ := g.def_ 7 (d := fn.getD 7 dummyD)
  exact ⟨fd, fnOk_of F sc_Reading_reads_works (bs_Reading_reads_works g), bndN F fun _ _ _ _ _ _ us hl => match us, hl with | [_, _], _ => rfl⟩
def G_Reading_reads_works : FF := scr0 F_Reading_reads_works
theorem fkG_Reading_reads_works (g : Gf fa fn ck K mg) : ∃ fd, FnOk P w K mg base (L2.CX P w) 2 ((fn.getD 7 dummyD).adr K) fd ["self", "names"] (spF K (omOf K ρ) 2 G_Reading_reads_works) ∧ BndL K fd ["self", "names"] (omOf K ρ) [] := let ⟨fd, ok, bd⟩ := fk_Reading_reads_works g; ⟨fd, ok.imp fun _ _ _ _ h => spF_scr0 h, bd⟩
theorem fg_Reading_reads_works (g : Gf fa fn ck K mg) : MeG P w K mg base (omOf K ρ) 1 "reads_works" 2 2 [] G_Reading_reads_works := by
  obtain ⟨fd, ok, bd⟩ := fkG_Reading_reads_works (P := P) (w := w) (base := base) (ρ := ρ) g
  exact gMe rfl (g.cls 18) (g.meth 39) nm_Reading_reads_works ok bd
def b_reached : SF := (sSeq (sPat (pSeq 2 (psCons (pName 2) (psCons (pName 3) psNil))) (eTup (aCons (eNewL (eLst (aCons (eVar 1) aNil))) (aCons (eC (.int 0)) aNil))))
  (sSeq (sWhile 100000 (tVal (eOp opLt (eVar 3) (eBi bLen (aCons (eVar 2) aNil)))) (sSeq (sExpr (eAlt (eMt isLoc mExtend (eVar 2) (aCons (eFroz (aAlt (eLc (List.map (·.2) ([("one", 4), ("other", 5)] : List (Str × Nat))) (pSeq 2 (psCons (pName 4) (psCons (pName 5) psNil))) (iSeqS (eVar 0)) (tAnd2 (tVal (eOp opEq (eVar 4) (eOp opIx (eVar 2) (eVar 3)))) (tVal (eOp opNotIn (eVar 5) (eVar 2)))) (eVar 5)) (eLcL 100000 (List.map (·.2) ([("one", 4), ("other", 5)] : List (Str × Nat))) (pSeq 2 (psCons (pName 4) (psCons (pName 5) psNil))) (iLoc (eVar 0)) (tAnd2 (tVal (eOp opEq (eVar 4) (eOp opIx (eVar 2) (eVar 3)))) (tVal (eOp opNotIn (eVar 5) (eVar 2)))) (eVar 5)))) aNil)) (eMt isLoc mExtT (eVar 2) (aCons (eFroz (aAlt (eLc (List.map (·.2) ([("one", 4), ("other", 5)] : List (Str × Nat))) (pSeq 2 (psCons (pName 4) (psCons (pName 5) psNil))) (iSeqS (eVar 0)) (tAnd2 (tVal (eOp opEq (eVar 4) (eOp opIx (eVar 2) (eVar 3)))) (tVal (eOp opNotIn (eVar 5) (eVar 2)))) (eVar 5)) (eLcL 100000 (List.map (·.2) ([("one", 4), ("other", 5)] : List (Str × Nat))) (pSeq 2 (psCons (pName 4) (psCons (pName 5) psNil))) (iLoc (eVar 0)) (tAnd2 (tVal (eOp opEq (eVar 4) (eOp opIx (eVar 2) (eVar 3)))) (tVal (eOp opNotIn (eVar 5) (eVar 2)))) (eVar 5)))) aNil))))
  (sAug 3 opAddI (eC (.int 1)))))
  (sRet (eSlice (eVar 2) (some (eC (.int 1))) none slT))))
def F_reached : FF := runB 6 b_reached
abbrev N_reached : List Str := ["pairs", "work", "found", "at", "one", "other"]
theorem nd_reached : (N_reached).Nodup := by decide +kernel
theorem bs_reached (g : Gf fa fn ck K mg) : BodyS P w K mg base (omOf K ρ) 0 N_reached (defScope s_reached) (defBody s_reached) b_reached := fun qual f cdv A outer s H E hr => (mss_cons (ms_pat (pat_seq (n := 2) (pats_cons (pat_name 2) (pats_cons (pat_name 3) pats_nil))) (me_tup (ma_cons (me_newL (ml_lst (ma_cons (me_var 1) ma_nil))) (ma_cons me_int ma_nil))) (pg_seq (n := 2) rfl (pgs_cons (pg_name nd_reached rfl (Or.inr rfl)) (pgs_cons (pg_name nd_reached rfl (Or.inr rfl)) pgs_nil))))
  (mss_cons (ms_while 100000 (passes_of rfl) (mt_cmp op_lt opLt_ok (me_var 3) (me_callB call_len2 bLen_ok rfl (g.free 0) (by decide +kernel) (ma_cons (me_var 2) ma_nil)) (nomark _)) (mss_cons (ms_expr (me_ext2 (me_var 2) (ma_cons (me_lst (ml_alt (ml_lc rfl nd_reached (mi_seqS (me_var 0)) (own := [("one", 4), ("other", 5)]) (blkOk (N := N_reached) (sc := defScope s_reached) (by decide +kernel)) (pat_seq (n := 2) (pats_cons (pat_name 4) (pats_cons (pat_name 5) pats_nil))) (by decide +kernel) (fun _ _ _ _ _ => (pg_seq (n := 2) rfl (pgs_cons (pg_name nd_reached rfl (Or.inl rfl)) (pgs_cons (pg_name nd_reached rfl (Or.inl rfl)) pgs_nil)))) (fun _ _ _ _ _ => (mts_one (mt_w (mw_and (mt_cmp (op_eqD (un64 hr)) opEq_ok (me_var 4) (me_ix (me_var 2) (me_var 3)) (nomark _)) (mw_and1 (mt_cmp (op_notIn2 (un65 hr)) opNotIn_ok (me_var 5) (me_var 2))))))) (fun _ _ _ _ _ => (me_var 5))) (ml_lcL 100000 rfl nd_reached (mil_loc (me_var 0)) (own := [("one", 4), ("other", 5)]) (blkOk (N := N_reached) (sc := defScope s_reached) (by decide +kernel)) (pat_seq (n := 2) (pats_cons (pat_name 4) (pats_cons (pat_name 5) pats_nil))) (by decide +kernel) (fun _ _ _ _ _ => (pg_seq (n := 2) rfl (pgs_cons (pg_name nd_reached rfl (Or.inl rfl)) (pgs_cons (pg_name nd_reached rfl (Or.inl rfl)) pgs_nil)))) (fun _ _ _ _ _ => (mts_one (mt_w (mw_and (mt_cmp (op_eqD (un64 hr)) opEq_ok (me_var 4) (me_ix (me_var 2) (me_var 3)) (nomark _)) (mw_and1 (mt_cmp (op_notIn2 (un65 hr)) opNotIn_ok (me_var 5) (me_var 2))))))) (fun _ _ _ _ _ => (me_var 5))))) ma_nil)))
  (mss_one (ms_aug opAddI_ok nd_reached rfl (Or.inr rfl) me_int ip_add))))
  (mss_one (ms_ret (me_slice (me_var 2) (mp_some me_int) mp_none)))))
theorem sc_reached : FnScope N_reached ["pairs", "work"] (defScope s_reached) := ⟨rfl, rfl, rfl, nd_reached, rfl, by decide +kernel, by decide +kernel⟩
theorem fk_reached (g : Gf fa fn ck K mg) : ∃ fd, FnOk P w K mg base (L2.CX P w) 1 ((fn.getD 8 dummyD).adr K) fd ["pairs", "work"] (spF K (omOf K ρ) 2 F_reached) ∧ BndL K fd ["pairs", "work"] (omOf K ρ) [] := by
  obtain ⟨fd, F⟩ := g.def_ 8 (d := fn.getD 8 dummyD)
  exact ⟨fd, fnOk_of F sc_reached (bs_reached g), bndN F fun _ _ _ _ _ _ us hl => match us, hl with | [_, _], _ => rfl⟩
def G_reached : FF := scr0 F_reached
theorem fkG_reached (g : Gf fa fn ck K mg) : ∃ fd, FnOk P w K mg base (L2.CX P w) 1 ((fn.getD 8 dummyD).adr K) fd ["pairs", "work"] (spF K (omOf K ρ) 2 G_reached) ∧ BndL K fd ["pairs", "work"] (omOf K ρ) [] := let ⟨fd, ok, bd⟩ := fk_reached g; ⟨fd, ok.imp fun _ _ _ _ h => spF_scr0 h, bd⟩
theorem fg_reached (g : Gf fa fn ck K mg) : FnG P w K mg base (omOf K ρ) "reached" 1 2 [] G_reached := by
  obtain ⟨fd, ok, bd⟩ := fkG_reached (P := P) (w := w) (base := base) (ρ := ρ) g
  exact gFn rfl (g.glo 43) (g.keep 44) ok bd
def b_Reading_reads_need : SF := (sSeq (sIf (tOr2 (tVal (eOp opNe (eBi bLen (aCons (eVar 1) aNil)) (eC (.int 2)))) (tOr2 (tVal (eOp opIn (eVar 1) (eFld 1 1 (eVar 0)))) (tVal (eOp opEq (eBi bLen (aCons (eFld 1 1 (eVar 0)) aNil)) (eC (.int 20)))))) (sRet (eC (.bl false))) sNil)
  (sSeq (sIf (tOr2 (tVal (eOp opEq (eOp opIx (eVar 1) (eC (.int 0))) (eOp opIx (eVar 1) (eC (.int 1))))) (tNot2 (tTru (eBi bAll (aCons (eFroz (eLc (List.map (·.2) ([("name", 2)] : List (Str × Nat))) (pName 2) (iSeqS (eVar 1)) tTrue (eOp opIn (eVar 2) (eFld 1 0 (eVar 0))))) aNil))))) (sRet (eC (.bl false))) sNil)
  (sSeq (sExpr (eMt isLoc mAppend (eFld 1 1 (eVar 0)) (aCons (eVar 1) aNil)))
  (sRet (eOp opNotIn (eOp opIx (eVar 1) (eC (.int 0))) (eCall 2 G_reached [] (aCons (eFld 1 1 (eVar 0)) (aCons (eOp opIx (eVar 1) (eC (.int 1))) aNil))))))))
def F_Reading_reads_need : FF := runB 3 b_Reading_reads_need
abbrev N_Reading_reads_need : List Str := ["self", "names", "name"]
theorem nd_Reading_reads_need : (N_Reading_reads_need).Nodup := by decide +kernel
theorem bs_Reading_reads_need (g : Gf fa fn ck K mg) : BodyS P w K mg base (omOf K ρ) 1 N_Reading_reads_need (defScope s_Reading_reads_need) (defBody s_Reading_reads_need) b_Reading_reads_need := fun qual f cdv A outer s H E hr => (mss_cons (ms_if (mt_w (mw_or (mt_cmp (op_neD (un64 hr)) opNe_ok (me_callB call_len2 bLen_ok rfl (g.free 0) (by decide +kernel) (ma_cons (me_var 1) ma_nil)) (g.eInt 41 rfl) (nomark _)) (mw_or (mt_cmp (op_in2 (un65 hr)) opIn_ok (me_var 1) (me_fld (c := 1) (g.cls 18) (g.noat 20) rfl fu_1_1 (me_var 0))) (mw_or1 (mt_cmp (op_eqD (un64 hr)) opEq_ok (me_callB call_len2 bLen_ok rfl (g.free 0) (by decide +kernel) (ma_cons (me_fld (c := 1) (g.cls 18) (g.noat 20) rfl fu_1_1 (me_var 0)) ma_nil)) (g.eInt 42 rfl) (nomark _)))))) (mss_one (ms_ret me_bl)) mss_nil)
  (mss_cons (ms_if (mt_w (mw_or (mt_cmp (op_eqD (un64 hr)) opEq_ok (me_ix (me_var 1) me_int) (me_ix (me_var 1) me_int) (nomark _)) (mw_or1 (mt_not (mt_tru (me_callB (cr_all rfl) bAll_ok rfl (g.free 32) (by decide +kernel) (ma_cons (me_lst (ml_lc rfl nd_Reading_reads_need (mi_seqS (me_var 1)) (own := [("name", 2)]) (blkOk (N := N_Reading_reads_need) (sc := defScope s_Reading_reads_need) (by decide +kernel)) (pat_name 2) (by decide +kernel) (fun _ _ _ _ _ => (pg_name nd_Reading_reads_need rfl (Or.inl rfl))) (fun _ _ _ _ _ => mts_nil) (fun _ _ _ _ _ => (me_cmp (op_in2 (un65 hr)) opIn_ok (me_var 2) (me_fld (c := 1) (g.cls 18) (g.noat 19) rfl fu_1_0 (me_var 0)))))) ma_nil))))))) (mss_one (ms_ret me_bl)) mss_nil)
  (mss_cons (ms_expr (me_append (me_fld (c := 1) (g.cls 18) (g.noat 20) rfl fu_1_1 (me_var 0)) (ma_cons (me_var 1) ma_nil)))
  (mss_one (ms_ret (me_cmp (op_notIn2 (un65 hr)) opNotIn_ok (me_ix (me_var 1) me_int) (me_call 0 (fg_reached g) (hr.mono (by decide)) (takes_of rfl rfl rfl rfl) rfl (ma_cons (me_fld (c := 1) (g.cls 18) (g.noat 20) rfl fu_1_1 (me_var 0)) (ma_cons (me_ix (me_var 1) me_int) ma_nil)))))))))
theorem sc_Reading_reads_need : FnScope N_Reading_reads_need ["self", "names"] (defScope s_Reading_reads_need) := ⟨rfl, rfl, rfl, nd_Reading_reads_need, rfl, by decide +kernel, by decide +kernel⟩
theorem fk_Reading_reads_need (g : Gf fa fn ck K mg) : ∃ fd, FnOk P w K mg base (L2.CX P w) 2 ((fn.getD 9 dummyD).adr K) fd ["self", "names"] (spF K (omOf K ρ) 2 F_Reading_reads_need) ∧ BndL K fd ["self", "names"] (omOf K ρ) [] := by
  obtain ⟨fd, F⟩ := g.def_ 9 (d := fn.getD 9 dummyD)
  exact ⟨fd, fnOk_of F sc_Reading_reads_need (bs_Reading_reads_need g), bndN F fun _ _ _ _ _ _ us hl => match us, hl with | [_, _], _ => rfl⟩
def G_Reading_reads_need : FF := scr0 F_Reading_reads_need
theorem fkG_Reading_reads_need (g : Gf fa fn ck K mg) : ∃ fd, FnOk P w K mg base (L2.CX P w) 2 ((fn.getD 9 dummyD).adr K) fd ["self", "names"] (spF K (omOf K ρ) 2 G_Reading_reads_need) ∧ BndL K fd ["self", "names"] (omOf K ρ) [] := let ⟨fd, ok, bd⟩ := fk_Reading_reads_need g; ⟨fd, ok.imp fun _ _ _ _ h => spF_scr0 h, bd⟩
theorem fg_Reading_reads_need (g : Gf fa fn ck K mg) : MeG P w K mg base (omOf K ρ) 1 "reads_need" 2 2 [] G_Reading_reads_need := by
  obtain ⟨fd, ok, bd⟩ := fkG_Reading_reads_need (P := P) (w := w) (base := base) (ρ := ρ) g
  exact gMe rfl (g.cls 18) (g.meth 45) nm_Reading_reads_need ok bd
def b_number_in : SF := (sSeq (sSet 1 (eIf (tVal (eOp opEq (eSlice (eVar 0) none (some (eC (.int 1))) slT) (eC (.str [45])))) (eSlice (eVar 0) (some (eC (.int 1))) none slT) (eVar 0)))
  (sSeq (sIf (tOr2 (tVal (eOp opEq (eVar 1) (eC (.str [])))) (tNot2 (tTru (eBi bAll (aCons (eFroz (eLc (List.map (·.2) ([("sign", 2)] : List (Str × Nat))) (pName 2) (iSeqS (eVar 1)) tTrue (eOp opIn (eVar 2) (eC (.str [48, 49, 50, 51, 52, 53, 54, 55, 56, 57]))))) aNil))))) (sRet (eC .non)) sNil)
  (sSeq (sIf (tAnd2 (tVal (eOp opEq (eOp opIx (eVar 1) (eC (.int 0))) (eC (.str [48])))) (tVal (eOp opNe (eVar 0) (eC (.str [48]))))) (sRet (eC .non)) sNil)
  (sRet (eBi bInt (aCons (eVar 0) aNil))))))
def F_number_in : FF := runB 3 b_number_in
abbrev N_number_in : List Str := ["word", "figures", "sign"]
theorem nd_number_in : (N_number_in).Nodup := by decide +kernel
theorem bs_number_in (g : Gf fa fn ck K mg) : BodyS P w K mg base (omOf K ρ) 0 N_number_in (defScope s_number_in) (defBody s_number_in) b_number_in := fun qual f cdv A outer s H E hr => (mss_cons (ms_set nd_number_in rfl (Or.inl rfl) (me_if (mt_cmp (op_eqD (un64 hr)) opEq_ok (me_slice (me_var 0) mp_none (mp_some me_int)) (g.eStr 47 rfl) (nomark _)) (me_slice (me_var 0) (mp_some me_int) mp_none) (me_var 0)))
  (mss_cons (ms_if (mt_w (mw_or (mt_cmp (op_eqD (un64 hr)) opEq_ok (me_var 1) me_str (nomark _)) (mw_or1 (mt_not (mt_tru (me_callB (cr_all rfl) bAll_ok rfl (g.free 32) (by decide +kernel) (ma_cons (me_lst (ml_lc rfl nd_number_in (mi_seqS (me_var 1)) (own := [("sign", 2)]) (blkOk (N := N_number_in) (sc := defScope s_number_in) (by decide +kernel)) (pat_name 2) (by decide +kernel) (fun _ _ _ _ _ => (pg_name nd_number_in rfl (Or.inl rfl))) (fun _ _ _ _ _ => mts_nil) (fun _ _ _ _ _ => (me_cmp (op_in2 (un65 hr)) opIn_ok (me_var 2) (g.eStr 48 rfl))))) ma_nil))))))) (mss_one (ms_ret me_non)) mss_nil)
  (mss_cons (ms_if (mt_w (mw_and (mt_cmp (op_eqD (un64 hr)) opEq_ok (me_ix (me_var 1) me_int) me_str (nomark _)) (mw_and1 (mt_cmp (op_neD (un64 hr)) opNe_ok (me_var 0) me_str (nomark _))))) (mss_one (ms_ret me_non)) mss_nil)
  (mss_one (ms_ret (me_callTy call_int2 bInt_ok rfl (g.free 7) (by decide +kernel) (ma_cons (me_var 0) ma_nil)))))))
theorem sc_number_in : FnScope N_number_in ["word"] (defScope s_number_in) := ⟨rfl, rfl, rfl, nd_number_in, rfl, by decide +kernel, by decide +kernel⟩
theorem fk_number_in (g : Gf fa fn ck K mg) : ∃ fd, FnOk P w K mg base (L2.CX P w) 1 ((fn.getD 10 dummyD).adr K) fd ["word"] (spF K (omOf K ρ) 1 F_number_in) ∧ BndL K fd ["word"] (omOf K ρ) [] := by
  obtain ⟨fd, F⟩ := g.def_ 10 (d := fn.getD 10 dummyD)
  exact ⟨fd, fnOk_of F sc_number_in (bs_number_in g), bndN F fun _ _ _ _ _ _ us hl => match us, hl with | [_], _ => rfl⟩
def G_number_in : FF := scr0 F_number_in
theorem fkG_number_in (g : Gf fa fn ck K mg) : ∃ fd, FnOk P w K mg base (L2.CX P w) 1 ((fn.getD 10 dummyD).adr K) fd ["word"] (spF K (omOf K ρ) 1 G_number_in) ∧ BndL K fd ["word"] (omOf K ρ) [] := let ⟨fd, ok, bd⟩ := fk_number_in g; ⟨fd, ok.imp fun _ _ _ _ h => spF_scr0 h, bd⟩
theorem fg_number_in (g : Gf fa fn ck K mg) : FnG P w K mg base (omOf K ρ) "number_in" 1 1 [] G_number_in := by
  obtain ⟨fd, ok, bd⟩ := fkG_number_in (P := P) (w := w) (base := base) (ρ := ρ) g
  exact gFn rfl (g.glo 49) (g.keep 50) ok bd
def b_Reading_reads_due : SF := (sSeq (sIf (tOr2 (tVal (eOp opNe (eBi bLen (aCons (eVar 1) aNil)) (eC (.int 2)))) (tOr2 (tVal (eOp opNotIn (eOp opIx (eVar 1) (eC (.int 0))) (eFld 1 0 (eVar 0)))) (tVal (eDin false (eOp opIx (eVar 1) (eC (.int 0))) (eFld 1 2 (eVar 0)))))) (sRet (eC (.bl false))) sNil)
  (sSeq (sSet 2 (eCall 1 G_number_in [] (aCons (eOp opIx (eVar 1) (eC (.int 1))) aNil)))
  (sSeq (sIf (tOr2 (tVal (eOp opIs (eVar 2) (eC .non))) (tNot2 (tVal (eChain opLe opLe (eC (.int 1)) (eVar 2) (eC (.int 40)))))) (sRet (eC (.bl false))) sNil)
  (sSeq (sDput (eVar 2) (eFld 1 2 (eVar 0)) (eOp opIx (eVar 1) (eC (.int 0))))
  (sRet (eC (.bl true)))))))
def F_Reading_reads_due : FF := runB 3 b_Reading_reads_due
abbrev N_Reading_reads_due : List Str := ["self", "words", "hour"]
theorem nd_Reading_reads_due : (N_Reading_reads_due).Nodup := by decide +kernel
theorem bs_Reading_reads_due (g : Gf fa fn ck K mg) : BodyS P w K mg base (omOf K ρ) 1 N_Reading_reads_due (defScope s_Reading_reads_due) (defBody s_Reading_reads_due) b_Reading_reads_due := fun qual f cdv A outer s H E hr => (mss_cons (ms_if (mt_w (mw_or (mt_cmp (op_neD (un64 hr)) opNe_ok (me_callB call_len2 bLen_ok rfl (g.free 0) (by decide +kernel) (ma_cons (me_var 1) ma_nil)) (g.eInt 41 rfl) (nomark _)) (mw_or (mt_cmp (op_notIn2 (un65 hr)) opNotIn_ok (me_ix (me_var 1) me_int) (me_fld (c := 1) (g.cls 18) (g.noat 19) rfl fu_1_0 (me_var 0))) (mw_or1 (mt_din (un1 hr) (me_ix (me_var 1) me_int) (me_fld (c := 1) (g.cls 18) (g.noat 21) rfl fu_1_2 (me_var 0))))))) (mss_one (ms_ret me_bl)) mss_nil)
  (mss_cons (ms_set nd_Reading_reads_due rfl (Or.inl rfl) (me_call 0 (fg_number_in g) (hr.mono (by decide)) (takes_of rfl rfl rfl rfl) rfl (ma_cons (me_ix (me_var 1) me_int) ma_nil)))
  (mss_cons (ms_if (mt_w (mw_or (mt_cmp op_is2 opIs_ok (me_var 2) me_non (nomark _)) (mw_or1 (mt_not (mt_chain op_le opLe_ok op_le opLe_ok me_int (me_var 2) (g.eInt 51 rfl)))))) (mss_one (ms_ret me_bl)) mss_nil)
  (mss_cons (ms_dput (un1 hr) (me_fld (c := 1) (g.cls 18) (g.noat 21) rfl fu_1_2 (me_var 0)) (me_ix (me_var 1) me_int) (me_var 2))
  (mss_one (ms_ret me_bl))))))
theorem sc_Reading_reads_due : FnScope N_Reading_reads_due ["self", "words"] (defScope s_Reading_reads_due) := ⟨rfl, rfl, rfl, nd_Reading_reads_due, rfl, by decide +kernel, by decide +kernel⟩
theorem fk_Reading_reads_due (g : Gf fa fn ck K mg) : ∃ fd, FnOk P w K mg base (L2.CX P w) 2 ((fn.getD 11 dummyD).adr K) fd ["self", "words"] (spF K (omOf K ρ) 2 F_Reading_reads_due) ∧ BndL K fd ["self", "words"] (omOf K ρ) [] := by
  obtain ⟨fd, F⟩ := g.def_ 11 (d := fn.getD 11 dummyD)
  exact ⟨fd, fnOk_of F sc_Reading_reads_due (bs_Reading_reads_due g), bndN F fun _ _ _ _ _ _ us hl => match us, hl with | [_, _], _ => rfl⟩
def G_Reading_reads_due : FF := scr0 F_Reading_reads_due
theorem fkG_Reading_reads_due (g : Gf fa fn ck K mg) : ∃ fd, FnOk P w K mg base (L2.CX P w) 2 ((fn.getD 11 dummyD).adr K) fd ["self", "words"] (spF K (omOf K ρ) 2 G_Reading_reads_due) ∧ BndL K fd ["self", "words"] (omOf K ρ) [] := let ⟨fd, ok, bd⟩ := fk_Reading_reads_due g; ⟨fd, ok.imp fun _ _ _ _ h => spF_scr0 h, bd⟩
theorem fg_Reading_reads_due (g : Gf fa fn ck K mg) : MeG P w K mg base (omOf K ρ) 1 "reads_due" 2 2 [] G_Reading_reads_due := by
  obtain ⟨fd, ok, bd⟩ := fkG_Reading_reads_due (P := P) (w := w) (base := base) (ρ := ρ) g
  exact gMe rfl (g.cls 18) (g.meth 52) nm_Reading_reads_due ok bd
def b_is_integer : SF := (sSeq (sIf (tOr2 (tNot2 (tTru (eIsT "int" (eVar 0)))) (tTru (eIsT "bool" (eVar 0)))) (sRet (eC (.bl false))) sNil)
  (sRet (eAnd (eOr (eOp opIs (eVar 1) (eC .non)) (eOp opGe (eVar 0) (eVar 1))) (eOr (eOp opIs (eVar 2) (eC .non)) (eOp opLe (eVar 0) (eVar 2))))))
def F_is_integer : FF := runB 3 b_is_integer
abbrev N_is_integer : List Str := ["value", "low", "high"]
theorem nd_is_integer : (N_is_integer).Nodup := by decide +kernel
theorem bs_is_integer (g : Gf fa fn ck K mg) : BodyS P w K mg base (omOf K ρ) 0 N_is_integer (defScope s_is_integer) (defBody s_is_integer) b_is_integer := fun qual f cdv A outer s H E hr => (mss_cons (ms_if (mt_w (mw_or (mt_not (mt_tru (me_isT (n := "int") (by decide) rfl (g.free 13) rfl (g.free 7) (by decide +kernel) (me_var 0)))) (mw_or1 (mt_tru (me_isT (n := "bool") (by decide) rfl (g.free 13) rfl (g.free 54) (by decide +kernel) (me_var 0)))))) (mss_one (ms_ret me_bl)) mss_nil)
  (mss_one (ms_ret (me_and (me_or (me_cmp op_is2 opIs_ok (me_var 1) me_non (nomark _)) (me_one (me_cmp op_ge opGe_ok (me_var 0) (me_var 1) (nomark _)))) (me_one (me_or (me_cmp op_is2 opIs_ok (me_var 2) me_non (nomark _)) (me_one (me_cmp op_le opLe_ok (me_var 0) (me_var 2) (nomark _)))))))))
theorem sc_is_integer : FnScope N_is_integer ["value", "low", "high"] (defScope s_is_integer) := ⟨rfl, rfl, rfl, nd_is_integer, rfl, by decide +kernel, by decide +kernel⟩
theorem fk_is_integer (g : Gf fa fn ck K mg) : ∃ fd, FnOk P w K mg base (L2.CX P w) 1 ((fn.getD 12 dummyD).adr K) fd ["value", "low", "high"] (spF K (omOf K ρ) 3 F_is_integer) ∧ BndL K fd ["value", "low", "high"] (omOf K ρ) [.non, .non] := by
  obtain ⟨fd, F⟩ := g.def_ 12 (d := fn.getD 12 dummyD)
  refine ⟨fd, fnOk_of F sc_is_integer (bs_is_integer g), fun j hj => ?_⟩
  match j, hj with
  | 0, _ => obtain ⟨ds, h1, h2⟩ := FunD.binds1 (ps := ["value", "low", "high"]) F 1 0 (List.cons_ne_nil _ _) rfl (fun _ _ _ _ _ _ _ us its hu hi => match us, its, hu, hi with | [_], [_, _], _, _ => ⟨_, rfl, rfl⟩); exact ⟨ds, _, h2, h1, fun _ _ _ _ => .cons .non (.cons .non (.nil))⟩
  | 1, _ => obtain ⟨ds, h1, h2⟩ := FunD.binds1 (ps := ["value", "low", "high"]) F 2 1 (List.cons_ne_nil _ _) rfl (fun _ _ _ _ _ _ _ us its hu hi => match us, its, hu, hi with | [_, _], [_, _], _, _ => ⟨_, rfl, rfl⟩); exact ⟨ds, _, h2, h1, fun _ _ _ _ => .cons .non (.nil)⟩
  | 2, _ => obtain ⟨ds, h1, h2⟩ := FunD.binds1 (ps := ["value", "low", "high"]) F 3 2 (List.cons_ne_nil _ _) rfl (fun _ _ _ _ _ _ _ us its hu hi => match us, its, hu, hi with | [_, _, _], [_, _], _, _ => ⟨_, rfl, rfl⟩); exact ⟨ds, _, h2, h1, fun _ _ _ _ => .nil⟩
  | j + 3, hj => exact absurd (show j + 3 ≤ 2 from hj) (by omega)
def G_is_integer : FF := scr0 F_is_integer
theorem fkG_is_integer (g : Gf fa fn ck K mg) : ∃ fd, FnOk P w K mg base (L2.CX P w) 1 ((fn.getD 12 dummyD).adr K) fd ["value", "low", "high"] (spF K (omOf K ρ) 3 G_is_integer) ∧ BndL K fd ["value", "low", "high"] (omOf K ρ) [.non, .non] := let ⟨fd, ok, bd⟩ := fk_is_integer g; ⟨fd, ok.imp fun _ _ _ _ h => spF_scr0 h, bd⟩
theorem fg_is_integer (g : Gf fa fn ck K mg) : FnG P w K mg base (omOf K ρ) "is_integer" 1 3 [.non, .non] G_is_integer := by
  obtain ⟨fd, ok, bd⟩ := fkG_is_integer (P := P) (w := w) (base := base) (ρ := ρ) g
  exact gFn rfl (g.glo 55) (g.keep 56) ok bd
def b_are_hands : SF := (sSeq (sIf (tOr2 (tNot2 (tTru (eIsT "tuple" (eVar 0)))) (tNot2 (tVal (eChain opLe opLe (eC (.int 1)) (eBi bLen (aCons (eVar 0) aNil)) (eC (.int 12)))))) (sRet (eC (.bl false))) sNil)
  (sRet (eAnd (eBi bAll (aCons (eFroz (eLc (List.map (·.2) ([("number", 1)] : List (Str × Nat))) (pName 1) (iSeqS (eVar 0)) tTrue (eCall 3 G_is_integer [] (aCons (eVar 1) (aCons (eC (.int 0)) (aCons (eC (.int 4)) aNil)))))) aNil)) (eOp opGt (eOp opIx (eVar 0) (eNeg (eC (.int 1)))) (eC (.int 0))))))
def F_are_hands : FF := runB 2 b_are_hands
abbrev N_are_hands : List Str := ["value", "number"]
theorem nd_are_hands : (N_are_hands).Nodup := by decide +kernel
theorem bs_are_hands (g : Gf fa fn ck K mg) : BodyS P w K mg base (omOf K ρ) 1 N_are_hands (defScope s_are_hands) (defBody s_are_hands) b_are_hands := fun qual f cdv A outer s H E hr => (mss_cons (ms_if (mt_w (mw_or (mt_not (mt_tru (me_isT (n := "tuple") (by decide) rfl (g.free 13) rfl (g.free 30) (by decide +kernel) (me_var 0)))) (mw_or1 (mt_not (mt_chain op_le opLe_ok op_le opLe_ok me_int (me_callB call_len2 bLen_ok rfl (g.free 0) (by decide +kernel) (ma_cons (me_var 0) ma_nil)) (g.eInt 53 rfl)))))) (mss_one (ms_ret me_bl)) mss_nil)
  (mss_one (ms_ret (me_and (me_callB (cr_all rfl) bAll_ok rfl (g.free 32) (by decide +kernel) (ma_cons (me_lst (ml_lc rfl nd_are_hands (mi_seqS (me_var 0)) (own := [("number", 1)]) (blkOk (N := N_are_hands) (sc := defScope s_are_hands) (by decide +kernel)) (pat_name 1) (by decide +kernel) (fun _ _ _ _ _ => (pg_name nd_are_hands rfl (Or.inl rfl))) (fun _ _ _ _ _ => mts_nil) (fun _ _ _ _ _ => (me_call 2 (fg_is_integer g) (hr.mono (by decide)) Mi.takes0 rfl (ma_cons (me_var 1) (ma_cons me_int (ma_cons (g.eInt 57 rfl) ma_nil))))))) ma_nil)) (me_one (me_cmp op_gt opGt_ok (me_ix (me_var 0) (me_neg me_int)) me_int (nomark _)))))))
theorem sc_are_hands : FnScope N_are_hands ["value"] (defScope s_are_hands) := ⟨rfl, rfl, rfl, nd_are_hands, rfl, by decide +kernel, by decide +kernel⟩
theorem fk_are_hands (g : Gf fa fn ck K mg) : ∃ fd, FnOk P w K mg base (L2.CX P w) 2 ((fn.getD 13 dummyD).adr K) fd ["value"] (spF K (omOf K ρ) 1 F_are_hands) ∧ BndL K fd ["value"] (omOf K ρ) [] := by
  obtain ⟨fd, F⟩ := g.def_ 13 (d := fn.getD 13 dummyD)
  exact ⟨fd, fnOk_of F sc_are_hands (bs_are_hands g), bndN F fun _ _ _ _ _ _ us hl => match us, hl with | [_], _ => rfl⟩
def G_are_hands : FF := scr0 F_are_hands
theorem fkG_are_hands (g : Gf fa fn ck K mg) : ∃ fd, FnOk P w K mg base (L2.CX P w) 2 ((fn.getD 13 dummyD).adr K) fd ["value"] (spF K (omOf K ρ) 1 G_are_hands) ∧ BndL K fd ["value"] (omOf K ρ) [] := let ⟨fd, ok, bd⟩ := fk_are_hands g; ⟨fd, ok.imp fun _ _ _ _ h => spF_scr0 h, bd⟩
theorem fg_are_hands (g : Gf fa fn ck K mg) : FnG P w K mg base (omOf K ρ) "are_hands" 2 1 [] G_are_hands := by
  obtain ⟨fd, ok, bd⟩ := fkG_are_hands (P := P) (w := w) (base := base) (ρ := ρ) g
  exact gFn rfl (g.glo 58) (g.keep 59) ok bd
def b_Reading_reads_hands : SF := (sSeq (sFldT 1 3 (eBi bTuple (aCons (eFroz (eLc (List.map (·.2) ([("word", 2)] : List (Str × Nat))) (pName 2) (iSeqS (eVar 1)) tTrue (eCall 1 G_number_in [] (aCons (eVar 2) aNil)))) aNil)) (eVar 0))
  (sRet (eCall 1 G_are_hands [] (aCons (eFld 1 3 (eVar 0)) aNil))))
def F_Reading_reads_hands : FF := runB 3 b_Reading_reads_hands
abbrev N_Reading_reads_hands : List Str := ["self", "words", "word"]
theorem nd_Reading_reads_hands : (N_Reading_reads_hands).Nodup := by decide +kernel
theorem bs_Reading_reads_hands (g : Gf fa fn ck K mg) : BodyS P w K mg base (omOf K ρ) 2 N_Reading_reads_hands (defScope s_Reading_reads_hands) (defBody s_Reading_reads_hands) b_Reading_reads_hands := fun qual f cdv A outer s H E hr => (mss_cons (ms_fld (c := 1) (g.cls 18) (g.noat 22) rfl fu_1_3 (fl_all 1) (me_var 0) (me_callTy call_tuple_of bTuple_ok rfl (g.free 30) (by decide +kernel) (ma_cons (me_lst (ml_lc rfl nd_Reading_reads_hands (mi_seqS (me_var 1)) (own := [("word", 2)]) (blkOk (N := N_Reading_reads_hands) (sc := defScope s_Reading_reads_hands) (by decide +kernel)) (pat_name 2) (by decide +kernel) (fun _ _ _ _ _ => (pg_name nd_Reading_reads_hands rfl (Or.inl rfl))) (fun _ _ _ _ _ => mts_nil) (fun _ _ _ _ _ => (me_call 0 (fg_number_in g) (hr.mono (by decide)) Mi.takes0 rfl (ma_cons (me_var 2) ma_nil))))) ma_nil)))
  (mss_one (ms_ret (me_call 0 (fg_are_hands g) (hr.mono (by decide)) (takes_of rfl rfl rfl rfl) rfl (ma_cons (me_fld (c := 1) (g.cls 18) (g.noat 22) rfl fu_1_3 (me_var 0)) ma_nil)))))
theorem sc_Reading_reads_hands : FnScope N_Reading_reads_hands ["self", "words"] (defScope s_Reading_reads_hands) := ⟨rfl, rfl, rfl, nd_Reading_reads_hands, rfl, by decide +kernel, by decide +kernel⟩
theorem fk_Reading_reads_hands (g : Gf fa fn ck K mg) : ∃ fd, FnOk P w K mg base (L2.CX P w) 3 ((fn.getD 14 dummyD).adr K) fd ["self", "words"] (spF K (omOf K ρ) 2 F_Reading_reads_hands) ∧ BndL K fd ["self", "words"] (omOf K ρ) [] := by
  obtain ⟨fd, F⟩ := g.def_ 14 (d := fn.getD 14 dummyD)
  exact ⟨fd, fnOk_of F sc_Reading_reads_hands (bs_Reading_reads_hands g), bndN F fun _ _ _ _ _ _ us hl => match us, hl with | [_, _], _ => rfl⟩
def G_Reading_reads_hands : FF := scr0 F_Reading_reads_hands
theorem fkG_Reading_reads_hands (g : Gf fa fn ck K mg) : ∃ fd, FnOk P w K mg base (L2.CX P w) 3 ((fn.getD 14 dummyD).adr K) fd ["self", "words"] (spF K (omOf K ρ) 2 G_Reading_reads_hands) ∧ BndL K fd ["self", "words"] (omOf K ρ) [] := let ⟨fd, ok, bd⟩ := fk_Reading_reads_hands g; ⟨fd, ok.imp fun _ _ _ _ h => spF_scr0 h, bd⟩
theorem fg_Reading_reads_hands (g : Gf fa fn ck K mg) : MeG P w K mg base (omOf K ρ) 1 "reads_hands" 3 2 [] G_Reading_reads_hands := by
  obtain ⟨fd, ok, bd⟩ := fkG_Reading_reads_hands (P := P) (w := w) (base := base) (ρ := ρ) g
  exact gMe rfl (g.cls 18) (g.meth 60) nm_Reading_reads_hands ok bd
def b_Reading_reads : SF := (sSeq (sSet 2 (eFroz (lSplit (eVar 1) (eC (.str [32])))))
  (sSeq (sIf (tOr2 (tVal (eOp opNotIn (eOp opIx (eVar 2) (eC (.int 0))) (eC (.ktup ([[119, 111, 114, 107, 115], [97, 104, 101, 97, 100], [100, 117, 101], [104, 97, 110, 100, 115]].map .str))))) (tOr2 (tVal (eOp opNe (eOp opEq (eFld 1 0 (eVar 0)) (eTup aNil)) (eOp opEq (eOp opIx (eVar 2) (eC (.int 0))) (eC (.str [119, 111, 114, 107, 115]))))) (tVal (eOp opNe (eFld 1 3 (eVar 0)) (eTup aNil))))) (sRet (eC (.bl false))) sNil)
  (sSeq (sParF 3 1 4 (aCons (eFld 1 4 (eVar 0)) (aCons (eIxK (.ktup ([[119, 111, 114, 107, 115], [97, 104, 101, 97, 100], [100, 117, 101], [104, 97, 110, 100, 115]].map .str)) (aCons (eOp opIx (eVar 2) (eC (.int 0))) aNil)) aNil)) (eVar 0))
  (sSeq (sIf (tVal (eOp opLt (eFld 1 4 (eVar 0)) (eVar 3))) (sRet (eC (.bl false))) sNil)
  (sSeq (sSet 4 (eBi bTuple (aCons (eSlice (eVar 2) (some (eC (.int 1))) none slT) aNil)))
  (sSeq (sIf (tVal (eOp opEq (eOp opIx (eVar 2) (eC (.int 0))) (eC (.str [119, 111, 114, 107, 115])))) (sRet (eMeth 1 2 G_Reading_reads_works [] (eVar 0) (aCons (eVar 4) aNil))) sNil)
  (sSeq (sIf (tVal (eOp opEq (eOp opIx (eVar 2) (eC (.int 0))) (eC (.str [97, 104, 101, 97, 100])))) (sRet (eMeth 1 2 G_Reading_reads_need [] (eVar 0) (aCons (eVar 4) aNil))) sNil)
  (sRet (eIf (tVal (eOp opEq (eOp opIx (eVar 2) (eC (.int 0))) (eC (.str [100, 117, 101])))) (eMeth 1 2 G_Reading_reads_due [] (eVar 0) (aCons (eVar 4) aNil)) (eMeth 1 2 G_Reading_reads_hands [] (eVar 0) (aCons (eVar 4) aNil)))))))))))
def F_Reading_reads : FF := runB 5 b_Reading_reads
abbrev N_Reading_reads : List Str := ["self", "line", "words", "ahead", "rest"]
theorem nd_Reading_reads : (N_Reading_reads).Nodup := by decide +kernel
theorem bs_Reading_reads (g : Gf fa fn ck K mg) : BodyS P w K mg base (omOf K ρ) 4 N_Reading_reads (defScope s_Reading_reads) (defBody s_Reading_reads) b_Reading_reads := fun qual f cdv A outer s H E hr => (mss_cons (ms_set nd_Reading_reads rfl (Or.inl rfl) (me_lst (ml_split (me_var 1) (g.eStr 27 rfl))))
  (mss_cons (ms_if (mt_w (mw_or (mt_cmp (op_notIn2 (un65 hr)) opNotIn_ok (me_ix (me_var 2) me_int) (g.cTup 28 3 rfl)) (mw_or (mt_cmp (op_neD (un64 hr)) opNe_ok (me_cmp (op_eqD (un64 hr)) opEq_ok (me_fld (c := 1) (g.cls 18) (g.noat 19) rfl fu_1_0 (me_var 0)) (me_tup ma_nil) (nomark _)) (me_cmp (op_eqD (un64 hr)) opEq_ok (me_ix (me_var 2) me_int) (g.eStr 29 rfl) (nomark _)) (nomark _)) (mw_or1 (mt_cmp (op_neD (un64 hr)) opNe_ok (me_fld (c := 1) (g.cls 18) (g.noat 22) rfl fu_1_3 (me_var 0)) (me_tup ma_nil) (nomark _)))))) (mss_one (ms_ret me_bl)) mss_nil)
  (mss_cons (ms_parF (c := 1) (g.cls 18) (g.noat 23) rfl fu_1_4 (fl_all 1) rfl nd_Reading_reads rfl (Or.inl rfl) (ma_cons (me_fld (c := 1) (g.cls 18) (g.noat 23) rfl fu_1_4 (me_var 0)) (ma_cons (g.cIndex 28 3 rfl (ma_cons (me_ix (me_var 2) me_int) ma_nil)) ma_nil)) (me_var 0))
  (mss_cons (ms_if (mt_cmp op_lt opLt_ok (me_fld (c := 1) (g.cls 18) (g.noat 23) rfl fu_1_4 (me_var 0)) (me_var 3) (nomark _)) (mss_one (ms_ret me_bl)) mss_nil)
  (mss_cons (ms_set nd_Reading_reads rfl (Or.inl rfl) (me_callTy call_tuple_of bTuple_ok rfl (g.free 30) (by decide +kernel) (ma_cons (me_slice (me_var 2) (mp_some me_int) mp_none) ma_nil)))
  (mss_cons (ms_if (mt_cmp (op_eqD (un64 hr)) opEq_ok (me_ix (me_var 2) me_int) (g.eStr 29 rfl) (nomark _)) (mss_one (ms_ret (me_meth 0 (fg_Reading_reads_works g) (hr.mono (by decide)) (takes_of rfl rfl rfl rfl) (me_var 0) (ma_cons (me_var 4) ma_nil)))) mss_nil)
  (mss_cons (ms_if (mt_cmp (op_eqD (un64 hr)) opEq_ok (me_ix (me_var 2) me_int) (g.eStr 40 rfl) (nomark _)) (mss_one (ms_ret (me_meth 0 (fg_Reading_reads_need g) (hr.mono (by decide)) (takes_of rfl rfl rfl rfl) (me_var 0) (ma_cons (me_var 4) ma_nil)))) mss_nil)
  (mss_one (ms_ret (me_if (mt_cmp (op_eqD (un64 hr)) opEq_ok (me_ix (me_var 2) me_int) (g.eStr 46 rfl) (nomark _)) (me_meth 0 (fg_Reading_reads_due g) (hr.mono (by decide)) (takes_of rfl rfl rfl rfl) (me_var 0) (ma_cons (me_var 4) ma_nil)) (me_meth 0 (fg_Reading_reads_hands g) (hr.mono (by decide)) (takes_of rfl rfl rfl rfl) (me_var 0) (ma_cons (me_var 4) ma_nil))))))))))))
theorem sc_Reading_reads : FnScope N_Reading_reads ["self", "line"] (defScope s_Reading_reads) := ⟨rfl, rfl, rfl, nd_Reading_reads, rfl, by decide +kernel, by decide +kernel⟩
theorem fk_Reading_reads (g : Gf fa fn ck K mg) : ∃ fd, FnOk P w K mg base (L2.CX P w) 5 ((fn.getD 15 dummyD).adr K) fd ["self", "line"] (spF K (omOf K ρ) 2 F_Reading_reads) ∧ BndL K fd ["self", "line"] (omOf K ρ) [] := by
  obtain ⟨fd, F⟩ := g.def_ 15 (d := fn.getD 15 dummyD)
  exact ⟨fd, fnOk_of F sc_Reading_reads (bs_Reading_reads g), bndN F fun _ _ _ _ _ _ us hl => match us, hl with | [_, _], _ => rfl⟩
def G_Reading_reads : FF := scr0 F_Reading_reads
theorem fkG_Reading_reads (g : Gf fa fn ck K mg) : ∃ fd, FnOk P w K mg base (L2.CX P w) 5 ((fn.getD 15 dummyD).adr K) fd ["self", "line"] (spF K (omOf K ρ) 2 G_Reading_reads) ∧ BndL K fd ["self", "line"] (omOf K ρ) [] := let ⟨fd, ok, bd⟩ := fk_Reading_reads g; ⟨fd, ok.imp fun _ _ _ _ h => spF_scr0 h, bd⟩
theorem fg_Reading_reads (g : Gf fa fn ck K mg) : MeG P w K mg base (omOf K ρ) 1 "reads" 5 2 [] G_Reading_reads := by
  obtain ⟨fd, ok, bd⟩ := fkG_Reading_reads (P := P) (w := w) (base := base) (ρ := ρ) g
  exact gMe rfl (g.cls 18) (g.meth 61) nm_Reading_reads ok bd
def b_lot_of : SF := (sRet (eBi bTuple (aCons (eFroz (eLc (List.map (·.2) ([("name", 2)] : List (Str × Nat))) (pName 2) (iSeqS (eVar 0)) (tVal (eOp opIn (eVar 2) (eVar 1))) (eVar 2))) aNil)))
def F_lot_of : FF := runB 3 b_lot_of
abbrev N_lot_of : List Str := ["whole", "some", "name"]
theorem nd_lot_of : (N_lot_of).Nodup := by decide +kernel
theorem bs_lot_of (g : Gf fa fn ck K mg) : BodyS P w K mg base (omOf K ρ) 0 N_lot_of (defScope s_lot_of) (defBody s_lot_of) b_lot_of := fun qual f cdv A outer s H E hr => (mss_one (ms_ret (me_callTy call_tuple_of bTuple_ok rfl (g.free 30) (by decide +kernel) (ma_cons (me_lst (ml_lc rfl nd_lot_of (mi_seqS (me_var 0)) (own := [("name", 2)]) (blkOk (N := N_lot_of) (sc := defScope s_lot_of) (by decide +kernel)) (pat_name 2) (by decide +kernel) (fun _ _ _ _ _ => (pg_name nd_lot_of rfl (Or.inl rfl))) (fun _ _ _ _ _ => (mts_one (mt_cmp (op_in2 (un65 hr)) opIn_ok (me_var 2) (me_var 1)))) (fun _ _ _ _ _ => (me_var 2)))) ma_nil))))
theorem sc_lot_of : FnScope N_lot_of ["whole", "some"] (defScope s_lot_of) := ⟨rfl, rfl, rfl, nd_lot_of, rfl, by decide +kernel, by decide +kernel⟩
theorem fk_lot_of (g : Gf fa fn ck K mg) : ∃ fd, FnOk P w K mg base (L2.CX P w) 1 ((fn.getD 16 dummyD).adr K) fd ["whole", "some"] (spF K (omOf K ρ) 2 F_lot_of) ∧ BndL K fd ["whole", "some"] (omOf K ρ) [] := by
  obtain ⟨fd, F⟩ := g.def_ 16 (d := fn.getD 16 dummyD)
  exact ⟨fd, fnOk_of F sc_lot_of (bs_lot_of g), bndN F fun _ _ _ _ _ _ us hl => match us, hl with | [_, _], _ => rfl⟩
def G_lot_of : FF := scr0 F_lot_of
theorem fkG_lot_of (g : Gf fa fn ck K mg) : ∃ fd, FnOk P w K mg base (L2.CX P w) 1 ((fn.getD 16 dummyD).adr K) fd ["whole", "some"] (spF K (omOf K ρ) 2 G_lot_of) ∧ BndL K fd ["whole", "some"] (omOf K ρ) [] := let ⟨fd, ok, bd⟩ := fk_lot_of g; ⟨fd, ok.imp fun _ _ _ _ h => spF_scr0 h, bd⟩
theorem fg_lot_of (g : Gf fa fn ck K mg) : FnG P w K mg base (omOf K ρ) "lot_of" 1 2 [] G_lot_of := by
  obtain ⟨fd, ok, bd⟩ := fkG_lot_of (P := P) (w := w) (base := base) (ρ := ρ) g
  exact gFn rfl (g.glo 67) (g.keep 68) ok bd
def b_Frame_init : SF := (sSeq (sFldT 0 0 (eVar 1) (eVar 0))
  (sSeq (sFldT 0 1 (eVar 2) (eVar 0))
  (sSeq (sFldT 0 2 (eVar 3) (eVar 0))
  (sSeq (sFldT 0 3 (eVar 4) (eVar 0))
  (sSeq (sFldT 0 4 (eDc (List.map (·.2) ([("work", 5)] : List (Str × Nat))) (pName 5) (iSeqS (eVar 1)) tTrue (eVar 5) (eCall 2 G_lot_of [] (aCons (eVar 1) (aCons (eCall 2 G_reached [] (aCons (eVar 2) (aCons (eVar 5) aNil))) aNil)))) (eVar 0))
  (sFldT 0 5 (eDc (List.map (·.2) ([("work", 5)] : List (Str × Nat))) (pName 5) (iSeqS (eVar 1)) tTrue (eVar 5) (eBi bTuple (aCons (eFroz (eLc (List.map (·.2) ([("one", 6)] : List (Str × Nat))) (pName 6) (iSeqS (eVar 1)) (tVal (eOp opIn (eVar 5) (eDget (eFld 0 4 (eVar 0)) (eVar 6)))) (eVar 6))) aNil))) (eVar 0)))))))
def F_Frame_init : FF := runB 7 b_Frame_init
abbrev N_Frame_init : List Str := ["self", "works", "needs", "dues", "hands", "work", "one"]
theorem nd_Frame_init : (N_Frame_init).Nodup := by decide +kernel
theorem bs_Frame_init (g : Gf fa fn ck K mg) : BodyS P w K mg base (omOf K ρ) 1 N_Frame_init (defScope s_Frame_init) (defBody s_Frame_init) b_Frame_init := fun qual f cdv A outer s H E hr => (mss_cons (ms_fld (c := 0) (g.cls 62) (g.noat 63) rfl fu_0_0 (fl_all 0) (me_var 0) (me_var 1))
  (mss_cons (ms_fld (c := 0) (g.cls 62) (g.noat 64) rfl fu_0_1 (fl_all 0) (me_var 0) (me_var 2))
  (mss_cons (ms_fld (c := 0) (g.cls 62) (g.noat 65) rfl fu_0_2 (fl_all 0) (me_var 0) (me_var 3))
  (mss_cons (ms_fld (c := 0) (g.cls 62) (g.noat 66) rfl fu_0_3 (fl_all 0) (me_var 0) (me_var 4))
  (mss_cons (ms_fld (c := 0) (g.cls 62) (g.noat 69) rfl fu_0_4 (fl_all 0) (me_var 0) (me_dc rfl nd_Frame_init (mi_seqS (me_var 1)) (own := [("work", 5)]) (blkOk (N := N_Frame_init) (sc := defScope s_Frame_init) (by decide +kernel)) (pat_name 5) (by decide +kernel) (fun _ _ _ _ _ => (pg_name nd_Frame_init rfl (Or.inl rfl))) (fun _ _ _ _ _ => mts_nil) (fun _ _ _ _ _ => (me_var 5)) (fun _ _ _ _ _ => (me_call 0 (fg_lot_of g) (hr.mono (by decide)) Mi.takes0 rfl (ma_cons (me_var 1) (ma_cons (me_call 0 (fg_reached g) (hr.mono (by decide)) Mi.takes0 rfl (ma_cons (me_var 2) (ma_cons (me_var 5) ma_nil))) ma_nil))))))
  (mss_one (ms_fld (c := 0) (g.cls 62) (g.noat 70) rfl fu_0_5 (fl_all 0) (me_var 0) (me_dc rfl nd_Frame_init (mi_seqS (me_var 1)) (own := [("work", 5)]) (blkOk (N := N_Frame_init) (sc := defScope s_Frame_init) (by decide +kernel)) (pat_name 5) (by decide +kernel) (fun _ _ _ _ _ => (pg_name nd_Frame_init rfl (Or.inr rfl))) (fun _ _ _ _ _ => mts_nil) (fun _ _ _ _ _ => (me_var 5)) (fun _ _ _ _ _ => (me_callTy call_tuple_of bTuple_ok rfl (g.free 30) (by decide +kernel) (ma_cons (me_lst (ml_lc rfl nd_Frame_init (mi_seqS (me_var 1)) (own := [("one", 6)]) (blkOk rfl) (pat_name 6) (by decide +kernel) (fun _ _ _ _ _ => (pg_name nd_Frame_init rfl (Or.inl rfl))) (fun _ _ _ _ _ => (mts_one (mt_cmp (op_in2 (un65 hr)) opIn_ok (me_var 5) (me_dget (un1 hr) (me_fld (c := 0) (g.cls 62) (g.noat 69) rfl fu_0_4 (me_var 0)) (me_var 6))))) (fun _ _ _ _ _ => (me_var 6)))) ma_nil)))))))))))
theorem sc_Frame_init : FnScope N_Frame_init ["self", "works", "needs", "dues", "hands"] (defScope s_Frame_init) := ⟨rfl, rfl, rfl, nd_Frame_init, rfl, by decide +kernel, by decide +kernel⟩
theorem fk_Frame_init (g : Gf fa fn ck K mg) : ∃ fd, FnOk P w K mg base (L2.CX P w) 2 ((fn.getD 17 dummyD).adr K) fd ["self", "works", "needs", "dues", "hands"] (spF K (omOf K ρ) 5 F_Frame_init) ∧ BndL K fd ["self", "works", "needs", "dues", "hands"] (omOf K ρ) [] := by
  obtain ⟨fd, F⟩ := g.def_ 17 (d := fn.getD 17 dummyD)
  exact ⟨fd, fnOk_of F sc_Frame_init (bs_Frame_init g), bndN F fun _ _ _ _ _ _ us hl => match us, hl with | [_, _, _, _, _], _ => rfl⟩
theorem fg_Frame_init (g : Gf fa fn ck K mg) : MkG P w K mg base (omOf K ρ) "Frame" 0 2 5 F_Frame_init := by
  obtain ⟨fd, ok, bd⟩ := fk_Frame_init (P := P) (w := w) (base := base) (ρ := ρ) g
  exact gMk rfl (g.glo 71) (g.mkr 72) ok bd
def b_read : SF := (sSeq (sIf (tNot2 (tTru (eIsT "str" (eVar 0)))) (sRaise 3 (eC (.int 0))) sNil)
  (sSeq (sPar 1 2 (aCons (eFroz (lSplit (eVar 0) (eC (.str [10])))) (aCons (eMake false 1 1 F_Reading_init aNil) aNil)))
  (sSeq (sFor (pSeq 2 (psCons (pName 3) (psCons (pName 4) psNil))) (iFun enS (aCons (eVar 1) aNil)) (sIf (tNot2 (tTru (eMeth 1 2 G_Reading_reads [] (eVar 2) (aCons (eVar 4) aNil)))) (sRaise 3 (eOp opPlus (eVar 3) (eC (.int 1)))) sNil))
  (sSeq (sIf (tVal (eOp opEq (eFld 1 3 (eVar 2)) (eTup aNil))) (sRaise 3 (eOp opPlus (eBi bLen (aCons (eVar 1) aNil)) (eC (.int 1)))) sNil)
  (sRet (eMake true 0 5 F_Frame_init (aCons (eFld 1 0 (eVar 2)) (aCons (eBi bTuple (aCons (eFld 1 1 (eVar 2)) aNil)) (aCons (eFzD (eFld 1 2 (eVar 2))) (aCons (eFld 1 3 (eVar 2)) aNil))))))))))
def F_read : FF := runB 5 b_read
abbrev N_read : List Str := ["text", "lines", "found", "number", "line"]
theorem nd_read : (N_read).Nodup := by decide +kernel
theorem bs_read (g : Gf fa fn ck K mg) : BodyS P w K mg base (omOf K ρ) 6 N_read (defScope s_read) (defBody s_read) b_read := fun qual f cdv A outer s H E hr => (mss_cons (ms_if (mt_not (mt_tru (me_isT (n := "str") (by decide) rfl (g.free 13) rfl (g.free 14) (by decide +kernel) (me_var 0)))) (mss_one (ms_raise (g.xcG 1 2 15 16 (c := 3) rfl) rfl (takes_of rfl rfl rfl rfl) (hr.mono (by decide)) rfl me_int)) mss_nil)
  (mss_cons (ms_par rfl nd_read rfl rfl (by decide) rfl rfl (ma_cons (me_lst (ml_split (me_var 0) (g.eStr 17 rfl))) (ma_cons (me_make0 false (fg_Reading_init g) (hr.mono (by decide)) (takes_of rfl rfl rfl rfl) rfl) ma_nil)))
  (mss_cons (ms_for (passes_of rfl) rfl (mi_enumS rfl (g.free 26) (ma_cons (me_var 1) ma_nil)) (pat_seq (n := 2) (pats_cons (pat_name 3) (pats_cons (pat_name 4) pats_nil))) (pg_seq (n := 2) rfl (pgs_cons (pg_name nd_read rfl (Or.inl rfl)) (pgs_cons (pg_name nd_read rfl (Or.inl rfl)) pgs_nil))) (mss_one (ms_if (mt_not (mt_tru (me_meth 0 (fg_Reading_reads g) (hr.mono (by decide)) (takes_of rfl rfl rfl rfl) (me_var 2) (ma_cons (me_var 4) ma_nil)))) (mss_one (ms_raise (g.xcG 1 2 15 16 (c := 3) rfl) rfl (takes_of rfl rfl rfl rfl) (hr.mono (by decide)) rfl (me_bin op_plus opPlus_ok (me_var 3) me_int))) mss_nil)))
  (mss_cons (ms_if (mt_cmp (op_eqD (un64 hr)) opEq_ok (me_fld (c := 1) (g.cls 18) (g.noat 22) rfl fu_1_3 (me_var 2)) (me_tup ma_nil) (nomark _)) (mss_one (ms_raise (g.xcG 1 2 15 16 (c := 3) rfl) rfl (takes_of rfl rfl rfl rfl) (hr.mono (by decide)) rfl (me_bin op_plus opPlus_ok (me_callB call_len2 bLen_ok rfl (g.free 0) (by decide +kernel) (ma_cons (me_var 1) ma_nil)) me_int))) mss_nil)
  (mss_one (ms_ret (me_make true (fg_Frame_init g) (hr.mono (by decide)) (takes_of rfl rfl rfl rfl) rfl (ma_cons (me_fld (c := 1) (g.cls 18) (g.noat 19) rfl fu_1_0 (me_var 2)) (ma_cons (me_callTy call_tuple_of bTuple_ok rfl (g.free 30) (by decide +kernel) (ma_cons (me_fld (c := 1) (g.cls 18) (g.noat 20) rfl fu_1_1 (me_var 2)) ma_nil)) (ma_cons (me_fzD (me_fld (c := 1) (g.cls 18) (g.noat 21) rfl fu_1_2 (me_var 2))) (ma_cons (me_fld (c := 1) (g.cls 18) (g.noat 22) rfl fu_1_3 (me_var 2)) ma_nil)))))))))))
theorem sc_read : FnScope N_read ["text"] (defScope s_read) := ⟨rfl, rfl, rfl, nd_read, rfl, by decide +kernel, by decide +kernel⟩
theorem fk_read (g : Gf fa fn ck K mg) : ∃ fd, FnOk P w K mg base (L2.CX P w) 7 ((fn.getD 18 dummyD).adr K) fd ["text"] (spF K (omOf K ρ) 1 F_read) ∧ BndL K fd ["text"] (omOf K ρ) [] := by
  obtain ⟨fd, F⟩ := g.def_ 18 (d := fn.getD 18 dummyD)
  exact ⟨fd, fnOk_of F sc_read (bs_read g), bndN F fun _ _ _ _ _ _ us hl => match us, hl with | [_], _ => rfl⟩
def G_read : FF := scr0 F_read
theorem fkG_read (g : Gf fa fn ck K mg) : ∃ fd, FnOk P w K mg base (L2.CX P w) 7 ((fn.getD 18 dummyD).adr K) fd ["text"] (spF K (omOf K ρ) 1 G_read) ∧ BndL K fd ["text"] (omOf K ρ) [] := let ⟨fd, ok, bd⟩ := fk_read g; ⟨fd, ok.imp fun _ _ _ _ h => spF_scr0 h, bd⟩
theorem fg_read (g : Gf fa fn ck K mg) : FnG P w K mg base (omOf K ρ) "read" 7 1 [] G_read := by
  obtain ⟨fd, ok, bd⟩ := fkG_read (P := P) (w := w) (base := base) (ρ := ρ) g
  exact gFn rfl (g.glo 73) (g.keep 74) ok bd
def b_Book_init : SF := (sSeq (sFldT 2 0 (eCall 1 G_read [] (aCons (eVar 1) aNil)) (eVar 0))
  (sFldT 2 1 (eVar 1) (eVar 0)))
def F_Book_init : FF := runB 2 b_Book_init
abbrev N_Book_init : List Str := ["self", "text"]
theorem nd_Book_init : (N_Book_init).Nodup := by decide +kernel
theorem bs_Book_init (g : Gf fa fn ck K mg) : BodyS P w K mg base (omOf K ρ) 7 N_Book_init (defScope s_Book_init) (defBody s_Book_init) b_Book_init := fun qual f cdv A outer s H E hr => (mss_cons (ms_fld (c := 2) (g.cls 75) (g.noat 76) rfl fu_2_0 (fl_all 2) (me_var 0) (me_call 0 (fg_read g) (hr.mono (by decide)) (takes_of rfl rfl rfl rfl) rfl (ma_cons (me_var 1) ma_nil)))
  (mss_one (ms_fld (c := 2) (g.cls 75) (g.noat 77) rfl fu_2_1 (fl_all 2) (me_var 0) (me_var 1))))
theorem sc_Book_init : FnScope N_Book_init ["self", "text"] (defScope s_Book_init) := ⟨rfl, rfl, rfl, nd_Book_init, rfl, by decide +kernel, by decide +kernel⟩
theorem fk_Book_init (g : Gf fa fn ck K mg) : ∃ fd, FnOk P w K mg base (L2.CX P w) 8 ((fn.getD 19 dummyD).adr K) fd ["self", "text"] (spF K (omOf K ρ) 2 F_Book_init) ∧ BndL K fd ["self", "text"] (omOf K ρ) [] := by
  obtain ⟨fd, F⟩ := g.def_ 19 (d := fn.getD 19 dummyD)
  exact ⟨fd, fnOk_of F sc_Book_init (bs_Book_init g), bndN F fun _ _ _ _ _ _ us hl => match us, hl with | [_, _], _ => rfl⟩
theorem fg_Book_init (g : Gf fa fn ck K mg) : MkG P w K mg base (omOf K ρ) "Book" 2 8 2 F_Book_init := by
  obtain ⟨fd, ok, bd⟩ := fk_Book_init (P := P) (w := w) (base := base) (ρ := ρ) g
  exact gMk rfl (g.glo 78) (g.mkr 79) ok bd
def b_Book_text : SF := (sRet (eFld 2 1 (eVar 0)))
def F_Book_text : FF := runB 1 b_Book_text
abbrev N_Book_text : List Str := ["self"]
theorem nd_Book_text : (N_Book_text).Nodup := by decide +kernel
theorem bs_Book_text (g : Gf fa fn ck K mg) : BodyS P w K mg base (omOf K ρ) 0 N_Book_text (defScope s_Book_text) (defBody s_Book_text) b_Book_text := fun qual f cdv A outer s H E hr => (mss_one (ms_ret (me_fld (c := 2) (g.cls 75) (g.noat 77) rfl fu_2_1 (me_var 0))))
theorem sc_Book_text : FnScope N_Book_text ["self"] (defScope s_Book_text) := ⟨rfl, rfl, rfl, nd_Book_text, rfl, by decide +kernel, by decide +kernel⟩
theorem fk_Book_text (g : Gf fa fn ck K mg) : ∃ fd, FnOk P w K mg base (L2.CX P w) 1 ((fn.getD 20 dummyD).adr K) fd ["self"] (spF K (omOf K ρ) 1 F_Book_text) ∧ BndL K fd ["self"] (omOf K ρ) [] := by
  obtain ⟨fd, F⟩ := g.def_ 20 (d := fn.getD 20 dummyD)
  exact ⟨fd, fnOk_of F sc_Book_text (bs_Book_text g), bndN F fun _ _ _ _ _ _ us hl => match us, hl with | [_], _ => rfl⟩
def G_Book_text : FF := scr0 F_Book_text
theorem fkG_Book_text (g : Gf fa fn ck K mg) : ∃ fd, FnOk P w K mg base (L2.CX P w) 1 ((fn.getD 20 dummyD).adr K) fd ["self"] (spF K (omOf K ρ) 1 G_Book_text) ∧ BndL K fd ["self"] (omOf K ρ) [] := let ⟨fd, ok, bd⟩ := fk_Book_text g; ⟨fd, ok.imp fun _ _ _ _ h => spF_scr0 h, bd⟩
theorem fg_Book_text (g : Gf fa fn ck K mg) : PrG P w K mg base (omOf K ρ) 2 "text" 1 G_Book_text := by
  obtain ⟨fd, ok, bd⟩ := fkG_Book_text (P := P) (w := w) (base := base) (ρ := ρ) g
  exact gPr rfl (g.cls 75) (g.prop 4) ok bd
def b_ulaw_is_book : SF := (sSeq (sPat (pSeq 2 (psCons (pName 1) (psCons (pName 2) psNil))) (eTold [3] (eMake true 2 2 F_Book_init (aCons (eJoin (eC (.str [10])) (eVar 0)) aNil))))
  (sRet (eAnd (eOp opIs (eVar 1) (eC .non)) (eOp opEq (eProp 2 G_Book_text (eVar 2)) (eJoin (eC (.str [10])) (eVar 0))))))
def F_ulaw_is_book : FF := runB 3 b_ulaw_is_book
abbrev N_ulaw_is_book : List Str := ["_law_lines", "_law_caught", "_law_book"]
theorem nd_ulaw_is_book : (N_ulaw_is_book).Nodup := by decide +kernel
theorem bs_ulaw_is_book (g : Gf fa fn ck K mg) : BodyL P w K mg base (omOf K ρ) 11 N_ulaw_is_book (defScope s_ulaw_is_book) (defBody s_ulaw_is_book) "_law_is_book" (cdAt K (He.ga K "_law_is_book")) b_ulaw_is_book := fun f cdv A outer s H E hcd hr => (mss_cons (ms_pat (pat_seq (n := 2) (pats_cons (pat_name 1) (pats_cons (pat_name 2) pats_nil))) (let ⟨fd, F⟩ := g.def_ 3 (d := fn.getD 3 dummyD); me_told (k := 9) (cs := [3]) (CS := erD K) (Ng := N_ulaw_told) (a := "_law_look") rfl (g.glo 80) F (fun _ _ _ _ _ _ us hl => match us, hl with | [_], _ => rfl) sc_ulaw_told rfl (.inl rfl) (fun cdv => LamX.told_at rfl nd_ulaw_told rfl rfl rfl rfl (g.glo 81) (by decide) (fun s H => ps_asg (pe_tup (pa_cons pe_non (pa_cons pe_non pa_nil))) (pg_tup rfl (pgs_cons (pg_name nd_ulaw_told rfl (.inl rfl)) (pgs_cons (pg_name nd_ulaw_told rfl (.inl rfl)) pgs_nil))))) (allC (g.err 1).exm allN) (fun q => g.tab 0 12 0 rfl rfl rfl _ q.kin) hcd (tabl_mem (l := tbs) 0 rfl) (g.tabU 0 0 rfl rfl) (hr.mono (by decide)) (LamX.lamS_by rfl) rfl (fun _ _ _ _ _ => rfl) (fun A outer s H E fn' c' hr => (me_make true (fg_Book_init g) (hr.mono (by decide)) (takes_of rfl rfl rfl rfl) rfl (ma_cons (me_join me_str (me_var 0)) ma_nil)))) (pg_seq (n := 2) rfl (pgs_cons (pg_name nd_ulaw_is_book rfl (Or.inl rfl)) (pgs_cons (pg_name nd_ulaw_is_book rfl (Or.inl rfl)) pgs_nil))))
  (mss_one (ms_ret (me_and (me_cmp op_is2 opIs_ok (me_var 1) me_non (nomark _)) (me_one (me_cmp (op_eqD (un64 hr)) opEq_ok (me_prop (fg_Book_text g) (hr.mono (by decide)) (me_var 2)) (me_join me_str (me_var 0)) (nomark _)))))))
theorem sc_ulaw_is_book : FnScope N_ulaw_is_book ["_law_lines"] (defScope s_ulaw_is_book) := ⟨rfl, rfl, rfl, nd_ulaw_is_book, rfl, by decide +kernel, by decide +kernel⟩
theorem fk_ulaw_is_book (g : Gf fa fn ck K mg) : ∃ fd, FnOk P w K mg base (L2.CX P w) 12 ((fn.getD 21 dummyD).adr K) fd ["_law_lines"] (spF K (omOf K ρ) 1 F_ulaw_is_book) ∧ BndL K fd ["_law_lines"] (omOf K ρ) [] := by
  obtain ⟨fd, F⟩ := g.def_ 21 (d := fn.getD 21 dummyD)
  exact ⟨fd, fnOk_ofL F sc_ulaw_is_book (bs_ulaw_is_book g), bndN F fun _ _ _ _ _ _ us hl => match us, hl with | [_], _ => rfl⟩
def G_ulaw_is_book : FF := scr0 F_ulaw_is_book
theorem fkG_ulaw_is_book (g : Gf fa fn ck K mg) : ∃ fd, FnOk P w K mg base (L2.CX P w) 12 ((fn.getD 21 dummyD).adr K) fd ["_law_lines"] (spF K (omOf K ρ) 1 G_ulaw_is_book) ∧ BndL K fd ["_law_lines"] (omOf K ρ) [] := let ⟨fd, ok, bd⟩ := fk_ulaw_is_book g; ⟨fd, ok.imp fun _ _ _ _ h => spF_scr0 h, bd⟩
theorem fg_ulaw_is_book (g : Gf fa fn ck K mg) : FnG P w K mg base (omOf K ρ) "_law_is_book" 12 1 [] G_ulaw_is_book := by
  obtain ⟨fd, ok, bd⟩ := fkG_ulaw_is_book (P := P) (w := w) (base := base) (ρ := ρ) g
  exact gFn rfl (g.glo 82) (g.keep 83) ok bd
def b_ulaw_is_wrong : SF := (sSeq (sSet 2 (eOp opIx (eTold [3] (eMake true 2 2 F_Book_init (aCons (eJoin (eC (.str [10])) (eVar 0)) aNil))) (eC (.int 0))))
  (sRet (eAnd (eIsX [3] 3 (eVar 2)) (eOp opEq (eBi bStrI (aCons (eXv [3] (eVar 2)) aNil)) (eBi bStrI (aCons (eVar 1) aNil))))))
def F_ulaw_is_wrong : FF := runB 3 b_ulaw_is_wrong
abbrev N_ulaw_is_wrong : List Str := ["_law_lines", "_law_number", "_law_caught"]
theorem nd_ulaw_is_wrong : (N_ulaw_is_wrong).Nodup := by decide +kernel
theorem bs_ulaw_is_wrong (g : Gf fa fn ck K mg) : BodyL P w K mg base (omOf K ρ) 11 N_ulaw_is_wrong (defScope s_ulaw_is_wrong) (defBody s_ulaw_is_wrong) "_law_is_wrong" (cdAt K (He.ga K "_law_is_wrong")) b_ulaw_is_wrong := fun f cdv A outer s H E hcd hr => (mss_cons (ms_set nd_ulaw_is_wrong rfl (Or.inl rfl) (me_ix (let ⟨fd, F⟩ := g.def_ 3 (d := fn.getD 3 dummyD); me_told (k := 9) (cs := [3]) (CS := erD K) (Ng := N_ulaw_told) (a := "_law_look") rfl (g.glo 80) F (fun _ _ _ _ _ _ us hl => match us, hl with | [_], _ => rfl) sc_ulaw_told rfl (.inl rfl) (fun cdv => LamX.told_at rfl nd_ulaw_told rfl rfl rfl rfl (g.glo 81) (by decide) (fun s H => ps_asg (pe_tup (pa_cons pe_non (pa_cons pe_non pa_nil))) (pg_tup rfl (pgs_cons (pg_name nd_ulaw_told rfl (.inl rfl)) (pgs_cons (pg_name nd_ulaw_told rfl (.inl rfl)) pgs_nil))))) (allC (g.err 1).exm allN) (fun q => g.tab 0 12 1 rfl rfl rfl _ q.kin) hcd (tabl_mem (l := tbs) 1 rfl) (g.tabU 0 1 rfl rfl) (hr.mono (by decide)) (LamX.lamS_by rfl) rfl (fun _ _ _ _ _ => rfl) (fun A outer s H E fn' c' hr => (me_make true (fg_Book_init g) (hr.mono (by decide)) (takes_of rfl rfl rfl rfl) rfl (ma_cons (me_join me_str (me_var 0)) ma_nil)))) me_int))
  (mss_one (ms_ret (me_and (me_isX rfl (g.free 13) rfl (g.glo 15) (allC (g.err 1).i allN) (allC (g.kit 5) allN) (g.err 1).kit (me_var 2)) (me_one (me_cmp (op_eqD (un64 hr)) opEq_ok (me_callB SkE.call_repr_int bStrI_ok rfl (g.free 84) (by decide +kernel) (ma_cons (me_xv (allC (g.err 1).i allN) (me_var 2)) ma_nil)) (me_callB SkE.call_repr_int bStrI_ok rfl (g.free 84) (by decide +kernel) (ma_cons (me_var 1) ma_nil)) (nomark _)))))))
theorem sc_ulaw_is_wrong : FnScope N_ulaw_is_wrong ["_law_lines", "_law_number"] (defScope s_ulaw_is_wrong) := ⟨rfl, rfl, rfl, nd_ulaw_is_wrong, rfl, by decide +kernel, by decide +kernel⟩
theorem fk_ulaw_is_wrong (g : Gf fa fn ck K mg) : ∃ fd, FnOk P w K mg base (L2.CX P w) 12 ((fn.getD 22 dummyD).adr K) fd ["_law_lines", "_law_number"] (spF K (omOf K ρ) 2 F_ulaw_is_wrong) ∧ BndL K fd ["_law_lines", "_law_number"] (omOf K ρ) [] := by
  obtain ⟨fd, F⟩ := g.def_ 22 (d := fn.getD 22 dummyD)
  exact ⟨fd, fnOk_ofL F sc_ulaw_is_wrong (bs_ulaw_is_wrong g), bndN F fun _ _ _ _ _ _ us hl => match us, hl with | [_, _], _ => rfl⟩
def G_ulaw_is_wrong : FF := scr0 F_ulaw_is_wrong
theorem fkG_ulaw_is_wrong (g : Gf fa fn ck K mg) : ∃ fd, FnOk P w K mg base (L2.CX P w) 12 ((fn.getD 22 dummyD).adr K) fd ["_law_lines", "_law_number"] (spF K (omOf K ρ) 2 G_ulaw_is_wrong) ∧ BndL K fd ["_law_lines", "_law_number"] (omOf K ρ) [] := let ⟨fd, ok, bd⟩ := fk_ulaw_is_wrong g; ⟨fd, ok.imp fun _ _ _ _ h => spF_scr0 h, bd⟩
theorem fg_ulaw_is_wrong (g : Gf fa fn ck K mg) : FnG P w K mg base (omOf K ρ) "_law_is_wrong" 12 2 [] G_ulaw_is_wrong := by
  obtain ⟨fd, ok, bd⟩ := fkG_ulaw_is_wrong (P := P) (w := w) (base := base) (ρ := ρ) g
  exact gFn rfl (g.glo 85) (g.keep 86) ok bd
def b_ulaw_are_names_right : SF := (sSeq (sSet 1 (eC (.str [97, 98, 99, 100, 101, 102, 103, 104])))
  (sSeq (sSet 2 (eFroz (eLst (aCons (eSlice (eVar 0) none (some (eC (.int 1))) slT) (aCons (eVar 0) (aCons (eOp opPlus (eFroz (eLst (aCons (eVar 1) aNil))) (eSlice (eVar 0) none (some (eC (.int 7))) slT)) aNil))))))
  (sSeq (sSet 3 (eFroz (eLst (aCons (eFroz (eLst aNil)) (aCons (eOp opPlus (eVar 0) (eFroz (eLst (aCons (eC (.str [109, 111, 114, 101])) aNil)))) (aCons (eFroz (eLst (aCons (eOp opIx (eVar 0) (eC (.int 0))) (aCons (eOp opIx (eVar 0) (eC (.int 0))) aNil)))) (aCons (eFroz (eLst (aCons (eOp opPlus (eVar 1) (eC (.str [122]))) aNil))) (aCons (eFroz (eLst (aCons (eC (.str [65])) aNil))) (aCons (eFroz (eLst (aCons (eOp opIx (eVar 0) (eC (.int 0))) (aCons (eC (.str [])) aNil)))) (aCons (eFroz (eLst (aCons (eC (.str [97, 49])) aNil))) aNil))))))))))
  (sSeq (sIf (tNot2 (tTru (eBi bAll (aCons (eFroz (eLc (List.map (·.2) ([("_law_row", 4)] : List (Str × Nat))) (pName 4) (iSeqS (eVar 2)) tTrue (eCall 1 G_ulaw_is_book [] (aCons (eFroz (eLst (aCons (eJoin (eC (.str [32])) (eOp opPlus (eFroz (eLst (aCons (eC (.str [119, 111, 114, 107, 115])) aNil))) (eVar 4))) (aCons (eC (.str [104, 97, 110, 100, 115, 32, 49])) aNil)))) aNil)))) aNil)))) (sRet (eC (.bl false))) sNil)
  (sSeq (sIf (tNot2 (tTru (eBi bAll (aCons (eFroz (eLc (List.map (·.2) ([("_law_row", 4)] : List (Str × Nat))) (pName 4) (iSeqS (eVar 3)) tTrue (eCall 2 G_ulaw_is_wrong [] (aCons (eFroz (eLst (aCons (eJoin (eC (.str [32])) (eOp opPlus (eFroz (eLst (aCons (eC (.str [119, 111, 114, 107, 115])) aNil))) (eVar 4))) (aCons (eC (.str [104, 97, 110, 100, 115, 32, 49])) aNil)))) (aCons (eC (.int 1)) aNil))))) aNil)))) (sRet (eC (.bl false))) sNil)
  (sRet (eAnd (eCall 2 G_ulaw_is_wrong [] (aCons (eFroz (eLst (aCons (eOp opPlus (eC (.str [119, 111, 114, 107, 115, 32])) (eOp opIx (eVar 0) (eC (.int 0)))) aNil))) (aCons (eC (.int 2)) aNil))) (eCall 2 G_ulaw_is_wrong [] (aCons (eFroz (eLst (aCons (eC (.str [104, 97, 110, 100, 115, 32, 49])) aNil))) (aCons (eC (.int 1)) aNil))))))))))
def F_ulaw_are_names_right : FF := runB 5 b_ulaw_are_names_right
abbrev N_ulaw_are_names_right : List Str := ["_law_names", "_law_long", "_law_good", "_law_bad", "_law_row"]
theorem nd_ulaw_are_names_right : (N_ulaw_are_names_right).Nodup := by decide +kernel
theorem bs_ulaw_are_names_right (g : Gf fa fn ck K mg) : BodyS P w K mg base (omOf K ρ) 12 N_ulaw_are_names_right (defScope s_ulaw_are_names_right) (defBody s_ulaw_are_names_right) b_ulaw_are_names_right := fun qual f cdv A outer s H E hr => (mss_cons (ms_set nd_ulaw_are_names_right rfl (Or.inl rfl) me_str)
  (mss_cons (ms_set nd_ulaw_are_names_right rfl (Or.inl rfl) (me_lst (ml_lst (ma_cons (me_slice (me_var 0) mp_none (mp_some me_int)) (ma_cons (me_var 0) (ma_cons (me_bin op_plus opPlus_ok (me_lst (ml_lst (ma_cons (me_var 1) ma_nil))) (me_slice (me_var 0) mp_none (mp_some me_int))) ma_nil))))))
  (mss_cons (ms_set nd_ulaw_are_names_right rfl (Or.inl rfl) (me_lst (ml_lst (ma_cons (me_lst (ml_lst ma_nil)) (ma_cons (me_bin op_plus opPlus_ok (me_var 0) (me_lst (ml_lst (ma_cons me_str ma_nil)))) (ma_cons (me_lst (ml_lst (ma_cons (me_ix (me_var 0) me_int) (ma_cons (me_ix (me_var 0) me_int) ma_nil)))) (ma_cons (me_lst (ml_lst (ma_cons (me_bin op_plus opPlus_ok (me_var 1) me_str) ma_nil))) (ma_cons (me_lst (ml_lst (ma_cons me_str ma_nil))) (ma_cons (me_lst (ml_lst (ma_cons (me_ix (me_var 0) me_int) (ma_cons me_str ma_nil)))) (ma_cons (me_lst (ml_lst (ma_cons me_str ma_nil))) ma_nil))))))))))
  (mss_cons (ms_if (mt_not (mt_tru (me_callB (cr_all rfl) bAll_ok rfl (g.free 32) (by decide +kernel) (ma_cons (me_lst (ml_lc rfl nd_ulaw_are_names_right (mi_seqS (me_var 2)) (own := [("_law_row", 4)]) (blkOk (N := N_ulaw_are_names_right) (sc := defScope s_ulaw_are_names_right) (by decide +kernel)) (pat_name 4) (by decide +kernel) (fun _ _ _ _ _ => (pg_name nd_ulaw_are_names_right rfl (Or.inl rfl))) (fun _ _ _ _ _ => mts_nil) (fun _ _ _ _ _ => (me_call 0 (fg_ulaw_is_book g) (hr.mono (by decide)) Mi.takes0 rfl (ma_cons (me_lst (ml_lst (ma_cons (me_join me_str (me_bin op_plus opPlus_ok (me_lst (ml_lst (ma_cons me_str ma_nil))) (me_var 4))) (ma_cons me_str ma_nil)))) ma_nil))))) ma_nil)))) (mss_one (ms_ret me_bl)) mss_nil)
  (mss_cons (ms_if (mt_not (mt_tru (me_callB (cr_all rfl) bAll_ok rfl (g.free 32) (by decide +kernel) (ma_cons (me_lst (ml_lc rfl nd_ulaw_are_names_right (mi_seqS (me_var 3)) (own := [("_law_row", 4)]) (blkOk (N := N_ulaw_are_names_right) (sc := defScope s_ulaw_are_names_right) (by decide +kernel)) (pat_name 4) (by decide +kernel) (fun _ _ _ _ _ => (pg_name nd_ulaw_are_names_right rfl (Or.inl rfl))) (fun _ _ _ _ _ => mts_nil) (fun _ _ _ _ _ => (me_call 0 (fg_ulaw_is_wrong g) (hr.mono (by decide)) Mi.takes0 rfl (ma_cons (me_lst (ml_lst (ma_cons (me_join me_str (me_bin op_plus opPlus_ok (me_lst (ml_lst (ma_cons me_str ma_nil))) (me_var 4))) (ma_cons me_str ma_nil)))) (ma_cons me_int ma_nil)))))) ma_nil)))) (mss_one (ms_ret me_bl)) mss_nil)
  (mss_one (ms_ret (me_and (me_call 0 (fg_ulaw_is_wrong g) (hr.mono (by decide)) (takes_of rfl rfl rfl rfl) rfl (ma_cons (me_lst (ml_lst (ma_cons (me_bin op_plus opPlus_ok me_str (me_ix (me_var 0) me_int)) ma_nil))) (ma_cons me_int ma_nil))) (me_one (me_call 0 (fg_ulaw_is_wrong g) (hr.mono (by decide)) (takes_of rfl rfl rfl rfl) rfl (ma_cons (me_lst (ml_lst (ma_cons me_str ma_nil))) (ma_cons me_int ma_nil))))))))))))
theorem sc_ulaw_are_names_right : FnScope N_ulaw_are_names_right ["_law_names"] (defScope s_ulaw_are_names_right) := ⟨rfl, rfl, rfl, nd_ulaw_are_names_right, rfl, by decide +kernel, by decide +kernel⟩
theorem fk_ulaw_are_names_right (g : Gf fa fn ck K mg) : ∃ fd, FnOk P w K mg base (L2.CX P w) 13 ((fn.getD 23 dummyD).adr K) fd ["_law_names"] (spF K (omOf K ρ) 1 F_ulaw_are_names_right) ∧ BndL K fd ["_law_names"] (omOf K ρ) [] := by
  obtain ⟨fd, F⟩ := g.def_ 23 (d := fn.getD 23 dummyD)
  exact ⟨fd, fnOk_of F sc_ulaw_are_names_right (bs_ulaw_are_names_right g), bndN F fun _ _ _ _ _ _ us hl => match us, hl with | [_], _ => rfl⟩
def G_ulaw_are_names_right : FF := scr0 F_ulaw_are_names_right
theorem fkG_ulaw_are_names_right (g : Gf fa fn ck K mg) : ∃ fd, FnOk P w K mg base (L2.CX P w) 13 ((fn.getD 23 dummyD).adr K) fd ["_law_names"] (spF K (omOf K ρ) 1 G_ulaw_are_names_right) ∧ BndL K fd ["_law_names"] (omOf K ρ) [] := let ⟨fd, ok, bd⟩ := fk_ulaw_are_names_right g; ⟨fd, ok.imp fun _ _ _ _ h => spF_scr0 h, bd⟩
theorem fg_ulaw_are_names_right (g : Gf fa fn ck K mg) : FnG P w K mg base (omOf K ρ) "_law_are_names_right" 13 1 [] G_ulaw_are_names_right := by
  obtain ⟨fd, ok, bd⟩ := fkG_ulaw_are_names_right (P := P) (w := w) (base := base) (ρ := ρ) g
  exact gFn rfl (g.glo 87) (g.keep 88) ok bd
def b_ulaw_are_needs_right : SF := (sSeq (sPat (pSeq 2 (psCons (pName 1) (psCons (pName 2) psNil))) (eTup (aCons (eFroz (eLst (aCons (eOp opPlus (eC (.str [119, 111, 114, 107, 115, 32])) (eJoin (eC (.str [32])) (eVar 0))) aNil))) (aCons (eNewL (eLst aNil)) aNil))))
  (sSeq (sFor (pSeq 2 (psCons (pName 3) (psCons (pName 4) psNil))) (iFun enS (aCons (eVar 0) aNil)) (sExpr (eAlt (eMt isLoc mExtend (eVar 2) (aCons (eFroz (eLc (List.map (·.2) ([("_law_other", 8)] : List (Str × Nat))) (pName 8) (iSeqS (eAlt (eSlice (eVar 0) (some (eOp opPlus (eVar 3) (eC (.int 1)))) none slP) (eSlice (eVar 0) (some (eOp opPlus (eVar 3) (eC (.int 1)))) none slT))) tTrue (eOp opPlus (eOp opPlus (eOp opPlus (eC (.str [97, 104, 101, 97, 100, 32])) (eVar 4)) (eC (.str [32]))) (eVar 8)))) aNil)) (eMt isLoc mExtT (eVar 2) (aCons (eFroz (eLc (List.map (·.2) ([("_law_other", 8)] : List (Str × Nat))) (pName 8) (iSeqS (eAlt (eSlice (eVar 0) (some (eOp opPlus (eVar 3) (eC (.int 1)))) none slP) (eSlice (eVar 0) (some (eOp opPlus (eVar 3) (eC (.int 1)))) none slT))) tTrue (eOp opPlus (eOp opPlus (eOp opPlus (eC (.str [97, 104, 101, 97, 100, 32])) (eVar 4)) (eC (.str [32]))) (eVar 8)))) aNil)))))
  (sSeq (sIf (tOr2 (tNot2 (tTru (eCall 1 G_ulaw_is_book [] (aCons (eOp opPlus (eOp opPlus (eVar 1) (eAlt (eSlice (eVar 2) none (some (eC (.int 20))) slP) (eSlice (eVar 2) none (some (eC (.int 20))) slT))) (eFroz (eLst (aCons (eC (.str [104, 97, 110, 100, 115, 32, 49])) aNil)))) aNil)))) (tNot2 (tTru (eCall 2 G_ulaw_is_wrong [] (aCons (eOp opPlus (eOp opPlus (eVar 1) (eAlt (eSlice (eVar 2) none (some (eC (.int 21))) slP) (eSlice (eVar 2) none (some (eC (.int 21))) slT))) (eFroz (eLst (aCons (eC (.str [104, 97, 110, 100, 115, 32, 49])) aNil)))) (aCons (eC (.int 22)) aNil)))))) (sRet (eC (.bl false))) sNil)
  (sSeq (sSet 5 (eFroz (eLc (List.map (·.2) ([("_law_one", 4), ("_law_other", 8)] : List (Str × Nat))) (pSeq 2 (psCons (pName 4) (psCons (pName 8) psNil))) (iFun zp2 (aCons (eVar 0) (aCons (eAlt (eSlice (eVar 0) (some (eC (.int 1))) none slP) (eSlice (eVar 0) (some (eC (.int 1))) none slT)) aNil))) tTrue (eOp opPlus (eOp opPlus (eOp opPlus (eC (.str [97, 104, 101, 97, 100, 32])) (eVar 4)) (eC (.str [32]))) (eVar 8)))))
  (sSeq (sIf (tNot2 (tTru (eCall 1 G_ulaw_is_book [] (aCons (eOp opPlus (eOp opPlus (eVar 1) (eVar 5)) (eFroz (eLst (aCons (eOp opPlus (eOp opPlus (eOp opPlus (eC (.str [97, 104, 101, 97, 100, 32])) (eOp opIx (eVar 0) (eC (.int 0)))) (eC (.str [32]))) (eOp opIx (eVar 0) (eC (.int 2)))) (aCons (eC (.str [104, 97, 110, 100, 115, 32, 49])) aNil))))) aNil)))) (sRet (eC (.bl false))) sNil)
  (sSeq (sSet 6 (eFroz (eLst (aCons (eTup (aCons (eC (.int 0)) (aCons (eC (.int 0)) aNil))) (aCons (eTup (aCons (eC (.int 7)) (aCons (eC (.int 0)) aNil))) (aCons (eTup (aCons (eC (.int 5)) (aCons (eC (.int 3)) aNil))) (aCons (eTup (aCons (eC (.int 2)) (aCons (eC (.int 1)) aNil))) aNil)))))))
  (sSeq (sSet 7 (eNewL (lPlus (eFroz (eLc (List.map (·.2) ([("_law_one", 4), ("_law_other", 8)] : List (Str × Nat))) (pSeq 2 (psCons (pName 4) (psCons (pName 8) psNil))) (iSeqS (eVar 6)) tTrue (eOp opPlus (eOp opPlus (eOp opPlus (eC (.str [97, 104, 101, 97, 100, 32])) (eOp opIx (eVar 0) (eVar 4))) (eC (.str [32]))) (eOp opIx (eVar 0) (eVar 8))))) (eFroz (eLst (aCons (eOp opIx (eVar 5) (eC (.int 0))) (aCons (eOp opPlus (eC (.str [97, 104, 101, 97, 100, 32])) (eOp opIx (eVar 0) (eC (.int 0)))) aNil)))))))
  (sSeq (sExpr (eAlt (eMt isLoc mExtend (eVar 7) (aCons (eFroz (eLst (aCons (eOp opPlus (eOp opPlus (eC (.str [97, 104, 101, 97, 100, 32])) (eOp opIx (eVar 0) (eC (.int 0)))) (eC (.str [32, 110, 111, 115, 117, 99, 104]))) (aCons (eOp opPlus (eOp opPlus (eOp opIx (eVar 5) (eC (.int 0))) (eC (.str [32]))) (eOp opIx (eVar 0) (eC (.int 2)))) (aCons (eC (.str [97, 104, 101, 97, 100])) (aCons (eOp opPlus (eC (.str [65, 104, 101, 97, 100])) (eAlt (eSlice (eOp opIx (eVar 5) (eC (.int 0))) (some (eC (.int 5))) none slP) (eSlice (eOp opIx (eVar 5) (eC (.int 0))) (some (eC (.int 5))) none slT))) aNil)))))) aNil)) (eMt isLoc mExtT (eVar 7) (aCons (eFroz (eLst (aCons (eOp opPlus (eOp opPlus (eC (.str [97, 104, 101, 97, 100, 32])) (eOp opIx (eVar 0) (eC (.int 0)))) (eC (.str [32, 110, 111, 115, 117, 99, 104]))) (aCons (eOp opPlus (eOp opPlus (eOp opIx (eVar 5) (eC (.int 0))) (eC (.str [32]))) (eOp opIx (eVar 0) (eC (.int 2)))) (aCons (eC (.str [97, 104, 101, 97, 100])) (aCons (eOp opPlus (eC (.str [65, 104, 101, 97, 100])) (eAlt (eSlice (eOp opIx (eVar 5) (eC (.int 0))) (some (eC (.int 5))) none slP) (eSlice (eOp opIx (eVar 5) (eC (.int 0))) (some (eC (.int 5))) none slT))) aNil)))))) aNil))))
  (sFzV 7 (sRet (eBi bAll (aCons (eFroz (eLc (List.map (·.2) ([("_law_line", 9)] : List (Str × Nat))) (pName 9) (iSeqS (eVar 7)) tTrue (eCall 2 G_ulaw_is_wrong [] (aCons (eOp opPlus (eOp opPlus (eVar 1) (eVar 5)) (eFroz (eLst (aCons (eVar 9) (aCons (eC (.str [104, 97, 110, 100, 115, 32, 49])) aNil))))) (aCons (eC (.int 9)) aNil))))) aNil))))))))))))
def F_ulaw_are_needs_right : FF := runB 10 b_ulaw_are_needs_right
abbrev N_ulaw_are_needs_right : List Str := ["_law_names", "_law_top", "_law_every", "_law_at", "_law_one", "_law_row", "_law_twos", "_law_back", "_law_other", "_law_line"]
theorem nd_ulaw_are_needs_right : (N_ulaw_are_needs_right).Nodup := by decide +kernel
theorem bs_ulaw_are_needs_right (g : Gf fa fn ck K mg) : BodyS P w K mg base (omOf K ρ) 12 N_ulaw_are_needs_right (defScope s_ulaw_are_needs_right) (defBody s_ulaw_are_needs_right) b_ulaw_are_needs_right := fun qual f cdv A outer s H E hr => (mss_cons (ms_pat (pat_seq (n := 2) (pats_cons (pat_name 1) (pats_cons (pat_name 2) pats_nil))) (me_tup (ma_cons (me_lst (ml_lst (ma_cons (me_bin op_plus opPlus_ok me_str (me_join me_str (me_var 0))) ma_nil))) (ma_cons (me_newL (ml_lst ma_nil)) ma_nil))) (pg_seq (n := 2) rfl (pgs_cons (pg_name nd_ulaw_are_needs_right rfl (Or.inr rfl)) (pgs_cons (pg_name nd_ulaw_are_needs_right rfl (Or.inl rfl)) pgs_nil))))
  (mss_cons (ms_for (passes_of rfl) rfl (mi_enumS rfl (g.free 26) (ma_cons (me_var 0) ma_nil)) (pat_seq (n := 2) (pats_cons (pat_name 3) (pats_cons (pat_name 4) pats_nil))) (pg_seq (n := 2) rfl (pgs_cons (pg_name nd_ulaw_are_needs_right rfl (Or.inl rfl)) (pgs_cons (pg_name nd_ulaw_are_needs_right rfl (Or.inr rfl)) pgs_nil))) (mss_one (ms_expr (me_ext2 (me_var 2) (ma_cons (me_lst (ml_lc rfl nd_ulaw_are_needs_right (mi_seqS (me_alt (me_slicePre (me_var 0) (mp_some (me_bin op_plus opPlus_ok (me_var 3) me_int)) mp_none) (me_slice (me_var 0) (mp_some (me_bin op_plus opPlus_ok (me_var 3) me_int)) mp_none))) (own := [("_law_other", 8)]) (blkOk (N := N_ulaw_are_needs_right) (sc := defScope s_ulaw_are_needs_right) (by decide +kernel)) (pat_name 8) (by decide +kernel) (fun _ _ _ _ _ => (pg_name nd_ulaw_are_needs_right rfl (Or.inl rfl))) (fun _ _ _ _ _ => mts_nil) (fun _ _ _ _ _ => (me_bin op_plus opPlus_ok (me_bin op_plus opPlus_ok (me_bin op_plus opPlus_ok me_str (me_var 4)) me_str) (me_var 8))))) ma_nil)))))
  (mss_cons (ms_if (mt_w (mw_or (mt_not (mt_tru (me_call 0 (fg_ulaw_is_book g) (hr.mono (by decide)) (takes_of rfl rfl rfl rfl) rfl (ma_cons (me_bin op_plus opPlus_ok (me_bin op_plus opPlus_ok (me_var 1) (me_alt (me_slicePre (me_var 2) mp_none (mp_some me_int)) (me_slice (me_var 2) mp_none (mp_some me_int)))) (me_lst (ml_lst (ma_cons me_str ma_nil)))) ma_nil)))) (mw_or1 (mt_not (mt_tru (me_call 0 (fg_ulaw_is_wrong g) (hr.mono (by decide)) (takes_of rfl rfl rfl rfl) rfl (ma_cons (me_bin op_plus opPlus_ok (me_bin op_plus opPlus_ok (me_var 1) (me_alt (me_slicePre (me_var 2) mp_none (mp_some me_int)) (me_slice (me_var 2) mp_none (mp_some me_int)))) (me_lst (ml_lst (ma_cons me_str ma_nil)))) (ma_cons me_int ma_nil)))))))) (mss_one (ms_ret me_bl)) mss_nil)
  (mss_cons (ms_set nd_ulaw_are_needs_right rfl (Or.inr rfl) (me_lst (ml_lc rfl nd_ulaw_are_needs_right (mi_zip rfl (g.free 89) (ma_cons (me_var 0) (ma_cons (me_alt (me_slicePre (me_var 0) (mp_some me_int) mp_none) (me_slice (me_var 0) (mp_some me_int) mp_none)) ma_nil))) (own := [("_law_one", 4), ("_law_other", 8)]) (blkOk (N := N_ulaw_are_needs_right) (sc := defScope s_ulaw_are_needs_right) (by decide +kernel)) (pat_seq (n := 2) (pats_cons (pat_name 4) (pats_cons (pat_name 8) pats_nil))) (by decide +kernel) (fun _ _ _ _ _ => (pg_seq (n := 2) rfl (pgs_cons (pg_name nd_ulaw_are_needs_right rfl (Or.inl rfl)) (pgs_cons (pg_name nd_ulaw_are_needs_right rfl (Or.inl rfl)) pgs_nil)))) (fun _ _ _ _ _ => mts_nil) (fun _ _ _ _ _ => (me_bin op_plus opPlus_ok (me_bin op_plus opPlus_ok (me_bin op_plus opPlus_ok me_str (me_var 4)) me_str) (me_var 8))))))
  (mss_cons (ms_if (mt_not (mt_tru (me_call 0 (fg_ulaw_is_book g) (hr.mono (by decide)) (takes_of rfl rfl rfl rfl) rfl (ma_cons (me_bin op_plus opPlus_ok (me_bin op_plus opPlus_ok (me_var 1) (me_var 5)) (me_lst (ml_lst (ma_cons (me_bin op_plus opPlus_ok (me_bin op_plus opPlus_ok (me_bin op_plus opPlus_ok me_str (me_ix (me_var 0) me_int)) me_str) (me_ix (me_var 0) me_int)) (ma_cons me_str ma_nil))))) ma_nil)))) (mss_one (ms_ret me_bl)) mss_nil)
  (mss_cons (ms_set nd_ulaw_are_needs_right rfl (Or.inl rfl) (me_lst (ml_lst (ma_cons (me_tup (ma_cons me_int (ma_cons me_int ma_nil))) (ma_cons (me_tup (ma_cons me_int (ma_cons me_int ma_nil))) (ma_cons (me_tup (ma_cons me_int (ma_cons me_int ma_nil))) (ma_cons (me_tup (ma_cons me_int (ma_cons me_int ma_nil))) ma_nil)))))))
  (mss_cons (ms_set nd_ulaw_are_needs_right rfl (Or.inl rfl) (me_newL (ml_plus (me_lst (ml_lc rfl nd_ulaw_are_needs_right (mi_seqS (me_var 6)) (own := [("_law_one", 4), ("_law_other", 8)]) (blkOk (N := N_ulaw_are_needs_right) (sc := defScope s_ulaw_are_needs_right) (by decide +kernel)) (pat_seq (n := 2) (pats_cons (pat_name 4) (pats_cons (pat_name 8) pats_nil))) (by decide +kernel) (fun _ _ _ _ _ => (pg_seq (n := 2) rfl (pgs_cons (pg_name nd_ulaw_are_needs_right rfl (Or.inl rfl)) (pgs_cons (pg_name nd_ulaw_are_needs_right rfl (Or.inl rfl)) pgs_nil)))) (fun _ _ _ _ _ => mts_nil) (fun _ _ _ _ _ => (me_bin op_plus opPlus_ok (me_bin op_plus opPlus_ok (me_bin op_plus opPlus_ok me_str (me_ix (me_var 0) (me_var 4))) me_str) (me_ix (me_var 0) (me_var 8)))))) (me_lst (ml_lst (ma_cons (me_ix (me_var 5) me_int) (ma_cons (me_bin op_plus opPlus_ok me_str (me_ix (me_var 0) me_int)) ma_nil)))))))
  (mss_cons (ms_expr (me_ext2 (me_var 7) (ma_cons (me_lst (ml_lst (ma_cons (me_bin op_plus opPlus_ok (me_bin op_plus opPlus_ok me_str (me_ix (me_var 0) me_int)) me_str) (ma_cons (me_bin op_plus opPlus_ok (me_bin op_plus opPlus_ok (me_ix (me_var 5) me_int) me_str) (me_ix (me_var 0) me_int)) (ma_cons me_str (ma_cons (me_bin op_plus opPlus_ok me_str (me_alt (me_slicePre (me_ix (me_var 5) me_int) (mp_some me_int) mp_none) (me_slice (me_ix (me_var 5) me_int) (mp_some me_int) mp_none))) ma_nil)))))) ma_nil)))
  (mss_one (ms_fzV 7 (ms_ret (me_callB (cr_all rfl) bAll_ok rfl (g.free 32) (by decide +kernel) (ma_cons (me_lst (ml_lc rfl nd_ulaw_are_needs_right (mi_seqS (me_var 7)) (own := [("_law_line", 9)]) (blkOk (N := N_ulaw_are_needs_right) (sc := defScope s_ulaw_are_needs_right) (by decide +kernel)) (pat_name 9) (by decide +kernel) (fun _ _ _ _ _ => (pg_name nd_ulaw_are_needs_right rfl (Or.inl rfl))) (fun _ _ _ _ _ => mts_nil) (fun _ _ _ _ _ => (me_call 0 (fg_ulaw_is_wrong g) (hr.mono (by decide)) Mi.takes0 rfl (ma_cons (me_bin op_plus opPlus_ok (me_bin op_plus opPlus_ok (me_var 1) (me_var 5)) (me_lst (ml_lst (ma_cons (me_var 9) (ma_cons me_str ma_nil))))) (ma_cons me_int ma_nil)))))) ma_nil)))))))))))))
theorem sc_ulaw_are_needs_right : FnScope N_ulaw_are_needs_right ["_law_names"] (defScope s_ulaw_are_needs_right) := ⟨rfl, rfl, rfl, nd_ulaw_are_needs_right, rfl, by decide +kernel, by decide +kernel⟩
theorem fk_ulaw_are_needs_right (g : Gf fa fn ck K mg) : ∃ fd, FnOk P w K mg base (L2.CX P w) 13 ((fn.getD 24 dummyD).adr K) fd ["_law_names"] (spF K (omOf K ρ) 1 F_ulaw_are_needs_right) ∧ BndL K fd ["_law_names"] (omOf K ρ) [] := by
  obtain ⟨fd, F⟩ := g.def_ 24 (d := fn.getD 24 dummyD)
  exact ⟨fd, fnOk_of F sc_ulaw_are_needs_right (bs_ulaw_are_needs_right g), bndN F fun _ _ _ _ _ _ us hl => match us, hl with | [_], _ => rfl⟩
def G_ulaw_are_needs_right : FF := scr0 F_ulaw_are_needs_right
theorem fkG_ulaw_are_needs_right (g : Gf fa fn ck K mg) : ∃ fd, FnOk P w K mg base (L2.CX P w) 13 ((fn.getD 24 dummyD).adr K) fd ["_law_names"] (spF K (omOf K ρ) 1 G_ulaw_are_needs_right) ∧ BndL K fd ["_law_names"] (omOf K ρ) [] := let ⟨fd, ok, bd⟩ := fk_ulaw_are_needs_right g; ⟨fd, ok.imp fun _ _ _ _ h => spF_scr0 h, bd⟩
theorem fg_ulaw_are_needs_right (g : Gf fa fn ck K mg) : FnG P w K mg base (omOf K ρ) "_law_are_needs_right" 13 1 [] G_ulaw_are_needs_right := by
  obtain ⟨fd, ok, bd⟩ := fkG_ulaw_are_needs_right (P := P) (w := w) (base := base) (ρ := ρ) g
  exact gFn rfl (g.glo 90) (g.keep 91) ok bd
def b_ulaw_are_numbers_right : SF := (sSeq (sPat (pSeq 3 (psCons (pName 1) (psCons (pName 2) (psCons (pName 3) psNil)))) (eTup (aCons (eFroz (eLst (aCons (eOp opPlus (eC (.str [119, 111, 114, 107, 115, 32])) (eJoin (eC (.str [32])) (eVar 0))) aNil))) (aCons (eOp opIx (eVar 0) (eC (.int 0))) (aCons (eOp opIx (eVar 0) (eC (.int 1))) aNil)))))
  (sSeq (sSet 4 (eFroz (eLc (List.map (·.2) ([("_law_name", 7), ("_law_hour", 8)] : List (Str × Nat))) (pSeq 2 (psCons (pName 7) (psCons (pName 8) psNil))) (iFun zpM (aCons (eVar 0) (aCons (eTup (aCons (eC (.int 1)) (aCons (eC (.int 40)) (aCons (eC (.int 2)) (aCons (eC (.int 39)) (aCons (eC (.int 3)) (aCons (eC (.int 9)) (aCons (eC (.int 10)) (aCons (eC (.int 8)) aNil))))))))) aNil))) tTrue (eOp opPlus (eOp opPlus (eOp opPlus (eC (.str [100, 117, 101, 32])) (eVar 7)) (eC (.str [32]))) (eBi bStrI (aCons (eVar 8) aNil))))))
  (sSeq (sIf (tOr2 (tNot2 (tTru (eCall 1 G_ulaw_is_book [] (aCons (eOp opPlus (eOp opPlus (eVar 1) (eVar 4)) (eFroz (eLst (aCons (eC (.str [104, 97, 110, 100, 115, 32, 49])) aNil)))) aNil)))) (tNot2 (tTru (eCall 2 G_ulaw_is_wrong [] (aCons (eOp opPlus (eOp opPlus (eVar 1) (eVar 4)) (eFroz (eLst (aCons (eOp opIx (eVar 4) (eC (.int 0))) (aCons (eC (.str [104, 97, 110, 100, 115, 32, 49])) aNil))))) (aCons (eC (.int 10)) aNil)))))) (sRet (eC (.bl false))) sNil)
  (sSeq (sSet 5 (eNewL (eLc (List.map (·.2) ([("_law_number", 9)] : List (Str × Nat))) (pName 9) (iSeqS (eTup (aCons (eC (.str [48])) (aCons (eC (.str [52, 49])) (aCons (eC (.str [48, 50])) (aCons (eC (.str [43, 51])) (aCons (eC (.str [])) (aCons (eC (.str [45, 49])) (aCons (eC (.str [49, 46, 48])) aNil))))))))) tTrue (eOp opPlus (eOp opPlus (eOp opPlus (eC (.str [100, 117, 101, 32])) (eVar 2)) (eC (.str [32]))) (eVar 9)))))
  (sSeq (sExpr (eAlt (eMt isLoc mExtend (eVar 5) (aCons (eFroz (eLst (aCons (eOp opPlus (eC (.str [100, 117, 101, 32])) (eVar 2)) (aCons (eC (.str [100, 117, 101])) (aCons (eC (.str [100, 117, 101, 32, 110, 111, 115, 117, 99, 104, 32, 51])) (aCons (eOp opPlus (eOp opPlus (eC (.str [100, 117, 101, 32])) (eVar 3)) (eC (.str [32, 51, 32, 52]))) (aCons (eOp opPlus (eOp opPlus (eC (.str [100, 117, 101, 32])) (eVar 3)) (eC (.str [32, 53]))) aNil))))))) aNil)) (eMt isLoc mExtT (eVar 5) (aCons (eFroz (eLst (aCons (eOp opPlus (eC (.str [100, 117, 101, 32])) (eVar 2)) (aCons (eC (.str [100, 117, 101])) (aCons (eC (.str [100, 117, 101, 32, 110, 111, 115, 117, 99, 104, 32, 51])) (aCons (eOp opPlus (eOp opPlus (eC (.str [100, 117, 101, 32])) (eVar 3)) (eC (.str [32, 51, 32, 52]))) (aCons (eOp opPlus (eOp opPlus (eC (.str [100, 117, 101, 32])) (eVar 3)) (eC (.str [32, 53]))) aNil))))))) aNil))))
  (sSeq (sFzV 5 (sIf (tNot2 (tTru (eBi bAll (aCons (eFroz (eLc (List.map (·.2) ([("_law_line", 10)] : List (Str × Nat))) (pName 10) (iSeqS (eVar 5)) tTrue (eCall 2 G_ulaw_is_wrong [] (aCons (eOp opPlus (eOp opPlus (eVar 1) (eSlice (eVar 4) (some (eC (.int 1))) (some (eC (.int 2))) slT)) (eFroz (eLst (aCons (eVar 10) (aCons (eC (.str [104, 97, 110, 100, 115, 32, 49])) aNil))))) (aCons (eC (.int 3)) aNil))))) aNil)))) (sRet (eC (.bl false))) sNil))
  (sSeq (sSet 6 (eFroz (eLst (aCons (eC (.str [49])) (aCons (eC (.str [52])) (aCons (eC (.str [48, 32, 49])) (aCons (eC (.str [48, 32, 48, 32, 48, 32, 48, 32, 48, 32, 48, 32, 48, 32, 48, 32, 48, 32, 48, 32, 48, 32, 52])) (aCons (eC (.str [52, 32, 52, 32, 52, 32, 52, 32, 52, 32, 52, 32, 52, 32, 52, 32, 52, 32, 52, 32, 52, 32, 49])) aNil))))))))
  (sSeq (sIf (tNot2 (tTru (eBi bAll (aCons (eFroz (eLc (List.map (·.2) ([("_law_row", 11)] : List (Str × Nat))) (pName 11) (iSeqS (eVar 6)) tTrue (eCall 1 G_ulaw_is_book [] (aCons (eOp opPlus (eVar 1) (eFroz (eLst (aCons (eOp opPlus (eC (.str [104, 97, 110, 100, 115, 32])) (eVar 11)) aNil)))) aNil)))) aNil)))) (sRet (eC (.bl false))) sNil)
  (sSeq (sSet 5 (eNewL (eLc (List.map (·.2) ([("_law_row", 11)] : List (Str × Nat))) (pName 11) (iSeqS (eTup (aCons (eC (.str [48])) (aCons (eC (.str [53])) (aCons (eC (.str [49, 32, 48])) (aCons (eC (.str [45, 49])) (aCons (eC (.str [48, 49])) (aCons (eC (.str [49, 32, 53, 32, 49])) (aCons (eC (.str [49, 32, 49, 32, 49, 32, 49, 32, 49, 32, 49, 32, 49, 32, 49, 32, 49, 32, 49, 32, 49, 32, 49, 32, 49])) (aCons (eC (.str [])) aNil)))))))))) tTrue (eOp opPlus (eC (.str [104, 97, 110, 100, 115, 32])) (eVar 11)))))
  (sSeq (sIf (tNot2 (tTru (eBi bAll (aCons (eFroz (eLc (List.map (·.2) ([("_law_line", 10)] : List (Str × Nat))) (pName 10) (iSeqS (eOp opPlus (eVar 5) (eFroz (eLst (aCons (eC (.str [104, 97, 110, 100, 115])) (aCons (eC (.str [72, 97, 110, 100, 115, 32, 49])) (aCons (eC (.str [104, 97, 110, 100, 115, 32, 49, 32])) aNil))))))) tTrue (eCall 2 G_ulaw_is_wrong [] (aCons (eOp opPlus (eVar 1) (eFroz (eLst (aCons (eVar 10) aNil)))) (aCons (eC (.int 2)) aNil))))) aNil)))) (sRet (eC (.bl false))) sNil)
  (sRet (eAnd (eCall 2 G_ulaw_is_wrong [] (aCons (eOp opPlus (eVar 1) (eFroz (eLst (aCons (eC (.str [104, 97, 110, 100, 115, 32, 49])) (aCons (eOp opPlus (eOp opPlus (eC (.str [100, 117, 101, 32])) (eVar 2)) (eC (.str [32, 51]))) aNil))))) (aCons (eC (.int 3)) aNil))) (eCall 2 G_ulaw_is_wrong [] (aCons (eOp opPlus (eVar 1) (eFroz (eLst (aCons (eC (.str [104, 97, 110, 100, 115, 32, 49])) (aCons (eC (.str [104, 97, 110, 100, 115, 32, 49])) aNil))))) (aCons (eC (.int 3)) aNil)))))))))))))))
def F_ulaw_are_numbers_right : FF := runB 12 b_ulaw_are_numbers_right
abbrev N_ulaw_are_numbers_right : List Str := ["_law_names", "_law_top", "_law_a", "_law_b", "_law_dues", "_law_bad", "_law_good", "_law_name", "_law_hour", "_law_number", "_law_line", "_law_row"]
theorem nd_ulaw_are_numbers_right : (N_ulaw_are_numbers_right).Nodup := by decide +kernel
theorem bs_ulaw_are_numbers_right (g : Gf fa fn ck K mg) : BodyS P w K mg base (omOf K ρ) 12 N_ulaw_are_numbers_right (defScope s_ulaw_are_numbers_right) (defBody s_ulaw_are_numbers_right) b_ulaw_are_numbers_right := fun qual f cdv A outer s H E hr => (mss_cons (ms_pat (pat_seq (n := 3) (pats_cons (pat_name 1) (pats_cons (pat_name 2) (pats_cons (pat_name 3) pats_nil)))) (me_tup (ma_cons (me_lst (ml_lst (ma_cons (me_bin op_plus opPlus_ok me_str (me_join me_str (me_var 0))) ma_nil))) (ma_cons (me_ix (me_var 0) me_int) (ma_cons (me_ix (me_var 0) me_int) ma_nil)))) (pg_seq (n := 3) rfl (pgs_cons (pg_name nd_ulaw_are_numbers_right rfl (Or.inr rfl)) (pgs_cons (pg_name nd_ulaw_are_numbers_right rfl (Or.inr rfl)) (pgs_cons (pg_name nd_ulaw_are_numbers_right rfl (Or.inl rfl)) pgs_nil)))))
  (mss_cons (ms_set nd_ulaw_are_numbers_right rfl (Or.inr rfl) (me_lst (ml_lc rfl nd_ulaw_are_numbers_right (mi_zipM rfl (g.free 89) (ma_cons (me_var 0) (ma_cons (me_tup (ma_cons me_int (ma_cons me_int (ma_cons me_int (ma_cons me_int (ma_cons me_int (ma_cons me_int (ma_cons me_int (ma_cons me_int ma_nil))))))))) ma_nil))) (own := [("_law_name", 7), ("_law_hour", 8)]) (blkOk (N := N_ulaw_are_numbers_right) (sc := defScope s_ulaw_are_numbers_right) (by decide +kernel)) (pat_seq (n := 2) (pats_cons (pat_name 7) (pats_cons (pat_name 8) pats_nil))) (by decide +kernel) (fun _ _ _ _ _ => (pg_seq (n := 2) rfl (pgs_cons (pg_name nd_ulaw_are_numbers_right rfl (Or.inl rfl)) (pgs_cons (pg_name nd_ulaw_are_numbers_right rfl (Or.inl rfl)) pgs_nil)))) (fun _ _ _ _ _ => mts_nil) (fun _ _ _ _ _ => (me_bin op_plus opPlus_ok (me_bin op_plus opPlus_ok (me_bin op_plus opPlus_ok me_str (me_var 7)) me_str) (me_callTy call_str_int bStrI_ok rfl (g.free 14) (by decide +kernel) (ma_cons (me_var 8) ma_nil)))))))
  (mss_cons (ms_if (mt_w (mw_or (mt_not (mt_tru (me_call 0 (fg_ulaw_is_book g) (hr.mono (by decide)) (takes_of rfl rfl rfl rfl) rfl (ma_cons (me_bin op_plus opPlus_ok (me_bin op_plus opPlus_ok (me_var 1) (me_var 4)) (me_lst (ml_lst (ma_cons me_str ma_nil)))) ma_nil)))) (mw_or1 (mt_not (mt_tru (me_call 0 (fg_ulaw_is_wrong g) (hr.mono (by decide)) (takes_of rfl rfl rfl rfl) rfl (ma_cons (me_bin op_plus opPlus_ok (me_bin op_plus opPlus_ok (me_var 1) (me_var 4)) (me_lst (ml_lst (ma_cons (me_ix (me_var 4) me_int) (ma_cons me_str ma_nil))))) (ma_cons me_int ma_nil)))))))) (mss_one (ms_ret me_bl)) mss_nil)
  (mss_cons (ms_lcM rfl nd_ulaw_are_numbers_right rfl rfl (mi_seqS (me_tup (ma_cons me_str (ma_cons me_str (ma_cons me_str (ma_cons me_str (ma_cons me_str (ma_cons me_str (ma_cons me_str ma_nil))))))))) (own := [("_law_number", 9)]) (blkOk (N := N_ulaw_are_numbers_right) (sc := defScope s_ulaw_are_numbers_right) (by decide +kernel)) (pat_name 9) (by decide +kernel) (fun _ _ _ _ _ => (pg_name nd_ulaw_are_numbers_right rfl (Or.inl rfl))) (fun _ _ _ _ _ => mts_nil) (fun _ _ _ _ _ => (me_bin op_plus opPlus_ok (me_bin op_plus opPlus_ok (me_bin op_plus opPlus_ok me_str (me_var 2)) me_str) (me_var 9))))
  (mss_cons (ms_expr (me_ext2 (me_var 5) (ma_cons (me_lst (ml_lst (ma_cons (me_bin op_plus opPlus_ok me_str (me_var 2)) (ma_cons me_str (ma_cons me_str (ma_cons (me_bin op_plus opPlus_ok (me_bin op_plus opPlus_ok me_str (me_var 3)) me_str) (ma_cons (me_bin op_plus opPlus_ok (me_bin op_plus opPlus_ok me_str (me_var 3)) me_str) ma_nil))))))) ma_nil)))
  (mss_cons (ms_fzV 5 (ms_if (mt_not (mt_tru (me_callB (cr_all rfl) bAll_ok rfl (g.free 32) (by decide +kernel) (ma_cons (me_lst (ml_lc rfl nd_ulaw_are_numbers_right (mi_seqS (me_var 5)) (own := [("_law_line", 10)]) (blkOk (N := N_ulaw_are_numbers_right) (sc := defScope s_ulaw_are_numbers_right) (by decide +kernel)) (pat_name 10) (by decide +kernel) (fun _ _ _ _ _ => (pg_name nd_ulaw_are_numbers_right rfl (Or.inl rfl))) (fun _ _ _ _ _ => mts_nil) (fun _ _ _ _ _ => (me_call 0 (fg_ulaw_is_wrong g) (hr.mono (by decide)) Mi.takes0 rfl (ma_cons (me_bin op_plus opPlus_ok (me_bin op_plus opPlus_ok (me_var 1) (me_slice (me_var 4) (mp_some me_int) (mp_some me_int))) (me_lst (ml_lst (ma_cons (me_var 10) (ma_cons me_str ma_nil))))) (ma_cons me_int ma_nil)))))) ma_nil)))) (mss_one (ms_ret me_bl)) mss_nil))
  (mss_cons (ms_set nd_ulaw_are_numbers_right rfl (Or.inl rfl) (me_lst (ml_lst (ma_cons me_str (ma_cons me_str (ma_cons me_str (ma_cons me_str (ma_cons me_str ma_nil))))))))
  (mss_cons (ms_if (mt_not (mt_tru (me_callB (cr_all rfl) bAll_ok rfl (g.free 32) (by decide +kernel) (ma_cons (me_lst (ml_lc rfl nd_ulaw_are_numbers_right (mi_seqS (me_var 6)) (own := [("_law_row", 11)]) (blkOk (N := N_ulaw_are_numbers_right) (sc := defScope s_ulaw_are_numbers_right) (by decide +kernel)) (pat_name 11) (by decide +kernel) (fun _ _ _ _ _ => (pg_name nd_ulaw_are_numbers_right rfl (Or.inl rfl))) (fun _ _ _ _ _ => mts_nil) (fun _ _ _ _ _ => (me_call 0 (fg_ulaw_is_book g) (hr.mono (by decide)) Mi.takes0 rfl (ma_cons (me_bin op_plus opPlus_ok (me_var 1) (me_lst (ml_lst (ma_cons (me_bin op_plus opPlus_ok me_str (me_var 11)) ma_nil)))) ma_nil))))) ma_nil)))) (mss_one (ms_ret me_bl)) mss_nil)
  (mss_cons (ms_lcM rfl nd_ulaw_are_numbers_right rfl rfl (mi_seqS (me_tup (ma_cons me_str (ma_cons me_str (ma_cons me_str (ma_cons me_str (ma_cons me_str (ma_cons me_str (ma_cons me_str (ma_cons me_str ma_nil)))))))))) (own := [("_law_row", 11)]) (blkOk (N := N_ulaw_are_numbers_right) (sc := defScope s_ulaw_are_numbers_right) (by decide +kernel)) (pat_name 11) (by decide +kernel) (fun _ _ _ _ _ => (pg_name nd_ulaw_are_numbers_right rfl (Or.inl rfl))) (fun _ _ _ _ _ => mts_nil) (fun _ _ _ _ _ => (me_bin op_plus opPlus_ok me_str (me_var 11))))
  (mss_cons (ms_if (mt_not (mt_tru (me_callB (cr_all rfl) bAll_ok rfl (g.free 32) (by decide +kernel) (ma_cons (me_lst (ml_lc rfl nd_ulaw_are_numbers_right (mi_seqS (me_bin op_plus opPlus_ok (me_var 5) (me_lst (ml_lst (ma_cons me_str (ma_cons me_str (ma_cons me_str ma_nil))))))) (own := [("_law_line", 10)]) (blkOk (N := N_ulaw_are_numbers_right) (sc := defScope s_ulaw_are_numbers_right) (by decide +kernel)) (pat_name 10) (by decide +kernel) (fun _ _ _ _ _ => (pg_name nd_ulaw_are_numbers_right rfl (Or.inl rfl))) (fun _ _ _ _ _ => mts_nil) (fun _ _ _ _ _ => (me_call 0 (fg_ulaw_is_wrong g) (hr.mono (by decide)) Mi.takes0 rfl (ma_cons (me_bin op_plus opPlus_ok (me_var 1) (me_lst (ml_lst (ma_cons (me_var 10) ma_nil)))) (ma_cons me_int ma_nil)))))) ma_nil)))) (mss_one (ms_ret me_bl)) mss_nil)
  (mss_one (ms_ret (me_and (me_call 0 (fg_ulaw_is_wrong g) (hr.mono (by decide)) (takes_of rfl rfl rfl rfl) rfl (ma_cons (me_bin op_plus opPlus_ok (me_var 1) (me_lst (ml_lst (ma_cons me_str (ma_cons (me_bin op_plus opPlus_ok (me_bin op_plus opPlus_ok me_str (me_var 2)) me_str) ma_nil))))) (ma_cons me_int ma_nil))) (me_one (me_call 0 (fg_ulaw_is_wrong g) (hr.mono (by decide)) (takes_of rfl rfl rfl rfl) rfl (ma_cons (me_bin op_plus opPlus_ok (me_var 1) (me_lst (ml_lst (ma_cons me_str (ma_cons me_str ma_nil))))) (ma_cons me_int ma_nil)))))))))))))))))
theorem sc_ulaw_are_numbers_right : FnScope N_ulaw_are_numbers_right ["_law_names"] (defScope s_ulaw_are_numbers_right) := ⟨rfl, rfl, rfl, nd_ulaw_are_numbers_right, rfl, by decide +kernel, by decide +kernel⟩
theorem fk_ulaw_are_numbers_right (g : Gf fa fn ck K mg) : ∃ fd, FnOk P w K mg base (L2.CX P w) 13 ((fn.getD 25 dummyD).adr K) fd ["_law_names"] (spF K (omOf K ρ) 1 F_ulaw_are_numbers_right) ∧ BndL K fd ["_law_names"] (omOf K ρ) [] := by
  obtain ⟨fd, F⟩ := g.def_ 25 (d := fn.getD 25 dummyD)
  exact ⟨fd, fnOk_of F sc_ulaw_are_numbers_right (bs_ulaw_are_numbers_right g), bndN F fun _ _ _ _ _ _ us hl => match us, hl with | [_], _ => rfl⟩
def G_ulaw_are_numbers_right : FF := scr0 F_ulaw_are_numbers_right
theorem fkG_ulaw_are_numbers_right (g : Gf fa fn ck K mg) : ∃ fd, FnOk P w K mg base (L2.CX P w) 13 ((fn.getD 25 dummyD).adr K) fd ["_law_names"] (spF K (omOf K ρ) 1 G_ulaw_are_numbers_right) ∧ BndL K fd ["_law_names"] (omOf K ρ) [] := let ⟨fd, ok, bd⟩ := fk_ulaw_are_numbers_right g; ⟨fd, ok.imp fun _ _ _ _ h => spF_scr0 h, bd⟩
theorem fg_ulaw_are_numbers_right (g : Gf fa fn ck K mg) : FnG P w K mg base (omOf K ρ) "_law_are_numbers_right" 13 1 [] G_ulaw_are_numbers_right := by
  obtain ⟨fd, ok, bd⟩ := fkG_ulaw_are_numbers_right (P := P) (w := w) (base := base) (ρ := ρ) g
  exact gFn rfl (g.glo 92) (g.keep 93) ok bd
def b1_ulaw_right : SF := (sSet 1 (eCall 3 F_ulaw_some [] (aCons (eVar 0) (aCons (eFroz (eLst (aCons (eC (.str [97])) (aCons (eC (.str [98])) (aCons (eC (.str [119, 111, 114, 107, 115])) (aCons (eC (.str [97, 104, 101, 97, 100])) (aCons (eC (.str [100, 117, 101])) (aCons (eC (.str [104, 97, 110, 100, 115])) (aCons (eC (.str [100, 97, 121])) (aCons (eC (.str [120])) (aCons (eC (.str [107, 101, 112, 116])) (aCons (eC (.str [122, 122])) aNil)))))))))))) (aCons (eC (.int 8)) aNil)))))
def b2_ulaw_right : SF := (sSeq (sIf (tOr2 (tNot2 (tTru (eCall 1 G_ulaw_are_names_right [] (aCons (eVar 1) aNil)))) (tNot2 (tTru (eCall 1 G_ulaw_are_needs_right [] (aCons (eVar 1) aNil))))) (sRet (eC (.bl false))) sNil)
  (sRet (eCall 1 G_ulaw_are_numbers_right [] (aCons (eVar 1) aNil))))
abbrev N_ulaw_right : List Str := ["_law_pot_here", "_law_names"]
theorem nd_ulaw_right : (N_ulaw_right).Nodup := by decide +kernel
theorem bs1_ulaw_right (g : Gf fa fn ck K mg) : StS P w K mg base (omOf K ρ) 13 N_ulaw_right (defScope s_ulaw_right) ((defBody s_ulaw_right).getD 0 (.Pass ⟨0, 0, 0, 0⟩)) b1_ulaw_right := fun qual f cdv A outer s H E hr => (ms_set nd_ulaw_right rfl (Or.inl rfl) (me_call 0 (fg_ulaw_some g) (hr.mono (by decide)) (takes_of rfl rfl rfl rfl) rfl (ma_cons (me_var 0) (ma_cons (me_lst (ml_lst (ma_cons me_str (ma_cons me_str (ma_cons me_str (ma_cons me_str (ma_cons me_str (ma_cons me_str (ma_cons me_str (ma_cons me_str (ma_cons me_str (ma_cons me_str ma_nil)))))))))))) (ma_cons me_int ma_nil)))))
theorem bs2_ulaw_right (g : Gf fa fn ck K mg) : BodyS P w K mg base (omOf K ρ) 13 N_ulaw_right (defScope s_ulaw_right) ((defBody s_ulaw_right).drop 1) b2_ulaw_right := fun qual f cdv A outer s H E hr => (mss_cons (ms_if (mt_w (mw_or (mt_not (mt_tru (me_call 0 (fg_ulaw_are_names_right g) (hr.mono (by decide)) (takes_of rfl rfl rfl rfl) rfl (ma_cons (me_var 1) ma_nil)))) (mw_or1 (mt_not (mt_tru (me_call 0 (fg_ulaw_are_needs_right g) (hr.mono (by decide)) (takes_of rfl rfl rfl rfl) rfl (ma_cons (me_var 1) ma_nil))))))) (mss_one (ms_ret me_bl)) mss_nil)
  (mss_one (ms_ret (me_call 0 (fg_ulaw_are_numbers_right g) (hr.mono (by decide)) (takes_of rfl rfl rfl rfl) rfl (ma_cons (me_var 1) ma_nil)))))
theorem t_ulaw_are_names_right : tr0 (G_ulaw_are_names_right [.lst (symsN 8)] []) = true := by decide +kernel
theorem g_ulaw_are_names_right : G_ulaw_are_names_right [.lst (symsN 8)] [] = .ok (.bl true) [] := tr0_ok t_ulaw_are_names_right
theorem t_ulaw_are_needs_right : tr0 (G_ulaw_are_needs_right [.lst (symsN 8)] []) = true := by decide +kernel
theorem g_ulaw_are_needs_right : G_ulaw_are_needs_right [.lst (symsN 8)] [] = .ok (.bl true) [] := tr0_ok t_ulaw_are_needs_right
theorem t_ulaw_are_numbers_right : tr0 (G_ulaw_are_numbers_right [.lst (symsN 8)] []) = true := by decide +kernel
theorem g_ulaw_are_numbers_right : G_ulaw_are_numbers_right [.lst (symsN 8)] [] = .ok (.bl true) [] := tr0_ok t_ulaw_are_numbers_right
def runSh (a b c : FF) : SF := (sSeq (sIf (tOr2 (tNot2 (tTru (eCall 1 a [] (aCons (eVar 1) aNil)))) (tNot2 (tTru (eCall 1 b [] (aCons (eVar 1) aNil))))) (sRet (eC (.bl false))) sNil)
  (sRet (eCall 1 c [] (aCons (eVar 1) aNil))))
theorem runSh_ok {a b c : FF} {t : T} {x : Option T} (ha : a [t] [] = .ok (.bl true) []) (hb : b [t] [] = .ok (.bl true) []) (hc : c [t] [] = .ok (.bl true) []) : runSh a b c [x, some t] [] = some (.rt (.bl true), []) := by
  have h1 : tNot2 (tTru (eCall 1 a [] (aCons (eVar 1) aNil))) [x, some t] [] = .ok false [] := by
    unfold tNot2 tTru
    rw [eCall_ok (aCons_ok (eVar_ok rfl) aNil_ok) rfl ha]
    rfl
  have h2 : tNot2 (tTru (eCall 1 b [] (aCons (eVar 1) aNil))) [x, some t] [] = .ok false [] := by
    unfold tNot2 tTru
    rw [eCall_ok (aCons_ok (eVar_ok rfl) aNil_ok) rfl hb]
    rfl
  refine sSeq_nx (sIf_f (M1 := []) ?_ sNil_ok) (sRet_ok (eCall_ok (aCons_ok (eVar_ok rfl) aNil_ok) rfl hc))
  unfold tOr2
  rw [h1]
  exact h2
theorem run_ulaw_right : (good (b2_ulaw_right (sig0 2 1 8) [])).isSome = true := by
  have e : b2_ulaw_right (sig0 2 1 8) [] = some (.rt (.bl true), []) := runSh_ok (x := none) (t := .lst (symsN 8)) g_ulaw_are_names_right g_ulaw_are_needs_right g_ulaw_are_numbers_right
  rw [e]
  rfl
def F_ulaw_right : FF := splitF 2 1 8 ((good (b2_ulaw_right (sig0 2 1 8) [])).getD 0) b1_ulaw_right
theorem sc_ulaw_right : FnScope N_ulaw_right ["_law_pot_here"] (defScope s_ulaw_right) := ⟨rfl, rfl, rfl, nd_ulaw_right, rfl, by decide +kernel, by decide +kernel⟩
theorem fk_ulaw_right (g : Gf fa fn ck K mg) : ∃ fd, FnOk P w K mg base (L2.CX P w) 14 ((fn.getD 26 dummyD).adr K) fd ["_law_pot_here"] (spF K (omOf K ρ) 1 F_ulaw_right) ∧ BndL K fd ["_law_pot_here"] (omOf K ρ) [] := by
  obtain ⟨fd, F⟩ := g.def_ 26 (d := fn.getD 26 dummyD)
  exact ⟨fd, split_fn (om := omOf K) F sc_ulaw_right (fun _ => rfl) rfl (bs1_ulaw_right g) (fun ρ2 => bs2_ulaw_right (ρ := ρ2) g) (some_getD run_ulaw_right) (by decide), bndN F fun _ _ _ _ _ _ us hl => match us, hl with | [_], _ => rfl⟩
theorem fg_ulaw_right (g : Gf fa fn ck K mg) : FnG P w K mg base (omOf K ρ) "_law_right" 14 1 [] F_ulaw_right := by
  obtain ⟨fd, ok, bd⟩ := fk_ulaw_right (P := P) (w := w) (base := base) (ρ := ρ) g
  exact gFn rfl (g.glo 94) (g.keep 95) ok bd
def b_ulaw_pot : SF := (sSeq (sSet 2 (eIf (tVal (eOp opLt (eVar 1) (eBi bLen (aCons (eVar 0) aNil)))) (eOp opIx (eVar 0) (eVar 1)) (eOp opPlus (eOp opMul (eC (.int 7)) (eVar 1)) (eC (.int 6)))))
  (sSeq (sSet 3 (eOp opMul (eOp opMod (eBi bInt (aCons (eBi bAbs (aCons (eVar 2) aNil)) aNil)) (eOp opPow (eOp opPow (eC (.int 10)) (eC (.int 60))) (eC (.int 5)))) (eBi bInt (aCons (eOp opGe (eBi bAbs (aCons (eVar 2) aNil)) (eOp opPow (eC (.int 10)) (eC (.int 18)))) aNil))))
  (sSeq (sSet 4 (eOp opMod (eBi bInt (aCons (eVar 2) aNil)) (eC (.int 2305843009213693951))))
  (sRet (eNewL (eLst (aCons (eVar 3) (aCons (eOp opMod (eBi bInt (aCons (eOp opPlus (eOp opPlus (eOp opMul (eVar 4) (eC (.int 78323))) (eOp opMul (eOp opMul (eC (.int 9007)) (eVar 1)) (eVar 1))) (eC (.int 229))) aNil)) (eC (.int 2305843009213693921))) (aCons (eC (.int 0)) aNil)))))))))
def F_ulaw_pot : FF := runB 5 b_ulaw_pot
abbrev N_ulaw_pot : List Str := ["_law_script", "_law_k", "_law_cell", "_law_first", "_law_small"]
theorem nd_ulaw_pot : (N_ulaw_pot).Nodup := by decide +kernel
theorem bs_ulaw_pot (g : Gf fa fn ck K mg) : BodyS P w K mg base (omOf K ρ) 0 N_ulaw_pot (defScope s_ulaw_pot) (defBody s_ulaw_pot) b_ulaw_pot := fun qual f cdv A outer s H E hr => (mss_cons (ms_set nd_ulaw_pot rfl (Or.inl rfl) (me_if (mt_cmp op_lt opLt_ok (me_var 1) (me_callB call_len2 bLen_ok rfl (g.free 0) (by decide +kernel) (ma_cons (me_var 0) ma_nil)) (nomark _)) (me_ix (me_var 0) (me_var 1)) (me_bin op_plus opPlus_ok (me_bin op_mul opMul_ok me_int (me_var 1)) me_int)))
  (mss_cons (ms_set nd_ulaw_pot rfl (Or.inl rfl) (me_bin op_mul opMul_ok (me_bin op_mod opMod_ok (me_callTy call_int2 bInt_ok rfl (g.free 7) (by decide +kernel) (ma_cons (me_callB call_abs bAbs_ok rfl (g.free 96) (by decide +kernel) (ma_cons (me_var 2) ma_nil)) ma_nil)) (me_bin op_powW opPow_ok (me_bin op_powW opPow_ok me_int me_int) me_int)) (me_callTy call_int2 bInt_ok rfl (g.free 7) (by decide +kernel) (ma_cons (me_cmp op_ge opGe_ok (me_callB call_abs bAbs_ok rfl (g.free 96) (by decide +kernel) (ma_cons (me_var 2) ma_nil)) (me_bin op_powW opPow_ok me_int me_int) (nomark _)) ma_nil))))
  (mss_cons (ms_set nd_ulaw_pot rfl (Or.inl rfl) (me_bin op_mod opMod_ok (me_callTy call_int2 bInt_ok rfl (g.free 7) (by decide +kernel) (ma_cons (me_var 2) ma_nil)) me_int))
  (mss_one (ms_ret (me_newL (ml_lst (ma_cons (me_var 3) (ma_cons (me_bin op_mod opMod_ok (me_callTy call_int2 bInt_ok rfl (g.free 7) (by decide +kernel) (ma_cons (me_bin op_plus opPlus_ok (me_bin op_plus opPlus_ok (me_bin op_mul opMul_ok (me_var 4) me_int) (me_bin op_mul opMul_ok (me_bin op_mul opMul_ok me_int (me_var 1)) (me_var 1))) me_int) ma_nil)) me_int) (ma_cons me_int ma_nil))))))))))
theorem sc_ulaw_pot : FnScope N_ulaw_pot ["_law_script", "_law_k"] (defScope s_ulaw_pot) := ⟨rfl, rfl, rfl, nd_ulaw_pot, rfl, by decide +kernel, by decide +kernel⟩
theorem fk_ulaw_pot (g : Gf fa fn ck K mg) : ∃ fd, FnOk P w K mg base (L2.CX P w) 1 ((fn.getD 27 dummyD).adr K) fd ["_law_script", "_law_k"] (spF K (omOf K ρ) 2 F_ulaw_pot) ∧ BndL K fd ["_law_script", "_law_k"] (omOf K ρ) [] := by
  obtain ⟨fd, F⟩ := g.def_ 27 (d := fn.getD 27 dummyD)
  exact ⟨fd, fnOk_of F sc_ulaw_pot (bs_ulaw_pot g), bndN F fun _ _ _ _ _ _ us hl => match us, hl with | [_, _], _ => rfl⟩
theorem fg_ulaw_pot (g : Gf fa fn ck K mg) : FnG P w K mg base (omOf K ρ) "_law_pot" 1 2 [] F_ulaw_pot := by
  obtain ⟨fd, ok, bd⟩ := fk_ulaw_pot (P := P) (w := w) (base := base) (ρ := ρ) g
  exact gFn rfl (g.glo 97) (g.keep 98) ok bd
def b_law : SF := (sRet (eBi bAll (aCons (eFroz (eLc (List.map (·.2) ([("_law_place", 1)] : List (Str × Nat))) (pName 1) (iSeqS (eCall 2 F_ulaw_places [] (aCons (eVar 0) (aCons (eC (.int 4)) aNil)))) tTrue (eCall 1 F_ulaw_right [] (aCons (eCall 2 F_ulaw_pot [] (aCons (eVar 0) (aCons (eVar 1) aNil))) aNil)))) aNil)))
def F_law : FF := runB 2 b_law
abbrev N_law : List Str := ["_law_script", "_law_place"]
theorem nd_law : (N_law).Nodup := by decide +kernel
theorem bs_law (g : Gf fa fn ck K mg) : BodyS P w K mg base (omOf K ρ) 14 N_law (defScope s_law) (defBody s_law) b_law := fun qual f cdv A outer s H E hr => (mss_one (ms_ret (me_callB (cr_all rfl) bAll_ok rfl (g.free 32) (by decide +kernel) (ma_cons (me_lst (ml_lc rfl nd_law (mi_seqS (me_call 0 (fg_ulaw_places g) (hr.mono (by decide)) (takes_of rfl rfl rfl rfl) rfl (ma_cons (me_var 0) (ma_cons me_int ma_nil)))) (own := [("_law_place", 1)]) (blkOk (N := N_law) (sc := defScope s_law) (by decide +kernel)) (pat_name 1) (by decide +kernel) (fun _ _ _ _ _ => (pg_name nd_law rfl (Or.inl rfl))) (fun _ _ _ _ _ => mts_nil) (fun _ _ _ _ _ => (me_call 0 (fg_ulaw_right g) (hr.mono (by decide)) Mi.takes0 rfl (ma_cons (me_call 0 (fg_ulaw_pot g) (hr.mono (by decide)) Mi.takes0 rfl (ma_cons (me_var 0) (ma_cons (me_var 1) ma_nil))) ma_nil))))) ma_nil))))
theorem sc_law : FnScope N_law ["_law_script"] (defScope s_law) := ⟨rfl, rfl, rfl, nd_law, rfl, by decide +kernel, by decide +kernel⟩
end
end K03
namespace K03
open PySem Mi
theorem opGt_t {M : Mem} {i j : Int} (h : j < i) : opGt M (.int i) (.int j) = some (.bl true) := by show some (T.bl (decide (j < i))) = _; rw [decide_eq_true h]
theorem opGt_f {M : Mem} {i j : Int} (h : ¬ j < i) : opGt M (.int i) (.int j) = some (.bl false) := by show some (T.bl (decide (j < i))) = _; rw [decide_eq_false h]
theorem opLt_t {M : Mem} {i j : Int} (h : i < j) : opLt M (.int i) (.int j) = some (.bl true) := by show some (T.bl (decide (i < j))) = _; rw [decide_eq_true h]
theorem opLt_f {M : Mem} {i j : Int} (h : ¬ i < j) : opLt M (.int i) (.int j) = some (.bl false) := by show some (T.bl (decide (i < j))) = _; rw [decide_eq_false h]
theorem bnd_take (x c : Int) (hc : 0 ≤ c ∧ c ≤ 1000) : -(2 ^ 64) < x % 10007 + 97 * (c + 1) ∧ x % 10007 + 97 * (c + 1) < 2 ^ 64 := by
  have h1 := Int.emod_nonneg x (show (10007 : Int) ≠ 0 by decide)
  have h2 := Int.emod_lt_of_pos x (show (0 : Int) < 10007 by decide)
  omega
theorem take_ok {M : Mem} {n : Nat} {a b c u : Int} (hM : M[n]? = some (.lst [.int a, .int b, .int c])) (ha : 0 ≤ a) (hb : 0 ≤ b ∧ b < 2305843009213693951) (hc : 0 ≤ c ∧ c ≤ 1000) (hu : 1 ≤ u ∧ u ≤ 1000) :
    ∃ d a' c', F_ulaw_take [.loc n, .int u] M = .ok (.int d) (M.set n (.lst [.int a', .int b, .int c'])) ∧ (0 ≤ d ∧ d < u) ∧ 0 ≤ a' ∧ 0 ≤ c' ∧ c' ≤ c + 1 := by
  have hl : n < M.length := (List.getElem?_eq_some_iff.mp hM).1
  by_cases h : 0 < a
  · refine ⟨a % u, a / u, c, ?_, ⟨Int.emod_nonneg _ (by omega), Int.emod_lt_of_pos _ (by omega)⟩, Int.ediv_nonneg ha (by omega), hc.1, by omega⟩
    refine runB_rt (sSeq_rt (sIf_t (tVal_ok (eOp_ok (eOp_ok (eVar_ok rfl) eC_ok (opIx_loc hM rfl)) eC_ok (opGt_t h)))
      (sSeq_nx (sSet_ok (eOp_ok (eBi_ok (aCons_ok (eOp_ok (eVar_ok rfl) eC_ok (opIx_loc hM rfl)) aNil_ok) rfl) (eVar_ok rfl) (opMod_p (by omega))))
      (sSeq_nx (sLput_ok (eOp_ok (eOp_ok (eVar_ok rfl) eC_ok (opIx_loc hM rfl)) (eVar_ok rfl) (opFdiv_p (by omega))) (eVar_ok rfl) eC_ok hM rfl) (sRet_ok (eVar_ok rfl))))))
  · have hM2 : (M.set n (.lst [.int a, .int b, .int (c + 1)]))[n]? = some (.lst [.int a, .int b, .int (c + 1)]) := List.getElem?_set_self hl
    have h5 : 0 ≤ (c + 1) % 5 ∧ (c + 1) % 5 < 5 := ⟨Int.emod_nonneg _ (by omega), Int.emod_lt_of_pos _ (by omega)⟩
    obtain ⟨p, hp, hp1⟩ : ∃ p : Int, L2.atI [T.int 2147483647, .int 2147483629, .int 2147483587, .int 2147483579, .int 2147483563] ((c + 1) % 5) = some (.int p) ∧ 0 < p ∧ p ≤ 2147483647 := by
      generalize (c + 1) % 5 = r at h5
      have : r = 0 ∨ r = 1 ∨ r = 2 ∨ r = 3 ∨ r = 4 := by omega
      rcases this with rfl | rfl | rfl | rfl | rfl
      · exact ⟨_, rfl, by decide⟩
      · exact ⟨_, rfl, by decide⟩
      · exact ⟨_, rfl, by decide⟩
      · exact ⟨_, rfl, by decide⟩
      · exact ⟨_, rfl, by decide⟩
    have hcc : 0 ≤ (c + 1) * (c + 1) ∧ (c + 1) * (c + 1) ≤ 1002001 := by
      constructor
      · exact Int.mul_nonneg (by omega) (by omega)
      · have := Int.mul_le_mul (show c + 1 ≤ 1001 by omega) (show c + 1 ≤ 1001 by omega) (by omega) (by omega)
        omega
    have hz : 92021 * (c + 1) * (c + 1) = 92021 * ((c + 1) * (c + 1)) := Int.mul_assoc _ _ _
    refine ⟨_, a, c + 1, runB_rt (sSeq_nx (sIf_f (tVal_ok (eOp_ok (eOp_ok (eVar_ok rfl) eC_ok (opIx_loc hM rfl)) eC_ok (opGt_f h))) sNil_ok)
      (sSeq_nx (sLput_ok (eOp_ok (eOp_ok (eVar_ok rfl) eC_ok (opIx_loc hM rfl)) eC_ok rfl) (eVar_ok rfl) eC_ok hM rfl)
      (sSeq_nx (sSet_ok (eOp_ok (eFroz_ok (eLst_ok (aCons_ok eC_ok (aCons_ok eC_ok (aCons_ok eC_ok (aCons_ok eC_ok (aCons_ok eC_ok aNil_ok))))) rfl)) (eOp_ok (eBi_ok (aCons_ok (eOp_ok (eVar_ok rfl) eC_ok (opIx_loc hM2 rfl)) aNil_ok) rfl) eC_ok (opMod_p (by omega))) (show opIx _ (.lst _) (.int _) = _ from hp)))
      (sSeq_nx (sSet_ok (eOp_ok (eBi_ok (aCons_ok (eOp_ok (eBi_ok (aCons_ok (eOp_ok (eOp_ok (eOp_ok (eVar_ok rfl) eC_ok (opIx_loc hM2 rfl)) (eOp_ok (eOp_ok eC_ok (eOp_ok (eVar_ok rfl) eC_ok (opIx_loc hM2 rfl)) (opMul_l (by decide))) (eOp_ok (eVar_ok rfl) eC_ok (opIx_loc hM2 rfl)) (opMul_r (by omega))) rfl) eC_ok rfl) aNil_ok) rfl) eC_ok (opPow_3 (by omega) (by omega))) aNil_ok) rfl) (eVar_ok rfl) (opMod_p hp1.1)))
      (sRet_ok (eOp_ok (eBi_ok (aCons_ok (eOp_ok (eOp_ok (eVar_ok rfl) (eOp_ok (eOp_ok (eBi_ok (aCons_ok (eVar_ok rfl) aNil_ok) rfl) eC_ok (opMod_p (by decide))) (eOp_ok eC_ok (eOp_ok (eVar_ok rfl) eC_ok (opIx_loc hM2 rfl)) (opMul_l (by decide))) rfl) (opMul_r (bnd_take _ _ hc))) eC_ok (opFdiv_p (by decide))) aNil_ok) rfl) (eVar_ok rfl) (opMod_p (by omega)))))))), ⟨Int.emod_nonneg _ (by omega), Int.emod_lt_of_pos _ (by omega)⟩, ha, by omega, by omega⟩

theorem map_erase (j : Nat) : ∀ (l : List (List Nat)) (j : Nat), (l.map T.str).eraseIdx j = (l.eraseIdx j).map T.str
  | [], _ => rfl
  | _ :: _, 0 => rfl
  | a :: l, j + 1 => by
    show T.str a :: (l.map T.str).eraseIdx j = T.str a :: (l.eraseIdx j).map T.str
    rw [map_erase j l j]
theorem erase_perm {α : Type} : ∀ (l : List α) (j : Nat) (h : j < l.length), (l[j] :: l.eraseIdx j).Perm l
  | a :: l, 0, _ => List.Perm.refl _
  | a :: l, j + 1, h => by
    have ih := erase_perm l j (Nat.lt_of_succ_lt_succ h)
    show ((l[j]'(Nat.lt_of_succ_lt_succ h)) :: a :: l.eraseIdx j).Perm (a :: l)
    exact (List.Perm.swap _ _ _).trans (ih.cons a)
theorem isLoc_t {M : Mem} {n : Nat} {xs : List T} (h : M[n]? = some (.lst xs)) : locL M (.loc n) = some (n, xs) := by
  show (match M[n]? with | some (.lst ts) => some (n, ts) | _ => none) = _
  rw [h]
theorem isLoc_b {M : Mem} {n : Nat} {xs : List T} (h : M[n]? = some (.lst xs)) : isLoc M (.loc n) = true := by
  unfold isLoc
  rw [isLoc_t h]
  rfl
theorem bLen_loc {M : Mem} {n : Nat} {xs : List T} (h : M[n]? = some (.lst xs)) : bLen M [.loc n] = some (.int xs.length) := by
  show (seqT M (.loc n)).map (fun xs => T.int xs.length) = _
  have : seqT M (.loc n) = some xs := by
    show (match M[n]? with | some (.lst ts) => some ts | _ => none) = _
    rw [h]
  rw [this]
  rfl
theorem ixN_ok {n : Nat} {d : Int} (h : 0 ≤ d ∧ d < n) : L2.ixN n d = some d.toNat := by
  unfold L2.ixN
  rw [if_pos h.1, if_pos h.2]
theorem draw_loop {n L : Nat} {b : Int} (hb : 0 ≤ b ∧ b < 2305843009213693951) (pool : List (List Nat)) (hp : pool.length ≤ 100) (pt kt : T) (hne : n ≠ L) (hne1 : n ≠ L + 1) : ∀ (ts : List T) (x : Option T) (M : Mem) (found left : List (List Nat)) (a c : Int),
    M[n]? = some (.lst [.int a, .int b, .int c]) → M[L]? = some (.lst (left.map .str)) → M[L + 1]? = some (.lst (found.map .str)) → (found ++ left).Perm pool → ts.length ≤ left.length → 0 ≤ a → 0 ≤ c → c + ts.length ≤ 1000 →
    ∃ (x' : Option T) (M' : Mem) (left' : List (List Nat)), forL (pName 5) (sExpr (eMt isLoc mAppend (eVar 4) (aCons (eMt isLoc mPopAt (eVar 3) (aCons (eCall 2 F_ulaw_take (([] : List T).drop 0) (aCons (eVar 0) (aCons (eBi bLen (aCons (eVar 3) aNil)) aNil))) aNil)) aNil))) ts [some (.loc n), some pt, some kt, some (.loc L), some (.loc (L + 1)), x] M
      = some (.nx [some (.loc n), some pt, some kt, some (.loc L), some (.loc (L + 1)), x'], M') ∧ ∃ ws : List (List Nat), M'[L + 1]? = some (.lst (ws.map .str)) ∧ (ws ++ left').Perm pool ∧ ws.length = found.length + ts.length
  | [], x, M, found, left, a, c, h1, h2, h3, hperm, _, _, _, _ => ⟨x, M, left, rfl, found, h3, hperm, rfl⟩
  | t :: ts, x, M, found, left, a, c, h1, h2, h3, hperm, hlen, ha, hc, hcl => by
    have hn : n < M.length := (List.getElem?_eq_some_iff.mp h1).1
    have hL : L < M.length := (List.getElem?_eq_some_iff.mp h2).1
    have hL1 : L + 1 < M.length := (List.getElem?_eq_some_iff.mp h3).1
    have hpl := hperm.length_eq
    rw [List.length_append] at hpl
    rw [List.length_cons] at hlen hcl
    obtain ⟨d, a', c', e1, hd, ha', hc', hc2⟩ := take_ok (u := (left.length : Nat)) h1 ha hb ⟨hc, by omega⟩ ⟨by omega, by omega⟩
    have g1 : (M.set n (.lst [.int a', .int b, .int c']))[n]? = some (.lst [.int a', .int b, .int c']) := List.getElem?_set_self hn
    have g2 : (M.set n (.lst [.int a', .int b, .int c']))[L]? = some (.lst (left.map .str)) := by rw [List.getElem?_set_ne hne]; exact h2
    have g3 : (M.set n (.lst [.int a', .int b, .int c']))[L + 1]? = some (.lst (found.map .str)) := by rw [List.getElem?_set_ne hne1]; exact h3
    have hj : d.toNat < left.length := by omega
    have hw : (left.map T.str)[d.toNat]? = some (.str left[d.toNat]) := by rw [List.getElem?_map, List.getElem?_eq_getElem hj]; rfl
    have e2 : mPopAt (M.set n (.lst [.int a', .int b, .int c'])) (.loc L) [.int d] = some (.str left[d.toNat], (M.set n (.lst [.int a', .int b, .int c'])).set L (.lst ((left.eraseIdx d.toNat).map .str))) := by
      unfold mPopAt
      rw [isLoc_t g2]
      have hbig : big (left.map T.str).length = true := decide_eq_true (by rw [List.length_map]; omega)
      have hix : L2.ixN (left.map T.str).length d = some d.toNat := ixN_ok ⟨hd.1, by rw [List.length_map]; exact hd.2⟩
      simp only [hbig, cond_true, hix, hw]
      rw [map_erase 0]
    have k3 : ((M.set n (.lst [.int a', .int b, .int c'])).set L (.lst ((left.eraseIdx d.toNat).map .str)))[L + 1]? = some (.lst (found.map .str)) := by rw [List.getElem?_set_ne (by omega)]; exact g3
    have e3 : mAppend ((M.set n (.lst [.int a', .int b, .int c'])).set L (.lst ((left.eraseIdx d.toNat).map .str))) (.loc (L + 1)) [.str left[d.toNat]] = some (.non, ((M.set n (.lst [.int a', .int b, .int c'])).set L (.lst ((left.eraseIdx d.toNat).map .str))).set (L + 1) (.lst ((found ++ [left[d.toNat]]).map .str))) := by
      unfold mAppend
      rw [isLoc_t k3]
      have hbig : big ((found.map T.str).length + 1) = true := decide_eq_true (by rw [List.length_map]; omega)
      simp only [hbig, cond_true, List.map_append, List.map_cons, List.map_nil]
    obtain ⟨x', M', left', q1, ws, q2, q3, q4⟩ := draw_loop hb pool hp pt kt hne hne1 ts (some t) (((M.set n (.lst [.int a', .int b, .int c'])).set L (.lst ((left.eraseIdx d.toNat).map .str))).set (L + 1) (.lst ((found ++ [left[d.toNat]]).map .str))) (found ++ [left[d.toNat]]) (left.eraseIdx d.toNat) a' c'
      (by rw [List.getElem?_set_ne (Ne.symm hne1), List.getElem?_set_ne (Ne.symm hne)]; exact g1) (by rw [List.getElem?_set_ne (by omega), List.getElem?_set_self (by rw [List.length_set]; exact hL)])
      (by rw [List.getElem?_set_self (by rw [List.length_set, List.length_set]; exact hL1)])
      (by
        rw [List.append_assoc]
        exact (List.Perm.append_left found (erase_perm left d.toNat hj)).trans hperm)
      (by rw [List.length_eraseIdx_of_lt hj]; omega) ha' hc' (by omega)
    refine ⟨x', M', left', ?_, ws, q2, q3, by rw [q4, List.length_append, List.length_cons, List.length_cons, List.length_nil]; omega⟩
    have step : sExpr (eMt isLoc mAppend (eVar 4) (aCons (eMt isLoc mPopAt (eVar 3) (aCons (eCall 2 F_ulaw_take (([] : List T).drop 0) (aCons (eVar 0) (aCons (eBi bLen (aCons (eVar 3) aNil)) aNil))) aNil)) aNil)) [some (.loc n), some pt, some kt, some (.loc L), some (.loc (L + 1)), some t] M
        = some (.nx [some (.loc n), some pt, some kt, some (.loc L), some (.loc (L + 1)), some t], ((M.set n (.lst [.int a', .int b, .int c'])).set L (.lst ((left.eraseIdx d.toNat).map .str))).set (L + 1) (.lst ((found ++ [left[d.toNat]]).map .str))) :=
      sExpr_ok (eMt_ok (eVar_ok rfl) (isLoc_b h3) (aCons_ok (eMt_ok (eVar_ok rfl) (isLoc_b h2) (aCons_ok (eCall_ok (aCons_ok (eVar_ok rfl) (aCons_ok (eBi_ok (aCons_ok (eVar_ok rfl) aNil_ok) (bLen_loc h2)) aNil_ok)) rfl (by rw [List.length_map]; exact e1)) aNil_ok) e2) aNil_ok) e3)
    unfold forL
    have hpn : pName 5 t [some (.loc n), some pt, some kt, some (.loc L), some (.loc (L + 1)), x] M = some [some (.loc n), some pt, some kt, some (.loc L), some (.loc (L + 1)), some t] := rfl
    rw [hpn]
    dsimp only
    rw [step]
    exact q1

theorem some_ok {M : Mem} {n k : Nat} {a b : Int} (pool : List (List Nat)) (hp : pool.length ≤ 100) (hk : k ≤ pool.length) (hM : M[n]? = some (.lst [.int a, .int b, .int 0])) (ha : 0 ≤ a) (hb : 0 ≤ b ∧ b < 2305843009213693951) :
    ∃ (M' : Mem) (left ws : List (List Nat)), F_ulaw_some [.loc n, .lst (pool.map .str), .int (k : Nat)] M = .ok (.loc (M.length + 1)) M' ∧ M'[M.length + 1]? = some (.lst (ws.map .str)) ∧ (ws ++ left).Perm pool ∧ ws.length = k := by
  have hn : n < M.length := (List.getElem?_eq_some_iff.mp hM).1
  have l2 : (M ++ [MO.lst (pool.map .str)]).length = M.length + 1 := by simp
  have g0 : ((M ++ [MO.lst (pool.map .str)]) ++ [.lst []])[n]? = some (.lst [.int a, .int b, .int 0]) := by rw [List.getElem?_append_left (by rw [l2]; omega), List.getElem?_append_left hn]; exact hM
  have g1 : ((M ++ [MO.lst (pool.map .str)]) ++ [.lst []])[M.length]? = some (.lst (pool.map .str)) := by rw [List.getElem?_append_left (by rw [l2]; omega), List.getElem?_append_right (Nat.le_refl _), Nat.sub_self]; rfl
  have g2 : ((M ++ [MO.lst (pool.map .str)]) ++ [.lst []])[M.length + 1]? = some (.lst (([] : List (List Nat)).map .str)) := by rw [← l2, List.getElem?_append_right (Nat.le_refl _), Nat.sub_self]; rfl
  have hrl : (rngT 0 k).length = k := by unfold rngT; rw [List.length_map, List.length_range]
  obtain ⟨x', M', left, e, ws, q1, q2, q3⟩ := draw_loop hb pool hp (.lst (pool.map .str)) (.int (k : Nat)) (n := n) (L := M.length) (by omega) (by omega) (rngT 0 k) none _ [] pool a 0 g0 g1 g2 (List.Perm.refl _) (by rw [hrl]; exact hk) ha (Int.le_refl 0) (by rw [hrl]; omega)
  refine ⟨M', left, ws, ?_, q1, q2, by rw [q3, hrl]; simp⟩
  have hr : rg1 [.int (k : Nat)] = some (rngT 0 k) := by
    have : inR (k : Nat) = true := by
      unfold inR
      rw [Bool.and_eq_true, decide_eq_true_eq, decide_eq_true_eq]
      omega
    show (bif inR (k : Nat) then some (rngT 0 ((k : Nat) : Int).toNat) else none) = _
    rw [this]
    rfl
  have e0 : sPar 3 4 (aCons (eNewL (eBiL bList (aCons (eVar 1) aNil))) (aCons (eNewL (eLst aNil)) aNil)) [some (.loc n), some (.lst (pool.map .str)), some (.int (k : Nat)), none, none, none] M = some (.nx [some (.loc n), some (.lst (pool.map .str)), some (.int (k : Nat)), some (.loc M.length), some (.loc (M.length + 1)), none], (M ++ [MO.lst (pool.map .str)]) ++ [.lst []]) := by
    have z := sPar_ok (i := 3) (j := 4) (aCons_ok (eNewL_ok (eBiL_ok (o := bList) (us := pool.map .str) (aCons_ok (eVar_ok (i := 1) (σ := [some (.loc n), some (.lst (pool.map .str)), some (.int (k : Nat)), none, none, none]) (M := M) rfl) aNil_ok) rfl)) (aCons_ok (eNewL_ok (eLst_ok aNil_ok rfl)) aNil_ok))
    rw [l2] at z
    exact z
  refine runB_rt (n := 6) (s := b_ulaw_some) (M1 := M') ?_
  show b_ulaw_some [some (.loc n), some (.lst (pool.map .str)), some (.int (k : Nat)), none, none, none] M = _
  unfold b_ulaw_some
  refine sSeq_nx e0 (sSeq_nx (M1 := M') (σ1 := [some (.loc n), some (.lst (pool.map .str)), some (.int (k : Nat)), some (.loc M.length), some (.loc (M.length + 1)), x']) ?_ (sRet_ok (eVar_ok rfl)))
  exact sFor_ok (iFun_ok (aCons_ok (eVar_ok rfl) aNil_ok) hr) e
theorem atI_map {zs : List Int} {k : Nat} (h : k < zs.length) : L2.atI (zs.map T.int) (k : Nat) = some (.int zs[k]) := by
  unfold L2.atI
  rw [List.length_map, ixN_ok ⟨by omega, by omega⟩]
  show (zs.map T.int)[((k : Nat) : Int).toNat]? = _
  rw [Int.toNat_natCast, List.getElem?_map, List.getElem?_eq_getElem h]
  rfl
theorem pot_ok (zs : List Int) (k : Nat) (hk : k ≤ 100) (M : Mem) : ∃ a b : Int, F_ulaw_pot [.klst (zs.map .int), .int (k : Nat)] M = .ok (.loc M.length) (M ++ [.lst [.int a, .int b, .int 0]]) ∧ 0 ≤ a ∧ 0 ≤ b ∧ b < 2305843009213693951 := by
  obtain ⟨z, hz⟩ : ∃ z : Int, eIf (tVal (eOp opLt (eVar 1) (eBi bLen (aCons (eVar 0) aNil)))) (eOp opIx (eVar 0) (eVar 1)) (eOp opPlus (eOp opMul (eC (.int 7)) (eVar 1)) (eC (.int 6))) [some (.klst (zs.map .int)), some (.int (k : Nat)), none, none, none] M = .ok (.int z) M := by
    have hl : bLen M [.klst (zs.map .int)] = some (.int zs.length) := by
      show some (T.int ((zs.map T.int).length : Nat)) = _
      rw [List.length_map]
    by_cases h : k < zs.length
    · exact ⟨zs[k], eIf_t (tVal_ok (eOp_ok (eVar_ok rfl) (eBi_ok (aCons_ok (eVar_ok rfl) aNil_ok) hl) (opLt_t (by omega)))) (eOp_ok (eVar_ok rfl) (eVar_ok rfl) (atI_map h))⟩
    · exact ⟨_, eIf_f (tVal_ok (eOp_ok (eVar_ok rfl) (eBi_ok (aCons_ok (eVar_ok rfl) aNil_ok) hl) (opLt_f (by omega)))) (eOp_ok (eOp_ok eC_ok (eVar_ok rfl) (opMul_l (by decide))) eC_ok rfl)⟩
  have pw : ∀ (i j : Int) (r : Int), (decide (0 ≤ j) && decide ((Builtin.Int.intBits i : Int) * j ≤ 2 ^ 27)) = true → i ^ j.toNat = r → opPow M (.int i) (.int j) = some (.int r) := fun i j r h1 h2 => by
    show (bif decide (0 ≤ j) && decide ((Builtin.Int.intBits i : Int) * j ≤ 2 ^ 27) then some (T.int (i ^ j.toNat)) else none) = _
    rw [h1, ← h2]
    rfl
  have p1 : ∀ σ : TV, eOp opPow (eOp opPow (eC (.int 10)) (eC (.int 60))) (eC (.int 5)) σ M = .ok (.int ((10 ^ 60) ^ 5)) M := fun σ => eOp_ok (eOp_ok eC_ok eC_ok (pw 10 60 (10 ^ 60) (by decide +kernel) rfl)) eC_ok (pw (10 ^ 60) 5 _ (by decide +kernel) rfl)
  have p2 : ∀ σ : TV, eOp opPow (eC (.int 10)) (eC (.int 18)) σ M = .ok (.int (10 ^ 18)) M := fun σ => eOp_ok eC_ok eC_ok (pw 10 18 _ (by decide +kernel) rfl)
  have hpos : (0 : Int) < (10 ^ 60) ^ 5 := by decide +kernel
  generalize ((10 : Int) ^ 60) ^ 5 = P at p1 hpos
  generalize (10 : Int) ^ 18 = P18 at p2
  generalize hw : (if z < 0 then -z else z) = w
  have hab : bAbs M [.int z] = some (.int w) := by
    show some (T.int (if z < 0 then -z else z)) = _
    rw [hw]
  obtain ⟨e, he, he1⟩ : ∃ e : Int, eBi bInt (aCons (eOp opGe (eBi bAbs (aCons (eVar 2) aNil)) (eOp opPow (eC (.int 10)) (eC (.int 18)))) aNil) [some (.klst (zs.map .int)), some (.int (k : Nat)), some (.int z), none, none] M = .ok (.int e) M ∧ 0 ≤ e ∧ e ≤ 1 := by
    refine ⟨if decide (P18 ≤ w) then 1 else 0, eBi_ok (aCons_ok (eOp_ok (eBi_ok (aCons_ok (eVar_ok rfl) aNil_ok) hab) (p2 _) rfl) aNil_ok) rfl, ?_⟩
    split <;> omega
  refine ⟨w % P * e, (z % 2305843009213693951 * 78323 + 9007 * (k : Nat) * (k : Nat) + 229) % 2305843009213693921, ?_, Int.mul_nonneg (Int.emod_nonneg _ (by omega)) he1.1, Int.emod_nonneg _ (show (2305843009213693921 : Int) ≠ 0 by decide), Int.lt_trans (Int.emod_lt_of_pos _ (show (0 : Int) < 2305843009213693921 by decide)) (by decide)⟩
  refine runB_rt (n := 5) (s := b_ulaw_pot) ?_
  show b_ulaw_pot [some (.klst (zs.map .int)), some (.int (k : Nat)), none, none, none] M = _
  unfold b_ulaw_pot
  exact sSeq_nx (sSet_ok hz) (sSeq_nx (sSet_ok (eOp_ok (eOp_ok (eBi_ok (aCons_ok (eBi_ok (aCons_ok (eVar_ok rfl) aNil_ok) hab) aNil_ok) rfl) (p1 _) (opMod_p hpos)) he (opMul_r (by omega))))
    (sSeq_nx (sSet_ok (eOp_ok (eBi_ok (aCons_ok (eVar_ok rfl) aNil_ok) rfl) eC_ok (opMod_p (j := 2305843009213693951) (by decide))))
    (sRet_ok (eNewL_ok (eLst_ok (aCons_ok (eVar_ok rfl) (aCons_ok (eOp_ok (eBi_ok (aCons_ok (eOp_ok (eOp_ok (eOp_ok (eVar_ok rfl) eC_ok (opMul_r (j := 78323) (by decide))) (eOp_ok (eOp_ok eC_ok (eVar_ok rfl) (opMul_l (i := 9007) (by decide))) (eVar_ok rfl) (opMul_r (j := (k : Nat)) (by omega))) rfl) eC_ok rfl) aNil_ok) rfl) eC_ok (opMod_p (j := 2305843009213693921) (by decide))) (aCons_ok eC_ok aNil_ok))) rfl)))))
theorem places_ok (zs : List Int) (m : Nat) (hm : m ≤ 1000) (M : Mem) : ∃ k : Nat, k ≤ m + 1 ∧ F_ulaw_places [.klst (zs.map .int), .int (m : Nat)] M = .ok (.lst (rngT 0 k)) M := by
  have hl : bLen M [.klst (zs.map .int)] = some (.int zs.length) := by
    show some (T.int ((zs.map T.int).length : Nat)) = _
    rw [List.length_map]
  obtain ⟨w, hw, hw1, hw2⟩ : ∃ w : Int, eBi bMax2 (aCons (eC (.int 1)) (aCons (eBi bMin2 (aCons (eVar 1) (aCons (eBi bLen (aCons (eVar 0) aNil)) aNil))) aNil)) [some (.klst (zs.map .int)), some (.int (m : Nat))] M = .ok (.int w) M ∧ 0 ≤ w ∧ w ≤ m + 1 := by
    refine ⟨if (if (zs.length : Int) < (m : Nat) then (zs.length : Int) else (m : Nat)) > 1 then (if (zs.length : Int) < (m : Nat) then (zs.length : Int) else (m : Nat)) else 1, eBi_ok (aCons_ok eC_ok (aCons_ok (eBi_ok (aCons_ok (eVar_ok rfl) (aCons_ok (eBi_ok (aCons_ok (eVar_ok rfl) aNil_ok) hl) aNil_ok)) rfl) aNil_ok)) rfl, ?_⟩
    split <;> split <;> omega
  refine ⟨w.toNat, by omega, ?_⟩
  refine runB_rt (n := 2) (s := b_ulaw_places) ?_
  show b_ulaw_places [some (.klst (zs.map .int)), some (.int (m : Nat))] M = _
  unfold b_ulaw_places
  refine sRet_ok (eFroz_ok ?_)
  unfold eLrg
  rw [hw]
  show Res.of (bif decide (0 ≤ w) && decide (w ≤ 1000000) then some (rngT 0 w.toNat) else none) M = _
  rw [decide_eq_true hw1, decide_eq_true (show w ≤ 1000000 by omega)]
  rfl

def poolW : List (List Nat) := [[97], [98], [119, 111, 114, 107, 115], [97, 104, 101, 97, 100], [100, 117, 101], [104, 97, 110, 100, 115], [100, 97, 121], [120], [107, 101, 112, 116], [122, 122]]
theorem okW_perm {pool ws left : List (List Nat)} (hp : (ws ++ left).Perm pool) (h1 : pool.all mayBe = true) (h2 : (pool ++ extraW).Nodup) (n : Nat) (hn : ws.length = n) (hs : n ≤ symN) : okW n ws = true := by
  unfold okW
  rw [Bool.and_eq_true, Bool.and_eq_true, Bool.and_eq_true]
  refine ⟨⟨⟨decide_eq_true hn, List.all_eq_true.mpr fun w hw => List.all_eq_true.mp h1 w (hp.mem_iff.mp (List.mem_append_left _ hw))⟩, decide_eq_true ?_⟩, decide_eq_true hs⟩
  have h3 : ((ws ++ left) ++ extraW).Nodup := (List.Perm.append_right extraW hp).nodup_iff.mpr h2
  rw [List.append_assoc] at h3
  have e : (ws ++ extraW).Sublist (ws ++ (left ++ extraW)) := (List.Sublist.refl ws).append (List.sublist_append_right left extraW)
  exact h3.sublist e
theorem strsT_map : ∀ ws : List (List Nat), strsT (ws.map T.str) = some ws
  | [] => rfl
  | w :: ws => by
    show (strsT (ws.map T.str)).map (w :: ·) = _
    rw [strsT_map ws]
    rfl
theorem right_ok {M : Mem} {n : Nat} {a b : Int} (hM : M[n]? = some (.lst [.int a, .int b, .int 0])) (ha : 0 ≤ a) (hb : 0 ≤ b ∧ b < 2305843009213693951) : ∃ M', F_ulaw_right [.loc n] M = .ok (.bl true) M' := by
  obtain ⟨M1, left, ws, e, h1, hp, hl⟩ := some_ok (k := 8) poolW (by decide) (by decide) hM ha hb
  have ok : okW 8 ws = true := okW_perm hp (by decide) (by decide +kernel) 8 hl (by decide)
  unfold F_ulaw_right splitF
  have e1 : b1_ulaw_right ([T.loc n].map some ++ List.replicate (2 - [T.loc n].length) none) M = some (.nx (([T.loc n].map some ++ List.replicate (2 - [T.loc n].length) none).set 1 (some (.loc (M.length + 1)))), M1) := by
    unfold b1_ulaw_right
    refine sSet_ok (eCall_ok (aCons_ok (eVar_ok rfl) (aCons_ok (eFroz_ok (eLst_ok (aCons_ok eC_ok (aCons_ok eC_ok (aCons_ok eC_ok (aCons_ok eC_ok (aCons_ok eC_ok (aCons_ok eC_ok (aCons_ok eC_ok (aCons_ok eC_ok (aCons_ok eC_ok (aCons_ok eC_ok aNil_ok)))))))))) rfl)) (aCons_ok eC_ok aNil_ok))) rfl ?_)
    exact e
  rw [e1]
  have e2 : wordsAt 1 (([T.loc n].map some ++ List.replicate (2 - [T.loc n].length) none).set 1 (some (.loc (M.length + 1)))) M1 = some ws := by
    show (lstT M1 (.loc (M.length + 1))).bind strsT = _
    have : lstT M1 (.loc (M.length + 1)) = some (ws.map .str) := by
      show (match M1[M.length + 1]? with | some (.lst ts) => some ts | _ => none) = _
      rw [h1]
    rw [this]
    exact strsT_map ws
  simp only [e2, ok]
  exact ⟨_, rfl⟩
theorem law_ok (zs : List Int) (M : Mem) : ∃ M', F_law [.klst (zs.map .int)] M = .ok (.bl true) M' := by
  obtain ⟨k, hk, e1⟩ := places_ok zs 4 (by decide) M
  have hrl : (rngT 0 k).length = k := by unfold rngT; rw [List.length_map, List.length_range]
  obtain ⟨M', e2⟩ := compL_all (n := 1) (t0 := .bl true) (f := eCall 1 F_ulaw_right (([] : List T).drop 0) (aCons (eCall 2 F_ulaw_pot (([] : List T).drop 0) (aCons (eVar 0) (aCons (eVar 1) aNil))) aNil))
    (σ := wipeT [some (.klst (zs.map .int)), none] (List.map (·.2) ([("_law_place", 1)] : List (Str × Nat)))) (fun t => ∃ i : Nat, t = .int (i : Nat) ∧ i ≤ 100) (fun t M ⟨i, ht, hi⟩ => by
      subst ht
      obtain ⟨a, b, h1, h2, h3⟩ := pot_ok zs i hi M
      obtain ⟨M2, h4⟩ := right_ok (M := M ++ [.lst [.int a, .int b, .int 0]]) (n := M.length) (a := a) (b := b) (by rw [List.getElem?_append_right (Nat.le_refl _), Nat.sub_self]; rfl) h2 ⟨h3.1, by omega⟩
      exact ⟨M2, eCall_ok (aCons_ok (eCall_ok (aCons_ok (eVar_ok rfl) (aCons_ok (eVar_ok rfl) aNil_ok)) rfl h1) aNil_ok) rfl h4⟩) (rngT 0 k) [] M (fun t ht => by
      unfold rngT at ht
      obtain ⟨i, hi, rfl⟩ := List.mem_map.mp ht
      have := List.mem_range.mp hi
      exact ⟨i, by rw [Int.zero_add], by omega⟩)
  refine ⟨M', runB_rt (n := 2) (s := b_law) ?_⟩
  show b_law [some (.klst (zs.map .int)), none] M = _
  unfold b_law
  refine sRet_ok (eBi_ok (aCons_ok (eFroz_ok (eLc_ok (iSeqS_ok (eCall_ok (aCons_ok (eVar_ok rfl) (aCons_ok eC_ok aNil_ok)) rfl e1) rfl) (decide_eq_true (by rw [hrl]; omega)) e2)) aNil_ok) ?_)
  exact bAll_rep
end K03
namespace K03
open PySem PySem.Spec PyProof.Rows L2 Mi
def rho0 : Rho := rhoOf (n := 0) (ws := []) (by decide)
theorem lawF {P : Program} [ProgF P] {w : World} {K : PySem.W.Frag} {mg : Str → Option Value} (g : Gf fa fn ck K mg) : ∃ fd, (∀ (s : Shared) (v : Value), BindsTo s fd ⟨[v], []⟩ [("_law_script", v)]) ∧ ∀ base : Heap, FnQ P w K mg base (fun _ _ _ _ _ _ => False) 15 (He.ga K "law") fd ["_law_script"] (fun vs H Q _ => spF K (omOf K rho0) 1 F_law vs H Q fun _ _ _ => False) := by
  obtain ⟨fd, F⟩ := g.def_ 28 (d := fn.getD 28 dummyD)
  have b := FunD.bindsA (ps := ["_law_script"]) F fun _ _ _ _ _ _ us hl => match us, hl with | [_], _ => rfl
  exact ⟨fd, fun s v => b s [v] rfl, fun base => (calm_fn (fnOk_of F sc_law (bs_law g))).q⟩
end K03
instance : Mi.ProgF (PySem.Challenge.rw_stretchneeds_k03_bounds_of_books).prog := ⟨by decide +kernel, by decide +kernel⟩
open PySem PySem.W PySem.Calls PyProof.Rows
theorem PySem.Challenge.cw_stretchneeds_k03_bounds_of_books_holds : PySem.Challenge.rw_stretchneeds_k03_bounds_of_books.Holds := by
  w_on; o_law
  refine HandSHeadRun.head_any (r := OpenLaw.row PySem.Challenge.rw_stretchneeds_k03_bounds_of_books) (q := view (OpenLaw.row PySem.Challenge.rw_stretchneeds_k03_bounds_of_books).prog [52]) (H := K03.hk) (ob := K03.ob) (M := 8000) (loose := K03.loose) (d := HandSHeadRun.topDef (OpenLaw.row PySem.Challenge.rw_stretchneeds_k03_bounds_of_books).prog 52) (kwd := []) K03.ob_eq
    (by kernel_rfl) (fun s => by kernel_rfl) K03.run (by kernel_rfl) (by kernel_rfl) (by kernel_rfl) (by rfl) (by first | assumption | decide +kernel) (by decide +kernel) ⟨rfl, rfl, rfl, rfl, rfl, by decide +kernel⟩ ?hw ?hc
  case hw => w_witness2
  case hc =>
    refine Mi.walkL (l := PySem.Challenge.rw_stretchneeds_k03_bounds_of_books) (n := 63) (k := 15) (x := "_law_script") rfl (by decide) (by kernel_rfl) ⟨rfl, by decide, by decide⟩ ?F
    intro w mg fa h Y G hmg0
    obtain ⟨K, KX, c, cE⟩ := Y
    have hmg : mg ("law" : PySem.Str) = some (.ref fa) := by
      have e : (HandSHeadRun.topDef (OpenLaw.row PySem.Challenge.rw_stretchneeds_k03_bounds_of_books).prog 52).name = ("law" : PySem.Str) := by kernel_rfl
      rw [← e]
      exact hmg0
    have g : Mi.Gf K03.fa K03.fn K03.ck K mg := ⟨h, KX, G, c⟩
    have ef := hmg.symm.trans (g.glo (x := "law") 99 rfl)
    cases ef
    obtain ⟨fd, hb, hF⟩ := K03.lawF (P := (PySem.Challenge.rw_stretchneeds_k03_bounds_of_books).prog) (w := w) g
    exact ⟨K, fd, fun vs H Q _ => Mi.spF K (K03.omOf K K03.rho0) 1 K03.F_law vs H Q fun _ _ _ => False, K03.tbs.map (·.1), KX, Mi.ckAll_at (g.says.chk 0 (f := Mi.ckAll K03.tbs) rfl), cE, hb, fun H a ns _ ho hp hs => Mi.law_spL (fun zs => K03.law_ok zs []) H a ns ho hs (Mi.tabs_new hp), hF⟩
