import PyProof.Rows.All
import HandS.Head0
import HandS.Head1
import HandS.Head2
import HandS.HeadEnd
import HandS.HeadHook1
import HandS.HeadHook2
import HandS.HeadHook3
import HandS.HeadHook4
import HandS.HeadWalk
import HandS.HeadNt
import Wide.All
import OpenK.AllK
import Wide.FinOn
import HandS.ForMost
import HandS.ForExc
import HandS.IsInst
import HandS.FStr
import HandS.TupAny
import HandS.Star
import HandS.Lambda
import HandS.EndTab
import HandS.StrMore
import HandS.Style
import HandS.Zip
import HandS.Small
import HandS.ExcInit
import HandS.ExcIs
import HandS.ExcField
import HandS.TryMany
import HandS.Defaults
import HandS.MakeKwOnly
import HandS.Wide
import PyProof.ListStr
import KE.GoesOver
import KE.GoesMore
import KE.GoesEnum
import KE.GoesNew
import HandS.SortInts
import HandS.SetFor
import HandS.Strs
import PyProof.NeKinds
import HandS.ClsMeth
import HandS.New0
import KE.KCallOwn
import KE.KFmtOwn
import KE.KDictList
import HandS.OwnEq
import HandS.Deep
import HandS.DictComp
import HandS.ListItems
import HandS.StrSplit
import KE.KOpsOwn
import KE.KDictZip
import KE.KExcInit
import HandS.ExcOwn
import HandS.RaiseMore
import HandS.Finally
import HandS.SortRule
import HandS.More
import KE.KItemsList
import HandS.GenList
import HandS.Replace
import HandS.HotCalls
import PyProof.ReprNest
import PyProof.ReprDict
import PyProof.ReprRoads
import HandS.ExcValue
import KE.KDictKeyed
import KE.KeyNested
import OpenK.KOps
import OpenK.KMeth
import KE.KEqDict
import HandS.TupMul
import PyProof.EqKinds
import PyProof.FactsAll.dict
import HandS.Property
import HandS.List
import KE.KxField
import KE.DataMinMax
import HandS.Conv
import HandS.SuiteRaise
import HandS.RaiseFrom
import HandS.ExcInitHot
import HandS.ReplaceLit
import PySem.Challenge.RW_figurelines_k12_errors_and_limits
set_option Elab.async false
set_option linter.all false
set_option maxRecDepth 100000
set_option maxHeartbeats 4000000
namespace Fg
open PySem PySem.Spec PyProof.Rows L2
def hdG (x : Str) (st : Stmt) : He.DefD := ⟨(x, none), x, x, defArgs st, defBody st, defScope st, [], []⟩
def dM (C m q : Str) (st : Stmt) : He.DefD := ⟨(C, some m), m, q, defArgs st, defBody st, defScope st, [], []⟩
/-- an own error class -/
def oeB (K : PySem.W.Frag) (C : Addr) : Bool := (match K.lookup C with
  | some ⟨.type t, _, .cls cd, sl⟩ => decide (t = "type") && ((match cd.mro with
    | .ref c :: bm => decide (c = C) && PySem.HandSPX.refsVE bm
    | _ => false) && ((cd.hasDict && !cd.hasDel) && (match sl.toList with
    | [_, _, _, _, some (.builtin n), _] => decide (n = "ValueError.__new__")
    | _ => false)))
  | _ => false) && (decide (PySem.W.findIn K (.ref C) "__setattr__" = some (some (.builtin "object.__setattr__"))) && (decide (PySem.W.subIn K (.ref C) (.type "BaseException") = some true) && (decide (PySem.W.typeIn K (.ref C) = some (.type "type")) && PySem.W.keepIn K (.ref C))))
def xcB (K : PySem.W.Frag) (D : Addr) : Bool := decide (PySem.W.findIn K (.ref D) "__getattribute__" = some (some (.builtin "BaseException.__getattribute__"))) && (decide (PySem.W.findIn K (.ref D) "__getattr__" = some none) && (decide (PySem.W.subIn K (.ref D) (.type "BaseException") = some true) &&
  (PySem.W.hasDictIn K D && (decide (PySem.W.findIn K (.ref D) "__class__" = some (some (.builtin "object.__class__"))) && (decide (PySem.W.specialIn K (.builtin "object.__class__") "__get__" = some (some (.builtin "getset_descriptor.__get__"))) &&
  (decide (PySem.W.takesIn K (.builtin "object.__class__") = some true) && decide (PySem.W.mroIn K D (.type "object") = some true)))))))
/-- what isinstance asks of the instances' class -/
def inB (K : PySem.W.Frag) (C : Addr) : Bool := decide (PySem.W.findIn K (.ref C) "__class__" = some (some (.builtin "object.__class__"))) && (decide (PySem.W.specialIn K (.builtin "object.__class__") "__get__" = some (some (.builtin "getset_descriptor.__get__"))) &&
  (decide (PySem.W.takesIn K (.builtin "object.__class__") = some true) && decide (PySem.W.mroIn K C (.type "object") = some true)))
def entB (K : PySem.W.Frag) : List DictEntry → List (Str × He.Dv) → Bool
  | [], [] => true
  | e :: r, q :: qs => (match e.key with
    | .str x _ => decide (x = q.1)
    | _ => false) && (He.relB (q.2.v K) e.val && entB K r qs)
  | _, _ => false
def tabB (K : PySem.W.Frag) (d : Addr) (kvs : List (Str × He.Dv)) : Bool := match K.lookup d with
  | some ⟨_, _, .dict es _, _⟩ => entB K es.toList kvs
  | _ => false
abbrev AlY : Type := He.AlT × (Bool × List He5.FnW)
structure SaysY (fa : List He.Fa) (fn : List He.DefD) (ts : List He.Tab) (tf : List He.Defn) (ex : PySem.W.Frag → Bool) (sm : List He5.DefA) (w : World) (h : Heap) (K : PySem.W.Frag) : Prop where
  x : He.SaysX fa fn ts tf ex w h K
  smo : (sm.all fun d => d.ok K) = true
  sme : (sm.map fun d => He5.fnA K (d.at_ K)) = sm.map He5.DefA.val
def obsYK (fa : List He.Fa) (fn : List He.DefD) (ts : List He.Tab) (tf : List He.Defn) (ex : PySem.W.Frag → Bool) (sm : List He5.DefA) (g : Addr → Option Obj) (K : PySem.W.Frag) : AlY :=
  (He.obsT fa fn ts K, (ex K && (He.tabsB g tf K && sm.all fun d => d.ok K), sm.map fun d => He5.fnA K (d.at_ K)))
def valY (fn : List He.DefD) (ts : List He.Tab) (sm : List He5.DefA) (w : World) : AlY := (He.valT fn ts w, (true, sm.map He5.DefA.val))
theorem saysY_at {fa : List He.Fa} {fn : List He.DefD} {ts : List He.Tab} {tf : List He.Defn} {ex : PySem.W.Frag → Bool} {sm : List He5.DefA} {w : World} {h : Heap} {as : List Addr} {K : PySem.W.Frag} (eK : K = He.frT h.get? as) (e : obsYK fa fn ts tf ex sm h.get? K = valY fn ts sm w) : SaysY fa fn ts tf ex sm w h K := by
  unfold obsYK valY at e
  simp only [Prod.mk.injEq] at e
  obtain ⟨e1, e2, e3⟩ := e
  obtain ⟨e2, e4⟩ := He.ba e2
  obtain ⟨e5, e6⟩ := He.ba e4
  have key : ∀ p ∈ tf, PySem.W.codeHdIn K (He.cT K p).1 (He.cT K p).2 = true ∧ ∃ o, h.get? (He.cT K p).2 = some o ∧ He.emptyTab o = true := fun p hp => by
    obtain ⟨k1, k2⟩ := He.ba (List.all_eq_true.mp e5 p hp)
    refine ⟨k1, ?_⟩
    cases q : h.get? (He.cT K p).2 with
    | some o => exact ⟨o, rfl, by rw [q] at k2; exact k2⟩
    | none => rw [q] at k2; cases k2
  refine ⟨⟨e1, e2, fun p hp => (key p hp).1, fun p hp => ?_, fun p hp => ?_⟩, e6, e3⟩
  · obtain ⟨_, o, q, z⟩ := key p hp
    have := He.frT_none (as := as) q z
    rw [← eK] at this
    exact this
  · obtain ⟨_, o, q, z⟩ := key p hp
    rw [q, He.emptyTab_eq z]
def refsV (g : Addr → Option Obj) : List Addr → List Addr
  | [] => []
  | a :: r => (match g a with
    | some o => He.refsD o
    | none => []) ++ refsV g r
def markV {β : Type} : List Addr → Nat → List Addr → (Nat → List Addr → β) → β
  | [], v, new, k => k v new
  | r :: rs, v, new, k => HandSHeadRun.frNat r fun r => match Nat.beq (Nat.land (Nat.shiftRight v r) 1) 1 with
    | true => markV rs v new k
    | false => HandSHeadRun.frNat (Nat.lor v (Nat.shiftLeft 1 r)) fun v => markV rs v (r :: new) k
def levV (g : Addr → Option Obj) : Nat → List Addr → Nat → List Addr → List Addr
  | 0, f, _, acc => acc ++ f
  | n + 1, f, v, acc => markV (refsV g f) v [] fun v new => levV g n new.reverse v (acc ++ f)
def asV (g : Addr → Option Obj) (n : Nat) : List Addr := levV g n [mainGlobals] (Nat.shiftLeft 1 mainGlobals) []
def obsV (n : Nat) (fa : List He.Fa) (fn : List He.DefD) (ts : List He.Tab) (tf : List He.Defn) (ex : PySem.W.Frag → Bool) (sm : List He5.DefA) (g : Addr → Option Obj) : AlY := obsYK fa fn ts tf ex sm g (He.frT g (asV g n ++ [cStatics, sysModules]))
def hookV (n : Nat) (fa : List He.Fa) (fn : List He.DefD) (ts : List He.Tab) (tf : List He.Defn) (ex : PySem.W.Frag → Bool) (sm : List He5.DefA) : PySem.W.Hook where
  α := AlY
  obs s := obsV n fa fn ts tf ex sm s.heap.get?
  val w := valY fn ts sm w
  says w h := ∃ K : PySem.W.Frag, K.In h ∧ SaysY fa fn ts tf ex sm w h K
  of _ _ e := ⟨_, He.frT_in, saysY_at rfl e⟩
  keeps _ _ _ := fun ⟨K, hK, c⟩ k => ⟨K, hK.keeps k, ⟨⟨c.x.t, c.x.more, c.x.hd, c.x.out, fun p hp => k _ _ (c.x.empty p hp)⟩, c.smo, c.sme⟩⟩
theorem obsV_eq (n : Nat) (fa : List He.Fa) (fn : List He.DefD) (ts : List He.Tab) (tf : List He.Defn) (ex : PySem.W.Frag → Bool) (sm : List He5.DefA) {g : Addr → Option Obj} {s : Shared} (h : ∀ a, g a = s.heap.get? a) : obsV n fa fn ts tf ex sm g = (hookV n fa fn ts tf ex sm).obs s := by
  obtain rfl : g = s.heap.get? := funext h
  rfl
def oeL (K : PySem.W.Frag) (C : Addr) : Bool := (match K.lookup C with
  | some ⟨.type t, _, .cls cd, sl⟩ => decide (t = "type") && ((match cd.mro with
    | .ref c :: bm => decide (c = C) && PySem.W.excTail [.type "LookupError", .type "Exception", .type "BaseException", .type "object"] bm
    | _ => false) && ((cd.hasDict && !cd.hasDel) && (match sl.toList with
    | [_, _, _, _, some (.builtin n), _] => decide (n = "LookupError.__new__")
    | _ => false)))
  | _ => false) && (decide (PySem.W.findIn K (.ref C) "__setattr__" = some (some (.builtin "object.__setattr__"))) && (decide (PySem.W.subIn K (.ref C) (.type "BaseException") = some true) && (decide (PySem.W.typeIn K (.ref C) = some (.type "type")) && PySem.W.keepIn K (.ref C))))
def oeA (K : PySem.W.Frag) (C : Addr) : Bool := (match K.lookup C with
  | some ⟨.type t, _, .cls cd, sl⟩ => decide (t = "type") && ((match cd.mro with
    | .ref c :: bm => decide (c = C) && PySem.W.excTail [.type "ArithmeticError", .type "Exception", .type "BaseException", .type "object"] bm
    | _ => false) && ((cd.hasDict && !cd.hasDel) && (match sl.toList with
    | [_, _, _, _, some (.builtin n), _] => decide (n = "ArithmeticError.__new__")
    | _ => false)))
  | _ => false) && (decide (PySem.W.findIn K (.ref C) "__setattr__" = some (some (.builtin "object.__setattr__"))) && (decide (PySem.W.subIn K (.ref C) (.type "BaseException") = some true) && (decide (PySem.W.typeIn K (.ref C) = some (.type "type")) && PySem.W.keepIn K (.ref C))))
def ozB (K : PySem.W.Frag) (C : Addr) : Bool := PySem.W.excIn K C [.type "LookupError", .type "Exception", .type "BaseException", .type "object"] "LookupError.__new__" && (decide (PySem.W.subIn K (.ref C) (.type "BaseException") = some true) && (decide (PySem.W.typeIn K (.ref C) = some (.type "type")) && PySem.W.keepIn K (.ref C)))
def top (i : Nat) : Stmt := PySem.Challenge.pw_figurelines_k12_errors_and_limits.main.body.getD i (.Pass ⟨0, 0, 0, 0⟩)
abbrev s_NotAFormatdd_initdd : Stmt := inClass (top 4) 0
abbrev s_NotALinedd_initdd : Stmt := inClass (top 5) 0
abbrev s_NotALedgerdd_initdd : Stmt := inClass (top 6) 0
abbrev s_InvalidNumberdd_initdd : Stmt := inClass (top 7) 0
abbrev s_InvalidTextdd_initdd : Stmt := inClass (top 8) 0
abbrev s_InvalidNamedd_initdd : Stmt := inClass (top 9) 0
abbrev s_InvalidWishdd_initdd : Stmt := inClass (top 10) 0
abbrev s_InvalidSignsdd_initdd : Stmt := inClass (top 11) 0
abbrev s_InvalidRowdd_initdd : Stmt := inClass (top 12) 0
abbrev s_UnknownNamedd_initdd : Stmt := inClass (top 13) 0
abbrev s_UnknownSettingdd_initdd : Stmt := inClass (top 14) 0
abbrev s_UnknownKinddd_initdd : Stmt := inClass (top 15) 0
abbrev s_InvalidSettingdd_initdd : Stmt := inClass (top 16) 0
abbrev s_InvalidRangedd_initdd : Stmt := inClass (top 17) 0
abbrev s_InvalidPartsdd_initdd : Stmt := inClass (top 18) 0
abbrev s_InvalidNumbersdd_initdd : Stmt := inClass (top 19) 0
abbrev s_InvalidKindsdd_initdd : Stmt := inClass (top 20) 0
abbrev s_InvalidDeedsdd_initdd : Stmt := inClass (top 21) 0
abbrev s_NoSuchRowdd_initdd : Stmt := inClass (top 24) 0
abbrev s_TooLongdd_initdd : Stmt := inClass (top 25) 0
abbrev s_l_pot : Stmt := top 34
abbrev s_l_spoon : Stmt := top 35
abbrev s_l_of : Stmt := top 36
abbrev s_l_values : Stmt := top 37
abbrev s_l_indexes : Stmt := top 38
abbrev s_l_kept_right : Stmt := top 39
abbrev s_l_classes : Stmt := top 40
abbrev s_l_kin : Stmt := top 41
abbrev s_l_right : Stmt := top 42
abbrev s_law : Stmt := top 43
def headFa : List He.Fa := [.glo "NotAFormat", .meth "NotAFormat" "__init__", .noat "NotAFormat" "value", .glo "NotALine", .meth "NotALine" "__init__", .noat "NotALine" "value", .glo "NotALedger", .meth "NotALedger" "__init__", .noat "NotALedger" "value", .glo "InvalidNumber", .meth "InvalidNumber" "__init__", .noat "InvalidNumber" "value", .glo "InvalidText", .meth "InvalidText" "__init__", .noat "InvalidText" "value", .glo "InvalidName", .meth "InvalidName" "__init__", .noat "InvalidName" "value", .glo "InvalidWish", .meth "InvalidWish" "__init__", .noat "InvalidWish" "value", .glo "InvalidSigns", .meth "InvalidSigns" "__init__", .noat "InvalidSigns" "value", .glo "InvalidRow", .meth "InvalidRow" "__init__", .noat "InvalidRow" "value", .glo "UnknownName", .meth "UnknownName" "__init__", .noat "UnknownName" "value", .glo "UnknownSetting", .meth "UnknownSetting" "__init__", .noat "UnknownSetting" "value", .glo "UnknownKind", .meth "UnknownKind" "__init__", .noat "UnknownKind" "value", .glo "InvalidSetting", .meth "InvalidSetting" "__init__", .noat "InvalidSetting" "setting", .glo "InvalidRange", .meth "InvalidRange" "__init__", .noat "InvalidRange" "end", .glo "InvalidParts", .meth "InvalidParts" "__init__", .noat "InvalidParts" "index", .glo "InvalidNumbers", .meth "InvalidNumbers" "__init__", .noat "InvalidNumbers" "index", .glo "InvalidKinds", .meth "InvalidKinds" "__init__", .noat "InvalidKinds" "index", .glo "InvalidDeeds", .meth "InvalidDeeds" "__init__", .noat "InvalidDeeds" "index", .glo "NoSuchRow", .meth "NoSuchRow" "__init__", .noat "NoSuchRow" "place", .glo "TooLong", .meth "TooLong" "__init__", .noat "TooLong" "limit", .glo "_law_spoon", .free "int", .glo "_law_of", .free "len", .glo "_law_values", .glo "_law_indexes", .glo "_law_kept_right", .free "repr", .glo "_law_kin", .glo "Unfit", .free "isinstance", .glo "Unready", .glo "Beyond", .free "ValueError", .free "LookupError", .free "ArithmeticError", .glo "_law_classes", .glo "NothingToUndo", .glo "Busy", .glo "_law_right", .free "all", .int "MOST_PARTS" 8, .int "MOST_FIELDS" 4, .int "MOST_WIDTH" 12, .int "MOST_GROUP" 4, .int "MOST_BOUND" 1000000000000, .int "MOST_LENGTH" 400, .int "MOST_KINDS" 6, .glo "_law_pot", .free "abs", .glo "law", .free "range", .free "max", .free "min"]
def headFn : List He.DefD := [dM "NotAFormat" "__init__" "NotAFormat.__init__" s_NotAFormatdd_initdd, dM "NotALine" "__init__" "NotALine.__init__" s_NotALinedd_initdd, dM "NotALedger" "__init__" "NotALedger.__init__" s_NotALedgerdd_initdd, dM "InvalidNumber" "__init__" "InvalidNumber.__init__" s_InvalidNumberdd_initdd, dM "InvalidText" "__init__" "InvalidText.__init__" s_InvalidTextdd_initdd, dM "InvalidName" "__init__" "InvalidName.__init__" s_InvalidNamedd_initdd, dM "InvalidWish" "__init__" "InvalidWish.__init__" s_InvalidWishdd_initdd, dM "InvalidSigns" "__init__" "InvalidSigns.__init__" s_InvalidSignsdd_initdd, dM "InvalidRow" "__init__" "InvalidRow.__init__" s_InvalidRowdd_initdd, dM "UnknownName" "__init__" "UnknownName.__init__" s_UnknownNamedd_initdd, dM "UnknownSetting" "__init__" "UnknownSetting.__init__" s_UnknownSettingdd_initdd, dM "UnknownKind" "__init__" "UnknownKind.__init__" s_UnknownKinddd_initdd, dM "InvalidSetting" "__init__" "InvalidSetting.__init__" s_InvalidSettingdd_initdd, dM "InvalidRange" "__init__" "InvalidRange.__init__" s_InvalidRangedd_initdd, dM "InvalidParts" "__init__" "InvalidParts.__init__" s_InvalidPartsdd_initdd, dM "InvalidNumbers" "__init__" "InvalidNumbers.__init__" s_InvalidNumbersdd_initdd, dM "InvalidKinds" "__init__" "InvalidKinds.__init__" s_InvalidKindsdd_initdd, dM "InvalidDeeds" "__init__" "InvalidDeeds.__init__" s_InvalidDeedsdd_initdd, dM "NoSuchRow" "__init__" "NoSuchRow.__init__" s_NoSuchRowdd_initdd, dM "TooLong" "__init__" "TooLong.__init__" s_TooLongdd_initdd, hdG "_law_spoon" s_l_spoon, hdG "_law_of" s_l_of, hdG "_law_values" s_l_values, hdG "_law_indexes" s_l_indexes, hdG "_law_kept_right" s_l_kept_right, hdG "_law_kin" s_l_kin, hdG "_law_classes" s_l_classes, hdG "_law_right" s_l_right, hdG "_law_pot" s_l_pot, hdG "law" s_law]
def headEx (K : PySem.W.Frag) : Bool := ([oeB K (He.ga K "NotAFormat"), oeB K (He.ga K "NotALine"), oeB K (He.ga K "NotALedger"), oeB K (He.ga K "InvalidNumber"), oeB K (He.ga K "InvalidText"), oeB K (He.ga K "InvalidName"), oeB K (He.ga K "InvalidWish"), oeB K (He.ga K "InvalidSigns"), oeB K (He.ga K "InvalidRow"), oeB K (He.ga K "UnknownName"), oeB K (He.ga K "UnknownSetting"), oeB K (He.ga K "UnknownKind"), oeB K (He.ga K "InvalidSetting"), oeB K (He.ga K "InvalidRange"), oeB K (He.ga K "InvalidParts"), oeB K (He.ga K "InvalidNumbers"), oeB K (He.ga K "InvalidKinds"), oeB K (He.ga K "InvalidDeeds"), oeL K (He.ga K "NoSuchRow"), oeA K (He.ga K "TooLong"), decide (([(He.ga K "Unfit"), (He.ga K "Unready"), (He.ga K "Beyond"), (He.ga K "NotAFormat"), (He.ga K "NotALine"), (He.ga K "NotALedger"), (He.ga K "InvalidNumber"), (He.ga K "InvalidText"), (He.ga K "InvalidName"), (He.ga K "InvalidWish"), (He.ga K "InvalidSigns"), (He.ga K "InvalidRow"), (He.ga K "UnknownName"), (He.ga K "UnknownSetting"), (He.ga K "UnknownKind"), (He.ga K "InvalidSetting"), (He.ga K "InvalidRange"), (He.ga K "InvalidParts"), (He.ga K "InvalidNumbers"), (He.ga K "InvalidKinds"), (He.ga K "InvalidDeeds"), (He.ga K "NothingToUndo"), (He.ga K "Busy"), (He.ga K "NoSuchRow"), (He.ga K "TooLong")] : List Addr).Nodup), xcB K (He.ga K "NotAFormat"), decide ((PySem.W.clsIn K (He.ga K "NotAFormat")).map (·.mro) = some [.ref (He.ga K "NotAFormat"), .ref (He.ga K "Unfit"), .type "ValueError", .type "Exception", .type "BaseException", .type "object"]), xcB K (He.ga K "NotALine"), decide ((PySem.W.clsIn K (He.ga K "NotALine")).map (·.mro) = some [.ref (He.ga K "NotALine"), .ref (He.ga K "Unfit"), .type "ValueError", .type "Exception", .type "BaseException", .type "object"]), xcB K (He.ga K "NotALedger"), decide ((PySem.W.clsIn K (He.ga K "NotALedger")).map (·.mro) = some [.ref (He.ga K "NotALedger"), .ref (He.ga K "Unfit"), .type "ValueError", .type "Exception", .type "BaseException", .type "object"]), xcB K (He.ga K "InvalidNumber"), decide ((PySem.W.clsIn K (He.ga K "InvalidNumber")).map (·.mro) = some [.ref (He.ga K "InvalidNumber"), .ref (He.ga K "Unfit"), .type "ValueError", .type "Exception", .type "BaseException", .type "object"]), xcB K (He.ga K "InvalidText"), decide ((PySem.W.clsIn K (He.ga K "InvalidText")).map (·.mro) = some [.ref (He.ga K "InvalidText"), .ref (He.ga K "Unfit"), .type "ValueError", .type "Exception", .type "BaseException", .type "object"]), xcB K (He.ga K "InvalidName"), decide ((PySem.W.clsIn K (He.ga K "InvalidName")).map (·.mro) = some [.ref (He.ga K "InvalidName"), .ref (He.ga K "Unfit"), .type "ValueError", .type "Exception", .type "BaseException", .type "object"]), xcB K (He.ga K "InvalidWish"), decide ((PySem.W.clsIn K (He.ga K "InvalidWish")).map (·.mro) = some [.ref (He.ga K "InvalidWish"), .ref (He.ga K "Unfit"), .type "ValueError", .type "Exception", .type "BaseException", .type "object"]), xcB K (He.ga K "InvalidSigns"), decide ((PySem.W.clsIn K (He.ga K "InvalidSigns")).map (·.mro) = some [.ref (He.ga K "InvalidSigns"), .ref (He.ga K "Unfit"), .type "ValueError", .type "Exception", .type "BaseException", .type "object"]), xcB K (He.ga K "InvalidRow"), decide ((PySem.W.clsIn K (He.ga K "InvalidRow")).map (·.mro) = some [.ref (He.ga K "InvalidRow"), .ref (He.ga K "Unfit"), .type "ValueError", .type "Exception", .type "BaseException", .type "object"]), xcB K (He.ga K "UnknownName"), decide ((PySem.W.clsIn K (He.ga K "UnknownName")).map (·.mro) = some [.ref (He.ga K "UnknownName"), .ref (He.ga K "Unfit"), .type "ValueError", .type "Exception", .type "BaseException", .type "object"]), xcB K (He.ga K "UnknownSetting"), decide ((PySem.W.clsIn K (He.ga K "UnknownSetting")).map (·.mro) = some [.ref (He.ga K "UnknownSetting"), .ref (He.ga K "Unfit"), .type "ValueError", .type "Exception", .type "BaseException", .type "object"]), xcB K (He.ga K "UnknownKind"), decide ((PySem.W.clsIn K (He.ga K "UnknownKind")).map (·.mro) = some [.ref (He.ga K "UnknownKind"), .ref (He.ga K "Unfit"), .type "ValueError", .type "Exception", .type "BaseException", .type "object"]), xcB K (He.ga K "InvalidSetting"), decide ((PySem.W.clsIn K (He.ga K "InvalidSetting")).map (·.mro) = some [.ref (He.ga K "InvalidSetting"), .ref (He.ga K "Unfit"), .type "ValueError", .type "Exception", .type "BaseException", .type "object"]), xcB K (He.ga K "InvalidRange"), decide ((PySem.W.clsIn K (He.ga K "InvalidRange")).map (·.mro) = some [.ref (He.ga K "InvalidRange"), .ref (He.ga K "Unfit"), .type "ValueError", .type "Exception", .type "BaseException", .type "object"]), xcB K (He.ga K "InvalidParts"), decide ((PySem.W.clsIn K (He.ga K "InvalidParts")).map (·.mro) = some [.ref (He.ga K "InvalidParts"), .ref (He.ga K "Unfit"), .type "ValueError", .type "Exception", .type "BaseException", .type "object"]), xcB K (He.ga K "InvalidNumbers"), decide ((PySem.W.clsIn K (He.ga K "InvalidNumbers")).map (·.mro) = some [.ref (He.ga K "InvalidNumbers"), .ref (He.ga K "Unfit"), .type "ValueError", .type "Exception", .type "BaseException", .type "object"]), xcB K (He.ga K "InvalidKinds"), decide ((PySem.W.clsIn K (He.ga K "InvalidKinds")).map (·.mro) = some [.ref (He.ga K "InvalidKinds"), .ref (He.ga K "Unfit"), .type "ValueError", .type "Exception", .type "BaseException", .type "object"]), xcB K (He.ga K "InvalidDeeds"), decide ((PySem.W.clsIn K (He.ga K "InvalidDeeds")).map (·.mro) = some [.ref (He.ga K "InvalidDeeds"), .ref (He.ga K "Unfit"), .type "ValueError", .type "Exception", .type "BaseException", .type "object"]), xcB K (He.ga K "NothingToUndo"), decide ((PySem.W.clsIn K (He.ga K "NothingToUndo")).map (·.mro) = some [.ref (He.ga K "NothingToUndo"), .ref (He.ga K "Unready"), .type "LookupError", .type "Exception", .type "BaseException", .type "object"]), xcB K (He.ga K "Busy"), decide ((PySem.W.clsIn K (He.ga K "Busy")).map (·.mro) = some [.ref (He.ga K "Busy"), .ref (He.ga K "Unready"), .type "LookupError", .type "Exception", .type "BaseException", .type "object"]), xcB K (He.ga K "NoSuchRow"), decide ((PySem.W.clsIn K (He.ga K "NoSuchRow")).map (·.mro) = some [.ref (He.ga K "NoSuchRow"), .ref (He.ga K "Unready"), .type "LookupError", .type "Exception", .type "BaseException", .type "object"]), xcB K (He.ga K "TooLong"), decide ((PySem.W.clsIn K (He.ga K "TooLong")).map (·.mro) = some [.ref (He.ga K "TooLong"), .ref (He.ga K "Beyond"), .type "ArithmeticError", .type "Exception", .type "BaseException", .type "object"]), xfB K (He.ga K "NotAFormat"), xfB K (He.ga K "NotALine"), xfB K (He.ga K "NotALedger"), xfB K (He.ga K "InvalidNumber"), xfB K (He.ga K "InvalidText"), xfB K (He.ga K "InvalidName"), xfB K (He.ga K "InvalidWish"), xfB K (He.ga K "InvalidSigns"), xfB K (He.ga K "InvalidRow"), xfB K (He.ga K "UnknownName"), xfB K (He.ga K "UnknownSetting"), xfB K (He.ga K "UnknownKind"), xfB K (He.ga K "InvalidSetting"), xfB K (He.ga K "InvalidRange"), xfB K (He.ga K "InvalidParts"), xfB K (He.ga K "InvalidNumbers"), xfB K (He.ga K "InvalidKinds"), xfB K (He.ga K "InvalidDeeds"), xfB K (He.ga K "NoSuchRow"), xfB K (He.ga K "TooLong"), (K.lookup sysModules).isSome, ((PySem.W.clsIn K (He.ga K "Unfit")).isSome && PySem.W.typeIn K (.ref (He.ga K "Unfit")) == some (.type "type")), ((PySem.W.clsIn K (He.ga K "Unready")).isSome && PySem.W.typeIn K (.ref (He.ga K "Unready")) == some (.type "type")), ((PySem.W.clsIn K (He.ga K "Beyond")).isSome && PySem.W.typeIn K (.ref (He.ga K "Beyond")) == some (.type "type")), ((PySem.W.clsIn K (He.ga K "NotAFormat")).isSome && PySem.W.typeIn K (.ref (He.ga K "NotAFormat")) == some (.type "type")), ((PySem.W.clsIn K (He.ga K "NotALine")).isSome && PySem.W.typeIn K (.ref (He.ga K "NotALine")) == some (.type "type")), ((PySem.W.clsIn K (He.ga K "NotALedger")).isSome && PySem.W.typeIn K (.ref (He.ga K "NotALedger")) == some (.type "type")), ((PySem.W.clsIn K (He.ga K "InvalidNumber")).isSome && PySem.W.typeIn K (.ref (He.ga K "InvalidNumber")) == some (.type "type")), ((PySem.W.clsIn K (He.ga K "InvalidText")).isSome && PySem.W.typeIn K (.ref (He.ga K "InvalidText")) == some (.type "type")), ((PySem.W.clsIn K (He.ga K "InvalidName")).isSome && PySem.W.typeIn K (.ref (He.ga K "InvalidName")) == some (.type "type")), ((PySem.W.clsIn K (He.ga K "InvalidWish")).isSome && PySem.W.typeIn K (.ref (He.ga K "InvalidWish")) == some (.type "type")), ((PySem.W.clsIn K (He.ga K "InvalidSigns")).isSome && PySem.W.typeIn K (.ref (He.ga K "InvalidSigns")) == some (.type "type")), ((PySem.W.clsIn K (He.ga K "InvalidRow")).isSome && PySem.W.typeIn K (.ref (He.ga K "InvalidRow")) == some (.type "type")), ((PySem.W.clsIn K (He.ga K "UnknownName")).isSome && PySem.W.typeIn K (.ref (He.ga K "UnknownName")) == some (.type "type")), ((PySem.W.clsIn K (He.ga K "UnknownSetting")).isSome && PySem.W.typeIn K (.ref (He.ga K "UnknownSetting")) == some (.type "type")), ((PySem.W.clsIn K (He.ga K "UnknownKind")).isSome && PySem.W.typeIn K (.ref (He.ga K "UnknownKind")) == some (.type "type")), ((PySem.W.clsIn K (He.ga K "InvalidSetting")).isSome && PySem.W.typeIn K (.ref (He.ga K "InvalidSetting")) == some (.type "type")), ((PySem.W.clsIn K (He.ga K "InvalidRange")).isSome && PySem.W.typeIn K (.ref (He.ga K "InvalidRange")) == some (.type "type")), ((PySem.W.clsIn K (He.ga K "InvalidParts")).isSome && PySem.W.typeIn K (.ref (He.ga K "InvalidParts")) == some (.type "type")), ((PySem.W.clsIn K (He.ga K "InvalidNumbers")).isSome && PySem.W.typeIn K (.ref (He.ga K "InvalidNumbers")) == some (.type "type")), ((PySem.W.clsIn K (He.ga K "InvalidKinds")).isSome && PySem.W.typeIn K (.ref (He.ga K "InvalidKinds")) == some (.type "type")), ((PySem.W.clsIn K (He.ga K "InvalidDeeds")).isSome && PySem.W.typeIn K (.ref (He.ga K "InvalidDeeds")) == some (.type "type")), ((PySem.W.clsIn K (He.ga K "NothingToUndo")).isSome && PySem.W.typeIn K (.ref (He.ga K "NothingToUndo")) == some (.type "type")), ((PySem.W.clsIn K (He.ga K "Busy")).isSome && PySem.W.typeIn K (.ref (He.ga K "Busy")) == some (.type "type")), ((PySem.W.clsIn K (He.ga K "NoSuchRow")).isSome && PySem.W.typeIn K (.ref (He.ga K "NoSuchRow")) == some (.type "type")), ((PySem.W.clsIn K (He.ga K "TooLong")).isSome && PySem.W.typeIn K (.ref (He.ga K "TooLong")) == some (.type "type")), ozB K (He.ga K "NothingToUndo"), ozB K (He.ga K "Busy")] : List Bool).all id
def headTs : List He.Tab := []
def headTf : List He.Defn := []
def headSm : List He5.DefA := []
def headNames : List Str := (["__name__", "Unfit", "Unready", "Beyond", "NotAFormat", "NotALine", "NotALedger", "InvalidNumber", "InvalidText", "InvalidName", "InvalidWish", "InvalidSigns", "InvalidRow", "UnknownName", "UnknownSetting", "UnknownKind", "InvalidSetting", "InvalidRange", "InvalidParts", "InvalidNumbers", "InvalidKinds", "InvalidDeeds", "NothingToUndo", "Busy", "NoSuchRow", "TooLong", "MOST_PARTS", "MOST_FIELDS", "MOST_WIDTH", "MOST_GROUP"] : List Str) ++ (["MOST_BOUND", "MOST_LENGTH", "MOST_KINDS", "_law_pot", "_law_spoon", "_law_of", "_law_values", "_law_indexes", "_law_kept_right", "_law_classes", "_law_kin", "_law_right"] : List Str)
abbrev headR : PySem.W.OpenRow := PySem.W.OpenLaw.row PySem.Challenge.rw_figurelines_k12_errors_and_limits
abbrev headHk : PySem.W.Hook := hookV 6 headFa headFn headTs headTf headEx headSm
def headOb (s : PySem.W.SharedT) : AlY := obsV 6 headFa headFn headTs headTf headEx headSm (HandSHeadRun.getT s)
theorem headOb_eq (s : PySem.W.SharedT) : headOb s = headHk.obs s.abs := obsV_eq _ _ _ _ _ _ _ (HandSHeadRun.getT_eq s)
abbrev headP (w : World) : Prop := HandSHeadRun.RunEq headR (PySem.W.view headR.prog [43]) headHk headOb 12000 headNames w
set_option maxHeartbeats 0 in
theorem headRunF (w : World) : headP (w.withFollow "special-get-raises" false) := by
  intro os
  kernel_rfl
set_option maxHeartbeats 0 in
theorem headRunT (w : World) : headP (w.withFollow "special-get-raises" true) := by
  intro os
  kernel_rfl
theorem headRun (w : World) : headP w := PySem.W.byRow2 "special-get-raises" headRunF headRunT w
end Fg
namespace Fg
open PySem PySem.Spec PyProof.Rows L2
theorem iteD {p : Prop} [Decidable p] {A B : Prop} (h1 : p → A) (h2 : ¬ p → B) : if decide p = true then A else B := by
  by_cases h : p
  · rw [if_pos (decide_eq_true h)]; exact h1 h
  · rw [if_neg (by rw [decide_eq_false h]; decide)]; exact h2 h
theorem iteY {b : Bool} {A B : Prop} (e : b = true) (h : A) : if b = true then A else B := by rw [if_pos e]; exact h
theorem iteN {b : Bool} {A B : Prop} (e : b = false) (h : B) : if b = true then A else B := by rw [if_neg (by rw [e]; decide)]; exact h
section
variable {X : Cx}
theorem pe_imp {e : Expr} {t t' : TE} (h : PE X e t) (w : ∀ σ H Q, t' σ H Q → t σ H Q) : PE X e t' := ⟨fun pins s σ H Q I q => h.run pins s σ H Q I (w σ H Q q)⟩
theorem pt_imp {e : Expr} {t t' : TT} (h : PT X e t) (w : ∀ σ H Q, t' σ H Q → t σ H Q) : PT X e t' := ⟨fun pins s σ H Q I q => h.run pins s σ H Q I (w σ H Q q)⟩
theorem op_imp {f : Value → Value → Sem Value} {r r' : R2} (h : OpR X f r) (w : ∀ x y H Q, r' x y H Q → r x y H Q) : OpR X f r' := fun pins s σ H x y v u Q I rx ry q => h pins s σ H x y v u Q I rx ry (w x y H Q q)
theorem call_imp {f : Value} {r r' : List V → Hp → VK → Prop} (h : CallR X f r) (w : ∀ xs H Q, r' xs H Q → r xs H Q) : CallR X f r' := fun pins s σ H xs us Q I rx q => h pins s σ H xs us Q I rx (w xs H Q q)
def tV (i : Nat) : TE := fun σ H Q => match σ[i]? with
  | some (some v) => Q v H
  | _ => False
theorem fv (i : Nat) {x : Str} {pos : Pos} (hN : X.N[i]? = some x := by rfl) (hv : Vis X.env.scope x := by first | exact Or.inl rfl | exact Or.inr (Or.inl rfl) | exact Or.inr (Or.inr rfl)) (hd : (x == ("__debug__" : Str)) = false := by decide)
    (hcd : (x == ("__classdict__" : Str)) = false := by decide) : PE X (.Name x pos) (tV i) := pe_imp (pe_var hN hv hd hcd) fun σ H Q q => by
  unfold tV at q
  split at q
  · exact ⟨_, by assumption, q⟩
  · exact q.elim
/-- a name of the module -/
theorem fe_g {x : Str} {v : V} {pos : Pos} (hg : Gl X x) (h : ∃ u, X.mg x = some u ∧ RelV v u) (hd : (x == ("__debug__" : Str)) = false := by decide) : PE X (.Name x pos) (tC v) := by
  obtain ⟨u, hm, r⟩ := h
  exact pe_glob hg hm r hd
def fI (g : Int → Int → V) : R2 := fun x y H Q => match x, y with
  | .int i, .int j => Q (g i j) H
  | _, _ => False
def fIc (C : Int → Int → Prop) (g : Int → Int → V) : R2 := fun x y H Q => match x, y with
  | .int i, .int j => C i j ∧ Q (g i j) H
  | _, _ => False
theorem fI_imp {f : Value → Value → Sem Value} {g : Int → Int → V} (h : OpR X f (rI0 g)) : OpR X f (fI g) := op_imp h fun x y H Q q => by
  unfold fI at q
  split at q
  · exact ⟨_, _, rfl, rfl, q⟩
  · exact q.elim
theorem fIc_imp {f : Value → Value → Sem Value} {C : Int → Int → Prop} {g : Int → Int → V} (h : OpR X f (rI C g)) : OpR X f (fIc C g) := op_imp h fun x y H Q q => by
  unfold fIc at q
  split at q
  · exact ⟨_, _, rfl, rfl, q.1, q.2⟩
  · exact q.elim
def fAdd : R2 := fun x y H Q => match x, y with
  | .int i, .int j => Q (.int (i + j)) H
  | .str a, .str b => a.length + b.length ≤ sizeLine ∧ Q (.str (a ++ b)) H
  | _, _ => False
theorem f_add : OpR X (binaryOp .Add) fAdd := op_imp (op_add.or op_add_str) fun x y H Q q => by
  unfold fAdd at q
  split at q
  · exact .inl ⟨_, _, rfl, rfl, q⟩
  · exact .inr ⟨_, _, rfl, rfl, q.1, q.2⟩
  · exact q.elim
/-- factors that are not too great -/
def CBig (i j : Int) : Prop := -(10 ^ 60) < i ∧ i < 10 ^ 60 ∧ -(10 ^ 60) < j ∧ j < 10 ^ 60
def CM (i j : Int) : Prop := (-(2 ^ 64) < i ∧ i < 2 ^ 64) ∨ (-(2 ^ 64) < j ∧ j < 2 ^ 64) ∨ CBig i j
theorem log_le {n k : Nat} (h : n < 2 ^ (k + 1)) : n.log2 ≤ k := by
  by_cases z : n = 0
  · rw [z]; exact Nat.zero_le _
  · exact Nat.le_of_lt_succ ((Nat.log2_lt z).mpr h)
theorem CM.ok {i j : Int} (h : CM i j) : IntMulOk i j := by
  rcases h with h | h | h
  · exact CMul.ok (.inl h)
  · exact CMul.ok (.inr h)
  · have z : -(10 ^ 60) < i ∧ i < 10 ^ 60 ∧ -(10 ^ 60) < j ∧ j < 10 ^ 60 := h
    have a1 : i.natAbs.log2 ≤ 199 := log_le (by omega)
    have a2 : j.natAbs.log2 ≤ 199 := log_le (by omega)
    exact CMulW.ok (show i.natAbs.log2 + j.natAbs.log2 < 1000000 by omega)
theorem f_mul : OpR X (binaryOp .Mult) (fIc CM fun i j => .int (i * j)) := fIc_imp (opI fun _ _ _ _ _ _ _ hc q => mul_int q hc.ok)
theorem f_mod : OpR X (binaryOp .Mod) (fIc (fun _ j => 0 < j) fun i j => .int (i % j)) := fIc_imp op_mod
def CDv (_ j : Int) : Prop := 0 < j ∧ j < 10 ^ 60
theorem f_fdiv : OpR X (binaryOp .FloorDiv) (fIc CDv fun i j => .int (i / j)) := op_imp op_fdivW fun x y H Q q => by
  unfold fIc at q
  split at q
  · rename_i i j
    have z : 0 < j ∧ j < 10 ^ 60 := q.1
    have a2 : j.natAbs.log2 ≤ 199 := log_le (by omega)
    exact ⟨i, j, rfl, rfl, ⟨z.1, by omega⟩, q.2⟩
  · exact q.elim
theorem f_pow : OpR X (binaryOp .Pow) (fIc CPow fun i j => .int (i ^ j.toNat)) := fIc_imp op_pow
theorem f_lt : OpR X (compareOp .Lt) (fI fun i j => .bl (decide (i < j))) := fI_imp op_lt
theorem f_gt : OpR X (compareOp .Gt) (fI fun i j => .bl (decide (j < i))) := fI_imp op_gt
theorem f_ge : OpR X (compareOp .GtE) (fI fun i j => .bl (decide (j ≤ i))) := fI_imp op_ge
/-- a test that is a bool -/
def tT (t : TE) : TT := fun σ H Q => t σ H fun x H' => match x with
  | .bl k => Q k H'
  | _ => False
variable {a b : Expr} {ta tb : TE} {pos : Pos}
theorem ft_cmp {op : CmpOp} {r : R2} (ho : OpR X (compareOp op) r) (ha : PE X a ta) (hb : PE X b tb) (hm : behindInMarks op b = false) : PT X (.Compare a [op] [b] pos) (tT (tOp r ta tb)) := by
  refine ⟨fun pins s σ H Q I h => ?_⟩
  refine wpAny_isTrue_Compare1 (thn (ha.run pins s σ H _ I h) fun v s1 ⟨x, H1, I1, rx, q⟩ => thn (hb.run pins s1 σ H1 _ I1 q) fun u s2 ⟨y, H2, I2, ry, q⟩ => thn (ho pins s2 σ H2 x y v u _ I2 rx ry q) fun c s3 ⟨z, H3, I3, rz, q3⟩ => ?_) hm
  cases z <;> first | exact q3.elim | skip
  cases rz
  exact wpAny_truthy_bool ⟨H3, I3, q3⟩
theorem ft_val {e : Expr} {t : TE} (h : PE X e t) (he : ∀ whole, isTrue e X.env whole = (do let v ← whole; standAt e.pos; holding [v] (truthy v)) := by intro _; rfl) : PT X e (tT t) := by
  refine ⟨fun pins s σ H Q I hw => ?_⟩
  refine isTrue_plain (thn (h.run pins s σ H _ I hw) fun v s1 ⟨x, H1, I1, r1, q1⟩ => ?_) (he _)
  cases x <;> first | exact q1.elim | skip
  cases r1
  exact wpAny_truthy_bool ⟨H1, I1, q1⟩
end
def s0 (P : Hp → VK → XK → Prop) : Sp := fun vs H Q E => match vs with
  | [] => P H Q E
  | _ => False
def s1 (P : V → Hp → VK → XK → Prop) : Sp := fun vs H Q E => match vs with
  | [a] => P a H Q E
  | _ => False
def s2 (P : V → V → Hp → VK → XK → Prop) : Sp := fun vs H Q E => match vs with
  | [a, b] => P a b H Q E
  | _ => False
def s3 (P : V → V → V → Hp → VK → XK → Prop) : Sp := fun vs H Q E => match vs with
  | [a, b, c] => P a b c H Q E
  | _ => False
theorem s1_len {P} {vs : List V} {H : Hp} {Q : VK} {E : XK} (h : s1 P vs H Q E) : ∃ a, vs = [a] ∧ P a H Q E := by
  unfold s1 at h; split at h
  · exact ⟨_, rfl, h⟩
  · exact h.elim
theorem s2_len {P} {vs : List V} {H : Hp} {Q : VK} {E : XK} (h : s2 P vs H Q E) : ∃ a b, vs = [a, b] ∧ P a b H Q E := by
  unfold s2 at h; split at h
  · exact ⟨_, _, rfl, h⟩
  · exact h.elim
structure FunAt (K : PySem.W.Frag) (mg : Str → Option Value) (x : Str) (st : Stmt) : Prop where
  ex : ∃ f fd, Fun K x x st f fd ∧ mg x = some (.ref f)
structure Callee (P : Program) (w : World) (K : PySem.W.Frag) (mg : Str → Option Value) (base : Heap) (k : Nat) (x : Str) (ps : List Str) (sp : Sp) : Prop where
  ex : ∃ f fd, FnOk P w K mg base (L2.CX P w) k f fd ps sp ∧ mg x = some (.ref f) ∧ PySem.W.keepIn K (.ref f) = true ∧ Binds K fd ps []
section
variable {X : Cx} {W : WX} {j k : Nat} {x : Str} {ps : List Str} {sp : Sp} {p pos : Pos} {e : Expr} {es : List Expr} {t : TA}
theorem fc_call (c : Callee X.prog X.w X.K X.mg X.base k x ps sp) (hr : Room j X.A) (hk : k ≤ j) (hg : Gl X x) (tk : Takes X W) (ha : PA X (e :: es) t) (hdb : (x == ("__debug__" : Str)) = false := by decide) (he : starEach (e :: es) X.env = (false, eval e X.env) :: starEach es X.env := by rfl)
    (hpl : (backTo pos (starEach es X.env)).any (·.1) = false := by rfl) : PE X (.Call (.Name x p) (e :: es) [] pos) (tCallS sp (WE W) t) := by
  obtain ⟨f, fd, F, hm, hkp, hb⟩ := c.ex
  exact pe_callS F (hr.mono hk) hg hm hkp hb (fun σ => passAt tk σ) ha hdb he hpl
end
section
variable {P : Program} {w : World} {K : PySem.W.Frag} {mg : Str → Option Value} {base : Heap}
/-- the rule of a def: its body as a term, its reading -/
theorem callee_of {x : Str} {st : Stmt} {N ps : List Str} {k : Nat} {sp : Sp} (F : FunAt K mg x st) (S : FnScope N ps (defScope st))
    (hb : ∀ (kV doc pm : Value) (an : Option Addr) (cdv ct : Value) (us : List Value), us.length = ps.length → bindArgs (PySem.W.fnOf x x (defArgs st) (defBody st) (defScope st) .none kV doc pm an cdv ct) ⟨us, []⟩ = pure (ps.zip us))
    (len : ∀ vs H Q E, sp vs H Q E → vs.length = ps.length)
    (hbody : ∀ (f : Addr) (cdv : Value) (A : Around) (outer : List Env) (s : Shared) (H : Hp) (vs : List V) (Q : VK) (E : XK), Room k (cxOf (L2.CX P w) P w K mg base N x (defScope st) f cdv A outer s H E).A →
      Takes (cxOf (L2.CX P w) P w K mg base N x (defScope st) f cdv A outer s H E) (fun cls d _ H => E cls d H) →
      PassesOwn (model P w) (cxOf (L2.CX P w) P w K mg base N x (defScope st) f cdv A outer s H E).A (cxOf (L2.CX P w) P w K mg base N x (defScope st) f cdv A outer s H E).env (cxOf (L2.CX P w) P w K mg base N x (defScope st) f cdv A outer s H E).xe → sp vs H Q E →
      ∃ t, PSs (cxOf (L2.CX P w) P w K mg base N x (defScope st) f cdv A outer s H E) (defBody st) t ∧ t { nx := fun _ H' => Q .non H', rt := Q } (start N vs) H) :
    Callee P w K mg base (k + 1) x ps sp := by
  obtain ⟨f, fd, F, hm⟩ := F.ex
  exact ⟨f, fd, F.okX S len fun cdv A outer s H vs Q E hr h => hbody f cdv A outer s H vs Q E hr (takes_of rfl rfl rfl rfl) (passes_of rfl) h, hm, F.kp, F.binds hb⟩
end
/-- the thing at a is of a type that T is none of -/
def RefTy (K : PySem.W.Frag) (H : Hp) (a : Addr) (c : Value) (b : Bool) : Prop := ∃ t, TyX K H (.ref a) t ∧ PySem.W.kitOne K t c = some b
section
variable {X : Cx}
/-- a list or a tuple that is read -/
def Sq (K : PySem.W.Frag) (H : Hp) (a : Addr) (xs : List V) : Prop := SqL K H a xs ∨ SqT K H a xs
def fLen (K : PySem.W.Frag) : List V → Hp → VK → Prop := fun xs H Q => match xs with
  | [.str z] => z.length ≤ sizeLine ∧ Q (.int z.length) H
  | [.ref a] => ∃ ys, Sq K H a ys ∧ Q (.int ys.length) H
  | _ => False
theorem f_len : CallR X (.builtin "len") (fLen X.K) := fun pins s σ H xs us Q I r q => by
  unfold fLen at q
  split at q
  · exact call_len pins s σ H _ us Q I r ⟨_, _, rfl, ⟨q.1, rfl⟩, q.2⟩
  · obtain ⟨ys, h, q⟩ := q
    rcases h with h | h
    · exact call_len pins s σ H _ us Q I r ⟨_, _, rfl, .inl ⟨_, h, rfl⟩, q⟩
    · exact call_len pins s σ H _ us Q I r ⟨_, _, rfl, .inr ⟨_, h, rfl⟩, q⟩
  · exact q.elim
def fIx (K : PySem.W.Frag) : R2 := fun x y H Q => match x, y with
  | .str z, .int i => z.length ≤ sizeLine ∧ ∃ c, atI z.cps.toList i = some c ∧ Q (.str ⟨#[c]⟩) H
  | .ref a, .int i => ∃ ys v, Sq K H a ys ∧ atI ys i = some v ∧ Q v H
  | _, _ => False
theorem f_ix : IxR X (fIx X.K) := fun value slice pins s σ H x y v u Q I rx ry q hs => by
  unfold fIx at q
  split at q
  · obtain ⟨h, c, hc, q⟩ := q
    exact ix_str value slice pins s σ H _ _ v u Q I rx ry ⟨_, _, _, rfl, rfl, h, hc, q⟩ hs
  · obtain ⟨ys, z, h, hz, q⟩ := q
    rcases h with h | h
    · exact ix_list value slice pins s σ H _ _ v u Q I rx ry ⟨_, _, _, _, rfl, rfl, h, hz, q⟩ hs
    · exact ix_tup value slice pins s σ H _ _ v u Q I rx ry ⟨_, _, _, _, rfl, rfl, h, hz, q⟩ hs
  · exact q.elim
def fInt : List V → Hp → VK → Prop := fun xs H Q => match xs with
  | [.int i] => Q (.int i) H
  | [.bl k] => Q (.int (if k then 1 else 0)) H
  | _ => False
theorem f_int : CallR X (.type "int") fInt := call_imp call_int1 fun xs H Q q => by
  unfold fInt at q
  split at q
  · exact .inl ⟨_, rfl, q⟩
  · exact .inr ⟨_, rfl, q⟩
  · exact q.elim
def fAbs : List V → Hp → VK → Prop := fun xs H Q => match xs with
  | [.int i] => Q (.int ((i.natAbs : Nat) : Int)) H
  | _ => False
theorem f_abs : CallR X (.builtin "abs") fAbs := call_imp call_abs fun xs H Q q => by
  unfold fAbs at q
  split at q
  · rename_i i
    refine ⟨i, rfl, ?_⟩
    rw [show (if i < 0 then -i else i) = ((i.natAbs : Nat) : Int) by split <;> omega]
    exact q
  · exact q.elim
def fMax : List V → Hp → VK → Prop := fun xs H Q => match xs with
  | [.int i, .int j] => Q (.int (max i j)) H
  | _ => False
theorem f_max (hc : X.calm = true) : CallR X (.builtin "max") fMax := call_imp (call_max2 hc) fun xs H Q q => by
  unfold fMax at q
  split at q
  · rename_i i j
    refine ⟨i, j, rfl, ?_⟩
    rw [show (if j > i then j else i) = max i j by split <;> omega]
    exact q
  · exact q.elim
def fMin : List V → Hp → VK → Prop := fun xs H Q => match xs with
  | [.int i, .int j] => Q (.int (min i j)) H
  | _ => False
theorem f_min (hc : X.calm = true) : CallR X (.builtin "min") fMin := call_imp (call_min2 hc) fun xs H Q q => by
  unfold fMin at q
  split at q
  · rename_i i j
    refine ⟨i, j, rfl, ?_⟩
    rw [show (if j < i then j else i) = min i j by split <;> omega]
    exact q
  · exact q.elim
end
/-- a new object o, called p in the heap H': all that was stands as it was -/
def Fresh (H : Hp) (o : HO) (Q : VK) : Prop := ∀ p H', H p = none → Same H H' → H' p = some o → Q (.ref p) H'
theorem Fresh.go {H : Hp} {o : HO} {Q : VK} (h : Fresh H o Q) : ∀ p, H p = none → Q (.ref p) (upd H p o) :=
  fun p np => h p _ np (fun b u e => by rw [upd_ne (ne_of_none e np)]; exact e) upd_same
theorem Same.new {H : Hp} {p : Addr} {o : HO} (np : H p = none) : Same H (upd H p o) := fun b u e => by rw [upd_ne (ne_of_none e np)]; exact e
section
variable {X : Cx} {es : List Expr} {t : TA} {pos : Pos}
def tTupF (t : TA) : TE := fun σ H Q => t σ H fun xs H1 => xs.length ≤ sizeLine ∧ Fresh H1 (.tup xs) Q
def tLstF (t : TA) : TE := fun σ H Q => t σ H fun xs H1 => xs.length ≤ sizeLine ∧ Fresh H1 (.lst xs) Q
/-- what is wanted may be handed on weaker -/
def upA (t : TA) : TA := fun σ H Q => ∃ R, t σ H R ∧ ∀ vs H', R vs H' → Q vs H'
def upE (t : TE) : TE := fun σ H Q => ∃ R, t σ H R ∧ ∀ v H', R v H' → Q v H'
theorem pa_up {es : List Expr} {t : TA} (h : PA X es t) : PA X es (upA t) := ⟨fun pos pins s σ H Q I ⟨R, q, w⟩ => thn (h.run pos pins s σ H R I q) fun us s1 ⟨vs, H1, I1, r, q1⟩ => ⟨vs, H1, I1, r, w _ _ q1⟩⟩
theorem pe_up {e : Expr} {t : TE} (h : PE X e t) : PE X e (upE t) := ⟨fun pins s σ H Q I ⟨R, q, w⟩ => thn (h.run pins s σ H R I q) fun u s1 ⟨v, H1, I1, r, q1⟩ => ⟨v, H1, I1, r, w _ _ q1⟩⟩
theorem fe_tup {x1} (h : PA X es t) : PE X (.Tuple es x1 pos) (tTupF t) := pe_imp (pe_tup (pa_up h)) fun σ H Q q => ⟨_, q, fun xs H1 r => ⟨r.1, r.2.go⟩⟩
theorem fe_lst (h : PA X es t) : PE X (.List es pos) (tLstF t) := pe_imp (pe_lst (pa_up h)) fun σ H Q q => ⟨_, q, fun xs H1 r => ⟨r.1, r.2.go⟩⟩
def fCat : R2 := fun x y H Q => match x, y with
  | .ref a, .ref b => ∃ xs ys, H a = some (.lst xs) ∧ H b = some (.lst ys) ∧ xs.length + ys.length ≤ sizeLine ∧ Fresh H (.lst (xs ++ ys)) Q
  | _, _ => False
theorem f_cat : OpR X (binaryOp .Add) fCat := op_imp op_cat fun x y H Q q => by
  unfold fCat at q
  split at q
  · obtain ⟨xs, ys, h1, h2, h3, q⟩ := q
    exact ⟨_, _, _, _, rfl, rfl, h1, h2, h3, q.go⟩
  · exact q.elim
def fRep : R2 := fun x y H Q => match x, y with
  | .ref a, .int k => ∃ xs, H a = some (.lst xs) ∧ k < 2 ^ 63 ∧ -(2 ^ 63) ≤ k ∧ xs.length * k.toNat ≤ sizeLine ∧ Fresh H (.lst (List.replicate k.toNat xs).flatten) Q
  | _, _ => False
theorem f_rep : OpR X (binaryOp .Mult) fRep := op_imp op_rep fun x y H Q q => by
  unfold fRep at q
  split at q
  · obtain ⟨xs, h1, h2, h3, h4, q⟩ := q
    exact ⟨_, _, _, rfl, rfl, h1, h3, h2, h4, q.go⟩
  · exact q.elim
/-- tuple(a list) -/
def fTuple (K : PySem.W.Frag) : List V → Hp → VK → Prop := fun xs H Q => match xs with
  | [.ref a] => ∃ ys, SqL K H a ys ∧ Fresh H (.tup ys) Q
  | _ => False
theorem sl_imp {r r' : V → Option Int → Option Int → Hp → VK → Prop} (h : SlR X r) (w : ∀ x l u H Q, r' x l u H Q → r x l u H Q) : SlR X r' := fun pins s σ H x v vl vu lo hi sl Q I rx hs pl pu q => h pins s σ H x v vl vu lo hi sl Q I rx hs pl pu (w _ _ _ _ _ q)
def fSlL (K : PySem.W.Frag) : V → Option Int → Option Int → Hp → VK → Prop := fun x lo hi H Q => match x with
  | .ref a => ∃ xs, SqL K H a xs ∧ Fresh H (.lst (cutV xs lo hi)) Q
  | _ => False
theorem f_slL : SlR X (fSlL X.K) := sl_imp sl_list fun x l u H Q q => by
  unfold fSlL at q
  split at q
  · obtain ⟨xs, h, q⟩ := q
    exact ⟨_, _, rfl, h, q.go⟩
  · exact q.elim
variable {o i : Expr} {td ty tv : TE} {te : TE}
end
def Loop (st : Hp → Prop) (g : TG) (tb : TS) (D : Ends) : List V → L2.St → Hp → Prop
  | [] => fun σ H => D.nx σ H
  | x :: r => fun σ H => g x σ H fun σ2 H2 => tb { D with nx := fun σ' H' => st H' ∧ Loop st g tb D r σ' H', ct := fun σ' H' => st H' ∧ Loop st g tb D r σ' H', bk := D.nx } σ2 H2
theorem loop_it {J : It} {xs : List V} {st : Hp → Prop} {g : TG} {tb : TS} {D : Ends} {σ : L2.St} {H : Hp} (hgo : ∀ i H, i < xs.length → st H → J.go i H) (hyl : ∀ i H x H', st H → J.yld i H x H' → H' = H ∧ (i < xs.length → xs[i]? = some x))
    (hst : ∀ H, st H → J.stop xs.length H) (h0 : st H) (h : Loop st g tb D xs σ H) : ∃ W : Nat → Nat → L2.St → Hp → Prop, (∃ m, W 0 m σ H) ∧ ∀ i m σ H, W i m σ H →
      (J.stop i H ∧ D.nx σ H) ∨ (J.go i H ∧ ∃ N : L2.St → Hp → Prop, (∀ σ' H', N σ' H' → ∃ m', m' < m ∧ W (i + 1) m' σ' H') ∧ ∀ x H', J.yld i H x H' → g x σ H' fun σ2 H2 => tb { D with nx := N, ct := N, bk := D.nx } σ2 H2) := by
  refine ⟨fun i m σ H => m + i = xs.length ∧ st H ∧ Loop st g tb D (xs.drop i) σ H, ⟨xs.length, rfl, h0, h⟩, ?_⟩
  rintro i m σ H ⟨hm, hs, hl⟩
  by_cases hi : i < xs.length
  · right
    rw [List.drop_eq_getElem_cons hi] at hl
    refine ⟨hgo i H hi hs, fun σ' H' => st H' ∧ Loop st g tb D (xs.drop (i + 1)) σ' H', fun σ' H' ⟨a, b⟩ => ⟨m - 1, by omega, by omega, a, b⟩, fun x H' y => ?_⟩
    obtain ⟨rfl, hx⟩ := hyl i H x H' hs y
    have e : x = xs[i] := by
      have z := hx hi
      rw [List.getElem?_eq_getElem hi] at z
      exact (Option.some.inj z).symm
    subst e
    exact hl
  · left
    have e : i = xs.length := by omega
    subst e
    rw [List.drop_length] at hl
    exact ⟨hst H hs, hl⟩
/-- an invariant of a loop over a row -/
theorem Loop.by {st : Hp → Prop} {g : TG} {tb : TS} {D : Ends} (Pv : List V → L2.St → Hp → Prop)
    (hs : ∀ x r σ H, Pv (x :: r) σ H → ∀ N : L2.St → Hp → Prop, (∀ σ' H', st H' → Pv r σ' H' → N σ' H') → g x σ H fun σ2 H2 => tb { D with nx := N, ct := N, bk := D.nx } σ2 H2)
    (hd : ∀ σ H, Pv [] σ H → D.nx σ H) : ∀ (xs : List V) (σ : L2.St) (H : Hp), Pv xs σ H → Loop st g tb D xs σ H
  | [], σ, H, h => hd σ H h
  | x :: r, σ, H, h => hs x r σ H h _ fun σ' H' a b => ⟨a, Loop.by Pv hs hd r σ' H' b⟩
theorem ps_imp {X : Cx} {st : Stmt} {t t' : TS} (h : PS X st t) (w : ∀ D σ H, t' D σ H → t D σ H) : PS X st t' := ⟨fun pins s σ H D I q => h.run pins s σ H D I (w D σ H q)⟩
section
variable {X : Cx} {tg e : Expr} {body : List Stmt} {tl : TE} {g : TG} {tb : TS} {pos : Pos} {ta : TA}
/-- lo, lo + 1, .. -/
def rgI (lo : Int) (n : Nat) : List V := (List.range n).map fun (i : Nat) => V.int (lo + i)
theorem rgI_get {lo : Int} {n i : Nat} (h : i < n) : (rgI lo n)[i]? = some (.int (lo + i)) := by
  unfold rgI
  rw [List.getElem?_map, List.getElem?_range h]
  rfl
theorem rgI_len (lo : Int) (n : Nat) : (rgI lo n).length = n := by simp [rgI]
/-- the signs of a text -/
def signs (z : Str) : List V := z.cps.toList.map fun c => V.str ⟨#[c]⟩
/-- what an iterator yields while st stands -/
structure JOk (J : It) (xs : List V) (st : Hp → Prop) : Prop where
  go : ∀ i H, i < xs.length → st H → J.go i H
  yl : ∀ i H x H', st H → J.yld i H x H' → H' = H ∧ (i < xs.length → xs[i]? = some x)
  stp : ∀ H, st H → J.stop xs.length H
abbrev TW := L2.St → Hp → (List V → (Hp → Prop) → Hp → Prop) → Prop
def wiOf (w : TW) : TI := fun σ H R => w σ H fun xs st H1 => st H1 ∧ ∀ J, JOk J xs st → R J H1
theorem pi_imp {w w' : TI} (h : PI X tg e w) (k : ∀ σ H R, w' σ H R → w σ H R) : PI X tg e w' := ⟨fun pins s σ H R I q => h.run pins s σ H R I (k σ H R q)⟩
def wL (K : PySem.W.Frag) (tl : TE) : TW := fun σ H R => tl σ H fun x H1 => match x with
  | .ref a => ∃ xs, SqL K H1 a xs ∧ R xs (fun H => SqL K H a xs) H1
  | _ => False
def wR1 (ta : TA) : TW := fun σ H R => ta σ H fun vs H1 => match vs with
  | [.int j] => (j < 2 ^ 62 ∧ -(2 ^ 62) ≤ j) ∧ R (rgI 0 j.toNat) (fun _ => True) H1
  | _ => False
theorem jok_L {K : PySem.W.Frag} {a : Addr} {xs : List V} : JOk (Itl K a) xs (fun H => SqL K H a xs) := ⟨fun i H hi h => ⟨xs, xs[i], h, List.getElem?_eq_getElem hi⟩, fun i H x H' h y => ⟨y.1, fun _ => y.2 _ h⟩, fun H h => ⟨xs, h, Nat.le_refl _⟩⟩
theorem jok_R {lo : Int} {n : Nat} : JOk (Itr lo n) (rgI lo n) (fun _ => True) := ⟨fun i H hi _ => by rw [rgI_len] at hi; exact hi, fun i H x H' _ y => ⟨y.1, fun hi => by rw [rgI_len] at hi; rw [rgI_get hi, y.2]⟩, fun H _ => by rw [rgI_len]; exact Nat.le_refl _⟩
/-- what a row of TW wants may be handed on weaker -/
def upW (w : TW) : TW := fun σ H R => ∃ R0, w σ H R0 ∧ ∀ xs st H', R0 xs st H' → R xs st H'
theorem fi_L (hi : PE X e tl) : PI X tg e (wiOf (upW (wL X.K tl))) := pi_imp (pi_list (pe_up hi)) fun σ H R ⟨R0, q0, k⟩ => ⟨_, q0, fun x H1 q1 => by
  split at q1
  · obtain ⟨xs, h, r⟩ := q1
    obtain ⟨h1, q⟩ := k _ _ _ r
    exact ⟨_, rfl, ⟨_, h⟩, q _ jok_L⟩
  · exact q1.elim⟩
theorem fi_R1 {a : Expr} {p : Pos} (hgl : Gl X "range") (hm : X.mg "range" = none) (ha : PA X [a] ta) (hst : starEach [a] X.env = [(false, eval a X.env)] := by rfl) : PI X tg (.Call (.Name "range" p) [a] [] pos) (wiOf (upW (wR1 ta))) := pi_imp (pi_range1 hgl hm (pa_up ha) hst) fun σ H R ⟨R0, q0, k⟩ => ⟨_, q0, fun vs H1 q1 => by
  split at q1
  · exact ⟨_, rfl, q1.1.2, q1.1.1, (k _ _ _ q1.2).2 _ jok_R⟩
  · exact q1.elim⟩
/-- for -/
def tForW (w : TW) (g : TG) (tb : TS) : TS := fun D σ H => w σ H fun xs st H1 => st H1 ∧ Loop st g tb D xs σ H1
theorem fs_for {w : TW} (hp : PassesOwn (model X.prog X.w) X.A X.env X.xe) (hc : X.calm = true) (h : PI X tg e (wiOf (upW w))) (hg : PG X tg g) (hb : PSs X body tb) (hs : ∀ x, foldedSetIterable e X.env x = pure x := by intro _; rfl) :
    PS X (.For tg e body [] pos) (tForW w g tb) := ps_imp (ps_for hp hc h hg hb hs) fun D σ H q => ⟨_, q, fun xs st H' ⟨h1, l⟩ => ⟨h1, fun J j => loop_it j.go j.yl j.stp h1 l⟩⟩
end
/-- all but what stands at a is as it was -/
def But (a : Addr) (H H' : Hp) : Prop := ∀ b o, b ≠ a → H b = some o → H' b = some o
theorem But.upd {a : Addr} {H : Hp} {o : HO} : But a H (L2.upd H a o) := fun b u n e => by rw [upd_ne n]; exact e
theorem But.of {a : Addr} {H H' : Hp} (h : Same H H') : But a H H' := fun b o _ e => h b o e
theorem But.trans {a : Addr} {H H1 H2 : Hp} (x : But a H H1) (y : But a H1 H2) : But a H H2 := fun b o n e => y b o n (x b o n e)
/-- what is new to H0 may change -/
theorem Same.but {a : Addr} {H0 H H' : Hp} (s : Same H0 H) (n : H0 a = none) (b : But a H H') : Same H0 H' := fun c o e => b c o (ne_of_none e n) (s c o e)
theorem Same.get {H H' : Hp} {b : Addr} {o : HO} (s : Same H H') (e : H b = some o) : H' b = some o := s b o e
theorem But.get {a : Addr} {H H' : Hp} {b : Addr} {o u : HO} (s : But a H H') (e : H b = some o) (ha : H a = some u) (d : o ≠ u) : H' b = some o := s b o (ne_of e ha d) e
theorem SqT.same {K : PySem.W.Frag} {H H' : Hp} {a : Addr} {xs : List V} (e : Same H H') (h : SqT K H a xs) : SqT K H' a xs := by
  rcases h with (h | ⟨o, h⟩) | h
  · exact .inl (.inl (e _ _ h))
  · exact .inl (.inr ⟨o, e _ _ h⟩)
  · exact .inr h
theorem Sq.same {K : PySem.W.Frag} {H H' : Hp} {a : Addr} {xs : List V} (e : Same H H') (h : Sq K H a xs) : Sq K H' a xs := by
  rcases h with h | h
  · exact .inl (e.seq h)
  · exact .inr (SqT.same e h)
/-- the object at a becomes o -/
def Chg (H : Hp) (a : Addr) (o : HO) (Q : Hp → Prop) : Prop := ∀ H', But a H H' → H' a = some o → Q H'
theorem Chg.go {H : Hp} {a : Addr} {o : HO} {Q : Hp → Prop} (h : Chg H a o Q) : Q (upd H a o) := h _ But.upd upd_same
section
variable {X : Cx} {o e i : Expr} {to te ti : TE} {pos apos cpos pos' : Pos}
/-- xs[i] = v of a list; d[k] = v (as targets) -/
def gSetL : TSet := fun o i v H Q => match o, i with
  | .ref a, .int i => ∃ xs j, H a = some (.lst xs) ∧ ixN xs.length i = some j ∧ Chg H a (.lst (xs.set j v)) Q
  | _, _ => False
theorem g_setL : PSet X gSetL := fun pins s σ H o i v ov iv u Q I ro ri rv q => by
  unfold gSetL at q
  split at q
  · obtain ⟨xs, j, h, hj, q⟩ := q
    exact set_list pins s σ H _ _ v ov iv u Q I ro ri rv ⟨_, _, _, _, rfl, rfl, h, hj, q.go⟩
  · exact q.elim
end
/-- the items are told by f, objects may be made on the way -/
def Comp (st : Hp → Prop) (g : TG) (tt : TT) (te : TE) (vs : List Nat) (σ : L2.St) (D : Addr) (Q : Hp → Prop) : List V → Hp → Prop
  | [] => fun H => Q H
  | x :: r => fun H => g x (wipe σ vs) H fun σ2 H2 => wipe σ2 vs = wipe σ vs ∧ tt σ2 H2 fun b H3 =>
    if b = true then te σ2 H3 fun y H4 => ∃ acc, H4 D = some (.lst acc) ∧ acc.length < sizeLine ∧ st (upd H4 D (.lst (acc ++ [y]))) ∧ Comp st g tt te vs σ D Q r (upd H4 D (.lst (acc ++ [y]))) else st H3 ∧ Comp st g tt te vs σ D Q r H3
theorem comp_it {J : It} {xs : List V} {st : Hp → Prop} {g : TG} {tt : TT} {te : TE} {vs : List Nat} {σ : L2.St} {D : Addr} {H1 : Hp} {Q : Hp → Prop} (hgo : ∀ i H, i < xs.length → st H → J.go i H) (hyl : ∀ i H x H', st H → J.yld i H x H' → H' = H ∧ (i < xs.length → xs[i]? = some x))
    (hst : ∀ H, st H → J.stop xs.length H) (h0 : st (upd H1 D (.lst []))) (h : Comp st g tt te vs σ D Q xs (upd H1 D (.lst []))) : ∃ W : Nat → Nat → Hp → Prop, (∃ m, W 0 m (upd H1 D (.lst []))) ∧ ∀ i m H, W i m H →
      (J.stop i H ∧ Q H) ∨ (J.go i H ∧ ∃ Nx : Hp → Prop, (∀ H', Nx H' → ∃ m', m' < m ∧ W (i + 1) m' H') ∧ ∀ x H', J.yld i H x H' → g x (wipe σ vs) H' fun σ2 H2 => wipe σ2 vs = wipe σ vs ∧ tt σ2 H2 fun b H3 =>
        if b = true then te σ2 H3 fun y H4 => ∃ acc, H4 D = some (.lst acc) ∧ acc.length < sizeLine ∧ Nx (upd H4 D (.lst (acc ++ [y]))) else Nx H3) := by
  refine ⟨fun i m H => m + i = xs.length ∧ st H ∧ Comp st g tt te vs σ D Q (xs.drop i) H, ⟨xs.length, rfl, h0, h⟩, ?_⟩
  rintro i m H ⟨hm, hs, hl⟩
  by_cases hi : i < xs.length
  · right
    rw [List.drop_eq_getElem_cons hi] at hl
    refine ⟨hgo i H hi hs, fun H' => st H' ∧ Comp st g tt te vs σ D Q (xs.drop (i + 1)) H', fun H' ⟨a, b⟩ => ⟨m - 1, by omega, by omega, a, b⟩, fun x H' y => ?_⟩
    obtain ⟨rfl, hx⟩ := hyl i H x H' hs y
    have e : x = xs[i] := by
      have z := hx hi
      rw [List.getElem?_eq_getElem hi] at z
      exact (Option.some.inj z).symm
    subst e
    exact hl
  · left
    have e : i = xs.length := by omega
    subst e
    rw [List.drop_length] at hl
    exact ⟨hst H hs, hl⟩
/-- each item by a function; what is made on the way stands beside -/
theorem Comp.map {st : Hp → Prop} {g : TG} {te : TE} {vs : List Nat} {σ : L2.St} {D : Addr} {Q : Hp → Prop} {H0 : Hp} (f : V → V) (n0 : H0 D = none) (hst : ∀ H, Same H0 H → st H)
    (hx : ∀ (x : V) (H : Hp) (R : VK), Same H0 H → (∀ H', Same H H' → R (f x) H') → g x (wipe σ vs) H fun σ2 H2 => wipe σ2 vs = wipe σ vs ∧ te σ2 H2 R) :
    ∀ (xs : List V) (acc : List V) (H : Hp), acc.length + xs.length ≤ sizeLine → Same H0 H → H D = some (.lst acc) → (∀ H', Same H0 H' → H' D = some (.lst (acc ++ xs.map f)) → Q H') → Comp st g tYes te vs σ D Q xs H
  | [], acc, H, _, s, hD, q => q H s (by rw [List.map_nil, List.append_nil]; exact hD)
  | x :: r, acc, H, hl, s, hD, q => by
    rw [List.length_cons] at hl
    have k := hx x H (fun y H4 => ∃ acc, H4 D = some (.lst acc) ∧ acc.length < sizeLine ∧ st (upd H4 D (.lst (acc ++ [y]))) ∧ Comp st g tYes te vs σ D Q r (upd H4 D (.lst (acc ++ [y])))) s fun H' s' => by
      have s2 : Same H0 (upd H' D (.lst (acc ++ [f x]))) := Same.but (s.trans s') n0 But.upd
      refine ⟨acc, s' _ _ hD, by omega, hst _ s2, ?_⟩
      refine Comp.map f n0 hst hx r (acc ++ [f x]) _ (by rw [List.length_append, List.length_singleton]; omega) s2 upd_same fun H2 s3 e => q H2 s3 ?_
      rw [e, List.append_assoc]
      rfl
    exact k
section
variable {X : Cx} {elt tg iter : Expr} {ifs : List Expr} {scope : Scope} {own : List (Str × Nat)} {pos : Pos} {g : TG} {tt : TT} {te : TE} {w : TW}
def tLcW (w : TW) (g : TG) (tt : TT) (te : TE) (vs : List Nat) : TE := fun σ H Q => w σ H fun xs st H1 => st H1 ∧ ∀ D H2, H1 D = none → Same H1 H2 → H2 D = some (.lst []) → st H2 ∧ Comp st g tt te vs σ D (Q (.ref D)) xs H2
theorem fe_lc (hc : X.calm = true) (hN : X.N.Nodup) (hi : PI X tg iter (wiOf (upW w))) (ok : BlkOk X.N X.env.scope scope own)
    (hg : ∀ (s : Shared) (H : Hp) (C : Addr) (cl : List (Str × Addr)) (fp : List Addr), PG (X.blk s H scope (compEnvC scope cl C X.env) fp) tg g) (ht : ∀ (s : Shared) (H : Hp) (C : Addr) (cl : List (Str × Addr)) (fp : List Addr), PTs (X.blk s H scope (compEnvC scope cl C X.env) fp) ifs tt)
    (he : ∀ (s : Shared) (H : Hp) (C : Addr) (cl : List (Str × Addr)) (fp : List Addr), PE (X.blk s H scope (compEnvC scope cl C X.env) fp) elt te) (hs : ∀ x, foldedSetIterable iter X.env x = pure x := by intro _; rfl) :
    PE X (.ListComp elt [⟨tg, iter, ifs, 0⟩] scope pos) (tLcW w g tt te (own.map (·.2))) := pe_imp (pe_lc hc hN hi ok hg ht he hs) fun σ H Q q => ⟨_, q, fun xs st H1 ⟨h1, k⟩ => ⟨h1, fun J j D n => by
    obtain ⟨h2, c⟩ := k D _ n (Same.new n) upd_same
    exact comp_it j.go j.yl j.stp h2 c⟩⟩
end
structure MCallee (P : Program) (w : World) (K : PySem.W.Frag) (mg : Str → Option Value) (base : Heap) (k : Nat) (C : Addr) (m : Str) (ps : List Str) (sp : Sp) : Prop where
  ex : ∃ f fd, FnOk P w K mg base (L2.CX P w) k f fd ps sp ∧ Cls K C ∧ Meth K C m f ∧ Binds K fd ps []
structure InitAt (K : PySem.W.Frag) (C : Addr) (qual : Str) (st : Stmt) : Prop where
  ex : ∃ f fd, Fun K "__init__" qual st f fd ∧ PySem.W.findIn K (.ref C) "__init__" = some (some (.ref f)) ∧ PySem.W.typeIn K (.ref f) = some (.type "function")
section
variable {X : Cx} {o e : Expr} {to te : TE} {apos cpos pos : Pos}
/-- b, or its opposite -/
def opp (neg b : Bool) : Bool := match neg with
  | true => !b
  | false => b
end
section
variable {X : Cx} {e : Expr} {te : TE} {pos : Pos}
theorem pa_imp {es : List Expr} {t t' : TA} (h : PA X es t) (w : ∀ σ H Q, t' σ H Q → t σ H Q) : PA X es t' := ⟨fun pos pins s σ H Q I q => h.run pos pins s σ H Q I (w σ H Q q)⟩
end
/-- what stands at the places idx -/
def pick {α : Type} (idx : List Nat) (xs : List α) : List α := idx.filterMap fun i => xs[i]?
section
variable {X : Cx} {W : WX} {j k : Nat} {C : Addr} {x qual : Str} {st : Stmt} {kws : List (Str × V)} {ps ks : List Str} {sp : Sp} {p pos : Pos} {kwe : List Keyword} {t : TA}
/-- what a class does that is called: a new object, then its __init__ (promise sp) -/
def MadeBy (C : Addr) (sp : Sp) (gV : List V → List V) (W : WX) (σ : L2.St) (zs : List V) (H : Hp) (Q : VK) : Prop :=
  ∀ p dx H3, H p = none → Same H H3 → H3 p = some (.ins C dx []) → sp (gV (.ref p :: zs)) H3 (fun v H4 => v = .non ∧ Q (.ref p) H4) (fun cls d H' => W cls d σ H')
theorem MadeBy.go {C : Addr} {sp : Sp} {gV : List V → List V} {W : WX} {σ : L2.St} {zs : List V} {H : Hp} {Q : VK} (h : MadeBy C sp gV W σ zs H Q) : ∀ a b, H a = none → H b = none → b ≠ a → sp (gV (.ref a :: zs)) (upd (upd H b (.own a)) a (.ins C b [])) (fun v H2 => v = .non ∧ Q (.ref a) H2) (WE W σ) :=
  fun a b na nb ne => h a b _ na (Same.but (Same.new nb) na But.upd) upd_same
end
section
variable {X : Cx} {W : WX} {j k : Nat} {C : Addr} {m x : Str} {ps : List Str} {sp : Sp} {pos apos p : Pos} {o : Expr} {kwe : List Keyword} {t : TA} {ta : TE}
/-- a method without defaults, as it stands -/
structure MKCallee (P : Program) (w : World) (K : PySem.W.Frag) (mg : Str → Option Value) (base : Heap) (k : Nat) (C : Addr) (m qual : Str) (st : Stmt) (ps : List Str) (sp : Sp) : Prop where
  ex : ∃ f fd, FnOk P w K mg base (L2.CX P w) k f fd ps sp ∧ Cls K C ∧ Meth K C m f ∧ Fun K m qual st f fd
theorem MKCallee.plain {P : Program} {w : World} {K : PySem.W.Frag} {mg : Str → Option Value} {base : Heap} {C : Addr} {m qual : Str} {st : Stmt} {ps : List Str} {k : Nat} {sp : Sp} (c : MKCallee P w K mg base k C m qual st ps sp)
    (hb : ∀ (kV doc pm : Value) (an : Option Addr) (cdv ct : Value) (us : List Value), us.length = ps.length → bindArgs (PySem.W.fnOf m qual (defArgs st) (defBody st) (defScope st) .none kV doc pm an cdv ct) ⟨us, []⟩ = pure (ps.zip us)) : MCallee P w K mg base k C m ps sp := by
  obtain ⟨f, fd, O, cl, hm, F⟩ := c.ex
  exact ⟨f, fd, O, cl, hm, F.binds hb⟩
end
section
variable {X : Cx} {pos : Pos}
theorem fe_d0 : PE X (.Dict [] [] pos) (fun _ H Q => Fresh H (.dK []) Q) := pe_imp pe_dnewK fun σ H Q q => q.go
end
theorem TyX.same {K : PySem.W.Frag} {H H' : Hp} {v : V} {t : Value} (s : Same H H') (h : TyX K H v t) : TyX K H' v t := by
  cases h with
  | base b =>
    cases b with
    | non => exact .base .non
    | bl b => exact .base (.bl b)
    | int b => exact .base (.int b)
    | str b => exact .base (.str b)
    | flt b => exact .base (.flt b)
    | lst e => exact .base (.lst (s _ _ e))
    | frz e => exact .base (.frz (s _ _ e))
    | tup e => exact .base (.tup (s _ _ e))
    | dK e => exact .base (.dK (s _ _ e))
    | dT e => exact .base (.dT (s _ _ e))
    | ins e cl ha hn htk => exact .base (.ins (s _ _ e) cl ha hn htk (by assumption))
  | byt b => exact .byt b
  | set e => exact .set (s _ _ e)
  | kList e c => exact .kList e c
  | kTuple e c => exact .kTuple e c
  | kDict e c => exact .kDict e c
  | fTuple e => exact .fTuple (s _ _ e)
  | fDict e => exact .fDict (s _ _ e)
theorem RefTy.same {K : PySem.W.Frag} {H H' : Hp} {a : Addr} {c : Value} {b : Bool} (s : Same H H') (h : RefTy K H a c b) : RefTy K H' a c b := by
  obtain ⟨t, x, k⟩ := h
  exact ⟨t, TyX.same s x, k⟩
/-- a thing of any kind that is handed in: no int, no text if it is an object -/
def AnyV (K : PySem.W.Frag) (H : Hp) : V → Prop
  | .non => True
  | .bl _ => True
  | .int _ => True
  | .str z => z.length ≤ 100000
  | .ref a => RefTy K H a (.type "int") false ∧ RefTy K H a (.type "str") false
  | _ => False
theorem AnyV.same {K : PySem.W.Frag} {H H' : Hp} {v : V} (s : Same H H') (h : AnyV K H v) : AnyV K H' v := by
  cases v with
  | ref a => exact ⟨RefTy.same s h.1, RefTy.same s h.2⟩
  | _ => exact h
theorem sz_le {n : Nat} (h : n ≤ 16000000) : n ≤ sizeLine := Nat.le_trans h (by rw [sizeLine_eq]; decide)
theorem sz_lt {n : Nat} (h : n ≤ 16000000) : n < sizeLine := Nat.lt_of_le_of_lt h (by rw [sizeLine_eq]; decide)
def fAll (K : PySem.W.Frag) (f : List Bool → Bool) : List V → Hp → VK → Prop := fun xs H Q => match xs with
  | [.ref a] => ∃ ys bs, SqL K H a ys ∧ ys = bs.map V.bl ∧ Q (.bl (f bs)) H
  | _ => False
theorem f_all {X : Cx} (hc : X.calm = true) : CallR X (.builtin "all") (fAll X.K fun bs => bs.all id) := call_imp (cr_all hc) fun xs H Q q => by
  unfold fAll at q
  split at q
  · obtain ⟨ys, bs, h, rfl, q⟩ := q
    exact ⟨_, bs, rfl, h, q⟩
  · exact q.elim
theorem Same.no {H H' : Hp} {p : Addr} (s : Same H H') (n : H' p = none) : H p = none := by
  cases h : H p with
  | none => rfl
  | some o =>
    rw [s _ _ h] at n
    cases n
end Fg
namespace Fg
open PySem PySem.Spec PyProof.Rows L2
inductive Sd where
  | L (a : Addr)
  | T (a : Addr)
  | S (z : Str)
def Sd.has (K : PySem.W.Frag) (H : Hp) : Sd → List V → Prop
  | .L a => SqL K H a
  | .T a => SqT K H a
  | .S z => fun xs => xs = signs z
def Sd.v : Sd → V
  | .L a => .ref a
  | .T a => .ref a
  | .S z => .str z
section
variable {X : Cx} {pins : List (Addr × Obj)} {σ : L2.St} {H : Hp} {s : Shared}
theorem Sd.inj {d : Sd} (I : Inv X pins σ H s) {xs ys : List V} (h : d.has X.K H xs) (h' : d.has X.K H ys) : xs = ys := by
  cases d with
  | L a => exact I.list_inj h h'
  | T a => exact I.tuple_inj h h'
  | S z => exact (show xs = signs z from h).trans (show ys = signs z from h').symm
end
end Fg
namespace L2
open PySem PySem.Spec PyProof.Rows
end L2
namespace Fg
open PySem PySem.Spec PySem.Calls PyProof.Rows L2
inductive Pr3 (F : V → V → Bool → Prop) : List V → List V → List Bool → Prop
  | nl {ys : List V} : Pr3 F [] ys []
  | nr {xs : List V} : Pr3 F xs [] []
  | cons {x y : V} {b : Bool} {xs ys : List V} {bs : List Bool} : F x y b → Pr3 F xs ys bs → Pr3 F (x :: xs) (y :: ys) (b :: bs)
/-- x == y answers b -/
def EqB (K : PySem.W.Frag) (H : Hp) : Nat → V → V → Bool → Prop
  | 0 => fun x y b => flatV x = true ∧ flatV y = true ∧ b = eqV x y
  | n + 1 => fun x y b => (flatV x = true ∧ flatV y = true ∧ b = eqV x y) ∨ (∃ a, x = .ref a ∧ y = .ref a ∧ b = true) ∨
    (∃ a c xs ys, x = .ref a ∧ y = .ref c ∧ SqL K H a xs ∧ SqL K H c ys ∧ xs.length ≠ ys.length ∧ b = false) ∨
    (∃ a c xs ys bs, x = .ref a ∧ y = .ref c ∧ SqL K H a xs ∧ SqL K H c ys ∧ xs.length = ys.length ∧ Pr3 (EqB K H n) xs ys bs ∧ b = bs.all id) ∨
    (∃ a c xs ys bs, x = .ref a ∧ y = .ref c ∧ SqT K H a xs ∧ SqT K H c ys ∧ Pr3 (EqB K H n) xs ys bs ∧ b = (bs.all id && xs.length == ys.length))
theorem eqV_self {x : V} (h : flatV x = true) : eqV x x = true := by
  cases x <;> first | (cases h; done) | simp [eqV]
theorem pr3_at {F : V → V → Bool → Prop} {A : Around} {s : Shared} (ih : ∀ x y b v u, F x y b → RelV x v → RelV y u → SeqAt.EqAt A s v u b) {xs ys : List V} {bs : List Bool} (hp : Pr3 F xs ys bs) :
    ∀ {us ws : List Value}, L2.Vals xs us → L2.Vals ys ws → bs.length = min us.length ws.length ∧ ∀ j (h1 : j < us.length) (h2 : j < ws.length), SeqAt.EqAt A s us[j] ws[j] (bs.getD j false) := by
  induction hp with
  | nl =>
    intro us ws r1 _
    cases r1
    exact ⟨by simp, fun j h1 => absurd h1 (Nat.not_lt_zero j)⟩
  | nr =>
    intro us ws _ r2
    cases r2
    exact ⟨by simp, fun j _ h2 => absurd h2 (Nat.not_lt_zero j)⟩
  | cons f _ rest =>
    intro us ws r1 r2
    cases r1 with
    | cons p1 q1 =>
      cases r2 with
      | cons p2 q2 =>
        obtain ⟨hl, hr⟩ := rest q1 q2
        refine ⟨by simp only [List.length_cons]; omega, fun j h1 h2 => ?_⟩
        match j with
        | 0 => exact ih _ _ _ _ _ f p1 p2
        | j + 1 => exact hr j (Nat.lt_of_succ_lt_succ h1) (Nat.lt_of_succ_lt_succ h2)
theorem all_getD (bs : List Bool) : (List.range bs.length).all (fun j => bs.getD j false) = bs.all id := by
  induction bs with
  | nil => rfl
  | cons b r ih =>
    rw [List.length_cons, List.range_succ_eq_map, List.all_cons, List.all_map, List.all_cons]
    exact congrArg (b && ·) ih
section
variable {X : Cx} {pins : List (Addr × Obj)} {σ : L2.St} {H : Hp} {s : Shared}
theorem pr3_true {K : PySem.W.Frag} {n : Nat} (ih : ∀ x b, EqB K H n x x b → b = true) : ∀ {xs : List V} {bs : List Bool}, Pr3 (EqB K H n) xs xs bs → bs.all id = true
  | [], _, .nl => rfl
  | [], _, .nr => rfl
  | x :: xs, _, .cons f r => by
    rw [List.all_cons, pr3_true ih r, ih _ _ f]
    rfl
theorem eqB_true (J : Inv X pins σ H s) : ∀ (n : Nat) (x : V) (b : Bool), EqB X.K H n x x b → b = true
  | 0, x, b, h => by
    obtain ⟨f, _, rfl⟩ := h
    exact eqV_self f
  | n + 1, x, b, h => by
    rcases h with ⟨f, _, rfl⟩ | ⟨a, _, _, rfl⟩ | ⟨a, c, xs, ys, e1, e2, h1, h2, hl, rfl⟩ | ⟨a, c, xs, ys, bs, e1, e2, h1, h2, hl, hp, rfl⟩ | ⟨a, c, xs, ys, bs, e1, e2, h1, h2, hp, rfl⟩
    · exact eqV_self f
    · rfl
    · rw [e1] at e2
      cases e2
      exact absurd (congrArg List.length (J.list_inj h1 h2)) hl
    · rw [e1] at e2
      cases e2
      cases J.list_inj h1 h2
      exact pr3_true (eqB_true J n) hp
    · rw [e1] at e2
      cases e2
      cases J.tuple_inj h1 h2
      rw [pr3_true (eqB_true J n) hp]
      simp
theorem eqB_at (J : Inv X pins σ H s) : ∀ (n : Nat) (A : Around), A.units + n < cLine → ∀ (x y : V) (b : Bool) (v u : Value), EqB X.K H n x y b → RelV x v → RelV y u → SeqAt.EqAt A s v u b
  | 0, A, hu, x, y, b, v, u, h, rx, ry => by
    obtain ⟨f1, f2, rfl⟩ := h
    exact eqAt_V rx ry f1 f2
  | n + 1, A, hu, x, y, b, v, u, h, rx, ry => by
    have h0 := h
    rcases h with ⟨f1, f2, rfl⟩ | ⟨a, rfl, rfl, rfl⟩ | ⟨a, c, xs, ys, rfl, rfl, ha, hb, hl, rfl⟩ | ⟨a, c, xs, ys, bs, rfl, rfl, ha, hb, hl, hp, rfl⟩ | ⟨a, c, xs, ys, bs, rfl, rfl, ha, hb, hp, rfl⟩
    · exact eqAt_V rx ry f1 f2
    · cases rx
      cases ry
      exact SeqAt.EqAt.same _
    · cases rx
      cases ry
      have e : a ≠ c := fun e => by
        subst e
        exact hl (congrArg List.length (J.list_inj ha hb))
      obtain ⟨us, r1, p1, _⟩ := J.list ha
      obtain ⟨ws, r2, p2, _⟩ := J.list hb
      refine SeqAt.EqAt.of_refs e (SeqAt.RcAt.lists_lengths p1.isList p2.isList ?_ (by omega))
      rw [List.size_toArray, List.size_toArray, ← r1.length, ← r2.length]
      simpa using hl
    · cases rx
      cases ry
      by_cases e : a = c
      · subst e
        rw [eqB_true J (n + 1) _ _ h0]
        exact SeqAt.EqAt.same _
      obtain ⟨us, r1, p1, _⟩ := J.list ha
      obtain ⟨ws, r2, p2, _⟩ := J.list hb
      have hsz : us.toArray.size = ws.toArray.size := by rw [List.size_toArray, List.size_toArray, ← r1.length, ← r2.length]; exact hl
      obtain ⟨hbl, k⟩ := pr3_at (eqB_at J n A.in1 (by show A.units + 1 + n < cLine; omega)) hp r1 r2
      have z := SeqAt.RcAt.lists (A := A) (e := fun j => bs.getD j false) p1.isList p2.isList hsz (by omega) fun j h1 h2 => by
        have k := k j (by simpa using h1) (by simpa using h2)
        simpa using k
      have es : us.toArray.size = bs.length := by
        rw [hbl]
        simp only [List.size_toArray] at hsz ⊢
        omega
      rw [es, all_getD] at z
      exact SeqAt.EqAt.of_refs e z
    · cases rx
      cases ry
      by_cases e : a = c
      · subst e
        rw [eqB_true J (n + 1) _ _ h0]
        exact SeqAt.EqAt.same _
      obtain ⟨us, r1, p1, _⟩ := J.tuple ha
      obtain ⟨ws, r2, p2, _⟩ := J.tuple hb
      obtain ⟨hbl, k⟩ := pr3_at (eqB_at J n A.in1 (by show A.units + 1 + n < cLine; omega)) hp r1 r2
      have z := SeqAt.RcAt.tuples (A := A) (e := fun j => bs.getD j false) p1 p2 (by omega) fun j h1 h2 => by
        have k := k j (by simpa using h1) (by simpa using h2)
        simpa using k
      have es : min us.toArray.size ws.toArray.size = bs.length := by
        rw [hbl]
        simp only [List.size_toArray]
      rw [es, all_getD, List.size_toArray, List.size_toArray, ← r1.length, ← r2.length] at z
      exact SeqAt.EqAt.of_refs e z
/-- == and != of two lists, two tuples -/
def fEqB (K : PySem.W.Frag) (neg : Bool) : R2 := fun x y H Q => match x, y with
  | .ref a, .ref c => (∃ xs ys, SqL K H a xs ∧ SqL K H c ys ∧ xs.length ≠ ys.length ∧ Q (.bl neg) H) ∨
    (∃ xs ys bs, SqL K H a xs ∧ SqL K H c ys ∧ xs.length = ys.length ∧ Pr3 (EqB K H 20) xs ys bs ∧ Q (.bl (opp neg (bs.all id))) H) ∨
    (∃ xs ys bs, SqT K H a xs ∧ SqT K H c ys ∧ Pr3 (EqB K H 20) xs ys bs ∧ Q (.bl (opp neg (bs.all id && xs.length == ys.length))) H)
  | _, _ => False
theorem f_eqB (hu : X.A.units + 64 < cLine) : OpR X (compareOp .Eq) (fEqB X.K false) := by
  intro pins s σ H x y v u Q J rx ry h
  unfold fEqB at h
  split at h
  · rename_i a c
    cases rx
    cases ry
    rcases h with ⟨xs, ys, ha, hb, hl, q⟩ | ⟨xs, ys, bs, ha, hb, hl, hp, q⟩ | ⟨xs, ys, bs, ha, hb, hp, q⟩
    · obtain ⟨us, r1, p1, _⟩ := J.list ha
      obtain ⟨ws, r2, p2, _⟩ := J.list hb
      refine SeqAt.eq_list_lengthsAt p1.isList p2.isList ?_ (by omega) ⟨.bl false, H, J, rfl, q⟩
      rw [List.size_toArray, List.size_toArray, ← r1.length, ← r2.length]
      simpa using hl
    · obtain ⟨us, r1, p1, _⟩ := J.list ha
      obtain ⟨ws, r2, p2, _⟩ := J.list hb
      have hsz : us.toArray.size = ws.toArray.size := by rw [List.size_toArray, List.size_toArray, ← r1.length, ← r2.length]; exact hl
      obtain ⟨hbl, k⟩ := pr3_at (eqB_at J 20 X.A.in1 (by show X.A.units + 1 + 20 < cLine; omega)) hp r1 r2
      have es : us.toArray.size = bs.length := by
        rw [hbl]
        simp only [List.size_toArray] at hsz ⊢
        omega
      refine SeqAt.eq_listAt (e := fun j => bs.getD j false) p1.isList p2.isList hsz (by omega) (fun j h1 h2 => ?_) ?_
      · have k := k j (by simpa using h1) (by simpa using h2)
        simpa using k
      · rw [es, all_getD]
        exact ⟨.bl _, H, J, rfl, q⟩
    · obtain ⟨us, r1, p1, _⟩ := J.tuple ha
      obtain ⟨ws, r2, p2, _⟩ := J.tuple hb
      obtain ⟨hbl, k⟩ := pr3_at (eqB_at J 20 X.A.in1 (by show X.A.units + 1 + 20 < cLine; omega)) hp r1 r2
      have es : min us.toArray.size ws.toArray.size = bs.length := by
        rw [hbl]
        simp only [List.size_toArray]
      refine SeqAt.eq_tupleAt (e := fun j => bs.getD j false) p1 p2 (by omega) (fun j h1 h2 => ?_) ?_
      · have k := k j (by simpa using h1) (by simpa using h2)
        simpa using k
      · rw [es, all_getD, List.size_toArray, List.size_toArray, ← r1.length, ← r2.length]
        exact ⟨.bl _, H, J, rfl, q⟩
  · exact h.elim
theorem f_neB (hu : X.A.units + 64 < cLine) : OpR X (compareOp .NotEq) (fEqB X.K true) := by
  intro pins s σ H x y v u Q J rx ry h
  unfold fEqB at h
  split at h
  · rename_i a c
    cases rx
    cases ry
    rcases h with ⟨xs, ys, ha, hb, hl, q⟩ | ⟨xs, ys, bs, ha, hb, hl, hp, q⟩ | ⟨xs, ys, bs, ha, hb, hp, q⟩
    · obtain ⟨us, r1, p1, _⟩ := J.list ha
      obtain ⟨ws, r2, p2, _⟩ := J.list hb
      refine SeqAt.RcNeAt.lists_lengths p1.isList p2.isList ?_ (by omega) _ _ _ _ ⟨.bl true, H, J, rfl, q⟩
      rw [List.size_toArray, List.size_toArray, ← r1.length, ← r2.length]
      simpa using hl
    · obtain ⟨us, r1, p1, _⟩ := J.list ha
      obtain ⟨ws, r2, p2, _⟩ := J.list hb
      have hsz : us.toArray.size = ws.toArray.size := by rw [List.size_toArray, List.size_toArray, ← r1.length, ← r2.length]; exact hl
      obtain ⟨hbl, k⟩ := pr3_at (eqB_at J 20 X.A.in1 (by show X.A.units + 1 + 20 < cLine; omega)) hp r1 r2
      have es : us.toArray.size = bs.length := by
        rw [hbl]
        simp only [List.size_toArray] at hsz ⊢
        omega
      refine SeqAt.RcNeAt.lists (e := fun j => bs.getD j false) p1.isList p2.isList hsz (by omega) (fun j h1 h2 => ?_) _ _ _ _ ?_
      · have k := k j (by simpa using h1) (by simpa using h2)
        simpa using k
      · rw [es, all_getD]
        exact ⟨.bl _, H, J, rfl, q⟩
    · obtain ⟨us, r1, p1, _⟩ := J.tuple ha
      obtain ⟨ws, r2, p2, _⟩ := J.tuple hb
      obtain ⟨hbl, k⟩ := pr3_at (eqB_at J 20 X.A.in1 (by show X.A.units + 1 + 20 < cLine; omega)) hp r1 r2
      have es : min us.toArray.size ws.toArray.size = bs.length := by
        rw [hbl]
        simp only [List.size_toArray]
      refine SeqAt.RcNeAt.tuples (e := fun j => bs.getD j false) p1 p2 (by omega) (fun j h1 h2 => ?_) _ _ _ _ ?_
      · have k := k j (by simpa using h1) (by simpa using h2)
        simpa using k
      · rw [es, all_getD, List.size_toArray, List.size_toArray, ← r1.length, ← r2.length]
        exact ⟨.bl _, H, J, rfl, q⟩
  · exact h.elim
end
end Fg
namespace L2
open PySem PySem.Spec PyProof.Rows
end L2
namespace Fg
open PySem PySem.Spec PyProof.Rows L2
abbrev leMro : List Value := [.type "LookupError", .type "Exception", .type "BaseException", .type "object"]
structure OexL (K : PySem.W.Frag) (C : Addr) : Prop where
  cls : ∃ nm q N bs bm sn sub ab col dd k0 k1 k2 k3 k5, K.lookup C = some (excClassObj nm q C N bs bm true sn sub ab col dd k0 k1 k2 k3 k5 "LookupError.__new__") ∧ PySem.W.excTail leMro bm = true
  sa : PySem.W.findIn K (.ref C) "__setattr__" = some (some (.builtin "object.__setattr__"))
  exC : PySem.W.subIn K (.ref C) (.type "BaseException") = some true
  tyC : PySem.W.typeIn K (.ref C) = some (.type "type")
  kC : PySem.W.keepIn K (.ref C) = true
/-- the first field of such an error is set: its dict is laid -/
theorem osaL {prog : Program} {w : World} {A : Around} {R : Result → Shared → Prop} {hp : Heap} {g : Array GenState} {d : Drawn} {t : Nat} {os : OsState} {K : PySem.W.Frag} {name : Str} {tk : Tok} {v : Value} {x C : Addr} {fv : Array Value}
    (T : OexL K C) (X : K.In hp) (hx : hp.get? x = some { cls := .ref C, data := .fields fv }) (ha : PySem.W.findIn K (.ref C) name = some none)
    (hq : ∀ h' tk' dx, (∀ b o, b ≠ x → hp.get? b = some o → h'.get? b = some o) → hp.objs.size ≤ dx → dx ≠ x → h'.get? x = some { cls := .ref C, dict := some dx, data := .fields fv } →
      h'.Ns1 dx (fun y => if y = name then some v else none) → R (.ok (.ret .none)) ⟨h', g, d, tk', os⟩) :
    codeAny (model prog w) A (.call (.builtin "object.__setattr__") ⟨[.ref x, .str name tk, v], []⟩) R ⟨hp, g, d, t, os⟩ := by
  obtain ⟨nm, q, N, bs, bm, sn, sub, ab, col, dd, k0, k1, k2, k3, k5, hC, hbm⟩ := T.cls
  have hcl : PySem.W.clsIn K C = some { name := nm, bases := bs, mro := .ref C :: bm, ns := N, qualname := q, hasDict := true, slotNames := sn, subclasses := sub, abstract := ab, collection := col, hasDel := false } := by unfold PySem.W.clsIn; rw [hC] <;> rfl
  have I : PySem.W.InstAt hp x { cls := .ref C, data := .fields fv } C none := ⟨hx, rfl, rfl, trivial⟩
  have ov : PySem.W.excOver K C leMro = true := by
    unfold PySem.W.excOver
    rw [hcl]
    show (C == C && PySem.W.excTail leMro bm) = true
    rw [beq_self_eq_true, hbm]
    rfl
  have tn : PySem.W.takerIn K C name = some none := by
    unfold PySem.W.takerIn
    rw [ha]
    rfl
  have hcls := PySem.W.looks_clsIn (M := model prog w) X hcl
  have hxs : x ≠ hp.objs.size := Nat.ne_of_lt (Heap.lt_size hx)
  refine PySem.W.osa_openX F.store_LookupError X I ov tn (fun b => ?_)
  show wpAny _ _ (Builtin.ObjectAttr.storeInOwnDict (.ref x) (.ref C) (.str name tk) name v b) _ _ _
  unfold Builtin.ObjectAttr.storeInOwnDict Builtin.ObjectAttr.ownDictForStores
  repeat (first | with_reducible refine PySem.HandSPX.store_in_new ?_ ?_ | with_reducible refine wpAny_loadPart_at hx ?_ | with_reducible refine hcls.at ?_ | wp_step)
  · exact ⟨_, #[], _, (Heap.get?_update_ne _ _ _ _ hxs.symm).trans (Heap.get?_push_at rfl rfl), rfl, fun e he => absurd he (by simp), fun _ => rfl⟩
  · intro h' tk' hn' hs
    have h0 : (hp.push { cls := .type "dict", data := .dict #[] }).get? x = some { cls := .ref C, data := .fields fv } := Heap.get?_push_of_some _ hx
    exact hq h' tk' hp.objs.size (fun b o hb ho => (hs.2 b (Nat.ne_of_lt (Heap.lt_size ho))).trans ((Heap.get?_update_ne _ _ _ _ hb).trans (Heap.get?_push_of_some _ ho))) (Nat.le_refl _) hxs.symm ((hs.2 x hxs).trans (Heap.get?_update_self _ h0 rfl)) hn'
section
variable {X : Cx} {pins : List (Addr × Obj)} {σ : L2.St} {H : Hp} {a C dx : Addr} {f : Str} {y : V} {u : Value}
/-- an error that has got its dict -/
theorem inv_dict {hp h' : Heap} {g : Array GenState} {d : Drawn} {t t' : Nat} {os : OsState} {t1 : Addr} {fs : List (Str × V)} {mA : Str → Option Value} (I : Inv X pins σ H ⟨hp, g, d, t, os⟩) (e : H a = some (exo a C none)) (k : ∀ b o, b ≠ a → hp.get? b = some o → h'.get? b = some o)
    (dn : hp.objs.size ≤ dx) (dne : dx ≠ a) (hx : h'.get? a = some ({ cls := .ref C, dict := some dx, data := .fields #[.ref t1, .none, .none, .none, .bool false, .none] } : Obj)) (hn : h'.Ns1 dx mA) (rel : ∀ g, RelO (fs.lookup g) (mA g)) :
    Inv X pins σ (upd (upd H dx (exd dx fs)) a (exo a C (some dx))) ⟨h', g, d, t', os⟩ := by
  have hnd : H dx = none := I.hok.fresh dn
  have na : ∀ {b : Addr}, H b = none → b ≠ a := fun n z => by rw [z, e] at n; cases n
  have at2 : ∀ {b : Addr} {o : HO}, b ≠ a → H b = some o → upd (upd H dx (exd dx fs)) a (exo a C (some dx)) b = some o := fun hb q => by rw [upd_ne hb, upd_ne (ne_of_none q hnd)]; exact q
  refine I.un (t' := t') ⟨fun b o q n _ _ => k b o (na n) q, fun b o q n _ _ => ⟨o.slots, k b o (na n) q⟩, fun b o q n _ => ?_, fun b o q _ => ?_, fun b xs q => at2 (at_ne e q exo_tup) q, fun b o v q => at2 (at_ne e q exo_frz) q, fun b ps q => ⟨#[], by rw [at2 (at_ne e q exo_tbl) q]; simp⟩⟩ fun b o q => ?_
  · rw [upd_ne (na n), upd_ne (Nat.ne_of_lt (Nat.lt_of_lt_of_le (Heap.lt_size q) dn))]
    exact n
  · by_cases hb : b = a
    · exact ⟨_, by rw [hb]; exact hx⟩
    · exact ⟨o, k b o hb q⟩
  · by_cases hb : b = a
    · subst hb
      rw [upd_same] at q
      cases q
      exact exo_ok hx
    · rw [upd_ne hb] at q
      by_cases hd : b = dx
      · subst hd
        rw [upd_same] at q
        cases q
        exact exd_ok hn rel
      · rw [upd_ne hd] at q
        refine (I.hok b o q).stay (fun c v hc z => k c v ?_ z) (fun c hc => at2 (at_ne e hc exo_own) hc) (fun c xs hc => at2 (at_ne e hc exo_tup) hc)
        rcases hc with hc | hc
        · rw [hc]
          exact hb
        · exact at_ne e hc exo_own
/-- self.f = e in the error's __init__ -/
def tOstL (K : PySem.W.Frag) (f : Str) (to te : TE) : TS := fun D σ H => te σ H fun y H1 => to σ H1 fun x H2 => ∃ a C : Addr, x = .ref a ∧ OexL K C ∧ PySem.W.findIn K (.ref C) f = some none ∧
  H2 a = some (exo a C none) ∧ ∀ dx, H2 dx = none → dx ≠ a → D.nx σ (upd (upd H2 dx (exd dx [(f, y)])) a (exo a C (some dx)))
theorem ps_ostL {o e : Expr} {to te : TE} {p' pos : Pos} (ho : PE X o to) (he : PE X e te) (hs : swapsWith e (some (.Attribute o f p')) pos.line X.env = pure false := by rfl) : PS X (.Assign [.Attribute o f p'] e pos) (tOstL X.K f to te) := by
  refine ⟨fun pins s σ H D I h => ?_⟩
  refine plainObj_wpAny_Assign_Attribute (thn (he.run pins s σ H _ I h) fun v s1 ⟨y, H1, I1, r1, q1⟩ => thn (ho.run pins s1 σ H1 _ I1 q1) fun u s2 ⟨x, H2, I2, r2, a, C, ex, T, hno, ea, q⟩ => ?_) hs
  subst ex
  obtain rfl : u = Value.ref a := r2
  obtain ⟨t1, ha⟩ := exo_at I2.hok ea
  obtain ⟨hp, g, d, t, os⟩ := s2
  refine PySem.W.set_plain I2.kIn (ox := { cls := .ref C, dict := none, data := .fields #[.ref t1, .none, .none, .none, .bool false, .none] }) (od := none) ⟨ha, rfl, rfl, trivial⟩ T.sa ?_
  refine osaL T I2.kIn ha hno fun h' tk' dx k dn dne hx hn => ?_
  exact ⟨σ, _, inv_dict I2 ea k dn dne hx hn (relO_put (fs := []) r1 fun _ => True.intro), q dx (I2.hok.fresh dn) dne⟩
end
end Fg
namespace Fg
open PySem PySem.Spec PyProof.Rows L2
/-- an own error below LookupError that has no __init__ of its own -/
structure OexZ (K : PySem.W.Frag) (C : Addr) : Prop where
  q : PySem.W.excIn K C leMro "LookupError.__new__" = true
  exC : PySem.W.subIn K (.ref C) (.type "BaseException") = some true
  tyC : PySem.W.typeIn K (.ref C) = some (.type "type")
  kC : PySem.W.keepIn K (.ref C) = true
end Fg
namespace Fg
open PySem PySem.Spec PySem.Calls PyProof.Rows L2
section
variable {X : Cx}
inductive PrsAt (K : PySem.W.Frag) (H : Hp) : List V → List (Int × Int) → Prop
  | nil : PrsAt K H [] []
  | cons {t : Addr} {p : Int × Int} {xs : List V} {ps : List (Int × Int)} (h : SqT K H t [.int p.1, .int p.2]) (r : PrsAt K H xs ps) : PrsAt K H (.ref t :: xs) (p :: ps)
end
end Fg
namespace Fg
open PySem PySem.Spec PySem.Calls PyProof.Rows L2
section
variable {prog : Program} {w : World} {A : Around} {E : Value → Shared → Prop} {s : Shared} {z TI TO i1 i2 l1 l2 : Addr} {xs ys : Array Value}
/-- a zip of two lists, i turns on; its last tuple may be out -/
def ZlSt (z TI TO i1 i2 l1 l2 S : Addr) (xs ys : Array Value) (i : Nat) (h : Heap) : Prop :=
  IsTupOf2 h TI (.ref i1) (.ref i2) ∧ (h.IsListIter i1 l1 i ∧ h.IsList l1 xs) ∧ (h.IsListIter i2 l2 i ∧ h.IsList l2 ys) ∧
    ((IsZip h z TI TO .none ∧ ∃ a b, IsTupOf2 h TO a b) ∨ ∃ T f oT, IsZipHeld h z TI TO T f ∧ h.get? T = some oT ∧ T ≠ z ∧ T ≠ i1 ∧ T ≠ i2 ∧ T ≠ S)
theorem ZlSt.keep {S : Addr} {i : Nat} {h h' : Heap} (st : ZlSt z TI TO i1 i2 l1 l2 S xs ys i h) (hk : ∀ b o, b ≠ S → h.get? b = some o → h'.get? b = some o)
    (n : z ≠ S ∧ TI ≠ S ∧ TO ≠ S ∧ i1 ≠ S ∧ i2 ≠ S ∧ l1 ≠ S ∧ l2 ≠ S) : ZlSt z TI TO i1 i2 l1 l2 S xs ys i h' := by
  obtain ⟨nz, nTI, nTO, n1, n2, m1, m2⟩ := n
  obtain ⟨a1, ⟨a2, a3⟩, ⟨a4, a5⟩, zz⟩ := st
  refine ⟨hk _ _ nTI a1, ⟨a2.at fun o e => hk _ o n1 e, a3.at fun o e => hk _ o m1 e⟩, ⟨a4.at fun o e => hk _ o n2 e, a5.at fun o e => hk _ o m2 e⟩, ?_⟩
  rcases zz with ⟨b1, u, v, b2⟩ | ⟨T, f, oT, b1, b2, r1, r2, r3, r4⟩
  · exact .inl ⟨hk _ _ nz b1, u, v, hk _ _ nTO b2⟩
  · exact .inr ⟨T, f, oT, hk _ _ nz b1, hk _ _ r4 b2, r1, r2, r3, r4⟩
end
/-- the tuples of the pairs as they stand -/
structure ZlG (xs ys : Array Value) (lo : Addr) (h : Heap) (as : List Addr) : Prop where
  rise : as.Pairwise (· < ·)
  above : ∀ a ∈ as, lo ≤ a
  pairs : ∀ (j : Nat) (a : Addr), as[j]? = some a → ∃ x y, xs[j]? = some x ∧ ys[j]? = some y ∧ h.get? a = some { cls := .type "tuple", data := .seq #[x, y] }
theorem ZlG.there {xs ys : Array Value} {lo : Addr} {h : Heap} {as : List Addr} (g : ZlG xs ys lo h as) {a : Addr} (ha : a ∈ as) : a < h.objs.size := by
  obtain ⟨j, hj⟩ := List.mem_iff_getElem?.mp ha
  obtain ⟨_, _, _, _, e⟩ := g.pairs j a hj
  exact Heap.lt_size e
end Fg
namespace Fg
open PySem PySem.Spec PyProof.Rows L2 GenW
structure GEx where
  nx : Nat → L2.St → Hp → Prop
  rt : Nat → V → Hp → Prop
  bk : Nat → L2.St → Hp → Prop := fun _ _ _ => False
  ct : Nat → L2.St → Hp → Prop := fun _ _ _ => False
def GEx.at (D : GEx) (i : Nat) : Ends := { nx := D.nx i, rt := D.rt i, bk := D.bk i, ct := D.ct i }
end Fg
namespace Fg
open PySem PySem.Spec PySem.Calls PyProof.Rows L2 GenW
/-- all that the consumer knows lies below La -/
structure LowP (X : Cx) (pins : List (Addr × Obj)) (La p : Addr) : Prop where
  p : p < La
  s0 : X.s_0.heap.objs.size ≤ La
  loc : X.env.locals < La
  cell : ∀ x c, X.env.cells.lookup x = some c → c < La
  pin : ∀ q ∈ X.pn ++ pins, q.1 < La
theorem back {X : Cx} {pins : List (Addr × Obj)} {σ : L2.St} {H0 H : Hp} {s0 s1 : Shared} {La p : Addr} {vs : List V} {n : Nat} (I : Inv X pins σ (upd H0 p (.lst vs)) s0) (hp : H0 p = none) (L : LowP X pins La p) (U : Un (frs X.stack) (List.range' La n) H0 H s0.heap s1.heap) (hok : HOk X.prog X.w H s1.heap) (os : s1.os = s0.os) (bare : AllBare s1.gens) :
    Inv X pins σ (upd H p (.lst vs)) s1 ∧ H p = none := by
  have nr : ∀ {b : Addr}, b < La → b ∉ List.range' La n := fun {b} hb hm => by
    rw [List.mem_range'_1] at hm
    exact absurd hm.1 (Nat.not_le_of_lt hb)
  obtain ⟨hz, its, nn, r, ho⟩ := I.hok p _ upd_same
  have pf : p ∉ frs X.stack := fun hm => by
    have := I.stkFree p hm
    rw [upd_same] at this; cases this
  have ho1 := U.keep p _ ho hp pf (nr L.p)
  have hp1 : H p = none := U.free p _ ho hp (nr L.p)
  have ne : ∀ {b : Addr}, (upd H0 p (.lst vs)) b = none → b ≠ p ∧ H0 b = none := fun {b} e => by
    have nb : b ≠ p := fun z => by subst z; rw [upd_same] at e; cases e
    rw [upd_ne nb] at e
    exact ⟨nb, e⟩
  refine ⟨I.call' (ch := List.range' La n) os ⟨fun b o e q hf hx => U.keep b o e (ne q).2 hf hx, fun b o e q hf hx => U.slot b o e (ne q).2 hf hx, fun b o e q hx => ?_, U.there, fun b xs q => ?_, fun b o u q => ?_, fun b ps q => ?_⟩ (fun b u q => ?_) bare fun b hb => ?_, hp1⟩
  · rw [upd_ne (ne q).1]; exact U.free b o e (ne q).2 hx
  · have nb : b ≠ p := fun z => by subst z; rw [upd_same] at q; cases q
    rw [upd_ne nb] at q ⊢
    exact U.tups b xs q
  · have nb : b ≠ p := fun z => by subst z; rw [upd_same] at q; cases q
    rw [upd_ne nb] at q ⊢
    exact U.frzs b o u q
  · have nb : b ≠ p := fun z => by subst z; rw [upd_same] at q; cases q
    rw [upd_ne nb] at q ⊢
    exact U.tbls b ps q
  · by_cases hb : b = p
    · subst hb
      rw [upd_same] at q
      cases q
      exact ⟨hz, its, nn, r, ho1⟩
    · rw [upd_ne hb] at q
      exact (hok b u q).stay (fun _ _ _ z => z) (fun c z => by rw [upd_ne (ne_of_none z hp1)]; exact z) fun c xs z => by rw [upd_ne (ne_of_none z hp1)]; exact z
  · rw [List.mem_range'_1] at hb
    exact ⟨.inr (Nat.le_trans L.s0 hb.1), Nat.ne_of_gt (Nat.lt_of_lt_of_le L.loc hb.1), fun x c e => Nat.ne_of_lt (Nat.lt_of_lt_of_le (L.cell x c e) hb.1), fun q hq => Nat.ne_of_lt (Nat.lt_of_lt_of_le (L.pin q hq) hb.1)⟩
end Fg
namespace Fg
open PySem PySem.Spec PyProof.Rows L2
abbrev aeMro : List Value := [.type "ArithmeticError", .type "Exception", .type "BaseException", .type "object"]
structure OexA (K : PySem.W.Frag) (C : Addr) : Prop where
  cls : ∃ nm q N bs bm sn sub ab col dd k0 k1 k2 k3 k5, K.lookup C = some (excClassObj nm q C N bs bm true sn sub ab col dd k0 k1 k2 k3 k5 "ArithmeticError.__new__") ∧ PySem.W.excTail aeMro bm = true
  sa : PySem.W.findIn K (.ref C) "__setattr__" = some (some (.builtin "object.__setattr__"))
  exC : PySem.W.subIn K (.ref C) (.type "BaseException") = some true
  tyC : PySem.W.typeIn K (.ref C) = some (.type "type")
  kC : PySem.W.keepIn K (.ref C) = true
/-- the first field of such an error is set: its dict is laid -/
theorem osaA {prog : Program} {w : World} {A : Around} {R : Result → Shared → Prop} {hp : Heap} {g : Array GenState} {d : Drawn} {t : Nat} {os : OsState} {K : PySem.W.Frag} {name : Str} {tk : Tok} {v : Value} {x C : Addr} {fv : Array Value}
    (T : OexA K C) (X : K.In hp) (hx : hp.get? x = some { cls := .ref C, data := .fields fv }) (ha : PySem.W.findIn K (.ref C) name = some none)
    (hq : ∀ h' tk' dx, (∀ b o, b ≠ x → hp.get? b = some o → h'.get? b = some o) → hp.objs.size ≤ dx → dx ≠ x → h'.get? x = some { cls := .ref C, dict := some dx, data := .fields fv } →
      h'.Ns1 dx (fun y => if y = name then some v else none) → R (.ok (.ret .none)) ⟨h', g, d, tk', os⟩) :
    codeAny (model prog w) A (.call (.builtin "object.__setattr__") ⟨[.ref x, .str name tk, v], []⟩) R ⟨hp, g, d, t, os⟩ := by
  obtain ⟨nm, q, N, bs, bm, sn, sub, ab, col, dd, k0, k1, k2, k3, k5, hC, hbm⟩ := T.cls
  have hcl : PySem.W.clsIn K C = some { name := nm, bases := bs, mro := .ref C :: bm, ns := N, qualname := q, hasDict := true, slotNames := sn, subclasses := sub, abstract := ab, collection := col, hasDel := false } := by unfold PySem.W.clsIn; rw [hC] <;> rfl
  have I : PySem.W.InstAt hp x { cls := .ref C, data := .fields fv } C none := ⟨hx, rfl, rfl, trivial⟩
  have ov : PySem.W.excOver K C aeMro = true := by
    unfold PySem.W.excOver
    rw [hcl]
    show (C == C && PySem.W.excTail aeMro bm) = true
    rw [beq_self_eq_true, hbm]
    rfl
  have tn : PySem.W.takerIn K C name = some none := by
    unfold PySem.W.takerIn
    rw [ha]
    rfl
  have hcls := PySem.W.looks_clsIn (M := model prog w) X hcl
  have hxs : x ≠ hp.objs.size := Nat.ne_of_lt (Heap.lt_size hx)
  refine PySem.W.osa_openX F.store_ArithmeticError X I ov tn (fun b => ?_)
  show wpAny _ _ (Builtin.ObjectAttr.storeInOwnDict (.ref x) (.ref C) (.str name tk) name v b) _ _ _
  unfold Builtin.ObjectAttr.storeInOwnDict Builtin.ObjectAttr.ownDictForStores
  repeat (first | with_reducible refine PySem.HandSPX.store_in_new ?_ ?_ | with_reducible refine wpAny_loadPart_at hx ?_ | with_reducible refine hcls.at ?_ | wp_step)
  · exact ⟨_, #[], _, (Heap.get?_update_ne _ _ _ _ hxs.symm).trans (Heap.get?_push_at rfl rfl), rfl, fun e he => absurd he (by simp), fun _ => rfl⟩
  · intro h' tk' hn' hs
    have h0 : (hp.push { cls := .type "dict", data := .dict #[] }).get? x = some { cls := .ref C, data := .fields fv } := Heap.get?_push_of_some _ hx
    exact hq h' tk' hp.objs.size (fun b o hb ho => (hs.2 b (Nat.ne_of_lt (Heap.lt_size ho))).trans ((Heap.get?_update_ne _ _ _ _ hb).trans (Heap.get?_push_of_some _ ho))) (Nat.le_refl _) hxs.symm ((hs.2 x hxs).trans (Heap.get?_update_self _ h0 rfl)) hn'
section
variable {X : Cx} {pins : List (Addr × Obj)} {σ : L2.St} {H : Hp} {a C dx : Addr} {f : Str} {y : V} {u : Value}
/-- self.f = e in the error's __init__ -/
def tOstA (K : PySem.W.Frag) (f : Str) (to te : TE) : TS := fun D σ H => te σ H fun y H1 => to σ H1 fun x H2 => ∃ a C : Addr, x = .ref a ∧ OexA K C ∧ PySem.W.findIn K (.ref C) f = some none ∧
  H2 a = some (exo a C none) ∧ ∀ dx, H2 dx = none → dx ≠ a → D.nx σ (upd (upd H2 dx (exd dx [(f, y)])) a (exo a C (some dx)))
theorem ps_ostA {o e : Expr} {to te : TE} {p' pos : Pos} (ho : PE X o to) (he : PE X e te) (hs : swapsWith e (some (.Attribute o f p')) pos.line X.env = pure false := by rfl) : PS X (.Assign [.Attribute o f p'] e pos) (tOstA X.K f to te) := by
  refine ⟨fun pins s σ H D I h => ?_⟩
  refine plainObj_wpAny_Assign_Attribute (thn (he.run pins s σ H _ I h) fun v s1 ⟨y, H1, I1, r1, q1⟩ => thn (ho.run pins s1 σ H1 _ I1 q1) fun u s2 ⟨x, H2, I2, r2, a, C, ex, T, hno, ea, q⟩ => ?_) hs
  subst ex
  obtain rfl : u = Value.ref a := r2
  obtain ⟨t1, ha⟩ := exo_at I2.hok ea
  obtain ⟨hp, g, d, t, os⟩ := s2
  refine PySem.W.set_plain I2.kIn (ox := { cls := .ref C, dict := none, data := .fields #[.ref t1, .none, .none, .none, .bool false, .none] }) (od := none) ⟨ha, rfl, rfl, trivial⟩ T.sa ?_
  refine osaA T I2.kIn ha hno fun h' tk' dx k dn dne hx hn => ?_
  exact ⟨σ, _, inv_dict I2 ea k dn dne hx hn (relO_put (fs := []) r1 fun _ => True.intro), q dx (I2.hok.fresh dn) dne⟩
end
end Fg
namespace Fg
open PySem PySem.Spec PyProof.Rows L2
abbrev RTab := Addr → Sp → Prop
/-- what stands above a call: builtin codes above the caller's -/
structure Rz (X : Cx) (k : Nat) (A : Around) : Prop where
  fr : A.frames = X.A.frames
  hd : A.handled = X.A.handled
  dp : A.depth + 3 * k + 5 < recursionLimit
  un : A.units + 16 * k + 200 < cLine
theorem Rz.mono {X : Cx} {j k : Nat} {A : Around} (r : Rz X k A) (h : j ≤ k) : Rz X j A := ⟨r.fr, r.hd, by have := r.dp; omega, by have := r.un; omega⟩
theorem Rz.in1 {X : Cx} {k : Nat} {A : Around} (r : Rz X (k + 1) A) : Rz X k A.in1 := ⟨r.fr, r.hd, by have := r.dp; show A.depth + 3 * k + 5 < _; omega, by have := r.un; show A.units + 1 + 16 * k + 200 < _; omega⟩
section
variable {X : Cx} {pins : List (Addr × Obj)} {σ : L2.St} {H : Hp} {s : Shared} {A : Around} {k : Nat} {rt : RTab} {base : Nat}
inductive EntR : List (Key × V) → List DictEntry → Prop
  | nil : EntR [] []
  | cons {k : Key} {v : V} {e : DictEntry} {kvs : List (Key × V)} {es : List DictEntry} : RelV (kV k) e.key → RelV v e.val → EntR kvs es → EntR ((k, v) :: kvs) (e :: es)
theorem EntR.length : ∀ {kvs : List (Key × V)} {es : List DictEntry}, EntR kvs es → kvs.length = es.length
  | _, _, .nil => rfl
  | _, _, .cons _ _ t => congrArg Nat.succ t.length
end
end Fg
namespace Fg
open PySem PySem.Spec PyProof.Rows L2
section
variable {prog : Program} {w : World} {A : Around} {R : Result → Shared → Prop} {h : Heap} {g : Array GenState} {d : Drawn} {t : Nat} {os : OsState} {kw : List (Str × Value)}
variable {nm q : Str} {C N : Addr} {bs bm bmB : List Value} {hdct : Bool} {sn : List Str} {sub : List Value} {ab : Bool} {col : Option Bool} {dd : Option Addr} {k0 k1 k2 k3 k5 : Option Value} {B newId initId : String}
theorem exk_in (hT : ∀ X : String, bm.contains (.type X) = bmB.contains (.type X)) (X : String) : (Value.ref C :: bm).contains (.type X) = bmB.contains (.type X) := by
  rw [List.contains_cons, hT]
  rfl
/-- BaseException.__new__ of such a class, keywords beside: they are not looked at -/
theorem exk_check (G : ExcBaseFacts B newId initId bmB) (hT : ∀ X : String, bm.contains (.type X) = bmB.contains (.type X)) {M : Model} {E : Value → Shared → Prop} {Q : Unit → Shared → Prop} (hC : h.get? C = some (excClassObj nm q C N bs bm hdct sn sub ab col dd k0 k1 k2 k3 k5 newId))
    (hq : Q () ⟨h, g, d, t, os⟩) : wpAny M A (checkBuiltinCall newId ⟨[.ref C], kw⟩) Q E ⟨h, g, d, t, os⟩ := by
  have inB := (exk_in (C := C) hT B).trans G.hasB
  have n0 := G.noStar
  simp only [checkBuiltinCall, G.newRow, G.newSplit, G.newKind]
  repeat (first | refine wpAny_loadPart_at hC ?_ | (refine wpAny_isSubtype_exc hC ?_; rw [inB]) | refine wpAny_madeBy_exc hC ?_ | refine wpAny_staticBase_exc hC ?_ | simp only [Bool.false_eq_true, bne_self_eq_false, if_false] | wp_step)
  all_goals exact hq
theorem exk_new (G : ExcBaseFacts B newId initId bmB) (hT : ∀ X : String, bm.contains (.type X) = bmB.contains (.type X)) (hC : h.get? C = some (excClassObj nm q C N bs bm hdct sn sub ab col dd k0 k1 k2 k3 k5 newId))
    (hq : R (.ok (.ret (.ref (h.objs.size + 1)))) ⟨(h.push (PySem.W.kdv_tup [])).push (PySem.HandSPX.excO C h.objs.size), g, d, t, os⟩) :
    codeAny (model prog w) A (.builtin newId ⟨[.ref C], kw⟩) R ⟨h, g, d, t, os⟩ := by
  have inB := (exk_in (C := C) hT B).trans G.hasB
  have inA := (exk_in (C := C) hT "AttributeError").trans G.noAttr
  have inN := (exk_in (C := C) hT "NameError").trans G.noName
  have e0 := G.ends
  refine codeAny_builtinAt G.entry ?_
  unfold Builtin.«BaseException.__new__»
  refine PySem.wpAt_bind ?_
  show PySem.wpAt _ _ _ (stack >>= _) _ _ _
  refine PySem.wpAt_bind (PySem.wpAt_stack fun p below => PySem.wpAt_of_wpAny ?_)
  wp_walk
  refine PySem.wpAt_of_wpAny ?_
  rw [G.owner]
  repeat (first | with_reducible refine wpAny_loadPart_at hC ?_ | with_reducible refine wpAny_madeHere_exc G.canon hC ?_ | (with_reducible refine wpAny_isSubtype_exc hC ?_; first | rw [inB] | rw [inA] | rw [inN]) | wp_step)
  show R _ _
  rw [Heap.size_push]
  exact hq
theorem exk_type (G : ExcBaseFacts B newId initId bmB) (hT : ∀ X : String, bm.contains (.type X) = bmB.contains (.type X)) {fI : Addr} {E : Value → Shared → Prop} {Q : Fin → Shared → Prop} (hC : h.get? C = some (excClassObj nm q C N bs bm hdct sn sub ab col dd k0 k1 k2 k3 k5 newId))
    (hi : PySem.W.Looks (model prog w) h (typeLookup (.ref C) "__init__") (some (.ref fI))) (hb : ∀ self, PySem.W.Looks (model prog w) h (bindSpecial (.ref fI) self) (.ref fI, [self]))
    (hq : codeAny (model prog w) A (.call (.ref fI) ⟨[.ref (h.objs.size + 1)], kw⟩) (fun r s' => match r with
      | .ok (.ret v) => v = .none ∧ Q (.done (.ret (.ref (h.objs.size + 1)))) s'
      | .ok _ => False
      | .error e => E e s') ⟨(h.push (PySem.W.kdv_tup [])).push (PySem.HandSPX.excO C h.objs.size), g, d, t, os⟩) :
    wpAny (model prog w) A (Builtin.«type.__call__» ⟨[.ref C], kw⟩) Q E ⟨h, g, d, t, os⟩ := by
  repeat (first | with_reducible refine wpAny_madeBy_exc hC ?_ | with_reducible refine wpAny_loadPart_at hC ?_ | wp_step)
  refine codeAny_call_builtin_code (Code.quiet_builtin _ G.quiet) (exk_check G hT hC (exk_new G hT hC ?_))
  show wpAny _ _ _ _ _ _
  have kk : ∀ b o, h.get? b = some o → ((h.push (PySem.W.kdv_tup [])).push (PySem.HandSPX.excO C h.objs.size)).get? b = some o := fun b o z => Heap.get?_push_of_some _ (Heap.get?_push_of_some _ z)
  have hC2 := kk _ _ hC
  have at2 : ((h.push (PySem.W.kdv_tup [])).push (PySem.HandSPX.excO C h.objs.size)).get? (h.objs.size + 1) = some (PySem.HandSPX.excO C h.objs.size) := by heap_get
  have self : (Value.ref C :: bm).contains (.ref C) = true := by simp
  have look := hi.keeps kk
  have bound := (hb (.ref (h.objs.size + 1))).keeps kk
  unfold isInstance
  repeat (first | with_reducible refine wpAny_loadPart_at at2 ?_ | (with_reducible refine wpAny_isSubtype_exc hC2 ?_; rw [self]) | wp_step)
  show wpAny _ _ (typeLookup (.ref C) _) _ _ _
  refine look.at (wpAny_holding (wpAny_bind (bound.at ?_)))
  refine wpAny_bind (wpAny_call (codeAny_mono hq fun r s' z => ?_))
  match r, z with
  | .error e, z => exact z
  | .ok .next, z => exact z.elim
  | .ok .brk, z => exact z.elim
  | .ok .cont, z => exact z.elim
  | .ok (.ret v), z =>
    obtain ⟨e, z⟩ := z
    subst e
    first
      | exact wpAny_pure (wpAny_pure z)
      | (wp_walk; exact z)
theorem exk_tcheck {M : Model} {E : Value → Shared → Prop} {Q : Unit → Shared → Prop} (hC : h.get? C = some (excClassObj nm q C N bs bm hdct sn sub ab col dd k0 k1 k2 k3 k5 newId)) (hq : Q () ⟨h, g, d, t, os⟩) :
    wpAny M A (checkBuiltinCall "type.__call__" ⟨[.ref C], kw⟩) Q E ⟨h, g, d, t, os⟩ := by
  have s1 := tc_sub
  have s2 : (⟨h, g, d, t, os⟩ : Shared).TypeIs (.ref C) "type" := ⟨_, hC, rfl⟩
  simp only [tc_split, checkBuiltinCall, tc_kind]
  repeat (any_goals (first | assumption | with_reducible refine wpAny_map ?_ | with_reducible refine wpAny_loadPart_at hC ?_ | with_reducible refine wpAny_onRaise ?_ | wp_step))
/-- C(f = v) of a class whose __init__ is the def at fI -/
theorem exk_call (G : ExcBaseFacts B newId initId bmB) (hT : ∀ X : String, bm.contains (.type X) = bmB.contains (.type X)) {fI : Addr} (hC : h.get? C = some (excClassObj nm q C N bs bm hdct sn sub ab col dd k0 k1 k2 k3 k5 newId))
    (hi : PySem.W.Looks (model prog w) h (typeLookup (.ref C) "__init__") (some (.ref fI))) (hb : ∀ self, PySem.W.Looks (model prog w) h (bindSpecial (.ref fI) self) (.ref fI, [self]))
    (hq : codeAny (model prog w) (A.under (.builtin "type.__call__" ⟨[.ref C], kw⟩)) (.call (.ref fI) ⟨[.ref (h.objs.size + 1)], kw⟩) (PySem.W.InitBack (h.objs.size + 1) R)
      ⟨(h.push (PySem.W.kdv_tup [])).push (PySem.HandSPX.excO C h.objs.size), g, d, t, os⟩) :
    codeAny (model prog w) A (.call (.ref C) ⟨[], kw⟩) R ⟨h, g, d, t, os⟩ := by
  have l1 := tc_lookup
  have l2 := tc_bind (.ref C)
  have l3 : (⟨h, g, d, t, os⟩ : Shared).TypeIs (.ref C) "type" := ⟨_, hC, rfl⟩
  refine codeAny_of_tree ?_
  show wpAny _ _ (callAny (.ref C) _) _ _ _
  repeat (any_goals (first | assumption | with_reducible refine wpAny_loadPart_at hC ?_ | wp_step))
  refine ⟨rfl, codeAny_call_builtin_at (Code.quiet_builtin _ (by decide +kernel)) entry_typeCall (exk_tcheck hC (exk_type G hT hC hi hb ?_))⟩
  refine codeAny_mono hq fun r s' z => ?_
  match r, z with
  | .error e, z => exact z
  | .ok .next, z => exact z
  | .ok .brk, z => exact z
  | .ok .cont, z => exact z
  | .ok (.ret v), z => exact z
end
/-- an own class below an exception of Python's: how it is called -/
structure OexV (K : PySem.W.Frag) (C : Addr) : Prop where
  cls : ∃ (B newId initId : String) (bmB : List Value) (nm q : Str) (N : Addr) (bs bm : List Value) (sn : List Str) (sub : List Value) (ab : Bool) (col : Option Bool) (dd : Option Addr) (k0 k1 k2 k3 k5 : Option Value),
    ExcBaseFacts B newId initId bmB ∧ (∀ X : String, bm.contains (.type X) = bmB.contains (.type X)) ∧ K.lookup C = some (excClassObj nm q C N bs bm true sn sub ab col dd k0 k1 k2 k3 k5 newId)
  kC : PySem.W.keepIn K (.ref C) = true
theorem oexC_v {K : PySem.W.Frag} {C : Addr} (T : OexC K C) : OexV K C := by
  obtain ⟨nm, q, N, bs, bm, sn, sub, ab, col, dd, k0, k1, k2, k3, k5, hC, hbm⟩ := T.cls
  exact ⟨⟨_, _, _, _, _, _, _, _, _, _, _, _, _, _, _, _, _, _, _, F.excBase_ValueError, fun Y => PySem.HandSPX.refsVE_contains Y bm hbm, hC⟩, T.kC⟩
theorem oexL_v {K : PySem.W.Frag} {C : Addr} (T : OexL K C) : OexV K C := by
  obtain ⟨nm, q, N, bs, bm, sn, sub, ab, col, dd, k0, k1, k2, k3, k5, hC, hbm⟩ := T.cls
  exact ⟨⟨_, _, _, _, _, _, _, _, _, _, _, _, _, _, _, _, _, _, _, F.excBase_LookupError, fun Y => PySem.W.excTail_contains Y bm hbm, hC⟩, T.kC⟩
theorem oexA_v {K : PySem.W.Frag} {C : Addr} (T : OexA K C) : OexV K C := by
  obtain ⟨nm, q, N, bs, bm, sn, sub, ab, col, dd, k0, k1, k2, k3, k5, hC, hbm⟩ := T.cls
  exact ⟨⟨_, _, _, _, _, _, _, _, _, _, _, _, _, _, _, _, _, _, _, F.excBase_ArithmeticError, fun Y => PySem.W.excTail_contains Y bm hbm, hC⟩, T.kC⟩
/-- its __init__ sets one field -/
def spRa (C : Addr) (f : Str) : Sp := s2 fun a v H Q _ => ∃ p, a = .ref p ∧ H p = some (exo p C none) ∧ ∀ dx, H dx = none → dx ≠ p → Q .non (upd (upd H dx (exd dx [(f, v)])) p (exo p C (some dx)))
structure RaiserV (P : Program) (w : World) (K : PySem.W.Frag) (mg : Str → Option Value) (base : Heap) (x : Str) (C : Addr) (f : Str) : Prop where
  T : OexV K C
  g : mg x = some (.ref C)
  ex : ∃ fI fd, PySem.W.findIn K (.ref C) "__init__" = some (some (.ref fI)) ∧ PySem.W.typeIn K (.ref fI) = some (.type "function") ∧ FnOk P w K mg base (L2.CX P w) 1 fI fd (["self", f] : List Str) (spRa C f) ∧
    Binds K fd (["self", f] : List Str) [] ∧ ∀ (s : Shared) (self v : Value), BindsTo s fd ⟨[self], [(f, v)]⟩ ((["self", f] : List Str).zip [self, v])
theorem raiserV_of {P : Program} {w : World} {K : PySem.W.Frag} {mg : Str → Option Value} {base : Heap} {x : Str} {C : Addr} {f qual : Str} {st : Stmt} {tb : PySem.W.Frag → TS} (T : OexV K C) (g : mg x = some (.ref C)) (F : InitAt K C qual st)
    (S : FnScope (["self", f] : List Str) (["self", f] : List Str) (defScope st))
    (hb : ∀ (kV doc pm : Value) (an : Option Addr) (cdv ct : Value) (us : List Value), us.length = 2 → bindArgs (PySem.W.fnOf "__init__" qual (defArgs st) (defBody st) (defScope st) .none kV doc pm an cdv ct) ⟨us, []⟩ = pure ((["self", f] : List Str).zip us))
    (hk : ∀ (kV doc pm : Value) (an : Option Addr) (cdv ct : Value) (self v : Value), bindArgs (PySem.W.fnOf "__init__" qual (defArgs st) (defBody st) (defScope st) .none kV doc pm an cdv ct) ⟨[self], [(f, v)]⟩ = pure ((["self", f] : List Str).zip [self, v]))
    (hbody : ∀ X : Cx, X.env.scope = defScope st → X.N = (["self", f] : List Str) → PSs X (defBody st) (tb X.K))
    (hq : ∀ (D : Ends) (σ : L2.St) (H : Hp) (p : Addr) (v : V), σ[0]? = some (some (.ref p)) → σ[1]? = some (some v) → H p = some (exo p C none) → (∀ dx, H dx = none → dx ≠ p → D.nx σ (upd (upd H dx (exd dx [(f, v)])) p (exo p C (some dx)))) → tb K D σ H) : RaiserV P w K mg base x C f := by
  obtain ⟨fI, fd, F, hi, ht⟩ := F.ex
  refine ⟨T, g, fI, fd, hi, ht, F.okX S (fun vs H Q E h => ?_) (fun cdv A outer s H vs Q E hr h => ⟨_, hbody _ rfl rfl, ?_⟩), F.binds (ps := (["self", f] : List Str)) hb, fun s self v => ?_⟩
  · obtain ⟨_, _, rfl, _⟩ := s2_len h
    rfl
  · obtain ⟨a, v, rfl, p, rfl, h0, q⟩ := s2_len h
    exact hq _ _ H p v rfl rfl h0 q
  · obtain ⟨oc, od, kV, doc, pm, an, cdv, ct, osl, rfl, _, _⟩ := F.ex
    exact .of_eq (hk kV doc pm an cdv ct self v)
end Fg
namespace Fg
open PySem PySem.Spec PyProof.Rows L2
abbrev DefAt (K : PySem.W.Frag) (d : He.DefD) : Prop := ∃ fd, FunD K d.name d.qual d.params d.body d.scope (d.dvs K) (d.kws K) (He.fAd K d.at_) fd
section
variable {K : PySem.W.Frag} {h : Heap} {mg : Str → Option Value} {w : World}
theorem fun_of {x q : Str} {st : Stmt} {f : Addr} {fd : FuncData} (F : FunD K x q (defArgs st) (defBody st) (defScope st) [] [] f fd) : Fun K x q st f fd := by
  obtain ⟨⟨oc, od, dV, kV, doc, pm, an, cdv, ct, osl, rfl, lk, hcd, hd, _⟩, kp⟩ := F
  rcases hd with ⟨_, rfl⟩ | ⟨z, _⟩
  · exact ⟨⟨oc, od, kV, doc, pm, an, cdv, ct, osl, rfl, lk, hcd⟩, kp⟩
  · exact absurd rfl z
theorem funAt_of (X : K.In h) (G : h.Ns mainGlobals mg) {x : Str} {st : Stmt} (F : DefAt K (hdG x st)) (g : (He.Fa.glo x).ok K = true) : FunAt K mg x st := by
  obtain ⟨fd, F⟩ := F
  exact ⟨⟨He.ga K x, fd, fun_of F, He.glo_ok X G g⟩⟩
theorem initAt_of {C q : Str} {st : Stmt} (F : DefAt K (dM C "__init__" q st)) (g : (He.Fa.meth C "__init__").ok K = true) : InitAt K (He.ga K C) q st := by
  obtain ⟨fd, F⟩ := F
  have M := He.meth_ok g
  exact ⟨⟨_, fd, fun_of F, M.at_, beq_iff_eq.mp M.fn⟩⟩
theorem intG_of (X : K.In h) (G : h.Ns mainGlobals mg) {x : Str} {i : Int} (g : (He.Fa.int x i).ok K = true) : ∃ u, mg x = some u ∧ RelV (.int i) u := by
  obtain ⟨t, e⟩ := He.int_ok X G g
  exact ⟨_, e, t, rfl⟩
theorem refG_of (X : K.In h) (G : h.Ns mainGlobals mg) {x : Str} (g : (He.Fa.glo x).ok K = true) : ∃ u, mg x = some u ∧ RelV (.ref (He.ga K x)) u := ⟨_, He.glo_ok X G g, rfl⟩
theorem oeB_ok {C : Addr} (g : oeB K C = true) : OexC K C := by
  obtain ⟨g1, g⟩ := He.ba g
  obtain ⟨g2, g⟩ := He.ba g
  obtain ⟨g3, g⟩ := He.ba g
  obtain ⟨g4, g5⟩ := He.ba g
  refine ⟨?_, of_decide_eq_true g2, of_decide_eq_true g3, of_decide_eq_true g4, g5⟩
  split at g1
  · rename_i t dd cd sl lk
    obtain ⟨a1, g1⟩ := He.ba g1
    obtain ⟨a2, g1⟩ := He.ba g1
    obtain ⟨a3, a4⟩ := He.ba g1
    obtain ⟨a5, a6⟩ := He.ba a3
    obtain ⟨nm, bs, mro, ns, qn, hdct, sn, sub, ab, col, hdel⟩ := cd
    dsimp only at a2 a5 a6
    subst a5
    have e6 : hdel = false := by
      cases hdel with
      | false => rfl
      | true => cases a6
    subst e6
    split at a2
    · rename_i c bm
      obtain ⟨b1, b2⟩ := He.ba a2
      have b1 := of_decide_eq_true b1
      have e1 := of_decide_eq_true a1
      subst e1
      obtain ⟨sl⟩ := sl
      dsimp only at a4
      split at a4
      · have e4 := of_decide_eq_true a4
        subst b1
        subst e4
        exact ⟨_, _, _, _, _, _, _, _, _, _, _, _, _, _, _, lk, b2⟩
      · cases a4
    · cases a2
  · cases g1
theorem xcB_ok {D : Addr} (g : xcB K D = true) : ExcC K D := by
  obtain ⟨g1, g⟩ := He.ba g
  obtain ⟨g2, g⟩ := He.ba g
  obtain ⟨g3, g⟩ := He.ba g
  obtain ⟨g4, g⟩ := He.ba g
  obtain ⟨g5, g⟩ := He.ba g
  obtain ⟨g6, g⟩ := He.ba g
  obtain ⟨g7, g8⟩ := He.ba g
  exact ⟨of_decide_eq_true g1, of_decide_eq_true g2, of_decide_eq_true g3, g4, of_decide_eq_true g5, of_decide_eq_true g6, of_decide_eq_true g7, of_decide_eq_true g8⟩
/-- the i-th check -/
theorem exAt {l : List Bool} (g : l.all id = true) (i : Nat) {b : Bool} (h : l[i]? = some b := by rfl) : b = true := List.all_eq_true.mp g b (List.mem_of_getElem? h)
end
end Fg
namespace Fg
open PySem PySem.Spec PyProof.Rows L2
/-- the tables of code objects that are known, and the name that each one's code bears -/
class TQ where
  q : Addr → Str → Prop
  /-- the world: what texts hash to -/
  w : World
  /-- where the classes of exceptions stand -/
  ex : Str → Option Addr := fun _ => none
  exI : ∀ (a b : Str) (C : Addr), ex a = some C → ex b = some C → a = b := by intro a b C h; cases h
/-- nothing is known at b (but a table) -/
def Nw (H : Hp) (b : Addr) : Prop := ∀ o, H b = some o → ∃ ps, o = .tbl ps
theorem Nw.of {H : Hp} {b : Addr} (h : H b = none) : Nw H b := fun o e => by rw [h] at e; cases e
theorem Nw.no {H : Hp} {b : Addr} {o : HO} (n : Nw H b) (h : H b = some o) (t : ∀ ps, o ≠ .tbl ps) : False := (n o h).elim fun ps e => t ps e
theorem Nw.live {H : Hp} {b : Addr} {o : HO} (h : H b = some o) (t : ∀ ps, o ≠ .tbl ps) : ¬ Nw H b := fun n => n.no h t
inductive D where
  | non | bl (b : Bool) | int (i : Int) | str (x : Str)
  | tup (xs : List D) | lst (xs : List D) | dct (kvs : List (Key × D)) | obj (c : Str) (fs : List (Str × D))
  /-- the k-th thing that changes -/
  | mt (k : Nat)
  /-- a dict whose keys are tuples -/
  | kd (kvs : List (D × D))
  /-- a dict that is walked or has been walked: it never changes again -/
  | fd (kvs : List (Key × D))
  /-- an exception that is held as a value: its class, its attributes -/
  | exc (c : Str) (fs : List (Str × D))
instance : Inhabited D := ⟨.non⟩
mutual
def nkD : D → Option NestedKey
  | .non => some .none
  | .bl b => some (.num (if b then 1 else 0))
  | .int i => some (.num i)
  | .str x => some (.text x)
  | .tup ds => (nkL ds).map .tup
  | _ => none
def nkL : List D → Option (List NestedKey)
  | [] => some []
  | d :: r => match nkD d, nkL r with
    | some k, some ks => some (k :: ks)
    | _, _ => none
end
structure Ex where
  c : Str
  fs : List (Str × D)
/-- the things that change: lists, dicts, instances -/
abbrev Sto := List D
def M (α : Type) := Sto → Option (Except Ex α × Sto)
namespace M
protected def bind {α β : Type} (m : M α) (f : α → M β) : M β := fun S => match m S with
  | none => none
  | some (.error e, S') => some (.error e, S')
  | some (.ok a, S') => f a S'
instance : Monad M where
  pure a := fun S => some (.ok a, S)
  bind := M.bind
instance : LawfulMonad M := LawfulMonad.mk' (m := M) (id_map := by
    intro α x; funext S; show M.bind x _ S = _; unfold M.bind; cases h : x S with
    | none => rfl
    | some p => obtain ⟨e, S'⟩ := p; cases e <;> rfl)
  (pure_bind := by intros; rfl)
  (bind_assoc := by
    intro α β γ x f g; funext S; show M.bind (M.bind x f) g S = M.bind x (fun a => M.bind (f a) g) S
    unfold M.bind; cases h : x S with
    | none => rfl
    | some p => obtain ⟨e, S'⟩ := p; cases e <;> rfl)
/-- no rule for it -/
def stuck {α : Type} : M α := fun _ => none
def raise {α : Type} (e : Ex) : M α := fun S => some (.error e, S)
def opt {α : Type} : Option α → M α
  | some a => pure a
  | none => stuck
@[simp] theorem opt_some {α : Type} (a : α) : opt (some a) = pure a := rfl
@[simp] theorem opt_none {α : Type} : opt (none : Option α) = stuck := rfl
theorem bind_ok {α β : Type} {m : M α} {f : α → M β} {S S' : Sto} {a : α} (h : m S = some (.ok a, S')) : (m >>= f) S = f a S' := by
  show M.bind m f S = _
  unfold M.bind; rw [h]
theorem bind_err {α β : Type} {m : M α} {f : α → M β} {S S' : Sto} {e : Ex} (h : m S = some (.error e, S')) : (m >>= f) S = some (.error e, S') := by
  show M.bind m f S = _
  unfold M.bind; rw [h]
theorem bind_none {α β : Type} {m : M α} {f : α → M β} {S : Sto} (h : m S = none) : (m >>= f) S = none := by
  show M.bind m f S = _
  unfold M.bind; rw [h]
@[simp] theorem raise_bind {α β : Type} (e : Ex) (f : α → M β) : ((raise e : M α) >>= f) = raise e := rfl
@[simp] theorem stuck_bind {α β : Type} (f : α → M β) : ((stuck : M α) >>= f) = stuck := rfl
end M
/-- the slots of a def, as data -/
abbrev DEnv := List (Option D)
/-- the very object o stands at a -/
def Pin (a : Addr) (o : Obj) : HO := .ext fun h => h.get? a = some o
/-- an exception of the class at C, its dict at dx, the tuple of its arguments at t -/
def excOb (C dx t : Addr) : Obj := { cls := .ref C, dict := some dx, data := .fields #[.ref t, .none, .none, .none, .bool false, .none] }
/-- an exception of the class at C with these fields: its dict, or none -/
def EOb (G : Hp) (C : Addr) (o : Obj) (vs : List (Str × V)) : Prop := (∃ dx t, o = excOb C dx t ∧ G dx = some (.xd vs)) ∨ ((∃ t, o = PySem.HandSPX.excO C t) ∧ vs = [])
theorem EOb.mono {G G' : Hp} {C : Addr} {o : Obj} {vs : List (Str × V)} (k : ∀ a, G a = some (.xd vs) → G' a = some (.xd vs)) (h : EOb G C o vs) : EOb G' C o vs := by
  rcases h with ⟨dx, t, e, h⟩ | h
  · exact .inl ⟨dx, t, e, k _ h⟩
  · exact .inr h
theorem EOb.ext {G G' : Hp} {C : Addr} {o : Obj} {vs : List (Str × V)} (e : LamX.ExtN G G') (h : EOb G C o vs) : EOb G' C o vs := h.mono fun a z => e _ _ z fun _ q => by cases q
theorem SqL.ext {K : PySem.W.Frag} {H H' : Hp} {a : Addr} {xs : List V} (e : LamX.ExtN H H') (h : SqL K H a xs) : SqL K H' a xs := by
  rcases h with (h | ⟨u, h⟩) | hk
  · exact .inl (.inl (e _ _ h fun _ z => by cases z))
  · exact .inl (.inr ⟨u, e _ _ h fun _ z => by cases z⟩)
  · exact .inr hk
theorem SqT.ext {K : PySem.W.Frag} {H H' : Hp} {a : Addr} {xs : List V} (e : LamX.ExtN H H') (h : SqT K H a xs) : SqT K H' a xs := by
  rcases h with (h | ⟨u, h⟩) | hk
  · exact .inl (.inl (e _ _ h fun _ z => by cases z))
  · exact .inl (.inr ⟨u, e _ _ h fun _ z => by cases z⟩)
  · exact .inr hk
variable [TQ]
/-- o is a dict with these entries -/
def DOb (o : Obj) (xs : List (NestedKey × Addr × Value)) : Prop :=
  o.ExactDict ∧ (∃ es ep, o.data = .dict es ep ∧ es.toList = xs.map fun x => ⟨x.1.hash TQ.w, .ref x.2.1, x.2.2⟩) ∧ (xs.map (·.1)).Nodup ∧ xs.length ≤ sizeLine
section
variable (K : PySem.W.Frag) (ca : Str → Option Addr) (ρ : List Addr)
mutual
/-- v in the heap G is the data d -/
inductive Rp (G : Hp) : V → D → Prop
  | non : Rp G .non .non
  | bl {b : Bool} : Rp G (.bl b) (.bl b)
  | int {i : Int} : Rp G (.int i) (.int i)
  | str {x : Str} : Rp G (.str x) (.str x)
  | tup {a : Addr} {vs : List V} {ds : List D} (h : SqT K G a vs) (p : RpL G vs ds) : Rp G (.ref a) (.tup ds)
  | lst {a : Addr} {vs : List V} {ds : List D} (h : G a = some (.lst vs)) (p : RpL G vs ds) : Rp G (.ref a) (.lst ds)
  | dct {a : Addr} {vs : List (Key × V)} {ds : List (Key × D)} (h : G a = some (.dK vs)) (p : RpK G vs ds) : Rp G (.ref a) (.dct ds)
  | obj {a C dx : Addr} {c : Str} {vs : List (Str × V)} {ds : List (Str × D)} (e : ca c = some C) (h : G a = some (.ins C dx vs)) (p : RpF G vs ds) : Rp G (.ref a) (.obj c ds)
  | mt {a : Addr} {k : Nat} (h : ρ[k]? = some a) : Rp G (.ref a) (.mt k)
  | kd {a : Addr} {o : Obj} {xs : List (NestedKey × Addr × Value)} {ds : List (D × D)} (h : G a = some (Pin a o)) (n : (a == sysModules) = false) (e : DOb o xs) (p : RpD G xs ds) : Rp G (.ref a) (.kd ds)
  | fd {a : Addr} {o : Obj} {vs : List (Key × V)} {ds : List (Key × D)} (h : G a = some (.frz o (.dK vs))) (p : RpK G vs ds) : Rp G (.ref a) (.fd ds)
  | exc {a C : Addr} {o : Obj} {c : Str} {vs : List (Str × V)} {ds : List (Str × D)} (e : TQ.ex c = some C) (h : G a = some (Pin a o)) (hx : EOb G C o vs) (p : RpF G vs ds) : Rp G (.ref a) (.exc c ds)
inductive RpL (G : Hp) : List V → List D → Prop
  | nil : RpL G [] []
  | cons {v : V} {d : D} {vs : List V} {ds : List D} (h : Rp G v d) (t : RpL G vs ds) : RpL G (v :: vs) (d :: ds)
inductive RpK (G : Hp) : List (Key × V) → List (Key × D) → Prop
  | nil : RpK G [] []
  | cons {k : Key} {v : V} {d : D} {vs : List (Key × V)} {ds : List (Key × D)} (h : Rp G v d) (t : RpK G vs ds) : RpK G ((k, v) :: vs) ((k, d) :: ds)
inductive RpF (G : Hp) : List (Str × V) → List (Str × D) → Prop
  | nil : RpF G [] []
  | cons {k : Str} {v : V} {d : D} {vs : List (Str × V)} {ds : List (Str × D)} (h : Rp G v d) (t : RpF G vs ds) : RpF G ((k, v) :: vs) ((k, d) :: ds)
inductive RpD (G : Hp) : List (NestedKey × Addr × Value) → List (D × D) → Prop
  | nil : RpD G [] []
  | cons {n : NestedKey} {a : Addr} {u : Value} {v : V} {k d : D} {xs : List (NestedKey × Addr × Value)} {ds : List (D × D)} (hk : Rp G (.ref a) k) (en : nkD k = some n) (hd : n.depth ≤ 8) (rv : RelV v u) (h : Rp G v d) (t : RpD G xs ds) : RpD G ((n, a, u) :: xs) ((k, d) :: ds)
end
end
section
variable {K : PySem.W.Frag} {ca : Str → Option Addr} {ρ ρ' : List Addr} {G G' : Hp}
mutual
theorem Rp.mono (r : ∀ (k : Nat) (a : Addr), ρ[k]? = some a → ρ'[k]? = some a) (e : LamX.ExtN G G') : ∀ {v : V} {d : D}, Rp K ca ρ G v d → Rp K ca ρ' G' v d
  | _, _, .non => .non
  | _, _, .bl => .bl
  | _, _, .int => .int
  | _, _, .str => .str
  | _, _, .tup h p => .tup (SqT.ext e h) (RpL.mono r e p)
  | _, _, .lst h p => .lst (e _ _ h fun _ z => by cases z) (RpL.mono r e p)
  | _, _, .dct h p => .dct (e _ _ h fun _ z => by cases z) (RpK.mono r e p)
  | _, _, .obj c h p => .obj c (e _ _ h fun _ z => by cases z) (RpF.mono r e p)
  | _, _, .mt h => .mt (r _ _ h)
  | _, _, .kd h n c p => .kd (e _ _ h fun _ z => by cases z) n c (RpD.mono r e p)
  | _, _, .fd h p => .fd (e _ _ h fun _ z => by cases z) (RpK.mono r e p)
  | _, _, .exc c h x p => .exc c (e _ _ h fun _ z => by cases z) (x.ext e) (RpF.mono r e p)
theorem RpL.mono (r : ∀ (k : Nat) (a : Addr), ρ[k]? = some a → ρ'[k]? = some a) (e : LamX.ExtN G G') : ∀ {v : List V} {d : List D}, RpL K ca ρ G v d → RpL K ca ρ' G' v d
  | _, _, .nil => .nil
  | _, _, .cons h p => .cons (Rp.mono r e h) (RpL.mono r e p)
theorem RpK.mono (r : ∀ (k : Nat) (a : Addr), ρ[k]? = some a → ρ'[k]? = some a) (e : LamX.ExtN G G') : ∀ {v : List (Key × V)} {d : List (Key × D)}, RpK K ca ρ G v d → RpK K ca ρ' G' v d
  | _, _, .nil => .nil
  | _, _, .cons h p => .cons (Rp.mono r e h) (RpK.mono r e p)
theorem RpF.mono (r : ∀ (k : Nat) (a : Addr), ρ[k]? = some a → ρ'[k]? = some a) (e : LamX.ExtN G G') : ∀ {v : List (Str × V)} {d : List (Str × D)}, RpF K ca ρ G v d → RpF K ca ρ' G' v d
  | _, _, .nil => .nil
  | _, _, .cons h p => .cons (Rp.mono r e h) (RpF.mono r e p)
theorem RpD.mono (r : ∀ (k : Nat) (a : Addr), ρ[k]? = some a → ρ'[k]? = some a) (e : LamX.ExtN G G') : ∀ {v : List (NestedKey × Addr × Value)} {d : List (D × D)}, RpD K ca ρ G v d → RpD K ca ρ' G' v d
  | _, _, .nil => .nil
  | _, _, .cons hk en hd rv h p => .cons (Rp.mono r e hk) en hd rv (Rp.mono r e h) (RpD.mono r e p)
end
theorem RpL.length : ∀ {vs : List V} {ds : List D}, RpL K ca ρ G vs ds → vs.length = ds.length
  | _, _, .nil => rfl
  | _, _, .cons _ t => congrArg Nat.succ (RpL.length t)
theorem RpL.get : ∀ {vs : List V} {ds : List D} {i : Nat} {d : D}, RpL K ca ρ G vs ds → ds[i]? = some d → ∃ v, vs[i]? = some v ∧ Rp K ca ρ G v d
  | _, _, _, _, .nil, e => by simp at e
  | _, _, 0, _, .cons h _, e => by simp at e; subst e; exact ⟨_, rfl, h⟩
  | _, _, i + 1, _, .cons _ t, e => by simpa using RpL.get (i := i) t (by simpa using e)
theorem RpL.append : ∀ {vs ws : List V} {ds es : List D}, RpL K ca ρ G vs ds → RpL K ca ρ G ws es → RpL K ca ρ G (vs ++ ws) (ds ++ es)
  | _, _, _, _, .nil, s => s
  | _, _, _, _, .cons h t, s => .cons h (RpL.append t s)
theorem RpL.set {v : V} {d : D} (h : Rp K ca ρ G v d) : ∀ {vs : List V} {ds : List D} (i : Nat), RpL K ca ρ G vs ds → RpL K ca ρ G (vs.set i v) (ds.set i d)
  | _, _, _, .nil => .nil
  | _, _, 0, .cons _ t => .cons h t
  | _, _, i + 1, .cons g t => .cons g (RpL.set h i t)
theorem RpL.take : ∀ {vs : List V} {ds : List D} (n : Nat), RpL K ca ρ G vs ds → RpL K ca ρ G (vs.take n) (ds.take n)
  | _, _, 0, _ => .nil
  | _, _, _ + 1, .nil => .nil
  | _, _, n + 1, .cons h t => .cons h (RpL.take n t)
theorem RpL.drop : ∀ {vs : List V} {ds : List D} (n : Nat), RpL K ca ρ G vs ds → RpL K ca ρ G (vs.drop n) (ds.drop n)
  | _, _, 0, h => h
  | _, _, _ + 1, .nil => .nil
  | _, _, n + 1, .cons _ t => RpL.drop n t
theorem RpL.reverse : ∀ {vs : List V} {ds : List D}, RpL K ca ρ G vs ds → RpL K ca ρ G vs.reverse ds.reverse
  | _, _, .nil => .nil
  | _, _, .cons h t => by
    rw [List.reverse_cons, List.reverse_cons]
    exact RpL.append (RpL.reverse t) (.cons h .nil)
end
open Classical in
noncomputable def hid (Z : Addr → Prop) (H : Hp) : Hp := fun b => if Z b then none else H b
theorem hid_iff {Z : Addr → Prop} {H : Hp} {b : Addr} {o : HO} : hid Z H b = some o ↔ ¬ Z b ∧ H b = some o := by
  unfold hid
  split
  · rename_i h; exact ⟨fun z => (by cases z), fun z => absurd h z.1⟩
  · rename_i h; exact ⟨fun z => ⟨h, z⟩, fun z => z.2⟩
section
variable (K : PySem.W.Frag) (ca : Str → Option Addr) (ρ : List Addr)
/-- the thing at a, its parts being told by G -/
def Top (G H : Hp) (a : Addr) : D → Prop
  | .lst ds => ∃ vs, H a = some (.lst vs) ∧ RpL K ca ρ G vs ds
  | .dct ds => ∃ vs, H a = some (.dK vs) ∧ RpK K ca ρ G vs ds
  | .obj c ds => ∃ C dx vs, ca c = some C ∧ H a = some (.ins C dx vs) ∧ RpF K ca ρ G vs ds
  | .kd ds => ∃ o xs, H a = some (Pin a o) ∧ (a == sysModules) = false ∧ DOb o xs ∧ RpD K ca ρ G xs ds
  | _ => False
def SrL (G H : Hp) : List Addr → Sto → Prop
  | [], [] => True
  | a :: r, d :: S => Top K ca ρ G H a d ∧ SrL G H r S
  | _, _ => False
/-- the world: what may not be touched (Xs), the things that change -/
structure Sta (Xs : Addr → Prop) (H : Hp) (S : Sto) : Prop where
  live : ∀ b, (Xs b ∨ b ∈ ρ) → ¬ Nw H b
  nd : ρ.Nodup
  xr : ∀ b ∈ ρ, ¬ Xs b
  sto : SrL K ca ρ (hid (fun b => Xs b ∨ b ∈ ρ) H) H ρ S
end
/-- from one heap to a later one: all stays but what may change (ρ, Z), tables grow -/
structure Gr (ρ : List Addr) (Z : Addr → Prop) (H : Hp) (ρ' : List Addr) (H' : Hp) : Prop where
  ext : ∃ N, ρ' = ρ ++ N ∧ ∀ b ∈ N, Nw H b
  keep : ∀ b o, b ∉ ρ → ¬ Z b → (∀ ps, o ≠ .tbl ps) → H b = some o → H' b = some o
  alive : ∀ b, ¬ Nw H b → ¬ Nw H' b
  tabs : ∀ P q, TQ.q P q → LamX.TabS H P q → LamX.TabS H' P q
def NoZ : Addr → Prop := fun _ => False
theorem Gr.refl (ρ : List Addr) (Z : Addr → Prop) (H : Hp) : Gr ρ Z H ρ H := ⟨⟨[], by simp, fun b hb => (by cases hb)⟩, fun _ _ _ _ _ e => e, fun _ e => e, fun _ _ _ t => t⟩
theorem Gr.trans {ρ ρ1 ρ2 : List Addr} {Z Z1 : Addr → Prop} {H H1 H2 : Hp} (a : Gr ρ Z H ρ1 H1) (b : Gr ρ1 Z1 H1 ρ2 H2) (hz : ∀ c, Z1 c → Z c ∨ Nw H c) : Gr ρ Z H ρ2 H2 := by
  obtain ⟨N, e1, n1⟩ := a.ext
  obtain ⟨N2, e2, n2⟩ := b.ext
  refine ⟨⟨N ++ N2, by rw [e2, e1, List.append_assoc], fun c hc => ?_⟩, fun c o h1 h2 h3 h4 => ?_, fun c h => b.alive c (a.alive c h), fun P q n t => b.tabs P q n (a.tabs P q n t)⟩
  · rcases List.mem_append.mp hc with h | h
    · exact n1 c h
    · exact Classical.byContradiction fun z => a.alive c z (n2 c h)
  · refine b.keep c o ?_ ?_ h3 (a.keep c o h1 h2 h3 h4)
    · rw [e1]
      intro hm
      rcases List.mem_append.mp hm with h | h
      · exact h1 h
      · exact (n1 c h).no h4 h3
    · intro hz1
      rcases hz c hz1 with h | h
      · exact h2 h
      · exact h.no h4 h3
theorem Gr.tr {ρ ρ1 ρ2 : List Addr} {Z : Addr → Prop} {H H1 H2 : Hp} (a : Gr ρ Z H ρ1 H1) (b : Gr ρ1 NoZ H1 ρ2 H2) : Gr ρ Z H ρ2 H2 := a.trans b fun _ z => z.elim
theorem Gr.wk {ρ ρ1 : List Addr} {Z : Addr → Prop} {H H1 : Hp} (a : Gr ρ NoZ H ρ1 H1) : Gr ρ Z H ρ1 H1 := ⟨a.ext, fun b o h1 _ h3 h4 => a.keep b o h1 (fun z => z) h3 h4, a.alive, a.tabs⟩
theorem Gr.at {ρ ρ1 : List Addr} {Z : Addr → Prop} {H H1 : Hp} (a : Gr ρ Z H ρ1 H1) : ∀ (k : Nat) (x : Addr), ρ[k]? = some x → ρ1[k]? = some x := fun k x e => by
  obtain ⟨N, e1, _⟩ := a.ext
  rw [e1, List.getElem?_append_left]
  · exact e
  · exact (List.getElem?_eq_some_iff.mp e).1
/-- what is seen stays seen -/
theorem Gr.sees {ρ ρ1 : List Addr} {Y Z Z1 : Addr → Prop} {H H1 : Hp} (a : Gr ρ Y H ρ1 H1) (hy : ∀ b, Y b → Z b ∨ b ∈ ρ) (hz : ∀ b, Z1 b → Z b ∨ Nw H b) : LamX.ExtN (hid (fun b => Z b ∨ b ∈ ρ) H) (hid (fun b => Z1 b ∨ b ∈ ρ1) H1) := by
  intro b o h ht
  obtain ⟨n, e⟩ := hid_iff.mp h
  obtain ⟨N, e1, n1⟩ := a.ext
  refine hid_iff.mpr ⟨fun z => ?_, a.keep b o (fun z => n (.inr z)) (fun z => n (hy b z)) ht e⟩
  rcases z with z | z
  · rcases hz b z with z | z
    · exact n (.inl z)
    · exact z.no e ht
  · rw [e1] at z
    rcases List.mem_append.mp z with z | z
    · exact n (.inr z)
    · exact (n1 b z).no e ht
/-- new objects alone -/
theorem Gr.same {ρ : List Addr} {Z : Addr → Prop} {H H' : Hp} (s : Same H H') : Gr ρ Z H ρ H' := ⟨⟨[], by simp, fun b hb => (by cases hb)⟩, fun b o _ _ _ e => s b o e, fun b h z => h fun o e => z o (s b o e), fun P q _ t => t.ext s⟩
theorem tabS_but {H H' : Hp} {a : Addr} {o : HO} (b : But a H H') (h : H a = some o) (n1 : ∀ ps, o ≠ .tbl ps) (n2 : ∀ φ, o ≠ .ext φ) {P : Addr} {q : Str} (t : LamX.TabS H P q) : LamX.TabS H' P q := by
  obtain ⟨ps, h1, h2, h3⟩ := t
  refine ⟨ps, b _ _ (fun z => ?_) h1, h2, fun pos cv hc => ?_⟩
  · rw [z, h] at h1; exact n1 ps (Option.some.inj h1)
  · obtain ⟨c, e1, e2⟩ := h3 pos cv hc
    refine ⟨c, e1, b _ _ (fun z => ?_) e2⟩
    rw [z, h] at e2
    exact n2 _ (Option.some.inj e2)
/-- the thing at a is changed -/
theorem Gr.but {ρ : List Addr} {Z : Addr → Prop} {H H' : Hp} {a : Addr} {o o' : HO} (b : But a H H') (h : H a = some o) (h' : H' a = some o') (hz : Z a ∨ a ∈ ρ) (n1 : ∀ ps, o ≠ .tbl ps) (n2 : ∀ φ, o ≠ .ext φ) (n1' : ∀ ps, o' ≠ .tbl ps := by intro _ z; cases z) : Gr ρ Z H ρ H' :=
  ⟨⟨[], by simp, fun b hb => (by cases hb)⟩, fun c u h1 h2 _ e => b c u (fun z => by subst z; exact hz.elim h2 h1) e, fun c e => by
    by_cases z : c = a
    · subst z; exact Nw.live h' n1'
    · exact fun n => e fun o eo => n o (b c o z eo), fun P q _ t => tabS_but b h n1 n2 t⟩
section
variable {K : PySem.W.Frag} {ca : Str → Option Addr} {ρ ρ' : List Addr} {G G' H H' : Hp} {a : Addr}
theorem Top.mono {d : D} (r : ∀ (k : Nat) (a : Addr), ρ[k]? = some a → ρ'[k]? = some a) (e : LamX.ExtN G G') (k : ∀ o, (∀ ps, o ≠ .tbl ps) → H a = some o → H' a = some o) (h : Top K ca ρ G H a d) : Top K ca ρ' G' H' a d := by
  cases d <;> first | exact h.elim | skip
  · obtain ⟨vs, h1, h2⟩ := h; exact ⟨vs, k _ (fun _ z => by cases z) h1, RpL.mono r e h2⟩
  · obtain ⟨vs, h1, h2⟩ := h; exact ⟨vs, k _ (fun _ z => by cases z) h1, RpK.mono r e h2⟩
  · obtain ⟨C, dx, vs, h0, h1, h2⟩ := h; exact ⟨C, dx, vs, h0, k _ (fun _ z => by cases z) h1, RpF.mono r e h2⟩
  · obtain ⟨o, xs, h1, n, c, h2⟩ := h; exact ⟨o, xs, k _ (fun _ z => by cases z) h1, n, c, RpD.mono r e h2⟩
theorem SrL.mono (r : ∀ (k : Nat) (a : Addr), ρ[k]? = some a → ρ'[k]? = some a) (e : LamX.ExtN G G') : ∀ {l : List Addr} {S : Sto}, (∀ a ∈ l, ∀ o, (∀ ps, o ≠ .tbl ps) → H a = some o → H' a = some o) → SrL K ca ρ G H l S → SrL K ca ρ' G' H' l S
  | [], [], _, _ => trivial
  | a :: l, d :: S, k, ⟨h, t⟩ => ⟨Top.mono r e (k a (List.mem_cons_self ..)) h, SrL.mono r e (fun b hb => k b (List.mem_cons_of_mem _ hb)) t⟩
  | [], _ :: _, _, h => h.elim
  | _ :: _, [], _, h => h.elim
theorem SrL.get : ∀ {l : List Addr} {S : Sto} {k : Nat}, SrL K ca ρ G H l S → l[k]? = some a → ∃ d, S[k]? = some d ∧ Top K ca ρ G H a d
  | [], _, _, _, e => by simp at e
  | b :: l, [], _, h, _ => h.elim
  | b :: l, d :: S, 0, ⟨h, _⟩, e => by simp at e; subst e; exact ⟨d, rfl, h⟩
  | b :: l, d :: S, k + 1, ⟨_, t⟩, e => by simpa using SrL.get (k := k) t (by simpa using e)
theorem SrL.len : ∀ {l : List Addr} {S : Sto}, SrL K ca ρ G H l S → l.length = S.length
  | [], [], _ => rfl
  | _ :: _, _ :: _, ⟨_, t⟩ => congrArg Nat.succ (SrL.len t)
  | [], _ :: _, h => h.elim
  | _ :: _, [], h => h.elim
/-- the world seen with less hidden -/
theorem Sta.wk {Xs Ys : Addr → Prop} {S : Sto} (h : Sta K ca ρ Xs H S) (w : ∀ b, Ys b → Xs b) : Sta K ca ρ Ys H S :=
  ⟨fun b z => h.live b (z.imp (w b) id), h.nd, fun b hb z => h.xr b hb (w b z), SrL.mono (fun _ _ e => e) (fun b o e ht => by
    obtain ⟨n, e⟩ := hid_iff.mp e
    exact hid_iff.mpr ⟨fun z => n (z.imp (w b) id), e⟩) (fun _ _ _ _ e => e) h.sto⟩
end
/-- what stands through the def's run: where classes stand, the heap at the entry, what may not be touched, what changes, what is wanted of an error -/
structure Fr where
  K : PySem.W.Frag
  ca : Str → Option Addr
  ce : Str → Option Addr
  H0 : Hp
  Xs : Addr → Prop
  R0 : List Addr
  W : XK
  /-- where the own thing of slot 0 stands, in an __init__ -/
  own0 : Option Addr
def Own (B : Nat → Option Addr) (b : Addr) : Prop := ∃ i, B i = some b
def Zf (F : Fr) (ρ : List Addr) : Addr → Prop := fun b => F.Xs b ∨ b ∈ ρ
def Zo (F : Fr) (B : Nat → Option Addr) (ρ : List Addr) : Addr → Prop := fun b => (F.Xs b ∨ Own B b) ∨ b ∈ ρ
structure End (F : Fr) (ρ : List Addr) (H : Hp) (S : Sto) : Prop where
  gr : Gr F.R0 NoZ F.H0 ρ H
  sta : Sta F.K F.ca ρ F.Xs H S
def SlAt (F : Fr) (B : Nat → Option Addr) (ρ : List Addr) (H : Hp) (σ : L2.St) (i : Nat) (d : D) : Prop := match B i with
  | none => ∃ v, σ[i]? = some (some v) ∧ Rp F.K F.ca ρ (hid (Zo F B ρ) H) v d
  | some a => σ[i]? = some (some (.ref a)) ∧ Top F.K F.ca ρ (hid (Zo F B ρ) H) H a d
/-- a point within the def: O the slots whose things are the def's own (and may be changed by it), B where they stand -/
structure Rel (F : Fr) (O : List Nat) (B : Nat → Option Addr) (ρ : List Addr) (σ : L2.St) (H : Hp) (δ : DEnv) (S : Sto) : Prop where
  gr : Gr F.R0 NoZ F.H0 ρ H
  sta : Sta F.K F.ca ρ (fun b => F.Xs b ∨ Own B b) H S
  bnew : ∀ b, Own B b → Nw F.H0 b
  oxs : ∀ b, Own B b → ¬ F.Xs b
  binj : ∀ i j b, B i = some b → B j = some b → i = j
  own : ∀ i, (∃ a, B i = some a) ↔ i ∈ O
  ownd : ∀ i a, B i = some a → ∃ d, δ[i]? = some (some d)
  zero : ∀ p, F.own0 = some p → B 0 = some p ∨ B 0 = none
  len : σ.length = δ.length
  slot : ∀ i d, δ[i]? = some (some d) → SlAt F B ρ H σ i d
def ErrAt (F : Fr) (ρ : List Addr) (H : Hp) (cls : Value) (dd : Option Addr) (e : Ex) : Prop :=
  ∃ C, cls = .ref C ∧ F.ce e.c = some C ∧ ((e.fs = [] ∧ dd = none) ∨ (e.fs ≠ [] ∧ ∃ x vs, dd = some x ∧ H x = some (.xd vs) ∧ RpF F.K F.ca ρ (hid (Zf F ρ) H) vs e.fs))
/-- what comes of a run: never none; an error is wanted -/
def Ok1 {α : Type} (F : Fr) (r : Option (Except Ex α × Sto)) (P : α → Sto → Prop) : Prop := match r with
  | none => False
  | some (.error e, S') => ∀ cls dd H' ρ', End F ρ' H' S' → ErrAt F ρ' H' cls dd e → F.W cls dd H'
  | some (.ok a, S') => P a S'
theorem Ok1.bind {α β : Type} {F : Fr} {m : M α} {f : α → M β} {S : Sto} {P : β → Sto → Prop} (h : Ok1 F ((m >>= f) S) P) : Ok1 F (m S) (fun a S' => Ok1 F (f a S') P) := by
  unfold Ok1
  cases e : m S with
  | none => rw [M.bind_none e] at h; exact h
  | some p =>
    obtain ⟨r, S'⟩ := p
    cases r with
    | error x => rw [M.bind_err e] at h; exact h
    | ok a => rw [M.bind_ok e] at h; exact h
theorem Ok1.imp {α : Type} {F : Fr} {r : Option (Except Ex α × Sto)} {P Q : α → Sto → Prop} (h : Ok1 F r P) (w : ∀ a S, P a S → Q a S) : Ok1 F r Q := by
  unfold Ok1 at *
  split
  · exact h
  · exact h
  · exact w _ _ h
theorem Ok1.pure {α : Type} {F : Fr} {a : α} {S : Sto} {P : α → Sto → Prop} (h : Ok1 F ((pure a : M α) S) P) : P a S := h
theorem Ok1.opt {α : Type} {F : Fr} {o : Option α} {S : Sto} {P : α → Sto → Prop} (h : Ok1 F (M.opt o S) P) : ∃ a, o = some a ∧ P a S := by
  cases o with
  | none => exact h.elim
  | some a => exact ⟨a, rfl, h⟩
theorem Ok1.stuck {α : Type} {F : Fr} {S : Sto} {P : α → Sto → Prop} (h : Ok1 F ((M.stuck : M α) S) P) : False := h
section
variable {F : Fr} {O O' : List Nat} {B B' : Nat → Option Addr} {ρ ρ' : List Addr} {σ σ' : L2.St} {H H' : Hp} {δ δ' : DEnv} {S S' : Sto}
theorem Rel.end (r : Rel F O B ρ σ H δ S) : End F ρ H S := ⟨r.gr, r.sta.wk fun _ h => .inl h⟩
/-- the heap has grown, the things that change are as S' says -/
theorem Rel.step (r : Rel F O B ρ σ H δ S) (g : Gr ρ NoZ H ρ' H') (s : Sta F.K F.ca ρ' (fun b => F.Xs b ∨ Own B b) H' S') : Rel F O B ρ' σ H' δ S' := by
  refine ⟨r.gr.tr g, s, r.bnew, r.oxs, r.binj, r.own, r.ownd, r.zero, r.len, fun i d e => ?_⟩
  have z := r.slot i d e
  have sees : LamX.ExtN (hid (Zo F B ρ) H) (hid (Zo F B ρ') H') := g.sees (fun _ z => z.elim) fun b h => .inl h
  unfold SlAt at *
  cases eb : B i with
  | none =>
    rw [eb] at z
    obtain ⟨v, h1, h2⟩ := z
    exact ⟨v, h1, h2.mono g.at sees⟩
  | some a =>
    rw [eb] at z
    refine ⟨z.1, z.2.mono g.at sees fun o ht e => g.keep a o (fun hm => r.sta.xr a hm (.inr ⟨i, eb⟩)) (fun z => z) ht e⟩
theorem Sta.same {K : PySem.W.Frag} {ca : Str → Option Addr} {Xs : Addr → Prop} (s : Sta K ca ρ Xs H S) (e : Same H H') : Sta K ca ρ Xs H' S := by
  have g : Gr ρ NoZ H ρ H' := Gr.same e
  refine ⟨fun b h => g.alive b (s.live b h), s.nd, s.xr, SrL.mono (fun _ _ e => e) (g.sees (fun _ z => z.elim) fun b h => .inl h) (fun a _ o _ h => e a o h) s.sto⟩
/-- new objects alone -/
theorem Rel.same (r : Rel F O B ρ σ H δ S) (e : Same H H') : Rel F O B ρ σ H' δ S := r.step (Gr.same e) (r.sta.same e)
end
/-- what is known of a value: tr: it may be one of the def's own things; fz: it is none of these; nw: a new thing -/
inductive Md | tr | fz | nw
  deriving DecidableEq
def Res (F : Fr) (m : Md) (B : Nat → Option Addr) (ρ : List Addr) (H H' : Hp) (S : Sto) (v : V) (d : D) : Prop := match m with
  | .tr => Rp F.K F.ca ρ (hid (Zf F ρ) H') v d
  | .fz => Rp F.K F.ca ρ (hid (Zo F B ρ) H') v d
  | .nw => ∃ a, v = .ref a ∧ Nw H a ∧ a ∉ ρ ∧ Sta F.K F.ca ρ (fun b => (F.Xs b ∨ Own B b) ∨ b = a) H' S ∧ Top F.K F.ca ρ (hid (fun b => Zo F B ρ b ∨ b = a) H') H' a d
/-- a value as it comes in -/
def Rin (F : Fr) (m : Md) (B : Nat → Option Addr) (ρ : List Addr) (H : Hp) (v : V) (d : D) : Prop := match m with
  | .tr => Rp F.K F.ca ρ (hid (Zf F ρ) H) v d
  | _ => Rp F.K F.ca ρ (hid (Zo F B ρ) H) v d
def RinL (F : Fr) (m : Md) (B : Nat → Option Addr) (ρ : List Addr) (H : Hp) (v : List V) (d : List D) : Prop := match m with
  | .tr => RpL F.K F.ca ρ (hid (Zf F ρ) H) v d
  | _ => RpL F.K F.ca ρ (hid (Zo F B ρ) H) v d
def dE (F : Fr) (O : List Nat) (m : Md) (t : DEnv → M D) : TE := fun σ H Q => ∃ B ρ δ S, Rel F O B ρ σ H δ S ∧
  Ok1 F (t δ S) fun d S' => ∀ v H' ρ', Rel F O B ρ' σ H' δ S' → Gr ρ NoZ H ρ' H' → Res F m B ρ' H H' S' v d → Q v H'
def dA (F : Fr) (O : List Nat) (m : Md) (t : DEnv → M (List D)) : TA := fun σ H Q => ∃ B ρ δ S, Rel F O B ρ σ H δ S ∧
  Ok1 F (t δ S) fun d S' => ∀ v H' ρ', Rel F O B ρ' σ H' δ S' → Gr ρ NoZ H ρ' H' → RinL F m B ρ' H' v d → Q v H'
def dT (F : Fr) (O : List Nat) (t : DEnv → M Bool) : TT := fun σ H Q => ∃ B ρ δ S, Rel F O B ρ σ H δ S ∧
  Ok1 F (t δ S) fun b S' => ∀ H' ρ', Rel F O B ρ' σ H' δ S' → Gr ρ NoZ H ρ' H' → Q b H'
inductive Fl | nx | bk | ct | rt (d : D)
def dS (F : Fr) (O O' OL : List Nat) (t : DEnv → M (DEnv × Fl)) : TS := fun Dn σ H => ∃ B ρ δ S, Rel F O B ρ σ H δ S ∧
  Ok1 F (t δ S) fun p S' => match p.2 with
    | .nx => ∀ σ' H' B' ρ', Rel F O' B' ρ' σ' H' p.1 S' → Gr ρ (Own B) H ρ' H' → (∀ b, Own B' b → Own B b ∨ Nw H b) → Dn.nx σ' H'
    | .bk => ∀ σ' H' B' ρ', Rel F OL B' ρ' σ' H' p.1 S' → Gr ρ (Own B) H ρ' H' → (∀ b, Own B' b → Own B b ∨ Nw H b) → Dn.bk σ' H'
    | .ct => ∀ σ' H' B' ρ', Rel F OL B' ρ' σ' H' p.1 S' → Gr ρ (Own B) H ρ' H' → (∀ b, Own B' b → Own B b ∨ Nw H b) → Dn.ct σ' H'
    | .rt d => ∀ v H' ρ', End F ρ' H' S' → Rp F.K F.ca ρ' (hid (Zf F ρ') H') v d → Dn.rt v H'
abbrev PED (X : Cx) (F : Fr) (O : List Nat) (m : Md) (e : Expr) (t : DEnv → M D) : Prop := PE X e (dE F O m t)
abbrev PAD (X : Cx) (F : Fr) (O : List Nat) (m : Md) (e : List Expr) (t : DEnv → M (List D)) : Prop := PA X e (dA F O m t)
abbrev PTD (X : Cx) (F : Fr) (O : List Nat) (e : Expr) (t : DEnv → M Bool) : Prop := PT X e (dT F O t)
abbrev PSD (X : Cx) (F : Fr) (O O' OL : List Nat) (s : Stmt) (t : DEnv → M (DEnv × Fl)) : Prop := PS X s (dS F O O' OL t)
abbrev PSsD (X : Cx) (F : Fr) (O O' OL : List Nat) (s : List Stmt) (t : DEnv → M (DEnv × Fl)) : Prop := PSs X s (dS F O O' OL t)
section
variable {F : Fr} {O O' : List Nat} {B B' : Nat → Option Addr} {ρ ρ' : List Addr} {σ σ' : L2.St} {H H' H1 : Hp} {δ δ' : DEnv} {S S' : Sto} {v : V} {d : D}
theorem zf_zo {b : Addr} (h : Zf F ρ b) : Zo F B ρ b := h.imp .inl id
theorem seesZ (H : Hp) : LamX.ExtN (hid (Zo F B ρ) H) (hid (Zf F ρ) H) := fun b o e _ => by
  obtain ⟨n, e⟩ := hid_iff.mp e
  exact hid_iff.mpr ⟨fun z => n (zf_zo z), e⟩
theorem Rin.wk {m : Md} (h : Rin F m B ρ H v d) : Rin F .tr B ρ H v d := by
  cases m
  · exact h
  · exact Rp.mono (fun _ _ e => e) (seesZ H) h
  · exact Rp.mono (fun _ _ e => e) (seesZ H) h
theorem Gr.seesF (g : Gr ρ NoZ H ρ' H') : LamX.ExtN (hid (Zf F ρ) H) (hid (Zf F ρ') H') := g.sees (fun _ z => z.elim) fun b h => .inl h
theorem Gr.seesO (g : Gr ρ NoZ H ρ' H') : LamX.ExtN (hid (Zo F B ρ) H) (hid (Zo F B ρ') H') := g.sees (fun _ z => z.elim) fun b h => .inl h
theorem Rin.gr {m : Md} (h : Rin F m B ρ H v d) (g : Gr ρ NoZ H ρ' H') : Rin F m B ρ' H' v d := by
  cases m
  · exact Rp.mono g.at g.seesF h
  · exact Rp.mono g.at g.seesO h
  · exact Rp.mono g.at g.seesO h
theorem RinL.gr {m : Md} {v : List V} {d : List D} (h : RinL F m B ρ H v d) (g : Gr ρ NoZ H ρ' H') : RinL F m B ρ' H' v d := by
  cases m
  · exact RpL.mono g.at g.seesF h
  · exact RpL.mono g.at g.seesO h
  · exact RpL.mono g.at g.seesO h
theorem RinL.nil {m : Md} : RinL F m B ρ H [] [] := by cases m <;> exact RpL.nil
theorem RinL.cons {m : Md} {vs : List V} {ds : List D} (h : Rin F m B ρ H v d) (t : RinL F m B ρ H vs ds) : RinL F m B ρ H (v :: vs) (d :: ds) := by
  cases m <;> exact RpL.cons h t
theorem RinL.wk {m : Md} {vs : List V} {ds : List D} (h : RinL F m B ρ H vs ds) : RinL F .tr B ρ H vs ds := by
  cases m
  · exact h
  · exact RpL.mono (fun _ _ e => e) (seesZ H) h
  · exact RpL.mono (fun _ _ e => e) (seesZ H) h
theorem RinL.out {m : Md} {v : List V} {ds : List D} (h : RinL F m B ρ H v ds) : (∃ G, (∀ b o, G b = some o → H b = some o) ∧ RpL F.K F.ca ρ G v ds) := by
  cases m
  · exact ⟨_, fun b o e => (hid_iff.mp e).2, h⟩
  · exact ⟨_, fun b o e => (hid_iff.mp e).2, h⟩
  · exact ⟨_, fun b o e => (hid_iff.mp e).2, h⟩
/-- a result as something that comes in -/
theorem Res.rin {m : Md} (r : Rel F O B ρ σ H δ S) (h : Res F m B ρ' H H' S' v d) : Rin F m B ρ' H' v d := by
  cases m
  · exact h
  · exact h
  · obtain ⟨a, rfl, n, na, sz, t⟩ := h
    have no : ¬ Zo F B ρ' a := fun z => by
      rcases z with (z | z) | z
      · exact r.sta.live a (.inl (.inl z)) n
      · exact r.sta.live a (.inl (.inr z)) n
      · exact na z
    have see : LamX.ExtN (hid (fun b => Zo F B ρ' b ∨ b = a) H') (hid (Zo F B ρ') H') := fun b o e _ => by
      obtain ⟨n, e⟩ := hid_iff.mp e
      exact hid_iff.mpr ⟨fun z => n (.inl z), e⟩
    cases d <;> first | exact t.elim | skip
    · obtain ⟨vs, h1, h2⟩ := t
      exact .lst (hid_iff.mpr ⟨no, h1⟩) (RpL.mono (fun _ _ e => e) see h2)
    · obtain ⟨vs, h1, h2⟩ := t
      exact .dct (hid_iff.mpr ⟨no, h1⟩) (RpK.mono (fun _ _ e => e) see h2)
    · obtain ⟨C, dx, vs, h0, h1, h2⟩ := t
      exact .obj h0 (hid_iff.mpr ⟨no, h1⟩) (RpF.mono (fun _ _ e => e) see h2)
    · obtain ⟨o, xs, h1, n, c, h2⟩ := t
      exact .kd (hid_iff.mpr ⟨no, h1⟩) n c (RpD.mono (fun _ _ e => e) see h2)
/-- a plain value -/
def scalD : D → Bool
  | .non => true | .bl _ => true | .int _ => true | .str _ => true | _ => false
def scV : D → V
  | .non => .non | .bl b => .bl b | .int i => .int i | .str x => .str x | _ => .non
theorem scV_rin {m : Md} (h : scalD d = true) : Rin F m B ρ H (scV d) d := by
  cases d <;> first | cases h | skip
  all_goals (cases m <;> constructor)
theorem scV_res {m : Md} (h : scalD d = true) (hm : m ≠ .nw) : Res F m B ρ H H' S (scV d) d := by
  cases m
  · exact scV_rin (m := .tr) (B := B) h
  · exact scV_rin (m := .fz) h
  · exact absurd rfl hm
end
section
variable {X : Cx} {F : Fr} {O O' O1 O2 OL : List Nat}
/-- a value of any kind may be taken for one of the def's own -/
theorem pd_wk {m : Md} {e : Expr} {t : DEnv → M D} (h : PED X F O m e t) : PED X F O .tr e t := pe_imp h fun σ H Q ⟨B, ρ, δ, S, r, q⟩ => ⟨B, ρ, δ, S, r, q.imp fun d S' k v H' ρ' r' g z => k v H' ρ' r' g (Rin.wk (m := m) (Res.rin r z))⟩
theorem pd_fz {e : Expr} {t : DEnv → M D} (h : PED X F O .nw e t) : PED X F O .fz e t := pe_imp h fun σ H Q ⟨B, ρ, δ, S, r, q⟩ => ⟨B, ρ, δ, S, r, q.imp fun d S' k v H' ρ' r' g z => k v H' ρ' r' g (Res.rin (m := .nw) r z)⟩
end
end Fg
namespace Fg
open PySem PySem.Spec PyProof.Rows L2
variable [TQ]
section
variable {F : Fr} {O : List Nat} {B : Nat → Option Addr} {ρ : List Addr} {σ : L2.St} {H H' : Hp} {δ : DEnv} {S : Sto} {v : V} {d : D} {m : Md}
theorem Rin.rp (h : Rin F m B ρ H v d) : ∃ G, (∀ b o, G b = some o → H b = some o) ∧ Rp F.K F.ca ρ G v d := by
  cases m <;> exact ⟨_, fun b o e => (hid_iff.mp e).2, h⟩
theorem Rin.int {i : Int} (h : Rin F m B ρ H v (.int i)) : v = .int i := by obtain ⟨G, _, h⟩ := h.rp; cases h; rfl
theorem Rin.str {i : Str} (h : Rin F m B ρ H v (.str i)) : v = .str i := by obtain ⟨G, _, h⟩ := h.rp; cases h; rfl
theorem Rin.bl {i : Bool} (h : Rin F m B ρ H v (.bl i)) : v = .bl i := by obtain ⟨G, _, h⟩ := h.rp; cases h; rfl
theorem Rin.non (h : Rin F m B ρ H v .non) : v = .non := by obtain ⟨G, _, h⟩ := h.rp; cases h; rfl
theorem Rin.scal (hs : scalD d = true) (h : Rin F m B ρ H v d) : v = scV d := by
  cases d <;> first | cases hs | skip
  · exact h.non
  · exact h.bl
  · exact h.int
  · exact h.str
theorem Rin.lst {ds : List D} (h : Rin F m B ρ H v (.lst ds)) : ∃ a vs, v = .ref a ∧ H a = some (.lst vs) ∧ RinL F m B ρ H vs ds := by
  cases m <;> (cases h with | lst h p => exact ⟨_, _, rfl, (hid_iff.mp h).2, p⟩)
theorem Rin.tup {ds : List D} (h : Rin F m B ρ H v (.tup ds)) : ∃ a vs, v = .ref a ∧ SqT F.K H a vs ∧ RinL F m B ρ H vs ds := by
  cases m <;> (cases h with | tup h p => exact ⟨_, _, rfl, SqT.ext (fun b o e _ => (hid_iff.mp e).2) h, p⟩)
def RinK (F : Fr) (m : Md) (B : Nat → Option Addr) (ρ : List Addr) (H : Hp) (v : List (Key × V)) (d : List (Key × D)) : Prop := match m with
  | .tr => RpK F.K F.ca ρ (hid (Zf F ρ) H) v d
  | _ => RpK F.K F.ca ρ (hid (Zo F B ρ) H) v d
def RinF (F : Fr) (m : Md) (B : Nat → Option Addr) (ρ : List Addr) (H : Hp) (v : List (Str × V)) (d : List (Str × D)) : Prop := match m with
  | .tr => RpF F.K F.ca ρ (hid (Zf F ρ) H) v d
  | _ => RpF F.K F.ca ρ (hid (Zo F B ρ) H) v d
theorem Rin.dct {ds : List (Key × D)} (h : Rin F m B ρ H v (.dct ds)) : ∃ a vs, v = .ref a ∧ H a = some (.dK vs) ∧ RinK F m B ρ H vs ds := by
  cases m <;> (cases h with | dct h p => exact ⟨_, _, rfl, (hid_iff.mp h).2, p⟩)
theorem Rin.obj {c : Str} {ds : List (Str × D)} (h : Rin F m B ρ H v (.obj c ds)) : ∃ a C dx vs, v = .ref a ∧ F.ca c = some C ∧ H a = some (.ins C dx vs) ∧ RinF F m B ρ H vs ds := by
  cases m <;> (cases h with | obj e h p => exact ⟨_, _, _, _, rfl, e, (hid_iff.mp h).2, p⟩)
def RinD (F : Fr) (m : Md) (B : Nat → Option Addr) (ρ : List Addr) (H : Hp) (v : List (NestedKey × Addr × Value)) (d : List (D × D)) : Prop := match m with
  | .tr => RpD F.K F.ca ρ (hid (Zf F ρ) H) v d
  | _ => RpD F.K F.ca ρ (hid (Zo F B ρ) H) v d
theorem Rin.kd {ds : List (D × D)} (h : Rin F m B ρ H v (.kd ds)) : ∃ a o xs, v = .ref a ∧ H a = some (Pin a o) ∧ (a == sysModules) = false ∧ DOb o xs ∧ RinD F m B ρ H xs ds := by
  cases m <;> (cases h with | kd h n e p => exact ⟨_, _, _, rfl, (hid_iff.mp h).2, n, e, p⟩)
theorem Rin.fd {ds : List (Key × D)} (h : Rin F m B ρ H v (.fd ds)) : ∃ a o vs, v = .ref a ∧ H a = some (.frz o (.dK vs)) ∧ RinK F m B ρ H vs ds := by
  cases m <;> (cases h with | fd h p => exact ⟨_, _, _, rfl, (hid_iff.mp h).2, p⟩)
theorem Rin.exc {c : Str} {ds : List (Str × D)} (h : Rin F m B ρ H v (.exc c ds)) : ∃ a C o vs, v = .ref a ∧ TQ.ex c = some C ∧ H a = some (Pin a o) ∧ EOb H C o vs ∧ RinF F m B ρ H vs ds := by
  cases m <;> (cases h with | exc e h x p => exact ⟨_, _, _, _, rfl, e, (hid_iff.mp h).2, x.mono fun _ z => (hid_iff.mp z).2, p⟩)
theorem Rin.mt {k : Nat} (h : Rin F m B ρ H v (.mt k)) : ∃ a, v = .ref a ∧ ρ[k]? = some a := by obtain ⟨G, _, h⟩ := h.rp; cases h with | mt h => exact ⟨_, rfl, h⟩
theorem RinL.len {vs : List V} {ds : List D} (h : RinL F m B ρ H vs ds) : vs.length = ds.length := by cases m <;> exact RpL.length h
theorem RinL.get {vs : List V} {ds : List D} {i : Nat} (h : RinL F m B ρ H vs ds) (e : ds[i]? = some d) : ∃ v, vs[i]? = some v ∧ Rin F m B ρ H v d := by cases m <;> exact RpL.get h e
theorem RinF.get {c : Str} : ∀ {vs : List (Str × V)} {ds : List (Str × D)}, RinF F m B ρ H vs ds → ds.lookup c = some d → ∃ v, vs.lookup c = some v ∧ Rin F m B ρ H v d := by
  have key : ∀ {G : Hp} {vs : List (Str × V)} {ds : List (Str × D)}, RpF F.K F.ca ρ G vs ds → ds.lookup c = some d → ∃ v, vs.lookup c = some v ∧ Rp F.K F.ca ρ G v d := by
    intro G vs ds h
    induction ds generalizing vs with
    | nil => intro e; cases e
    | cons p ds ih =>
      intro e
      cases h with
      | cons h t =>
        rename_i k v0 d0 vs0
        rw [List.lookup_cons] at e ⊢
        cases ek : (c == k) with
        | true => rw [ek] at e; cases e; exact ⟨_, rfl, h⟩
        | false => rw [ek] at e; exact ih t e
  intro vs ds h e
  cases m <;> exact key h e
/-- a plain result is there -/
theorem Ok1.scal {d : D} {Q : VK} (r : Rel F O B ρ σ H δ S) (hs : scalD d = true) (hm : m ≠ .nw) (h : ∀ v H' ρ', Rel F O B ρ' σ H' δ S → Gr ρ NoZ H ρ' H' → Res F m B ρ' H H' S v d → Q v H') : Q (scV d) H := h _ H ρ r (Gr.refl _ _ _) (scV_res hs hm)
end
def rd (i : Nat) : DEnv → M D := fun δ => M.opt δ[i]?.join
theorem rd_get {α : Type} {l : List (Option α)} {i : Nat} {d : α} (h : l[i]?.join = some d) : l[i]? = some (some d) := by
  cases e : l[i]? with
  | none => rw [e] at h; cases h
  | some x => rw [e] at h; rw [show x = some d from h]
section
variable {X : Cx} {F : Fr} {O O' OL : List Nat} {m mi : Md} {pos : Pos}
theorem pd_var (i : Nat) {x : Str} (hN : X.N[i]? = some x := by rfl) (ho : i ∉ O := by decide) (hv : Vis X.env.scope x := by first | exact Or.inl rfl | exact Or.inr (Or.inl rfl) | exact Or.inr (Or.inr rfl)) (hd : (x == ("__debug__" : Str)) = false := by decide)
    (hcd : (x == ("__classdict__" : Str)) = false := by decide) : PED X F O .fz (.Name x pos) (rd i) := pe_imp (fv i hN hv hd hcd) fun σ H Q ⟨B, ρ, δ, S, r, q⟩ => by
  unfold rd at q
  unfold tV
  obtain ⟨d, e, q⟩ := q.opt
  · have e := rd_get e
    have z := r.slot i d e
    unfold SlAt at z
    have eb : B i = none := by
      cases eb : B i with
      | none => rfl
      | some a => exact absurd ((r.own i).mp ⟨a, eb⟩) ho
    rw [eb] at z
    obtain ⟨v, h1, h2⟩ := z
    rw [h1]
    exact q v H ρ r (Gr.refl _ _ _) h2
theorem pd_varT (i : Nat) {x : Str} (hN : X.N[i]? = some x := by rfl) (hv : Vis X.env.scope x := by first | exact Or.inl rfl | exact Or.inr (Or.inl rfl) | exact Or.inr (Or.inr rfl)) (hd : (x == ("__debug__" : Str)) = false := by decide)
    (hcd : (x == ("__classdict__" : Str)) = false := by decide) : PED X F O .tr (.Name x pos) (rd i) := pe_imp (fv i hN hv hd hcd) fun σ H Q ⟨B, ρ, δ, S, r, q⟩ => by
  unfold rd at q
  unfold tV
  obtain ⟨d, e, q⟩ := q.opt
  · have e := rd_get e
    have z := r.slot i d e
    unfold SlAt at z
    cases eb : B i with
    | none =>
      rw [eb] at z
      obtain ⟨v, h1, h2⟩ := z
      rw [h1]
      exact q v H ρ r (Gr.refl _ _ _) (Rin.wk (m := .fz) (B := B) h2)
    | some a =>
      rw [eb] at z
      obtain ⟨h1, t⟩ := z
      rw [h1]
      have no : ¬ Zf F ρ a := fun z => by
        rcases z with z | z
        · exact r.oxs a ⟨i, eb⟩ z
        · exact r.sta.xr a z (.inr ⟨i, eb⟩)
      refine q _ H ρ r (Gr.refl _ _ _) ?_
      cases d <;> first | exact t.elim | skip
      · obtain ⟨vs, h1, h2⟩ := t
        exact .lst (hid_iff.mpr ⟨no, h1⟩) (RpL.mono (fun _ _ e => e) (seesZ H) h2)
      · obtain ⟨vs, h1, h2⟩ := t
        exact .dct (hid_iff.mpr ⟨no, h1⟩) (RpK.mono (fun _ _ e => e) (seesZ H) h2)
      · obtain ⟨C, dx, vs, h0, h1, h2⟩ := t
        exact .obj h0 (hid_iff.mpr ⟨no, h1⟩) (RpF.mono (fun _ _ e => e) (seesZ H) h2)
      · obtain ⟨o, xs, h1, n, c, h2⟩ := t
        exact .kd (hid_iff.mpr ⟨no, h1⟩) n c (RpD.mono (fun _ _ e => e) (seesZ H) h2)
/-- a plain constant, from its rule -/
theorem pd_of {e : Expr} {d : D} (h : PE X e (tC (scV d))) (hs : scalD d = true) (hm : m ≠ .nw := by decide) : PED X F O m e (fun _ => pure d) := pe_imp h fun σ H Q ⟨B, ρ, δ, S, r, q⟩ => Ok1.scal r hs hm q
theorem pd_int {i j} (hm : m ≠ .nw := by decide) : PED X F O m (.Constant (.int i) j pos) (fun _ => pure (.int i)) := pd_of pe_int rfl hm
theorem pd_bl {i j} (hm : m ≠ .nw := by decide) : PED X F O m (.Constant (.bool i) j pos) (fun _ => pure (.bl i)) := pd_of pe_bl rfl hm
theorem pd_non {j} (hm : m ≠ .nw := by decide) : PED X F O m (.Constant .none j pos) (fun _ => pure .non) := pd_of pe_non rfl hm
theorem pd_str {i j} (hm : m ≠ .nw := by decide) : PED X F O m (.Constant (.str i) j pos) (fun _ => pure (.str i)) := pd_of pe_str rfl hm
/-- a plain constant of the module -/
theorem pd_g {x : Str} {d : D} (hg : Gl X x) (h : ∃ u, X.mg x = some u ∧ RelV (scV d) u) (hs : scalD d = true) (hm : m ≠ .nw := by decide) (hd : (x == ("__debug__" : Str)) = false := by decide) : PED X F O m (.Name x pos) (fun _ => pure d) := pd_of (fe_g hg h hd) hs hm
/-- an operator's reading is what f says -/
def OpD (F : Fr) (mi m : Md) (r : R2) (f : D → D → M D) : Prop := ∀ O B ρ σ δ H S x y d e Q, Rel F O B ρ σ H δ S → Rin F mi B ρ H x d → Rin F mi B ρ H y e →
  Ok1 F (f d e S) (fun d' S' => ∀ v H' ρ', Rel F O B ρ' σ H' δ S' → Gr ρ NoZ H ρ' H' → Res F m B ρ' H H' S' v d' → Q v H') → r x y H Q
theorem bin_imp {r : R2} {f : D → D → M D} {ta tb : DEnv → M D} (hf : OpD F mi m r f) (hi : mi ≠ .nw) {σ : L2.St} {H : Hp} {Q : VK} (q : dE F O m (fun δ => do let x ← ta δ; let y ← tb δ; f x y) σ H Q) : tOp r (dE F O mi ta) (dE F O mi tb) σ H Q := by
  obtain ⟨B, ρ, δ, S, r0, q⟩ := q
  refine ⟨B, ρ, δ, S, r0, q.bind.imp fun d1 S1 q1 v1 H1 ρ1 r1 g1 z1 => ?_⟩
  refine ⟨B, ρ1, δ, S1, r1, q1.bind.imp fun d2 S2 q2 v2 H2 ρ2 r2 g2 z2 => ?_⟩
  refine hf O B ρ2 σ δ H2 S2 v1 v2 d1 d2 Q r2 ((Res.rin r0 z1).gr g2) (Res.rin r1 z2) (q2.imp fun d3 S3 k v H3 ρ3 r3 g3 z3 => k v H3 ρ3 r3 ((g1.tr g2).tr g3) ?_)
  cases m
  · exact z3
  · exact z3
  · obtain ⟨a, e, n, na, sz, t⟩ := z3
    refine ⟨a, e, Classical.byContradiction fun z => (g1.tr g2).alive a z n, na, sz, t⟩
variable {a b c : Expr} {ta tb tc : DEnv → M D}
theorem pd_op {op : Operator} {r : R2} {f : D → D → M D} (ho : OpR X (binaryOp op) r) (hf : OpD F mi m r f) (ha : PED X F O mi a ta) (hb : PED X F O mi b tb) (hi : mi ≠ .nw := by decide) : PED X F O m (.BinOp a op b pos) (fun δ => do let x ← ta δ; let y ← tb δ; f x y) :=
  pe_imp (pe_op ho ha hb) fun σ H Q q => bin_imp hf hi q
theorem pd_cmp {op : CmpOp} {r : R2} {f : D → D → M D} (ho : OpR X (compareOp op) r) (hf : OpD F mi m r f) (ha : PED X F O mi a ta) (hb : PED X F O mi b tb) (hm : behindInMarks op b = false) (hi : mi ≠ .nw := by decide) : PED X F O m (.Compare a [op] [b] pos) (fun δ => do let x ← ta δ; let y ← tb δ; f x y) :=
  pe_imp (pe_cmpR ho ha hb hm) fun σ H Q q => bin_imp hf hi q
/-- a plain result of two plain things -/
theorem OpD.scal {r : R2} {g : D → D → Option D} (hm : m ≠ .nw) (h : ∀ x y d H Q, scalD x = true → scalD y = true → g x y = some d → scalD d = true ∧ (Q (scV d) H → r (scV x) (scV y) H Q)) (hg : ∀ x y d, g x y = some d → scalD x = true ∧ scalD y = true) :
    OpD F mi m r (fun x y => M.opt (g x y)) := by
  intro O B ρ σ δ H S x y d e Q r0 hx hy q
  obtain ⟨z, eg, q⟩ := q.opt
  · obtain ⟨s1, s2⟩ := hg _ _ _ eg
    obtain ⟨s3, k⟩ := h d e z H Q s1 s2 eg
    rw [hx.scal s1, hy.scal s2]
    exact k (Ok1.scal r0 s3 hm q)
end
end Fg
namespace Fg
open PySem PySem.Spec PyProof.Rows L2
variable [TQ]
def tbD : D → M Bool
  | .bl b => pure b
  | _ => M.stuck
@[simp] theorem tbD_bl (b : Bool) : tbD (.bl b) = pure b := rfl
def notM (t : DEnv → M Bool) : DEnv → M Bool := fun δ => do let b ← t δ; pure (!b)
def andM (t u : DEnv → M Bool) : DEnv → M Bool := fun δ => do let b ← t δ; if b = true then u δ else pure false
def orM (t u : DEnv → M Bool) : DEnv → M Bool := fun δ => do let b ← t δ; if b = true then pure true else u δ
def andE (t u : DEnv → M D) : DEnv → M D := fun δ => do let x ← t δ; let b ← tbD x; if b = true then u δ else pure (.bl false)
def orE (t u : DEnv → M D) : DEnv → M D := fun δ => do let x ← t δ; let b ← tbD x; if b = true then pure (.bl true) else u δ
def ifE (t : DEnv → M Bool) (u v : DEnv → M D) : DEnv → M D := fun δ => do let b ← t δ; if b = true then u δ else v δ
def teE (t : DEnv → M Bool) : DEnv → M D := fun δ => do let b ← t δ; pure (.bl b)
def tvM (t : DEnv → M D) : DEnv → M Bool := fun δ => do let x ← t δ; tbD x
section
variable {F : Fr} {O : List Nat} {B : Nat → Option Addr} {ρ : List Addr} {σ : L2.St} {H H' : Hp} {δ : DEnv} {S : Sto} {v : V} {d : D} {m : Md}
theorem Ok1.tb {x : D} {P : Bool → Sto → Prop} (h : Ok1 F (tbD x S) P) : ∃ b, x = .bl b ∧ P b S := by
  cases x <;> first | exact h.elim | exact ⟨_, rfl, h⟩
end
section
variable {X : Cx} {F : Fr} {O O' O1 O2 OL : List Nat} {m mi : Md} {pos : Pos} {a b c e : Expr} {rest : List Expr}
theorem pd_tval {t : DEnv → M D} (h : PED X F O .tr e t) (he : ∀ whole, isTrue e X.env whole = (do let v ← whole; standAt e.pos; holding [v] (truthy v)) := by intro _; rfl) : PTD X F O e (tvM t) := pt_imp (ft_val h he) fun σ H Q ⟨B, ρ, δ, S, r, q⟩ =>
  ⟨B, ρ, δ, S, r, q.bind.imp fun d S' k v H' ρ' r' g z => by
    obtain ⟨b, rfl, k⟩ := k.tb
    obtain rfl := Rin.bl (m := .tr) (B := B) z
    exact k H' ρ' r' g⟩
theorem pd_tcmp {op : CmpOp} {r : R2} {f : D → D → M D} {ta tb : DEnv → M D} (ho : OpR X (compareOp op) r) (hf : OpD F .tr .tr r f) (ha : PED X F O .tr a ta) (hb : PED X F O .tr b tb) (hm : behindInMarks op b = false) : PTD X F O (.Compare a [op] [b] pos) (tvM fun δ => do let x ← ta δ; let y ← tb δ; f x y) :=
  pt_imp (ft_cmp ho ha hb hm) fun σ H Q ⟨B, ρ, δ, S, r0, q⟩ => bin_imp (m := .tr) hf (by decide) ⟨B, ρ, δ, S, r0, q.bind.imp fun d S' k v H' ρ' r' g z => by
    obtain ⟨b, rfl, k⟩ := k.tb
    obtain rfl := Rin.bl (m := .tr) (B := B) z
    exact k H' ρ' r' g⟩
theorem pd_tnot {t : DEnv → M Bool} (h : PTD X F O e t) : PTD X F O (.UnaryOp .Not e pos) (notM t) := pt_imp (pt_not h) fun σ H Q ⟨B, ρ, δ, S, r, q⟩ => ⟨B, ρ, δ, S, r, q.bind.imp fun b S' k H' ρ' r' g => k H' ρ' r' g⟩
theorem Res.gr {B : Nat → Option Addr} {ρ ρ' : List Addr} {H H1 H' : Hp} {S' : Sto} {v : V} {d : D} (g : Gr ρ NoZ H ρ' H1) (z : Res F m B ρ' H1 H' S' v d) : Res F m B ρ' H H' S' v d := by
  cases m
  · exact z
  · exact z
  · obtain ⟨a, e, n, na, sz, t⟩ := z
    exact ⟨a, e, Classical.byContradiction fun z => g.alive a z n, na, sz, t⟩
theorem Res.gr2 {B : Nat → Option Addr} {ρ ρ1 ρ' : List Addr} {H H1 H' : Hp} {S' : Sto} {v : V} {d : D} (g : Gr ρ NoZ H ρ1 H1) (z : Res F m B ρ' H1 H' S' v d) : Res F m B ρ' H H' S' v d := by
  cases m
  · exact z
  · exact z
  · obtain ⟨a, e, n, na, sz, t⟩ := z
    exact ⟨a, e, Classical.byContradiction fun z => g.alive a z n, na, sz, t⟩
def notE (t : DEnv → M D) : DEnv → M D := fun δ => do let x ← t δ; let b ← tbD x; pure (.bl !b)
def consM (t : DEnv → M D) (u : DEnv → M (List D)) : DEnv → M (List D) := fun δ => do let x ← t δ; let r ← u δ; pure (x :: r)
def nilM : DEnv → M (List D) := fun _ => pure []
theorem pa_imp2 {es : List Expr} {t t' : TA} (h : PA X es t) (w : ∀ σ H Q, t' σ H Q → t σ H Q) : PA X es t' := pa_imp h w
theorem pad_nil : PAD X F O m [] nilM := pa_imp2 pa_nil fun σ H Q ⟨B, ρ, δ, S, r, q⟩ => q [] H ρ r (Gr.refl _ _ _) RinL.nil
theorem pad_cons {t : DEnv → M D} {u : DEnv → M (List D)} (h : PED X F O m e t) (k : PAD X F O m rest u) (hs : starEach (e :: rest) X.env = (false, eval e X.env) :: starEach rest X.env := by rfl) : PAD X F O m (e :: rest) (consM t u) :=
  pa_imp2 (pa_cons h k hs) fun σ H Q ⟨B, ρ, δ, S, r, q⟩ => ⟨B, ρ, δ, S, r, q.bind.imp fun d S' k v H' ρ' r' g z => ⟨B, ρ', δ, S', r', k.bind.imp fun ds S2 k vs H2 ρ2 r2 g2 z2 =>
    k (v :: vs) H2 ρ2 r2 (g.tr g2) (RinL.cons ((Res.rin r z).gr g2) z2)⟩⟩
def seqS (t u : DEnv → M (DEnv × Fl)) : DEnv → M (DEnv × Fl) := fun δ => do
  let p ← t δ
  match p.2 with
  | .nx => u p.1
  | _ => pure p
def skipS : DEnv → M (DEnv × Fl) := fun δ => pure (δ, .nx)
def brkS : DEnv → M (DEnv × Fl) := fun δ => pure (δ, .bk)
def ctS : DEnv → M (DEnv × Fl) := fun δ => pure (δ, .ct)
def retS (t : DEnv → M D) : DEnv → M (DEnv × Fl) := fun δ => do let d ← t δ; pure (δ, .rt d)
def dropS (t : DEnv → M D) : DEnv → M (DEnv × Fl) := fun δ => do let _ ← t δ; pure (δ, .nx)
def ifS (t : DEnv → M Bool) (u w : DEnv → M (DEnv × Fl)) : DEnv → M (DEnv × Fl) := fun δ => do let b ← t δ; if b = true then u δ else w δ
def setS (i : Nat) (t : DEnv → M D) : DEnv → M (DEnv × Fl) := fun δ => do let d ← t δ; pure (δ.set i (some d), .nx)
theorem pss_imp {st : List Stmt} {t t' : TS} (h : PSs X st t) (w : ∀ D σ H, t' D σ H → t D σ H) : PSs X st t' := ⟨fun pins s σ H D I q => h.run pins s σ H D I (w D σ H q)⟩
section
variable {B B' : Nat → Option Addr} {ρ ρ' : List Addr} {σ : L2.St} {H H' : Hp} {δ : DEnv} {S : Sto}
/-- some of the def's own things are its own no longer -/
theorem Rel.drop (r : Rel F O B ρ σ H δ S) (ho : ∀ i, i ∈ O' → i ∈ O) : ∃ B', Rel F O' B' ρ σ H δ S ∧ ∀ b, Own B' b → Own B b := by
  classical
  refine ⟨fun i => if i ∈ O' then B i else none, ?_⟩
  have sub : ∀ b, Own (fun i => if i ∈ O' then B i else none) b → Own B b := fun b ⟨i, e⟩ => ⟨i, by
    dsimp only at e
    split at e
    · exact e
    · cases e⟩
  have see : LamX.ExtN (hid (Zo F B ρ) H) (hid (Zo F (fun i => if i ∈ O' then B i else none) ρ) H) := fun b o e _ => by
    obtain ⟨n, e⟩ := hid_iff.mp e
    exact hid_iff.mpr ⟨fun z => n (z.imp (Or.imp id (sub b)) id), e⟩
  refine ⟨⟨r.gr, r.sta.wk fun b h => h.imp id (sub b), fun b h => r.bnew b (sub b h), fun b h => r.oxs b (sub b h), fun i j b h1 h2 => ?_, fun i => ⟨fun ⟨a, e⟩ => ?_, fun h => ?_⟩, fun i a e => ?_, fun p hp => ?_, r.len, fun i d e => ?_⟩, sub⟩
  · have h1 : (if i ∈ O' then B i else none) = some b := h1
    have h2 : (if j ∈ O' then B j else none) = some b := h2
    split at h1
    · split at h2
      · exact r.binj i j b h1 h2
      · cases h2
    · cases h1
  · have e : (if i ∈ O' then B i else none) = some a := e
    split at e
    · assumption
    · cases e
  · obtain ⟨a, e⟩ := (r.own i).mpr (ho i h)
    exact ⟨a, by rw [if_pos h]; exact e⟩
  · have e : (if i ∈ O' then B i else none) = some a := e
    split at e
    · exact r.ownd i a e
    · cases e
  · show (if 0 ∈ O' then B 0 else none) = some p ∨ (if 0 ∈ O' then B 0 else none) = none
    split
    · exact r.zero p hp
    · exact .inr rfl
  · have z := r.slot i d e
    unfold SlAt at z ⊢
    dsimp only
    by_cases hi : i ∈ O'
    · rw [if_pos hi]
      cases eb : B i with
      | none =>
        rw [eb] at z
        obtain ⟨v, h1, h2⟩ := z
        exact ⟨v, h1, h2.mono (fun _ _ e => e) see⟩
      | some a =>
        rw [eb] at z
        exact ⟨z.1, z.2.mono (fun _ _ e => e) see fun _ _ e => e⟩
    · rw [if_neg hi]
      cases eb : B i with
      | none =>
        rw [eb] at z
        obtain ⟨v, h1, h2⟩ := z
        exact ⟨v, h1, h2.mono (fun _ _ e => e) see⟩
      | some a =>
        rw [eb] at z
        obtain ⟨h1, t⟩ := z
        have no : ¬ Zo F (fun i => if i ∈ O' then B i else none) ρ a := fun z => by
          rcases z with (z | ⟨j, ej⟩) | z
          · exact r.oxs a ⟨i, eb⟩ z
          · dsimp only at ej
            split at ej
            · rename_i hj
              exact hi (r.binj i j a eb ej ▸ hj)
            · cases ej
          · exact r.sta.xr a z (.inr ⟨i, eb⟩)
        refine ⟨_, h1, ?_⟩
        cases d <;> first | exact t.elim | skip
        · obtain ⟨vs, h1, h2⟩ := t
          exact .lst (hid_iff.mpr ⟨no, h1⟩) (RpL.mono (fun _ _ e => e) see h2)
        · obtain ⟨vs, h1, h2⟩ := t
          exact .dct (hid_iff.mpr ⟨no, h1⟩) (RpK.mono (fun _ _ e => e) see h2)
        · obtain ⟨C, dx, vs, h0, h1, h2⟩ := t
          exact .obj h0 (hid_iff.mpr ⟨no, h1⟩) (RpF.mono (fun _ _ e => e) see h2)
        · obtain ⟨o, xs, h1, n, c, h2⟩ := t
          exact .kd (hid_iff.mpr ⟨no, h1⟩) n c (RpD.mono (fun _ _ e => e) see h2)
end
theorem pssd_nil (ho : ∀ i, i ∈ O' → i ∈ O := by decide) : PSsD X F O O' OL [] skipS := pss_imp pss_nil fun Dn σ H ⟨B, ρ, δ, S, r, q⟩ => by
  obtain ⟨B', r', sub⟩ := r.drop ho
  exact q σ H B' ρ r' (Gr.refl _ _ _) fun b h => .inl (sub b h)
/-- what stands behind a statement, told from an earlier point -/
theorem dS_from {t : DEnv → M (DEnv × Fl)} {σ1 : L2.St} {B B1 : Nat → Option Addr} {ρ ρ1 : List Addr} {δ1 : DEnv} {S1 : Sto} {H H1 : Hp} {Dn : Ends} (r1 : Rel F O1 B1 ρ1 σ1 H1 δ1 S1) (g : Gr ρ (Own B) H ρ1 H1) (n : ∀ b, Own B1 b → Own B b ∨ Nw H b)
    (k : Ok1 F (t δ1 S1) fun p S' => match p.2 with
      | .nx => ∀ σ' H' B' ρ', Rel F O' B' ρ' σ' H' p.1 S' → Gr ρ (Own B) H ρ' H' → (∀ b, Own B' b → Own B b ∨ Nw H b) → Dn.nx σ' H'
      | .bk => ∀ σ' H' B' ρ', Rel F OL B' ρ' σ' H' p.1 S' → Gr ρ (Own B) H ρ' H' → (∀ b, Own B' b → Own B b ∨ Nw H b) → Dn.bk σ' H'
      | .ct => ∀ σ' H' B' ρ', Rel F OL B' ρ' σ' H' p.1 S' → Gr ρ (Own B) H ρ' H' → (∀ b, Own B' b → Own B b ∨ Nw H b) → Dn.ct σ' H'
      | .rt d => ∀ v H' ρ', End F ρ' H' S' → Rp F.K F.ca ρ' (hid (Zf F ρ') H') v d → Dn.rt v H') : dS F O1 O' OL t Dn σ1 H1 := by
  refine ⟨B1, ρ1, δ1, S1, r1, k.imp fun p S' k => ?_⟩
  have nn : ∀ {B' : Nat → Option Addr}, (∀ b, Own B' b → Own B1 b ∨ Nw H1 b) → ∀ b, Own B' b → Own B b ∨ Nw H b := fun h b hb => by
    rcases h b hb with z | z
    · exact n b z
    · exact .inr (Classical.byContradiction fun y => g.alive b y z)
  obtain ⟨δ', f⟩ := p
  cases f with
  | nx => exact fun σ' H' B' ρ' r' g2 n2 => k σ' H' B' ρ' r' (g.trans g2 n) (nn n2)
  | bk => exact fun σ' H' B' ρ' r' g2 n2 => k σ' H' B' ρ' r' (g.trans g2 n) (nn n2)
  | ct => exact fun σ' H' B' ρ' r' g2 n2 => k σ' H' B' ρ' r' (g.trans g2 n) (nn n2)
  | rt d => exact k
theorem pssd_cons {st : Stmt} {r : List Stmt} {t u : DEnv → M (DEnv × Fl)} (h : PSD X F O O1 OL st t) (k : PSsD X F O1 O' OL r u) : PSsD X F O O' OL (st :: r) (seqS t u) := pss_imp (pss_cons h k) fun Dn σ H ⟨B, ρ, δ, S, r, q⟩ =>
  ⟨B, ρ, δ, S, r, q.bind.imp fun p S' k => by
    obtain ⟨δ', f⟩ := p
    cases f with
    | nx => exact fun σ' H' B' ρ' r' g n => dS_from r' g n k
    | bk => exact k
    | ct => exact k
    | rt d => exact k⟩
theorem psd_if {t : DEnv → M Bool} {p q : List Stmt} {u w : DEnv → M (DEnv × Fl)} (h : PTD X F O c t) (ha : PSsD X F O O' OL p u) (hb : PSsD X F O O' OL q w) : PSD X F O O' OL (.If c p q pos) (ifS t u w) := ps_imp (ps_if h ha hb) fun Dn σ H ⟨B, ρ, δ, S, r, q⟩ =>
  ⟨B, ρ, δ, S, r, q.bind.imp fun c S' k H' ρ' r' g => by
    cases c with
    | true => exact dS_from (t := u) r' g.wk (fun b h => .inl h) k
    | false => exact dS_from (t := w) r' g.wk (fun b h => .inl h) k⟩
theorem psd_ret {t : DEnv → M D} (h : PED X F O .tr e t) : PSD X F O O' OL (.Return (some e) pos) (retS t) := ps_imp (ps_ret h) fun Dn σ H ⟨B, ρ, δ, S, r, q⟩ =>
  ⟨B, ρ, δ, S, r, q.bind.imp fun d S' k v H' ρ' r' g z => k v H' ρ' r'.end z⟩
end
end Fg
namespace Fg
open PySem PySem.Spec PyProof.Rows L2
variable [TQ]
section
variable {F : Fr} {O O' : List Nat} {B B' : Nat → Option Addr} {ρ ρ' : List Addr} {σ : L2.St} {H H' H1 : Hp} {δ : DEnv} {S S' : Sto} {v : V} {d : D} {i : Nat}
theorem Rel.notO (r : Rel F O B ρ σ H δ S) (hi : i ∉ O) : B i = none := by
  cases eb : B i with
  | none => rfl
  | some a => exact absurd ((r.own i).mp ⟨a, eb⟩) hi
theorem Rel.set (r : Rel F O B ρ σ H δ S) (hi : i ∉ O) (h : Rin F .fz B ρ H v d) : Rel F O B ρ (σ.set i (some v)) H (δ.set i (some d)) S := by
  have bi := r.notO hi
  refine ⟨r.gr, r.sta, r.bnew, r.oxs, r.binj, r.own, fun j a e => ?_, r.zero, by rw [List.length_set, List.length_set]; exact r.len, fun j x e => ?_⟩
  · obtain ⟨x, hx⟩ := r.ownd j a e
    have ne : i ≠ j := fun z => by subst z; rw [bi] at e; cases e
    exact ⟨x, by rw [List.getElem?_set_ne ne]; exact hx⟩
  · by_cases z : i = j
    · subst z
      unfold SlAt
      rw [bi]
      have li : i < δ.length := by
        rcases Nat.lt_or_ge i δ.length with h | h
        · exact h
        · rw [List.getElem?_eq_none (by rw [List.length_set]; exact h)] at e; cases e
      rw [List.getElem?_set_self li] at e
      cases e
      exact ⟨v, List.getElem?_set_self (by rw [r.len]; exact li), h⟩
    · rw [List.getElem?_set_ne z] at e
      have q := r.slot j x e
      unfold SlAt at q ⊢
      cases eb : B j with
      | none =>
        rw [eb] at q
        obtain ⟨v, h1, h2⟩ := q
        exact ⟨v, by rw [List.getElem?_set_ne z]; exact h1, h2⟩
      | some a =>
        rw [eb] at q
        exact ⟨by rw [List.getElem?_set_ne z]; exact q.1, q.2⟩
/-- a new thing becomes the def's own -/
theorem Rel.new {m : Md} (r : Rel F O B ρ σ H δ S) (r' : Rel F O B ρ' σ H' δ S') (g : Gr ρ NoZ H ρ' H') (hi : i ∉ O) (hz0 : i ≠ 0 ∨ F.own0 = none) (hl : i < δ.length) (h : Res F .nw B ρ' H H' S' v d) :
    ∃ B', Rel F (i :: O) B' ρ' (σ.set i (some v)) H' (δ.set i (some d)) S' ∧ ∀ b, Own B' b → Own B b ∨ Nw H b := by
  obtain ⟨a, rfl, n, na, st, t⟩ := h
  have bi := r.notO hi
  refine ⟨fun j => if j = i then some a else B j, ?_, ?_⟩
  have on : ∀ b, Own (fun j => if j = i then some a else B j) b ↔ Own B b ∨ b = a := fun b => by
    constructor
    · rintro ⟨j, e⟩
      dsimp only at e
      split at e
      · exact .inr (Option.some.inj e).symm
      · exact .inl ⟨j, e⟩
    · rintro (⟨j, e⟩ | e)
      · refine ⟨j, ?_⟩
        dsimp only
        rw [if_neg (fun z => by subst z; rw [bi] at e; cases e)]
        exact e
      · exact ⟨i, by dsimp only; rw [if_pos rfl, e]⟩
  have nh0 : Nw F.H0 a := Classical.byContradiction fun z => r.gr.alive a z n
  have nx : ¬ F.Xs a := fun z => r.sta.live a (.inl (.inl z)) n
  have nb : ¬ Own B a := fun z => r.sta.live a (.inl (.inr z)) n
  have zz : ∀ b, Zo F (fun j => if j = i then some a else B j) ρ' b ↔ (Zo F B ρ' b ∨ b = a) := fun b => by
    unfold Zo
    rw [on]
    constructor
    · rintro ((h | h | h) | h)
      · exact .inl (.inl (.inl h))
      · exact .inl (.inl (.inr h))
      · exact .inr h
      · exact .inl (.inr h)
    · rintro (((h | h) | h) | h)
      · exact .inl (.inl h)
      · exact .inl (.inr (.inl h))
      · exact .inr h
      · exact .inl (.inr (.inr h))
  have hz : (Zo F (fun j => if j = i then some a else B j) ρ') = fun b => Zo F B ρ' b ∨ b = a := funext fun b => propext (zz b)
  have hx : (fun b => F.Xs b ∨ Own (fun j => if j = i then some a else B j) b) = fun b => (F.Xs b ∨ Own B b) ∨ b = a := funext fun b => propext (by rw [on, or_assoc])
  have see : LamX.ExtN (hid (Zo F B ρ) H) (hid (Zo F (fun j => if j = i then some a else B j) ρ') H') := by
    rw [hz]
    intro b o e ht
    obtain ⟨nn, e2⟩ := hid_iff.mp e
    obtain ⟨nn2, e3⟩ := hid_iff.mp (g.seesO (F := F) (B := B) b o e ht)
    exact hid_iff.mpr ⟨fun z => z.elim nn2 (fun z => n.no (z ▸ e2) ht), e3⟩
  refine ⟨r'.gr, by rw [hx]; exact st, fun b h => ?_, fun b h => ?_, fun j k b h1 h2 => ?_, fun j => ?_, fun j c e => ?_, fun q hq => ?_, by rw [List.length_set, List.length_set]; exact r.len, fun j x e => ?_⟩
  · rcases (on b).mp h with h | h
    · exact r.bnew b h
    · rw [h]; exact nh0
  · rcases (on b).mp h with h | h
    · exact r.oxs b h
    · rw [h]; exact nx
  · have h1 : (if j = i then some a else B j) = some b := h1
    have h2 : (if k = i then some a else B k) = some b := h2
    split at h1
    · split at h2
      · rename_i z1 z2; rw [z1, z2]
      · rw [← Option.some.inj h1] at h2; exact absurd ⟨k, h2⟩ nb
    · split at h2
      · rw [← Option.some.inj h2] at h1; exact absurd ⟨j, h1⟩ nb
      · exact r.binj j k b h1 h2
  · rw [List.mem_cons]
    constructor
    · rintro ⟨c, e⟩
      have e : (if j = i then some a else B j) = some c := e
      split at e
      · exact .inl ‹_›
      · exact .inr ((r.own j).mp ⟨c, e⟩)
    · rintro (e | e)
      · exact ⟨a, by rw [if_pos e]⟩
      · obtain ⟨c, h⟩ := (r.own j).mpr e
        exact ⟨c, by rw [if_neg (fun z : j = i => hi (by rw [← z]; exact e))]; exact h⟩
  · have e : (if j = i then some a else B j) = some c := e
    split at e
    · rename_i z; subst z; exact ⟨d, List.getElem?_set_self hl⟩
    · rename_i z
      obtain ⟨x, hx⟩ := r.ownd j c e
      exact ⟨x, by rw [List.getElem?_set_ne (Ne.symm z)]; exact hx⟩
  · show (if 0 = i then some a else B 0) = some q ∨ (if 0 = i then some a else B 0) = none
    rcases hz0 with z | z
    · rw [if_neg (Ne.symm z)]
      exact r.zero q hq
    · rw [z] at hq; cases hq
  · unfold SlAt
    by_cases z : j = i
    · subst z
      rw [List.getElem?_set_self hl] at e
      cases e
      dsimp only
      rw [if_pos rfl]
      exact ⟨List.getElem?_set_self (by rw [r.len]; exact hl), by rw [hz]; exact t⟩
    · rw [List.getElem?_set_ne (Ne.symm z)] at e
      have q := r.slot j x e
      unfold SlAt at q
      dsimp only
      rw [if_neg z]
      cases eb : B j with
      | none =>
        rw [eb] at q
        obtain ⟨v, h1, h2⟩ := q
        exact ⟨v, by rw [List.getElem?_set_ne (Ne.symm z)]; exact h1, h2.mono g.at see⟩
      | some c =>
        rw [eb] at q
        refine ⟨by rw [List.getElem?_set_ne (Ne.symm z)]; exact q.1, q.2.mono g.at see fun o ht e => g.keep c o (fun hm => r.sta.xr c hm (.inr ⟨j, eb⟩)) (fun z => z) ht e⟩
  · rintro b ⟨j, e⟩
    dsimp only at e
    split at e
    · exact .inr ((Option.some.inj e) ▸ n)
    · exact .inl ⟨j, e⟩
theorem Top.ntbl {K : PySem.W.Frag} {ca : Str → Option Addr} {ρ : List Addr} {G H : Hp} {a : Addr} {d : D} {o : HO} (t : Top K ca ρ G H a d) (h : H a = some o) : ∀ ps, o ≠ .tbl ps := fun ps z => by
  subst z
  cases d <;> first | exact t.elim | skip
  · obtain ⟨vs, h1, _⟩ := t; rw [h] at h1; cases h1
  · obtain ⟨vs, h1, _⟩ := t; rw [h] at h1; cases h1
  · obtain ⟨C, dx, vs, _, h1, _⟩ := t; rw [h] at h1; cases h1
  · obtain ⟨o, xs, h1, _⟩ := t; rw [h] at h1; cases h1
end
section
variable {X : Cx} {F : Fr} {O O' O1 O2 OL : List Nat} {m mi : Md} {pos pos' : Pos} {a b c e : Expr} {rest : List Expr} {i : Nat}
/-- x = e, from what the right side reads -/
theorem asg_fz {te : TE} {t : DEnv → M D} {Dn : Ends} {σ : L2.St} {H : Hp} (w : ∀ Q, dE F O .fz t σ H Q → te σ H Q) (hi : i ∉ O) (q : dS F O O OL (setS i t) Dn σ H) : tAsg te (gName i) Dn σ H := by
  obtain ⟨B, ρ, δ, S, r, q⟩ := q
  exact w _ ⟨B, ρ, δ, S, r, q.bind.imp fun d S' k v H' ρ' r' g z => k _ H' B ρ' (r'.set hi z) g.wk fun b h => .inl h⟩
theorem psd_set {x : Str} {t : DEnv → M D} (i : Nat) (h : PED X F O .fz e t) (hN : X.N.Nodup) (hi : X.N[i]? = some x := by rfl) (hx : Loc X.env.scope x := by first | exact Or.inl rfl | exact Or.inr rfl) (ho : i ∉ O := by decide) (hs : swapsWith e (some (.Name x pos')) pos.line X.env = pure false := by rfl) (hf : X.fn x = true ∨ X.env.scope.names.lookup x = some .local := by first | exact .inl rfl | exact .inr rfl | assumption) :
    PSD X F O O OL (.Assign [.Name x pos'] e pos) (setS i t) := ps_imp (ps_set hN hi hx h hs hf) fun Dn σ H q => asg_fz (fun _ q => q) ho q
def tgN (i : Nat) : D → DEnv → M DEnv := fun d δ => pure (δ.set i (some d))
def tgs : List (D → DEnv → M DEnv) → List D → DEnv → M DEnv
  | [], [], δ => pure δ
  | g :: gs, d :: ds, δ => do let δ' ← g d δ; tgs gs ds δ'
  | _, _, _ => M.stuck
def tgT (gs : List (D → DEnv → M DEnv)) : D → DEnv → M DEnv := fun d δ => match d with
  | .tup ds => if ds.length = gs.length then tgs gs ds δ else M.stuck
  | _ => M.stuck
theorem pg_imp {t t' : TG} (h : PG X e t) (w : ∀ v σ H Q, t' v σ H Q → t v σ H Q) : PG X e t' := ⟨fun pins s σ H v u Q I r q => h.run pins s σ H v u Q I r (w _ _ _ _ q)⟩
end
end Fg
namespace Fg
open PySem PySem.Spec PyProof.Rows L2
variable [TQ]
def forL (g : D → DEnv → M DEnv) (b : DEnv → M (DEnv × Fl)) : List D → DEnv → M (DEnv × Fl)
  | [], δ => pure (δ, .nx)
  | x :: r, δ => do
    let δ1 ← g x δ
    let p ← b δ1
    match p.2 with
    | .nx => forL g b r p.1
    | .ct => forL g b r p.1
    | .bk => pure (p.1, .nx)
    | .rt d => pure (p.1, .rt d)
def forS (t : DEnv → M (List D)) (g : D → DEnv → M DEnv) (b : DEnv → M (DEnv × Fl)) : DEnv → M (DEnv × Fl) := fun δ => do let xs ← t δ; forL g b xs δ
/-- what is walked -/
def dW (F : Fr) (O : List Nat) (t : DEnv → M (List D)) : TW := fun σ H R => ∃ B ρ δ S, Rel F O B ρ σ H δ S ∧
  Ok1 F (t δ S) fun ds S' => ∀ vs st H' ρ', Rel F O B ρ' σ H' δ S' → Gr ρ NoZ H ρ' H' → RinL F .fz B ρ' H' vs ds → st H' → (∀ H1 ρ1, Gr ρ' (Own B) H' ρ1 H1 → st H1) → R vs st H'
abbrev PID (X : Cx) (F : Fr) (O : List Nat) (tg e : Expr) (t : DEnv → M (List D)) : Prop := PI X tg e (wiOf (upW (dW F O t)))
def itL : D → M (List D)
  | .lst ds => pure ds
  | _ => M.stuck
def itT : D → M (List D)
  | .tup ds => pure ds
  | _ => M.stuck
def signsD (z : Str) : List D := z.cps.toList.map fun c => D.str ⟨#[c]⟩
def itS : D → M (List D)
  | .str z => pure (signsD z)
  | _ => M.stuck
section
variable {X : Cx} {F : Fr} {O O' O1 O2 OL : List Nat} {m mi : Md} {pos pos' : Pos} {a b c e tg : Expr} {rest es : List Expr} {i : Nat}
theorem pid_L {t : DEnv → M D} (hK : F.K = X.K) (h : PED X F O .fz e t) : PID X F O tg e (fun δ => do let d ← t δ; itL d) := pi_imp (fi_L h) fun σ H R ⟨R0, ⟨B, ρ, δ, S, r, q⟩, k⟩ => ⟨R0, ⟨B, ρ, δ, S, r, q.bind.imp fun d S' q v H' ρ' r' g z => by
  cases d <;> first | exact (show False from q).elim | skip
  rename_i ds
  have z : Rp F.K F.ca ρ' (hid (Zo F B ρ') H') v (.lst ds) := z
  cases z with
  | lst h1 h2 =>
    obtain ⟨no, h1⟩ := hid_iff.mp h1
    have st : ∀ H1 ρ1, Gr ρ' (Own B) H' ρ1 H1 → SqL X.K H1 _ _ := fun H1 ρ1 g => SqL.of (g.keep _ _ (fun z => no (.inr z)) (fun z => no (.inl (.inr z))) (fun _ z => by cases z) h1)
    exact ⟨_, SqL.of h1, q _ _ H' ρ' r' g h2 (SqL.of h1) st⟩⟩, k⟩
end
end Fg
namespace Fg
open PySem PySem.Spec PyProof.Rows L2
variable [TQ]
section
variable {X : Cx} {F : Fr} {O O' O1 O2 OL : List Nat} {m mi : Md} {pos pos' : Pos} {a b c e tg : Expr} {rest es : List Expr} {i : Nat}
def pairsD (l : List (D × D)) : List D := l.map fun p => .tup [p.1, p.2]
end
end Fg
namespace Fg
open PySem PySem.Spec PyProof.Rows L2
variable [TQ]
def itD : D → Option (List D)
  | .lst ds => some ds
  | .tup ds => some ds
  | .str z => some (signsD z)
  | _ => none
def zipM2 (t : DEnv → M (List D)) : DEnv → M (List D) := fun δ => do
  let ds ← t δ
  match ds with
  | [x, y] => match itD x, itD y with
    | some xs, some ys => if xs.length = ys.length then pure (pairsD (xs.zip ys)) else M.stuck
    | _, _ => M.stuck
  | _ => M.stuck
end Fg
namespace Fg
open PySem PySem.Spec PyProof.Rows L2
variable [TQ]
section
variable {F : Fr} {O : List Nat} {B : Nat → Option Addr} {ρ ρ' : List Addr} {σ : L2.St} {H H' H1 : Hp} {δ : DEnv} {S S' : Sto} {v : V} {d : D} {m mi : Md}
theorem Sta.new {K : PySem.W.Frag} {ca : Str → Option Addr} {Z : Addr → Prop} {p : Addr} (s : Sta K ca ρ Z H S) (e : Same H H') (n : H p = none) (n' : ¬ Nw H' p) : Sta K ca ρ (fun b => Z b ∨ b = p) H' S := by
  have g : Gr ρ NoZ H ρ H' := Gr.same e
  refine ⟨fun b h => ?_, s.nd, fun b hb z => ?_, SrL.mono (fun _ _ e => e) (g.sees (Z := Z) (Z1 := fun b => Z b ∨ b = p) (fun _ z => z.elim) fun b h => h.elim .inl fun z => .inr (z ▸ Nw.of n)) (fun a _ o _ h => e a o h) s.sto⟩
  · rcases h with (h | h) | h
    · exact g.alive b (s.live b (.inl h))
    · rw [h]; exact n'
    · exact g.alive b (s.live b (.inr h))
  · rcases z with z | z
    · exact s.xr b hb z
    · exact s.live b (.inr hb) (z ▸ Nw.of n)
/-- a new list, dict -/
theorem res_new {p : Addr} (r : Rel F O B ρ σ H δ S) (g : Gr ρ' NoZ H1 ρ H) (e : Same H H') (n : H p = none) (n' : ¬ Nw H' p) (t : Top F.K F.ca ρ (hid (fun b => Zo F B ρ b ∨ b = p) H') H' p d) : Res F .nw B ρ H1 H' S (.ref p) d :=
  ⟨p, rfl, Classical.byContradiction fun z => g.alive p z (Nw.of n), fun z => r.sta.live p (.inr z) (Nw.of n), r.sta.new e n n', t⟩
theorem seesN {p : Addr} (e : Same H H') (n : H p = none) : LamX.ExtN (hid (Zo F B ρ) H) (hid (fun b => Zo F B ρ b ∨ b = p) H') := fun b o h _ => by
  obtain ⟨no, h⟩ := hid_iff.mp h
  exact hid_iff.mpr ⟨fun z => z.elim no fun z => (by rw [z, n] at h; cases h), e b o h⟩
end
def capL (ds : List D) : M Unit := if ds.length ≤ sizeLine then pure () else M.stuck
section
variable {X : Cx} {F : Fr} {O O' O1 O2 OL : List Nat} {m mi : Md} {pos pos' p tpos : Pos} {a b c e e2 tg o : Expr} {rest es elts : List Expr} {i kk : Nat}
theorem Ok1.cap {ds : List D} {S : Sto} {P : Unit → Sto → Prop} (h : Ok1 F (capL ds S) P) : ds.length ≤ sizeLine ∧ P () S := by
  unfold capL at h
  split at h
  · exact ⟨‹_›, h⟩
  · exact h.stuck.elim
theorem pd_lst {t : DEnv → M (List D)} (h : PAD X F O .fz es t) : PED X F O .nw (.List es pos) (fun δ => do let ds ← t δ; capL ds; pure (.lst ds)) := pe_imp (fe_lst h) fun σ H Q ⟨B, ρ, δ, S, r, q⟩ => ⟨B, ρ, δ, S, r, q.bind.imp fun ds S' q vs H' ρ' r' g z => by
  obtain ⟨hc, q⟩ := q.bind.cap
  refine ⟨by rw [RinL.len z]; exact hc, fun p H2 np s2 h2 => ?_⟩
  exact (q : ∀ v H' ρ', _) _ H2 ρ' (r'.same s2) (g.tr (Gr.same s2)) (res_new r' g s2 np (Nw.live h2 fun _ z => by cases z) ⟨_, h2, RpL.mono (fun _ _ e => e) (seesN s2 np) z⟩)⟩
theorem pd_tup {x1} {t : DEnv → M (List D)} (h : PAD X F O m es t) (hm : m ≠ .nw := by decide) : PED X F O m (.Tuple es x1 pos) (fun δ => do let ds ← t δ; capL ds; pure (.tup ds)) := pe_imp (fe_tup h) fun σ H Q ⟨B, ρ, δ, S, r, q⟩ => ⟨B, ρ, δ, S, r, q.bind.imp fun ds S' q vs H' ρ' r' g z => by
  obtain ⟨hc, q⟩ := q.bind.cap
  refine ⟨by rw [RinL.len z]; exact hc, fun p H2 np s2 h2 => ?_⟩
  refine (q : ∀ v H' ρ', _) _ H2 ρ' (r'.same s2) (g.tr (Gr.same s2)) ?_
  have g2 : Gr ρ' NoZ H' ρ' H2 := Gr.same s2
  have z2 := RinL.gr z g2
  have no : ¬ Zo F B ρ' p := fun z => by
    rcases z with (z | z) | z
    · exact r'.sta.live p (.inl (.inl z)) (Nw.of np)
    · exact r'.sta.live p (.inl (.inr z)) (Nw.of np)
    · exact r'.sta.live p (.inr z) (Nw.of np)
  cases m
  · exact .tup (SqT.of (hid_iff.mpr ⟨fun z => no (zf_zo z), h2⟩)) z2
  · exact .tup (SqT.of (hid_iff.mpr ⟨no, h2⟩)) z2
  · exact absurd rfl hm⟩
theorem Ok1.itL {x : D} {S : Sto} {P : List D → Sto → Prop} (h : Ok1 F (itL x S) P) : ∃ ds, x = .lst ds ∧ P ds S := by
  cases x <;> first | exact h.elim | exact ⟨_, rfl, h⟩
theorem Ok1.ite {α : Type} {p : Prop} [Decidable p] {x : M α} {S : Sto} {P : α → Sto → Prop} (h : Ok1 F ((if p then x else M.stuck) S) P) : p ∧ Ok1 F (x S) P := by
  split at h
  · exact ⟨‹_›, h⟩
  · exact h.stuck.elim
def appS (i : Nat) (t : DEnv → M D) : DEnv → M (DEnv × Fl) := fun δ => do
  let x ← rd i δ
  let ds ← itL x
  let d ← t δ
  if ds.length < sizeLine then pure (δ.set i (some (.lst (ds ++ [d]))), Fl.nx) else M.stuck
end
end Fg
namespace Fg
open PySem PySem.Spec PyProof.Rows L2
variable [TQ]
instance (i j : Int) : Decidable (CBig i j) := by unfold CBig; infer_instance
instance (i j : Int) : Decidable (CM i j) := by unfold CM; infer_instance
instance (i j : Int) : Decidable (CDv i j) := by unfold CDv; infer_instance
instance (i j : Int) : Decidable (CPow i j) := by unfold CPow; infer_instance
def addD : D → D → M D
  | .int i, .int j => pure (.int (i + j))
  | .str a, .str b => if a.length + b.length ≤ sizeLine then pure (.str (a ++ b)) else M.stuck
  | _, _ => M.stuck
def catD : D → D → M D
  | .lst a, .lst b => if a.length + b.length ≤ sizeLine then pure (.lst (a ++ b)) else M.stuck
  | _, _ => M.stuck
def subD : D → D → M D
  | .int i, .int j => pure (.int (i - j))
  | _, _ => M.stuck
def mulD : D → D → M D
  | .int i, .int j => if CM i j then pure (.int (i * j)) else M.stuck
  | _, _ => M.stuck
def modD : D → D → M D
  | .int i, .int j => if 0 < j then pure (.int (i % j)) else M.stuck
  | _, _ => M.stuck
def fdivD : D → D → M D
  | .int i, .int j => if CDv i j then pure (.int (i / j)) else M.stuck
  | _, _ => M.stuck
def powD : D → D → M D
  | .int i, .int j => if CPow i j then pure (.int (i ^ j.toNat)) else M.stuck
  | _, _ => M.stuck
def ltD : D → D → M D
  | .int i, .int j => pure (.bl (decide (i < j)))
  | _, _ => M.stuck
def leD : D → D → M D
  | .int i, .int j => pure (.bl (decide (i ≤ j)))
  | _, _ => M.stuck
def gtD : D → D → M D
  | .int i, .int j => pure (.bl (decide (j < i)))
  | _, _ => M.stuck
def geD : D → D → M D
  | .int i, .int j => pure (.bl (decide (j ≤ i)))
  | _, _ => M.stuck
/-- == of plain things -/
def eqS : D → D → Option Bool
  | .int i, .int j => some (decide (i = j))
  | .str i, .str j => some (decide (i = j))
  | .bl i, .bl j => some (decide (i = j))
  | .non, .non => some true
  | .non, .int _ => some false | .int _, .non => some false | .non, .bl _ => some false | .bl _, .non => some false
  | .non, .str _ => some false | .str _, .non => some false
  | .int _, .str _ => some false | .str _, .int _ => some false | .bl _, .str _ => some false | .str _, .bl _ => some false
  | _, _ => none
def eqD (x y : D) : M D := do let b ← M.opt (eqS x y); pure (.bl b)
def neD (x y : D) : M D := do let b ← M.opt (eqS x y); pure (.bl !b)
/-- x is None -/
def isNonD (neg : Bool) : D → D → M D
  | .non, .non => pure (.bl !neg)
  | _, .non => pure (.bl neg)
  | _, _ => M.stuck
def isSign (a : Str) : Option Nat := match a.cps.toList with
  | [c] => some c
  | _ => none
/-- sign in text -/
def inSD (neg : Bool) : D → D → M D
  | .str a, .str z => do let c ← M.opt (isSign a); pure (.bl (opp neg (decide (c ∈ z.cps.toList))))
  | _, _ => M.stuck
section
variable {F : Fr} {m mi : Md} {O : List Nat} {B : Nat → Option Addr} {ρ : List Addr} {σ : L2.St} {H H' : Hp} {δ : DEnv} {S S' : Sto} {v w : V} {d e : D} {Q : VK} {r0 : R2}
theorem o_add (hm : mi = m) (h2 : m ≠ .nw) : OpD F mi m fAdd addD := by
  intro O B ρ σ δ H S x y d e Q r hx hy q
  cases d <;> cases e <;> first | exact (show False from q).elim | skip
  · cases hx.int; cases hy.int
    exact Ok1.scal r (d := .int _) rfl h2 q
  · cases hx.str; cases hy.str
    obtain ⟨c, q⟩ := Ok1.ite q
    exact ⟨c, Ok1.scal r (d := .str _) rfl h2 q⟩
theorem o_int {g : Int → Int → D} {f : D → D → M D} (hf : ∀ i j, f (.int i) (.int j) = pure (g i j)) (hn : ∀ x y S, (∀ i j, ¬ (x = .int i ∧ y = .int j)) → f x y S = none) (hs : ∀ i j, scalD (g i j) = true) (h2 : m ≠ .nw) : OpD F mi m (fI fun i j => scV (g i j)) f := by
  intro O B ρ σ δ H S x y d e Q r hx hy q
  by_cases c : ∃ i j, d = .int i ∧ e = .int j
  · obtain ⟨i, j, rfl, rfl⟩ := c
    cases hx.int; cases hy.int
    rw [hf] at q
    exact Ok1.scal r (hs i j) h2 q
  · rw [hn d e S fun i j z => c ⟨i, j, z⟩] at q
    exact q.elim
theorem o_intc {C : Int → Int → Prop} [∀ i j, Decidable (C i j)] {g : Int → Int → D} {f : D → D → M D} (hf : ∀ i j, f (.int i) (.int j) = if C i j then pure (g i j) else M.stuck) (hn : ∀ x y S, (∀ i j, ¬ (x = .int i ∧ y = .int j)) → f x y S = none) (hs : ∀ i j, scalD (g i j) = true) (h2 : m ≠ .nw) : OpD F mi m (fIc C fun i j => scV (g i j)) f := by
  intro O B ρ σ δ H S x y d e Q r hx hy q
  by_cases c : ∃ i j, d = .int i ∧ e = .int j
  · obtain ⟨i, j, rfl, rfl⟩ := c
    cases hx.int; cases hy.int
    rw [hf] at q
    obtain ⟨c, q⟩ := Ok1.ite q
    exact ⟨c, Ok1.scal r (hs i j) h2 q⟩
  · rw [hn d e S fun i j z => c ⟨i, j, z⟩] at q
    exact q.elim
local macro_rules | `(tactic| walk_at "ni") => `(tactic| (intro x y S h; cases x <;> cases y <;> first | rfl | exact absurd ⟨rfl, rfl⟩ (h _ _)))
theorem o_gt (h2 : m ≠ .nw) : OpD F mi m (fI fun i j => .bl (decide (j < i))) gtD := o_int (g := fun i j => .bl (decide (j < i))) (fun _ _ => rfl) (by walk_at "ni") (fun _ _ => rfl) h2
theorem o_mul (h2 : m ≠ .nw) : OpD F mi m (fIc CM fun i j => .int (i * j)) mulD := o_intc (g := fun i j => .int (i * j)) (fun _ _ => rfl) (by walk_at "ni") (fun _ _ => rfl) h2
theorem o_mod (h2 : m ≠ .nw) : OpD F mi m (fIc (fun _ j => 0 < j) fun i j => .int (i % j)) modD := o_intc (g := fun i j => .int (i % j)) (fun _ _ => rfl) (by walk_at "ni") (fun _ _ => rfl) h2
theorem o_fdiv (h2 : m ≠ .nw) : OpD F mi m (fIc CDv fun i j => .int (i / j)) fdivD := o_intc (g := fun i j => .int (i / j)) (fun _ _ => rfl) (by walk_at "ni") (fun _ _ => rfl) h2
theorem o_pow (h2 : m ≠ .nw) : OpD F mi m (fIc CPow fun i j => .int (i ^ j.toNat)) powD := o_intc (g := fun i j => .int (i ^ j.toNat)) (fun _ _ => rfl) (by walk_at "ni") (fun _ _ => rfl) h2
theorem o_cat (hm : mi = m) (h2 : m ≠ .nw) : OpD F mi m fCat catD := by
  subst hm
  intro O B ρ σ δ H S x y d e Q r hx hy q
  cases d <;> cases e <;> first | exact (show False from q).elim | skip
  obtain ⟨a, vs, rfl, ha, la⟩ := hx.lst
  obtain ⟨b, ws, rfl, hb, lb⟩ := hy.lst
  obtain ⟨c, q⟩ := Ok1.ite q
  refine ⟨vs, ws, ha, hb, by rw [RinL.len la, RinL.len lb]; exact c, fun p H2 np s2 h2' => ?_⟩
  have g : Gr ρ NoZ H ρ H2 := Gr.same s2
  refine (q : ∀ v H' ρ', _) _ H2 ρ (r.same s2) g ?_
  have no : ¬ Zo F B ρ p := fun z => by
    rcases z with (z | z) | z
    · exact r.sta.live p (.inl (.inl z)) (Nw.of np)
    · exact r.sta.live p (.inl (.inr z)) (Nw.of np)
    · exact r.sta.live p (.inr z) (Nw.of np)
  cases mi
  · exact .lst (hid_iff.mpr ⟨fun z => no (zf_zo z), h2'⟩) (RpL.append (RinL.gr (m := .tr) (B := B) la g) (RinL.gr (m := .tr) (B := B) lb g))
  · exact .lst (hid_iff.mpr ⟨no, h2'⟩) (RpL.append (RinL.gr (m := .fz) la g) (RinL.gr (m := .fz) lb g))
  · exact absurd rfl h2
/-- of plain things -/
theorem scal_of {x y : D} {b : Bool} (h : eqS x y = some b) : scalD x = true ∧ scalD y = true ∧ scal (scV x) (scV y) = true ∧ b = decide (scV x = scV y) := by
  cases x <;> cases y <;> first | cases h | skip
  all_goals first
    | exact ⟨rfl, rfl, rfl, by simp [scV]⟩
    | (refine ⟨rfl, rfl, rfl, ?_⟩; simp [scV]; done)
theorem o_eq (h2 : m ≠ .nw) : OpD F mi m rEq eqD := by
  intro O B ρ σ δ H S x y d e Q r hx hy q
  obtain ⟨b, eb, q⟩ := q.bind.opt
  obtain ⟨s1, s2, s3, rfl⟩ := scal_of eb
  cases hx.scal s1; cases hy.scal s2
  exact ⟨s3, Ok1.scal r (d := .bl _) rfl h2 q⟩
end
end Fg
namespace Fg
open PySem PySem.Spec PyProof.Rows L2
variable [TQ]
def startD (n : Nat) (ds : List D) : DEnv := ds.map some ++ List.replicate (n - ds.length) none
/-- a def's body run with values -/
def runD (n : Nat) (b : DEnv → M (DEnv × Fl)) (ds : List D) : M D := do
  let p ← b (startD n ds)
  match p.2 with
  | .nx => pure .non
  | .rt d => pure d
  | _ => M.stuck
/-- the promise of a def that computes f -/
def spD (K : PySem.W.Frag) (ca ce : Str → Option Addr) (n : Nat) (f : List D → M D) : Sp := fun vs H Q E => ∃ (Xs : Addr → Prop) (ρ : List Addr) (ds : List D) (S : Sto), ds.length = n ∧ Sta K ca ρ Xs H S ∧ RpL K ca ρ (hid (fun b => Xs b ∨ b ∈ ρ) H) vs ds ∧
  Ok1 ⟨K, ca, ce, H, Xs, ρ, E, none⟩ (f ds S) fun d S' => ∀ v H' ρ', End ⟨K, ca, ce, H, Xs, ρ, E, none⟩ ρ' H' S' → Rp K ca ρ' (hid (fun b => Xs b ∨ b ∈ ρ') H') v d → Q v H'
theorem spD_len {K : PySem.W.Frag} {ca ce : Str → Option Addr} {n : Nat} {f : List D → M D} {vs : List V} {H : Hp} {Q : VK} {E : XK} (h : spD K ca ce n f vs H Q E) : vs.length = n := by
  obtain ⟨Xs, ρ, ds, S, hl, _, p, _⟩ := h
  rw [RpL.length p, hl]
theorem start_at {α : Type} : ∀ (l : List α) (n i : Nat) (x : α), (l.map some ++ List.replicate n none)[i]? = some (some x) → l[i]? = some x
  | [], n, i, x, h => by
    rw [List.map_nil, List.nil_append, List.getElem?_replicate] at h
    split at h <;> cases h
  | y :: l, n, 0, x, h => by simpa using h
  | y :: l, n, i + 1, x, h => start_at l n i x (by simpa using h)
theorem start_in {α : Type} : ∀ (l : List α) (n i : Nat) (x : α), l[i]? = some x → (l.map some ++ List.replicate n none)[i]? = some (some x)
  | [], n, i, x, h => by simp at h
  | y :: l, n, 0, x, h => by simpa using h
  | y :: l, n, i + 1, x, h => by simpa using start_in l n i x (by simpa using h)
/-- a body, at its entry -/
theorem body_of {F : Fr} {N : List Str} {vs : List V} {ds : List D} {b : DEnv → M (DEnv × Fl)} {O' : List Nat} {Dn : Ends} {S : Sto} {n : Nat} (hn : N.length = n) (st : Sta F.K F.ca F.R0 F.Xs F.H0 S) (p : RpL F.K F.ca F.R0 (hid (fun b => F.Xs b ∨ b ∈ F.R0) F.H0) vs ds)
    (q : Ok1 F (runD n b ds S) fun d S' => ∀ v H' ρ', End F ρ' H' S' → Rp F.K F.ca ρ' (hid (fun b => F.Xs b ∨ b ∈ ρ') H') v d → Dn.rt v H') (hnx : ∀ σ H, Dn.rt .non H → Dn.nx σ H) : dS F [] O' [] b Dn (L2.start N vs) F.H0 := by
  refine ⟨fun _ => none, F.R0, startD n ds, S, ⟨Gr.refl _ _ _, st.wk fun b h => h.elim id fun ⟨_, z⟩ => (by cases z), fun b ⟨_, z⟩ => (by cases z), fun b ⟨_, z⟩ => (by cases z), fun i j b z => (by cases z), fun i => ⟨fun ⟨_, z⟩ => (by cases z), fun z => (by cases z)⟩, fun i a z => (by cases z), fun _ _ => .inr rfl, ?_, fun i d e => ?_⟩, ?_⟩
  · unfold L2.start startD
    rw [List.length_append, List.length_append, List.length_map, List.length_map, List.length_replicate, List.length_replicate, RpL.length p, hn]
  · have e' := start_at ds _ i d e
    obtain ⟨v, hv, hr⟩ := RpL.get p e'
    refine ⟨v, start_in vs _ i v hv, hr.mono (fun _ _ e => e) fun b o e _ => ?_⟩
    obtain ⟨no, e⟩ := hid_iff.mp e
    exact hid_iff.mpr ⟨fun z => no (z.elim (fun z => z.elim .inl fun ⟨_, z⟩ => (by cases z)) .inr), e⟩
  · refine (Ok1.bind q).imp fun p S' k => ?_
    obtain ⟨δ', fl⟩ := p
    cases fl with
    | nx => exact fun σ' H' B' ρ' r' g n => hnx _ _ ((k : ∀ v H' ρ', _) .non H' ρ' r'.end .non)
    | rt d => exact k
    | bk => exact (show False from k).elim
    | ct => exact (show False from k).elim
section
variable {P : Program} {w : World} {K : PySem.W.Frag} {mg : Str → Option Value} {base : Heap} {ca ce : Str → Option Addr}
/-- a def that computes what its body's term says -/
theorem calleeD_of {x : Str} {st : Stmt} {N ps : List Str} {k n m : Nat} {b : DEnv → M (DEnv × Fl)} (F : FunAt K mg x st) (S : FnScope N ps (defScope st)) (hn : N.length = n := by rfl) (hm : ps.length = m := by rfl)
    (hb : ∀ (kV doc pm : Value) (an : Option Addr) (cdv ct : Value) (us : List Value), us.length = ps.length → bindArgs (PySem.W.fnOf x x (defArgs st) (defBody st) (defScope st) .none kV doc pm an cdv ct) ⟨us, []⟩ = pure (ps.zip us))
    (hbody : ∀ (f : Addr) (cdv : Value) (A : Around) (outer : List Env) (s : Shared) (H : Hp) (Xs : Addr → Prop) (ρ : List Addr) (E : XK), Room k (cxOf (L2.CX P w) P w K mg base N x (defScope st) f cdv A outer s H E).A →
      Takes (cxOf (L2.CX P w) P w K mg base N x (defScope st) f cdv A outer s H E) (fun cls d _ H => E cls d H) →
      PassesOwn (model P w) (cxOf (L2.CX P w) P w K mg base N x (defScope st) f cdv A outer s H E).A (cxOf (L2.CX P w) P w K mg base N x (defScope st) f cdv A outer s H E).env (cxOf (L2.CX P w) P w K mg base N x (defScope st) f cdv A outer s H E).xe →
      PSsD (cxOf (L2.CX P w) P w K mg base N x (defScope st) f cdv A outer s H E) ⟨K, ca, ce, H, Xs, ρ, E, none⟩ [] [] [] (defBody st) b) :
    Callee P w K mg base (k + 1) x ps (spD K ca ce m (runD n b)) := by
  refine callee_of F S hb (fun vs H Q E h => by rw [spD_len h, hm]) fun f cdv A outer s H vs Q E hr tk po h => ?_
  obtain ⟨Xs, ρ, ds, S0, hl, st0, p, q⟩ := h
  exact ⟨_, hbody f cdv A outer s H Xs ρ E hr tk po, body_of (F := ⟨K, ca, ce, H, Xs, ρ, E, none⟩) hn st0 p q fun _ _ h => h⟩
end
section
variable {X : Cx} {F : Fr} {O O' O1 O2 OL : List Nat} {m mi : Md} {pos pos2 p tpos : Pos} {a b c e e2 tg o : Expr} {rest es elts : List Expr} {i j k kk n : Nat} {x f : Str} {ps : List Str}
/-- a def's promise at a point of its caller -/
theorem spD_at {f : List D → M D} {B : Nat → Option Addr} {ρ : List Addr} {σ : L2.St} {H1 : Hp} {δ : DEnv} {S1 : Sto} {vs : List V} {ds : List D} {Q : VK} (r : Rel F O B ρ σ H1 δ S1) (z : RinL F .fz B ρ H1 vs ds)
    (q : Ok1 F (if ds.length = n then f ds S1 else none) fun d S' => ∀ v H' ρ', Rel F O B ρ' σ H' δ S' → Gr ρ NoZ H1 ρ' H' → Res F .fz B ρ' H1 H' S' v d → Q v H') : spD F.K F.ca F.ce n f vs H1 Q F.W := by
  split at q
  · rename_i hl
    refine ⟨fun b => F.Xs b ∨ Own B b, ρ, ds, S1, hl, r.sta, z, ?_⟩
    unfold Ok1 at q ⊢
    cases e : f ds S1 with
    | none => rw [e] at q; exact q
    | some p =>
      rw [e] at q
      obtain ⟨res, S'⟩ := p
      cases res with
      | error ex =>
        intro cls dd H' ρ' en er
        refine q cls dd H' ρ' ⟨r.gr.tr en.gr, en.sta.wk fun b h => .inl h⟩ ?_
        obtain ⟨C, h1, h2, h3⟩ := er
        exact ⟨C, h1, h2, h3.imp id fun ⟨nf, x, vs, h3, h4, h5⟩ => ⟨nf, x, vs, h3, h4, RpF.mono (fun _ _ e => e) (fun b o e _ => by
          obtain ⟨no, e⟩ := hid_iff.mp e
          exact hid_iff.mpr ⟨fun z => no (z.imp .inl id), e⟩) h5⟩⟩
      | ok d =>
        intro v H' ρ' en hr
        exact q v H' ρ' (r.step en.gr en.sta) en.gr hr
  · exact (show False from q).elim
def callD (n : Nat) (f : List D → M D) (t : DEnv → M (List D)) : DEnv → M D := fun δ => do let ds ← t δ; if ds.length = n then f ds else M.stuck
theorem ite_at {α : Type} {p : Prop} [Decidable p] {x : M α} {S : Sto} : (if p then x else M.stuck) S = if p then x S else none := by split <;> rfl
theorem pd_call {f : List D → M D} {t : DEnv → M (List D)} (c : Callee X.prog X.w X.K X.mg X.base k x ps (spD F.K F.ca F.ce n f)) (hr : Room j X.A) (hk : k ≤ j) (hg : Gl X x) (tk : Takes X fun cls d _ H => F.W cls d H) (ha : PAD X F O .fz (e :: es) t) (hdb : (x == ("__debug__" : Str)) = false := by decide) (he : starEach (e :: es) X.env = (false, eval e X.env) :: starEach es X.env := by rfl)
    (hpl : (backTo pos (starEach es X.env)).any (·.1) = false := by rfl) : PED X F O .fz (.Call (.Name x p) (e :: es) [] pos) (callD n f t) := pe_imp (fc_call c hr hk hg tk ha hdb he hpl) fun σ H Q ⟨B, ρ, δ, S, r, q⟩ => ⟨B, ρ, δ, S, r, q.bind.imp fun ds S' q vs H' ρ' r' g z => by
  rw [ite_at] at q
  exact spD_at r' z (q.imp fun d S2 k v H2 ρ2 r2 g2 z2 => k v H2 ρ2 r2 (g.tr g2) z2)⟩
def raiseS (c f : Str) (t : DEnv → M D) : DEnv → M (DEnv × Fl) := fun δ => do let d ← t δ; M.raise ⟨c, [(f, d)]⟩
end
end Fg
namespace Fg
open PySem PySem.Spec PyProof.Rows L2
variable [TQ]
def CallD (F : Fr) (mi m : Md) (r : List V → Hp → VK → Prop) (f : List D → M D) : Prop := ∀ O B ρ σ δ H S vs ds Q, Rel F O B ρ σ H δ S → RinL F mi B ρ H vs ds →
  Ok1 F (f ds S) (fun d' S' => ∀ v H' ρ', Rel F O B ρ' σ H' δ S' → Gr ρ NoZ H ρ' H' → Res F m B ρ' H H' S' v d' → Q v H') → r vs H Q
def lenD : List D → M D
  | [.str z] => if z.length ≤ sizeLine then pure (.int z.length) else M.stuck
  | [.lst ds] => pure (.int ds.length)
  | [.tup ds] => pure (.int ds.length)
  | _ => M.stuck
def intD : List D → M D
  | [.int i] => pure (.int i)
  | [.bl k] => pure (.int (if k then 1 else 0))
  | _ => M.stuck
def blsD : List D → Option (List Bool)
  | [] => some []
  | .bl b :: r => (blsD r).map (b :: ·)
  | _ :: _ => none
def allD : List D → M D
  | [.lst ds] => do let bs ← M.opt (blsD ds); pure (.bl (bs.all id))
  | _ => M.stuck
def tupleD : List D → M D
  | [.lst ds] => pure (.tup ds)
  | _ => M.stuck
section
variable {X : Cx} {F : Fr} {O O' O1 O2 OL : List Nat} {m mi : Md} {pos pos' p tpos : Pos} {a b c e e2 tg o : Expr} {rest es elts : List Expr} {i j k kk n : Nat} {x f : Str} {ps : List Str}
theorem pd_callB {id : String} {r : List V → Hp → VK → Prop} {g : List D → M D} {t : DEnv → M (List D)} (hc : CallR X (.builtin id) r) (hf : CallD F mi m r g) (hg : Gl X x) (hm : X.mg x = none) (hv : bootBuiltins x = some (.builtin id)) (ha : PAD X F O mi (e :: es) t) (hn : x ≠ "__name__" := by decide) (hdb : (x == ("__debug__" : Str)) = false := by decide)
    (he : starEach (e :: es) X.env = (false, eval e X.env) :: starEach es X.env := by rfl) (hpl : (backTo pos (starEach es X.env)).any (·.1) = false := by rfl) : PED X F O m (.Call (.Name x p) (e :: es) [] pos) (fun δ => do let ds ← t δ; g ds) :=
  pe_imp (pe_callB hc hg hm hv ha hn hdb he hpl) fun σ H Q ⟨B, ρ, δ, S, r0, q⟩ => ⟨B, ρ, δ, S, r0, q.bind.imp fun ds S' q vs H' ρ' r' g z => hf O B ρ' σ δ H' S' vs ds Q r' z (q.imp fun d S2 k v H2 ρ2 r2 g2 z2 => k v H2 ρ2 r2 (g.tr g2) (Res.gr2 g z2))⟩
theorem pd_callTy {T : String} {r : List V → Hp → VK → Prop} {g : List D → M D} {t : DEnv → M (List D)} (hc : CallR X (.type T) r) (hf : CallD F mi m r g) (hg : Gl X x) (hm : X.mg x = none) (hv : bootBuiltins x = some (.type T)) (ha : PAD X F O mi (e :: es) t) (hn : x ≠ "__name__" := by decide) (hdb : (x == ("__debug__" : Str)) = false := by decide)
    (he : starEach (e :: es) X.env = (false, eval e X.env) :: starEach es X.env := by rfl) (hpl : (backTo pos (starEach es X.env)).any (·.1) = false := by rfl) : PED X F O m (.Call (.Name x p) (e :: es) [] pos) (fun δ => do let ds ← t δ; g ds) :=
  pe_imp (pe_callTy hc hg hm hv ha hn hdb he hpl) fun σ H Q ⟨B, ρ, δ, S, r0, q⟩ => ⟨B, ρ, δ, S, r0, q.bind.imp fun ds S' q vs H' ρ' r' g z => hf O B ρ' σ δ H' S' vs ds Q r' z (q.imp fun d S2 k v H2 ρ2 r2 g2 z2 => k v H2 ρ2 r2 (g.tr g2) (Res.gr2 g z2))⟩
end
section
variable {K : PySem.W.Frag} {F : Fr} {m mi : Md} {B : Nat → Option Addr} {ρ : List Addr} {H : Hp}
theorem RinL.one {vs : List V} {d : D} (h : RinL F mi B ρ H vs [d]) : ∃ v, vs = [v] ∧ Rin F mi B ρ H v d := by
  obtain ⟨v, hv, hr⟩ := h.get (i := 0) rfl
  have hl := h.len
  match vs, hl, hv with
  | [w], _, hv => cases hv; exact ⟨_, rfl, hr⟩
theorem c_len (hK : F.K = K) (h2 : m ≠ .nw) : CallD F mi m (fLen K) lenD := by
  intro O B ρ σ δ H S vs ds Q r z q
  subst hK
  unfold lenD at q
  split at q
  · obtain ⟨v, rfl, y⟩ := z.one
    cases y.str
    obtain ⟨c, q⟩ := Ok1.ite q
    exact ⟨c, Ok1.scal r (d := .int _) rfl h2 q⟩
  · obtain ⟨v, rfl, y⟩ := z.one
    obtain ⟨a, ws, rfl, ha, la⟩ := y.lst
    refine ⟨ws, .inl (SqL.of ha), ?_⟩
    rw [RinL.len la]
    exact Ok1.scal r (d := .int _) rfl h2 q
  · obtain ⟨v, rfl, y⟩ := z.one
    obtain ⟨a, ws, rfl, ha, la⟩ := y.tup
    refine ⟨ws, .inr ha, ?_⟩
    rw [RinL.len la]
    exact Ok1.scal r (d := .int _) rfl h2 q
  · exact q.stuck.elim
theorem c_int (h2 : m ≠ .nw) : CallD F mi m fInt intD := by
  intro O B ρ σ δ H S vs ds Q r z q
  unfold intD at q
  split at q
  · obtain ⟨v, rfl, y⟩ := z.one
    cases y.int
    exact Ok1.scal r (d := .int _) rfl h2 q
  · obtain ⟨v, rfl, y⟩ := z.one
    cases y.bl
    exact Ok1.scal r (d := .int _) rfl h2 q
  · exact q.stuck.elim
theorem bls_rp {ca : Str → Option Addr} {G : Hp} : ∀ {ds : List D} {vs : List V} {bs : List Bool}, RpL K ca ρ G vs ds → blsD ds = some bs → vs = bs.map V.bl
  | [], _, _, .nil, e => by cases e; rfl
  | d :: ds, _, bs, .cons h t, e => by
    cases d <;> first | cases e | skip
    rename_i b
    cases h
    have e : (blsD ds).map (b :: ·) = some bs := e
    cases eb : blsD ds with
    | none => rw [eb] at e; cases e
    | some cs =>
      rw [eb] at e
      cases e
      rw [bls_rp t eb]
      rfl
theorem c_all (hK : F.K = K) (h2 : m ≠ .nw) : CallD F mi m (fAll K fun bs => bs.all id) allD := by
  intro O B ρ σ δ H S vs ds Q r z q
  subst hK
  unfold allD at q
  split at q
  · obtain ⟨v, rfl, y⟩ := z.one
    obtain ⟨a, ws, rfl, ha, la⟩ := y.lst
    obtain ⟨bs, eb, q⟩ := q.bind.opt
    obtain ⟨G, _, la⟩ := la.out
    exact ⟨ws, bs, SqL.of ha, bls_rp la eb, Ok1.scal r (d := .bl _) rfl h2 q⟩
  · exact q.stuck.elim
theorem no_new {O : List Nat} {σ : L2.St} {δ : DEnv} {S : Sto} {p : Addr} (r : Rel F O B ρ σ H δ S) (np : H p = none) : ¬ Zo F B ρ p := fun z => by
  rcases z with (z | z) | z
  · exact r.sta.live p (.inl (.inl z)) (Nw.of np)
  · exact r.sta.live p (.inl (.inr z)) (Nw.of np)
  · exact r.sta.live p (.inr z) (Nw.of np)
theorem lst_new {O : List Nat} {σ : L2.St} {δ : DEnv} {S S' : Sto} {p : Addr} {H2 H0 : Hp} {ws : List V} {ds : List D} (r : Rel F O B ρ σ H δ S) (np : H p = none) (s2 : Same H H2) (h2 : H2 p = some (.lst ws)) (hm : m ≠ .nw) (la : RinL F m B ρ H ws ds) : Res F m B ρ H0 H2 S' (.ref p) (.lst ds) := by
  have no := no_new r np
  have z2 := RinL.gr la (Gr.same s2)
  cases m
  · exact .lst (hid_iff.mpr ⟨fun z => no (zf_zo z), h2⟩) z2
  · exact .lst (hid_iff.mpr ⟨no, h2⟩) z2
  · exact absurd rfl hm
end
def ixD : D → D → M D
  | .str z, .int i => if z.length ≤ sizeLine then (do let c ← M.opt (atI z.cps.toList i); pure (.str ⟨#[c]⟩)) else M.stuck
  | .lst ds, .int i => M.opt (atI ds i)
  | .tup ds, .int i => M.opt (atI ds i)
  | _, _ => M.stuck
theorem RinL.atI {F : Fr} {m : Md} {B : Nat → Option Addr} {ρ : List Addr} {H : Hp} {vs : List V} {ds : List D} {d : D} {i : Int} (h : RinL F m B ρ H vs ds) (e : L2.atI ds i = some d) : ∃ v, L2.atI vs i = some v ∧ Rin F m B ρ H v d := by
  unfold L2.atI at e ⊢
  rw [h.len]
  cases ej : ixN ds.length i with
  | none => rw [ej] at e; cases e
  | some j => rw [ej] at e; exact h.get e
section
variable {X : Cx} {F : Fr} {O O' O1 O2 OL : List Nat} {m mi : Md} {pos pos' p tpos : Pos} {a b c e e2 tg o : Expr} {K : PySem.W.Frag}
theorem o_ix (hK : F.K = K) (h2 : m ≠ .nw) : OpD F m m (fIx K) ixD := by
  intro O B ρ σ δ H S x y d e Q r hx hy q
  subst hK
  unfold ixD at q
  split at q
  · obtain ⟨c, q⟩ := Ok1.ite q
    obtain ⟨ch, ec, q⟩ := q.bind.opt
    cases hx.str; cases hy.int
    exact ⟨c, ch, ec, Ok1.scal r (d := .str _) rfl h2 q⟩
  · obtain ⟨d, ed, q⟩ := q.opt
    obtain ⟨a, ws, rfl, ha, la⟩ := hx.lst
    cases hy.int
    obtain ⟨v, hv, hr⟩ := la.atI ed
    refine ⟨ws, v, .inl (SqL.of ha), hv, q v H ρ r (Gr.refl _ _ _) ?_⟩
    cases m
    · exact hr
    · exact hr
    · exact absurd rfl h2
  · obtain ⟨d, ed, q⟩ := q.opt
    obtain ⟨a, ws, rfl, ha, la⟩ := hx.tup
    cases hy.int
    obtain ⟨v, hv, hr⟩ := la.atI ed
    refine ⟨ws, v, .inr ha, hv, q v H ρ r (Gr.refl _ _ _) ?_⟩
    cases m
    · exact hr
    · exact hr
    · exact absurd rfl h2
  · exact q.stuck.elim
theorem pd_ix {r : R2} {f : D → D → M D} {ta tb : DEnv → M D} (hr : IxR X r) (hf : OpD F mi m r f) (ha : PED X F O mi a ta) (hb : PED X F O mi b tb) (hs : PlainIx b) (hi : mi ≠ .nw := by decide) : PED X F O m (.Subscript a b pos) (fun δ => do let x ← ta δ; let y ← tb δ; f x y) :=
  pe_imp (pe_ix hr ha hb hs) fun σ H Q q => bin_imp hf hi q
def fldD (c f : Str) : D → M D
  | .obj c' fs => if c' = c then M.opt (fs.lookup f) else M.stuck
  | _ => M.stuck
end
end Fg
namespace Fg
open PySem PySem.Spec PyProof.Rows L2
variable [TQ]
/-- the text's classes -/
structure ClF (K : PySem.W.Frag) (ca : Str → Option Addr) : Prop where
  cl : ∀ c C, ca c = some C → Cls K C
  ins : ∀ c C, ca c = some C → (PySem.W.findIn K (.ref C) "__class__" = some (some (.builtin "object.__class__"))) ∧ (PySem.W.specialIn K (.builtin "object.__class__") "__get__" = some (some (.builtin "getset_descriptor.__get__"))) ∧ (PySem.W.takesIn K (.builtin "object.__class__") = some true) ∧ PySem.W.mroIn K C (.type "object") = some true
  ty : ∀ c C n, ca c = some C → n ∈ ["int", "str", "tuple", "bool", "list", "dict"] → PySem.W.kitOne K (.ref C) (.type n) = some false
  own : ∀ c C c' C', ca c = some C → ca c' = some C' → PySem.W.kitOne K (.ref C) (.ref C') = some (decide (c = c'))
def isCD (c : Str) : D → M D
  | .obj c' _ => pure (.bl (decide (c' = c)))
  | .mt _ => M.stuck
  | .kd _ => M.stuck
  | .fd _ => M.stuck
  | .exc _ _ => M.stuck
  | _ => pure (.bl false)
section
variable {X : Cx} {F : Fr} {O O' O1 O2 OL : List Nat} {m mi : Md} {pos pos' p tpos : Pos} {a b c e e2 tg o elt iter : Expr} {rest es elts ifs : List Expr} {i j k kk : Nat} {x f : Str} {ps : List Str} {K : PySem.W.Frag}
def chainD (f g : D → D → M D) (ta tb tc : DEnv → M D) : DEnv → M D := fun δ => do
  let x ← ta δ
  let y ← tb δ
  let r ← f x y
  let b ← tbD r
  if b = true then (do let z ← tc δ; g y z) else pure (.bl false)
end
end Fg
namespace Fg
open PySem PySem.Spec PyProof.Rows L2
variable [TQ]
def noErr {α : Type} (m : M α) : M α := fun S => match m S with
  | some (.error _, _) => none
  | r => r
@[simp] theorem noErr_pure {α : Type} (a : α) : noErr (pure a : M α) = pure a := rfl
def wipeD (δ : DEnv) : List Nat → DEnv
  | [] => δ
  | v :: vs => (wipeD δ vs).set v none
def compL (g : D → DEnv → M DEnv) (t : DEnv → M Bool) (e : DEnv → M D) (δ : DEnv) : List D → List D → M (List D)
  | acc, [] => pure acc
  | acc, x :: r => do
    let δ1 ← noErr (g x δ)
    let b ← noErr (t δ1)
    if b = true then do
      let y ← noErr (e δ1)
      if acc.length < sizeLine then compL g t e δ (acc ++ [y]) r else M.stuck
    else compL g t e δ acc r
def lcD (vs : List Nat) (it : DEnv → M (List D)) (g : D → DEnv → M DEnv) (t : DEnv → M Bool) (e : DEnv → M D) : DEnv → M D := fun δ => do
  let xs ← it δ
  let ys ← compL g t e (wipeD δ vs) [] xs
  pure (.lst ys)
/-- the frame within a comprehension whose list stands at D -/
def Fr.blk (F : Fr) (D : Addr) : Fr := ⟨F.K, F.ca, F.ce, F.H0, fun b => F.Xs b ∨ b = D, F.R0, fun _ _ _ => False, F.own0⟩
theorem Ok1.noErr {α : Type} {F F' : Fr} {x : M α} {S : Sto} {P : α → Sto → Prop} (h : Ok1 F (Fg.noErr x S) P) : Ok1 F' (x S) P := by
  unfold Ok1 Fg.noErr at *
  cases e : x S with
  | none => rw [e] at h; exact h
  | some p =>
    rw [e] at h
    obtain ⟨r, S'⟩ := p
    cases r with
    | error _ => exact h.elim
    | ok a => exact h
section
variable {F : Fr} {O : List Nat} {B : Nat → Option Addr} {ρ ρ' : List Addr} {σ : L2.St} {H H' : Hp} {δ : DEnv} {S S' : Sto}
theorem Rel.wipe (r : Rel F O B ρ σ H δ S) : ∀ (vs : List Nat), (∀ v ∈ vs, v ∉ O) → Rel F O B ρ (wipe σ vs) H (wipeD δ vs) S
  | [], _ => r
  | v :: vs, h => by
    have r1 := Rel.wipe r vs fun w hw => h w (List.mem_cons_of_mem _ hw)
    have hv := h v (List.mem_cons_self ..)
    have bv := r1.notO hv
    refine ⟨r1.gr, r1.sta, r1.bnew, r1.oxs, r1.binj, r1.own, fun j a e => ?_, r1.zero, by show ((Fg.wipeD δ vs).set v none |> fun _ => ((L2.wipe σ vs).set v none).length = ((wipeD δ vs).set v none).length); rw [List.length_set, List.length_set]; exact r1.len, fun j d e => ?_⟩
    · obtain ⟨x, hx⟩ := r1.ownd j a e
      exact ⟨x, by show ((wipeD δ vs).set v none)[j]? = _; rw [List.getElem?_set_ne (fun z => by subst z; rw [bv] at e; cases e)]; exact hx⟩
    · have e : ((wipeD δ vs).set v none)[j]? = some (some d) := e
      by_cases z : v = j
      · subst z
        rw [List.getElem?_set] at e
        simp at e
      · rw [List.getElem?_set_ne z] at e
        have q := r1.slot j d e
        unfold SlAt at q ⊢
        cases eb : B j with
        | none =>
          rw [eb] at q
          obtain ⟨w, h1, h2⟩ := q
          exact ⟨w, by show ((L2.wipe σ vs).set v none)[j]? = _; rw [List.getElem?_set_ne z]; exact h1, h2⟩
        | some a =>
          rw [eb] at q
          exact ⟨by show ((L2.wipe σ vs).set v none)[j]? = _; rw [List.getElem?_set_ne z]; exact q.1, q.2⟩
theorem zo_blk {D b : Addr} : Zo (F.blk D) B ρ b ↔ (Zo F B ρ b ∨ b = D) := by
  unfold Zo Fr.blk
  constructor
  · rintro (((h | h) | h) | h)
    · exact .inl (.inl (.inl h))
    · exact .inr h
    · exact .inl (.inl (.inr h))
    · exact .inl (.inr h)
  · rintro (((h | h) | h) | h)
    · exact .inl (.inl (.inl h))
    · exact .inl (.inr h)
    · exact .inr h
    · exact .inl (.inl (.inr h))
theorem zo_blkE {D : Addr} : Zo (F.blk D) B ρ = fun b => Zo F B ρ b ∨ b = D := funext fun _ => propext zo_blk
theorem xs_blkE {D : Addr} : (fun b => (F.blk D).Xs b ∨ Own B b) = fun b => (F.Xs b ∨ Own B b) ∨ b = D := funext fun b => propext (by
  show ((F.Xs b ∨ b = D) ∨ Own B b) ↔ _
  rw [or_assoc, or_assoc, or_comm (a := b = D)])
/-- the list is laid -/
theorem Rel.enter {D : Addr} (r : Rel F O B ρ σ H δ S) (s : Same H H') (n : H D = none) (n' : ¬ Nw H' D) : Rel (F.blk D) O B ρ σ H' δ S := by
  have g : Gr ρ NoZ H ρ H' := Gr.same s
  have nb : ¬ Own B D := fun z => r.sta.live D (.inl (.inr z)) (Nw.of n)
  have r' := r.same s
  refine ⟨r'.gr, by rw [xs_blkE]; exact r.sta.new s n n', r'.bnew, fun b h z => z.elim (r.oxs b h) fun z => nb (z ▸ h), r'.binj, r'.own, r'.ownd, r'.zero, r'.len, fun i d e => ?_⟩
  have q := r.slot i d e
  have see : LamX.ExtN (hid (Zo F B ρ) H) (hid (Zo (F.blk D) B ρ) H') := by
    rw [zo_blkE]
    exact seesN s n
  unfold SlAt at q ⊢
  cases eb : B i with
  | none =>
    rw [eb] at q
    obtain ⟨v, h1, h2⟩ := q
    exact ⟨v, h1, h2.mono (fun _ _ e => e) see⟩
  | some a =>
    rw [eb] at q
    exact ⟨q.1, q.2.mono (fun _ _ e => e) see fun o _ e => s a o e⟩
/-- what is hidden has changed -/
theorem Rel.under {D : Addr} {o o' : HO} (r : Rel F O B ρ σ H δ S) (hx : F.Xs D) (h0 : Nw F.H0 D) (b : But D H H') (h : H D = some o) (h' : H' D = some o') (n1 : ∀ ps, o ≠ .tbl ps) (n2 : ∀ φ, o ≠ .ext φ) (n1' : ∀ ps, o' ≠ .tbl ps := by intro _ z; cases z) : Rel F O B ρ σ H' δ S ∧ Gr ρ (fun c => c = D) H ρ H' := by
  have g : Gr ρ (fun c => c = D) H ρ H' := Gr.but b h h' (.inl rfl) n1 n2 n1'
  have see : LamX.ExtN (hid (Zo F B ρ) H) (hid (Zo F B ρ) H') := g.sees (Z := fun b => F.Xs b ∨ Own B b) (fun c z => .inl (.inl (z ▸ hx))) fun b h => .inl h
  have nr : D ∉ ρ := fun z => r.sta.xr D z (.inl hx)
  refine ⟨⟨r.gr.trans g fun c z => .inr (z ▸ h0), ⟨fun c z => g.alive c (r.sta.live c z), r.sta.nd, r.sta.xr, SrL.mono (fun _ _ e => e) see (fun c hc u _ e => b c u (fun z => nr (z ▸ hc)) e) r.sta.sto⟩, r.bnew, r.oxs, r.binj, r.own, r.ownd, r.zero, r.len, fun i d e => ?_⟩, g⟩
  have q := r.slot i d e
  unfold SlAt at q ⊢
  cases eb : B i with
  | none =>
    rw [eb] at q
    obtain ⟨v, h1, h2⟩ := q
    exact ⟨v, h1, h2.mono (fun _ _ e => e) see⟩
  | some a =>
    rw [eb] at q
    exact ⟨q.1, q.2.mono (fun _ _ e => e) see fun u _ e => b a u (fun z => r.oxs a ⟨i, eb⟩ (z ▸ hx)) e⟩
end
theorem wipe_get (σ : L2.St) (j : Nat) : ∀ vs : List Nat, (L2.wipe σ vs)[j]? = if j ∈ vs then (if j < σ.length then some none else none) else σ[j]?
  | [] => by simp [L2.wipe]
  | v :: vs => by
    show ((L2.wipe σ vs).set v none)[j]? = _
    rw [List.getElem?_set, wipe_get σ j vs, wipe_length]
    by_cases c : v = j
    · subst c
      simp
    · rw [if_neg c]
      have c2 : ¬ j = v := fun z => c z.symm
      simp [c2]
theorem wipe_set {σ : L2.St} {i : Nat} {x : Option V} {vs : List Nat} (h : i ∈ vs) : L2.wipe (σ.set i x) vs = L2.wipe σ vs := by
  refine List.ext_getElem? fun j => ?_
  rw [wipe_get, wipe_get, List.length_set]
  by_cases c : j ∈ vs
  · rw [if_pos c, if_pos c]
  · rw [if_neg c, if_neg c, List.getElem?_set_ne (fun z : i = j => c (by rw [← z]; exact h))]
theorem wipe_wipe {σ : L2.St} {vs : List Nat} : L2.wipe (L2.wipe σ vs) vs = L2.wipe σ vs := by
  refine List.ext_getElem? fun j => ?_
  rw [wipe_get (L2.wipe σ vs), wipe_length]
  by_cases c : j ∈ vs
  · rw [if_pos c, wipe_get, if_pos c]
  · rw [if_neg c]
/-- a target within a comprehension -/
def dGC (F : Fr) (O : List Nat) (vs : List Nat) (t : D → DEnv → M DEnv) : TG := fun v σ H R => ∃ B ρ δ S d, Rel F O B ρ σ H δ S ∧ Rin F .fz B ρ H v d ∧
  Ok1 F (t d δ S) fun δ' S' => ∀ σ' H' ρ', Rel F O B ρ' σ' H' δ' S' → Gr ρ NoZ H ρ' H' → L2.wipe σ' vs = L2.wipe σ vs → R σ' H'
section
variable {X : Cx} {F : Fr} {O : List Nat} {vs : List Nat} {e : Expr} {es : List Expr} {pos : Pos}
theorem pgc_name {x : Str} (i : Nat) (hN : X.N.Nodup) (hi : X.N[i]? = some x := by rfl) (hx : Loc X.env.scope x := by first | exact Or.inl rfl | exact Or.inr rfl) (ho : i ∉ O := by decide) (hv : i ∈ vs := by decide) (hf : X.fn x = true ∨ X.env.scope.names.lookup x = some .local := by first | exact .inl rfl | exact .inr rfl | assumption) :
    PG X (.Name x pos) (dGC F O vs (tgN i)) := pg_imp (pg_name hN hi hx hf) fun v σ H Q ⟨B, ρ, δ, S, d, r, z, q⟩ => (q : ∀ σ' H' ρ', _) _ H ρ (r.set ho z) (Gr.refl _ _ _) (wipe_set hv)
end
/-- readings that hang on where the list stands -/
def exG (t : Addr → TG) : TG := fun v σ H R => ∃ D, t D v σ H R
def exT (t : Addr → TT) : TT := fun σ H R => ∃ D, t D σ H R
def exE (t : Addr → TE) : TE := fun σ H R => ∃ D, t D σ H R
theorem pg_ex {X : Cx} {e : Expr} {t : Addr → TG} (h : ∀ D, PG X e (t D)) : PG X e (exG t) := ⟨fun pins s σ H v u Q I r ⟨D, q⟩ => (h D).run pins s σ H v u Q I r q⟩
theorem pe_ex {X : Cx} {e : Expr} {t : Addr → TE} (h : ∀ D, PE X e (t D)) : PE X e (exE t) := ⟨fun pins s σ H Q I ⟨D, q⟩ => (h D).run pins s σ H Q I q⟩
theorem pts_ex {X : Cx} {e : List Expr} {t : Addr → TT} (h : ∀ D, PTs X e (t D)) : PTs X e (exT t) := ⟨fun pins s σ H Q I ⟨D, q⟩ => (h D).run pins s σ H Q I q⟩
def yesM : DEnv → M Bool := fun _ => pure true
theorem ptsd_nil {X : Cx} {F : Fr} {O : List Nat} : PTs X [] (dT F O yesM) := ⟨fun pins s σ H Q I ⟨B, ρ, δ, S, r, q⟩ => pts_nil.run pins s σ H Q I ((q : ∀ H' ρ', _) H ρ r (Gr.refl _ _ _))⟩
section
variable {F : Fr} {O : List Nat} {g : D → DEnv → M DEnv} {t : DEnv → M Bool} {el : DEnv → M D} {st : Hp → Prop} {vs : List Nat} {σ : L2.St} {Da : Addr} {Q : Hp → Prop} {Hs : Hp} {ρs : List Addr} {B : Nat → Option Addr} {δ : DEnv}
/-- the items of a comprehension -/
theorem comp_of (hn : Nw Hs Da) (h0 : Nw F.H0 Da) (hst : ∀ H1 ρ1, Gr ρs NoZ Hs ρ1 H1 → st H1) :
    ∀ (ds : List D) (xs : List V) (acc : List D) (ys : List V) (ρ1 : List Addr) (H1 : Hp) (S1 : Sto), Rel (F.blk Da) O B ρ1 (L2.wipe σ vs) H1 (wipeD δ vs) S1 → Gr ρs NoZ Hs ρ1 H1 → H1 Da = some (.lst ys) → RinL (F.blk Da) .fz B ρ1 H1 ys acc → RinL (F.blk Da) .fz B ρ1 H1 xs ds →
    Ok1 F (compL g t el (wipeD δ vs) acc ds S1) (fun r S' => ∀ H' ρ' zs, Rel (F.blk Da) O B ρ' (L2.wipe σ vs) H' (wipeD δ vs) S' → Gr ρs NoZ Hs ρ' H' → H' Da = some (.lst zs) → RinL (F.blk Da) .fz B ρ' H' zs r → Q H') →
    Comp st (exG fun D => dGC (F.blk D) O vs g) (exT fun D => dT (F.blk D) O t) (exE fun D => dE (F.blk D) O .fz el) vs σ Da Q xs H1
  | [], xs, acc, ys, ρ1, H1, S1, r1, g1, hD, la, lx, q => by
    have z : RpL F.K F.ca ρ1 (hid (Zo (F.blk Da) B ρ1) H1) xs [] := lx
    cases z
    exact (q : ∀ H' ρ' zs, _) H1 ρ1 ys r1 g1 hD la
  | d :: ds, xs, acc, ys, ρ1, H1, S1, r1, g1, hD, la, lx, q => by
    have z : RpL F.K F.ca ρ1 (hid (Zo (F.blk Da) B ρ1) H1) xs (d :: ds) := lx
    cases z with
    | cons zx zs =>
      unfold compL at q
      refine ⟨Da, B, ρ1, wipeD δ vs, S1, d, r1, zx, q.bind.noErr.imp fun δ2 S2 q σ2 H2 ρ2 r2 g2 w2 => ⟨w2.trans wipe_wipe, Da, B, ρ2, δ2, S2, r2, q.bind.noErr.imp fun b S3 q H3 ρ3 r3 g3 => ?_⟩⟩
      have back : ∀ {H4 ρ4 S4}, Rel (F.blk Da) O B ρ4 σ2 H4 δ2 S4 → Gr ρ1 NoZ H1 ρ4 H4 → Rel (F.blk Da) O B ρ4 (L2.wipe σ vs) H4 (wipeD δ vs) S4 := fun r4 g4 => r1.step g4 r4.sta
      have hD3 : H3 Da = some (.lst ys) := (g2.tr g3).keep Da _ (fun z => r1.sta.xr Da z (.inl (.inr rfl))) (fun z => z) (fun _ z => by cases z) hD
      cases b with
      | false =>
        refine ⟨hst H3 ρ3 (g1.tr (g2.tr g3)), ?_⟩
        exact comp_of hn h0 hst ds _ acc ys ρ3 H3 S3 (back r3 (g2.tr g3)) (g1.tr (g2.tr g3)) hD3 (la.gr (g2.tr g3)) (RinL.gr (m := .fz) zs (g2.tr g3)) q
      | true =>
        refine ⟨Da, B, ρ3, δ2, S3, r3, (Ok1.bind q).noErr.imp fun y S4 q v H4 ρ4 r4 g4 z4 => ?_⟩
        obtain ⟨hl, q⟩ := Ok1.ite q
        have g14 := g2.tr (g3.tr g4)
        have hD4 : H4 Da = some (.lst ys) := g14.keep Da _ (fun z => r1.sta.xr Da z (.inl (.inr rfl))) (fun z => z) (fun _ z => by cases z) hD
        have rb := back r4 g14
        obtain ⟨r5, g5⟩ := rb.under (D := Da) (o' := .lst (ys ++ [v])) (.inr rfl) h0 But.upd hD4 upd_same (fun _ z => by cases z) (fun _ z => by cases z)
        have see : LamX.ExtN (hid (Zo (F.blk Da) B ρ4) H4) (hid (Zo (F.blk Da) B ρ4) (upd H4 Da (.lst (ys ++ [v])))) := g5.sees (Z := fun b => (F.blk Da).Xs b ∨ Own B b) (fun c z => .inl (.inl (.inr z))) fun b h => .inl h
        have gg : Gr ρs NoZ Hs ρ4 (upd H4 Da (.lst (ys ++ [v]))) := (g1.tr g14).trans g5 fun c z => .inr (z ▸ hn)
        have l5 : RinL (F.blk Da) .fz B ρ4 (upd H4 Da (.lst (ys ++ [v]))) (ys ++ [v]) (acc ++ [y]) := RpL.mono (fun _ _ e => e) see (RpL.append (RinL.gr (m := .fz) la g14) (.cons z4 .nil))
        refine ⟨ys, hD4, by rw [RinL.len la]; exact hl, hst _ ρ4 gg, ?_⟩
        exact comp_of hn h0 hst ds _ (acc ++ [y]) (ys ++ [v]) ρ4 _ S4 r5 gg upd_same l5 (RpL.mono (fun _ _ e => e) see (RinL.gr (m := .fz) zs g14)) q
end
section
variable {X : Cx} {F : Fr} {O OL : List Nat} {pos pos' : Pos} {elt tg iter : Expr} {ifs : List Expr} {scope : Scope} {own : List (Str × Nat)} {it : DEnv → M (List D)} {g : D → DEnv → M DEnv} {t : DEnv → M Bool} {el : DEnv → M D}
/-- what a comprehension reads -/
theorem lc_of {σ : L2.St} {H : Hp} {Q : VK} (ho : ∀ v ∈ own.map (·.2), v ∉ O) (q : dE F O .nw (lcD (own.map (·.2)) it g t el) σ H Q) :
    tLcW (dW F O it) (exG fun D => dGC (F.blk D) O (own.map (·.2)) g) (exT fun D => dT (F.blk D) O t) (exE fun D => dE (F.blk D) O .fz el) (own.map (·.2)) σ H Q := by
  obtain ⟨B, ρ, δ, S, r, q⟩ := q
  refine ⟨B, ρ, δ, S, r, q.bind.imp fun ds S' q vs st H' ρ' r' g' z h1 hst => ⟨h1, fun Da H2 nD s2 h2 => ?_⟩⟩
  have g2 : Gr ρ' NoZ H' ρ' H2 := Gr.same s2
  have re := (r'.enter s2 nD (Nw.live h2 fun _ z => by cases z)).wipe (own.map (·.2)) ho
  have h0 : Nw F.H0 Da := Classical.byContradiction fun z => r'.gr.alive Da z (Nw.of nD)
  have lx : RinL (F.blk Da) .fz B ρ' H2 vs ds := RpL.mono (fun _ _ e => e) (zo_blkE (F := F) ▸ seesN s2 nD) z
  refine ⟨hst H2 ρ' g2.wk, comp_of (Hs := H') (ρs := ρ') (Nw.of nD) h0 (fun H1 ρ1 g => hst H1 ρ1 g.wk) ds vs [] [] ρ' H2 S' re g2 h2 RinL.nil lx (q.bind.imp fun ys S2 k H3 ρ3 zs r3 g3 hD l3 => ?_)⟩
  have k : ∀ v H' ρ', _ := k
  have st3 : Sta F.K F.ca ρ3 (fun b => (F.Xs b ∨ Own B b) ∨ b = Da) H3 S2 := xs_blkE (F := F) (B := B) ▸ r3.sta
  refine k (.ref Da) H3 ρ3 (r'.step g3 (st3.wk fun b h => .inl h)) (g'.tr g3) ⟨Da, rfl, Classical.byContradiction fun z => g'.alive Da z (Nw.of nD), fun z => r3.sta.xr Da z (.inl (.inr rfl)), st3, zs, hD, ?_⟩
  exact zo_blkE (F := F) ▸ l3
theorem pd_lc (hc : X.calm = true) (hN : X.N.Nodup) (hi : PID X F O tg iter it) (ok : BlkOk X.N X.env.scope scope own) (ho : ∀ v ∈ own.map (·.2), v ∉ O)
    (hg : ∀ (s : Shared) (H : Hp) (C : Addr) (cl : List (Str × Addr)) (fp : List Addr) (D : Addr), PG (X.blk s H scope (compEnvC scope cl C X.env) fp) tg (dGC (F.blk D) O (own.map (·.2)) g))
    (ht : ∀ (s : Shared) (H : Hp) (C : Addr) (cl : List (Str × Addr)) (fp : List Addr) (D : Addr), PTs (X.blk s H scope (compEnvC scope cl C X.env) fp) ifs (dT (F.blk D) O t))
    (he : ∀ (s : Shared) (H : Hp) (C : Addr) (cl : List (Str × Addr)) (fp : List Addr) (D : Addr), PE (X.blk s H scope (compEnvC scope cl C X.env) fp) elt (dE (F.blk D) O .fz el)) (hs : ∀ x, foldedSetIterable iter X.env x = pure x := by intro _; rfl) :
    PED X F O .nw (.ListComp elt [⟨tg, iter, ifs, 0⟩] scope pos) (lcD (own.map (·.2)) it g t el) :=
  pe_imp (fe_lc hc hN hi ok (fun s H C cl fp => pg_ex (hg s H C cl fp)) (fun s H C cl fp => pts_ex (ht s H C cl fp)) (fun s H C cl fp => pe_ex (he s H C cl fp)) hs) fun σ H Q q => lc_of ho q
end
end Fg
namespace Fg
open PySem PySem.Spec PyProof.Rows L2
variable [TQ]
abbrev binM (f : D → D → M D) (ta tb : DEnv → M D) : DEnv → M D := fun δ => do let x ← ta δ; let y ← tb δ; f x y
abbrev oneM {α : Type} (g : D → M α) (t : DEnv → M D) : DEnv → M α := fun δ => do let d ← t δ; g d
abbrev callM {α : Type} (g : List D → M α) (t : DEnv → M (List D)) : DEnv → M α := fun δ => do let ds ← t δ; g ds
abbrev lstM (t : DEnv → M (List D)) : DEnv → M D := fun δ => do let ds ← t δ; capL ds; pure (.lst ds)
abbrev tupM (t : DEnv → M (List D)) : DEnv → M D := fun δ => do let ds ← t δ; capL ds; pure (.tup ds)
abbrev cM (d : D) : DEnv → M D := fun _ => pure d
abbrev asgS (t : DEnv → M D) (g : D → DEnv → M DEnv) : DEnv → M (DEnv × Fl) := fun δ => do let d ← t δ; let δ' ← g d δ; pure (δ', .nx)
section
variable {X : Cx} {F : Fr} {O O' O1 O2 OL : List Nat} {m mi : Md} {pos pos' p apos : Pos} {a b c e e2 tg o : Expr} {rest es elts ifs : List Expr} {i j k kk : Nat} {x f : Str} {ps : List Str} {K : PySem.W.Frag}
def strM (f : D → D → M D) (t u : DEnv → M D) : DEnv → M D := fun δ => do
  let x ← t δ
  match x with
  | .str z => (do let y ← u δ; f (.str z) y)
  | _ => M.stuck
def strsD : List D → Option (List Str)
  | [] => some []
  | .str z :: r => (strsD r).map (z :: ·)
  | _ :: _ => none
def joinOk (a : Str) (ys : List Str) : Prop := (ys.map (·.length)).sum + ys.length * a.length ≤ 16777216
instance (a : Str) (ys : List Str) : Decidable (joinOk a ys) := by unfold joinOk; infer_instance
def joinD : D → D → M D
  | .str a, .lst ds => do let ys ← M.opt (strsD ds); if joinOk a ys then pure (.str (Txt.join a ys)) else M.stuck
  | .str a, .tup ds => do let ys ← M.opt (strsD ds); if joinOk a ys then pure (.str (Txt.join a ys)) else M.stuck
  | _, _ => M.stuck
def indexD : D → D → M D
  | .str a, .str b => do let k ← M.opt (Txt.index0 a b); pure (.int (k : Nat))
  | _, _ => M.stuck
def fmtD : D → M Str
  | .str y => if y.length ≤ sizeLine then pure y else M.stuck
  | .int i => if i.natAbs.log2 < 1920 then pure (toString i) else M.stuck
  | _ => M.stuck
def joinedM : List (DEnv → M D) → Str → DEnv → M Str
  | [], acc, _ => pure acc
  | t :: ts, acc, δ => do
    let x ← t δ
    match x with
    | .str y => if (acc ++ y).length ≤ sizeLine then joinedM ts (acc ++ y) δ else M.stuck
    | _ => M.stuck
end
end Fg
namespace Fg
open PySem PySem.Spec PyProof.Rows L2
variable [TQ]
abbrev fmtM (t : DEnv → M D) : DEnv → M D := fun δ => do let d ← t δ; let s ← fmtD d; pure (.str s)
def negD : D → M D
  | .int i => pure (.int (-i))
  | _ => M.stuck
def cutD (ds : List D) (lo hi : Option Int) : List D := (ds.drop (HT.sIx ds.length 0 lo)).take (HT.sIx ds.length ds.length hi - HT.sIx ds.length 0 lo)
def partD : D → M (Option Int)
  | .int i => pure (some i)
  | _ => M.stuck
abbrev sliceM (f : D → Option Int → Option Int → M D) (t : DEnv → M D) (l u : DEnv → M (Option Int)) : DEnv → M D := fun δ => do let x ← t δ; let lo ← l δ; let hi ← u δ; f x lo hi
def slLD : D → Option Int → Option Int → M D
  | .lst ds, lo, hi => pure (.lst (cutD ds lo hi))
  | _, _, _ => M.stuck
def slTD : D → Option Int → Option Int → M D
  | .tup ds, lo, hi => pure (.tup (cutD ds lo hi))
  | _, _, _ => M.stuck
def slSD : D → Option Int → Option Int → M D
  | .str z, lo, hi => if z.length ≤ sizeLine then pure (.str (cutS z lo hi)) else M.stuck
  | _, _, _ => M.stuck
def repOk (n : Nat) (k : Int) : Prop := k < 2 ^ 63 ∧ -(2 ^ 63) ≤ k ∧ n * k.toNat ≤ sizeLine
instance (n : Nat) (k : Int) : Decidable (repOk n k) := by unfold repOk; infer_instance
def repD : D → D → M D
  | .lst ds, .int k => if repOk ds.length k then pure (.lst (List.replicate k.toNat ds).flatten) else M.stuck
  | _, _ => M.stuck
/-- == of flat things -/
def eqF : D → D → Bool
  | .non, .non => true
  | .bl a, .bl b => a == b
  | .bl a, .int b => (if a then 1 else 0) == b
  | .int a, .bl b => a == (if b then 1 else 0)
  | .int a, .int b => a == b
  | .str a, .str b => a == b
  | _, _ => false
theorem eqF_V {x y : D} (hx : scalD x = true) (hy : scalD y = true) : eqV (scV x) (scV y) = eqF x y := by
  cases x <;> cases y <;> first | rfl | (cases hx; done) | (cases hy; done)
/-- == at any depth -/
def eqNL (f : D → D → Option Bool) : List D → List D → Option (List Bool)
  | [], _ => some []
  | _ :: _, [] => some []
  | x :: xs, y :: ys => (f x y).bind fun b => (eqNL f xs ys).map (b :: ·)
def eqN : Nat → D → D → Option Bool
  | 0, x, y => if scalD x = true ∧ scalD y = true then some (eqF x y) else none
  | n + 1, x, y => match x, y with
    | .lst xs, .lst ys => if xs.length = ys.length then (eqNL (eqN n) xs ys).map (·.all id) else some false
    | .tup xs, .tup ys => (eqNL (eqN n) xs ys).map fun bs => bs.all id && xs.length == ys.length
    | x, y => if scalD x = true ∧ scalD y = true then some (eqF x y) else none
def eqBD (neg : Bool) : D → D → M D
  | .lst xs, .lst ys => if xs.length = ys.length then (do let bs ← M.opt (eqNL (eqN 20) xs ys); pure (.bl (opp neg (bs.all id)))) else pure (.bl neg)
  | .tup xs, .tup ys => do let bs ← M.opt (eqNL (eqN 20) xs ys); pure (.bl (opp neg (bs.all id && xs.length == ys.length)))
  | _, _ => M.stuck
section
variable {K : PySem.W.Frag} {ca : Str → Option Addr} {F : Fr} {m mi : Md} {B : Nat → Option Addr} {ρ : List Addr} {H : Hp}
theorem RpL.rep {G : Hp} {vs : List V} {ds : List D} (h : RpL K ca ρ G vs ds) : ∀ n : Nat, RpL K ca ρ G (List.replicate n vs).flatten (List.replicate n ds).flatten
  | 0 => .nil
  | n + 1 => by
    rw [List.replicate_succ, List.replicate_succ, List.flatten_cons, List.flatten_cons]
    exact RpL.append h (RpL.rep h n)
theorem flat_scal {d : D} (h : scalD d = true) : flatV (scV d) = true := by cases d <;> first | rfl | (cases h; done)
theorem o_rep (hm : mi = m) (h2 : m ≠ .nw) : OpD F mi m fRep repD := by
  subst hm
  intro O B ρ σ δ H S x y d e Q r hx hy q
  cases d <;> cases e <;> first | exact (show False from q).elim | skip
  obtain ⟨a, vs, rfl, ha, la⟩ := hx.lst
  cases hy.int
  obtain ⟨c, q⟩ := Ok1.ite q
  refine ⟨vs, ha, c.1, c.2.1, by rw [RinL.len la]; exact c.2.2, fun p H2 np s2 h2' => (q : ∀ v H' ρ', _) _ H2 ρ (r.same s2) (Gr.same s2) (lst_new r np s2 h2' h2 ?_)⟩
  cases mi
  · exact RpL.rep la _
  · exact RpL.rep la _
  · exact absurd rfl h2
theorem eqN_at : ∀ (n : Nat) {x y : V} {d e : D} {b : Bool}, Rin F mi B ρ H x d → Rin F mi B ρ H y e → eqN n d e = some b → EqB F.K H n x y b
  | 0, x, y, d, e, b, hx, hy, h => by
    unfold eqN at h
    split at h
    · rename_i c
      cases h
      cases hx.scal c.1; cases hy.scal c.2
      exact ⟨flat_scal c.1, flat_scal c.2, (eqF_V c.1 c.2).symm⟩
    · cases h
  | n + 1, x, y, d, e, b, hx, hy, h => by
    have key : ∀ {xs ys : List D} {vs ws : List V} {bs : List Bool}, RinL F mi B ρ H vs xs → RinL F mi B ρ H ws ys → eqNL (eqN n) xs ys = some bs → Pr3 (EqB F.K H n) vs ws bs := by
      intro xs
      induction xs with
      | nil =>
        intro ys vs ws bs h1 h2 h
        have := h1.len
        cases vs with
        | nil => cases h; exact .nl
        | cons _ _ => cases this
      | cons a xs ih =>
        intro ys vs ws bs h1 h2 h
        cases ys with
        | nil =>
          have := h2.len
          cases ws with
          | nil => cases h; exact .nr
          | cons _ _ => cases this
        | cons c ys =>
          cases vs with
          | nil => exact absurd h1.len (by simp)
          | cons v vs =>
            cases ws with
            | nil => exact absurd h2.len (by simp)
            | cons w ws =>
              have h : ((eqN n a c).bind fun b => (eqNL (eqN n) xs ys).map (b :: ·)) = some bs := h
              cases e1 : eqN n a c with
              | none => rw [e1] at h; cases h
              | some b1 =>
                rw [e1] at h
                have h : (eqNL (eqN n) xs ys).map (b1 :: ·) = some bs := h
                cases e2 : eqNL (eqN n) xs ys with
                | none => rw [e2] at h; cases h
                | some cs =>
                  rw [e2] at h
                  cases h
                  have p1 : Rin F mi B ρ H v a ∧ RinL F mi B ρ H vs xs := by cases mi <;> (cases h1 with | cons a b => exact ⟨a, b⟩)
                  have p2 : Rin F mi B ρ H w c ∧ RinL F mi B ρ H ws ys := by cases mi <;> (cases h2 with | cons a b => exact ⟨a, b⟩)
                  exact .cons (eqN_at n p1.1 p2.1 e1) (ih p1.2 p2.2 e2)
    have flat : (if scalD d = true ∧ scalD e = true then some (eqF d e) else none) = some b → EqB F.K H (n + 1) x y b := fun h => by
      split at h
      · rename_i c
        cases h
        cases hx.scal c.1; cases hy.scal c.2
        exact .inl ⟨flat_scal c.1, flat_scal c.2, (eqF_V c.1 c.2).symm⟩
      · cases h
    unfold eqN at h
    split at h
    · rename_i xs ys
      obtain ⟨a, vs, rfl, ha, la⟩ := hx.lst
      obtain ⟨c, ws, rfl, hc, lc⟩ := hy.lst
      split at h
      · rename_i hl
        cases e2 : eqNL (eqN n) xs ys with
        | none => rw [e2] at h; cases h
        | some bs =>
          rw [e2] at h
          cases h
          exact .inr (.inr (.inr (.inl ⟨a, c, vs, ws, bs, rfl, rfl, SqL.of ha, SqL.of hc, by rw [la.len, lc.len, hl], key la lc e2, rfl⟩)))
      · rename_i hl
        cases h
        exact .inr (.inr (.inl ⟨a, c, vs, ws, rfl, rfl, SqL.of ha, SqL.of hc, by rw [la.len, lc.len]; exact hl, rfl⟩))
    · rename_i xs ys
      obtain ⟨a, vs, rfl, ha, la⟩ := hx.tup
      obtain ⟨c, ws, rfl, hc, lc⟩ := hy.tup
      cases e2 : eqNL (eqN n) xs ys with
      | none => rw [e2] at h; cases h
      | some bs =>
        rw [e2] at h
        cases h
        exact .inr (.inr (.inr (.inr ⟨a, c, vs, ws, bs, rfl, rfl, ha, hc, key la lc e2, by rw [la.len, lc.len]⟩)))
    · exact flat h
theorem o_eqB {neg : Bool} (hK : F.K = K) (h2 : m ≠ .nw) : OpD F mi m (fEqB K neg) (eqBD neg) := by
  intro O B ρ σ δ H S x y d e Q r hx hy q
  subst hK
  have lift : ∀ {xs ys : List D} {vs ws : List V} {bs : List Bool}, RinL F mi B ρ H vs xs → RinL F mi B ρ H ws ys → eqNL (eqN 20) xs ys = some bs → Pr3 (EqB F.K H 20) vs ws bs := by
    intro xs
    induction xs with
    | nil =>
      intro ys vs ws bs h1 h2 h
      have := h1.len
      cases vs with
      | nil => cases h; exact .nl
      | cons _ _ => cases this
    | cons a xs ih =>
      intro ys vs ws bs h1 h2 h
      cases ys with
      | nil =>
        have := h2.len
        cases ws with
        | nil => cases h; exact .nr
        | cons _ _ => cases this
      | cons c ys =>
        cases vs with
        | nil => exact absurd h1.len (by simp)
        | cons v vs =>
          cases ws with
          | nil => exact absurd h2.len (by simp)
          | cons w ws =>
            have h : ((eqN 20 a c).bind fun b => (eqNL (eqN 20) xs ys).map (b :: ·)) = some bs := h
            cases e1 : eqN 20 a c with
            | none => rw [e1] at h; cases h
            | some b1 =>
              rw [e1] at h
              have h : (eqNL (eqN 20) xs ys).map (b1 :: ·) = some bs := h
              cases e2 : eqNL (eqN 20) xs ys with
              | none => rw [e2] at h; cases h
              | some cs =>
                rw [e2] at h
                cases h
                have p1 : Rin F mi B ρ H v a ∧ RinL F mi B ρ H vs xs := by cases mi <;> (cases h1 with | cons a b => exact ⟨a, b⟩)
                have p2 : Rin F mi B ρ H w c ∧ RinL F mi B ρ H ws ys := by cases mi <;> (cases h2 with | cons a b => exact ⟨a, b⟩)
                exact .cons (eqN_at 20 p1.1 p2.1 e1) (ih p1.2 p2.2 e2)
  cases d <;> cases e <;> first | exact (show False from q).elim | skip
  · obtain ⟨bs, eb, q⟩ := (Ok1.bind q).opt
    obtain ⟨a, vs, rfl, ha, la⟩ := hx.tup
    obtain ⟨c, ws, rfl, hc, lc⟩ := hy.tup
    refine .inr (.inr ⟨vs, ws, bs, ha, hc, lift la lc eb, ?_⟩)
    rw [la.len, lc.len]
    exact Ok1.scal r (d := .bl _) rfl h2 q
  · obtain ⟨a, vs, rfl, ha, la⟩ := hx.lst
    obtain ⟨c, ws, rfl, hc, lc⟩ := hy.lst
    have q : Ok1 F ((if _ = _ then _ else _ : M D) S) _ := q
    split at q
    · rename_i hl
      obtain ⟨bs, eb, q⟩ := (Ok1.bind q).opt
      exact .inr (.inl ⟨vs, ws, bs, SqL.of ha, SqL.of hc, by rw [la.len, lc.len, hl], lift la lc eb, Ok1.scal r (d := .bl _) rfl h2 q⟩)
    · rename_i hl
      exact .inl ⟨vs, ws, SqL.of ha, SqL.of hc, by rw [la.len, lc.len]; exact hl, Ok1.scal r (d := .bl _) rfl h2 q⟩
end
end Fg
namespace Fg
open PySem PySem.Spec PyProof.Rows L2
variable [TQ]
section
variable {X : Cx} {F : Fr} {O O' O1 O2 OL : List Nat} {m mi : Md} {pos pos' p apos spos : Pos} {a b c e e2 tg o : Expr} {rest es elts ifs : List Expr} {i j k kk : Nat} {x f : Str} {ps : List Str} {K : PySem.W.Frag}
theorem pd_neg {t : DEnv → M D} (h : PED X F O .tr e t) (h2 : m ≠ .nw := by decide) : PED X F O m (.UnaryOp .USub e pos) (oneM negD t) := pe_imp (pe_un un_neg h) fun σ H Q ⟨B, ρ, δ, S, r, q⟩ => ⟨B, ρ, δ, S, r, q.bind.imp fun d S' q v H' ρ' r' g z => by
  have z : Rin F .tr B ρ' H' v d := z
  cases d <;> first | exact (show False from q).elim | skip
  cases z.int
  exact ⟨_, rfl, (q : ∀ v H' ρ', _) _ H' ρ' r' g (scV_res (d := .int _) rfl h2)⟩⟩
def parS (i j : Nat) (ta tb : DEnv → M D) : DEnv → M (DEnv × Fl) := fun δ => do let x ← ta δ; let y ← tb δ; pure ((δ.set i (some x)).set j (some y), Fl.nx)
theorem psd_par {x y : Str} {px py pt pt2 : Pos} {kt k2 : Nat} {ta tb : DEnv → M D} (i j : Nat) (hc : X.calm = true) (hN : X.N.Nodup) (hi : X.N[i]? = some x) (hj : X.N[j]? = some y) (hij : i ≠ j)
    (hx : X.env.scope.names.lookup x = some .local) (hy : X.env.scope.names.lookup y = some .local) (ha : PED X F O .fz a ta) (hb : PED X F O .fz b tb) (hio : i ∉ O := by decide) (hjo : j ∉ O := by decide)
    (h : PS X (.Assign [.Tuple [.Name x px, .Name y py] kt pt] (.Tuple [a, b] k2 pt2) pos) (tPar i j (tCons (dE F O .fz ta) (tCons (dE F O .fz tb) tNil))) := by exact ps_par ‹_› ‹_› ‹_› ‹_› ‹_› ‹_› ‹_› (pa_cons ‹_› (pa_cons ‹_› pa_nil)) (by rfl)) :
    PSD X F O O OL (.Assign [.Tuple [.Name x px, .Name y py] kt pt] (.Tuple [a, b] k2 pt2) pos) (parS i j ta tb) := ps_imp h fun Dn σ H ⟨B, ρ, δ, S, r, q⟩ => ⟨B, ρ, δ, S, r, q.bind.imp fun d1 S1 q v1 H1 ρ1 r1 g1 z1 => ⟨B, ρ1, δ, S1, r1, q.bind.imp fun d2 S2 q v2 H2 ρ2 r2 g2 z2 =>
    ⟨v1, v2, rfl, (q : ∀ σ' H' B' ρ', _) _ H2 B ρ2 ((r2.set hio (Rin.gr (m := .fz) z1 g2)).set hjo z2) (g1.tr g2).wk fun b h => .inl h⟩⟩⟩
def augS (f : D → D → M D) (i : Nat) (t : DEnv → M D) : DEnv → M (DEnv × Fl) := fun δ => do let x ← rd i δ; let y ← t δ; let z ← f x y; pure (δ.set i (some z), Fl.nx)
local macro_rules | `(tactic| walk_at "ni") => `(tactic| (intro x y S h; cases x <;> cases y <;> first | rfl | exact absurd ⟨rfl, rfl⟩ (h _ _)))
def iaddD : D → D → M D
  | .int i, .int j => pure (.int (i + j))
  | _, _ => M.stuck
end
end Fg
namespace Fg
open PySem PySem.Spec PyProof.Rows L2
variable [TQ]
def mtL : D → M (List D)
  | .mt k => fun S => match S[k]? with
    | some (.lst ds) => some (.ok ds, S)
    | _ => none
  | _ => M.stuck
def mtSet : D → List D → M Unit
  | .mt k, ds => fun S => some (.ok (), S.set k (.lst ds))
  | _, _ => M.stuck
def ixMD (x y : D) : M D := do
  let ds ← mtL x
  match y with
  | .int i => M.opt (atI ds i)
  | _ => M.stuck
def mputS (i : Nat) (k t : DEnv → M D) : DEnv → M (DEnv × Fl) := fun δ => do
  let v ← t δ
  let x ← rd i δ
  let y ← k δ
  let ds ← mtL x
  match y with
  | .int n => (do let j ← M.opt (ixN ds.length n); mtSet x (ds.set j v); pure (δ, Fl.nx))
  | _ => M.stuck
section
variable {F : Fr} {O : List Nat} {B : Nat → Option Addr} {ρ : List Addr} {σ : L2.St} {H H' : Hp} {δ : DEnv} {S : Sto} {v : V} {d : D} {m mi : Md}
theorem Ok1.mtL {x : D} {S : Sto} {P : List D → Sto → Prop} (h : Ok1 F (Fg.mtL x S) P) : ∃ k ds, x = .mt k ∧ S[k]? = some (.lst ds) ∧ P ds S := by
  cases x <;> first | exact (show False from h).elim | skip
  rename_i k
  have h : Ok1 F (match S[k]? with | some (.lst ds) => some (.ok ds, S) | _ => none) P := h
  split at h
  · exact ⟨k, _, rfl, ‹_›, h⟩
  · exact h.elim
theorem SrL.set {K : PySem.W.Frag} {ca : Str → Option Addr} {G : Hp} : ∀ {l : List Addr} {S : Sto} {k : Nat} {a : Addr}, SrL K ca ρ G H l S → l[k]? = some a → l.Nodup → (∀ b ∈ l, b ≠ a → ∀ o, H b = some o → H' b = some o) → Top K ca ρ G H' a d → SrL K ca ρ G H' l (S.set k d)
  | [], _, _, _, _, e, _, _, _ => by simp at e
  | b :: l, [], _, _, h, _, _, _, _ => h.elim
  | b :: l, x :: S, 0, a, ⟨h, t⟩, e, nd, k, z => by
    simp at e; subst e
    refine ⟨z, SrL.mono (fun _ _ e => e) (fun _ _ e _ => e) (fun c hc o _ e => k c (List.mem_cons_of_mem _ hc) (fun w => ?_) o e) t⟩
    subst w
    exact (List.nodup_cons.mp nd).1 hc
  | b :: l, x :: S, n + 1, a, ⟨h, t⟩, e, nd, k, z => by
    have e : l[n]? = some a := by simpa using e
    have ne : b ≠ a := fun w => by
      subst w
      exact (List.nodup_cons.mp nd).1 (List.mem_of_getElem? e)
    exact ⟨Top.mono (fun _ _ e => e) (fun _ _ e _ => e) (fun o _ e => k b (List.mem_cons_self ..) ne o e) h, SrL.set t e (List.nodup_cons.mp nd).2 (fun c hc => k c (List.mem_cons_of_mem _ hc)) z⟩
theorem Rel.mset {k : Nat} {a : Addr} {o o' : HO} (r : Rel F O B ρ σ H δ S) (hk : ρ[k]? = some a) (b : But a H H') (h : H a = some o) (h' : H' a = some o') (n1 : ∀ ps, o ≠ .tbl ps) (n2 : ∀ φ, o ≠ .ext φ)
    (t : Top F.K F.ca ρ (hid (Zo F B ρ) H) H' a d) : Rel F O B ρ σ H' δ (S.set k d) ∧ Gr ρ NoZ H ρ H' := by
  have ha : a ∈ ρ := List.mem_of_getElem? hk
  have g : Gr ρ NoZ H ρ H' := Gr.but b h h' (.inr ha) n1 n2 (t.ntbl h')
  have see : LamX.ExtN (hid (Zo F B ρ) H) (hid (Zo F B ρ) H') := g.seesO
  refine ⟨r.step g ⟨fun c z => g.alive c (r.sta.live c z), r.sta.nd, r.sta.xr, ?_⟩, g⟩
  have s2 := SrL.set (d := d) (H' := H') r.sta.sto hk r.sta.nd (fun c _ ne o e => b c o ne e) t
  exact SrL.mono (fun _ _ e => e) see (fun _ _ _ _ e => e) s2
theorem top_lst {K : PySem.W.Frag} {ca : Str → Option Addr} {G : Hp} {a : Addr} {ds : List D} (h : Top K ca ρ G H a (.lst ds)) : ∃ vs, H a = some (.lst vs) ∧ RpL K ca ρ G vs ds := h
end
section
variable {X : Cx} {F : Fr} {O O' O1 O2 OL : List Nat} {m mi : Md} {pos pos' p apos spos : Pos} {a b c e e2 tg o : Expr} {rest es elts ifs : List Expr} {i j k kk : Nat} {x f : Str} {ps : List Str} {K : PySem.W.Frag}
theorem o_ixM (hK : F.K = K) (h2 : m ≠ .nw) : OpD F .tr m (fIx K) ixMD := by
  subst hK
  intro O B ρ σ δ H S x y d e Q r hx hy q
  obtain ⟨k, ds, rfl, hs, q⟩ := q.bind.mtL
  obtain ⟨a, rfl, ha⟩ := hx.mt
  obtain ⟨d0, e0, t⟩ := SrL.get r.sta.sto ha
  cases hs.symm.trans e0
  obtain ⟨vs, h1, h3⟩ := top_lst t
  cases e <;> first | exact (show False from q).elim | skip
  cases hy.int
  obtain ⟨w, ew, q⟩ := (show Ok1 F (M.opt (atI ds _) S) _ from q).opt
  have l : RinL F .fz B ρ H vs ds := h3
  obtain ⟨v, hv, hr⟩ := l.atI ew
  refine ⟨vs, v, .inl (SqL.of h1), hv, q v H ρ r (Gr.refl _ _ _) ?_⟩
  cases m
  · exact Rin.wk (m := .fz) hr
  · exact hr
  · exact absurd rfl h2
theorem pd_ixM {ta tb : DEnv → M D} (hK : F.K = X.K) (ha : PED X F O .tr a ta) (hb : PED X F O .tr b tb) (hs : PlainIx b) (h2 : m ≠ .nw := by decide) : PED X F O m (.Subscript a b pos) (binM ixMD ta tb) := pe_imp (pe_ix f_ix ha hb hs) fun σ H Q q => bin_imp (o_ixM hK h2) (by decide) q
theorem psd_mput {x : Str} {npos spos : Pos} {tk t : DEnv → M D} (i : Nat) (hk : PED X F O .tr b tk) (h : PED X F O .fz e t) (ho : i ∉ O := by decide) (hN : X.N[i]? = some x := by rfl) (hv : Vis X.env.scope x := by first | exact Or.inl rfl | exact Or.inr (Or.inl rfl) | exact Or.inr (Or.inr rfl)) (hd : (x == ("__debug__" : Str)) = false := by decide) (hcd : (x == ("__classdict__" : Str)) = false := by decide)
    (ha : ∀ v, assign (.Subscript (.Name x npos) b spos) X.env v = (do
      let ov ← holding [v] (eval (.Name x npos) X.env)
      let iv ← holding [v, ov] (eval b X.env)
      standAt spos
      holding [v, ov, iv] (setItem ov iv v)
      release [v, ov, iv] []) := by intro _; rfl)
    (hs : swapsWithSole [.Subscript (.Name x npos) b spos] e pos.line X.env = pure false := by rfl) (hw : swappedStores [.Subscript (.Name x npos) b spos] e X.env = pure none := by rfl)
    (h1 : (assignEach [.Subscript (.Name x npos) b spos] X.env).map (·.2) = [assign (.Subscript (.Name x npos) b spos) X.env] := by rfl) :
    PSD X F O O OL (.Assign [.Subscript (.Name x npos) b spos] e pos) (mputS i tk t) := ps_imp (ps_asg h (pg_sub (fv i hN hv hd hcd) hk g_setL ha) hs hw h1) fun Dn σ H ⟨B, ρ, δ, S, r, q⟩ => ⟨B, ρ, δ, S, r, q.bind.imp fun d S' q v H' ρ' r' g z => by
  obtain ⟨x0, ex, q⟩ := (Ok1.bind q).opt
  have e0 := rd_get ex
  have s0 := r'.slot i _ e0
  unfold SlAt at s0
  rw [r'.notO ho] at s0
  obtain ⟨v0, h1, h2⟩ := s0
  unfold gSub tV
  rw [h1]
  refine ⟨B, ρ', δ, S', r', q.bind.imp fun d2 S2 q v2 H2 ρ2 r2 g2 z2 => ?_⟩
  obtain ⟨n, ds, rfl, hs, q⟩ := q.bind.mtL
  cases d2 <;> first | exact (show False from q).elim | skip
  cases (show Rin F .tr B ρ2 H2 v2 (.int _) from z2).int
  obtain ⟨jj, ej, q⟩ := q.bind.opt
  obtain ⟨a, rfl, ha⟩ := (show Rin F .fz B ρ' H' v0 (.mt n) from h2).mt
  have ha2 := g2.at n a ha
  obtain ⟨d0, e1, t⟩ := SrL.get r2.sta.sto ha2
  cases hs.symm.trans e1
  obtain ⟨vs, hv, hl⟩ := top_lst t
  refine ⟨vs, jj, hv, by rw [RpL.length hl]; exact ej, fun H3 b3 h3 => ?_⟩
  obtain ⟨r3, g3⟩ := r2.mset (d := .lst (ds.set jj d)) ha2 b3 hv h3 (fun _ z => by cases z) (fun _ z => by cases z) ⟨_, h3, RpL.set (Rin.gr (m := .fz) z g2) jj hl⟩
  exact (q : ∀ σ' H' B' ρ', _) σ H3 B ρ2 r3 ((g.tr g2).tr g3).wk fun b h => .inl h⟩
end
end Fg
namespace Fg
open PySem PySem.Spec PyProof.Rows L2
variable [TQ]
def putD (f : Str) (d : D) : List (Str × D) → List (Str × D)
  | [] => [(f, d)]
  | (g, x) :: r => if g = f then (g, d) :: r else (g, x) :: putD f d r
theorem RpF.length {K : PySem.W.Frag} {ca : Str → Option Addr} {ρ : List Addr} {G : Hp} : ∀ {vs : List (Str × V)} {ds : List (Str × D)}, RpF K ca ρ G vs ds → vs.length = ds.length
  | _, _, .nil => rfl
  | _, _, .cons _ t => congrArg Nat.succ (RpF.length t)
def asO (c : Str) : D → M (List (Str × D))
  | .obj c' fs => if c' = c then pure fs else M.stuck
  | _ => M.stuck
def fldS (i : Nat) (c f : Str) (t : DEnv → M D) : DEnv → M (DEnv × Fl) := fun δ => do
  let v ← t δ
  let x ← rd i δ
  let fs ← asO c x
  if fs.length < 1000 then pure (δ.set i (some (.obj c (putD f v fs))), Fl.nx) else M.stuck
/-- __init__ run with values: what the new instance is -/
def runI (c : Str) (n : Nat) (b : DEnv → M (DEnv × Fl)) (ds : List D) : M D := do
  let p ← b (startD n (.obj c [] :: ds))
  match p.2 with
  | .nx => M.opt p.1[0]?.join
  | _ => M.stuck
end Fg
namespace Fg
open PySem PySem.Spec PyProof.Rows L2
variable [TQ]
section
variable {X : Cx} {F : Fr} {O O' O1 O2 OL : List Nat} {m mi : Md} {pos pos' p apos spos npos : Pos} {a b c e e2 tg o : Expr} {rest es elts ifs : List Expr} {i j k kk n : Nat} {x f : Str} {ps : List Str} {K : PySem.W.Frag}
variable {B : Nat → Option Addr} {ρ : List Addr} {σ : L2.St} {H1 : Hp} {δ : DEnv} {S1 : Sto}
/-- C(a, ..) by position, the rest by default -/
def newDD (m i : Nat) (dd : List D) (n : Nat) (f : List D → M D) (t : DEnv → M (List D)) : DEnv → M D := fun δ => do
  let ds ← t δ
  if ds.length = m then (if (ds ++ dd.drop i).length + 1 = n then f (ds ++ dd.drop i) else M.stuck) else M.stuck
/-- C(a, *b, ..), *parts in its __init__ -/
def newSD (f : List D → M D) (t : DEnv → M (List D)) : DEnv → M D := fun δ => do let ds ← t δ; capL ds; f [.tup ds]
/-- *e among arguments -/
def sqD : D → M (List D)
  | .lst ds => pure ds
  | .tup ds => pure ds
  | _ => M.stuck
def starM (t : DEnv → M D) (u : DEnv → M (List D)) : DEnv → M (List D) := fun δ => do let x ← t δ; let ds ← sqD x; let r ← u δ; pure (ds ++ r)
def methD (c mn : Str) (n : Nat) (f : List D → M D) (t : DEnv → M D) (u : DEnv → M (List D)) : DEnv → M D := fun δ => do
  let x ← t δ
  let fs ← asO c x
  if fs.lookup mn = none then (do let ds ← u δ; if ds.length + 1 = n then f (x :: ds) else M.stuck) else M.stuck
end
end Fg
namespace Fg
open PySem PySem.Spec PyProof.Rows L2
variable [TQ]
def putKD (kvs : List (Key × D)) (k : Key) (v : D) : List (Key × D) :=
  if (kvs.any fun kv => decide (kv.1 = k)) = true then kvs.map (fun kv => if kv.1 = k then (kv.1, v) else kv) else kvs ++ [(k, v)]
def getKD (kvs : List (Key × D)) (k : Key) : Option D := (kvs.find? fun kv => decide (kv.1 = k)).map (·.2)
def keyD : D → M Key
  | .int i => pure (.inl i)
  | .str x => pure (.inr x)
  | _ => M.stuck
def asDct : D → M (List (Key × D))
  | .dct kvs => pure kvs
  | _ => M.stuck
def tgD (i : Nat) (k : DEnv → M D) : D → DEnv → M DEnv := fun v δ => do
  let x ← rd i δ
  let kvs ← asDct x
  let y ← k δ
  let key ← keyD y
  if kvs.length < sizeLine then pure (δ.set i (some (.dct (putKD kvs key v)))) else M.stuck
section
variable {K : PySem.W.Frag} {ca : Str → Option Addr} {ρ : List Addr} {G : Hp} {F : Fr} {B : Nat → Option Addr} {H : Hp} {m : Md}
theorem RpK.any (k : Key) : ∀ {vs : List (Key × V)} {ds : List (Key × D)}, RpK K ca ρ G vs ds → (vs.any fun kv => decide (kv.1 = k)) = (ds.any fun kv => decide (kv.1 = k))
  | _, _, .nil => rfl
  | _, _, .cons _ t => by rw [List.any_cons, List.any_cons, RpK.any k t]
theorem RpK.length : ∀ {vs : List (Key × V)} {ds : List (Key × D)}, RpK K ca ρ G vs ds → vs.length = ds.length
  | _, _, .nil => rfl
  | _, _, .cons _ t => congrArg Nat.succ (RpK.length t)
theorem RpK.app {v : V} {d : D} (h : Rp K ca ρ G v d) (k : Key) : ∀ {vs : List (Key × V)} {ds : List (Key × D)}, RpK K ca ρ G vs ds → RpK K ca ρ G (vs ++ [(k, v)]) (ds ++ [(k, d)])
  | _, _, .nil => .cons h .nil
  | _, _, .cons g t => .cons g (RpK.app h k t)
theorem RpK.val {k : Key} {d : D} : ∀ {vs : List (Key × V)} {ds : List (Key × D)}, RpK K ca ρ G vs ds → getKD ds k = some d → ∃ v, valV vs k = some v ∧ Rp K ca ρ G v d
  | _, _, .nil, e => by cases e
  | _, _, .cons (k := j) (vs := vs) (ds := ds) g t, e => by
    unfold getKD at e
    rw [List.find?_cons] at e
    by_cases c : j = k
    · rw [decide_eq_true c] at e
      cases e
      exact ⟨_, valV_pos c, g⟩
    · rw [decide_eq_false c] at e
      obtain ⟨v, hv, hr⟩ := RpK.val t e
      exact ⟨v, (valV_neg c).trans hv, hr⟩
theorem RinK.get {vs : List (Key × V)} {ds : List (Key × D)} {k : Key} {d : D} (h : RinK F m B ρ H vs ds) (e : getKD ds k = some d) : ∃ v, valV vs k = some v ∧ Rin F m B ρ H v d := by cases m <;> exact RpK.val h e
end
section
variable {X : Cx} {F : Fr} {O O' O1 O2 OL : List Nat} {m mi : Md} {pos pos' p apos spos npos : Pos} {a b c e e2 tg o : Expr} {rest es elts ifs : List Expr} {i j k kk n : Nat} {x f : Str} {ps : List Str} {K : PySem.W.Frag}
theorem pd_d0 : PED X F O .nw (.Dict [] [] pos) (cM (.dct [])) := pe_imp fe_d0 fun σ H Q ⟨B, ρ, δ, S, r, q⟩ => fun p H2 np s2 h2 => by
  exact (q : ∀ v H' ρ', _) _ H2 ρ (r.same s2) (Gr.same s2) (res_new r (Gr.refl _ _ _) s2 np (Nw.live h2 fun _ z => by cases z) ⟨_, h2, .nil⟩)
def mergeKD (acc : List (Key × D)) : List (Key × D) → List (Key × D)
  | [] => acc
  | (k, v) :: r => mergeKD (putKD acc k v) r
def pairsM : List ((DEnv → M D) × (DEnv → M D)) → DEnv → M (List (Key × D))
  | [], _ => pure []
  | (a, b) :: r, δ => do
    let x ← noErr (a δ)
    let y ← noErr (b δ)
    let k ← keyD x
    let l ← pairsM r δ
    pure ((k, y) :: l)
def dispM (l : List ((DEnv → M D) × (DEnv → M D))) : DEnv → M D := fun δ => do
  let kvs ← pairsM l δ
  if kvs.length ≤ 15 then pure (.dct (mergeKD [] kvs)) else M.stuck
def newKD (idx : List Nat) (md : List D) (len n : Nat) (f : List D → M D) (t : DEnv → M (List D)) : DEnv → M D := fun δ => do
  let ds ← t δ
  if ds.length = len then (if (pick idx (md ++ ds)).length + 1 = n then f (pick idx (md ++ ds)) else M.stuck) else M.stuck
end
end Fg
namespace Fg
open PySem PySem.Spec PyProof.Rows L2
variable [TQ]
/-- how it ends: given, or an error among hs (with the field that is read of it) -/
def endR (hs : List (Str × Str)) : Option (Except Ex D × Sto) → Option (Except Ex D × Sto)
  | some (.ok d, S) => some (.ok (.lst [.str "given", d]), S)
  | some (.error e, S) => match hs.lookup e.c, e.fs with
    | some f, [(g, d)] => if g = f then some (.ok (.lst [.str e.c, d, .bl true]), S) else none
    | _, _ => none
  | none => none
def endM (hs : List (Str × Str)) (O : List Nat) (t : DEnv → M D) : DEnv → M D := fun δ S => endR hs (t (wipeD δ O) S)
end Fg
namespace Fg
open PySem PySem.Spec PyProof.Rows L2
variable [TQ]
section
variable {X : Cx} {F : Fr} {O O' O1 O2 OL : List Nat} {m mi : Md} {pos pos' p : Pos} {i j k kk : Nat} {a b e : Expr} {ps psA psR : List Str}
def isO (c : Str) : D → Bool
  | .obj c' _ => decide (c' = c)
  | _ => false
def isMt : D → Bool
  | .mt _ => true
  | .kd _ => true
  | .fd _ => true
  | .exc _ _ => true
  | _ => false
theorem isO_obj {c : Str} {d : D} (h : isO c d = true) : ∃ fs, d = .obj c fs := by
  cases d <;> first | exact absurd h Bool.false_ne_true | skip
  rename_i c' fs
  exact ⟨fs, by rw [show c' = c from of_decide_eq_true h]⟩
end
end Fg
namespace Fg
open PySem PySem.Spec PyProof.Rows L2
def W {α : Type} (m : M α) (S : Sto) (P : α → Sto → Prop) : Prop := ∃ a S', m S = some (.ok a, S') ∧ P a S'
section
variable {α β : Type} {m : M α} {f : α → M β} {S : Sto} {P Q : α → Sto → Prop} {R : β → Sto → Prop}
theorem W.bind (h : W m S fun a S' => W (f a) S' R) : W (m >>= f) S R := by
  obtain ⟨a, S', e, b, S2, e2, p⟩ := h
  exact ⟨b, S2, by rw [M.bind_ok e]; exact e2, p⟩
theorem W.pure {a : α} (h : P a S) : W (pure a : M α) S P := ⟨a, S, rfl, h⟩
theorem W.imp (h : W m S P) (k : ∀ a S', P a S' → Q a S') : W m S Q := by
  obtain ⟨a, S', e, p⟩ := h
  exact ⟨a, S', e, k _ _ p⟩
theorem W.eq {a : α} {S' : Sto} (e : m S = some (.ok a, S')) (h : P a S') : W m S P := ⟨a, S', e, h⟩
theorem W.ite {c : Prop} [Decidable c] {x y : M α} (hc : c) (h : W x S P) : W (if c then x else y) S P := by rw [if_pos hc]; exact h
theorem W.opt {o : Option α} {a : α} (e : o = some a) (h : P a S) : W (M.opt o) S P := by subst e; exact ⟨a, S, rfl, h⟩
end
section
variable {S : Sto} {δ : DEnv} {P : D → Sto → Prop} {PL : List D → Sto → Prop} {PB : Bool → Sto → Prop} {PS : DEnv × Fl → Sto → Prop} {PE : DEnv → Sto → Prop} {t u ta tb : DEnv → M D} {tl ul : DEnv → M (List D)} {tt : DEnv → M Bool} {b c : DEnv → M (DEnv × Fl)} {i j n : Nat} {ds : List D} {d : D}
theorem W.run (h : W (b (startD n ds)) S fun p S' => match p.2 with | .rt d => P d S' | .nx => P .non S' | _ => False) : W (runD n b ds) S P := by
  unfold runD
  refine W.bind (h.imp fun p S' q => ?_)
  obtain ⟨δ', fl⟩ := p
  cases fl with
  | rt d => exact W.pure q
  | nx => exact W.pure q
  | bk => exact q.elim
  | ct => exact q.elim
theorem W.seq (h : W (b δ) S fun p S' => match p.2 with | .nx => W (c p.1) S' PS | _ => PS p S') : W (seqS b c δ) S PS := by
  unfold seqS
  refine W.bind (h.imp fun p S' q => ?_)
  obtain ⟨δ', fl⟩ := p
  cases fl with
  | rt d => exact W.pure q
  | nx => exact q
  | bk => exact W.pure q
  | ct => exact W.pure q
theorem W.set (h : W (t δ) S fun d S' => PS (δ.set i (some d), .nx) S') : W (setS i t δ) S PS := W.bind (h.imp fun _ _ q => W.pure q)
theorem W.ret (h : W (t δ) S fun d S' => PS (δ, .rt d) S') : W (retS t δ) S PS := W.bind (h.imp fun _ _ q => W.pure q)
theorem W.ifs (h : W (tt δ) S fun x S' => if x = true then W (b δ) S' PS else W (c δ) S' PS) : W (ifS tt b c δ) S PS := W.bind (h.imp fun x S' q => by split <;> rename_i e <;> simpa [e] using q)
theorem W.ife (h : W (tt δ) S fun x S' => if x = true then W (t δ) S' P else W (u δ) S' P) : W (ifE tt t u δ) S P := W.bind (h.imp fun x S' q => by split <;> rename_i e <;> simpa [e] using q)
theorem W.skip (h : PS (δ, .nx) S) : W (skipS δ) S PS := W.pure h
theorem W.rdd (e : δ[i]?.join = some d) (h : P d S) : W (rd i δ) S P := W.opt e h
theorem W.cst (h : P d S) : W (cM d δ) S P := W.pure h
theorem W.bin {f : D → D → M D} (h : W (ta δ) S fun x S1 => W (tb δ) S1 fun y S2 => W (f x y) S2 P) : W (binM f ta tb δ) S P := W.bind (h.imp fun _ _ q => W.bind q)
theorem W.one {α : Type} {Pa : α → Sto → Prop} {g : D → M α} (h : W (t δ) S fun x S1 => W (g x) S1 Pa) : W (oneM g t δ) S Pa := W.bind h
theorem W.callm {α : Type} {Pa : α → Sto → Prop} {g : List D → M α} (h : W (tl δ) S fun x S1 => W (g x) S1 Pa) : W (callM g tl δ) S Pa := W.bind h
theorem W.call {f : List D → M D} (h : W (tl δ) S fun x S1 => x.length = n ∧ W (f x) S1 P) : W (callD n f tl δ) S P := W.bind (h.imp fun _ _ q => W.ite q.1 q.2)
theorem W.cons (h : W (t δ) S fun x S1 => W (tl δ) S1 fun r S2 => PL (x :: r) S2) : W (consM t tl δ) S PL := W.bind (h.imp fun _ _ q => W.bind (q.imp fun _ _ q => W.pure q))
theorem W.nil (h : PL [] S) : W (nilM δ) S PL := W.pure h
theorem W.cap (hl : ds.length ≤ sizeLine) {Pu : Unit → Sto → Prop} (h : Pu () S) : W (capL ds) S Pu := by unfold capL; exact W.ite hl (W.pure h)
theorem W.lst (h : W (tl δ) S fun x S1 => x.length ≤ sizeLine ∧ P (.lst x) S1) : W (lstM tl δ) S P := W.bind (h.imp fun _ _ q => W.bind (W.cap q.1 (W.pure q.2)))
theorem W.tup (h : W (tl δ) S fun x S1 => x.length ≤ sizeLine ∧ P (.tup x) S1) : W (tupM tl δ) S P := W.bind (h.imp fun _ _ q => W.bind (W.cap q.1 (W.pure q.2)))
theorem W.tv (h : W (t δ) S fun x S1 => W (tbD x) S1 PB) : W (tvM t δ) S PB := W.bind h
theorem W.asg {g : D → DEnv → M DEnv} (h : W (t δ) S fun x S1 => W (g x δ) S1 fun δ' S2 => PS (δ', .nx) S2) : W (asgS t g δ) S PS := W.bind (h.imp fun _ _ q => W.bind (q.imp fun _ _ q => W.pure q))
theorem W.ndd {m k : Nat} {dd : List D} {f : List D → M D} (h : W (tl δ) S fun x S1 => x.length = m ∧ (x ++ dd.drop i).length + 1 = n ∧ W (f (x ++ dd.drop i)) S1 P) : W (newDD m i dd n f tl δ) S P := W.bind (h.imp fun _ _ q => W.ite q.1 (W.ite q.2.1 q.2.2))
theorem W.nkd {idx : List Nat} {md : List D} {l : Nat} {f : List D → M D} (h : W (tl δ) S fun x S1 => x.length = l ∧ (pick idx (md ++ x)).length + 1 = n ∧ W (f (pick idx (md ++ x))) S1 P) : W (newKD idx md l n f tl δ) S P := W.bind (h.imp fun _ _ q => W.ite q.1 (W.ite q.2.1 q.2.2))
theorem W.tgd {k : DEnv → M D} {v : D} {kvs : List (Key × D)} (e : δ[i]?.join = some (.dct kvs)) (h : W (k δ) S fun y S' => W (keyD y) S' fun key S2 => kvs.length < sizeLine ∧ PE (δ.set i (some (.dct (putKD kvs key v)))) S2) : W (tgD i k v δ) S PE := by
  unfold tgD
  refine W.bind (W.rdd e (W.bind (W.pure (W.bind (h.imp fun y S' q => W.bind (q.imp fun key S2 q => W.ite q.1 (W.pure q.2)))))))
theorem W.mput {k : Nat} (ht : W (t δ) S fun v S1 => δ[i]?.join = some (.mt k) ∧ W (u δ) S1 fun y S2 => ∃ n j ds, y = .int n ∧ S2[k]? = some (.lst ds) ∧ ixN ds.length n = some j ∧ PS (δ, .nx) (S2.set k (.lst (ds.set j v)))) : W (mputS i u t δ) S PS := by
  unfold mputS
  refine W.bind (ht.imp fun v S1 ⟨e1, q⟩ => W.bind (W.rdd e1 (W.bind (q.imp fun y S2 ⟨n, j, ds, ey, e2, e3, q⟩ => ?_))))
  subst ey
  refine W.bind (W.eq (a := ds) (S' := S2) (by show (match S2[k]? with | some (.lst ds) => some (Except.ok ds, S2) | _ => none) = _; rw [e2]) ?_)
  exact W.bind (W.opt e3 (W.bind (W.eq rfl (W.pure q))))
theorem W.ixm {k : Nat} {ds : List D} {z : Int} (e : S[k]? = some (.lst ds)) (ea : atI ds z = some d) (h : P d S) : W (ixMD (.mt k) (.int z)) S P := by
  unfold ixMD
  exact W.bind (W.eq (a := ds) (S' := S) (by show (match S[k]? with | some (.lst ds) => some (Except.ok ds, S) | _ => none) = _; rw [e]) (W.opt ea h))
theorem W.gt {a b : Int} (h : P (.bl (decide (b < a))) S) : W (gtD (.int a) (.int b)) S P := W.pure h
theorem W.add {a b : Int} (h : P (.int (a + b)) S) : W (addD (.int a) (.int b)) S P := W.pure h
theorem W.mul {a b : Int} (hc : CM a b) (h : P (.int (a * b)) S) : W (mulD (.int a) (.int b)) S P := W.ite hc (W.pure h)
theorem W.mod {a b : Int} (hb : 0 < b) (h : P (.int (a % b)) S) : W (modD (.int a) (.int b)) S P := W.ite hb (W.pure h)
theorem W.fdiv {a b : Int} (hb : CDv a b) (h : P (.int (a / b)) S) : W (fdivD (.int a) (.int b)) S P := W.ite hb (W.pure h)
theorem cm_r {a b : Int} (h1 : -(2 ^ 64) < b) (h2 : b < 2 ^ 64) : CM a b := .inr (.inl ⟨h1, h2⟩)
theorem cdv_r {a b : Int} (h1 : 0 < b) (h2 : b < 10 ^ 60) : CDv a b := ⟨h1, h2⟩
theorem W.intd {a : Int} (h : P (.int a) S) : W (intD [.int a]) S P := W.pure h
theorem W.eqI {a b : Int} (h : P (.bl (decide (a = b))) S) : W (eqD (.int a) (.int b)) S P := W.pure h
theorem W.lenL (h : P (.int ds.length) S) : W (lenD [.lst ds]) S P := W.pure h
theorem W.tbd {x : Bool} (h : PB x S) : W (tbD (.bl x)) S PB := W.pure h
theorem W.ifd {c : Prop} [Decidable c] {A B : Prop} (h1 : c → A) (h2 : ¬ c → B) : if decide c = true then A else B := by
  by_cases hc : c
  · rw [if_pos (decide_eq_true hc)]; exact h1 hc
  · rw [if_neg (by simpa using hc)]; exact h2 hc
theorem W.fors {g : D → DEnv → M DEnv} (h : W (tl δ) S fun xs S1 => W (forL g b xs δ) S1 PS) : W (forS tl g b δ) S PS := W.bind h
theorem W.forn {g : D → DEnv → M DEnv} (h : PS (δ, .nx) S) : W (forL g b [] δ) S PS := W.pure h
theorem W.forc {g : D → DEnv → M DEnv} {x : D} {r : List D} (h : W (g x δ) S fun δ1 S1 => W (b δ1) S1 fun p S2 => match p.2 with | .nx => W (forL g b r p.1) S2 PS | .ct => W (forL g b r p.1) S2 PS | .bk => PS (p.1, .nx) S2 | .rt d => PS (p.1, .rt d) S2) : W (forL g b (x :: r) δ) S PS := by
  unfold forL
  refine W.bind (h.imp fun δ1 S1 q => W.bind (q.imp fun p S2 q => ?_))
  obtain ⟨δ', fl⟩ := p
  cases fl with
  | rt d => exact W.pure q
  | nx => exact q
  | bk => exact W.pure q
  | ct => exact q
theorem W.zip (h : W (tl δ) S fun ds S1 => ∃ x y xs ys, ds = [x, y] ∧ itD x = some xs ∧ itD y = some ys ∧ xs.length = ys.length ∧ PL (pairsD (xs.zip ys)) S1) : W (zipM2 tl δ) S PL := by
  unfold zipM2
  refine W.bind (h.imp fun ds S1 ⟨x, y, xs, ys, e, e1, e2, e3, q⟩ => ?_)
  subst e
  dsimp only
  rw [e1, e2]
  exact W.ite e3 (W.pure q)
theorem W.tgn {x : D} (h : PE (δ.set i (some x)) S) : W (tgN i x δ) S PE := W.pure h
theorem W.tgt2 {x y : D} {g1 g2 : D → DEnv → M DEnv} (h : W (g1 x δ) S fun δ1 S1 => W (g2 y δ1) S1 PE) : W (tgT [g1, g2] (.tup [x, y]) δ) S PE := W.bind (h.imp fun _ _ q => W.bind (q.imp fun _ _ q => W.pure q))
theorem W.app (e : δ[i]?.join = some (.lst ds)) (h : W (t δ) S fun d S1 => ds.length < sizeLine ∧ PS (δ.set i (some (.lst (ds ++ [d]))), .nx) S1) : W (appS i t δ) S PS := by
  unfold appS
  exact W.bind (W.rdd e (W.bind (W.pure (W.bind (h.imp fun _ _ q => W.ite q.1 (W.pure q.2))))))
theorem W.fld {c f : Str} (h : W (t δ) S fun v S1 => ∃ fs, δ[i]?.join = some (.obj c fs) ∧ fs.length < 1000 ∧ PS (δ.set i (some (.obj c (putD f v fs))), .nx) S1) : W (fldS i c f t δ) S PS := by
  unfold fldS
  exact W.bind (h.imp fun _ _ ⟨fs, e, e2, q⟩ => W.bind (W.rdd e (W.bind (W.ite rfl (W.pure (W.ite e2 (W.pure q)))))))
theorem W.notm (h : W (tt δ) S fun x S1 => PB (!x) S1) : W (notM tt δ) S PB := W.bind (h.imp fun _ _ q => W.pure q)
theorem W.fmt (h : W (t δ) S fun d S1 => W (fmtD d) S1 fun x S2 => P (.str x) S2) : W (fmtM t δ) S P := W.bind (h.imp fun _ _ q => W.bind (q.imp fun _ _ q => W.pure q))
theorem W.runi {c : Str} (h : W (b (startD n (.obj c [] :: ds))) S fun p S' => p.2 = .nx ∧ ∃ d, p.1[0]?.join = some d ∧ P d S') : W (runI c n b ds) S P := by
  unfold runI
  refine W.bind (h.imp fun p S' ⟨e, d, e2, q⟩ => ?_)
  rw [e]
  exact W.opt e2 q
theorem W.ife_t (e : tt δ S = some (.ok true, S)) (h : W (t δ) S P) : W (ifE tt t u δ) S P := W.ife (W.eq e (by rw [if_pos rfl]; exact h))
theorem W.ife_f (e : tt δ S = some (.ok false, S)) (h : W (u δ) S P) : W (ifE tt t u δ) S P := W.ife (W.eq e (by rw [if_neg Bool.false_ne_true]; exact h))
theorem W.noErr {α : Type} {m : M α} {Q : α → Sto → Prop} (h : W m S Q) : W (noErr m) S Q := by
  obtain ⟨a, S', e, q⟩ := h
  exact ⟨a, S', by unfold Fg.noErr; rw [e], q⟩
theorem W.disp1 (h : W (ta δ) S fun x S1 => W (tb δ) S1 fun y S2 => W (keyD x) S2 fun k S3 => P (.dct [(k, y)]) S3) : W (dispM [(ta, tb)] δ) S P := by
  unfold dispM pairsM pairsM
  refine W.bind (W.bind ((h.imp fun x S1 q => ?_).noErr))
  refine W.bind ((q.imp fun y S2 q => ?_).noErr)
  refine W.bind (q.imp fun k S3 q => ?_)
  exact W.bind (W.pure (W.pure (W.ite (show 1 ≤ 15 from by decide) (W.pure q))))
theorem W.keys {x : Str} {PK : Key → Sto → Prop} (h : PK (.inr x) S) : W (keyD (.str x)) S PK := W.pure h
theorem W.join {a : Str} {ys : List Str} (hs : strsD ds = some ys) (hj : joinOk a ys) (h : P (.str (Txt.join a ys)) S) : W (joinD (.str a) (.lst ds)) S P := W.bind (W.opt hs (W.ite hj (W.pure h)))
end
def PotS (S : Sto) : Prop := ∃ i j : Int, S = [.lst [.int i, .int j]]
end Fg
namespace Fg
open PySem PySem.Spec PyProof.Rows L2
/-- no repr is under way around -/
abbrev NoG (A : Around) : Prop := A.guards = some []
theorem nog_deeper {A : Around} (h : NoG A) (env : Env) : NoG (A.deeper env) := by
  first | exact h | (unfold NoG Around.deeper; exact h) | (simpa [Around.deeper] using h)
structure FnG (P : Program) (w : World) (K : PySem.W.Frag) (mg : Str → Option Value) (base : Heap) (k : Nat) (f : Addr) (fd : FuncData) (ps : List Str) (sp : Sp) : Prop where
  ln : ∀ vs H Q E, sp vs H Q E → vs.length = ps.length
  go : ∀ (A : Around) (out : List Env) (s : Shared) (H : Hp) (args : Args) (us : List Value) (vs : List V) (Q : VK) (E : XK), NoG A → Room k A → Env0 P w K mg base A out s H → BindsTo s fd args (ps.zip us) → L2.Vals vs us → sp vs H Q E →
    codeAny (model P w) A (.call (.ref f) args) (CR (L2.CX P w) out P w H s Q E) s
section
variable {P : Program} {w : World} {K : PySem.W.Frag} {mg : Str → Option Value} {base : Heap} {j k : Nat} {f : Addr} {fd : FuncData} {N ps : List Str} {sp : Sp}
theorem FnG.up (F : FnG P w K mg base j f fd ps sp) (h : j ≤ k) : FnG P w K mg base k f fd ps sp := ⟨F.ln, fun A out s H args us vs Q E ng hr => F.go A out s H args us vs Q E ng (hr.mono h)⟩
theorem FnG.of (F : FnOk P w K mg base (L2.CX P w) k f fd ps sp) : FnG P w K mg base k f fd ps sp := ⟨F.len, fun A out s H args us vs Q E _ => F.run A out s H args us vs Q E⟩
theorem fnG_lk {name qual : Str} {params : Arguments} {body : List Stmt} {scope : Scope} {dV kV doc pm cdv ct oc : Value} {an od : Option Addr} {osl : Array (Option Value)} (look : K.lookup f = some ⟨oc, od, .func (PySem.W.fnOf name qual params body scope dV kV doc pm an cdv ct), osl⟩)
    (code : PySem.W.codeIn K cdv qual = true) (S : FnScope N ps scope) (len : ∀ vs H Q E, sp vs H Q E → vs.length = ps.length)
    (hb : ∀ (A : Around) (out : List Env) (s : Shared) (H : Hp) (vs : List V) (Q : VK) (E : XK), NoG (A.deeper (envOfC qual scope s.heap.objs.size f cdv)) → Room k (A.deeper (envOfC qual scope s.heap.objs.size f cdv)) → sp vs H Q E →
      ∃ t, PSs (cxOf (L2.CX P w) P w K mg base N qual scope f cdv A out s H E) body t ∧ t { nx := fun _ H' => Q .non H', rt := Q } (start N vs) H) : FnG P w K mg base (k + 1) f (PySem.W.fnOf name qual params body scope dV kV doc pm an cdv ct) ps sp := by
  refine ⟨len, fun A out s H args us vs Q E ng room env bnd rel hsp => ?_⟩
  have base_in : ∀ b o, base.get? b = some o → s.heap.get? b = some o := fun b o e => (env.bs b o e).1
  have kin : K.In s.heap := env.mod.kin.keeps base_in
  refine codeAny_call_function room.depth (kin _ _ look) rfl S.co S.gen rfl (PySem.W.codeRec_of kin code) (bnd _ _ _ _ ?_)
  refine wpAny_newFunctionEnv_cells S.kind (fun y hy => ?_) fun env' he s1 x => ?_
  · obtain ⟨n, v⟩ := y
    exact (S.par n (List.of_mem_zip hy).1).imp id fun q => ⟨q, PySem.W.cellsFrom_some _ _ _ (.inl q)⟩
  subst he
  refine ⟨(env.mod.nolimit.keeps base_in).keeps x.toInCall.keep, codeAny_func ?_⟩
  obtain ⟨t, ht, hq⟩ := hb A out s H vs Q E (nog_deeper ng _) (room.deeper _) hsp
  have I0 := inv_start (CX := L2.CX P w) (E := E) S room.hd env (len _ _ _ _ hsp) rel x
  refine wpAny_mono (ht.run [] s1 (start N vs) H _ I0 hq) (fun fl s' end_ => ?_) fun _ _ z => z
  match fl, end_ with
  | .ret u, ⟨v, σ', H', J, rv, q⟩ => exact ⟨v, H', J.os, J.bare, J.base, J.hok, rv, q⟩
  | .next, ⟨σ', H', J, q⟩ => exact ⟨V.non, H', J.os, J.bare, J.base, J.hok, rfl, q⟩
  | .brk, ⟨_, _, _, q⟩ => exact q.elim
  | .cont, ⟨_, _, _, q⟩ => exact q.elim
theorem fnG_of {x qual : Str} {st : Stmt} (F : Fun K x qual st f fd) (S : FnScope N ps (defScope st)) (len : ∀ vs H Q E, sp vs H Q E → vs.length = ps.length)
    (hb : ∀ (cdv : Value) (A : Around) (out : List Env) (s : Shared) (H : Hp) (vs : List V) (Q : VK) (E : XK), NoG (A.deeper (envOfC qual (defScope st) s.heap.objs.size f cdv)) → Room k (A.deeper (envOfC qual (defScope st) s.heap.objs.size f cdv)) → sp vs H Q E →
      ∃ t, PSs (cxOf (L2.CX P w) P w K mg base N qual (defScope st) f cdv A out s H E) (defBody st) t ∧ t { nx := fun _ H' => Q .non H', rt := Q } (start N vs) H) : FnG P w K mg base (k + 1) f fd ps sp := by
  obtain ⟨oc, od, kV, doc, pm, an, cdv, ct, osl, e, look, code⟩ := F.ex
  subst e
  exact fnG_lk look code S len (hb cdv)
end
/-- a def of the module as its callers see it, where no repr is under way -/
structure CalleeG (P : Program) (w : World) (K : PySem.W.Frag) (mg : Str → Option Value) (base : Heap) (k : Nat) (x : Str) (ps : List Str) (sp : Sp) : Prop where
  ex : ∃ f fd, FnG P w K mg base k f fd ps sp ∧ mg x = some (.ref f) ∧ PySem.W.keepIn K (.ref f) = true ∧ Binds K fd ps []
theorem Callee.g {P : Program} {w : World} {K : PySem.W.Frag} {mg : Str → Option Value} {base : Heap} {k : Nat} {x : Str} {ps : List Str} {sp : Sp} (c : Callee P w K mg base k x ps sp) : CalleeG P w K mg base k x ps sp := by
  obtain ⟨f, fd, F, r⟩ := c.ex
  exact ⟨f, fd, .of F, r⟩
section
variable {X : Cx} {W : WX} {j k : Nat} {x : Str} {ps : List Str} {sp : Sp} {p pos : Pos} {e : Expr} {es : List Expr} {t : TA}
theorem run_fnG {f : Addr} {fd : FuncData} {E : L2.St → XK} {pins : List (Addr × Obj)} {σ : L2.St} {H : Hp} {s : Shared} {Q : VK} {us : List Value} {vs : List V} (F : FnG X.prog X.w X.K X.mg X.base k f fd ps sp) (ng : NoG X.A) (hr : Room k X.A) (hb : Binds X.K fd ps []) (hx : PassesAt (L2.CX X.prog X.w) X σ (E σ))
    (I : Inv X pins σ H s) (r : L2.Vals vs us) (h : sp vs H Q (E σ)) : wpAny (model X.prog X.w) X.A (call (.ref f) us) (EP X pins σ Q) X.xe s := by
  have b := hb s us I.kIn (by rw [List.append_nil, ← r.length]; exact F.ln _ _ _ _ h)
  rw [List.append_nil] at b
  refine wpAny_call (codeAny_mono (F.go X.A X.stack s H ⟨us, []⟩ us vs Q (E σ) ng hr I.env0 b r h) fun out s' got => ?_)
  match out, got with
  | .error e, got => exact hx pins H s e s' I got
  | .ok (.ret u), got => exact I.after got
  | .ok .next, got => exact False.elim got
  | .ok .brk, got => exact False.elim got
  | .ok .cont, got => exact False.elim got
theorem fc_callG (c : CalleeG X.prog X.w X.K X.mg X.base k x ps sp) (ng : NoG X.A) (hr : Room j X.A) (hk : k ≤ j) (hg : Gl X x) (tk : Takes X W) (ha : PA X (e :: es) t) (hdb : (x == ("__debug__" : Str)) = false := by decide) (he : starEach (e :: es) X.env = (false, eval e X.env) :: starEach es X.env := by rfl)
    (hpl : (backTo pos (starEach es X.env)).any (·.1) = false := by rfl) : PE X (.Call (.Name x p) (e :: es) [] pos) (tCallS sp (WE W) t) := by
  obtain ⟨f, fd, F, hm, hkp, hb⟩ := c.ex
  refine ⟨fun pins s σ H Q I h => wpAny_Call_Name_kw (ld_glob I hg hm ?_ hdb)⟩
  exact PySem.W.callWith_K (h₀ := X.base) I.ok.mod.kin hkp (thn (ha.run pos pins s σ H _ I h) fun us s1 ⟨vs, H1, I1, r, q⟩ => ⟨I1.kIn, run_fnG F ng (hr.mono hk) hb (passAt tk σ) I1 r q⟩) he hpl
end
section
variable {P : Program} {w : World} {K : PySem.W.Frag} {mg : Str → Option Value} {base : Heap}
theorem calleeG_of {x : Str} {st : Stmt} {N ps : List Str} {k : Nat} {sp : Sp} (F : FunAt K mg x st) (S : FnScope N ps (defScope st))
    (hb : ∀ (kV doc pm : Value) (an : Option Addr) (cdv ct : Value) (us : List Value), us.length = ps.length → bindArgs (PySem.W.fnOf x x (defArgs st) (defBody st) (defScope st) .none kV doc pm an cdv ct) ⟨us, []⟩ = pure (ps.zip us))
    (len : ∀ vs H Q E, sp vs H Q E → vs.length = ps.length)
    (hbody : ∀ (f : Addr) (cdv : Value) (A : Around) (outer : List Env) (s : Shared) (H : Hp) (vs : List V) (Q : VK) (E : XK), NoG (cxOf (L2.CX P w) P w K mg base N x (defScope st) f cdv A outer s H E).A → Room k (cxOf (L2.CX P w) P w K mg base N x (defScope st) f cdv A outer s H E).A →
      Takes (cxOf (L2.CX P w) P w K mg base N x (defScope st) f cdv A outer s H E) (fun cls d _ H => E cls d H) →
      PassesOwn (model P w) (cxOf (L2.CX P w) P w K mg base N x (defScope st) f cdv A outer s H E).A (cxOf (L2.CX P w) P w K mg base N x (defScope st) f cdv A outer s H E).env (cxOf (L2.CX P w) P w K mg base N x (defScope st) f cdv A outer s H E).xe → sp vs H Q E →
      ∃ t, PSs (cxOf (L2.CX P w) P w K mg base N x (defScope st) f cdv A outer s H E) (defBody st) t ∧ t { nx := fun _ H' => Q .non H', rt := Q } (start N vs) H) :
    CalleeG P w K mg base (k + 1) x ps sp := by
  obtain ⟨f, fd, F, hm⟩ := F.ex
  exact ⟨f, fd, fnG_of F S len fun cdv A outer s H vs Q E ng hr h => hbody f cdv A outer s H vs Q E ng hr (takes_of rfl rfl rfl rfl) (passes_of rfl) h, hm, F.kp, F.binds hb⟩
variable [TQ] {ca ce : Str → Option Addr}
theorem calleeDG_of {x : Str} {st : Stmt} {N ps : List Str} {k n m : Nat} {b : DEnv → M (DEnv × Fl)} (F : FunAt K mg x st) (S : FnScope N ps (defScope st)) (hn : N.length = n := by rfl) (hm : ps.length = m := by rfl)
    (hb : ∀ (kV doc pm : Value) (an : Option Addr) (cdv ct : Value) (us : List Value), us.length = ps.length → bindArgs (PySem.W.fnOf x x (defArgs st) (defBody st) (defScope st) .none kV doc pm an cdv ct) ⟨us, []⟩ = pure (ps.zip us))
    (hbody : ∀ (f : Addr) (cdv : Value) (A : Around) (outer : List Env) (s : Shared) (H : Hp) (Xs : Addr → Prop) (ρ : List Addr) (E : XK), NoG (cxOf (L2.CX P w) P w K mg base N x (defScope st) f cdv A outer s H E).A → Room k (cxOf (L2.CX P w) P w K mg base N x (defScope st) f cdv A outer s H E).A →
      Takes (cxOf (L2.CX P w) P w K mg base N x (defScope st) f cdv A outer s H E) (fun cls d _ H => E cls d H) →
      PassesOwn (model P w) (cxOf (L2.CX P w) P w K mg base N x (defScope st) f cdv A outer s H E).A (cxOf (L2.CX P w) P w K mg base N x (defScope st) f cdv A outer s H E).env (cxOf (L2.CX P w) P w K mg base N x (defScope st) f cdv A outer s H E).xe →
      PSsD (cxOf (L2.CX P w) P w K mg base N x (defScope st) f cdv A outer s H E) ⟨K, ca, ce, H, Xs, ρ, E, none⟩ [] [] [] (defBody st) b) :
    CalleeG P w K mg base (k + 1) x ps (spD K ca ce m (runD n b)) := by
  refine calleeG_of F S hb (fun vs H Q E h => by rw [spD_len h, hm]) fun f cdv A outer s H vs Q E ng hr tk po h => ?_
  obtain ⟨Xs, ρ, ds, S0, hl, st0, p, q⟩ := h
  exact ⟨_, hbody f cdv A outer s H Xs ρ E ng hr tk po, body_of (F := ⟨K, ca, ce, H, Xs, ρ, E, none⟩) hn st0 p q fun _ _ h => h⟩
end
end Fg
namespace Fg
open PySem PySem.Spec PyProof.Rows L2
variable [TQ]
def keyP : Key → PyData
  | .inl i => .int i
  | .inr x => .str x
def pyL (f : D → Option PyData) : List D → Option (List PyData)
  | [] => some []
  | d :: ds => match f d, pyL f ds with
    | some p, some ps => some (p :: ps)
    | _, _ => none
def pyK (f : D → Option PyData) : List (Key × D) → Option (List (PyData × PyData))
  | [] => some []
  | (k, d) :: ds => match f d, pyK f ds with
    | some p, some ps => some ((keyP k, p) :: ps)
    | _, _ => none
def pyN : Nat → D → Option PyData
  | 0, _ => none
  | _ + 1, .non => some .none
  | _ + 1, .bl b => some (.bool b)
  | _ + 1, .int i => some (.int i)
  | _ + 1, .str x => some (.str x)
  | n + 1, .tup ds => (pyL (pyN n) ds).map .tuple
  | n + 1, .lst ds => (pyL (pyN n) ds).map .list
  | n + 1, .dct ds => (pyK (pyN n) ds).map .dict
  | _ + 1, _ => none
def showOk (p : PyData) : Bool := p.showable && decide (p.shown.length ≤ sizeLine) && decide (p.depth ≤ 30)
def reprD : List D → M D
  | [d] => match pyN 20 d with
    | some p => if showOk p = true then pure (.str p.shown) else M.stuck
    | none => M.stuck
  | _ => M.stuck
section
variable {X : Cx} {pins : List (Addr × Obj)} {σ : L2.St} {H : Hp} {s : Shared} {ca : Str → Option Addr} {ρ : List Addr} {G : Hp}
theorem readsL_at {f : D → Option PyData} (ih : ∀ v d p u, Rp X.K ca ρ G v d → f d = some p → RelV v u → ∃ as, Reads s.heap u p as ∧ ∀ b ∈ as, H b ≠ none) :
    ∀ {ds : List D} {vs : List V} {ps : List PyData} {us : List Value}, RpL X.K ca ρ G vs ds → pyL f ds = some ps → L2.Vals vs us → ∃ as, ReadsAll s.heap us ps as ∧ ∀ b ∈ as, H b ≠ none
  | [], _, ps, us, .nil, e, r => by
    cases e
    cases r
    exact ⟨[], .nil, fun b h => by cases h⟩
  | d :: ds, _, ps, us, .cons h t, e, r => by
    unfold pyL at e
    split at e
    · rename_i p ps' e1 e2
      cases e
      cases r with
      | cons r1 r2 =>
        obtain ⟨as, q, qa⟩ := ih _ _ _ _ h e1 r1
        obtain ⟨bs, k, kb⟩ := readsL_at ih t e2 r2
        exact ⟨as ++ bs, .cons q k, fun b hb => (List.mem_append.mp hb).elim (qa b) (kb b)⟩
    · cases e
theorem readsK_at {f : D → Option PyData} (ih : ∀ v d p u, Rp X.K ca ρ G v d → f d = some p → RelV v u → ∃ as, Reads s.heap u p as ∧ ∀ b ∈ as, H b ≠ none) :
    ∀ {ds : List (Key × D)} {vs : List (Key × V)} {ps : List (PyData × PyData)} {kvs : List (Key × Value)} {es : List DictEntry}, RpK X.K ca ρ G vs ds → pyK f ds = some ps → KV vs kvs → Pairs (mixKind X.prog X.w) es kvs →
      ∃ as bs, ReadsAll s.heap (es.map (·.key)) (ps.map (·.1)) as ∧ ReadsAll s.heap (es.map (·.val)) (ps.map (·.2)) bs ∧ as = [] ∧ ∀ b ∈ bs, H b ≠ none
  | [], _, ps, kvs, es, .nil, e, r, pr => by
    cases e
    cases r
    cases pr
    exact ⟨[], [], .nil, .nil, rfl, fun b h => by cases h⟩
  | (k, d) :: ds, _, ps, kvs, es, .cons h t, e, r, pr => by
    unfold pyK at e
    split at e
    · rename_i p ps' e1 e2
      cases e
      cases r with
      | cons r1 r2 =>
        cases pr with
        | cons p1 p2 p3 =>
          rename_i kv kvs' en es'
          obtain ⟨rk, rv⟩ := r1
          obtain ⟨as, bs, q1, q2, ea, qb⟩ := readsK_at ih t e2 r2 p3
          obtain ⟨cs, k1, kc⟩ := ih _ _ _ _ h e1 rv
          subst ea
          refine ⟨[] ++ [], cs ++ bs, .cons ?_ q1, .cons (by show Reads s.heap en.val p cs; rw [p2]; exact k1) q2, rfl, fun b hb => (List.mem_append.mp hb).elim (kc b) (qb b)⟩
          have p1 : keyIs kv.1 en.key = true := p1
          rw [← rk] at p1
          rcases keyIs_shape p1 with ⟨i, t, ek, ev⟩ | ⟨x, t, ek, ev⟩
          · have ek : k = .inl i := ek
            subst ek; show Reads s.heap en.key (.int i) []; rw [ev]; exact .int _ _
          · have ek : k = .inr x := ek
            subst ek; show Reads s.heap en.key (.str x) []; rw [ev]; exact .str _ _
    · cases e
theorem reads_at (I : Inv X pins σ H s) (hG : ∀ b o, G b = some o → H b = some o) : ∀ (n : Nat) (v : V) (d : D) (p : PyData) (u : Value), Rp X.K ca ρ G v d → pyN n d = some p → RelV v u → ∃ as, Reads s.heap u p as ∧ ∀ b ∈ as, H b ≠ none
  | 0, v, d, p, u, h, e, r => by cases e
  | n + 1, v, d, p, u, h, e, r => by
    have ih := reads_at I hG n
    cases h with
    | non => cases e; cases r; exact ⟨[], .none, fun b h => by cases h⟩
    | bl => cases e; cases r; exact ⟨[], .bool _, fun b h => by cases h⟩
    | int => cases e; obtain ⟨t, rfl⟩ := r; exact ⟨[], .int _ _, fun b h => by cases h⟩
    | str => cases e; obtain ⟨t, rfl⟩ := r; exact ⟨[], .str _ _, fun b h => by cases h⟩
    | tup h l =>
      obtain ⟨ps, e1, e⟩ := Option.map_eq_some_iff.mp (show (pyL (pyN n) _).map PyData.tuple = some p from e)
      subst e
      have h : SqT X.K H _ _ := SqT.ext (fun b o e _ => hG b o e) h
      obtain ⟨its, rv, ⟨o, ho, hc, m, hd⟩, _⟩ := I.tuple h
      cases r
      obtain ⟨as, q, qa⟩ := readsL_at ih l e1 rv
      exact ⟨as, .tuple ho hc hd (by simpa using q), qa⟩
    | lst h l =>
      rename_i a vs ds
      obtain ⟨ps, e1, e⟩ := Option.map_eq_some_iff.mp (show (pyL (pyN n) _).map PyData.list = some p from e)
      subst e
      obtain ⟨_, its, m, rv, ho⟩ : vs.length ≤ sizeLine ∧ ∃ (its : List Value) (n : Nat), Vals vs its ∧ s.heap.get? a = some { cls := .type "list", data := .seq its.toArray n } := I.hok a _ (hG _ _ h)
      cases r
      obtain ⟨as, q, qa⟩ := readsL_at ih l e1 rv
      exact ⟨a :: as, .list ho rfl rfl (by simpa using q), fun b hb => by
        rcases List.mem_cons.mp hb with e | hb
        · subst e; rw [hG _ _ h]; exact fun z => by cases z
        · exact qa b hb⟩
    | dct h l =>
      rename_i a vs ds
      obtain ⟨ps, e1, e⟩ := Option.map_eq_some_iff.mp (show (pyK (pyN n) _).map PyData.dict = some p from e)
      subst e
      obtain ⟨_, _, kvs, rv, o, es, ep, ho, hx, hd, _, hp, _⟩ := dk_of I.hok (hG _ _ h)
      cases r
      obtain ⟨as, bs, q1, q2, ea, qb⟩ := readsK_at ih l e1 rv hp
      subst ea
      exact ⟨a :: [] ++ bs, .dict ho hx.1 hd q1 q2, fun b hb => by
        rcases List.mem_cons.mp hb with e | hb
        · subst e; rw [hG _ _ h]; exact fun z => by cases z
        · exact qb b hb⟩
    | obj => cases e
    | mt => cases e
    | kd => cases e
    | fd => cases e
    | exc => cases e
/-- repr(x) of data -/
def fRepr (K : PySem.W.Frag) (ca : Str → Option Addr) : List V → Hp → VK → Prop := fun xs H Q => ∃ x ρ G d p, xs = [x] ∧ (∀ b o, G b = some o → H b = some o) ∧ Rp K ca ρ G x d ∧ pyN 20 d = some p ∧ showOk p = true ∧ Q (.str p.shown) H
theorem f_repr (ng : NoG X.A) (hu : X.A.units + 64 < cLine) (hs : (X.K.lookup sysModules).isSome = true) : CallR X (.builtin "repr") (fRepr X.K ca) := by
  intro pins s σ H xs us Q I r ⟨x, ρ, G, d, p, ex, hG, h, e, ok, q⟩
  subst ex
  cases r with
  | cons r1 r2 =>
    cases r2
    rename_i u
    unfold showOk at ok
    simp only [Bool.and_eq_true, decide_eq_true_eq] at ok
    obtain ⟨⟨ok, hz⟩, hdp⟩ := ok
    obtain ⟨as, rd, na⟩ := reads_at I hG 20 _ _ _ _ h e r1
    have fin : ∀ h' t tk, (∀ b o, s.heap.get? b = some o → h'.get? b = some o) → EP X pins σ Q (.str p.shown t) { s with heap := h', toks := tk } := fun h' t tk k => ⟨.str p.shown, H, I.kept k, ⟨t, rfl⟩, q⟩
    have sysn : sysModules ∉ as := fun z => by
      obtain ⟨o, eo⟩ := Option.isSome_iff_exists.mp hs
      exact na _ z (I.bs _ _ (I.ok.mod.kin _ _ eo)).2
    cases rd with
    | none => exact P.repr_of_none (fin _ _ _ fun _ _ e => e)
    | bool b => exact P.repr_of_bool (fin _ _ _ fun _ _ e => e)
    | int i t => exact P.repr_of_int (by simpa [PyData.showable] using ok) (fin _ _ _ fun _ _ e => e)
    | str x t => exact P.repr_of_str (fin _ _ _ fun _ _ e => e) hz
    | list h1 h2 h3 h4 => exact repr_of_reads' (.list h1 h2 h3 h4) ok (fun _ => sysn) ng (by omega) (fun _ _ e => e) fin hz
    | tuple h1 h2 h3 h4 => exact repr_of_reads' (.tuple h1 h2 h3 h4) ok (fun _ => sysn) ng (by omega) (fun _ _ e => e) fin hz
    | dict h1 h2 h3 h4 h5 => exact repr_of_reads' (.dict h1 h2 h3 h4 h5) ok (fun _ => sysn) ng (by omega) (fun _ _ e => e) fin hz
end
theorem c_repr {F : Fr} {mi m : Md} {K : PySem.W.Frag} (hK : F.K = K) (h2 : m ≠ .nw) : CallD F mi m (fRepr K F.ca) reprD := by
  intro O B ρ σ δ H S vs ds Q r z q
  subst hK
  unfold reprD at q
  split at q
  · rename_i d
    obtain ⟨v, rfl, y⟩ := z.one
    obtain ⟨G, hG, y⟩ := y.rp
    cases e : pyN 20 d with
    | none => rw [e] at q; exact q.stuck.elim
    | some p =>
      rw [e] at q
      obtain ⟨ok, q⟩ := Ok1.ite q
      exact ⟨v, ρ, G, d, p, rfl, hG, y, e, ok, Ok1.scal r (d := .str _) rfl h2 q⟩
  · exact q.stuck.elim
section
variable {X : Cx} {F : Fr} {O O' O1 O2 OL : List Nat} {m mi : Md} {pos pos2 p tpos : Pos} {a b c e e2 tg o : Expr} {rest es elts : List Expr} {i j k kk n : Nat} {x f : Str} {ps : List Str}
theorem pd_callG {f : List D → M D} {t : DEnv → M (List D)} (c : CalleeG X.prog X.w X.K X.mg X.base k x ps (spD F.K F.ca F.ce n f)) (ng : NoG X.A) (hr : Room j X.A) (hk : k ≤ j) (hg : Gl X x) (tk : Takes X fun cls d _ H => F.W cls d H) (ha : PAD X F O .fz (e :: es) t) (hdb : (x == ("__debug__" : Str)) = false := by decide) (he : starEach (e :: es) X.env = (false, eval e X.env) :: starEach es X.env := by rfl)
    (hpl : (backTo pos (starEach es X.env)).any (·.1) = false := by rfl) : PED X F O .fz (.Call (.Name x p) (e :: es) [] pos) (callD n f t) := pe_imp (fc_callG c ng hr hk hg tk ha hdb he hpl) fun σ H Q ⟨B, ρ, δ, S, r, q⟩ => ⟨B, ρ, δ, S, r, q.bind.imp fun ds S' q vs H' ρ' r' g z => by
  rw [ite_at] at q
  exact spD_at r' z (q.imp fun d S2 k v H2 ρ2 r2 g2 z2 => k v H2 ρ2 r2 (g.tr g2) z2)⟩
end
end Fg
namespace Fg
open PySem PySem.Spec PyProof.Rows L2
variable [TQ]
def keyV : Key → D
  | .inl i => .int i
  | .inr z => .str z
end Fg
namespace Fg
open PySem PySem.Spec PyProof.Rows L2
variable [TQ]
def eqKD (ls : List (Key × D)) (kv : Key × D) : Bool := match getKD ls kv.1 with
  | some d => eqF kv.2 d
  | none => false
end Fg
namespace Fg
open PySem PySem.Spec PyProof.Rows L2
variable [TQ]
section
variable {F : Fr} {O : List Nat} {g : D → DEnv → M DEnv} {tk tv : DEnv → M D} {st : Hp → Prop} {vs : List Nat} {σ : L2.St} {Da : Addr} {Q : Hp → Prop} {Hs : Hp} {ρs : List Addr} {B : Nat → Option Addr} {δ : DEnv}
theorem RinK.gr {m : Md} {ρ ρ' : List Addr} {H H' : Hp} {v : List (Key × V)} {d : List (Key × D)} (h : RinK F m B ρ H v d) (g : Gr ρ NoZ H ρ' H') : RinK F m B ρ' H' v d := by
  cases m
  · exact RpK.mono g.at g.seesF h
  · exact RpK.mono g.at g.seesO h
  · exact RpK.mono g.at g.seesO h
end
end Fg
namespace Fg
open PySem PySem.Spec PyProof.Rows L2
variable [TQ]
section
variable {X : Cx} {F : Fr} {O : List Nat} {m : Md} {pos : Pos} {e : Expr} {j k : Nat} {ps : List Str}
theorem psd_parQ {OL : List Nat} {a b : Expr} {x y : Str} {px py pt pt2 : Pos} {kt k2 : Nat} {ta tb : DEnv → M D} (i j : Nat) (hc : X.calm = true) (hN : X.N.Nodup) (hi : X.N[i]? = some x) (hj : X.N[j]? = some y) (hij : i ≠ j)
    (hx : X.env.scope.names.lookup x = some .local) (hy : X.env.scope.names.lookup y = some .local) (ha : PED X F O .fz a ta) (hb : PED X F O .fz b tb) (hw : swappedStores [.Tuple [.Name x px, .Name y py] kt pt] (.Tuple [a, b] k2 pt2) X.env = pure (some [x, y]) := by rfl)
    (hs : swapsWithSole [.Tuple [.Name x px, .Name y py] kt pt] (.Tuple [a, b] k2 pt2) pos.line X.env = pure false := by rfl)
    (h1 : starEach [a, b] X.env = (false, eval a X.env) :: starEach [b] X.env := by rfl) (h2 : starEach [b] X.env = (false, eval b X.env) :: starEach [] X.env := by rfl) (hio : i ∉ O := by decide) (hjo : j ∉ O := by decide) :
    PSD X F O O OL (.Assign [.Tuple [.Name x px, .Name y py] kt pt] (.Tuple [a, b] k2 pt2) pos) (parS i j ta tb) :=
  psd_par i j hc hN hi hj hij hx hy ha hb hio hjo (ps_par hc hN hi hj hij hx hy (pa_cons ha (pa_cons hb pa_nil (hs := h2)) (hs := h1)) hw hs)
end
end Fg
namespace Fg
open PySem PySem.Spec PyProof.Rows L2
variable [TQ]
section
variable {X : Cx} {pins : List (Addr × Obj)} {σ : L2.St} {H : Hp} {s : Shared} {ca : Str → Option Addr} {ρ : List Addr} {Z : Addr → Prop}
/-- a value is one datum only -/
structure Clear (X : Cx) (ca : Str → Option Addr) (ρ : List Addr) (Z : Addr → Prop) (H : Hp) (s : Shared) : Prop where
  inv : ∃ pins σ, Inv X pins σ H s
  hz : ∀ b ∈ ρ, Z b
  nd : ρ.Nodup
  live : ∀ b ∈ ρ, ¬ Nw H b
  cf : ClF X.K ca
theorem Clear.tup (c : Clear X ca ρ Z H s) {a : Addr} {xs ys : List V} (h1 : SqT X.K (hid Z H) a xs) (h2 : SqT X.K (hid Z H) a ys) : xs = ys := by
  obtain ⟨pins, σ, I⟩ := c.inv
  exact I.tuple_inj (SqT.ext (fun b o e _ => (hid_iff.mp e).2) h1) (SqT.ext (fun b o e _ => (hid_iff.mp e).2) h2)
theorem pin_eq {a : Addr} {o o' : Obj} (fr : o.isFreed = false) (h : Pin a o = Pin a o') : o = o' := by
  unfold Pin at h
  injection h with h
  have g : ({ objs := Array.replicate a default } : Heap).objs.size = a := Array.size_replicate
  have k := Heap.get?_push_size ({ objs := Array.replicate a default } : Heap) fr
  rw [g] at k
  have k2 := (congrFun h _).mp k
  exact Option.some.inj (k.symm.trans k2)
theorem EOb.no {G : Hp} {a C : Addr} {o oe : Obj} {vs : List (Str × V)} {xs : List (NestedKey × Addr × Value)} (x : EOb G C oe vs) (e : DOb o xs) (h : Pin a oe = Pin a o) : False := by
  obtain ⟨_, ⟨es, ep, e1, _⟩, _⟩ := e
  rcases x with ⟨dx, t, rfl, _⟩ | ⟨⟨t, rfl⟩, _⟩
  · have q := pin_eq (o := excOb C dx t) rfl h
    rw [← q] at e1
    cases e1
  · have q := pin_eq (o := PySem.HandSPX.excO C t) rfl h
    rw [← q] at e1
    cases e1
theorem EOb.same {G : Hp} {a C C' : Addr} {o o' : Obj} {vs vs' : List (Str × V)} (x : EOb G C o vs) (y : EOb G C' o' vs') (h : Pin a o = Pin a o') : C = C' ∧ vs = vs' := by
  rcases x with ⟨dx, t, rfl, x⟩ | ⟨⟨t, rfl⟩, rfl⟩
  · have q := pin_eq (o := excOb C dx t) rfl h
    rcases y with ⟨dy, u, rfl, y⟩ | ⟨⟨u, rfl⟩, rfl⟩
    · unfold excOb at q
      injection q with q1 q2 q3
      injection q1 with q1
      injection q2 with q2
      subst q1 q2
      cases x.symm.trans y
      exact ⟨rfl, rfl⟩
    · unfold excOb PySem.HandSPX.excO at q
      injection q with q1 q2 q3
      cases q2
  · have q := pin_eq (o := PySem.HandSPX.excO C t) rfl h
    rcases y with ⟨dy, u, rfl, y⟩ | ⟨⟨u, rfl⟩, rfl⟩
    · unfold excOb PySem.HandSPX.excO at q
      injection q with q1 q2 q3
      cases q2
    · unfold PySem.HandSPX.excO at q
      injection q with q1 q2 q3
      injection q1 with q1
      exact ⟨q1, rfl⟩
end
end Fg
namespace Fg
open PySem PySem.Spec PyProof.Rows L2
variable [TQ]
/-- E tells of the class c what its own == answers -/
def EqOwn (P : Program) (w : World) (K : PySem.W.Frag) (mg : Str → Option Value) (base : Heap) (ca ce : Str → Option Addr) (k : Nat) (c : Str) (g : D → D → Option Bool) : Prop :=
  ∃ C ps f, ca c = some C ∧ MCallee P w K mg base k C "__eq__" ps (spD K ca ce 2 f) ∧ (∀ c' D, ca c' = some D → c' ≠ c → PySem.W.subIn K (.ref D) (.ref C) = some false) ∧
    (∀ fs y b, g (.obj c fs) y = some b → ∀ S, f [.obj c fs, y] S = some (.ok (.bl b), S)) ∧ ∀ fs b, g (.obj c fs) (.obj c fs) = some b → b = true
end Fg
namespace Fg
open PySem PySem.Spec PyProof.Rows L2
variable [TQ]
def Free {α : Type} (m : M α) : Prop := ∃ r : Option (Except Ex α), ∀ S, m S = r.map fun a => (a, S)
section
variable {α β : Type} {m : M α} {f : α → M β}
theorem Free.pure (a : α) : Free (pure a : M α) := ⟨some (.ok a), fun _ => rfl⟩
theorem Free.stuck : Free (M.stuck : M α) := ⟨none, fun _ => rfl⟩
theorem Free.bind (h : Free m) (k : ∀ a, Free (f a)) : Free (m >>= f) := by
  obtain ⟨r, h⟩ := h
  have u : ∀ S, (m >>= f) S = M.bind m f S := fun _ => rfl
  cases r with
  | none => exact ⟨none, fun S => by rw [u]; unfold M.bind; rw [h S]; rfl⟩
  | some x =>
    cases x with
    | error e => exact ⟨some (.error e), fun S => by rw [u]; unfold M.bind; rw [h S]; rfl⟩
    | ok a =>
      obtain ⟨r2, h2⟩ := k a
      exact ⟨r2, fun S => by rw [u]; unfold M.bind; rw [h S]; exact h2 S⟩
theorem Free.opt {o : Option α} : Free (M.opt o) := by
  cases o with
  | none => exact ⟨none, fun _ => rfl⟩
  | some a => exact ⟨some (.ok a), fun _ => rfl⟩
theorem Free.ite {c : Prop} [Decidable c] {x y : M α} (h1 : Free x) (h2 : Free y) : Free (if c then x else y) := by split <;> assumption
/-- from one store to another -/
theorem Free.at {S S' S2 : Sto} {x : Except Ex α} (h : Free m) (e : m S = some (x, S')) : m S2 = some (x, S2) := by
  obtain ⟨r, h⟩ := h
  rw [h S] at e
  rw [h S2]
  cases r with
  | none => cases e
  | some y =>
    cases e
    rfl
end
/-- what f answers of two -/
def ev2 (f : List D → M D) (x y : D) : Option Bool := match f [x, y] [] with
  | some (.ok (.bl b), _) => some b
  | _ => none
section
variable {δ : DEnv} {t u ta tb : DEnv → M D} {tl : DEnv → M (List D)} {b c : DEnv → M (DEnv × Fl)} {n i : Nat} {ds : List D} {d : D}
theorem Free.run (h : Free (b (startD n ds))) : Free (runD n b ds) := Free.bind h fun p => by
  obtain ⟨δ', fl⟩ := p
  cases fl <;> first | exact Free.pure _ | exact Free.stuck
theorem Free.rd : Free (rd i δ) := Free.opt
theorem Free.cst : Free (cM d δ) := Free.pure _
theorem Free.nil : Free (nilM δ) := Free.pure _
theorem Free.cons (h1 : Free (t δ)) (h2 : Free (tl δ)) : Free (consM t tl δ) := Free.bind h1 fun _ => Free.bind h2 fun _ => Free.pure _
theorem Free.one {α : Type} {g : D → M α} (h : Free (t δ)) (hg : ∀ d, Free (g d)) : Free (oneM g t δ) := Free.bind h hg
theorem Free.bin {g : D → D → M D} (h1 : Free (ta δ)) (h2 : Free (tb δ)) (hg : ∀ x y, Free (g x y)) : Free (binM g ta tb δ) := Free.bind h1 fun _ => Free.bind h2 fun _ => hg _ _
theorem Free.tup (h : Free (tl δ)) : Free (tupM tl δ) := Free.bind h fun _ => Free.bind (by unfold capL; exact Free.ite (Free.pure _) Free.stuck) fun _ => Free.pure _
theorem Free.fld {c f : Str} {x : D} : Free (fldD c f x) := by cases x <;> first | exact Free.stuck | exact Free.ite Free.opt Free.stuck
theorem Free.meth0 {c mn : Str} {f : List D → M D} (h1 : Free (t δ)) (hf : ∀ x, Free (f [x])) : Free (methD c mn 1 f t nilM δ) := Free.bind h1 fun x => Free.bind (by cases x <;> first | exact Free.stuck | exact Free.ite (Free.pure _) Free.stuck) fun fs => by
  split
  · exact show Free (if ([] : List D).length + 1 = 1 then f [x] else M.stuck) from Free.ite (hf _) Free.stuck
  · exact Free.stuck
end
theorem M.inv {α β : Type} {m : M α} {f : α → M β} {S S' : Sto} {v : β} (h : (m >>= f) S = some (.ok v, S')) : ∃ a S1, m S = some (.ok a, S1) ∧ f a S1 = some (.ok v, S') := by
  have h : M.bind m f S = some (.ok v, S') := h
  unfold M.bind at h
  cases e : m S with
  | none => rw [e] at h; cases h
  | some p =>
    obtain ⟨r, S1⟩ := p
    rw [e] at h
    cases r with
    | error _ => cases h
    | ok a => exact ⟨a, S1, rfl, h⟩
/-- == as isinstance(other, C) and self.m() == other.m() -/
theorem eq_self {c mn : Str} {fP : List D → M D} {g : D → D → M D} (hP : ∀ x, Free (fP [x])) (hg : ∀ x b S S', g x x S = some (.ok (.bl b), S') → b = true) {x : D} {b : Bool} (hx : isO c x = true)
    (e : ev2 (runD 2 (seqS (retS (andE (oneM (isCD c) (rd 1)) (binM g (methD c mn 1 fP (rd 0) nilM) (methD c mn 1 fP (rd 1) nilM)))) skipS)) x x = some b) : b = true := by
  obtain ⟨fs, rfl⟩ := isO_obj hx
  unfold ev2 at e
  split at e
  · rename_i b' S' e2
    obtain rfl : b' = b := Option.some.inj e
    have fr : Free (methD c mn 1 fP (rd 0) nilM [some (.obj c fs), some (.obj c fs)]) := Free.meth0 Free.rd hP
    obtain ⟨⟨δ1, fl⟩, S1, h1, h2⟩ := M.inv e2
    obtain ⟨⟨δ2, fl2⟩, S2, h3, h4⟩ := M.inv h1
    obtain ⟨d, S3, h5, h6⟩ := M.inv h3
    have h6 : some (Except.ok (startD 2 [D.obj c fs, .obj c fs], Fl.rt d), S3) = some (.ok (δ2, fl2), S2) := h6
    cases h6
    have h4 : some (Except.ok (startD 2 [D.obj c fs, .obj c fs], Fl.rt d), S2) = some (.ok (δ1, fl), S1) := h4
    cases h4
    have h2 : some (Except.ok d, S1) = some (.ok (D.bl b'), S') := h2
    cases h2
    obtain ⟨x1, S4, h7, h8⟩ := M.inv h5
    have h7 : some (Except.ok (D.bl (decide (c = c))), []) = some (.ok x1, S4) := h7
    cases h7
    obtain ⟨bb, S5, h9, h10⟩ := M.inv h8
    have h9 : some (Except.ok (decide (c = c)), []) = some (.ok bb, S5) := h9
    cases h9
    rw [if_pos (decide_eq_true rfl)] at h10
    obtain ⟨x2, S6, h11, h12⟩ := M.inv h10
    obtain ⟨x3, S7, h13, h14⟩ := M.inv h12
    have h15 := fr.at (S2 := S6) h11
    have h13 : methD c mn 1 fP (rd 0) nilM [some (.obj c fs), some (.obj c fs)] S6 = some (.ok x3, S7) := h13
    rw [h15] at h13
    cases h13
    exact hg _ _ _ _ h14
  · cases e
end Fg
namespace Fg
open PySem PySem.Spec PyProof.Rows L2
variable [TQ]
theorem EqOwn.up {P : Program} {w : World} {K : PySem.W.Frag} {mg : Str → Option Value} {base : Heap} {ca ce : Str → Option Addr} {k k' : Nat} {c : Str} {g : D → D → Option Bool} (h : EqOwn P w K mg base ca ce k c g) (hk : k ≤ k') : EqOwn P w K mg base ca ce k' c g := by
  obtain ⟨C, ps, f, h1, cc, r⟩ := h
  obtain ⟨g', fd, F, q⟩ := cc.ex
  exact ⟨C, ps, f, h1, ⟨g', fd, F.mono hk, q⟩, r⟩
end Fg
namespace Fg
open PySem PySem.Spec PyProof.Rows L2
variable [TQ]
def triM (f : D → D → D → M D) (t u v : DEnv → M D) : DEnv → M D := fun δ => do
  let x ← t δ
  match x with
  | .str a => (do let y ← u δ; let z ← v δ; f (.str a) y z)
  | _ => M.stuck
end Fg
namespace Fg
open PySem PySem.Spec PyProof.Rows L2
abbrev Rs (α : Type) := Option (Except Ex α × Sto)
/-- the run goes on with f -/
def bnd {α β : Type} (r : Rs α) (f : α → M β) : Rs β := match r with
  | none => none
  | some (.error e, S') => some (.error e, S')
  | some (.ok a, S') => f a S'
/-- a condition that decides a run -/
def cnd {α : Type} (c : Prop) [Decidable c] (x y : M α) (S : Sto) : Rs α := (if c then x else y) S
section
variable {α β : Type} {S S' : Sto}
theorem ev_bind {m : M α} {f : α → M β} : (m >>= f) S = bnd (m S) f := id rfl
theorem ev_pure {a : α} : (pure a : M α) S = some (.ok a, S) := id rfl
theorem ev_ok {a : α} {f : α → M β} : bnd (some (.ok a, S')) f = f a S' := id rfl
theorem ev_er {e : Ex} {f : α → M β} : bnd (some (.error e, S')) f = some (.error e, S') := id rfl
theorem ev_no {f : α → M β} : bnd none f = none := id rfl
theorem ev_ite {c : Prop} [Decidable c] {x y : M α} : (if c then x else y) S = cnd c x y S := id rfl
theorem ev_t {x y : M α} : cnd True x y S = x S := by unfold cnd; rw [if_pos trivial]
theorem ev_f {x y : M α} : cnd False x y S = y S := by unfold cnd; rw [if_neg (fun h => h)]
theorem cnd_t {c : Prop} [Decidable c] (h : c) {x y : M α} : cnd c x y S = x S := by unfold cnd; rw [if_pos h]
theorem ev_some {a : α} : M.opt (some a) S = some (.ok a, S) := id rfl
theorem ev_raise {e : Ex} : (M.raise e : M α) S = some (.error e, S) := id rfl
theorem ev_noErr {a : α} {m : M α} : noErr m S = match m S with
  | some (.error _, _) => none
  | r => r := by unfold noErr; rfl
def nErr (r : Rs α) : Rs α := match r with
  | some (.error _, _) => none
  | r => r
theorem ev_nE {m : M α} : noErr m S = nErr (m S) := id rfl
theorem ev_nEo {a : α} : nErr (some (.ok a, S)) = some (.ok a, S) := id rfl
end
section
variable {S S' : Sto} {δ δ' : DEnv} {i n : Nat} {d x y z : D} {ds es : List D} {o : Option D} {t u v : DEnv → M D} {tl ul : DEnv → M (List D)} {b c : DEnv → M Bool} {s w : DEnv → M (DEnv × Fl)} {g : D → DEnv → M DEnv} {f : List D → M D}
theorem ev_rd0 : rd 0 (some d :: δ) S = some (.ok d, S) := id rfl
theorem ev_rdS : rd (i + 1) (o :: δ) S = rd i δ S := id rfl
theorem ev_st0 : startD 0 [] = [] := id rfl
theorem ev_stN : startD (n + 1) [] = none :: startD n [] := id rfl
theorem ev_stS : startD (n + 1) (d :: ds) = some d :: startD n ds := by
  unfold startD
  rw [List.map_cons, List.length_cons, Nat.succ_sub_succ]
  rfl
def seqF (w : DEnv → M (DEnv × Fl)) (p : DEnv × Fl) : M (DEnv × Fl) := match p.2 with
  | .nx => w p.1
  | _ => pure p
theorem ev_seq : seqS s w δ S = bnd (s δ S) (seqF w) := id rfl
theorem ev_sqn : seqF w (δ, .nx) S = w δ S := id rfl
theorem ev_sqr : seqF w (δ, .rt d) S = some (.ok (δ, .rt d), S) := id rfl
theorem ev_sqb : seqF w (δ, .bk) S = some (.ok (δ, .bk), S) := id rfl
theorem ev_sqc : seqF w (δ, .ct) S = some (.ok (δ, .ct), S) := id rfl
theorem ev_skip : skipS δ S = some (.ok (δ, .nx), S) := id rfl
theorem ev_brk : brkS δ S = some (.ok (δ, .bk), S) := id rfl
theorem ev_ctn : ctS δ S = some (.ok (δ, .ct), S) := id rfl
theorem ev_set : setS i t δ S = bnd (t δ S) fun d => pure (δ.set i (some d), .nx) := id rfl
theorem ev_ret : retS t δ S = bnd (t δ S) fun d => pure (δ, .rt d) := id rfl
theorem ev_drop : dropS t δ S = bnd (t δ S) fun _ => pure (δ, .nx) := id rfl
theorem ev_ifs : ifS b s w δ S = bnd (b δ S) fun k => if k = true then s δ else w δ := id rfl
theorem ev_ife : ifE b t u δ S = bnd (b δ S) fun k => if k = true then t δ else u δ := id rfl
def runF (p : DEnv × Fl) : M D := match p.2 with
  | .nx => pure .non
  | .rt d => pure d
  | _ => M.stuck
theorem ev_run : runD n s ds S = bnd (s (startD n ds) S) runF := id rfl
theorem ev_rnn : runF (δ, .nx) S = some (.ok .non, S) := id rfl
theorem ev_rnr : runF (δ, .rt d) S = some (.ok d, S) := id rfl
def runO (p : DEnv × Fl) : M D := match p.2 with
  | .nx => M.opt p.1[0]?.join
  | _ => M.stuck
theorem ev_runi {k : Str} : runI k n s ds S = bnd (s (startD n (.obj k [] :: ds)) S) runO := id rfl
theorem ev_rni : runO (some d :: δ, .nx) S = some (.ok d, S) := id rfl
theorem ev_app : appS i t δ S = bnd (rd i δ S) fun x => (do let ds ← itL x; let d ← t δ; if ds.length < sizeLine then pure (δ.set i (some (.lst (ds ++ [d]))), Fl.nx) else M.stuck) := id rfl
theorem ev_aug {f : D → D → M D} : augS f i t δ S = bnd (rd i δ S) fun x => (do let y ← t δ; let z ← f x y; pure (δ.set i (some z), Fl.nx)) := id rfl
theorem ev_par {j : Nat} : parS i j t u δ S = bnd (t δ S) fun x => (do let y ← u δ; pure ((δ.set i (some x)).set j (some y), Fl.nx)) := id rfl
theorem ev_fld {k h : Str} : fldS i k h t δ S = bnd (t δ S) fun v => (do
  let x ← rd i δ
  let fs ← asO k x
  if fs.length < 1000 then pure (δ.set i (some (.obj k (putD h v fs))), Fl.nx) else M.stuck) := id rfl
theorem ev_rai {k h : Str} : raiseS k h t δ S = bnd (t δ S) fun d => M.raise ⟨k, [(h, d)]⟩ := id rfl
theorem ev_asO {k : Str} {fs : List (Str × D)} : asO k (.obj k fs) S = some (.ok fs, S) := by
  show (if k = k then pure fs else M.stuck : M (List (Str × D))) S = _
  rw [if_pos rfl]; rfl
theorem ev_tgn : tgN i d δ S = some (.ok (δ.set i (some d)), S) := id rfl
theorem ev_tgT {gs : List (D → DEnv → M DEnv)} : tgT gs (.tup ds) δ S = cnd (ds.length = gs.length) (tgs gs ds δ) M.stuck S := id rfl
theorem ev_tg0 : tgs [] [] δ S = some (.ok δ, S) := id rfl
theorem ev_tgS {gs : List (D → DEnv → M DEnv)} : tgs (g :: gs) (d :: ds) δ S = bnd (g d δ S) (tgs gs ds) := id rfl
theorem ev_fors : forS tl g s δ S = bnd (tl δ S) fun xs => forL g s xs δ := id rfl
theorem ev_for0 : forL g s [] δ S = some (.ok (δ, .nx), S) := id rfl
def forF (g : D → DEnv → M DEnv) (s : DEnv → M (DEnv × Fl)) (r : List D) (p : DEnv × Fl) : M (DEnv × Fl) := match p.2 with
  | .nx => forL g s r p.1
  | .ct => forL g s r p.1
  | .bk => pure (p.1, .nx)
  | .rt d => pure (p.1, .rt d)
def forB (g : D → DEnv → M DEnv) (s : DEnv → M (DEnv × Fl)) (r : List D) (δ : DEnv) : M (DEnv × Fl) := s δ >>= forF g s r
theorem ev_forS : forL g s (d :: ds) δ S = bnd (g d δ S) (forB g s ds) := id rfl
theorem ev_forB : forB g s ds δ S = bnd (s δ S) (forF g s ds) := id rfl
theorem ev_ffn : forF g s ds (δ, .nx) S = forL g s ds δ S := id rfl
theorem ev_ffc : forF g s ds (δ, .ct) S = forL g s ds δ S := id rfl
theorem ev_ffb : forF g s ds (δ, .bk) S = some (.ok (δ, .nx), S) := id rfl
theorem ev_ffr : forF g s ds (δ, .rt d) S = some (.ok (δ, .rt d), S) := id rfl
theorem ev_itL : itL (.lst ds) S = some (.ok ds, S) := id rfl
theorem ev_itT : itT (.tup ds) S = some (.ok ds, S) := id rfl
theorem ev_itS {a : Str} : itS (.str a) S = some (.ok (signsD a), S) := id rfl
theorem ev_tbd {k : Bool} : tbD (.bl k) S = some (.ok k, S) := id rfl
theorem ev_tv : tvM t δ S = bnd (t δ S) tbD := id rfl
theorem ev_not : notM b δ S = bnd (b δ S) fun k => pure (!k) := id rfl
theorem ev_and : andM b c δ S = bnd (b δ S) fun k => if k = true then c δ else pure false := id rfl
theorem ev_or : orM b c δ S = bnd (b δ S) fun k => if k = true then pure true else c δ := id rfl
theorem ev_ande : andE t u δ S = bnd (t δ S) fun x => (do let b ← tbD x; if b = true then u δ else pure (.bl false)) := id rfl
theorem ev_ore : orE t u δ S = bnd (t δ S) fun x => (do let b ← tbD x; if b = true then pure (.bl true) else u δ) := id rfl
theorem ev_tee : teE b δ S = bnd (b δ S) fun k => pure (.bl k) := id rfl
theorem ev_note : notE t δ S = bnd (t δ S) fun x => (do let b ← tbD x; pure (.bl !b)) := id rfl
theorem ev_yes : yesM δ S = some (.ok true, S) := id rfl
theorem ev_cons : consM t tl δ S = bnd (t δ S) fun x => (do let r ← tl δ; pure (x :: r)) := id rfl
theorem ev_nil : nilM δ S = some (.ok [], S) := id rfl
theorem ev_cap : capL ds S = cnd (ds.length ≤ sizeLine) (pure ()) M.stuck S := id rfl
theorem ev_call : callD n f tl δ S = bnd (tl δ S) fun ds => if ds.length = n then f ds else M.stuck := id rfl
theorem ev_ndd {m : Nat} {dd : List D} : newDD m i dd n f tl δ S = bnd (tl δ S) fun ds => if ds.length = m then (if (ds ++ dd.drop i).length + 1 = n then f (ds ++ dd.drop i) else M.stuck) else M.stuck := id rfl
theorem ev_nkd {idx : List Nat} {md : List D} {l : Nat} : newKD idx md l n f tl δ S = bnd (tl δ S) fun ds => if ds.length = l then (if (pick idx (md ++ ds)).length + 1 = n then f (pick idx (md ++ ds)) else M.stuck) else M.stuck := id rfl
theorem ev_nsd : newSD f tl δ S = bnd (tl δ S) fun ds => (do capL ds; f [.tup ds]) := id rfl
theorem ev_star : starM t tl δ S = bnd (t δ S) fun x => (do let ds ← sqD x; let r ← tl δ; pure (ds ++ r)) := id rfl
theorem ev_sqL : sqD (.lst ds) S = some (.ok ds, S) := id rfl
theorem ev_sqT : sqD (.tup ds) S = some (.ok ds, S) := id rfl
theorem ev_met {k h : Str} : methD k h n f t tl δ S = bnd (t δ S) fun x => (do
  let fs ← asO k x
  if fs.lookup h = none then (do let ds ← tl δ; if ds.length + 1 = n then f (x :: ds) else M.stuck) else M.stuck) := id rfl
theorem ev_lc {vs : List Nat} : lcD vs tl g b t δ S = bnd (tl δ S) fun xs => (do let ys ← compL g b t (wipeD δ vs) [] xs; pure (.lst ys)) := id rfl
theorem ev_str {k : D → D → M D} : strM k t u δ S = bnd (t δ S) fun x => match x with
  | .str z => (do let y ← u δ; k (.str z) y)
  | _ => M.stuck := id rfl
theorem ev_slc {k : D → Option Int → Option Int → M D} {l h : DEnv → M (Option Int)} : sliceM k t l h δ S = bnd (t δ S) fun x => (do let lo ← l δ; let hi ← h δ; k x lo hi) := id rfl
theorem ev_chain {p q : D → D → M D} : chainD p q t u v δ S = bnd (t δ S) fun x => (do
  let y ← u δ
  let r ← p x y
  let b ← tbD r
  if b = true then (do let z ← v δ; q y z) else pure (.bl false)) := id rfl
theorem ev_end {hs : List (Str × Str)} {O : List Nat} : endM hs O t δ S = endR hs (t (wipeD δ O) S) := id rfl
theorem ev_endo {hs : List (Str × Str)} : endR hs (some (.ok d, S)) = some (.ok (.lst [.str "given", d]), S) := id rfl
theorem ev_ende {hs : List (Str × Str)} {k h : Str} (e : hs.lookup k = some h) : endR hs (some (.error ⟨k, [(h, d)]⟩, S)) = some (.ok (.lst [.str k, d, .bl true]), S) := by
  show (match hs.lookup k, [(h, d)] with
    | some f, [(g, d)] => if g = f then some (Except.ok (D.lst [.str k, d, .bl true]), S) else none
    | _, _ => none) = _
  rw [e]
  show (if h = h then _ else _) = _
  rw [if_pos rfl]
theorem ev_add {i j : Int} : addD (.int i) (.int j) S = some (.ok (.int (i + j)), S) := id rfl
theorem ev_addS {p q : Str} : addD (.str p) (.str q) S = cnd (p.length + q.length ≤ sizeLine) (pure (.str (p ++ q))) M.stuck S := id rfl
theorem ev_cat : catD (.lst ds) (.lst es) S = cnd (ds.length + es.length ≤ sizeLine) (pure (.lst (ds ++ es))) M.stuck S := id rfl
theorem ev_sub {i j : Int} : subD (.int i) (.int j) S = some (.ok (.int (i - j)), S) := id rfl
theorem ev_mul {i j : Int} : mulD (.int i) (.int j) S = cnd (CM i j) (pure (.int (i * j))) M.stuck S := id rfl
theorem ev_mod {i j : Int} : modD (.int i) (.int j) S = cnd (0 < j) (pure (.int (i % j))) M.stuck S := id rfl
theorem ev_fdiv {i j : Int} : fdivD (.int i) (.int j) S = cnd (CDv i j) (pure (.int (i / j))) M.stuck S := id rfl
theorem ev_lt {i j : Int} : ltD (.int i) (.int j) S = some (.ok (.bl (decide (i < j))), S) := id rfl
theorem ev_le {i j : Int} : leD (.int i) (.int j) S = some (.ok (.bl (decide (i ≤ j))), S) := id rfl
theorem ev_gt {i j : Int} : gtD (.int i) (.int j) S = some (.ok (.bl (decide (j < i))), S) := id rfl
theorem ev_ge {i j : Int} : geD (.int i) (.int j) S = some (.ok (.bl (decide (j ≤ i))), S) := id rfl
theorem ev_eqI {i j : Int} : eqD (.int i) (.int j) S = some (.ok (.bl (decide (i = j))), S) := id rfl
theorem ev_eqS {p q : Str} : eqD (.str p) (.str q) S = some (.ok (.bl (decide (p = q))), S) := id rfl
theorem ev_eqB {p q : Bool} : eqD (.bl p) (.bl q) S = some (.ok (.bl (decide (p = q))), S) := id rfl
theorem ev_neI {i j : Int} : neD (.int i) (.int j) S = some (.ok (.bl (!decide (i = j))), S) := id rfl
theorem ev_neS {p q : Str} : neD (.str p) (.str q) S = some (.ok (.bl (!decide (p = q))), S) := id rfl
theorem ev_neB {p q : Bool} : neD (.bl p) (.bl q) S = some (.ok (.bl (!decide (p = q))), S) := id rfl
theorem ev_nn {k : Bool} : isNonD k .non .non S = some (.ok (.bl !k), S) := id rfl
theorem ev_nI {k : Bool} {i : Int} : isNonD k (.int i) .non S = some (.ok (.bl k), S) := id rfl
theorem ev_nS {k : Bool} {p : Str} : isNonD k (.str p) .non S = some (.ok (.bl k), S) := id rfl
theorem ev_nO {k : Bool} {p : Str} {fs : List (Str × D)} : isNonD k (.obj p fs) .non S = some (.ok (.bl k), S) := id rfl
theorem ev_nD {k : Bool} {fs : List (Key × D)} : isNonD k (.dct fs) .non S = some (.ok (.bl k), S) := id rfl
theorem ev_lenL : lenD [.lst ds] S = some (.ok (.int ds.length), S) := id rfl
theorem ev_lenT : lenD [.tup ds] S = some (.ok (.int ds.length), S) := id rfl
theorem ev_lenS {p : Str} : lenD [.str p] S = cnd (p.length ≤ sizeLine) (pure (.int p.length)) M.stuck S := id rfl
theorem ev_int {i : Int} : intD [.int i] S = some (.ok (.int i), S) := id rfl
theorem ev_ixL {i : Int} : ixD (.lst ds) (.int i) S = M.opt (atI ds i) S := id rfl
theorem ev_ixT {i : Int} : ixD (.tup ds) (.int i) S = M.opt (atI ds i) S := id rfl
theorem ev_fldD {k h : Str} {fs : List (Str × D)} : fldD k h (.obj k fs) S = M.opt (fs.lookup h) S := by
  show (if k = k then M.opt (fs.lookup h) else M.stuck : M D) S = _
  rw [if_pos rfl]
theorem ev_isC {k : Str} {fs : List (Str × D)} : isCD k (.obj k fs) S = some (.ok (.bl true), S) := by
  show some (Except.ok (D.bl (decide (k = k))), S) = _
  rw [decide_eq_true rfl]
theorem ev_neg {i : Int} : negD (.int i) S = some (.ok (.int (-i)), S) := id rfl
theorem ev_tup : tupleD [.lst ds] S = some (.ok (.tup ds), S) := id rfl
theorem ev_fmtS {p : Str} : fmtD (.str p) S = cnd (p.length ≤ sizeLine) (pure p) M.stuck S := id rfl
theorem ev_fmtI {i : Int} : fmtD (.int i) S = cnd (i.natAbs.log2 < 1920) (pure ((toString i : String) : Str) : M Str) M.stuck S := id rfl
theorem ev_slS {p : Str} {l h : Option Int} : slSD (.str p) l h S = cnd (p.length ≤ sizeLine) (pure (.str (cutS p l h))) M.stuck S := id rfl
theorem ev_slL {l h : Option Int} : slLD (.lst ds) l h S = some (.ok (.lst (cutD ds l h)), S) := id rfl
theorem ev_slT {l h : Option Int} : slTD (.tup ds) l h S = some (.ok (.tup (cutD ds l h)), S) := id rfl
theorem ev_part {i : Int} : partD (.int i) S = some (.ok (some i), S) := id rfl
theorem ev_wp0 : wipeD δ [] = δ := id rfl
theorem ev_wpS {vs : List Nat} : wipeD δ (i :: vs) = (wipeD δ vs).set i none := id rfl
theorem ev_sg1 {c : Nat} : isSign ⟨#[c]⟩ = some c := id rfl
theorem ev_inS {k : Bool} {p q : Str} : inSD k (.str p) (.str q) S = bnd (M.opt (isSign p) S) fun c => pure (.bl (opp k (decide (c ∈ q.cps.toList)))) := id rfl
theorem ev_index {p q : Str} : indexD (.str p) (.str q) S = bnd (M.opt (Txt.index0 p q) S) fun k => pure (.int (k : Nat)) := id rfl
theorem ev_ixS {p : Str} {i : Int} : ixD (.str p) (.int i) S = cnd (p.length ≤ sizeLine) (do let c ← M.opt (atI p.cps.toList i); pure (.str ⟨#[c]⟩)) M.stuck S := id rfl
theorem ev_jn0 {a : Str} : joinedM [] a δ S = some (.ok a, S) := id rfl
theorem ev_jnS {ts : List (DEnv → M D)} {a : Str} : joinedM (t :: ts) a δ S = bnd (t δ S) fun x => match x with
    | .str y => if (a ++ y).length ≤ sizeLine then joinedM ts (a ++ y) δ else M.stuck
    | _ => M.stuck := id rfl
end
theorem ev_sz {α : Type} {x y : M α} {S : Sto} {n : Nat} (h : n ≤ 16000000) : cnd (n ≤ sizeLine) x y S = x S := cnd_t (sz_le h)
theorem ev_szl {α : Type} {x y : M α} {S : Sto} {n : Nat} (h : n ≤ 16000000) : cnd (n < sizeLine) x y S = x S := cnd_t (sz_lt h)
theorem ev_at0 {α : Type} {x : α} {r : List α} : atI (x :: r) (0 : Int) = some x := atI_nat (j := 0) rfl
theorem ev_at1 {α : Type} {x y : α} {r : List α} : atI (x :: y :: r) (1 : Int) = some y := atI_nat (j := 1) rfl
theorem ev_at2 {α : Type} {x y z : α} {r : List α} : atI (x :: y :: z :: r) (2 : Int) = some z := atI_nat (j := 2) rfl
theorem ev_at3 {α : Type} {x y z u : α} {r : List α} : atI (x :: y :: z :: u :: r) (3 : Int) = some u := atI_nat (j := 3) rfl
theorem ev_at4 {α : Type} {x y z u v : α} {r : List α} : atI (x :: y :: z :: u :: v :: r) (4 : Int) = some v := atI_nat (j := 4) rfl
theorem ev_at5 {α : Type} {x y z u v w : α} {r : List α} : atI (x :: y :: z :: u :: v :: w :: r) (5 : Int) = some w := atI_nat (j := 5) rfl
theorem ev_tri {f : D → D → D → M D} {t u v : DEnv → M D} {δ : DEnv} {S : Sto} : triM f t u v δ S = bnd (t δ S) fun x => (match x with
  | .str a => (do let y ← u δ; let z ← v δ; f (.str a) y z)
  | _ => M.stuck) := id rfl
section
variable {S : Sto}
theorem bls_map {α : Type} (f : α → Bool) : ∀ xs : List α, blsD (xs.map fun x => D.bl (f x)) = some (xs.map f)
  | [] => rfl
  | x :: r => by
    rw [List.map_cons, List.map_cons]
    show (blsD (r.map fun x => D.bl (f x))).map (f x :: ·) = _
    rw [bls_map f r]
    rfl
theorem all_map {α : Type} (f : α → Bool) (xs : List α) : allD [.lst (xs.map fun x => D.bl (f x))] S = some (.ok (.bl (xs.all f)), S) := by
  show ((M.opt (blsD (xs.map fun x => D.bl (f x))) >>= fun bs => pure (.bl (bs.all id)) : M D)) S = _
  rw [bls_map, ev_bind, ev_some, ev_ok, ev_pure, List.all_map]
  rfl
end
end Fg
namespace Fg
open PySem PySem.Spec PyProof.Rows L2
variable [TQ]
instance (i j : Int) : Decidable (CDiv i j) := by unfold CDiv; infer_instance
def divmodD : List D → M D
  | [.int i, .int j] => if CDiv i j then pure (.tup [.int (i / j), .int (i % j)]) else M.stuck
  | _ => M.stuck
section
variable {X : Cx} {F : Fr} {m : Md}
theorem ev_divmod {S : Sto} {i j : Int} : divmodD [.int i, .int j] S = cnd (CDiv i j) (pure (.tup [.int (i / j), .int (i % j)])) M.stuck S := id rfl
end
end Fg
namespace Fg
open PySem PySem.Spec PyProof.Rows L2
variable [TQ]
def tgM (i : Nat) (k : DEnv → M D) : D → DEnv → M DEnv := fun v δ => do
  let x ← rd i δ
  let y ← k δ
  let ds ← mtL x
  match y with
  | .int n => (do let j ← M.opt (ixN ds.length n); mtSet x (ds.set j v); pure δ)
  | _ => M.stuck
theorem ev_tgM {i : Nat} {k : DEnv → M D} {v : D} {δ : DEnv} {S : Sto} : tgM i k v δ S = bnd (rd i δ S) fun x => (do
  let y ← k δ
  let ds ← mtL x
  match y with
  | .int n => (do let j ← M.opt (ixN ds.length n); mtSet x (ds.set j v); pure δ)
  | _ => M.stuck) := id rfl
end Fg
namespace Fg
open PySem PySem.Spec PyProof.Rows L2
variable [TQ]
def getOrM (t u w : DEnv → M D) : DEnv → M D := fun δ => do
  let x ← t δ
  let kvs ← asDct x
  let y ← u δ
  let z ← w δ
  match y with
  | .str k => pure ((getKD kvs (.inr k)).getD z)
  | _ => M.stuck
theorem ev_getOr {t u w : DEnv → M D} {δ : DEnv} {S : Sto} : getOrM t u w δ S = bnd (t δ S) fun x => (do
  let kvs ← asDct x
  let y ← u δ
  let z ← w δ
  match y with
  | .str k => pure ((getKD kvs (.inr k)).getD z)
  | _ => M.stuck) := id rfl
end Fg
namespace Fg
open PySem PySem.Spec PyProof.Rows L2
variable [TQ]
def tryR (c : Str) (r : Rs D) : Rs D := match r with
  | some (.error e, S') => if e.c = c then some (.ok .non, S') else some (.error e, S')
  | r => r
def tryN (c : Str) (t : DEnv → M D) : DEnv → M D := fun δ S => tryR c (t δ S)
theorem ev_tryo {c : Str} {d : D} {S : Sto} : tryR c (some (.ok d, S)) = some (.ok d, S) := id rfl
theorem ev_tryN {c : Str} {t : DEnv → M D} {δ : DEnv} {S : Sto} : tryN c t δ S = tryR c (t δ S) := id rfl
theorem ev_trye {c : Str} {fs : List (Str × D)} {S : Sto} : tryR c (some (.error ⟨c, fs⟩, S)) = some (.ok .non, S) := by
  show (if c = c then _ else _) = _
  rw [if_pos rfl]
structure KFn (P : Program) (w : World) (K : PySem.W.Frag) (mg : Str → Option Value) (base : Heap) (k : Nat) (x : Str) (st : Stmt) (ps : List Str) (sp : Sp) : Prop where
  ex : ∃ f fd, FnOk P w K mg base (L2.CX P w) k f fd ps sp ∧ mg x = some (.ref f) ∧ Fun K x x st f fd
section
variable {P : Program} {w : World} {K : PySem.W.Frag} {mg : Str → Option Value} {base : Heap}
theorem KFn.plain {x : Str} {st : Stmt} {ps : List Str} {k : Nat} {sp : Sp} (c : KFn P w K mg base k x st ps sp)
    (hb : ∀ (kV doc pm : Value) (an : Option Addr) (cdv ct : Value) (us : List Value), us.length = ps.length → bindArgs (PySem.W.fnOf x x (defArgs st) (defBody st) (defScope st) .none kV doc pm an cdv ct) ⟨us, []⟩ = pure (ps.zip us)) : Callee P w K mg base k x ps sp := by
  obtain ⟨f, fd, F, hm, Fu⟩ := c.ex
  exact ⟨f, fd, F, hm, Fu.kp, Fu.binds hb⟩
variable {ca ce : Str → Option Addr}
end
end Fg
namespace PySem.SeqAt
open PySem
open MeetsSeq MeetsSeq2 MeetsSeq3
open PySem.W
end PySem.SeqAt
namespace Fg
open PySem PySem.Spec PyProof.Rows L2
variable [TQ]
def kindD : D → Option Nat
  | .non | .bl _ | .int _ | .str _ => some 0
  | .lst _ => some 1
  | .tup _ => some 2
  | .dct _ => some 3
  | _ => none
/-- == of data of any kinds, own objects by E -/
def eqU (E : Str → D → D → Option Bool) : Nat → D → D → Option Bool
  | 0, _, _ => none
  | n + 1, x, y => match x, y with
    | .lst xs, .lst ys => if xs.length = ys.length then (eqNL (eqU E n) xs ys).map (·.all id) else some false
    | .tup xs, .tup ys => (eqNL (eqU E n) xs ys).map fun bs => bs.all id && xs.length == ys.length
    | .dct ks, .dct ls => if (ks.all fun p => scalD p.2) = true ∧ (ls.all fun p => scalD p.2) = true ∧ (ks.map (·.1)).Nodup then some (ks.length == ls.length && ks.all (eqKD ls)) else none
    | .obj c fs, y => if isMt y = true then none else E c (.obj c fs) y
    | .str z, .obj c fs => E c (.obj c fs) (.str z)
    | x, y => match kindD x, kindD y with
      | some i, some j => if i = j then (if scalD x = true ∧ scalD y = true then some (eqF x y) else none) else some false
      | _, _ => none
end Fg
namespace Fg
open PySem PySem.Spec PyProof.Rows L2
variable [TQ]
def isBlD : D → D → M D
  | .bl a, .bl b => pure (.bl (decide (a = b)))
  | .non, .bl _ => pure (.bl false)
  | .int _, .bl _ => pure (.bl false)
  | .str _, .bl _ => pure (.bl false)
  | _, _ => M.stuck
theorem ev_isbI {i : Int} {b : Bool} {S : Sto} : isBlD (.int i) (.bl b) S = some (.ok (.bl false), S) := id rfl
theorem ev_isbB {a b : Bool} {S : Sto} : isBlD (.bl a) (.bl b) S = some (.ok (.bl (decide (a = b))), S) := id rfl
def ltSD : D → D → M D
  | .str a, .str b => pure (.bl (decide (a.cps.toList < b.cps.toList)))
  | _, _ => M.stuck
def geSD : D → D → M D
  | .str a, .str b => pure (.bl (!decide (a.cps.toList < b.cps.toList)))
  | _, _ => M.stuck
theorem ev_ltS {a b : Str} {S : Sto} : ltSD (.str a) (.str b) S = some (.ok (.bl (decide (a.cps.toList < b.cps.toList))), S) := id rfl
theorem ev_geS {a b : Str} {S : Sto} : geSD (.str a) (.str b) S = some (.ok (.bl (!decide (a.cps.toList < b.cps.toList))), S) := id rfl
end Fg
namespace Fg
open PySem PySem.Spec PyProof.Rows L2
def parS3 (i j l : Nat) (ta tb tc : DEnv → M D) : DEnv → M (DEnv × Fl) := fun δ => do let x ← ta δ; let y ← tb δ; let z ← tc δ; pure (((δ.set i (some x)).set j (some y)).set l (some z), Fl.nx)
theorem ev_par3 {i j l : Nat} {t u v : DEnv → M D} {δ : DEnv} {S : Sto} : parS3 i j l t u v δ S = bnd (t δ S) fun x => (do let y ← u δ; let z ← v δ; pure (((δ.set i (some x)).set j (some y)).set l (some z), Fl.nx)) := id rfl
variable [TQ]
end Fg
namespace Fg
open PySem PySem.Spec PyProof.Rows L2
variable [TQ]
def regM (t : DEnv → M D) : DEnv → M D := fun δ => do
  let d ← t δ
  fun S => some (.ok (.mt S.length), S ++ [d])
def asOM (c : Str) : D → M (List (Str × D))
  | .obj c' fs => if c' = c then pure fs else M.stuck
  | .mt k => fun S => match S[k]? with
    | some (.obj c' fs) => if c' = c then some (.ok fs, S) else none
    | _ => none
  | _ => M.stuck
def fldXD (c f : Str) (x : D) : M D := do
  let fs ← asOM c x
  M.opt (fs.lookup f)
def methXD (c mn : Str) (n : Nat) (f : List D → M D) (t : DEnv → M D) (u : DEnv → M (List D)) : DEnv → M D := fun δ => do
  let x ← t δ
  let fs ← asOM c x
  if fs.lookup mn = none then (do let ds ← u δ; if ds.length + 1 = n then f (x :: ds) else M.stuck) else M.stuck
def methXK (c mn : Str) (idx : List Nat) (len n : Nat) (f : List D → M D) (t : DEnv → M D) (u : DEnv → M (List D)) : DEnv → M D := fun δ => do
  let x ← t δ
  let fs ← asOM c x
  if fs.lookup mn = none then (do let ds ← u δ; if ds.length = len ∧ (pick idx (x :: ds)).length = n then f (pick idx (x :: ds)) else M.stuck) else M.stuck
def callXD (c : Str) (n : Nat) (f : List D → M D) (t : DEnv → M D) (u : DEnv → M (List D)) : DEnv → M D := fun δ => do
  let x ← t δ
  let _ ← asOM c x
  let ds ← u δ
  let _ ← asOM c x
  if ds.length + 1 = n then f (x :: ds) else M.stuck
def mtPut (c f : Str) (v : D) : D → M Unit
  | .mt k => fun S => match S[k]? with
    | some (.obj c' fs) => if c' = c ∧ fs.length < 1000 then some (.ok (), S.set k (.obj c (putD f v fs))) else none
    | _ => none
  | _ => M.stuck
def mfldS (i : Nat) (c f : Str) (t : DEnv → M D) : DEnv → M (DEnv × Fl) := fun δ => do
  let v ← t δ
  let x ← rd i δ
  mtPut c f v x
  pure (δ, Fl.nx)
end Fg
namespace Fg
open PySem PySem.Spec PyProof.Rows L2
variable [TQ]
def mtK : D → M (List (Key × D))
  | .mt k => fun S => match S[k]? with
    | some (.dct ds) => some (.ok ds, S)
    | _ => none
  | _ => M.stuck
def mtSetK : D → List (Key × D) → M Unit
  | .mt k, ds => fun S => some (.ok (), S.set k (.dct ds))
  | _, _ => M.stuck
/-- d[k] of a dict in the store -/
def dgetMD (x y : D) : M D := do
  let kvs ← mtK x
  let k ← keyD y
  M.opt (getKD kvs k)
/-- d[k] = e of a dict in the store, as a target -/
def tgMD (i : Nat) (k : DEnv → M D) : D → DEnv → M DEnv := fun v δ => do
  let x ← rd i δ
  let y ← k δ
  let kvs ← mtK x
  let key ← keyD y
  if kvs.length < sizeLine then (do mtSetK x (putKD kvs key v); pure δ) else M.stuck
end Fg
namespace Fg
open PySem PySem.Spec PyProof.Rows L2
section
variable {S S' : Sto} {δ : DEnv} {i k : Nat} {x y : D} {t : DEnv → M D} {c f : Str} {fs : List (Str × D)} {kvs : List (Key × D)}
theorem ev_reg : regM t δ S = bnd (t δ S) fun d S => some (.ok (.mt S.length), S ++ [d]) := id rfl
theorem ev_fldXD : fldXD c f x S = bnd (asOM c x S) fun fs => M.opt (fs.lookup f) := id rfl
theorem ev_methX {mn : Str} {n : Nat} {g : List D → M D} {u : DEnv → M (List D)} : methXD c mn n g t u δ S = bnd (t δ S) fun x => (do
  let fs ← asOM c x
  if fs.lookup mn = none then (do let ds ← u δ; if ds.length + 1 = n then g (x :: ds) else M.stuck) else M.stuck) := id rfl
theorem ev_methXK {mn : Str} {idx : List Nat} {len n : Nat} {g : List D → M D} {u : DEnv → M (List D)} : methXK c mn idx len n g t u δ S = bnd (t δ S) fun x => (do
  let fs ← asOM c x
  if fs.lookup mn = none then (do let ds ← u δ; if ds.length = len ∧ (pick idx (x :: ds)).length = n then g (pick idx (x :: ds)) else M.stuck) else M.stuck) := id rfl
theorem ev_callX {n : Nat} {g : List D → M D} {u : DEnv → M (List D)} : callXD c n g t u δ S = bnd (t δ S) fun x => (do
  let _ ← asOM c x
  let ds ← u δ
  let _ ← asOM c x
  if ds.length + 1 = n then g (x :: ds) else M.stuck) := id rfl
theorem ev_mfld : mfldS i c f t δ S = bnd (t δ S) fun v => (do
  let x ← rd i δ
  mtPut c f v x
  pure (δ, Fl.nx)) := id rfl
theorem ev_dgetM : dgetMD x y S = bnd (mtK x S) fun kvs => (do let k ← keyD y; M.opt (getKD kvs k)) := id rfl
theorem ev_tgMD {v : D} {u : DEnv → M D} : tgMD i u v δ S = bnd (rd i δ S) fun x => (do
  let y ← u δ
  let kvs ← mtK x
  let key ← keyD y
  if kvs.length < sizeLine then (do mtSetK x (putKD kvs key v); pure δ) else M.stuck) := id rfl
end
end Fg
namespace Fg
open PySem PySem.Spec PyProof.Rows L2
variable [TQ]
def inDkD (neg : Bool) (x y : D) : M D := do
  let k ← keyD x
  let kvs ← asDct y
  pure (.bl (opp neg (getKD kvs k).isSome))
end Fg
namespace Fg
open PySem PySem.Spec PyProof.Rows L2
section
variable {S : Sto} {δ : DEnv}
theorem ev_inDk {neg : Bool} {z : Str} {kvs : List (Key × D)} : inDkD neg (.str z) (.dct kvs) S = some (.ok (.bl (opp neg (getKD kvs (.inr z)).isSome)), S) := id rfl
end
end Fg
namespace Fg
open PySem PySem.Spec PyProof.Rows L2
variable [TQ]
/-- how it ends: given and shown, or an error among hs, its field shown -/
def endRR (hs : List (Str × Str)) : Option (Except Ex D × Sto) → Option (Except Ex D × Sto)
  | some (.ok d, S) => (do let z ← reprD [d]; pure (.lst [.str "given", z]) : M D) S
  | some (.error e, S) => match hs.lookup e.c, e.fs with
    | some f, [(g, d)] => if g = f ∧ f ≠ "" then (do let z ← reprD [d]; pure (.lst [.str e.c, z]) : M D) S else none
    | some f, [] => if f = "" then (pure (.lst [.str e.c]) : M D) S else none
    | _, _ => none
  | none => none
def endRM (hs : List (Str × Str)) (O : List Nat) (t : DEnv → M D) : DEnv → M D := fun δ S => endRR hs (t (wipeD δ O) S)
end Fg
namespace Fg
open PySem PySem.Spec PyProof.Rows L2
section
variable {S : Sto} {δ : DEnv}
theorem ev_endRM {hs : List (Str × Str)} {O : List Nat} {t : DEnv → M D} : endRM hs O t δ S = endRR hs (t (wipeD δ O) S) := id rfl
theorem ev_endRo {hs : List (Str × Str)} {d : D} : endRR hs (some (.ok d, S)) = bnd (reprD [d] S) fun z => pure (.lst [.str "given", z]) := id rfl
theorem ev_endRe {hs : List (Str × Str)} {k h : Str} {d : D} (e : hs.lookup k = some h) (n : h ≠ "" := by decide +kernel) : endRR hs (some (.error ⟨k, [(h, d)]⟩, S)) = bnd (reprD [d] S) fun z => pure (.lst [.str k, z]) := by
  show (match hs.lookup k, [(h, d)] with
    | some f, [(g, d)] => if g = f ∧ f ≠ "" then (do let z ← reprD [d]; pure (.lst [.str k, z]) : M D) S else none
    | some f, [] => if f = "" then (pure (.lst [.str k]) : M D) S else none
    | _, _ => none) = _
  rw [e]
  show (if h = h ∧ h ≠ "" then _ else _) = _
  rw [if_pos ⟨rfl, n⟩]
  rfl
theorem ev_endRz {hs : List (Str × Str)} {k : Str} (e : hs.lookup k = some "") : endRR hs (some (.error ⟨k, []⟩, S)) = some (.ok (.lst [.str k]), S) := by
  show (match hs.lookup k, ([] : List (Str × D)) with
    | some f, [(g, d)] => if g = f ∧ f ≠ "" then (do let z ← reprD [d]; pure (.lst [.str k, z]) : M D) S else none
    | some f, [] => if f = "" then (pure (.lst [.str k]) : M D) S else none
    | _, _ => none) = _
  rw [e]
  rfl
end
end Fg
namespace Fg
open PySem PySem.Spec PyProof.Rows L2
variable [TQ]
def tgL (gs : List (D → DEnv → M DEnv)) : D → DEnv → M DEnv := fun d δ => match d with
  | .lst ds => if ds.length = gs.length then tgs gs ds δ else M.stuck
  | _ => M.stuck
end Fg
namespace Fg
open PySem PySem.Spec PyProof.Rows L2
theorem ev_tgL {gs : List (D → DEnv → M DEnv)} {ds : List D} {δ : DEnv} {S : Sto} : tgL gs (.lst ds) δ S = cnd (ds.length = gs.length) (tgs gs ds δ) M.stuck S := id rfl
end Fg
namespace Fg
open PySem PySem.Spec PyProof.Rows L2
def rCountF (K : PySem.W.Frag) : V → List V → Hp → VK → Prop := fun x xs H Q => ∃ (a : Addr) (ys : List V) (y : V), x = V.ref a ∧ xs = [y] ∧ SqL K H a ys ∧ flatV y = true ∧ ys.all flatV = true ∧ Q (.int (ys.countP fun z => eqV z y : Nat)) H
theorem countU {y : V} {uy : Value} (ry : RelV y uy) (fy : flatV y = true) : ∀ {ys : List V} {us : List Value}, L2.Vals ys us → ys.all flatV = true → us.countP (L2.eqU y) = ys.countP fun z => eqV z y
  | [], _, r, _ => by cases r; rfl
  | z :: ys, _, .cons h t, f => by
    rw [List.all_cons, Bool.and_eq_true] at f
    rw [List.countP_cons, List.countP_cons, countU ry fy t f.2, L2.eqU_of h f.1]
theorem mt_countF {X : Cx} : MtR X "list.count" (rCountF X.K) := by
  intro pins s σ H x xs v us Q I rx rxs h
  obtain ⟨a, ys, y, rfl, rfl, hs, fy, fys, q⟩ := h
  cases rx
  cases rxs with
  | cons ry rt =>
    rename_i uy ut
    cases rt
    obtain ⟨its, rv, ⟨⟨cls, dd, data, sl⟩, n, ho, hc, hdn, hd⟩, hlen⟩ := I.list hs
    simp only at hc hd
    subst hc hd
    refine call_meets PySem.F.slot_list_count ⟨_, ho, rfl⟩ PySem.F.entry_list_count (PySem.F.args_list_count_2 _ _)
      (SeqAt.list_countAt a its.toArray n dd sl uy (L2.eqU y)) ⟨ho, fun u' hu' => L2.mem_eqAt ry fy rv fys u' (by simpa using hu'), ?_⟩
    have e : its.toArray.toList.countP (L2.eqU y) = ys.countP fun z => eqV z y := countU ry fy rv fys
    rw [e]
    exact ⟨.int ((ys.countP fun z => eqV z y : Nat) : Int), H, I.tok _, ⟨_, rfl⟩, q⟩
end Fg
namespace Fg
open PySem PySem.Spec PyProof.Rows L2
variable [TQ]
section
variable {X : Cx} {F : Fr} {O : List Nat} {m mi : Md} {o : Expr} {pos apos : Pos}
def upperD : D → M D
  | .str z => if z.length ≤ 5592405 then pure (.str (Txt.upper z)) else M.stuck
  | _ => M.stuck
end
end Fg
namespace Fg
open PySem PySem.Spec PyProof.Rows L2
theorem ev_upper {z : Str} {S : Sto} : upperD (.str z) S = cnd (z.length ≤ 5592405) (pure (.str (Txt.upper z))) M.stuck S := id rfl
end Fg
namespace Fg
open PySem PySem.Spec PyProof.Rows L2
variable [TQ]
def lenM2 : List D → M D
  | [.mt k] => (do let ds ← mtL (.mt k); pure (.int (ds.length : Nat)))
  | ds => lenD ds
def ixM2 : D → D → M D
  | .mt k, y => ixMD (.mt k) y
  | x, y => ixD x y
/-- xs == [] of a list in the store -/
def nilMD (neg : Bool) : D → D → M D
  | .mt k, .lst [] => (do let ds ← mtL (.mt k); pure (.bl (opp neg ds.isEmpty)))
  | x, y => eqBD neg x y
def mappS (i : Nat) (t : DEnv → M D) : DEnv → M (DEnv × Fl) := fun δ => do
  let x ← rd i δ
  let _ ← mtL x
  let v ← t δ
  let ds ← mtL x
  if ds.length < sizeLine then (do mtSet x (ds ++ [v]); pure (δ, Fl.nx)) else M.stuck
end Fg
namespace Fg
open PySem PySem.Spec PyProof.Rows L2
section
variable {S : Sto} {ds : List D} {k : Nat} {y : D} {δ : DEnv} {i : Nat} {t : DEnv → M D} {neg : Bool}
theorem ev_lenM2L : lenM2 [.lst ds] S = lenD [.lst ds] S := id rfl
theorem ev_lenM2M : lenM2 [.mt k] S = bnd (mtL (.mt k) S) fun ds => pure (.int (ds.length : Nat)) := id rfl
theorem ev_ixM2L : ixM2 (.lst ds) y S = ixD (.lst ds) y S := id rfl
theorem ev_ixM2M : ixM2 (.mt k) y S = ixMD (.mt k) y S := id rfl
theorem ev_nilMM : nilMD neg (.mt k) (.lst []) S = bnd (mtL (.mt k) S) fun ds => pure (.bl (opp neg ds.isEmpty)) := id rfl
theorem ev_mapp : mappS i t δ S = bnd (rd i δ S) fun x => (do
  let _ ← mtL x
  let v ← t δ
  let ds ← mtL x
  if ds.length < sizeLine then (do mtSet x (ds ++ [v]); pure (δ, Fl.nx)) else M.stuck) := id rfl
end
end Fg
namespace Fg
open PySem PySem.Spec PyProof.Rows L2
variable [TQ]
def raise0S (c : Str) : DEnv → M (DEnv × Fl) := fun _ => M.raise ⟨c, []⟩
def tryFinS (b f : DEnv → M (DEnv × Fl)) : DEnv → M (DEnv × Fl) := fun δ => do
  let p ← noErr (b δ)
  match p.2 with
  | .nx => noErr (f p.1)
  | _ => M.stuck
def zfillD : D → D → M D
  | .str z, .int i => if PadOk i = true then pure (.str (Txt.zfill z i)) else M.stuck
  | _, _ => M.stuck
/-- the frame in which nothing is raised -/
abbrev Fr.w0 (F : Fr) : Fr := { F with W := fun _ _ _ => False }
section
variable {S : Sto} {δ : DEnv}
theorem ev_raise0 {c : Str} : raise0S c δ S = some (.error ⟨c, []⟩, S) := id rfl
theorem ev_tryFin {b f : DEnv → M (DEnv × Fl)} : tryFinS b f δ S = bnd (nErr (b δ S)) fun p => (match p.2 with
  | .nx => noErr (f p.1)
  | _ => M.stuck) := id rfl
theorem ev_zfill {z : Str} {i : Int} : zfillD (.str z) (.int i) S = cnd (PadOk i = true) (pure (.str (Txt.zfill z i))) M.stuck S := id rfl
end
end Fg
namespace Fg
open PySem PySem.Spec PyProof.Rows L2
variable [TQ]
def methXS (c mn : Str) (f : List D → M D) (t : DEnv → M D) (u : DEnv → M (List D)) : DEnv → M D := fun δ => do
  let x ← t δ
  let fs ← asOM c x
  if fs.lookup mn = none then (do let ds ← u δ; capL ds; f [x, .non, .tup ds]) else M.stuck
section
variable {S : Sto} {δ : DEnv} {c mn : Str} {f : List D → M D} {t : DEnv → M D} {u : DEnv → M (List D)}
theorem ev_methXS : methXS c mn f t u δ S = bnd (t δ S) fun x => (do
  let fs ← asOM c x
  if fs.lookup mn = none then (do let ds ← u δ; capL ds; f [x, .non, .tup ds]) else M.stuck) := id rfl
end
end Fg
namespace Fg
open PySem PySem.Spec PyProof.Rows L2
def ljustD : D → D → M D
  | .str z, .int i => if PadOk i = true then pure (.str (Txt.ljust z i)) else M.stuck
  | _, _ => M.stuck
def rjustD : D → D → M D
  | .str z, .int i => if PadOk i = true then pure (.str (Txt.rjust z i)) else M.stuck
  | _, _ => M.stuck
/-- try: b, nothing being raised -/
def tryNxS (b : DEnv → M (DEnv × Fl)) : DEnv → M (DEnv × Fl) := fun δ => noErr (b δ)
section
variable {S : Sto} {δ : DEnv}
theorem ev_ljust {z : Str} {i : Int} : ljustD (.str z) (.int i) S = cnd (PadOk i = true) (pure (.str (Txt.ljust z i))) M.stuck S := id rfl
theorem ev_rjust {z : Str} {i : Int} : rjustD (.str z) (.int i) S = cnd (PadOk i = true) (pure (.str (Txt.rjust z i))) M.stuck S := id rfl
theorem ev_tryNx {b : DEnv → M (DEnv × Fl)} : tryNxS b δ S = nErr (b δ S) := id rfl
end
end Fg
namespace Fg
open PySem PySem.Spec PySem.Calls PyProof.Rows L2
def laugS (i : Nat) (k t : DEnv → M D) : DEnv → M (DEnv × Fl) := fun δ => do
  let x ← rd i δ
  let ds ← itL x
  let y ← k δ
  match y with
  | .int n => (do let d ← M.opt (atI ds n); let z ← t δ; let w ← iaddD d z; let j ← M.opt (ixN ds.length n); pure (δ.set i (some (.lst (ds.set j w))), Fl.nx))
  | _ => M.stuck
section
variable {S : Sto}
theorem ev_laug {i : Nat} {k t : DEnv → M D} {δ : DEnv} : laugS i k t δ S = bnd (rd i δ S) fun x => (do
  let ds ← itL x
  let y ← k δ
  match y with
  | .int n => (do let d ← M.opt (atI ds n); let z ← t δ; let w ← iaddD d z; let j ← M.opt (ixN ds.length n); pure (δ.set i (some (.lst (ds.set j w))), Fl.nx))
  | _ => M.stuck) := id rfl
end
end Fg
namespace Fg
open PySem PySem.Spec PySem.Calls PyProof.Rows L2
theorem PrsAt.ext {K : PySem.W.Frag} {G H : Hp} (e : LamX.ExtN G H) : ∀ {vs : List V} {ps : List (Int × Int)}, PrsAt K G vs ps → PrsAt K H vs ps
  | _, _, .nil => .nil
  | _, _, .cons h r => .cons (SqT.ext e h) (PrsAt.ext e r)
end Fg
namespace Fg
open PySem PySem.Spec PySem.Calls PyProof.Rows L2
def mvIfS (i : Nat) (c : DEnv → M Bool) (a : DEnv → M D) : DEnv → M (DEnv × Fl) := fun δ => do
  let b ← c δ
  if b = true then (do let d ← a δ; pure (δ.set i (some d), Fl.nx)) else (do let _ ← rd i δ; pure (δ, Fl.nx))
section
variable {S : Sto} {δ : DEnv} {c : DEnv → M Bool} {a : DEnv → M D} {i : Nat}
theorem ev_mvIf : mvIfS i c a δ S = bnd (c δ S) fun b => if b = true then (do let d ← a δ; pure (δ.set i (some d), Fl.nx)) else (do let _ ← rd i δ; pure (δ, Fl.nx)) := id rfl
end
end Fg
namespace Fg
open PySem PySem.Spec PyProof.Rows L2
variable [TQ]
abbrev LE := Option (Except (Ex × DEnv) DEnv × Sto)
def OkLE (r : LE) (P : DEnv → Sto → Prop) (E : Ex → DEnv → Sto → Prop) : Prop := match r with
  | none => False
  | some (.ok δ, S) => P δ S
  | some (.error (e, δ), S) => E e δ S
theorem OkLE.imp {r : LE} {P P' : DEnv → Sto → Prop} {E E' : Ex → DEnv → Sto → Prop} (h : OkLE r P E) (w : ∀ δ S, P δ S → P' δ S) (v : ∀ e δ S, E e δ S → E' e δ S) : OkLE r P' E' := by
  match r, h with
  | some (.ok δ, S), h => exact w δ S h
  | some (.error (e, δ), S), h => exact v e δ S h
section
variable {F : Fr} {B : Nat → Option Addr} {ρ : List Addr} {σ : L2.St} {H : Hp} {δ : DEnv} {S : Sto}
theorem Rel.none (r : Rel F [] B ρ σ H δ S) : ∀ b, ¬ Own B b := fun b ⟨i, e⟩ => absurd ((r.own i).mp ⟨b, e⟩) (by simp)
theorem Gr.no {ρ' : List Addr} {H' : Hp} {Z Z' : Addr → Prop} (g : Gr ρ Z H ρ' H') (h : ∀ b, ¬ Z b) : Gr ρ Z' H ρ' H' := ⟨g.ext, fun b o h1 _ h3 h4 => g.keep b o h1 (h b) h3 h4, g.alive, g.tabs⟩
theorem Sta.own {Xs : Addr → Prop} {K : PySem.W.Frag} {ca : Str → Option Addr} (s : Sta K ca ρ Xs H S) (h : ∀ b, ¬ Own B b) : Sta K ca ρ (fun b => Xs b ∨ Own B b) H S := s.wk fun b z => z.elim id fun z => absurd z (h b)
end
theorem SrL.notXd {K : PySem.W.Frag} {ca : Str → Option Addr} {ρ : List Addr} {G H : Hp} {x : Addr} {vs : List (Str × V)} (hx : H x = some (.xd vs)) : ∀ {l : List Addr} {S : Sto}, SrL K ca ρ G H l S → x ∉ l
  | [], _, _, h => nomatch h
  | a :: r, [], s, _ => (show False from s).elim
  | a :: r, d :: S, s, h => by
    obtain ⟨s1, s2⟩ := s
    rcases List.mem_cons.mp h with e | h
    · subst e
      cases d <;> first | exact (show False from s1).elim | skip
      · obtain ⟨vs, h1, _⟩ := s1; rw [hx] at h1; cases h1
      · obtain ⟨vs, h1, _⟩ := s1; rw [hx] at h1; cases h1
      · obtain ⟨C, dx, vs, _, h1, _⟩ := s1; rw [hx] at h1; cases h1
      · obtain ⟨o, xs, h1, _⟩ := s1; rw [hx] at h1; cases h1
    · exact SrL.notXd hx s2 h
/-- an error's object stays while the heap grows -/
theorem ErrAt.gr {F : Fr} {ρ ρ' : List Addr} {H H' : Hp} {cls : Value} {dd : Option Addr} {e : Ex} {S : Sto} (h : ErrAt F ρ H cls dd e) (s : Sta F.K F.ca ρ F.Xs H S) (g : Gr ρ NoZ H ρ' H') : ErrAt F ρ' H' cls dd e := by
  obtain ⟨C, h1, h2, h3⟩ := h
  refine ⟨C, h1, h2, h3.imp id fun ⟨nf, x, vs, h3, h4, h5⟩ => ⟨nf, x, vs, h3, ?_, RpF.mono g.at g.seesF h5⟩⟩
  exact g.keep x _ (SrL.notXd h4 s.sto) (fun z => z) (fun ps z => by cases z) h4
end Fg
namespace Fg
open PySem PySem.Spec PySem.Calls PyProof.Rows L2
def extS (i : Nat) (t : DEnv → M D) : DEnv → M (DEnv × Fl) := fun δ => do
  let x ← rd i δ
  let ds ← itL x
  let d ← t δ
  let es ← itL d
  if ds.length + es.length ≤ sizeLine then pure (δ.set i (some (.lst (ds ++ es))), Fl.nx) else M.stuck
def comp2L (vs1 : List Nat) (g : D → DEnv → M DEnv) (it1 : DEnv → M (List D)) (g1 : D → DEnv → M DEnv) (t1 : DEnv → M Bool) (e : DEnv → M D) (δ : DEnv) : List D → List D → M (List D)
  | acc, [] => pure acc
  | acc, x :: r => do
    let δ1 ← noErr (g x δ)
    let ys ← noErr (it1 δ1)
    let a ← compL g1 t1 e (wipeD δ1 vs1) acc ys
    comp2L vs1 g it1 g1 t1 e δ a r
def lc2D (vs vs1 : List Nat) (it : DEnv → M (List D)) (g : D → DEnv → M DEnv) (it1 : DEnv → M (List D)) (g1 : D → DEnv → M DEnv) (t1 : DEnv → M Bool) (e : DEnv → M D) : DEnv → M D := fun δ => do
  let xs ← it δ
  let ys ← comp2L vs1 g it1 g1 t1 e (wipeD δ vs) [] xs
  pure (.lst ys)
section
variable {δ : DEnv} {S : Sto}
theorem ev_ext {i : Nat} {t : DEnv → M D} : extS i t δ S = bnd (rd i δ S) fun x => (do
  let ds ← itL x
  let d ← t δ
  let es ← itL d
  if ds.length + es.length ≤ sizeLine then pure (δ.set i (some (.lst (ds ++ es))), Fl.nx) else M.stuck) := id rfl
theorem ev_lc2D {vs vs1 : List Nat} {it : DEnv → M (List D)} {g : D → DEnv → M DEnv} {it1 : DEnv → M (List D)} {g1 : D → DEnv → M DEnv} {t1 : DEnv → M Bool} {e : DEnv → M D} : lc2D vs vs1 it g it1 g1 t1 e δ S = bnd (it δ S) fun xs => (do
  let ys ← comp2L vs1 g it1 g1 t1 e (wipeD δ vs) [] xs
  pure (.lst ys)) := id rfl
end
end Fg
namespace Fg
open PySem PySem.Spec PySem.Calls PyProof.Rows L2
variable [TQ]
def Nx (t : DEnv → M (DEnv × Fl)) : Prop := ∀ δ S p S', t δ S = some (.ok p, S') → p.2 = .nx
def Rt (t : DEnv → M (DEnv × Fl)) : Prop := ∀ δ S p S', t δ S = some (.ok p, S') → ∃ d, p.2 = .rt d
theorem M.invN {α β : Type} {m : M α} {f : α → M β} {S S' : Sto} {b : β} (h : (m >>= f) S = some (.ok b, S')) : ∃ a S1, m S = some (.ok a, S1) ∧ f a S1 = some (.ok b, S') := by
  cases e : m S with
  | none => rw [M.bind_none e] at h; cases h
  | some p =>
    obtain ⟨r, S1⟩ := p
    cases r with
    | error x => rw [M.bind_err e] at h; cases h
    | ok a => rw [M.bind_ok e] at h; exact ⟨a, S1, rfl, h⟩
theorem nx_pure {δ : DEnv} {S : Sto} {p : DEnv × Fl} {S' : Sto} (h : (pure (δ, Fl.nx) : M (DEnv × Fl)) S = some (.ok p, S')) : p.2 = .nx := by
  have h : some (Except.ok (δ, Fl.nx), S) = some (.ok p, S') := h
  cases h; rfl
theorem Nx.set {i : Nat} {t : DEnv → M D} : Nx (setS i t) := fun δ S p S' h => by
  obtain ⟨d, S1, _, h⟩ := M.invN h
  exact nx_pure h
theorem Nx.skip : Nx skipS := fun δ S p S' h => nx_pure h
theorem Nx.drop {t : DEnv → M D} : Nx (dropS t) := fun δ S p S' h => by
  obtain ⟨d, S1, _, h⟩ := M.invN h
  exact nx_pure h
theorem Nx.par {i j : Nat} {t u : DEnv → M D} : Nx (parS i j t u) := fun δ S p S' h => by
  obtain ⟨d, S1, _, h⟩ := M.invN h
  obtain ⟨d, S1, _, h⟩ := M.invN h
  exact nx_pure h
theorem Nx.asg {t : DEnv → M D} {g : D → DEnv → M DEnv} : Nx (asgS t g) := fun δ S p S' h => by
  obtain ⟨d, S1, _, h⟩ := M.invN h
  obtain ⟨d, S1, _, h⟩ := M.invN h
  exact nx_pure h
theorem Nx.ifs {t : DEnv → M Bool} {u w : DEnv → M (DEnv × Fl)} (hu : Nx u) (hw : Nx w) : Nx (ifS t u w) := fun δ S p S' h => by
  obtain ⟨b, S1, _, h⟩ := M.invN h
  cases b with
  | true => exact hu _ _ _ _ h
  | false => exact hw _ _ _ _ h
theorem Nx.seq {t u : DEnv → M (DEnv × Fl)} (ht : Nx t) (hu : Nx u) : Nx (seqS t u) := fun δ S p S' h => by
  obtain ⟨q, S1, e, h⟩ := M.invN h
  have := ht _ _ _ _ e
  obtain ⟨δ1, f⟩ := q
  cases this
  exact hu _ _ _ _ h
theorem Rt.ret {t : DEnv → M D} {u : DEnv → M (DEnv × Fl)} : Rt (seqS (retS t) u) := fun δ S p S' h => by
  obtain ⟨q, S1, e, h⟩ := M.invN h
  obtain ⟨d, S2, e1, e2⟩ := M.invN e
  have e2 : some (Except.ok (δ, Fl.rt d), S2) = some (.ok q, S1) := e2
  injection e2 with e2
  injection e2 with e3 e4
  injection e3 with e3
  subst e3
  have h : some (Except.ok (δ, Fl.rt d), S1) = some (.ok p, S') := h
  injection h with h
  injection h with h1 h2
  injection h1 with h1
  exact ⟨d, by rw [← h1]⟩
theorem Rt.seq {t u : DEnv → M (DEnv × Fl)} (ht : Nx t) (hu : Rt u) : Rt (seqS t u) := fun δ S p S' h => by
  obtain ⟨q, S1, e, h⟩ := M.invN h
  have := ht _ _ _ _ e
  obtain ⟨δ1, f⟩ := q
  cases this
  exact hu _ _ _ _ h
end Fg
namespace Fg
open PySem PySem.Spec PyProof.Rows L2 GenW
section
variable [TQ]
def B0 : Nat → Option Addr := fun _ => none
def Yes (F : Fr) (YK : Nat → V → Hp → Prop) (i : Nat) (l : List D) : Prop := ∀ j d, i ≤ j → l[j]? = some d → ∀ x H' ρ', Gr F.R0 NoZ F.H0 ρ' H' → Rp F.K F.ca ρ' (hid (Zf F ρ') H') x d → YK j x H'
def GNx (F : Fr) (YK : Nat → V → Hp → Prop) (D' : GEx) (i : Nat) (ρ : List Addr) (H : Hp) (r : List D × DEnv × Fl) (S' : Sto) : Prop :=
  Yes F YK i r.1 ∧ match r.2.2 with
  | .nx => ∀ σ' H' ρ', Rel F [] B0 ρ' σ' H' r.2.1 S' → Gr ρ NoZ H ρ' H' → D'.nx r.1.length σ' H'
  | .bk => ∀ σ' H' ρ', Rel F [] B0 ρ' σ' H' r.2.1 S' → Gr ρ NoZ H ρ' H' → D'.bk r.1.length σ' H'
  | .ct => ∀ σ' H' ρ', Rel F [] B0 ρ' σ' H' r.2.1 S' → Gr ρ NoZ H ρ' H' → D'.ct r.1.length σ' H'
  | .rt d => ∀ v H' ρ', End F ρ' H' S' → Rp F.K F.ca ρ' (hid (Zf F ρ') H') v d → D'.rt r.1.length v H'
section
variable {X : Cx} {F : Fr} {st : Stmt} {rest : List Stmt}
theorem Yes.up {YK : Nat → V → Hp → Prop} {i k : Nat} {l : List D} (h : Yes F YK i l) (hk : i ≤ k) : Yes F YK k l := fun j d hj e => h j d (Nat.le_trans hk hj) e
/-- what is wanted behind t where u follows: all of u's items are t's at first -/
theorem GNx.gr {YK : Nat → V → Hp → Prop} {D' : GEx} {i : Nat} {ρ ρ1 : List Addr} {H H1 : Hp} {r : List D × DEnv × Fl} {S' : Sto} {k : Nat} (g : Gr ρ NoZ H ρ1 H1) (hk : i ≤ k) (h : GNx F YK D' i ρ H r S') : GNx F YK D' k ρ1 H1 r S' := by
  obtain ⟨a, δ, fl⟩ := r
  obtain ⟨y, q⟩ := h
  refine ⟨y.up hk, ?_⟩
  cases fl with
  | nx => exact fun σ' H' ρ' r' g' => (q : ∀ σ' H' ρ', _) σ' H' ρ' r' (g.tr g')
  | bk => exact fun σ' H' ρ' r' g' => (q : ∀ σ' H' ρ', _) σ' H' ρ' r' (g.tr g')
  | ct => exact fun σ' H' ρ' r' g' => (q : ∀ σ' H' ρ', _) σ' H' ρ' r' (g.tr g')
  | rt d => exact q
end
end
end Fg
namespace Fg
open PySem PySem.Spec PyProof.Rows L2
variable [TQ]
instance (i j : Int) : Decidable (RgOk i j) := by unfold RgOk; infer_instance
end Fg
namespace Fg
open PySem PySem.Spec PyProof.Rows L2
local macro_rules | `(tactic| walk_at "ni") => `(tactic| (intro x y S h; cases x <;> cases y <;> first | rfl | exact absurd ⟨rfl, rfl⟩ (h _ _)))
variable [TQ]
end Fg
namespace Fg
open PySem PySem.Spec PyProof.Rows L2
variable [TQ]
def noDN : Nat → D → Bool
  | 0, _ => false
  | n + 1, .tup ds => ds.all (noDN n)
  | n + 1, .lst ds => ds.all (noDN n)
  | n + 1, .obj _ fs => fs.all fun p => noDN n p.2
  | _ + 1, .dct _ => false
  | _ + 1, .kd _ => false
  | _ + 1, .fd _ => false
  | _ + 1, .exc _ _ => false
  | _ + 1, _ => true
def partsNo : D → Bool
  | .lst ds => ds.all (noDN 20)
  | .dct ds => ds.all fun p => noDN 20 p.2
  | .obj _ fs => fs.all fun p => noDN 20 p.2
  | .kd _ => false
  | .fd _ => false
  | .exc _ _ => false
  | _ => true
abbrev RTb := List (Str × (List D → M D))
def scD : D → Option Str
  | .non => some "None"
  | .bl b => some (if b then "True" else "False")
  | .int i => if i.natAbs.log2 < 1920 then some ((toString i : String) : Str) else none
  | .str x => some (reprText x)
  | _ => none
def shD (tb : RTb) (d : D) : M Str := match scD d with
  | some t => pure t
  | none => match d with
    | .obj c fs => match tb.lookup c with
      | some f => do
        let z ← noErr (f [.obj c fs])
        match z with
        | .str t => pure t
        | _ => M.stuck
      | none => M.stuck
    | _ => M.stuck
def shsD (tb : RTb) : Nat → List D → M (List Str)
  | _, [] => pure []
  | b, d :: ds => if b + 1 ≤ sizeLine then (do
      let t ← shD tb d
      if b + 1 + t.length ≤ sizeLine then (do
        let ts ← shsD tb (b + (t.length + 2)) ds
        pure (t :: ts)) else M.stuck) else M.stuck
def shkD (tb : RTb) : Nat → List (Key × D) → M (List Str)
  | _, [] => pure []
  | b, (k, d) :: r => match scD (keyV k) with
    | some kt => if b + 1 + kt.length ≤ sizeLine ∧ b + (kt.length + 3) ≤ sizeLine then (do
        let t ← shD tb d
        if b + (kt.length + 3) + t.length ≤ sizeLine then (do
          let ts ← shkD tb (b + (kt.length + t.length + 4)) r
          pure ((kt ++ ": " ++ t) :: ts)) else M.stuck) else M.stuck
    | none => M.stuck
def ownXD (tb : RTb) : D → M D
  | .obj c fs => do let t ← shD tb (.obj c fs); pure (.str t)
  | .lst (d :: ds) => do
    let ts ← shsD tb 0 (d :: ds)
    if (listText ts).length ≤ sizeLine then pure (.str (listText ts)) else M.stuck
  | .tup ds => do
    let ts ← shsD tb 0 ds
    if (tupleText ts).length ≤ sizeLine ∧ ts.length = ds.length then pure (.str (tupleText ts)) else M.stuck
  | .dct kvs => fun S => if (kvs.all fun p => noDN 20 p.2) = true ∧ S.all partsNo = true then (do
    let ts ← shkD tb 0 kvs
    if (dictText ts).length ≤ sizeLine then pure (.str (dictText ts)) else M.stuck : M D) S else none
  | _ => M.stuck
def reprXD (tb : RTb) : List D → M D
  | [d] => match pyN 20 d with
    | some p => if showOk p = true then pure (.str p.shown) else M.stuck
    | none => ownXD tb d
  | _ => M.stuck
end Fg
namespace Fg
open PySem PySem.Spec PyProof.Rows L2
structure FnZ (P : Program) (w : World) (K : PySem.W.Frag) (mg : Str → Option Value) (base : Heap) (CX : CXT) (k : Nat) (f : Addr) (fd : FuncData) (ps : List Str) (sp : Sp) : Prop where
  len : ∀ vs H Q E, sp vs H Q E → vs.length = ps.length
  run : ∀ (A : Around) (outer : List Env) (s : Shared) (H : Hp) (args : Args) (us : List Value) (vs : List V) (Q : VK) (E : XK) (p : Addr × Obj), L2H.RoomH k A → L2H.PinOk outer H s p → Env0 P w K mg base A outer s H → BindsTo s fd args (ps.zip us) → L2.Vals vs us → sp vs H Q E →
    codeAny (model P w) A (.call (.ref f) args) (CR CX outer P w H s Q E) s
theorem FnZ.mono {P : Program} {w : World} {K : PySem.W.Frag} {mg : Str → Option Value} {base : Heap} {CX : CXT} {j k : Nat} {f : Addr} {fd : FuncData} {ps : List Str} {sp : Sp} (F : FnZ P w K mg base CX j f fd ps sp) (h : j ≤ k) : FnZ P w K mg base CX k f fd ps sp :=
  ⟨F.len, fun A outer s H args us vs Q E p hr => F.run A outer s H args us vs Q E p (hr.mono h)⟩
variable [TQ]
abbrev EHs := List (Str × Str × Int)
def endXR (tb : RTb) (hs : EHs) : Option (Except Ex D × Sto) → Option (Except Ex D × Sto)
  | some (.ok d, S) => (do let z ← reprXD tb [d]; pure (.lst [.str "told", z]) : M D) S
  | some (.error e, S) => match hs.lookup e.c, e.fs with
    | some fn, [(g, d)] => if g = fn.1 then (do let z ← reprXD tb [d]; pure (.lst [.int fn.2, z]) : M D) S else none
    | _, _ => none
  | none => none
def endXM (tb : RTb) (hs : EHs) (O : List Nat) (t : DEnv → M D) : DEnv → M D := fun δ S => endXR tb hs (t (wipeD δ O) S)
end Fg
namespace Fg
open PySem PySem.Spec PyProof.Rows L2
section
variable {S : Sto} {δ : DEnv} {tb : RTb} {hs : EHs}
theorem ev_endXM {O : List Nat} {t : DEnv → M D} : endXM tb hs O t δ S = endXR tb hs (t (wipeD δ O) S) := id rfl
theorem ev_endXo {d : D} : endXR tb hs (some (.ok d, S)) = bnd (reprXD tb [d] S) fun z => pure (.lst [.str "told", z]) := id rfl
theorem ev_endXe {k h : Str} {n : Int} {d : D} (e : hs.lookup k = some (h, n)) : endXR tb hs (some (.error ⟨k, [(h, d)]⟩, S)) = bnd (reprXD tb [d] S) fun z => pure (.lst [.int n, z]) := by
  show (match hs.lookup k, [(h, d)] with
    | some fn, [(g, d)] => if g = fn.1 then (do let z ← reprXD tb [d]; pure (.lst [.int fn.2, z]) : M D) S else none
    | _, _ => none) = _
  rw [e]
  show (if h = h then _ else _) = _
  rw [if_pos rfl]
  rfl
end
end Fg
namespace Fg
open PySem PySem.Spec PyProof.Rows L2
section
variable {K : PySem.W.Frag} {C B D : Addr} {T : String}
abbrev exMro (C B : Addr) (T : String) : List Value := [.ref C, .ref B, .type T, .type "Exception", .type "BaseException", .type "object"]
theorem kit_at {c : Value} {b : Bool} (hm : (PySem.W.clsIn K C).map (·.mro) = some (exMro C B T)) (h0 : (Value.ref C == c) = false) (hs : PySem.W.kitCls K (.ref C) c = PySem.W.subIn K (.ref C) c) (hb : (exMro C B T).contains c = b) : PySem.W.kitOne K (.ref C) c = some b := by
  unfold PySem.W.kitOne
  rw [h0, if_neg (by simp), hs]
  show PySem.W.mroIn K C c = some b
  obtain ⟨cd, e1, e2⟩ := Option.map_eq_some_iff.mp hm
  unfold PySem.W.mroIn
  rw [e1]
  show (if cd.mro.isEmpty then none else some (cd.mro.contains c)) = some b
  have e2 : cd.mro = exMro C B T := e2
  rw [e2, hb]
  rfl
theorem kit_no (hm : (PySem.W.clsIn K C).map (·.mro) = some (exMro C B T)) (hd : ((PySem.W.clsIn K D).isSome && PySem.W.typeIn K (.ref D) == some (.type "type")) = true) (n1 : D ≠ C) (n2 : D ≠ B) : PySem.W.kitOne K (.ref C) (.ref D) = some false := by
  refine kit_at hm (beq_eq_false_iff_ne.mpr fun e => n1 (Value.ref.inj e).symm) (if_pos hd) ?_
  have a : (Value.ref D == Value.ref C) = false := beq_eq_false_iff_ne.mpr fun e => n1 (Value.ref.inj e)
  have b : (Value.ref D == Value.ref B) = false := beq_eq_false_iff_ne.mpr fun e => n2 (Value.ref.inj e)
  have c : ∀ t : String, (Value.ref D == Value.type t) = false := fun t => beq_eq_false_iff_ne.mpr fun e => by cases e
  simp only [exMro, List.contains_cons, List.contains_nil, a, b, c, Bool.or_false]
theorem kit_up (hm : (PySem.W.clsIn K C).map (·.mro) = some (exMro C B T)) (hd : ((PySem.W.clsIn K B).isSome && PySem.W.typeIn K (.ref B) == some (.type "type")) = true) (n1 : B ≠ C) : PySem.W.kitOne K (.ref C) (.ref B) = some true := by
  refine kit_at hm (beq_eq_false_iff_ne.mpr fun e => n1 (Value.ref.inj e).symm) (if_pos hd) ?_
  simp only [exMro, List.contains_cons, beq_self_eq_true, Bool.or_true, Bool.true_or]
theorem kit_ty {t : String} {b : Bool} (hm : (PySem.W.clsIn K C).map (·.mro) = some (exMro C B T)) (hk : PySem.W.kitMeta t = true := by decide +kernel) (hb : ((t == T) || ((t == "Exception") || ((t == "BaseException") || (t == "object")))) = b := by decide) : PySem.W.kitOne K (.ref C) (.type t) = some b := by
  refine kit_at hm (beq_eq_false_iff_ne.mpr fun e => by cases e) (if_pos hk) ?_
  have c : ∀ a : Addr, (Value.type t == Value.ref a) = false := fun a => beq_eq_false_iff_ne.mpr fun e => by cases e
  have d : ∀ u : String, (Value.type t == Value.type u) = (t == u) := fun u => by
    by_cases h : t = u
    · subst h; simp
    · rw [beq_eq_false_iff_ne.mpr h, beq_eq_false_iff_ne.mpr fun e => h (Value.type.inj e)]
  simp only [exMro, List.contains_cons, List.contains_nil, c, d, Bool.false_or, Bool.or_false]
  exact hb
end
end Fg
namespace Fg
open PySem PySem.Spec PyProof.Rows L2
variable [TQ]
/-- what may not raise -/
def quietD {α : Type} (t : DEnv → M α) : DEnv → M α := fun δ => noErr (t δ)
/-- what comes of a run; an error is wanted with the slots as they stand -/
def OkW {α : Type} (F : Fr) (O : List Nat) (B : Nat → Option Addr) (σ : L2.St) (δ : DEnv) (W : WX) (r : Option (Except Ex α × Sto)) (P : α → Sto → Prop) : Prop := match r with
  | none => False
  | some (.error e, S') => ∀ cls dd H' ρ', Rel F O B ρ' σ H' δ S' → ErrAt F ρ' H' cls dd e → W cls dd σ H'
  | some (.ok a, S') => P a S'
section
variable {F : Fr} {O : List Nat} {B : Nat → Option Addr} {σ : L2.St} {δ : DEnv} {W : WX} {S : Sto}
theorem OkW.bind {α β : Type} {m : M α} {f : α → M β} {P : β → Sto → Prop} (h : OkW F O B σ δ W ((m >>= f) S) P) : OkW F O B σ δ W (m S) (fun a S' => OkW F O B σ δ W (f a S') P) := by
  unfold OkW
  cases e : m S with
  | none => rw [M.bind_none e] at h; exact h
  | some p =>
    obtain ⟨r, S'⟩ := p
    cases r with
    | error x => rw [M.bind_err e] at h; exact h
    | ok a => rw [M.bind_ok e] at h; exact h
theorem OkW.imp {α : Type} {r : Option (Except Ex α × Sto)} {P Q : α → Sto → Prop} (h : OkW F O B σ δ W r P) (w : ∀ a S, P a S → Q a S) : OkW F O B σ δ W r Q := by
  unfold OkW at *
  split
  · exact h
  · exact h
  · exact w _ _ h
theorem OkW.quiet {α : Type} {m : M α} {P : α → Sto → Prop} (h : OkW F O B σ δ W (noErr m S) P) : Ok1 F.w0 (m S) P := by
  unfold OkW noErr at h
  unfold Ok1
  cases e : m S with
  | none => rw [e] at h; exact h
  | some p =>
    rw [e] at h
    obtain ⟨r, S'⟩ := p
    cases r with
    | error _ => exact h.elim
    | ok a => exact h
theorem OkW.ite {α : Type} {p : Prop} [Decidable p] {m : M α} {P : α → Sto → Prop} (h : OkW F O B σ δ W ((if p then m else M.stuck) S) P) : p ∧ OkW F O B σ δ W (m S) P := by
  by_cases c : p
  · rw [if_pos c] at h; exact ⟨c, h⟩
  · rw [if_neg c] at h; exact (show False from h).elim
theorem OkW.itL {x : D} {P : List D → Sto → Prop} (h : OkW F O B σ δ W (Fg.itL x S) P) : ∃ ds, x = .lst ds ∧ P ds S := by
  cases x <;> first | exact (show False from h).elim | exact ⟨_, rfl, h⟩
theorem OkW.opt {α : Type} {o : Option α} {P : α → Sto → Prop} (h : OkW F O B σ δ W (M.opt o S) P) : ∃ a, o = some a ∧ P a S := by
  cases o with
  | none => exact (show False from h).elim
  | some a => exact ⟨a, rfl, h⟩
end
end Fg
namespace Fg
open PySem PySem.Spec PyProof.Rows L2
section
variable {S S' S2 : Sto} {δ : DEnv} {c c2 f2 : Str} {b : DEnv → M (DEnv × Fl)} {t : DEnv → M D}
theorem ev_quiet {α : Type} {t : DEnv → M α} : quietD t δ S = nErr (t δ S) := id rfl
end
end Fg
namespace Fg
open PySem PySem.Spec PyProof.Rows L2
def Spends {α : Type} (m : Sem α) : Prop := ∀ (M : Model) (Γ : PySem.Ctx) (Q : α → Pos → Shared → Prop) (E : Value → Pos → Shared → Prop) (p : Pos) (s : Shared), Sem.wp M Γ m Q E p s → Sem.wp M Γ m (fun a p' s' => 1 ≤ s'.toks ∧ Q a p' s') E p s
theorem Spends.next {α β : Type} {m : Sem α} {f : α → Sem β} (h : ∀ a, Spends (f a)) : Spends (m >>= f) := fun M Γ Q E p s q => by
  rw [Sem.wp_bind'] at q ⊢
  exact Sem.wp_mono M Γ m (fun a p' s' z => h a M Γ Q E p' s' z) (fun _ _ _ z => z) p s q
theorem Spends.any {α : Type} {m : Sem α} (h : Spends m) {M : Model} {A : Around} {Q : α → Shared → Prop} {E : Value → Shared → Prop} {s : Shared} (q : wpAny M A m Q E s) : wpAny M A m (fun a s' => 1 ≤ s'.toks ∧ Q a s') E s := fun Γ p hΓ => h M Γ _ _ p s (q Γ p hΓ)
end Fg
namespace Fg
open PySem PySem.Spec PyProof.Rows L2
/-- n times z -/
def timS (z : Str) (n : Nat) : Str := if z.length = 0 then z else ⟨(List.replicate n z.cps).foldl (· ++ ·) #[]⟩
def timD : D → D → M D
  | .str z, .int n => if 2 ≤ n ∧ n ≤ 1000 ∧ z.length ≤ 10000 then pure (.str (timS z n.toNat)) else M.stuck
  | _, _ => M.stuck
section
variable {S : Sto}
theorem ev_tim {z : Str} {n : Int} (h : z.length ≤ 10000) (h2 : 2 ≤ n := by decide) (h3 : n ≤ 1000 := by decide) : timD (.str z) (.int n) S = some (.ok (.str (timS z n.toNat)), S) := by
  show (if _ then pure (.str (timS z n.toNat)) else M.stuck : M D) S = _
  rw [if_pos ⟨h2, h3, h⟩]; rfl
end
variable [TQ]
end Fg
namespace Fg
open PySem PySem.Spec PyProof.Rows L2
section
variable {X : Cx}
/-- behind C(..): the exception stands as it is, its dict as an exception's dict -/
theorem mk_val {pins : List (Addr × Obj)} {σ : L2.St} {H1 H2 : Hp} {hp hp2 h2 : Heap} {g1 g2 : Array GenState} {d1 d2 : Drawn} {t1 t2 : Nat} {os1 os2 : OsState} {a C d : Addr} {fs : List (Str × V)} (I1 : Inv X pins σ H1 ⟨hp, g1, d1, t1, os1⟩)
    (ha : hp.objs.size ≤ a) (k : ∀ b o, hp.get? b = some o → hp2.get? b = some o) (un : Un (frs X.stack) [] (upd H1 a (exo a C none)) H2 hp2 h2) (hok : HOk X.prog X.w H2 h2) (ho : os2 = os1) (hb : AllBare g2)
    (ea : H2 a = some (exo a C (some d))) (ed : H2 d = some (exd d fs)) (hd1 : H1 d = none) :
    ∃ t0 : Addr, d ≠ a ∧ H1 a = none ∧ Inv X pins σ (upd (upd H2 d (.xd fs)) a (Pin a (excOb C d t0))) ⟨h2, g2, d2, t2, os2⟩ := by
  obtain ⟨t0, hoe⟩ := exo_at hok ea
  obtain ⟨mA, hns, rel⟩ := exd_at hok ed
  have hn : H1 a = none := I1.hok.fresh ha
  have hda : d ≠ a := fun z => by
    obtain ⟨o, es, ep, e1, e2, _⟩ := hns
    rw [z, hoe] at e1
    have z2 := Option.some.inj e1
    subst z2
    cases e2
  have nha : ∀ {b : Addr} {o : Obj}, hp.get? b = some o → b ≠ a := fun {b o} z => Nat.ne_of_lt (Nat.lt_of_lt_of_le (Heap.lt_size z) ha)
  have up : ∀ {b : Addr}, b ≠ a → H1 b = none → upd H1 a (exo a C none) b = none := fun {b} hb n => by rw [upd_ne hb]; exact n
  have nd : ∀ {b : Addr} {o : Obj}, hp.get? b = some o → H1 b = none → b ≠ d := fun {b o} z n e => by
    have y := un.free b o (k b o z) (up (nha z) n) (by simp)
    rw [e, ed] at y
    cases y
  have U : Un (frs X.stack) [] H1 (upd (upd H2 d (.xd fs)) a (Pin a (excOb C d t0))) hp h2 := {
    keep := fun b o z n hf hx => un.keep b o (k b o z) (up (nha z) n) hf hx
    slot := fun b o z n hf hx => un.slot b o (k b o z) (up (nha z) n) hf hx
    free := fun b o z n hx => by
      rw [upd_ne (nha z), upd_ne (nd z n)]
      exact un.free b o (k b o z) (up (nha z) n) hx
    there := fun b o z hx => un.there b o (k b o z) hx
    tups := fun b xs z => by
      rw [upd_ne (ne_of_none z hn), upd_ne (ne_of_none z hd1)]
      exact un.tups b xs (by rw [upd_ne (ne_of_none z hn)]; exact z)
    frzs := fun b o v z => by
      rw [upd_ne (ne_of_none z hn), upd_ne (ne_of_none z hd1)]
      exact un.frzs b o v (by rw [upd_ne (ne_of_none z hn)]; exact z)
    tbls := fun b ps z => by
      rw [upd_ne (ne_of_none z hn), upd_ne (ne_of_none z hd1)]
      exact un.tbls b ps (by rw [upd_ne (ne_of_none z hn)]; exact z) }
  have hok3 : HOk X.prog X.w (upd (upd H2 d (.xd fs)) a (Pin a (excOb C d t0))) h2 := fun b o z => by
    by_cases hba : b = a
    · subst hba
      rw [upd_same] at z
      rw [← Option.some.inj z]
      exact ⟨hoe, ⟨_, hoe⟩, fun h1 h2 z k => k _ z⟩
    · rw [upd_ne hba] at z
      by_cases hbd : b = d
      · subst hbd
        rw [upd_same] at z
        cases z
        exact ⟨mA, hns, rel⟩
      · rw [upd_ne hbd] at z
        exact (hok b o z).stay (fun c v hc y => y)
          (fun c hc => by rw [upd_ne (at_ne ea hc exo_own), upd_ne (at_ne ed hc exd_own)]; exact hc) (fun c xs hc => by rw [upd_ne (at_ne ea hc exo_tup), upd_ne (at_ne ed hc exd_tup)]; exact hc)
  exact ⟨t0, hda, hn, I1.call' (ch := []) ho U hok3 hb (fun b z => absurd z (by simp))⟩
end
def oexR (X : Cx) (pins : List (Addr × Obj)) (σ : L2.St) (Q : VK) : Result → Shared → Prop := fun r s' => match r with
  | .ok (.ret v) => EP X pins σ Q v s'
  | .ok _ => False
  | .error e => X.xe e s'
section
variable {X : Cx} {e : Expr} {es : List Expr} {kwe : List Keyword} {ta : TA} {p pos : Pos} {x f : Str} {C : Addr}
/-- the call of the class: us by place or v by keyword -/
theorem oex_run {pins : List (Addr × Obj)} {σ : L2.St} {H1 : Hp} {Q : VK} {s : Shared} {v : V} {u : Value} (R : RaiserV X.prog X.w X.K X.mg X.base x C f) (hr : Room 2 X.A) (I1 : Inv X pins σ H1 s) (rv : RelV v u) (us : List Value) (kw : List (Str × Value)) (hu : (us = [u] ∧ kw = []) ∨ (us = [] ∧ kw = [(f, u)]))
    (hq : ∀ a d t0 H', H1 a = none → H1 d = none → Same H1 H' → H' d = some (.xd [(f, v)]) → H' a = some (Pin a (excOb C d t0)) → Q (.ref a) H') : codeAny (model X.prog X.w) X.A (.call (.ref C) ⟨us, kw⟩) (oexR X pins σ Q) s := by
  obtain ⟨B, newId, initId, bmB, nm, q, N, bs, bm, sn, sub, ab, col, dd, k0, k1, k2, k3, k5, G, hT, hC⟩ := R.T.cls
  obtain ⟨fI, fd, hi, ht, F1, hb, hbk⟩ := R.ex
  obtain ⟨hp, g, dr, tk, os⟩ := s
  have hx : Passes (L2.CX X.prog X.w) X (fun _ _ _ => False) := fun pins σ H s e' s' I c => passL (X := X) pins σ H s e' s' I c
  have hsz : hp.objs.size ≤ hp.objs.size + 1 := Nat.le_succ _
  have hn : H1 (hp.objs.size + 1) = none := I1.hok.fresh hsz
  have said : spRa C f [.ref (hp.objs.size + 1), v] (upd H1 (hp.objs.size + 1) (exo (hp.objs.size + 1) C none)) (fun z H2 => z = .non ∧ ∃ (d : Addr), H2 (hp.objs.size + 1) = some (exo (hp.objs.size + 1) C (some d)) ∧ H2 d = some (exd d [(f, v)]) ∧ H1 d = none ∧ d ≠ hp.objs.size + 1 ∧
      ∀ t0, Q (.ref (hp.objs.size + 1)) (upd (upd H2 d (.xd [(f, v)])) (hp.objs.size + 1) (Pin (hp.objs.size + 1) (excOb C d t0)))) (fun _ _ _ => False) := by
    refine ⟨_, rfl, upd_same, fun dx nx ne => ?_⟩
    have nx1 : H1 dx = none := by rw [upd_ne ne] at nx; exact nx
    refine ⟨rfl, dx, upd_same, by rw [upd_ne ne, upd_same], nx1, ne, fun t0 => hq _ dx t0 _ hn nx1 (fun b o z => ?_) (by rw [upd_ne ne, upd_same]) upd_same⟩
    have m1 := ne_of_none z hn
    have m2 := ne_of_none z nx1
    rw [upd_ne m1, upd_ne m2, upd_ne m1, upd_ne m2, upd_ne m1]
    exact z
  have fin : ∀ {o : Obj} (r : Result) (s' : Shared), Inv X pins σ (upd H1 (hp.objs.size + 1) (exo (hp.objs.size + 1) C none)) ⟨(hp.push o).push (PySem.HandSPX.excO C hp.objs.size), g, dr, tk, os⟩ → (∀ b u, hp.get? b = some u → ((hp.push o).push (PySem.HandSPX.excO C hp.objs.size)).get? b = some u) →
      CR (L2.CX X.prog X.w) X.stack X.prog X.w (upd H1 (hp.objs.size + 1) (exo (hp.objs.size + 1) C none)) ⟨(hp.push o).push (PySem.HandSPX.excO C hp.objs.size), g, dr, tk, os⟩ (fun z H2 => z = .non ∧ ∃ (d : Addr), H2 (hp.objs.size + 1) = some (exo (hp.objs.size + 1) C (some d)) ∧ H2 d = some (exd d [(f, v)]) ∧ H1 d = none ∧ d ≠ hp.objs.size + 1 ∧
        ∀ t0, Q (.ref (hp.objs.size + 1)) (upd (upd H2 d (.xd [(f, v)])) (hp.objs.size + 1) (Pin (hp.objs.size + 1) (excOb C d t0)))) (fun _ _ _ => False) r s' → PySem.W.InitBack (hp.objs.size + 1) (oexR X pins σ Q) r s' := fun {o} r s' I2 kk hq' => by
    cases r with
    | error er => exact hx pins σ _ _ er s' I2 hq'
    | ok fl =>
      cases fl with
      | ret u =>
        obtain ⟨v, H2, os2, bare2, un2, hok2, rv, ev, d, ea, ed, hd1, _, q2⟩ := hq'
        subst ev
        obtain ⟨h2, g2, d2, t2, os'⟩ := s'
        obtain ⟨t0, _, _, J⟩ := mk_val (d2 := d2) (t2 := t2) I1 hsz kk un2 hok2 os2 bare2 ea ed hd1
        exact ⟨rv, ⟨V.ref (hp.objs.size + 1), _, J, rfl, q2 t0⟩⟩
      | next => exact False.elim hq'
      | brk => exact False.elim hq'
      | cont => exact False.elim hq'
  have kk : ∀ (o : Obj) b u, hp.get? b = some u → ((hp.push o).push (PySem.HandSPX.excO C hp.objs.size)).get? b = some u := fun o b u e => Heap.get?_push_of_some _ (Heap.get?_push_of_some _ e)
  have hget : ∀ vs, ((hp.push (PySem.W.kdv_tup vs)).push (PySem.HandSPX.excO C hp.objs.size)).get? (hp.objs.size + 1) = some (PySem.HandSPX.excO C hp.objs.size) := fun vs => by heap_get
  have I2 : ∀ vs, Inv X pins σ (upd H1 (hp.objs.size + 1) (exo (hp.objs.size + 1) C none)) ⟨(hp.push (PySem.W.kdv_tup vs)).push (PySem.HandSPX.excO C hp.objs.size), g, dr, tk, os⟩ := fun vs => I1.laid (t' := tk) (kk _) hsz (exo_ok (hget vs))
  have r2 : Vals [V.ref (hp.objs.size + 1), v] [Value.ref (hp.objs.size + 1), u] := .cons rfl (.cons rv .nil)
  rcases hu with ⟨rfl, rfl⟩ | ⟨rfl, rfl⟩
  · exact PySem.HandSPX.call_own G hT (I1.kIn _ _ hC) (PySem.W.looks_findIn I1.kIn hi) (fun self => PySem.W.bind_fn I1.kIn self ht) (by rw [sizeLine_eq]; show 1 ≤ _; omega)
      (codeAny_mono (F1.run _ X.stack _ _ ⟨[Value.ref (hp.objs.size + 1), u], []⟩ [Value.ref (hp.objs.size + 1), u] _ _ (fun _ _ _ => False) (hr.make C [u] []) ((I2 [u]).env0.make C [u] []) (hb _ [Value.ref (hp.objs.size + 1), u] (I2 [u]).kIn rfl) r2 said) fun r s' h => fin r s' (I2 [u]) (kk _) h)
  · exact exk_call G hT (I1.kIn _ _ hC) (PySem.W.looks_findIn I1.kIn hi) (fun self => PySem.W.bind_fn I1.kIn self ht)
      (codeAny_mono (F1.run _ X.stack _ _ ⟨[Value.ref (hp.objs.size + 1)], [(f, u)]⟩ [Value.ref (hp.objs.size + 1), u] _ _ (fun _ _ _ => False) (hr.make C [] [(f, u)]) ((I2 []).env0.make C [] [(f, u)]) (hbk _ _ _) r2 said) fun r s' h => fin r s' (I2 []) (kk _) h)
def tExv (C : Addr) (f : Str) (te : TE) : TE := fun σ H Q => te σ H fun v H1 => ∀ a d t0 H', H1 a = none → H1 d = none → Same H1 H' → H' d = some (.xd [(f, v)]) → H' a = some (Pin a (excOb C d t0)) → Q (.ref a) H'
/-- x(e): a new exception with one field -/
theorem fe_exv {te : TE} (R : RaiserV X.prog X.w X.K X.mg X.base x C f) (hr : Room 2 X.A) (hg : Gl X x) (he : PE X e te) (hdb : (x == ("__debug__" : Str)) = false := by decide)
    (hst : starEach [e] X.env = (false, eval e X.env) :: starEach [] X.env := by rfl) (hpl : (backTo pos (starEach [] X.env)).any (·.1) = false := by rfl) : PE X (.Call (.Name x p) [e] [] pos) (tExv C f te) := by
  refine ⟨fun pins s σ H Q I h => ?_⟩
  refine wpAny_Call_Name_kw (ld_glob I hg R.g ?_ hdb)
  refine PySem.W.callWith_K (h₀ := X.base) I.ok.mod.kin R.T.kC (thn ((pa_cons (pe_up he) pa_nil hst).run pos pins s σ H (fun vs H1 => ∃ v, vs = [v] ∧ ∀ a d t0 H', H1 a = none → H1 d = none → Same H1 H' → H' d = some (.xd [(f, v)]) → H' a = some (Pin a (excOb C d t0)) → Q (.ref a) H') I ⟨_, h, fun v H1 q1 => ⟨v, rfl, q1⟩⟩) fun us s1 ⟨vs, H1, I1, r1, v, ev, q1⟩ => ⟨I1.kIn, ?_⟩) hst hpl
  subst ev
  cases r1 with
  | cons rv r1 =>
    cases r1
    exact wpAny_call (oex_run R hr I1 rv _ _ (.inl ⟨rfl, rfl⟩) q1)
/-- x(f = e) -/
theorem fe_exk {te : TE} {kpos : Pos} (R : RaiserV X.prog X.w X.K X.mg X.base x C f) (hr : Room 2 X.A) (hg : Gl X x) (he : PE X e te) (hdb : (x == ("__debug__" : Str)) = false := by decide)
    (hall : (backToKw pos (keywordEach [⟨some f, e, kpos⟩] X.env)).all (·.1.isSome) = true := by rfl) (hks : (backToKw pos (keywordEach [⟨some f, e, kpos⟩] X.env)).filterMap (·.1) = [f] := by rfl)
    (hpl : ((backTo pos (starEach [] X.env)).any (·.1) || (backToKw pos (keywordEach [⟨some f, e, kpos⟩] X.env)).any (·.1.isNone)) = false := by rfl) : PE X (.Call (.Name x p) [] [⟨some f, e, kpos⟩] pos) (tExv C f te) := by
  refine ⟨fun pins s σ H Q I h => ?_⟩
  refine wpAny_Call_Name_kw (ld_glob I hg R.g ?_ hdb)
  refine PySem.W.callWith_KW0 (first := []) (h₀ := X.base) I.ok.mod.kin R.T.kC hall ?_ hpl
  refine thn ((pk_cons (pe_up he) pk_nil).run pos pins s σ H (fun vs H1 => ∃ v, vs = [v] ∧ ∀ a d t0 H', H1 a = none → H1 d = none → Same H1 H' → H' d = some (.xd [(f, v)]) → H' a = some (Pin a (excOb C d t0)) → Q (.ref a) H') I ⟨_, h, fun v H1 q1 => ⟨v, rfl, q1⟩⟩) fun us s1 ⟨vs, H1, I1, r1, v, ev, q1⟩ => ⟨I1.kIn, ?_⟩
  subst ev
  rw [hks]
  cases r1 with
  | cons rv r1 =>
    cases r1
    exact wpAny_call (oex_run R hr I1 rv _ _ (.inr ⟨rfl, rfl⟩) q1)
/-- x(): an exception without own __init__ -/
theorem fe_ex0 (T : OexZ X.K C) (g : X.mg x = some (.ref C)) (hg : Gl X x) (hdb : (x == ("__debug__" : Str)) = false := by decide) :
    PE X (.Call (.Name x p) [] [] pos) (fun σ H Q => ∀ a t0 H', H a = none → Same H H' → H' a = some (Pin a (PySem.HandSPX.excO C t0)) → Q (.ref a) H') := by
  refine ⟨fun pins s σ H Q I h => ?_⟩
  refine wpAny_Call_Name_kw (ld_glob I hg g ?_ hdb)
  refine PySem.W.callWith_K0 (first := []) I.kIn T.kC ?_
  show wpAny _ _ (call (.ref C) []) _ _ _
  obtain ⟨bm, N, nm, qn, bs, hdct, sn, sub, ab, col, dd, k0, k1, k2, k3, k5, mN, hC, hN, hni, TT⟩ := exc_obj I.kIn T.q
  obtain ⟨hp, gn, dr, tk, os⟩ := s
  refine wpAny_call_exc_subT F.excBase_LookupError TT hC hN hni (fun h' a hm => ?_) (Nat.zero_le _)
  have hn : H a = none := I.hok.gone hm.new
  obtain ⟨t0, ht, _, _⟩ := hm.there
  have ok : ObjOk X.prog X.w (upd H a (Pin a (PySem.HandSPX.excO C t0))) h' a (Pin a (PySem.HandSPX.excO C t0)) := ⟨ht, ⟨_, ht⟩, fun h1 h2 z k => k _ z⟩
  exact ⟨.ref a, _, I.laidN (o := Pin a (PySem.HandSPX.excO C t0)) hm.keeps hm.new hn ok, rfl, h a t0 _ hn (fun b u z => by rw [upd_ne (ne_of_none z hn)]; exact z) upd_same⟩
end
end Fg
namespace PySem.W
open PySem PySem.Spec PySem.Calls PyProof.Rows
section
variable {P : Program} {w : World} {B : Around} {Ex : Value → Shared → Prop} {s : Shared} {K : Frag} {e D : Addr} {oe : Obj} {dct : Obj}
theorem fx_found (hdct : hasDictIn K D = true) (hc : findIn K (.ref D) "__class__" = some (some (.builtin "object.__class__"))) (hg : specialIn K (.builtin "object.__class__") "__get__" = some (some (.builtin "getset_descriptor.__get__")))
    (ht : takesIn K (.builtin "object.__class__") = some true) : findObj K D (some dct) "__class__" = some (.bind (.builtin "getset_descriptor.__get__") (.builtin "object.__class__")) := by
  obtain ⟨cd, hcd, _⟩ := any_some hdct
  unfold findObj
  rw [hcd, Option.bind_some, hc, Option.bind_some]; simp [hg, ht]
theorem fx_class {Q : Option Value → Shared → Prop} (C : L2.ExcC K D) (Kh : K.In s.heap) (J : InstAt s.heap e oe D (some dct)) (q : Q (some (.ref D)) { s with toks := s.toks + 1 }) : wpAny (model P w) B (getAttr? (.ref e) "__class__") Q Ex s := by
  have found := fx_found (dct := dct) C.hd C.ha C.hn C.ht
  obtain ⟨hp, gg, dd, tk, os⟩ := s
  have T0 := J.type (M := model P w); have T1 := looks_findIn (M := model P w) Kh C.hg; have T2 := looks_findIn (M := model P w) Kh C.hk; have T3 := looks_find (M := model P w) Kh J found
  have isB : Looks (model P w) hp (isInstance (.ref e) (.type "BaseException")) true := T0.andThen (looks_subIn Kh C.hs)
  have ne1 : (Value.builtin "BaseException.__getattribute__" == Value.builtin "object.__getattribute__") = false := by decide +kernel
  have ne2 : (onTheHeap (Value.ref D) && Value.builtin "BaseException.__getattribute__" == Value.builtin "object.__getattribute__") = false := by (rw [ne1]; rfl)
  have ne0 : (false && onTheHeap (Value.builtin "BaseException.__getattribute__")) = false := by first | rfl
  (unfold getAttr? getAttrBy? getAttrBy); refine wpAny_bind (wpAny_mkText (wpAny_bind (wpAny_attempt (wpAny_holding (wpAny_bind (T0.at (wpAny_bind (T1.at ?_))))))))
  show wpAny _ _ (if (onTheHeap (Value.ref D) && Value.builtin "BaseException.__getattribute__" == Value.builtin "object.__getattribute__") = true then _ else _) _ _ _; rw [ne2, if_neg Bool.false_ne_true]
  (unfold getAttrByItsOwn hookBefore); refine wpAny_bind ?_; rw [if_pos (show onTheHeap (Value.ref D) = true from rfl)]; refine T2.at (wpAny_bind (wpAny_attempt (wpAny_holding ?_)))
  (unfold callGetattribute); rw [ne0, if_neg Bool.false_ne_true]; (unfold boundAndCalled); rw [PySem.F.excAttr_ValueError.ga.bind (.ref e)]; refine wpAny_bind (wpAny_pure ?_)
  show wpAny _ _ (call (.builtin "BaseException.__getattribute__") [.ref e, .str "__class__" tk]) _ _ _; refine wpAny_call (codeAny_call_builtin PySem.F.excAttr_ValueError.ga.plain PySem.F.entry_bexc_ga ?_)
  refine @check_slot (model P w) _ _ ⟨hp, gg, dd, tk + 1, os⟩ "BaseException.__getattribute__" "BaseException" "__getattribute__" (.ref e) [.str "__class__" tk] [] _ (by decide +kernel) (by decide +kernel) isB (PySem.F.args_bexc_ga (.ref e) (.str "__class__" tk)) ?_
  (unfold Builtin.«object.__getattribute__»); refine wpAny_bind (wpAny_of_eq (a := ((Value.ref e : Value), [Value.str "__class__" tk])) (by first | rfl | (simp only [slotArgs]; rfl)) ?_)
  refine wpAny_bind (wpAny_pure (wpAny_bind (T0.at (wpAny_bind (T3.at ?_))))); show wpAny _ _ (holding [Value.builtin "object.__class__"] (call (.builtin "getset_descriptor.__get__") [.builtin "object.__class__", .ref e, .ref D]) >>= ret) _ _ _
  refine wpAny_bind (wpAny_holding (wpAny_call (class_get (s := ⟨hp, gg, dd, tk + 1, os⟩) (ox := oe) (od := some dct) Kh J C.hm ?_))); refine wpAny_pure ?_
  show wpAny _ _ (handedOut (.ref D)) _ _ _; rw [handedOut_of (v := .ref D) rfl]
  first | exact wpAny_pure (wpAny_pure q) | exact wpAny_pure q | exact wpAny_pure (wpAny_bind (wpAny_pure (wpAny_pure q)))
theorem fx_kit (C : L2.ExcC K D) : KitX K (.ref e) (.ref D) (fun h => ∃ dct, InstAt h e oe D (some dct)) := by
  obtain ⟨cd, hcd, _⟩ := any_some C.hd
  refine ⟨fun _ _ _ ⟨_, J⟩ => J.type, fun _ _ Kh _ => ?_, fun h tp _ _ _ _ Kh at_ => ?_, fun Kh ⟨_, J⟩ k => fx_class C Kh J k⟩
  · unfold clsIn at hcd
    split at hcd
    · rename_i looked
      intro _ _ _ _ keep q
      (unfold isType loadHead); exact wpAny_bind (wpAny_loadPart (keep _ _ (Kh _ _ looked)) (wpAny_pure q))
    · cases hcd
  · refine Bool.eq_false_iff.mpr fun same => ?_
    cases (Value.ref.inj (beq_iff_eq.mp same) : D = tp)
    unfold clsIn at hcd
    split at hcd
    · rename_i looked
      cases (Kh _ _ looked).symm.trans at_
    · cases hcd
end
end PySem.W
namespace Fg
open PySem PySem.Spec PyProof.Rows L2
section
variable {X : Cx} {j : Nat} {C : Addr} {x f : Str} {p pos pos2 : Pos} {e e2 : Expr} {te : TE}
/-- e.n, an exception's field -/
theorem fe_exf {n : Str} {OkC : Addr → Prop} (hT : ∀ C : Addr, OkC C → XfC X.K C ∧ PySem.W.findIn X.K (.ref C) n = some none) (he : PE X e te) (hb : attributeBase e n X.env (eval e X.env) = eval e X.env := by rfl) :
    PE X (.Attribute e n pos) (fun σ H Q => te σ H fun x H1 => ∃ a C dx t fs v, x = .ref a ∧ OkC C ∧ H1 a = some (Pin a (excOb C dx t)) ∧ H1 dx = some (.xd fs) ∧ fs.lookup n = some v ∧ Q v H1) := by
  refine ⟨fun pins s σ H Q I h => ?_⟩
  refine attr_of hb (thn (he.run pins s σ H _ I h) fun u s1 hh => ?_)
  obtain ⟨x, H1, I1, rx, a, C, dx, t, fs, v, ex, hC, ha0, ea, l, q⟩ := hh
  subst ex
  obtain ⟨T, hno⟩ := hT C hC
  obtain rfl : u = Value.ref a := rx
  have ha : s1.heap.get? a = some (excOb C dx t) := (I1.hok a _ ha0).1
  have hx : ObjOk X.prog X.w H1 s1.heap dx (.xd fs) := I1.hok dx _ ea
  obtain ⟨mA, hns, hr⟩ := hx
  obtain ⟨od, ho, hl⟩ := lookIn_ns hns
  obtain ⟨u, hu, ru⟩ := RelO.some_of (v := v) (o := mA n) (by rw [← l]; exact hr n)
  have J : PySem.W.InstAt s1.heap a (excOb C dx t) C (some od) := ⟨ha, rfl, rfl, ho⟩
  exact HandSPX.exc_get I1.kIn J T.ga T.gg T.exC (PySem.W.findObj_own T.hdC hno rfl (by rw [hl, hu])) (handed_of ru) ⟨v, H1, I1.tok _, ru, q⟩
/-- isinstance(e, c), e an exception as a value -/
def fIsX (K : PySem.W.Frag) (cv : Value) : List V → Hp → VK → Prop := fun xs H Q => ∃ (a C : Addr) (o : Obj) (fs : List (Str × V)) (c : V) (b : Bool), xs = [.ref a, c] ∧ (∀ u, RelV c u → u = cv) ∧ H a = some (Pin a o) ∧ EOb H C o fs ∧ ExcC K C ∧ PySem.W.kitOne K (.ref C) cv = some b ∧ Q (.bl b) H
theorem f_isX {cv : Value} : CallR X (.builtin "isinstance") (fIsX X.K cv) := by
  intro pins s σ H xs us Q I r h
  obtain ⟨a, C, o, fs, c, b, rfl, hcv, ha0, ho, T, k, q⟩ := h
  have ha : s.heap.get? a = some o := (I.hok a _ ha0).1
  cases r with
  | cons rx rr =>
    cases rr with
    | cons rt rr =>
      cases rr
      cases rx
      have ec := hcv _ rt
      subst ec
      rcases ho with ⟨dx, t, rfl, hd⟩ | ⟨⟨t, rfl⟩, _⟩
      · have hx : ObjOk X.prog X.w H s.heap dx (.xd fs) := I.hok dx _ hd
        obtain ⟨mA, hns, _⟩ := hx
        obtain ⟨od, ho, _⟩ := lookIn_ns hns
        have J : PySem.W.InstAt s.heap a (excOb C dx t) C (some od) := ⟨ha, rfl, rfl, ho⟩
        exact PySem.W.kia_one (PySem.W.fx_kit T) I.kIn ⟨od, J⟩ k (fun z => nomatch z) fun tk => ⟨.bl b, H, I.kept (t' := tk) fun _ _ z => z, rfl, q⟩
      · have J : PySem.W.InstAt s.heap a (PySem.HandSPX.excO C t) C none := ⟨ha, rfl, rfl, trivial⟩
        exact PySem.W.kia_one (PySem.W.handS_kitx_exc T.hg T.hk T.hs T.hd T.ha T.hn T.ht T.hm) I.kIn J k (fun z => nomatch z) fun tk => ⟨.bl b, H, I.kept (t' := tk) fun _ _ z => z, rfl, q⟩
end
theorem lookup_all {α β : Type} [BEq α] [LawfulBEq α] {p : α → β → Bool} : ∀ {tab : List (α × β)}, tab.all (fun x => p x.1 x.2) = true → ∀ {a : α} {b : β}, tab.lookup a = some b → p a b = true
  | [], _, _, _, h => by cases h
  | (k, v) :: tab, h, a, b, l => by
    rw [List.all_cons, Bool.and_eq_true] at h
    rw [List.lookup_cons] at l
    split at l
    · rename_i e
      have e := eq_of_beq e
      subst e
      cases l
      exact h.1
    · exact lookup_all h.2 l
theorem lookup_mem {α β : Type} [BEq α] [LawfulBEq α] : ∀ {tab : List (α × β)} {a : α} {b : β}, tab.lookup a = some b → b ∈ tab.map (·.2)
  | [], _, _, h => by cases h
  | (k, v) :: tab, a, b, l => by
    rw [List.lookup_cons] at l
    split at l
    · cases l; exact List.mem_cons_self
    · exact List.mem_cons_of_mem _ (lookup_mem l)
theorem lookup_inj {α β : Type} [BEq α] [LawfulBEq α] : ∀ {tab : List (α × β)}, (tab.map (·.2)).Nodup → ∀ {a b : α} {c : β}, tab.lookup a = some c → tab.lookup b = some c → a = b
  | [], _, _, _, _, h, _ => by cases h
  | (k, v) :: tab, nd, a, b, c, h1, h2 => by
    rw [List.map_cons, List.nodup_cons] at nd
    rw [List.lookup_cons] at h1 h2
    split at h1
    · rename_i e1
      cases h1
      split at h2
      · rename_i e2
        exact (eq_of_beq e1).trans (eq_of_beq e2).symm
      · exact absurd (lookup_mem h2) nd.1
    · split at h2
      · cases h2
        exact absurd (lookup_mem h1) nd.1
      · exact lookup_inj nd.2 h1 h2
theorem kit_selfX {K : PySem.W.Frag} {C : Addr} : PySem.W.kitOne K (.ref C) (.ref C) = some true := by
  unfold PySem.W.kitOne
  rw [if_pos (by simp)]
abbrev bases3 : List String := ["ValueError", "LookupError", "ArithmeticError"]
theorem str_beq {n T : String} (hn : n ∈ bases3) (hT : T ∈ bases3) : ((n : Str) == (T : Str)) = (n == T) := by
  simp only [bases3, List.mem_cons, List.not_mem_nil, or_false] at hn hT
  rcases hn with rfl | rfl | rfl <;> rcases hT with rfl | rfl | rfl <;> decide +kernel
variable [TQ]
section
variable {X : Cx} {F : Fr} {O : List Nat} {m : Md} {j : Nat} {C : Addr} {x f c : Str} {p pos : Pos} {e e2 : Expr}
def excM (c f : Str) (t : DEnv → M D) : DEnv → M D := fun δ => do let d ← t δ; pure (.exc c [(f, d)])
theorem not_zo {B : Nat → Option Addr} {ρ : List Addr} {σ : L2.St} {H : Hp} {δ : DEnv} {S : Sto} (r : Rel F O B ρ σ H δ S) {a : Addr} (n : H a = none) : ¬ Zo F B ρ a := fun z => by
  rcases z with (z | z) | z
  · exact r.sta.live a (.inl (.inl z)) (Nw.of n)
  · exact r.sta.live a (.inl (.inr z)) (Nw.of n)
  · exact r.sta.live a (.inr z) (Nw.of n)
theorem pd_exvT {t : DEnv → M D} {te : TE} {e3 : Expr} (hce : TQ.ex x = some C) (he : PED X F O .fz e t) (h : ∀ {te : TE}, PE X e te → PE X e3 (tExv C f te)) : PED X F O .fz e3 (excM x f t) := pe_imp (h he) fun σ H Q ⟨B, ρ, δ, S, r, q⟩ => ⟨B, ρ, δ, S, r, q.bind.imp fun d S' q v H' ρ' r' g z => fun a dx t0 H2 na nd s2 hd ha => by
  have n1 := not_zo r' na
  have n2 := not_zo r' nd
  have z2 : Rp F.K F.ca ρ' (hid (Zo F B ρ') H2) v d := (Res.rin r z : Rin F .fz B ρ' H' v d).gr (Gr.same s2)
  exact (q : ∀ v H' ρ', _) _ H2 ρ' (r'.same s2) (g.tr (Gr.same s2)) (Rp.exc hce (hid_iff.mpr ⟨n1, ha⟩) (.inl ⟨dx, t0, rfl, hid_iff.mpr ⟨n2, hd⟩⟩) (.cons z2 .nil))⟩
theorem pd_exv {t : DEnv → M D} (R : RaiserV X.prog X.w X.K X.mg X.base x C f) (hce : TQ.ex x = some C) (hr : Room j X.A) (hk : 2 ≤ j) (hg : Gl X x) (he : PED X F O .fz e t) (hdb : (x == ("__debug__" : Str)) = false := by decide)
    (hst : starEach [e] X.env = (false, eval e X.env) :: starEach [] X.env := by rfl) (hpl : (backTo pos (starEach [] X.env)).any (·.1) = false := by rfl) :
    PED X F O .fz (.Call (.Name x p) [e] [] pos) (excM x f t) := pd_exvT (te := fun _ _ _ => False) hce he fun h => fe_exv R (hr.mono hk) hg h hdb hst hpl
theorem pd_exk {t : DEnv → M D} {kpos : Pos} (R : RaiserV X.prog X.w X.K X.mg X.base x C f) (hce : TQ.ex x = some C) (hr : Room j X.A) (hk : 2 ≤ j) (hg : Gl X x) (he : PED X F O .fz e t) (hdb : (x == ("__debug__" : Str)) = false := by decide)
    (hall : (backToKw pos (keywordEach [⟨some f, e, kpos⟩] X.env)).all (·.1.isSome) = true := by rfl) (hks : (backToKw pos (keywordEach [⟨some f, e, kpos⟩] X.env)).filterMap (·.1) = [f] := by rfl)
    (hpl : ((backTo pos (starEach [] X.env)).any (·.1) || (backToKw pos (keywordEach [⟨some f, e, kpos⟩] X.env)).any (·.1.isNone)) = false := by rfl) :
    PED X F O .fz (.Call (.Name x p) [] [⟨some f, e, kpos⟩] pos) (excM x f t) := pd_exvT (te := fun _ _ _ => False) hce he fun h => fe_exk R (hr.mono hk) hg h hdb hall hks hpl
def exc0M (c : Str) : DEnv → M D := fun _ => pure (.exc c [])
theorem pd_ex0 (T : OexZ X.K C) (g : X.mg x = some (.ref C)) (hce : TQ.ex x = some C) (hg : Gl X x) (hdb : (x == ("__debug__" : Str)) = false := by decide) : PED X F O .fz (.Call (.Name x p) [] [] pos) (exc0M x) :=
  pe_imp (fe_ex0 T g hg hdb) fun σ H Q ⟨B, ρ, δ, S, r, q⟩ => fun a t0 H2 na s2 ha => by
    have n1 := not_zo r na
    exact (q : ∀ v H' ρ', _) _ H2 ρ (r.same s2) (Gr.same s2) (Rp.exc hce (hid_iff.mpr ⟨n1, ha⟩) (.inr ⟨⟨t0, rfl⟩, rfl⟩) .nil)
/-- a field of an exception of one of the classes cs -/
def exfD (cs : List Str) (n : Str) : D → M D
  | .exc c fs => if c ∈ cs then M.opt (fs.lookup n) else M.stuck
  | _ => M.stuck
theorem pd_exf {n : Str} {cs : List Str} {t : DEnv → M D} (hT : ∀ c ∈ cs, ∀ C, TQ.ex c = some C → XfC X.K C ∧ PySem.W.findIn X.K (.ref C) n = some none) (h : PED X F O m e t) (hm : m ≠ .nw := by decide) (hb : attributeBase e n X.env (eval e X.env) = eval e X.env := by rfl) : PED X F O m (.Attribute e n pos) (fun δ => do let x ← t δ; exfD cs n x) :=
  pe_imp (fe_exf (OkC := fun C => ∃ c ∈ cs, TQ.ex c = some C) (fun C ⟨c, hc, e⟩ => hT c hc C e) h hb) fun σ H Q ⟨B, ρ, δ, S, r, q⟩ => ⟨B, ρ, δ, S, r, q.bind.imp fun d S' q v H' ρ' r' g z => by
    cases d <;> first | exact (show False from q).elim | skip
    obtain ⟨ec, q2⟩ := Ok1.ite q
    clear q
    obtain ⟨y, ey, q⟩ := q2.opt
    obtain ⟨a, C', o, ws, rfl, e1, h1, hx, h2⟩ := Rin.exc (Res.rin r z)
    obtain ⟨w, ew, hw⟩ := RinF.get h2 ey
    rcases hx with ⟨dx, tt, rfl, hx⟩ | ⟨_, rfl⟩
    · refine ⟨a, C', dx, tt, ws, w, rfl, ⟨_, ec, e1⟩, h1, hx, ew, q w H' ρ' r' g ?_⟩
      cases m
      · exact hw
      · exact hw
      · exact absurd rfl hm
    · cases ew⟩
/-- isinstance of an exception: XT the classes, their bases, these ones' bases -/
def isXD (XT : List (Str × Str × Str)) (n : Str) : D → M D
  | .exc c _ => match XT.lookup c with
    | some (b, t) => pure (.bl (n == c || (n == b || n == t)))
    | none => M.stuck
  | _ => M.stuck
theorem pd_isX {XT : List (Str × Str × Str)} {n : Str} {cv : Value} {vn : V} {t : DEnv → M D} (hv : ∀ u, RelV vn u → u = cv) (hX : ∀ c b tt, XT.lookup c = some (b, tt) → ∀ C, TQ.ex c = some C → ExcC X.K C ∧ PySem.W.kitOne X.K (.ref C) cv = some (n == c || (n == b || n == tt))) (h : PED X F O .tr e t) (hn : PE X e2 (tC vn)) (hgl : Gl X "isinstance") (hmg : X.mg "isinstance" = none) (h2 : m ≠ .nw := by decide)
    (hst : starEach [e, e2] X.env = (false, eval e X.env) :: starEach [e2] X.env := by rfl) (hst2 : starEach [e2] X.env = (false, eval e2 X.env) :: starEach [] X.env := by rfl) (hpl : (backTo pos (starEach [e2] X.env)).any (·.1) = false := by rfl) :
    PED X F O m (.Call (.Name "isinstance" p) [e, e2] [] pos) (fun δ => do let d ← t δ; isXD XT n d) :=
  pe_imp (pe_callB (f_isX (X := X) (cv := cv)) hgl hmg (by decide +kernel) (pa_cons h (pa_cons hn pa_nil hst2) hst) (by decide) (by decide) hst hpl) fun σ H Q ⟨B, ρ, δ, S, r, q⟩ => ⟨B, ρ, δ, S, r, q.bind.imp fun d S' q v H' ρ' r' g z => by
    show fIsX X.K cv [v, vn] H' Q
    have z : Rin F .tr B ρ' H' v d := z
    match d, q, z with
    | .exc c fs, q, z =>
      obtain ⟨a, C, o, ws, rfl, e1, h1, hx, _⟩ := z.exc
      have q : Ok1 F ((match XT.lookup c with
        | some (b, t) => pure (.bl (n == c || (n == b || n == t)))
        | none => M.stuck : M D) S') _ := q
      cases hl : XT.lookup c with
      | none => rw [hl] at q; exact (show False from q).elim
      | some bt =>
        obtain ⟨b, tt⟩ := bt
        rw [hl] at q
        obtain ⟨T, k⟩ := hX c b tt hl C e1
        exact ⟨a, C, o, ws, vn, _, rfl, hv, h1, hx, T, k, (q : ∀ v H' ρ', _) _ H' ρ' r' g (scV_res (d := .bl _) rfl h2)⟩
    | .non, q, _ => exact (show False from q).elim
    | .bl _, q, _ => exact (show False from q).elim
    | .int _, q, _ => exact (show False from q).elim
    | .str _, q, _ => exact (show False from q).elim
    | .tup _, q, _ => exact (show False from q).elim
    | .lst _, q, _ => exact (show False from q).elim
    | .dct _, q, _ => exact (show False from q).elim
    | .obj _ _, q, _ => exact (show False from q).elim
    | .mt _, q, _ => exact (show False from q).elim
    | .kd _, q, _ => exact (show False from q).elim
    | .fd _, q, _ => exact (show False from q).elim⟩
/-- the table of the classes, against where they stand -/
structure XtOk (K : PySem.W.Frag) (XT : List (Str × Str × Str)) : Prop where
  at_ : ∀ c b t, XT.lookup c = some (b, t) → ∃ (C B : Addr) (T : String), TQ.ex c = some C ∧ TQ.ex b = some B ∧ t = (T : Str) ∧ T ∈ bases3 ∧ ExcC K C ∧ (PySem.W.clsIn K C).map (·.mro) = some (exMro C B T)
theorem XtOk.own {K : PySem.W.Frag} {XT : List (Str × Str × Str)} (ok : XtOk K XT) {n : Str} {D : Addr} (hn : TQ.ex n = some D) (hd : ((PySem.W.clsIn K D).isSome && PySem.W.typeIn K (.ref D) == some (.type "type")) = true) (hT : XT.all (fun x => !(n == x.2.2)) = true) :
    ∀ c b t, XT.lookup c = some (b, t) → ∀ C, TQ.ex c = some C → ExcC K C ∧ PySem.W.kitOne K (.ref C) (.ref D) = some (n == c || (n == b || n == t)) := fun c b t hl C hC => by
  obtain ⟨C', B, T, e1, e2, _, _, x, m⟩ := ok.at_ c b t hl
  cases e1.symm.trans hC
  refine ⟨x, ?_⟩
  have hT2 : (n == t) = false := by simpa using lookup_all (p := fun _ (y : Str × Str) => !(n == y.2)) hT hl
  rw [hT2, Bool.or_false]
  by_cases h1 : n = c
  · subst h1
    cases hn.symm.trans hC
    rw [kit_selfX, beq_self_eq_true]
    rfl
  · have n1 : D ≠ C := fun z => h1 (TQ.exI _ _ _ hn (z ▸ hC))
    have f1 : (n == c) = false := beq_eq_false_iff_ne.mpr h1
    rw [f1, Bool.false_or]
    by_cases h2 : n = b
    · subst h2
      cases hn.symm.trans e2
      rw [kit_up m hd n1, beq_self_eq_true]
    · have n2 : D ≠ B := fun z => h2 (TQ.exI _ _ _ hn (z ▸ e2))
      rw [kit_no m hd n1 n2, beq_eq_false_iff_ne.mpr h2]
theorem XtOk.blt {K : PySem.W.Frag} {XT : List (Str × Str × Str)} (ok : XtOk K XT) {n : String} (hk : PySem.W.kitMeta n = true) (hn : ((n == "Exception") || ((n == "BaseException") || (n == "object"))) = false)
    (hc : XT.all (fun x => !((n : Str) == x.1) && !((n : Str) == x.2.1)) = true) (h3 : n ∈ bases3 := by decide) :
    ∀ c b t, XT.lookup c = some (b, t) → ∀ C, TQ.ex c = some C → ExcC K C ∧ PySem.W.kitOne K (.ref C) (.type n) = some ((n : Str) == c || ((n : Str) == b || (n : Str) == t)) := fun c b t hl C hC => by
  obtain ⟨C', B, T, e1, e2, et, hT, x, m⟩ := ok.at_ c b t hl
  cases e1.symm.trans hC
  refine ⟨x, ?_⟩
  have hc2 := lookup_all (p := fun (x : Str) (y : Str × Str) => !((n : Str) == x) && !((n : Str) == y.1)) hc hl
  simp only [Bool.and_eq_true, Bool.not_eq_true'] at hc2
  obtain ⟨a1, a2⟩ := hc2
  rw [a1, a2, Bool.false_or, Bool.false_or, et, str_beq h3 hT]
  exact kit_ty m hk (by rw [hn, Bool.or_false])
end
end Fg
namespace Fg
open PySem PySem.Spec PyProof.Rows L2
theorem flat_blsX (bs : List Bool) : (bs.map V.bl).all flatV = true := List.all_eq_true.mpr fun x hx => by
  obtain ⟨b, _, rfl⟩ := List.mem_map.mp hx
  rfl
theorem eqV_blX (a b : Bool) : eqV (.bl a) (.bl b) = (a == b) := by cases a <;> cases b <;> rfl
theorem count_blsX (bs : List Bool) (i : Bool) : (bs.map V.bl).countP (fun z => eqV z (.bl i)) = bs.countP (fun j => j == i) := by
  rw [List.countP_map]
  exact List.countP_congr fun b _ => by
    show eqV (.bl b) (.bl i) = true ↔ (b == i) = true
    rw [eqV_blX]
def tCntB (to te : TE) : TE := fun σ H Q => to σ H fun x H1 => match x with
  | .ref a => (∃ ys, H1 a = some (.lst ys)) ∧ te σ H1 fun y H2 => ∃ (is : List Bool) (i : Bool), y = .bl i ∧ H2 a = some (.lst (is.map V.bl)) ∧ Q (.int (is.countP (fun j => j == i) : Nat)) H2
  | _ => False
section
variable {X : Cx} {o e : Expr} {to te : TE} {apos cpos : Pos}
theorem fe_cntB (ho : PE X o to) (he : PE X e te) (hbase : attributeBase o "count" X.env (eval o X.env) = eval o X.env := by rfl)
    (hfew : ((backTo cpos (starEach [e] X.env)).all (fun x => !x.1) && (backToKw cpos (keywordEach [] X.env)).all (fun x => x.1.isSome)
      && decide ([e].length + ([] : List Keyword).length + (if ([] : List Keyword).isEmpty then 0 else 1) < 30)) = true := by rfl)
    (hline : (apos.endLine == cpos.line) = true := by rfl) (hs : starEach [e] X.env = (false, eval e X.env) :: starEach [] X.env := by rfl) (hplain : (backTo cpos (starEach [] X.env)).any (·.1) = false := by rfl) :
    PE X (.Call (.Attribute o "count" apos) [e] [] cpos) (tCntB to te) :=
  pe_imp (pe_bm PySem.F.plainAttrs_list PySem.F.slot_list_count PySem.F.type_list_count mt_countF (pe_up ho) (pa_cons (pe_up he) pa_nil hs) hbase hfew hline hs hplain) fun σ H Q q => ⟨_, q, fun x H1 q1 => by
    split at q1
    · rename_i l
      obtain ⟨⟨vs, h1⟩, q1⟩ := q1
      refine ⟨.inl ⟨rfl, vs, .of h1⟩, _, q1, fun y H2 ⟨is, i, ey, h2, q2⟩ => ?_⟩
      subst ey
      exact ⟨l, _, .bl i, rfl, rfl, SqL.of h2, rfl, flat_blsX is, by rw [count_blsX]; exact q2⟩
    · exact q1.elim⟩
end
def blsXD : List D → Option (List Bool)
  | [] => some []
  | .bl i :: r => (blsXD r).map (i :: ·)
  | _ => none
def cntBM (tx ty : DEnv → M D) : DEnv → M D := fun δ => do
  let x ← tx δ
  let ds ← itL x
  let ns ← M.opt (blsXD ds)
  let y ← ty δ
  match y with
  | .bl i => pure (.int (ns.countP (fun j => j == i) : Nat))
  | _ => M.stuck
section
variable [TQ]
variable {X : Cx} {F : Fr} {O : List Nat} {m : Md} {o e : Expr} {apos cpos : Pos} {tx ty : DEnv → M D} {B : Nat → Option Addr} {ρ : List Addr} {H : Hp}
theorem rin_bls : ∀ {ds : List D} {vs : List V} {bs : List Bool}, RinL F .fz B ρ H vs ds → blsXD ds = some bs → vs = bs.map V.bl
  | [], _, _, h, e => by cases h; cases e; rfl
  | d :: ds, _, bs, h, e => by
    cases h with
    | cons h t =>
      cases d <;> first | (cases e; done) | skip
      obtain ⟨cs, e1, rfl⟩ := Option.map_eq_some_iff.mp (show (blsXD ds).map _ = some bs from e)
      cases (show Rin F .fz B ρ H _ (.bl _) from h).bl
      rw [rin_bls t e1]
      rfl
theorem pd_cntB (ho : PED X F O .fz o tx) (he : PED X F O .tr e ty) (hm : m ≠ .nw := by decide) (hbase : attributeBase o "count" X.env (eval o X.env) = eval o X.env := by rfl)
    (hfew : ((backTo cpos (starEach [e] X.env)).all (fun x => !x.1) && (backToKw cpos (keywordEach [] X.env)).all (fun x => x.1.isSome)
      && decide ([e].length + ([] : List Keyword).length + (if ([] : List Keyword).isEmpty then 0 else 1) < 30)) = true := by rfl)
    (hline : (apos.endLine == cpos.line) = true := by rfl) (hs : starEach [e] X.env = (false, eval e X.env) :: starEach [] X.env := by rfl) (hplain : (backTo cpos (starEach [] X.env)).any (·.1) = false := by rfl) :
    PED X F O m (.Call (.Attribute o "count" apos) [e] [] cpos) (cntBM tx ty) :=
  pe_imp (fe_cntB ho he hbase hfew hline hs hplain) fun σ H Q ⟨B, ρ, δ, S, r, q⟩ => ⟨B, ρ, δ, S, r, q.bind.imp fun d S' q v H' ρ' r' g z => by
    obtain ⟨ds, ed, q1⟩ := q.bind.itL
    subst ed
    obtain ⟨ns, en, q2⟩ := (Ok1.bind q1).opt
    obtain ⟨a, ws, rfl, ha, la⟩ := (show Rin F .fz B ρ' H' v (.lst ds) from z).lst
    refine ⟨⟨ws, ha⟩, B, ρ', δ, S', r', q2.bind.imp fun d2 S2 q v2 H2 ρ2 r2 g2 z2 => ?_⟩
    cases d2 <;> first | exact (show False from q).elim | skip
    cases (show Rin F .tr B ρ2 H2 v2 (.bl _) from z2).bl
    obtain ⟨a2, ws2, e2, ha2, la2⟩ := (Rin.gr (show Rin F .fz B ρ' H' (.ref a) (.lst ds) from z) g2).lst
    cases e2
    have ew := rin_bls la2 en
    subst ew
    exact ⟨ns, _, rfl, ha2, (q : ∀ v H' ρ', _) _ H2 ρ2 r2 (g.tr g2) (scV_res (d := .int _) rfl hm)⟩⟩
end
end Fg
namespace Fg
open PySem PySem.Spec PyProof.Rows L2
/-- what is tracked at the law's entry: the tables, the script (if it is no constant) -/
def ent (T : List Addr) (sc : Option (Addr × HO)) : Hp := fun b => if b ∈ T then some (.tbl #[]) else match sc with
  | some (a, o) => if b = a then some o else none
  | none => none
theorem entT (T : List Addr) (sc : Option (Addr × HO)) {b : Addr} (h : b ∈ T) : ent T sc b = some (.tbl #[]) := by unfold ent; rw [if_pos h]
section
variable {P : Program} {w : World} {K : PySem.W.Frag} {mg mb : Str → Option Value} {k : Nat} {fa a : Addr} {cs : List (Addr × Addr)} {fd : FuncData} {x : Str} {sp : Sp} {s₁ : Shared} {H : Hp}
/-- the run from a heap in which the tables and the script are tracked -/
theorem ent_run (KX : K.In s₁.heap) (hns : s₁.heap.Ns mainGlobals mg) (hb : s₁.heap.Ns builtinsNs mb) (hbb : ∀ x : Str, x ≠ "__name__" → mb x = bootBuiltins x) (hlim : s₁.heap.NoLimit) (hg : s₁.gens = #[])
    (tab : ∀ b ∈ cs.map (·.2), s₁.heap.get? b = some { cls := .none, data := .fields #[] }) (ntab : ∀ b ∈ cs.map (·.2), K.lookup b = none) (C : ∀ p ∈ cs, PySem.W.CodeHd s₁.heap p.1 p.2)
    (hbm : ∃ (bm : Addr) (ob : Obj), mg "__builtins__" = some (.ref bm) ∧ bm ≠ builtinsNs ∧ s₁.heap.get? bm = some ob ∧ ob.cls = .type "module" ∧ ob.dict = some builtinsNs ∧ ob.data = .plain)
    {l : Obj} (la : s₁.heap.get? a = some l) (ld : ∃ vs n, l.data = .seq vs n)
    (F : ∀ base : Heap, K.In base → base.Ns mainGlobals mg → (∀ p ∈ cs, LamX.TabB base mg p.1 p.2) → FnG P w K mg base k fa fd [x] sp) (hr : Room k callerA) (hbind : BindsTo s₁ fd ⟨[.ref a], []⟩ [(x, .ref a)])
    (hH : ∀ b o, H b = some o → (b ∈ cs.map (·.2) ∧ o = .tbl #[]) ∨ (b = a ∧ K.lookup a = none ∧ ∃ ob xs, o = .frz ob (.lst xs))) (hT : ∀ b ∈ cs.map (·.2), H b = some (.tbl #[])) (hok : HOk P w H s₁.heap)
    (hs : sp [.ref a] H (fun v _ => v = .bl true) fun _ _ _ => False) (hCX : ∀ e s', L2.CX P w [] H s₁ (fun _ _ _ => False) e s' → False) :
    codeAny (model P w) callerA (.call (.ref fa) ⟨[.ref a], []⟩) (fun r s' => r = .ok (.ret (.bool true)) ∧ OldK s₁.heap s'.heap ∧ s'.os = s₁.os ∧ AllBare s'.gens) s₁ := by
  have seen : ∀ {b : Addr} {o : Obj}, s₁.heap.get? b = some o → (∀ vs n, o.data ≠ .seq vs n) → o.data ≠ .fields #[] → H b = none := fun {b o} e n1 n2 => Classical.byContradiction fun z => by
    obtain ⟨u, hu⟩ := Option.ne_none_iff_exists'.mp z
    rcases hH b u hu with ⟨m, _⟩ | ⟨rfl, _, _⟩
    · have q := (tab b m).symm.trans e
      cases q
      exact n2 rfl
    · obtain ⟨vs, n, ed⟩ := ld
      cases la.symm.trans e
      exact n1 _ _ ed
  have dics : ∀ {b : Addr} {o : Obj} {es : Array DictEntry} {ep : Nat}, s₁.heap.get? b = some o → o.data = .dict es ep → H b = none := fun e d => seen e (fun _ _ z => by rw [d] at z; cases z) fun z => by rw [d] at z; cases z
  have nsB : ∀ {b : Addr} {m : Str → Option Value}, s₁.heap.Ns b m → (hidT s₁.heap H).Ns b m := fun h => by
    obtain ⟨o, es, ep, e, d, r⟩ := h
    exact ⟨o, es, ep, hidT_get e (dics e d), d, r⟩
  have kinB : K.In (hidT s₁.heap H) := fun b o e => hidT_get (KX b o e) (Classical.byContradiction fun z => by
    obtain ⟨u, hu⟩ := Option.ne_none_iff_exists'.mp z
    rcases hH b u hu with ⟨m, _⟩ | ⟨rfl, q, _⟩
    · rw [ntab b m] at e; cases e
    · rw [q] at e; cases e)
  have modB : L2.Mod K mg (hidT s₁.heap H) := ⟨kinB, nsB hns, ⟨mb, nsB hb, hbb⟩, hlim.imp fun mc h => ⟨nsB h.1, h.2⟩⟩
  have tabB : ∀ p ∈ cs, LamX.TabB (hidT s₁.heap H) mg p.1 p.2 := fun p hp => by
    have tp := tab p.2 (List.mem_map_of_mem hp)
    obtain ⟨o, us, file, tf, flags, tg, inF, text, tt, e1, r1, r2, r3, r⟩ := C p hp
    obtain ⟨bm, ob, b1, b2, b3, b4, b5, b6⟩ := hbm
    refine ⟨⟨o, us, file, tf, flags, tg, inF, text, tt, hidT_get e1 (seen e1 (fun _ _ z => by rw [r2] at z; cases z) fun z => by rw [r2] at z; cases z; simp at r3), r1, r2, r3, r⟩, ⟨bm, ob, b1, b2, fun q => ?_, fun q => ?_, hidT_get b3 (seen b3 (fun _ _ z => by rw [b6] at z; cases z) fun z => by rw [b6] at z; cases z), b4, b5, b6⟩, fun z => ?_⟩
    · obtain ⟨o', es, ep, e, hd, _⟩ := hns
      rw [q, e] at b3; cases b3; rw [hd] at b6; cases b6
    · rw [q, tp] at b3; cases b3; cases b6
    · obtain ⟨o', es, ep, e, hd, _⟩ := hns
      rw [z, tp] at e; cases e; cases hd
  have env : Env0 P w K mg (hidT s₁.heap H) callerA [] s₁ H := ⟨rfl, modB, fun b o e => of_hidT e, Nat.le_of_eq (hidT_size _ _), trivial, fun b hb => (by cases hb), hok, .of_eq hg⟩
  refine codeAny_mono ((F _ kinB (nsB hns) tabB).go callerA [] s₁ H ⟨[.ref a], []⟩ [.ref a] [.ref a] _ _ rfl hr env hbind (.cons rfl .nil) hs) fun r s' h => ?_
  match r, h with
  | .error e, h => exact (hCX e s' h).elim
  | .ok .next, h => exact False.elim h
  | .ok .brk, h => exact False.elim h
  | .ok .cont, h => exact False.elim h
  | .ok (.ret u), ⟨v, H', os, bare, un, hok', r', (q : v = .bl true)⟩ =>
    subst q
    obtain rfl : u = Value.bool true := r'
    have stays : ∀ b o, b ∉ cs.map (·.2) → s₁.heap.get? b = some o → s'.heap.get? b = some o := fun b o nb e => by
      cases q : H b with
      | none => exact un.keep b o e q (fun z => by cases z) (by simp)
      | some u =>
        rcases hH b u q with ⟨m, _⟩ | ⟨rfl, _, ob, xs, eu⟩
        · exact absurd m nb
        · subst eu
          have e1 := (hok _ _ q).1
          have e2 := (hok' _ _ (un.frzs _ _ _ q)).1
          rw [e] at e1; cases e1
          exact e2
    have grows : ∀ b ∈ cs.map (·.2), ∃ more : Array Value, s'.heap.get? b = some { cls := .none, data := .fields more } := fun b hb => by
      obtain ⟨more, z⟩ := un.tbls b #[] (hT b hb)
      exact ⟨_, hok' b _ z⟩
    refine ⟨rfl, ⟨fun b o e => ?_, fun b o e => ?_⟩, os, bare⟩
    · by_cases m : b ∈ cs.map (·.2)
      · obtain ⟨p, hp, ep⟩ := List.mem_map.mp m
        obtain ⟨more, hm⟩ := grows b m
        have t := tab b m
        cases t.symm.trans e
        subst ep
        refine .inr (.inl ⟨((C p hp).tab t).isCodeTable, rfl, #[], more, rfl, ?_⟩)
        rw [Array.empty_append]; exact hm
      · exact .inl (stays b o m e)
    · by_cases m : b ∈ cs.map (·.2)
      · obtain ⟨more, hm⟩ := grows b m
        exact ⟨_, hm⟩
      · exact ⟨o, stays b o m e⟩
theorem law_callG {vs : List Value} {ns : List Int} (KX : K.In s₁.heap) (hns : s₁.heap.Ns mainGlobals mg) (hb : s₁.heap.Ns builtinsNs mb) (hbb : ∀ x : Str, x ≠ "__name__" → mb x = bootBuiltins x) (hlim : s₁.heap.NoLimit) (hg : s₁.gens = #[])
    (hT : ∀ p ∈ cs, s₁.heap.get? p.2 = some { cls := .none, data := .fields #[] }) (nT : ∀ p ∈ cs, K.lookup p.2 = none) (C : ∀ p ∈ cs, PySem.W.CodeHd s₁.heap p.1 p.2)
    (hbm : ∃ (bm : Addr) (ob : Obj), mg "__builtins__" = some (.ref bm) ∧ bm ≠ builtinsNs ∧ s₁.heap.get? bm = some ob ∧ ob.cls = .type "module" ∧ ob.dict = some builtinsNs ∧ ob.data = .plain)
    (ha : s₁.heap.get? a = some { cls := .type "list", data := .seq vs.toArray }) (hi : IntsAre vs ns) (hl : ns.length ≤ sizeLine) (hr : Room k callerA)
    (F : ∀ base : Heap, K.In base → base.Ns mainGlobals mg → (∀ p ∈ cs, LamX.TabB base mg p.1 p.2) → FnG P w K mg base k fa fd [x] sp) (hbind : ∀ (s : Shared) (u : Value), BindsTo s fd ⟨[u], []⟩ [(x, u)])
    (hsp : ∀ H : Hp, (∀ p ∈ cs, H p.2 = some (.tbl #[])) → SqL K H a (ns.map V.int) → sp [.ref a] H (fun v _ => v = .bl true) fun _ _ _ => False)
    (hCX : ∀ H e s', L2.CX P w [] H s₁ (fun _ _ _ => False) e s' → False) :
    codeAny (model P w) callerA (.call (.ref fa) ⟨[.ref a], []⟩) (fun r s' => r = .ok (.ret (.bool true)) ∧ OldK s₁.heap s'.heap ∧ s'.os = s₁.os ∧ AllBare s'.gens) s₁ := by
  have rv := vals_ints hi
  have tab : ∀ b ∈ cs.map (·.2), s₁.heap.get? b = some { cls := .none, data := .fields #[] } := fun b hb => by
    obtain ⟨p, hp, e⟩ := List.mem_map.mp hb
    exact e ▸ hT p hp
  have ntab : ∀ b ∈ cs.map (·.2), K.lookup b = none := fun b hb => by
    obtain ⟨p, hp, e⟩ := List.mem_map.mp hb
    exact e ▸ nT p hp
  have aT : a ∉ cs.map (·.2) := fun z => by
    have q := (tab a z).symm.trans ha
    cases q
  have goal := fun (sc : Option (Addr × HO)) (h1 : ∀ b o, ent (cs.map (·.2)) sc b = some o → (b ∈ cs.map (·.2) ∧ o = .tbl #[]) ∨ (b = a ∧ K.lookup a = none ∧ ∃ ob xs, o = .frz ob (.lst xs))) (h3 : HOk P w (ent (cs.map (·.2)) sc) s₁.heap) (h4 : SqL K (ent (cs.map (·.2)) sc) a (ns.map V.int)) =>
    ent_run (H := ent (cs.map (·.2)) sc) KX hns hb hbb hlim hg tab ntab C hbm ha ⟨_, _, rfl⟩ F hr (hbind s₁ (.ref a)) h1 (fun b hb => entT _ _ hb) h3 (hsp (ent (cs.map (·.2)) sc) (fun p hp => entT _ _ (List.mem_map_of_mem hp)) h4) fun e s' => hCX _ e s'
  have tblOk : ∀ sc b o, b ∈ cs.map (·.2) → ent (cs.map (·.2)) sc b = some o → o = .tbl #[] := fun sc b o m e => by
    unfold ent at e
    rw [if_pos m] at e
    exact (Option.some.inj e).symm
  cases hk : K.lookup a with
  | some o =>
    cases ha.symm.trans (KX a o hk)
    refine goal none (fun b o e => ?_) (fun b o e => ?_) (.inr ⟨_, vs.toArray, _, hk, rfl, rfl, rfl, by rw [List.size_toArray, hi.length]; exact hl, by simpa using rv⟩)
    · by_cases m : b ∈ cs.map (·.2)
      · exact .inl ⟨m, tblOk _ b o m e⟩
      · unfold ent at e; rw [if_neg m] at e; cases e
    · by_cases m : b ∈ cs.map (·.2)
      · rw [tblOk _ b o m e]; exact tab b m
      · unfold ent at e; rw [if_neg m] at e; cases e
  | none =>
    have at_a : ent (cs.map (·.2)) (some (a, .frz { cls := .type "list", data := .seq vs.toArray } (.lst (ns.map V.int)))) a = some (.frz { cls := .type "list", data := .seq vs.toArray } (.lst (ns.map V.int))) := by
      unfold ent
      rw [if_neg aT]
      exact if_pos rfl
    have only_a : ∀ b o, b ∉ cs.map (·.2) → ent (cs.map (·.2)) (some (a, .frz { cls := .type "list", data := .seq vs.toArray } (.lst (ns.map V.int)))) b = some o → b = a ∧ o = .frz { cls := .type "list", data := .seq vs.toArray } (.lst (ns.map V.int)) := fun b o m e => by
      by_cases z : b = a
      · subst z; exact ⟨rfl, (Option.some.inj (at_a.symm.trans e)).symm⟩
      · unfold ent at e
        rw [if_neg m] at e
        have e : (if b = a then some (HO.frz { cls := .type "list", data := .seq vs.toArray } (.lst (ns.map V.int))) else none) = some o := e
        rw [if_neg z] at e
        cases e
    refine goal (some (a, .frz { cls := .type "list", data := .seq vs.toArray } (.lst (ns.map V.int)))) (fun b o e => ?_) (fun b o e => ?_) (.inl (.inr ⟨_, at_a⟩))
    · by_cases m : b ∈ cs.map (·.2)
      · exact .inl ⟨m, tblOk _ b o m e⟩
      · obtain ⟨e1, e2⟩ := only_a b o m e
        exact .inr ⟨e1, hk, _, _, e2⟩
    · by_cases m : b ∈ cs.map (·.2)
      · rw [tblOk _ b o m e]; exact tab b m
      · obtain ⟨e1, e2⟩ := only_a b o m e
        subst e1 e2
        exact ⟨ha, by rw [List.length_map]; exact hl, vs, _, rv, ha⟩
end
def LawAtG (l : PySem.W.OpenLaw) (w : World) (K : PySem.W.Frag) (k n : Nat) (x : Str) (mg : Str → Option Value) (fa : Addr) (h : Heap) : Prop :=
  ∃ (fd : FuncData) (cs : List (Addr × Addr)) (sp : Sp), (∀ p ∈ cs, h.get? p.2 = some { cls := .none, data := .fields #[] }) ∧ (∀ p ∈ cs, K.lookup p.2 = none) ∧ (∀ p ∈ cs, PySem.W.CodeHd h p.1 p.2) ∧ (∀ (s : Shared) (u : Value), BindsTo s fd ⟨[u], []⟩ [(x, u)]) ∧
    (∀ (H : Hp) (a : Addr) (ns : List Int), ns.length ≤ n → (∀ z ∈ ns, Builtin.Int.intBits z ≤ 1048576) → (∀ p ∈ cs, H p.2 = some (.tbl #[])) → SqL K H a (ns.map V.int) → sp [.ref a] H (fun v _ => v = .bl true) fun _ _ _ => False) ∧
    ∀ base : Heap, K.In base → base.Ns mainGlobals mg → (∀ p ∈ cs, LamX.TabB base mg p.1 p.2) → FnG l.prog w K mg base k fa fd [x] sp
theorem walk_ofG {l : PySem.W.OpenLaw} {n k : Nat} {q : Program} {loose : List Str} {XP : (Str → Option Value) → Heap → Prop} {YP : World → Heap → Prop} {d : DefRec} {x : Str} (hn : l.most = some n) (hn2 : n ≤ sizeLine) (hdf : d.params.defaults = []) (hr : Room k callerA)
    (F : ∀ (w : World) (mg : Str → Option Value) (fa : Addr) (h : Heap), YP w h → h.Ns mainGlobals mg → mg d.name = some (.ref fa) → ∃ K : PySem.W.Frag, K.In h ∧ LawAtG l w K k n x mg fa h)
    (hCX : ∀ (w : World) (H : Hp) (s : Shared) (e : Value) (s' : Shared), L2.CX l.prog w [] H s (fun _ _ _ => False) e s' → False) : PySem.W.WalkO q loose XP YP l.row.toRowW d [] (fun f vs => PySem.call f vs) :=
  Att.attach_callB hn hdf fun w s₀ s₁ mg mb fa o pm cd doc a vs ns G Y ho hd hcd hmg hobj hints hlen hbits hg => by
    obtain ⟨K, KX, fd, cs, sp, hT, nT, C, hb, hsp, hF⟩ := F w mg fa _ Y G.T.g hmg
    exact law_callG KX G.T.g G.T.b G.T.builtins G.T.nolimit hg hT nT C G.T.bmain hobj hints (Nat.le_trans hlen hn2) hr hF hb (fun H hH hS => hsp H a ns hlen hbits hH hS) fun H e s' => hCX w H s₁ e s'
end Fg
namespace Fg
open PySem PySem.Spec PyProof.Rows L2
section
variable {P : Program} {w : World} {K : PySem.W.Frag} {mg : Str → Option Value} {base : Heap} {k : Nat}
theorem FnG.imp {f : Addr} {fd : FuncData} {ps : List Str} {sp sp' : Sp} (F : FnG P w K mg base k f fd ps sp) (h : ∀ vs H Q E, sp' vs H Q E → sp vs H Q E) : FnG P w K mg base k f fd ps sp' :=
  ⟨fun vs H Q E q => F.ln _ _ _ _ (h _ _ _ _ q), fun A out s H args us vs Q E ng hr e b r q => F.go A out s H args us vs Q E ng hr e b r (h _ _ _ _ q)⟩
theorem calleeG_imp {x : Str} {ps : List Str} {sp sp' : Sp} (c : CalleeG P w K mg base k x ps sp) (h : ∀ vs H Q E, sp' vs H Q E → sp vs H Q E) : CalleeG P w K mg base k x ps sp' := by
  obtain ⟨f, fd, F, r⟩ := c.ex
  exact ⟨f, fd, F.imp h, r⟩
theorem CalleeG.g {x : Str} {ps : List Str} {sp : Sp} (c : CalleeG P w K mg base k x ps sp) : CalleeG P w K mg base k x ps sp := c
/-- a def that is known -/
theorem fnG_known {x : Str} {st : Stmt} {f : Addr} {fd : FuncData} {N ps : List Str} {sp : Sp} (F : Fun K x x st f fd) (S : FnScope N ps (defScope st))
    (len : ∀ vs H Q E, sp vs H Q E → vs.length = ps.length)
    (hbody : ∀ (f : Addr) (cdv : Value) (A : Around) (outer : List Env) (s : Shared) (H : Hp) (vs : List V) (Q : VK) (E : XK), NoG (cxOf (L2.CX P w) P w K mg base N x (defScope st) f cdv A outer s H E).A → Room k (cxOf (L2.CX P w) P w K mg base N x (defScope st) f cdv A outer s H E).A →
      Takes (cxOf (L2.CX P w) P w K mg base N x (defScope st) f cdv A outer s H E) (fun cls d _ H => E cls d H) →
      PassesOwn (model P w) (cxOf (L2.CX P w) P w K mg base N x (defScope st) f cdv A outer s H E).A (cxOf (L2.CX P w) P w K mg base N x (defScope st) f cdv A outer s H E).env (cxOf (L2.CX P w) P w K mg base N x (defScope st) f cdv A outer s H E).xe → sp vs H Q E →
      ∃ t, PSs (cxOf (L2.CX P w) P w K mg base N x (defScope st) f cdv A outer s H E) (defBody st) t ∧ t { nx := fun _ H' => Q .non H', rt := Q } (start N vs) H) :
    FnG P w K mg base (k + 1) f fd ps sp := fnG_of F S len fun cdv A outer s H vs Q E ng hr h => hbody f cdv A outer s H vs Q E ng hr (takes_of rfl rfl rfl rfl) (passes_of rfl) h
end
end Fg
namespace Fg
open PySem PySem.Spec PyProof.Rows L2
theorem oeL_ok {C : Addr} {K : PySem.W.Frag} (g : oeL K C = true) : OexL K C := by
  obtain ⟨g1, g⟩ := He.ba g
  obtain ⟨g2, g⟩ := He.ba g
  obtain ⟨g3, g⟩ := He.ba g
  obtain ⟨g4, g5⟩ := He.ba g
  refine ⟨?_, of_decide_eq_true g2, of_decide_eq_true g3, of_decide_eq_true g4, g5⟩
  split at g1
  · rename_i t dd cd sl lk
    obtain ⟨a1, g1⟩ := He.ba g1
    obtain ⟨a2, g1⟩ := He.ba g1
    obtain ⟨a3, a4⟩ := He.ba g1
    obtain ⟨a5, a6⟩ := He.ba a3
    obtain ⟨nm, bs, mro, ns, qn, hdct, sn, sub, ab, col, hdel⟩ := cd
    dsimp only at a2 a5 a6
    subst a5
    have e6 : hdel = false := by
      cases hdel with
      | false => rfl
      | true => cases a6
    subst e6
    split at a2
    · rename_i c bm
      obtain ⟨b1, b2⟩ := He.ba a2
      have b1 := of_decide_eq_true b1
      have e1 := of_decide_eq_true a1
      subst e1
      obtain ⟨sl⟩ := sl
      dsimp only at a4
      split at a4
      · have e4 := of_decide_eq_true a4
        subst b1
        subst e4
        exact ⟨_, _, _, _, _, _, _, _, _, _, _, _, _, _, _, lk, b2⟩
      · cases a4
    · cases a2
  · cases g1
end Fg
namespace Fg
open PySem PySem.Spec PyProof.Rows L2
theorem oeA_ok {C : Addr} {K : PySem.W.Frag} (g : oeA K C = true) : OexA K C := by
  obtain ⟨g1, g⟩ := He.ba g
  obtain ⟨g2, g⟩ := He.ba g
  obtain ⟨g3, g⟩ := He.ba g
  obtain ⟨g4, g5⟩ := He.ba g
  refine ⟨?_, of_decide_eq_true g2, of_decide_eq_true g3, of_decide_eq_true g4, g5⟩
  split at g1
  · rename_i t dd cd sl lk
    obtain ⟨a1, g1⟩ := He.ba g1
    obtain ⟨a2, g1⟩ := He.ba g1
    obtain ⟨a3, a4⟩ := He.ba g1
    obtain ⟨a5, a6⟩ := He.ba a3
    obtain ⟨nm, bs, mro, ns, qn, hdct, sn, sub, ab, col, hdel⟩ := cd
    dsimp only at a2 a5 a6
    subst a5
    have e6 : hdel = false := by
      cases hdel with
      | false => rfl
      | true => cases a6
    subst e6
    split at a2
    · rename_i c bm
      obtain ⟨b1, b2⟩ := He.ba a2
      have b1 := of_decide_eq_true b1
      have e1 := of_decide_eq_true a1
      subst e1
      obtain ⟨sl⟩ := sl
      dsimp only at a4
      split at a4
      · have e4 := of_decide_eq_true a4
        subst b1
        subst e4
        exact ⟨_, _, _, _, _, _, _, _, _, _, _, _, _, _, _, lk, b2⟩
      · cases a4
    · cases a2
  · cases g1
end Fg
namespace Fg
open PySem PySem.Spec PyProof.Rows L2
theorem ozB_ok {C : Addr} {K : PySem.W.Frag} (g : ozB K C = true) : OexZ K C := by
  obtain ⟨g1, g⟩ := He.ba g
  obtain ⟨g2, g⟩ := He.ba g
  obtain ⟨g3, g4⟩ := He.ba g
  exact ⟨g1, of_decide_eq_true g2, of_decide_eq_true g3, g4⟩
end Fg
namespace Fg
open PySem PySem.Spec PyProof.Rows L2
local macro_rules | `(tactic| walk_at "hp") => `(tactic| first | assumption | (refine Same.get (by assumption) ?_; walk_at "hp"))
local macro_rules | `(tactic| walk_at "sq") => `(tactic| first | assumption | (exact Or.inr (by assumption)) | (exact Or.inl (by assumption)) | (exact Or.inl (SqL.of (by walk_at "hp"))) | (exact Or.inr (SqT.of (by walk_at "hp"))) | (exact SqL.of (by walk_at "hp")) | (exact SqT.of (by walk_at "hp")))
local macro_rules | `(tactic| walk_at "cl") => `(tactic| first | ((first | show (_ : Int) < _ | show (_ : Int) ≤ _); first | omega | decide) | ((first | show (_ : Nat) < _ | show (_ : Nat) ≤ _); first | with_reducible assumption | (refine sz_le ?_; first | decide | omega | (simp <;> omega)) | (refine sz_lt ?_; first | decide | omega | (simp <;> omega)) | omega | decide | ((with_reducible show List.length _ < _); exact Nat.le_of_ble_eq_true rfl)) | rfl | walk_at "hp" | walk_at "sq" | (refine And.intro (by walk_at "cl") (by walk_at "cl")) | (exact Exists.intro _ (by walk_at "hp")) | (exact Exists.intro _ (Exists.intro _ (by walk_at "hp"))) | (exact Exists.intro _ (Exists.intro _ (And.intro (by walk_at "hp") rfl))) | decide | (exact Or.inl (by walk_at "cl")) | (exact Or.inr (by walk_at "cl")) | omega)
local macro_rules | `(tactic| walk_at "s1") => `(tactic| first | refine And.intro (by walk_at "cl") ?_ | apply Exists.intro)
local macro_rules | `(tactic| walk_at "sx") => `(tactic| repeat walk_at "s1")
local macro_rules | `(tactic| walk_at "si") => `(tactic| first | refine iteY rfl ?_ | refine iteN rfl ?_)
local macro_rules | `(tactic| walk_at "sy") => `(tactic| repeat first | walk_at "s1" | walk_at "si")
local macro_rules | `(tactic| simp! only [$xs,*]) => `(tactic| simp (maxSteps := 4000000) only [ev_bind, ev_pure, ev_ok, ev_er, ev_no, ev_ite, ev_t, ev_f, ev_some, ev_raise, ev_noErr, ev_nE, ev_nEo, ev_rd0, ev_rdS, ev_st0, ev_stN, ev_stS, ev_seq, ev_sqn, ev_sqr, ev_sqb, ev_sqc, ev_skip, ev_brk, ev_ctn, ev_set, ev_ret, ev_drop, ev_ifs, ev_ife, ev_run, ev_rnn, ev_rnr, ev_runi, ev_rni, ev_app, ev_aug, ev_par, ev_fld, ev_rai, ev_asO, ev_tgn, ev_tgT, ev_tg0, ev_tgS, ev_fors, ev_for0, ev_forS, ev_forB, ev_ffn, ev_ffc, ev_ffb, ev_ffr, ev_itL, ev_itT, ev_itS, ev_tbd, ev_tv, ev_not, ev_and, ev_or, ev_ande, ev_ore, ev_tee, ev_note, ev_yes, ev_cons, ev_nil, ev_cap, ev_call, ev_ndd, ev_nkd, ev_nsd, ev_star, ev_sqL, ev_sqT, ev_met, ev_lc, ev_str, ev_slc, ev_chain, ev_end, ev_endo, ev_ende, ev_add, ev_addS, ev_cat, ev_sub, ev_mul, ev_mod, ev_fdiv, ev_lt, ev_le, ev_gt, ev_ge, ev_eqI, ev_eqS, ev_eqB, ev_neI, ev_neS, ev_neB, ev_nn, ev_nI, ev_nS, ev_nO, ev_nD, ev_lenL, ev_lenT, ev_lenS, ev_int, ev_ixL, ev_ixT, ev_fldD, ev_isC, ev_neg, ev_tup, ev_fmtS, ev_fmtI, ev_slS, ev_slL, ev_slT, ev_part, ev_wp0, ev_wpS, ev_sg1, ev_inS, ev_index, ev_ixS, ev_jn0, ev_jnS, ev_sz, ev_szl, ev_at0, ev_at1, ev_at2, ev_at3, ev_at4, ev_at5, ev_tri, ev_divmod, ev_tgM, ev_getOr, ev_tryo, ev_tryN, ev_trye, ev_isbI, ev_isbB, ev_ltS, ev_geS, ev_par3, ev_reg, ev_fldXD, ev_methX, ev_methXK, ev_callX, ev_mfld, ev_dgetM, ev_tgMD, ev_inDk, ev_endRM, ev_endRo, ev_endRe, ev_endRz, ev_tgL, ev_upper, ev_lenM2L, ev_lenM2M, ev_ixM2L, ev_ixM2M, ev_nilMM, ev_mapp, ev_raise0, ev_tryFin, ev_zfill, ev_methXS, ev_ljust, ev_rjust, ev_tryNx, ev_laug, ev_mvIf, ev_ext, ev_lc2D, ev_endXM, ev_endXo, ev_endXe, ev_quiet, ev_tim, List.set_cons_zero, List.set_cons_succ, List.length_cons, List.length_nil, eq_self, Bool.not_true, Bool.not_false, Bool.false_eq_true, decide_true, decide_false, List.nil_append, List.cons_append, decide_eq_true_eq, reduceCtorEq, Nat.reduceAdd, Nat.reduceSub, Nat.reduceLT, Nat.reduceLeDiff, Nat.reduceEqDiff, Int.reduceAdd, Int.reduceSub, Int.reduceMul, Int.reduceEq, Int.reduceLT, Int.reduceLE, Int.reduceNeg, Int.reduceToNat, Nat.zero_add, Int.cast_ofNat_Int, List.drop_succ_cons, List.drop_zero, List.append_nil, $xs,*])
section
open PySem PySem.Spec PyProof.Rows L2
theorem sc_NotAFormatdd_initdd : FnScope ["self", "value"] ["self", "value"] (defScope s_NotAFormatdd_initdd) := ⟨rfl, rfl, rfl, by decide +kernel, rfl, by decide +kernel, by decide +kernel⟩
theorem sc_NotALinedd_initdd : FnScope ["self", "value"] ["self", "value"] (defScope s_NotALinedd_initdd) := ⟨rfl, rfl, rfl, by decide +kernel, rfl, by decide +kernel, by decide +kernel⟩
theorem sc_NotALedgerdd_initdd : FnScope ["self", "value"] ["self", "value"] (defScope s_NotALedgerdd_initdd) := ⟨rfl, rfl, rfl, by decide +kernel, rfl, by decide +kernel, by decide +kernel⟩
theorem sc_InvalidNumberdd_initdd : FnScope ["self", "value"] ["self", "value"] (defScope s_InvalidNumberdd_initdd) := ⟨rfl, rfl, rfl, by decide +kernel, rfl, by decide +kernel, by decide +kernel⟩
theorem sc_InvalidTextdd_initdd : FnScope ["self", "value"] ["self", "value"] (defScope s_InvalidTextdd_initdd) := ⟨rfl, rfl, rfl, by decide +kernel, rfl, by decide +kernel, by decide +kernel⟩
theorem sc_InvalidNamedd_initdd : FnScope ["self", "value"] ["self", "value"] (defScope s_InvalidNamedd_initdd) := ⟨rfl, rfl, rfl, by decide +kernel, rfl, by decide +kernel, by decide +kernel⟩
theorem sc_InvalidWishdd_initdd : FnScope ["self", "value"] ["self", "value"] (defScope s_InvalidWishdd_initdd) := ⟨rfl, rfl, rfl, by decide +kernel, rfl, by decide +kernel, by decide +kernel⟩
theorem sc_InvalidSignsdd_initdd : FnScope ["self", "value"] ["self", "value"] (defScope s_InvalidSignsdd_initdd) := ⟨rfl, rfl, rfl, by decide +kernel, rfl, by decide +kernel, by decide +kernel⟩
theorem sc_InvalidRowdd_initdd : FnScope ["self", "value"] ["self", "value"] (defScope s_InvalidRowdd_initdd) := ⟨rfl, rfl, rfl, by decide +kernel, rfl, by decide +kernel, by decide +kernel⟩
theorem sc_UnknownNamedd_initdd : FnScope ["self", "value"] ["self", "value"] (defScope s_UnknownNamedd_initdd) := ⟨rfl, rfl, rfl, by decide +kernel, rfl, by decide +kernel, by decide +kernel⟩
theorem sc_UnknownSettingdd_initdd : FnScope ["self", "value"] ["self", "value"] (defScope s_UnknownSettingdd_initdd) := ⟨rfl, rfl, rfl, by decide +kernel, rfl, by decide +kernel, by decide +kernel⟩
theorem sc_UnknownKinddd_initdd : FnScope ["self", "value"] ["self", "value"] (defScope s_UnknownKinddd_initdd) := ⟨rfl, rfl, rfl, by decide +kernel, rfl, by decide +kernel, by decide +kernel⟩
theorem sc_InvalidSettingdd_initdd : FnScope ["self", "setting"] ["self", "setting"] (defScope s_InvalidSettingdd_initdd) := ⟨rfl, rfl, rfl, by decide +kernel, rfl, by decide +kernel, by decide +kernel⟩
theorem sc_InvalidRangedd_initdd : FnScope ["self", "end"] ["self", "end"] (defScope s_InvalidRangedd_initdd) := ⟨rfl, rfl, rfl, by decide +kernel, rfl, by decide +kernel, by decide +kernel⟩
theorem sc_InvalidPartsdd_initdd : FnScope ["self", "index"] ["self", "index"] (defScope s_InvalidPartsdd_initdd) := ⟨rfl, rfl, rfl, by decide +kernel, rfl, by decide +kernel, by decide +kernel⟩
theorem sc_InvalidNumbersdd_initdd : FnScope ["self", "index"] ["self", "index"] (defScope s_InvalidNumbersdd_initdd) := ⟨rfl, rfl, rfl, by decide +kernel, rfl, by decide +kernel, by decide +kernel⟩
theorem sc_InvalidKindsdd_initdd : FnScope ["self", "index"] ["self", "index"] (defScope s_InvalidKindsdd_initdd) := ⟨rfl, rfl, rfl, by decide +kernel, rfl, by decide +kernel, by decide +kernel⟩
theorem sc_InvalidDeedsdd_initdd : FnScope ["self", "index"] ["self", "index"] (defScope s_InvalidDeedsdd_initdd) := ⟨rfl, rfl, rfl, by decide +kernel, rfl, by decide +kernel, by decide +kernel⟩
theorem sc_NoSuchRowdd_initdd : FnScope ["self", "place"] ["self", "place"] (defScope s_NoSuchRowdd_initdd) := ⟨rfl, rfl, rfl, by decide +kernel, rfl, by decide +kernel, by decide +kernel⟩
theorem sc_TooLongdd_initdd : FnScope ["self", "limit"] ["self", "limit"] (defScope s_TooLongdd_initdd) := ⟨rfl, rfl, rfl, by decide +kernel, rfl, by decide +kernel, by decide +kernel⟩
theorem sc_l_pot : FnScope ["_law_script", "_law_k", "_law_beaten", "_law_each", "_law_entry"] ["_law_script", "_law_k"] (defScope s_l_pot) := ⟨rfl, rfl, rfl, by decide +kernel, rfl, by decide +kernel, by decide +kernel⟩
theorem sc_l_spoon : FnScope ["_law_pot_here", "_law_wide", "_law_left"] ["_law_pot_here", "_law_wide"] (defScope s_l_spoon) := ⟨rfl, rfl, rfl, by decide +kernel, rfl, by decide +kernel, by decide +kernel⟩
theorem sc_l_of : FnScope ["_law_pot_here", "_law_things"] ["_law_pot_here", "_law_things"] (defScope s_l_of) := ⟨rfl, rfl, rfl, by decide +kernel, rfl, by decide +kernel, by decide +kernel⟩
theorem sc_l_values : FnScope ["_law_thing", "_law_made", "_law_more"] ["_law_thing"] (defScope s_l_values) := ⟨rfl, rfl, rfl, by decide +kernel, rfl, by decide +kernel, by decide +kernel⟩
theorem sc_l_indexes : FnScope ["_law_thing", "_law_made", "_law_more"] ["_law_thing"] (defScope s_l_indexes) := ⟨rfl, rfl, rfl, by decide +kernel, rfl, by decide +kernel, by decide +kernel⟩
theorem sc_l_kept_right : FnScope ["_law_thing", "_law_some", "_law_places", "_law_seen", "_law_others", "_law_e"] ["_law_thing"] (defScope s_l_kept_right) := ⟨rfl, rfl, rfl, by decide +kernel, rfl, by decide +kernel, by decide +kernel⟩
theorem sc_l_classes : FnScope ["_law_e", "_law_seen"] ["_law_e"] (defScope s_l_classes) := ⟨rfl, rfl, rfl, by decide +kernel, rfl, by decide +kernel, by decide +kernel⟩
theorem sc_l_kin : FnScope ["_law_e", "_law_seen"] ["_law_e"] (defScope s_l_kin) := ⟨rfl, rfl, rfl, by decide +kernel, rfl, by decide +kernel, by decide +kernel⟩
theorem sc_l_right : FnScope ["_law_pot_here", "_law_thing", "_law_some", "_law_moments", "_law_tops", "_law_limits", "_law_e"] ["_law_pot_here"] (defScope s_l_right) := ⟨rfl, rfl, rfl, by decide +kernel, rfl, by decide +kernel, by decide +kernel⟩
theorem sc_law : FnScope ["_law_script", "_law_k"] ["_law_script"] (defScope s_law) := ⟨rfl, rfl, rfl, by decide +kernel, rfl, by decide +kernel, by decide +kernel⟩
/-- where the text's classes and tables stand -/
structure Ad where
  cUnfit : Addr
  cUnready : Addr
  cBeyond : Addr
  cNotAFormat : Addr
  cNotALine : Addr
  cNotALedger : Addr
  cInvalidNumber : Addr
  cInvalidText : Addr
  cInvalidName : Addr
  cInvalidWish : Addr
  cInvalidSigns : Addr
  cInvalidRow : Addr
  cUnknownName : Addr
  cUnknownSetting : Addr
  cUnknownKind : Addr
  cInvalidSetting : Addr
  cInvalidRange : Addr
  cInvalidParts : Addr
  cInvalidNumbers : Addr
  cInvalidKinds : Addr
  cInvalidDeeds : Addr
  cNothingToUndo : Addr
  cBusy : Addr
  cNoSuchRow : Addr
  cTooLong : Addr
/-- what the top has written -/
structure Txt (w : World) (K : PySem.W.Frag) (mg : Str → Option Value) (A : Ad) : Prop where
  oe_NotAFormat : OexC K A.cNotAFormat
  g_NotAFormat : mg "NotAFormat" = some (.ref A.cNotAFormat)
  I_NotAFormatdd_initdd : InitAt K A.cNotAFormat "NotAFormat.__init__" s_NotAFormatdd_initdd
  nf_NotAFormat : PySem.W.findIn K (.ref A.cNotAFormat) "value" = some none
  oe_NotALine : OexC K A.cNotALine
  g_NotALine : mg "NotALine" = some (.ref A.cNotALine)
  I_NotALinedd_initdd : InitAt K A.cNotALine "NotALine.__init__" s_NotALinedd_initdd
  nf_NotALine : PySem.W.findIn K (.ref A.cNotALine) "value" = some none
  oe_NotALedger : OexC K A.cNotALedger
  g_NotALedger : mg "NotALedger" = some (.ref A.cNotALedger)
  I_NotALedgerdd_initdd : InitAt K A.cNotALedger "NotALedger.__init__" s_NotALedgerdd_initdd
  nf_NotALedger : PySem.W.findIn K (.ref A.cNotALedger) "value" = some none
  oe_InvalidNumber : OexC K A.cInvalidNumber
  g_InvalidNumber : mg "InvalidNumber" = some (.ref A.cInvalidNumber)
  I_InvalidNumberdd_initdd : InitAt K A.cInvalidNumber "InvalidNumber.__init__" s_InvalidNumberdd_initdd
  nf_InvalidNumber : PySem.W.findIn K (.ref A.cInvalidNumber) "value" = some none
  oe_InvalidText : OexC K A.cInvalidText
  g_InvalidText : mg "InvalidText" = some (.ref A.cInvalidText)
  I_InvalidTextdd_initdd : InitAt K A.cInvalidText "InvalidText.__init__" s_InvalidTextdd_initdd
  nf_InvalidText : PySem.W.findIn K (.ref A.cInvalidText) "value" = some none
  oe_InvalidName : OexC K A.cInvalidName
  g_InvalidName : mg "InvalidName" = some (.ref A.cInvalidName)
  I_InvalidNamedd_initdd : InitAt K A.cInvalidName "InvalidName.__init__" s_InvalidNamedd_initdd
  nf_InvalidName : PySem.W.findIn K (.ref A.cInvalidName) "value" = some none
  oe_InvalidWish : OexC K A.cInvalidWish
  g_InvalidWish : mg "InvalidWish" = some (.ref A.cInvalidWish)
  I_InvalidWishdd_initdd : InitAt K A.cInvalidWish "InvalidWish.__init__" s_InvalidWishdd_initdd
  nf_InvalidWish : PySem.W.findIn K (.ref A.cInvalidWish) "value" = some none
  oe_InvalidSigns : OexC K A.cInvalidSigns
  g_InvalidSigns : mg "InvalidSigns" = some (.ref A.cInvalidSigns)
  I_InvalidSignsdd_initdd : InitAt K A.cInvalidSigns "InvalidSigns.__init__" s_InvalidSignsdd_initdd
  nf_InvalidSigns : PySem.W.findIn K (.ref A.cInvalidSigns) "value" = some none
  oe_InvalidRow : OexC K A.cInvalidRow
  g_InvalidRow : mg "InvalidRow" = some (.ref A.cInvalidRow)
  I_InvalidRowdd_initdd : InitAt K A.cInvalidRow "InvalidRow.__init__" s_InvalidRowdd_initdd
  nf_InvalidRow : PySem.W.findIn K (.ref A.cInvalidRow) "value" = some none
  oe_UnknownName : OexC K A.cUnknownName
  g_UnknownName : mg "UnknownName" = some (.ref A.cUnknownName)
  I_UnknownNamedd_initdd : InitAt K A.cUnknownName "UnknownName.__init__" s_UnknownNamedd_initdd
  nf_UnknownName : PySem.W.findIn K (.ref A.cUnknownName) "value" = some none
  oe_UnknownSetting : OexC K A.cUnknownSetting
  g_UnknownSetting : mg "UnknownSetting" = some (.ref A.cUnknownSetting)
  I_UnknownSettingdd_initdd : InitAt K A.cUnknownSetting "UnknownSetting.__init__" s_UnknownSettingdd_initdd
  nf_UnknownSetting : PySem.W.findIn K (.ref A.cUnknownSetting) "value" = some none
  oe_UnknownKind : OexC K A.cUnknownKind
  g_UnknownKind : mg "UnknownKind" = some (.ref A.cUnknownKind)
  I_UnknownKinddd_initdd : InitAt K A.cUnknownKind "UnknownKind.__init__" s_UnknownKinddd_initdd
  nf_UnknownKind : PySem.W.findIn K (.ref A.cUnknownKind) "value" = some none
  oe_InvalidSetting : OexC K A.cInvalidSetting
  g_InvalidSetting : mg "InvalidSetting" = some (.ref A.cInvalidSetting)
  I_InvalidSettingdd_initdd : InitAt K A.cInvalidSetting "InvalidSetting.__init__" s_InvalidSettingdd_initdd
  nf_InvalidSetting : PySem.W.findIn K (.ref A.cInvalidSetting) "setting" = some none
  oe_InvalidRange : OexC K A.cInvalidRange
  g_InvalidRange : mg "InvalidRange" = some (.ref A.cInvalidRange)
  I_InvalidRangedd_initdd : InitAt K A.cInvalidRange "InvalidRange.__init__" s_InvalidRangedd_initdd
  nf_InvalidRange : PySem.W.findIn K (.ref A.cInvalidRange) "end" = some none
  oe_InvalidParts : OexC K A.cInvalidParts
  g_InvalidParts : mg "InvalidParts" = some (.ref A.cInvalidParts)
  I_InvalidPartsdd_initdd : InitAt K A.cInvalidParts "InvalidParts.__init__" s_InvalidPartsdd_initdd
  nf_InvalidParts : PySem.W.findIn K (.ref A.cInvalidParts) "index" = some none
  oe_InvalidNumbers : OexC K A.cInvalidNumbers
  g_InvalidNumbers : mg "InvalidNumbers" = some (.ref A.cInvalidNumbers)
  I_InvalidNumbersdd_initdd : InitAt K A.cInvalidNumbers "InvalidNumbers.__init__" s_InvalidNumbersdd_initdd
  nf_InvalidNumbers : PySem.W.findIn K (.ref A.cInvalidNumbers) "index" = some none
  oe_InvalidKinds : OexC K A.cInvalidKinds
  g_InvalidKinds : mg "InvalidKinds" = some (.ref A.cInvalidKinds)
  I_InvalidKindsdd_initdd : InitAt K A.cInvalidKinds "InvalidKinds.__init__" s_InvalidKindsdd_initdd
  nf_InvalidKinds : PySem.W.findIn K (.ref A.cInvalidKinds) "index" = some none
  oe_InvalidDeeds : OexC K A.cInvalidDeeds
  g_InvalidDeeds : mg "InvalidDeeds" = some (.ref A.cInvalidDeeds)
  I_InvalidDeedsdd_initdd : InitAt K A.cInvalidDeeds "InvalidDeeds.__init__" s_InvalidDeedsdd_initdd
  nf_InvalidDeeds : PySem.W.findIn K (.ref A.cInvalidDeeds) "index" = some none
  ol_NoSuchRow : OexL K A.cNoSuchRow
  g_NoSuchRow : mg "NoSuchRow" = some (.ref A.cNoSuchRow)
  I_NoSuchRowdd_initdd : InitAt K A.cNoSuchRow "NoSuchRow.__init__" s_NoSuchRowdd_initdd
  nf_NoSuchRow : PySem.W.findIn K (.ref A.cNoSuchRow) "place" = some none
  oa_TooLong : OexA K A.cTooLong
  g_TooLong : mg "TooLong" = some (.ref A.cTooLong)
  I_TooLongdd_initdd : InitAt K A.cTooLong "TooLong.__init__" s_TooLongdd_initdd
  nf_TooLong : PySem.W.findIn K (.ref A.cTooLong) "limit" = some none
  ndu : ([A.cUnfit, A.cUnready, A.cBeyond, A.cNotAFormat, A.cNotALine, A.cNotALedger, A.cInvalidNumber, A.cInvalidText, A.cInvalidName, A.cInvalidWish, A.cInvalidSigns, A.cInvalidRow, A.cUnknownName, A.cUnknownSetting, A.cUnknownKind, A.cInvalidSetting, A.cInvalidRange, A.cInvalidParts, A.cInvalidNumbers, A.cInvalidKinds, A.cInvalidDeeds, A.cNothingToUndo, A.cBusy, A.cNoSuchRow, A.cTooLong] : List Addr).Nodup
  xc_NotAFormat : ExcC K A.cNotAFormat
  me_NotAFormat : (PySem.W.clsIn K A.cNotAFormat).map (·.mro) = some (exMro A.cNotAFormat A.cUnfit "ValueError")
  xc_NotALine : ExcC K A.cNotALine
  me_NotALine : (PySem.W.clsIn K A.cNotALine).map (·.mro) = some (exMro A.cNotALine A.cUnfit "ValueError")
  xc_NotALedger : ExcC K A.cNotALedger
  me_NotALedger : (PySem.W.clsIn K A.cNotALedger).map (·.mro) = some (exMro A.cNotALedger A.cUnfit "ValueError")
  xc_InvalidNumber : ExcC K A.cInvalidNumber
  me_InvalidNumber : (PySem.W.clsIn K A.cInvalidNumber).map (·.mro) = some (exMro A.cInvalidNumber A.cUnfit "ValueError")
  xc_InvalidText : ExcC K A.cInvalidText
  me_InvalidText : (PySem.W.clsIn K A.cInvalidText).map (·.mro) = some (exMro A.cInvalidText A.cUnfit "ValueError")
  xc_InvalidName : ExcC K A.cInvalidName
  me_InvalidName : (PySem.W.clsIn K A.cInvalidName).map (·.mro) = some (exMro A.cInvalidName A.cUnfit "ValueError")
  xc_InvalidWish : ExcC K A.cInvalidWish
  me_InvalidWish : (PySem.W.clsIn K A.cInvalidWish).map (·.mro) = some (exMro A.cInvalidWish A.cUnfit "ValueError")
  xc_InvalidSigns : ExcC K A.cInvalidSigns
  me_InvalidSigns : (PySem.W.clsIn K A.cInvalidSigns).map (·.mro) = some (exMro A.cInvalidSigns A.cUnfit "ValueError")
  xc_InvalidRow : ExcC K A.cInvalidRow
  me_InvalidRow : (PySem.W.clsIn K A.cInvalidRow).map (·.mro) = some (exMro A.cInvalidRow A.cUnfit "ValueError")
  xc_UnknownName : ExcC K A.cUnknownName
  me_UnknownName : (PySem.W.clsIn K A.cUnknownName).map (·.mro) = some (exMro A.cUnknownName A.cUnfit "ValueError")
  xc_UnknownSetting : ExcC K A.cUnknownSetting
  me_UnknownSetting : (PySem.W.clsIn K A.cUnknownSetting).map (·.mro) = some (exMro A.cUnknownSetting A.cUnfit "ValueError")
  xc_UnknownKind : ExcC K A.cUnknownKind
  me_UnknownKind : (PySem.W.clsIn K A.cUnknownKind).map (·.mro) = some (exMro A.cUnknownKind A.cUnfit "ValueError")
  xc_InvalidSetting : ExcC K A.cInvalidSetting
  me_InvalidSetting : (PySem.W.clsIn K A.cInvalidSetting).map (·.mro) = some (exMro A.cInvalidSetting A.cUnfit "ValueError")
  xc_InvalidRange : ExcC K A.cInvalidRange
  me_InvalidRange : (PySem.W.clsIn K A.cInvalidRange).map (·.mro) = some (exMro A.cInvalidRange A.cUnfit "ValueError")
  xc_InvalidParts : ExcC K A.cInvalidParts
  me_InvalidParts : (PySem.W.clsIn K A.cInvalidParts).map (·.mro) = some (exMro A.cInvalidParts A.cUnfit "ValueError")
  xc_InvalidNumbers : ExcC K A.cInvalidNumbers
  me_InvalidNumbers : (PySem.W.clsIn K A.cInvalidNumbers).map (·.mro) = some (exMro A.cInvalidNumbers A.cUnfit "ValueError")
  xc_InvalidKinds : ExcC K A.cInvalidKinds
  me_InvalidKinds : (PySem.W.clsIn K A.cInvalidKinds).map (·.mro) = some (exMro A.cInvalidKinds A.cUnfit "ValueError")
  xc_InvalidDeeds : ExcC K A.cInvalidDeeds
  me_InvalidDeeds : (PySem.W.clsIn K A.cInvalidDeeds).map (·.mro) = some (exMro A.cInvalidDeeds A.cUnfit "ValueError")
  xc_NothingToUndo : ExcC K A.cNothingToUndo
  me_NothingToUndo : (PySem.W.clsIn K A.cNothingToUndo).map (·.mro) = some (exMro A.cNothingToUndo A.cUnready "LookupError")
  xc_Busy : ExcC K A.cBusy
  me_Busy : (PySem.W.clsIn K A.cBusy).map (·.mro) = some (exMro A.cBusy A.cUnready "LookupError")
  xc_NoSuchRow : ExcC K A.cNoSuchRow
  me_NoSuchRow : (PySem.W.clsIn K A.cNoSuchRow).map (·.mro) = some (exMro A.cNoSuchRow A.cUnready "LookupError")
  xc_TooLong : ExcC K A.cTooLong
  me_TooLong : (PySem.W.clsIn K A.cTooLong).map (·.mro) = some (exMro A.cTooLong A.cBeyond "ArithmeticError")
  xf_NotAFormat : XfC K A.cNotAFormat
  xf_NotALine : XfC K A.cNotALine
  xf_NotALedger : XfC K A.cNotALedger
  xf_InvalidNumber : XfC K A.cInvalidNumber
  xf_InvalidText : XfC K A.cInvalidText
  xf_InvalidName : XfC K A.cInvalidName
  xf_InvalidWish : XfC K A.cInvalidWish
  xf_InvalidSigns : XfC K A.cInvalidSigns
  xf_InvalidRow : XfC K A.cInvalidRow
  xf_UnknownName : XfC K A.cUnknownName
  xf_UnknownSetting : XfC K A.cUnknownSetting
  xf_UnknownKind : XfC K A.cUnknownKind
  xf_InvalidSetting : XfC K A.cInvalidSetting
  xf_InvalidRange : XfC K A.cInvalidRange
  xf_InvalidParts : XfC K A.cInvalidParts
  xf_InvalidNumbers : XfC K A.cInvalidNumbers
  xf_InvalidKinds : XfC K A.cInvalidKinds
  xf_InvalidDeeds : XfC K A.cInvalidDeeds
  xf_NoSuchRow : XfC K A.cNoSuchRow
  xf_TooLong : XfC K A.cTooLong
  F_l_spoon : FunAt K mg "_law_spoon" s_l_spoon
  b_int : mg "int" = none
  F_l_of : FunAt K mg "_law_of" s_l_of
  b_len : mg "len" = none
  F_l_values : FunAt K mg "_law_values" s_l_values
  F_l_indexes : FunAt K mg "_law_indexes" s_l_indexes
  F_l_kept_right : FunAt K mg "_law_kept_right" s_l_kept_right
  sysm : (K.lookup sysModules).isSome = true
  b_repr : mg "repr" = none
  F_l_kin : FunAt K mg "_law_kin" s_l_kin
  kd_Unfit : ((PySem.W.clsIn K A.cUnfit).isSome && PySem.W.typeIn K (.ref A.cUnfit) == some (.type "type")) = true
  v_Unfit : ∃ u, mg "Unfit" = some u ∧ RelV (.ref A.cUnfit) u
  b_isinstance : mg "isinstance" = none
  kd_Unready : ((PySem.W.clsIn K A.cUnready).isSome && PySem.W.typeIn K (.ref A.cUnready) == some (.type "type")) = true
  v_Unready : ∃ u, mg "Unready" = some u ∧ RelV (.ref A.cUnready) u
  kd_Beyond : ((PySem.W.clsIn K A.cBeyond).isSome && PySem.W.typeIn K (.ref A.cBeyond) == some (.type "type")) = true
  v_Beyond : ∃ u, mg "Beyond" = some u ∧ RelV (.ref A.cBeyond) u
  b_ValueError : mg "ValueError" = none
  b_LookupError : mg "LookupError" = none
  b_ArithmeticError : mg "ArithmeticError" = none
  F_l_classes : FunAt K mg "_law_classes" s_l_classes
  kd_NotAFormat : ((PySem.W.clsIn K A.cNotAFormat).isSome && PySem.W.typeIn K (.ref A.cNotAFormat) == some (.type "type")) = true
  v_NotAFormat : ∃ u, mg "NotAFormat" = some u ∧ RelV (.ref A.cNotAFormat) u
  kd_NotALine : ((PySem.W.clsIn K A.cNotALine).isSome && PySem.W.typeIn K (.ref A.cNotALine) == some (.type "type")) = true
  v_NotALine : ∃ u, mg "NotALine" = some u ∧ RelV (.ref A.cNotALine) u
  kd_NotALedger : ((PySem.W.clsIn K A.cNotALedger).isSome && PySem.W.typeIn K (.ref A.cNotALedger) == some (.type "type")) = true
  v_NotALedger : ∃ u, mg "NotALedger" = some u ∧ RelV (.ref A.cNotALedger) u
  kd_InvalidNumber : ((PySem.W.clsIn K A.cInvalidNumber).isSome && PySem.W.typeIn K (.ref A.cInvalidNumber) == some (.type "type")) = true
  v_InvalidNumber : ∃ u, mg "InvalidNumber" = some u ∧ RelV (.ref A.cInvalidNumber) u
  kd_InvalidText : ((PySem.W.clsIn K A.cInvalidText).isSome && PySem.W.typeIn K (.ref A.cInvalidText) == some (.type "type")) = true
  v_InvalidText : ∃ u, mg "InvalidText" = some u ∧ RelV (.ref A.cInvalidText) u
  kd_InvalidName : ((PySem.W.clsIn K A.cInvalidName).isSome && PySem.W.typeIn K (.ref A.cInvalidName) == some (.type "type")) = true
  v_InvalidName : ∃ u, mg "InvalidName" = some u ∧ RelV (.ref A.cInvalidName) u
  kd_InvalidWish : ((PySem.W.clsIn K A.cInvalidWish).isSome && PySem.W.typeIn K (.ref A.cInvalidWish) == some (.type "type")) = true
  v_InvalidWish : ∃ u, mg "InvalidWish" = some u ∧ RelV (.ref A.cInvalidWish) u
  kd_InvalidSigns : ((PySem.W.clsIn K A.cInvalidSigns).isSome && PySem.W.typeIn K (.ref A.cInvalidSigns) == some (.type "type")) = true
  v_InvalidSigns : ∃ u, mg "InvalidSigns" = some u ∧ RelV (.ref A.cInvalidSigns) u
  kd_InvalidRow : ((PySem.W.clsIn K A.cInvalidRow).isSome && PySem.W.typeIn K (.ref A.cInvalidRow) == some (.type "type")) = true
  v_InvalidRow : ∃ u, mg "InvalidRow" = some u ∧ RelV (.ref A.cInvalidRow) u
  kd_UnknownName : ((PySem.W.clsIn K A.cUnknownName).isSome && PySem.W.typeIn K (.ref A.cUnknownName) == some (.type "type")) = true
  v_UnknownName : ∃ u, mg "UnknownName" = some u ∧ RelV (.ref A.cUnknownName) u
  kd_UnknownSetting : ((PySem.W.clsIn K A.cUnknownSetting).isSome && PySem.W.typeIn K (.ref A.cUnknownSetting) == some (.type "type")) = true
  v_UnknownSetting : ∃ u, mg "UnknownSetting" = some u ∧ RelV (.ref A.cUnknownSetting) u
  kd_UnknownKind : ((PySem.W.clsIn K A.cUnknownKind).isSome && PySem.W.typeIn K (.ref A.cUnknownKind) == some (.type "type")) = true
  v_UnknownKind : ∃ u, mg "UnknownKind" = some u ∧ RelV (.ref A.cUnknownKind) u
  kd_InvalidSetting : ((PySem.W.clsIn K A.cInvalidSetting).isSome && PySem.W.typeIn K (.ref A.cInvalidSetting) == some (.type "type")) = true
  v_InvalidSetting : ∃ u, mg "InvalidSetting" = some u ∧ RelV (.ref A.cInvalidSetting) u
  kd_InvalidRange : ((PySem.W.clsIn K A.cInvalidRange).isSome && PySem.W.typeIn K (.ref A.cInvalidRange) == some (.type "type")) = true
  v_InvalidRange : ∃ u, mg "InvalidRange" = some u ∧ RelV (.ref A.cInvalidRange) u
  kd_InvalidParts : ((PySem.W.clsIn K A.cInvalidParts).isSome && PySem.W.typeIn K (.ref A.cInvalidParts) == some (.type "type")) = true
  v_InvalidParts : ∃ u, mg "InvalidParts" = some u ∧ RelV (.ref A.cInvalidParts) u
  kd_InvalidNumbers : ((PySem.W.clsIn K A.cInvalidNumbers).isSome && PySem.W.typeIn K (.ref A.cInvalidNumbers) == some (.type "type")) = true
  v_InvalidNumbers : ∃ u, mg "InvalidNumbers" = some u ∧ RelV (.ref A.cInvalidNumbers) u
  kd_InvalidKinds : ((PySem.W.clsIn K A.cInvalidKinds).isSome && PySem.W.typeIn K (.ref A.cInvalidKinds) == some (.type "type")) = true
  v_InvalidKinds : ∃ u, mg "InvalidKinds" = some u ∧ RelV (.ref A.cInvalidKinds) u
  kd_InvalidDeeds : ((PySem.W.clsIn K A.cInvalidDeeds).isSome && PySem.W.typeIn K (.ref A.cInvalidDeeds) == some (.type "type")) = true
  v_InvalidDeeds : ∃ u, mg "InvalidDeeds" = some u ∧ RelV (.ref A.cInvalidDeeds) u
  kd_NothingToUndo : ((PySem.W.clsIn K A.cNothingToUndo).isSome && PySem.W.typeIn K (.ref A.cNothingToUndo) == some (.type "type")) = true
  v_NothingToUndo : ∃ u, mg "NothingToUndo" = some u ∧ RelV (.ref A.cNothingToUndo) u
  kd_Busy : ((PySem.W.clsIn K A.cBusy).isSome && PySem.W.typeIn K (.ref A.cBusy) == some (.type "type")) = true
  v_Busy : ∃ u, mg "Busy" = some u ∧ RelV (.ref A.cBusy) u
  kd_NoSuchRow : ((PySem.W.clsIn K A.cNoSuchRow).isSome && PySem.W.typeIn K (.ref A.cNoSuchRow) == some (.type "type")) = true
  v_NoSuchRow : ∃ u, mg "NoSuchRow" = some u ∧ RelV (.ref A.cNoSuchRow) u
  kd_TooLong : ((PySem.W.clsIn K A.cTooLong).isSome && PySem.W.typeIn K (.ref A.cTooLong) == some (.type "type")) = true
  v_TooLong : ∃ u, mg "TooLong" = some u ∧ RelV (.ref A.cTooLong) u
  F_l_right : FunAt K mg "_law_right" s_l_right
  oz_NothingToUndo : OexZ K A.cNothingToUndo
  g_NothingToUndo : mg "NothingToUndo" = some (.ref A.cNothingToUndo)
  oz_Busy : OexZ K A.cBusy
  g_Busy : mg "Busy" = some (.ref A.cBusy)
  b_all : mg "all" = none
  g_MOST_PARTS : ∃ u, mg "MOST_PARTS" = some u ∧ RelV (.int 8) u
  g_MOST_FIELDS : ∃ u, mg "MOST_FIELDS" = some u ∧ RelV (.int 4) u
  g_MOST_WIDTH : ∃ u, mg "MOST_WIDTH" = some u ∧ RelV (.int 12) u
  g_MOST_GROUP : ∃ u, mg "MOST_GROUP" = some u ∧ RelV (.int 4) u
  g_MOST_BOUND : ∃ u, mg "MOST_BOUND" = some u ∧ RelV (.int 1000000000000) u
  g_MOST_LENGTH : ∃ u, mg "MOST_LENGTH" = some u ∧ RelV (.int 400) u
  g_MOST_KINDS : ∃ u, mg "MOST_KINDS" = some u ∧ RelV (.int 6) u
  F_l_pot : FunAt K mg "_law_pot" s_l_pot
  b_abs : mg "abs" = none
  F_law : FunAt K mg "law" s_law
  b_range : mg "range" = none
  b_max : mg "max" = none
  b_min : mg "min" = none
end
section
open PySem PySem.Spec PyProof.Rows L2
def adOf (K : PySem.W.Frag) : Ad where
  cUnfit := He.ga K "Unfit"
  cUnready := He.ga K "Unready"
  cBeyond := He.ga K "Beyond"
  cNotAFormat := He.ga K "NotAFormat"
  cNotALine := He.ga K "NotALine"
  cNotALedger := He.ga K "NotALedger"
  cInvalidNumber := He.ga K "InvalidNumber"
  cInvalidText := He.ga K "InvalidText"
  cInvalidName := He.ga K "InvalidName"
  cInvalidWish := He.ga K "InvalidWish"
  cInvalidSigns := He.ga K "InvalidSigns"
  cInvalidRow := He.ga K "InvalidRow"
  cUnknownName := He.ga K "UnknownName"
  cUnknownSetting := He.ga K "UnknownSetting"
  cUnknownKind := He.ga K "UnknownKind"
  cInvalidSetting := He.ga K "InvalidSetting"
  cInvalidRange := He.ga K "InvalidRange"
  cInvalidParts := He.ga K "InvalidParts"
  cInvalidNumbers := He.ga K "InvalidNumbers"
  cInvalidKinds := He.ga K "InvalidKinds"
  cInvalidDeeds := He.ga K "InvalidDeeds"
  cNothingToUndo := He.ga K "NothingToUndo"
  cBusy := He.ga K "Busy"
  cNoSuchRow := He.ga K "NoSuchRow"
  cTooLong := He.ga K "TooLong"
theorem txt_of {w : World} {K : PySem.W.Frag} {h : Heap} {mg : Str → Option Value} (X : K.In h) (G : h.Ns mainGlobals mg) (c : SaysY headFa headFn headTs headTf headEx headSm w h K) : Txt w K mg (adOf K) where
  oe_NotAFormat := oeB_ok (exAt c.x.more 0 rfl)
  g_NotAFormat := He.glo_ok X G (c.x.t.d.fact 0 rfl)
  I_NotAFormatdd_initdd := initAt_of (c.x.t.d.def_ 0 rfl) (c.x.t.d.fact 1 rfl)
  nf_NotAFormat := He.noat_ok (c.x.t.d.fact 2 rfl)
  oe_NotALine := oeB_ok (exAt c.x.more 1 rfl)
  g_NotALine := He.glo_ok X G (c.x.t.d.fact 3 rfl)
  I_NotALinedd_initdd := initAt_of (c.x.t.d.def_ 1 rfl) (c.x.t.d.fact 4 rfl)
  nf_NotALine := He.noat_ok (c.x.t.d.fact 5 rfl)
  oe_NotALedger := oeB_ok (exAt c.x.more 2 rfl)
  g_NotALedger := He.glo_ok X G (c.x.t.d.fact 6 rfl)
  I_NotALedgerdd_initdd := initAt_of (c.x.t.d.def_ 2 rfl) (c.x.t.d.fact 7 rfl)
  nf_NotALedger := He.noat_ok (c.x.t.d.fact 8 rfl)
  oe_InvalidNumber := oeB_ok (exAt c.x.more 3 rfl)
  g_InvalidNumber := He.glo_ok X G (c.x.t.d.fact 9 rfl)
  I_InvalidNumberdd_initdd := initAt_of (c.x.t.d.def_ 3 rfl) (c.x.t.d.fact 10 rfl)
  nf_InvalidNumber := He.noat_ok (c.x.t.d.fact 11 rfl)
  oe_InvalidText := oeB_ok (exAt c.x.more 4 rfl)
  g_InvalidText := He.glo_ok X G (c.x.t.d.fact 12 rfl)
  I_InvalidTextdd_initdd := initAt_of (c.x.t.d.def_ 4 rfl) (c.x.t.d.fact 13 rfl)
  nf_InvalidText := He.noat_ok (c.x.t.d.fact 14 rfl)
  oe_InvalidName := oeB_ok (exAt c.x.more 5 rfl)
  g_InvalidName := He.glo_ok X G (c.x.t.d.fact 15 rfl)
  I_InvalidNamedd_initdd := initAt_of (c.x.t.d.def_ 5 rfl) (c.x.t.d.fact 16 rfl)
  nf_InvalidName := He.noat_ok (c.x.t.d.fact 17 rfl)
  oe_InvalidWish := oeB_ok (exAt c.x.more 6 rfl)
  g_InvalidWish := He.glo_ok X G (c.x.t.d.fact 18 rfl)
  I_InvalidWishdd_initdd := initAt_of (c.x.t.d.def_ 6 rfl) (c.x.t.d.fact 19 rfl)
  nf_InvalidWish := He.noat_ok (c.x.t.d.fact 20 rfl)
  oe_InvalidSigns := oeB_ok (exAt c.x.more 7 rfl)
  g_InvalidSigns := He.glo_ok X G (c.x.t.d.fact 21 rfl)
  I_InvalidSignsdd_initdd := initAt_of (c.x.t.d.def_ 7 rfl) (c.x.t.d.fact 22 rfl)
  nf_InvalidSigns := He.noat_ok (c.x.t.d.fact 23 rfl)
  oe_InvalidRow := oeB_ok (exAt c.x.more 8 rfl)
  g_InvalidRow := He.glo_ok X G (c.x.t.d.fact 24 rfl)
  I_InvalidRowdd_initdd := initAt_of (c.x.t.d.def_ 8 rfl) (c.x.t.d.fact 25 rfl)
  nf_InvalidRow := He.noat_ok (c.x.t.d.fact 26 rfl)
  oe_UnknownName := oeB_ok (exAt c.x.more 9 rfl)
  g_UnknownName := He.glo_ok X G (c.x.t.d.fact 27 rfl)
  I_UnknownNamedd_initdd := initAt_of (c.x.t.d.def_ 9 rfl) (c.x.t.d.fact 28 rfl)
  nf_UnknownName := He.noat_ok (c.x.t.d.fact 29 rfl)
  oe_UnknownSetting := oeB_ok (exAt c.x.more 10 rfl)
  g_UnknownSetting := He.glo_ok X G (c.x.t.d.fact 30 rfl)
  I_UnknownSettingdd_initdd := initAt_of (c.x.t.d.def_ 10 rfl) (c.x.t.d.fact 31 rfl)
  nf_UnknownSetting := He.noat_ok (c.x.t.d.fact 32 rfl)
  oe_UnknownKind := oeB_ok (exAt c.x.more 11 rfl)
  g_UnknownKind := He.glo_ok X G (c.x.t.d.fact 33 rfl)
  I_UnknownKinddd_initdd := initAt_of (c.x.t.d.def_ 11 rfl) (c.x.t.d.fact 34 rfl)
  nf_UnknownKind := He.noat_ok (c.x.t.d.fact 35 rfl)
  oe_InvalidSetting := oeB_ok (exAt c.x.more 12 rfl)
  g_InvalidSetting := He.glo_ok X G (c.x.t.d.fact 36 rfl)
  I_InvalidSettingdd_initdd := initAt_of (c.x.t.d.def_ 12 rfl) (c.x.t.d.fact 37 rfl)
  nf_InvalidSetting := He.noat_ok (c.x.t.d.fact 38 rfl)
  oe_InvalidRange := oeB_ok (exAt c.x.more 13 rfl)
  g_InvalidRange := He.glo_ok X G (c.x.t.d.fact 39 rfl)
  I_InvalidRangedd_initdd := initAt_of (c.x.t.d.def_ 13 rfl) (c.x.t.d.fact 40 rfl)
  nf_InvalidRange := He.noat_ok (c.x.t.d.fact 41 rfl)
  oe_InvalidParts := oeB_ok (exAt c.x.more 14 rfl)
  g_InvalidParts := He.glo_ok X G (c.x.t.d.fact 42 rfl)
  I_InvalidPartsdd_initdd := initAt_of (c.x.t.d.def_ 14 rfl) (c.x.t.d.fact 43 rfl)
  nf_InvalidParts := He.noat_ok (c.x.t.d.fact 44 rfl)
  oe_InvalidNumbers := oeB_ok (exAt c.x.more 15 rfl)
  g_InvalidNumbers := He.glo_ok X G (c.x.t.d.fact 45 rfl)
  I_InvalidNumbersdd_initdd := initAt_of (c.x.t.d.def_ 15 rfl) (c.x.t.d.fact 46 rfl)
  nf_InvalidNumbers := He.noat_ok (c.x.t.d.fact 47 rfl)
  oe_InvalidKinds := oeB_ok (exAt c.x.more 16 rfl)
  g_InvalidKinds := He.glo_ok X G (c.x.t.d.fact 48 rfl)
  I_InvalidKindsdd_initdd := initAt_of (c.x.t.d.def_ 16 rfl) (c.x.t.d.fact 49 rfl)
  nf_InvalidKinds := He.noat_ok (c.x.t.d.fact 50 rfl)
  oe_InvalidDeeds := oeB_ok (exAt c.x.more 17 rfl)
  g_InvalidDeeds := He.glo_ok X G (c.x.t.d.fact 51 rfl)
  I_InvalidDeedsdd_initdd := initAt_of (c.x.t.d.def_ 17 rfl) (c.x.t.d.fact 52 rfl)
  nf_InvalidDeeds := He.noat_ok (c.x.t.d.fact 53 rfl)
  ol_NoSuchRow := oeL_ok (exAt c.x.more 18 rfl)
  g_NoSuchRow := He.glo_ok X G (c.x.t.d.fact 54 rfl)
  I_NoSuchRowdd_initdd := initAt_of (c.x.t.d.def_ 18 rfl) (c.x.t.d.fact 55 rfl)
  nf_NoSuchRow := He.noat_ok (c.x.t.d.fact 56 rfl)
  oa_TooLong := oeA_ok (exAt c.x.more 19 rfl)
  g_TooLong := He.glo_ok X G (c.x.t.d.fact 57 rfl)
  I_TooLongdd_initdd := initAt_of (c.x.t.d.def_ 19 rfl) (c.x.t.d.fact 58 rfl)
  nf_TooLong := He.noat_ok (c.x.t.d.fact 59 rfl)
  ndu := of_decide_eq_true (exAt c.x.more 20 rfl)
  xc_NotAFormat := xcB_ok (exAt c.x.more 21 rfl)
  me_NotAFormat := of_decide_eq_true (exAt c.x.more 22 rfl)
  xc_NotALine := xcB_ok (exAt c.x.more 23 rfl)
  me_NotALine := of_decide_eq_true (exAt c.x.more 24 rfl)
  xc_NotALedger := xcB_ok (exAt c.x.more 25 rfl)
  me_NotALedger := of_decide_eq_true (exAt c.x.more 26 rfl)
  xc_InvalidNumber := xcB_ok (exAt c.x.more 27 rfl)
  me_InvalidNumber := of_decide_eq_true (exAt c.x.more 28 rfl)
  xc_InvalidText := xcB_ok (exAt c.x.more 29 rfl)
  me_InvalidText := of_decide_eq_true (exAt c.x.more 30 rfl)
  xc_InvalidName := xcB_ok (exAt c.x.more 31 rfl)
  me_InvalidName := of_decide_eq_true (exAt c.x.more 32 rfl)
  xc_InvalidWish := xcB_ok (exAt c.x.more 33 rfl)
  me_InvalidWish := of_decide_eq_true (exAt c.x.more 34 rfl)
  xc_InvalidSigns := xcB_ok (exAt c.x.more 35 rfl)
  me_InvalidSigns := of_decide_eq_true (exAt c.x.more 36 rfl)
  xc_InvalidRow := xcB_ok (exAt c.x.more 37 rfl)
  me_InvalidRow := of_decide_eq_true (exAt c.x.more 38 rfl)
  xc_UnknownName := xcB_ok (exAt c.x.more 39 rfl)
  me_UnknownName := of_decide_eq_true (exAt c.x.more 40 rfl)
  xc_UnknownSetting := xcB_ok (exAt c.x.more 41 rfl)
  me_UnknownSetting := of_decide_eq_true (exAt c.x.more 42 rfl)
  xc_UnknownKind := xcB_ok (exAt c.x.more 43 rfl)
  me_UnknownKind := of_decide_eq_true (exAt c.x.more 44 rfl)
  xc_InvalidSetting := xcB_ok (exAt c.x.more 45 rfl)
  me_InvalidSetting := of_decide_eq_true (exAt c.x.more 46 rfl)
  xc_InvalidRange := xcB_ok (exAt c.x.more 47 rfl)
  me_InvalidRange := of_decide_eq_true (exAt c.x.more 48 rfl)
  xc_InvalidParts := xcB_ok (exAt c.x.more 49 rfl)
  me_InvalidParts := of_decide_eq_true (exAt c.x.more 50 rfl)
  xc_InvalidNumbers := xcB_ok (exAt c.x.more 51 rfl)
  me_InvalidNumbers := of_decide_eq_true (exAt c.x.more 52 rfl)
  xc_InvalidKinds := xcB_ok (exAt c.x.more 53 rfl)
  me_InvalidKinds := of_decide_eq_true (exAt c.x.more 54 rfl)
  xc_InvalidDeeds := xcB_ok (exAt c.x.more 55 rfl)
  me_InvalidDeeds := of_decide_eq_true (exAt c.x.more 56 rfl)
  xc_NothingToUndo := xcB_ok (exAt c.x.more 57 rfl)
  me_NothingToUndo := of_decide_eq_true (exAt c.x.more 58 rfl)
  xc_Busy := xcB_ok (exAt c.x.more 59 rfl)
  me_Busy := of_decide_eq_true (exAt c.x.more 60 rfl)
  xc_NoSuchRow := xcB_ok (exAt c.x.more 61 rfl)
  me_NoSuchRow := of_decide_eq_true (exAt c.x.more 62 rfl)
  xc_TooLong := xcB_ok (exAt c.x.more 63 rfl)
  me_TooLong := of_decide_eq_true (exAt c.x.more 64 rfl)
  xf_NotAFormat := xfB_ok (exAt c.x.more 65 rfl)
  xf_NotALine := xfB_ok (exAt c.x.more 66 rfl)
  xf_NotALedger := xfB_ok (exAt c.x.more 67 rfl)
  xf_InvalidNumber := xfB_ok (exAt c.x.more 68 rfl)
  xf_InvalidText := xfB_ok (exAt c.x.more 69 rfl)
  xf_InvalidName := xfB_ok (exAt c.x.more 70 rfl)
  xf_InvalidWish := xfB_ok (exAt c.x.more 71 rfl)
  xf_InvalidSigns := xfB_ok (exAt c.x.more 72 rfl)
  xf_InvalidRow := xfB_ok (exAt c.x.more 73 rfl)
  xf_UnknownName := xfB_ok (exAt c.x.more 74 rfl)
  xf_UnknownSetting := xfB_ok (exAt c.x.more 75 rfl)
  xf_UnknownKind := xfB_ok (exAt c.x.more 76 rfl)
  xf_InvalidSetting := xfB_ok (exAt c.x.more 77 rfl)
  xf_InvalidRange := xfB_ok (exAt c.x.more 78 rfl)
  xf_InvalidParts := xfB_ok (exAt c.x.more 79 rfl)
  xf_InvalidNumbers := xfB_ok (exAt c.x.more 80 rfl)
  xf_InvalidKinds := xfB_ok (exAt c.x.more 81 rfl)
  xf_InvalidDeeds := xfB_ok (exAt c.x.more 82 rfl)
  xf_NoSuchRow := xfB_ok (exAt c.x.more 83 rfl)
  xf_TooLong := xfB_ok (exAt c.x.more 84 rfl)
  F_l_spoon := funAt_of X G (c.x.t.d.def_ 20 rfl) (c.x.t.d.fact 60 rfl)
  b_int := He.free_ok X G (c.x.t.d.fact 61 rfl)
  F_l_of := funAt_of X G (c.x.t.d.def_ 21 rfl) (c.x.t.d.fact 62 rfl)
  b_len := He.free_ok X G (c.x.t.d.fact 63 rfl)
  F_l_values := funAt_of X G (c.x.t.d.def_ 22 rfl) (c.x.t.d.fact 64 rfl)
  F_l_indexes := funAt_of X G (c.x.t.d.def_ 23 rfl) (c.x.t.d.fact 65 rfl)
  F_l_kept_right := funAt_of X G (c.x.t.d.def_ 24 rfl) (c.x.t.d.fact 66 rfl)
  sysm := (exAt c.x.more 85 rfl)
  b_repr := He.free_ok X G (c.x.t.d.fact 67 rfl)
  F_l_kin := funAt_of X G (c.x.t.d.def_ 25 rfl) (c.x.t.d.fact 68 rfl)
  kd_Unfit := (exAt c.x.more 86 rfl)
  v_Unfit := refG_of X G (c.x.t.d.fact 69 rfl)
  b_isinstance := He.free_ok X G (c.x.t.d.fact 70 rfl)
  kd_Unready := (exAt c.x.more 87 rfl)
  v_Unready := refG_of X G (c.x.t.d.fact 71 rfl)
  kd_Beyond := (exAt c.x.more 88 rfl)
  v_Beyond := refG_of X G (c.x.t.d.fact 72 rfl)
  b_ValueError := He.free_ok X G (c.x.t.d.fact 73 rfl)
  b_LookupError := He.free_ok X G (c.x.t.d.fact 74 rfl)
  b_ArithmeticError := He.free_ok X G (c.x.t.d.fact 75 rfl)
  F_l_classes := funAt_of X G (c.x.t.d.def_ 26 rfl) (c.x.t.d.fact 76 rfl)
  kd_NotAFormat := (exAt c.x.more 89 rfl)
  v_NotAFormat := refG_of X G (c.x.t.d.fact 0 rfl)
  kd_NotALine := (exAt c.x.more 90 rfl)
  v_NotALine := refG_of X G (c.x.t.d.fact 3 rfl)
  kd_NotALedger := (exAt c.x.more 91 rfl)
  v_NotALedger := refG_of X G (c.x.t.d.fact 6 rfl)
  kd_InvalidNumber := (exAt c.x.more 92 rfl)
  v_InvalidNumber := refG_of X G (c.x.t.d.fact 9 rfl)
  kd_InvalidText := (exAt c.x.more 93 rfl)
  v_InvalidText := refG_of X G (c.x.t.d.fact 12 rfl)
  kd_InvalidName := (exAt c.x.more 94 rfl)
  v_InvalidName := refG_of X G (c.x.t.d.fact 15 rfl)
  kd_InvalidWish := (exAt c.x.more 95 rfl)
  v_InvalidWish := refG_of X G (c.x.t.d.fact 18 rfl)
  kd_InvalidSigns := (exAt c.x.more 96 rfl)
  v_InvalidSigns := refG_of X G (c.x.t.d.fact 21 rfl)
  kd_InvalidRow := (exAt c.x.more 97 rfl)
  v_InvalidRow := refG_of X G (c.x.t.d.fact 24 rfl)
  kd_UnknownName := (exAt c.x.more 98 rfl)
  v_UnknownName := refG_of X G (c.x.t.d.fact 27 rfl)
  kd_UnknownSetting := (exAt c.x.more 99 rfl)
  v_UnknownSetting := refG_of X G (c.x.t.d.fact 30 rfl)
  kd_UnknownKind := (exAt c.x.more 100 rfl)
  v_UnknownKind := refG_of X G (c.x.t.d.fact 33 rfl)
  kd_InvalidSetting := (exAt c.x.more 101 rfl)
  v_InvalidSetting := refG_of X G (c.x.t.d.fact 36 rfl)
  kd_InvalidRange := (exAt c.x.more 102 rfl)
  v_InvalidRange := refG_of X G (c.x.t.d.fact 39 rfl)
  kd_InvalidParts := (exAt c.x.more 103 rfl)
  v_InvalidParts := refG_of X G (c.x.t.d.fact 42 rfl)
  kd_InvalidNumbers := (exAt c.x.more 104 rfl)
  v_InvalidNumbers := refG_of X G (c.x.t.d.fact 45 rfl)
  kd_InvalidKinds := (exAt c.x.more 105 rfl)
  v_InvalidKinds := refG_of X G (c.x.t.d.fact 48 rfl)
  kd_InvalidDeeds := (exAt c.x.more 106 rfl)
  v_InvalidDeeds := refG_of X G (c.x.t.d.fact 51 rfl)
  kd_NothingToUndo := (exAt c.x.more 107 rfl)
  v_NothingToUndo := refG_of X G (c.x.t.d.fact 77 rfl)
  kd_Busy := (exAt c.x.more 108 rfl)
  v_Busy := refG_of X G (c.x.t.d.fact 78 rfl)
  kd_NoSuchRow := (exAt c.x.more 109 rfl)
  v_NoSuchRow := refG_of X G (c.x.t.d.fact 54 rfl)
  kd_TooLong := (exAt c.x.more 110 rfl)
  v_TooLong := refG_of X G (c.x.t.d.fact 57 rfl)
  F_l_right := funAt_of X G (c.x.t.d.def_ 27 rfl) (c.x.t.d.fact 79 rfl)
  oz_NothingToUndo := ozB_ok (exAt c.x.more 111 rfl)
  g_NothingToUndo := He.glo_ok X G (c.x.t.d.fact 77 rfl)
  oz_Busy := ozB_ok (exAt c.x.more 112 rfl)
  g_Busy := He.glo_ok X G (c.x.t.d.fact 78 rfl)
  b_all := He.free_ok X G (c.x.t.d.fact 80 rfl)
  g_MOST_PARTS := intG_of X G (c.x.t.d.fact 81 rfl)
  g_MOST_FIELDS := intG_of X G (c.x.t.d.fact 82 rfl)
  g_MOST_WIDTH := intG_of X G (c.x.t.d.fact 83 rfl)
  g_MOST_GROUP := intG_of X G (c.x.t.d.fact 84 rfl)
  g_MOST_BOUND := intG_of X G (c.x.t.d.fact 85 rfl)
  g_MOST_LENGTH := intG_of X G (c.x.t.d.fact 86 rfl)
  g_MOST_KINDS := intG_of X G (c.x.t.d.fact 87 rfl)
  F_l_pot := funAt_of X G (c.x.t.d.def_ 28 rfl) (c.x.t.d.fact 88 rfl)
  b_abs := He.free_ok X G (c.x.t.d.fact 89 rfl)
  F_law := funAt_of X G (c.x.t.d.def_ 29 rfl) (c.x.t.d.fact 90 rfl)
  b_range := He.free_ok X G (c.x.t.d.fact 91 rfl)
  b_max := He.free_ok X G (c.x.t.d.fact 92 rfl)
  b_min := He.free_ok X G (c.x.t.d.fact 93 rfl)
end
section
open PySem PySem.Spec PyProof.Rows L2
variable [TQ]
def caOf (A : Ad) : Str → Option Addr := fun c => none
def ceOf (A : Ad) : Str → Option Addr := fun c => none
theorem caOf_cases {A : Ad} {c : Str} {C : Addr} (h : caOf A c = some C) : False := by
  unfold caOf at h
  cases h
section
variable {w : World} {K : PySem.W.Frag} {mg : Str → Option Value} {A : Ad}
theorem cf_of (T : Txt w K mg A) : ClF K (caOf A) where
  cl := fun c C h => by
    exact (caOf_cases h).elim
  ins := fun c C h => by
    exact (caOf_cases h).elim
  ty := fun c C n h hn => by
    simp only [List.mem_cons, List.not_mem_nil, or_false] at hn
    exact (caOf_cases h).elim
  own := fun c C c2 C2 h h2 => by
    exact (caOf_cases h).elim
end
end
section
open PySem PySem.Spec PyProof.Rows L2
def exTab (A : Ad) : List (Str × Addr) := [("Unfit", A.cUnfit), ("Unready", A.cUnready), ("Beyond", A.cBeyond), ("NotAFormat", A.cNotAFormat), ("NotALine", A.cNotALine), ("NotALedger", A.cNotALedger), ("InvalidNumber", A.cInvalidNumber), ("InvalidText", A.cInvalidText), ("InvalidName", A.cInvalidName), ("InvalidWish", A.cInvalidWish), ("InvalidSigns", A.cInvalidSigns), ("InvalidRow", A.cInvalidRow), ("UnknownName", A.cUnknownName), ("UnknownSetting", A.cUnknownSetting), ("UnknownKind", A.cUnknownKind), ("InvalidSetting", A.cInvalidSetting), ("InvalidRange", A.cInvalidRange), ("InvalidParts", A.cInvalidParts), ("InvalidNumbers", A.cInvalidNumbers), ("InvalidKinds", A.cInvalidKinds), ("InvalidDeeds", A.cInvalidDeeds), ("NothingToUndo", A.cNothingToUndo), ("Busy", A.cBusy), ("NoSuchRow", A.cNoSuchRow), ("TooLong", A.cTooLong)]
def exOf (A : Ad) : Str → Option Addr := fun c => (exTab A).lookup c
def XT : List (Str × Str × Str) := [("NotAFormat", "Unfit", "ValueError"), ("NotALine", "Unfit", "ValueError"), ("NotALedger", "Unfit", "ValueError"), ("InvalidNumber", "Unfit", "ValueError"), ("InvalidText", "Unfit", "ValueError"), ("InvalidName", "Unfit", "ValueError"), ("InvalidWish", "Unfit", "ValueError"), ("InvalidSigns", "Unfit", "ValueError"), ("InvalidRow", "Unfit", "ValueError"), ("UnknownName", "Unfit", "ValueError"), ("UnknownSetting", "Unfit", "ValueError"), ("UnknownKind", "Unfit", "ValueError"), ("InvalidSetting", "Unfit", "ValueError"), ("InvalidRange", "Unfit", "ValueError"), ("InvalidParts", "Unfit", "ValueError"), ("InvalidNumbers", "Unfit", "ValueError"), ("InvalidKinds", "Unfit", "ValueError"), ("InvalidDeeds", "Unfit", "ValueError"), ("NothingToUndo", "Unready", "LookupError"), ("Busy", "Unready", "LookupError"), ("NoSuchRow", "Unready", "LookupError"), ("TooLong", "Beyond", "ArithmeticError")]
structure TxtX [TQ] (w : World) (K : PySem.W.Frag) (mg : Str → Option Value) (A : Ad) : Prop extends Txt w K mg A where
  hex : TQ.ex = exOf A
section
variable {P : Program} {w : World} {K : PySem.W.Frag} {mg : Str → Option Value} {base : Heap} {A : Ad}
theorem rv_NotAFormat (T : Txt w K mg A) : RaiserV P w K mg base "NotAFormat" A.cNotAFormat "value" :=
  raiserV_of (tb := fun K => tOst K "value" (tV 0) (tV 1)) (oexC_v T.oe_NotAFormat) T.g_NotAFormat T.I_NotAFormatdd_initdd sc_NotAFormatdd_initdd (fun _ _ _ _ _ _ us hl => match us, hl with | [_, _], _ => rfl) (fun _ _ _ _ _ _ _ _ => rfl) (fun X hs hN => pss_one (ps_ost (fv 0 (by rw [hN]; rfl) (by rw [hs]; exact Or.inl rfl)) (fv 1 (by rw [hN]; rfl) (by rw [hs]; exact Or.inl rfl))))
    (fun D σ H p v e0 e1 h0 hq => by
      show tV 1 σ H _
      unfold tV
      rw [e1]
      dsimp only
      rw [e0]
      dsimp only
      exact ⟨p, A.cNotAFormat, rfl, T.oe_NotAFormat, T.nf_NotAFormat, .inl ⟨h0, hq⟩⟩)
theorem rv_NotALine (T : Txt w K mg A) : RaiserV P w K mg base "NotALine" A.cNotALine "value" :=
  raiserV_of (tb := fun K => tOst K "value" (tV 0) (tV 1)) (oexC_v T.oe_NotALine) T.g_NotALine T.I_NotALinedd_initdd sc_NotALinedd_initdd (fun _ _ _ _ _ _ us hl => match us, hl with | [_, _], _ => rfl) (fun _ _ _ _ _ _ _ _ => rfl) (fun X hs hN => pss_one (ps_ost (fv 0 (by rw [hN]; rfl) (by rw [hs]; exact Or.inl rfl)) (fv 1 (by rw [hN]; rfl) (by rw [hs]; exact Or.inl rfl))))
    (fun D σ H p v e0 e1 h0 hq => by
      show tV 1 σ H _
      unfold tV
      rw [e1]
      dsimp only
      rw [e0]
      dsimp only
      exact ⟨p, A.cNotALine, rfl, T.oe_NotALine, T.nf_NotALine, .inl ⟨h0, hq⟩⟩)
theorem rv_NotALedger (T : Txt w K mg A) : RaiserV P w K mg base "NotALedger" A.cNotALedger "value" :=
  raiserV_of (tb := fun K => tOst K "value" (tV 0) (tV 1)) (oexC_v T.oe_NotALedger) T.g_NotALedger T.I_NotALedgerdd_initdd sc_NotALedgerdd_initdd (fun _ _ _ _ _ _ us hl => match us, hl with | [_, _], _ => rfl) (fun _ _ _ _ _ _ _ _ => rfl) (fun X hs hN => pss_one (ps_ost (fv 0 (by rw [hN]; rfl) (by rw [hs]; exact Or.inl rfl)) (fv 1 (by rw [hN]; rfl) (by rw [hs]; exact Or.inl rfl))))
    (fun D σ H p v e0 e1 h0 hq => by
      show tV 1 σ H _
      unfold tV
      rw [e1]
      dsimp only
      rw [e0]
      dsimp only
      exact ⟨p, A.cNotALedger, rfl, T.oe_NotALedger, T.nf_NotALedger, .inl ⟨h0, hq⟩⟩)
theorem rv_InvalidNumber (T : Txt w K mg A) : RaiserV P w K mg base "InvalidNumber" A.cInvalidNumber "value" :=
  raiserV_of (tb := fun K => tOst K "value" (tV 0) (tV 1)) (oexC_v T.oe_InvalidNumber) T.g_InvalidNumber T.I_InvalidNumberdd_initdd sc_InvalidNumberdd_initdd (fun _ _ _ _ _ _ us hl => match us, hl with | [_, _], _ => rfl) (fun _ _ _ _ _ _ _ _ => rfl) (fun X hs hN => pss_one (ps_ost (fv 0 (by rw [hN]; rfl) (by rw [hs]; exact Or.inl rfl)) (fv 1 (by rw [hN]; rfl) (by rw [hs]; exact Or.inl rfl))))
    (fun D σ H p v e0 e1 h0 hq => by
      show tV 1 σ H _
      unfold tV
      rw [e1]
      dsimp only
      rw [e0]
      dsimp only
      exact ⟨p, A.cInvalidNumber, rfl, T.oe_InvalidNumber, T.nf_InvalidNumber, .inl ⟨h0, hq⟩⟩)
theorem rv_InvalidText (T : Txt w K mg A) : RaiserV P w K mg base "InvalidText" A.cInvalidText "value" :=
  raiserV_of (tb := fun K => tOst K "value" (tV 0) (tV 1)) (oexC_v T.oe_InvalidText) T.g_InvalidText T.I_InvalidTextdd_initdd sc_InvalidTextdd_initdd (fun _ _ _ _ _ _ us hl => match us, hl with | [_, _], _ => rfl) (fun _ _ _ _ _ _ _ _ => rfl) (fun X hs hN => pss_one (ps_ost (fv 0 (by rw [hN]; rfl) (by rw [hs]; exact Or.inl rfl)) (fv 1 (by rw [hN]; rfl) (by rw [hs]; exact Or.inl rfl))))
    (fun D σ H p v e0 e1 h0 hq => by
      show tV 1 σ H _
      unfold tV
      rw [e1]
      dsimp only
      rw [e0]
      dsimp only
      exact ⟨p, A.cInvalidText, rfl, T.oe_InvalidText, T.nf_InvalidText, .inl ⟨h0, hq⟩⟩)
theorem rv_InvalidName (T : Txt w K mg A) : RaiserV P w K mg base "InvalidName" A.cInvalidName "value" :=
  raiserV_of (tb := fun K => tOst K "value" (tV 0) (tV 1)) (oexC_v T.oe_InvalidName) T.g_InvalidName T.I_InvalidNamedd_initdd sc_InvalidNamedd_initdd (fun _ _ _ _ _ _ us hl => match us, hl with | [_, _], _ => rfl) (fun _ _ _ _ _ _ _ _ => rfl) (fun X hs hN => pss_one (ps_ost (fv 0 (by rw [hN]; rfl) (by rw [hs]; exact Or.inl rfl)) (fv 1 (by rw [hN]; rfl) (by rw [hs]; exact Or.inl rfl))))
    (fun D σ H p v e0 e1 h0 hq => by
      show tV 1 σ H _
      unfold tV
      rw [e1]
      dsimp only
      rw [e0]
      dsimp only
      exact ⟨p, A.cInvalidName, rfl, T.oe_InvalidName, T.nf_InvalidName, .inl ⟨h0, hq⟩⟩)
theorem rv_InvalidWish (T : Txt w K mg A) : RaiserV P w K mg base "InvalidWish" A.cInvalidWish "value" :=
  raiserV_of (tb := fun K => tOst K "value" (tV 0) (tV 1)) (oexC_v T.oe_InvalidWish) T.g_InvalidWish T.I_InvalidWishdd_initdd sc_InvalidWishdd_initdd (fun _ _ _ _ _ _ us hl => match us, hl with | [_, _], _ => rfl) (fun _ _ _ _ _ _ _ _ => rfl) (fun X hs hN => pss_one (ps_ost (fv 0 (by rw [hN]; rfl) (by rw [hs]; exact Or.inl rfl)) (fv 1 (by rw [hN]; rfl) (by rw [hs]; exact Or.inl rfl))))
    (fun D σ H p v e0 e1 h0 hq => by
      show tV 1 σ H _
      unfold tV
      rw [e1]
      dsimp only
      rw [e0]
      dsimp only
      exact ⟨p, A.cInvalidWish, rfl, T.oe_InvalidWish, T.nf_InvalidWish, .inl ⟨h0, hq⟩⟩)
theorem rv_InvalidSigns (T : Txt w K mg A) : RaiserV P w K mg base "InvalidSigns" A.cInvalidSigns "value" :=
  raiserV_of (tb := fun K => tOst K "value" (tV 0) (tV 1)) (oexC_v T.oe_InvalidSigns) T.g_InvalidSigns T.I_InvalidSignsdd_initdd sc_InvalidSignsdd_initdd (fun _ _ _ _ _ _ us hl => match us, hl with | [_, _], _ => rfl) (fun _ _ _ _ _ _ _ _ => rfl) (fun X hs hN => pss_one (ps_ost (fv 0 (by rw [hN]; rfl) (by rw [hs]; exact Or.inl rfl)) (fv 1 (by rw [hN]; rfl) (by rw [hs]; exact Or.inl rfl))))
    (fun D σ H p v e0 e1 h0 hq => by
      show tV 1 σ H _
      unfold tV
      rw [e1]
      dsimp only
      rw [e0]
      dsimp only
      exact ⟨p, A.cInvalidSigns, rfl, T.oe_InvalidSigns, T.nf_InvalidSigns, .inl ⟨h0, hq⟩⟩)
theorem rv_InvalidRow (T : Txt w K mg A) : RaiserV P w K mg base "InvalidRow" A.cInvalidRow "value" :=
  raiserV_of (tb := fun K => tOst K "value" (tV 0) (tV 1)) (oexC_v T.oe_InvalidRow) T.g_InvalidRow T.I_InvalidRowdd_initdd sc_InvalidRowdd_initdd (fun _ _ _ _ _ _ us hl => match us, hl with | [_, _], _ => rfl) (fun _ _ _ _ _ _ _ _ => rfl) (fun X hs hN => pss_one (ps_ost (fv 0 (by rw [hN]; rfl) (by rw [hs]; exact Or.inl rfl)) (fv 1 (by rw [hN]; rfl) (by rw [hs]; exact Or.inl rfl))))
    (fun D σ H p v e0 e1 h0 hq => by
      show tV 1 σ H _
      unfold tV
      rw [e1]
      dsimp only
      rw [e0]
      dsimp only
      exact ⟨p, A.cInvalidRow, rfl, T.oe_InvalidRow, T.nf_InvalidRow, .inl ⟨h0, hq⟩⟩)
theorem rv_UnknownName (T : Txt w K mg A) : RaiserV P w K mg base "UnknownName" A.cUnknownName "value" :=
  raiserV_of (tb := fun K => tOst K "value" (tV 0) (tV 1)) (oexC_v T.oe_UnknownName) T.g_UnknownName T.I_UnknownNamedd_initdd sc_UnknownNamedd_initdd (fun _ _ _ _ _ _ us hl => match us, hl with | [_, _], _ => rfl) (fun _ _ _ _ _ _ _ _ => rfl) (fun X hs hN => pss_one (ps_ost (fv 0 (by rw [hN]; rfl) (by rw [hs]; exact Or.inl rfl)) (fv 1 (by rw [hN]; rfl) (by rw [hs]; exact Or.inl rfl))))
    (fun D σ H p v e0 e1 h0 hq => by
      show tV 1 σ H _
      unfold tV
      rw [e1]
      dsimp only
      rw [e0]
      dsimp only
      exact ⟨p, A.cUnknownName, rfl, T.oe_UnknownName, T.nf_UnknownName, .inl ⟨h0, hq⟩⟩)
theorem rv_UnknownSetting (T : Txt w K mg A) : RaiserV P w K mg base "UnknownSetting" A.cUnknownSetting "value" :=
  raiserV_of (tb := fun K => tOst K "value" (tV 0) (tV 1)) (oexC_v T.oe_UnknownSetting) T.g_UnknownSetting T.I_UnknownSettingdd_initdd sc_UnknownSettingdd_initdd (fun _ _ _ _ _ _ us hl => match us, hl with | [_, _], _ => rfl) (fun _ _ _ _ _ _ _ _ => rfl) (fun X hs hN => pss_one (ps_ost (fv 0 (by rw [hN]; rfl) (by rw [hs]; exact Or.inl rfl)) (fv 1 (by rw [hN]; rfl) (by rw [hs]; exact Or.inl rfl))))
    (fun D σ H p v e0 e1 h0 hq => by
      show tV 1 σ H _
      unfold tV
      rw [e1]
      dsimp only
      rw [e0]
      dsimp only
      exact ⟨p, A.cUnknownSetting, rfl, T.oe_UnknownSetting, T.nf_UnknownSetting, .inl ⟨h0, hq⟩⟩)
theorem rv_UnknownKind (T : Txt w K mg A) : RaiserV P w K mg base "UnknownKind" A.cUnknownKind "value" :=
  raiserV_of (tb := fun K => tOst K "value" (tV 0) (tV 1)) (oexC_v T.oe_UnknownKind) T.g_UnknownKind T.I_UnknownKinddd_initdd sc_UnknownKinddd_initdd (fun _ _ _ _ _ _ us hl => match us, hl with | [_, _], _ => rfl) (fun _ _ _ _ _ _ _ _ => rfl) (fun X hs hN => pss_one (ps_ost (fv 0 (by rw [hN]; rfl) (by rw [hs]; exact Or.inl rfl)) (fv 1 (by rw [hN]; rfl) (by rw [hs]; exact Or.inl rfl))))
    (fun D σ H p v e0 e1 h0 hq => by
      show tV 1 σ H _
      unfold tV
      rw [e1]
      dsimp only
      rw [e0]
      dsimp only
      exact ⟨p, A.cUnknownKind, rfl, T.oe_UnknownKind, T.nf_UnknownKind, .inl ⟨h0, hq⟩⟩)
theorem rv_InvalidSetting (T : Txt w K mg A) : RaiserV P w K mg base "InvalidSetting" A.cInvalidSetting "setting" :=
  raiserV_of (tb := fun K => tOst K "setting" (tV 0) (tV 1)) (oexC_v T.oe_InvalidSetting) T.g_InvalidSetting T.I_InvalidSettingdd_initdd sc_InvalidSettingdd_initdd (fun _ _ _ _ _ _ us hl => match us, hl with | [_, _], _ => rfl) (fun _ _ _ _ _ _ _ _ => rfl) (fun X hs hN => pss_one (ps_ost (fv 0 (by rw [hN]; rfl) (by rw [hs]; exact Or.inl rfl)) (fv 1 (by rw [hN]; rfl) (by rw [hs]; exact Or.inl rfl))))
    (fun D σ H p v e0 e1 h0 hq => by
      show tV 1 σ H _
      unfold tV
      rw [e1]
      dsimp only
      rw [e0]
      dsimp only
      exact ⟨p, A.cInvalidSetting, rfl, T.oe_InvalidSetting, T.nf_InvalidSetting, .inl ⟨h0, hq⟩⟩)
theorem rv_InvalidRange (T : Txt w K mg A) : RaiserV P w K mg base "InvalidRange" A.cInvalidRange "end" :=
  raiserV_of (tb := fun K => tOst K "end" (tV 0) (tV 1)) (oexC_v T.oe_InvalidRange) T.g_InvalidRange T.I_InvalidRangedd_initdd sc_InvalidRangedd_initdd (fun _ _ _ _ _ _ us hl => match us, hl with | [_, _], _ => rfl) (fun _ _ _ _ _ _ _ _ => rfl) (fun X hs hN => pss_one (ps_ost (fv 0 (by rw [hN]; rfl) (by rw [hs]; exact Or.inl rfl)) (fv 1 (by rw [hN]; rfl) (by rw [hs]; exact Or.inl rfl))))
    (fun D σ H p v e0 e1 h0 hq => by
      show tV 1 σ H _
      unfold tV
      rw [e1]
      dsimp only
      rw [e0]
      dsimp only
      exact ⟨p, A.cInvalidRange, rfl, T.oe_InvalidRange, T.nf_InvalidRange, .inl ⟨h0, hq⟩⟩)
theorem rv_InvalidParts (T : Txt w K mg A) : RaiserV P w K mg base "InvalidParts" A.cInvalidParts "index" :=
  raiserV_of (tb := fun K => tOst K "index" (tV 0) (tV 1)) (oexC_v T.oe_InvalidParts) T.g_InvalidParts T.I_InvalidPartsdd_initdd sc_InvalidPartsdd_initdd (fun _ _ _ _ _ _ us hl => match us, hl with | [_, _], _ => rfl) (fun _ _ _ _ _ _ _ _ => rfl) (fun X hs hN => pss_one (ps_ost (fv 0 (by rw [hN]; rfl) (by rw [hs]; exact Or.inl rfl)) (fv 1 (by rw [hN]; rfl) (by rw [hs]; exact Or.inl rfl))))
    (fun D σ H p v e0 e1 h0 hq => by
      show tV 1 σ H _
      unfold tV
      rw [e1]
      dsimp only
      rw [e0]
      dsimp only
      exact ⟨p, A.cInvalidParts, rfl, T.oe_InvalidParts, T.nf_InvalidParts, .inl ⟨h0, hq⟩⟩)
theorem rv_InvalidNumbers (T : Txt w K mg A) : RaiserV P w K mg base "InvalidNumbers" A.cInvalidNumbers "index" :=
  raiserV_of (tb := fun K => tOst K "index" (tV 0) (tV 1)) (oexC_v T.oe_InvalidNumbers) T.g_InvalidNumbers T.I_InvalidNumbersdd_initdd sc_InvalidNumbersdd_initdd (fun _ _ _ _ _ _ us hl => match us, hl with | [_, _], _ => rfl) (fun _ _ _ _ _ _ _ _ => rfl) (fun X hs hN => pss_one (ps_ost (fv 0 (by rw [hN]; rfl) (by rw [hs]; exact Or.inl rfl)) (fv 1 (by rw [hN]; rfl) (by rw [hs]; exact Or.inl rfl))))
    (fun D σ H p v e0 e1 h0 hq => by
      show tV 1 σ H _
      unfold tV
      rw [e1]
      dsimp only
      rw [e0]
      dsimp only
      exact ⟨p, A.cInvalidNumbers, rfl, T.oe_InvalidNumbers, T.nf_InvalidNumbers, .inl ⟨h0, hq⟩⟩)
theorem rv_InvalidKinds (T : Txt w K mg A) : RaiserV P w K mg base "InvalidKinds" A.cInvalidKinds "index" :=
  raiserV_of (tb := fun K => tOst K "index" (tV 0) (tV 1)) (oexC_v T.oe_InvalidKinds) T.g_InvalidKinds T.I_InvalidKindsdd_initdd sc_InvalidKindsdd_initdd (fun _ _ _ _ _ _ us hl => match us, hl with | [_, _], _ => rfl) (fun _ _ _ _ _ _ _ _ => rfl) (fun X hs hN => pss_one (ps_ost (fv 0 (by rw [hN]; rfl) (by rw [hs]; exact Or.inl rfl)) (fv 1 (by rw [hN]; rfl) (by rw [hs]; exact Or.inl rfl))))
    (fun D σ H p v e0 e1 h0 hq => by
      show tV 1 σ H _
      unfold tV
      rw [e1]
      dsimp only
      rw [e0]
      dsimp only
      exact ⟨p, A.cInvalidKinds, rfl, T.oe_InvalidKinds, T.nf_InvalidKinds, .inl ⟨h0, hq⟩⟩)
theorem rv_InvalidDeeds (T : Txt w K mg A) : RaiserV P w K mg base "InvalidDeeds" A.cInvalidDeeds "index" :=
  raiserV_of (tb := fun K => tOst K "index" (tV 0) (tV 1)) (oexC_v T.oe_InvalidDeeds) T.g_InvalidDeeds T.I_InvalidDeedsdd_initdd sc_InvalidDeedsdd_initdd (fun _ _ _ _ _ _ us hl => match us, hl with | [_, _], _ => rfl) (fun _ _ _ _ _ _ _ _ => rfl) (fun X hs hN => pss_one (ps_ost (fv 0 (by rw [hN]; rfl) (by rw [hs]; exact Or.inl rfl)) (fv 1 (by rw [hN]; rfl) (by rw [hs]; exact Or.inl rfl))))
    (fun D σ H p v e0 e1 h0 hq => by
      show tV 1 σ H _
      unfold tV
      rw [e1]
      dsimp only
      rw [e0]
      dsimp only
      exact ⟨p, A.cInvalidDeeds, rfl, T.oe_InvalidDeeds, T.nf_InvalidDeeds, .inl ⟨h0, hq⟩⟩)
theorem rv_NoSuchRow (T : Txt w K mg A) : RaiserV P w K mg base "NoSuchRow" A.cNoSuchRow "place" :=
  raiserV_of (tb := fun K => tOstL K "place" (tV 0) (tV 1)) (oexL_v T.ol_NoSuchRow) T.g_NoSuchRow T.I_NoSuchRowdd_initdd sc_NoSuchRowdd_initdd (fun _ _ _ _ _ _ us hl => match us, hl with | [_, _], _ => rfl) (fun _ _ _ _ _ _ _ _ => rfl) (fun X hs hN => pss_one (ps_ostL (fv 0 (by rw [hN]; rfl) (by rw [hs]; exact Or.inl rfl)) (fv 1 (by rw [hN]; rfl) (by rw [hs]; exact Or.inl rfl))))
    (fun D σ H p v e0 e1 h0 hq => by
      show tV 1 σ H _
      unfold tV
      rw [e1]
      dsimp only
      rw [e0]
      dsimp only
      exact ⟨p, A.cNoSuchRow, rfl, T.ol_NoSuchRow, T.nf_NoSuchRow, h0, hq⟩)
theorem rv_TooLong (T : Txt w K mg A) : RaiserV P w K mg base "TooLong" A.cTooLong "limit" :=
  raiserV_of (tb := fun K => tOstA K "limit" (tV 0) (tV 1)) (oexA_v T.oa_TooLong) T.g_TooLong T.I_TooLongdd_initdd sc_TooLongdd_initdd (fun _ _ _ _ _ _ us hl => match us, hl with | [_, _], _ => rfl) (fun _ _ _ _ _ _ _ _ => rfl) (fun X hs hN => pss_one (ps_ostA (fv 0 (by rw [hN]; rfl) (by rw [hs]; exact Or.inl rfl)) (fv 1 (by rw [hN]; rfl) (by rw [hs]; exact Or.inl rfl))))
    (fun D σ H p v e0 e1 h0 hq => by
      show tV 1 σ H _
      unfold tV
      rw [e1]
      dsimp only
      rw [e0]
      dsimp only
      exact ⟨p, A.cTooLong, rfl, T.oa_TooLong, T.nf_TooLong, h0, hq⟩)
end
theorem exOf_inj {w : World} {K : PySem.W.Frag} {mg : Str → Option Value} {A : Ad} (T : Txt w K mg A) : ∀ (a b : Str) (C : Addr), exOf A a = some C → exOf A b = some C → a = b := fun a b C => lookup_inj (tab := exTab A) T.ndu
section
variable [TQ] {w : World} {K : PySem.W.Frag} {mg : Str → Option Value} {A : Ad}
theorem ex_Unfit (T : TxtX w K mg A) : TQ.ex "Unfit" = some A.cUnfit := (congrFun T.hex _).trans (by kernel_rfl)
theorem ex_Unready (T : TxtX w K mg A) : TQ.ex "Unready" = some A.cUnready := (congrFun T.hex _).trans (by kernel_rfl)
theorem ex_Beyond (T : TxtX w K mg A) : TQ.ex "Beyond" = some A.cBeyond := (congrFun T.hex _).trans (by kernel_rfl)
theorem ex_NotAFormat (T : TxtX w K mg A) : TQ.ex "NotAFormat" = some A.cNotAFormat := (congrFun T.hex _).trans (by kernel_rfl)
theorem ex_NotALine (T : TxtX w K mg A) : TQ.ex "NotALine" = some A.cNotALine := (congrFun T.hex _).trans (by kernel_rfl)
theorem ex_NotALedger (T : TxtX w K mg A) : TQ.ex "NotALedger" = some A.cNotALedger := (congrFun T.hex _).trans (by kernel_rfl)
theorem ex_InvalidNumber (T : TxtX w K mg A) : TQ.ex "InvalidNumber" = some A.cInvalidNumber := (congrFun T.hex _).trans (by kernel_rfl)
theorem ex_InvalidText (T : TxtX w K mg A) : TQ.ex "InvalidText" = some A.cInvalidText := (congrFun T.hex _).trans (by kernel_rfl)
theorem ex_InvalidName (T : TxtX w K mg A) : TQ.ex "InvalidName" = some A.cInvalidName := (congrFun T.hex _).trans (by kernel_rfl)
theorem ex_InvalidWish (T : TxtX w K mg A) : TQ.ex "InvalidWish" = some A.cInvalidWish := (congrFun T.hex _).trans (by kernel_rfl)
theorem ex_InvalidSigns (T : TxtX w K mg A) : TQ.ex "InvalidSigns" = some A.cInvalidSigns := (congrFun T.hex _).trans (by kernel_rfl)
theorem ex_InvalidRow (T : TxtX w K mg A) : TQ.ex "InvalidRow" = some A.cInvalidRow := (congrFun T.hex _).trans (by kernel_rfl)
theorem ex_UnknownName (T : TxtX w K mg A) : TQ.ex "UnknownName" = some A.cUnknownName := (congrFun T.hex _).trans (by kernel_rfl)
theorem ex_UnknownSetting (T : TxtX w K mg A) : TQ.ex "UnknownSetting" = some A.cUnknownSetting := (congrFun T.hex _).trans (by kernel_rfl)
theorem ex_UnknownKind (T : TxtX w K mg A) : TQ.ex "UnknownKind" = some A.cUnknownKind := (congrFun T.hex _).trans (by kernel_rfl)
theorem ex_InvalidSetting (T : TxtX w K mg A) : TQ.ex "InvalidSetting" = some A.cInvalidSetting := (congrFun T.hex _).trans (by kernel_rfl)
theorem ex_InvalidRange (T : TxtX w K mg A) : TQ.ex "InvalidRange" = some A.cInvalidRange := (congrFun T.hex _).trans (by kernel_rfl)
theorem ex_InvalidParts (T : TxtX w K mg A) : TQ.ex "InvalidParts" = some A.cInvalidParts := (congrFun T.hex _).trans (by kernel_rfl)
theorem ex_InvalidNumbers (T : TxtX w K mg A) : TQ.ex "InvalidNumbers" = some A.cInvalidNumbers := (congrFun T.hex _).trans (by kernel_rfl)
theorem ex_InvalidKinds (T : TxtX w K mg A) : TQ.ex "InvalidKinds" = some A.cInvalidKinds := (congrFun T.hex _).trans (by kernel_rfl)
theorem ex_InvalidDeeds (T : TxtX w K mg A) : TQ.ex "InvalidDeeds" = some A.cInvalidDeeds := (congrFun T.hex _).trans (by kernel_rfl)
theorem ex_NothingToUndo (T : TxtX w K mg A) : TQ.ex "NothingToUndo" = some A.cNothingToUndo := (congrFun T.hex _).trans (by kernel_rfl)
theorem ex_Busy (T : TxtX w K mg A) : TQ.ex "Busy" = some A.cBusy := (congrFun T.hex _).trans (by kernel_rfl)
theorem ex_NoSuchRow (T : TxtX w K mg A) : TQ.ex "NoSuchRow" = some A.cNoSuchRow := (congrFun T.hex _).trans (by kernel_rfl)
theorem ex_TooLong (T : TxtX w K mg A) : TQ.ex "TooLong" = some A.cTooLong := (congrFun T.hex _).trans (by kernel_rfl)
theorem xt_ok (T : TxtX w K mg A) : XtOk K XT where
  at_ := fun c b t h => by
    unfold XT at h
    rw [List.lookup_cons] at h
    split at h
    · rename_i e
      have e := eq_of_beq e
      subst e
      cases h
      exact ⟨_, _, "ValueError", ex_NotAFormat T, ex_Unfit T, rfl, by decide, T.xc_NotAFormat, T.me_NotAFormat⟩
    rw [List.lookup_cons] at h
    split at h
    · rename_i e
      have e := eq_of_beq e
      subst e
      cases h
      exact ⟨_, _, "ValueError", ex_NotALine T, ex_Unfit T, rfl, by decide, T.xc_NotALine, T.me_NotALine⟩
    rw [List.lookup_cons] at h
    split at h
    · rename_i e
      have e := eq_of_beq e
      subst e
      cases h
      exact ⟨_, _, "ValueError", ex_NotALedger T, ex_Unfit T, rfl, by decide, T.xc_NotALedger, T.me_NotALedger⟩
    rw [List.lookup_cons] at h
    split at h
    · rename_i e
      have e := eq_of_beq e
      subst e
      cases h
      exact ⟨_, _, "ValueError", ex_InvalidNumber T, ex_Unfit T, rfl, by decide, T.xc_InvalidNumber, T.me_InvalidNumber⟩
    rw [List.lookup_cons] at h
    split at h
    · rename_i e
      have e := eq_of_beq e
      subst e
      cases h
      exact ⟨_, _, "ValueError", ex_InvalidText T, ex_Unfit T, rfl, by decide, T.xc_InvalidText, T.me_InvalidText⟩
    rw [List.lookup_cons] at h
    split at h
    · rename_i e
      have e := eq_of_beq e
      subst e
      cases h
      exact ⟨_, _, "ValueError", ex_InvalidName T, ex_Unfit T, rfl, by decide, T.xc_InvalidName, T.me_InvalidName⟩
    rw [List.lookup_cons] at h
    split at h
    · rename_i e
      have e := eq_of_beq e
      subst e
      cases h
      exact ⟨_, _, "ValueError", ex_InvalidWish T, ex_Unfit T, rfl, by decide, T.xc_InvalidWish, T.me_InvalidWish⟩
    rw [List.lookup_cons] at h
    split at h
    · rename_i e
      have e := eq_of_beq e
      subst e
      cases h
      exact ⟨_, _, "ValueError", ex_InvalidSigns T, ex_Unfit T, rfl, by decide, T.xc_InvalidSigns, T.me_InvalidSigns⟩
    rw [List.lookup_cons] at h
    split at h
    · rename_i e
      have e := eq_of_beq e
      subst e
      cases h
      exact ⟨_, _, "ValueError", ex_InvalidRow T, ex_Unfit T, rfl, by decide, T.xc_InvalidRow, T.me_InvalidRow⟩
    rw [List.lookup_cons] at h
    split at h
    · rename_i e
      have e := eq_of_beq e
      subst e
      cases h
      exact ⟨_, _, "ValueError", ex_UnknownName T, ex_Unfit T, rfl, by decide, T.xc_UnknownName, T.me_UnknownName⟩
    rw [List.lookup_cons] at h
    split at h
    · rename_i e
      have e := eq_of_beq e
      subst e
      cases h
      exact ⟨_, _, "ValueError", ex_UnknownSetting T, ex_Unfit T, rfl, by decide, T.xc_UnknownSetting, T.me_UnknownSetting⟩
    rw [List.lookup_cons] at h
    split at h
    · rename_i e
      have e := eq_of_beq e
      subst e
      cases h
      exact ⟨_, _, "ValueError", ex_UnknownKind T, ex_Unfit T, rfl, by decide, T.xc_UnknownKind, T.me_UnknownKind⟩
    rw [List.lookup_cons] at h
    split at h
    · rename_i e
      have e := eq_of_beq e
      subst e
      cases h
      exact ⟨_, _, "ValueError", ex_InvalidSetting T, ex_Unfit T, rfl, by decide, T.xc_InvalidSetting, T.me_InvalidSetting⟩
    rw [List.lookup_cons] at h
    split at h
    · rename_i e
      have e := eq_of_beq e
      subst e
      cases h
      exact ⟨_, _, "ValueError", ex_InvalidRange T, ex_Unfit T, rfl, by decide, T.xc_InvalidRange, T.me_InvalidRange⟩
    rw [List.lookup_cons] at h
    split at h
    · rename_i e
      have e := eq_of_beq e
      subst e
      cases h
      exact ⟨_, _, "ValueError", ex_InvalidParts T, ex_Unfit T, rfl, by decide, T.xc_InvalidParts, T.me_InvalidParts⟩
    rw [List.lookup_cons] at h
    split at h
    · rename_i e
      have e := eq_of_beq e
      subst e
      cases h
      exact ⟨_, _, "ValueError", ex_InvalidNumbers T, ex_Unfit T, rfl, by decide, T.xc_InvalidNumbers, T.me_InvalidNumbers⟩
    rw [List.lookup_cons] at h
    split at h
    · rename_i e
      have e := eq_of_beq e
      subst e
      cases h
      exact ⟨_, _, "ValueError", ex_InvalidKinds T, ex_Unfit T, rfl, by decide, T.xc_InvalidKinds, T.me_InvalidKinds⟩
    rw [List.lookup_cons] at h
    split at h
    · rename_i e
      have e := eq_of_beq e
      subst e
      cases h
      exact ⟨_, _, "ValueError", ex_InvalidDeeds T, ex_Unfit T, rfl, by decide, T.xc_InvalidDeeds, T.me_InvalidDeeds⟩
    rw [List.lookup_cons] at h
    split at h
    · rename_i e
      have e := eq_of_beq e
      subst e
      cases h
      exact ⟨_, _, "LookupError", ex_NothingToUndo T, ex_Unready T, rfl, by decide, T.xc_NothingToUndo, T.me_NothingToUndo⟩
    rw [List.lookup_cons] at h
    split at h
    · rename_i e
      have e := eq_of_beq e
      subst e
      cases h
      exact ⟨_, _, "LookupError", ex_Busy T, ex_Unready T, rfl, by decide, T.xc_Busy, T.me_Busy⟩
    rw [List.lookup_cons] at h
    split at h
    · rename_i e
      have e := eq_of_beq e
      subst e
      cases h
      exact ⟨_, _, "LookupError", ex_NoSuchRow T, ex_Unready T, rfl, by decide, T.xc_NoSuchRow, T.me_NoSuchRow⟩
    rw [List.lookup_cons] at h
    split at h
    · rename_i e
      have e := eq_of_beq e
      subst e
      cases h
      exact ⟨_, _, "ArithmeticError", ex_TooLong T, ex_Beyond T, rfl, by decide, T.xc_TooLong, T.me_TooLong⟩
    cases h
def CS_value : List Str := ["NotAFormat", "NotALine", "NotALedger", "InvalidNumber", "InvalidText", "InvalidName", "InvalidWish", "InvalidSigns", "InvalidRow", "UnknownName", "UnknownSetting", "UnknownKind"]
theorem xf_value (T : TxtX w K mg A) : ∀ c ∈ CS_value, ∀ C, TQ.ex c = some C → XfC K C ∧ PySem.W.findIn K (.ref C) "value" = some none := fun c h C e => by
  simp only [CS_value, List.mem_cons, List.not_mem_nil, or_false] at h
  rcases h with rfl | rfl | rfl | rfl | rfl | rfl | rfl | rfl | rfl | rfl | rfl | rfl
  · cases (ex_NotAFormat T).symm.trans e
    exact ⟨T.xf_NotAFormat, T.nf_NotAFormat⟩
  · cases (ex_NotALine T).symm.trans e
    exact ⟨T.xf_NotALine, T.nf_NotALine⟩
  · cases (ex_NotALedger T).symm.trans e
    exact ⟨T.xf_NotALedger, T.nf_NotALedger⟩
  · cases (ex_InvalidNumber T).symm.trans e
    exact ⟨T.xf_InvalidNumber, T.nf_InvalidNumber⟩
  · cases (ex_InvalidText T).symm.trans e
    exact ⟨T.xf_InvalidText, T.nf_InvalidText⟩
  · cases (ex_InvalidName T).symm.trans e
    exact ⟨T.xf_InvalidName, T.nf_InvalidName⟩
  · cases (ex_InvalidWish T).symm.trans e
    exact ⟨T.xf_InvalidWish, T.nf_InvalidWish⟩
  · cases (ex_InvalidSigns T).symm.trans e
    exact ⟨T.xf_InvalidSigns, T.nf_InvalidSigns⟩
  · cases (ex_InvalidRow T).symm.trans e
    exact ⟨T.xf_InvalidRow, T.nf_InvalidRow⟩
  · cases (ex_UnknownName T).symm.trans e
    exact ⟨T.xf_UnknownName, T.nf_UnknownName⟩
  · cases (ex_UnknownSetting T).symm.trans e
    exact ⟨T.xf_UnknownSetting, T.nf_UnknownSetting⟩
  · cases (ex_UnknownKind T).symm.trans e
    exact ⟨T.xf_UnknownKind, T.nf_UnknownKind⟩
def CS_setting : List Str := ["InvalidSetting"]
theorem xf_setting (T : TxtX w K mg A) : ∀ c ∈ CS_setting, ∀ C, TQ.ex c = some C → XfC K C ∧ PySem.W.findIn K (.ref C) "setting" = some none := fun c h C e => by
  simp only [CS_setting, List.mem_cons, List.not_mem_nil, or_false] at h
  rcases h with rfl
  · cases (ex_InvalidSetting T).symm.trans e
    exact ⟨T.xf_InvalidSetting, T.nf_InvalidSetting⟩
def CS_end : List Str := ["InvalidRange"]
theorem xf_end (T : TxtX w K mg A) : ∀ c ∈ CS_end, ∀ C, TQ.ex c = some C → XfC K C ∧ PySem.W.findIn K (.ref C) "end" = some none := fun c h C e => by
  simp only [CS_end, List.mem_cons, List.not_mem_nil, or_false] at h
  rcases h with rfl
  · cases (ex_InvalidRange T).symm.trans e
    exact ⟨T.xf_InvalidRange, T.nf_InvalidRange⟩
def CS_index : List Str := ["InvalidParts", "InvalidNumbers", "InvalidKinds", "InvalidDeeds"]
theorem xf_index (T : TxtX w K mg A) : ∀ c ∈ CS_index, ∀ C, TQ.ex c = some C → XfC K C ∧ PySem.W.findIn K (.ref C) "index" = some none := fun c h C e => by
  simp only [CS_index, List.mem_cons, List.not_mem_nil, or_false] at h
  rcases h with rfl | rfl | rfl | rfl
  · cases (ex_InvalidParts T).symm.trans e
    exact ⟨T.xf_InvalidParts, T.nf_InvalidParts⟩
  · cases (ex_InvalidNumbers T).symm.trans e
    exact ⟨T.xf_InvalidNumbers, T.nf_InvalidNumbers⟩
  · cases (ex_InvalidKinds T).symm.trans e
    exact ⟨T.xf_InvalidKinds, T.nf_InvalidKinds⟩
  · cases (ex_InvalidDeeds T).symm.trans e
    exact ⟨T.xf_InvalidDeeds, T.nf_InvalidDeeds⟩
def CS_place : List Str := ["NoSuchRow"]
theorem xf_place (T : TxtX w K mg A) : ∀ c ∈ CS_place, ∀ C, TQ.ex c = some C → XfC K C ∧ PySem.W.findIn K (.ref C) "place" = some none := fun c h C e => by
  simp only [CS_place, List.mem_cons, List.not_mem_nil, or_false] at h
  rcases h with rfl
  · cases (ex_NoSuchRow T).symm.trans e
    exact ⟨T.xf_NoSuchRow, T.nf_NoSuchRow⟩
def CS_limit : List Str := ["TooLong"]
theorem xf_limit (T : TxtX w K mg A) : ∀ c ∈ CS_limit, ∀ C, TQ.ex c = some C → XfC K C ∧ PySem.W.findIn K (.ref C) "limit" = some none := fun c h C e => by
  simp only [CS_limit, List.mem_cons, List.not_mem_nil, or_false] at h
  rcases h with rfl
  · cases (ex_TooLong T).symm.trans e
    exact ⟨T.xf_TooLong, T.nf_TooLong⟩
end
end
section
open PySem PySem.Spec PyProof.Rows L2
variable [TQ]
section
variable {P : Program} {w : World} {K : PySem.W.Frag} {mg : Str → Option Value} {base : Heap} {A : Ad}
def b_l_spoon : DEnv → M (DEnv × Fl) :=
  (seqS (ifS (tvM (binM gtD (binM ixMD (rd 0) (cM (.int 0))) (cM (.int 0)))) (seqS (setS 2 (binM modD (callM intD (consM (binM ixMD (rd 0) (cM (.int 0))) nilM)) (rd 1))) (seqS (mputS 0 (cM (.int 0)) (binM fdivD (callM intD (consM (binM ixMD (rd 0) (cM (.int 0))) nilM)) (rd 1))) (seqS (retS (rd 2)) skipS))) skipS) (seqS (mputS 0 (cM (.int 1)) (binM modD (callM intD (consM (binM addD (binM addD (binM mulD (binM ixMD (rd 0) (cM (.int 1))) (cM (.int 1597))) (binM mulD (binM fdivD (binM ixMD (rd 0) (cM (.int 1))) (cM (.int 8191))) (cM (.int 29)))) (cM (.int 51749))) nilM)) (cM (.int 2038074743)))) (seqS (retS (binM modD (callM intD (consM (binM fdivD (binM ixMD (rd 0) (cM (.int 1))) (cM (.int 1021))) nilM)) (rd 1))) skipS)))
def f_l_spoon : List D → M D := runD 3 b_l_spoon
theorem ok_l_spoon (T : TxtX w K mg A) : Callee P w K mg base 1 "_law_spoon" ["_law_pot_here", "_law_wide"] (spD K (caOf A) (ceOf A) 2 f_l_spoon) :=
  have cf := cf_of T.toTxt
  calleeD_of (b := b_l_spoon) T.F_l_spoon sc_l_spoon rfl rfl (fun _ _ _ _ _ _ us hl => match us, hl with | [_, _], _ => rfl) (fun f cdv Ar outer s H Xs ρ E hr tk po =>
    (pssd_cons (psd_if (O := []) (O' := []) (pd_tcmp f_gt (o_gt (by decide)) (pd_ixM rfl (pd_varT 0) pd_int (fun _ _ => rfl)) pd_int (nomark _))
      (pssd_cons (psd_set 2 (pd_op (mi := .tr) f_mod (o_mod (by decide)) (pd_callTy (mi := .tr) f_int (c_int (by decide)) (by rfl) T.b_int (by decide +kernel) (pad_cons (pd_ixM rfl (pd_varT 0) pd_int (fun _ _ => rfl)) pad_nil)) (pd_varT 1)) sc_l_spoon.nd)
      (pssd_cons (psd_mput 0 pd_int (pd_op (mi := .tr) f_fdiv (o_fdiv (by decide)) (pd_callTy (mi := .tr) f_int (c_int (by decide)) (by rfl) T.b_int (by decide +kernel) (pad_cons (pd_ixM rfl (pd_varT 0) pd_int (fun _ _ => rfl)) pad_nil)) (pd_varT 1)))
      (pssd_cons (psd_ret (pd_varT 2))
      (pssd_nil (O := []) (O' := [])))))
      (pssd_nil (O := []) (O' := [])))
      (pssd_cons (psd_mput 0 pd_int (pd_op (mi := .tr) f_mod (o_mod (by decide)) (pd_callTy (mi := .tr) f_int (c_int (by decide)) (by rfl) T.b_int (by decide +kernel) (pad_cons (pd_op (mi := .tr) f_add (o_add rfl (by decide)) (pd_op (mi := .tr) f_add (o_add rfl (by decide)) (pd_op (mi := .tr) f_mul (o_mul (by decide)) (pd_ixM rfl (pd_varT 0) pd_int (fun _ _ => rfl)) pd_int) (pd_op (mi := .tr) f_mul (o_mul (by decide)) (pd_op (mi := .tr) f_fdiv (o_fdiv (by decide)) (pd_ixM rfl (pd_varT 0) pd_int (fun _ _ => rfl)) pd_int) pd_int)) pd_int) pad_nil)) pd_int))
      (pssd_cons (psd_ret (pd_op (mi := .tr) f_mod (o_mod (by decide)) (pd_callTy (mi := .tr) f_int (c_int (by decide)) (by rfl) T.b_int (by decide +kernel) (pad_cons (pd_op (mi := .tr) f_fdiv (o_fdiv (by decide)) (pd_ixM rfl (pd_varT 0) pd_int (fun _ _ => rfl)) pd_int) pad_nil)) (pd_varT 1)))
      (pssd_nil (O := []) (O' := []))))))
def b_l_of : DEnv → M (DEnv × Fl) :=
  (seqS (retS (binM ixD (rd 1) (callD 2 f_l_spoon (consM (rd 0) (consM (callM lenD (consM (rd 1) nilM)) nilM))))) skipS)
def f_l_of : List D → M D := runD 2 b_l_of
theorem ok_l_of (T : TxtX w K mg A) : Callee P w K mg base 2 "_law_of" ["_law_pot_here", "_law_things"] (spD K (caOf A) (ceOf A) 2 f_l_of) :=
  have cf := cf_of T.toTxt
  calleeD_of (b := b_l_of) T.F_l_of sc_l_of rfl rfl (fun _ _ _ _ _ _ us hl => match us, hl with | [_, _], _ => rfl) (fun f cdv Ar outer s H Xs ρ E hr tk po =>
    (pssd_cons (psd_ret (pd_ix (mi := .tr) f_ix (o_ix rfl (by decide)) (pd_varT 1) (pd_wk (m := .fz) (pd_call (ok_l_spoon T) hr (by decide) (by rfl) tk (pad_cons (pd_var 0) (pad_cons (pd_callB (mi := .tr) f_len (c_len rfl (by decide)) (by rfl) T.b_len (by decide +kernel) (pad_cons (pd_varT 1) pad_nil)) pad_nil)))) (fun _ _ => rfl)))
      (pssd_nil (O := []) (O' := []))))
def b_l_values : DEnv → M (DEnv × Fl) :=
  (seqS (setS 1 (lstM (consM (excM "NotAFormat" "value" (rd 0)) (consM (excM "NotALine" "value" (rd 0)) (consM (excM "NotALedger" "value" (rd 0)) nilM))))) (seqS (setS 1 (binM catD (rd 1) (lstM (consM (excM "InvalidNumber" "value" (rd 0)) (consM (excM "InvalidText" "value" (rd 0)) (consM (excM "InvalidName" "value" (rd 0)) nilM)))))) (seqS (setS 1 (binM catD (rd 1) (lstM (consM (excM "InvalidWish" "value" (rd 0)) (consM (excM "InvalidSigns" "value" (rd 0)) (consM (excM "InvalidRow" "value" (rd 0)) nilM)))))) (seqS (setS 1 (binM catD (rd 1) (lstM (consM (excM "UnknownName" "value" (rd 0)) (consM (excM "UnknownSetting" "value" (rd 0)) (consM (excM "UnknownKind" "value" (rd 0)) nilM)))))) (seqS (setS 2 (lstM (consM (excM "NotAFormat" "value" (rd 0)) (consM (excM "NotALine" "value" (rd 0)) nilM)))) (seqS (setS 2 (binM catD (rd 2) (lstM (consM (excM "NotALedger" "value" (rd 0)) (consM (excM "InvalidNumber" "value" (rd 0)) nilM))))) (seqS (setS 2 (binM catD (rd 2) (lstM (consM (excM "InvalidText" "value" (rd 0)) (consM (excM "InvalidName" "value" (rd 0)) nilM))))) (seqS (setS 2 (binM catD (rd 2) (lstM (consM (excM "InvalidWish" "value" (rd 0)) (consM (excM "InvalidSigns" "value" (rd 0)) nilM))))) (seqS (setS 2 (binM catD (rd 2) (lstM (consM (excM "InvalidRow" "value" (rd 0)) (consM (excM "UnknownName" "value" (rd 0)) nilM))))) (seqS (setS 2 (binM catD (rd 2) (lstM (consM (excM "UnknownSetting" "value" (rd 0)) (consM (excM "UnknownKind" "value" (rd 0)) nilM))))) (seqS (retS (binM catD (rd 1) (rd 2))) skipS)))))))))))
def f_l_values : List D → M D := runD 3 b_l_values
theorem ok_l_values (T : TxtX w K mg A) : Callee P w K mg base 3 "_law_values" ["_law_thing"] (spD K (caOf A) (ceOf A) 1 f_l_values) :=
  have cf := cf_of T.toTxt
  calleeD_of (b := b_l_values) T.F_l_values sc_l_values rfl rfl (fun _ _ _ _ _ _ us hl => match us, hl with | [_], _ => rfl) (fun f cdv Ar outer s H Xs ρ E hr tk po =>
    (pssd_cons (psd_set 1 (pd_fz (pd_lst (pad_cons (pd_exv (rv_NotAFormat T.toTxt) (ex_NotAFormat T) hr (by decide) (by rfl) (pd_var 0)) (pad_cons (pd_exv (rv_NotALine T.toTxt) (ex_NotALine T) hr (by decide) (by rfl) (pd_var 0)) (pad_cons (pd_exv (rv_NotALedger T.toTxt) (ex_NotALedger T) hr (by decide) (by rfl) (pd_var 0)) pad_nil))))) sc_l_values.nd)
      (pssd_cons (psd_set 1 (pd_op (mi := .fz) f_cat (o_cat rfl (by decide)) (pd_var 1) (pd_fz (pd_lst (pad_cons (pd_exv (rv_InvalidNumber T.toTxt) (ex_InvalidNumber T) hr (by decide) (by rfl) (pd_var 0)) (pad_cons (pd_exv (rv_InvalidText T.toTxt) (ex_InvalidText T) hr (by decide) (by rfl) (pd_var 0)) (pad_cons (pd_exv (rv_InvalidName T.toTxt) (ex_InvalidName T) hr (by decide) (by rfl) (pd_var 0)) pad_nil)))))) sc_l_values.nd)
      (pssd_cons (psd_set 1 (pd_op (mi := .fz) f_cat (o_cat rfl (by decide)) (pd_var 1) (pd_fz (pd_lst (pad_cons (pd_exv (rv_InvalidWish T.toTxt) (ex_InvalidWish T) hr (by decide) (by rfl) (pd_var 0)) (pad_cons (pd_exv (rv_InvalidSigns T.toTxt) (ex_InvalidSigns T) hr (by decide) (by rfl) (pd_var 0)) (pad_cons (pd_exv (rv_InvalidRow T.toTxt) (ex_InvalidRow T) hr (by decide) (by rfl) (pd_var 0)) pad_nil)))))) sc_l_values.nd)
      (pssd_cons (psd_set 1 (pd_op (mi := .fz) f_cat (o_cat rfl (by decide)) (pd_var 1) (pd_fz (pd_lst (pad_cons (pd_exv (rv_UnknownName T.toTxt) (ex_UnknownName T) hr (by decide) (by rfl) (pd_var 0)) (pad_cons (pd_exv (rv_UnknownSetting T.toTxt) (ex_UnknownSetting T) hr (by decide) (by rfl) (pd_var 0)) (pad_cons (pd_exv (rv_UnknownKind T.toTxt) (ex_UnknownKind T) hr (by decide) (by rfl) (pd_var 0)) pad_nil)))))) sc_l_values.nd)
      (pssd_cons (psd_set 2 (pd_fz (pd_lst (pad_cons (pd_exk (rv_NotAFormat T.toTxt) (ex_NotAFormat T) hr (by decide) (by rfl) (pd_var 0)) (pad_cons (pd_exk (rv_NotALine T.toTxt) (ex_NotALine T) hr (by decide) (by rfl) (pd_var 0)) pad_nil)))) sc_l_values.nd)
      (pssd_cons (psd_set 2 (pd_op (mi := .fz) f_cat (o_cat rfl (by decide)) (pd_var 2) (pd_fz (pd_lst (pad_cons (pd_exk (rv_NotALedger T.toTxt) (ex_NotALedger T) hr (by decide) (by rfl) (pd_var 0)) (pad_cons (pd_exk (rv_InvalidNumber T.toTxt) (ex_InvalidNumber T) hr (by decide) (by rfl) (pd_var 0)) pad_nil))))) sc_l_values.nd)
      (pssd_cons (psd_set 2 (pd_op (mi := .fz) f_cat (o_cat rfl (by decide)) (pd_var 2) (pd_fz (pd_lst (pad_cons (pd_exk (rv_InvalidText T.toTxt) (ex_InvalidText T) hr (by decide) (by rfl) (pd_var 0)) (pad_cons (pd_exk (rv_InvalidName T.toTxt) (ex_InvalidName T) hr (by decide) (by rfl) (pd_var 0)) pad_nil))))) sc_l_values.nd)
      (pssd_cons (psd_set 2 (pd_op (mi := .fz) f_cat (o_cat rfl (by decide)) (pd_var 2) (pd_fz (pd_lst (pad_cons (pd_exk (rv_InvalidWish T.toTxt) (ex_InvalidWish T) hr (by decide) (by rfl) (pd_var 0)) (pad_cons (pd_exk (rv_InvalidSigns T.toTxt) (ex_InvalidSigns T) hr (by decide) (by rfl) (pd_var 0)) pad_nil))))) sc_l_values.nd)
      (pssd_cons (psd_set 2 (pd_op (mi := .fz) f_cat (o_cat rfl (by decide)) (pd_var 2) (pd_fz (pd_lst (pad_cons (pd_exk (rv_InvalidRow T.toTxt) (ex_InvalidRow T) hr (by decide) (by rfl) (pd_var 0)) (pad_cons (pd_exk (rv_UnknownName T.toTxt) (ex_UnknownName T) hr (by decide) (by rfl) (pd_var 0)) pad_nil))))) sc_l_values.nd)
      (pssd_cons (psd_set 2 (pd_op (mi := .fz) f_cat (o_cat rfl (by decide)) (pd_var 2) (pd_fz (pd_lst (pad_cons (pd_exk (rv_UnknownSetting T.toTxt) (ex_UnknownSetting T) hr (by decide) (by rfl) (pd_var 0)) (pad_cons (pd_exk (rv_UnknownKind T.toTxt) (ex_UnknownKind T) hr (by decide) (by rfl) (pd_var 0)) pad_nil))))) sc_l_values.nd)
      (pssd_cons (psd_ret (pd_op (mi := .tr) f_cat (o_cat rfl (by decide)) (pd_varT 1) (pd_varT 2)))
      (pssd_nil (O := []) (O' := []))))))))))))))
def b_l_indexes : DEnv → M (DEnv × Fl) :=
  (seqS (setS 1 (lstM (consM (excM "InvalidParts" "index" (rd 0)) (consM (excM "InvalidNumbers" "index" (rd 0)) (consM (excM "InvalidKinds" "index" (rd 0)) nilM))))) (seqS (setS 1 (binM catD (rd 1) (lstM (consM (excM "InvalidDeeds" "index" (rd 0)) nilM)))) (seqS (setS 2 (lstM (consM (excM "InvalidParts" "index" (rd 0)) (consM (excM "InvalidNumbers" "index" (rd 0)) nilM)))) (seqS (setS 2 (binM catD (rd 2) (lstM (consM (excM "InvalidKinds" "index" (rd 0)) (consM (excM "InvalidDeeds" "index" (rd 0)) nilM))))) (seqS (retS (binM catD (rd 1) (rd 2))) skipS)))))
def f_l_indexes : List D → M D := runD 3 b_l_indexes
theorem ok_l_indexes (T : TxtX w K mg A) : Callee P w K mg base 3 "_law_indexes" ["_law_thing"] (spD K (caOf A) (ceOf A) 1 f_l_indexes) :=
  have cf := cf_of T.toTxt
  calleeD_of (b := b_l_indexes) T.F_l_indexes sc_l_indexes rfl rfl (fun _ _ _ _ _ _ us hl => match us, hl with | [_], _ => rfl) (fun f cdv Ar outer s H Xs ρ E hr tk po =>
    (pssd_cons (psd_set 1 (pd_fz (pd_lst (pad_cons (pd_exv (rv_InvalidParts T.toTxt) (ex_InvalidParts T) hr (by decide) (by rfl) (pd_var 0)) (pad_cons (pd_exv (rv_InvalidNumbers T.toTxt) (ex_InvalidNumbers T) hr (by decide) (by rfl) (pd_var 0)) (pad_cons (pd_exv (rv_InvalidKinds T.toTxt) (ex_InvalidKinds T) hr (by decide) (by rfl) (pd_var 0)) pad_nil))))) sc_l_indexes.nd)
      (pssd_cons (psd_set 1 (pd_op (mi := .fz) f_cat (o_cat rfl (by decide)) (pd_var 1) (pd_fz (pd_lst (pad_cons (pd_exv (rv_InvalidDeeds T.toTxt) (ex_InvalidDeeds T) hr (by decide) (by rfl) (pd_var 0)) pad_nil)))) sc_l_indexes.nd)
      (pssd_cons (psd_set 2 (pd_fz (pd_lst (pad_cons (pd_exk (rv_InvalidParts T.toTxt) (ex_InvalidParts T) hr (by decide) (by rfl) (pd_var 0)) (pad_cons (pd_exk (rv_InvalidNumbers T.toTxt) (ex_InvalidNumbers T) hr (by decide) (by rfl) (pd_var 0)) pad_nil)))) sc_l_indexes.nd)
      (pssd_cons (psd_set 2 (pd_op (mi := .fz) f_cat (o_cat rfl (by decide)) (pd_var 2) (pd_fz (pd_lst (pad_cons (pd_exk (rv_InvalidKinds T.toTxt) (ex_InvalidKinds T) hr (by decide) (by rfl) (pd_var 0)) (pad_cons (pd_exk (rv_InvalidDeeds T.toTxt) (ex_InvalidDeeds T) hr (by decide) (by rfl) (pd_var 0)) pad_nil))))) sc_l_indexes.nd)
      (pssd_cons (psd_ret (pd_op (mi := .tr) f_cat (o_cat rfl (by decide)) (pd_varT 1) (pd_varT 2)))
      (pssd_nil (O := []) (O' := []))))))))
def b_l_kept_right : DEnv → M (DEnv × Fl) :=
  (seqS (parS 1 2 (callD 1 f_l_values (consM (rd 0) nilM)) (callD 1 f_l_indexes (consM (rd 0) nilM))) (seqS (setS 3 (lstM (consM (lcD [5] (oneM itL (rd 1)) (tgN 5) yesM (oneM (exfD CS_value "value") (rd 5))) (consM (lcD [5] (oneM itL (rd 2)) (tgN 5) yesM (oneM (exfD CS_index "index") (rd 5))) nilM)))) (seqS (setS 4 (lstM (consM (oneM (exfD CS_setting "setting") (excM "InvalidSetting" "setting" (rd 0))) (consM (oneM (exfD CS_setting "setting") (excM "InvalidSetting" "setting" (rd 0))) (consM (oneM (exfD CS_end "end") (excM "InvalidRange" "end" (rd 0))) nilM))))) (seqS (setS 4 (binM catD (rd 4) (lstM (consM (oneM (exfD CS_end "end") (excM "InvalidRange" "end" (rd 0))) (consM (oneM (exfD CS_place "place") (excM "NoSuchRow" "place" (rd 0))) (consM (oneM (exfD CS_place "place") (excM "NoSuchRow" "place" (rd 0))) nilM)))))) (seqS (setS 4 (binM catD (rd 4) (lstM (consM (oneM (exfD CS_limit "limit") (excM "TooLong" "limit" (rd 0))) (consM (oneM (exfD CS_limit "limit") (excM "TooLong" "limit" (rd 0))) nilM))))) (seqS (retS (binM eqD (callM reprD (consM (binM catD (rd 3) (rd 4)) nilM)) (callM reprD (consM (binM catD (lstM (consM (binM repD (lstM (consM (rd 0) nilM)) (cM (.int 24))) (consM (binM repD (lstM (consM (rd 0) nilM)) (cM (.int 8))) nilM))) (binM repD (lstM (consM (rd 0) nilM)) (cM (.int 8)))) nilM)))) skipS))))))
def f_l_kept_right : List D → M D := runD 6 b_l_kept_right
theorem ok_l_kept_right (T : TxtX w K mg A) : CalleeG P w K mg base 4 "_law_kept_right" ["_law_thing"] (spD K (caOf A) (ceOf A) 1 f_l_kept_right) :=
  have cf := cf_of T.toTxt
  calleeDG_of (b := b_l_kept_right) T.F_l_kept_right sc_l_kept_right rfl rfl (fun _ _ _ _ _ _ us hl => match us, hl with | [_], _ => rfl) (fun f cdv Ar outer s H Xs ρ E ng hr tk po =>
    (pssd_cons (psd_parQ 1 2 rfl sc_l_kept_right.nd rfl rfl (by decide) rfl rfl (pd_call (ok_l_values T) hr (by decide) (by rfl) tk (pad_cons (pd_var 0) pad_nil)) (pd_call (ok_l_indexes T) hr (by decide) (by rfl) tk (pad_cons (pd_var 0) pad_nil)))
      (pssd_cons (psd_set 3 (pd_fz (pd_lst (pad_cons (pd_fz (pd_lc (own := [("_law_e", 5)]) (by rfl) sc_l_kept_right.nd (pid_L rfl (pd_var 1)) (blkOk_by (own := [("_law_e", 5)]) (N := ["_law_thing", "_law_some", "_law_places", "_law_seen", "_law_others", "_law_e"]) (sc := defScope s_l_kept_right) (by decide +kernel)) (by decide) (fun _ _ _ _ _ _ => (pgc_name 5 sc_l_kept_right.nd)) (fun _ _ _ _ _ _ => ptsd_nil) (fun _ _ _ _ _ _ => (pd_exf (cs := CS_value) (xf_value T) (pd_var 5))))) (pad_cons (pd_fz (pd_lc (own := [("_law_e", 5)]) (by rfl) sc_l_kept_right.nd (pid_L rfl (pd_var 2)) (blkOk_by (own := [("_law_e", 5)]) (N := ["_law_thing", "_law_some", "_law_places", "_law_seen", "_law_others", "_law_e"]) (sc := defScope s_l_kept_right) (by decide +kernel)) (by decide) (fun _ _ _ _ _ _ => (pgc_name 5 sc_l_kept_right.nd)) (fun _ _ _ _ _ _ => ptsd_nil) (fun _ _ _ _ _ _ => (pd_exf (cs := CS_index) (xf_index T) (pd_var 5))))) pad_nil)))) sc_l_kept_right.nd)
      (pssd_cons (psd_set 4 (pd_fz (pd_lst (pad_cons (pd_exf (cs := CS_setting) (xf_setting T) (pd_exv (rv_InvalidSetting T.toTxt) (ex_InvalidSetting T) hr (by decide) (by rfl) (pd_var 0))) (pad_cons (pd_exf (cs := CS_setting) (xf_setting T) (pd_exk (rv_InvalidSetting T.toTxt) (ex_InvalidSetting T) hr (by decide) (by rfl) (pd_var 0))) (pad_cons (pd_exf (cs := CS_end) (xf_end T) (pd_exv (rv_InvalidRange T.toTxt) (ex_InvalidRange T) hr (by decide) (by rfl) (pd_var 0))) pad_nil))))) sc_l_kept_right.nd)
      (pssd_cons (psd_set 4 (pd_op (mi := .fz) f_cat (o_cat rfl (by decide)) (pd_var 4) (pd_fz (pd_lst (pad_cons (pd_exf (cs := CS_end) (xf_end T) (pd_exk (rv_InvalidRange T.toTxt) (ex_InvalidRange T) hr (by decide) (by rfl) (pd_var 0))) (pad_cons (pd_exf (cs := CS_place) (xf_place T) (pd_exv (rv_NoSuchRow T.toTxt) (ex_NoSuchRow T) hr (by decide) (by rfl) (pd_var 0))) (pad_cons (pd_exf (cs := CS_place) (xf_place T) (pd_exk (rv_NoSuchRow T.toTxt) (ex_NoSuchRow T) hr (by decide) (by rfl) (pd_var 0))) pad_nil)))))) sc_l_kept_right.nd)
      (pssd_cons (psd_set 4 (pd_op (mi := .fz) f_cat (o_cat rfl (by decide)) (pd_var 4) (pd_fz (pd_lst (pad_cons (pd_exf (cs := CS_limit) (xf_limit T) (pd_exv (rv_TooLong T.toTxt) (ex_TooLong T) hr (by decide) (by rfl) (pd_var 0))) (pad_cons (pd_exf (cs := CS_limit) (xf_limit T) (pd_exk (rv_TooLong T.toTxt) (ex_TooLong T) hr (by decide) (by rfl) (pd_var 0))) pad_nil))))) sc_l_kept_right.nd)
      (pssd_cons (psd_ret (pd_cmp (mi := .tr) op_eq (o_eq (by decide)) (pd_callB (mi := .tr) (f_repr (ca := caOf A) ng hr.units T.sysm) (c_repr rfl (by decide)) (by rfl) T.b_repr (by decide +kernel) (pad_cons (pd_op (mi := .tr) f_cat (o_cat rfl (by decide)) (pd_varT 3) (pd_varT 4)) pad_nil)) (pd_callB (mi := .tr) (f_repr (ca := caOf A) ng hr.units T.sysm) (c_repr rfl (by decide)) (by rfl) T.b_repr (by decide +kernel) (pad_cons (pd_op (mi := .tr) f_cat (o_cat rfl (by decide)) (pd_wk (m := .nw) (pd_lst (pad_cons (pd_op (mi := .fz) f_rep (o_rep rfl (by decide)) (pd_fz (pd_lst (pad_cons (pd_var 0) pad_nil))) pd_int) (pad_cons (pd_op (mi := .fz) f_rep (o_rep rfl (by decide)) (pd_fz (pd_lst (pad_cons (pd_var 0) pad_nil))) pd_int) pad_nil)))) (pd_op (mi := .tr) f_rep (o_rep rfl (by decide)) (pd_wk (m := .nw) (pd_lst (pad_cons (pd_var 0) pad_nil))) pd_int)) pad_nil)) (nomark _)))
      (pssd_nil (O := []) (O' := [])))))))))
def b_l_kin : DEnv → M (DEnv × Fl) :=
  (seqS (setS 1 (lstM (consM (oneM (isXD XT "Unfit") (rd 0)) (consM (oneM (isXD XT "Unready") (rd 0)) (consM (oneM (isXD XT "Beyond") (rd 0)) nilM))))) (seqS (retS (binM catD (rd 1) (lstM (consM (oneM (isXD XT "ValueError") (rd 0)) (consM (oneM (isXD XT "LookupError") (rd 0)) (consM (oneM (isXD XT "ArithmeticError") (rd 0)) nilM)))))) skipS))
def f_l_kin : List D → M D := runD 2 b_l_kin
theorem ok_l_kin (T : TxtX w K mg A) : Callee P w K mg base 1 "_law_kin" ["_law_e"] (spD K (caOf A) (ceOf A) 1 f_l_kin) :=
  have cf := cf_of T.toTxt
  calleeD_of (b := b_l_kin) T.F_l_kin sc_l_kin rfl rfl (fun _ _ _ _ _ _ us hl => match us, hl with | [_], _ => rfl) (fun f cdv Ar outer s H Xs ρ E hr tk po =>
    (pssd_cons (psd_set 1 (pd_fz (pd_lst (pad_cons (pd_isX (XT := XT) (n := "Unfit") (cv := .ref A.cUnfit) (vn := .ref A.cUnfit) (fun _ h => h) ((xt_ok T).own (ex_Unfit T) T.kd_Unfit (by decide +kernel)) (pd_varT 0) (fe_g (by rfl) T.v_Unfit) (by rfl) T.b_isinstance) (pad_cons (pd_isX (XT := XT) (n := "Unready") (cv := .ref A.cUnready) (vn := .ref A.cUnready) (fun _ h => h) ((xt_ok T).own (ex_Unready T) T.kd_Unready (by decide +kernel)) (pd_varT 0) (fe_g (by rfl) T.v_Unready) (by rfl) T.b_isinstance) (pad_cons (pd_isX (XT := XT) (n := "Beyond") (cv := .ref A.cBeyond) (vn := .ref A.cBeyond) (fun _ h => h) ((xt_ok T).own (ex_Beyond T) T.kd_Beyond (by decide +kernel)) (pd_varT 0) (fe_g (by rfl) T.v_Beyond) (by rfl) T.b_isinstance) pad_nil))))) sc_l_kin.nd)
      (pssd_cons (psd_ret (pd_op (mi := .tr) f_cat (o_cat rfl (by decide)) (pd_varT 1) (pd_wk (m := .nw) (pd_lst (pad_cons (pd_isX (XT := XT) (n := "ValueError") (cv := .type "ValueError") (vn := .ty "ValueError") (fun _ h => h) ((xt_ok T).blt (n := "ValueError") (by decide +kernel) (by decide) (by decide +kernel)) (pd_varT 0) (pe_bltn (v := .ty "ValueError") (by rfl) T.b_ValueError (by decide +kernel) rfl) (by rfl) T.b_isinstance) (pad_cons (pd_isX (XT := XT) (n := "LookupError") (cv := .type "LookupError") (vn := .ty "LookupError") (fun _ h => h) ((xt_ok T).blt (n := "LookupError") (by decide +kernel) (by decide) (by decide +kernel)) (pd_varT 0) (pe_bltn (v := .ty "LookupError") (by rfl) T.b_LookupError (by decide +kernel) rfl) (by rfl) T.b_isinstance) (pad_cons (pd_isX (XT := XT) (n := "ArithmeticError") (cv := .type "ArithmeticError") (vn := .ty "ArithmeticError") (fun _ h => h) ((xt_ok T).blt (n := "ArithmeticError") (by decide +kernel) (by decide) (by decide +kernel)) (pd_varT 0) (pe_bltn (v := .ty "ArithmeticError") (by rfl) T.b_ArithmeticError (by decide +kernel) rfl) (by rfl) T.b_isinstance) pad_nil)))))))
      (pssd_nil (O := []) (O' := [])))))
def b_l_classes : DEnv → M (DEnv × Fl) :=
  (seqS (setS 1 (lstM (consM (oneM (isXD XT "NotAFormat") (rd 0)) (consM (oneM (isXD XT "NotALine") (rd 0)) (consM (oneM (isXD XT "NotALedger") (rd 0)) nilM))))) (seqS (setS 1 (binM catD (rd 1) (lstM (consM (oneM (isXD XT "InvalidNumber") (rd 0)) (consM (oneM (isXD XT "InvalidText") (rd 0)) nilM))))) (seqS (setS 1 (binM catD (rd 1) (lstM (consM (oneM (isXD XT "InvalidName") (rd 0)) (consM (oneM (isXD XT "InvalidWish") (rd 0)) nilM))))) (seqS (setS 1 (binM catD (rd 1) (lstM (consM (oneM (isXD XT "InvalidSigns") (rd 0)) (consM (oneM (isXD XT "InvalidRow") (rd 0)) nilM))))) (seqS (setS 1 (binM catD (rd 1) (lstM (consM (oneM (isXD XT "UnknownName") (rd 0)) (consM (oneM (isXD XT "UnknownSetting") (rd 0)) nilM))))) (seqS (setS 1 (binM catD (rd 1) (lstM (consM (oneM (isXD XT "UnknownKind") (rd 0)) (consM (oneM (isXD XT "InvalidSetting") (rd 0)) nilM))))) (seqS (setS 1 (binM catD (rd 1) (lstM (consM (oneM (isXD XT "InvalidRange") (rd 0)) (consM (oneM (isXD XT "InvalidParts") (rd 0)) nilM))))) (seqS (setS 1 (binM catD (rd 1) (lstM (consM (oneM (isXD XT "InvalidNumbers") (rd 0)) (consM (oneM (isXD XT "InvalidKinds") (rd 0)) nilM))))) (seqS (setS 1 (binM catD (rd 1) (lstM (consM (oneM (isXD XT "InvalidDeeds") (rd 0)) (consM (oneM (isXD XT "NothingToUndo") (rd 0)) (consM (oneM (isXD XT "Busy") (rd 0)) nilM)))))) (seqS (setS 1 (binM catD (rd 1) (lstM (consM (oneM (isXD XT "NoSuchRow") (rd 0)) (consM (oneM (isXD XT "TooLong") (rd 0)) nilM))))) (seqS (retS (cntBM (rd 1) (cM (.bl true)))) skipS)))))))))))
def f_l_classes : List D → M D := runD 2 b_l_classes
theorem ok_l_classes (T : TxtX w K mg A) : Callee P w K mg base 1 "_law_classes" ["_law_e"] (spD K (caOf A) (ceOf A) 1 f_l_classes) :=
  have cf := cf_of T.toTxt
  calleeD_of (b := b_l_classes) T.F_l_classes sc_l_classes rfl rfl (fun _ _ _ _ _ _ us hl => match us, hl with | [_], _ => rfl) (fun f cdv Ar outer s H Xs ρ E hr tk po =>
    (pssd_cons (psd_set 1 (pd_fz (pd_lst (pad_cons (pd_isX (XT := XT) (n := "NotAFormat") (cv := .ref A.cNotAFormat) (vn := .ref A.cNotAFormat) (fun _ h => h) ((xt_ok T).own (ex_NotAFormat T) T.kd_NotAFormat (by decide +kernel)) (pd_varT 0) (fe_g (by rfl) T.v_NotAFormat) (by rfl) T.b_isinstance) (pad_cons (pd_isX (XT := XT) (n := "NotALine") (cv := .ref A.cNotALine) (vn := .ref A.cNotALine) (fun _ h => h) ((xt_ok T).own (ex_NotALine T) T.kd_NotALine (by decide +kernel)) (pd_varT 0) (fe_g (by rfl) T.v_NotALine) (by rfl) T.b_isinstance) (pad_cons (pd_isX (XT := XT) (n := "NotALedger") (cv := .ref A.cNotALedger) (vn := .ref A.cNotALedger) (fun _ h => h) ((xt_ok T).own (ex_NotALedger T) T.kd_NotALedger (by decide +kernel)) (pd_varT 0) (fe_g (by rfl) T.v_NotALedger) (by rfl) T.b_isinstance) pad_nil))))) sc_l_classes.nd)
      (pssd_cons (psd_set 1 (pd_op (mi := .fz) f_cat (o_cat rfl (by decide)) (pd_var 1) (pd_fz (pd_lst (pad_cons (pd_isX (XT := XT) (n := "InvalidNumber") (cv := .ref A.cInvalidNumber) (vn := .ref A.cInvalidNumber) (fun _ h => h) ((xt_ok T).own (ex_InvalidNumber T) T.kd_InvalidNumber (by decide +kernel)) (pd_varT 0) (fe_g (by rfl) T.v_InvalidNumber) (by rfl) T.b_isinstance) (pad_cons (pd_isX (XT := XT) (n := "InvalidText") (cv := .ref A.cInvalidText) (vn := .ref A.cInvalidText) (fun _ h => h) ((xt_ok T).own (ex_InvalidText T) T.kd_InvalidText (by decide +kernel)) (pd_varT 0) (fe_g (by rfl) T.v_InvalidText) (by rfl) T.b_isinstance) pad_nil))))) sc_l_classes.nd)
      (pssd_cons (psd_set 1 (pd_op (mi := .fz) f_cat (o_cat rfl (by decide)) (pd_var 1) (pd_fz (pd_lst (pad_cons (pd_isX (XT := XT) (n := "InvalidName") (cv := .ref A.cInvalidName) (vn := .ref A.cInvalidName) (fun _ h => h) ((xt_ok T).own (ex_InvalidName T) T.kd_InvalidName (by decide +kernel)) (pd_varT 0) (fe_g (by rfl) T.v_InvalidName) (by rfl) T.b_isinstance) (pad_cons (pd_isX (XT := XT) (n := "InvalidWish") (cv := .ref A.cInvalidWish) (vn := .ref A.cInvalidWish) (fun _ h => h) ((xt_ok T).own (ex_InvalidWish T) T.kd_InvalidWish (by decide +kernel)) (pd_varT 0) (fe_g (by rfl) T.v_InvalidWish) (by rfl) T.b_isinstance) pad_nil))))) sc_l_classes.nd)
      (pssd_cons (psd_set 1 (pd_op (mi := .fz) f_cat (o_cat rfl (by decide)) (pd_var 1) (pd_fz (pd_lst (pad_cons (pd_isX (XT := XT) (n := "InvalidSigns") (cv := .ref A.cInvalidSigns) (vn := .ref A.cInvalidSigns) (fun _ h => h) ((xt_ok T).own (ex_InvalidSigns T) T.kd_InvalidSigns (by decide +kernel)) (pd_varT 0) (fe_g (by rfl) T.v_InvalidSigns) (by rfl) T.b_isinstance) (pad_cons (pd_isX (XT := XT) (n := "InvalidRow") (cv := .ref A.cInvalidRow) (vn := .ref A.cInvalidRow) (fun _ h => h) ((xt_ok T).own (ex_InvalidRow T) T.kd_InvalidRow (by decide +kernel)) (pd_varT 0) (fe_g (by rfl) T.v_InvalidRow) (by rfl) T.b_isinstance) pad_nil))))) sc_l_classes.nd)
      (pssd_cons (psd_set 1 (pd_op (mi := .fz) f_cat (o_cat rfl (by decide)) (pd_var 1) (pd_fz (pd_lst (pad_cons (pd_isX (XT := XT) (n := "UnknownName") (cv := .ref A.cUnknownName) (vn := .ref A.cUnknownName) (fun _ h => h) ((xt_ok T).own (ex_UnknownName T) T.kd_UnknownName (by decide +kernel)) (pd_varT 0) (fe_g (by rfl) T.v_UnknownName) (by rfl) T.b_isinstance) (pad_cons (pd_isX (XT := XT) (n := "UnknownSetting") (cv := .ref A.cUnknownSetting) (vn := .ref A.cUnknownSetting) (fun _ h => h) ((xt_ok T).own (ex_UnknownSetting T) T.kd_UnknownSetting (by decide +kernel)) (pd_varT 0) (fe_g (by rfl) T.v_UnknownSetting) (by rfl) T.b_isinstance) pad_nil))))) sc_l_classes.nd)
      (pssd_cons (psd_set 1 (pd_op (mi := .fz) f_cat (o_cat rfl (by decide)) (pd_var 1) (pd_fz (pd_lst (pad_cons (pd_isX (XT := XT) (n := "UnknownKind") (cv := .ref A.cUnknownKind) (vn := .ref A.cUnknownKind) (fun _ h => h) ((xt_ok T).own (ex_UnknownKind T) T.kd_UnknownKind (by decide +kernel)) (pd_varT 0) (fe_g (by rfl) T.v_UnknownKind) (by rfl) T.b_isinstance) (pad_cons (pd_isX (XT := XT) (n := "InvalidSetting") (cv := .ref A.cInvalidSetting) (vn := .ref A.cInvalidSetting) (fun _ h => h) ((xt_ok T).own (ex_InvalidSetting T) T.kd_InvalidSetting (by decide +kernel)) (pd_varT 0) (fe_g (by rfl) T.v_InvalidSetting) (by rfl) T.b_isinstance) pad_nil))))) sc_l_classes.nd)
      (pssd_cons (psd_set 1 (pd_op (mi := .fz) f_cat (o_cat rfl (by decide)) (pd_var 1) (pd_fz (pd_lst (pad_cons (pd_isX (XT := XT) (n := "InvalidRange") (cv := .ref A.cInvalidRange) (vn := .ref A.cInvalidRange) (fun _ h => h) ((xt_ok T).own (ex_InvalidRange T) T.kd_InvalidRange (by decide +kernel)) (pd_varT 0) (fe_g (by rfl) T.v_InvalidRange) (by rfl) T.b_isinstance) (pad_cons (pd_isX (XT := XT) (n := "InvalidParts") (cv := .ref A.cInvalidParts) (vn := .ref A.cInvalidParts) (fun _ h => h) ((xt_ok T).own (ex_InvalidParts T) T.kd_InvalidParts (by decide +kernel)) (pd_varT 0) (fe_g (by rfl) T.v_InvalidParts) (by rfl) T.b_isinstance) pad_nil))))) sc_l_classes.nd)
      (pssd_cons (psd_set 1 (pd_op (mi := .fz) f_cat (o_cat rfl (by decide)) (pd_var 1) (pd_fz (pd_lst (pad_cons (pd_isX (XT := XT) (n := "InvalidNumbers") (cv := .ref A.cInvalidNumbers) (vn := .ref A.cInvalidNumbers) (fun _ h => h) ((xt_ok T).own (ex_InvalidNumbers T) T.kd_InvalidNumbers (by decide +kernel)) (pd_varT 0) (fe_g (by rfl) T.v_InvalidNumbers) (by rfl) T.b_isinstance) (pad_cons (pd_isX (XT := XT) (n := "InvalidKinds") (cv := .ref A.cInvalidKinds) (vn := .ref A.cInvalidKinds) (fun _ h => h) ((xt_ok T).own (ex_InvalidKinds T) T.kd_InvalidKinds (by decide +kernel)) (pd_varT 0) (fe_g (by rfl) T.v_InvalidKinds) (by rfl) T.b_isinstance) pad_nil))))) sc_l_classes.nd)
      (pssd_cons (psd_set 1 (pd_op (mi := .fz) f_cat (o_cat rfl (by decide)) (pd_var 1) (pd_fz (pd_lst (pad_cons (pd_isX (XT := XT) (n := "InvalidDeeds") (cv := .ref A.cInvalidDeeds) (vn := .ref A.cInvalidDeeds) (fun _ h => h) ((xt_ok T).own (ex_InvalidDeeds T) T.kd_InvalidDeeds (by decide +kernel)) (pd_varT 0) (fe_g (by rfl) T.v_InvalidDeeds) (by rfl) T.b_isinstance) (pad_cons (pd_isX (XT := XT) (n := "NothingToUndo") (cv := .ref A.cNothingToUndo) (vn := .ref A.cNothingToUndo) (fun _ h => h) ((xt_ok T).own (ex_NothingToUndo T) T.kd_NothingToUndo (by decide +kernel)) (pd_varT 0) (fe_g (by rfl) T.v_NothingToUndo) (by rfl) T.b_isinstance) (pad_cons (pd_isX (XT := XT) (n := "Busy") (cv := .ref A.cBusy) (vn := .ref A.cBusy) (fun _ h => h) ((xt_ok T).own (ex_Busy T) T.kd_Busy (by decide +kernel)) (pd_varT 0) (fe_g (by rfl) T.v_Busy) (by rfl) T.b_isinstance) pad_nil)))))) sc_l_classes.nd)
      (pssd_cons (psd_set 1 (pd_op (mi := .fz) f_cat (o_cat rfl (by decide)) (pd_var 1) (pd_fz (pd_lst (pad_cons (pd_isX (XT := XT) (n := "NoSuchRow") (cv := .ref A.cNoSuchRow) (vn := .ref A.cNoSuchRow) (fun _ h => h) ((xt_ok T).own (ex_NoSuchRow T) T.kd_NoSuchRow (by decide +kernel)) (pd_varT 0) (fe_g (by rfl) T.v_NoSuchRow) (by rfl) T.b_isinstance) (pad_cons (pd_isX (XT := XT) (n := "TooLong") (cv := .ref A.cTooLong) (vn := .ref A.cTooLong) (fun _ h => h) ((xt_ok T).own (ex_TooLong T) T.kd_TooLong (by decide +kernel)) (pd_varT 0) (fe_g (by rfl) T.v_TooLong) (by rfl) T.b_isinstance) pad_nil))))) sc_l_classes.nd)
      (pssd_cons (psd_ret (pd_cntB (m := .tr) (pd_var 1) pd_bl))
      (pssd_nil (O := []) (O' := []))))))))))))))
def b_l_right : DEnv → M (DEnv × Fl) :=
  (seqS (setS 1 (callD 2 f_l_of (consM (rd 0) (consM (lstM (consM (cM .non) (consM (cM (.int 0)) (consM (cM (.bl true)) (consM (cM (.str "a")) (consM (tupM (consM (cM (.int 1)) (consM (cM (.str "b")) nilM))) (consM (lstM (consM (cM (.int 2)) nilM)) (consM (cM (.dct [])) (consM (binM powD (cM (.int 10)) (cM (.int 40))) (consM (tupM nilM) (consM (oneM negD (cM (.int 1))) nilM))))))))))) nilM)))) (seqS (setS 2 (binM catD (binM catD (callD 1 f_l_values (consM (rd 1) nilM)) (callD 1 f_l_indexes (consM (rd 1) nilM))) (lstM (consM (excM "InvalidSetting" "setting" (rd 1)) (consM (excM "InvalidRange" "end" (rd 1)) nilM))))) (seqS (parS 3 4 (lstM (consM (exc0M "NothingToUndo") (consM (exc0M "Busy") (consM (excM "NoSuchRow" "place" (rd 1)) nilM)))) (lstM (consM (excM "TooLong" "limit" (rd 1)) nilM))) (seqS (ifS (notM (tvM (callD 1 f_l_kept_right (consM (rd 1) nilM)))) (seqS (retS (cM (.bl false))) skipS) skipS) (seqS (ifS (notM (tvM (callM allD (consM (lcD [6] (oneM itL (rd 2)) (tgN 6) yesM (binM (eqBD false) (callD 1 f_l_kin (consM (rd 6) nilM)) (lstM (consM (cM (.bl true)) (consM (cM (.bl false)) (consM (cM (.bl false)) (consM (cM (.bl true)) (consM (cM (.bl false)) (consM (cM (.bl false)) nilM))))))))) nilM)))) (seqS (retS (cM (.bl false))) skipS) skipS) (seqS (ifS (notM (tvM (callM allD (consM (lcD [6] (oneM itL (rd 3)) (tgN 6) yesM (binM (eqBD false) (callD 1 f_l_kin (consM (rd 6) nilM)) (lstM (consM (cM (.bl false)) (consM (cM (.bl true)) (consM (cM (.bl false)) (consM (cM (.bl false)) (consM (cM (.bl true)) (consM (cM (.bl false)) nilM))))))))) nilM)))) (seqS (retS (cM (.bl false))) skipS) skipS) (seqS (ifS (notM (tvM (callM allD (consM (lcD [6] (oneM itL (rd 4)) (tgN 6) yesM (binM (eqBD false) (callD 1 f_l_kin (consM (rd 6) nilM)) (lstM (consM (cM (.bl false)) (consM (cM (.bl false)) (consM (cM (.bl true)) (consM (cM (.bl false)) (consM (cM (.bl false)) (consM (cM (.bl true)) nilM))))))))) nilM)))) (seqS (retS (cM (.bl false))) skipS) skipS) (seqS (setS 5 (lstM (consM (cM (.int 8)) (consM (cM (.int 4)) (consM (cM (.int 12)) (consM (cM (.int 4)) (consM (cM (.int 1000000000000)) (consM (cM (.int 400)) (consM (cM (.int 6)) nilM))))))))) (seqS (ifS (tvM (binM (eqBD true) (rd 5) (lstM (consM (cM (.int 8)) (consM (cM (.int 4)) (consM (cM (.int 12)) (consM (cM (.int 4)) (consM (binM powD (cM (.int 10)) (cM (.int 12))) (consM (cM (.int 400)) (consM (cM (.int 6)) nilM)))))))))) (seqS (retS (cM (.bl false))) skipS) skipS) (seqS (retS (callM allD (consM (lcD [6] (oneM itL (binM catD (binM catD (rd 2) (rd 3)) (rd 4))) (tgN 6) yesM (binM eqD (callD 1 f_l_classes (consM (rd 6) nilM)) (cM (.int 1)))) nilM))) skipS))))))))))
def f_l_right : List D → M D := runD 7 b_l_right
theorem ok_l_right (T : TxtX w K mg A) : CalleeG P w K mg base 5 "_law_right" ["_law_pot_here"] (spD K (caOf A) (ceOf A) 1 f_l_right) :=
  have cf := cf_of T.toTxt
  calleeDG_of (b := b_l_right) T.F_l_right sc_l_right rfl rfl (fun _ _ _ _ _ _ us hl => match us, hl with | [_], _ => rfl) (fun f cdv Ar outer s H Xs ρ E ng hr tk po =>
    (pssd_cons (psd_set 1 (pd_call (ok_l_of T) hr (by decide) (by rfl) tk (pad_cons (pd_var 0) (pad_cons (pd_fz (pd_lst (pad_cons pd_non (pad_cons pd_int (pad_cons pd_bl (pad_cons pd_str (pad_cons (pd_tup (pad_cons pd_int (pad_cons pd_str pad_nil))) (pad_cons (pd_fz (pd_lst (pad_cons pd_int pad_nil))) (pad_cons (pd_fz pd_d0) (pad_cons (pd_op (mi := .tr) f_pow (o_pow (by decide)) pd_int pd_int) (pad_cons (pd_tup pad_nil) (pad_cons (pd_neg pd_int) pad_nil)))))))))))) pad_nil))) sc_l_right.nd)
      (pssd_cons (psd_set 2 (pd_op (mi := .fz) f_cat (o_cat rfl (by decide)) (pd_op (mi := .fz) f_cat (o_cat rfl (by decide)) (pd_call (ok_l_values T) hr (by decide) (by rfl) tk (pad_cons (pd_var 1) pad_nil)) (pd_call (ok_l_indexes T) hr (by decide) (by rfl) tk (pad_cons (pd_var 1) pad_nil))) (pd_fz (pd_lst (pad_cons (pd_exv (rv_InvalidSetting T.toTxt) (ex_InvalidSetting T) hr (by decide) (by rfl) (pd_var 1)) (pad_cons (pd_exk (rv_InvalidRange T.toTxt) (ex_InvalidRange T) hr (by decide) (by rfl) (pd_var 1)) pad_nil))))) sc_l_right.nd)
      (pssd_cons (psd_parQ 3 4 rfl sc_l_right.nd rfl rfl (by decide) rfl rfl (pd_fz (pd_lst (pad_cons (pd_ex0 T.oz_NothingToUndo T.g_NothingToUndo (ex_NothingToUndo T) (by rfl)) (pad_cons (pd_ex0 T.oz_Busy T.g_Busy (ex_Busy T) (by rfl)) (pad_cons (pd_exv (rv_NoSuchRow T.toTxt) (ex_NoSuchRow T) hr (by decide) (by rfl) (pd_var 1)) pad_nil))))) (pd_fz (pd_lst (pad_cons (pd_exk (rv_TooLong T.toTxt) (ex_TooLong T) hr (by decide) (by rfl) (pd_var 1)) pad_nil))))
      (pssd_cons (psd_if (O := []) (O' := []) (pd_tnot (pd_tval (pd_wk (m := .fz) (pd_callG (ok_l_kept_right T) ng hr (by decide) (by rfl) tk (pad_cons (pd_var 1) pad_nil)))))
      (pssd_cons (psd_ret pd_bl)
      (pssd_nil (O := []) (O' := [])))
      (pssd_nil (O := []) (O' := [])))
      (pssd_cons (psd_if (O := []) (O' := []) (pd_tnot (pd_tval (pd_callB (mi := .tr) (f_all rfl) (c_all rfl (by decide)) (by rfl) T.b_all (by decide +kernel) (pad_cons (pd_wk (m := .nw) (pd_lc (own := [("_law_e", 6)]) (by rfl) sc_l_right.nd (pid_L rfl (pd_var 2)) (blkOk_by (own := [("_law_e", 6)]) (N := ["_law_pot_here", "_law_thing", "_law_some", "_law_moments", "_law_tops", "_law_limits", "_law_e"]) (sc := defScope s_l_right) (by decide +kernel)) (by decide) (fun _ _ _ _ _ _ => (pgc_name 6 sc_l_right.nd)) (fun _ _ _ _ _ _ => ptsd_nil) (fun _ _ _ _ _ _ => (pd_cmp (mi := .tr) (f_eqB hr.units) (o_eqB rfl (by decide)) (pd_wk (m := .fz) (pd_call (ok_l_kin T) hr (by decide) (by rfl) takes0 (pad_cons (pd_var 6) pad_nil))) (pd_wk (m := .nw) (pd_lst (pad_cons pd_bl (pad_cons pd_bl (pad_cons pd_bl (pad_cons pd_bl (pad_cons pd_bl (pad_cons pd_bl pad_nil)))))))) (nomark _))))) pad_nil))))
      (pssd_cons (psd_ret pd_bl)
      (pssd_nil (O := []) (O' := [])))
      (pssd_nil (O := []) (O' := [])))
      (pssd_cons (psd_if (O := []) (O' := []) (pd_tnot (pd_tval (pd_callB (mi := .tr) (f_all rfl) (c_all rfl (by decide)) (by rfl) T.b_all (by decide +kernel) (pad_cons (pd_wk (m := .nw) (pd_lc (own := [("_law_e", 6)]) (by rfl) sc_l_right.nd (pid_L rfl (pd_var 3)) (blkOk_by (own := [("_law_e", 6)]) (N := ["_law_pot_here", "_law_thing", "_law_some", "_law_moments", "_law_tops", "_law_limits", "_law_e"]) (sc := defScope s_l_right) (by decide +kernel)) (by decide) (fun _ _ _ _ _ _ => (pgc_name 6 sc_l_right.nd)) (fun _ _ _ _ _ _ => ptsd_nil) (fun _ _ _ _ _ _ => (pd_cmp (mi := .tr) (f_eqB hr.units) (o_eqB rfl (by decide)) (pd_wk (m := .fz) (pd_call (ok_l_kin T) hr (by decide) (by rfl) takes0 (pad_cons (pd_var 6) pad_nil))) (pd_wk (m := .nw) (pd_lst (pad_cons pd_bl (pad_cons pd_bl (pad_cons pd_bl (pad_cons pd_bl (pad_cons pd_bl (pad_cons pd_bl pad_nil)))))))) (nomark _))))) pad_nil))))
      (pssd_cons (psd_ret pd_bl)
      (pssd_nil (O := []) (O' := [])))
      (pssd_nil (O := []) (O' := [])))
      (pssd_cons (psd_if (O := []) (O' := []) (pd_tnot (pd_tval (pd_callB (mi := .tr) (f_all rfl) (c_all rfl (by decide)) (by rfl) T.b_all (by decide +kernel) (pad_cons (pd_wk (m := .nw) (pd_lc (own := [("_law_e", 6)]) (by rfl) sc_l_right.nd (pid_L rfl (pd_var 4)) (blkOk_by (own := [("_law_e", 6)]) (N := ["_law_pot_here", "_law_thing", "_law_some", "_law_moments", "_law_tops", "_law_limits", "_law_e"]) (sc := defScope s_l_right) (by decide +kernel)) (by decide) (fun _ _ _ _ _ _ => (pgc_name 6 sc_l_right.nd)) (fun _ _ _ _ _ _ => ptsd_nil) (fun _ _ _ _ _ _ => (pd_cmp (mi := .tr) (f_eqB hr.units) (o_eqB rfl (by decide)) (pd_wk (m := .fz) (pd_call (ok_l_kin T) hr (by decide) (by rfl) takes0 (pad_cons (pd_var 6) pad_nil))) (pd_wk (m := .nw) (pd_lst (pad_cons pd_bl (pad_cons pd_bl (pad_cons pd_bl (pad_cons pd_bl (pad_cons pd_bl (pad_cons pd_bl pad_nil)))))))) (nomark _))))) pad_nil))))
      (pssd_cons (psd_ret pd_bl)
      (pssd_nil (O := []) (O' := [])))
      (pssd_nil (O := []) (O' := [])))
      (pssd_cons (psd_set 5 (pd_fz (pd_lst (pad_cons (pd_g (d := (.int 8)) (by rfl) T.g_MOST_PARTS rfl) (pad_cons (pd_g (d := (.int 4)) (by rfl) T.g_MOST_FIELDS rfl) (pad_cons (pd_g (d := (.int 12)) (by rfl) T.g_MOST_WIDTH rfl) (pad_cons (pd_g (d := (.int 4)) (by rfl) T.g_MOST_GROUP rfl) (pad_cons (pd_g (d := (.int 1000000000000)) (by rfl) T.g_MOST_BOUND rfl) (pad_cons (pd_g (d := (.int 400)) (by rfl) T.g_MOST_LENGTH rfl) (pad_cons (pd_g (d := (.int 6)) (by rfl) T.g_MOST_KINDS rfl) pad_nil))))))))) sc_l_right.nd)
      (pssd_cons (psd_if (O := []) (O' := []) (pd_tcmp (f_neB hr.units) (o_eqB rfl (by decide)) (pd_varT 5) (pd_wk (m := .nw) (pd_lst (pad_cons pd_int (pad_cons pd_int (pad_cons pd_int (pad_cons pd_int (pad_cons (pd_op (mi := .tr) f_pow (o_pow (by decide)) pd_int pd_int) (pad_cons pd_int (pad_cons pd_int pad_nil))))))))) (nomark _))
      (pssd_cons (psd_ret pd_bl)
      (pssd_nil (O := []) (O' := [])))
      (pssd_nil (O := []) (O' := [])))
      (pssd_cons (psd_ret (pd_callB (mi := .tr) (f_all rfl) (c_all rfl (by decide)) (by rfl) T.b_all (by decide +kernel) (pad_cons (pd_wk (m := .nw) (pd_lc (own := [("_law_e", 6)]) (by rfl) sc_l_right.nd (pid_L rfl (pd_op (mi := .fz) f_cat (o_cat rfl (by decide)) (pd_op (mi := .fz) f_cat (o_cat rfl (by decide)) (pd_var 2) (pd_var 3)) (pd_var 4))) (blkOk_by (own := [("_law_e", 6)]) (N := ["_law_pot_here", "_law_thing", "_law_some", "_law_moments", "_law_tops", "_law_limits", "_law_e"]) (sc := defScope s_l_right) (by decide +kernel)) (by decide) (fun _ _ _ _ _ _ => (pgc_name 6 sc_l_right.nd)) (fun _ _ _ _ _ _ => ptsd_nil) (fun _ _ _ _ _ _ => (pd_cmp (mi := .tr) op_eq (o_eq (by decide)) (pd_wk (m := .fz) (pd_call (ok_l_classes T) hr (by decide) (by rfl) takes0 (pad_cons (pd_var 6) pad_nil))) pd_int (nomark _))))) pad_nil)))
      (pssd_nil (O := []) (O' := [])))))))))))))
end
end
section
open PySem PySem.Spec PyProof.Rows L2
local macro_rules | `(tactic| walk_at "wg") => `(tactic| repeat' first | with_reducible refine W.run ?_ | with_reducible refine W.runi ?_ | with_reducible refine W.seq ?_ | with_reducible refine W.set ?_ | with_reducible refine W.ret ?_ | with_reducible refine W.ifs ?_ | with_reducible refine W.disp1 ?_ | with_reducible refine W.ife ?_ | with_reducible refine W.skip ?_ | with_reducible refine W.rdd rfl ?_ | with_reducible refine W.lst ?_ | with_reducible refine W.tup ?_ | with_reducible refine W.asg ?_ | with_reducible refine W.fmt ?_ | with_reducible refine W.nkd ?_ | with_reducible refine W.ndd ?_ | with_reducible refine W.tv ?_ | with_reducible refine W.notm ?_ | with_reducible refine W.bin ?_ | with_reducible refine W.one ?_ | with_reducible refine W.callm ?_ | with_reducible refine W.call ?_ | with_reducible refine W.cons ?_ | with_reducible refine W.nil ?_ | with_reducible refine W.cst ?_ | with_reducible refine W.ixm rfl rfl ?_ | with_reducible refine W.gt ?_ | with_reducible refine W.add ?_ | with_reducible refine W.mul (cm_r (by decide) (by decide)) ?_ | with_reducible refine W.mod (by first | assumption | decide) ?_ | with_reducible refine W.fdiv (by first | assumption | exact cdv_r (by decide) (by decide)) ?_ | with_reducible refine W.intd ?_ | with_reducible refine W.eqI ?_ | with_reducible refine W.lenL ?_ | with_reducible refine W.tbd ?_ | with_reducible refine W.mput (k := 0) ?_ | with_reducible refine W.tgt2 ?_ | with_reducible refine W.tgn ?_ | with_reducible refine W.tgd rfl ?_ | with_reducible refine W.app rfl ?_ | with_reducible refine W.fld ?_ | with_reducible refine W.keys ?_ | refine And.intro rfl ?_ | refine And.intro (Nat.le_of_ble_eq_true rfl) ?_ | dsimp only)
local macro_rules | `(tactic| walk_at "wh") => `(tactic| repeat' first | with_reducible refine W.run ?_ | with_reducible refine W.runi ?_ | with_reducible refine W.seq ?_ | with_reducible refine W.set ?_ | with_reducible refine W.ret ?_ | with_reducible refine W.ifs ?_ | with_reducible refine W.disp1 ?_ | with_reducible refine W.skip ?_ | with_reducible refine W.rdd rfl ?_ | with_reducible refine W.lst ?_ | with_reducible refine W.tup ?_ | with_reducible refine W.asg ?_ | with_reducible refine W.fmt ?_ | with_reducible refine W.nkd ?_ | with_reducible refine W.ndd ?_ | with_reducible refine W.tv ?_ | with_reducible refine W.notm ?_ | with_reducible refine W.bin ?_ | with_reducible refine W.one ?_ | with_reducible refine W.callm ?_ | with_reducible refine W.call ?_ | with_reducible refine W.cons ?_ | with_reducible refine W.nil ?_ | with_reducible refine W.cst ?_ | with_reducible refine W.ixm rfl rfl ?_ | with_reducible refine W.gt ?_ | with_reducible refine W.add ?_ | with_reducible refine W.mul (cm_r (by decide) (by decide)) ?_ | with_reducible refine W.mod (by first | assumption | decide) ?_ | with_reducible refine W.fdiv (by first | assumption | exact cdv_r (by decide) (by decide)) ?_ | with_reducible refine W.intd ?_ | with_reducible refine W.eqI ?_ | with_reducible refine W.lenL ?_ | with_reducible refine W.tbd ?_ | with_reducible refine W.mput (k := 0) ?_ | with_reducible refine W.tgt2 ?_ | with_reducible refine W.tgn ?_ | with_reducible refine W.tgd rfl ?_ | with_reducible refine W.app rfl ?_ | with_reducible refine W.fld ?_ | with_reducible refine W.keys ?_ | refine And.intro rfl ?_ | refine And.intro (Nat.le_of_ble_eq_true rfl) ?_ | dsimp only)
local macro_rules | `(tactic| walk_at "wf") => `(tactic| repeat' first | with_reducible refine W.run ?_ | with_reducible refine W.runi ?_ | with_reducible refine W.seq ?_ | with_reducible refine W.set ?_ | with_reducible refine W.ret ?_ | with_reducible refine W.ifs ?_ | with_reducible refine W.disp1 ?_ | with_reducible refine W.fors ?_ | with_reducible refine W.forc ?_ | with_reducible refine W.forn ?_ | with_reducible refine W.zip ?_ | (with_reducible refine W.ife_f (by kernel_rfl) ?_) | (with_reducible refine W.ife_t (by kernel_rfl) ?_) | with_reducible refine W.skip ?_ | with_reducible refine W.rdd rfl ?_ | with_reducible refine W.lst ?_ | with_reducible refine W.tup ?_ | with_reducible refine W.asg ?_ | with_reducible refine W.fmt ?_ | with_reducible refine W.nkd ?_ | with_reducible refine W.ndd ?_ | with_reducible refine W.tv ?_ | with_reducible refine W.notm ?_ | with_reducible refine W.bin ?_ | with_reducible refine W.one ?_ | with_reducible refine W.callm ?_ | with_reducible refine W.call ?_ | with_reducible refine W.cons ?_ | with_reducible refine W.nil ?_ | with_reducible refine W.cst ?_ | with_reducible refine W.ixm rfl rfl ?_ | with_reducible refine W.gt ?_ | with_reducible refine W.add ?_ | with_reducible refine W.mul (cm_r (by decide) (by decide)) ?_ | with_reducible refine W.mod (by first | assumption | decide) ?_ | with_reducible refine W.fdiv (by first | assumption | exact cdv_r (by decide) (by decide)) ?_ | with_reducible refine W.intd ?_ | with_reducible refine W.eqI ?_ | with_reducible refine W.lenL ?_ | with_reducible refine W.tbd ?_ | with_reducible refine W.mput (k := 0) ?_ | with_reducible refine W.tgt2 ?_ | with_reducible refine W.tgn ?_ | with_reducible refine W.tgd rfl ?_ | with_reducible refine W.app rfl ?_ | with_reducible refine W.fld ?_ | with_reducible refine W.keys ?_ | refine And.intro rfl ?_ | refine And.intro (Nat.le_of_ble_eq_true rfl) ?_ | dsimp only)
theorem spoon_ok {S : Sto} {m : Int} (hm : 0 < m) (hs : m < 10 ^ 40) (h : PotS S) : W (f_l_spoon [.mt 0, .int m]) S fun d S' => ∃ r : Int, d = .int r ∧ 0 ≤ r ∧ r < m ∧ PotS S' := by
  obtain ⟨i, j, rfl⟩ := h
  have cd : CDv i m := ⟨hm, by omega⟩
  have fin : ∀ a b r : Int, 0 ≤ r → r < m → (∃ r' : Int, D.int r = .int r' ∧ 0 ≤ r' ∧ r' < m ∧ PotS [.lst [.int a, .int b]]) := fun a b r h1 h2 => ⟨r, rfl, h1, h2, a, b, rfl⟩
  unfold f_l_spoon b_l_spoon
  walk_at "wg"
  refine W.ifd (fun c => ?_) (fun c => ?_)
  · walk_at "wg"
    refine ⟨_, _, _, rfl, rfl, rfl, ?_⟩
    walk_at "wg"
    exact fin _ _ _ (Int.emod_nonneg _ (by omega)) (Int.emod_lt_of_pos _ hm)
  · walk_at "wg"
    refine ⟨_, _, _, rfl, rfl, rfl, ?_⟩
    walk_at "wg"
    exact fin _ _ _ (Int.emod_nonneg _ (by omega)) (Int.emod_lt_of_pos _ hm)
theorem of_ok {S : Sto} {ds : List D} (h0 : 0 < ds.length) (h1 : ds.length < 1000) (h : PotS S) : W (f_l_of [.mt 0, .lst ds]) S fun d S' => d ∈ ds ∧ PotS S' := by
  unfold f_l_of b_l_of
  walk_at "wg"
  refine (spoon_ok (by omega) (by omega) h).imp fun d S' ⟨r, ed, h2, h3, hp⟩ => ?_
  subst ed
  obtain ⟨n, rfl⟩ : ∃ n : Nat, r = n := ⟨r.toNat, by omega⟩
  have nl : n < ds.length := by omega
  exact W.opt (atI_nat (List.getElem?_eq_getElem nl)) ⟨List.getElem_mem nl, hp⟩
end
section
open PySem PySem.Spec PyProof.Rows L2
theorem repr_le {d : D} {p : PyData} (h1 : pyN 20 d = some p) (h2 : p.showable = true) (h3 : p.leavesShort 2000 = true) (h4 : p.bulk ≤ 2000) (h5 : p.depth ≤ 20) : ∃ z, ∀ S, reprD [d] S = some (.ok (.str z), S) := by
  have l := PyData.shown_le_bulk 2000 (by decide) p h3
  have ok : showOk p = true := by
    unfold showOk
    rw [Bool.and_eq_true, Bool.and_eq_true, decide_eq_true_eq, decide_eq_true_eq]
    exact ⟨⟨h2, sz_le (by omega)⟩, by omega⟩
  refine ⟨p.shown, fun S => ?_⟩
  unfold reprD
  simp only [h1, ok, if_true]
  rfl
def L12 (d : D) : D := .lst ([.lst (List.replicate 24 d), .lst (List.replicate 8 d)] ++ List.replicate 8 d)
def P12 (p : PyData) : PyData := .list ([.list (List.replicate 24 p), .list (List.replicate 8 p)] ++ List.replicate 8 p)
theorem py12 {d : D} {p : PyData} (h : ∀ n, pyN (n + 4) d = some p) : pyN 20 (L12 d) = some (P12 p) := by
  have a := h 14
  have b := h 15
  show Option.map PyData.list (pyL (pyN 19) _) = _
  simp only [L12, List.replicate, List.cons_append, List.nil_append, pyL, pyN, a, b, Option.map_some, Option.bind_some]
  rfl
theorem sh12 {p : PyData} (h : p.showable = true) : (P12 p).showable = true := by
  show (([PyData.list (List.replicate 24 p), .list (List.replicate 8 p)] ++ List.replicate 8 p) |> PyData.showableAll) = true
  simp only [List.replicate, List.cons_append, List.nil_append, PyData.showableAll, PyData.showable, h, Bool.and_true, Bool.and_self]
theorem lv12 {p : PyData} (h : p.leavesShort 2000 = true) : (P12 p).leavesShort 2000 = true := by
  show (([PyData.list (List.replicate 24 p), .list (List.replicate 8 p)] ++ List.replicate 8 p) |> PyData.leavesShortAll 2000) = true
  simp only [List.replicate, List.cons_append, List.nil_append, PyData.leavesShortAll, PyData.leavesShort, h, Bool.and_true, Bool.and_self]
theorem bk12 {p : PyData} (h : p.bulk ≤ 10) : (P12 p).bulk ≤ 2000 := by
  simp only [P12, List.replicate, List.cons_append, List.nil_append, PyData.bulk, PyData.bulkAll]
  omega
theorem dp12 {p : PyData} (h : p.depth ≤ 10) : (P12 p).depth ≤ 20 := by
  simp only [P12, List.replicate, List.cons_append, List.nil_append, PyData.depth, PyData.depthAll]
  omega
structure Th (d : D) : Prop where
  ex : ∃ p : PyData, (∀ n, pyN (n + 4) d = some p) ∧ p.showable = true ∧ p.leavesShort 2000 = true ∧ p.bulk ≤ 10 ∧ p.depth ≤ 10
theorem Th.repr {d : D} (h : Th d) : ∃ z, ∀ S, reprD [L12 d] S = some (.ok (.str z), S) := by
  obtain ⟨p, h1, h2, h3, h4, h5⟩ := h.ex
  exact repr_le (py12 h1) (sh12 h2) (lv12 h3) (bk12 h4) (dp12 h5)
def bK12 (reprD : List D → M D) : DEnv → M (DEnv × Fl) :=
  (seqS (parS 1 2 (callD 1 f_l_values (consM (rd 0) nilM)) (callD 1 f_l_indexes (consM (rd 0) nilM))) (seqS (setS 3 (lstM (consM (lcD [5] (oneM itL (rd 1)) (tgN 5) yesM (oneM (exfD CS_value "value") (rd 5))) (consM (lcD [5] (oneM itL (rd 2)) (tgN 5) yesM (oneM (exfD CS_index "index") (rd 5))) nilM)))) (seqS (setS 4 (lstM (consM (oneM (exfD CS_setting "setting") (excM "InvalidSetting" "setting" (rd 0))) (consM (oneM (exfD CS_setting "setting") (excM "InvalidSetting" "setting" (rd 0))) (consM (oneM (exfD CS_end "end") (excM "InvalidRange" "end" (rd 0))) nilM))))) (seqS (setS 4 (binM catD (rd 4) (lstM (consM (oneM (exfD CS_end "end") (excM "InvalidRange" "end" (rd 0))) (consM (oneM (exfD CS_place "place") (excM "NoSuchRow" "place" (rd 0))) (consM (oneM (exfD CS_place "place") (excM "NoSuchRow" "place" (rd 0))) nilM)))))) (seqS (setS 4 (binM catD (rd 4) (lstM (consM (oneM (exfD CS_limit "limit") (excM "TooLong" "limit" (rd 0))) (consM (oneM (exfD CS_limit "limit") (excM "TooLong" "limit" (rd 0))) nilM))))) (seqS (retS (binM eqD (callM reprD (consM (binM catD (rd 3) (rd 4)) nilM)) (callM reprD (consM (binM catD (lstM (consM (binM repD (lstM (consM (rd 0) nilM)) (cM (.int 24))) (consM (binM repD (lstM (consM (rd 0) nilM)) (cM (.int 8))) nilM))) (binM repD (lstM (consM (rd 0) nilM)) (cM (.int 8)))) nilM)))) skipS))))))
theorem bK12_eq : b_l_kept_right = bK12 reprD := rfl
theorem bK12_at (G : List D → M D) (d : D) (S : Sto) : runD 6 (bK12 G) [d] S = runD 6 (bK12 fun _ => G [L12 d]) [d] S := by kernel_rfl
theorem bK12_end (z : Str) (d : D) (S : Sto) : runD 6 (bK12 fun _ S => some (.ok (.str z), S)) [d] S = eqD (.str z) (.str z) S := by kernel_rfl
theorem kept_ok {d : D} (h : Th d) (S : Sto) : f_l_kept_right [d] S = some (.ok (.bl true), S) := by
  obtain ⟨z, hz⟩ := h.repr
  have e : reprD [L12 d] = fun S => some (.ok (.str z), S) := funext hz
  show runD 6 b_l_kept_right [d] S = _
  rw [bK12_eq, bK12_at, e, bK12_end]
  have eq : eqS (.str z) (.str z) = some true := by simp [eqS]
  show (D.bl <$> M.opt (eqS (D.str z) (D.str z))) S = _
  rw [eq]
  rfl
def things12 : List D := [.non, .int 0, .bl true, .str "a", .tup [.int 1, .str "b"], .lst [.int 2], .dct [], .int (10 ^ 40), .tup [], .int (-1)]
theorem th12 : ∀ d ∈ things12, Th d := by
  intro d hd
  simp only [things12, List.mem_cons, List.not_mem_nil, or_false] at hd
  rcases hd with rfl | rfl | rfl | rfl | rfl | rfl | rfl | rfl | rfl | rfl
  all_goals exact ⟨⟨_, fun n => rfl, by decide +kernel, by decide +kernel, by decide +kernel, by decide +kernel⟩⟩
def bR12 (f_l_of f_l_kept_right : List D → M D) : DEnv → M (DEnv × Fl) :=
  (seqS (setS 1 (callD 2 f_l_of (consM (rd 0) (consM (lstM (consM (cM .non) (consM (cM (.int 0)) (consM (cM (.bl true)) (consM (cM (.str "a")) (consM (tupM (consM (cM (.int 1)) (consM (cM (.str "b")) nilM))) (consM (lstM (consM (cM (.int 2)) nilM)) (consM (cM (.dct [])) (consM (binM powD (cM (.int 10)) (cM (.int 40))) (consM (tupM nilM) (consM (oneM negD (cM (.int 1))) nilM))))))))))) nilM)))) (seqS (setS 2 (binM catD (binM catD (callD 1 f_l_values (consM (rd 1) nilM)) (callD 1 f_l_indexes (consM (rd 1) nilM))) (lstM (consM (excM "InvalidSetting" "setting" (rd 1)) (consM (excM "InvalidRange" "end" (rd 1)) nilM))))) (seqS (parS 3 4 (lstM (consM (exc0M "NothingToUndo") (consM (exc0M "Busy") (consM (excM "NoSuchRow" "place" (rd 1)) nilM)))) (lstM (consM (excM "TooLong" "limit" (rd 1)) nilM))) (seqS (ifS (notM (tvM (callD 1 f_l_kept_right (consM (rd 1) nilM)))) (seqS (retS (cM (.bl false))) skipS) skipS) (seqS (ifS (notM (tvM (callM allD (consM (lcD [6] (oneM itL (rd 2)) (tgN 6) yesM (binM (eqBD false) (callD 1 f_l_kin (consM (rd 6) nilM)) (lstM (consM (cM (.bl true)) (consM (cM (.bl false)) (consM (cM (.bl false)) (consM (cM (.bl true)) (consM (cM (.bl false)) (consM (cM (.bl false)) nilM))))))))) nilM)))) (seqS (retS (cM (.bl false))) skipS) skipS) (seqS (ifS (notM (tvM (callM allD (consM (lcD [6] (oneM itL (rd 3)) (tgN 6) yesM (binM (eqBD false) (callD 1 f_l_kin (consM (rd 6) nilM)) (lstM (consM (cM (.bl false)) (consM (cM (.bl true)) (consM (cM (.bl false)) (consM (cM (.bl false)) (consM (cM (.bl true)) (consM (cM (.bl false)) nilM))))))))) nilM)))) (seqS (retS (cM (.bl false))) skipS) skipS) (seqS (ifS (notM (tvM (callM allD (consM (lcD [6] (oneM itL (rd 4)) (tgN 6) yesM (binM (eqBD false) (callD 1 f_l_kin (consM (rd 6) nilM)) (lstM (consM (cM (.bl false)) (consM (cM (.bl false)) (consM (cM (.bl true)) (consM (cM (.bl false)) (consM (cM (.bl false)) (consM (cM (.bl true)) nilM))))))))) nilM)))) (seqS (retS (cM (.bl false))) skipS) skipS) (seqS (setS 5 (lstM (consM (cM (.int 8)) (consM (cM (.int 4)) (consM (cM (.int 12)) (consM (cM (.int 4)) (consM (cM (.int 1000000000000)) (consM (cM (.int 400)) (consM (cM (.int 6)) nilM))))))))) (seqS (ifS (tvM (binM (eqBD true) (rd 5) (lstM (consM (cM (.int 8)) (consM (cM (.int 4)) (consM (cM (.int 12)) (consM (cM (.int 4)) (consM (binM powD (cM (.int 10)) (cM (.int 12))) (consM (cM (.int 400)) (consM (cM (.int 6)) nilM)))))))))) (seqS (retS (cM (.bl false))) skipS) skipS) (seqS (retS (callM allD (consM (lcD [6] (oneM itL (binM catD (binM catD (rd 2) (rd 3)) (rd 4))) (tgN 6) yesM (binM eqD (callD 1 f_l_classes (consM (rd 6) nilM)) (cM (.int 1)))) nilM))) skipS))))))))))
theorem bR12_eq : b_l_right = bR12 f_l_of f_l_kept_right := rfl
theorem bR12_at (G H : List D → M D) (S : Sto) : runD 7 (bR12 G H) [.mt 0] S = runD 7 (bR12 (fun _ _ => G [.mt 0, .lst things12] S) H) [.mt 0] S := by kernel_rfl
theorem bR12_at2 (H : List D → M D) (d : D) (S S1 : Sto) : runD 7 (bR12 (fun _ _ => some (.ok d, S1)) H) [.mt 0] S = runD 7 (bR12 (fun _ _ => some (.ok d, S1)) fun _ _ => H [d] S1) [.mt 0] S := by kernel_rfl
theorem bR12_end (d : D) (S S1 : Sto) : runD 7 (bR12 (fun _ _ => some (.ok d, S1)) fun _ _ => some (.ok (.bl true), S1)) [.mt 0] S = some (.ok (.bl true), S1) := by kernel_rfl
theorem right_ok {S : Sto} (h : PotS S) : ∃ S', f_l_right [.mt 0] S = some (.ok (.bl true), S') := by
  obtain ⟨d, S1, e1, hd, _⟩ := of_ok (ds := things12) (by decide) (by decide) h
  refine ⟨S1, ?_⟩
  show runD 7 b_l_right [.mt 0] S = _
  rw [bR12_eq, bR12_at, e1, bR12_at2, kept_ok (th12 d hd), bR12_end]
end
section
open PySem PySem.Spec PyProof.Rows L2
namespace LawD
section
variable {P : Program} {w : World} {K : PySem.W.Frag} {mg : Str → Option Value} {base : Heap} {A : Ad}
/-- the pot: two integers -/
def Pot (p : Addr) (H : Hp) : Prop := ∃ i j, H p = some (.lst [.int i, .int j])
theorem Pot.same {p : Addr} {H H' : Hp} (s : Same H H') (h : Pot p H) : Pot p H' := h.elim fun i ⟨j, e⟩ => ⟨i, j, s _ _ e⟩
def sp_l_pot (K : PySem.W.Frag) : Sp := s2 fun a b H Q _ => ∃ (s : Addr) (ns : List Int) (k : Nat), a = .ref s ∧ SqL K H s (ns.map V.int) ∧ b = .int (k : Nat) ∧ k ≤ 5 ∧ ∀ p H', H p = none → Same H H' → Pot p H' → Q (.ref p) H'
theorem ok_l_pot (T : Txt w K mg A) : Callee P w K mg base 1 "_law_pot" ["_law_script", "_law_k"] (sp_l_pot K) := by
  refine callee_of T.F_l_pot sc_l_pot (fun _ _ _ _ _ _ us hl => match us, hl with | [_, _], _ => rfl) (fun vs H Q E h => ?_) (fun f cdv Ar outer s H vs Q E hr tk po h => ?_)
  · obtain ⟨_, _, rfl, _⟩ := s2_len h
    rfl
  · obtain ⟨a, b, rfl, s, ns, k, rfl, hs, rfl, hk, q⟩ := s2_len h
    refine ⟨_, (pss_cons (ps_set (i := 2) sc_l_pot.nd rfl (Or.inl rfl) (pe_op f_add pe_int (pe_op f_mul pe_int (fv 1))))
      (pss_cons (fs_for po rfl (fi_L (pe_slice f_slL (fv 0) po_none (po_some pe_int))) (pg_name (i := 3) sc_l_pot.nd rfl (Or.inl rfl)) (pss_one (ps_set (i := 2) sc_l_pot.nd rfl (Or.inl rfl) (pe_op f_mod (pe_callTy f_int (by rfl) T.b_int (by decide +kernel) (pa_cons (pe_op f_add (pe_op f_add (pe_op f_mul (fv 2) pe_int) (pe_op f_mod (pe_callTy f_int (by rfl) T.b_int (by decide +kernel) (pa_cons (fv 3) pa_nil)) pe_int)) pe_int) pa_nil)) pe_int))))
      (pss_cons (ps_set (i := 4) sc_l_pot.nd rfl (Or.inl rfl) (pe_ifExp (ft_cmp f_lt (fv 1) (pe_callB f_len (by rfl) T.b_len (by decide +kernel) (pa_cons (fv 0) pa_nil)) (nomark _)) (pe_callTy f_int (by rfl) T.b_int (by decide +kernel) (pa_cons (pe_ix f_ix (fv 0) (fv 1) (fun _ _ => rfl)) pa_nil)) (pe_op f_mul pe_int (fv 1))))
      (pss_one (ps_ret (fe_lst (pa_cons (pe_ifExp (ft_cmp f_ge (pe_callB f_abs (by rfl) T.b_abs (by decide +kernel) (pa_cons (fv 4) pa_nil)) (pe_op f_pow pe_int pe_int) (nomark _)) (pe_callB f_abs (by rfl) T.b_abs (by decide +kernel) (pa_cons (fv 4) pa_nil)) pe_int) (pa_cons (pe_op f_mod (pe_callTy f_int (by rfl) T.b_int (by decide +kernel) (pa_cons (pe_op f_add (fv 2) (pe_op f_mod (fv 4) pe_int)) pa_nil)) pe_int) pa_nil)))))))), ?_⟩
    walk_at "sx"
    intro a1 H1 n1 s1 h1
    have hs1 : SqL K H1 s (ns.map V.int) := s1.seq hs
    have intsOk : ∀ x ∈ cutV (ns.map V.int) none (some 11), ∃ i, x = V.int i := fun x hx => by
      have z := List.mem_of_mem_drop (List.mem_of_mem_take hx)
      obtain ⟨i, _, e⟩ := List.mem_map.mp z
      exact ⟨i, e.symm⟩
    walk_at "sx"
    refine Loop.by (fun rest σ Hc => ∃ z, ∃ a3, σ = [some (.ref s), some (.int (k : Nat)), some (.int z), a3, none] ∧ Same H1 Hc ∧ ∀ x ∈ rest, ∃ i, x = V.int i) ?_ ?_ _ _ _ ?_
    · rintro x r σ Hc ⟨z, a3, rfl, sc, hr⟩ N hN
      obtain ⟨i, rfl⟩ := hr _ (List.mem_cons_self ..)
      walk_at "sx"
      exact hN _ _ (SqL.of (sc _ _ h1)) ⟨_, _, rfl, sc, fun x hx => hr x (List.mem_cons_of_mem _ hx)⟩
    · rintro σ Hc ⟨z, a3, rfl, sc, _⟩
      have hsc : SqL K Hc s (ns.map V.int) := sc.seq hs1
      have fin : ∀ (e : Int) p H', Hc p = none → Same Hc H' → H' p = some (.lst [.int e, .int z]) → True := fun _ _ _ _ _ _ => trivial
      walk_at "sx"
      refine iteD (fun c => ?_) (fun c => ?_)
      · have kl : k < ns.length := by
          have : ((k : Nat) : Int) < ((ns.map V.int).length : Nat) := c
          rw [List.length_map] at this
          omega
        have at1 : atI (ns.map V.int) ((k : Nat) : Int) = some (V.int ns[k]) := atI_nat (by rw [List.getElem?_map, List.getElem?_eq_getElem kl]; rfl)
        walk_at "sx"
        refine iteD (fun d => ?_) (fun d => ?_)
        · walk_at "sx"
          intro p H2 n2 s2 h2
          exact q p H2 (Same.no (s1.trans sc) n2) ((s1.trans sc).trans s2) ⟨_, _, h2⟩
        · walk_at "sx"
          intro p H2 n2 s2 h2
          exact q p H2 (Same.no (s1.trans sc) n2) ((s1.trans sc).trans s2) ⟨_, _, h2⟩
      · walk_at "sx"
        refine iteD (fun d => ?_) (fun d => ?_)
        · walk_at "sx"
          intro p H2 n2 s2 h2
          exact q p H2 (Same.no (s1.trans sc) n2) ((s1.trans sc).trans s2) ⟨_, _, h2⟩
        · walk_at "sx"
          intro p H2 n2 s2 h2
          exact q p H2 (Same.no (s1.trans sc) n2) ((s1.trans sc).trans s2) ⟨_, _, h2⟩
    · exact ⟨_, none, rfl, Same.refl _, intsOk⟩
end
/-- all but the pot at p and the tables stays -/
def ButN (p : Addr) (H H' : Hp) : Prop := ∀ b o, b ≠ p → H b = some o → (∀ ps, o ≠ .tbl ps) → H' b = some o
theorem ButN.refl (p : Addr) (H : Hp) : ButN p H H := fun _ _ _ e _ => e
theorem ButN.trans {p : Addr} {H H1 H2 : Hp} (x : ButN p H H1) (y : ButN p H1 H2) : ButN p H H2 := fun b o n e t => y b o n (x b o n e t) t
theorem ButN.of {p : Addr} {H H' : Hp} (h : But p H H') : ButN p H H' := fun b o n e _ => h b o n e
theorem ButN.ext {p : Addr} {H H' : Hp} (h : LamX.ExtN H H') : ButN p H H' := fun b o _ e t => h b o e t
theorem ButN.same {p : Addr} {H H' : Hp} (h : Same H H') : ButN p H H' := fun b o _ e _ => h b o e
section
variable {P : Program} {w : World} {K : PySem.W.Frag} {mg : Str → Option Value} {base : Heap} {A : Ad}
def sp_l_right : Sp := s1 fun a H Q _ => ∃ p, a = .ref p ∧ Pot p H ∧ ∀ H', ButN p H H' → Q (.bl true) H'
theorem ok_l_right (T : Txt w K mg A) : CalleeG P w K mg base 5 "_law_right" ["_law_pot_here"] sp_l_right := by
  letI : TQ := { q := fun _ _ => False, w := w, ex := exOf A, exI := exOf_inj T }
  refine calleeG_imp (Fg.ok_l_right ⟨T, rfl⟩).g fun vs H Q E h => ?_
  obtain ⟨a, rfl, p, rfl, ⟨i, j, hp⟩, q⟩ := s1_len h
  refine ⟨fun _ => False, [p], [.mt 0], [.lst [.int i, .int j]], rfl, ⟨fun b hb => ?_, by simp, fun _ _ z => z, ⟨⟨[.int i, .int j], hp, .cons .int (.cons .int .nil)⟩, trivial⟩⟩, .cons (.mt rfl) .nil, ?_⟩
  · rcases hb with hb | hb
    · exact hb.elim
    · rw [List.mem_singleton.mp hb]
      exact Nw.live hp fun _ z => by cases z
  · obtain ⟨S', e⟩ := right_ok (S := [.lst [.int i, .int j]]) ⟨i, j, rfl⟩
    rw [e]
    intro v H' ρ' en hr
    cases hr
    exact q H' fun b o n eb nt => en.gr.keep b o (fun z => n (List.mem_singleton.mp z)) (fun z => z) nt eb
end
/-- each item gives y; an invariant beside -/
theorem Comp.inv {st : Hp → Prop} {g : TG} {te : TE} {vs : List Nat} {σ : L2.St} {D : Addr} {Q : Hp → Prop} (Iv : Hp → Prop) (Px : V → Prop) (y : V) (hst : ∀ H, Iv H → st H) (hI : ∀ H acc, Iv H → H D = some (.lst acc) → ∀ acc', Iv (upd H D (.lst acc')))
    (hx : ∀ (x : V) (H : Hp) (acc : List V) (R : VK), Px x → Iv H → H D = some (.lst acc) → (∀ H', Iv H' → H' D = some (.lst acc) → R y H') → g x (wipe σ vs) H fun σ2 H2 => wipe σ2 vs = wipe σ vs ∧ te σ2 H2 R) :
    ∀ (xs : List V) (acc : List V) (H : Hp), (∀ x ∈ xs, Px x) → acc.length + xs.length ≤ sizeLine → Iv H → H D = some (.lst acc) → (∀ H', Iv H' → H' D = some (.lst (acc ++ xs.map fun _ => y)) → Q H') → Comp st g tYes te vs σ D Q xs H
  | [], acc, H, _, _, s, hD, q => q H s (by rw [List.map_nil, List.append_nil]; exact hD)
  | x :: r, acc, H, hp, hl, s, hD, q => by
    rw [List.length_cons] at hl
    have k := hx x H acc (fun y H4 => ∃ acc, H4 D = some (.lst acc) ∧ acc.length < sizeLine ∧ st (upd H4 D (.lst (acc ++ [y]))) ∧ Comp st g tYes te vs σ D Q r (upd H4 D (.lst (acc ++ [y])))) (hp x (List.mem_cons_self ..)) s hD fun H' s' hD' => by
      have s2 := hI H' acc s' hD' (acc ++ [y])
      refine ⟨acc, hD', by omega, hst _ s2, ?_⟩
      refine Comp.inv Iv Px y hst hI hx r (acc ++ [y]) _ (fun z hz => hp z (List.mem_cons_of_mem _ hz)) (by rw [List.length_append, List.length_singleton]; omega) s2 upd_same fun H2 s3 e => q H2 s3 ?_
      rw [e, List.append_assoc]
      rfl
    exact k
theorem sqL_upd {K : PySem.W.Frag} {H Hc : Hp} {a D : Addr} {xs : List V} {o : HO} (h0 : SqL K H a xs) (n : H D = none) (h1 : SqL K Hc a xs) : SqL K (upd Hc D o) a xs := by
  rcases h0 with (h0 | ⟨u, h0⟩) | hk
  · have ne := ne_of_none h0 n
    rcases h1 with (h1 | ⟨u, h1⟩) | hk
    · exact .inl (.inl (by rw [upd_ne ne]; exact h1))
    · exact .inl (.inr ⟨u, by rw [upd_ne ne]; exact h1⟩)
    · exact .inr hk
  · have ne := ne_of_none h0 n
    rcases h1 with (h1 | ⟨u, h1⟩) | hk
    · exact .inl (.inl (by rw [upd_ne ne]; exact h1))
    · exact .inl (.inr ⟨u, by rw [upd_ne ne]; exact h1⟩)
    · exact .inr hk
  · exact .inr hk
theorem sqL_butN {K : PySem.W.Frag} {H0 H H' : Hp} {a p : Addr} {xs : List V} (h1 : SqL K H a xs) (h0 : SqL K H0 a xs) (s : Same H0 H) (n : H0 p = none) (b : ButN p H H') : SqL K H' a xs := by
  rcases h0 with (h0 | ⟨u, h0⟩) | hk
  · exact .inl (.inl (b _ _ (ne_of_none h0 n) (s _ _ h0) fun _ z => by cases z))
  · exact .inl (.inr ⟨u, b _ _ (ne_of_none h0 n) (s _ _ h0) fun _ z => by cases z⟩)
  · exact .inr hk
section
variable {P : Program} {w : World} {K : PySem.W.Frag} {mg : Str → Option Value} {base : Heap} {A : Ad}
def sp_law (K : PySem.W.Frag) : Sp := s1 fun a H Q _ => ∃ (s : Addr) (ns : List Int), a = .ref s ∧ SqL K H s (ns.map V.int) ∧ ns.length ≤ 63 ∧ ∀ H', Q (.bl true) H'
theorem law_fun (T : Txt w K mg A) : FunAt K mg "law" s_law := T.F_law
theorem ok_law {f : Addr} {fd : FuncData} (F : Fun K "law" "law" s_law f fd) (T : Txt w K mg A) : FnG P w K mg base 6 f fd ["_law_script"] (sp_law K) := by
  refine fnG_known F sc_law (fun vs H Q E h => ?_) (fun f cdv Ar outer s H vs Q E ng hr tk po h => ?_)
  · obtain ⟨_, rfl, _⟩ := s1_len h
    rfl
  · obtain ⟨a, rfl, s0, ns, rfl, h0, hl, q⟩ := s1_len h
    refine ⟨_, (pss_one (ps_ret (pe_callB (f_all rfl) (by rfl) T.b_all (by decide +kernel) (pa_cons (fe_lc (own := [("_law_k", 1)]) (tt := tYes) (by rfl) sc_law.nd (fi_R1 (by rfl) T.b_range (pa_cons (pe_callB (f_max rfl) (by rfl) T.b_max (by decide +kernel) (pa_cons pe_int (pa_cons (pe_callB (f_min rfl) (by rfl) T.b_min (by decide +kernel) (pa_cons (pe_callB f_len (by rfl) T.b_len (by decide +kernel) (pa_cons (fv 0) pa_nil)) (pa_cons pe_int pa_nil))) pa_nil))) pa_nil)) (blkOk_by (own := [("_law_k", 1)]) (N := ["_law_script", "_law_k"]) (sc := defScope s_law) (by decide +kernel)) (fun _ _ _ _ _ => pg_name (i := 1) sc_law.nd rfl (Or.inl rfl)) (fun _ _ _ _ _ => pts_nil) (fun _ _ _ _ _ => (fc_callG (ok_l_right T) ng hr (by decide) (by rfl) takes0 (pa_cons (fc_call (ok_l_pot T) hr (by decide) (by rfl) takes0 (pa_cons (fv 0) (pa_cons (fv 1) pa_nil))) pa_nil)))) pa_nil)))), ?_⟩
    walk_at "sx"
    refine And.intro trivial ?_
    intro D H2 n2 s2 h2
    refine And.intro trivial ?_
    refine Comp.inv (fun Hc => SqL K Hc s0 (ns.map V.int)) (fun x => ∃ k : Nat, x = .int (k : Nat) ∧ k ≤ 5) (.bl true) (fun _ _ => trivial) ?_ ?_ _ [] _ ?_ ?_ ?_ h2 ?_
    · intro Hc acc h1 hD acc'
      exact sqL_upd h0 n2 h1
    · rintro x Hc acc R ⟨k, rfl, hk⟩ h1 hD kk
      walk_at "sx"
      intro p H3 np s3 p3
      walk_at "sx"
      intro H4 b4
      exact kk H4 (sqL_butN (s3.seq h1) h1 s3 np b4) (b4 _ _ (ne_of_none hD np) (s3 _ _ hD) fun _ z => by cases z)
    · intro x hx
      obtain ⟨i, hi, rfl⟩ := List.mem_map.mp hx
      have := List.mem_range.mp hi
      exact ⟨i, by rw [Int.zero_add], by omega⟩
    · rw [rgI_len]
      refine sz_le ?_
      simp only [List.length_nil]
      omega
    · exact s2.seq h0
    · intro Hc h1 hD
      have hD2 : ∀ n : Nat, ([] ++ List.map (fun _ => V.bl true) (rgI 0 n)) = (List.replicate n true).map V.bl := fun n => by
        rw [List.nil_append, List.map_replicate, List.map_const', rgI_len]
      rw [hD2] at hD
      have al : ∀ n : Nat, ((List.replicate n true).all id) = true := fun n => by
        induction n with
        | zero => rfl
        | succ n ih => rw [List.replicate_succ, List.all_cons, ih]; rfl
      have qq := q Hc
      rw [← al (max 2 (min (((List.map V.int ns).length : Nat) : Int) 5)).toNat] at qq
      refine ⟨_, _, SqL.of hD, rfl, qq⟩
end
end LawD
abbrev sp_law := LawD.sp_law
abbrev law_fun := @LawD.law_fun
abbrev ok_law := @LawD.ok_law
end
section
open PySem PySem.Spec PyProof.Rows L2
theorem law_facts {w : World} {mg : Str → Option Value} {fa : Addr} {h : Heap} (Y : headHk.says w h) (G : h.Ns mainGlobals mg) (hmg : mg "law" = some (.ref fa)) :
    ∃ K : PySem.W.Frag, K.In h ∧ LawAtG PySem.Challenge.rw_figurelines_k12_errors_and_limits w K 6 63 "_law_script" mg fa h := by
  obtain ⟨K, X, c⟩ := Y
  have T := txt_of X G c
  obtain ⟨f, fd, F, g⟩ := (law_fun T).ex
  have ef := hmg.symm.trans g
  cases ef
  have F0 := F
  obtain ⟨oc, od, kV, doc, pm, an, cdv, ct, osl, rfl, lk, hcd⟩ := F.ex
  refine ⟨K, X, PySem.W.fnOf "law" "law" (defArgs s_law) (defBody s_law) (defScope s_law) .none kV doc pm an cdv ct, [], sp_law K, fun p hp => (nomatch hp), fun p hp => (nomatch hp), fun p hp => (nomatch hp), fun s u => .of_eq rfl, fun H a ns hl _ _ hS => ?_, fun base KB GB TB => ?_⟩
  · exact ⟨a, ns, rfl, hS, hl, fun _ => rfl⟩
  · exact ok_law F0 T
end
end Fg
open PySem PySem.W PySem.Calls PyProof.Rows
set_option maxRecDepth 100000 in
set_option maxHeartbeats 0 in
theorem PySem.Challenge.cw_figurelines_k12_errors_and_limits_holds : PySem.Challenge.rw_figurelines_k12_errors_and_limits.Holds := by
  w_on; o_law
  refine HandSHeadRun.head_any (r := OpenLaw.row PySem.Challenge.rw_figurelines_k12_errors_and_limits) (q := view (OpenLaw.row PySem.Challenge.rw_figurelines_k12_errors_and_limits).prog [43]) (H := Fg.headHk) (ob := Fg.headOb) (M := 12000) (loose := Fg.headNames) (d := HandSHeadRun.topDef (OpenLaw.row PySem.Challenge.rw_figurelines_k12_errors_and_limits).prog 43) (kwd := []) Fg.headOb_eq
    (by kernel_rfl) (fun s => by kernel_rfl) Fg.headRun (by kernel_rfl) (by kernel_rfl) (by kernel_rfl) (by rfl) (by first | assumption | decide +kernel) (by decide +kernel) ⟨rfl, rfl, rfl, rfl, rfl, by decide +kernel⟩ ?hw ?hc
  case hw => w_witness2
  case hc =>
    refine Fg.walk_ofG (l := PySem.Challenge.rw_figurelines_k12_errors_and_limits) (n := 63) (k := 6) (x := "_law_script") rfl (by decide) (by kernel_rfl) ⟨rfl, by decide, by decide⟩ ?F ?X
    case F =>
      intro w mg fa h Y G hmg0
      have hmg : mg ("law" : PySem.Str) = some (.ref fa) := by
        have e : (HandSHeadRun.topDef (OpenLaw.row PySem.Challenge.rw_figurelines_k12_errors_and_limits).prog 43).name = ("law" : PySem.Str) := by kernel_rfl
        rw [← e]
        exact hmg0
      exact Fg.law_facts Y G hmg
    case X =>
      intro w H s e s' z
      obtain ⟨_, _, _, _, _, _, _, _, _, _, _, _, z⟩ := z
      exact z
#print axioms PySem.Challenge.cw_figurelines_k12_errors_and_limits_holds
