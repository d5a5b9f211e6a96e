import PyProof.Rows.All
import HandS.Head0
import HandS.Head1
import HandS.Head2
import HandS.HeadEnd
import HandS.HeadHook1
import HandS.HeadHook2
import HandS.HeadHook3
import HandS.HeadHook4
import HandS.HeadWalk
import HandS.HeadNt
import Wide.All
import OpenK.AllK
import Wide.FinOn
import HandS.ForMost
import HandS.ForExc
import HandS.IsInst
import HandS.FStr
import HandS.TupAny
import HandS.Star
import HandS.Lambda
import HandS.EndTab
import HandS.StrMore
import HandS.Style
import HandS.Zip
import HandS.Small
import HandS.ExcInit
import HandS.ExcIs
import HandS.ExcField
import HandS.TryMany
import HandS.Defaults
import HandS.MakeKwOnly
import HandS.Wide
import PyProof.ListStr
import KE.GoesOver
import KE.GoesMore
import KE.GoesEnum
import KE.GoesNew
import HandS.SortInts
import HandS.SetFor
import HandS.Strs
import PyProof.NeKinds
import HandS.ClsMeth
import HandS.New0
import KE.KCallOwn
import KE.KFmtOwn
import KE.KDictList
import HandS.OwnEq
import HandS.Deep
import HandS.DictComp
import HandS.ListItems
import HandS.StrSplit
import KE.KOpsOwn
import PySem.Challenge.RW_figurelines_k08_lines_refused
set_option Elab.async false
set_option linter.all false
set_option maxRecDepth 100000
set_option maxHeartbeats 4000000
namespace Fg
open PySem PySem.Spec PyProof.Rows L2
def hdG (x : Str) (st : Stmt) : He.DefD := ⟨(x, none), x, x, defArgs st, defBody st, defScope st, [], []⟩
def dM (C m q : Str) (st : Stmt) : He.DefD := ⟨(C, some m), m, q, defArgs st, defBody st, defScope st, [], []⟩
def dMK (C m q : Str) (st : Stmt) (kws : List (Str × He.Dv)) : He.DefD := ⟨(C, some m), m, q, defArgs st, defBody st, defScope st, [], kws⟩
/-- an own error class -/
def oeB (K : PySem.W.Frag) (C : Addr) : Bool := (match K.lookup C with
  | some ⟨.type t, _, .cls cd, sl⟩ => decide (t = "type") && ((match cd.mro with
    | .ref c :: bm => decide (c = C) && PySem.HandSPX.refsVE bm
    | _ => false) && ((cd.hasDict && !cd.hasDel) && (match sl.toList with
    | [_, _, _, _, some (.builtin n), _] => decide (n = "ValueError.__new__")
    | _ => false)))
  | _ => false) && (decide (PySem.W.findIn K (.ref C) "__setattr__" = some (some (.builtin "object.__setattr__"))) && (decide (PySem.W.subIn K (.ref C) (.type "BaseException") = some true) && (decide (PySem.W.typeIn K (.ref C) = some (.type "type")) && PySem.W.keepIn K (.ref C))))
def xcB (K : PySem.W.Frag) (D : Addr) : Bool := decide (PySem.W.findIn K (.ref D) "__getattribute__" = some (some (.builtin "BaseException.__getattribute__"))) && (decide (PySem.W.findIn K (.ref D) "__getattr__" = some none) && (decide (PySem.W.subIn K (.ref D) (.type "BaseException") = some true) &&
  (PySem.W.hasDictIn K D && (decide (PySem.W.findIn K (.ref D) "__class__" = some (some (.builtin "object.__class__"))) && (decide (PySem.W.specialIn K (.builtin "object.__class__") "__get__" = some (some (.builtin "getset_descriptor.__get__"))) &&
  (decide (PySem.W.takesIn K (.builtin "object.__class__") = some true) && decide (PySem.W.mroIn K D (.type "object") = some true)))))))
/-- what isinstance asks of the instances' class -/
def inB (K : PySem.W.Frag) (C : Addr) : Bool := decide (PySem.W.findIn K (.ref C) "__class__" = some (some (.builtin "object.__class__"))) && (decide (PySem.W.specialIn K (.builtin "object.__class__") "__get__" = some (some (.builtin "getset_descriptor.__get__"))) &&
  (decide (PySem.W.takesIn K (.builtin "object.__class__") = some true) && decide (PySem.W.mroIn K C (.type "object") = some true)))
def entB (K : PySem.W.Frag) : List DictEntry → List (Str × He.Dv) → Bool
  | [], [] => true
  | e :: r, q :: qs => (match e.key with
    | .str x _ => decide (x = q.1)
    | _ => false) && (He.relB (q.2.v K) e.val && entB K r qs)
  | _, _ => false
def tabB (K : PySem.W.Frag) (d : Addr) (kvs : List (Str × He.Dv)) : Bool := match K.lookup d with
  | some ⟨_, _, .dict es _, _⟩ => entB K es.toList kvs
  | _ => false
def dD (C q : Str) (st : Stmt) (dfl : List He.Dv) : He.DefD := ⟨(C, some "__init__"), "__init__", q, defArgs st, defBody st, defScope st, dfl, []⟩
def smAt (C m : Str) : PySem.W.Frag → Addr := fun K => He5.wf K (He.ga K C) "staticmethod" m
def hdS (C m q : Str) (st : Stmt) : He5.DefA := ⟨smAt C m, m, q, defArgs st, defBody st, defScope st, [], []⟩
def insB (K : PySem.W.Frag) (C : Addr) : Bool := ["NoneType", "bool", "int", "str", "list", "tuple", "dict"].all fun n => decide (PySem.W.kitOne K (.type n) (.ref C) = some false)
def neB (K : PySem.W.Frag) (C : Addr) : Bool := decide (PySem.W.findIn K (.ref C) "__ne__" = some (some (.builtin "object.__ne__"))) && decide (PySem.W.mroIn K C (.type "object") = some true)
def fmB (K : PySem.W.Frag) (C : Addr) : Bool := decide (PySem.W.findIn K (.ref C) "__format__" = some (some (.builtin "object.__format__"))) && decide (PySem.W.mroIn K C (.type "object") = some true)
def stB (K : PySem.W.Frag) (C m : Str) : Bool := He5.wrapB K (He.ga K C) "staticmethod" "staticmethod.__get__" m && PySem.W.readsIn K (He.ga K C) (.type "type")
abbrev AlY : Type := He.AlT × (Bool × List He5.FnW)
structure SaysY (fa : List He.Fa) (fn : List He.DefD) (ts : List He.Tab) (tf : List He.Defn) (ex : PySem.W.Frag → Bool) (sm : List He5.DefA) (w : World) (h : Heap) (K : PySem.W.Frag) : Prop where
  x : He.SaysX fa fn ts tf ex w h K
  smo : (sm.all fun d => d.ok K) = true
  sme : (sm.map fun d => He5.fnA K (d.at_ K)) = sm.map He5.DefA.val
def obsYK (fa : List He.Fa) (fn : List He.DefD) (ts : List He.Tab) (tf : List He.Defn) (ex : PySem.W.Frag → Bool) (sm : List He5.DefA) (g : Addr → Option Obj) (K : PySem.W.Frag) : AlY :=
  (He.obsT fa fn ts K, (ex K && (He.tabsB g tf K && sm.all fun d => d.ok K), sm.map fun d => He5.fnA K (d.at_ K)))
def obsY (n : Nat) (fa : List He.Fa) (fn : List He.DefD) (ts : List He.Tab) (tf : List He.Defn) (ex : PySem.W.Frag → Bool) (sm : List He5.DefA) (g : Addr → Option Obj) : AlY :=
  obsYK fa fn ts tf ex sm g (He.frT g (He5.asA g n))
def valY (fn : List He.DefD) (ts : List He.Tab) (sm : List He5.DefA) (w : World) : AlY := (He.valT fn ts w, (true, sm.map He5.DefA.val))
theorem saysY_at {fa : List He.Fa} {fn : List He.DefD} {ts : List He.Tab} {tf : List He.Defn} {ex : PySem.W.Frag → Bool} {sm : List He5.DefA} {w : World} {h : Heap} {as : List Addr} {K : PySem.W.Frag} (eK : K = He.frT h.get? as) (e : obsYK fa fn ts tf ex sm h.get? K = valY fn ts sm w) : SaysY fa fn ts tf ex sm w h K := by
  unfold obsYK valY at e
  simp only [Prod.mk.injEq] at e
  obtain ⟨e1, e2, e3⟩ := e
  obtain ⟨e2, e4⟩ := He.ba e2
  obtain ⟨e5, e6⟩ := He.ba e4
  have key : ∀ p ∈ tf, PySem.W.codeHdIn K (He.cT K p).1 (He.cT K p).2 = true ∧ ∃ o, h.get? (He.cT K p).2 = some o ∧ He.emptyTab o = true := fun p hp => by
    obtain ⟨k1, k2⟩ := He.ba (List.all_eq_true.mp e5 p hp)
    refine ⟨k1, ?_⟩
    cases q : h.get? (He.cT K p).2 with
    | some o => exact ⟨o, rfl, by rw [q] at k2; exact k2⟩
    | none => rw [q] at k2; cases k2
  refine ⟨⟨e1, e2, fun p hp => (key p hp).1, fun p hp => ?_, fun p hp => ?_⟩, e6, e3⟩
  · obtain ⟨_, o, q, z⟩ := key p hp
    have := He.frT_none (as := as) q z
    rw [← eK] at this
    exact this
  · obtain ⟨_, o, q, z⟩ := key p hp
    rw [q, He.emptyTab_eq z]
def hookY (n : Nat) (fa : List He.Fa) (fn : List He.DefD) (ts : List He.Tab) (tf : List He.Defn) (ex : PySem.W.Frag → Bool) (sm : List He5.DefA) : PySem.W.Hook where
  α := AlY
  obs := fun s => obsY n fa fn ts tf ex sm s.heap.get?
  val := fun w => valY fn ts sm w
  says := fun w h => ∃ K : PySem.W.Frag, K.In h ∧ SaysY fa fn ts tf ex sm w h K
  of := fun _ _ e => ⟨_, He.frT_in, saysY_at rfl e⟩
  keeps := fun _ _ _ ⟨K, hK, c⟩ k => ⟨K, PySem.W.Frag.In.keeps hK k, ⟨⟨c.x.t, c.x.more, c.x.hd, c.x.out, fun p hp => k _ _ (c.x.empty p hp)⟩, c.smo, c.sme⟩⟩
theorem obsY_eq {n : Nat} {fa : List He.Fa} {fn : List He.DefD} {ts : List He.Tab} {tf : List He.Defn} {ex : PySem.W.Frag → Bool} {sm : List He5.DefA} {g : Addr → Option Obj} {s : Shared} (h : ∀ a, g a = s.heap.get? a) : obsY n fa fn ts tf ex sm g = (hookY n fa fn ts tf ex sm).obs s := by
  have e : g = s.heap.get? := funext h
  rw [e] <;> rfl
theorem SaysY.sm_ {fa : List He.Fa} {fn : List He.DefD} {ts : List He.Tab} {tf : List He.Defn} {ex : PySem.W.Frag → Bool} {sm : List He5.DefA} {w : World} {h : Heap} {K : PySem.W.Frag} (c : SaysY fa fn ts tf ex sm w h K) (i : Nat) {d : He5.DefA} (e : sm[i]? = some d := by rfl) : ∃ fd, FunD K d.name d.qual d.params d.body d.scope (d.dvs K) (d.kws K) (d.at_ K) fd := by
  have z : (sm.map fun d => He5.fnA K (d.at_ K))[i]? = (sm.map He5.DefA.val)[i]? := by rw [c.sme]
  rw [List.getElem?_map, List.getElem?_map, e] at z
  exact He5.DefA.funD (Option.some.inj z) (List.all_eq_true.mp c.smo d (List.mem_of_getElem? e))
def naB (K : PySem.W.Frag) (D : Addr) : Bool := (match PySem.W.clsIn K D with
  | some cd => decide (cd.mro = [.ref D, .type "object"])
  | none => false) && (decide (PySem.W.findIn K (.ref D) "__add__" = some none) && decide (PySem.W.findIn K (.ref D) "__radd__" = some none))
/-! ### the text by places -/
def top (i : Nat) : Stmt := PySem.Challenge.pw_figurelines_k08_lines_refused.main.body.getD i (.Pass ⟨0, 0, 0, 0⟩)
abbrev s_NotAFormatdd_initdd : Stmt := inClass (top 3) 0
abbrev s_InvalidNumberdd_initdd : Stmt := inClass (top 4) 0
abbrev s_InvalidTextdd_initdd : Stmt := inClass (top 5) 0
abbrev s_InvalidNamedd_initdd : Stmt := inClass (top 6) 0
abbrev s_InvalidSettingdd_initdd : Stmt := inClass (top 8) 0
abbrev s_InvalidRangedd_initdd : Stmt := inClass (top 9) 0
abbrev s_InvalidPartsdd_initdd : Stmt := inClass (top 10) 0
abbrev s_is_name : Stmt := top 22
abbrev s_is_integer : Stmt := top 23
abbrev s_is_between : Stmt := top 24
abbrev s_is_sign : Stmt := top 25
abbrev s_code_of : Stmt := top 26
abbrev s_is_word : Stmt := top 28
abbrev s_is_setting : Stmt := top 36
abbrev s_settings_text : Stmt := top 37
abbrev s_Formatdd_initdd : Stmt := inClass (top 39) 0
abbrev s_check_format : Stmt := top 42
abbrev s_check_range : Stmt := top 44
abbrev s_Fielddd_initdd : Stmt := inClass (top 45) 0
abbrev s_check_parts : Stmt := top 49
abbrev s_joined : Stmt := top 50
abbrev s_parts_of : Stmt := top 51
abbrev s_Linedd_initdd : Stmt := inClass (top 52) 0
abbrev s_Linedd_adddd : Stmt := inClass (top 52) 9
abbrev s_Linedd_radddd : Stmt := inClass (top 52) 10
abbrev s_Linedd_lendd : Stmt := inClass (top 52) 12
abbrev s_l_pot : Stmt := top 56
abbrev s_l_spoon : Stmt := top 57
abbrev s_l_of : Stmt := top 58
abbrev s_l_signs : Stmt := top 59
abbrev s_l_sign : Stmt := top 60
abbrev s_l_shape : Stmt := top 61
abbrev s_l_format : Stmt := top 62
abbrev s_l_ended : Stmt := top 63
abbrev s_l_right : Stmt := top 64
abbrev s_law : Stmt := top 65
/-! ### the head: facts by names, the run -/
def headFa : List He.Fa := [.cls "Format", .cls "Field", .cls "Line", .glo "InvalidName", .meth "InvalidName" "__init__", .noat "InvalidName" "value", .glo "NotAFormat", .meth "NotAFormat" "__init__", .noat "NotAFormat" "value", .glo "InvalidRange", .meth "InvalidRange" "__init__", .noat "InvalidRange" "end", .glo "InvalidSetting", .meth "InvalidSetting" "__init__", .noat "InvalidSetting" "setting", .glo "InvalidNumber", .meth "InvalidNumber" "__init__", .noat "InvalidNumber" "value", .glo "InvalidText", .meth "InvalidText" "__init__", .noat "InvalidText" "value", .glo "InvalidParts", .meth "InvalidParts" "__init__", .noat "InvalidParts" "index", .glo "is_integer", .free "int", .free "isinstance", .glo "is_between", .glo "is_sign", .free "str", .free "len", .str "PRINT" " !\"#$&'()*+,-./0123456789:;<=>?@ABCDEFGHIJKLMNOPQRSTUVWXYZ[\\]^_`abcdefghijklmnopqrstuvwxyz{|}~", .glo "is_word", .free "all", .glo "is_name", .int "LONGEST_NAME" 10, .str "SMALL_LETTERS" "abcdefghijklmnopqrstuvwxyz", .glo "code_of", .glo "is_setting", .glo "HEADS", .glo "SIDES", .str "FIGURES" "0123456789abcdef", .int "MOST_GROUP" 4, .int "MOST_WIDTH" 12, .glo "settings_text", .free "zip", .glo "SETTINGS", .glo "Format", .mkr "Format", .noat "Format" "base", .noat "Format" "sign", .noat "Format" "least", .noat "Format" "group", .noat "Format" "mark", .noat "Format" "width", .noat "Format" "fill", .noat "Format" "side", .noat "Format" "words", .glo "check_format", .glo "check_range", .int "MOST_BOUND" 1000000000000, .glo "Field", .mkr "Field", .noat "Field" "name", .noat "Field" "pattern", .noat "Field" "low", .noat "Field" "high", .glo "check_parts", .int "MOST_PARTS" 8, .free "enumerate", .int "MOST_FIELDS" 4, .glo "joined", .free "tuple", .glo "parts_of", .glo "Line", .noat "Line" "parts", .mkr "Line", .noat "Line" "fields", .noat "Line" "names", .meth "Line" "__add__", .meth "Line" "__radd__", .meth "Line" "__len__", .glo "_law_spoon", .glo "_law_of", .glo "_law_signs", .glo "_law_sign", .glo "_law_shape", .glo "_law_format", .glo "Unfit", .free "ValueError", .exm "InvalidParts" "InvalidParts" true, .glo "_law_right", .glo "_law_ended", .glo "_law_pot", .free "abs", .glo "law", .free "range", .free "max", .free "min"]
def headFn : List He.DefD := [dM "InvalidName" "__init__" "InvalidName.__init__" s_InvalidNamedd_initdd, dM "NotAFormat" "__init__" "NotAFormat.__init__" s_NotAFormatdd_initdd, dM "InvalidRange" "__init__" "InvalidRange.__init__" s_InvalidRangedd_initdd, dM "InvalidSetting" "__init__" "InvalidSetting.__init__" s_InvalidSettingdd_initdd, dM "InvalidNumber" "__init__" "InvalidNumber.__init__" s_InvalidNumberdd_initdd, dM "InvalidText" "__init__" "InvalidText.__init__" s_InvalidTextdd_initdd, dM "InvalidParts" "__init__" "InvalidParts.__init__" s_InvalidPartsdd_initdd, hdG "is_integer" s_is_integer, hdG "is_between" s_is_between, hdG "is_sign" s_is_sign, hdG "is_word" s_is_word, hdG "is_name" s_is_name, hdG "code_of" s_code_of, hdG "is_setting" s_is_setting, hdG "settings_text" s_settings_text, dMK "Format" "__init__" "Format.__init__" s_Formatdd_initdd [("base", .int 10), ("sign", .str "minus"), ("least", .int 1), ("group", .int 0), ("mark", .str ","), ("width", .int 0), ("fill", .str " "), ("side", .str "left")], hdG "check_format" s_check_format, hdG "check_range" s_check_range, dD "Field" "Field.__init__" s_Fielddd_initdd [.non, .non], hdG "check_parts" s_check_parts, hdG "joined" s_joined, hdG "parts_of" s_parts_of, dD "Line" "Line.__init__" s_Linedd_initdd [], dM "Line" "__add__" "Line.__add__" s_Linedd_adddd, dM "Line" "__radd__" "Line.__radd__" s_Linedd_radddd, dM "Line" "__len__" "Line.__len__" s_Linedd_lendd, hdG "_law_spoon" s_l_spoon, hdG "_law_of" s_l_of, hdG "_law_signs" s_l_signs, hdG "_law_sign" s_l_sign, hdG "_law_shape" s_l_shape, hdG "_law_format" s_l_format, hdG "_law_right" s_l_right, hdG "_law_ended" s_l_ended, hdG "_law_pot" s_l_pot, hdG "law" s_law]
def headTs : List He.Tab := [(fun K => He.ga K "HEADS", ["minus", "plus", "blank"])]
def headTf : List He.Defn := [("_law_right", none)]
def headEx (K : PySem.W.Frag) : Bool := ([inB K (He.ga K "Format"), inB K (He.ga K "Field"), inB K (He.ga K "Line"), decide (PySem.W.kitOne K (.ref (He.ga K "Format")) (.type "int") = some false), decide (PySem.W.kitOne K (.ref (He.ga K "Format")) (.type "str") = some false), decide (PySem.W.kitOne K (.ref (He.ga K "Format")) (.type "tuple") = some false), decide (PySem.W.kitOne K (.ref (He.ga K "Format")) (.type "bool") = some false), decide (PySem.W.kitOne K (.ref (He.ga K "Format")) (.type "list") = some false), decide (PySem.W.kitOne K (.ref (He.ga K "Format")) (.type "dict") = some false), decide (PySem.W.kitOne K (.ref (He.ga K "Field")) (.type "int") = some false), decide (PySem.W.kitOne K (.ref (He.ga K "Field")) (.type "str") = some false), decide (PySem.W.kitOne K (.ref (He.ga K "Field")) (.type "tuple") = some false), decide (PySem.W.kitOne K (.ref (He.ga K "Field")) (.type "bool") = some false), decide (PySem.W.kitOne K (.ref (He.ga K "Field")) (.type "list") = some false), decide (PySem.W.kitOne K (.ref (He.ga K "Field")) (.type "dict") = some false), decide (PySem.W.kitOne K (.ref (He.ga K "Line")) (.type "int") = some false), decide (PySem.W.kitOne K (.ref (He.ga K "Line")) (.type "str") = some false), decide (PySem.W.kitOne K (.ref (He.ga K "Line")) (.type "tuple") = some false), decide (PySem.W.kitOne K (.ref (He.ga K "Line")) (.type "bool") = some false), decide (PySem.W.kitOne K (.ref (He.ga K "Line")) (.type "list") = some false), decide (PySem.W.kitOne K (.ref (He.ga K "Line")) (.type "dict") = some false), decide (PySem.W.kitOne K (.ref (He.ga K "Format")) (.ref (He.ga K "Field")) = some false), decide (PySem.W.kitOne K (.ref (He.ga K "Format")) (.ref (He.ga K "Line")) = some false), decide (PySem.W.kitOne K (.ref (He.ga K "Field")) (.ref (He.ga K "Format")) = some false), decide (PySem.W.kitOne K (.ref (He.ga K "Field")) (.ref (He.ga K "Line")) = some false), decide (PySem.W.kitOne K (.ref (He.ga K "Line")) (.ref (He.ga K "Format")) = some false), decide (PySem.W.kitOne K (.ref (He.ga K "Line")) (.ref (He.ga K "Field")) = some false), naB K (He.ga K "Format"), naB K (He.ga K "Field"), oeB K (He.ga K "InvalidName"), oeB K (He.ga K "NotAFormat"), oeB K (He.ga K "InvalidRange"), oeB K (He.ga K "InvalidSetting"), oeB K (He.ga K "InvalidNumber"), oeB K (He.ga K "InvalidText"), oeB K (He.ga K "InvalidParts"), tabB K (He.ga K "HEADS") [("minus", .str ""), ("plus", .str "+"), ("blank", .str " ")], He.tupB K "SIDES" [.str "left", .str "right", .str "both", .str "inner"], He.tupB K "SETTINGS" [.str "base", .str "sign", .str "least", .str "group", .str "mark", .str "width", .str "fill", .str "side"], insB K (He.ga K "Format"), insB K (He.ga K "Field"), insB K (He.ga K "Line"), xfB K (He.ga K "InvalidParts"), xcB K (He.ga K "InvalidParts"), decide (PySem.W.kitOne K (.ref (He.ga K "InvalidParts")) (.ref (He.ga K "Unfit")) = some true), decide (PySem.W.kitOne K (.ref (He.ga K "InvalidParts")) (.type "ValueError") = some true), PySem.W.selfFirst K (He.ga K "Line")] : List Bool).all id
def headNames : List Str := (["_wall", "__name__", "Unfit", "NotAFormat", "InvalidNumber", "InvalidText", "InvalidName", "UnknownName", "InvalidSetting", "InvalidRange", "InvalidParts", "InvalidNumbers", "MOST_PARTS", "MOST_FIELDS", "MOST_WIDTH", "MOST_GROUP", "MOST_BOUND", "FIGURES", "SMALL_LETTERS", "LONGEST_NAME", "PRINT", "is_name", "is_integer", "is_between", "is_sign", "code_of", "sign_of", "is_word", "figures_of", "size_of"] : List Str) ++ (["integer_in", "SETTINGS", "HEADS", "SIDES", "is_setting", "settings_text", "format_of", "Format", "setting_in", "settings_in", "check_format", "check_range", "Field", "end_text", "is_end", "field_in", "check_parts", "joined", "parts_of", "Line", "part_in", "parts_in", "_law_pot", "_law_spoon", "_law_of", "_law_signs", "_law_sign", "_law_shape", "_law_format", "_law_ended"] : List Str) ++ (["_law_right"] : List Str)
abbrev headR : PySem.W.OpenRow := PySem.W.OpenLaw.row PySem.Challenge.rw_figurelines_k08_lines_refused
abbrev headHk : PySem.W.Hook := He.hookX 5 headFa headFn headTs headTf headEx
def headOb (s : PySem.W.SharedT) : He.AlX := He.obsX 5 headFa headFn headTs headTf headEx (HandSHeadRun.getT s)
theorem headOb_eq (s : PySem.W.SharedT) : headOb s = headHk.obs s.abs := He.obsX_eq (HandSHeadRun.getT_eq s)
abbrev headP (w : World) : Prop := HandSHeadRun.RunEq headR (PySem.W.view headR.prog [65]) headHk headOb 12000 headNames w
set_option maxHeartbeats 0 in
theorem headRunF (w : World) : headP (w.withFollow "special-get-raises" false) := by
  intro os
  kernel_rfl
set_option maxHeartbeats 0 in
theorem headRunT (w : World) : headP (w.withFollow "special-get-raises" true) := by
  intro os
  kernel_rfl
theorem headRun (w : World) : headP w := PySem.W.byRow2 "special-get-raises" headRunF headRunT w
end Fg
set_option Elab.async false
set_option linter.all false
set_option maxRecDepth 100000
set_option maxHeartbeats 4000000
namespace Fg
open PySem PySem.Spec PyProof.Rows L2
/-! ### heaps -/
theorem alloc {H : Hp} {o : HO} {G : Addr → Hp → Prop} (h : ∀ p H1, H p = none → Same H H1 → H1 p = some o → G p H1) : ∀ p, H p = none → G p (upd H p o) :=
  fun p np => h p _ np (fun b u e => by rw [upd_ne (ne_of_none e np)]; exact e) upd_same
theorem iteD {p : Prop} [Decidable p] {A B : Prop} (h1 : p → A) (h2 : ¬ p → B) : if decide p = true then A else B := by
  by_cases h : p
  · rw [if_pos (decide_eq_true h)]; exact h1 h
  · rw [if_neg (by rw [decide_eq_false h]; decide)]; exact h2 h
theorem iteB {b : Bool} {A B : Prop} (h1 : b = true → A) (h2 : b = false → B) : if b = true then A else B := by
  cases b with
  | true => exact h1 rfl
  | false => exact h2 rfl
theorem iteY {b : Bool} {A B : Prop} (e : b = true) (h : A) : if b = true then A else B := by rw [if_pos e]; exact h
theorem iteN {b : Bool} {A B : Prop} (e : b = false) (h : B) : if b = true then A else B := by rw [if_neg (by rw [e]; decide)]; exact h
/-! ### the rules, told by what the values are -/
section
variable {X : Cx}
theorem pe_imp {e : Expr} {t t' : TE} (h : PE X e t) (w : ∀ σ H Q, t' σ H Q → t σ H Q) : PE X e t' := ⟨fun pins s σ H Q I q => h.run pins s σ H Q I (w σ H Q q)⟩
theorem pt_imp {e : Expr} {t t' : TT} (h : PT X e t) (w : ∀ σ H Q, t' σ H Q → t σ H Q) : PT X e t' := ⟨fun pins s σ H Q I q => h.run pins s σ H Q I (w σ H Q q)⟩
theorem op_imp {f : Value → Value → Sem Value} {r r' : R2} (h : OpR X f r) (w : ∀ x y H Q, r' x y H Q → r x y H Q) : OpR X f r' := fun pins s σ H x y v u Q I rx ry q => h pins s σ H x y v u Q I rx ry (w x y H Q q)
theorem call_imp {f : Value} {r r' : List V → Hp → VK → Prop} (h : CallR X f r) (w : ∀ xs H Q, r' xs H Q → r xs H Q) : CallR X f r' := fun pins s σ H xs us Q I rx q => h pins s σ H xs us Q I rx (w xs H Q q)
def tV (i : Nat) : TE := fun σ H Q => match σ[i]? with
  | some (some v) => Q v H
  | _ => False
theorem fv (i : Nat) {x : Str} {pos : Pos} (hN : X.N[i]? = some x := by rfl) (hv : Vis X.env.scope x := by first | exact Or.inl rfl | exact Or.inr (Or.inl rfl) | exact Or.inr (Or.inr rfl)) (hd : (x == ("__debug__" : Str)) = false := by decide)
    (hcd : (x == ("__classdict__" : Str)) = false := by decide) : PE X (.Name x pos) (tV i) := pe_imp (pe_var hN hv hd hcd) fun σ H Q q => by
  unfold tV at q
  split at q
  · exact ⟨_, by assumption, q⟩
  · exact q.elim
/-- a name of the module -/
theorem fe_g {x : Str} {v : V} {pos : Pos} (hg : Gl X x) (h : ∃ u, X.mg x = some u ∧ RelV v u) (hd : (x == ("__debug__" : Str)) = false := by decide) : PE X (.Name x pos) (tC v) := by
  obtain ⟨u, hm, r⟩ := h
  exact pe_glob hg hm r hd
def fI (g : Int → Int → V) : R2 := fun x y H Q => match x, y with
  | .int i, .int j => Q (g i j) H
  | _, _ => False
def fIc (C : Int → Int → Prop) (g : Int → Int → V) : R2 := fun x y H Q => match x, y with
  | .int i, .int j => C i j ∧ Q (g i j) H
  | _, _ => False
theorem fI_imp {f : Value → Value → Sem Value} {g : Int → Int → V} (h : OpR X f (rI0 g)) : OpR X f (fI g) := op_imp h fun x y H Q q => by
  unfold fI at q
  split at q
  · exact ⟨_, _, rfl, rfl, q⟩
  · exact q.elim
theorem fIc_imp {f : Value → Value → Sem Value} {C : Int → Int → Prop} {g : Int → Int → V} (h : OpR X f (rI C g)) : OpR X f (fIc C g) := op_imp h fun x y H Q q => by
  unfold fIc at q
  split at q
  · exact ⟨_, _, rfl, rfl, q.1, q.2⟩
  · exact q.elim
def fAdd : R2 := fun x y H Q => match x, y with
  | .int i, .int j => Q (.int (i + j)) H
  | .str a, .str b => a.length + b.length ≤ sizeLine ∧ Q (.str (a ++ b)) H
  | _, _ => False
theorem f_add : OpR X (binaryOp .Add) fAdd := op_imp (op_add.or op_add_str) fun x y H Q q => by
  unfold fAdd at q
  split at q
  · exact .inl ⟨_, _, rfl, rfl, q⟩
  · exact .inr ⟨_, _, rfl, rfl, q.1, q.2⟩
  · exact q.elim
theorem f_sub : OpR X (binaryOp .Sub) (fI fun i j => .int (i - j)) := fI_imp op_sub
/-- factors that are not too great -/
def CBig (i j : Int) : Prop := -(10 ^ 60) < i ∧ i < 10 ^ 60 ∧ -(10 ^ 60) < j ∧ j < 10 ^ 60
def CM (i j : Int) : Prop := (-(2 ^ 64) < i ∧ i < 2 ^ 64) ∨ (-(2 ^ 64) < j ∧ j < 2 ^ 64) ∨ CBig i j
theorem log_le {n k : Nat} (h : n < 2 ^ (k + 1)) : n.log2 ≤ k := by
  by_cases z : n = 0
  · rw [z]; exact Nat.zero_le _
  · exact Nat.le_of_lt_succ ((Nat.log2_lt z).mpr h)
theorem CM.ok {i j : Int} (h : CM i j) : IntMulOk i j := by
  rcases h with h | h | h
  · exact CMul.ok (.inl h)
  · exact CMul.ok (.inr h)
  · have z : -(10 ^ 60) < i ∧ i < 10 ^ 60 ∧ -(10 ^ 60) < j ∧ j < 10 ^ 60 := h
    have a1 : i.natAbs.log2 ≤ 199 := log_le (by omega)
    have a2 : j.natAbs.log2 ≤ 199 := log_le (by omega)
    exact CMulW.ok (show i.natAbs.log2 + j.natAbs.log2 < 1000000 by omega)
theorem f_mul : OpR X (binaryOp .Mult) (fIc CM fun i j => .int (i * j)) := fIc_imp (opI fun _ _ _ _ _ _ _ hc q => mul_int q hc.ok)
theorem f_mod : OpR X (binaryOp .Mod) (fIc (fun _ j => 0 < j) fun i j => .int (i % j)) := fIc_imp op_mod
def CDv (_ j : Int) : Prop := 0 < j ∧ j < 10 ^ 60
theorem f_fdiv : OpR X (binaryOp .FloorDiv) (fIc CDv fun i j => .int (i / j)) := op_imp op_fdivW fun x y H Q q => by
  unfold fIc at q
  split at q
  · rename_i i j
    have z : 0 < j ∧ j < 10 ^ 60 := q.1
    have a2 : j.natAbs.log2 ≤ 199 := log_le (by omega)
    exact ⟨i, j, rfl, rfl, ⟨z.1, by omega⟩, q.2⟩
  · exact q.elim
theorem f_pow : OpR X (binaryOp .Pow) (fIc CPow fun i j => .int (i ^ j.toNat)) := fIc_imp op_pow
theorem f_lt : OpR X (compareOp .Lt) (fI fun i j => .bl (decide (i < j))) := fI_imp op_lt
theorem f_le : OpR X (compareOp .LtE) (fI fun i j => .bl (decide (i ≤ j))) := fI_imp op_le
theorem f_gt : OpR X (compareOp .Gt) (fI fun i j => .bl (decide (j < i))) := fI_imp op_gt
theorem f_ge : OpR X (compareOp .GtE) (fI fun i j => .bl (decide (j ≤ i))) := fI_imp op_ge
/-- == of plain values -/
def fEq : R2 := fun x y H Q => match x, y with
  | .int i, .int j => Q (.bl (decide (i = j))) H
  | .str i, .str j => Q (.bl (decide (i = j))) H
  | x, y => scal x y = true ∧ Q (.bl (decide (x = y))) H
def fNe : R2 := fun x y H Q => match x, y with
  | .int i, .int j => Q (.bl (!decide (i = j))) H
  | .str i, .str j => Q (.bl (!decide (i = j))) H
  | x, y => scal x y = true ∧ Q (.bl (!decide (x = y))) H
theorem f_eq : OpR X (compareOp .Eq) fEq := op_imp op_eq fun x y H Q q => by
  unfold fEq at q
  split at q
  · exact ⟨rfl, by rw [dec_int, Bool.beq_eq_decide_eq]; exact q⟩
  · refine ⟨rfl, ?_⟩
    rename_i i j
    have e : decide (V.str i = V.str j) = decide (i = j) := by
      by_cases h : i = j
      · rw [h]; simp
      · simp [h]
    rw [e]; exact q
  · exact q
theorem f_ne : OpR X (compareOp .NotEq) fNe := op_imp op_ne fun x y H Q q => by
  unfold fNe at q
  split at q
  · exact ⟨rfl, by rw [dec_int, Bool.beq_eq_decide_eq]; exact q⟩
  · refine ⟨rfl, ?_⟩
    rename_i i j
    have e : decide (V.str i = V.str j) = decide (i = j) := by
      by_cases h : i = j
      · rw [h]; simp
      · simp [h]
    rw [e]; exact q
  · exact q
/-- x is not True, x is True: whatever is no object -/
def notRef : V → Bool
  | .non => true | .bl _ => true | .int _ => true | .str _ => true | .byt _ => true | .flt _ => true | _ => false
def rNotBl : R2 := fun x y H Q => match y with
  | .bl b => notRef x = true ∧ Q (.bl (!decide (x = .bl b))) H
  | _ => False
theorem op_notBl : OpR X (compareOp .IsNot) rNotBl := by
  intro pins s σ H x y v u Q I rx ry h
  cases y <;> first | exact h.elim | skip
  rename_i b
  obtain ⟨n, q⟩ := h
  cases (show u = Value.bool b from ry)
  cases x with
  | non => cases (show v = Value.none from rx); exact wpAny_isNot_other rfl (fun z => by cases z) ⟨.bl true, H, I, rfl, by simpa using q⟩
  | bl a =>
    cases (show v = Value.bool a from rx)
    by_cases e : a = b
    · subst e
      exact wpAny_isNot_self rfl ⟨.bl false, H, I, rfl, by simpa using q⟩
    · exact wpAny_isNot_other rfl (fun z => e (Value.bool.inj z)) ⟨.bl true, H, I, rfl, by simpa [e] using q⟩
  | int i => obtain ⟨t, rfl⟩ := (show ∃ t, v = Value.int i t from rx); exact wpAny_isNot_other rfl (fun z => by cases z) ⟨.bl true, H, I, rfl, by simpa using q⟩
  | str i => obtain ⟨t, rfl⟩ := (show ∃ t, v = Value.str i t from rx); exact wpAny_isNot_other rfl (fun z => by cases z) ⟨.bl true, H, I, rfl, by simpa using q⟩
  | byt i => obtain ⟨t, rfl⟩ := (show ∃ t, v = Value.bytes i t from rx); exact wpAny_isNot_other rfl (fun z => by cases z) ⟨.bl true, H, I, rfl, by simpa using q⟩
  | flt i => obtain ⟨t, rfl⟩ := (show ∃ t, v = Value.float i t from rx); exact wpAny_isNot_other rfl (fun z => by cases z) ⟨.bl true, H, I, rfl, by simpa using q⟩
  | ref _ => cases n
  | ty _ => cases n
/-- a test that is a bool -/
def tT (t : TE) : TT := fun σ H Q => t σ H fun x H' => match x with
  | .bl k => Q k H'
  | _ => False
variable {a b : Expr} {ta tb : TE} {pos : Pos}
theorem ft_cmp {op : CmpOp} {r : R2} (ho : OpR X (compareOp op) r) (ha : PE X a ta) (hb : PE X b tb) (hm : behindInMarks op b = false) : PT X (.Compare a [op] [b] pos) (tT (tOp r ta tb)) := by
  refine ⟨fun pins s σ H Q I h => ?_⟩
  refine wpAny_isTrue_Compare1 (thn (ha.run pins s σ H _ I h) fun v s1 ⟨x, H1, I1, rx, q⟩ => thn (hb.run pins s1 σ H1 _ I1 q) fun u s2 ⟨y, H2, I2, ry, q⟩ => thn (ho pins s2 σ H2 x y v u _ I2 rx ry q) fun c s3 ⟨z, H3, I3, rz, q3⟩ => ?_) hm
  cases z <;> first | exact q3.elim | skip
  cases rz
  exact wpAny_truthy_bool ⟨H3, I3, q3⟩
theorem ft_val {e : Expr} {t : TE} (h : PE X e t) (he : ∀ whole, isTrue e X.env whole = (do let v ← whole; standAt e.pos; holding [v] (truthy v)) := by intro _; rfl) : PT X e (tT t) := by
  refine ⟨fun pins s σ H Q I hw => ?_⟩
  refine isTrue_plain (thn (h.run pins s σ H _ I hw) fun v s1 ⟨x, H1, I1, r1, q1⟩ => ?_) (he _)
  cases x <;> first | exact q1.elim | skip
  cases r1
  exact wpAny_truthy_bool ⟨H1, I1, q1⟩

theorem ft_chain {op op' : CmpOp} {r r' : R2} {c : Expr} {tc : TE} (ho : OpR X (compareOp op) r) (ho' : OpR X (compareOp op') r') (ha : PE X a ta) (hb : PE X b tb) (hc : PE X c tc)
    (h : PE X (.Compare a [op, op'] [b, c] pos) (tChain r r' ta tb tc) := by exact pe_chain ‹_› ‹_› ‹_› ‹_› ‹_›) (he : ∀ whole, isTrue (.Compare a [op, op'] [b, c] pos) X.env whole = (do let v ← whole; standAt (Expr.pos (.Compare a [op, op'] [b, c] pos)); holding [v] (truthy v)) := by intro _; rfl) : PT X (.Compare a [op, op'] [b, c] pos) (tT (tChain r r' ta tb tc)) := ft_val h he
end
/-! ### promises by the number of arguments -/
def s0 (P : Hp → VK → XK → Prop) : Sp := fun vs H Q E => match vs with
  | [] => P H Q E
  | _ => False
def s1 (P : V → Hp → VK → XK → Prop) : Sp := fun vs H Q E => match vs with
  | [a] => P a H Q E
  | _ => False
def s2 (P : V → V → Hp → VK → XK → Prop) : Sp := fun vs H Q E => match vs with
  | [a, b] => P a b H Q E
  | _ => False
def s3 (P : V → V → V → Hp → VK → XK → Prop) : Sp := fun vs H Q E => match vs with
  | [a, b, c] => P a b c H Q E
  | _ => False
theorem s0_len {P} {vs : List V} {H : Hp} {Q : VK} {E : XK} (h : s0 P vs H Q E) : vs = [] ∧ P H Q E := by
  unfold s0 at h; split at h
  · exact ⟨rfl, h⟩
  · exact h.elim
theorem s1_len {P} {vs : List V} {H : Hp} {Q : VK} {E : XK} (h : s1 P vs H Q E) : ∃ a, vs = [a] ∧ P a H Q E := by
  unfold s1 at h; split at h
  · exact ⟨_, rfl, h⟩
  · exact h.elim
theorem s2_len {P} {vs : List V} {H : Hp} {Q : VK} {E : XK} (h : s2 P vs H Q E) : ∃ a b, vs = [a, b] ∧ P a b H Q E := by
  unfold s2 at h; split at h
  · exact ⟨_, _, rfl, h⟩
  · exact h.elim
theorem s3_len {P} {vs : List V} {H : Hp} {Q : VK} {E : XK} (h : s3 P vs H Q E) : ∃ a b c, vs = [a, b, c] ∧ P a b c H Q E := by
  unfold s3 at h; split at h
  · exact ⟨_, _, _, rfl, h⟩
  · exact h.elim
/-! ### a def of the module, as its callers see it -/
structure FunAt (K : PySem.W.Frag) (mg : Str → Option Value) (x : Str) (st : Stmt) : Prop where
  ex : ∃ f fd, Fun K x x st f fd ∧ mg x = some (.ref f)
structure Callee (P : Program) (w : World) (K : PySem.W.Frag) (mg : Str → Option Value) (base : Heap) (k : Nat) (x : Str) (ps : List Str) (sp : Sp) : Prop where
  ex : ∃ f fd, FnOk P w K mg base (L2.CX P w) k f fd ps sp ∧ mg x = some (.ref f) ∧ PySem.W.keepIn K (.ref f) = true ∧ Binds K fd ps []
section
variable {X : Cx} {W : WX} {j k : Nat} {x : Str} {ps : List Str} {sp : Sp} {p pos : Pos} {e : Expr} {es : List Expr} {t : TA}
theorem fc_call (c : Callee X.prog X.w X.K X.mg X.base k x ps sp) (hr : Room j X.A) (hk : k ≤ j) (hg : Gl X x) (tk : Takes X W) (ha : PA X (e :: es) t) (hdb : (x == ("__debug__" : Str)) = false := by decide) (he : starEach (e :: es) X.env = (false, eval e X.env) :: starEach es X.env := by rfl)
    (hpl : (backTo pos (starEach es X.env)).any (·.1) = false := by rfl) : PE X (.Call (.Name x p) (e :: es) [] pos) (tCallS sp (WE W) t) := by
  obtain ⟨f, fd, F, hm, hkp, hb⟩ := c.ex
  exact pe_callS F (hr.mono hk) hg hm hkp hb (fun σ => passAt tk σ) ha hdb he hpl
theorem fc_call0 (c : Callee X.prog X.w X.K X.mg X.base k x ps sp) (hr : Room j X.A) (hk : k ≤ j) (hg : Gl X x) (tk : Takes X W) (hdb : (x == ("__debug__" : Str)) = false := by decide) :
    PE X (.Call (.Name x p) [] [] pos) (fun σ H Q => sp [] H Q (WE W σ)) := by
  obtain ⟨f, fd, F, hm, hkp, hb⟩ := c.ex
  refine ⟨fun pins s σ H Q I h => ?_⟩
  refine wpAny_Call_Name_kw (ld_glob I hg hm ?_ hdb)
  exact PySem.W.callWith_K0 I.kIn hkp (run_fnS (us := []) F (hr.mono hk) hb (passAt tk σ) I .nil h)
end
section
variable {P : Program} {w : World} {K : PySem.W.Frag} {mg : Str → Option Value} {base : Heap}
/-- the rule of a def: its body as a term, its reading -/
theorem callee_of {x : Str} {st : Stmt} {N ps : List Str} {k : Nat} {sp : Sp} (F : FunAt K mg x st) (S : FnScope N ps (defScope st))
    (hb : ∀ (kV doc pm : Value) (an : Option Addr) (cdv ct : Value) (us : List Value), us.length = ps.length → bindArgs (PySem.W.fnOf x x (defArgs st) (defBody st) (defScope st) .none kV doc pm an cdv ct) ⟨us, []⟩ = pure (ps.zip us))
    (len : ∀ vs H Q E, sp vs H Q E → vs.length = ps.length)
    (hbody : ∀ (f : Addr) (cdv : Value) (A : Around) (outer : List Env) (s : Shared) (H : Hp) (vs : List V) (Q : VK) (E : XK), Room k (cxOf (L2.CX P w) P w K mg base N x (defScope st) f cdv A outer s H E).A →
      Takes (cxOf (L2.CX P w) P w K mg base N x (defScope st) f cdv A outer s H E) (fun cls d _ H => E cls d H) →
      PassesOwn (model P w) (cxOf (L2.CX P w) P w K mg base N x (defScope st) f cdv A outer s H E).A (cxOf (L2.CX P w) P w K mg base N x (defScope st) f cdv A outer s H E).env (cxOf (L2.CX P w) P w K mg base N x (defScope st) f cdv A outer s H E).xe → sp vs H Q E →
      ∃ t, PSs (cxOf (L2.CX P w) P w K mg base N x (defScope st) f cdv A outer s H E) (defBody st) t ∧ t { nx := fun _ H' => Q .non H', rt := Q } (start N vs) H) :
    Callee P w K mg base (k + 1) x ps sp := by
  obtain ⟨f, fd, F, hm⟩ := F.ex
  exact ⟨f, fd, F.okX S len fun cdv A outer s H vs Q E hr h => hbody f cdv A outer s H vs Q E hr (takes_of rfl rfl rfl rfl) (passes_of rfl) h, hm, F.kp, F.binds hb⟩
end
/-! ### calls of built-ins, subscripts, by what the values are -/
/-- the thing at a is of a type that T is none of -/
def RefTy (K : PySem.W.Frag) (H : Hp) (a : Addr) (c : Value) (b : Bool) : Prop := ∃ t, TyX K H (.ref a) t ∧ PySem.W.kitOne K t c = some b
def fIsTy (K : PySem.W.Frag) (n : String) : List V → Hp → VK → Prop := fun xs H Q => match xs with
  | [x, .ty m] => n = m ∧ match x with
    | .non => Q (.bl false) H
    | .bl _ => Q (.bl (n == "int" || n == "bool")) H
    | .int _ => Q (.bl (n == "int")) H
    | .str _ => Q (.bl (n == "str")) H
    | .ref a => ∃ b, RefTy K H a (.type n) b ∧ Q (.bl b) H
    | _ => False
  | _ => False
section
variable {X : Cx}
theorem kit_int1 {K : PySem.W.Frag} {n : String} (h : n = "int" ∨ n = "str" ∨ n = "tuple" ∨ n = "bool" ∨ n = "list" ∨ n = "dict") :
    PySem.W.kitOne K (.type "NoneType") (.type n) = some false ∧ PySem.W.kitOne K (.type "bool") (.type n) = some (n == "int" || n == "bool") ∧ PySem.W.kitOne K (.type "int") (.type n) = some (n == "int") ∧ PySem.W.kitOne K (.type "str") (.type n) = some (n == "str") := by
  rcases h with rfl | rfl | rfl | rfl | rfl | rfl <;> exact ⟨kit_ty (by decide +kernel), kit_ty (by decide +kernel), kit_ty (by decide +kernel), kit_ty (by decide +kernel)⟩
theorem f_isTy {n : String} (h : n = "int" ∨ n = "str" ∨ n = "tuple" ∨ n = "bool" ∨ n = "list" ∨ n = "dict") : CallR X (.builtin "isinstance") (fIsTy X.K n) := call_imp call_isi fun xs H Q q => by
  obtain ⟨k1, k2, k3, k4⟩ := kit_int1 (K := X.K) h
  unfold fIsTy at q
  split at q
  · rename_i x m
    obtain ⟨rfl, q⟩ := q
    cases x with
    | non => exact ⟨_, _, _, _, _, rfl, .ty _, .base .non, k1, q⟩
    | bl b => exact ⟨_, _, _, _, _, rfl, .ty _, .base (.bl _), k2, q⟩
    | int b => exact ⟨_, _, _, _, _, rfl, .ty _, .base (.int _), k3, q⟩
    | str b => exact ⟨_, _, _, _, _, rfl, .ty _, .base (.str _), k4, q⟩
    | ref a =>
      obtain ⟨b, ⟨t, ty, kt⟩, q⟩ := q
      exact ⟨_, _, _, _, _, rfl, .ty _, ty, kt, q⟩
    | byt _ => exact q.elim
    | flt _ => exact q.elim
    | ty _ => exact q.elim
  · exact q.elim
theorem f_isint : CallR X (.builtin "isinstance") (fIsTy X.K "int") := f_isTy (.inl rfl)
theorem f_isstr : CallR X (.builtin "isinstance") (fIsTy X.K "str") := f_isTy (.inr (.inl rfl))
theorem f_istup : CallR X (.builtin "isinstance") (fIsTy X.K "tuple") := f_isTy (.inr (.inr (.inl rfl)))
/-- a list or a tuple that is read -/
def Sq (K : PySem.W.Frag) (H : Hp) (a : Addr) (xs : List V) : Prop := SqL K H a xs ∨ SqT K H a xs
def fLen (K : PySem.W.Frag) : List V → Hp → VK → Prop := fun xs H Q => match xs with
  | [.str z] => z.length ≤ sizeLine ∧ Q (.int z.length) H
  | [.ref a] => ∃ ys, Sq K H a ys ∧ Q (.int ys.length) H
  | _ => False
theorem f_len : CallR X (.builtin "len") (fLen X.K) := fun pins s σ H xs us Q I r q => by
  unfold fLen at q
  split at q
  · exact call_len pins s σ H _ us Q I r ⟨_, _, rfl, ⟨q.1, rfl⟩, q.2⟩
  · obtain ⟨ys, h, q⟩ := q
    rcases h with h | h
    · exact call_len pins s σ H _ us Q I r ⟨_, _, rfl, .inl ⟨_, h, rfl⟩, q⟩
    · exact call_len pins s σ H _ us Q I r ⟨_, _, rfl, .inr ⟨_, h, rfl⟩, q⟩
  · exact q.elim
def fIx (K : PySem.W.Frag) : R2 := fun x y H Q => match x, y with
  | .str z, .int i => z.length ≤ sizeLine ∧ ∃ c, atI z.cps.toList i = some c ∧ Q (.str ⟨#[c]⟩) H
  | .ref a, .int i => ∃ ys v, Sq K H a ys ∧ atI ys i = some v ∧ Q v H
  | _, _ => False
theorem f_ix : IxR X (fIx X.K) := fun value slice pins s σ H x y v u Q I rx ry q hs => by
  unfold fIx at q
  split at q
  · obtain ⟨h, c, hc, q⟩ := q
    exact ix_str value slice pins s σ H _ _ v u Q I rx ry ⟨_, _, _, rfl, rfl, h, hc, q⟩ hs
  · obtain ⟨ys, z, h, hz, q⟩ := q
    rcases h with h | h
    · exact ix_list value slice pins s σ H _ _ v u Q I rx ry ⟨_, _, _, _, rfl, rfl, h, hz, q⟩ hs
    · exact ix_tup value slice pins s σ H _ _ v u Q I rx ry ⟨_, _, _, _, rfl, rfl, h, hz, q⟩ hs
  · exact q.elim
def fInt : List V → Hp → VK → Prop := fun xs H Q => match xs with
  | [.int i] => Q (.int i) H
  | [.bl k] => Q (.int (if k then 1 else 0)) H
  | _ => False
theorem f_int : CallR X (.type "int") fInt := call_imp call_int1 fun xs H Q q => by
  unfold fInt at q
  split at q
  · exact .inl ⟨_, rfl, q⟩
  · exact .inr ⟨_, rfl, q⟩
  · exact q.elim
def fAbs : List V → Hp → VK → Prop := fun xs H Q => match xs with
  | [.int i] => Q (.int ((i.natAbs : Nat) : Int)) H
  | _ => False
theorem f_abs : CallR X (.builtin "abs") fAbs := call_imp call_abs fun xs H Q q => by
  unfold fAbs at q
  split at q
  · rename_i i
    refine ⟨i, rfl, ?_⟩
    rw [show (if i < 0 then -i else i) = ((i.natAbs : Nat) : Int) by split <;> omega]
    exact q
  · exact q.elim
def fMax : List V → Hp → VK → Prop := fun xs H Q => match xs with
  | [.int i, .int j] => Q (.int (max i j)) H
  | _ => False
theorem f_max (hc : X.calm = true) : CallR X (.builtin "max") fMax := call_imp (call_max2 hc) fun xs H Q q => by
  unfold fMax at q
  split at q
  · rename_i i j
    refine ⟨i, j, rfl, ?_⟩
    rw [show (if j > i then j else i) = max i j by split <;> omega]
    exact q
  · exact q.elim
def fMin : List V → Hp → VK → Prop := fun xs H Q => match xs with
  | [.int i, .int j] => Q (.int (min i j)) H
  | _ => False
theorem f_min (hc : X.calm = true) : CallR X (.builtin "min") fMin := call_imp (call_min2 hc) fun xs H Q q => by
  unfold fMin at q
  split at q
  · rename_i i j
    refine ⟨i, j, rfl, ?_⟩
    rw [show (if j < i then j else i) = min i j by split <;> omega]
    exact q
  · exact q.elim
/-- xs[i] = v of a list -/
def fSetL : TSet := fun o i v H Q => match o, i with
  | .ref a, .int i => ∃ xs j, H a = some (.lst xs) ∧ ixN xs.length i = some j ∧ Q (upd H a (.lst (xs.set j v)))
  | _, _ => False
theorem f_setL : PSet X fSetL := fun pins s σ H o i v ov iv u Q I ro ri rv q => by
  unfold fSetL at q
  split at q
  · obtain ⟨xs, j, h, hj, q⟩ := q
    exact set_list pins s σ H _ _ v ov iv u Q I ro ri rv ⟨_, _, _, _, rfl, rfl, h, hj, q⟩
  · exact q.elim
end

/-! ### new objects -/
/-- a new object o, called p in the heap H': all that was stands as it was -/
def Fresh (H : Hp) (o : HO) (Q : VK) : Prop := ∀ p H', H p = none → Same H H' → H' p = some o → Q (.ref p) H'
theorem Fresh.go {H : Hp} {o : HO} {Q : VK} (h : Fresh H o Q) : ∀ p, H p = none → Q (.ref p) (upd H p o) :=
  fun p np => h p _ np (fun b u e => by rw [upd_ne (ne_of_none e np)]; exact e) upd_same
theorem Same.new {H : Hp} {p : Addr} {o : HO} (np : H p = none) : Same H (upd H p o) := fun b u e => by rw [upd_ne (ne_of_none e np)]; exact e
section
variable {X : Cx} {es : List Expr} {t : TA} {pos : Pos}
def tTupF (t : TA) : TE := fun σ H Q => t σ H fun xs H1 => xs.length ≤ sizeLine ∧ Fresh H1 (.tup xs) Q
def tLstF (t : TA) : TE := fun σ H Q => t σ H fun xs H1 => xs.length ≤ sizeLine ∧ Fresh H1 (.lst xs) Q
/-- what is wanted may be handed on weaker -/
def upA (t : TA) : TA := fun σ H Q => ∃ R, t σ H R ∧ ∀ vs H', R vs H' → Q vs H'
def upE (t : TE) : TE := fun σ H Q => ∃ R, t σ H R ∧ ∀ v H', R v H' → Q v H'
theorem pa_up {es : List Expr} {t : TA} (h : PA X es t) : PA X es (upA t) := ⟨fun pos pins s σ H Q I ⟨R, q, w⟩ => thn (h.run pos pins s σ H R I q) fun us s1 ⟨vs, H1, I1, r, q1⟩ => ⟨vs, H1, I1, r, w _ _ q1⟩⟩
theorem pe_up {e : Expr} {t : TE} (h : PE X e t) : PE X e (upE t) := ⟨fun pins s σ H Q I ⟨R, q, w⟩ => thn (h.run pins s σ H R I q) fun u s1 ⟨v, H1, I1, r, q1⟩ => ⟨v, H1, I1, r, w _ _ q1⟩⟩
theorem fe_tup {x1} (h : PA X es t) : PE X (.Tuple es x1 pos) (tTupF t) := pe_imp (pe_tup (pa_up h)) fun σ H Q q => ⟨_, q, fun xs H1 r => ⟨r.1, r.2.go⟩⟩
theorem fe_lst (h : PA X es t) : PE X (.List es pos) (tLstF t) := pe_imp (pe_lst (pa_up h)) fun σ H Q q => ⟨_, q, fun xs H1 r => ⟨r.1, r.2.go⟩⟩
def fCat : R2 := fun x y H Q => match x, y with
  | .ref a, .ref b => ∃ xs ys, H a = some (.lst xs) ∧ H b = some (.lst ys) ∧ xs.length + ys.length ≤ sizeLine ∧ Fresh H (.lst (xs ++ ys)) Q
  | _, _ => False
theorem f_cat : OpR X (binaryOp .Add) fCat := op_imp op_cat fun x y H Q q => by
  unfold fCat at q
  split at q
  · obtain ⟨xs, ys, h1, h2, h3, q⟩ := q
    exact ⟨_, _, _, _, rfl, rfl, h1, h2, h3, q.go⟩
  · exact q.elim
def fRep : R2 := fun x y H Q => match x, y with
  | .ref a, .int k => ∃ xs, H a = some (.lst xs) ∧ k < 2 ^ 63 ∧ -(2 ^ 63) ≤ k ∧ xs.length * k.toNat ≤ sizeLine ∧ Fresh H (.lst (List.replicate k.toNat xs).flatten) Q
  | _, _ => False
theorem f_rep : OpR X (binaryOp .Mult) fRep := op_imp op_rep fun x y H Q q => by
  unfold fRep at q
  split at q
  · obtain ⟨xs, h1, h2, h3, h4, q⟩ := q
    exact ⟨_, _, _, rfl, rfl, h1, h3, h2, h4, q.go⟩
  · exact q.elim
def fList (K : PySem.W.Frag) : List V → Hp → VK → Prop := fun xs H Q => match xs with
  | [.ref a] => ∃ ys, Sq K H a ys ∧ Fresh H (.lst ys) Q
  | _ => False
theorem f_list : CallR X (.type "list") (fList X.K) := call_imp call_list_of fun xs H Q q => by
  unfold fList at q
  split at q
  · obtain ⟨ys, h, q⟩ := q
    exact ⟨_, _, rfl, h, q.go⟩
  · exact q.elim
/-- tuple(a list) -/
def fTuple (K : PySem.W.Frag) : List V → Hp → VK → Prop := fun xs H Q => match xs with
  | [.ref a] => ∃ ys, SqL K H a ys ∧ Fresh H (.tup ys) Q
  | _ => False
theorem f_tuple : CallR X (.type "tuple") (fTuple X.K) := call_imp call_tuple_of fun xs H Q q => by
  unfold fTuple at q
  split at q
  · obtain ⟨ys, h, q⟩ := q
    exact ⟨_, _, rfl, .inl ⟨h, q.go⟩⟩
  · exact q.elim
theorem sl_imp {r r' : V → Option Int → Option Int → Hp → VK → Prop} (h : SlR X r) (w : ∀ x l u H Q, r' x l u H Q → r x l u H Q) : SlR X r' := fun pins s σ H x v vl vu lo hi sl Q I rx hs pl pu q => h pins s σ H x v vl vu lo hi sl Q I rx hs pl pu (w _ _ _ _ _ q)
def fSlL (K : PySem.W.Frag) : V → Option Int → Option Int → Hp → VK → Prop := fun x lo hi H Q => match x with
  | .ref a => ∃ xs, SqL K H a xs ∧ Fresh H (.lst (cutV xs lo hi)) Q
  | _ => False
theorem f_slL : SlR X (fSlL X.K) := sl_imp sl_list fun x l u H Q q => by
  unfold fSlL at q
  split at q
  · obtain ⟨xs, h, q⟩ := q
    exact ⟨_, _, rfl, h, q.go⟩
  · exact q.elim
def fSlS : V → Option Int → Option Int → Hp → VK → Prop := fun x lo hi H Q => match x with
  | .str z => z.length ≤ sizeLine ∧ Q (.str (cutS z lo hi)) H
  | _ => False
theorem f_slS : SlR X fSlS := sl_imp sl_str fun x l u H Q q => by
  unfold fSlS at q
  split at q
  · exact ⟨_, rfl, q.1, q.2⟩
  · exact q.elim
/-- d[k], d a dict that is known, k a text -/
def fDGet (td ty : TE) : TE := fun σ H Q => td σ H fun x H1 => ty σ H1 fun y H2 => match x, y with
  | .ref a, .str k => ∃ kvs v, H2 a = some (.dK kvs) ∧ valV kvs (Sum.inr k : Key) = some v ∧ Q v H2
  | .ref a, .int k => ∃ kvs v, H2 a = some (.dK kvs) ∧ valV kvs (Sum.inl k : Key) = some v ∧ Q v H2
  | _, _ => False
variable {o i : Expr} {td ty tv : TE} {te : TE}
theorem fe_dget (hu : X.A.units + 1 < cLine) (ho : PE X o td) (hi : PE X i ty) (hs : NoSl i) : PE X (.Subscript o i pos) (fDGet td ty) := pe_imp (pe_dget hu (pe_up ho) (pe_up hi) hs) fun σ H Q q => ⟨_, q, fun x H1 q1 => ⟨_, q1, fun y H2 q2 => by
    split at q2
    · obtain ⟨kvs, v, h, hv, q⟩ := q2
      exact ⟨_, _, rfl, hv ▸ DGet.k (k := Sum.inr _) h, q⟩
    · obtain ⟨kvs, v, h, hv, q⟩ := q2
      exact ⟨_, _, rfl, hv ▸ DGet.k (k := Sum.inl _) h, q⟩
    · exact q2.elim⟩⟩
/-- {x}, a text or an int -/
def tFmtF (te : TE) : TE := fun σ H Q => te σ H fun x H1 => match x with
  | .str y => y.length ≤ sizeLine ∧ Q (.str y) H1
  | .int i => i.natAbs.log2 < 1920 ∧ Q (.str (toString i)) H1
  | _ => False
theorem fe_fmt {e : Expr} (he : PE X e te) : PE X (.FormattedValue e (-1) none pos) (tFmtF te) := pe_imp (pe_fmt (pe_up he)) fun σ H Q q => ⟨_, q, fun x H1 q1 => by
    split at q1
    · exact .inl ⟨_, rfl, q1.1, q1.2⟩
    · exact .inr ⟨_, rfl, q1.1, q1.2⟩
    · exact q1.elim⟩
def fStr : List V → Hp → VK → Prop := fun xs H Q => match xs with
  | [.int i] => i.natAbs.log2 < 1920 ∧ Q (.str (toString i)) H
  | _ => False
theorem f_str : CallR X (.type "str") fStr := call_imp call_str_int fun xs H Q q => by
  unfold fStr at q
  split at q
  · exact ⟨_, rfl, q.1, q.2⟩
  · exact q.elim
end

/-! ### loops, turn by turn over what is walked -/
def Loop (st : Hp → Prop) (g : TG) (tb : TS) (D : Ends) : List V → L2.St → Hp → Prop
  | [] => fun σ H => D.nx σ H
  | x :: r => fun σ H => g x σ H fun σ2 H2 => tb { D with nx := fun σ' H' => st H' ∧ Loop st g tb D r σ' H', ct := fun σ' H' => st H' ∧ Loop st g tb D r σ' H', bk := D.nx } σ2 H2
theorem loop_it {J : It} {xs : List V} {st : Hp → Prop} {g : TG} {tb : TS} {D : Ends} {σ : L2.St} {H : Hp} (hgo : ∀ i H, i < xs.length → st H → J.go i H) (hyl : ∀ i H x H', st H → J.yld i H x H' → H' = H ∧ (i < xs.length → xs[i]? = some x))
    (hst : ∀ H, st H → J.stop xs.length H) (h0 : st H) (h : Loop st g tb D xs σ H) : ∃ W : Nat → Nat → L2.St → Hp → Prop, (∃ m, W 0 m σ H) ∧ ∀ i m σ H, W i m σ H →
      (J.stop i H ∧ D.nx σ H) ∨ (J.go i H ∧ ∃ N : L2.St → Hp → Prop, (∀ σ' H', N σ' H' → ∃ m', m' < m ∧ W (i + 1) m' σ' H') ∧ ∀ x H', J.yld i H x H' → g x σ H' fun σ2 H2 => tb { D with nx := N, ct := N, bk := D.nx } σ2 H2) := by
  refine ⟨fun i m σ H => m + i = xs.length ∧ st H ∧ Loop st g tb D (xs.drop i) σ H, ⟨xs.length, rfl, h0, h⟩, ?_⟩
  rintro i m σ H ⟨hm, hs, hl⟩
  by_cases hi : i < xs.length
  · right
    rw [List.drop_eq_getElem_cons hi] at hl
    refine ⟨hgo i H hi hs, fun σ' H' => st H' ∧ Loop st g tb D (xs.drop (i + 1)) σ' H', fun σ' H' ⟨a, b⟩ => ⟨m - 1, by omega, by omega, a, b⟩, fun x H' y => ?_⟩
    obtain ⟨rfl, hx⟩ := hyl i H x H' hs y
    have e : x = xs[i] := by
      have z := hx hi
      rw [List.getElem?_eq_getElem hi] at z
      exact (Option.some.inj z).symm
    subst e
    exact hl
  · left
    have e : i = xs.length := by omega
    subst e
    rw [List.drop_length] at hl
    exact ⟨hst H hs, hl⟩
/-- the same, each turn over a new pair -/
def LoopZ (st : Hp → Prop) (g : TG) (tb : TS) (D : Ends) : List (V × V) → L2.St → Hp → Prop
  | [] => fun σ H => D.nx σ H
  | p :: r => fun σ H => ∀ T H', H T = none → Same H H' → H' T = some (.tup [p.1, p.2]) → g (.ref T) σ H' fun σ2 H2 => tb { D with nx := fun σ' H' => st H' ∧ LoopZ st g tb D r σ' H', ct := fun σ' H' => st H' ∧ LoopZ st g tb D r σ' H', bk := D.nx } σ2 H2
theorem loopZ_it {J : It} {xs : List (V × V)} {st : Hp → Prop} {g : TG} {tb : TS} {D : Ends} {σ : L2.St} {H : Hp} (hgo : ∀ i H, i < xs.length → st H → J.go i H)
    (hyl : ∀ i H x H', st H → J.yld i H x H' → ∃ T, x = .ref T ∧ H T = none ∧ ∀ p, xs[i]? = some p → H' = upd H T (.tup [p.1, p.2]))
    (hst : ∀ H, st H → J.stop xs.length H) (h0 : st H) (h : LoopZ st g tb D xs σ H) : ∃ W : Nat → Nat → L2.St → Hp → Prop, (∃ m, W 0 m σ H) ∧ ∀ i m σ H, W i m σ H →
      (J.stop i H ∧ D.nx σ H) ∨ (J.go i H ∧ ∃ N : L2.St → Hp → Prop, (∀ σ' H', N σ' H' → ∃ m', m' < m ∧ W (i + 1) m' σ' H') ∧ ∀ x H', J.yld i H x H' → g x σ H' fun σ2 H2 => tb { D with nx := N, ct := N, bk := D.nx } σ2 H2) := by
  refine ⟨fun i m σ H => m + i = xs.length ∧ st H ∧ LoopZ st g tb D (xs.drop i) σ H, ⟨xs.length, rfl, h0, h⟩, ?_⟩
  rintro i m σ H ⟨hm, hs, hl⟩
  by_cases hi : i < xs.length
  · right
    rw [List.drop_eq_getElem_cons hi] at hl
    refine ⟨hgo i H hi hs, fun σ' H' => st H' ∧ LoopZ st g tb D (xs.drop (i + 1)) σ' H', fun σ' H' ⟨a, b⟩ => ⟨m - 1, by omega, by omega, a, b⟩, fun x H' y => ?_⟩
    obtain ⟨T, rfl, nT, z⟩ := hyl i H x H' hs y
    have e := z _ (List.getElem?_eq_getElem hi)
    subst e
    exact hl T _ nT (Same.new nT) upd_same
  · left
    have e : i = xs.length := by omega
    subst e
    rw [List.drop_length] at hl
    exact ⟨hst H hs, hl⟩
/-- an invariant of a loop over a row -/
theorem Loop.by {st : Hp → Prop} {g : TG} {tb : TS} {D : Ends} (Pv : List V → L2.St → Hp → Prop)
    (hs : ∀ x r σ H, Pv (x :: r) σ H → ∀ N : L2.St → Hp → Prop, (∀ σ' H', st H' → Pv r σ' H' → N σ' H') → g x σ H fun σ2 H2 => tb { D with nx := N, ct := N, bk := D.nx } σ2 H2)
    (hd : ∀ σ H, Pv [] σ H → D.nx σ H) : ∀ (xs : List V) (σ : L2.St) (H : Hp), Pv xs σ H → Loop st g tb D xs σ H
  | [], σ, H, h => hd σ H h
  | x :: r, σ, H, h => hs x r σ H h _ fun σ' H' a b => ⟨a, Loop.by Pv hs hd r σ' H' b⟩
theorem ps_imp {X : Cx} {st : Stmt} {t t' : TS} (h : PS X st t) (w : ∀ D σ H, t' D σ H → t D σ H) : PS X st t' := ⟨fun pins s σ H D I q => h.run pins s σ H D I (w D σ H q)⟩
section
variable {X : Cx} {tg e : Expr} {body : List Stmt} {tl : TE} {g : TG} {tb : TS} {pos : Pos} {ta : TA}
/-- lo, lo + 1, .. -/
def rgI (lo : Int) (n : Nat) : List V := (List.range n).map fun (i : Nat) => V.int (lo + i)
theorem rgI_get {lo : Int} {n i : Nat} (h : i < n) : (rgI lo n)[i]? = some (.int (lo + i)) := by
  unfold rgI
  rw [List.getElem?_map, List.getElem?_range h]
  rfl
theorem rgI_len (lo : Int) (n : Nat) : (rgI lo n).length = n := by simp [rgI]
def rgC (lo c : Int) (n : Nat) : List V := (List.range n).map fun (i : Nat) => V.int (lo + i * c)
theorem rgC_len (lo c : Int) (n : Nat) : (rgC lo c n).length = n := by simp [rgC]
/-- the signs of a text -/
def signs (z : Str) : List V := z.cps.toList.map fun c => V.str ⟨#[c]⟩
/-- what an iterator yields while st stands -/
structure JOk (J : It) (xs : List V) (st : Hp → Prop) : Prop where
  go : ∀ i H, i < xs.length → st H → J.go i H
  yl : ∀ i H x H', st H → J.yld i H x H' → H' = H ∧ (i < xs.length → xs[i]? = some x)
  stp : ∀ H, st H → J.stop xs.length H
abbrev TW := L2.St → Hp → (List V → (Hp → Prop) → Hp → Prop) → Prop
def wiOf (w : TW) : TI := fun σ H R => w σ H fun xs st H1 => st H1 ∧ ∀ J, JOk J xs st → R J H1
theorem pi_imp {w w' : TI} (h : PI X tg e w) (k : ∀ σ H R, w' σ H R → w σ H R) : PI X tg e w' := ⟨fun pins s σ H R I q => h.run pins s σ H R I (k σ H R q)⟩
def wL (K : PySem.W.Frag) (tl : TE) : TW := fun σ H R => tl σ H fun x H1 => match x with
  | .ref a => ∃ xs, SqL K H1 a xs ∧ R xs (fun H => SqL K H a xs) H1
  | _ => False
def wT (K : PySem.W.Frag) (tl : TE) : TW := fun σ H R => tl σ H fun x H1 => match x with
  | .ref a => ∃ xs, SqT K H1 a xs ∧ R xs (fun H => SqT K H a xs) H1
  | _ => False
def wS (tl : TE) : TW := fun σ H R => tl σ H fun x H1 => match x with
  | .str z => R (signs z) (fun _ => True) H1
  | _ => False
def wR1 (ta : TA) : TW := fun σ H R => ta σ H fun vs H1 => match vs with
  | [.int j] => (j < 2 ^ 62 ∧ -(2 ^ 62) ≤ j) ∧ R (rgI 0 j.toNat) (fun _ => True) H1
  | _ => False
def wR2 (ta : TA) : TW := fun σ H R => ta σ H fun vs H1 => match vs with
  | [.int i, .int j] => (-(2 ^ 62) ≤ i ∧ i < 2 ^ 62 ∧ -(2 ^ 62) ≤ j ∧ j < 2 ^ 62) ∧ R (rgI i (j - i).toNat) (fun _ => True) H1
  | _ => False
def wR3 (ta : TA) : TW := fun σ H R => ta σ H fun vs H1 => match vs with
  | [.int i, .int j, .int k] => ∃ n, RgC i j k n ∧ R (rgC i k n) (fun _ => True) H1
  | _ => False
theorem jok_L {K : PySem.W.Frag} {a : Addr} {xs : List V} : JOk (Itl K a) xs (fun H => SqL K H a xs) := ⟨fun i H hi h => ⟨xs, xs[i], h, List.getElem?_eq_getElem hi⟩, fun i H x H' h y => ⟨y.1, fun _ => y.2 _ h⟩, fun H h => ⟨xs, h, Nat.le_refl _⟩⟩
theorem jok_T {K : PySem.W.Frag} {a : Addr} {xs : List V} : JOk (Itt K a) xs (fun H => SqT K H a xs) := ⟨fun i H hi h => ⟨xs, xs[i], h, List.getElem?_eq_getElem hi⟩, fun i H x H' h y => ⟨y.1, fun _ => y.2 _ h⟩, fun H h => ⟨xs, h, Nat.le_refl _⟩⟩
theorem jok_R {lo : Int} {n : Nat} : JOk (Itr lo n) (rgI lo n) (fun _ => True) := ⟨fun i H hi _ => by rw [rgI_len] at hi; exact hi, fun i H x H' _ y => ⟨y.1, fun hi => by rw [rgI_len] at hi; rw [rgI_get hi, y.2]⟩, fun H _ => by rw [rgI_len]; exact Nat.le_refl _⟩
theorem jok_C {lo c : Int} {n : Nat} : JOk (Itc lo c n) (rgC lo c n) (fun _ => True) := by
  refine ⟨fun i H hi _ => by rw [rgC_len] at hi; exact hi, fun i H x H' _ y => ⟨y.1, fun hi => ?_⟩, fun H _ => by rw [rgC_len]; exact Nat.le_refl _⟩
  rw [rgC_len] at hi
  unfold rgC
  rw [List.getElem?_map, List.getElem?_range hi, y.2]
  rfl
theorem jok_S {z : Str} : JOk (Its z) (signs z) (fun _ => True) := by
  have el : (signs z).length = z.cps.size := by simp [signs]
  refine ⟨fun i H hi _ => by rw [el] at hi; exact hi, fun i H x H' _ y => ⟨y.1, fun hi => ?_⟩, fun H _ => by rw [el]; exact Nat.le_refl _⟩
  obtain ⟨_, c, hc, rfl⟩ := y
  unfold signs
  rw [List.getElem?_map, Array.getElem?_toList, hc]
  rfl
/-- what a row of TW wants may be handed on weaker -/
def upW (w : TW) : TW := fun σ H R => ∃ R0, w σ H R0 ∧ ∀ xs st H', R0 xs st H' → R xs st H'
theorem fi_L (hi : PE X e tl) : PI X tg e (wiOf (upW (wL X.K tl))) := pi_imp (pi_list (pe_up hi)) fun σ H R ⟨R0, q0, k⟩ => ⟨_, q0, fun x H1 q1 => by
  split at q1
  · obtain ⟨xs, h, r⟩ := q1
    obtain ⟨h1, q⟩ := k _ _ _ r
    exact ⟨_, rfl, ⟨_, h⟩, q _ jok_L⟩
  · exact q1.elim⟩
theorem fi_T (hi : PE X e tl) : PI X tg e (wiOf (upW (wT X.K tl))) := pi_imp (pi_tup (pe_up hi)) fun σ H R ⟨R0, q0, k⟩ => ⟨_, q0, fun x H1 q1 => by
  split at q1
  · obtain ⟨xs, h, r⟩ := q1
    obtain ⟨h1, q⟩ := k _ _ _ r
    exact ⟨_, rfl, ⟨_, h⟩, q _ jok_T⟩
  · exact q1.elim⟩
theorem fi_S (hi : PE X e tl) : PI X tg e (wiOf (upW (wS tl))) := pi_imp (pi_str (pe_up hi)) fun σ H R ⟨R0, q0, k⟩ => ⟨_, q0, fun x H1 q1 => by
  split at q1
  · exact ⟨_, rfl, (k _ _ _ q1).2 _ jok_S⟩
  · exact q1.elim⟩
theorem fi_R1 {a : Expr} {p : Pos} (hgl : Gl X "range") (hm : X.mg "range" = none) (ha : PA X [a] ta) (hst : starEach [a] X.env = [(false, eval a X.env)] := by rfl) : PI X tg (.Call (.Name "range" p) [a] [] pos) (wiOf (upW (wR1 ta))) := pi_imp (pi_range1 hgl hm (pa_up ha) hst) fun σ H R ⟨R0, q0, k⟩ => ⟨_, q0, fun vs H1 q1 => by
  split at q1
  · exact ⟨_, rfl, q1.1.2, q1.1.1, (k _ _ _ q1.2).2 _ jok_R⟩
  · exact q1.elim⟩
theorem fi_R2 {a b : Expr} {p : Pos} (hgl : Gl X "range") (hm : X.mg "range" = none) (ha : PA X [a, b] ta) (hst : starEach [a, b] X.env = [(false, eval a X.env), (false, eval b X.env)] := by rfl) (hst2 : starEach [b] X.env = [(false, eval b X.env)] := by rfl) :
    PI X tg (.Call (.Name "range" p) [a, b] [] pos) (wiOf (upW (wR2 ta))) := pi_imp (pi_range2 hgl hm (pa_up ha) hst hst2) fun σ H R ⟨R0, q0, k⟩ => ⟨_, q0, fun vs H1 q1 => by
  split at q1
  · exact ⟨_, _, rfl, q1.1, (k _ _ _ q1.2).2 _ jok_R⟩
  · exact q1.elim⟩
theorem fi_R3 {a b c : Expr} {p : Pos} (hgl : Gl X "range") (hm : X.mg "range" = none) (ha : PA X [a, b, c] ta) (hst : starEach [a, b, c] X.env = (false, eval a X.env) :: starEach [b, c] X.env := by rfl) (hpl : (backTo pos (starEach [b, c] X.env)).any (·.1) = false := by rfl) :
    PI X tg (.Call (.Name "range" p) [a, b, c] [] pos) (wiOf (upW (wR3 ta))) := pi_imp (pi_range3 hgl hm (pa_up ha) hst hpl) fun σ H R ⟨R0, q0, k⟩ => ⟨_, q0, fun vs H1 q1 => by
  split at q1
  · obtain ⟨n, h, r⟩ := q1
    obtain ⟨h1, q⟩ := k _ _ _ r
    exact ⟨_, _, _, n, rfl, h, q _ jok_C⟩
  · exact q1.elim⟩
/-- for -/
def tForW (w : TW) (g : TG) (tb : TS) : TS := fun D σ H => w σ H fun xs st H1 => st H1 ∧ Loop st g tb D xs σ H1
theorem fs_for {w : TW} (hp : PassesOwn (model X.prog X.w) X.A X.env X.xe) (hc : X.calm = true) (h : PI X tg e (wiOf (upW w))) (hg : PG X tg g) (hb : PSs X body tb) (hs : ∀ x, foldedSetIterable e X.env x = pure x := by intro _; rfl) :
    PS X (.For tg e body [] pos) (tForW w g tb) := ps_imp (ps_for hp hc h hg hb hs) fun D σ H q => ⟨_, q, fun xs st H' ⟨h1, l⟩ => ⟨h1, fun J j => loop_it j.go j.yl j.stp h1 l⟩⟩
end
section
variable {X : Cx} {tg e : Expr} {body : List Stmt} {tl : TE} {g : TG} {tb : TS} {pos : Pos} {ta : TA}
/-- zip of two tuples, of two lists -/
theorem fs_forZ {e e2 : Expr} {p tpos : Pos} {elts : List Expr} {kk : Nat} (hp : PassesOwn (model X.prog X.w) X.A X.env X.xe) (hc : X.calm = true) (hgl : Gl X "zip") (hm : X.mg "zip" = none) (ha : PA X [e, e2] ta) (hg : PG X (.Tuple elts kk tpos) g) (hb : PSs X body tb)
    (hst : starEach [e, e2] X.env = (false, eval e X.env) :: starEach [e2] X.env := by rfl) (hpl : (backTo pos (starEach [e2] X.env)).any (·.1) = false := by rfl) (hs : ∀ x, foldedSetIterable (.Call (.Name "zip" p) [e, e2] [] pos) X.env x = pure x := by intro _; rfl) {pos' : Pos} :
    PS X (.For (.Tuple elts kk tpos) (.Call (.Name "zip" p) [e, e2] [] pos) body [] pos') (fun D σ H => ta σ H fun vs H1 => match vs with
      | [.ref a, .ref b] => ∃ xs ys, (SqT X.K H1 a xs ∧ SqT X.K H1 b ys) ∧ xs.length = ys.length ∧ LoopZ (fun H => SqT X.K H a xs ∧ SqT X.K H b ys) g tb D (xs.zip ys) σ H1
      | _ => False) := ps_imp (ps_for hp hc (RZ.pi_zipA hgl hm (pa_up ha) hst hpl) hg hb hs) fun D σ H q => ⟨_, q, fun vs H1 q1 => by
  split at q1
  · rename_i a b
    obtain ⟨xs, ys, hxy, hl, q⟩ := q1
    have hz : (xs.zip ys).length = xs.length := by rw [List.length_zip, hl, Nat.min_self]
    refine ⟨a, b, xs, ys, rfl, .inr ⟨hxy.1, hxy.2, loopZ_it (J := RZ.ItzT X.K a b) (st := fun H => SqT X.K H a xs ∧ SqT X.K H b ys) (fun i H hi h => ?_) (fun i H x H' h y => ?_) (fun H h => ?_) hxy q⟩⟩
    · rw [hz] at hi
      exact ⟨xs, ys, xs[i], ys[i]'(hl ▸ hi), h.1, h.2, List.getElem?_eq_getElem hi, List.getElem?_eq_getElem (hl ▸ hi)⟩
    · obtain ⟨T, x1, x2, rfl, nT, rfl, f1, f2⟩ := y
      refine ⟨T, rfl, nT, fun p hp => ?_⟩
      rw [List.getElem?_zip_eq_some] at hp
      have e1 := (f1 _ h.1).symm.trans hp.1
      have e2 := (f2 _ h.2).symm.trans hp.2
      rw [Option.some.inj e1, Option.some.inj e2]
    · exact ⟨xs, ys, h.1, h.2, .inl (by rw [hz]; exact Nat.le_refl _)⟩
  · exact q1.elim⟩
end

/-! ### changes -/
/-- all but what stands at a is as it was -/
def But (a : Addr) (H H' : Hp) : Prop := ∀ b o, b ≠ a → H b = some o → H' b = some o
theorem But.upd {a : Addr} {H : Hp} {o : HO} : But a H (L2.upd H a o) := fun b u n e => by rw [upd_ne n]; exact e
theorem But.of {a : Addr} {H H' : Hp} (h : Same H H') : But a H H' := fun b o _ e => h b o e
theorem But.trans {a : Addr} {H H1 H2 : Hp} (x : But a H H1) (y : But a H1 H2) : But a H H2 := fun b o n e => y b o n (x b o n e)
/-- what is new to H0 may change -/
theorem Same.but {a : Addr} {H0 H H' : Hp} (s : Same H0 H) (n : H0 a = none) (b : But a H H') : Same H0 H' := fun c o e => b c o (ne_of_none e n) (s c o e)
theorem Same.get {H H' : Hp} {b : Addr} {o : HO} (s : Same H H') (e : H b = some o) : H' b = some o := s b o e
theorem But.get {a : Addr} {H H' : Hp} {b : Addr} {o u : HO} (s : But a H H') (e : H b = some o) (ha : H a = some u) (d : o ≠ u) : H' b = some o := s b o (ne_of e ha d) e
theorem SqT.same {K : PySem.W.Frag} {H H' : Hp} {a : Addr} {xs : List V} (e : Same H H') (h : SqT K H a xs) : SqT K H' a xs := by
  rcases h with (h | ⟨o, h⟩) | h
  · exact .inl (.inl (e _ _ h))
  · exact .inl (.inr ⟨o, e _ _ h⟩)
  · exact .inr h
theorem Sq.same {K : PySem.W.Frag} {H H' : Hp} {a : Addr} {xs : List V} (e : Same H H') (h : Sq K H a xs) : Sq K H' a xs := by
  rcases h with h | h
  · exact .inl (e.seq h)
  · exact .inr (SqT.same e h)
/-- the object at a becomes o -/
def Chg (H : Hp) (a : Addr) (o : HO) (Q : Hp → Prop) : Prop := ∀ H', But a H H' → H' a = some o → Q H'
theorem Chg.go {H : Hp} {a : Addr} {o : HO} {Q : Hp → Prop} (h : Chg H a o Q) : Q (upd H a o) := h _ But.upd upd_same
section
variable {X : Cx} {o e i : Expr} {to te ti : TE} {pos apos cpos pos' : Pos}
/-- xs.append(e) -/
def tApp (to te : TE) : TE := fun σ H Q => to σ H fun x H1 => match x with
  | .ref l => (∃ ys, H1 l = some (.lst ys)) ∧ te σ H1 fun y H2 => ∃ xs, H2 l = some (.lst xs) ∧ xs.length < sizeLine ∧ Chg H2 l (.lst (xs ++ [y])) (Q .non)
  | _ => False
theorem fe_append (ho : PE X o to) (he : PE X e te) (hbase : attributeBase o "append" X.env (eval o X.env) = eval o X.env := by rfl)
    (hfew : ((backTo cpos (starEach [e] X.env)).all (fun x => !x.1) && (backToKw cpos (keywordEach [] X.env)).all (fun x => x.1.isSome)
      && decide ([e].length + ([] : List Keyword).length + (if ([] : List Keyword).isEmpty then 0 else 1) < 30)) = true := by rfl)
    (hline : (apos.endLine == cpos.line) = true := by rfl) (hs : starEach [e] X.env = (false, eval e X.env) :: starEach [] X.env := by rfl) (hplain : (backTo cpos (starEach [] X.env)).any (·.1) = false := by rfl) :
    PE X (.Call (.Attribute o "append" apos) [e] [] cpos) (tApp to te) :=
  pe_imp (pe_bm PySem.F.plainAttrs_list PySem.F.slot_list_append PySem.F.type_list_append mt_append (pe_up ho) (pa_cons (pe_up he) pa_nil hs) hbase hfew hline hs hplain) fun σ H Q q => ⟨_, q, fun x H1 q1 => by
    split at q1
    · rename_i l
      obtain ⟨⟨ys, hy⟩, q1⟩ := q1
      refine ⟨.inl ⟨rfl, ys, .of hy⟩, ?_⟩
      exact ⟨_, q1, fun y H2 ⟨xs, h1, h2, q2⟩ => ⟨l, xs, y, rfl, rfl, h1, h2, q2.go⟩⟩
    · exact q1.elim⟩
/-- d[k] = e -/
def tDPut (td ty tv : TE) : TS := fun D σ H => tv σ H fun v H1 => td σ H1 fun x H2 => ty σ H2 fun y H3 => match x, y with
  | .ref a, .str k => ∃ kvs, H3 a = some (.dK kvs) ∧ kvs.length < sizeLine ∧ Chg H3 a (.dK (putK kvs (Sum.inr k : Key) v)) (D.nx σ)
  | .ref a, .int k => ∃ kvs, H3 a = some (.dK kvs) ∧ kvs.length < sizeLine ∧ Chg H3 a (.dK (putK kvs (Sum.inl k : Key) v)) (D.nx σ)
  | _, _ => False
theorem fs_dput {value : Expr} {td ty tv : TE} (hu : X.A.units + 1 < cLine) (ho : PE X o td) (hi : PE X i ty) (hv : PE X value tv) (hs : swapsWith value (some (.Subscript o i pos')) pos.line X.env = pure false := by rfl) :
    PS X (.Assign [.Subscript o i pos'] value pos) (tDPut td ty tv) := ps_imp (ps_dput hu (pe_up ho) (pe_up hi) (pe_up hv) hs) fun D σ H q => ⟨_, q, fun v H1 q1 => ⟨_, q1, fun x H2 q2 => ⟨_, q2, fun y H3 q3 => by
    split at q3
    · obtain ⟨kvs, h, hl, q⟩ := q3
      exact ⟨_, _, rfl, DPut.k (k := Sum.inr _) h hl, q.go⟩
    · obtain ⟨kvs, h, hl, q⟩ := q3
      exact ⟨_, _, rfl, DPut.k (k := Sum.inl _) h hl, q.go⟩
    · exact q3.elim⟩⟩⟩
/-- xs[i] = v of a list; d[k] = v (as targets) -/
def gSetL : TSet := fun o i v H Q => match o, i with
  | .ref a, .int i => ∃ xs j, H a = some (.lst xs) ∧ ixN xs.length i = some j ∧ Chg H a (.lst (xs.set j v)) Q
  | _, _ => False
theorem g_setL : PSet X gSetL := fun pins s σ H o i v ov iv u Q I ro ri rv q => by
  unfold gSetL at q
  split at q
  · obtain ⟨xs, j, h, hj, q⟩ := q
    exact set_list pins s σ H _ _ v ov iv u Q I ro ri rv ⟨_, _, _, _, rfl, rfl, h, hj, q.go⟩
  · exact q.elim
def gSetD : TSet := fun o i v H Q => match o, i with
  | .ref a, .str k => ∃ kvs, H a = some (.dK kvs) ∧ kvs.length < sizeLine ∧ Chg H a (.dK (putK kvs (Sum.inr k : Key) v)) Q
  | .ref a, .int k => ∃ kvs, H a = some (.dK kvs) ∧ kvs.length < sizeLine ∧ Chg H a (.dK (putK kvs (Sum.inl k : Key) v)) Q
  | _, _ => False
theorem g_setD (hu : X.A.units + 1 < cLine) : PSet X gSetD := fun pins s σ H o i v ov iv u Q I ro ri rv q => by
  unfold gSetD at q
  split at q
  · obtain ⟨kvs, h, hl, q⟩ := q
    exact set_dict hu pins s σ H _ _ v ov iv u Q I ro ri rv ⟨_, _, rfl, DPut.k (k := Sum.inr _) h hl, q.go⟩
  · obtain ⟨kvs, h, hl, q⟩ := q
    exact set_dict hu pins s σ H _ _ v ov iv u Q I ro ri rv ⟨_, _, rfl, DPut.k (k := Sum.inl _) h hl, q.go⟩
  · exact q.elim
/-! ### fields of instances -/
/-- a class of the text: where it stands, its name in the module -/
structure ClsAt (K : PySem.W.Frag) (mg : Str → Option Value) (x : Str) (C : Addr) : Prop where
  cl : Cls K C
  g : mg x = some (.ref C)
def tFldF (C : Addr) (f : Str) (te : TE) : TE := fun σ H Q => te σ H fun x H1 => match x with
  | .ref a => ∃ dx fs v, H1 a = some (.ins C dx fs) ∧ fs.lookup f = some v ∧ Q v H1
  | _ => False
theorem fe_fld {C : Addr} {f : Str} (c : Cls X.K C) (n : NoAttr X.K C f) (he : PE X e te) (hb : attributeBase e f X.env (eval e X.env) = eval e X.env := by rfl) : PE X (.Attribute e f pos) (tFldF C f te) :=
  pe_imp (pe_fld (pe_up he) hb) fun σ H Q q => ⟨_, q, fun x H1 q1 => by
    split at q1
    · obtain ⟨dx, fs, v, h, hl, q⟩ := q1
      exact ⟨_, _, _, _, _, rfl, h, c, n, hl, q⟩
    · exact q1.elim⟩
def tSetF (C : Addr) (f : Str) (to te : TE) : TS := fun D σ H => te σ H fun y H1 => to σ H1 fun x H2 => match x with
  | .ref a => ∃ dx fs, H2 a = some (.ins C dx fs) ∧ fs.length < 1000 ∧ Chg H2 a (.ins C dx (putF f y fs)) (D.nx σ)
  | _ => False
theorem fs_fld {C : Addr} {f : Str} {value : Expr} {tv : TE} (c : Cls X.K C) (n : NoAttr X.K C f) (ho : PE X o to) (hv : PE X value tv) (hs : swapsWith value (some (.Attribute o f pos')) pos.line X.env = pure false := by rfl) :
    PS X (.Assign [.Attribute o f pos'] value pos) (tSetF C f to tv) := ps_imp (ps_fld (pe_up ho) (pe_up hv) hs) fun D σ H q => ⟨_, q, fun y H1 q1 => ⟨_, q1, fun x H2 q2 => by
    split at q2
    · obtain ⟨dx, fs, h, hl, q⟩ := q2
      exact ⟨_, _, _, _, rfl, h, c, n, hl, q.go⟩
    · exact q2.elim⟩⟩
end
/-! ### comprehensions, item by item -/
/-- the items are told by f, objects may be made on the way -/
def Comp (st : Hp → Prop) (g : TG) (tt : TT) (te : TE) (vs : List Nat) (σ : L2.St) (D : Addr) (Q : Hp → Prop) : List V → Hp → Prop
  | [] => fun H => Q H
  | x :: r => fun H => g x (wipe σ vs) H fun σ2 H2 => wipe σ2 vs = wipe σ vs ∧ tt σ2 H2 fun b H3 =>
    if b = true then te σ2 H3 fun y H4 => ∃ acc, H4 D = some (.lst acc) ∧ acc.length < sizeLine ∧ st (upd H4 D (.lst (acc ++ [y]))) ∧ Comp st g tt te vs σ D Q r (upd H4 D (.lst (acc ++ [y]))) else st H3 ∧ Comp st g tt te vs σ D Q r H3
theorem comp_it {J : It} {xs : List V} {st : Hp → Prop} {g : TG} {tt : TT} {te : TE} {vs : List Nat} {σ : L2.St} {D : Addr} {H1 : Hp} {Q : Hp → Prop} (hgo : ∀ i H, i < xs.length → st H → J.go i H) (hyl : ∀ i H x H', st H → J.yld i H x H' → H' = H ∧ (i < xs.length → xs[i]? = some x))
    (hst : ∀ H, st H → J.stop xs.length H) (h0 : st (upd H1 D (.lst []))) (h : Comp st g tt te vs σ D Q xs (upd H1 D (.lst []))) : ∃ W : Nat → Nat → Hp → Prop, (∃ m, W 0 m (upd H1 D (.lst []))) ∧ ∀ i m H, W i m H →
      (J.stop i H ∧ Q H) ∨ (J.go i H ∧ ∃ Nx : Hp → Prop, (∀ H', Nx H' → ∃ m', m' < m ∧ W (i + 1) m' H') ∧ ∀ x H', J.yld i H x H' → g x (wipe σ vs) H' fun σ2 H2 => wipe σ2 vs = wipe σ vs ∧ tt σ2 H2 fun b H3 =>
        if b = true then te σ2 H3 fun y H4 => ∃ acc, H4 D = some (.lst acc) ∧ acc.length < sizeLine ∧ Nx (upd H4 D (.lst (acc ++ [y]))) else Nx H3) := by
  refine ⟨fun i m H => m + i = xs.length ∧ st H ∧ Comp st g tt te vs σ D Q (xs.drop i) H, ⟨xs.length, rfl, h0, h⟩, ?_⟩
  rintro i m H ⟨hm, hs, hl⟩
  by_cases hi : i < xs.length
  · right
    rw [List.drop_eq_getElem_cons hi] at hl
    refine ⟨hgo i H hi hs, fun H' => st H' ∧ Comp st g tt te vs σ D Q (xs.drop (i + 1)) H', fun H' ⟨a, b⟩ => ⟨m - 1, by omega, by omega, a, b⟩, fun x H' y => ?_⟩
    obtain ⟨rfl, hx⟩ := hyl i H x H' hs y
    have e : x = xs[i] := by
      have z := hx hi
      rw [List.getElem?_eq_getElem hi] at z
      exact (Option.some.inj z).symm
    subst e
    exact hl
  · left
    have e : i = xs.length := by omega
    subst e
    rw [List.drop_length] at hl
    exact ⟨hst H hs, hl⟩
/-- each item by a function; what is made on the way stands beside -/
theorem Comp.map {st : Hp → Prop} {g : TG} {te : TE} {vs : List Nat} {σ : L2.St} {D : Addr} {Q : Hp → Prop} {H0 : Hp} (f : V → V) (n0 : H0 D = none) (hst : ∀ H, Same H0 H → st H)
    (hx : ∀ (x : V) (H : Hp) (R : VK), Same H0 H → (∀ H', Same H H' → R (f x) H') → g x (wipe σ vs) H fun σ2 H2 => wipe σ2 vs = wipe σ vs ∧ te σ2 H2 R) :
    ∀ (xs : List V) (acc : List V) (H : Hp), acc.length + xs.length ≤ sizeLine → Same H0 H → H D = some (.lst acc) → (∀ H', Same H0 H' → H' D = some (.lst (acc ++ xs.map f)) → Q H') → Comp st g tYes te vs σ D Q xs H
  | [], acc, H, _, s, hD, q => q H s (by rw [List.map_nil, List.append_nil]; exact hD)
  | x :: r, acc, H, hl, s, hD, q => by
    rw [List.length_cons] at hl
    have k := hx x H (fun y H4 => ∃ acc, H4 D = some (.lst acc) ∧ acc.length < sizeLine ∧ st (upd H4 D (.lst (acc ++ [y]))) ∧ Comp st g tYes te vs σ D Q r (upd H4 D (.lst (acc ++ [y])))) s fun H' s' => by
      have s2 : Same H0 (upd H' D (.lst (acc ++ [f x]))) := Same.but (s.trans s') n0 But.upd
      refine ⟨acc, s' _ _ hD, by omega, hst _ s2, ?_⟩
      refine Comp.map f n0 hst hx r (acc ++ [f x]) _ (by rw [List.length_append, List.length_singleton]; omega) s2 upd_same fun H2 s3 e => q H2 s3 ?_
      rw [e, List.append_assoc]
      rfl
    exact k

section
variable {X : Cx} {elt tg iter : Expr} {ifs : List Expr} {scope : Scope} {own : List (Str × Nat)} {pos : Pos} {g : TG} {tt : TT} {te : TE} {w : TW}
def tLcW (w : TW) (g : TG) (tt : TT) (te : TE) (vs : List Nat) : TE := fun σ H Q => w σ H fun xs st H1 => st H1 ∧ ∀ D H2, H1 D = none → Same H1 H2 → H2 D = some (.lst []) → st H2 ∧ Comp st g tt te vs σ D (Q (.ref D)) xs H2
theorem fe_lc (hc : X.calm = true) (hN : X.N.Nodup) (hi : PI X tg iter (wiOf (upW w))) (ok : BlkOk X.N X.env.scope scope own)
    (hg : ∀ (s : Shared) (H : Hp) (C : Addr) (cl : List (Str × Addr)) (fp : List Addr), PG (X.blk s H scope (compEnvC scope cl C X.env) fp) tg g) (ht : ∀ (s : Shared) (H : Hp) (C : Addr) (cl : List (Str × Addr)) (fp : List Addr), PTs (X.blk s H scope (compEnvC scope cl C X.env) fp) ifs tt)
    (he : ∀ (s : Shared) (H : Hp) (C : Addr) (cl : List (Str × Addr)) (fp : List Addr), PE (X.blk s H scope (compEnvC scope cl C X.env) fp) elt te) (hs : ∀ x, foldedSetIterable iter X.env x = pure x := by intro _; rfl) :
    PE X (.ListComp elt [⟨tg, iter, ifs, 0⟩] scope pos) (tLcW w g tt te (own.map (·.2))) := pe_imp (pe_lc hc hN hi ok hg ht he hs) fun σ H Q q => ⟨_, q, fun xs st H1 ⟨h1, k⟩ => ⟨h1, fun J j D n => by
    obtain ⟨h2, c⟩ := k D _ n (Same.new n) upd_same
    exact comp_it j.go j.yl j.stp h2 c⟩⟩
theorem fs_setLc {i : Nat} {y : Str} {py spos : Pos} (hc : X.calm = true) (hN : X.N.Nodup) (hy : X.N[i]? = some y) (hyl : X.env.scope.names.lookup y = some .local)
    (hsw : swapsWith (.ListComp elt [⟨tg, iter, ifs, 0⟩] scope pos) (some (.Name y py)) spos.line X.env = pure true) (hi : PI X tg iter (wiOf (upW w))) (ok : BlkOk X.N X.env.scope scope own)
    (hg : ∀ (s : Shared) (H : Hp) (C : Addr) (cl : List (Str × Addr)) (fp : List Addr), PG (X.blk s H scope (compEnvC scope cl C X.env) fp) tg g) (ht : ∀ (s : Shared) (H : Hp) (C : Addr) (cl : List (Str × Addr)) (fp : List Addr), PTs (X.blk s H scope (compEnvC scope cl C X.env) fp) ifs tt)
    (he : ∀ (s : Shared) (H : Hp) (C : Addr) (cl : List (Str × Addr)) (fp : List Addr), PE (X.blk s H scope (compEnvC scope cl C X.env) fp) elt te) (hs : ∀ x, foldedSetIterable iter X.env x = pure x := by intro _; rfl) :
    PS X (.Assign [.Name y py] (.ListComp elt [⟨tg, iter, ifs, 0⟩] scope pos) spos) (tAsg (tLcW w g tt te (own.map (·.2))) (gName i)) := ps_imp (ps_setLc hc hN hy hyl hsw hi ok hg ht he hs) fun D σ H q => ⟨_, q, fun xs st H1 ⟨h1, k⟩ => ⟨h1, fun J j Dl n => by
    obtain ⟨h2, c⟩ := k Dl _ n (Same.new n) upd_same
    exact comp_it j.go j.yl j.stp h2 c⟩⟩
end

/-! ### methods -/
structure MethAt (K : PySem.W.Frag) (C : Addr) (m qual : Str) (st : Stmt) : Prop where
  ex : ∃ f fd, Fun K m qual st f fd ∧ Meth K C m f
structure MCallee (P : Program) (w : World) (K : PySem.W.Frag) (mg : Str → Option Value) (base : Heap) (k : Nat) (C : Addr) (m : Str) (ps : List Str) (sp : Sp) : Prop where
  ex : ∃ f fd, FnOk P w K mg base (L2.CX P w) k f fd ps sp ∧ Cls K C ∧ Meth K C m f ∧ Binds K fd ps []
section
variable {P : Program} {w : World} {K : PySem.W.Frag} {mg : Str → Option Value} {base : Heap}
theorem mcallee_of {C : Addr} {m qual : Str} {st : Stmt} {N ps : List Str} {k : Nat} {sp : Sp} (cl : Cls K C) (F : MethAt K C m qual st) (S : FnScope N ps (defScope st))
    (hb : ∀ (kV doc pm : Value) (an : Option Addr) (cdv ct : Value) (us : List Value), us.length = ps.length → bindArgs (PySem.W.fnOf m qual (defArgs st) (defBody st) (defScope st) .none kV doc pm an cdv ct) ⟨us, []⟩ = pure (ps.zip us))
    (len : ∀ vs H Q E, sp vs H Q E → vs.length = ps.length)
    (hbody : ∀ (f : Addr) (cdv : Value) (A : Around) (outer : List Env) (s : Shared) (H : Hp) (vs : List V) (Q : VK) (E : XK), Room k (cxOf (L2.CX P w) P w K mg base N qual (defScope st) f cdv A outer s H E).A →
      Takes (cxOf (L2.CX P w) P w K mg base N qual (defScope st) f cdv A outer s H E) (fun cls d _ H => E cls d H) →
      PassesOwn (model P w) (cxOf (L2.CX P w) P w K mg base N qual (defScope st) f cdv A outer s H E).A (cxOf (L2.CX P w) P w K mg base N qual (defScope st) f cdv A outer s H E).env (cxOf (L2.CX P w) P w K mg base N qual (defScope st) f cdv A outer s H E).xe → sp vs H Q E →
      ∃ t, PSs (cxOf (L2.CX P w) P w K mg base N qual (defScope st) f cdv A outer s H E) (defBody st) t ∧ t { nx := fun _ H' => Q .non H', rt := Q } (start N vs) H) :
    MCallee P w K mg base (k + 1) C m ps sp := by
  obtain ⟨f, fd, F, hm⟩ := F.ex
  exact ⟨f, fd, F.okX S len fun cdv A outer s H vs Q E hr h => hbody f cdv A outer s H vs Q E hr (takes_of rfl rfl rfl rfl) (passes_of rfl) h, cl, hm, F.binds hb⟩
end
section
variable {X : Cx} {W : WX} {j k : Nat} {C : Addr} {m x : Str} {ps : List Str} {sp : Sp} {p pos apos pos2 : Pos} {o e : Expr} {es : List Expr} {t : TA} {ta te : TE}
/-- o.m(e, ..) of an instance of the class at C -/
def tMethF (C : Addr) (m : Str) (sp : Sp) (W : WX) (ta : TE) (t : TA) : TE := fun σ H Q => ta σ H fun x H1 => match x with
  | .ref a => (∃ dx fs, H1 a = some (.ins C dx fs) ∧ fs.lookup m = none) ∧ t σ H1 fun vs H2 => sp (.ref a :: vs) H2 Q (fun cls d H' => W cls d σ H')
  | _ => False
theorem fc_meth {pl : Sem Bool} (c : MCallee X.prog X.w X.K X.mg X.base k C m ps sp) (hr : Room j X.A) (hk : k ≤ j) (tk : Takes X W) (ho : PE X o ta) (ha : PA X (e :: es) t)
    (hst : starEach (e :: es) X.env = (false, eval e X.env) :: starEach es X.env := by rfl) (hpl : (backTo pos (starEach es X.env)).any (·.1) = false := by rfl)
    (ht : eval (.Call (.Attribute o m apos) (e :: es) [] pos) X.env = (do
      let ov ← eval o X.env; standAt apos.atName; let (f, first) ← holding [ov] (getMethod ov m pl)
      callWith pos f first (backTo pos (starEach (e :: es) X.env)) (backToKw pos (keywordEach [] X.env))) := by rfl) :
    PE X (.Call (.Attribute o m apos) (e :: es) [] pos) (tMethF C m sp W ta t) := by
  obtain ⟨g, fd, F, cl, hm, hb⟩ := c.ex
  refine ⟨fun pins s σ H Q I h => PySem.W.methodCall_KW (pl := pl) (thn (ho.run pins s σ H _ I h) fun u s1 ⟨x, H1, J, rx, q⟩ => ?_) ht⟩
  cases x <;> first | exact q.elim | skip
  rename_i a
  cases rx
  obtain ⟨⟨dx, fs, ea, l⟩, q⟩ := q
  refine getmeth_ok J ea cl hm l (PySem.W.callWith_K (first := [.ref a]) (h₀ := X.base) J.ok.mod.kin hm.kp (thn (ha.run pos pins s1 σ H1 _ J q) fun us s2 ⟨vs, H2, J2, rv, q2⟩ => ⟨J2.kIn, ?_⟩) hst hpl)
  exact run_fnS (us := .ref a :: us) (vs := .ref a :: vs) (E := WE W) F (hr.mono hk) hb (passAt tk σ) J2 (.cons rfl rv) q2
theorem fc_meth0 {pl : Sem Bool} (c : MCallee X.prog X.w X.K X.mg X.base k C m ps sp) (hr : Room j X.A) (hk : k ≤ j) (tk : Takes X W) (ho : PE X o ta)
    (ht : eval (.Call (.Attribute o m apos) [] [] pos) X.env = (do
      let ov ← eval o X.env; standAt apos.atName; let (f, first) ← holding [ov] (getMethod ov m pl)
      callWith pos f first (backTo pos (starEach [] X.env)) (backToKw pos (keywordEach [] X.env))) := by rfl) :
    PE X (.Call (.Attribute o m apos) [] [] pos) (tMethF C m sp W ta tNil) := by
  obtain ⟨g, fd, F, cl, hm, hb⟩ := c.ex
  refine ⟨fun pins s σ H Q I h => PySem.W.methodCall_KW (pl := pl) (thn (ho.run pins s σ H _ I h) fun u s1 ⟨x, H1, J, rx, q⟩ => ?_) ht⟩
  cases x <;> first | exact q.elim | skip
  rename_i a
  cases rx
  obtain ⟨⟨dx, fs, ea, l⟩, q⟩ := q
  refine getmeth_ok J ea cl hm l (PySem.W.callWith_K0 (first := [.ref a]) J.kIn hm.kp ?_)
  exact run_fnS (us := [.ref a]) (vs := [.ref a]) (E := WE W) F (hr.mono hk) hb (passAt tk σ) J (.cons rfl .nil) q
end
/-! ### errors of the text's own, with one field -/
structure InitAt (K : PySem.W.Frag) (C : Addr) (qual : Str) (st : Stmt) : Prop where
  ex : ∃ f fd, Fun K "__init__" qual st f fd ∧ PySem.W.findIn K (.ref C) "__init__" = some (some (.ref f)) ∧ PySem.W.typeIn K (.ref f) = some (.type "function")
structure Raiser (P : Program) (w : World) (K : PySem.W.Frag) (mg : Str → Option Value) (base : Heap) (x : Str) (C : Addr) (f : Str) : Prop where
  T : OexC K C
  g : mg x = some (.ref C)
  ex : ∃ fI fd, PySem.W.findIn K (.ref C) "__init__" = some (some (.ref fI)) ∧ PySem.W.typeIn K (.ref fI) = some (.type "function") ∧
    FnOk P w K mg base (L2.CX P w) 1 fI fd (["self", f] : List Str) (s2 fun a v H Q _ => ∃ p, a = .ref p ∧ H p = some (exo p C none) ∧ ∀ dx, H dx = none → dx ≠ p → Q .non (upd (upd H dx (exd dx [(f, v)])) p (exo p C (some dx)))) ∧ Binds K fd (["self", f] : List Str) []
theorem raiser_of {P : Program} {w : World} {K : PySem.W.Frag} {mg : Str → Option Value} {base : Heap} {x : Str} {C : Addr} {f qual : Str} {st : Stmt} (T : OexC K C) (g : mg x = some (.ref C)) (F : InitAt K C qual st) (no : PySem.W.findIn K (.ref C) f = some none)
    (S : FnScope (["self", f] : List Str) (["self", f] : List Str) (defScope st))
    (hb : ∀ (kV doc pm : Value) (an : Option Addr) (cdv ct : Value) (us : List Value), us.length = 2 → bindArgs (PySem.W.fnOf "__init__" qual (defArgs st) (defBody st) (defScope st) .none kV doc pm an cdv ct) ⟨us, []⟩ = pure ((["self", f] : List Str).zip us))
    (hbody : ∀ X : Cx, X.env.scope = defScope st → X.N = (["self", f] : List Str) → PSs X (defBody st) (tOst X.K f (tV 0) (tV 1))) : Raiser P w K mg base x C f := by
  obtain ⟨fI, fd, F, hi, ht⟩ := F.ex
  refine ⟨T, g, fI, fd, hi, ht, F.okX S (fun vs H Q E h => ?_) (fun cdv A outer s H vs Q E hr h => ⟨_, hbody _ rfl rfl, ?_⟩), F.binds (ps := (["self", f] : List Str)) hb⟩
  · obtain ⟨_, _, rfl, _⟩ := s2_len h
    rfl
  · obtain ⟨a, v, rfl, p, rfl, h0, q⟩ := s2_len h
    exact ⟨p, C, rfl, T, no, .inl ⟨h0, q⟩⟩
section
variable {X : Cx} {W : WX} {j : Nat} {C : Addr} {x f : Str} {p pos pos2 : Pos} {e : Expr} {te : TE}
/-- raise x(e) -/
theorem fr_raise (hc : X.calm = true) (R : Raiser X.prog X.w X.K X.mg X.base x C f) (hr : Room j X.A) (hk : 2 ≤ j) (tk : Takes X W) (hg : Gl X x) (he : PE X e te) (hdb : (x == ("__debug__" : Str)) = false := by decide)
    (hst : starEach (e :: []) X.env = (false, eval e X.env) :: starEach [] X.env := by rfl) (hpl : (backTo pos (starEach [] X.env)).any (·.1) = false := by rfl) :
    PS X (.Raise (some (.Call (.Name x p) [e] [] pos)) none pos2) (fun _ σ H => te σ H fun v H1 => ∀ d H', H1 d = none → Same H1 H' → H' d = some (.xd [(f, v)]) → W (.ref C) (some d) σ H') := by
  obtain ⟨fI, fd, hi, ht, F, hb⟩ := R.ex
  refine ps_imp (ps_raise hc tk (pmk_oex R.T hi ht F (hr.mono hk) hb .nil (fun pins σ H s e' s' I c => passL (X := X) pins σ H s e' s' I c) hg R.g (pa_cons (pe_up he) pa_nil hst) hdb hst hpl)) fun D σ H q => ⟨_, q, fun v H1 q1 => ⟨by show 1 ≤ 1000; decide, fun a na => ?_⟩⟩
  refine ⟨a, rfl, upd_same, fun dx nx ne => ⟨rfl, dx, [(f, v)], upd_same, by rw [upd_ne ne, upd_same], ?_, ?_⟩⟩
  · rw [upd_ne ne] at nx
    exact nx
  · have nx1 : H1 dx = none := by
      rw [upd_ne ne] at nx
      exact nx
    refine q1 dx _ nx1 (fun b u z => ?_) upd_same
    have n1 := ne_of_none z na
    have n2 := ne_of_none z nx1
    rw [upd_ne n2, del_ne n1, upd_ne n1, upd_ne n2, upd_ne n1]
    exact z
end

/-! ### texts -/
theorem mt_imp {X : Cx} {id : String} {r r' : V → List V → Hp → VK → Prop} (h : MtR X id r) (k : ∀ x xs H Q, r' x xs H Q → r x xs H Q) : MtR X id r' := fun pins s σ H x xs v us Q I rx rs q => h pins s σ H x xs v us Q I rx rs (k _ _ _ _ q)
section
variable {X : Cx} {o e : Expr} {to te : TE} {apos cpos pos : Pos}
/-- text.index(sign), the sign there -/
def fIndex : V → List V → Hp → VK → Prop := fun x xs H Q => match x, xs with
  | .str a, [.str b] => ∃ k, Txt.index0 a b = some k ∧ Q (.int (k : Nat)) H
  | _, _ => False
theorem f_sindex : MtR X "str.index" fIndex := by
  intro pins s σ H x xs v us Q I rx rs h
  unfold fIndex at h
  split at h
  · obtain ⟨k, hk, q⟩ := h
    obtain ⟨t, rfl⟩ := rx
    cases rs with
    | cons r1 rs =>
      cases rs
      obtain ⟨u, rfl⟩ := r1
      rename_i a b
      unfold Txt.index0 at hk
      cases z : Builtin.Str.occurrences a b 0 a.length 1 with
      | nil => rw [z] at hk; cases hk
      | cons m rest =>
        rw [z] at hk
        cases hk
        exact PySem.SC.index z ⟨.int (k : Nat), H, I.tok _, ⟨_, rfl⟩, q⟩
  · exact h.elim
/-- a built-in type's method by what the values are: texts -/
def tSM1 (r : V → List V → Hp → VK → Prop) (to te : TE) : TE := fun σ H Q => to σ H fun x H1 => match x with
  | .str a => te σ H1 fun y H2 => r (.str a) [y] H2 Q
  | _ => False
def tSM0 (r : V → List V → Hp → VK → Prop) (to : TE) : TE := fun σ H Q => to σ H fun x H1 => match x with
  | .str a => r (.str a) [] H1 Q
  | _ => False
theorem fe_sm1 {id : String} {name : Str} {r : V → List V → Hp → VK → Prop} (slot : Slot "str" name id) (ty : typeOf (.builtin id) = pure (.type "method_descriptor")) (rule : MtR X id r) (ho : PE X o to) (he : PE X e te)
    (hs : starEach [e] X.env = [(false, eval e X.env)] := by rfl) (hbase : attributeBase o name X.env (eval o X.env) = eval o X.env := by rfl) (hline : (apos.endLine == pos.line) = true := by rfl) :
    PE X (.Call (.Attribute o name apos) [e] [] pos) (tSM1 r to te) := pe_imp (pe_m1 slot ty rule (pe_up ho) (pe_up he) hs hbase hline) fun σ H Q q => ⟨_, q, fun x H1 q1 => by
  split at q1
  · exact ⟨⟨_, rfl⟩, _, q1, fun y H2 q2 => q2⟩
  · exact q1.elim⟩
theorem fe_sm0 {id : String} {name : Str} {r : V → List V → Hp → VK → Prop} (slot : Slot "str" name id) (ty : typeOf (.builtin id) = pure (.type "method_descriptor")) (rule : MtR X id r) (ho : PE X o to)
    (hbase : attributeBase o name X.env (eval o X.env) = eval o X.env := by rfl) (hline : (apos.endLine == pos.line) = true := by rfl) :
    PE X (.Call (.Attribute o name apos) [] [] pos) (tSM0 r to) := pe_imp (pe_m0 slot ty rule (pe_up ho) hbase hline) fun σ H Q q => ⟨_, q, fun x H1 q1 => by
  split at q1
  · exact ⟨⟨_, rfl⟩, q1⟩
  · exact q1.elim⟩
/-- text.join(texts) -/
def fJoin (K : PySem.W.Frag) : V → List V → Hp → VK → Prop := fun x xs H Q => match x, xs with
  | .str a, [.ref p] => ∃ ys : List Str, Sq K H p (ys.map V.str) ∧ (ys.map (·.length)).sum + ys.length * a.length ≤ 16777216 ∧ Q (.str (Txt.join a ys)) H
  | _, _ => False
theorem f_join : MtR X "str.join" (fJoin X.K) := mt_imp mt_join fun x xs H Q q => by
  unfold fJoin at q
  split at q
  · obtain ⟨ys, h, hz, q⟩ := q
    exact ⟨_, _, ys, rfl, rfl, h, hz, q⟩
  · exact q.elim
/-- text.split(sep) -/
def fSplit : V → List V → Hp → VK → Prop := fun x xs H Q => match x, xs with
  | .str a, [.str b] => (b.length == 0) = false ∧ a.length + 2 ≤ sizeLine ∧ Fresh H (.lst ((Txt.split a b).map V.str)) Q
  | _, _ => False
theorem f_split : MtR X "str.split" fSplit := mt_imp mt_split fun x xs H Q q => by
  unfold fSplit at q
  split at q
  · exact ⟨_, _, rfl, rfl, q.1, q.2.1, q.2.2.go⟩
  · exact q.elim
/-- b, or its opposite -/
def opp (neg b : Bool) : Bool := match neg with
  | true => !b
  | false => b
/-- sign in text, sign not in text -/
def fInS (neg : Bool) : R2 := fun x y H Q => match x, y with
  | .str a, .str z => ∃ c, a = ⟨#[c]⟩ ∧ Q (.bl (opp neg (decide (c ∈ z.cps.toList)))) H
  | _, _ => False
theorem f_inS : OpR X (compareOp .In) (fInS false) := op_imp op_in_sign fun x y H Q q => by
  unfold fInS at q
  split at q
  · obtain ⟨c, rfl, q⟩ := q
    exact ⟨c, _, rfl, rfl, q⟩
  · exact q.elim
theorem f_notInS : OpR X (compareOp .NotIn) (fInS true) := op_imp op_notIn_sign fun x y H Q q => by
  unfold fInS at q
  split at q
  · obtain ⟨c, rfl, q⟩ := q
    exact ⟨c, _, rfl, rfl, q⟩
  · exact q.elim
/-- x in a row of plain things -/
def fInQ (K : PySem.W.Frag) (neg : Bool) : R2 := fun x y H Q => match y with
  | .ref p => ∃ xs, Sq K H p xs ∧ flatV x = true ∧ xs.all flatV = true ∧ Q (.bl (opp neg (inV x xs))) H
  | _ => False
theorem f_inQ : OpR X (compareOp .In) (fInQ X.K false) := op_imp op_in_seq fun x y H Q q => by
  unfold fInQ at q
  split at q
  · obtain ⟨xs, h, h1, h2, q⟩ := q
    exact ⟨_, xs, rfl, h, h1, h2, q⟩
  · exact q.elim
theorem f_notInQ : OpR X (compareOp .NotIn) (fInQ X.K true) := op_imp op_notIn_seq fun x y H Q q => by
  unfold fInQ at q
  split at q
  · obtain ⟨xs, h, h1, h2, q⟩ := q
    exact ⟨_, xs, rfl, h, h1, h2, q⟩
  · exact q.elim
/-- x is None, x is not None -/
def fIsN (neg : Bool) : R2 := fun x y H Q => match y with
  | .non => match x with
    | .non => Q (.bl (!neg)) H
    | _ => Q (.bl neg) H
  | _ => False
theorem f_isN : OpR X (compareOp .Is) (fIsN false) := op_imp op_isN fun x y H Q q => by
  unfold fIsN at q
  cases y <;> first | exact q.elim | skip
  refine ⟨rfl, ?_⟩
  cases x <;> exact q
theorem f_notN : OpR X (compareOp .IsNot) (fIsN true) := op_imp op_notN fun x y H Q q => by
  unfold fIsN at q
  cases y <;> first | exact q.elim | skip
  refine ⟨rfl, ?_⟩
  cases x <;> exact q
theorem vals_at : ∀ {xs : List V} {us : List Value}, xs.length = us.length → (∀ (i : Nat) x u, xs[i]? = some x → us[i]? = some u → RelV x u) → Vals xs us
  | [], [], _, _ => .nil
  | [], _ :: _, h, _ => by cases h
  | _ :: _, [], h, _ => by cases h
  | x :: xs, u :: us, h, k => .cons (k 0 x u rfl rfl) (vals_at (Nat.succ.inj h) fun i y z e1 e2 => k (i + 1) y z e1 e2)
/-- list(a text): its signs -/
theorem sign_at {x : Str} {its : Array Value} (h : ItemsOf (SignAt x) its x.cps.size) : Vals (signs x) its.toList := by
  refine vals_at (by simp [signs, h.1]) fun i y u e1 e2 => ?_
  rw [Array.getElem?_toList] at e2
  obtain ⟨c, t, hc, rfl⟩ := h.2 i u e2
  unfold signs at e1
  rw [List.getElem?_map, Array.getElem?_toList, hc] at e1
  cases e1
  exact ⟨t, rfl⟩
def fListS : List V → Hp → VK → Prop := fun xs H Q => match xs with
  | [.str z] => z.length ≤ sizeLine ∧ Fresh H (.lst (signs z)) Q
  | _ => False
theorem f_listS (hc : X.calm = true) : CallR X (.type "list") fListS := by
  intro pins s σ H xs us Q I r q
  unfold fListS at q
  split at q
  · obtain ⟨hz, q⟩ := q
    rename_i z
    obtain ⟨u, rfl, t, rfl⟩ := vals1 r
    refine call_list_str (I.ok.hd hc) z t (fun h' tk acc c' k e its => ?_) hz
    have rv := sign_at its
    have el : (signs z).length = z.cps.size := by simp [signs]
    refine ⟨.ref s.heap.objs.size, _, I.laid (t' := tk) k (Nat.le_refl _) (show ObjOk X.prog X.w _ h' _ (.lst (signs z)) from ⟨by rw [el]; exact hz, acc.toList, c', rv, e⟩), rfl, q.go _ (I.hok.fresh (Nat.le_refl _))⟩
  · exact q.elim
/-! ### dicts of the module with text keys -/
structure KTab (K : PySem.W.Frag) (w : World) (d : Addr) (kvs : List (Str × V)) : Prop where
  ex : ∃ es n, KDict K w d es n ∧ ∀ z : Str, ∃ r, PySem.W.nsIn K d z = some r ∧ RelO (kvs.lookup z) r
def fInK (d : Addr) (kvs : List (Str × V)) : R2 := fun x y H Q => y = .ref d ∧ match x with
  | .str z => Q (.bl (kvs.lookup z).isSome) H
  | _ => False
theorem f_inK {d : Addr} {kvs : List (Str × V)} (T : KTab X.K X.w d kvs) : OpR X (compareOp .In) (fInK d kvs) := by
  obtain ⟨es, n, D, f⟩ := T.ex
  refine op_imp (op_in_kd D) fun x y H Q q => ?_
  obtain ⟨rfl, q⟩ := q
  cases x <;> first | exact q.elim | skip
  rename_i z
  obtain ⟨r, e, rel⟩ := f z
  refine ⟨z, r, rfl, rfl, e, ?_⟩
  have : r.isSome = (kvs.lookup z).isSome := by
    cases h : kvs.lookup z with
    | none => rw [h] at rel; cases r with
      | none => rfl
      | some u => exact rel.elim
    | some v => rw [h] at rel; cases r with
      | none => exact rel.elim
      | some u => rfl
  rw [this]
  exact q
def fItK (d : Addr) (kvs : List (Str × V)) : R2 := fun x y H Q => x = .ref d ∧ match y with
  | .str z => ∃ v, kvs.lookup z = some v ∧ Q v H
  | _ => False
theorem f_itK {d : Addr} {kvs : List (Str × V)} (T : KTab X.K X.w d kvs) : OpR X getItem (fItK d kvs) := by
  obtain ⟨es, n, D, f⟩ := T.ex
  refine op_imp (op_item_kd D) fun x y H Q q => ?_
  obtain ⟨rfl, q⟩ := q
  cases y <;> first | exact q.elim | skip
  rename_i z
  obtain ⟨v, e, q⟩ := q
  obtain ⟨r, e2, rel⟩ := f z
  rw [e] at rel
  cases r with
  | none => exact rel.elim
  | some u => exact ⟨z, u, v, rfl, rfl, e2, rel, q⟩
end
/-- rows of values that are no two integers (a pot is one) -/
def notPot : List V → Bool
  | [.int _, .int _] => false
  | _ => true
/-! ### more rules -/
section
variable {X : Cx} {e : Expr} {te : TE} {pos : Pos}
def tRevF (K : PySem.W.Frag) (te : TE) : TE := fun σ H Q => te σ H fun x H1 => match x with
  | .ref a => ∃ xs, SqL K H1 a xs ∧ Fresh H1 (.lst xs.reverse) Q
  | _ => False
theorem fe_revL {k : Nat} {p1 p2 p3 : Pos} (he : PE X e te) : PE X (.Subscript e (.Slice none none (some (.UnaryOp .USub (.Constant (.int 1) k p1) p2)) p3) pos) (tRevF X.K te) := pe_imp (pe_revL (pe_up he)) fun σ H Q q => ⟨_, q, fun x H1 q1 => by
  split at q1
  · obtain ⟨xs, h, q⟩ := q1
    exact ⟨_, xs, rfl, h, q.go⟩
  · exact q1.elim⟩
def upT (t : TT) : TT := fun σ H Q => ∃ R, t σ H R ∧ ∀ b H', R b H' → Q b H'
theorem pt_up {t : TT} (h : PT X e t) : PT X e (upT t) := ⟨fun pins s σ H Q I ⟨R, q, w⟩ => thn (h.run pins s σ H R I q) fun b s1 ⟨H1, I1, q1⟩ => ⟨H1, I1, w _ _ q1⟩⟩
/-- the word W holds with a lesser measure -/
inductive Low (W : Nat → L2.St → Hp → Prop) (m : Nat) (σ : L2.St) (H : Hp) : Prop
  | mk (m' : Nat) (lt : m' < m) (w : W m' σ H)
/-- while, by a word W of a measure and the state -/
inductive Wh (c : TT) (tb : TS) (D : Ends) (σ : L2.St) (H : Hp) : Prop
  | by (W : Nat → L2.St → Hp → Prop) (m : Nat) (h0 : W m σ H) (hs : ∀ m σ H, W m σ H →
    c σ H fun b H1 => if b = true then tb { D with nx := Low W m, ct := Low W m, bk := D.nx } σ H1 else D.nx σ H1)
theorem fs_while {body : List Stmt} {tc : TT} {tb : TS} (hp : PassesOwn (model X.prog X.w) X.A X.env X.xe) (hc : PT X e tc) (hb : PSs X body tb) : PS X (.While e body [] pos) (Wh tc tb) :=
  ps_imp (ps_while hp (pt_up hc) hb) fun D σ H q => by
    obtain ⟨W, m, h0, hs⟩ := q
    exact ⟨W, ⟨m, h0⟩, fun m σ H w => ⟨_, hs m σ H w, fun b H1 q => by
    cases b with
    | true => exact ⟨_, fun _ _ ⟨m', lt, w⟩ => ⟨m', lt, w⟩, q⟩
    | false => exact q⟩⟩
/-- *e in a display -/
def tStarF (K : PySem.W.Frag) (te : TE) (t : TA) : TA := fun σ H Q => te σ H fun x H1 => match x with
  | .ref p => ∃ xs, Sq K H1 p xs ∧ t σ H1 fun ys H2 => Q (xs ++ ys) H2
  | _ => False
theorem pa_imp {es : List Expr} {t t' : TA} (h : PA X es t) (w : ∀ σ H Q, t' σ H Q → t σ H Q) : PA X es t' := ⟨fun pos pins s σ H Q I q => h.run pos pins s σ H Q I (w σ H Q q)⟩
theorem fa_star {es : List Expr} {t : TA} {p : Pos} (he : PE X e te) (hr : PA X es t) (hs : starEach (.Starred e p :: es) X.env = (true, eval e X.env) :: starEach es X.env := by rfl) : PA X (.Starred e p :: es) (tStarF X.K te t) :=
  pa_imp (StX.pa_star (pe_up he) hr hs) fun σ H Q q => ⟨_, q, fun x H1 q1 => by
    split at q1
    · obtain ⟨xs, h, q⟩ := q1
      exact ⟨_, xs, rfl, h.symm, q⟩
    · exact q1.elim⟩
/-- n signs c -/
def repC (c n : Nat) : Str := ⟨(List.replicate n c).toArray⟩
theorem foldl_one : ∀ (n c : Nat) (acc : Array Nat), (List.replicate n #[c]).foldl (· ++ ·) acc = acc ++ (List.replicate n c).toArray
  | 0, c, acc => by simp
  | n + 1, c, acc => by
    rw [List.replicate_succ, List.foldl_cons, foldl_one n c, List.replicate_succ]
    apply Array.toList_inj.mp
    simp
def fMulS : R2 := fun x y H Q => match x, y with
  | .str z, .int n => ∃ c, z = ⟨#[c]⟩ ∧ (-1000000 ≤ n ∧ n ≤ 1000000) ∧ Q (.str (repC c n.toNat)) H
  | _, _ => False
theorem f_mulS : OpR X (binaryOp .Mult) fMulS := by
  intro pins s σ H x y v u Q I rx ry h
  unfold fMulS at h
  split at h
  · obtain ⟨c, rfl, ⟨hl, hh⟩, q⟩ := h
    obtain ⟨t, rfl⟩ := rx
    obtain ⟨t', rfl⟩ := ry
    rename_i n
    have n1 : ¬ n < -(2 ^ 63 : Int) := by omega
    have n2 : ¬ n ≥ 2 ^ 63 := by omega
    have out : ∀ (z : Str) (tk : Nat), z = repC c n.toNat → EP X pins σ Q (.str z tk) { s with toks := s.toks + 1 } := fun z tk e => ⟨.str z, H, I.tok _, ⟨_, rfl⟩, by rw [e]; exact q⟩
    refine PySem.P.mul_str (by rw [decide_eq_false n1, decide_eq_false n2]; rfl) (fun h1 _ => ?_) (fun h1 _ => ?_) ?_
    · have h3 : (⟨#[c]⟩ : Str).length = 1 := rfl
      rw [h3]
      intro z
      have : (2 ^ 63 - 1 : Int) / n ≥ 1 := (Int.le_ediv_iff_mul_le (by omega)).mpr (by omega)
      omega
    · have h3 : (⟨#[c]⟩ : Str).length = 1 := rfl
      rw [h3]
      have hs : ¬ 1 * n.toNat > sizeLine := by
        have := sizeLine_eq
        omega
      exact decide_eq_false hs
    · split
      · refine ⟨by decide, out _ _ ?_⟩
        have : n.toNat = 0 := by omega
        unfold repC; rw [this]; rfl
      · rename_i hn
        split
        · rename_i h1
          have e1 : n = 1 := by simpa [Str.length] using h1
          refine ⟨.str ⟨#[c]⟩, H, I, ⟨_, rfl⟩, ?_⟩
          rw [e1] at q; exact q
        · rw [foldl_one]
          have e2 : (⟨#[] ++ (List.replicate n.toNat c).toArray⟩ : Str) = repC c n.toNat := by
            unfold repC
            simp
          have e3 : (⟨#[] ++ (List.replicate n.toNat c).toArray⟩ : Str).length ≤ sizeLine := by
            rw [e2, show (repC c n.toNat).length = n.toNat by simp [repC, Str.length]]
            have := sizeLine_eq
            omega
          exact ⟨e3, out _ _ e2⟩
  · exact h.elim
end
/-! ### classes that are made by keywords -/
/-- what stands at the places idx -/
def pick {α : Type} (idx : List Nat) (xs : List α) : List α := idx.filterMap fun i => xs[i]?
theorem vals_nth : ∀ {xs : List V} {us : List Value}, Vals xs us → ∀ i : Nat, (xs[i]? = none ∧ us[i]? = none) ∨ ∃ x u, xs[i]? = some x ∧ us[i]? = some u ∧ RelV x u
  | [], [], .nil, i => .inl ⟨rfl, rfl⟩
  | x :: xs, u :: us, .cons a r, 0 => .inr ⟨x, u, rfl, rfl, a⟩
  | x :: xs, u :: us, .cons a r, i + 1 => vals_nth r i
theorem vals_pick : ∀ (idx : List Nat) {xs : List V} {us : List Value}, Vals xs us → Vals (pick idx xs) (pick idx us)
  | [], _, _, _ => .nil
  | i :: idx, xs, us, r => by
    have ih := vals_pick idx r
    unfold pick at ih ⊢
    rcases vals_nth r i with ⟨a, b⟩ | ⟨x, u, a, b, c⟩
    · rw [List.filterMap_cons_none a, List.filterMap_cons_none b]
      exact ih
    · rw [List.filterMap_cons_some a, List.filterMap_cons_some b]
      exact .cons c ih
structure InitK (K : PySem.W.Frag) (C : Addr) (qual : Str) (st : Stmt) (kws : List (Str × V)) : Prop where
  ex : ∃ f fd, FunD K "__init__" qual (defArgs st) (defBody st) (defScope st) [] kws f fd ∧ Mk K C f
structure KMaker (P : Program) (w : World) (K : PySem.W.Frag) (mg : Str → Option Value) (base : Heap) (k : Nat) (x : Str) (C : Addr) (qual : Str) (st : Stmt) (kws : List (Str × V)) (ps : List Str) (sp : Sp) : Prop where
  ex : ∃ f fd, FunD K "__init__" qual (defArgs st) (defBody st) (defScope st) [] kws f fd ∧ Mk K C f ∧ FnOk P w K mg base (L2.CX P w) k f fd ps sp
  g : mg x = some (.ref C)
theorem kmaker_of {P : Program} {w : World} {K : PySem.W.Frag} {mg : Str → Option Value} {base : Heap} {x qual : Str} {C : Addr} {st : Stmt} {kws : List (Str × V)} {N ps : List Str} {k : Nat} {sp : Sp} (g : mg x = some (.ref C)) (F : InitK K C qual st kws) (S : FnScope N ps (defScope st))
    (len : ∀ vs H Q E, sp vs H Q E → vs.length = ps.length)
    (hbody : ∀ (f : Addr) (cdv : Value) (A : Around) (outer : List Env) (s : Shared) (H : Hp) (vs : List V) (Q : VK) (E : XK), Room k (cxOf (L2.CX P w) P w K mg base N qual (defScope st) f cdv A outer s H E).A →
      Takes (cxOf (L2.CX P w) P w K mg base N qual (defScope st) f cdv A outer s H E) (fun cls d _ H => E cls d H) →
      PassesOwn (model P w) (cxOf (L2.CX P w) P w K mg base N qual (defScope st) f cdv A outer s H E).A (cxOf (L2.CX P w) P w K mg base N qual (defScope st) f cdv A outer s H E).env (cxOf (L2.CX P w) P w K mg base N qual (defScope st) f cdv A outer s H E).xe → sp vs H Q E →
      ∃ t, PSs (cxOf (L2.CX P w) P w K mg base N qual (defScope st) f cdv A outer s H E) (defBody st) t ∧ t { nx := fun _ H' => Q .non H', rt := Q } (start N vs) H) :
    KMaker P w K mg base (k + 1) x C qual st kws ps sp := by
  obtain ⟨f, fd, F, M⟩ := F.ex
  exact ⟨⟨f, fd, F, M, F.ok S len fun cdv A outer s H vs Q E hr h => hbody f cdv A outer s H vs Q E hr (takes_of rfl rfl rfl rfl) (passes_of rfl) h⟩, g⟩
section
variable {X : Cx} {W : WX} {j k : Nat} {C : Addr} {x qual : Str} {st : Stmt} {kws : List (Str × V)} {ps ks : List Str} {sp : Sp} {p pos : Pos} {kwe : List Keyword} {t : TA}
/-- what a class does that is called: a new object, then its __init__ (promise sp) -/
def MadeBy (C : Addr) (sp : Sp) (gV : List V → List V) (W : WX) (σ : L2.St) (zs : List V) (H : Hp) (Q : VK) : Prop :=
  ∀ p dx H3, H p = none → Same H H3 → H3 p = some (.ins C dx []) → sp (gV (.ref p :: zs)) H3 (fun v H4 => v = .non ∧ Q (.ref p) H4) (fun cls d H' => W cls d σ H')
theorem run_made {pins : List (Addr × Obj)} {σ : L2.St} {H : Hp} {s : Shared} {Q : VK} {f : Addr} {fd : FuncData} {us ws : List Value} {gV : List V → List V} {zs : List V} {E : XK} {all : List Value} (M : Mk X.K C f) (F : FnOk X.prog X.w X.K X.mg X.base (L2.CX X.prog X.w) k f fd ps sp) (hr : Room (k + 1) X.A)
    (hb : ∀ s' : Shared, X.K.In s'.heap → BindsTo s' fd ⟨.ref (s.heap.objs.size + 1) :: us, ks.zip ws⟩ (ps.zip all)) (hall : L2.Vals (gV (.ref (s.heap.objs.size + 1) :: zs)) all) (tk : PassesAt (L2.CX X.prog X.w) X σ E) (J : Inv X pins σ H s)
    (h : ∀ a b, H a = none → H b = none → b ≠ a → sp (gV (.ref a :: zs)) (upd (upd H b (.own a)) a (.ins C b [])) (fun v H2 => v = .non ∧ Q (.ref a) H2) E) :
    wpAny (model X.prog X.w) X.A (call (.ref C) us (ks.zip ws)) (EP X pins σ Q) X.xe s := by
  have said := h (s.heap.objs.size + 1) s.heap.objs.size (J.hok.fresh (Nat.le_succ _)) (J.hok.fresh (Nat.le_refl _)) (Nat.ne_of_lt (Nat.lt_succ_self _))
  have J2 := Inv.made (C := C) J
  have ran := F.run _ X.stack _ _ ⟨Value.ref (s.heap.objs.size + 1) :: us, ks.zip ws⟩ all _ _ E (hr.make C us (ks.zip ws)) (J2.env0.make C us (ks.zip ws)) (hb _ J2.kIn) hall said
  refine wpAny_call (make_map (f := f) J.kIn M.makes M.init (beq_iff_eq.mp M.fn) (codeAny_mono ran fun out s' got => ?_))
  match out, got with
  | .error e, got => exact tk pins _ _ e s' J2 got
  | .ok (.ret u), got =>
    obtain ⟨v, H', J3, rv, ev, q3⟩ := J2.after got
    subst ev
    exact ⟨rv, V.ref (s.heap.objs.size + 1), H', J3, rfl, q3⟩
  | .ok .next, got => exact False.elim got
  | .ok .brk, got => exact False.elim got
  | .ok .cont, got => exact False.elim got
theorem MadeBy.go {C : Addr} {sp : Sp} {gV : List V → List V} {W : WX} {σ : L2.St} {zs : List V} {H : Hp} {Q : VK} (h : MadeBy C sp gV W σ zs H Q) : ∀ a b, H a = none → H b = none → b ≠ a → sp (gV (.ref a :: zs)) (upd (upd H b (.own a)) a (.ins C b [])) (fun v H2 => v = .non ∧ Q (.ref a) H2) (WE W σ) :=
  fun a b na nb ne => h a b _ na (Same.but (Same.new nb) na But.upd) upd_same
/-- x(k = v, ..): ks the written names, ms the lacking ones; idx: where each parameter's value stands in self, the lacking ones, the written ones -/
theorem fc_make {idx : List Nat} {ms : List (Str × V)} (c : KMaker X.prog X.w X.K X.mg X.base k x C qual st kws ps sp) (hr : Room j X.A) (hj : k + 1 ≤ j) (hg : Gl X x) (tk : Takes X W) (hkw : PK X kwe t) (hk : kws ≠ []) (hms : ∀ q ∈ ms, q ∈ kws)
    (h : ∀ (D : Addr) (doc pm : Value) (an : Option Addr) (cdv ct : Value) (us mv ws : List Value), us.length = 1 → mv.length = ms.length → ws.length = ks.length →
      KwChain D ((ms.map (·.1)).zip mv) (bindArgs (PySem.W.fnOf "__init__" qual (defArgs st) (defBody st) (defScope st) .none (.ref D) doc pm an cdv ct) ⟨us, ks.zip ws⟩) (ps.zip (pick idx (us ++ (mv ++ ws)))))
    (hall : (backToKw pos (keywordEach kwe X.env)).all (·.1.isSome) = true := by rfl) (hks : (backToKw pos (keywordEach kwe X.env)).filterMap (·.1) = ks := by rfl) (hdb : (x == ("__debug__" : Str)) = false := by decide)
    (hpl : ((backTo pos (starEach [] X.env)).any (·.1) || (backToKw pos (keywordEach kwe X.env)).any (·.1.isNone)) = false := by rfl) :
    PE X (.Call (.Name x p) [] kwe pos) (fun σ H Q => t σ H fun zs H2 => zs.length = ks.length ∧ MadeBy C sp (fun l => match l with
      | a :: zs => pick idx ([a] ++ (ms.map (·.2) ++ zs))
      | [] => []) W σ zs H2 Q) := by
  obtain ⟨f, fd, F, M, O⟩ := c.ex
  obtain ⟨mv, B⟩ := F.kbinds0 (ps := ps) 1 ks ms (fun us mv ws => pick idx (us ++ (mv ++ ws))) hk hms (fun r1 r2 r3 => vals_pick idx (r1.append (r2.append r3))) h
  refine ⟨fun pins s σ H Q J q => ?_⟩
  refine wpAny_Call_Name_kw (ld_glob J hg c.g ?_ hdb)
  refine PySem.W.callWith_KW0 (h₀ := X.base) J.ok.mod.kin M.kp hall ?_ hpl
  refine thn (hkw.run pos pins s σ H _ J q) fun ws s2 ⟨zs, H2, J2, rz, l, q2⟩ => ⟨J2.kIn, ?_⟩
  rw [hks]
  have lw : ws.length = ks.length := by rw [← rz.length, l]
  exact run_made (us := []) (gV := fun l => match l with
      | a :: zs => pick idx ([a] ++ (ms.map (·.2) ++ zs))
      | [] => []) M O (hr.mono hj) (fun s' K => B.to s' [_] ws K rfl lw) (B.rel (.cons rfl .nil) rz) (passAt tk σ) J2 q2.go
end
theorem code_fnS {X : Cx} {CX : CXT} {k : Nat} {f : Addr} {fd : FuncData} {ps : List Str} {sp : Sp} {E : L2.St → XK} {pins : List (Addr × Obj)} {σ : L2.St} {H : Hp} {s : Shared} {Q : VK} {us : List Value} {vs : List V} (F : FnOk X.prog X.w X.K X.mg X.base CX k f fd ps sp) (hr : Room k X.A) (hb : Binds X.K fd ps []) (hx : PassesAt CX X σ (E σ))
    (J : Inv X pins σ H s) (r : L2.Vals vs us) (h : sp vs H Q (E σ)) : codeAny (model X.prog X.w) X.A (.call (.ref f) ⟨us, []⟩) (fun r s' => match r with
      | .ok (.ret v) => EP X pins σ Q v s'
      | .ok _ => False
      | .error e => X.xe e s') s := by
  have n : us.length = ps.length := by rw [← r.length]; exact F.len _ _ _ _ h
  have b := hb s us J.kIn (by rw [List.append_nil]; exact n)
  rw [List.append_nil] at b
  refine codeAny_mono (F.run X.A X.stack s H ⟨us, []⟩ us vs Q (E σ) hr J.env0 b r h) fun out s' got => ?_
  match out, got with
  | .error e, got => exact hx pins H s e s' J got
  | .ok (.ret u), got => exact J.after got
  | .ok .next, got => exact False.elim got
  | .ok .brk, got => exact False.elim got
  | .ok .cont, got => exact False.elim got
/-! ### instances that are called -/
structure CallAt (K : PySem.W.Frag) (C : Addr) (qual : Str) (st : Stmt) : Prop where
  ex : ∃ f fd, Fun K "__call__" qual st f fd ∧ StX.CallO K C f
structure OCallee (P : Program) (w : World) (K : PySem.W.Frag) (mg : Str → Option Value) (base : Heap) (k : Nat) (C : Addr) (ps : List Str) (sp : Sp) : Prop where
  ex : ∃ f fd, FnOk P w K mg base (L2.CX P w) k f fd ps sp ∧ StX.CallO K C f ∧ Binds K fd ps []
theorem ocallee_of {P : Program} {w : World} {K : PySem.W.Frag} {mg : Str → Option Value} {base : Heap} {C : Addr} {qual : Str} {st : Stmt} {N ps : List Str} {k : Nat} {sp : Sp} (F : CallAt K C qual st) (S : FnScope N ps (defScope st))
    (hb : ∀ (kV doc pm : Value) (an : Option Addr) (cdv ct : Value) (us : List Value), us.length = ps.length → bindArgs (PySem.W.fnOf "__call__" qual (defArgs st) (defBody st) (defScope st) .none kV doc pm an cdv ct) ⟨us, []⟩ = pure (ps.zip us))
    (len : ∀ vs H Q E, sp vs H Q E → vs.length = ps.length)
    (hbody : ∀ (f : Addr) (cdv : Value) (A : Around) (outer : List Env) (s : Shared) (H : Hp) (vs : List V) (Q : VK) (E : XK), Room k (cxOf (L2.CX P w) P w K mg base N qual (defScope st) f cdv A outer s H E).A →
      Takes (cxOf (L2.CX P w) P w K mg base N qual (defScope st) f cdv A outer s H E) (fun cls d _ H => E cls d H) →
      PassesOwn (model P w) (cxOf (L2.CX P w) P w K mg base N qual (defScope st) f cdv A outer s H E).A (cxOf (L2.CX P w) P w K mg base N qual (defScope st) f cdv A outer s H E).env (cxOf (L2.CX P w) P w K mg base N qual (defScope st) f cdv A outer s H E).xe → sp vs H Q E →
      ∃ t, PSs (cxOf (L2.CX P w) P w K mg base N qual (defScope st) f cdv A outer s H E) (defBody st) t ∧ t { nx := fun _ H' => Q .non H', rt := Q } (start N vs) H) :
    OCallee P w K mg base (k + 1) C ps sp := by
  obtain ⟨f, fd, F, hm⟩ := F.ex
  exact ⟨f, fd, F.okX S len fun cdv A outer s H vs Q E hr h => hbody f cdv A outer s H vs Q E hr (takes_of rfl rfl rfl rfl) (passes_of rfl) h, hm, F.binds hb⟩
section
variable {X : Cx} {W : WX} {j k : Nat} {C : Addr} {ps : List Str} {sp : Sp} {pos : Pos} {fe e : Expr} {es : List Expr} {t : TA} {tf : TE}
/-- o(e, ..), o an instance -/
def tCallF (C : Addr) (sp : Sp) (W : WX) (tf : TE) (t : TA) : TE := fun σ H Q => tf σ H fun y H1 => match y with
  | .ref a => t σ H1 fun vs H2 => (∃ dx fs, H2 a = some (.ins C dx fs)) ∧ sp (.ref a :: vs) H2 Q (fun cls d H' => W cls d σ H')
  | _ => False
theorem fc_callO (c : OCallee X.prog X.w X.K X.mg X.base k C ps sp) (hr : Room j X.A) (hj : k ≤ j) (tk : Takes X W) (hf : PE X fe tf) (ha : PA X (e :: es) t)
    (ht : eval (.Call fe (e :: es) [] pos) X.env = (do callWith pos (← eval fe X.env) [] (backTo pos (starEach (e :: es) X.env)) (backToKw pos (keywordEach [] X.env))) := by rfl)
    (he : starEach (e :: es) X.env = (false, eval e X.env) :: starEach es X.env := by rfl) (hpl : (backTo pos (starEach es X.env)).any (·.1) = false := by rfl) : PE X (.Call fe (e :: es) [] pos) (tCallF C sp W tf t) := by
  obtain ⟨g, fd, F, co, hb⟩ := c.ex
  refine ⟨fun pins s σ H Q J h => Call_ (thn (hf.run pins s σ H _ J h) fun u s1 ⟨y, H1, J1, ry, q⟩ => ?_) ht⟩
  cases y <;> first | exact q.elim | skip
  rename_i a
  cases ry
  refine StX.callO_with (thn (ha.run pos pins s1 σ H1 _ J1 q) fun us s2 ⟨vs, H2, J2, r, hi, q2⟩ => ?_) he hpl
  obtain ⟨ox, od, O, hd⟩ := StX.insC_at J2 (.inr hi)
  exact ⟨⟨C, ox, od, O, hd⟩, wpAny_call (PySem.W.kco_code J2.kIn O hd co.at_ co.fn co.fi (code_fnS (us := .ref a :: us) (vs := .ref a :: vs) (E := WE W) F (hr.mono hj) hb (passAt tk σ) J2 (.cons rfl r) q2))⟩
end
/-! ### methods, functions called by keywords -/
section
variable {X : Cx} {W : WX} {j k : Nat} {C : Addr} {m x : Str} {ps : List Str} {sp : Sp} {pos apos p : Pos} {o : Expr} {kwe : List Keyword} {t : TA} {ta : TE}
/-- a method without defaults, as it stands -/
structure MKCallee (P : Program) (w : World) (K : PySem.W.Frag) (mg : Str → Option Value) (base : Heap) (k : Nat) (C : Addr) (m qual : Str) (st : Stmt) (ps : List Str) (sp : Sp) : Prop where
  ex : ∃ f fd, FnOk P w K mg base (L2.CX P w) k f fd ps sp ∧ Cls K C ∧ Meth K C m f ∧ Fun K m qual st f fd
theorem mkcallee_of {P : Program} {w : World} {K : PySem.W.Frag} {mg : Str → Option Value} {base : Heap} {C : Addr} {m qual : Str} {st : Stmt} {N ps : List Str} {k : Nat} {sp : Sp} (cl : Cls K C) (F : MethAt K C m qual st) (S : FnScope N ps (defScope st))
    (len : ∀ vs H Q E, sp vs H Q E → vs.length = ps.length)
    (hbody : ∀ (f : Addr) (cdv : Value) (A : Around) (outer : List Env) (s : Shared) (H : Hp) (vs : List V) (Q : VK) (E : XK), Room k (cxOf (L2.CX P w) P w K mg base N qual (defScope st) f cdv A outer s H E).A →
      Takes (cxOf (L2.CX P w) P w K mg base N qual (defScope st) f cdv A outer s H E) (fun cls d _ H => E cls d H) →
      PassesOwn (model P w) (cxOf (L2.CX P w) P w K mg base N qual (defScope st) f cdv A outer s H E).A (cxOf (L2.CX P w) P w K mg base N qual (defScope st) f cdv A outer s H E).env (cxOf (L2.CX P w) P w K mg base N qual (defScope st) f cdv A outer s H E).xe → sp vs H Q E →
      ∃ t, PSs (cxOf (L2.CX P w) P w K mg base N qual (defScope st) f cdv A outer s H E) (defBody st) t ∧ t { nx := fun _ H' => Q .non H', rt := Q } (start N vs) H) :
    MKCallee P w K mg base (k + 1) C m qual st ps sp := by
  obtain ⟨f, fd, F, hm⟩ := F.ex
  exact ⟨f, fd, F.okX S len fun cdv A outer s H vs Q E hr h => hbody f cdv A outer s H vs Q E hr (takes_of rfl rfl rfl rfl) (passes_of rfl) h, cl, hm, F⟩
theorem MKCallee.plain {P : Program} {w : World} {K : PySem.W.Frag} {mg : Str → Option Value} {base : Heap} {C : Addr} {m qual : Str} {st : Stmt} {ps : List Str} {k : Nat} {sp : Sp} (c : MKCallee P w K mg base k C m qual st ps sp)
    (hb : ∀ (kV doc pm : Value) (an : Option Addr) (cdv ct : Value) (us : List Value), us.length = ps.length → bindArgs (PySem.W.fnOf m qual (defArgs st) (defBody st) (defScope st) .none kV doc pm an cdv ct) ⟨us, []⟩ = pure (ps.zip us)) : MCallee P w K mg base k C m ps sp := by
  obtain ⟨f, fd, O, cl, hm, F⟩ := c.ex
  exact ⟨f, fd, O, cl, hm, F.binds hb⟩
theorem code_fnK {CX : CXT} {f : Addr} {fd : FuncData} {E : L2.St → XK} {pins : List (Addr × Obj)} {σ : L2.St} {H : Hp} {s : Shared} {Q : VK} {us : List Value} {vs : List V} {args : Args} (F : FnOk X.prog X.w X.K X.mg X.base CX k f fd ps sp) (hr : Room k X.A) (hb : BindsTo s fd args (ps.zip us)) (hx : PassesAt CX X σ (E σ))
    (J : Inv X pins σ H s) (r : L2.Vals vs us) (h : sp vs H Q (E σ)) : wpAny (model X.prog X.w) X.A (call (.ref f) args.pos args.kw) (EP X pins σ Q) X.xe s := by
  refine wpAny_call (codeAny_mono (F.run X.A X.stack s H args us vs Q (E σ) hr J.env0 hb r h) fun out s' got => ?_)
  match out, got with
  | .error e, got => exact hx pins H s e s' J got
  | .ok (.ret u), got => exact J.after got
  | .ok .next, got => exact False.elim got
  | .ok .brk, got => exact False.elim got
  | .ok .cont, got => exact False.elim got
/-- o.m(k = v, ..) -/
theorem fc_methK {qual : Str} {st : Stmt} {idx : List Nat} {ks : List Str} {pl : Sem Bool} (c : MKCallee X.prog X.w X.K X.mg X.base k C m qual st ps sp) (hr : Room j X.A) (hj : k ≤ j) (tk : Takes X W) (ho : PE X o ta) (hkw : PK X kwe t)
    (hb : ∀ (kV doc pm : Value) (an : Option Addr) (cdv ct : Value) (us ws : List Value), us.length = 1 → ws.length = ks.length → bindArgs (PySem.W.fnOf m qual (defArgs st) (defBody st) (defScope st) .none kV doc pm an cdv ct) ⟨us, ks.zip ws⟩ = pure (ps.zip (pick idx (us ++ ws))))
    (hall : (backToKw pos (keywordEach kwe X.env)).all (·.1.isSome) = true := by rfl) (hks : (backToKw pos (keywordEach kwe X.env)).filterMap (·.1) = ks := by rfl)
    (hpl : ((backTo pos (starEach [] X.env)).any (·.1) || (backToKw pos (keywordEach kwe X.env)).any (·.1.isNone)) = false := by rfl)
    (ht : eval (.Call (.Attribute o m apos) [] kwe pos) X.env = (do
      let ov ← eval o X.env; standAt apos.atName; let (f, first) ← holding [ov] (getMethod ov m pl)
      callWith pos f first (backTo pos (starEach [] X.env)) (backToKw pos (keywordEach kwe X.env))) := by rfl) :
    PE X (.Call (.Attribute o m apos) [] kwe pos) (fun σ H Q => ta σ H fun x H1 => match x with
      | .ref a => (∃ dx fs, H1 a = some (.ins C dx fs) ∧ fs.lookup m = none) ∧ t σ H1 fun zs H2 => zs.length = ks.length ∧ sp (pick idx (.ref a :: zs)) H2 Q (fun cls d H' => W cls d σ H')
      | _ => False) := by
  obtain ⟨g, fd, F, cl, hm, Fu⟩ := c.ex
  refine ⟨fun pins s σ H Q J h => PySem.W.methodCall_KW (pl := pl) (thn (ho.run pins s σ H _ J h) fun u s1 ⟨x, H1, J1, rx, q⟩ => ?_) ht⟩
  cases x <;> first | exact q.elim | skip
  rename_i a
  cases rx
  obtain ⟨⟨dx, fs, ea, l⟩, q⟩ := q
  refine getmeth_ok J1 ea cl hm l ?_
  refine PySem.W.callWith_KW0 (first := [.ref a]) (h₀ := X.base) J1.ok.mod.kin hm.kp hall ?_ hpl
  refine thn (hkw.run pos pins s1 σ H1 _ J1 q) fun ws s2 ⟨zs, H2, J2, rz, ln, q2⟩ => ⟨J2.kIn, ?_⟩
  rw [hks]
  have lw : ws.length = ks.length := by rw [← rz.length, ln]
  obtain ⟨oc, od, kV, doc, pm, an, cdv, ct, osl, rfl, _, _⟩ := Fu.ex
  exact code_fnK (E := WE W) (args := ⟨[.ref a], ks.zip ws⟩) F (hr.mono hj) (.of_eq (hb kV doc pm an cdv ct [.ref a] ws rfl lw)) (passAt tk σ) J2 (vals_pick idx (show L2.Vals (.ref a :: zs) (.ref a :: ws) from .cons rfl rz)) q2
end
/-! ### displays of dicts, all -/
section
variable {X : Cx} {pos : Pos}
def upTT (p : TE × TE) : TE × TE := (upE p.1, upE p.2)
theorem tPairs_up : ∀ (trs : List (TE × TE)) {σ : L2.St} {H : Hp} {R Q : List (V × V) → Hp → Prop}, tPairs trs σ H R → (∀ ps H', R ps H' → Q ps H') → tPairs (trs.map upTT) σ H Q
  | [], σ, H, R, Q, h, w => w _ _ h
  | (tk, tv) :: r, σ, H, R, Q, h, w => ⟨_, h, fun x H1 h1 => ⟨_, h1, fun y H2 h2 => tPairs_up r h2 fun ps H' h3 => w _ _ h3⟩⟩
theorem fps_cons {k v : Expr} {ks : List (Option Expr)} {vs : List Expr} {tk tv : TE} {trs : List (TE × TE)} (hk : PE X k tk) (hv : PE X v tv) (hr : PPs X pos ks vs (trs.map upTT)) :
    PPs X pos (some k :: ks) (v :: vs) (((tk, tv) :: trs).map upTT) := pps_cons (pe_up hk) (pe_up hv) hr
theorem fps_nil : PPs X pos [] [] (([] : List (TE × TE)).map upTT) := pps_nil
def toKs : List (V × V) → Option (List (Key × V))
  | [] => some []
  | (.str k, v) :: r => match toKs r with
    | some kvs => some ((.inr k, v) :: kvs)
    | none => none
  | (.int k, v) :: r => match toKs r with
    | some kvs => some ((.inl k, v) :: kvs)
    | none => none
  | _ :: _ => none
theorem toKs_ok : ∀ {ps : List (V × V)} {kvs : List (Key × V)}, toKs ps = some kvs → ps = kvs.map fun kv => (kV kv.1, kv.2)
  | [], kvs, h => by cases h; rfl
  | (k, v) :: r, kvs, h => by
    cases k <;> unfold toKs at h <;> try cases h
    all_goals
      cases z : toKs r with
      | none => rw [z] at h; cases h
      | some k2 =>
        rw [z] at h
        cases h
        rw [List.map_cons, ← toKs_ok z]
        rfl
/-- {k: v, ..} -/
def fDisp (trs : List (TE × TE)) : TE := fun σ H Q => ∀ p H1, H p = none → Same H H1 → H1 p = some (.dK []) → tPairs trs σ H1 fun ps H2 => H2 p = some (.dK []) ∧ match toKs ps with
  | some kvs => kvs.length ≤ 15 ∧ ∀ H3, But p H2 H3 → H3 p = some (.dK (mergeK [] kvs)) → Q (.ref p) H3
  | none => False
theorem fe_disp {keys : List (Option Expr)} {values : List Expr} {trs : List (TE × TE)} (h : PPs X pos keys values (trs.map upTT)) (hall : keys.all (·.isSome) = true) (hl : keys.length = values.length) (h0 : keys ≠ [])
    (h15 : keys.length ≤ 15) : PE X (.Dict keys values pos) (fDisp trs) := pe_imp (pe_disp h hall hl h0 h15) fun σ H Q q p np => tPairs_up trs (q p _ np (Same.new np) upd_same) fun ps H2 ⟨e, r⟩ => by
  refine ⟨e, ?_⟩
  split at r
  · rename_i kvs ek
    exact ⟨kvs, toKs_ok ek, r.1, r.2 _ But.upd upd_same⟩
  · exact r.elim
theorem fe_d0 : PE X (.Dict [] [] pos) (fun _ H Q => Fresh H (.dK []) Q) := pe_imp pe_dnewK fun σ H Q q => q.go
end
theorem TyX.same {K : PySem.W.Frag} {H H' : Hp} {v : V} {t : Value} (s : Same H H') (h : TyX K H v t) : TyX K H' v t := by
  cases h with
  | base b =>
    cases b with
    | non => exact .base .non
    | bl b => exact .base (.bl b)
    | int b => exact .base (.int b)
    | str b => exact .base (.str b)
    | flt b => exact .base (.flt b)
    | lst e => exact .base (.lst (s _ _ e))
    | frz e => exact .base (.frz (s _ _ e))
    | tup e => exact .base (.tup (s _ _ e))
    | dK e => exact .base (.dK (s _ _ e))
    | dT e => exact .base (.dT (s _ _ e))
    | ins e cl ha hn htk => exact .base (.ins (s _ _ e) cl ha hn htk (by assumption))
  | byt b => exact .byt b
  | set e => exact .set (s _ _ e)
  | kList e c => exact .kList e c
  | kTuple e c => exact .kTuple e c
  | kDict e c => exact .kDict e c
  | fTuple e => exact .fTuple (s _ _ e)
  | fDict e => exact .fDict (s _ _ e)
theorem RefTy.same {K : PySem.W.Frag} {H H' : Hp} {a : Addr} {c : Value} {b : Bool} (s : Same H H') (h : RefTy K H a c b) : RefTy K H' a c b := by
  obtain ⟨t, x, k⟩ := h
  exact ⟨t, TyX.same s x, k⟩
/-- a thing of any kind that is handed in: no int, no text if it is an object -/
def AnyV (K : PySem.W.Frag) (H : Hp) : V → Prop
  | .non => True
  | .bl _ => True
  | .int _ => True
  | .str z => z.length ≤ 100000
  | .ref a => RefTy K H a (.type "int") false ∧ RefTy K H a (.type "str") false
  | _ => False
theorem AnyV.same {K : PySem.W.Frag} {H H' : Hp} {v : V} (s : Same H H') (h : AnyV K H v) : AnyV K H' v := by
  cases v with
  | ref a => exact ⟨RefTy.same s h.1, RefTy.same s h.2⟩
  | _ => exact h
/-- an invariant of a loop over pairs -/
theorem LoopZ.by {st : Hp → Prop} {g : TG} {tb : TS} {D : Ends} (Pv : List (V × V) → L2.St → Hp → Prop)
    (hs : ∀ x r σ H, Pv (x :: r) σ H → ∀ N : L2.St → Hp → Prop, (∀ σ' H', st H' → Pv r σ' H' → N σ' H') → ∀ T H', H T = none → Same H H' → H' T = some (.tup [x.1, x.2]) → g (.ref T) σ H' fun σ2 H2 => tb { D with nx := N, ct := N, bk := D.nx } σ2 H2)
    (hd : ∀ σ H, Pv [] σ H → D.nx σ H) : ∀ (xs : List (V × V)) (σ : L2.St) (H : Hp), Pv xs σ H → LoopZ st g tb D xs σ H
  | [], σ, H, h => hd σ H h
  | x :: r, σ, H, h => hs x r σ H h _ fun σ' H' a b => ⟨a, LoopZ.by Pv hs hd r σ' H' b⟩
theorem sz_le {n : Nat} (h : n ≤ 16000000) : n ≤ sizeLine := Nat.le_trans h (by rw [sizeLine_eq]; decide)
theorem sz_lt {n : Nat} (h : n ≤ 16000000) : n < sizeLine := Nat.lt_of_le_of_lt h (by rw [sizeLine_eq]; decide)
theorem ix_imp {X : Cx} {r r' : R2} (h : IxR X r) (w : ∀ x y H Q, r' x y H Q → r x y H Q) : IxR X r' := fun value slice pins s σ H x y v u Q I rx ry q hs => h value slice pins s σ H x y v u Q I rx ry (w _ _ _ _ q) hs
/-- d[k], d a dict of the module -/
theorem f_ixK {X : Cx} {d : Addr} {kvs : List (Str × V)} (T : KTab X.K X.w d kvs) : IxR X (fItK d kvs) := ix_imp ix_kdict fun x y H Q q => by
  obtain ⟨es, n, D, f⟩ := T.ex
  obtain ⟨rfl, q⟩ := q
  cases y <;> first | exact q.elim | skip
  rename_i z
  obtain ⟨v, e, q⟩ := q
  obtain ⟨r, e2, rel⟩ := f z
  rw [e] at rel
  cases r with
  | none => exact rel.elim
  | some u => exact ⟨_, z, v, rfl, rfl, ⟨es, n, u, D.at_, D.lit, e2, rel⟩, q⟩
/-- all(a list of bools), any -/
def blOf : List V → Option (List Bool)
  | [] => some []
  | .bl b :: r => (blOf r).map (b :: ·)
  | _ :: _ => none
theorem blOf_ok : ∀ {xs : List V} {bs : List Bool}, blOf xs = some bs → xs = bs.map V.bl
  | [], bs, h => by cases h; rfl
  | x :: r, bs, h => by
    cases x <;> unfold blOf at h <;> try cases h
    cases z : blOf r with
    | none => rw [z] at h; cases h
    | some b2 =>
      rw [z] at h
      cases h
      rw [List.map_cons, ← blOf_ok z]
def fAll (K : PySem.W.Frag) (f : List Bool → Bool) : List V → Hp → VK → Prop := fun xs H Q => match xs with
  | [.ref a] => ∃ ys bs, SqL K H a ys ∧ ys = bs.map V.bl ∧ Q (.bl (f bs)) H
  | _ => False
theorem f_all {X : Cx} (hc : X.calm = true) : CallR X (.builtin "all") (fAll X.K fun bs => bs.all id) := call_imp (cr_all hc) fun xs H Q q => by
  unfold fAll at q
  split at q
  · obtain ⟨ys, bs, h, rfl, q⟩ := q
    exact ⟨_, bs, rfl, h, q⟩
  · exact q.elim
theorem f_any {X : Cx} (hc : X.calm = true) : CallR X (.builtin "any") (fAll X.K fun bs => bs.any id) := call_imp (cr_any hc) fun xs H Q q => by
  unfold fAll at q
  split at q
  · obtain ⟨ys, bs, h, rfl, q⟩ := q
    exact ⟨_, bs, rfl, h, q⟩
  · exact q.elim
theorem Same.no {H H' : Hp} {p : Addr} (s : Same H H') (n : H' p = none) : H p = none := by
  cases h : H p with
  | none => rfl
  | some o =>
    rw [s _ _ h] at n
    cases n
/-- what follows is shown once, behind several roads -/
theorem meet {A : Prop} {G : Addr → Hp → Prop} (Pc : Addr → Hp → Prop) (h1 : (∀ a H, Pc a H → G a H) → A) (h2 : ∀ a H, Pc a H → G a H) : A := h1 h2
/-- each item by a function, of items that do -/
theorem Comp.mapP {st : Hp → Prop} {g : TG} {te : TE} {vs : List Nat} {σ : L2.St} {D : Addr} {Q : Hp → Prop} {H0 : Hp} (Px : V → Prop) (f : V → V) (n0 : H0 D = none) (hst : ∀ H, Same H0 H → st H)
    (hx : ∀ (x : V) (H : Hp) (R : VK), Px x → Same H0 H → (∀ H', Same H H' → R (f x) H') → g x (wipe σ vs) H fun σ2 H2 => wipe σ2 vs = wipe σ vs ∧ te σ2 H2 R) :
    ∀ (xs : List V) (acc : List V) (H : Hp), (∀ x ∈ xs, Px x) → acc.length + xs.length ≤ sizeLine → Same H0 H → H D = some (.lst acc) → (∀ H', Same H0 H' → H' D = some (.lst (acc ++ xs.map f)) → Q H') → Comp st g tYes te vs σ D Q xs H
  | [], acc, H, _, _, s, hD, q => q H s (by rw [List.map_nil, List.append_nil]; exact hD)
  | x :: r, acc, H, hp, hl, s, hD, q => by
    rw [List.length_cons] at hl
    have k := hx x H (fun y H4 => ∃ acc, H4 D = some (.lst acc) ∧ acc.length < sizeLine ∧ st (upd H4 D (.lst (acc ++ [y]))) ∧ Comp st g tYes te vs σ D Q r (upd H4 D (.lst (acc ++ [y])))) (hp x (List.mem_cons_self ..)) s fun H' s' => by
      have s2 : Same H0 (upd H' D (.lst (acc ++ [f x]))) := Same.but (s.trans s') n0 But.upd
      refine ⟨acc, s' _ _ hD, by omega, hst _ s2, ?_⟩
      refine Comp.mapP Px f n0 hst hx r (acc ++ [f x]) _ (fun y hy => hp y (List.mem_cons_of_mem _ hy)) (by rw [List.length_append, List.length_singleton]; omega) s2 upd_same fun H2 s3 e => q H2 s3 ?_
      rw [e, List.append_assoc]
      rfl
    exact k
/-! ### the same in a comprehension's own block: K written -/
section
variable {X : Cx} (K : PySem.W.Frag) (hK : X.K = K := by rfl)
include hK
theorem f_ixB : IxR X (fIx K) := hK ▸ f_ix
theorem f_lenB : CallR X (.builtin "len") (fLen K) := hK ▸ f_len
theorem f_isintB : CallR X (.builtin "isinstance") (fIsTy K "int") := hK ▸ f_isint
theorem f_isstrB : CallR X (.builtin "isinstance") (fIsTy K "str") := hK ▸ f_isstr
theorem f_istupB : CallR X (.builtin "isinstance") (fIsTy K "tuple") := hK ▸ f_istup
theorem f_listB : CallR X (.type "list") (fList K) := hK ▸ f_list
theorem f_tupleB : CallR X (.type "tuple") (fTuple K) := hK ▸ f_tuple
theorem f_slLB : SlR X (fSlL K) := hK ▸ f_slL
theorem f_inQB : OpR X (compareOp .In) (fInQ K false) := hK ▸ f_inQ
theorem f_notInQB : OpR X (compareOp .NotIn) (fInQ K true) := hK ▸ f_notInQ
theorem f_joinB : MtR X "str.join" (fJoin K) := hK ▸ f_join
end
/-- a def of the module whose code object is known -/
structure FunC (K : PySem.W.Frag) (mg : Str → Option Value) (x : Str) (st : Stmt) (c : Addr) : Prop where
  ex : ∃ (f : Addr) (oc : Value) (od : Option Addr) (kV doc pm : Value) (an : Option Addr) (ct : Value) (osl : Array (Option Value)),
    K.lookup f = some ⟨oc, od, .func (PySem.W.fnOf x x (defArgs st) (defBody st) (defScope st) .none kV doc pm an (.ref c) ct), osl⟩ ∧ PySem.W.codeIn K (.ref c) x = true ∧ PySem.W.keepIn K (.ref f) = true ∧ mg x = some (.ref f)
end Fg

set_option Elab.async false
set_option linter.all false
set_option maxRecDepth 100000
set_option maxHeartbeats 4000000
namespace Fg
open PySem PySem.Spec PyProof.Rows L2
/-! ### zip of any two: lists, tuples, texts -/
inductive Sd where
  | L (a : Addr)
  | T (a : Addr)
  | S (z : Str)
def Sd.has (K : PySem.W.Frag) (H : Hp) : Sd → List V → Prop
  | .L a => SqL K H a
  | .T a => SqT K H a
  | .S z => fun xs => xs = signs z
def Sd.v : Sd → V
  | .L a => .ref a
  | .T a => .ref a
  | .S z => .str z
def Sd.src : Sd → List Addr
  | .L a => [a]
  | .T a => [a]
  | .S _ => []
/-- its iterator at i1, behind i turns -/
def Sd.itr (i1 : Addr) (t : Tok) (i : Nat) (h : Heap) : Sd → Prop
  | .L a => h.IsListIter i1 a i
  | .T a => h.IsTupleIter i1 a i
  | .S z => h.IsStrIter i1 (strIterType z) z t i
theorem Sd.itr_at {d : Sd} {i1 : Addr} {t : Tok} {i : Nat} {h h' : Heap} (s : d.itr i1 t i h) (k : ∀ o, h.get? i1 = some o → h'.get? i1 = some o) : d.itr i1 t i h' := by
  cases d with
  | L a => exact Heap.IsListIter.at s k
  | T a => exact Heap.IsTupleIter.at s k
  | S z => obtain ⟨o, e, q⟩ := s; exact ⟨o, k o e, q⟩
theorem Sd.itr_ob {d : Sd} {i1 : Addr} {t : Tok} {i : Nat} {h : Heap} (s : d.itr i1 t i h) : ∃ o, h.get? i1 = some o ∧ ∀ v, o.data ≠ .cell v := by
  cases d with
  | L a => obtain ⟨o, e, _, q⟩ := s; exact ⟨o, e, fun v z => by rw [q] at z; cases z⟩
  | T a => obtain ⟨o, e, _, q⟩ := s; exact ⟨o, e, fun v z => by rw [q] at z; cases z⟩
  | S z => obtain ⟨o, e, _, q⟩ := s; exact ⟨o, e, fun v z => by rw [q] at z; cases z⟩
section
variable {X : Cx} {pins : List (Addr × Obj)} {σ : L2.St} {H : Hp} {s : Shared}
theorem Sd.inj {d : Sd} (I : Inv X pins σ H s) {xs ys : List V} (h : d.has X.K H xs) (h' : d.has X.K H ys) : xs = ys := by
  cases d with
  | L a => exact I.list_inj h h'
  | T a => exact I.tuple_inj h h'
  | S z => exact (show xs = signs z from h).trans (show ys = signs z from h').symm
/-- what such an iterator draws, from here on -/
theorem Sd.draws {d : Sd} (I : Inv X pins σ H s) (hc : X.calm = true) {xs : List V} (h : d.has X.K H xs) (i1 : Addr) (t : Tok) (ne : ∀ a ∈ d.src, a ≠ i1) :
    ∃ (Pv : Nat → Value → Prop) (St : Nat → Heap → Prop), Draws X.prog X.w X.A.in1 i1 (i1 :: d.src) xs.length Pv St ∧ (∀ i h, St i h → d.itr i1 t i h) ∧ (∀ i, d.itr i1 t i s.heap → St i s.heap) ∧
      ∀ i u, Pv i u → ∃ x, xs[i]? = some x ∧ RelV x u := by
  have hh : X.A.in1.handled = none := I.ok.hd hc
  have fwd : ∀ {its : List Value} (r : Vals xs its) (i : Nat) (u : Value), its.toArray[i]? = some u → ∃ x, xs[i]? = some x ∧ RelV x u := fun {its} r i u e => by
    rcases vals_nth r i with ⟨_, b⟩ | ⟨x, w, a, b, c⟩
    · rw [List.getElem?_toArray, b] at e; cases e
    · rw [List.getElem?_toArray, b] at e
      cases e
      exact ⟨x, a, c⟩
  cases d with
  | L a =>
    obtain ⟨its, r, p, _⟩ := I.list h
    have D := Draws.list (prog := X.prog) (w := X.w) hh i1 a (ne a (List.mem_singleton.mpr rfl)) its.toArray
    rw [show its.toArray.size = xs.length by rw [List.size_toArray, r.length]] at D
    exact ⟨_, _, D, fun i h q => q.1, fun i q => ⟨q, p.isList⟩, fun i u e => fwd r i u e⟩
  | T a =>
    obtain ⟨its, r, p, _⟩ := I.tuple h
    have D := Draws.tuple (prog := X.prog) (w := X.w) hh i1 a (ne a (List.mem_singleton.mpr rfl)) its.toArray
    rw [show its.toArray.size = xs.length by rw [List.size_toArray, r.length]] at D
    exact ⟨_, _, D, fun i h q => q.1, fun i q => ⟨q, p⟩, fun i u e => fwd r i u e⟩
  | S z =>
    have D := Draws.text (prog := X.prog) (w := X.w) hh i1 z t
    have ex : xs = signs z := h
    rw [show z.cps.size = xs.length by rw [ex]; simp [signs]] at D
    refine ⟨_, _, D, fun i h q => q, fun i q => q, fun i u e => ?_⟩
    obtain ⟨c, tk, ec, rfl⟩ := e
    refine ⟨.str ⟨#[c]⟩, ?_, tk, rfl⟩
    rw [ex]
    unfold signs
    rw [List.getElem?_map, Array.getElem?_toList, ec]
    rfl
end
/-- both as they stand at each turn, the items in new pairs -/
def ItM (K : PySem.W.Frag) (d1 d2 : Sd) : It :=
  ⟨fun i H => ∃ xs ys : List V, d1.has K H xs ∧ d2.has K H ys ∧ i < xs.length ∧ xs.length = ys.length,
    fun i H v H' => ∃ T x y, v = .ref T ∧ H T = none ∧ H' = upd H T (.tup [x, y]) ∧ (∀ xs, d1.has K H xs → xs[i]? = some x) ∧ ∀ ys, d2.has K H ys → ys[i]? = some y,
    fun i H => ∃ xs ys : List V, d1.has K H xs ∧ d2.has K H ys ∧ i = xs.length ∧ xs.length = ys.length⟩
structure Apt (z TI TO i1 i2 : Addr) (d1 d2 : Sd) : Prop where
  TIz : TI ≠ z
  TOz : TO ≠ z
  TITO : TI ≠ TO
  TIi1 : TI ≠ i1
  TIi2 : TI ≠ i2
  zi1 : z ≠ i1
  zi2 : z ≠ i2
  TOi1 : TO ≠ i1
  TOi2 : TO ≠ i2
  i12 : i1 ≠ i2
  s1 : ∀ a ∈ d1.src, a ≠ z ∧ a ≠ TO ∧ a ≠ i1 ∧ a ≠ i2
  s2 : ∀ a ∈ d2.src, a ≠ z ∧ a ≠ TO ∧ a ≠ i1 ∧ a ≠ i2
theorem Apt.sep {z TI TO i1 i2 : Addr} {d1 d2 : Sd} (D : Apt z TI TO i1 i2 d1 d2) : ZipSep2 z TI TO i1 i2 (i1 :: d1.src) (i2 :: d2.src) where
  TIz := D.TIz
  TOz := D.TOz
  TITO := D.TITO
  TIi1 := D.TIi1
  mem1 := List.mem_cons_self ..
  zf1 := fun h => (List.mem_cons.mp h).elim D.zi1 fun h => (D.s1 z h).1 rfl
  Tf1 := fun h => (List.mem_cons.mp h).elim D.TOi1 fun h => (D.s1 TO h).2.1 rfl
  TIi2 := D.TIi2
  mem2 := List.mem_cons_self ..
  zf2 := fun h => (List.mem_cons.mp h).elim D.zi2 fun h => (D.s2 z h).1 rfl
  Tf2 := fun h => (List.mem_cons.mp h).elim D.TOi2 fun h => (D.s2 TO h).2.1 rfl
  sep1_2 := fun h => (List.mem_cons.mp h).elim D.i12 fun h => (D.s2 i1 h).2.2.1 rfl
  sep2_1 := fun h => (List.mem_cons.mp h).elim (fun e => D.i12 e.symm) fun h => (D.s1 i2 h).2.2.2 rfl
theorem turn_zipM {P : Program} {w : World} {K : PySem.W.Frag} {elts : List Expr} {kk : Nat} {tpos : Pos} {d1 d2 : Sd} {z TI TO i1 i2 : Addr} {t1 t2 : Tok} (D : Apt z TI TO i1 i2 d1 d2) :
    Turn P w K (.Tuple elts kk tpos) (ItM K d1 d2) [z, TI, TO, i1, i2] z (fun i h => IsZip h z TI TO .none ∧ IsTupOf2 h TI (.ref i1) (.ref i2) ∧ (∃ a1 a2, IsTupOf2 h TO a1 a2) ∧ d1.itr i1 t1 i h ∧ d2.itr i2 t2 i h) where
  mem := by simp
  obj := fun i h st c hc => by
    obtain ⟨hz, hTI, ⟨x, y, hTO⟩, h1, h2⟩ := st
    simp only [List.mem_cons, List.not_mem_nil, or_false] at hc
    rcases hc with rfl | rfl | rfl | rfl | rfl
    · exact ⟨_, hz, fun v q => nomatch q⟩
    · exact ⟨_, hTI, fun v q => nomatch q⟩
    · exact ⟨_, hTO, fun v q => nomatch q⟩
    · exact Sd.itr_ob h1
    · exact Sd.itr_ob h2
  keep := fun i h h' st k => by
    obtain ⟨hz, hTI, ⟨x, y, hTO⟩, h1, h2⟩ := st
    exact ⟨k z (by simp) _ hz, k TI (by simp) _ hTI, ⟨x, y, k TO (by simp) _ hTO⟩, Sd.itr_at h1 fun o q => k i1 (by simp) o q, Sd.itr_at h2 fun o q => k i2 (by simp) o q⟩
  item := by
    intro X hP hw hK hc i pins s σ H E I hf st hg
    subst hP hw hK
    obtain ⟨hz, hTI, hTO, h1, h2⟩ := st
    obtain ⟨xs, ys, q1, q2, hi, hl⟩ := hg
    obtain ⟨P1, S1, D1, f1, g1, r1⟩ := Sd.draws I hc q1 i1 t1 fun a ha => (D.s1 a ha).2.2.1
    obtain ⟨P2, S2, D2, f2, g2, r2⟩ := Sd.draws I hc q2 i2 t2 fun a ha => (D.s2 a ha).2.2.2
    have G := GoesN.zip2 (elts := elts) (x1 := kk) (pos := tpos) D.sep D1 D2
    refine G.goes i s _ E (by rw [← hl, Nat.min_self]; exact hi) ⟨hz, hTI, hTO, g1 i h1, g2 i h2⟩ fun v h' tk hY st' hk htk => ?_
    obtain ⟨T, x, y, rfl, hT, p1, p2, tup⟩ := hY
    obtain ⟨x', ex, rx⟩ := r1 i x p1
    obtain ⟨y', ey, ry⟩ := r2 i y p2
    have nT : H T = none := I.hok.fresh hT
    have new : ObjOk X.prog X.w (upd H T (.tup [x', y'])) h' T (.tup [x', y']) := ⟨by show 2 ≤ sizeLine; decide, [x, y], .cons rx (.cons ry .nil), tup⟩
    have sub : ∀ b ∈ [z, TO, i1, i2], b ∈ [z, TI, TO, i1, i2] := fun b hb => by
      simp only [List.mem_cons, List.not_mem_nil, or_false] at hb ⊢
      rcases hb with rfl | rfl | rfl | rfl
      · exact .inl rfl
      · exact .inr (.inr (.inl rfl))
      · exact .inr (.inr (.inr (.inl rfl)))
      · exact .inr (.inr (.inr (.inr rfl)))
    refine ⟨.ref T, upd H T (.tup [x', y']), I.turnedNew (t' := tk) (ch := [z, TO, i1, i2]) (fun b o hb e => hk b o hb e) (fun b hb => hf b (sub b hb)) hT new, rfl, ⟨T, x', y', rfl, nT, rfl, fun l hl => by rw [Sd.inj I hl q1]; exact ex, fun l hl => by rw [Sd.inj I hl q2]; exact ey⟩, ?_, fun b hb => ?_⟩
    · obtain ⟨a1, a2, a3, a4, a5⟩ := st'
      exact ⟨a1, a2, a3, f1 _ _ a4, f2 _ _ a5⟩
    · rw [upd_ne fun e => ?_]
      · exact (hf b hb).1
      · obtain ⟨o, ho, _⟩ : ∃ o, s.heap.get? b = some o ∧ True := by
          simp only [List.mem_cons, List.not_mem_nil, or_false] at hb
          rcases hb with rfl | rfl | rfl | rfl | rfl
          · exact ⟨_, hz, trivial⟩
          · exact ⟨_, hTI, trivial⟩
          · obtain ⟨_, _, q⟩ := hTO; exact ⟨_, q, trivial⟩
          · obtain ⟨o, q, _⟩ := Sd.itr_ob h1; exact ⟨o, q, trivial⟩
          · obtain ⟨o, q, _⟩ := Sd.itr_ob h2; exact ⟨o, q, trivial⟩
        rw [e] at ho
        exact Nat.lt_irrefl _ (Nat.lt_of_lt_of_le (Heap.lt_size ho) hT)
  done := by
    intro X hP hw hK hc i pins s σ H E I hf st hg
    subst hP hw hK
    obtain ⟨hz, hTI, hTO, h1, h2⟩ := st
    obtain ⟨xs, ys, q1, q2, rfl, hl⟩ := hg
    obtain ⟨P1, S1, D1, f1, g1, r1⟩ := Sd.draws I hc q1 i1 t1 fun a ha => (D.s1 a ha).2.2.1
    obtain ⟨P2, S2, D2, f2, g2, r2⟩ := Sd.draws I hc q2 i2 t2 fun a ha => (D.s2 a ha).2.2.2
    have G := GoesN.zip2 (elts := elts) (x1 := kk) (pos := tpos) D.sep D1 D2
    rw [← hl, Nat.min_self] at G
    refine G.stops s _ E ⟨hz, hTI, hTO, g1 _ h1, g2 _ h2⟩ fun h' tk hk htk => I.turnedL (t' := tk) (ch := [z, TO, i1, i2]) (fun b o hb e => hk b o hb e) fun b hb => hf b (by
      simp only [List.mem_cons, List.not_mem_nil, or_false] at hb ⊢
      rcases hb with rfl | rfl | rfl | rfl
      · exact .inl rfl
      · exact .inr (.inr (.inl rfl))
      · exact .inr (.inr (.inr (.inl rfl)))
      · exact .inr (.inr (.inr (.inr rfl))))
  self := fun A i s Q E st h => wpAny_pyIter_zip st.1 h
theorem apt_new (N : Nat) (d1 d2 : Sd) (h1 : ∀ a ∈ d1.src, a < N) (h2 : ∀ a ∈ d2.src, a < N) : Apt (N + 4) (N + 2) (N + 3) N (N + 1) d1 d2 where
  TIz := show (N + 2 : Nat) ≠ N + 4 by omega
  TOz := show (N + 3 : Nat) ≠ N + 4 by omega
  TITO := show (N + 2 : Nat) ≠ N + 3 by omega
  TIi1 := show (N + 2 : Nat) ≠ N by omega
  TIi2 := show (N + 2 : Nat) ≠ N + 1 by omega
  zi1 := show (N + 4 : Nat) ≠ N by omega
  zi2 := show (N + 4 : Nat) ≠ N + 1 by omega
  TOi1 := show (N + 3 : Nat) ≠ N by omega
  TOi2 := show (N + 3 : Nat) ≠ N + 1 by omega
  i12 := show (N : Nat) ≠ N + 1 by omega
  s1 := fun a ha => by
    have q : (show Nat from a) < N := h1 a ha
    exact ⟨fun e => by rw [show (show Nat from a) = N + 4 from e] at q; omega, fun e => by rw [show (show Nat from a) = N + 3 from e] at q; omega, fun e => by rw [show (show Nat from a) = N from e] at q; omega, fun e => by rw [show (show Nat from a) = N + 1 from e] at q; omega⟩
  s2 := fun a ha => by
    have q : (show Nat from a) < N := h2 a ha
    exact ⟨fun e => by rw [show (show Nat from a) = N + 4 from e] at q; omega, fun e => by rw [show (show Nat from a) = N + 3 from e] at q; omega, fun e => by rw [show (show Nat from a) = N from e] at q; omega, fun e => by rw [show (show Nat from a) = N + 1 from e] at q; omega⟩
section
variable {X : Cx} {pins : List (Addr × Obj)} {σ : L2.St} {H : Hp} {s : Shared}
/-- how iter of such a side begins -/
theorem Sd.begins {d : Sd} (I : Inv X pins σ H s) {xs : List V} (h : d.has X.K H xs) {u : Value} (r : RelV d.v u) : ∃ (t : Tok) (o : Obj) (Hq : Heap → Prop), Begins u o Hq ∧ Hq s.heap ∧ (∀ a ∈ d.src, a < s.heap.objs.size) ∧ ∀ h' i1, h'.get? i1 = some o → d.itr i1 t 0 h' := by
  cases d with
  | L a =>
    obtain ⟨its, rv, p, _⟩ := I.list h
    cases r
    refine ⟨0, _, _, begins_list a its.toArray, p.isList, fun b hb => ?_, fun h' i1 e => ⟨_, e, rfl, rfl⟩⟩
    rw [List.mem_singleton.mp hb]
    exact p.lt
  | T a =>
    obtain ⟨its, rv, p, _⟩ := I.tuple h
    cases r
    refine ⟨0, _, _, begins_tuple a its.toArray, p, fun b hb => ?_, fun h' i1 e => ⟨_, e, rfl, rfl⟩⟩
    rw [List.mem_singleton.mp hb]
    obtain ⟨o, ho, _⟩ := p
    exact Heap.lt_size ho
  | S z =>
    obtain ⟨t, rfl⟩ := r
    exact ⟨t, _, _, begins_text z t, trivial, fun b hb => absurd hb List.not_mem_nil, fun h' i1 e => ⟨_, e, rfl, rfl⟩⟩
end
def iZipM (K : PySem.W.Frag) (ta : TA) : TI := fun σ H R => ta σ H fun vs H1 => ∃ (d1 d2 : Sd) (xs ys : List V), vs = [d1.v, d2.v] ∧ d1.has K H1 xs ∧ d2.has K H1 ys ∧ xs.length = ys.length ∧ R (ItM K d1 d2) H1
theorem pi_zipM {X : Cx} {e e2 : Expr} {ta : TA} {p pos tpos : Pos} {elts : List Expr} {kk : Nat} (hg : Gl X "zip") (hm : X.mg "zip" = none) (ha : PA X [e, e2] ta)
    (hs : starEach [e, e2] X.env = (false, eval e X.env) :: starEach [e2] X.env := by rfl) (hpl : (backTo pos (starEach [e2] X.env)).any (·.1) = false := by rfl) :
    PI X (.Tuple elts kk tpos) (.Call (.Name "zip" p) [e, e2] [] pos) (iZipM X.K ta) := by
  refine ⟨fun pins s σ H R I h => Call_ (ld_blt I hg hm PyProof.Rows.boot_zip (PyProof.Rows.callWith_type1 (thn (ha.run pos pins s σ H _ I h) fun us s1 ⟨vs, H1, I1, r1, q1⟩ => ?_) hs hpl))⟩
  obtain ⟨d1, d2, xs, ys, rfl, h1, h2, hl, q⟩ := q1
  cases r1 with
  | cons r rr =>
    cases rr with
    | cons r' rr =>
      cases rr
      obtain ⟨t1, o1, Q1, B1, b1, l1, i1⟩ := Sd.begins I1 h1 r
      obtain ⟨t2, o2, Q2, B2, b2, l2, i2⟩ := Sd.begins I1 h2 r'
      refine zip_begins2 B1 B2 b1 b2 fun h' hz hTI hTO g1 g2 hsz hk => wpAny_pyIter_zip hz ?_
      have I2 : Inv X pins σ H1 { s1 with heap := h' } := I1.kept (t' := s1.toks) hk
      refine ⟨s1.heap.objs.size + 4, [s1.heap.objs.size + 4, s1.heap.objs.size + 2, s1.heap.objs.size + 3, s1.heap.objs.size, s1.heap.objs.size + 1], _, ItM X.K d1 d2, H1, rfl, I2, turn_zipM (t1 := t1) (t2 := t2) (apt_new _ d1 d2 l1 l2), ⟨hz, hTI, ⟨_, _, hTO⟩, i1 _ _ g1, i2 _ _ g2⟩, fun c hc => ?_, q⟩
      have hle : s1.heap.objs.size ≤ c := by
        simp only [List.mem_cons, List.not_mem_nil, or_false] at hc
        rcases hc with e | e | e | e | e <;> rw [e]
        · exact Nat.le_add_right _ _
        · exact Nat.le_add_right _ _
        · exact Nat.le_add_right _ _
        · exact Nat.le_refl _
        · exact Nat.le_add_right _ _
      exact I1.fpOk hle (I1.hok.fresh hle)
section
variable {X : Cx} {g : TG} {tb : TS} {body : List Stmt} {ta : TA}
/-- for a, b in zip(t, s): a tuple and a text of one length -/
theorem fs_forZTS {e e2 : Expr} {p pos tpos : Pos} {elts : List Expr} {kk : Nat} (hp : PassesOwn (model X.prog X.w) X.A X.env X.xe) (hc : X.calm = true) (hgl : Gl X "zip") (hm : X.mg "zip" = none) (ha : PA X [e, e2] ta) (hg : PG X (.Tuple elts kk tpos) g) (hb : PSs X body tb)
    (hst : starEach [e, e2] X.env = (false, eval e X.env) :: starEach [e2] X.env := by rfl) (hpl : (backTo pos (starEach [e2] X.env)).any (·.1) = false := by rfl) (hs : ∀ x, foldedSetIterable (.Call (.Name "zip" p) [e, e2] [] pos) X.env x = pure x := by intro _; rfl) {pos' : Pos} :
    PS X (.For (.Tuple elts kk tpos) (.Call (.Name "zip" p) [e, e2] [] pos) body [] pos') (fun D σ H => ta σ H fun vs H1 => match vs with
      | [.ref a, .str z] => ∃ xs, SqT X.K H1 a xs ∧ xs.length = (signs z).length ∧ LoopZ (fun H => SqT X.K H a xs) g tb D (xs.zip (signs z)) σ H1
      | _ => False) := ps_imp (ps_for hp hc (pi_zipM hgl hm (pa_up ha) hst hpl) hg hb hs) fun D σ H q => ⟨_, q, fun vs H1 q1 => by
  split at q1
  · rename_i a z
    obtain ⟨xs, hx, hl, q⟩ := q1
    have hz : (xs.zip (signs z)).length = xs.length := by rw [List.length_zip, hl, Nat.min_self]
    refine ⟨.T a, .S z, xs, signs z, rfl, hx, rfl, hl, loopZ_it (J := ItM X.K (.T a) (.S z)) (st := fun H => SqT X.K H a xs) (fun i H hi h => ?_) (fun i H x H' h y => ?_) (fun H h => ?_) hx q⟩
    · rw [hz] at hi
      exact ⟨xs, signs z, h, rfl, hi, hl⟩
    · obtain ⟨T, x1, x2, rfl, nT, rfl, f1, f2⟩ := y
      refine ⟨T, rfl, nT, fun p hp => ?_⟩
      rw [List.getElem?_zip_eq_some] at hp
      have e1 := (f1 _ h).symm.trans hp.1
      have e2 := (f2 (signs z) rfl).symm.trans hp.2
      rw [Option.some.inj e1, Option.some.inj e2]
    · exact ⟨xs, signs z, h, rfl, hz, hl⟩
  · exact q1.elim⟩
end
/-! ### set(a list of ints), sorted of it -/
end Fg
namespace L2
open PySem PySem.Spec PyProof.Rows
abbrev nSet (w : World) : Obj := { cls := .type "set", dict := none, data := .set #[] 0 (.fresh 0 0 (!w.params.followText "set-order")) }
set_option maxHeartbeats 6400000 in
theorem fset_list {P : Program} {w : World} {A : Around} {E : Value → Shared → Prop} {s : Shared} {l : Addr} {items : Array Value} (ns : List Int) {Q : Value → Shared → Prop} (hh : A.handled = none) (hl : s.heap.IsList l items) (hi : IntsAre items.toList ns) (hb : ns.length + 1 < scanBound)
    (h : ∀ (h' : Heap) (tk c : Nat), SetR w h' s.heap.objs.size (fun j => decide (j ∈ ns)) c → c ≤ ns.length → (∀ b o, s.heap.get? b = some o → h'.get? b = some o) → Q (.ref s.heap.objs.size) { s with heap := h', toks := tk }) :
    wpAny (model P w) A (call (.type "set") [.ref l]) Q E s := by
  have sz : items.size = ns.length := by simpa using hi.length
  have lt : l < s.heap.objs.size := hl.elim fun _ z => Heap.lt_size z.1
  have new : (s.heap.push (nSet w)).get? s.heap.objs.size = some (nSet w) := Heap.get?_push_size _ rfl
  have ty : Shared.TypeIs { s with heap := s.heap.push (nSet w) } (.ref s.heap.objs.size) "set" := ⟨_, new, rfl⟩
  obtain ⟨c0, tl0, mro⟩ := F.called_set.mro
  have made := F.called_set.made
  have sub := F.called_set.sub
  have ht := F.called_set.notType
  have cc := F.called_set.canCreate
  have tc := F.typeCall_set_1 (.ref l)
  have il := F.called_set.init.lookup
  have ib := F.called_set.init.bind (.ref s.heap.objs.size)
  refine wpAny_call (codeAny_of_tree ?_)
  show wpAny _ _ (callAny (.type "set") _) _ _ _
  refine wpAny_pure ⟨Code.quiet_builtin _ (by decide +kernel), codeAny_builtin F.entry_type_call ?_⟩
  rw [Around.under_plain (weight_type_call_type "set" [.ref l] []) rfl]
  repeat (any_goals (first | assumption | wp_step))
  refine codeAny_mono (code_set_led1 (.ref l) (E := E) (Q₁ := fun obj s₁ => obj = .ref s.heap.objs.size ∧ s₁ = { s with heap := s.heap.push (nSet w) }) ⟨rfl, rfl⟩) fun r s₁ hr => ?_
  match r, hr with
  | .error e, hr => exact hr
  | .ok .next, hr => exact hr.elim
  | .ok .brk, hr => exact hr.elim
  | .ok .cont, hr => exact hr.elim
  | .ok (.ret obj), hr =>
    obtain ⟨rfl, rfl⟩ := hr
    repeat (any_goals (first | assumption | wp_step))
    refine codeAny_mono (codeAny_call_builtin (R := wants (fun r s₂ => r = .none ∧ ∃ h' tk c, s₂ = { s with heap := h', toks := tk } ∧ SetR w h' s.heap.objs.size (fun j => decide (j ∈ ns)) c ∧ c ≤ ns.length ∧ ∀ b o, s.heap.get? b = some o → h'.get? b = some o) E)
      F.called_set.init.plain F.entry_set_init (check_set_init_1 ty ?_)) fun r₂ s₂ hr₂ => ?_
    · obtain ⟨⟨oc, od, odt, osl⟩, ol, hc, nl, hd⟩ := hl
      simp only at hc hd
      subst hc hd
      have ol2 : (s.heap.push (nSet w)).get? l = some { cls := .type "list", dict := od, data := .seq items nl, slots := osl } := Heap.get?_push_of_some _ ol
      have sl := F.sub_list_set
      have sf := F.sub_list_frozenset
      have nd : (Value.type "list" == Value.type "dict") = false := by decide
      have il2 : (s.heap.push (nSet w)).IsList l items := ⟨_, ol2, rfl, nl, rfl⟩
      have h3 : A.in1.in1.in1.handled = none := hh
      have s1 : (s.heap.push (nSet w)).objs.size = s.heap.objs.size + 1 := Heap.size_push ..
      have nI : l ≠ (s.heap.push (nSet w)).objs.size := by rw [s1]; exact Nat.ne_of_lt (Nat.lt_succ_of_lt lt)
      have nS : s.heap.objs.size ∉ [(s.heap.push (nSet w)).objs.size, l] := by
        rw [s1]
        simp only [List.mem_cons, List.not_mem_nil, or_false, not_or]
        exact ⟨Nat.ne_of_lt (Nat.lt_succ_self _), Nat.ne_of_gt lt⟩
      have val : ∀ (i : Nat) (v : Value), items[i]? = some v → ∃ k t, ns[i]? = some k ∧ v = .int k t := fun i v hv => by
        have q : i < ns.length := sz ▸ (Array.getElem?_eq_some_iff.mp hv).1
        obtain ⟨t, e⟩ := PyProof.Rows.IntsAre.int_at hi i v (by rw [Array.getElem?_toList]; exact hv)
        exact ⟨ns[i], t, List.getElem?_eq_getElem q, by rw [e, List.getD_eq_getElem?_getD, List.getElem?_eq_getElem q]; rfl⟩
      unfold Builtin.«set.__init__» noKeywords Builtin.Frozenset.updateFrom
      generalize hp : pyIter = PI
      wp_walk
      subst hp
      refine wpAny_pyIter_list il2 (wpAny_bind (wpAny_runValue ?_))
      refine set_update_ints (Walks.toS (Walks.list h3 _ l nI items)) s.heap.objs.size nS ns sz hb val (items.size - 0) 0 _ (by omega) (Nat.zero_le _) ⟨⟨_, Heap.get?_push_size _ rfl, rfl, rfl⟩, il2.push _⟩ ⟨0, Nat.le_refl 0, setR_new_at (Heap.get?_push_of_some _ new)⟩ ?_
      rintro ⟨h', g', d', tk', os'⟩ c' hm hc' hS'
      obtain rfl : g' = s.gens := hm.gens
      obtain rfl : d' = s.drawn := hm.drawn
      obtain rfl : os' = s.os := hm.os
      refine wpAny_pure (show wpAny _ _ (ret Value.none) _ _ _ from wpAny_pure ⟨rfl, h', tk', c', rfl, hS', sz ▸ hc', fun b o e => ?_⟩)
      have b0 := Heap.lt_size e
      refine hm.heap b o ?_ (Heap.get?_push_of_some _ (Heap.get?_push_of_some _ e))
      rw [s1]
      simp only [List.mem_cons, List.not_mem_nil, or_false, not_or]
      exact ⟨Nat.ne_of_lt b0, Nat.ne_of_lt (Nat.lt_succ_of_lt b0)⟩
    · match r₂, hr₂ with
      | .error e, hr₂ => exact hr₂
      | .ok .next, hr₂ => exact hr₂.elim
      | .ok .brk, hr₂ => exact hr₂.elim
      | .ok .cont, hr₂ => exact hr₂.elim
      | .ok (.ret r), hr₂ =>
        obtain ⟨rfl, h', tk, c, rfl, hS', hc', hk'⟩ := hr₂
        repeat (any_goals (first | assumption | wp_step))
        exact h _ _ _ hS' hc' hk'
end L2
namespace Fg
open PySem PySem.Spec PyProof.Rows L2
section
variable {X : Cx}
def fSetI (K : PySem.W.Frag) (w : World) : List V → Hp → VK → Prop := fun xs H Q => match xs with
  | [.ref l] => ∃ ns : List Int, SqL K H l (ns.map V.int) ∧ ns.length ≤ 60 ∧ ∀ p H', H p = none → Same H H' → (∃ n, n ≤ ns.length ∧ H' p = some (SetO w p (fun j => decide (j ∈ ns)) n)) → Q (.ref p) H'
  | _ => False
theorem f_setI (hc : X.calm = true) : CallR X (.type "set") (fSetI X.K X.w) := by
  intro pins s σ H xs us Q I r q
  unfold fSetI at q
  split at q
  · obtain ⟨ns, hs, hl, q⟩ := q
    obtain ⟨its, rv, p, _⟩ := I.list hs
    rw [Vals.ref1 r]
    have hb : ns.length + 1 < scanBound := by unfold scanBound; omega
    refine fset_list ns (I.ok.hd hc) p.isList (ints_of_vals rv) hb fun h' tk c R hcn k => ?_
    have np := I.hok.fresh (Nat.le_refl s.heap.objs.size)
    exact ⟨.ref s.heap.objs.size, _, I.laid (t' := tk) k (Nat.le_refl _) (setO_new R), rfl, q _ _ np (Same.new np) ⟨c, hcn, upd_same⟩⟩
  · exact q.elim
def fSortedSet (w : World) : List V → Hp → VK → Prop := fun xs H Q => match xs with
  | [.ref a] => ∃ S n, H a = some (SetO w a S n) ∧ n < 64 ∧ ∀ ns : List Int, ns.Pairwise (· < ·) → (∀ k : Int, k ∈ ns ↔ S k = true) → Fresh H (.lst (ns.map V.int)) Q
  | _ => False
theorem f_sortedSet (hc : X.calm = true) : CallR X (.builtin "sorted") (fSortedSet X.w) := call_imp (cr_sortedSet hc) fun xs H Q q => by
  unfold fSortedSet at q
  split at q
  · obtain ⟨S, n, h, hn, q⟩ := q
    exact ⟨_, S, n, rfl, h, hn, fun ns p h1 h2 _ np => (q ns h1 h2).go p np⟩
  · exact q.elim
def fSortedI (K : PySem.W.Frag) : List V → Hp → VK → Prop := fun xs H Q => match xs with
  | [.ref a] => ∃ ns : List Int, SqL K H a (ns.map V.int) ∧ ∀ ns' : List Int, ns'.Perm ns → ns'.Pairwise (· ≤ ·) → Fresh H (.lst (ns'.map V.int)) Q
  | _ => False
theorem f_sortedI : CallR X (.builtin "sorted") (fSortedI X.K) := call_imp cr_sortedI fun xs H Q q => by
  unfold fSortedI at q
  split at q
  · obtain ⟨ns, h, q⟩ := q
    exact ⟨_, ns, rfl, h, fun ns' p h1 h2 np => (q ns' h1 h2).go p np⟩
  · exact q.elim
def fIntS : List V → Hp → VK → Prop := fun xs H Q => match xs with
  | [.str a] => ∃ n, PySem.intText? a = some n ∧ a.length ≤ 640 ∧ Q (.int n) H
  | _ => False
theorem f_intS : CallR X (.type "int") fIntS := call_imp call_int_str fun xs H Q q => by
  unfold fIntS at q
  split at q
  · obtain ⟨n, h, hl, q⟩ := q
    exact ⟨_, n, rfl, h, hl, q⟩
  · exact q.elim
/-- d.get(k, x), k a text -/
def fDGetOr (td ty tx : TE) : TE := fun σ H Q => td σ H fun x H1 => match x with
  | .ref a => (∃ kvs, H1 a = some (.dK kvs)) ∧ ty σ H1 fun y H2 => tx σ H2 fun z H3 => match y with
    | .str k => ∃ kvs, H3 a = some (.dK kvs) ∧ Q ((valV kvs (Sum.inr k : Key)).getD z) H3
    | _ => False
  | _ => False
theorem fe_dgetOr {o e f : Expr} {td ty tx : TE} {apos cpos : Pos} (hu : X.A.units + 1 < cLine) (ho : PE X o td) (he : PE X e ty) (hf : PE X f tx) (m : M2 X o "get" apos e f cpos := by exact ⟨rfl, rfl, rfl, rfl⟩) :
    PE X (.Call (.Attribute o "get" apos) [e, f] [] cpos) (fDGetOr td ty tx) := pe_imp (pe_dget2 hu (pe_up ho) (pe_up he) (pe_up hf) m) fun σ H Q q => ⟨_, q, fun x H1 q1 => by
  split at q1
  · obtain ⟨⟨kvs, h⟩, q1⟩ := q1
    refine ⟨_, rfl, .inl ⟨kvs, .inl h⟩, _, q1, fun y H2 q2 => ⟨_, q2, fun z H3 q3 => ?_⟩⟩
    split at q3
    · obtain ⟨kvs, h3, q3⟩ := q3
      exact ⟨_, DGet.k (k := Sum.inr _) h3, q3⟩
    · exact q3.elim
  · exact q1.elim⟩
end
end Fg

set_option Elab.async false
set_option linter.all false
set_option maxRecDepth 100000
set_option maxHeartbeats 4000000
namespace Fg
open PySem PySem.Spec PyProof.Rows L2
/-! ### C.m(..), m a staticmethod of the class C -/
/-- C.m is a staticmethod: its record at p, its def at g -/
structure SMet (K : PySem.W.Frag) (C : Addr) (m : Str) (p g : Addr) : Prop where
  at_ : PySem.W.findCls K (.ref C) (.type "type") m = some (.get (.builtin "staticmethod.__get__") (.ref p) .none (.ref C))
  rc : ∃ rest, PySem.W.recIn K p "staticmethod" = some (.ref g :: rest)
def tSMeth (C : Addr) (sp : Sp) (E : L2.St → XK) (ta : TE) (t : TA) : TE := fun σ H Q => ta σ H fun x H1 => x = .ref C ∧ t σ H1 fun vs H2 => sp vs H2 Q (E σ)
section
variable {X : Cx} {CX : CXT} {k : Nat} {C p g : Addr} {sp : Sp} {E : L2.St → XK} {o e : Expr} {es : List Expr} {m : Str} {pos apos : Pos} {ta : TE} {t : TA} {pl : Sem Bool} {fd : FuncData} {ps : List Str}
theorem getsm_ok {pins : List (Addr × Obj)} {σ : L2.St} {H : Hp} {s : Shared} {A : Around} {Ev : Value → Shared → Prop} {Q : Value × List Value → Shared → Prop} (I : Inv X pins σ H s) (r : ClX.CRead X.K C (.type "type")) (c : SMet X.K C m p g)
    (h : ∀ s', Inv X pins σ H s' → Q (.ref g, []) s') : wpAny (model X.prog X.w) A (getMethod (.ref C) m pl) Q Ev s := by
  obtain ⟨rest, hp⟩ := c.rc
  refine PySem.W.method_cls I.kIn r.ga (PySem.W.cls_bind I.kIn r.rd c.at_ ?_)
  refine wpAny_call (PySem.W.sm_get (s := { s with toks := s.toks + 1 }) I.kIn hp (PySem.W.handed_on rfl ?_))
  exact h _ (I.tok _)
theorem pe_smeth (he : PE X o ta) (r : ClX.CRead X.K C (.type "type")) (c : SMet X.K C m p g) (F : FnOk X.prog X.w X.K X.mg X.base CX k g fd ps sp) (hr : Room k X.A) (hk : PySem.W.keepIn X.K (.ref g) = true) (hb : Binds X.K fd ps []) (hx : ∀ σ, PassesAt CX X σ (E σ)) (ha : PA X (e :: es) t)
    (hst : starEach (e :: es) X.env = (false, eval e X.env) :: starEach es X.env := by rfl) (hpl : (backTo pos (starEach es X.env)).any (·.1) = false := by rfl)
    (ht : eval (.Call (.Attribute o m apos) (e :: es) [] pos) X.env = (do
      let ov ← eval o X.env
      standAt apos.atName
      let (f, first) ← holding [ov] (getMethod ov m pl)
      callWith pos f first (backTo pos (starEach (e :: es) X.env)) (backToKw pos (keywordEach [] X.env))) := by rfl) :
    PE X (.Call (.Attribute o m apos) (e :: es) [] pos) (tSMeth C sp E ta t) := by
  refine ⟨fun pins s σ H Q I h => ?_⟩
  refine PySem.W.methodCall_KW (pl := pl) (thn (he.run pins s σ H _ I h) fun u s1 ⟨x, H1, I1, rx, ex, q⟩ => ?_) ht
  subst ex
  obtain rfl : u = Value.ref C := rx
  refine getsm_ok I1 r c fun s2 I2 => ?_
  refine PySem.W.callWith_K (h₀ := X.base) I2.ok.mod.kin hk (thn (ha.run pos pins s2 σ H1 _ I2 q) fun us s3 ⟨vs, H2, I3, rv, q2⟩ => ⟨I3.kIn, ?_⟩) hst hpl
  exact run_fnS F hr hb (hx σ) I3 rv q2
end
end Fg

set_option Elab.async false
set_option linter.all false
set_option maxRecDepth 100000
set_option maxHeartbeats 4000000
namespace Fg
open PySem PySem.Spec PySem.Calls PyProof.Rows L2
/-! ### own special methods -/
section
variable {X : Cx} {k n : Nat} {C f : Addr} {fd : FuncData} {ps : List Str} {sp : Sp} {pins : List (Addr × Obj)} {σ : L2.St} {H : Hp} {s : Shared} {A : Around}
abbrev noE : XK := fun _ _ _ => False
/-- a def called further in, that raises nothing here -/
theorem run_in {Q : VK} {us : List Value} {vs : List V} (F : FnOk X.prog X.w X.K X.mg X.base (L2.CX X.prog X.w) k f fd ps sp) (hr : Room k A) (fr : A.frames = X.A.frames) (hb : Binds X.K fd ps []) (I : Inv X pins σ H s) (r : L2.Vals vs us) (h : sp vs H Q noE) :
    wpAny (model X.prog X.w) A (call (.ref f) us) (EP X pins σ Q) X.xe s := by
  have e0 : Env0 X.prog X.w X.K X.mg X.base A X.stack s H := by
    have e := I.env0
    exact ⟨by rw [fr]; exact e.frames, e.mod, e.bs, e.bsz, e.funs, e.frf, e.hok, e.bare⟩
  have hl := F.len _ _ _ _ h
  refine wpAny_call (codeAny_mono (F.run A X.stack s H ⟨us, []⟩ us vs Q noE hr e0 (by
    have := hb s us I.kIn (by rw [List.append_nil, ← r.length]; exact hl)
    simpa using this) r h) fun out s' got => ?_)
  match out, got with
  | .error e, got =>
    obtain ⟨_, _, _, _, _, _, _, _, _, _, _, _, z⟩ := got
    exact z.elim
  | .ok (.ret u), got => exact I.after got
  | .ok .next, got => exact False.elim got
  | .ok .brk, got => exact False.elim got
  | .ok .cont, got => exact False.elim got
/-- a == b: instances of one class with an own == -/
def fEqO (C : Addr) (sp : Sp) : R2 := fun x y H Q => match x, y with
  | .ref a, .ref b => (∃ dx fs, H a = some (.ins C dx fs)) ∧ (∃ dx fs, H b = some (.ins C dx fs)) ∧ sp [.ref a, .ref b] H Q noE
  | _, _ => False
theorem relV_cmp {v : V} {u : Value} {Q : Value → Shared → Prop} {s : Shared} (r : RelV v u) (q : Q u s) : PySem.W.CmpBack Q u s := by
  cases v <;> first | (cases r; exact q) | (obtain ⟨t, rfl⟩ := r; exact q) | skip
theorem f_eqO (c : MCallee X.prog X.w X.K X.mg X.base k C "__eq__" ps sp) (hr : Room n X.A) (hk : k ≤ n) : OpR X (compareOp .Eq) (fEqO C sp) := by
  obtain ⟨g, fd, F, cl, hm, hb⟩ := c.ex
  intro pins s σ H x y v u Q I rx ry hq
  unfold fEqO at hq
  split at hq
  · rename_i a b
    obtain ⟨⟨dx, fs, ha⟩, ⟨dy, gs, hb'⟩, q⟩ := hq
    cases rx
    cases ry
    obtain ⟨mA, J, _⟩ := ins_get I.hok ha
    obtain ⟨mB, J', _⟩ := ins_get I.hok hb'
    obtain ⟨od, J, _⟩ := J.look
    obtain ⟨od', J', _⟩ := J'.look
    obtain ⟨m, hF⟩ := I.fr
    show wpAny (model X.prog X.w) X.A (richCompare .Eq (.ref a) (.ref b)) _ _ s
    refine PySem.W.cmp_K (op := .Eq) (tb := .ref C) hr.units0 hF I.ok.mod.kin J J'.type (by simp [PySem.W.notFirst]) hm.at_ hm.fn ?_
    refine wpAny_mono (run_in (us := [.ref a, .ref b]) F (hr.mono hk) rfl hb I (.cons (show RelV (.ref a) (.ref a) from rfl) (.cons (show RelV (.ref b) (.ref b) from rfl) .nil)) q) (fun r s' z => ?_) fun _ _ e => e
    obtain ⟨v, H', I', rz, q'⟩ := z
    exact relV_cmp (Q := EP X pins σ Q) rz ⟨v, H', I', rz, q'⟩
  · exact hq.elim
/-- a != b by the == of the class -/
structure NeAt (K : PySem.W.Frag) (C : Addr) : Prop where
  ne : PySem.W.findIn K (.ref C) "__ne__" = some (some (.builtin "object.__ne__"))
  ob : PySem.W.mroIn K C (.type "object") = some true
def fNeO (C : Addr) (sp : Sp) : R2 := fun x y H Q => match x, y with
  | .ref a, .ref b => (∃ dx fs, H a = some (.ins C dx fs)) ∧ (∃ dx fs, H b = some (.ins C dx fs)) ∧ sp [.ref a, .ref b] H (fun v H' => match v with | .bl r => Q (.bl (!r)) H' | _ => False) noE
  | _, _ => False
theorem ifBound_B {M : Model} {E : Value → Shared → Prop} {K : PySem.W.Frag} {x : Addr} {ox : Obj} {od : Option Obj} {name : Str} {id : String} {args : List Value} {Q : Option Value → Shared → Prop} (X : K.In s.heap) (I : PySem.W.InstAt s.heap x ox C od) (hs : PySem.W.findIn K (.ref C) name = some (some (.builtin id)))
    (hb : ∀ self, bindSpecial (.builtin id) self = pure (.builtin id, [self])) (h : wpAny M A (call (.builtin id) (.ref x :: args)) (fun v => Q (some v)) E s) : wpAny M A (callSpecialIfBound? (.ref x) name args) Q E s := by
  simp only [callSpecialIfBound?, bindSpecialIfBound?]
  refine wpAny_holding (wpAny_bind (wpAny_bind (wpAny_bind (I.type.here ((PySem.W.looks_findIn X hs).here ?_)))))
  refine wpAny_bind (wpAny_askSetting (wpAny_ite ?_))
  have fin : wpAny M A (call (.builtin id) ([.ref x] ++ args) >>= fun v => pure (some v)) Q E s := wpAny_bind (wpAny_mono h (fun v s' h' => wpAny_pure h') fun _ _ h' => h')
  split
  · exact wpAny_bind ((PySem.W.Looks.of_pure (hb _)).here (wpAny_pure (by exact fin)))
  · exact wpAny_tryCatch (wpAny_bind ((PySem.W.Looks.of_pure (hb _)).here (wpAny_pure (by exact fin))))
theorem ne_own {prog : Program} {w : World} {E : Value → Shared → Prop} {K : PySem.W.Frag} {x y : Addr} {ox : Obj} {od : Option Obj} {Q : Value → Shared → Prop} (hu : A.units + 1 < cLine) (X : K.In s.heap) (I : PySem.W.InstAt s.heap x ox C od) (hy : PySem.W.Looks (model prog w) s.heap (typeOf (.ref y)) (.ref C)) (N : NeAt K C)
    (he : PySem.W.findIn K (.ref C) "__eq__" = some (some (.ref f))) (hf : PySem.W.isFn K (.ref f) = true)
    (hcall : wpAny (model prog w) A.in1 (call (.ref f) [.ref x, .ref y]) (fun v s' => ∃ b, v = .bool b ∧ Q (.bool (!b)) s') E s) :
    wpAny (model prog w) A (richCompare .NotEq (.ref x) (.ref y)) Q E s := by
  have body : ∀ {Q : Fin → Shared → Prop}, wpAny (model prog w) A.in1 (call (.ref f) [.ref x, .ref y]) (fun v s' => ∃ b, v = .bool b ∧ Q (.done (.ret (.bool (!b)))) s') E s → wpAny (model prog w) A.in1 (Builtin.«object.__ne__» ⟨[.ref x, .ref y], []⟩) Q E s := fun {Q} hcall => by
    unfold Builtin.«object.__ne__»
    refine wpAny_bind (m := slotArgs "__ne__" 1 _) (wpAny_pure ?_)
    refine wpAny_bind (m := cRoomFor _ _) (wpAny_cRoomFor hu ?_)
    refine wpAny_bind (m := callSpecialIfBound? (.ref x) (Str.ofString "__eq__") _) (PySem.W.ifBound_K X I he hf (wpAny_mono hcall (fun r s' hr => ?_) fun _ _ e => e))
    obtain ⟨b, rfl, hq⟩ := hr
    refine wpAny_bind (m := truthy (.bool _)) (wpAny_truthy_bool ?_)
    exact wpAny_pure hq
  have one : wpAny (model prog w) A (tryCompare (.ref x) "__ne__" (.ref y)) (fun r s' => ∃ v, r = some v ∧ Q v s') E s := by
    unfold tryCompare
    refine wpAny_bind (ifBound_B X I N.ne PySem.F.slot_object_ne.bind ?_)
    refine wpAny_call (codeAny_call_builtin PySem.F.slot_object_ne.plain PySem.F.entry_object_ne (PySem.W.check_slot (i := "object.__ne__") (owner := "object") (n := "__ne__") (by decide +kernel) (by decide +kernel) (I.type.andThen (PySem.W.looks_mroIn X N.ob)) (PySem.F.args_object_ne_2 _ _) ?_))
    refine body (wpAny_mono hcall (fun v s' hv => ?_) fun _ _ e => e)
    obtain ⟨b, rfl, hq⟩ := hv
    exact ⟨b, rfl, wpAny_pure ⟨_, rfl, hq⟩⟩
  unfold richCompare
  simp only [oneThing_ref]
  refine wpAny_holding (wpAny_bind (wpAny_cRoomFor (Nat.lt_of_succ_lt hu) ?_))
  refine wpAny_bind (I.type.here (wpAny_bind (hy.here ?_)))
  rw [show (Value.ref C != Value.ref C) = false from by simp]
  simp only [Bool.false_eq_true, if_false]
  refine wpAny_bind (wpAny_pure ?_)
  simp only [Bool.false_eq_true, if_false]
  refine wpAny_bind (wpAny_mono one (fun r s' z => ?_) fun _ _ e => e)
  obtain ⟨v, rfl, hq⟩ := z
  exact wpAny_pure hq
theorem f_neO (c : MCallee X.prog X.w X.K X.mg X.base k C "__eq__" ps sp) (N : NeAt X.K C) (hr : Room n X.A) (hk : k + 1 ≤ n) : OpR X (compareOp .NotEq) (fNeO C sp) := by
  obtain ⟨g, fd, F, cl, hm, hb⟩ := c.ex
  intro pins s σ H x y v u Q I rx ry hq
  unfold fNeO at hq
  split at hq
  · rename_i a b
    obtain ⟨⟨dx, fs, ha⟩, ⟨dy, gs, hb'⟩, q⟩ := hq
    cases rx
    cases ry
    obtain ⟨mA, J, _⟩ := ins_get I.hok ha
    obtain ⟨mB, J', _⟩ := ins_get I.hok hb'
    obtain ⟨od, J, _⟩ := J.look
    obtain ⟨od', J', _⟩ := J'.look
    show wpAny (model X.prog X.w) X.A (richCompare .NotEq (.ref a) (.ref b)) _ _ s
    have r1 := hr.mono hk
    refine ne_own (by have := hr.units; omega) I.kIn J J'.type N hm.at_ hm.fn ?_
    refine wpAny_mono (run_in (us := [.ref a, .ref b]) F r1.in1 rfl hb I (.cons (show RelV (.ref a) (.ref a) from rfl) (.cons (show RelV (.ref b) (.ref b) from rfl) .nil)) q) (fun r s' z => ?_) fun _ _ e => e
    obtain ⟨v, H', I', rz, q'⟩ := z
    split at q'
    · rename_i b
      cases rz
      exact ⟨b, rfl, .bl (!b), H', I', rfl, q'⟩
    · exact q'.elim
  · exact hq.elim
/-- str(o) by an own __str__ -/
def fStrO (C : Addr) (sp : Sp) : List V → Hp → VK → Prop := fun xs H Q => match xs with
  | [.ref a] => (∃ dx fs, H a = some (.ins C dx fs)) ∧ sp [.ref a] H (fun v H' => match v with | .str z => Q (.str z) H' | _ => False) noE
  | _ => False
theorem f_strO (c : MCallee X.prog X.w X.K X.mg X.base k C "__str__" ps sp) (hr : Room n X.A) (hk : k + 2 ≤ n) : CallR X (.type "str") (fStrO C sp) := by
  obtain ⟨g, fd, F, cl, hm, hb⟩ := c.ex
  intro pins s σ H xs us Q I r hq
  unfold fStrO at hq
  split at hq
  · rename_i a
    obtain ⟨⟨dx, fs, ha⟩, q⟩ := hq
    rw [Vals.ref1 r]
    obtain ⟨mA, J, _⟩ := ins_get I.hok ha
    obtain ⟨od, J, _⟩ := J.look
    have r1 := hr.mono hk
    refine PySem.W.kso_call r1.in1.in1.units0 I.kIn J hm.at_ hm.fn ?_
    refine wpAny_mono (run_in (us := [.ref a]) F r1.in1.in1 rfl hb I (.cons (show RelV (.ref a) (.ref a) from rfl) .nil) q) (fun r s' z => ?_) fun _ _ e => e
    obtain ⟨v, H', I', rz, q'⟩ := z
    split at q'
    · rename_i z
      obtain ⟨t, rfl⟩ := rz
      exact ⟨.str z, H', I', ⟨t, rfl⟩, q'⟩
    · exact q'.elim
  · exact hq.elim
end

/-! ### xs[::2], xs[1::2] of sixteen; list(d.values()) -/
section
variable {X : Cx} {e : Expr} {te : TE} {p apos cpos pos p2 p3 p4 : Pos} {k k2 : Nat}
def evenI : List Nat := [0, 2, 4, 6, 8, 10, 12, 14]
def oddI : List Nat := [1, 3, 5, 7, 9, 11, 13, 15]
def tStep (K : PySem.W.Frag) (idx : List Nat) (te : TE) : TE := fun σ H Q => te σ H fun x H1 => match x with
  | .ref a => ∃ xs, SqL K H1 a xs ∧ xs.length = 16 ∧ Fresh H1 (.lst (pick idx xs)) Q
  | _ => False
theorem pick16 {α : Type} {xs : List α} (h : xs.length = 16) : ∃ a0 a1 a2 a3 a4 a5 a6 a7 a8 a9 a10 a11 a12 a13 a14 a15, xs = [a0, a1, a2, a3, a4, a5, a6, a7, a8, a9, a10, a11, a12, a13, a14, a15] := by
  match xs, h with
  | [a0, a1, a2, a3, a4, a5, a6, a7, a8, a9, a10, a11, a12, a13, a14, a15], _ => exact ⟨_, _, _, _, _, _, _, _, _, _, _, _, _, _, _, _, rfl⟩
theorem step_pick {its : List Value} (h : its.length = 16) : (slicePick its.toArray none none (some 2)).toList = pick evenI its ∧ (slicePick its.toArray (some 1) none (some 2)).toList = pick oddI its := by
  obtain ⟨a0, a1, a2, a3, a4, a5, a6, a7, a8, a9, a10, a11, a12, a13, a14, a15, rfl⟩ := pick16 h
  exact ⟨by kernel_rfl, by kernel_rfl⟩
theorem pe_step {lo : Option Expr} {wl : Option Int} {idx : List Nat} {tl : TO} (hlo : PO X lo tl) (ql : ∀ σ H, tl σ H (fun o H2 => o = wl ∧ H2 = H)) (hix : idx.length ≤ 100) (hidx : ∀ its : List Value, its.length = 16 → (slicePick its.toArray wl none (some 2)).toList = pick idx its) (he : PE X e te) :
    PE X (.Subscript e (.Slice lo none (some (.Constant (.int 2) k p2)) p3) pos) (tStep X.K idx te) := by
  refine ⟨fun pins s σ H Q I h => ?_⟩
  refine Subscript_ (thn (he.run pins s σ H _ I h) fun v s1 ⟨x, H1, I1, r1, q1⟩ => ?_)
  dsimp only at q1
  split at q1
  · rename_i a
    obtain ⟨xs, hx, hl, q⟩ := q1
    cases r1
    have hst : PO X (some (.Constant (.int 2) k p2)) (tPart (tC (.int 2))) := po_some pe_int
    refine wpAny_Slice (thn (hlo.run pins s1 σ H1 (fun o H2 => o = wl ∧ H2 = H1) I1 (ql σ H1)) fun vl s2 ⟨l, H2, I2, pl, el, e2⟩ => ?_)
    subst el e2
    refine thn (po_none.run pins s2 σ H2 (fun o H3 => o = none ∧ H3 = H2) I2 ⟨rfl, rfl⟩) fun vu s3 ⟨u, H3, I3, pu, eu, e3⟩ => ?_
    subst eu e3
    refine thn (hst.run pins s3 σ H3 (fun o H4 => o = some 2 ∧ H4 = H3) I3 ⟨2, rfl, rfl, rfl⟩) fun vs s4 ⟨o, H4, I4, ps, eo, e4⟩ => ?_
    subst eo e4
    have I5 : Inv X pins σ H4 { s4 with heap := s4.heap.push { cls := .type "slice", data := .fields #[vl, vu, vs] } } := I4.kept (t' := s4.toks) fun b ob q => Heap.get?_push_of_some _ q
    obtain ⟨its, r, ht, hz⟩ := I5.list hx
    have hlen := r.length
    have hl16 : its.length = 16 := by omega
    show wpAny (model X.prog X.w) X.A (subscriptTail e (.Slice lo none (some (.Constant (.int 2) k p2)) p3) (.ref a) (.ref s4.heap.objs.size)) (EP X pins σ Q) X.xe { s4 with heap := s4.heap.push { cls := .type "slice", data := .fields #[vl, vu, vs] } }
    refine tail_any (ops := [.ref a, .ref s4.heap.objs.size]) ht.isList.typeIs (PySem.slot_list_getitem.lookup) ?_ (by with_unfolding_all rfl)
    refine wpAny_getItem_list_slice ht.isList (Heap.IsSliceOf.new _ vl vu vs) pl pu ps (by decide) ?_ (by rw [List.size_toArray]; omega)
    have hp := hidx its hl16
    refine ⟨.ref _, _, I5.laid (t' := s4.toks) (o := .lst (pick idx xs)) (fun b ob q => Heap.get?_push_of_some _ q) (Nat.le_refl _) ?_, rfl, q.go _ (I5.hok.fresh (Nat.le_refl _))⟩
    refine ⟨?_, (slicePick its.toArray l none (some 2)).toList, 0, ?_, ?_⟩
    · exact Nat.le_trans (List.length_filterMap_le ..) (Nat.le_trans hix (by show 100 ≤ sizeLine; decide))
    · rw [hp]; exact vals_pick idx r
    · rw [Array.toArray_toList]
      exact Heap.get?_push_size _ rfl
  · exact q1.elim
theorem pe_even (he : PE X e te) : PE X (.Subscript e (.Slice none none (some (.Constant (.int 2) k p2)) p3) pos) (tStep X.K evenI te) := pe_step po_none (fun σ H => ⟨rfl, rfl⟩) (by decide) (fun its h => (step_pick h).1) he
theorem pe_odd (he : PE X e te) : PE X (.Subscript e (.Slice (some (.Constant (.int 1) k2 p4)) none (some (.Constant (.int 2) k p2)) p3) pos) (tStep X.K oddI te) := pe_step (po_some pe_int) (fun σ H => ⟨1, rfl, rfl, rfl⟩) (by decide) (fun its h => (step_pick h).2) he
def tListVals (te : TE) : TE := fun σ H Q => te σ H fun x H1 => match x with
  | .ref d => ∃ kvs : List (Key × V), H1 d = some (.dK kvs) ∧ Fresh H1 (.lst (kvs.map (·.2))) Q
  | _ => False
/-- list(e.values()) -/
theorem pe_listVals (hc : X.calm = true) (he : PE X e te) (hg : Gl X "list") (hm : X.mg "list" = none) (hv : bootBuiltins "list" = some (.type "list")) (hbase : attributeBase e "values" X.env (eval e X.env) = eval e X.env := by rfl) (hline : (apos.endLine == cpos.line) = true := by rfl)
    (hs : starEach [.Call (.Attribute e "values" apos) [] [] cpos] X.env = (false, eval (.Call (.Attribute e "values" apos) [] [] cpos) X.env) :: starEach [] X.env := by rfl) :
    PE X (.Call (.Name "list" p) [.Call (.Attribute e "values" apos) [] [] cpos] [] pos) (tListVals te) := by
  refine ⟨fun pins s σ H Q I hq => ?_⟩
  refine wpAny_Call_Name_kw (ld_blt I hg hm hv ?_)
  refine PyProof.Rows.callWith_type1 ?_ hs rfl
  rw [hs]
  show wpAny _ _ (spliced ((false, eval (.Call (.Attribute e "values" apos) [] [] cpos) X.env) :: backTo pos (starEach [] X.env))) _ _ s
  refine Calls.spliced_cons ?_
  refine wpAny_Call_method (T := "dict") (id := "dict.values") hbase rfl hline F.plainAttrs_dict F.slot_dict_values F.type_dict_values (thn (he.run pins s σ H _ I hq) fun u s1 ⟨x, H1, I1, rx, hq1⟩ => ?_)
  dsimp only at hq1
  split at hq1
  · rename_i d
    obtain ⟨kvs, hd, q⟩ := hq1
    obtain rfl : u = Value.ref d := rx
    obtain ⟨hz, hs0, vs, kv, hdo⟩ := I1.hok d _ hd
    obtain ⟨ep, hat⟩ := hdo.dictAt
    have lk : kvs.length = vs.length := Paired.length kv
    have I2 : Inv X pins σ H1 { s1 with heap := s1.heap.push { cls := .type "dict_values", data := .fields #[.ref d] } } := I1.kept (t' := s1.toks) fun b ob q => Heap.get?_push_of_some _ q
    refine ⟨hdo.typeIs, hdo.mapOf.noDict, ?_⟩
    show wpAny _ _ (callWith cpos (.builtin "dict.values") [.ref d] [] []) _ X.xe s1
    refine method_meetsIn F.slot_dict_values F.entry_dict_values rfl (PySem.evalArgs_none ⟨rfl, hdo.typeIs, F.args_dict_values_1 _, _, meets_dict_values (mixKind X.prog X.w) d hs0, ⟨vs, hdo⟩, ?_⟩)
    refine Calls.spliced_nil ?_
    refine PySem.W.kdl_call (PySem.W.kdl_values (knd := mixKind X.prog X.w) (kvs := vs) (ep := ep)) (I1.ok.hd hc) ⟨⟨_, Heap.get?_push_size _ rfl, rfl, rfl⟩, hat.push _⟩ (by omega) fun h' tk acc c hk hS hacc => ?_
    have rv : Vals (kvs.map (·.2)) acc.toList := by
      refine vals_at ?_ fun i x u hx hu => ?_
      · have e : acc.toList.length = acc.size := Array.length_toList ..
        rw [List.length_map, lk, e]
        exact hacc.1.symm
      · rw [Array.getElem?_toList] at hu
        obtain ⟨k, ek⟩ := hacc.2 i u hu
        rw [List.getElem?_map] at hx
        obtain ⟨kx, e1, e2⟩ := Option.map_eq_some_iff.mp hx
        obtain ⟨y, e3, r⟩ := LiI.paired_get kv e1
        rw [ek] at e3
        cases e3
        rw [← e2]
        exact r.2
    refine ⟨.ref _, _, I2.laid (t' := tk) (o := .lst (kvs.map (·.2))) hk (Nat.le_refl _) ⟨by rw [List.length_map]; omega, acc.toList, c, rv, ?_⟩, rfl, q.go _ (I2.hok.fresh (Nat.le_refl _))⟩
    rw [Array.toArray_toList]
    exact hS
  · exact hq1.elim
end
end Fg

set_option Elab.async false
set_option linter.all false
set_option maxRecDepth 100000
set_option maxHeartbeats 4000000
namespace Fg
open PySem PySem.Spec PySem.Calls PyProof.Rows L2
/-! ### == of data, both answers -/
inductive Pr3 (F : V → V → Bool → Prop) : List V → List V → List Bool → Prop
  | nl {ys : List V} : Pr3 F [] ys []
  | nr {xs : List V} : Pr3 F xs [] []
  | cons {x y : V} {b : Bool} {xs ys : List V} {bs : List Bool} : F x y b → Pr3 F xs ys bs → Pr3 F (x :: xs) (y :: ys) (b :: bs)
/-- x == y answers b -/
def EqB (K : PySem.W.Frag) (H : Hp) : Nat → V → V → Bool → Prop
  | 0 => fun x y b => flatV x = true ∧ flatV y = true ∧ b = eqV x y
  | n + 1 => fun x y b => (flatV x = true ∧ flatV y = true ∧ b = eqV x y) ∨ (∃ a, x = .ref a ∧ y = .ref a ∧ b = true) ∨
    (∃ a c xs ys, x = .ref a ∧ y = .ref c ∧ SqL K H a xs ∧ SqL K H c ys ∧ xs.length ≠ ys.length ∧ b = false) ∨
    (∃ a c xs ys bs, x = .ref a ∧ y = .ref c ∧ SqL K H a xs ∧ SqL K H c ys ∧ xs.length = ys.length ∧ Pr3 (EqB K H n) xs ys bs ∧ b = bs.all id) ∨
    (∃ a c xs ys bs, x = .ref a ∧ y = .ref c ∧ SqT K H a xs ∧ SqT K H c ys ∧ Pr3 (EqB K H n) xs ys bs ∧ b = (bs.all id && xs.length == ys.length))
theorem eqV_self {x : V} (h : flatV x = true) : eqV x x = true := by
  cases x <;> first | (cases h; done) | simp [eqV]
theorem pr3_at {F : V → V → Bool → Prop} {A : Around} {s : Shared} (ih : ∀ x y b v u, F x y b → RelV x v → RelV y u → SeqAt.EqAt A s v u b) {xs ys : List V} {bs : List Bool} (hp : Pr3 F xs ys bs) :
    ∀ {us ws : List Value}, L2.Vals xs us → L2.Vals ys ws → bs.length = min us.length ws.length ∧ ∀ j (h1 : j < us.length) (h2 : j < ws.length), SeqAt.EqAt A s us[j] ws[j] (bs.getD j false) := by
  induction hp with
  | nl =>
    intro us ws r1 _
    cases r1
    exact ⟨by simp, fun j h1 => absurd h1 (Nat.not_lt_zero j)⟩
  | nr =>
    intro us ws _ r2
    cases r2
    exact ⟨by simp, fun j _ h2 => absurd h2 (Nat.not_lt_zero j)⟩
  | cons f _ rest =>
    intro us ws r1 r2
    cases r1 with
    | cons p1 q1 =>
      cases r2 with
      | cons p2 q2 =>
        obtain ⟨hl, hr⟩ := rest q1 q2
        refine ⟨by simp only [List.length_cons]; omega, fun j h1 h2 => ?_⟩
        match j with
        | 0 => exact ih _ _ _ _ _ f p1 p2
        | j + 1 => exact hr j (Nat.lt_of_succ_lt_succ h1) (Nat.lt_of_succ_lt_succ h2)
theorem all_getD (bs : List Bool) : (List.range bs.length).all (fun j => bs.getD j false) = bs.all id := by
  induction bs with
  | nil => rfl
  | cons b r ih =>
    rw [List.length_cons, List.range_succ_eq_map, List.all_cons, List.all_map, List.all_cons]
    exact congrArg (b && ·) ih
section
variable {X : Cx} {pins : List (Addr × Obj)} {σ : L2.St} {H : Hp} {s : Shared}
theorem pr3_true {K : PySem.W.Frag} {n : Nat} (ih : ∀ x b, EqB K H n x x b → b = true) : ∀ {xs : List V} {bs : List Bool}, Pr3 (EqB K H n) xs xs bs → bs.all id = true
  | [], _, .nl => rfl
  | [], _, .nr => rfl
  | x :: xs, _, .cons f r => by
    rw [List.all_cons, pr3_true ih r, ih _ _ f]
    rfl
theorem eqB_true (J : Inv X pins σ H s) : ∀ (n : Nat) (x : V) (b : Bool), EqB X.K H n x x b → b = true
  | 0, x, b, h => by
    obtain ⟨f, _, rfl⟩ := h
    exact eqV_self f
  | n + 1, x, b, h => by
    rcases h with ⟨f, _, rfl⟩ | ⟨a, _, _, rfl⟩ | ⟨a, c, xs, ys, e1, e2, h1, h2, hl, rfl⟩ | ⟨a, c, xs, ys, bs, e1, e2, h1, h2, hl, hp, rfl⟩ | ⟨a, c, xs, ys, bs, e1, e2, h1, h2, hp, rfl⟩
    · exact eqV_self f
    · rfl
    · rw [e1] at e2
      cases e2
      exact absurd (congrArg List.length (J.list_inj h1 h2)) hl
    · rw [e1] at e2
      cases e2
      cases J.list_inj h1 h2
      exact pr3_true (eqB_true J n) hp
    · rw [e1] at e2
      cases e2
      cases J.tuple_inj h1 h2
      rw [pr3_true (eqB_true J n) hp]
      simp
theorem eqB_at (J : Inv X pins σ H s) : ∀ (n : Nat) (A : Around), A.units + n < cLine → ∀ (x y : V) (b : Bool) (v u : Value), EqB X.K H n x y b → RelV x v → RelV y u → SeqAt.EqAt A s v u b
  | 0, A, hu, x, y, b, v, u, h, rx, ry => by
    obtain ⟨f1, f2, rfl⟩ := h
    exact eqAt_V rx ry f1 f2
  | n + 1, A, hu, x, y, b, v, u, h, rx, ry => by
    have h0 := h
    rcases h with ⟨f1, f2, rfl⟩ | ⟨a, rfl, rfl, rfl⟩ | ⟨a, c, xs, ys, rfl, rfl, ha, hb, hl, rfl⟩ | ⟨a, c, xs, ys, bs, rfl, rfl, ha, hb, hl, hp, rfl⟩ | ⟨a, c, xs, ys, bs, rfl, rfl, ha, hb, hp, rfl⟩
    · exact eqAt_V rx ry f1 f2
    · cases rx
      cases ry
      exact SeqAt.EqAt.same _
    · cases rx
      cases ry
      have e : a ≠ c := fun e => by
        subst e
        exact hl (congrArg List.length (J.list_inj ha hb))
      obtain ⟨us, r1, p1, _⟩ := J.list ha
      obtain ⟨ws, r2, p2, _⟩ := J.list hb
      refine SeqAt.EqAt.of_refs e (SeqAt.RcAt.lists_lengths p1.isList p2.isList ?_ (by omega))
      rw [List.size_toArray, List.size_toArray, ← r1.length, ← r2.length]
      simpa using hl
    · cases rx
      cases ry
      by_cases e : a = c
      · subst e
        rw [eqB_true J (n + 1) _ _ h0]
        exact SeqAt.EqAt.same _
      obtain ⟨us, r1, p1, _⟩ := J.list ha
      obtain ⟨ws, r2, p2, _⟩ := J.list hb
      have hsz : us.toArray.size = ws.toArray.size := by rw [List.size_toArray, List.size_toArray, ← r1.length, ← r2.length]; exact hl
      obtain ⟨hbl, k⟩ := pr3_at (eqB_at J n A.in1 (by show A.units + 1 + n < cLine; omega)) hp r1 r2
      have z := SeqAt.RcAt.lists (A := A) (e := fun j => bs.getD j false) p1.isList p2.isList hsz (by omega) fun j h1 h2 => by
        have k := k j (by simpa using h1) (by simpa using h2)
        simpa using k
      have es : us.toArray.size = bs.length := by
        rw [hbl]
        simp only [List.size_toArray] at hsz ⊢
        omega
      rw [es, all_getD] at z
      exact SeqAt.EqAt.of_refs e z
    · cases rx
      cases ry
      by_cases e : a = c
      · subst e
        rw [eqB_true J (n + 1) _ _ h0]
        exact SeqAt.EqAt.same _
      obtain ⟨us, r1, p1, _⟩ := J.tuple ha
      obtain ⟨ws, r2, p2, _⟩ := J.tuple hb
      obtain ⟨hbl, k⟩ := pr3_at (eqB_at J n A.in1 (by show A.units + 1 + n < cLine; omega)) hp r1 r2
      have z := SeqAt.RcAt.tuples (A := A) (e := fun j => bs.getD j false) p1 p2 (by omega) fun j h1 h2 => by
        have k := k j (by simpa using h1) (by simpa using h2)
        simpa using k
      have es : min us.toArray.size ws.toArray.size = bs.length := by
        rw [hbl]
        simp only [List.size_toArray]
      rw [es, all_getD, List.size_toArray, List.size_toArray, ← r1.length, ← r2.length] at z
      exact SeqAt.EqAt.of_refs e z
/-- == and != of two lists, two tuples -/
def fEqB (K : PySem.W.Frag) (neg : Bool) : R2 := fun x y H Q => match x, y with
  | .ref a, .ref c => (∃ xs ys, SqL K H a xs ∧ SqL K H c ys ∧ xs.length ≠ ys.length ∧ Q (.bl neg) H) ∨
    (∃ xs ys bs, SqL K H a xs ∧ SqL K H c ys ∧ xs.length = ys.length ∧ Pr3 (EqB K H 20) xs ys bs ∧ Q (.bl (opp neg (bs.all id))) H) ∨
    (∃ xs ys bs, SqT K H a xs ∧ SqT K H c ys ∧ Pr3 (EqB K H 20) xs ys bs ∧ Q (.bl (opp neg (bs.all id && xs.length == ys.length))) H)
  | _, _ => False
theorem f_eqB (hu : X.A.units + 64 < cLine) : OpR X (compareOp .Eq) (fEqB X.K false) := by
  intro pins s σ H x y v u Q J rx ry h
  unfold fEqB at h
  split at h
  · rename_i a c
    cases rx
    cases ry
    rcases h with ⟨xs, ys, ha, hb, hl, q⟩ | ⟨xs, ys, bs, ha, hb, hl, hp, q⟩ | ⟨xs, ys, bs, ha, hb, hp, q⟩
    · obtain ⟨us, r1, p1, _⟩ := J.list ha
      obtain ⟨ws, r2, p2, _⟩ := J.list hb
      refine SeqAt.eq_list_lengthsAt p1.isList p2.isList ?_ (by omega) ⟨.bl false, H, J, rfl, q⟩
      rw [List.size_toArray, List.size_toArray, ← r1.length, ← r2.length]
      simpa using hl
    · obtain ⟨us, r1, p1, _⟩ := J.list ha
      obtain ⟨ws, r2, p2, _⟩ := J.list hb
      have hsz : us.toArray.size = ws.toArray.size := by rw [List.size_toArray, List.size_toArray, ← r1.length, ← r2.length]; exact hl
      obtain ⟨hbl, k⟩ := pr3_at (eqB_at J 20 X.A.in1 (by show X.A.units + 1 + 20 < cLine; omega)) hp r1 r2
      have es : us.toArray.size = bs.length := by
        rw [hbl]
        simp only [List.size_toArray] at hsz ⊢
        omega
      refine SeqAt.eq_listAt (e := fun j => bs.getD j false) p1.isList p2.isList hsz (by omega) (fun j h1 h2 => ?_) ?_
      · have k := k j (by simpa using h1) (by simpa using h2)
        simpa using k
      · rw [es, all_getD]
        exact ⟨.bl _, H, J, rfl, q⟩
    · obtain ⟨us, r1, p1, _⟩ := J.tuple ha
      obtain ⟨ws, r2, p2, _⟩ := J.tuple hb
      obtain ⟨hbl, k⟩ := pr3_at (eqB_at J 20 X.A.in1 (by show X.A.units + 1 + 20 < cLine; omega)) hp r1 r2
      have es : min us.toArray.size ws.toArray.size = bs.length := by
        rw [hbl]
        simp only [List.size_toArray]
      refine SeqAt.eq_tupleAt (e := fun j => bs.getD j false) p1 p2 (by omega) (fun j h1 h2 => ?_) ?_
      · have k := k j (by simpa using h1) (by simpa using h2)
        simpa using k
      · rw [es, all_getD, List.size_toArray, List.size_toArray, ← r1.length, ← r2.length]
        exact ⟨.bl _, H, J, rfl, q⟩
  · exact h.elim
theorem f_neB (hu : X.A.units + 64 < cLine) : OpR X (compareOp .NotEq) (fEqB X.K true) := by
  intro pins s σ H x y v u Q J rx ry h
  unfold fEqB at h
  split at h
  · rename_i a c
    cases rx
    cases ry
    rcases h with ⟨xs, ys, ha, hb, hl, q⟩ | ⟨xs, ys, bs, ha, hb, hl, hp, q⟩ | ⟨xs, ys, bs, ha, hb, hp, q⟩
    · obtain ⟨us, r1, p1, _⟩ := J.list ha
      obtain ⟨ws, r2, p2, _⟩ := J.list hb
      refine SeqAt.RcNeAt.lists_lengths p1.isList p2.isList ?_ (by omega) _ _ _ _ ⟨.bl true, H, J, rfl, q⟩
      rw [List.size_toArray, List.size_toArray, ← r1.length, ← r2.length]
      simpa using hl
    · obtain ⟨us, r1, p1, _⟩ := J.list ha
      obtain ⟨ws, r2, p2, _⟩ := J.list hb
      have hsz : us.toArray.size = ws.toArray.size := by rw [List.size_toArray, List.size_toArray, ← r1.length, ← r2.length]; exact hl
      obtain ⟨hbl, k⟩ := pr3_at (eqB_at J 20 X.A.in1 (by show X.A.units + 1 + 20 < cLine; omega)) hp r1 r2
      have es : us.toArray.size = bs.length := by
        rw [hbl]
        simp only [List.size_toArray] at hsz ⊢
        omega
      refine SeqAt.RcNeAt.lists (e := fun j => bs.getD j false) p1.isList p2.isList hsz (by omega) (fun j h1 h2 => ?_) _ _ _ _ ?_
      · have k := k j (by simpa using h1) (by simpa using h2)
        simpa using k
      · rw [es, all_getD]
        exact ⟨.bl _, H, J, rfl, q⟩
    · obtain ⟨us, r1, p1, _⟩ := J.tuple ha
      obtain ⟨ws, r2, p2, _⟩ := J.tuple hb
      obtain ⟨hbl, k⟩ := pr3_at (eqB_at J 20 X.A.in1 (by show X.A.units + 1 + 20 < cLine; omega)) hp r1 r2
      have es : min us.toArray.size ws.toArray.size = bs.length := by
        rw [hbl]
        simp only [List.size_toArray]
      refine SeqAt.RcNeAt.tuples (e := fun j => bs.getD j false) p1 p2 (by omega) (fun j h1 h2 => ?_) _ _ _ _ ?_
      · have k := k j (by simpa using h1) (by simpa using h2)
        simpa using k
      · rw [es, all_getD, List.size_toArray, List.size_toArray, ← r1.length, ← r2.length]
        exact ⟨.bl _, H, J, rfl, q⟩
  · exact h.elim
/-- x in [..], x not in [..], the items' answers bs -/
inductive Pr1 (F : V → Bool → Prop) : List V → List Bool → Prop
  | nil : Pr1 F [] []
  | cons {y : V} {b : Bool} {ys : List V} {bs : List Bool} : F y b → Pr1 F ys bs → Pr1 F (y :: ys) (b :: bs)
theorem pr1_at {F : V → Bool → Prop} {A : Around} {s : Shared} {v : Value} (ih : ∀ y b u, F y b → RelV y u → SeqAt.EqAt A s u v b) {ys : List V} {bs : List Bool} (hp : Pr1 F ys bs) :
    ∀ {us : List Value}, L2.Vals ys us → bs.length = us.length ∧ ∀ j (h1 : j < us.length), SeqAt.EqAt A s us[j] v (bs.getD j false) := by
  induction hp with
  | nil =>
    intro us r1
    cases r1
    exact ⟨rfl, fun j h1 => absurd h1 (Nat.not_lt_zero j)⟩
  | cons f _ rest =>
    intro us r1
    cases r1 with
    | cons p1 q1 =>
      obtain ⟨hl, hr⟩ := rest q1
      refine ⟨by simp only [List.length_cons]; omega, fun j h1 => ?_⟩
      match j with
      | 0 => exact ih _ _ _ f p1
      | j + 1 => exact hr j (Nat.lt_of_succ_lt_succ h1)
open Classical in
theorem pick_e {A : Around} {s : Shared} {v : Value} {us : List Value} {bs : List Bool} (hl : bs.length = us.length) (h : ∀ j (h1 : j < us.length), SeqAt.EqAt A s us[j] v (bs.getD j false)) :
    ∃ e : Value → Bool, (∀ y, y ∈ us.toArray → SeqAt.EqAt A s y v (e y)) ∧ us.toArray.any e = bs.any id := by
  refine ⟨fun u => decide (∃ j : Nat, us[j]? = some u ∧ bs[j]? = some true), fun y hy => ?_, ?_⟩
  · have hy : y ∈ us := by simpa using hy
    dsimp only
    by_cases c : ∃ j : Nat, us[j]? = some y ∧ bs[j]? = some true
    · obtain ⟨j, e1, e2⟩ := c
      obtain ⟨hj, e1⟩ := List.getElem?_eq_some_iff.mp e1
      have k := h j hj
      rw [e1, List.getD_eq_getElem?_getD, e2] at k
      rw [decide_eq_true ⟨j, by rw [List.getElem?_eq_getElem hj, e1], e2⟩]
      exact k
    · obtain ⟨j, hj, e1⟩ := List.getElem_of_mem hy
      have k := h j hj
      rw [decide_eq_false c]
      have hb : j < bs.length := by omega
      have : bs.getD j false = false := by
        rw [List.getD_eq_getElem?_getD, List.getElem?_eq_getElem hb]
        cases eb : bs[j] with
        | false => rfl
        | true => exact absurd ⟨j, by rw [List.getElem?_eq_getElem hj, e1], by rw [List.getElem?_eq_getElem hb, eb]⟩ c
      rw [this, e1] at k
      exact k
  · rw [List.any_toArray, Bool.eq_iff_iff, List.any_eq_true, List.any_eq_true]
    constructor
    · rintro ⟨u, _, hu⟩
      obtain ⟨j, _, e2⟩ := of_decide_eq_true hu
      exact ⟨true, List.mem_of_getElem? e2, rfl⟩
    · rintro ⟨b, hb, e⟩
      cases (show b = true from e)
      obtain ⟨j, hj, ej⟩ := List.getElem_of_mem hb
      have hj' : j < us.length := by omega
      exact ⟨us[j], List.getElem_mem hj', decide_eq_true ⟨j, List.getElem?_eq_getElem hj', by rw [List.getElem?_eq_getElem hj, ej]⟩⟩
def fInB (K : PySem.W.Frag) (neg : Bool) : R2 := fun x y H Q => match y with
  | .ref c => ∃ ys bs, SqL K H c ys ∧ Pr1 (fun y b => EqB K H 20 y x b) ys bs ∧ Q (.bl (opp neg (bs.any id))) H
  | _ => False
theorem f_inB (hu : X.A.units + 64 < cLine) : OpR X (compareOp .In) (fInB X.K false) := by
  intro pins s σ H x y v u Q J rx ry h
  unfold fInB at h
  split at h
  · obtain ⟨ys, bs, hb, hp, q⟩ := h
    cases ry
    obtain ⟨us, r1, p1, _⟩ := J.list hb
    obtain ⟨hl, k⟩ := pr1_at (fun y b u f r => eqB_at J 20 X.A.in1 (by show X.A.units + 1 + 20 < cLine; omega) y x b u v f r rx) hp r1
    obtain ⟨e, he, ea⟩ := pick_e hl k
    refine SeqAt.in_listAt e p1.isList he ⟨.bl _, H, J, rfl, ?_⟩
    rw [ea]
    exact q
  · exact h.elim
theorem f_notInB (hu : X.A.units + 64 < cLine) : OpR X (compareOp .NotIn) (fInB X.K true) := by
  intro pins s σ H x y v u Q J rx ry h
  unfold fInB at h
  split at h
  · obtain ⟨ys, bs, hb, hp, q⟩ := h
    cases ry
    obtain ⟨us, r1, p1, _⟩ := J.list hb
    obtain ⟨hl, k⟩ := pr1_at (fun y b u f r => eqB_at J 20 X.A.in1 (by show X.A.units + 1 + 20 < cLine; omega) y x b u v f r rx) hp r1
    obtain ⟨e, he, ea⟩ := pick_e hl k
    refine SeqAt.notIn_listAt e p1.isList he ⟨.bl _, H, J, rfl, ?_⟩
    rw [ea]
    exact q
  · exact h.elim
end
end Fg

set_option Elab.async false
set_option linter.all false
set_option maxRecDepth 100000
set_option maxHeartbeats 4000000
namespace Fg
open PySem PySem.Spec PySem.Calls PyProof.Rows L2
/-! ### C.m(..), C.m(k = v, ..) of a staticmethod -/
structure StatAt (K : PySem.W.Frag) (C : Addr) (m qual : Str) (st : Stmt) : Prop where
  ex : ∃ p g fd, Fun K m qual st g fd ∧ SMet K C m p g
  rd : ClX.CRead K C (.type "type")
structure SCallee (P : Program) (w : World) (K : PySem.W.Frag) (mg : Str → Option Value) (base : Heap) (k : Nat) (x : Str) (C : Addr) (m qual : Str) (st : Stmt) (ps : List Str) (sp : Sp) : Prop where
  ex : ∃ p g fd, FnOk P w K mg base (L2.CX P w) k g fd ps sp ∧ SMet K C m p g ∧ Fun K m qual st g fd
  rd : ClX.CRead K C (.type "type")
  g : ∃ u, mg x = some u ∧ RelV (.ref C) u
theorem scallee_of {P : Program} {w : World} {K : PySem.W.Frag} {mg : Str → Option Value} {base : Heap} {x : Str} {C : Addr} {m qual : Str} {st : Stmt} {N ps : List Str} {k : Nat} {sp : Sp} (g : ∃ u, mg x = some u ∧ RelV (.ref C) u) (F : StatAt K C m qual st) (S : FnScope N ps (defScope st))
    (len : ∀ vs H Q E, sp vs H Q E → vs.length = ps.length)
    (hbody : ∀ (f : Addr) (cdv : Value) (A : Around) (outer : List Env) (s : Shared) (H : Hp) (vs : List V) (Q : VK) (E : XK), Room k (cxOf (L2.CX P w) P w K mg base N qual (defScope st) f cdv A outer s H E).A →
      Takes (cxOf (L2.CX P w) P w K mg base N qual (defScope st) f cdv A outer s H E) (fun cls d _ H => E cls d H) →
      PassesOwn (model P w) (cxOf (L2.CX P w) P w K mg base N qual (defScope st) f cdv A outer s H E).A (cxOf (L2.CX P w) P w K mg base N qual (defScope st) f cdv A outer s H E).env (cxOf (L2.CX P w) P w K mg base N qual (defScope st) f cdv A outer s H E).xe → sp vs H Q E →
      ∃ t, PSs (cxOf (L2.CX P w) P w K mg base N qual (defScope st) f cdv A outer s H E) (defBody st) t ∧ t { nx := fun _ H' => Q .non H', rt := Q } (start N vs) H) :
    SCallee P w K mg base (k + 1) x C m qual st ps sp := by
  obtain ⟨p, f, fd, F', hm⟩ := F.ex
  exact ⟨⟨p, f, fd, F'.okX S len fun cdv A outer s H vs Q E hr h => hbody f cdv A outer s H vs Q E hr (takes_of rfl rfl rfl rfl) (passes_of rfl) h, hm, F'⟩, F.rd, g⟩
section
variable {X : Cx} {W : WX} {j k : Nat} {C : Addr} {m x qual : Str} {st : Stmt} {ps ks : List Str} {sp : Sp} {pos apos p2 : Pos} {e : Expr} {es : List Expr} {kwe : List Keyword} {t : TA} {pl : Sem Bool} {idx : List Nat}
theorem fc_smeth (c : SCallee X.prog X.w X.K X.mg X.base k x C m qual st ps sp) (hr : Room j X.A) (hj : k ≤ j) (hg : Gl X x) (tk : Takes X W) (ha : PA X (e :: es) t)
    (hb : ∀ (kV doc pm : Value) (an : Option Addr) (cdv ct : Value) (us : List Value), us.length = ps.length → bindArgs (PySem.W.fnOf m qual (defArgs st) (defBody st) (defScope st) .none kV doc pm an cdv ct) ⟨us, []⟩ = pure (ps.zip us))
    (hdb : (x == ("__debug__" : Str)) = false := by decide) (hst : starEach (e :: es) X.env = (false, eval e X.env) :: starEach es X.env := by rfl) (hpl : (backTo pos (starEach es X.env)).any (·.1) = false := by rfl)
    (ht : eval (.Call (.Attribute (.Name x p2) m apos) (e :: es) [] pos) X.env = (do
      let ov ← eval (.Name x p2) X.env
      standAt apos.atName
      let (f, first) ← holding [ov] (getMethod ov m pl)
      callWith pos f first (backTo pos (starEach (e :: es) X.env)) (backToKw pos (keywordEach [] X.env))) := by rfl) :
    PE X (.Call (.Attribute (.Name x p2) m apos) (e :: es) [] pos) (fun σ H Q => t σ H fun vs H2 => sp vs H2 Q (fun cls d H' => W cls d σ H')) := by
  obtain ⟨p, g, fd, F, S, Fu⟩ := c.ex
  exact pe_imp (pe_smeth (E := WE W) (fe_g hg c.g hdb) c.rd S F (hr.mono hj) Fu.kp (Fu.binds hb) (passAt tk) ha hst hpl ht) fun σ H Q q => ⟨rfl, q⟩
theorem fc_smethK (c : SCallee X.prog X.w X.K X.mg X.base k x C m qual st ps sp) (hr : Room j X.A) (hj : k ≤ j) (hg : Gl X x) (tk : Takes X W) (hkw : PK X kwe t)
    (hb : ∀ (kV doc pm : Value) (an : Option Addr) (cdv ct : Value) (ws : List Value), ws.length = ks.length → bindArgs (PySem.W.fnOf m qual (defArgs st) (defBody st) (defScope st) .none kV doc pm an cdv ct) ⟨[], ks.zip ws⟩ = pure (ps.zip (pick idx ws)))
    (hdb : (x == ("__debug__" : Str)) = false := by decide) (hall : (backToKw pos (keywordEach kwe X.env)).all (·.1.isSome) = true := by rfl) (hks : (backToKw pos (keywordEach kwe X.env)).filterMap (·.1) = ks := by rfl)
    (hpl : ((backTo pos (starEach [] X.env)).any (·.1) || (backToKw pos (keywordEach kwe X.env)).any (·.1.isNone)) = false := by rfl)
    (ht : eval (.Call (.Attribute (.Name x p2) m apos) [] kwe pos) X.env = (do
      let ov ← eval (.Name x p2) X.env
      standAt apos.atName
      let (f, first) ← holding [ov] (getMethod ov m pl)
      callWith pos f first (backTo pos (starEach [] X.env)) (backToKw pos (keywordEach kwe X.env))) := by rfl) :
    PE X (.Call (.Attribute (.Name x p2) m apos) [] kwe pos) (fun σ H Q => t σ H fun zs H2 => zs.length = ks.length ∧ sp (pick idx zs) H2 Q (fun cls d H' => W cls d σ H')) := by
  obtain ⟨p, g, fd, F, S, Fu⟩ := c.ex
  refine ⟨fun pins s σ H Q I h => ?_⟩
  refine PySem.W.methodCall_KW (pl := pl) (thn ((fe_g hg c.g hdb).run pins s σ H (fun v H' => v = .ref C ∧ t σ H' fun zs H2 => zs.length = ks.length ∧ sp (pick idx zs) H2 Q (fun cls d H' => W cls d σ H')) I ⟨rfl, h⟩) fun u s1 ⟨v, H1, I1, rx, ev, q⟩ => ?_) ht
  subst ev
  obtain rfl : u = Value.ref C := rx
  refine getsm_ok I1 c.rd S fun s2 I2 => ?_
  refine PySem.W.callWith_KW0 (first := []) (h₀ := X.base) I2.ok.mod.kin Fu.kp hall ?_ hpl
  refine thn (hkw.run pos pins s2 σ H1 _ I2 q) fun ws s3 ⟨zs, H2, J2, rz, ln, q2⟩ => ⟨J2.kIn, ?_⟩
  rw [hks]
  have lw : ws.length = ks.length := by rw [← rz.length, ln]
  obtain ⟨oc, od, kV, doc, pm, an, cdv, ct, osl, rfl, _, _⟩ := Fu.ex
  exact code_fnK (E := WE W) (args := ⟨[], ks.zip ws⟩) F (hr.mono hj) (.of_eq (hb kV doc pm an cdv ct ws lw)) (passAt tk σ) J2 (vals_pick idx rz) q2
end
/-! ### tuples, lists of texts -/
section
variable {K : PySem.W.Frag} {H : Hp}
theorem eqB_flat {n : Nat} {x y : V} (f1 : flatV x = true) (f2 : flatV y = true) : EqB K H n x y (eqV x y) := by
  cases n with
  | zero => exact ⟨f1, f2, rfl⟩
  | succ n => exact .inl ⟨f1, f2, rfl⟩
theorem pr3_strs : ∀ (xs ys : List Str), ∃ bs, Pr3 (EqB K H 20) (xs.map V.str) (ys.map V.str) bs ∧ (bs.all id && (xs.map V.str).length == (ys.map V.str).length) = decide (xs = ys) ∧ (xs.length = ys.length → bs.all id = decide (xs = ys))
  | [], ys => ⟨[], .nl, by cases ys <;> simp, fun h => by cases ys with
    | nil => rfl
    | cons a b => cases h⟩
  | x :: xs, [] => ⟨[], .nr, by simp, fun h => by cases h⟩
  | x :: xs, y :: ys => by
    obtain ⟨bs, h1, h2, h3⟩ := pr3_strs xs ys
    refine ⟨eqV (.str x) (.str y) :: bs, .cons (eqB_flat rfl rfl) h1, ?_, fun h => ?_⟩
    · simp only [List.length_map] at h2
      have e : eqV (.str x) (.str y) = decide (x = y) := by
        show (x == y) = decide (x = y)
        rw [Bool.eq_iff_iff, beq_iff_eq, decide_eq_true_iff]
      simp only [List.all_cons, List.map_cons, List.length_cons, List.length_map, id, e]
      rw [Bool.eq_iff_iff] at h2 ⊢
      simp only [Bool.and_eq_true, decide_eq_true_iff, beq_iff_eq, List.cons.injEq] at h2 ⊢
      constructor
      · rintro ⟨⟨a, b⟩, c⟩
        exact ⟨a, h2.mp ⟨b, by omega⟩⟩
      · rintro ⟨a, b⟩
        have := h2.mpr b
        exact ⟨⟨a, this.1⟩, by omega⟩
    · have e : eqV (.str x) (.str y) = decide (x = y) := by
        show (x == y) = decide (x = y)
        rw [Bool.eq_iff_iff, beq_iff_eq, decide_eq_true_iff]
      simp only [List.all_cons, id, e, h3 (by simpa using h)]
      rw [Bool.eq_iff_iff]
      simp only [Bool.and_eq_true, decide_eq_true_iff, List.cons.injEq]
end
section
variable {X : Cx}
def fEqTS (K : PySem.W.Frag) (neg : Bool) : R2 := fun x y H Q => match x, y with
  | .ref a, .ref c => ∃ xs ys : List Str, SqT K H a (xs.map V.str) ∧ SqT K H c (ys.map V.str) ∧ Q (.bl (opp neg (decide (xs = ys)))) H
  | _, _ => False
theorem f_neTS (hu : X.A.units + 64 < cLine) : OpR X (compareOp .NotEq) (fEqTS X.K true) := op_imp (f_neB hu) fun x y H Q q => by
  unfold fEqTS at q
  split at q
  · obtain ⟨xs, ys, h1, h2, q⟩ := q
    obtain ⟨bs, p, e, _⟩ := pr3_strs (K := X.K) (H := H) xs ys
    exact .inr (.inr ⟨_, _, bs, h1, h2, p, by rw [e]; exact q⟩)
  · exact q.elim
end
end Fg

set_option Elab.async false
set_option linter.all false
set_option maxRecDepth 100000
set_option maxHeartbeats 4000000
namespace Fg
open PySem PySem.Spec PySem.Calls PyProof.Rows L2
/-! ### {k: v for a, b in zip(x, y)} -/
def DCompZ (st : Hp → Prop) (g : TG) (tk tv : TE) (vs : List Nat) (σ : L2.St) (D : Addr) (Q : Hp → Prop) : List (V × V) → Hp → Prop
  | [] => fun H => Q H
  | p :: r => fun H => ∀ T H', H T = none → Same H H' → H' T = some (.tup [p.1, p.2]) → g (.ref T) (wipe σ vs) H' fun σ2 H2 => wipe σ2 vs = wipe σ vs ∧ tk σ2 H2 fun y H3 => tv σ2 H3 fun z H4 =>
      ∃ kvs k, y = kV k ∧ H4 D = some (.dK kvs) ∧ kvs.length < sizeLine ∧ st (upd H4 D (.dK (putK kvs k z))) ∧ DCompZ st g tk tv vs σ D Q r (upd H4 D (.dK (putK kvs k z)))
section
variable {X : Cx} {kx vx e e2 : Expr} {scope : Scope} {own : List (Str × Nat)} {pos p pos2 tpos : Pos} {elts : List Expr} {kk : Nat} {g : TG} {tk tv : TE} {ta : TA}
def tDcZ (K : PySem.W.Frag) (g : TG) (tk tv : TE) (ta : TA) (vs : List Nat) : TE := fun σ H Q => ta σ H fun zs H1 => ∃ (d1 d2 : Sd) (xs ys : List V), zs = [d1.v, d2.v] ∧ d1.has K H1 xs ∧ d2.has K H1 ys ∧ xs.length = ys.length ∧
  ∀ D H2, H1 D = none → Same H1 H2 → H2 D = some (.dK []) → (d1.has K H2 xs ∧ d2.has K H2 ys) ∧ DCompZ (fun H => d1.has K H xs ∧ d2.has K H ys) g tk tv vs σ D (Q (.ref D)) (xs.zip ys) H2
theorem fe_dcZ (hc : X.calm = true) (hN : X.N.Nodup) (hgl : Gl X "zip") (hm : X.mg "zip" = none) (ha : PA X [e, e2] ta) (ok : BlkOk X.N X.env.scope scope own)
    (hg : ∀ (s : Shared) (H : Hp) (C : Addr) (cl : List (Str × Addr)) (fp : List Addr), PG (X.blk s H scope (compEnvC scope cl C X.env) fp) (.Tuple elts kk tpos) g)
    (hk : ∀ (s : Shared) (H : Hp) (C : Addr) (cl : List (Str × Addr)) (fp : List Addr), PE (X.blk s H scope (compEnvC scope cl C X.env) fp) kx tk)
    (he : ∀ (s : Shared) (H : Hp) (C : Addr) (cl : List (Str × Addr)) (fp : List Addr), PE (X.blk s H scope (compEnvC scope cl C X.env) fp) vx tv)
    (hst : starEach [e, e2] X.env = (false, eval e X.env) :: starEach [e2] X.env := by rfl) (hpl : (backTo pos2 (starEach [e2] X.env)).any (·.1) = false := by rfl) (hs : ∀ x, foldedSetIterable (.Call (.Name "zip" p) [e, e2] [] pos2) X.env x = pure x := by intro _; rfl) :
    PE X (.DictComp kx vx [⟨.Tuple elts kk tpos, .Call (.Name "zip" p) [e, e2] [] pos2, [], 0⟩] scope pos) (tDcZ X.K g tk tv ta (own.map (·.2))) :=
  pe_imp (pe_dc (tt := tYes) hc hN (pi_zipM hgl hm (pa_up ha) hst hpl) ok hg (fun _ _ _ _ _ => pts_nil) hk he hs) fun σ H Q q => ⟨_, q, fun zs H1 ⟨d1, d2, xs, ys, ez, h1, h2, hl, k⟩ => ⟨d1, d2, xs, ys, ez, h1, h2, hl, fun D nD => by
    obtain ⟨hst, c⟩ := k D _ nD (Same.new nD) upd_same
    refine ⟨fun i m H => m + i = (xs.zip ys).length ∧ (d1.has X.K H xs ∧ d2.has X.K H ys) ∧ DCompZ (fun H => d1.has X.K H xs ∧ d2.has X.K H ys) g tk tv (own.map (·.2)) σ D (Q (.ref D)) ((xs.zip ys).drop i) H, ⟨_, rfl, hst, c⟩, ?_⟩
    rintro i m H ⟨hm, hs, hc⟩
    have hz : (xs.zip ys).length = xs.length := by rw [List.length_zip, hl, Nat.min_self]
    by_cases hi : i < (xs.zip ys).length
    · right
      rw [List.drop_eq_getElem_cons hi] at hc
      refine ⟨⟨xs, ys, hs.1, hs.2, by omega, hl⟩, fun H' => (d1.has X.K H' xs ∧ d2.has X.K H' ys) ∧ DCompZ (fun H => d1.has X.K H xs ∧ d2.has X.K H ys) g tk tv (own.map (·.2)) σ D (Q (.ref D)) ((xs.zip ys).drop (i + 1)) H', fun H' ⟨a, b⟩ => ⟨m - 1, by omega, by omega, a, b⟩, fun x H' y => ?_⟩
      obtain ⟨T, x1, x2, rfl, nT, rfl, f1, f2⟩ := y
      have ep : (xs.zip ys)[i] = (x1, x2) := by
        have e1 := f1 xs hs.1
        have e2 := f2 ys hs.2
        have hi1 : i < xs.length := by omega
        have hi2 : i < ys.length := by omega
        rw [List.getElem?_eq_getElem hi1] at e1
        rw [List.getElem?_eq_getElem hi2] at e2
        rw [List.getElem_zip, Option.some.inj e1, Option.some.inj e2]
      rw [ep] at hc
      exact hc T _ nT (Same.new nT) upd_same
    · left
      have ei : i = (xs.zip ys).length := by omega
      subst ei
      rw [List.drop_length] at hc
      exact ⟨⟨xs, ys, hs.1, hs.2, hz, hl⟩, hc⟩⟩⟩
end
theorem putK_new {kvs : List (Key × V)} {k : Key} {v : V} (h : ∀ p ∈ kvs, p.1 ≠ k) : putK kvs k v = kvs ++ [(k, v)] := by
  unfold putK
  split
  · rename_i c
    exfalso
    obtain ⟨p, hp, e⟩ := List.any_eq_true.mp c
    exact h p hp (by simpa using e)
  · rfl
/-- each value by a function of the pair; the keys are different texts -/
theorem DCompZ.by {st : Hp → Prop} {g : TG} {tk tv : TE} {vs : List Nat} {σ : L2.St} {D : Addr} {Q : Hp → Prop} {H0 : Hp} (f : Str → V → V) (n0 : H0 D = none) (hst : ∀ H, Same H0 H → st H) (Px : Str → V → Prop)
    (hx : ∀ (s : Str) (x : V) (T : Addr) (H : Hp) (N : L2.St → Hp → Prop → Prop) (R : V → V → Hp → Prop), Px s x → Same H0 H → H T = some (.tup [.str s, x]) → (∀ H', Same H H' → R (.str s) (f s x) H') →
      g (.ref T) (wipe σ vs) H fun σ2 H2 => wipe σ2 vs = wipe σ vs ∧ tk σ2 H2 fun y H3 => tv σ2 H3 fun z H4 => R y z H4) :
    ∀ (ps : List (Str × V)) (acc : List (Key × V)) (H : Hp), (∀ p ∈ ps, Px p.1 p.2) → (acc.map (·.1) ++ ps.map fun p => (Sum.inr p.1 : Key)).Nodup → acc.length + ps.length ≤ sizeLine → Same H0 H → H D = some (.dK acc) →
      (∀ H', Same H0 H' → H' D = some (.dK (acc ++ ps.map fun p => ((Sum.inr p.1 : Key), f p.1 p.2))) → Q H') → DCompZ st g tk tv vs σ D Q (ps.map fun p => (V.str p.1, p.2)) H
  | [], acc, H, _, _, _, s, hD, q => q H s (by rw [List.map_nil, List.append_nil]; exact hD)
  | p :: r, acc, H, hp, nd, hl, s, hD, q => by
    intro T H' nT s' hT
    rw [List.length_cons] at hl
    have nTD : T ≠ D := fun e => by rw [e, hD] at nT; cases nT
    refine hx p.1 p.2 T H' (fun _ _ _ => True) (fun y z H4 => ∃ kvs k, y = kV k ∧ H4 D = some (.dK kvs) ∧ kvs.length < sizeLine ∧ st (upd H4 D (.dK (putK kvs k z))) ∧ DCompZ st g tk tv vs σ D Q (r.map fun p => (V.str p.1, p.2)) (upd H4 D (.dK (putK kvs k z)))) (hp p (List.mem_cons_self ..)) (s.trans s') hT fun H4 s4 => ?_
    have sD : Same H0 (upd H4 D (.dK (putK acc (Sum.inr p.1 : Key) (f p.1 p.2)))) := Same.but ((s.trans s').trans s4) n0 But.upd
    have fresh : ∀ q ∈ acc, q.1 ≠ (Sum.inr p.1 : Key) := fun q hq e => by
      rw [List.nodup_append] at nd
      exact nd.2.2 _ (List.mem_map.mpr ⟨q, hq, rfl⟩) _ (List.mem_cons_self ..) e
    refine ⟨acc, Sum.inr p.1, rfl, s4 _ _ (s' _ _ hD), by omega, hst _ sD, ?_⟩
    refine DCompZ.by f n0 hst Px hx r (putK acc (Sum.inr p.1 : Key) (f p.1 p.2)) _ (fun q hq => hp q (List.mem_cons_of_mem _ hq)) ?_ ?_ sD upd_same fun H' s5 e => q H' s5 ?_
    · rw [putK_new fresh, List.map_append, List.append_assoc]
      exact nd
    · rw [putK_new fresh, List.length_append, List.length_singleton]
      omega
    · rw [e, putK_new fresh, List.append_assoc]
      rfl
end Fg

set_option Elab.async false
set_option linter.all false
set_option maxRecDepth 100000
set_option maxHeartbeats 4000000
namespace Fg
open PySem PySem.Spec PySem.Calls PyProof.Rows L2
/-! ### isinstance with a class of the text -/
/-- no thing of a built-in type is of the class at C -/
structure InsC (K : PySem.W.Frag) (C : Addr) : Prop where
  no : ∀ n ∈ ["NoneType", "bool", "int", "str", "list", "tuple", "dict"], PySem.W.kitOne K (.type n) (.ref C) = some false
def fIsC (K : PySem.W.Frag) (C : Addr) : List V → Hp → VK → Prop := fun xs H Q => match xs with
  | [x, .ref c] => c = C ∧ match x with
    | .non => Q (.bl false) H
    | .bl _ => Q (.bl false) H
    | .int _ => Q (.bl false) H
    | .str _ => Q (.bl false) H
    | .ref a => ∃ b, RefTy K H a (.ref C) b ∧ Q (.bl b) H
    | _ => False
  | _ => False
theorem f_isC {X : Cx} {C : Addr} (i : InsC X.K C) : CallR X (.builtin "isinstance") (fIsC X.K C) := call_imp call_isi fun xs H Q q => by
  unfold fIsC at q
  split at q
  · rename_i x m
    obtain ⟨rfl, q⟩ := q
    cases x with
    | non => exact ⟨_, _, _, _, _, rfl, .own _, .base .non, i.no "NoneType" (by decide), q⟩
    | bl b => exact ⟨_, _, _, _, _, rfl, .own _, .base (.bl _), i.no "bool" (by decide), q⟩
    | int b => exact ⟨_, _, _, _, _, rfl, .own _, .base (.int _), i.no "int" (by decide), q⟩
    | str b => exact ⟨_, _, _, _, _, rfl, .own _, .base (.str _), i.no "str" (by decide), q⟩
    | ref a =>
      obtain ⟨b, ⟨t, ty, kt⟩, q⟩ := q
      exact ⟨_, _, _, _, _, rfl, .own _, ty, kt, q⟩
    | byt _ => exact q.elim
    | flt _ => exact q.elim
    | ty _ => exact q.elim
  · exact q.elim
theorem f_isCB {X : Cx} {K : PySem.W.Frag} (hK : X.K = K) {C : Addr} (i : InsC K C) : CallR X (.builtin "isinstance") (fIsC K C) := by
  subst hK
  exact f_isC i
/-- an instance is one of its class -/
theorem refTy_self {K : PySem.W.Frag} {H : Hp} {a C dx : Addr} {fs : List (Str × V)} (e : H a = some (.ins C dx fs)) (cl : Cls K C) (i : (PySem.W.findIn K (.ref C) "__class__" = some (some (.builtin "object.__class__"))) ∧ (PySem.W.specialIn K (.builtin "object.__class__") "__get__" = some (some (.builtin "getset_descriptor.__get__"))) ∧ (PySem.W.takesIn K (.builtin "object.__class__") = some true) ∧ PySem.W.mroIn K C (.type "object") = some true) :
    RefTy K H a (.ref C) true := by
  obtain ⟨i1, i2, i3, i4⟩ := i
  refine ⟨.ref C, .base (.ins e cl i1 i2 i3 i4), ?_⟩
  unfold PySem.W.kitOne
  rw [if_pos (by simp)]
/-! ### == of tuples of flat things and instances with an own == -/
section
variable {X : Cx} {n k : Nat} {C : Addr} {ps : List Str} {sp : Sp}
/-- the same flat thing, or two instances that their == finds equal -/
def FlatOr (C : Addr) (R : Addr → Addr → Hp → Prop) : Eqv := fun x y H => (x = y ∧ flatB x = true) ∨ DIns C R x y H
theorem eqG_flatOr {R : Addr → Addr → Hp → Prop} (h : EqG X n (DIns C R)) : EqG X n (FlatOr C R) := by
  intro A pins s σ H x y u v sb I rx ry d
  rcases d with ⟨rfl, f⟩ | d
  · exact eqAt_same rx ry f X.prog X.w X.xe _ ⟨rfl, H, I, Ext.rfl'⟩
  · exact h A pins s σ H x y u v sb I rx ry d
theorem mon_flatOr {R : Addr → Addr → Hp → Prop} (hR : ∀ a b H H', Ext H H' → R a b H → R a b H') : Mon (FlatOr C R) := fun x y H H' e d => by
  rcases d with d | d
  · exact .inl d
  · exact .inr (mon_ins hR x y H H' e d)
/-- (.., o, ..) == (.., p, ..), all equal -/
def fEqTO (K : PySem.W.Frag) (C : Addr) (R : Addr → Addr → Hp → Prop) : R2 := fun x y H Q => match x, y with
  | .ref a, .ref b => ∃ xs ys, SqT K H a xs ∧ SqT K H b ys ∧ Prs (FlatOr C R) xs ys H ∧ ∀ H', Same H H' → Q (.bl true) H'
  | _, _ => False
theorem f_eqTO (c : MCallee X.prog X.w X.K X.mg X.base k C "__eq__" ps sp) (R : Addr → Addr → Hp → Prop) (hR : ∀ a b H H', Same H H' → R a b H → R a b H') (hs : ∀ a b H Q E, R a b H → (∀ H', Same H H' → Q (.bl true) H') → sp [.ref a, .ref b] H Q E) (hr : Room n X.A) (hk : k + 1 ≤ n) :
    OpR X (compareOp .Eq) (fEqTO X.K C R) := by
  obtain ⟨g, fd, F, cl, hm, hb⟩ := c.ex
  have F2 : FnOk X.prog X.w X.K X.mg X.base (L2.CX X.prog X.w) k g fd ps (spEq R) := F.imp fun vs H Q E q => by
    obtain ⟨a, b, rfl, r, q⟩ := q
    exact hs a b H Q E r fun H' s => q H' s
  have G := eqG_flatOr (eqG_ins (E := noE) F2 hm.at_ hm.fn hb fun pins σ H s e s' _ got => by
    obtain ⟨_, _, _, _, _, _, _, _, _, _, _, _, z⟩ := got
    exact z.elim)
  have T := rcG_tup (mon_flatOr fun a b H H' e r => hR a b H H' e r) G
  refine op_imp (op_eqG T (hr.mono hk)) fun x y H Q q => ?_
  unfold fEqTO at q
  split at q
  · obtain ⟨xs, ys, h1, h2, p, q⟩ := q
    exact ⟨⟨_, _, xs, ys, rfl, rfl, h1, h2, p⟩, fun H' e => q H' e⟩
  · exact q.elim
end
end Fg

set_option Elab.async false
set_option linter.all false
set_option maxRecDepth 100000
set_option maxHeartbeats 4000000
namespace Fg
open PySem PySem.Spec PySem.Calls PyProof.Rows L2
/-! ### y = {k: v for a, b in zip(x, y)} -/
section
variable {X : Cx} {kx vx tg iter : Expr} {ifs : List Expr} {scope : Scope} {own : List (Str × Nat)} {pos spos py : Pos} {i : Nat} {y : Str}
theorem ps_setDc {wi : TI} {g : TG} {tt : TT} {tk tv : TE} (hc : X.calm = true) (hN : X.N.Nodup) (hy : X.N[i]? = some y) (hyl : X.env.scope.names.lookup y = some .local)
    (hsw : swapsWith (.DictComp kx vx [⟨tg, iter, ifs, 0⟩] scope pos) (some (.Name y py)) spos.line X.env = pure true) (hi : PI X tg iter wi) (ok : BlkOk X.N X.env.scope scope own)
    (hg : ∀ (s : Shared) (H : Hp) (C : Addr) (cl : List (Str × Addr)) (fp : List Addr), PG (X.blk s H scope (compEnvC scope cl C X.env) fp) tg g) (ht : ∀ (s : Shared) (H : Hp) (C : Addr) (cl : List (Str × Addr)) (fp : List Addr), PTs (X.blk s H scope (compEnvC scope cl C X.env) fp) ifs tt)
    (hk : ∀ (s : Shared) (H : Hp) (C : Addr) (cl : List (Str × Addr)) (fp : List Addr), PE (X.blk s H scope (compEnvC scope cl C X.env) fp) kx tk)
    (he : ∀ (s : Shared) (H : Hp) (C : Addr) (cl : List (Str × Addr)) (fp : List Addr), PE (X.blk s H scope (compEnvC scope cl C X.env) fp) vx tv) (hs : ∀ x, foldedSetIterable iter X.env x = pure x := by intro _; rfl) :
    PS X (.Assign [.Name y py] (.DictComp kx vx [⟨tg, iter, ifs, 0⟩] scope pos) spos) (tAsg (tDc wi g tt tk tv (own.map (·.2))) (gName i)) := by
  refine ⟨fun pins s σ H D I h => ?_⟩
  rw [exec_Assign_Name_used _ _ _ _ hsw]
  refine wpAny_bind (wpAny_standAt (wpAny_bind ?_))
  show wpAny _ X.A (do let _ ← comprehension (.DictComp kx vx [⟨tg, iter, ifs, 0⟩] scope pos) scope X.env (firstIterPos [⟨tg, iter, ifs, 0⟩] pos) newDict false (eval iter X.env) (some (assign (.Name y py) X.env))) _ _ s
  have h' : tDc wi g tt tk tv (own.map (·.2)) σ H (fun x H1 => gName i x σ H1 D.nx) := h
  refine wpAny_bind (thn (dc_core (Qf := fun _ s' => SP X pins D .next s') hc hN I hi ok hg ht hk he hs h' fun L C s' m H' I' q hn f => ?_) fun _ s' hq => wpAny_pure (wpAny_pure hq))
  show wpAny _ _ (assign (.Name y py) X.env (.ref L)) _ _ _
  refine wpAny_assign_Name (store_ok2 (v := V.ref L) I' hN hy (.inl hyl) rfl (fun s2 I2 ⟨a, sb, ha⟩ => ?_) (.inr hyl))
  obtain ⟨f0, f1, f2, f3, f4, f5⟩ := f
  have hCa : C ≠ a := by
    rcases ha with z | z
    · rw [z]; exact f1
    · exact fun e => f4 y a z e.symm
  exact ⟨m, hn.sameBut sb hCa, fun h3 sb3 => ⟨_, H', I2.turned (t' := s2.toks) (fun b o hb e => (sb3.2 b hb).trans e) f0 f1 f3 f4 f5, q⟩⟩
theorem sw_dict {gs : List Comprehension} {l : Nat} {env : Env} (hk : env.scope.kind = .function) (hy : env.scope.names.lookup y = some .local) (hl : (py.line == pos.line) = true)
    (ha : (scope.names.any fun (n, k) => n == y && (k == .local || k == .cell)) = false) : swapsWith (.DictComp kx vx gs scope pos) (some (.Name y py)) l env = pure true := by
  have ky : env.kindOf y = some .local := hy
  have hb : env.blockKind = .function := by unfold Env.blockKind; rw [hk]; rfl
  unfold swapsWith
  simp only [hb, ky, ha, Expr.pos, hl]
  rfl
end
section
variable {X : Cx} {kx vx e e2 : Expr} {scope : Scope} {own : List (Str × Nat)} {pos p pos2 tpos spos py : Pos} {elts : List Expr} {kk i : Nat} {y : Str} {g : TG} {tk tv : TE} {ta : TA}
theorem dcz_imp {σ : L2.St} {H : Hp} {Q : VK} (q : tDcZ X.K g tk tv ta (own.map (·.2)) σ H Q) : tDc (iZipM X.K (upA ta)) g tYes tk tv (own.map (·.2)) σ H Q := ⟨_, q, fun zs H1 ⟨d1, d2, xs, ys, ez, h1, h2, hl, k⟩ => ⟨d1, d2, xs, ys, ez, h1, h2, hl, fun D nD => by
    obtain ⟨hst, c⟩ := k D _ nD (Same.new nD) upd_same
    refine ⟨fun i m H => m + i = (xs.zip ys).length ∧ (d1.has X.K H xs ∧ d2.has X.K H ys) ∧ DCompZ (fun H => d1.has X.K H xs ∧ d2.has X.K H ys) g tk tv (own.map (·.2)) σ D (Q (.ref D)) ((xs.zip ys).drop i) H, ⟨_, rfl, hst, c⟩, ?_⟩
    rintro i m H ⟨hm, hs, hc⟩
    have hz : (xs.zip ys).length = xs.length := by rw [List.length_zip, hl, Nat.min_self]
    by_cases hi : i < (xs.zip ys).length
    · right
      rw [List.drop_eq_getElem_cons hi] at hc
      refine ⟨⟨xs, ys, hs.1, hs.2, by omega, hl⟩, fun H' => (d1.has X.K H' xs ∧ d2.has X.K H' ys) ∧ DCompZ (fun H => d1.has X.K H xs ∧ d2.has X.K H ys) g tk tv (own.map (·.2)) σ D (Q (.ref D)) ((xs.zip ys).drop (i + 1)) H', fun H' ⟨a, b⟩ => ⟨m - 1, by omega, by omega, a, b⟩, fun x H' y => ?_⟩
      obtain ⟨T, x1, x2, rfl, nT, rfl, f1, f2⟩ := y
      have ep : (xs.zip ys)[i] = (x1, x2) := by
        have e1 := f1 xs hs.1
        have e2 := f2 ys hs.2
        have hi1 : i < xs.length := by omega
        have hi2 : i < ys.length := by omega
        rw [List.getElem?_eq_getElem hi1] at e1
        rw [List.getElem?_eq_getElem hi2] at e2
        rw [List.getElem_zip, Option.some.inj e1, Option.some.inj e2]
      rw [ep] at hc
      exact hc T _ nT (Same.new nT) upd_same
    · left
      have ei : i = (xs.zip ys).length := by omega
      subst ei
      rw [List.drop_length] at hc
      exact ⟨⟨xs, ys, hs.1, hs.2, hz, hl⟩, hc⟩⟩⟩
theorem fs_setDcZ (hc : X.calm = true) (hN : X.N.Nodup) (hy : X.N[i]? = some y) (hyl : X.env.scope.names.lookup y = some .local)
    (hsw : swapsWith (.DictComp kx vx [⟨.Tuple elts kk tpos, .Call (.Name "zip" p) [e, e2] [] pos2, [], 0⟩] scope pos) (some (.Name y py)) spos.line X.env = pure true) (hgl : Gl X "zip") (hm : X.mg "zip" = none) (ha : PA X [e, e2] ta) (ok : BlkOk X.N X.env.scope scope own)
    (hg : ∀ (s : Shared) (H : Hp) (C : Addr) (cl : List (Str × Addr)) (fp : List Addr), PG (X.blk s H scope (compEnvC scope cl C X.env) fp) (.Tuple elts kk tpos) g)
    (hk : ∀ (s : Shared) (H : Hp) (C : Addr) (cl : List (Str × Addr)) (fp : List Addr), PE (X.blk s H scope (compEnvC scope cl C X.env) fp) kx tk)
    (he : ∀ (s : Shared) (H : Hp) (C : Addr) (cl : List (Str × Addr)) (fp : List Addr), PE (X.blk s H scope (compEnvC scope cl C X.env) fp) vx tv)
    (hst : starEach [e, e2] X.env = (false, eval e X.env) :: starEach [e2] X.env := by rfl) (hpl : (backTo pos2 (starEach [e2] X.env)).any (·.1) = false := by rfl) (hs : ∀ x, foldedSetIterable (.Call (.Name "zip" p) [e, e2] [] pos2) X.env x = pure x := by intro _; rfl) :
    PS X (.Assign [.Name y py] (.DictComp kx vx [⟨.Tuple elts kk tpos, .Call (.Name "zip" p) [e, e2] [] pos2, [], 0⟩] scope pos) spos) (tAsg (tDcZ X.K g tk tv ta (own.map (·.2))) (gName i)) :=
  ps_imp (ps_setDc (tt := tYes) hc hN hy hyl hsw (pi_zipM hgl hm (pa_up ha) hst hpl) ok hg (fun _ _ _ _ _ => pts_nil) hk he hs) fun D σ H q => dcz_imp q
end
end Fg

set_option Elab.async false
set_option linter.all false
set_option maxRecDepth 100000
set_option maxHeartbeats 4000000
namespace Fg
open PySem PySem.Spec PySem.Calls PyProof.Rows L2
/-! ### s.m(a, b) -/
section
variable {X : Cx} {o e1 e2 : Expr} {to t1 t2 : TE} {apos pos : Pos}
def tSM2 (r : V → List V → Hp → VK → Prop) (to t1 t2 : TE) : TE := fun σ H Q => to σ H fun x H1 => match x with
  | .str z => t1 σ H1 fun y H2 => t2 σ H2 fun w H3 => r (.str z) [y, w] H3 Q
  | _ => False
theorem fe_sm2 {id : String} {name : Str} {r : V → List V → Hp → VK → Prop} (slot : Slot "str" name id) (ty : typeOf (.builtin id) = pure (.type "method_descriptor")) (rule : MtR X id r) (ho : PE X o to) (h1 : PE X e1 t1) (h2 : PE X e2 t2)
    (hs : starEach [e1, e2] X.env = [(false, eval e1 X.env), (false, eval e2 X.env)] := by rfl) (hbase : attributeBase o name X.env (eval o X.env) = eval o X.env := by rfl) (hline : (apos.endLine == pos.line) = true := by rfl) :
    PE X (.Call (.Attribute o name apos) [e1, e2] [] pos) (tSM2 r to t1 t2) := by
  refine ⟨fun pins s σ H Q I h => ?_⟩
  refine PySem.Call_method2 hbase hs hline (thn (ho.run pins s σ H _ I h) fun v s1 ⟨x, H1, I1, r1, q1⟩ => ?_)
  dsimp only at q1
  split at q1
  · rename_i z
    obtain ⟨t, rfl⟩ := _root_.id r1
    refine ⟨"str", _, F.plainAttrs_str, slot, ty, typeIs_str _ _ _, (fun _ e => nomatch e), Calls.callWith_builtin rfl (Calls.evalArgs_plain (Calls.spliced_cons ?_))⟩
    refine thn (h1.run pins s1 σ H1 _ I1 q1) fun u s2 ⟨y, H2, I2, r2, q2⟩ => Calls.spliced_cons ?_
    exact thn (h2.run pins s2 σ H2 _ I2 q2) fun u s3 ⟨w, H3, I3, r3, q3⟩ => Calls.spliced_nil (rule pins s3 σ H3 _ [y, w] _ [_, u] Q I3 r1 (.cons r2 (.cons r3 .nil)) q3)
  · exact q1.elim
def fSplit2 : V → List V → Hp → VK → Prop := fun x xs H Q => match x, xs with
  | .str a, [.str b, .int k] => (b.length == 0) = false ∧ (-(2 ^ 63) ≤ k ∧ k < 2 ^ 63) ∧ a.length + 2 ≤ sizeLine ∧ Fresh H (.lst ((Txt.splitMax a b k).map V.str)) Q
  | _, _ => False
theorem f_split2 : MtR X "str.split" fSplit2 := mt_imp mt_splitMax fun x xs H Q q => by
  unfold fSplit2 at q
  split at q
  · exact ⟨_, _, _, rfl, rfl, q.1, q.2.1.1, q.2.1.2, q.2.2.1, q.2.2.2.go⟩
  · exact q.elim
end
/-! ### C(a, b, ..): every parameter written -/
structure InitD (K : PySem.W.Frag) (C : Addr) (qual : Str) (st : Stmt) (dvs : List V) : Prop where
  ex : ∃ f fd, FunD K "__init__" qual (defArgs st) (defBody st) (defScope st) dvs [] f fd ∧ Mk K C f
structure PMaker (P : Program) (w : World) (K : PySem.W.Frag) (mg : Str → Option Value) (base : Heap) (k : Nat) (x : Str) (C : Addr) (ps : List Str) (sp : Sp) : Prop where
  ex : ∃ f fd, Mk K C f ∧ FnOk P w K mg base (L2.CX P w) k f fd ps sp ∧ Binds K fd ps []
  g : mg x = some (.ref C)
theorem pmaker_of {P : Program} {w : World} {K : PySem.W.Frag} {mg : Str → Option Value} {base : Heap} {x qual : Str} {C : Addr} {st : Stmt} {dvs : List V} {N ps : List Str} {k : Nat} {sp : Sp} (g : mg x = some (.ref C)) (F : InitD K C qual st dvs) (S : FnScope N ps (defScope st)) (hd : dvs ≠ [])
    (hb : ∀ (T : Addr) (kV doc pm : Value) (an : Option Addr) (cdv ct : Value) (us its : List Value), us.length = ps.length → its.length = dvs.length →
      ∃ k, bindArgs (PySem.W.fnOf "__init__" qual (defArgs st) (defBody st) (defScope st) (.ref T) kV doc pm an cdv ct) ⟨us, []⟩ = seqItems? (.ref T) >>= k ∧ k (some its.toArray) = pure (ps.zip (us ++ its.drop dvs.length)))
    (len : ∀ vs H Q E, sp vs H Q E → vs.length = ps.length)
    (hbody : ∀ (f : Addr) (cdv : Value) (A : Around) (outer : List Env) (s : Shared) (H : Hp) (vs : List V) (Q : VK) (E : XK), Room k (cxOf (L2.CX P w) P w K mg base N qual (defScope st) f cdv A outer s H E).A →
      Takes (cxOf (L2.CX P w) P w K mg base N qual (defScope st) f cdv A outer s H E) (fun cls d _ H => E cls d H) →
      PassesOwn (model P w) (cxOf (L2.CX P w) P w K mg base N qual (defScope st) f cdv A outer s H E).A (cxOf (L2.CX P w) P w K mg base N qual (defScope st) f cdv A outer s H E).env (cxOf (L2.CX P w) P w K mg base N qual (defScope st) f cdv A outer s H E).xe → sp vs H Q E →
      ∃ t, PSs (cxOf (L2.CX P w) P w K mg base N qual (defScope st) f cdv A outer s H E) (defBody st) t ∧ t { nx := fun _ H' => Q .non H', rt := Q } (start N vs) H) :
    PMaker P w K mg base (k + 1) x C ps sp := by
  obtain ⟨f, fd, F, M⟩ := F.ex
  obtain ⟨ds, v, B⟩ := F.binds1 ps.length dvs.length hd (by omega) hb
  have e : ds = [] := by
    rw [List.drop_length] at v
    cases v
    rfl
  subst e
  exact ⟨⟨f, fd, M, F.ok S len fun cdv A outer s H vs Q E hr h => hbody f cdv A outer s H vs Q E hr (takes_of rfl rfl rfl rfl) (passes_of rfl) h, B⟩, g⟩
section
variable {X : Cx} {W : WX} {j k : Nat} {C : Addr} {x : Str} {ps : List Str} {sp : Sp} {p pos : Pos} {e : Expr} {es : List Expr} {t : TA}
theorem fc_new (c : PMaker X.prog X.w X.K X.mg X.base k x C ps sp) (hr : Room j X.A) (hj : k + 1 ≤ j) (hg : Gl X x) (tk : Takes X W) (ha : PA X (e :: es) t) (hdb : (x == ("__debug__" : Str)) = false := by decide)
    (he : starEach (e :: es) X.env = (false, eval e X.env) :: starEach es X.env := by rfl) (hpl : (backTo pos (starEach es X.env)).any (·.1) = false := by rfl) :
    PE X (.Call (.Name x p) (e :: es) [] pos) (fun σ H Q => t σ H fun zs H2 => zs.length + 1 = ps.length ∧ MadeBy C sp (fun l => l) W σ zs H2 Q) := by
  obtain ⟨f, fd, M, O, B⟩ := c.ex
  refine ⟨fun pins s σ H Q J q => ?_⟩
  refine wpAny_Call_Name_kw (ld_glob J hg c.g ?_ hdb)
  refine PySem.W.callWith_K (h₀ := X.base) J.ok.mod.kin M.kp (thn (ha.run pos pins s σ H _ J q) fun us s2 ⟨zs, H2, J2, rz, l, q2⟩ => ⟨J2.kIn, ?_⟩) he hpl
  have r := run_made (k := k) (us := us) (ws := []) (ks := []) (gV := fun l => l) (zs := zs) (all := .ref (s2.heap.objs.size + 1) :: us) M O (hr.mono hj) (fun s' K => ?_) (.cons rfl rz) (passAt tk σ) J2 q2.go
  · exact r
  · have := B s' (.ref (s2.heap.objs.size + 1) :: us) K (by rw [List.append_nil, List.length_cons, ← rz.length]; exact l)
    rw [List.append_nil] at this
    exact this
end
/-! ### {o} in an f-string, o with an own __str__ -/
structure FmtAt (K : PySem.W.Frag) (C : Addr) : Prop where
  fm : PySem.W.findIn K (.ref C) "__format__" = some (some (.builtin "object.__format__"))
  ob : PySem.W.mroIn K C (.type "object") = some true
section
variable {X : Cx} {n k : Nat} {C : Addr} {ps : List Str} {sp : Sp} {e : Expr} {te : TE} {pos : Pos}
def tFmtO (C : Addr) (sp : Sp) (te : TE) : TE := fun σ H Q => te σ H fun x H1 => match x with
  | .ref a => (∃ dx fs, H1 a = some (.ins C dx fs)) ∧ sp [.ref a] H1 (fun v H' => match v with | .str z => Q (.str z) H' | _ => False) noE
  | _ => False
theorem fe_fmtO (c : MCallee X.prog X.w X.K X.mg X.base k C "__str__" ps sp) (N : FmtAt X.K C) (hr : Room n X.A) (hk : k + 1 ≤ n) (he : PE X e te) : PE X (.FormattedValue e (-1) none pos) (tFmtO C sp te) := by
  obtain ⟨g, fd, F, cl, hm, hb⟩ := c.ex
  refine ⟨fun pins s σ H Q I h => ?_⟩
  refine wpAny_FormattedValue_plain (thn (he.run pins s σ H _ I h) fun v s1 ⟨x, H1, I1, r1, q⟩ => ?_)
  dsimp only at q
  split at q
  · rename_i a
    obtain ⟨⟨dx, fs, ha⟩, q⟩ := q
    cases r1
    obtain ⟨mA, J, _⟩ := ins_get I1.hok ha
    obtain ⟨od, J, _⟩ := J.look
    have r1 := hr.mono hk
    refine PySem.W.kfo_fieldS r1.in1.units0 I1.kIn J N.fm N.ob hm.at_ hm.fn ?_
    refine wpAny_mono (run_in (us := [.ref a]) F r1.in1 rfl hb (I1.tok (s1.toks + 1)) (.cons (show RelV (.ref a) (.ref a) from rfl) .nil) q) (fun r s' z => ?_) fun _ _ e => e
    obtain ⟨v, H', I', rz, q'⟩ := z
    split at q'
    · rename_i z
      obtain ⟨t, rfl⟩ := rz
      exact ⟨.str z, H', I', ⟨t, rfl⟩, q'⟩
    · exact q'.elim
  · exact q.elim
end
end Fg

set_option Elab.async false
set_option linter.all false
set_option maxRecDepth 100000
set_option maxHeartbeats 4000000
namespace Fg
open PySem PySem.Spec PySem.Calls PyProof.Rows L2
/-! ### a class whose __init__ takes *parts -/
structure StarMk (P : Program) (w : World) (K : PySem.W.Frag) (mg : Str → Option Value) (base : Heap) (k : Nat) (x : Str) (C : Addr) (sp : Sp) : Prop where
  ex : ∃ f, Mk K C f ∧ FnR P w K mg base (L2.CX P w) k f sp
  g : mg x = some (.ref C)
def spR (sp : Sp) : Sp := fun vs H Q E => match vs with
  | a :: rest => rest.length ≤ sizeLine ∧ ∀ p H1, H p = none → Same H H1 → H1 p = some (.tup rest) → sp [a, .ref p] H1 Q E
  | [] => False
theorem starmk_of {P : Program} {w : World} {K : PySem.W.Frag} {mg : Str → Option Value} {base : Heap} {x qual pv : Str} {C : Addr} {st : Stmt} {N : List Str} {k : Nat} {sp : Sp} (g : mg x = some (.ref C)) (F : InitD K C qual st []) (S : FnScope N ["self", pv] (defScope st))
    (hb : ∀ (kV doc pm : Value) (an : Option Addr) (cdv ct : Value) (us rest : List Value), us.length = ["self"].length → bindArgs (PySem.W.fnOf "__init__" qual (defArgs st) (defBody st) (defScope st) .none kV doc pm an cdv ct) ⟨us ++ rest, []⟩ = (newTuple rest >>= fun t => pure ((["self"] : List Str).zip us ++ [(pv, t)])))
    (hbody : ∀ (f : Addr) (cdv : Value) (A : Around) (outer : List Env) (s : Shared) (H : Hp) (vs : List V) (Q : VK) (E : XK), Room k (cxOf (L2.CX P w) P w K mg base N qual (defScope st) f cdv A outer s H E).A →
      Takes (cxOf (L2.CX P w) P w K mg base N qual (defScope st) f cdv A outer s H E) (fun cls d _ H => E cls d H) →
      PassesOwn (model P w) (cxOf (L2.CX P w) P w K mg base N qual (defScope st) f cdv A outer s H E).A (cxOf (L2.CX P w) P w K mg base N qual (defScope st) f cdv A outer s H E).env (cxOf (L2.CX P w) P w K mg base N qual (defScope st) f cdv A outer s H E).xe → sp vs H Q E →
      ∃ t, PSs (cxOf (L2.CX P w) P w K mg base N qual (defScope st) f cdv A outer s H E) (defBody st) t ∧ t { nx := fun _ H' => Q .non H', rt := Q } (start N vs) H) :
    StarMk P w K mg base (k + 1) x C (spR sp) := by
  obtain ⟨f, fd, F, M⟩ := F.ex
  obtain ⟨oc, od, dV, kV, doc, pm, an, cdv, ct, osl, rfl, lk, hcd, hd, _⟩ := F.ex
  obtain rfl : dV = .none := by
    rcases hd with ⟨_, e⟩ | ⟨z, _⟩
    · exact e
    · exact absurd rfl z
  refine ⟨⟨f, M, FnR.imp (StX.fn_star (ps := ["self"]) (pv := pv) (sp := sp) lk hcd S StX.cxUp (hb kV doc pm an cdv ct) fun A outer s H vs Q E hr h => hbody f cdv A outer s H vs Q E hr (takes_of rfl rfl rfl rfl) (passes_of rfl) h) fun vs H Q E h => ?_⟩, g⟩
  match vs, h with
  | a :: rest, ⟨hl, q⟩ => exact ⟨[a], rest, rfl, rfl, hl, fun p hp => q p _ hp (Same.new hp) upd_same⟩
section
variable {X : Cx} {W : WX} {j k : Nat} {C f : Addr} {x : Str} {sp : Sp} {p pos p1 p2 : Pos} {e e2 : Expr} {es : List Expr} {t : TA} {te te2 : TE}
theorem run_madeR {pins : List (Addr × Obj)} {σ : L2.St} {H : Hp} {s : Shared} {Q : VK} {us : List Value} {vs : List V} {E : XK} (M : Mk X.K C f) (F : FnR X.prog X.w X.K X.mg X.base (L2.CX X.prog X.w) k f sp) (hr : Room (k + 1) X.A) (tk : PassesAt (L2.CX X.prog X.w) X σ E) (J : Inv X pins σ H s) (r : L2.Vals vs us)
    (h : ∀ a b, H a = none → H b = none → b ≠ a → sp (.ref a :: vs) (upd (upd H b (.own a)) a (.ins C b [])) (fun v H2 => v = .non ∧ Q (.ref a) H2) E) :
    wpAny (model X.prog X.w) X.A (call (.ref C) us) (EP X pins σ Q) X.xe s := by
  have said := h (s.heap.objs.size + 1) s.heap.objs.size (J.hok.fresh (Nat.le_succ _)) (J.hok.fresh (Nat.le_refl _)) (Nat.ne_of_lt (Nat.lt_succ_self _))
  have J2 := Inv.made (C := C) J
  have ran := F _ X.stack _ _ (Value.ref (s.heap.objs.size + 1) :: us) _ _ E (hr.make C us []) (J2.env0.make C us []) (show L2.Vals (V.ref (s.heap.objs.size + 1) :: vs) (Value.ref (s.heap.objs.size + 1) :: us) from .cons rfl r) said
  refine wpAny_call (make_map (f := f) J.kIn M.makes M.init (beq_iff_eq.mp M.fn) (codeAny_mono ran fun out s' got => ?_))
  match out, got with
  | .error e, got => exact tk pins _ _ e s' J2 got
  | .ok (.ret u), got =>
    obtain ⟨v, H', J3, rv, ev, q3⟩ := J2.after got
    subst ev
    exact ⟨rv, V.ref (s.heap.objs.size + 1), H', J3, rfl, q3⟩
  | .ok .next, got => exact False.elim got
  | .ok .brk, got => exact False.elim got
  | .ok .cont, got => exact False.elim got
/-- x(e, ..) -/
theorem fc_newS (c : StarMk X.prog X.w X.K X.mg X.base k x C sp) (hr : Room j X.A) (hj : k + 1 ≤ j) (hg : Gl X x) (tk : Takes X W) (ha : PA X (e :: es) t) (hdb : (x == ("__debug__" : Str)) = false := by decide)
    (he : starEach (e :: es) X.env = (false, eval e X.env) :: starEach es X.env := by rfl) (hpl : (backTo pos (starEach es X.env)).any (·.1) = false := by rfl) :
    PE X (.Call (.Name x p) (e :: es) [] pos) (fun σ H Q => t σ H fun zs H2 => MadeBy C sp (fun l => l) W σ zs H2 Q) := by
  obtain ⟨f, M, F⟩ := c.ex
  refine ⟨fun pins s σ H Q J q => ?_⟩
  refine wpAny_Call_Name_kw (ld_glob J hg c.g ?_ hdb)
  exact PySem.W.callWith_K (h₀ := X.base) J.ok.mod.kin M.kp (thn (ha.run pos pins s σ H _ J q) fun us s2 ⟨zs, H2, J2, rz, q2⟩ => ⟨J2.kIn, run_madeR M F (hr.mono hj) (passAt tk σ) J2 rz q2.go⟩) he hpl
/-- x(e, .., *y, ..) -/
theorem fc_newS2 (c : StarMk X.prog X.w X.K X.mg X.base k x C sp) (hr : Room j X.A) (hj : k + 1 ≤ j) (hg : Gl X x) (tk : Takes X W) (ha : PA X (e :: es) t) (hdb : (x == ("__debug__" : Str)) = false := by decide)
    (he : starEach (e :: es) X.env = (false, eval e X.env) :: starEach es X.env := by rfl) (hst : (backTo pos (starEach es X.env)).any (·.1) = true := by rfl) :
    PE X (.Call (.Name x p) (e :: es) [] pos) (fun σ H Q => t σ H fun zs H2 => MadeBy C sp (fun l => l) W σ zs H2 Q) := by
  obtain ⟨f, M, F⟩ := c.ex
  refine ⟨fun pins s σ H Q J q => ?_⟩
  refine wpAny_Call_Name_kw (ld_glob J hg c.g ?_ hdb)
  exact PySem.W.callWith_S2 (h₀ := X.base) J.ok.mod.kin M.kp (thn (ha.run pos pins s σ H _ J q) fun us s2 ⟨zs, H2, J2, rz, q2⟩ => ⟨J2.kIn, run_madeR M F (hr.mono hj) (passAt tk σ) J2 rz q2.go⟩) he hst
/-- x(*y) -/
theorem fc_newS1 (c : StarMk X.prog X.w X.K X.mg X.base k x C sp) (hr : Room j X.A) (hj : k + 1 ≤ j) (hg : Gl X x) (tk : Takes X W) (he : PE X e te) (hdb : (x == ("__debug__" : Str)) = false := by decide)
    (hst : starEach [.Starred e p1] X.env = [(true, eval e X.env)] := by rfl) :
    PE X (.Call (.Name x p) [.Starred e p1] [] pos) (fun σ H Q => te σ H fun y H1 => ∃ a xs, y = V.ref a ∧ (SqT X.K H1 a xs ∨ SqL X.K H1 a xs) ∧ MadeBy C sp (fun l => l) W σ xs H1 Q) := by
  obtain ⟨f, M, F⟩ := c.ex
  refine ⟨fun pins s σ H Q J q => ?_⟩
  refine wpAny_Call_Name_kw (ld_glob J hg c.g ?_ hdb)
  refine PySem.W.callWith_S (h₀ := X.base) J.ok.mod.kin M.kp (thn (he.run pins s σ H _ J q) fun v s1 ⟨y, H1, J1, ry, a, xs, ey, hxs, q⟩ => ?_) hst
  subst ey
  obtain rfl : v = Value.ref a := ry
  exact StX.star_any J1 hxs fun us s2 J2 rv => ⟨J2.kIn, run_madeR M F (hr.mono hj) (passAt tk σ) J2 rv q.go⟩
/-- x() -/
theorem fc_newS0 (c : StarMk X.prog X.w X.K X.mg X.base k x C sp) (hr : Room j X.A) (hj : k + 1 ≤ j) (hg : Gl X x) (tk : Takes X W) (hdb : (x == ("__debug__" : Str)) = false := by decide) :
    PE X (.Call (.Name x p) [] [] pos) (fun σ H Q => MadeBy C sp (fun l => l) W σ [] H Q) := by
  obtain ⟨f, M, F⟩ := c.ex
  refine ⟨fun pins s σ H Q J q => ?_⟩
  refine wpAny_Call_Name_kw (ld_glob J hg c.g ?_ hdb)
  exact PySem.W.callWith_K0 J.kIn M.kp (run_madeR (us := []) M F (hr.mono hj) (passAt tk σ) J .nil q.go)
/-- x(*y, *z) -/
theorem evalArgs_two {M : Model} {A : Around} {E : Value → Shared → Prop} {s : Shared} {g : Value} {a b : Bool × Sem Value} {rest : List (Bool × Sem Value)} {Q : Args → Shared → Prop}
    (h : wpAny M A (spliced (a :: b :: rest)) (fun vs s' => Q ⟨vs, []⟩ s') E s) : wpAny M A (evalArgs g true (a :: b :: rest) []) Q E s := by
  obtain ⟨a1, a2⟩ := a
  unfold evalArgs
  cases a1 <;>
  · show wpAny M A (spliced (_ :: b :: rest) >>= _) Q E s
    refine wpAny_bind (wpAny_mono h (fun vs s' h' => ?_) fun _ _ x => x)
    refine wpAny_holding ?_
    exact wpAny_bind (wpAny_pure (wpAny_bind (wpAny_pure (wpAny_pure h'))))
theorem fc_newS3 (c : StarMk X.prog X.w X.K X.mg X.base k x C sp) (hr : Room j X.A) (hj : k + 1 ≤ j) (hg : Gl X x) (tk : Takes X W) (ha : PA X [.Starred e p1, .Starred e2 p2] t) (hdb : (x == ("__debug__" : Str)) = false := by decide)
    (hst : starEach [.Starred e p1, .Starred e2 p2] X.env = [(true, eval e X.env), (true, eval e2 X.env)] := by rfl) :
    PE X (.Call (.Name x p) [.Starred e p1, .Starred e2 p2] [] pos) (fun σ H Q => t σ H fun zs H2 => MadeBy C sp (fun l => l) W σ zs H2 Q) := by
  obtain ⟨f, M, F⟩ := c.ex
  refine ⟨fun pins s σ H Q J q => ?_⟩
  refine wpAny_Call_Name_kw (ld_glob J hg c.g ?_ hdb)
  have run := thn (ha.run pos pins s σ H _ J q) fun us s2 ⟨zs, H2, J2, rz, q2⟩ => (show X.K.In s2.heap ∧ wpAny (model X.prog X.w) X.A (call (.ref C) ([] ++ us) []) (EP X pins σ Q) X.xe s2 from ⟨J2.kIn, run_madeR M F (hr.mono hj) (passAt tk σ) J2 rz q2.go⟩)
  rw [hst] at run ⊢
  exact PySem.W.ks_call rfl (PySem.W.keeps_K M.kp) (evalArgs_two run)
end
/-! ### own + -/
/-- a class with its own __add__ and __radd__ -/
structure AddC (K : PySem.W.Frag) (C f g : Addr) : Prop where
  first : PySem.W.selfFirst K C = true
  add : PySem.W.findIn K (.ref C) "__add__" = some (some (.ref f))
  radd : PySem.W.findIn K (.ref C) "__radd__" = some (some (.ref g))
  fa : PySem.W.isFn K (.ref f) = true
  ra : PySem.W.isFn K (.ref g) = true
section
variable {prog : Program} {w : World} {A : Around} {E : Value → Shared → Prop} {s : Shared} {K : PySem.W.Frag} {x C f g : Addr} {ox : Obj} {od : Option Obj} {a b ta tb : Value} {Q : Value → Shared → Prop}
/-- what the other side's type says of + -/
def SideOk (M : Model) (h : Heap) (C : Addr) (t : Value) : Prop :=
  t = .ref C ∨ ((Value.ref C == t) = false ∧ (PySem.W.Looks M h (fillsNumberSlot t "add") false ∨
    (PySem.W.Looks M h (fillsNumberSlot t "add") true ∧ PySem.W.Looks M h (isSubtype t (.ref C)) false ∧ PySem.W.Looks M h (numberSlotInPython t "add") false ∧ ∃ ro, PySem.W.Looks M h (typeLookup t (dunderR "add")) ro)))
theorem own_addL (X : K.In s.heap) (I : PySem.W.InstAt s.heap x ox C od) (L2 : PySem.W.Looks (model prog w) s.heap (typeOf b) tb) (c : AddC K C f g) (hs : SideOk (model prog w) s.heap C tb)
    (h : wpAny (model prog w) A (call (.ref f) [.ref x, b]) (PySem.W.CmpBack Q) E s) : wpAny (model prog w) A (binaryOp .Add (.ref x) b) Q E s := by
  obtain ⟨cd, rest, hcd, hm⟩ := PySem.W.ksp_first c.first
  have hi : Operator.info .Add = ("+", "add") := rfl
  have hfa : PySem.W.findIn K (.ref C) (PySem.dunder "add") = some (some (.ref f)) := c.add
  have hra : PySem.W.findIn K (.ref C) (dunderR "add") = some (some (.ref g)) := c.radd
  have one := PySem.W.ksp_try X I hfa c.fa h
  have L1 : PySem.W.Looks (model prog w) s.heap (typeOf (.ref x)) (.ref C) := I.type
  have L3 : PySem.W.Looks (model prog w) s.heap (fillsNumberSlot (.ref C) "add") true := PySem.W.fills_K X hcd hm hfa
  have L6 : PySem.W.Looks (model prog w) s.heap (numberSlotInPython (.ref C) "add") true := PySem.W.ksp_inPy X hfa hra (.inr ⟨_, rfl⟩)
  obtain ⟨hh, gn, d, tt, os⟩ := s
  simp only [binaryOp, hi]
  refine wpAny_holding (wpAny_bind ?_)
  unfold binaryOp1
  refine wpAny_bind (L1.at (wpAny_bind (L2.at (wpAny_bind (L3.at ?_)))))
  rcases hs with rfl | ⟨hne, L4 | ⟨L4, L5, L7, ro, L8⟩⟩
  · simp only [beq_self_eq_true, if_true]
    ksp_lk
    refine wpAny_mono one (fun r s' hr' => ?_) fun _ _ e => e
    obtain ⟨v, rfl, hq⟩ := hr'
    ksp_lk
    exact hq
  · simp only [hne, Bool.false_eq_true, if_false]
    ksp_lk
    refine wpAny_mono one (fun r s' hr' => ?_) fun _ _ e => e
    obtain ⟨v, rfl, hq⟩ := hr'
    ksp_lk
    exact hq
  · simp only [hne, Bool.false_eq_true, if_false]
    ksp_lk
    refine wpAny_mono one (fun r s' hr' => ?_) fun _ _ e => e
    obtain ⟨v, rfl, hq⟩ := hr'
    ksp_lk
    exact hq
/-- a + x, the type of a knowing no + -/
theorem own_addR (X : K.In s.heap) (I : PySem.W.InstAt s.heap x ox C od) (L1 : PySem.W.Looks (model prog w) s.heap (typeOf a) ta) (c : AddC K C f g) (hne : (ta == Value.ref C) = false) (L3 : PySem.W.Looks (model prog w) s.heap (fillsNumberSlot ta "add") false)
    (h : wpAny (model prog w) A (call (.ref g) [.ref x, a]) (PySem.W.CmpBack Q) E s) : wpAny (model prog w) A (binaryOp .Add a (.ref x)) Q E s := by
  obtain ⟨cd, rest, hcd, hm⟩ := PySem.W.ksp_first c.first
  have hi : Operator.info .Add = ("+", "add") := rfl
  have hfa : PySem.W.findIn K (.ref C) (PySem.dunder "add") = some (some (.ref f)) := c.add
  have hra : PySem.W.findIn K (.ref C) (dunderR "add") = some (some (.ref g)) := c.radd
  have one := PySem.W.ksp_try X I hra c.ra h
  have L2 : PySem.W.Looks (model prog w) s.heap (typeOf (.ref x)) (.ref C) := I.type
  have L4 : PySem.W.Looks (model prog w) s.heap (fillsNumberSlot (.ref C) "add") true := PySem.W.fills_K X hcd hm hfa
  obtain ⟨hh, gn, d, tt, os⟩ := s
  simp only [binaryOp, hi]
  refine wpAny_holding (wpAny_bind ?_)
  unfold binaryOp1
  refine wpAny_bind (L1.at (wpAny_bind (L2.at (wpAny_bind (L3.at ?_)))))
  simp only [hne, Bool.false_eq_true, if_false]
  ksp_lk
  refine wpAny_mono one (fun r s' hr' => ?_) fun _ _ e => e
  obtain ⟨v, rfl, hq⟩ := hr'
  ksp_lk
  exact hq
end
section
variable {M : Model} {h : Heap} {K : PySem.W.Frag} {C D : Addr}
theorem side_type {T : String} {fo ro : Option Value} (X : K.In h) (h1 : PySem.W.findIn K (.type T) "__add__" = some fo) (h2 : PySem.W.findIn K (.type T) "__radd__" = some ro) (h3 : PySem.W.subIn K (.type T) (.ref C) = some false) : SideOk M h C (.type T) := by
  have L := PySem.W.ksp_fillsT (M := M) (nm := "add") X h1 h2
  refine .inr ⟨rfl, ?_⟩
  cases e : ((fo.isSome && !isSeqSlot fo) || (ro.isSome && !isSeqSlot ro)) with
  | false => rw [e] at L; exact .inl L
  | true => rw [e] at L; exact .inr ⟨L, PySem.W.looks_subIn X h3, PySem.W.Looks.of_pure rfl, ro, PySem.W.looks_findIn X h2⟩
/-- an own class that knows no + -/
structure NoAdd (K : PySem.W.Frag) (D : Addr) : Prop where
  cd : ∃ cd, PySem.W.clsIn K D = some cd ∧ cd.mro = [.ref D, .type "object"]
  add : PySem.W.findIn K (.ref D) "__add__" = some none
  radd : PySem.W.findIn K (.ref D) "__radd__" = some none
theorem noAdd_fills (X : K.In h) (n : NoAdd K D) : PySem.W.Looks M h (fillsNumberSlot (.ref D) "add") false := by
  obtain ⟨cd, hc, hm⟩ := n.cd
  intro A Q E s k q
  have Lm : PySem.W.Looks M h (mroOf (.ref D)) cd.mro := (PySem.W.looks_clsIn X hc).andThen (f := fun cd => pure cd.mro) .now
  have Lm' := Lm.keeps k
  obtain ⟨hh, g, d, tt, os⟩ := s
  have X' : K.In hh := X.keeps k
  have L1 : PySem.W.Looks M hh (typeLookup (.ref D) (PySem.dunder "add")) none := PySem.W.looks_findIn X' n.add
  have L2 : PySem.W.Looks M hh (typeLookup (.ref D) (dunderR "add")) none := PySem.W.looks_findIn X' n.radd
  have L3 : PySem.W.Looks M hh (typeLookup (.type "object") (PySem.dunder "add")) none := PySem.W.looks_findIn X' (show PySem.W.findIn K (.type "object") "__add__" = some none from rfl)
  have L4 : PySem.W.Looks M hh (typeLookup (.type "object") (dunderR "add")) none := PySem.W.looks_findIn X' (show PySem.W.findIn K (.type "object") "__radd__" = some none from rfl)
  unfold fillsNumberSlot
  refine wpAny_bind (Lm'.at ?_)
  rw [hm, List.anyM_cons]
  refine wpAny_bind ?_
  show wpAny M A (List.anyM _ [PySem.dunder "add", dunderR "add"]) _ _ _
  rw [List.anyM_cons]
  refine wpAny_bind (wpAny_bind (L1.at ?_))
  dsimp only
  refine wpAny_pure ?_
  rw [if_neg (by decide), List.anyM_cons]
  refine wpAny_bind (wpAny_bind (L2.at ?_))
  dsimp only
  refine wpAny_pure ?_
  rw [if_neg (by decide), List.anyM_nil]
  refine wpAny_pure ?_
  rw [if_neg (by decide), List.anyM_cons]
  refine wpAny_bind ?_
  dsimp only
  refine wpAny_bind (L3.at (wpAny_bind (L4.at (wpAny_pure ?_))))
  rw [if_neg (by decide), List.anyM_nil]
  exact wpAny_pure q
theorem side_own (X : K.In h) (n : NoAdd K D) (hne : D ≠ C) : SideOk M h C (.ref D) := .inr ⟨by
  cases e : (Value.ref C == Value.ref D) with
  | false => rfl
  | true => exact absurd (Value.ref.inj (beq_iff_eq.mp e)).symm hne, .inl (noAdd_fills X n)⟩
end
/-! ### a + b with an own class on one side -/
def SideT (K : PySem.W.Frag) (C : Addr) (t : Value) : Prop := t = .ref C ∨ (∃ D, t = .ref D ∧ D ≠ C ∧ NoAdd K D) ∨ (∃ T, t = .type T ∧ T ∈ ["NoneType", "bool", "int", "str", "list", "tuple", "dict"])
theorem sideT_ok {M : Model} {h : Heap} {K : PySem.W.Frag} {C : Addr} {t : Value} (X : K.In h) (z : SideT K C t) : SideOk M h C t := by
  rcases z with rfl | ⟨D, rfl, hne, n⟩ | ⟨T, rfl, hT⟩
  · exact .inl rfl
  · exact side_own X n hne
  · simp only [List.mem_cons, List.not_mem_nil, or_false] at hT
    rcases hT with rfl | rfl | rfl | rfl | rfl | rfl | rfl <;> exact side_type X rfl rfl rfl
def LeftT (K : PySem.W.Frag) (C : Addr) (t : Value) : Prop := (∃ D, t = .ref D ∧ D ≠ C ∧ NoAdd K D) ∨ t = .type "str"
theorem leftT_ok {M : Model} {h : Heap} {K : PySem.W.Frag} {C : Addr} {t : Value} (X : K.In h) (z : LeftT K C t) : (t == Value.ref C) = false ∧ PySem.W.Looks M h (fillsNumberSlot t "add") false := by
  rcases z with ⟨D, rfl, hne, n⟩ | rfl
  · refine ⟨?_, noAdd_fills X n⟩
    cases e : (Value.ref D == Value.ref C) with
    | false => rfl
    | true => exact absurd (Value.ref.inj (beq_iff_eq.mp e)) hne
  · exact ⟨rfl, PySem.W.ksp_fillsT (M := M) (nm := "add") (T := "str") (fo := some (.builtin "str.__add__")) (ro := none) X rfl rfl⟩
def AddTo (K : PySem.W.Frag) (C : Addr) (spA spR : Sp) (E : XK) : R2 := fun x y H Q =>
  (∃ p dx fs, x = .ref p ∧ H p = some (.ins C dx fs) ∧ (∃ t, TyX K H y t ∧ SideT K C t) ∧ spA [x, y] H Q E) ∨
  (∃ p dx fs, y = .ref p ∧ H p = some (.ins C dx fs) ∧ (∃ t, TyX K H x t ∧ LeftT K C t) ∧ spR [y, x] H Q E)
section
variable {X : Cx} {W : WX} {n k : Nat} {C : Addr} {psA psR : List Str} {spA spR : Sp} {a b : Expr} {ta tb : TE} {pos : Pos}
theorem pe_addO (cA : MCallee X.prog X.w X.K X.mg X.base k C "__add__" psA spA) (cR : MCallee X.prog X.w X.K X.mg X.base k C "__radd__" psR spR) (fi : PySem.W.selfFirst X.K C = true) (hr : Room n X.A) (hk : k ≤ n) (tk : Takes X W) (ha : PE X a ta) (hb : PE X b tb) :
    PE X (.BinOp a .Add b pos) (fun σ H Q => ta σ H fun x H1 => tb σ H1 fun y H2 => AddTo X.K C spA spR (fun cls d H' => W cls d σ H') x y H2 Q) := by
  obtain ⟨g, fd, F, cl, hm, hbi⟩ := cA.ex
  obtain ⟨g2, fd2, F2, _, hm2, hbi2⟩ := cR.ex
  refine ⟨fun pins s σ H Q I h => ?_⟩
  have ac : AddC X.K C g g2 := ⟨fi, hm.at_, hm2.at_, hm.fn, hm2.fn⟩
  refine wpAny_BinOp (binT (R := fun x y H2 => AddTo X.K C spA spR (fun cls d H' => W cls d σ H') x y H2 Q) ha hb I h fun v u s2 x y H2 I2 rx ry q => ?_)
  rcases q with ⟨p, dx, fs, rfl, hp, ⟨t, ty, sd⟩, q⟩ | ⟨p, dx, fs, rfl, hp, ⟨t, ty, sd⟩, q⟩
  · cases rx
    obtain ⟨mA, J, _⟩ := ins_get I2.hok hp
    obtain ⟨od, J, _⟩ := J.look
    obtain ⟨P, kx, hP, _⟩ := kit_of I2 ry ty
    refine own_addL I2.kIn J (kx.ty _ _ I2.kIn hP) ac (sideT_ok I2.kIn sd) ?_
    refine wpAny_mono (wpAny_call (code_fnS (E := WE W) F (hr.mono hk) hbi (passAt tk σ) I2 (.cons (show RelV (.ref p) (.ref p) from rfl) (.cons ry .nil)) q)) (fun r s' z => ?_) fun _ _ e => e
    obtain ⟨v', H', I', rz, q'⟩ := z
    exact relV_cmp (Q := EP X pins σ Q) rz ⟨v', H', I', rz, q'⟩
  · cases ry
    obtain ⟨mA, J, _⟩ := ins_get I2.hok hp
    obtain ⟨od, J, _⟩ := J.look
    obtain ⟨P, kx, hP, _⟩ := kit_of I2 rx ty
    obtain ⟨l1, l2⟩ := leftT_ok (M := model X.prog X.w) I2.kIn sd
    refine own_addR I2.kIn J (kx.ty _ _ I2.kIn hP) ac l1 l2 ?_
    refine wpAny_mono (wpAny_call (code_fnS (E := WE W) F2 (hr.mono hk) hbi2 (passAt tk σ) I2 (.cons (show RelV (.ref p) (.ref p) from rfl) (.cons rx .nil)) q)) (fun r s' z => ?_) fun _ _ e => e
    obtain ⟨v', H', I', rz, q'⟩ := z
    exact relV_cmp (Q := EP X pins σ Q) rz ⟨v', H', I', rz, q'⟩
end
/-! ### C(a, ..) by position, the last parameters left to their defaults -/
structure QMaker (P : Program) (w : World) (K : PySem.W.Frag) (mg : Str → Option Value) (base : Heap) (k : Nat) (x : Str) (C : Addr) (qual : Str) (st : Stmt) (dvs : List V) (ps : List Str) (sp : Sp) : Prop where
  ex : ∃ f fd, FunD K "__init__" qual (defArgs st) (defBody st) (defScope st) dvs [] f fd ∧ Mk K C f ∧ FnOk P w K mg base (L2.CX P w) k f fd ps sp
  g : mg x = some (.ref C)
theorem qmaker_of {P : Program} {w : World} {K : PySem.W.Frag} {mg : Str → Option Value} {base : Heap} {x qual : Str} {C : Addr} {st : Stmt} {dvs : List V} {N ps : List Str} {k : Nat} {sp : Sp} (g : mg x = some (.ref C)) (F : InitD K C qual st dvs) (S : FnScope N ps (defScope st))
    (len : ∀ vs H Q E, sp vs H Q E → vs.length = ps.length)
    (hbody : ∀ (f : Addr) (cdv : Value) (A : Around) (outer : List Env) (s : Shared) (H : Hp) (vs : List V) (Q : VK) (E : XK), Room k (cxOf (L2.CX P w) P w K mg base N qual (defScope st) f cdv A outer s H E).A →
      Takes (cxOf (L2.CX P w) P w K mg base N qual (defScope st) f cdv A outer s H E) (fun cls d _ H => E cls d H) →
      PassesOwn (model P w) (cxOf (L2.CX P w) P w K mg base N qual (defScope st) f cdv A outer s H E).A (cxOf (L2.CX P w) P w K mg base N qual (defScope st) f cdv A outer s H E).env (cxOf (L2.CX P w) P w K mg base N qual (defScope st) f cdv A outer s H E).xe → sp vs H Q E →
      ∃ t, PSs (cxOf (L2.CX P w) P w K mg base N qual (defScope st) f cdv A outer s H E) (defBody st) t ∧ t { nx := fun _ H' => Q .non H', rt := Q } (start N vs) H) :
    QMaker P w K mg base (k + 1) x C qual st dvs ps sp := by
  obtain ⟨f, fd, F, M⟩ := F.ex
  exact ⟨⟨f, fd, F, M, F.ok S len fun cdv A outer s H vs Q E hr h => hbody f cdv A outer s H vs Q E hr (takes_of rfl rfl rfl rfl) (passes_of rfl) h⟩, g⟩
section
variable {X : Cx} {W : WX} {j k : Nat} {C : Addr} {x qual : Str} {st : Stmt} {dvs : List V} {ps : List Str} {sp : Sp} {p pos : Pos} {e : Expr} {es : List Expr} {t : TA}
/-- m values are written, the defaults behind the first i fill up -/
theorem fc_newD (m i : Nat) (c : QMaker X.prog X.w X.K X.mg X.base k x C qual st dvs ps sp) (hr : Room j X.A) (hj : k + 1 ≤ j) (hg : Gl X x) (tk : Takes X W) (ha : PA X (e :: es) t) (hd : dvs ≠ []) (hn : (m + 1) + (dvs.length - i) = ps.length)
    (hb : ∀ (T : Addr) (kV doc pm : Value) (an : Option Addr) (cdv ct : Value) (us its : List Value), us.length = m + 1 → its.length = dvs.length →
      ∃ k, bindArgs (PySem.W.fnOf "__init__" qual (defArgs st) (defBody st) (defScope st) (.ref T) kV doc pm an cdv ct) ⟨us, []⟩ = seqItems? (.ref T) >>= k ∧ k (some its.toArray) = pure (ps.zip (us ++ its.drop i)))
    (hdb : (x == ("__debug__" : Str)) = false := by decide)
    (he : starEach (e :: es) X.env = (false, eval e X.env) :: starEach es X.env := by rfl) (hpl : (backTo pos (starEach es X.env)).any (·.1) = false := by rfl) :
    PE X (.Call (.Name x p) (e :: es) [] pos) (fun σ H Q => t σ H fun zs H2 => zs.length = m ∧ MadeBy C sp (fun l => l ++ dvs.drop i) W σ zs H2 Q) := by
  obtain ⟨f, fd, F, M, O⟩ := c.ex
  obtain ⟨ds, v, B⟩ := F.binds1 (m + 1) i hd hn hb
  refine ⟨fun pins s σ H Q J q => ?_⟩
  refine wpAny_Call_Name_kw (ld_glob J hg c.g ?_ hdb)
  refine PySem.W.callWith_K (h₀ := X.base) J.ok.mod.kin M.kp (thn (ha.run pos pins s σ H _ J q) fun us s2 ⟨zs, H2, J2, rz, l, q2⟩ => ⟨J2.kIn, ?_⟩) he hpl
  have lu : us.length = m := by rw [← rz.length, l]
  have ld : ds.length = dvs.length - i := by rw [← v.length, List.length_drop]
  exact run_made (k := k) (us := us) (ws := []) (ks := []) (gV := fun l => l ++ dvs.drop i) (zs := zs) (all := (.ref (s2.heap.objs.size + 1) :: us) ++ ds) M O (hr.mono hj)
    (fun s' K => B s' (.ref (s2.heap.objs.size + 1) :: us) K (by rw [List.length_append, List.length_cons, lu, ld]; exact hn)) ((show L2.Vals (.ref (s2.heap.objs.size + 1) :: zs) (.ref (s2.heap.objs.size + 1) :: us) from .cons rfl rz).append v) (passAt tk σ) J2 q2.go
end
end Fg

set_option Elab.async false
set_option linter.all false
set_option maxRecDepth 100000
set_option maxHeartbeats 4000000
namespace Fg
open PySem PySem.Spec PyProof.Rows L2
/-! ### enumerate of a list, a tuple, a text -/
def IeM (K : PySem.W.Frag) (d : Sd) : It :=
  ⟨fun i H => ∃ xs : List V, d.has K H xs ∧ i < xs.length,
    fun i H v H' => ∃ T x, v = .ref T ∧ H T = none ∧ H' = upd H T (.tup [.int (i : Nat), x]) ∧ ∀ xs, d.has K H xs → xs[i]? = some x,
    fun i H => ∃ xs : List V, d.has K H xs ∧ i = xs.length⟩
theorem turn_enumM {P : Program} {w : World} {K : PySem.W.Frag} {elts : List Expr} {kk : Nat} {tpos : Pos} {d : Sd} {e it : Addr} {t : Tok} (hei : e ≠ it) (hs : ∀ a ∈ d.src, a ≠ e ∧ a ≠ it) :
    Turn P w K (.Tuple elts kk tpos) (IeM K d) [e, it] e (fun i h => (∃ old, IsEnum h e it ((i : Nat) : Int) old) ∧ d.itr it t i h) where
  mem := by simp
  obj := fun i h st c hc => by
    obtain ⟨⟨old, he⟩, h1⟩ := st
    simp only [List.mem_cons, List.not_mem_nil, or_false] at hc
    rcases hc with rfl | rfl
    · exact ⟨_, he, fun v q => nomatch q⟩
    · exact Sd.itr_ob h1
  keep := fun i h h' st k => by
    obtain ⟨⟨old, he⟩, h1⟩ := st
    exact ⟨⟨old, k e (by simp) _ he⟩, Sd.itr_at h1 fun o q => k it (by simp) o q⟩
  item := by
    intro X hP hw hK hc i pins s σ H E I hf st hg
    subst hP hw hK
    obtain ⟨⟨old, he⟩, h1⟩ := st
    obtain ⟨xs, q1, hi⟩ := hg
    obtain ⟨P1, S1, D1, f1, g1, r1⟩ := Sd.draws I hc q1 it t fun a ha => (hs a ha).2
    have G := GoesN.enumFrom (elts := elts) (x1 := kk) (pos := tpos) 0 D1 e hei (fun h => (List.mem_cons.mp h).elim hei fun h => (hs e h).1 rfl) (List.mem_cons_self ..)
    refine G.goes i s _ E hi ⟨⟨old, by rw [Int.zero_add]; exact he⟩, g1 i h1⟩ fun v h' tk hY st' hk htk => ?_
    obtain ⟨T, t2, x, rfl, hT, p1, tup⟩ := hY
    obtain ⟨x', ex, rx⟩ := r1 i x p1
    have nT : H T = none := I.hok.fresh hT
    rw [Int.zero_add] at tup
    have new : ObjOk X.prog X.w (upd H T (.tup [.int (i : Nat), x'])) h' T (.tup [.int (i : Nat), x']) := ⟨by show 2 ≤ sizeLine; decide, [_, x], .cons ⟨_, rfl⟩ (.cons rx .nil), tup⟩
    refine ⟨.ref T, upd H T (.tup [.int (i : Nat), x']), I.turnedNew (t' := tk) (ch := [e, it]) (fun b o hb z => hk b o hb z) (fun b hb => hf b hb) hT new, rfl, ⟨T, x', rfl, nT, rfl, fun l hl => by rw [Sd.inj I hl q1]; exact ex⟩, ?_, fun b hb => ?_⟩
    · obtain ⟨⟨o2, a1⟩, a4⟩ := st'
      rw [Int.zero_add] at a1
      exact ⟨⟨o2, a1⟩, f1 _ _ a4⟩
    · rw [upd_ne fun z => ?_]
      · exact (hf b hb).1
      · obtain ⟨o, ho, _⟩ : ∃ o, s.heap.get? b = some o ∧ True := by
          simp only [List.mem_cons, List.not_mem_nil, or_false] at hb
          rcases hb with rfl | rfl
          · exact ⟨_, he, trivial⟩
          · obtain ⟨o, q, _⟩ := Sd.itr_ob h1; exact ⟨o, q, trivial⟩
        rw [z] at ho
        exact Nat.lt_irrefl _ (Nat.lt_of_lt_of_le (Heap.lt_size ho) hT)
  done := by
    intro X hP hw hK hc i pins s σ H E I hf st hg
    subst hP hw hK
    obtain ⟨⟨old, he⟩, h1⟩ := st
    obtain ⟨xs, q1, rfl⟩ := hg
    obtain ⟨P1, S1, D1, f1, g1, r1⟩ := Sd.draws I hc q1 it t fun a ha => (hs a ha).2
    have G := GoesN.enumFrom (elts := elts) (x1 := kk) (pos := tpos) 0 D1 e hei (fun h => (List.mem_cons.mp h).elim hei fun h => (hs e h).1 rfl) (List.mem_cons_self ..)
    refine G.stops s _ E ⟨⟨old, by rw [Int.zero_add]; exact he⟩, g1 _ h1⟩ fun h' tk hk htk => I.turnedL (t' := tk) (ch := [e, it]) (fun b o hb z => hk b o hb z) fun b hb => hf b hb
  self := fun A i s Q E st h => let ⟨⟨_, he⟩, _⟩ := st; wpAny_pyIter_enum he h
abbrev enumO (it : Addr) : Obj := { cls := .type "enumerate", data := .fields #[.none, .bool false, .ref it, rawInt 0, .none, .none] }
set_option maxHeartbeats 1000000 in
theorem enum_new1 {u : Value} {io : Obj} {Hq : Heap → Prop} (B : Begins u io Hq) :
    Meets (Builtin.«enumerate.__new__» ⟨[.type "enumerate", u], []⟩) (fun _ R s => Hq s.heap ∧ R (.ok (.ret (.ref (s.heap.push io).objs.size))) { s with heap := (s.heap.push io).push (enumO s.heap.objs.size) }) :=
  .of_wp fun prog w A R s h => by
    obtain ⟨hp, gn, dr, tk, os⟩ := s
    obtain ⟨b1, h⟩ := h
    have hsub := sub_enumerate
    have itr : ∀ {A' : Around} {Ex : Value → Shared → Prop} {Q : Value → Shared → Prop}, Q (.ref hp.objs.size) ⟨hp.push io, gn, dr, tk, os⟩ → wpAny (model prog w) A' (pyIter u) Q Ex ⟨hp, gn, dr, tk, os⟩ := fun z =>
      B.iter prog w _ _ ⟨hp, gn, dr, tk, os⟩ _ b1 z
    wp_walk using itr
    refine wpAny_stack_any fun st => wpAny_pure ?_
    split
    · rename_i cl _ _ _ _ _
      cases (cl == Value.type "enumerate") <;>
      · wp_walk using itr
        exact ⟨_, rfl, h⟩
    · wp_walk using itr
      exact ⟨_, rfl, h⟩
theorem enum_call1 {prog : Program} {w : World} {A : Around} {E : Value → Shared → Prop} {s : Shared} {u : Value} {io : Obj} {Hq : Heap → Prop} {Q : Value → Shared → Prop} (B : Begins u io Hq) (b1 : Hq s.heap)
    (k : ∀ h2, IsEnum h2 (s.heap.objs.size + 1) s.heap.objs.size 0 .none → h2.get? s.heap.objs.size = some io → (∀ b o, s.heap.get? b = some o → h2.get? b = some o) → Q (.ref (s.heap.objs.size + 1)) { s with heap := h2 }) :
    wpAny (model prog w) A (call (.type "enumerate") [u]) Q E s := by
  refine callType_new F.called_enumerate (by decide) (F.typeCall_enumerate_1 _) (F.newCall_enumerate_1 _) (fun obj => F.args_object_init_2 obj _) F.entry_enumerate_new (enum_new1 B) ⟨b1, ?_⟩
  have z1 : (s.heap.push io).objs.size = s.heap.objs.size + 1 := Heap.size_push ..
  show _ ∧ _
  rw [z1]
  have e2 : IsEnum ((s.heap.push io).push (enumO s.heap.objs.size)) (s.heap.objs.size + 1) s.heap.objs.size 0 .none := by
    have := Heap.get?_push_size (s.heap.push io) (o := enumO s.heap.objs.size) rfl
    rw [z1] at this
    exact this
  exact ⟨⟨_, e2, rfl⟩, k _ e2 (Heap.get?_push_of_some _ (Heap.get?_push_size _ B.free)) fun b o q => Heap.get?_push_of_some _ (Heap.get?_push_of_some _ q)⟩
def iEnumM (K : PySem.W.Frag) (ta : TA) : TI := fun σ H R => ta σ H fun vs H1 => ∃ (d : Sd) (xs : List V), vs = [d.v] ∧ d.has K H1 xs ∧ R (IeM K d) H1
theorem pi_enumM {X : Cx} {e : Expr} {ta : TA} {p pos tpos : Pos} {elts : List Expr} {kk : Nat} (hg : Gl X "enumerate") (hm : X.mg "enumerate" = none) (ha : PA X [e] ta) (hs : starEach [e] X.env = [(false, eval e X.env)] := by rfl) :
    PI X (.Tuple elts kk tpos) (.Call (.Name "enumerate" p) [e] [] pos) (iEnumM X.K ta) := by
  refine ⟨fun pins s σ H R I h => Call_ (ld_blt I hg hm boot_enumerate (PyProof.Rows.callWith_type1 (thn (ha.run pos pins s σ H _ I h) fun us s1 ⟨vs, H1, I1, r1, q1⟩ => ?_) hs rfl))⟩
  obtain ⟨d, xs, rfl, hd, q⟩ := q1
  cases r1 with
  | cons r rr =>
    cases rr
    obtain ⟨t, o, Hq, B, b1, lt, it⟩ := Sd.begins I1 hd r
    refine enum_call1 B b1 fun h2 he g1 hk => wpAny_pyIter_enum he ?_
    have I2 : Inv X pins σ H1 { s1 with heap := h2 } := I1.kept (t' := s1.toks) hk
    refine ⟨s1.heap.objs.size + 1, [s1.heap.objs.size + 1, s1.heap.objs.size], _, IeM X.K d, H1, rfl, I2, turn_enumM (t := t) (Nat.succ_ne_self _) (fun a ha => ⟨fun z => ?_, fun z => ?_⟩), ⟨⟨.none, he⟩, it _ _ g1⟩, fun b hb => ?_, q⟩
    · have l := lt a ha
      rw [z] at l
      exact absurd l (Nat.not_lt_of_le (Nat.le_succ _))
    · have l := lt a ha
      rw [z] at l
      exact Nat.lt_irrefl _ l
    · have hle : s1.heap.objs.size ≤ b := by
        simp only [List.mem_cons, List.not_mem_nil, or_false] at hb
        rcases hb with z | z <;> rw [z]
        · exact Nat.le_add_right _ _
        · exact Nat.le_refl _
      exact I1.fpOk hle (I1.hok.fresh hle)
end Fg

set_option Elab.async false
set_option linter.all false
set_option maxRecDepth 100000
set_option maxHeartbeats 4000000
namespace Fg
open PySem PySem.Spec PyProof.Rows L2
/-! ### the head's facts -/
abbrev DefAt (K : PySem.W.Frag) (d : He.DefD) : Prop := ∃ fd, FunD K d.name d.qual d.params d.body d.scope (d.dvs K) (d.kws K) (He.fAd K d.at_) fd
section
variable {K : PySem.W.Frag} {h : Heap} {mg : Str → Option Value} {w : World}
theorem fun_of {x q : Str} {st : Stmt} {f : Addr} {fd : FuncData} (F : FunD K x q (defArgs st) (defBody st) (defScope st) [] [] f fd) : Fun K x q st f fd := by
  obtain ⟨⟨oc, od, dV, kV, doc, pm, an, cdv, ct, osl, rfl, lk, hcd, hd, _⟩, kp⟩ := F
  rcases hd with ⟨_, rfl⟩ | ⟨z, _⟩
  · exact ⟨⟨oc, od, kV, doc, pm, an, cdv, ct, osl, rfl, lk, hcd⟩, kp⟩
  · exact absurd rfl z
theorem funAt_of (X : K.In h) (G : h.Ns mainGlobals mg) {x : Str} {st : Stmt} (F : DefAt K (hdG x st)) (g : (He.Fa.glo x).ok K = true) : FunAt K mg x st := by
  obtain ⟨fd, F⟩ := F
  exact ⟨⟨He.ga K x, fd, fun_of F, He.glo_ok X G g⟩⟩
theorem methAt_of {C m q : Str} {st : Stmt} (F : DefAt K (dM C m q st)) (g : (He.Fa.meth C m).ok K = true) : MethAt K (He.ga K C) m q st := by
  obtain ⟨fd, F⟩ := F
  exact ⟨⟨_, fd, fun_of F, He.meth_ok g⟩⟩
theorem initAt_of {C q : Str} {st : Stmt} (F : DefAt K (dM C "__init__" q st)) (g : (He.Fa.meth C "__init__").ok K = true) : InitAt K (He.ga K C) q st := by
  obtain ⟨fd, F⟩ := F
  have M := He.meth_ok g
  exact ⟨⟨_, fd, fun_of F, M.at_, beq_iff_eq.mp M.fn⟩⟩
theorem initK_of {C q : Str} {st : Stmt} {kws : List (Str × He.Dv)} (F : DefAt K (dMK C "__init__" q st kws)) (g : (He.Fa.mkr C).ok K = true) : InitK K (He.ga K C) q st (kws.map fun p => (p.1, p.2.v K)) := by
  obtain ⟨fd, F⟩ := F
  exact ⟨⟨_, fd, F, He.mkr_ok g⟩⟩
theorem callAt_of {C q : Str} {st : Stmt} (F : DefAt K (dM C "__call__" q st)) (g : (He.Fa.meth C "__call__").ok K = true) : CallAt K (He.ga K C) q st := by
  obtain ⟨fd, F⟩ := F
  have M := He.meth_ok g
  have F2 := fun_of F
  refine ⟨⟨_, fd, F2, M.at_, M.fn, ?_⟩⟩
  obtain ⟨oc, od, kV, doc, pm, an, cdv, ct, osl, rfl, lk, _⟩ := F2.ex
  unfold PySem.W.fnIn
  rw [lk]
theorem funC_of (X : K.In h) (G : h.Ns mainGlobals mg) {x : Str} {st : Stmt} (F : DefAt K (hdG x st)) (g : (He.Fa.glo x).ok K = true) : FunC K mg x st (He.codeOf K (x, none)) := by
  obtain ⟨fd, F⟩ := F
  have F2 := fun_of F
  obtain ⟨oc, od, kV, doc, pm, an, cdv, ct, osl, rfl, lk, hcd⟩ := F2.ex
  obtain ⟨c, rfl⟩ := He.codeIn_ref hcd
  have e : He.codeOf K (x, none) = c := He.codeOf_eq (p := (x, none)) lk rfl
  rw [e]
  exact ⟨⟨_, oc, od, kV, doc, pm, an, ct, osl, lk, hcd, F2.kp, He.glo_ok X G g⟩⟩
/-- a text, an int of the module -/
theorem strG_of (X : K.In h) (G : h.Ns mainGlobals mg) {x z : Str} (g : (He.Fa.str x z).ok K = true) : ∃ u, mg x = some u ∧ RelV (.str z) u := by
  obtain ⟨t, e⟩ := He.str_ok X G g
  exact ⟨_, e, t, rfl⟩
theorem intG_of (X : K.In h) (G : h.Ns mainGlobals mg) {x : Str} {i : Int} (g : (He.Fa.int x i).ok K = true) : ∃ u, mg x = some u ∧ RelV (.int i) u := by
  obtain ⟨t, e⟩ := He.int_ok X G g
  exact ⟨_, e, t, rfl⟩
theorem refG_of (X : K.In h) (G : h.Ns mainGlobals mg) {x : Str} (g : (He.Fa.glo x).ok K = true) : ∃ u, mg x = some u ∧ RelV (.ref (He.ga K x)) u := ⟨_, He.glo_ok X G g, rfl⟩
theorem oeB_ok {C : Addr} (g : oeB K C = true) : OexC K C := by
  obtain ⟨g1, g⟩ := He.ba g
  obtain ⟨g2, g⟩ := He.ba g
  obtain ⟨g3, g⟩ := He.ba g
  obtain ⟨g4, g5⟩ := He.ba g
  refine ⟨?_, of_decide_eq_true g2, of_decide_eq_true g3, of_decide_eq_true g4, g5⟩
  split at g1
  · rename_i t dd cd sl lk
    obtain ⟨a1, g1⟩ := He.ba g1
    obtain ⟨a2, g1⟩ := He.ba g1
    obtain ⟨a3, a4⟩ := He.ba g1
    obtain ⟨a5, a6⟩ := He.ba a3
    obtain ⟨nm, bs, mro, ns, qn, hdct, sn, sub, ab, col, hdel⟩ := cd
    dsimp only at a2 a5 a6
    subst a5
    have e6 : hdel = false := by
      cases hdel with
      | false => rfl
      | true => cases a6
    subst e6
    split at a2
    · rename_i c bm
      obtain ⟨b1, b2⟩ := He.ba a2
      have b1 := of_decide_eq_true b1
      have e1 := of_decide_eq_true a1
      subst e1
      obtain ⟨sl⟩ := sl
      dsimp only at a4
      split at a4
      · have e4 := of_decide_eq_true a4
        subst b1
        subst e4
        exact ⟨_, _, _, _, _, _, _, _, _, _, _, _, _, _, _, lk, b2⟩
      · cases a4
    · cases a2
  · cases g1
theorem xcB_ok {D : Addr} (g : xcB K D = true) : ExcC K D := by
  obtain ⟨g1, g⟩ := He.ba g
  obtain ⟨g2, g⟩ := He.ba g
  obtain ⟨g3, g⟩ := He.ba g
  obtain ⟨g4, g⟩ := He.ba g
  obtain ⟨g5, g⟩ := He.ba g
  obtain ⟨g6, g⟩ := He.ba g
  obtain ⟨g7, g8⟩ := He.ba g
  exact ⟨of_decide_eq_true g1, of_decide_eq_true g2, of_decide_eq_true g3, g4, of_decide_eq_true g5, of_decide_eq_true g6, of_decide_eq_true g7, of_decide_eq_true g8⟩
theorem inB_ok {C : Addr} (g : inB K C = true) : (PySem.W.findIn K (.ref C) "__class__" = some (some (.builtin "object.__class__"))) ∧ (PySem.W.specialIn K (.builtin "object.__class__") "__get__" = some (some (.builtin "getset_descriptor.__get__"))) ∧ (PySem.W.takesIn K (.builtin "object.__class__") = some true) ∧ PySem.W.mroIn K C (.type "object") = some true := by
  obtain ⟨g1, g⟩ := He.ba g
  obtain ⟨g2, g⟩ := He.ba g
  obtain ⟨g3, g4⟩ := He.ba g
  exact ⟨of_decide_eq_true g1, of_decide_eq_true g2, of_decide_eq_true g3, of_decide_eq_true g4⟩
/-! ### tables -/
theorem entB_ref : ∀ {es : List DictEntry} {kvs : List (Str × He.Dv)}, entB K es kvs = true → es.any (·.refKey) = false
  | [], _, _ => rfl
  | e :: r, [], g => by cases g
  | e :: r, q :: qs, g => by
    obtain ⟨g1, g⟩ := He.ba g
    obtain ⟨g2, g3⟩ := He.ba g
    rw [List.any_cons, entB_ref g3, Bool.or_false]
    split at g1
    · rename_i x t ek
      unfold DictEntry.refKey
      rw [ek]
    · cases g1
theorem entB_find (z : Str) : ∀ {es : List DictEntry} {kvs : List (Str × He.Dv)}, entB K es kvs = true → RelO ((kvs.map fun p => (p.1, p.2.v K)).lookup z) ((es.find? (·.key.isStr z)).map (·.val))
  | [], [], _ => trivial
  | [], _ :: _, g => by cases g
  | e :: r, [], g => by cases g
  | e :: r, q :: qs, g => by
    obtain ⟨g1, g⟩ := He.ba g
    obtain ⟨g2, g3⟩ := He.ba g
    have ih := entB_find z g3
    split at g1
    · rename_i x t ek
      have ex := of_decide_eq_true g1
      have es : e.key.isStr z = decide (q.1 = z) := by
        rw [ek, ← ex]
        rfl
      rw [List.map_cons, List.find?_cons, es]
      by_cases c : q.1 = z
      · rw [decide_eq_true c]
        subst c
        simp only [List.lookup, beq_self_eq_true, Option.map]
        exact He.relB_ok g2
      · rw [decide_eq_false c]
        have c2 : (z == q.1) = false := beq_eq_false_iff_ne.mpr fun y => c y.symm
        simp only [List.lookup, c2]
        exact ih
    · cases g1
theorem kTab_of {d : Addr} {kvs : List (Str × He.Dv)} (D : ∃ es n, KDict K w d es n) (g : tabB K d kvs = true) : KTab K w d (kvs.map fun p => (p.1, p.2.v K)) := by
  obtain ⟨es, n, D⟩ := D
  refine ⟨⟨es, n, D, fun z => ?_⟩⟩
  unfold tabB at g
  rw [D.at_] at g
  have r := entB_find z g
  have nr := entB_ref g
  refine ⟨_, ?_, r⟩
  unfold PySem.W.nsIn
  rw [D.at_]
  dsimp only
  cases e : es.toList.find? (·.key.isStr z) with
  | some e => rfl
  | none =>
    dsimp only
    rw [nr]
    rfl
/-- the i-th check -/
theorem exAt {l : List Bool} (g : l.all id = true) (i : Nat) {b : Bool} (h : l[i]? = some b := by rfl) : b = true := List.all_eq_true.mp g b (List.mem_of_getElem? h)
end
end Fg

set_option Elab.async false
set_option linter.all false
set_option maxRecDepth 100000
set_option maxHeartbeats 4000000
namespace Fg
open PySem PySem.Spec PyProof.Rows L2
/-! ### the head's facts, with staticmethods -/
section
variable {K : PySem.W.Frag} {h : Heap} {w : World}
theorem initD_of {C q : Str} {st : Stmt} {dfl : List He.Dv} (F : DefAt K (dD C q st dfl)) (g : (He.Fa.mkr C).ok K = true) : InitD K (He.ga K C) q st (dfl.map fun v => v.v K) := by
  obtain ⟨fd, F⟩ := F
  exact ⟨⟨_, fd, F, He.mkr_ok g⟩⟩
theorem insB_ok {C : Addr} (g : insB K C = true) : InsC K C := ⟨fun n hn => of_decide_eq_true (List.all_eq_true.mp g n hn)⟩
theorem neB_ok {C : Addr} (g : neB K C = true) : NeAt K C := by
  obtain ⟨g1, g2⟩ := He.ba g
  exact ⟨of_decide_eq_true g1, of_decide_eq_true g2⟩
theorem fmB_ok {C : Addr} (g : fmB K C = true) : FmtAt K C := by
  obtain ⟨g1, g2⟩ := He.ba g
  exact ⟨of_decide_eq_true g1, of_decide_eq_true g2⟩
theorem statAt_of {C m q : Str} {st : Stmt} (F : ∃ fd, FunD K m q (defArgs st) (defBody st) (defScope st) [] [] (smAt C m K) fd) (g : stB K C m = true) : StatAt K (He.ga K C) m q st := by
  obtain ⟨g1, g2⟩ := He.ba g
  obtain ⟨fd, F⟩ := F
  obtain ⟨k1, k2⟩ := He5.wrapB_ok g1
  refine ⟨⟨_, _, fd, fun_of F, ⟨k1, k2⟩⟩, g2, ?_⟩
  unfold PySem.W.readsIn at g2
  simp only [Bool.and_eq_true, beq_iff_eq] at g2
  obtain ⟨⟨⟨⟨_, a⟩, b⟩, _⟩, _⟩ := g2
  unfold PySem.W.specialIn
  rw [a, Option.bind_some]
  exact b
end
/-! ### the Hook -/
end Fg

set_option Elab.async false
set_option linter.all false
set_option maxRecDepth 100000
set_option maxHeartbeats 4000000
namespace Fg
open PySem PySem.Spec PyProof.Rows L2
/-! ### the head's facts for + -/
theorem naB_ok {K : PySem.W.Frag} {D : Addr} (g : naB K D = true) : NoAdd K D := by
  obtain ⟨g1, g⟩ := He.ba g
  obtain ⟨g2, g3⟩ := He.ba g
  refine ⟨?_, of_decide_eq_true g2, of_decide_eq_true g3⟩
  split at g1
  · rename_i cd e
    exact ⟨cd, e, of_decide_eq_true g1⟩
  · cases g1
end Fg

set_option Elab.async false
set_option linter.all false
set_option maxRecDepth 100000
set_option maxHeartbeats 4000000
namespace Fg
open PySem PySem.Spec PyProof.Rows L2
local macro_rules | `(tactic| walk_at "hp") => `(tactic| first | assumption | (refine Same.get (by assumption) ?_; walk_at "hp"))
local macro_rules | `(tactic| walk_at "sq") => `(tactic| first | assumption | (exact Or.inr (by assumption)) | (exact Or.inl (by assumption)) | (exact Or.inl (SqL.of (by walk_at "hp"))) | (exact Or.inr (SqT.of (by walk_at "hp"))) | (exact SqL.of (by walk_at "hp")) | (exact SqT.of (by walk_at "hp")))
local macro_rules | `(tactic| walk_at "cl") => `(tactic| first | ((first | show (_ : Int) < _ | show (_ : Int) ≤ _); first | omega | decide) | ((first | show (_ : Nat) < _ | show (_ : Nat) ≤ _); first | with_reducible assumption | (refine sz_le ?_; first | decide | omega | (simp <;> omega)) | (refine sz_lt ?_; first | decide | omega | (simp <;> omega)) | omega | decide | ((with_reducible show List.length _ < _); exact Nat.le_of_ble_eq_true rfl)) | rfl | walk_at "hp" | walk_at "sq" | (refine And.intro (by walk_at "cl") (by walk_at "cl")) | (exact Exists.intro _ (by walk_at "hp")) | (exact Exists.intro _ (Exists.intro _ (by walk_at "hp"))) | (exact Exists.intro _ (Exists.intro _ (And.intro (by walk_at "hp") rfl))) | decide | (exact Or.inl (by walk_at "cl")) | (exact Or.inr (by walk_at "cl")) | omega)
local macro_rules | `(tactic| walk_at "s1") => `(tactic| first | refine And.intro (by walk_at "cl") ?_ | apply Exists.intro)
local macro_rules | `(tactic| walk_at "sx") => `(tactic| repeat walk_at "s1")
local macro_rules | `(tactic| walk_at "si") => `(tactic| first | refine iteY rfl ?_ | refine iteN rfl ?_)
local macro_rules | `(tactic| walk_at "sy") => `(tactic| repeat first | walk_at "s1" | walk_at "si")
theorem sc_NotAFormatdd_initdd : FnScope ["self", "value"] ["self", "value"] (defScope s_NotAFormatdd_initdd) := ⟨rfl, rfl, rfl, by decide +kernel, rfl, by decide +kernel, by decide +kernel⟩
theorem sc_InvalidNumberdd_initdd : FnScope ["self", "value"] ["self", "value"] (defScope s_InvalidNumberdd_initdd) := ⟨rfl, rfl, rfl, by decide +kernel, rfl, by decide +kernel, by decide +kernel⟩
theorem sc_InvalidTextdd_initdd : FnScope ["self", "value"] ["self", "value"] (defScope s_InvalidTextdd_initdd) := ⟨rfl, rfl, rfl, by decide +kernel, rfl, by decide +kernel, by decide +kernel⟩
theorem sc_InvalidNamedd_initdd : FnScope ["self", "value"] ["self", "value"] (defScope s_InvalidNamedd_initdd) := ⟨rfl, rfl, rfl, by decide +kernel, rfl, by decide +kernel, by decide +kernel⟩
theorem sc_InvalidSettingdd_initdd : FnScope ["self", "setting"] ["self", "setting"] (defScope s_InvalidSettingdd_initdd) := ⟨rfl, rfl, rfl, by decide +kernel, rfl, by decide +kernel, by decide +kernel⟩
theorem sc_InvalidRangedd_initdd : FnScope ["self", "end"] ["self", "end"] (defScope s_InvalidRangedd_initdd) := ⟨rfl, rfl, rfl, by decide +kernel, rfl, by decide +kernel, by decide +kernel⟩
theorem sc_InvalidPartsdd_initdd : FnScope ["self", "index"] ["self", "index"] (defScope s_InvalidPartsdd_initdd) := ⟨rfl, rfl, rfl, by decide +kernel, rfl, by decide +kernel, by decide +kernel⟩
theorem sc_is_name : FnScope ["value", "sign"] ["value"] (defScope s_is_name) := ⟨rfl, rfl, rfl, by decide +kernel, rfl, by decide +kernel, by decide +kernel⟩
theorem sc_is_integer : FnScope ["value"] ["value"] (defScope s_is_integer) := ⟨rfl, rfl, rfl, by decide +kernel, rfl, by decide +kernel, by decide +kernel⟩
theorem sc_is_between : FnScope ["value", "low", "high"] ["value", "low", "high"] (defScope s_is_between) := ⟨rfl, rfl, rfl, by decide +kernel, rfl, by decide +kernel, by decide +kernel⟩
theorem sc_is_sign : FnScope ["value"] ["value"] (defScope s_is_sign) := ⟨rfl, rfl, rfl, by decide +kernel, rfl, by decide +kernel, by decide +kernel⟩
theorem sc_code_of : FnScope ["sign", "place"] ["sign"] (defScope s_code_of) := ⟨rfl, rfl, rfl, by decide +kernel, rfl, by decide +kernel, by decide +kernel⟩
theorem sc_is_word : FnScope ["value", "sign"] ["value"] (defScope s_is_word) := ⟨rfl, rfl, rfl, by decide +kernel, rfl, by decide +kernel, by decide +kernel⟩
theorem sc_is_setting : FnScope ["setting", "value"] ["setting", "value"] (defScope s_is_setting) := ⟨rfl, rfl, rfl, by decide +kernel, rfl, by decide +kernel, by decide +kernel⟩
theorem sc_settings_text : FnScope ["values", "words", "setting", "value"] ["values"] (defScope s_settings_text) := ⟨rfl, rfl, rfl, by decide +kernel, rfl, by decide +kernel, by decide +kernel⟩
theorem sc_Formatdd_initdd : FnScope ["self", "base", "sign", "least", "group", "mark", "width", "fill", "side", "values", "setting", "value"] ["self", "base", "sign", "least", "group", "mark", "width", "fill", "side"] (defScope s_Formatdd_initdd) := ⟨rfl, rfl, rfl, by decide +kernel, rfl, by decide +kernel, by decide +kernel⟩
theorem sc_check_format : FnScope ["value"] ["value"] (defScope s_check_format) := ⟨rfl, rfl, rfl, by decide +kernel, rfl, by decide +kernel, by decide +kernel⟩
theorem sc_check_range : FnScope ["low", "high", "end", "value"] ["low", "high"] (defScope s_check_range) := ⟨rfl, rfl, rfl, by decide +kernel, rfl, by decide +kernel, by decide +kernel⟩
theorem sc_Fielddd_initdd : FnScope ["self", "name", "pattern", "low", "high"] ["self", "name", "pattern", "low", "high"] (defScope s_Fielddd_initdd) := ⟨rfl, rfl, rfl, by decide +kernel, rfl, by decide +kernel, by decide +kernel⟩
theorem sc_check_parts : FnScope ["parts", "names", "index", "part"] ["parts"] (defScope s_check_parts) := ⟨rfl, rfl, rfl, by decide +kernel, rfl, by decide +kernel, by decide +kernel⟩
theorem sc_joined : FnScope ["parts", "found", "part"] ["parts"] (defScope s_joined) := ⟨rfl, rfl, rfl, by decide +kernel, rfl, by decide +kernel, by decide +kernel⟩
theorem sc_parts_of : FnScope ["value"] ["value"] (defScope s_parts_of) := ⟨rfl, rfl, rfl, by decide +kernel, rfl, by decide +kernel, by decide +kernel⟩
theorem sc_Linedd_initdd : FnScope ["self", "parts", "part", "field"] ["self", "parts"] (defScope s_Linedd_initdd) := ⟨rfl, rfl, rfl, by decide +kernel, rfl, by decide +kernel, by decide +kernel⟩
theorem sc_Linedd_adddd : FnScope ["self", "other", "more"] ["self", "other"] (defScope s_Linedd_adddd) := ⟨rfl, rfl, rfl, by decide +kernel, rfl, by decide +kernel, by decide +kernel⟩
theorem sc_Linedd_radddd : FnScope ["self", "other"] ["self", "other"] (defScope s_Linedd_radddd) := ⟨rfl, rfl, rfl, by decide +kernel, rfl, by decide +kernel, by decide +kernel⟩
theorem sc_Linedd_lendd : FnScope ["self"] ["self"] (defScope s_Linedd_lendd) := ⟨rfl, rfl, rfl, by decide +kernel, rfl, by decide +kernel, by decide +kernel⟩
theorem sc_l_pot : FnScope ["_law_script", "_law_k", "_law_beaten", "_law_each", "_law_entry"] ["_law_script", "_law_k"] (defScope s_l_pot) := ⟨rfl, rfl, rfl, by decide +kernel, rfl, by decide +kernel, by decide +kernel⟩
theorem sc_l_spoon : FnScope ["_law_pot_here", "_law_wide", "_law_left"] ["_law_pot_here", "_law_wide"] (defScope s_l_spoon) := ⟨rfl, rfl, rfl, by decide +kernel, rfl, by decide +kernel, by decide +kernel⟩
theorem sc_l_of : FnScope ["_law_pot_here", "_law_things"] ["_law_pot_here", "_law_things"] (defScope s_l_of) := ⟨rfl, rfl, rfl, by decide +kernel, rfl, by decide +kernel, by decide +kernel⟩
theorem sc_l_signs : FnScope [] [] (defScope s_l_signs) := ⟨rfl, rfl, rfl, by decide +kernel, rfl, by decide +kernel, by decide +kernel⟩
theorem sc_l_sign : FnScope ["_law_pot_here"] ["_law_pot_here"] (defScope s_l_sign) := ⟨rfl, rfl, rfl, by decide +kernel, rfl, by decide +kernel, by decide +kernel⟩
theorem sc_l_shape : FnScope ["_law_pot_here", "_law_far", "_law_shape_here"] ["_law_pot_here"] (defScope s_l_shape) := ⟨rfl, rfl, rfl, by decide +kernel, rfl, by decide +kernel, by decide +kernel⟩
theorem sc_l_format : FnScope ["_law_shape_here"] ["_law_shape_here"] (defScope s_l_format) := ⟨rfl, rfl, rfl, by decide +kernel, rfl, by decide +kernel, by decide +kernel⟩
theorem sc_l_ended : FnScope ["_law_ask", "_law_given", "_law_e"] ["_law_ask"] (defScope s_l_ended) := ⟨rfl, rfl, rfl, by decide +kernel, rfl, by decide +kernel, by decide +kernel⟩
theorem sc_l_right : FnScope ["_law_pot_here", "_law_made", "_law_a", "_law_b", "_law_c", "_law_d", "_law_e", "_law_twin", "_law_odd", "_law_answers", "_law_due", "_law_full", "_law_first", "_law_second"] ["_law_pot_here"] (defScope s_l_right) := ⟨rfl, rfl, rfl, by decide +kernel, rfl, by decide +kernel, by decide +kernel⟩
theorem sc_law : FnScope ["_law_script", "_law_k"] ["_law_script"] (defScope s_law) := ⟨rfl, rfl, rfl, by decide +kernel, rfl, by decide +kernel, by decide +kernel⟩
/-- where the text's classes and tables stand -/
structure Ad where
  cFormat : Addr
  cField : Addr
  cLine : Addr
  cNotAFormat : Addr
  cInvalidNumber : Addr
  cInvalidText : Addr
  cInvalidName : Addr
  cInvalidSetting : Addr
  cInvalidRange : Addr
  cInvalidParts : Addr
  cC_l_right : Addr
  tP_l_right : Addr
  tHEADS : Addr
  tSIDES : Addr
  tSETTINGS : Addr
  cUnfit : Addr
/-- what the top has written -/
structure Txt (w : World) (K : PySem.W.Frag) (mg : Str → Option Value) (A : Ad) : Prop where
  cl_Format : Cls K A.cFormat
  cl_Field : Cls K A.cField
  cl_Line : Cls K A.cLine
  in_Format : (PySem.W.findIn K (.ref A.cFormat) "__class__" = some (some (.builtin "object.__class__"))) ∧ (PySem.W.specialIn K (.builtin "object.__class__") "__get__" = some (some (.builtin "getset_descriptor.__get__"))) ∧ (PySem.W.takesIn K (.builtin "object.__class__") = some true) ∧ PySem.W.mroIn K A.cFormat (.type "object") = some true
  in_Field : (PySem.W.findIn K (.ref A.cField) "__class__" = some (some (.builtin "object.__class__"))) ∧ (PySem.W.specialIn K (.builtin "object.__class__") "__get__" = some (some (.builtin "getset_descriptor.__get__"))) ∧ (PySem.W.takesIn K (.builtin "object.__class__") = some true) ∧ PySem.W.mroIn K A.cField (.type "object") = some true
  in_Line : (PySem.W.findIn K (.ref A.cLine) "__class__" = some (some (.builtin "object.__class__"))) ∧ (PySem.W.specialIn K (.builtin "object.__class__") "__get__" = some (some (.builtin "getset_descriptor.__get__"))) ∧ (PySem.W.takesIn K (.builtin "object.__class__") = some true) ∧ PySem.W.mroIn K A.cLine (.type "object") = some true
  kn_Format_int : PySem.W.kitOne K (.ref A.cFormat) (.type "int") = some false
  kn_Format_str : PySem.W.kitOne K (.ref A.cFormat) (.type "str") = some false
  kn_Format_tuple : PySem.W.kitOne K (.ref A.cFormat) (.type "tuple") = some false
  kn_Format_bool : PySem.W.kitOne K (.ref A.cFormat) (.type "bool") = some false
  kn_Format_list : PySem.W.kitOne K (.ref A.cFormat) (.type "list") = some false
  kn_Format_dict : PySem.W.kitOne K (.ref A.cFormat) (.type "dict") = some false
  kn_Field_int : PySem.W.kitOne K (.ref A.cField) (.type "int") = some false
  kn_Field_str : PySem.W.kitOne K (.ref A.cField) (.type "str") = some false
  kn_Field_tuple : PySem.W.kitOne K (.ref A.cField) (.type "tuple") = some false
  kn_Field_bool : PySem.W.kitOne K (.ref A.cField) (.type "bool") = some false
  kn_Field_list : PySem.W.kitOne K (.ref A.cField) (.type "list") = some false
  kn_Field_dict : PySem.W.kitOne K (.ref A.cField) (.type "dict") = some false
  kn_Line_int : PySem.W.kitOne K (.ref A.cLine) (.type "int") = some false
  kn_Line_str : PySem.W.kitOne K (.ref A.cLine) (.type "str") = some false
  kn_Line_tuple : PySem.W.kitOne K (.ref A.cLine) (.type "tuple") = some false
  kn_Line_bool : PySem.W.kitOne K (.ref A.cLine) (.type "bool") = some false
  kn_Line_list : PySem.W.kitOne K (.ref A.cLine) (.type "list") = some false
  kn_Line_dict : PySem.W.kitOne K (.ref A.cLine) (.type "dict") = some false
  kc_Format_Field : PySem.W.kitOne K (.ref A.cFormat) (.ref A.cField) = some false
  kc_Format_Line : PySem.W.kitOne K (.ref A.cFormat) (.ref A.cLine) = some false
  kc_Field_Format : PySem.W.kitOne K (.ref A.cField) (.ref A.cFormat) = some false
  kc_Field_Line : PySem.W.kitOne K (.ref A.cField) (.ref A.cLine) = some false
  kc_Line_Format : PySem.W.kitOne K (.ref A.cLine) (.ref A.cFormat) = some false
  kc_Line_Field : PySem.W.kitOne K (.ref A.cLine) (.ref A.cField) = some false
  na_Format : NoAdd K A.cFormat
  na_Field : NoAdd K A.cField
  oe_InvalidName : OexC K A.cInvalidName
  g_InvalidName : mg "InvalidName" = some (.ref A.cInvalidName)
  I_InvalidNamedd_initdd : InitAt K A.cInvalidName "InvalidName.__init__" s_InvalidNamedd_initdd
  nf_InvalidName : PySem.W.findIn K (.ref A.cInvalidName) "value" = some none
  oe_NotAFormat : OexC K A.cNotAFormat
  g_NotAFormat : mg "NotAFormat" = some (.ref A.cNotAFormat)
  I_NotAFormatdd_initdd : InitAt K A.cNotAFormat "NotAFormat.__init__" s_NotAFormatdd_initdd
  nf_NotAFormat : PySem.W.findIn K (.ref A.cNotAFormat) "value" = some none
  oe_InvalidRange : OexC K A.cInvalidRange
  g_InvalidRange : mg "InvalidRange" = some (.ref A.cInvalidRange)
  I_InvalidRangedd_initdd : InitAt K A.cInvalidRange "InvalidRange.__init__" s_InvalidRangedd_initdd
  nf_InvalidRange : PySem.W.findIn K (.ref A.cInvalidRange) "end" = some none
  oe_InvalidSetting : OexC K A.cInvalidSetting
  g_InvalidSetting : mg "InvalidSetting" = some (.ref A.cInvalidSetting)
  I_InvalidSettingdd_initdd : InitAt K A.cInvalidSetting "InvalidSetting.__init__" s_InvalidSettingdd_initdd
  nf_InvalidSetting : PySem.W.findIn K (.ref A.cInvalidSetting) "setting" = some none
  oe_InvalidNumber : OexC K A.cInvalidNumber
  g_InvalidNumber : mg "InvalidNumber" = some (.ref A.cInvalidNumber)
  I_InvalidNumberdd_initdd : InitAt K A.cInvalidNumber "InvalidNumber.__init__" s_InvalidNumberdd_initdd
  nf_InvalidNumber : PySem.W.findIn K (.ref A.cInvalidNumber) "value" = some none
  oe_InvalidText : OexC K A.cInvalidText
  g_InvalidText : mg "InvalidText" = some (.ref A.cInvalidText)
  I_InvalidTextdd_initdd : InitAt K A.cInvalidText "InvalidText.__init__" s_InvalidTextdd_initdd
  nf_InvalidText : PySem.W.findIn K (.ref A.cInvalidText) "value" = some none
  oe_InvalidParts : OexC K A.cInvalidParts
  g_InvalidParts : mg "InvalidParts" = some (.ref A.cInvalidParts)
  I_InvalidPartsdd_initdd : InitAt K A.cInvalidParts "InvalidParts.__init__" s_InvalidPartsdd_initdd
  nf_InvalidParts : PySem.W.findIn K (.ref A.cInvalidParts) "index" = some none
  F_is_integer : FunAt K mg "is_integer" s_is_integer
  b_int : mg "int" = none
  b_isinstance : mg "isinstance" = none
  F_is_between : FunAt K mg "is_between" s_is_between
  F_is_sign : FunAt K mg "is_sign" s_is_sign
  b_str : mg "str" = none
  b_len : mg "len" = none
  g_PRINT : ∃ u, mg "PRINT" = some u ∧ RelV (.str " !\"#$&'()*+,-./0123456789:;<=>?@ABCDEFGHIJKLMNOPQRSTUVWXYZ[\\]^_`abcdefghijklmnopqrstuvwxyz{|}~") u
  F_is_word : FunAt K mg "is_word" s_is_word
  b_all : mg "all" = none
  F_is_name : FunAt K mg "is_name" s_is_name
  g_LONGEST_NAME : ∃ u, mg "LONGEST_NAME" = some u ∧ RelV (.int 10) u
  g_SMALL_LETTERS : ∃ u, mg "SMALL_LETTERS" = some u ∧ RelV (.str "abcdefghijklmnopqrstuvwxyz") u
  F_code_of : FunAt K mg "code_of" s_code_of
  F_is_setting : FunAt K mg "is_setting" s_is_setting
  d_HEADS : KTab K w A.tHEADS [("minus", .str ""), ("plus", .str "+"), ("blank", .str " ")]
  g_HEADS : ∃ u, mg "HEADS" = some u ∧ RelV (.ref A.tHEADS) u
  g_SIDES : ∃ u, mg "SIDES" = some u ∧ RelV (.ref A.tSIDES) u
  t_SIDES : ∀ H, SqT K H A.tSIDES [.str "left", .str "right", .str "both", .str "inner"]
  g_FIGURES : ∃ u, mg "FIGURES" = some u ∧ RelV (.str "0123456789abcdef") u
  g_MOST_GROUP : ∃ u, mg "MOST_GROUP" = some u ∧ RelV (.int 4) u
  g_MOST_WIDTH : ∃ u, mg "MOST_WIDTH" = some u ∧ RelV (.int 12) u
  F_settings_text : FunAt K mg "settings_text" s_settings_text
  b_zip : mg "zip" = none
  g_SETTINGS : ∃ u, mg "SETTINGS" = some u ∧ RelV (.ref A.tSETTINGS) u
  t_SETTINGS : ∀ H, SqT K H A.tSETTINGS [.str "base", .str "sign", .str "least", .str "group", .str "mark", .str "width", .str "fill", .str "side"]
  g_Format : mg "Format" = some (.ref A.cFormat)
  K_Format : InitK K A.cFormat "Format.__init__" s_Formatdd_initdd [("base", .int 10), ("sign", .str "minus"), ("least", .int 1), ("group", .int 0), ("mark", .str ","), ("width", .int 0), ("fill", .str " "), ("side", .str "left")]
  n_Format_base : NoAttr K A.cFormat "base"
  n_Format_sign : NoAttr K A.cFormat "sign"
  n_Format_least : NoAttr K A.cFormat "least"
  n_Format_group : NoAttr K A.cFormat "group"
  n_Format_mark : NoAttr K A.cFormat "mark"
  n_Format_width : NoAttr K A.cFormat "width"
  n_Format_fill : NoAttr K A.cFormat "fill"
  n_Format_side : NoAttr K A.cFormat "side"
  n_Format_words : NoAttr K A.cFormat "words"
  F_check_format : FunAt K mg "check_format" s_check_format
  i_Format : InsC K A.cFormat
  v_Format : ∃ u, mg "Format" = some u ∧ RelV (.ref A.cFormat) u
  F_check_range : FunAt K mg "check_range" s_check_range
  g_MOST_BOUND : ∃ u, mg "MOST_BOUND" = some u ∧ RelV (.int 1000000000000) u
  g_Field : mg "Field" = some (.ref A.cField)
  D_Field : InitD K A.cField "Field.__init__" s_Fielddd_initdd [.non, .non]
  n_Field_name : NoAttr K A.cField "name"
  n_Field_pattern : NoAttr K A.cField "pattern"
  n_Field_low : NoAttr K A.cField "low"
  n_Field_high : NoAttr K A.cField "high"
  F_check_parts : FunAt K mg "check_parts" s_check_parts
  g_MOST_PARTS : ∃ u, mg "MOST_PARTS" = some u ∧ RelV (.int 8) u
  b_enumerate : mg "enumerate" = none
  i_Field : InsC K A.cField
  v_Field : ∃ u, mg "Field" = some u ∧ RelV (.ref A.cField) u
  g_MOST_FIELDS : ∃ u, mg "MOST_FIELDS" = some u ∧ RelV (.int 4) u
  F_joined : FunAt K mg "joined" s_joined
  b_tuple : mg "tuple" = none
  F_parts_of : FunAt K mg "parts_of" s_parts_of
  i_Line : InsC K A.cLine
  v_Line : ∃ u, mg "Line" = some u ∧ RelV (.ref A.cLine) u
  n_Line_parts : NoAttr K A.cLine "parts"
  g_Line : mg "Line" = some (.ref A.cLine)
  D_Line : InitD K A.cLine "Line.__init__" s_Linedd_initdd []
  n_Line_fields : NoAttr K A.cLine "fields"
  n_Line_names : NoAttr K A.cLine "names"
  M_Linedd_adddd : MethAt K A.cLine "__add__" "Line.__add__" s_Linedd_adddd
  M_Linedd_radddd : MethAt K A.cLine "__radd__" "Line.__radd__" s_Linedd_radddd
  M_Linedd_lendd : MethAt K A.cLine "__len__" "Line.__len__" s_Linedd_lendd
  F_l_spoon : FunAt K mg "_law_spoon" s_l_spoon
  F_l_of : FunAt K mg "_law_of" s_l_of
  F_l_signs : FunAt K mg "_law_signs" s_l_signs
  F_l_sign : FunAt K mg "_law_sign" s_l_sign
  F_l_shape : FunAt K mg "_law_shape" s_l_shape
  F_l_format : FunAt K mg "_law_format" s_l_format
  xf_InvalidParts : XfC K A.cInvalidParts
  xc_InvalidParts : ExcC K A.cInvalidParts
  v_Unfit : ∃ u, mg "Unfit" = some u ∧ RelV (.ref A.cUnfit) u
  b_ValueError : mg "ValueError" = none
  ex_InvalidParts_InvalidParts : PySem.W.exmOne K (.ref A.cInvalidParts) (.ref A.cInvalidParts) = some true
  ki_InvalidParts_Unfit : PySem.W.kitOne K (.ref A.cInvalidParts) (.ref A.cUnfit) = some true
  ki_InvalidParts_ValueError : PySem.W.kitOne K (.ref A.cInvalidParts) (.type "ValueError") = some true
  k_l_right : FunC K mg "_law_right" s_l_right A.cC_l_right
  F_l_ended : FunAt K mg "_law_ended" s_l_ended
  sf_Line : PySem.W.selfFirst K A.cLine = true
  F_l_pot : FunAt K mg "_law_pot" s_l_pot
  b_abs : mg "abs" = none
  F_law : FunAt K mg "law" s_law
  b_range : mg "range" = none
  b_max : mg "max" = none
  b_min : mg "min" = none

end Fg
set_option Elab.async false
set_option linter.all false
set_option maxRecDepth 100000
set_option maxHeartbeats 4000000
/-! Data in place of heaps: what a def computes as a Lean function on data (D), proved def by def by rules. -/
namespace Fg
open PySem PySem.Spec PyProof.Rows L2
/-- the tables of code objects that are known, and the name that each one's code bears -/
class TQ where
  q : Addr → Str → Prop
/-- nothing is known at b (but a table) -/
def Nw (H : Hp) (b : Addr) : Prop := ∀ o, H b = some o → ∃ ps, o = .tbl ps
theorem Nw.of {H : Hp} {b : Addr} (h : H b = none) : Nw H b := fun o e => by rw [h] at e; cases e
theorem Nw.no {H : Hp} {b : Addr} {o : HO} (n : Nw H b) (h : H b = some o) (t : ∀ ps, o ≠ .tbl ps) : False := (n o h).elim fun ps e => t ps e
theorem Nw.live {H : Hp} {b : Addr} {o : HO} (h : H b = some o) (t : ∀ ps, o ≠ .tbl ps) : ¬ Nw H b := fun n => n.no h t
/-! ### data, errors, what changes -/
inductive D where
  | non | bl (b : Bool) | int (i : Int) | str (x : Str)
  | tup (xs : List D) | lst (xs : List D) | dct (kvs : List (Key × D)) | obj (c : Str) (fs : List (Str × D))
  /-- the k-th thing that changes -/
  | mt (k : Nat)
instance : Inhabited D := ⟨.non⟩
structure Ex where
  c : Str
  fs : List (Str × D)
/-- the things that change: lists, dicts, instances -/
abbrev Sto := List D
def M (α : Type) := Sto → Option (Except Ex α × Sto)
namespace M
protected def bind {α β : Type} (m : M α) (f : α → M β) : M β := fun S => match m S with
  | none => none
  | some (.error e, S') => some (.error e, S')
  | some (.ok a, S') => f a S'
instance : Monad M where
  pure a := fun S => some (.ok a, S)
  bind := M.bind
instance : LawfulMonad M := LawfulMonad.mk' (m := M) (id_map := by
    intro α x; funext S; show M.bind x _ S = _; unfold M.bind; cases h : x S with
    | none => rfl
    | some p => obtain ⟨e, S'⟩ := p; cases e <;> rfl)
  (pure_bind := by intros; rfl)
  (bind_assoc := by
    intro α β γ x f g; funext S; show M.bind (M.bind x f) g S = M.bind x (fun a => M.bind (f a) g) S
    unfold M.bind; cases h : x S with
    | none => rfl
    | some p => obtain ⟨e, S'⟩ := p; cases e <;> rfl)
/-- no rule for it -/
def stuck {α : Type} : M α := fun _ => none
def raise {α : Type} (e : Ex) : M α := fun S => some (.error e, S)
def opt {α : Type} : Option α → M α
  | some a => pure a
  | none => stuck
@[simp] theorem opt_some {α : Type} (a : α) : opt (some a) = pure a := rfl
@[simp] theorem opt_none {α : Type} : opt (none : Option α) = stuck := rfl
theorem bind_at {α β : Type} (m : M α) (f : α → M β) (S : Sto) : (m >>= f) S = M.bind m f S := rfl
theorem pure_at {α : Type} (a : α) (S : Sto) : (pure a : M α) S = some (.ok a, S) := rfl
theorem bind_ok {α β : Type} {m : M α} {f : α → M β} {S S' : Sto} {a : α} (h : m S = some (.ok a, S')) : (m >>= f) S = f a S' := by
  show M.bind m f S = _
  unfold M.bind; rw [h]
theorem bind_err {α β : Type} {m : M α} {f : α → M β} {S S' : Sto} {e : Ex} (h : m S = some (.error e, S')) : (m >>= f) S = some (.error e, S') := by
  show M.bind m f S = _
  unfold M.bind; rw [h]
theorem bind_none {α β : Type} {m : M α} {f : α → M β} {S : Sto} (h : m S = none) : (m >>= f) S = none := by
  show M.bind m f S = _
  unfold M.bind; rw [h]
@[simp] theorem raise_bind {α β : Type} (e : Ex) (f : α → M β) : ((raise e : M α) >>= f) = raise e := rfl
@[simp] theorem stuck_bind {α β : Type} (f : α → M β) : ((stuck : M α) >>= f) = stuck := rfl
end M
/-- the slots of a def, as data -/
abbrev DEnv := List (Option D)
/-! ### data and heaps -/
section
variable (K : PySem.W.Frag) (ca : Str → Option Addr) (ρ : List Addr)
mutual
/-- v in the heap G is the data d -/
inductive Rp (G : Hp) : V → D → Prop
  | non : Rp G .non .non
  | bl {b : Bool} : Rp G (.bl b) (.bl b)
  | int {i : Int} : Rp G (.int i) (.int i)
  | str {x : Str} : Rp G (.str x) (.str x)
  | tup {a : Addr} {vs : List V} {ds : List D} (h : SqT K G a vs) (p : RpL G vs ds) : Rp G (.ref a) (.tup ds)
  | lst {a : Addr} {vs : List V} {ds : List D} (h : G a = some (.lst vs)) (p : RpL G vs ds) : Rp G (.ref a) (.lst ds)
  | dct {a : Addr} {vs : List (Key × V)} {ds : List (Key × D)} (h : G a = some (.dK vs)) (p : RpK G vs ds) : Rp G (.ref a) (.dct ds)
  | obj {a C dx : Addr} {c : Str} {vs : List (Str × V)} {ds : List (Str × D)} (e : ca c = some C) (h : G a = some (.ins C dx vs)) (p : RpF G vs ds) : Rp G (.ref a) (.obj c ds)
  | mt {a : Addr} {k : Nat} (h : ρ[k]? = some a) : Rp G (.ref a) (.mt k)
inductive RpL (G : Hp) : List V → List D → Prop
  | nil : RpL G [] []
  | cons {v : V} {d : D} {vs : List V} {ds : List D} (h : Rp G v d) (t : RpL G vs ds) : RpL G (v :: vs) (d :: ds)
inductive RpK (G : Hp) : List (Key × V) → List (Key × D) → Prop
  | nil : RpK G [] []
  | cons {k : Key} {v : V} {d : D} {vs : List (Key × V)} {ds : List (Key × D)} (h : Rp G v d) (t : RpK G vs ds) : RpK G ((k, v) :: vs) ((k, d) :: ds)
inductive RpF (G : Hp) : List (Str × V) → List (Str × D) → Prop
  | nil : RpF G [] []
  | cons {k : Str} {v : V} {d : D} {vs : List (Str × V)} {ds : List (Str × D)} (h : Rp G v d) (t : RpF G vs ds) : RpF G ((k, v) :: vs) ((k, d) :: ds)
end
end
theorem SqL.ext {K : PySem.W.Frag} {H H' : Hp} {a : Addr} {xs : List V} (e : LamX.ExtN H H') (h : SqL K H a xs) : SqL K H' a xs := by
  rcases h with (h | ⟨u, h⟩) | hk
  · exact .inl (.inl (e _ _ h fun _ z => by cases z))
  · exact .inl (.inr ⟨u, e _ _ h fun _ z => by cases z⟩)
  · exact .inr hk
theorem SqT.ext {K : PySem.W.Frag} {H H' : Hp} {a : Addr} {xs : List V} (e : LamX.ExtN H H') (h : SqT K H a xs) : SqT K H' a xs := by
  rcases h with (h | ⟨u, h⟩) | hk
  · exact .inl (.inl (e _ _ h fun _ z => by cases z))
  · exact .inl (.inr ⟨u, e _ _ h fun _ z => by cases z⟩)
  · exact .inr hk
section
variable {K : PySem.W.Frag} {ca : Str → Option Addr} {ρ ρ' : List Addr} {G G' : Hp}
mutual
theorem Rp.mono (r : ∀ (k : Nat) (a : Addr), ρ[k]? = some a → ρ'[k]? = some a) (e : LamX.ExtN G G') : ∀ {v : V} {d : D}, Rp K ca ρ G v d → Rp K ca ρ' G' v d
  | _, _, .non => .non
  | _, _, .bl => .bl
  | _, _, .int => .int
  | _, _, .str => .str
  | _, _, .tup h p => .tup (SqT.ext e h) (RpL.mono r e p)
  | _, _, .lst h p => .lst (e _ _ h fun _ z => by cases z) (RpL.mono r e p)
  | _, _, .dct h p => .dct (e _ _ h fun _ z => by cases z) (RpK.mono r e p)
  | _, _, .obj c h p => .obj c (e _ _ h fun _ z => by cases z) (RpF.mono r e p)
  | _, _, .mt h => .mt (r _ _ h)
theorem RpL.mono (r : ∀ (k : Nat) (a : Addr), ρ[k]? = some a → ρ'[k]? = some a) (e : LamX.ExtN G G') : ∀ {v : List V} {d : List D}, RpL K ca ρ G v d → RpL K ca ρ' G' v d
  | _, _, .nil => .nil
  | _, _, .cons h p => .cons (Rp.mono r e h) (RpL.mono r e p)
theorem RpK.mono (r : ∀ (k : Nat) (a : Addr), ρ[k]? = some a → ρ'[k]? = some a) (e : LamX.ExtN G G') : ∀ {v : List (Key × V)} {d : List (Key × D)}, RpK K ca ρ G v d → RpK K ca ρ' G' v d
  | _, _, .nil => .nil
  | _, _, .cons h p => .cons (Rp.mono r e h) (RpK.mono r e p)
theorem RpF.mono (r : ∀ (k : Nat) (a : Addr), ρ[k]? = some a → ρ'[k]? = some a) (e : LamX.ExtN G G') : ∀ {v : List (Str × V)} {d : List (Str × D)}, RpF K ca ρ G v d → RpF K ca ρ' G' v d
  | _, _, .nil => .nil
  | _, _, .cons h p => .cons (Rp.mono r e h) (RpF.mono r e p)
end
theorem RpL.length : ∀ {vs : List V} {ds : List D}, RpL K ca ρ G vs ds → vs.length = ds.length
  | _, _, .nil => rfl
  | _, _, .cons _ t => congrArg Nat.succ (RpL.length t)
theorem RpL.get : ∀ {vs : List V} {ds : List D} {i : Nat} {d : D}, RpL K ca ρ G vs ds → ds[i]? = some d → ∃ v, vs[i]? = some v ∧ Rp K ca ρ G v d
  | _, _, _, _, .nil, e => by simp at e
  | _, _, 0, _, .cons h _, e => by simp at e; subst e; exact ⟨_, rfl, h⟩
  | _, _, i + 1, _, .cons _ t, e => by simpa using RpL.get (i := i) t (by simpa using e)
theorem RpL.append : ∀ {vs ws : List V} {ds es : List D}, RpL K ca ρ G vs ds → RpL K ca ρ G ws es → RpL K ca ρ G (vs ++ ws) (ds ++ es)
  | _, _, _, _, .nil, s => s
  | _, _, _, _, .cons h t, s => .cons h (RpL.append t s)
theorem RpL.set {v : V} {d : D} (h : Rp K ca ρ G v d) : ∀ {vs : List V} {ds : List D} (i : Nat), RpL K ca ρ G vs ds → RpL K ca ρ G (vs.set i v) (ds.set i d)
  | _, _, _, .nil => .nil
  | _, _, 0, .cons _ t => .cons h t
  | _, _, i + 1, .cons g t => .cons g (RpL.set h i t)
theorem RpL.take : ∀ {vs : List V} {ds : List D} (n : Nat), RpL K ca ρ G vs ds → RpL K ca ρ G (vs.take n) (ds.take n)
  | _, _, 0, _ => .nil
  | _, _, _ + 1, .nil => .nil
  | _, _, n + 1, .cons h t => .cons h (RpL.take n t)
theorem RpL.drop : ∀ {vs : List V} {ds : List D} (n : Nat), RpL K ca ρ G vs ds → RpL K ca ρ G (vs.drop n) (ds.drop n)
  | _, _, 0, h => h
  | _, _, _ + 1, .nil => .nil
  | _, _, n + 1, .cons _ t => RpL.drop n t
theorem RpL.reverse : ∀ {vs : List V} {ds : List D}, RpL K ca ρ G vs ds → RpL K ca ρ G vs.reverse ds.reverse
  | _, _, .nil => .nil
  | _, _, .cons h t => by
    rw [List.reverse_cons, List.reverse_cons]
    exact RpL.append (RpL.reverse t) (.cons h .nil)
end
/-! ### what is hidden -/
open Classical in
noncomputable def hid (Z : Addr → Prop) (H : Hp) : Hp := fun b => if Z b then none else H b
theorem hid_iff {Z : Addr → Prop} {H : Hp} {b : Addr} {o : HO} : hid Z H b = some o ↔ ¬ Z b ∧ H b = some o := by
  unfold hid
  split
  · rename_i h; exact ⟨fun z => (by cases z), fun z => absurd h z.1⟩
  · rename_i h; exact ⟨fun z => ⟨h, z⟩, fun z => z.2⟩
section
variable (K : PySem.W.Frag) (ca : Str → Option Addr) (ρ : List Addr)
/-- the thing at a, its parts being told by G -/
def Top (G H : Hp) (a : Addr) : D → Prop
  | .lst ds => ∃ vs, H a = some (.lst vs) ∧ RpL K ca ρ G vs ds
  | .dct ds => ∃ vs, H a = some (.dK vs) ∧ RpK K ca ρ G vs ds
  | .obj c ds => ∃ C dx vs, ca c = some C ∧ H a = some (.ins C dx vs) ∧ RpF K ca ρ G vs ds
  | _ => False
def SrL (G H : Hp) : List Addr → Sto → Prop
  | [], [] => True
  | a :: r, d :: S => Top K ca ρ G H a d ∧ SrL G H r S
  | _, _ => False
/-- the world: what may not be touched (Xs), the things that change -/
structure Sta (Xs : Addr → Prop) (H : Hp) (S : Sto) : Prop where
  live : ∀ b, (Xs b ∨ b ∈ ρ) → ¬ Nw H b
  nd : ρ.Nodup
  xr : ∀ b ∈ ρ, ¬ Xs b
  sto : SrL K ca ρ (hid (fun b => Xs b ∨ b ∈ ρ) H) H ρ S
end
variable [TQ]
/-- from one heap to a later one: all stays but what may change (ρ, Z), tables grow -/
structure Gr (ρ : List Addr) (Z : Addr → Prop) (H : Hp) (ρ' : List Addr) (H' : Hp) : Prop where
  ext : ∃ N, ρ' = ρ ++ N ∧ ∀ b ∈ N, Nw H b
  keep : ∀ b o, b ∉ ρ → ¬ Z b → (∀ ps, o ≠ .tbl ps) → H b = some o → H' b = some o
  alive : ∀ b, ¬ Nw H b → ¬ Nw H' b
  tabs : ∀ P q, TQ.q P q → LamX.TabS H P q → LamX.TabS H' P q
def NoZ : Addr → Prop := fun _ => False
theorem Gr.refl (ρ : List Addr) (Z : Addr → Prop) (H : Hp) : Gr ρ Z H ρ H := ⟨⟨[], by simp, fun b hb => (by cases hb)⟩, fun _ _ _ _ _ e => e, fun _ e => e, fun _ _ _ t => t⟩
theorem Gr.trans {ρ ρ1 ρ2 : List Addr} {Z Z1 : Addr → Prop} {H H1 H2 : Hp} (a : Gr ρ Z H ρ1 H1) (b : Gr ρ1 Z1 H1 ρ2 H2) (hz : ∀ c, Z1 c → Z c ∨ Nw H c) : Gr ρ Z H ρ2 H2 := by
  obtain ⟨N, e1, n1⟩ := a.ext
  obtain ⟨N2, e2, n2⟩ := b.ext
  refine ⟨⟨N ++ N2, by rw [e2, e1, List.append_assoc], fun c hc => ?_⟩, fun c o h1 h2 h3 h4 => ?_, fun c h => b.alive c (a.alive c h), fun P q n t => b.tabs P q n (a.tabs P q n t)⟩
  · rcases List.mem_append.mp hc with h | h
    · exact n1 c h
    · exact Classical.byContradiction fun z => a.alive c z (n2 c h)
  · refine b.keep c o ?_ ?_ h3 (a.keep c o h1 h2 h3 h4)
    · rw [e1]
      intro hm
      rcases List.mem_append.mp hm with h | h
      · exact h1 h
      · exact (n1 c h).no h4 h3
    · intro hz1
      rcases hz c hz1 with h | h
      · exact h2 h
      · exact h.no h4 h3
theorem Gr.tr {ρ ρ1 ρ2 : List Addr} {Z : Addr → Prop} {H H1 H2 : Hp} (a : Gr ρ Z H ρ1 H1) (b : Gr ρ1 NoZ H1 ρ2 H2) : Gr ρ Z H ρ2 H2 := a.trans b fun _ z => z.elim
theorem Gr.wk {ρ ρ1 : List Addr} {Z : Addr → Prop} {H H1 : Hp} (a : Gr ρ NoZ H ρ1 H1) : Gr ρ Z H ρ1 H1 := ⟨a.ext, fun b o h1 _ h3 h4 => a.keep b o h1 (fun z => z) h3 h4, a.alive, a.tabs⟩
theorem Gr.at {ρ ρ1 : List Addr} {Z : Addr → Prop} {H H1 : Hp} (a : Gr ρ Z H ρ1 H1) : ∀ (k : Nat) (x : Addr), ρ[k]? = some x → ρ1[k]? = some x := fun k x e => by
  obtain ⟨N, e1, _⟩ := a.ext
  rw [e1, List.getElem?_append_left]
  · exact e
  · exact (List.getElem?_eq_some_iff.mp e).1
theorem Gr.mem {ρ ρ1 : List Addr} {Z : Addr → Prop} {H H1 : Hp} (a : Gr ρ Z H ρ1 H1) {b : Addr} (h : b ∈ ρ) : b ∈ ρ1 := by
  obtain ⟨N, e1, _⟩ := a.ext
  rw [e1]; exact List.mem_append_left _ h
/-- what is seen stays seen -/
theorem Gr.sees {ρ ρ1 : List Addr} {Y Z Z1 : Addr → Prop} {H H1 : Hp} (a : Gr ρ Y H ρ1 H1) (hy : ∀ b, Y b → Z b ∨ b ∈ ρ) (hz : ∀ b, Z1 b → Z b ∨ Nw H b) : LamX.ExtN (hid (fun b => Z b ∨ b ∈ ρ) H) (hid (fun b => Z1 b ∨ b ∈ ρ1) H1) := by
  intro b o h ht
  obtain ⟨n, e⟩ := hid_iff.mp h
  obtain ⟨N, e1, n1⟩ := a.ext
  refine hid_iff.mpr ⟨fun z => ?_, a.keep b o (fun z => n (.inr z)) (fun z => n (hy b z)) ht e⟩
  rcases z with z | z
  · rcases hz b z with z | z
    · exact n (.inl z)
    · exact z.no e ht
  · rw [e1] at z
    rcases List.mem_append.mp z with z | z
    · exact n (.inr z)
    · exact (n1 b z).no e ht
/-- new objects alone -/
theorem Gr.same {ρ : List Addr} {Z : Addr → Prop} {H H' : Hp} (s : Same H H') : Gr ρ Z H ρ H' := ⟨⟨[], by simp, fun b hb => (by cases hb)⟩, fun b o _ _ _ e => s b o e, fun b h z => h fun o e => z o (s b o e), fun P q _ t => t.ext s⟩
theorem tabS_but {H H' : Hp} {a : Addr} {o : HO} (b : But a H H') (h : H a = some o) (n1 : ∀ ps, o ≠ .tbl ps) (n2 : ∀ φ, o ≠ .ext φ) {P : Addr} {q : Str} (t : LamX.TabS H P q) : LamX.TabS H' P q := by
  obtain ⟨ps, h1, h2, h3⟩ := t
  refine ⟨ps, b _ _ (fun z => ?_) h1, h2, fun pos cv hc => ?_⟩
  · rw [z, h] at h1; exact n1 ps (Option.some.inj h1)
  · obtain ⟨c, e1, e2⟩ := h3 pos cv hc
    refine ⟨c, e1, b _ _ (fun z => ?_) e2⟩
    rw [z, h] at e2
    exact n2 _ (Option.some.inj e2)
/-- the thing at a is changed -/
theorem Gr.but {ρ : List Addr} {Z : Addr → Prop} {H H' : Hp} {a : Addr} {o o' : HO} (b : But a H H') (h : H a = some o) (h' : H' a = some o') (hz : Z a ∨ a ∈ ρ) (n1 : ∀ ps, o ≠ .tbl ps) (n2 : ∀ φ, o ≠ .ext φ) (n1' : ∀ ps, o' ≠ .tbl ps := by intro _ z; cases z) : Gr ρ Z H ρ H' :=
  ⟨⟨[], by simp, fun b hb => (by cases hb)⟩, fun c u h1 h2 _ e => b c u (fun z => by subst z; exact hz.elim h2 h1) e, fun c e => by
    by_cases z : c = a
    · subst z; exact Nw.live h' n1'
    · exact fun n => e fun o eo => n o (b c o z eo), fun P q _ t => tabS_but b h n1 n2 t⟩
section
variable {K : PySem.W.Frag} {ca : Str → Option Addr} {ρ ρ' : List Addr} {G G' H H' : Hp} {a : Addr}
theorem Top.mono {d : D} (r : ∀ (k : Nat) (a : Addr), ρ[k]? = some a → ρ'[k]? = some a) (e : LamX.ExtN G G') (k : ∀ o, (∀ ps, o ≠ .tbl ps) → H a = some o → H' a = some o) (h : Top K ca ρ G H a d) : Top K ca ρ' G' H' a d := by
  cases d <;> first | exact h.elim | skip
  · obtain ⟨vs, h1, h2⟩ := h; exact ⟨vs, k _ (fun _ z => by cases z) h1, RpL.mono r e h2⟩
  · obtain ⟨vs, h1, h2⟩ := h; exact ⟨vs, k _ (fun _ z => by cases z) h1, RpK.mono r e h2⟩
  · obtain ⟨C, dx, vs, h0, h1, h2⟩ := h; exact ⟨C, dx, vs, h0, k _ (fun _ z => by cases z) h1, RpF.mono r e h2⟩
theorem SrL.mono (r : ∀ (k : Nat) (a : Addr), ρ[k]? = some a → ρ'[k]? = some a) (e : LamX.ExtN G G') : ∀ {l : List Addr} {S : Sto}, (∀ a ∈ l, ∀ o, (∀ ps, o ≠ .tbl ps) → H a = some o → H' a = some o) → SrL K ca ρ G H l S → SrL K ca ρ' G' H' l S
  | [], [], _, _ => trivial
  | a :: l, d :: S, k, ⟨h, t⟩ => ⟨Top.mono r e (k a (List.mem_cons_self ..)) h, SrL.mono r e (fun b hb => k b (List.mem_cons_of_mem _ hb)) t⟩
  | [], _ :: _, _, h => h.elim
  | _ :: _, [], _, h => h.elim
theorem SrL.get : ∀ {l : List Addr} {S : Sto} {k : Nat}, SrL K ca ρ G H l S → l[k]? = some a → ∃ d, S[k]? = some d ∧ Top K ca ρ G H a d
  | [], _, _, _, e => by simp at e
  | b :: l, [], _, h, _ => h.elim
  | b :: l, d :: S, 0, ⟨h, _⟩, e => by simp at e; subst e; exact ⟨d, rfl, h⟩
  | b :: l, d :: S, k + 1, ⟨_, t⟩, e => by simpa using SrL.get (k := k) t (by simpa using e)
theorem SrL.len : ∀ {l : List Addr} {S : Sto}, SrL K ca ρ G H l S → l.length = S.length
  | [], [], _ => rfl
  | _ :: _, _ :: _, ⟨_, t⟩ => congrArg Nat.succ (SrL.len t)
  | [], _ :: _, h => h.elim
  | _ :: _, [], h => h.elim
theorem SrL.append : ∀ {l m : List Addr} {S T : Sto}, SrL K ca ρ G H l S → SrL K ca ρ G H m T → SrL K ca ρ G H (l ++ m) (S ++ T)
  | [], _, [], _, _, h => h
  | _ :: _, _, _ :: _, _, ⟨h, t⟩, s => ⟨h, SrL.append t s⟩
  | [], _, _ :: _, _, h, _ => h.elim
  | _ :: _, _, [], _, h, _ => h.elim
/-- the world seen with less hidden -/
theorem Sta.wk {Xs Ys : Addr → Prop} {S : Sto} (h : Sta K ca ρ Xs H S) (w : ∀ b, Ys b → Xs b) : Sta K ca ρ Ys H S :=
  ⟨fun b z => h.live b (z.imp (w b) id), h.nd, fun b hb z => h.xr b hb (w b z), SrL.mono (fun _ _ e => e) (fun b o e ht => by
    obtain ⟨n, e⟩ := hid_iff.mp e
    exact hid_iff.mpr ⟨fun z => n (z.imp (w b) id), e⟩) (fun _ _ _ _ e => e) h.sto⟩
end
/-! ### a def's frame -/
/-- what stands through the def's run: where classes stand, the heap at the entry, what may not be touched, what changes, what is wanted of an error -/
structure Fr where
  K : PySem.W.Frag
  ca : Str → Option Addr
  ce : Str → Option Addr
  H0 : Hp
  Xs : Addr → Prop
  R0 : List Addr
  W : XK
  /-- where the own thing of slot 0 stands, in an __init__ -/
  own0 : Option Addr
def Own (B : Nat → Option Addr) (b : Addr) : Prop := ∃ i, B i = some b
def Zf (F : Fr) (ρ : List Addr) : Addr → Prop := fun b => F.Xs b ∨ b ∈ ρ
def Zo (F : Fr) (B : Nat → Option Addr) (ρ : List Addr) : Addr → Prop := fun b => (F.Xs b ∨ Own B b) ∨ b ∈ ρ
structure End (F : Fr) (ρ : List Addr) (H : Hp) (S : Sto) : Prop where
  gr : Gr F.R0 NoZ F.H0 ρ H
  sta : Sta F.K F.ca ρ F.Xs H S
def SlAt (F : Fr) (B : Nat → Option Addr) (ρ : List Addr) (H : Hp) (σ : L2.St) (i : Nat) (d : D) : Prop := match B i with
  | none => ∃ v, σ[i]? = some (some v) ∧ Rp F.K F.ca ρ (hid (Zo F B ρ) H) v d
  | some a => σ[i]? = some (some (.ref a)) ∧ Top F.K F.ca ρ (hid (Zo F B ρ) H) H a d
/-- a point within the def: O the slots whose things are the def's own (and may be changed by it), B where they stand -/
structure Rel (F : Fr) (O : List Nat) (B : Nat → Option Addr) (ρ : List Addr) (σ : L2.St) (H : Hp) (δ : DEnv) (S : Sto) : Prop where
  gr : Gr F.R0 NoZ F.H0 ρ H
  sta : Sta F.K F.ca ρ (fun b => F.Xs b ∨ Own B b) H S
  bnew : ∀ b, Own B b → Nw F.H0 b
  oxs : ∀ b, Own B b → ¬ F.Xs b
  binj : ∀ i j b, B i = some b → B j = some b → i = j
  own : ∀ i, (∃ a, B i = some a) ↔ i ∈ O
  ownd : ∀ i a, B i = some a → ∃ d, δ[i]? = some (some d)
  zero : ∀ p, F.own0 = some p → B 0 = some p ∨ B 0 = none
  len : σ.length = δ.length
  slot : ∀ i d, δ[i]? = some (some d) → SlAt F B ρ H σ i d
def ErrAt (F : Fr) (ρ : List Addr) (H : Hp) (cls : Value) (dd : Option Addr) (e : Ex) : Prop :=
  ∃ C x vs, cls = .ref C ∧ F.ce e.c = some C ∧ dd = some x ∧ H x = some (.xd vs) ∧ RpF F.K F.ca ρ (hid (Zf F ρ) H) vs e.fs
/-- what comes of a run: never none; an error is wanted -/
def Ok1 {α : Type} (F : Fr) (r : Option (Except Ex α × Sto)) (P : α → Sto → Prop) : Prop := match r with
  | none => False
  | some (.error e, S') => ∀ cls dd H' ρ', End F ρ' H' S' → ErrAt F ρ' H' cls dd e → F.W cls dd H'
  | some (.ok a, S') => P a S'
theorem Ok1.bind {α β : Type} {F : Fr} {m : M α} {f : α → M β} {S : Sto} {P : β → Sto → Prop} (h : Ok1 F ((m >>= f) S) P) : Ok1 F (m S) (fun a S' => Ok1 F (f a S') P) := by
  unfold Ok1
  cases e : m S with
  | none => rw [M.bind_none e] at h; exact h
  | some p =>
    obtain ⟨r, S'⟩ := p
    cases r with
    | error x => rw [M.bind_err e] at h; exact h
    | ok a => rw [M.bind_ok e] at h; exact h
theorem Ok1.imp {α : Type} {F : Fr} {r : Option (Except Ex α × Sto)} {P Q : α → Sto → Prop} (h : Ok1 F r P) (w : ∀ a S, P a S → Q a S) : Ok1 F r Q := by
  unfold Ok1 at *
  split
  · exact h
  · exact h
  · exact w _ _ h
theorem Ok1.pure {α : Type} {F : Fr} {a : α} {S : Sto} {P : α → Sto → Prop} (h : Ok1 F ((pure a : M α) S) P) : P a S := h
theorem Ok1.opt {α : Type} {F : Fr} {o : Option α} {S : Sto} {P : α → Sto → Prop} (h : Ok1 F (M.opt o S) P) : ∃ a, o = some a ∧ P a S := by
  cases o with
  | none => exact h.elim
  | some a => exact ⟨a, rfl, h⟩
theorem Ok1.stuck {α : Type} {F : Fr} {S : Sto} {P : α → Sto → Prop} (h : Ok1 F ((M.stuck : M α) S) P) : False := h
section
variable {F : Fr} {O O' : List Nat} {B B' : Nat → Option Addr} {ρ ρ' : List Addr} {σ σ' : L2.St} {H H' : Hp} {δ δ' : DEnv} {S S' : Sto}
theorem Rel.end (r : Rel F O B ρ σ H δ S) : End F ρ H S := ⟨r.gr, r.sta.wk fun _ h => .inl h⟩
/-- the heap has grown, the things that change are as S' says -/
theorem Rel.step (r : Rel F O B ρ σ H δ S) (g : Gr ρ NoZ H ρ' H') (s : Sta F.K F.ca ρ' (fun b => F.Xs b ∨ Own B b) H' S') : Rel F O B ρ' σ H' δ S' := by
  refine ⟨r.gr.tr g, s, r.bnew, r.oxs, r.binj, r.own, r.ownd, r.zero, r.len, fun i d e => ?_⟩
  have z := r.slot i d e
  have sees : LamX.ExtN (hid (Zo F B ρ) H) (hid (Zo F B ρ') H') := g.sees (fun _ z => z.elim) fun b h => .inl h
  unfold SlAt at *
  cases eb : B i with
  | none =>
    rw [eb] at z
    obtain ⟨v, h1, h2⟩ := z
    exact ⟨v, h1, h2.mono g.at sees⟩
  | some a =>
    rw [eb] at z
    refine ⟨z.1, z.2.mono g.at sees fun o ht e => g.keep a o (fun hm => r.sta.xr a hm (.inr ⟨i, eb⟩)) (fun z => z) ht e⟩
theorem Sta.same {K : PySem.W.Frag} {ca : Str → Option Addr} {Xs : Addr → Prop} (s : Sta K ca ρ Xs H S) (e : Same H H') : Sta K ca ρ Xs H' S := by
  have g : Gr ρ NoZ H ρ H' := Gr.same e
  refine ⟨fun b h => g.alive b (s.live b h), s.nd, s.xr, SrL.mono (fun _ _ e => e) (g.sees (fun _ z => z.elim) fun b h => .inl h) (fun a _ o _ h => e a o h) s.sto⟩
/-- new objects alone -/
theorem Rel.same (r : Rel F O B ρ σ H δ S) (e : Same H H') : Rel F O B ρ σ H' δ S := r.step (Gr.same e) (r.sta.same e)
end
/-! ### the judgements -/
/-- what is known of a value: tr: it may be one of the def's own things; fz: it is none of these; nw: a new thing -/
inductive Md | tr | fz | nw
  deriving DecidableEq
def Res (F : Fr) (m : Md) (B : Nat → Option Addr) (ρ : List Addr) (H H' : Hp) (S : Sto) (v : V) (d : D) : Prop := match m with
  | .tr => Rp F.K F.ca ρ (hid (Zf F ρ) H') v d
  | .fz => Rp F.K F.ca ρ (hid (Zo F B ρ) H') v d
  | .nw => ∃ a, v = .ref a ∧ Nw H a ∧ a ∉ ρ ∧ Sta F.K F.ca ρ (fun b => (F.Xs b ∨ Own B b) ∨ b = a) H' S ∧ Top F.K F.ca ρ (hid (fun b => Zo F B ρ b ∨ b = a) H') H' a d
/-- a value as it comes in -/
def Rin (F : Fr) (m : Md) (B : Nat → Option Addr) (ρ : List Addr) (H : Hp) (v : V) (d : D) : Prop := match m with
  | .tr => Rp F.K F.ca ρ (hid (Zf F ρ) H) v d
  | _ => Rp F.K F.ca ρ (hid (Zo F B ρ) H) v d
def RinL (F : Fr) (m : Md) (B : Nat → Option Addr) (ρ : List Addr) (H : Hp) (v : List V) (d : List D) : Prop := match m with
  | .tr => RpL F.K F.ca ρ (hid (Zf F ρ) H) v d
  | _ => RpL F.K F.ca ρ (hid (Zo F B ρ) H) v d
def dE (F : Fr) (O : List Nat) (m : Md) (t : DEnv → M D) : TE := fun σ H Q => ∃ B ρ δ S, Rel F O B ρ σ H δ S ∧
  Ok1 F (t δ S) fun d S' => ∀ v H' ρ', Rel F O B ρ' σ H' δ S' → Gr ρ NoZ H ρ' H' → Res F m B ρ' H H' S' v d → Q v H'
def dA (F : Fr) (O : List Nat) (m : Md) (t : DEnv → M (List D)) : TA := fun σ H Q => ∃ B ρ δ S, Rel F O B ρ σ H δ S ∧
  Ok1 F (t δ S) fun d S' => ∀ v H' ρ', Rel F O B ρ' σ H' δ S' → Gr ρ NoZ H ρ' H' → RinL F m B ρ' H' v d → Q v H'
def dT (F : Fr) (O : List Nat) (t : DEnv → M Bool) : TT := fun σ H Q => ∃ B ρ δ S, Rel F O B ρ σ H δ S ∧
  Ok1 F (t δ S) fun b S' => ∀ H' ρ', Rel F O B ρ' σ H' δ S' → Gr ρ NoZ H ρ' H' → Q b H'
inductive Fl | nx | bk | ct | rt (d : D)
def dS (F : Fr) (O O' OL : List Nat) (t : DEnv → M (DEnv × Fl)) : TS := fun Dn σ H => ∃ B ρ δ S, Rel F O B ρ σ H δ S ∧
  Ok1 F (t δ S) fun p S' => match p.2 with
    | .nx => ∀ σ' H' B' ρ', Rel F O' B' ρ' σ' H' p.1 S' → Gr ρ (Own B) H ρ' H' → (∀ b, Own B' b → Own B b ∨ Nw H b) → Dn.nx σ' H'
    | .bk => ∀ σ' H' B' ρ', Rel F OL B' ρ' σ' H' p.1 S' → Gr ρ (Own B) H ρ' H' → (∀ b, Own B' b → Own B b ∨ Nw H b) → Dn.bk σ' H'
    | .ct => ∀ σ' H' B' ρ', Rel F OL B' ρ' σ' H' p.1 S' → Gr ρ (Own B) H ρ' H' → (∀ b, Own B' b → Own B b ∨ Nw H b) → Dn.ct σ' H'
    | .rt d => ∀ v H' ρ', End F ρ' H' S' → Rp F.K F.ca ρ' (hid (Zf F ρ') H') v d → Dn.rt v H'
/-- a target: the value comes in, the slots go out -/
def dG (F : Fr) (O O' : List Nat) (t : D → DEnv → M DEnv) : TG := fun v σ H R => ∃ B ρ δ S d, Rel F O B ρ σ H δ S ∧ Rin F .fz B ρ H v d ∧
  Ok1 F (t d δ S) fun δ' S' => ∀ σ' H' B' ρ', Rel F O' B' ρ' σ' H' δ' S' → Gr ρ (Own B) H ρ' H' → (∀ b, Own B' b → Own B b ∨ Nw H b) → R σ' H'
abbrev PED (X : Cx) (F : Fr) (O : List Nat) (m : Md) (e : Expr) (t : DEnv → M D) : Prop := PE X e (dE F O m t)
abbrev PAD (X : Cx) (F : Fr) (O : List Nat) (m : Md) (e : List Expr) (t : DEnv → M (List D)) : Prop := PA X e (dA F O m t)
abbrev PTD (X : Cx) (F : Fr) (O : List Nat) (e : Expr) (t : DEnv → M Bool) : Prop := PT X e (dT F O t)
abbrev PWD (X : Cx) (F : Fr) (O : List Nat) (e : Expr) (t : DEnv → M Bool) : Prop := PW X e (dT F O t)
abbrev PSD (X : Cx) (F : Fr) (O O' OL : List Nat) (s : Stmt) (t : DEnv → M (DEnv × Fl)) : Prop := PS X s (dS F O O' OL t)
abbrev PSsD (X : Cx) (F : Fr) (O O' OL : List Nat) (s : List Stmt) (t : DEnv → M (DEnv × Fl)) : Prop := PSs X s (dS F O O' OL t)
abbrev PGD (X : Cx) (F : Fr) (O O' : List Nat) (e : Expr) (t : D → DEnv → M DEnv) : Prop := PG X e (dG F O O' t)
section
variable {F : Fr} {O O' : List Nat} {B B' : Nat → Option Addr} {ρ ρ' : List Addr} {σ σ' : L2.St} {H H' H1 : Hp} {δ δ' : DEnv} {S S' : Sto} {v : V} {d : D}
theorem zf_zo {b : Addr} (h : Zf F ρ b) : Zo F B ρ b := h.imp .inl id
theorem seesZ (H : Hp) : LamX.ExtN (hid (Zo F B ρ) H) (hid (Zf F ρ) H) := fun b o e _ => by
  obtain ⟨n, e⟩ := hid_iff.mp e
  exact hid_iff.mpr ⟨fun z => n (zf_zo z), e⟩
theorem Rin.wk {m : Md} (h : Rin F m B ρ H v d) : Rin F .tr B ρ H v d := by
  cases m
  · exact h
  · exact Rp.mono (fun _ _ e => e) (seesZ H) h
  · exact Rp.mono (fun _ _ e => e) (seesZ H) h
theorem Gr.seesF (g : Gr ρ NoZ H ρ' H') : LamX.ExtN (hid (Zf F ρ) H) (hid (Zf F ρ') H') := g.sees (fun _ z => z.elim) fun b h => .inl h
theorem Gr.seesO (g : Gr ρ NoZ H ρ' H') : LamX.ExtN (hid (Zo F B ρ) H) (hid (Zo F B ρ') H') := g.sees (fun _ z => z.elim) fun b h => .inl h
theorem Rin.gr {m : Md} (h : Rin F m B ρ H v d) (g : Gr ρ NoZ H ρ' H') : Rin F m B ρ' H' v d := by
  cases m
  · exact Rp.mono g.at g.seesF h
  · exact Rp.mono g.at g.seesO h
  · exact Rp.mono g.at g.seesO h
theorem RinL.gr {m : Md} {v : List V} {d : List D} (h : RinL F m B ρ H v d) (g : Gr ρ NoZ H ρ' H') : RinL F m B ρ' H' v d := by
  cases m
  · exact RpL.mono g.at g.seesF h
  · exact RpL.mono g.at g.seesO h
  · exact RpL.mono g.at g.seesO h
theorem RinL.nil {m : Md} : RinL F m B ρ H [] [] := by cases m <;> exact RpL.nil
theorem RinL.cons {m : Md} {vs : List V} {ds : List D} (h : Rin F m B ρ H v d) (t : RinL F m B ρ H vs ds) : RinL F m B ρ H (v :: vs) (d :: ds) := by
  cases m <;> exact RpL.cons h t
theorem RinL.wk {m : Md} {vs : List V} {ds : List D} (h : RinL F m B ρ H vs ds) : RinL F .tr B ρ H vs ds := by
  cases m
  · exact h
  · exact RpL.mono (fun _ _ e => e) (seesZ H) h
  · exact RpL.mono (fun _ _ e => e) (seesZ H) h
theorem RinL.out {m : Md} {v : List V} {ds : List D} (h : RinL F m B ρ H v ds) : (∃ G, (∀ b o, G b = some o → H b = some o) ∧ RpL F.K F.ca ρ G v ds) := by
  cases m
  · exact ⟨_, fun b o e => (hid_iff.mp e).2, h⟩
  · exact ⟨_, fun b o e => (hid_iff.mp e).2, h⟩
  · exact ⟨_, fun b o e => (hid_iff.mp e).2, h⟩
/-- a result as something that comes in -/
theorem Res.rin {m : Md} (r : Rel F O B ρ σ H δ S) (h : Res F m B ρ' H H' S' v d) : Rin F m B ρ' H' v d := by
  cases m
  · exact h
  · exact h
  · obtain ⟨a, rfl, n, na, sz, t⟩ := h
    have no : ¬ Zo F B ρ' a := fun z => by
      rcases z with (z | z) | z
      · exact r.sta.live a (.inl (.inl z)) n
      · exact r.sta.live a (.inl (.inr z)) n
      · exact na z
    have see : LamX.ExtN (hid (fun b => Zo F B ρ' b ∨ b = a) H') (hid (Zo F B ρ') H') := fun b o e _ => by
      obtain ⟨n, e⟩ := hid_iff.mp e
      exact hid_iff.mpr ⟨fun z => n (.inl z), e⟩
    cases d <;> first | exact t.elim | skip
    · obtain ⟨vs, h1, h2⟩ := t
      exact .lst (hid_iff.mpr ⟨no, h1⟩) (RpL.mono (fun _ _ e => e) see h2)
    · obtain ⟨vs, h1, h2⟩ := t
      exact .dct (hid_iff.mpr ⟨no, h1⟩) (RpK.mono (fun _ _ e => e) see h2)
    · obtain ⟨C, dx, vs, h0, h1, h2⟩ := t
      exact .obj h0 (hid_iff.mpr ⟨no, h1⟩) (RpF.mono (fun _ _ e => e) see h2)
/-- a plain value -/
def scalD : D → Bool
  | .non => true | .bl _ => true | .int _ => true | .str _ => true | _ => false
def scV : D → V
  | .non => .non | .bl b => .bl b | .int i => .int i | .str x => .str x | _ => .non
theorem scV_rin {m : Md} (h : scalD d = true) : Rin F m B ρ H (scV d) d := by
  cases d <;> first | cases h | skip
  all_goals (cases m <;> constructor)
theorem scV_res {m : Md} (h : scalD d = true) (hm : m ≠ .nw) : Res F m B ρ H H' S (scV d) d := by
  cases m
  · exact scV_rin (m := .tr) (B := B) h
  · exact scV_rin (m := .fz) h
  · exact absurd rfl hm
end
section
variable {X : Cx} {F : Fr} {O O' O1 O2 OL : List Nat}
/-- a value of any kind may be taken for one of the def's own -/
theorem pd_wk {m : Md} {e : Expr} {t : DEnv → M D} (h : PED X F O m e t) : PED X F O .tr e t := pe_imp h fun σ H Q ⟨B, ρ, δ, S, r, q⟩ => ⟨B, ρ, δ, S, r, q.imp fun d S' k v H' ρ' r' g z => k v H' ρ' r' g (Rin.wk (m := m) (Res.rin r z))⟩
theorem pd_fz {e : Expr} {t : DEnv → M D} (h : PED X F O .nw e t) : PED X F O .fz e t := pe_imp h fun σ H Q ⟨B, ρ, δ, S, r, q⟩ => ⟨B, ρ, δ, S, r, q.imp fun d S' k v H' ρ' r' g z => k v H' ρ' r' g (Res.rin (m := .nw) r z)⟩
end
end Fg

set_option Elab.async false
set_option linter.all false
set_option maxRecDepth 100000
set_option maxHeartbeats 4000000
namespace Fg
open PySem PySem.Spec PyProof.Rows L2
variable [TQ]
section
variable {F : Fr} {O : List Nat} {B : Nat → Option Addr} {ρ : List Addr} {σ : L2.St} {H H' : Hp} {δ : DEnv} {S : Sto} {v : V} {d : D} {m : Md}
theorem Rin.rp (h : Rin F m B ρ H v d) : ∃ G, (∀ b o, G b = some o → H b = some o) ∧ Rp F.K F.ca ρ G v d := by
  cases m <;> exact ⟨_, fun b o e => (hid_iff.mp e).2, h⟩
theorem Rin.int {i : Int} (h : Rin F m B ρ H v (.int i)) : v = .int i := by obtain ⟨G, _, h⟩ := h.rp; cases h; rfl
theorem Rin.str {i : Str} (h : Rin F m B ρ H v (.str i)) : v = .str i := by obtain ⟨G, _, h⟩ := h.rp; cases h; rfl
theorem Rin.bl {i : Bool} (h : Rin F m B ρ H v (.bl i)) : v = .bl i := by obtain ⟨G, _, h⟩ := h.rp; cases h; rfl
theorem Rin.non (h : Rin F m B ρ H v .non) : v = .non := by obtain ⟨G, _, h⟩ := h.rp; cases h; rfl
theorem Rin.scal (hs : scalD d = true) (h : Rin F m B ρ H v d) : v = scV d := by
  cases d <;> first | cases hs | skip
  · exact h.non
  · exact h.bl
  · exact h.int
  · exact h.str
theorem Rin.lst {ds : List D} (h : Rin F m B ρ H v (.lst ds)) : ∃ a vs, v = .ref a ∧ H a = some (.lst vs) ∧ RinL F m B ρ H vs ds := by
  cases m <;> (cases h with | lst h p => exact ⟨_, _, rfl, (hid_iff.mp h).2, p⟩)
theorem Rin.tup {ds : List D} (h : Rin F m B ρ H v (.tup ds)) : ∃ a vs, v = .ref a ∧ SqT F.K H a vs ∧ RinL F m B ρ H vs ds := by
  cases m <;> (cases h with | tup h p => exact ⟨_, _, rfl, SqT.ext (fun b o e _ => (hid_iff.mp e).2) h, p⟩)
def RinK (F : Fr) (m : Md) (B : Nat → Option Addr) (ρ : List Addr) (H : Hp) (v : List (Key × V)) (d : List (Key × D)) : Prop := match m with
  | .tr => RpK F.K F.ca ρ (hid (Zf F ρ) H) v d
  | _ => RpK F.K F.ca ρ (hid (Zo F B ρ) H) v d
def RinF (F : Fr) (m : Md) (B : Nat → Option Addr) (ρ : List Addr) (H : Hp) (v : List (Str × V)) (d : List (Str × D)) : Prop := match m with
  | .tr => RpF F.K F.ca ρ (hid (Zf F ρ) H) v d
  | _ => RpF F.K F.ca ρ (hid (Zo F B ρ) H) v d
theorem Rin.dct {ds : List (Key × D)} (h : Rin F m B ρ H v (.dct ds)) : ∃ a vs, v = .ref a ∧ H a = some (.dK vs) ∧ RinK F m B ρ H vs ds := by
  cases m <;> (cases h with | dct h p => exact ⟨_, _, rfl, (hid_iff.mp h).2, p⟩)
theorem Rin.obj {c : Str} {ds : List (Str × D)} (h : Rin F m B ρ H v (.obj c ds)) : ∃ a C dx vs, v = .ref a ∧ F.ca c = some C ∧ H a = some (.ins C dx vs) ∧ RinF F m B ρ H vs ds := by
  cases m <;> (cases h with | obj e h p => exact ⟨_, _, _, _, rfl, e, (hid_iff.mp h).2, p⟩)
theorem Rin.mt {k : Nat} (h : Rin F m B ρ H v (.mt k)) : ∃ a, v = .ref a ∧ ρ[k]? = some a := by obtain ⟨G, _, h⟩ := h.rp; cases h with | mt h => exact ⟨_, rfl, h⟩
theorem RinL.len {vs : List V} {ds : List D} (h : RinL F m B ρ H vs ds) : vs.length = ds.length := by cases m <;> exact RpL.length h
theorem RinL.get {vs : List V} {ds : List D} {i : Nat} (h : RinL F m B ρ H vs ds) (e : ds[i]? = some d) : ∃ v, vs[i]? = some v ∧ Rin F m B ρ H v d := by cases m <;> exact RpL.get h e
theorem RinF.get {c : Str} : ∀ {vs : List (Str × V)} {ds : List (Str × D)}, RinF F m B ρ H vs ds → ds.lookup c = some d → ∃ v, vs.lookup c = some v ∧ Rin F m B ρ H v d := by
  have key : ∀ {G : Hp} {vs : List (Str × V)} {ds : List (Str × D)}, RpF F.K F.ca ρ G vs ds → ds.lookup c = some d → ∃ v, vs.lookup c = some v ∧ Rp F.K F.ca ρ G v d := by
    intro G vs ds h
    induction ds generalizing vs with
    | nil => intro e; cases e
    | cons p ds ih =>
      intro e
      cases h with
      | cons h t =>
        rename_i k v0 d0 vs0
        rw [List.lookup_cons] at e ⊢
        cases ek : (c == k) with
        | true => rw [ek] at e; cases e; exact ⟨_, rfl, h⟩
        | false => rw [ek] at e; exact ih t e
  intro vs ds h e
  cases m <;> exact key h e
/-- a plain result is there -/
theorem Ok1.scal {d : D} {Q : VK} (r : Rel F O B ρ σ H δ S) (hs : scalD d = true) (hm : m ≠ .nw) (h : ∀ v H' ρ', Rel F O B ρ' σ H' δ S → Gr ρ NoZ H ρ' H' → Res F m B ρ' H H' S v d → Q v H') : Q (scV d) H := h _ H ρ r (Gr.refl _ _ _) (scV_res hs hm)
end
/-! ### names and constants -/
def rd (i : Nat) : DEnv → M D := fun δ => M.opt δ[i]?.join
theorem rd_get {α : Type} {l : List (Option α)} {i : Nat} {d : α} (h : l[i]?.join = some d) : l[i]? = some (some d) := by
  cases e : l[i]? with
  | none => rw [e] at h; cases h
  | some x => rw [e] at h; rw [show x = some d from h]
section
variable {X : Cx} {F : Fr} {O O' OL : List Nat} {m mi : Md} {pos : Pos}
theorem pd_var (i : Nat) {x : Str} (hN : X.N[i]? = some x := by rfl) (ho : i ∉ O := by decide) (hv : Vis X.env.scope x := by first | exact Or.inl rfl | exact Or.inr (Or.inl rfl) | exact Or.inr (Or.inr rfl)) (hd : (x == ("__debug__" : Str)) = false := by decide)
    (hcd : (x == ("__classdict__" : Str)) = false := by decide) : PED X F O .fz (.Name x pos) (rd i) := pe_imp (fv i hN hv hd hcd) fun σ H Q ⟨B, ρ, δ, S, r, q⟩ => by
  unfold rd at q
  unfold tV
  obtain ⟨d, e, q⟩ := q.opt
  · have e := rd_get e
    have z := r.slot i d e
    unfold SlAt at z
    have eb : B i = none := by
      cases eb : B i with
      | none => rfl
      | some a => exact absurd ((r.own i).mp ⟨a, eb⟩) ho
    rw [eb] at z
    obtain ⟨v, h1, h2⟩ := z
    rw [h1]
    exact q v H ρ r (Gr.refl _ _ _) h2
theorem pd_varT (i : Nat) {x : Str} (hN : X.N[i]? = some x := by rfl) (hv : Vis X.env.scope x := by first | exact Or.inl rfl | exact Or.inr (Or.inl rfl) | exact Or.inr (Or.inr rfl)) (hd : (x == ("__debug__" : Str)) = false := by decide)
    (hcd : (x == ("__classdict__" : Str)) = false := by decide) : PED X F O .tr (.Name x pos) (rd i) := pe_imp (fv i hN hv hd hcd) fun σ H Q ⟨B, ρ, δ, S, r, q⟩ => by
  unfold rd at q
  unfold tV
  obtain ⟨d, e, q⟩ := q.opt
  · have e := rd_get e
    have z := r.slot i d e
    unfold SlAt at z
    cases eb : B i with
    | none =>
      rw [eb] at z
      obtain ⟨v, h1, h2⟩ := z
      rw [h1]
      exact q v H ρ r (Gr.refl _ _ _) (Rin.wk (m := .fz) (B := B) h2)
    | some a =>
      rw [eb] at z
      obtain ⟨h1, t⟩ := z
      rw [h1]
      have no : ¬ Zf F ρ a := fun z => by
        rcases z with z | z
        · exact r.oxs a ⟨i, eb⟩ z
        · exact r.sta.xr a z (.inr ⟨i, eb⟩)
      refine q _ H ρ r (Gr.refl _ _ _) ?_
      cases d <;> first | exact t.elim | skip
      · obtain ⟨vs, h1, h2⟩ := t
        exact .lst (hid_iff.mpr ⟨no, h1⟩) (RpL.mono (fun _ _ e => e) (seesZ H) h2)
      · obtain ⟨vs, h1, h2⟩ := t
        exact .dct (hid_iff.mpr ⟨no, h1⟩) (RpK.mono (fun _ _ e => e) (seesZ H) h2)
      · obtain ⟨C, dx, vs, h0, h1, h2⟩ := t
        exact .obj h0 (hid_iff.mpr ⟨no, h1⟩) (RpF.mono (fun _ _ e => e) (seesZ H) h2)
/-- a plain constant, from its rule -/
theorem pd_of {e : Expr} {d : D} (h : PE X e (tC (scV d))) (hs : scalD d = true) (hm : m ≠ .nw := by decide) : PED X F O m e (fun _ => pure d) := pe_imp h fun σ H Q ⟨B, ρ, δ, S, r, q⟩ => Ok1.scal r hs hm q
theorem pd_int {i j} (hm : m ≠ .nw := by decide) : PED X F O m (.Constant (.int i) j pos) (fun _ => pure (.int i)) := pd_of pe_int rfl hm
theorem pd_bl {i j} (hm : m ≠ .nw := by decide) : PED X F O m (.Constant (.bool i) j pos) (fun _ => pure (.bl i)) := pd_of pe_bl rfl hm
theorem pd_non {j} (hm : m ≠ .nw := by decide) : PED X F O m (.Constant .none j pos) (fun _ => pure .non) := pd_of pe_non rfl hm
theorem pd_str {i j} (hm : m ≠ .nw := by decide) : PED X F O m (.Constant (.str i) j pos) (fun _ => pure (.str i)) := pd_of pe_str rfl hm
/-- a plain constant of the module -/
theorem pd_g {x : Str} {d : D} (hg : Gl X x) (h : ∃ u, X.mg x = some u ∧ RelV (scV d) u) (hs : scalD d = true) (hm : m ≠ .nw := by decide) (hd : (x == ("__debug__" : Str)) = false := by decide) : PED X F O m (.Name x pos) (fun _ => pure d) := pd_of (fe_g hg h hd) hs hm
/-- a tuple of plain things of the module -/
theorem rpL_scal {K : PySem.W.Frag} {ca : Str → Option Addr} {ρ : List Addr} {G : Hp} : ∀ {ds : List D}, ds.all scalD = true → RpL K ca ρ G (ds.map scV) ds
  | [], _ => .nil
  | d :: ds, h => by
    rw [List.all_cons, Bool.and_eq_true] at h
    refine .cons ?_ (rpL_scal h.2)
    cases d <;> first | exact Rp.non | exact Rp.bl | exact Rp.int | exact Rp.str | exact absurd h.1 Bool.false_ne_true
theorem pd_gT {x : Str} {a : Addr} {ds : List D} (hg : Gl X x) (h : ∃ u, X.mg x = some u ∧ RelV (.ref a) u) (ht : ∀ H, SqT F.K H a (ds.map scV)) (hs : ds.all scalD = true) (hm : m ≠ .nw := by decide) (hd : (x == ("__debug__" : Str)) = false := by decide) :
    PED X F O m (.Name x pos) (fun _ => pure (.tup ds)) := pe_imp (fe_g hg h hd) fun σ H Q ⟨B, ρ, δ, S, r, q⟩ => by
  refine Ok1.pure q _ H ρ r (Gr.refl _ _ _) ?_
  cases m
  · exact .tup (ht _) (rpL_scal hs)
  · exact .tup (ht _) (rpL_scal hs)
  · exact absurd rfl hm
/-! ### operators -/
/-- an operator's reading is what f says -/
def OpD (F : Fr) (mi m : Md) (r : R2) (f : D → D → M D) : Prop := ∀ O B ρ σ δ H S x y d e Q, Rel F O B ρ σ H δ S → Rin F mi B ρ H x d → Rin F mi B ρ H y e →
  Ok1 F (f d e S) (fun d' S' => ∀ v H' ρ', Rel F O B ρ' σ H' δ S' → Gr ρ NoZ H ρ' H' → Res F m B ρ' H H' S' v d' → Q v H') → r x y H Q
theorem bin_imp {r : R2} {f : D → D → M D} {ta tb : DEnv → M D} (hf : OpD F mi m r f) (hi : mi ≠ .nw) {σ : L2.St} {H : Hp} {Q : VK} (q : dE F O m (fun δ => do let x ← ta δ; let y ← tb δ; f x y) σ H Q) : tOp r (dE F O mi ta) (dE F O mi tb) σ H Q := by
  obtain ⟨B, ρ, δ, S, r0, q⟩ := q
  refine ⟨B, ρ, δ, S, r0, q.bind.imp fun d1 S1 q1 v1 H1 ρ1 r1 g1 z1 => ?_⟩
  refine ⟨B, ρ1, δ, S1, r1, q1.bind.imp fun d2 S2 q2 v2 H2 ρ2 r2 g2 z2 => ?_⟩
  refine hf O B ρ2 σ δ H2 S2 v1 v2 d1 d2 Q r2 ((Res.rin r0 z1).gr g2) (Res.rin r1 z2) (q2.imp fun d3 S3 k v H3 ρ3 r3 g3 z3 => k v H3 ρ3 r3 ((g1.tr g2).tr g3) ?_)
  cases m
  · exact z3
  · exact z3
  · obtain ⟨a, e, n, na, sz, t⟩ := z3
    refine ⟨a, e, Classical.byContradiction fun z => (g1.tr g2).alive a z n, na, sz, t⟩
variable {a b c : Expr} {ta tb tc : DEnv → M D}
theorem pd_op {op : Operator} {r : R2} {f : D → D → M D} (ho : OpR X (binaryOp op) r) (hf : OpD F mi m r f) (ha : PED X F O mi a ta) (hb : PED X F O mi b tb) (hi : mi ≠ .nw := by decide) : PED X F O m (.BinOp a op b pos) (fun δ => do let x ← ta δ; let y ← tb δ; f x y) :=
  pe_imp (pe_op ho ha hb) fun σ H Q q => bin_imp hf hi q
theorem pd_cmp {op : CmpOp} {r : R2} {f : D → D → M D} (ho : OpR X (compareOp op) r) (hf : OpD F mi m r f) (ha : PED X F O mi a ta) (hb : PED X F O mi b tb) (hm : behindInMarks op b = false) (hi : mi ≠ .nw := by decide) : PED X F O m (.Compare a [op] [b] pos) (fun δ => do let x ← ta δ; let y ← tb δ; f x y) :=
  pe_imp (pe_cmpR ho ha hb hm) fun σ H Q q => bin_imp hf hi q
/-- a plain result of two plain things -/
theorem OpD.scal {r : R2} {g : D → D → Option D} (hm : m ≠ .nw) (h : ∀ x y d H Q, scalD x = true → scalD y = true → g x y = some d → scalD d = true ∧ (Q (scV d) H → r (scV x) (scV y) H Q)) (hg : ∀ x y d, g x y = some d → scalD x = true ∧ scalD y = true) :
    OpD F mi m r (fun x y => M.opt (g x y)) := by
  intro O B ρ σ δ H S x y d e Q r0 hx hy q
  obtain ⟨z, eg, q⟩ := q.opt
  · obtain ⟨s1, s2⟩ := hg _ _ _ eg
    obtain ⟨s3, k⟩ := h d e z H Q s1 s2 eg
    rw [hx.scal s1, hy.scal s2]
    exact k (Ok1.scal r0 s3 hm q)
end
end Fg

set_option Elab.async false
set_option linter.all false
set_option maxRecDepth 100000
set_option maxHeartbeats 4000000
namespace Fg
open PySem PySem.Spec PyProof.Rows L2
variable [TQ]
/-! ### tests -/
def tbD : D → M Bool
  | .bl b => pure b
  | _ => M.stuck
@[simp] theorem tbD_bl (b : Bool) : tbD (.bl b) = pure b := rfl
def notM (t : DEnv → M Bool) : DEnv → M Bool := fun δ => do let b ← t δ; pure (!b)
def andM (t u : DEnv → M Bool) : DEnv → M Bool := fun δ => do let b ← t δ; if b = true then u δ else pure false
def orM (t u : DEnv → M Bool) : DEnv → M Bool := fun δ => do let b ← t δ; if b = true then pure true else u δ
def andE (t u : DEnv → M D) : DEnv → M D := fun δ => do let x ← t δ; let b ← tbD x; if b = true then u δ else pure (.bl false)
def orE (t u : DEnv → M D) : DEnv → M D := fun δ => do let x ← t δ; let b ← tbD x; if b = true then pure (.bl true) else u δ
def ifE (t : DEnv → M Bool) (u v : DEnv → M D) : DEnv → M D := fun δ => do let b ← t δ; if b = true then u δ else v δ
def teE (t : DEnv → M Bool) : DEnv → M D := fun δ => do let b ← t δ; pure (.bl b)
def tvM (t : DEnv → M D) : DEnv → M Bool := fun δ => do let x ← t δ; tbD x
section
variable {F : Fr} {O : List Nat} {B : Nat → Option Addr} {ρ : List Addr} {σ : L2.St} {H H' : Hp} {δ : DEnv} {S : Sto} {v : V} {d : D} {m : Md}
theorem Ok1.tb {x : D} {P : Bool → Sto → Prop} (h : Ok1 F (tbD x S) P) : ∃ b, x = .bl b ∧ P b S := by
  cases x <;> first | exact h.elim | exact ⟨_, rfl, h⟩
end
section
variable {X : Cx} {F : Fr} {O O' O1 O2 OL : List Nat} {m mi : Md} {pos : Pos} {a b c e : Expr} {rest : List Expr}
theorem pd_tval {t : DEnv → M D} (h : PED X F O .tr e t) (he : ∀ whole, isTrue e X.env whole = (do let v ← whole; standAt e.pos; holding [v] (truthy v)) := by intro _; rfl) : PTD X F O e (tvM t) := pt_imp (ft_val h he) fun σ H Q ⟨B, ρ, δ, S, r, q⟩ =>
  ⟨B, ρ, δ, S, r, q.bind.imp fun d S' k v H' ρ' r' g z => by
    obtain ⟨b, rfl, k⟩ := k.tb
    obtain rfl := Rin.bl (m := .tr) (B := B) z
    exact k H' ρ' r' g⟩
theorem pd_tcmp {op : CmpOp} {r : R2} {f : D → D → M D} {ta tb : DEnv → M D} (ho : OpR X (compareOp op) r) (hf : OpD F .tr .tr r f) (ha : PED X F O .tr a ta) (hb : PED X F O .tr b tb) (hm : behindInMarks op b = false) : PTD X F O (.Compare a [op] [b] pos) (tvM fun δ => do let x ← ta δ; let y ← tb δ; f x y) :=
  pt_imp (ft_cmp ho ha hb hm) fun σ H Q ⟨B, ρ, δ, S, r0, q⟩ => bin_imp (m := .tr) hf (by decide) ⟨B, ρ, δ, S, r0, q.bind.imp fun d S' k v H' ρ' r' g z => by
    obtain ⟨b, rfl, k⟩ := k.tb
    obtain rfl := Rin.bl (m := .tr) (B := B) z
    exact k H' ρ' r' g⟩
theorem pd_tnot {t : DEnv → M Bool} (h : PTD X F O e t) : PTD X F O (.UnaryOp .Not e pos) (notM t) := pt_imp (pt_not h) fun σ H Q ⟨B, ρ, δ, S, r, q⟩ => ⟨B, ρ, δ, S, r, q.bind.imp fun b S' k H' ρ' r' g => k H' ρ' r' g⟩
theorem pw_imp {e : Expr} {t t' : TT} (h : PW X e t) (w : ∀ σ H Q, t' σ H Q → t σ H Q) : PW X e t' := ⟨fun wh pins s σ H Q I q => h.run wh pins s σ H Q I (w σ H Q q)⟩
theorem pd_and1 {t : DEnv → M Bool} (h : PTD X F O a t) : PWD X F O (.BoolOp .And [a] pos) t := pw_and1 h
theorem pd_or1 {t : DEnv → M Bool} (h : PTD X F O a t) : PWD X F O (.BoolOp .Or [a] pos) t := pw_or1 h
theorem pd_and {t u : DEnv → M Bool} (h : PTD X F O a t) (k : PWD X F O (.BoolOp .And (b :: rest) pos) u) : PWD X F O (.BoolOp .And (a :: b :: rest) pos) (andM t u) := pw_imp (pw_and h k) fun σ H Q ⟨B, ρ, δ, S, r, q⟩ =>
  ⟨B, ρ, δ, S, r, q.bind.imp fun c S' k H' ρ' r' g => by
    cases c with
    | true => exact ⟨B, ρ', δ, S', r', (k : Ok1 F (u δ S') _).imp fun c S2 k H2 ρ2 r2 g2 => k H2 ρ2 r2 (g.tr g2)⟩
    | false => exact k H' ρ' r' g⟩
theorem pd_or {t u : DEnv → M Bool} (h : PTD X F O a t) (k : PWD X F O (.BoolOp .Or (b :: rest) pos) u) : PWD X F O (.BoolOp .Or (a :: b :: rest) pos) (orM t u) := pw_imp (pw_or h k) fun σ H Q ⟨B, ρ, δ, S, r, q⟩ =>
  ⟨B, ρ, δ, S, r, q.bind.imp fun c S' k H' ρ' r' g => by
    cases c with
    | true => exact k H' ρ' r' g
    | false => exact ⟨B, ρ', δ, S', r', (k : Ok1 F (u δ S') _).imp fun c S2 k H2 ρ2 r2 g2 => k H2 ρ2 r2 (g.tr g2)⟩⟩
theorem Res.gr {B : Nat → Option Addr} {ρ ρ' : List Addr} {H H1 H' : Hp} {S' : Sto} {v : V} {d : D} (g : Gr ρ NoZ H ρ' H1) (z : Res F m B ρ' H1 H' S' v d) : Res F m B ρ' H H' S' v d := by
  cases m
  · exact z
  · exact z
  · obtain ⟨a, e, n, na, sz, t⟩ := z
    exact ⟨a, e, Classical.byContradiction fun z => g.alive a z n, na, sz, t⟩
theorem Res.gr2 {B : Nat → Option Addr} {ρ ρ1 ρ' : List Addr} {H H1 H' : Hp} {S' : Sto} {v : V} {d : D} (g : Gr ρ NoZ H ρ1 H1) (z : Res F m B ρ' H1 H' S' v d) : Res F m B ρ' H H' S' v d := by
  cases m
  · exact z
  · exact z
  · obtain ⟨a, e, n, na, sz, t⟩ := z
    exact ⟨a, e, Classical.byContradiction fun z => g.alive a z n, na, sz, t⟩
/-- what follows is run from a later point -/
theorem dE_from {t : DEnv → M D} {σ : L2.St} {B : Nat → Option Addr} {ρ ρ' : List Addr} {δ : DEnv} {S' : Sto} {H H' : Hp} {Q : VK} (r' : Rel F O B ρ' σ H' δ S') (g : Gr ρ NoZ H ρ' H')
    (k : Ok1 F (t δ S') fun d S2 => ∀ v H2 ρ2, Rel F O B ρ2 σ H2 δ S2 → Gr ρ NoZ H ρ2 H2 → Res F m B ρ2 H H2 S2 v d → Q v H2) : dE F O m t σ H' Q :=
  ⟨B, ρ', δ, S', r', k.imp fun d S2 k v H2 ρ2 r2 g2 z => k v H2 ρ2 r2 (g.tr g2) (Res.gr2 g z)⟩
theorem pd_eone {op} {t : DEnv → M D} (h : PED X F O m a t) : PED X F O m (.BoolOp op [a] pos) t := pe_one h
theorem pd_eand {t u : DEnv → M D} (h : PED X F O .tr a t) (k : PED X F O m (.BoolOp .And (b :: rest) pos) u) (hm : m ≠ .nw := by decide) : PED X F O m (.BoolOp .And (a :: b :: rest) pos) (andE t u) := pe_imp (pe_and h k) fun σ H Q ⟨B, ρ, δ, S, r, q⟩ =>
  ⟨B, ρ, δ, S, r, q.bind.imp fun c S' k v H' ρ' r' g z => by
    obtain ⟨b, rfl, k⟩ := k.bind.tb
    obtain rfl := Rin.bl (m := .tr) (B := B) z
    refine ⟨b, rfl, ?_⟩
    cases b with
    | true => exact dE_from r' g k
    | false => exact k _ H' ρ' r' g (scV_res (d := .bl false) rfl hm)⟩
theorem pd_eor {t u : DEnv → M D} (h : PED X F O .tr a t) (k : PED X F O m (.BoolOp .Or (b :: rest) pos) u) (hm : m ≠ .nw := by decide) : PED X F O m (.BoolOp .Or (a :: b :: rest) pos) (orE t u) := pe_imp (pe_or h k) fun σ H Q ⟨B, ρ, δ, S, r, q⟩ =>
  ⟨B, ρ, δ, S, r, q.bind.imp fun c S' k v H' ρ' r' g z => by
    obtain ⟨b, rfl, k⟩ := k.bind.tb
    obtain rfl := Rin.bl (m := .tr) (B := B) z
    refine ⟨b, rfl, ?_⟩
    cases b with
    | true => exact k _ H' ρ' r' g (scV_res (d := .bl true) rfl hm)
    | false => exact dE_from r' g k⟩
theorem pd_if {t : DEnv → M Bool} {u w : DEnv → M D} (h : PTD X F O c t) (ha : PED X F O m a u) (hb : PED X F O m b w) : PED X F O m (.IfExp c a b pos) (ifE t u w) := pe_imp (pe_ifExp h ha hb) fun σ H Q ⟨B, ρ, δ, S, r, q⟩ =>
  ⟨B, ρ, δ, S, r, q.bind.imp fun c S' k H' ρ' r' g => by
    cases c with
    | true => exact dE_from (t := u) r' g k
    | false => exact dE_from (t := w) r' g k⟩
def notE (t : DEnv → M D) : DEnv → M D := fun δ => do let x ← t δ; let b ← tbD x; pure (.bl !b)
/-- not x, as a value -/
theorem pd_enot {t : DEnv → M D} (h : PED X F O .tr e t) (hm : m ≠ .nw := by decide) : PED X F O m (.UnaryOp .Not e pos) (notE t) := pe_imp (pe_not h) fun σ H Q ⟨B, ρ, δ, S, r, q⟩ => ⟨B, ρ, δ, S, r, q.bind.imp fun d S' k v H' ρ' r' g z => by
    obtain ⟨b, rfl, k⟩ := k.bind.tb
    obtain rfl := Rin.bl (m := .tr) (B := B) z
    exact ⟨b, rfl, k _ H' ρ' r' g (scV_res (d := .bl !b) rfl hm)⟩⟩
/-! ### arguments -/
def consM (t : DEnv → M D) (u : DEnv → M (List D)) : DEnv → M (List D) := fun δ => do let x ← t δ; let r ← u δ; pure (x :: r)
def nilM : DEnv → M (List D) := fun _ => pure []
theorem pa_imp2 {es : List Expr} {t t' : TA} (h : PA X es t) (w : ∀ σ H Q, t' σ H Q → t σ H Q) : PA X es t' := pa_imp h w
theorem pad_nil : PAD X F O m [] nilM := pa_imp2 pa_nil fun σ H Q ⟨B, ρ, δ, S, r, q⟩ => q [] H ρ r (Gr.refl _ _ _) RinL.nil
theorem pad_cons {t : DEnv → M D} {u : DEnv → M (List D)} (h : PED X F O m e t) (k : PAD X F O m rest u) (hs : starEach (e :: rest) X.env = (false, eval e X.env) :: starEach rest X.env := by rfl) : PAD X F O m (e :: rest) (consM t u) :=
  pa_imp2 (pa_cons h k hs) fun σ H Q ⟨B, ρ, δ, S, r, q⟩ => ⟨B, ρ, δ, S, r, q.bind.imp fun d S' k v H' ρ' r' g z => ⟨B, ρ', δ, S', r', k.bind.imp fun ds S2 k vs H2 ρ2 r2 g2 z2 =>
    k (v :: vs) H2 ρ2 r2 (g.tr g2) (RinL.cons ((Res.rin r z).gr g2) z2)⟩⟩
/-! ### statements -/
def seqS (t u : DEnv → M (DEnv × Fl)) : DEnv → M (DEnv × Fl) := fun δ => do
  let p ← t δ
  match p.2 with
  | .nx => u p.1
  | _ => pure p
def skipS : DEnv → M (DEnv × Fl) := fun δ => pure (δ, .nx)
def brkS : DEnv → M (DEnv × Fl) := fun δ => pure (δ, .bk)
def ctS : DEnv → M (DEnv × Fl) := fun δ => pure (δ, .ct)
def retS (t : DEnv → M D) : DEnv → M (DEnv × Fl) := fun δ => do let d ← t δ; pure (δ, .rt d)
def dropS (t : DEnv → M D) : DEnv → M (DEnv × Fl) := fun δ => do let _ ← t δ; pure (δ, .nx)
def ifS (t : DEnv → M Bool) (u w : DEnv → M (DEnv × Fl)) : DEnv → M (DEnv × Fl) := fun δ => do let b ← t δ; if b = true then u δ else w δ
def setS (i : Nat) (t : DEnv → M D) : DEnv → M (DEnv × Fl) := fun δ => do let d ← t δ; pure (δ.set i (some d), .nx)
theorem pss_imp {st : List Stmt} {t t' : TS} (h : PSs X st t) (w : ∀ D σ H, t' D σ H → t D σ H) : PSs X st t' := ⟨fun pins s σ H D I q => h.run pins s σ H D I (w D σ H q)⟩
section
variable {B B' : Nat → Option Addr} {ρ ρ' : List Addr} {σ : L2.St} {H H' : Hp} {δ : DEnv} {S : Sto}
/-- some of the def's own things are its own no longer -/
theorem Rel.drop (r : Rel F O B ρ σ H δ S) (ho : ∀ i, i ∈ O' → i ∈ O) : ∃ B', Rel F O' B' ρ σ H δ S ∧ ∀ b, Own B' b → Own B b := by
  classical
  refine ⟨fun i => if i ∈ O' then B i else none, ?_⟩
  have sub : ∀ b, Own (fun i => if i ∈ O' then B i else none) b → Own B b := fun b ⟨i, e⟩ => ⟨i, by
    dsimp only at e
    split at e
    · exact e
    · cases e⟩
  have see : LamX.ExtN (hid (Zo F B ρ) H) (hid (Zo F (fun i => if i ∈ O' then B i else none) ρ) H) := fun b o e _ => by
    obtain ⟨n, e⟩ := hid_iff.mp e
    exact hid_iff.mpr ⟨fun z => n (z.imp (Or.imp id (sub b)) id), e⟩
  refine ⟨⟨r.gr, r.sta.wk fun b h => h.imp id (sub b), fun b h => r.bnew b (sub b h), fun b h => r.oxs b (sub b h), fun i j b h1 h2 => ?_, fun i => ⟨fun ⟨a, e⟩ => ?_, fun h => ?_⟩, fun i a e => ?_, fun p hp => ?_, r.len, fun i d e => ?_⟩, sub⟩
  · have h1 : (if i ∈ O' then B i else none) = some b := h1
    have h2 : (if j ∈ O' then B j else none) = some b := h2
    split at h1
    · split at h2
      · exact r.binj i j b h1 h2
      · cases h2
    · cases h1
  · have e : (if i ∈ O' then B i else none) = some a := e
    split at e
    · assumption
    · cases e
  · obtain ⟨a, e⟩ := (r.own i).mpr (ho i h)
    exact ⟨a, by rw [if_pos h]; exact e⟩
  · have e : (if i ∈ O' then B i else none) = some a := e
    split at e
    · exact r.ownd i a e
    · cases e
  · show (if 0 ∈ O' then B 0 else none) = some p ∨ (if 0 ∈ O' then B 0 else none) = none
    split
    · exact r.zero p hp
    · exact .inr rfl
  · have z := r.slot i d e
    unfold SlAt at z ⊢
    dsimp only
    by_cases hi : i ∈ O'
    · rw [if_pos hi]
      cases eb : B i with
      | none =>
        rw [eb] at z
        obtain ⟨v, h1, h2⟩ := z
        exact ⟨v, h1, h2.mono (fun _ _ e => e) see⟩
      | some a =>
        rw [eb] at z
        exact ⟨z.1, z.2.mono (fun _ _ e => e) see fun _ _ e => e⟩
    · rw [if_neg hi]
      cases eb : B i with
      | none =>
        rw [eb] at z
        obtain ⟨v, h1, h2⟩ := z
        exact ⟨v, h1, h2.mono (fun _ _ e => e) see⟩
      | some a =>
        rw [eb] at z
        obtain ⟨h1, t⟩ := z
        have no : ¬ Zo F (fun i => if i ∈ O' then B i else none) ρ a := fun z => by
          rcases z with (z | ⟨j, ej⟩) | z
          · exact r.oxs a ⟨i, eb⟩ z
          · dsimp only at ej
            split at ej
            · rename_i hj
              exact hi (r.binj i j a eb ej ▸ hj)
            · cases ej
          · exact r.sta.xr a z (.inr ⟨i, eb⟩)
        refine ⟨_, h1, ?_⟩
        cases d <;> first | exact t.elim | skip
        · obtain ⟨vs, h1, h2⟩ := t
          exact .lst (hid_iff.mpr ⟨no, h1⟩) (RpL.mono (fun _ _ e => e) see h2)
        · obtain ⟨vs, h1, h2⟩ := t
          exact .dct (hid_iff.mpr ⟨no, h1⟩) (RpK.mono (fun _ _ e => e) see h2)
        · obtain ⟨C, dx, vs, h0, h1, h2⟩ := t
          exact .obj h0 (hid_iff.mpr ⟨no, h1⟩) (RpF.mono (fun _ _ e => e) see h2)
end
theorem pssd_nil (ho : ∀ i, i ∈ O' → i ∈ O := by decide) : PSsD X F O O' OL [] skipS := pss_imp pss_nil fun Dn σ H ⟨B, ρ, δ, S, r, q⟩ => by
  obtain ⟨B', r', sub⟩ := r.drop ho
  exact q σ H B' ρ r' (Gr.refl _ _ _) fun b h => .inl (sub b h)
theorem psd_drop {st : Stmt} {t : DEnv → M (DEnv × Fl)} (h : PSD X F O1 O' OL st t) (ho : ∀ i, i ∈ O1 → i ∈ O := by decide) : PSD X F O O' OL st t := ps_imp h fun Dn σ H ⟨B, ρ, δ, S, r, q⟩ => by
  obtain ⟨B1, r1, sub⟩ := r.drop ho
  refine ⟨B1, ρ, δ, S, r1, q.imp fun p S' k => ?_⟩
  have gz : ∀ {ρ' H'}, Gr ρ (Own B1) H ρ' H' → Gr ρ (Own B) H ρ' H' := fun g => ⟨g.ext, fun b o h1 h2 h3 h4 => g.keep b o h1 (fun z => h2 (sub b z)) h3 h4, g.alive, g.tabs⟩
  obtain ⟨δ', f⟩ := p
  cases f with
  | nx => exact fun σ' H' B' ρ' r' g n => k σ' H' B' ρ' r' (gz g) fun b h => (n b h).imp (sub b) id
  | bk => exact fun σ' H' B' ρ' r' g n => k σ' H' B' ρ' r' (gz g) fun b h => (n b h).imp (sub b) id
  | ct => exact fun σ' H' B' ρ' r' g n => k σ' H' B' ρ' r' (gz g) fun b h => (n b h).imp (sub b) id
  | rt d => exact k
/-- what stands behind a statement, told from an earlier point -/
theorem dS_from {t : DEnv → M (DEnv × Fl)} {σ1 : L2.St} {B B1 : Nat → Option Addr} {ρ ρ1 : List Addr} {δ1 : DEnv} {S1 : Sto} {H H1 : Hp} {Dn : Ends} (r1 : Rel F O1 B1 ρ1 σ1 H1 δ1 S1) (g : Gr ρ (Own B) H ρ1 H1) (n : ∀ b, Own B1 b → Own B b ∨ Nw H b)
    (k : Ok1 F (t δ1 S1) fun p S' => match p.2 with
      | .nx => ∀ σ' H' B' ρ', Rel F O' B' ρ' σ' H' p.1 S' → Gr ρ (Own B) H ρ' H' → (∀ b, Own B' b → Own B b ∨ Nw H b) → Dn.nx σ' H'
      | .bk => ∀ σ' H' B' ρ', Rel F OL B' ρ' σ' H' p.1 S' → Gr ρ (Own B) H ρ' H' → (∀ b, Own B' b → Own B b ∨ Nw H b) → Dn.bk σ' H'
      | .ct => ∀ σ' H' B' ρ', Rel F OL B' ρ' σ' H' p.1 S' → Gr ρ (Own B) H ρ' H' → (∀ b, Own B' b → Own B b ∨ Nw H b) → Dn.ct σ' H'
      | .rt d => ∀ v H' ρ', End F ρ' H' S' → Rp F.K F.ca ρ' (hid (Zf F ρ') H') v d → Dn.rt v H') : dS F O1 O' OL t Dn σ1 H1 := by
  refine ⟨B1, ρ1, δ1, S1, r1, k.imp fun p S' k => ?_⟩
  have nn : ∀ {B' : Nat → Option Addr}, (∀ b, Own B' b → Own B1 b ∨ Nw H1 b) → ∀ b, Own B' b → Own B b ∨ Nw H b := fun h b hb => by
    rcases h b hb with z | z
    · exact n b z
    · exact .inr (Classical.byContradiction fun y => g.alive b y z)
  obtain ⟨δ', f⟩ := p
  cases f with
  | nx => exact fun σ' H' B' ρ' r' g2 n2 => k σ' H' B' ρ' r' (g.trans g2 n) (nn n2)
  | bk => exact fun σ' H' B' ρ' r' g2 n2 => k σ' H' B' ρ' r' (g.trans g2 n) (nn n2)
  | ct => exact fun σ' H' B' ρ' r' g2 n2 => k σ' H' B' ρ' r' (g.trans g2 n) (nn n2)
  | rt d => exact k
theorem pssd_cons {st : Stmt} {r : List Stmt} {t u : DEnv → M (DEnv × Fl)} (h : PSD X F O O1 OL st t) (k : PSsD X F O1 O' OL r u) : PSsD X F O O' OL (st :: r) (seqS t u) := pss_imp (pss_cons h k) fun Dn σ H ⟨B, ρ, δ, S, r, q⟩ =>
  ⟨B, ρ, δ, S, r, q.bind.imp fun p S' k => by
    obtain ⟨δ', f⟩ := p
    cases f with
    | nx => exact fun σ' H' B' ρ' r' g n => dS_from r' g n k
    | bk => exact k
    | ct => exact k
    | rt d => exact k⟩
theorem psd_if {t : DEnv → M Bool} {p q : List Stmt} {u w : DEnv → M (DEnv × Fl)} (h : PTD X F O c t) (ha : PSsD X F O O' OL p u) (hb : PSsD X F O O' OL q w) : PSD X F O O' OL (.If c p q pos) (ifS t u w) := ps_imp (ps_if h ha hb) fun Dn σ H ⟨B, ρ, δ, S, r, q⟩ =>
  ⟨B, ρ, δ, S, r, q.bind.imp fun c S' k H' ρ' r' g => by
    cases c with
    | true => exact dS_from (t := u) r' g.wk (fun b h => .inl h) k
    | false => exact dS_from (t := w) r' g.wk (fun b h => .inl h) k⟩
theorem psd_pass : PSD X F O O OL (.Pass pos) skipS := ps_imp ps_pass fun Dn σ H ⟨B, ρ, δ, S, r, q⟩ => q σ H B ρ r (Gr.refl _ _ _) fun b h => .inl h
theorem psd_brk (ho : ∀ i, i ∈ OL → i ∈ O := by decide) : PSD X F O O' OL (.Break pos) brkS := ps_imp ps_break fun Dn σ H ⟨B, ρ, δ, S, r, q⟩ => by
  obtain ⟨B', r', sub⟩ := r.drop ho
  exact q σ H B' ρ r' (Gr.refl _ _ _) fun b h => .inl (sub b h)
theorem psd_ct (ho : ∀ i, i ∈ OL → i ∈ O := by decide) : PSD X F O O' OL (.Continue pos) ctS := ps_imp ps_continue fun Dn σ H ⟨B, ρ, δ, S, r, q⟩ => by
  obtain ⟨B', r', sub⟩ := r.drop ho
  exact q σ H B' ρ r' (Gr.refl _ _ _) fun b h => .inl (sub b h)
theorem psd_ret {t : DEnv → M D} (h : PED X F O .tr e t) : PSD X F O O' OL (.Return (some e) pos) (retS t) := ps_imp (ps_ret h) fun Dn σ H ⟨B, ρ, δ, S, r, q⟩ =>
  ⟨B, ρ, δ, S, r, q.bind.imp fun d S' k v H' ρ' r' g z => k v H' ρ' r'.end z⟩
theorem psd_retN : PSD X F O O' OL (.Return none pos) (retS fun _ => pure .non) := ps_imp ps_retN fun Dn σ H ⟨B, ρ, δ, S, r, q⟩ => q .non H ρ r.end .non
theorem psd_expr {t : DEnv → M D} (h : PED X F O .tr e t) (hs : swapsWith e none pos.line X.env = pure false := by rfl) : PSD X F O O OL (.Expr e pos) (dropS t) := ps_imp (ps_expr h hs) fun Dn σ H ⟨B, ρ, δ, S, r, q⟩ =>
  ⟨B, ρ, δ, S, r, q.bind.imp fun d S' k v H' ρ' r' g z => k σ H' B ρ' r' g.wk fun b h => .inl h⟩
end
end Fg

set_option Elab.async false
set_option linter.all false
set_option maxRecDepth 100000
set_option maxHeartbeats 4000000
namespace Fg
open PySem PySem.Spec PyProof.Rows L2
variable [TQ]
/-! ### stores -/
section
variable {F : Fr} {O O' : List Nat} {B B' : Nat → Option Addr} {ρ ρ' : List Addr} {σ : L2.St} {H H' H1 : Hp} {δ : DEnv} {S S' : Sto} {v : V} {d : D} {i : Nat}
theorem Rel.notO (r : Rel F O B ρ σ H δ S) (hi : i ∉ O) : B i = none := by
  cases eb : B i with
  | none => rfl
  | some a => exact absurd ((r.own i).mp ⟨a, eb⟩) hi
theorem Rel.set (r : Rel F O B ρ σ H δ S) (hi : i ∉ O) (h : Rin F .fz B ρ H v d) : Rel F O B ρ (σ.set i (some v)) H (δ.set i (some d)) S := by
  have bi := r.notO hi
  refine ⟨r.gr, r.sta, r.bnew, r.oxs, r.binj, r.own, fun j a e => ?_, r.zero, by rw [List.length_set, List.length_set]; exact r.len, fun j x e => ?_⟩
  · obtain ⟨x, hx⟩ := r.ownd j a e
    have ne : i ≠ j := fun z => by subst z; rw [bi] at e; cases e
    exact ⟨x, by rw [List.getElem?_set_ne ne]; exact hx⟩
  · by_cases z : i = j
    · subst z
      unfold SlAt
      rw [bi]
      have li : i < δ.length := by
        rcases Nat.lt_or_ge i δ.length with h | h
        · exact h
        · rw [List.getElem?_eq_none (by rw [List.length_set]; exact h)] at e; cases e
      rw [List.getElem?_set_self li] at e
      cases e
      exact ⟨v, List.getElem?_set_self (by rw [r.len]; exact li), h⟩
    · rw [List.getElem?_set_ne z] at e
      have q := r.slot j x e
      unfold SlAt at q ⊢
      cases eb : B j with
      | none =>
        rw [eb] at q
        obtain ⟨v, h1, h2⟩ := q
        exact ⟨v, by rw [List.getElem?_set_ne z]; exact h1, h2⟩
      | some a =>
        rw [eb] at q
        exact ⟨by rw [List.getElem?_set_ne z]; exact q.1, q.2⟩
/-- a new thing becomes the def's own -/
theorem Rel.new {m : Md} (r : Rel F O B ρ σ H δ S) (r' : Rel F O B ρ' σ H' δ S') (g : Gr ρ NoZ H ρ' H') (hi : i ∉ O) (hz0 : i ≠ 0 ∨ F.own0 = none) (hl : i < δ.length) (h : Res F .nw B ρ' H H' S' v d) :
    ∃ B', Rel F (i :: O) B' ρ' (σ.set i (some v)) H' (δ.set i (some d)) S' ∧ ∀ b, Own B' b → Own B b ∨ Nw H b := by
  obtain ⟨a, rfl, n, na, st, t⟩ := h
  have bi := r.notO hi
  refine ⟨fun j => if j = i then some a else B j, ?_, ?_⟩
  have on : ∀ b, Own (fun j => if j = i then some a else B j) b ↔ Own B b ∨ b = a := fun b => by
    constructor
    · rintro ⟨j, e⟩
      dsimp only at e
      split at e
      · exact .inr (Option.some.inj e).symm
      · exact .inl ⟨j, e⟩
    · rintro (⟨j, e⟩ | e)
      · refine ⟨j, ?_⟩
        dsimp only
        rw [if_neg (fun z => by subst z; rw [bi] at e; cases e)]
        exact e
      · exact ⟨i, by dsimp only; rw [if_pos rfl, e]⟩
  have nh0 : Nw F.H0 a := Classical.byContradiction fun z => r.gr.alive a z n
  have nx : ¬ F.Xs a := fun z => r.sta.live a (.inl (.inl z)) n
  have nb : ¬ Own B a := fun z => r.sta.live a (.inl (.inr z)) n
  have zz : ∀ b, Zo F (fun j => if j = i then some a else B j) ρ' b ↔ (Zo F B ρ' b ∨ b = a) := fun b => by
    unfold Zo
    rw [on]
    constructor
    · rintro ((h | h | h) | h)
      · exact .inl (.inl (.inl h))
      · exact .inl (.inl (.inr h))
      · exact .inr h
      · exact .inl (.inr h)
    · rintro (((h | h) | h) | h)
      · exact .inl (.inl h)
      · exact .inl (.inr (.inl h))
      · exact .inr h
      · exact .inl (.inr (.inr h))
  have hz : (Zo F (fun j => if j = i then some a else B j) ρ') = fun b => Zo F B ρ' b ∨ b = a := funext fun b => propext (zz b)
  have hx : (fun b => F.Xs b ∨ Own (fun j => if j = i then some a else B j) b) = fun b => (F.Xs b ∨ Own B b) ∨ b = a := funext fun b => propext (by rw [on, or_assoc])
  have see : LamX.ExtN (hid (Zo F B ρ) H) (hid (Zo F (fun j => if j = i then some a else B j) ρ') H') := by
    rw [hz]
    intro b o e ht
    obtain ⟨nn, e2⟩ := hid_iff.mp e
    obtain ⟨nn2, e3⟩ := hid_iff.mp (g.seesO (F := F) (B := B) b o e ht)
    exact hid_iff.mpr ⟨fun z => z.elim nn2 (fun z => n.no (z ▸ e2) ht), e3⟩
  refine ⟨r'.gr, by rw [hx]; exact st, fun b h => ?_, fun b h => ?_, fun j k b h1 h2 => ?_, fun j => ?_, fun j c e => ?_, fun q hq => ?_, by rw [List.length_set, List.length_set]; exact r.len, fun j x e => ?_⟩
  · rcases (on b).mp h with h | h
    · exact r.bnew b h
    · rw [h]; exact nh0
  · rcases (on b).mp h with h | h
    · exact r.oxs b h
    · rw [h]; exact nx
  · have h1 : (if j = i then some a else B j) = some b := h1
    have h2 : (if k = i then some a else B k) = some b := h2
    split at h1
    · split at h2
      · rename_i z1 z2; rw [z1, z2]
      · rw [← Option.some.inj h1] at h2; exact absurd ⟨k, h2⟩ nb
    · split at h2
      · rw [← Option.some.inj h2] at h1; exact absurd ⟨j, h1⟩ nb
      · exact r.binj j k b h1 h2
  · rw [List.mem_cons]
    constructor
    · rintro ⟨c, e⟩
      have e : (if j = i then some a else B j) = some c := e
      split at e
      · exact .inl ‹_›
      · exact .inr ((r.own j).mp ⟨c, e⟩)
    · rintro (e | e)
      · exact ⟨a, by rw [if_pos e]⟩
      · obtain ⟨c, h⟩ := (r.own j).mpr e
        exact ⟨c, by rw [if_neg (fun z : j = i => hi (by rw [← z]; exact e))]; exact h⟩
  · have e : (if j = i then some a else B j) = some c := e
    split at e
    · rename_i z; subst z; exact ⟨d, List.getElem?_set_self hl⟩
    · rename_i z
      obtain ⟨x, hx⟩ := r.ownd j c e
      exact ⟨x, by rw [List.getElem?_set_ne (Ne.symm z)]; exact hx⟩
  · show (if 0 = i then some a else B 0) = some q ∨ (if 0 = i then some a else B 0) = none
    rcases hz0 with z | z
    · rw [if_neg (Ne.symm z)]
      exact r.zero q hq
    · rw [z] at hq; cases hq
  · unfold SlAt
    by_cases z : j = i
    · subst z
      rw [List.getElem?_set_self hl] at e
      cases e
      dsimp only
      rw [if_pos rfl]
      exact ⟨List.getElem?_set_self (by rw [r.len]; exact hl), by rw [hz]; exact t⟩
    · rw [List.getElem?_set_ne (Ne.symm z)] at e
      have q := r.slot j x e
      unfold SlAt at q
      dsimp only
      rw [if_neg z]
      cases eb : B j with
      | none =>
        rw [eb] at q
        obtain ⟨v, h1, h2⟩ := q
        exact ⟨v, by rw [List.getElem?_set_ne (Ne.symm z)]; exact h1, h2.mono g.at see⟩
      | some c =>
        rw [eb] at q
        refine ⟨by rw [List.getElem?_set_ne (Ne.symm z)]; exact q.1, q.2.mono g.at see fun o ht e => g.keep c o (fun hm => r.sta.xr c hm (.inr ⟨j, eb⟩)) (fun z => z) ht e⟩
  · rintro b ⟨j, e⟩
    dsimp only at e
    split at e
    · exact .inr ((Option.some.inj e) ▸ n)
    · exact .inl ⟨j, e⟩
theorem Top.ntbl {K : PySem.W.Frag} {ca : Str → Option Addr} {ρ : List Addr} {G H : Hp} {a : Addr} {d : D} {o : HO} (t : Top K ca ρ G H a d) (h : H a = some o) : ∀ ps, o ≠ .tbl ps := fun ps z => by
  subst z
  cases d <;> first | exact t.elim | skip
  · obtain ⟨vs, h1, _⟩ := t; rw [h] at h1; cases h1
  · obtain ⟨vs, h1, _⟩ := t; rw [h] at h1; cases h1
  · obtain ⟨C, dx, vs, _, h1, _⟩ := t; rw [h] at h1; cases h1
/-- the def's own thing at i is changed -/
theorem Rel.put {a : Addr} {o o' : HO} (r : Rel F O B ρ σ H δ S) (hi : B i = some a) (b : But a H H') (h : H a = some o) (h' : H' a = some o') (n1 : ∀ ps, o ≠ .tbl ps) (n2 : ∀ φ, o ≠ .ext φ)
    (t : Top F.K F.ca ρ (hid (Zo F B ρ) H) H' a d) : Rel F O B ρ σ H' (δ.set i (some d)) S ∧ Gr ρ (Own B) H ρ H' := by
  have g : Gr ρ (Own B) H ρ H' := Gr.but b h h' (.inl ⟨i, hi⟩) n1 n2 (t.ntbl h')
  have see : LamX.ExtN (hid (Zo F B ρ) H) (hid (Zo F B ρ) H') := g.sees (fun b h => .inl (.inr h)) fun b h => .inl h
  obtain ⟨d0, e0⟩ := r.ownd i a hi
  have hl : i < δ.length := (List.getElem?_eq_some_iff.mp e0).1
  have s0 : SlAt F B ρ H σ i d0 := r.slot i d0 e0
  refine ⟨⟨?_, ?_, r.bnew, r.oxs, r.binj, r.own, fun j c e => ?_, r.zero, by rw [List.length_set]; exact r.len, fun j x e => ?_⟩, g⟩
  · exact ⟨r.gr.ext, fun c u h1 h2 h3 h4 => b c u (fun z => by subst z; exact (r.bnew c ⟨i, hi⟩).no h4 h3) (r.gr.keep c u h1 h2 h3 h4), fun c z => g.alive c (r.gr.alive c z), fun P q n t => g.tabs P q n (r.gr.tabs P q n t)⟩
  · refine ⟨fun c z => g.alive c (r.sta.live c z), r.sta.nd, r.sta.xr, SrL.mono (fun _ _ e => e) see (fun c hc u _ e => b c u (fun z => by subst z; exact r.sta.xr c hc (.inr ⟨i, hi⟩)) e) r.sta.sto⟩
  · by_cases z : i = j
    · subst z; exact ⟨d, List.getElem?_set_self hl⟩
    · obtain ⟨x, hx⟩ := r.ownd j c e
      exact ⟨x, by rw [List.getElem?_set_ne z]; exact hx⟩
  · unfold SlAt
    by_cases z : i = j
    · subst z
      rw [List.getElem?_set_self hl] at e
      cases e
      rw [hi]
      unfold SlAt at s0
      rw [hi] at s0
      exact ⟨s0.1, Top.mono (fun _ _ e => e) see (fun _ _ e => e) t⟩
    · rw [List.getElem?_set_ne z] at e
      have q := r.slot j x e
      unfold SlAt at q
      cases eb : B j with
      | none =>
        rw [eb] at q
        obtain ⟨v, h1, h2⟩ := q
        exact ⟨v, h1, h2.mono (fun _ _ e => e) see⟩
      | some c =>
        rw [eb] at q
        exact ⟨q.1, q.2.mono (fun _ _ e => e) see fun u _ e => b c u (fun z2 => z (r.binj i j a hi (z2 ▸ eb))) e⟩
end
section
variable {X : Cx} {F : Fr} {O O' O1 O2 OL : List Nat} {m mi : Md} {pos pos' : Pos} {a b c e : Expr} {rest : List Expr} {i : Nat}
/-- x = e, from what the right side reads -/
theorem asg_fz {te : TE} {t : DEnv → M D} {Dn : Ends} {σ : L2.St} {H : Hp} (w : ∀ Q, dE F O .fz t σ H Q → te σ H Q) (hi : i ∉ O) (q : dS F O O OL (setS i t) Dn σ H) : tAsg te (gName i) Dn σ H := by
  obtain ⟨B, ρ, δ, S, r, q⟩ := q
  exact w _ ⟨B, ρ, δ, S, r, q.bind.imp fun d S' k v H' ρ' r' g z => k _ H' B ρ' (r'.set hi z) g.wk fun b h => .inl h⟩
theorem asg_nw {te : TE} {t : DEnv → M D} {Dn : Ends} {σ : L2.St} {H : Hp} (w : ∀ Q, dE F O .nw t σ H Q → te σ H Q) (hi : i ∉ O) (hz0 : i ≠ 0 ∨ F.own0 = none) (hn : σ.length = X.N.length → i < σ.length) (q : dS F O (i :: O) OL (setS i t) Dn σ H) (hs : i < σ.length) : tAsg te (gName i) Dn σ H := by
  obtain ⟨B, ρ, δ, S, r, q⟩ := q
  exact w _ ⟨B, ρ, δ, S, r, q.bind.imp fun d S' k v H' ρ' r' g z => by
    obtain ⟨B', r2, n2⟩ := r.new (m := .nw) r' g hi hz0 (by rw [← r.len]; exact hs) z
    exact k _ H' B' ρ' r2 g.wk n2⟩
theorem psd_set {x : Str} {t : DEnv → M D} (i : Nat) (h : PED X F O .fz e t) (hN : X.N.Nodup) (hi : X.N[i]? = some x := by rfl) (hx : Loc X.env.scope x := by first | exact Or.inl rfl | exact Or.inr rfl) (ho : i ∉ O := by decide) (hs : swapsWith e (some (.Name x pos')) pos.line X.env = pure false := by rfl) (hf : X.fn x = true ∨ X.env.scope.names.lookup x = some .local := by first | exact .inl rfl | exact .inr rfl | assumption) :
    PSD X F O O OL (.Assign [.Name x pos'] e pos) (setS i t) := ps_imp (ps_set hN hi hx h hs hf) fun Dn σ H q => asg_fz (fun _ q => q) ho q
theorem ps_len {st : Stmt} {t : TS} (h : PS X st (fun D σ H => σ.length = X.N.length ∧ t D σ H)) : PS X st t := ⟨fun pins s σ H D I q => h.run pins s σ H D I ⟨I.len, q⟩⟩
theorem psd_new {x : Str} {t : DEnv → M D} (i : Nat) (h : PED X F O .nw e t) (hN : X.N.Nodup) (hi : X.N[i]? = some x := by rfl) (hx : Loc X.env.scope x := by first | exact Or.inl rfl | exact Or.inr rfl) (ho : i ∉ O := by decide) (hs : swapsWith e (some (.Name x pos')) pos.line X.env = pure false := by rfl) (hf : X.fn x = true ∨ X.env.scope.names.lookup x = some .local := by first | exact .inl rfl | exact .inr rfl | assumption) (hz0 : i ≠ 0 ∨ F.own0 = none := by first | exact Or.inl (by decide) | exact Or.inr rfl) :
    PSD X F O (i :: O) OL (.Assign [.Name x pos'] e pos) (setS i t) := ps_len (ps_imp (ps_set hN hi hx h hs hf) fun Dn σ H ⟨hl, q⟩ => by
  have li : i < σ.length := by rw [hl]; exact (List.getElem?_eq_some_iff.mp hi).1
  exact asg_nw (X := X) (fun _ q => q) ho hz0 (fun _ => li) q li)
/-! ### targets -/
def tgN (i : Nat) : D → DEnv → M DEnv := fun d δ => pure (δ.set i (some d))
def tgs : List (D → DEnv → M DEnv) → List D → DEnv → M DEnv
  | [], [], δ => pure δ
  | g :: gs, d :: ds, δ => do let δ' ← g d δ; tgs gs ds δ'
  | _, _, _ => M.stuck
def tgT (gs : List (D → DEnv → M DEnv)) : D → DEnv → M DEnv := fun d δ => match d with
  | .tup ds => if ds.length = gs.length then tgs gs ds δ else M.stuck
  | _ => M.stuck
theorem pg_imp {t t' : TG} (h : PG X e t) (w : ∀ v σ H Q, t' v σ H Q → t v σ H Q) : PG X e t' := ⟨fun pins s σ H v u Q I r q => h.run pins s σ H v u Q I r (w _ _ _ _ q)⟩
theorem pgd_name {x : Str} (i : Nat) (hN : X.N.Nodup) (hi : X.N[i]? = some x := by rfl) (hx : Loc X.env.scope x := by first | exact Or.inl rfl | exact Or.inr rfl) (ho : i ∉ O := by decide) (hf : X.fn x = true ∨ X.env.scope.names.lookup x = some .local := by first | exact .inl rfl | exact .inr rfl | assumption) :
    PGD X F O O (.Name x pos) (tgN i) := pg_imp (pg_name hN hi hx hf) fun v σ H Q ⟨B, ρ, δ, S, d, r, z, q⟩ => (q : ∀ σ' H' B' ρ', _) _ H B ρ (r.set ho z) (Gr.refl _ _ _) fun b h => .inl h
/-- several targets -/
def dGs (F : Fr) (O : List Nat) (gs : List (D → DEnv → M DEnv)) : TGs := fun vs σ H R => ∃ B ρ δ S ds, Rel F O B ρ σ H δ S ∧ RinL F .fz B ρ H vs ds ∧
  Ok1 F (tgs gs ds δ S) fun δ' S' => ∀ σ' H' B' ρ', Rel F O B' ρ' σ' H' δ' S' → Gr ρ (Own B) H ρ' H' → (∀ b, Own B' b → Own B b ∨ Nw H b) → R σ' H'
theorem pgs_imp {es : List Expr} {t t' : TGs} (h : PGs X es t) (w : ∀ v σ H Q, t' v σ H Q → t v σ H Q) : PGs X es t' := ⟨fun pins s σ H v u Q I r q => h.run pins s σ H v u Q I r (w _ _ _ _ q)⟩
theorem pgd_nil : PGs X [] (dGs F O []) := pgs_imp pgs_nil fun vs σ H Q ⟨B, ρ, δ, S, ds, r, z, q⟩ => by
  cases ds with
  | nil =>
    have z : RpL F.K F.ca ρ (hid (Zo F B ρ) H) vs [] := z
    cases z
    exact ⟨rfl, q σ H B ρ r (Gr.refl _ _ _) fun b h => .inl h⟩
  | cons d ds => exact q.stuck.elim
theorem pgd_cons {g : D → DEnv → M DEnv} {gs : List (D → DEnv → M DEnv)} {es : List Expr} (h : PGD X F O O e g) (k : PGs X es (dGs F O gs)) (hs : (assignEach (e :: es) X.env).map (·.2) = assign e X.env :: (assignEach es X.env).map (·.2) := by rfl) : PGs X (e :: es) (dGs F O (g :: gs)) :=
  pgs_imp (pgs_cons h k hs) fun vs σ H Q ⟨B, ρ, δ, S, ds, r, z, q⟩ => by
    cases ds with
    | nil => exact q.stuck.elim
    | cons d ds =>
      have z : RpL F.K F.ca ρ (hid (Zo F B ρ) H) vs (d :: ds) := z
      cases z with
      | cons z zs =>
        refine ⟨_, _, rfl, B, ρ, δ, S, d, r, z, (Ok1.bind q).imp fun δ' S' k σ' H' B' ρ' r' g n => ⟨B', ρ', δ', S', ds, r', RpL.mono g.at (g.sees (fun b h => .inl (.inr h)) fun b h => by
          rcases h with h | h
          · exact .inl (.inl h)
          · exact (n b h).imp .inr id) zs, k.imp fun δ2 S2 k σ2 H2 B2 ρ2 r2 g2 n2 => k σ2 H2 B2 ρ2 r2 (g.trans g2 n) fun b h => by
            rcases n2 b h with h | h
            · exact n b h
            · exact .inr (Classical.byContradiction fun y => g.alive b y h)⟩⟩
theorem pgd_tup {gs : List (D → DEnv → M DEnv)} {es : List Expr} {kk n : Nat} (hK : F.K = X.K) (hc : X.calm = true) (h : PGs X es (dGs F O gs)) (hg : gs.length = n) (hn : (assignEach es X.env).length = n := by rfl) (hst : (assignEach es X.env).findIdx? (·.1) = none := by rfl) : PGD X F O O (.Tuple es kk pos) (tgT gs) :=
  pg_imp (pg_tup hc h hn hst) fun v σ H Q ⟨B, ρ, δ, S, d, r, z, q⟩ => by
    cases d <;> first | exact (show False from q).elim | skip
    rename_i ds
    obtain ⟨a, vs, rfl, h1, h2⟩ := Rin.tup z
    have q : Ok1 F ((if ds.length = gs.length then tgs gs ds δ else M.stuck) S) _ := q
    split at q
    · rename_i hl
      exact ⟨a, vs, rfl, hK ▸ h1, by rw [RinL.len h2, hl, hg], B, ρ, δ, S, ds, r, h2, q⟩
    · exact q.stuck.elim
theorem psd_asg {t : DEnv → M D} {g : D → DEnv → M DEnv} {tg : Expr} (h : PED X F O .fz e t) (k : PGD X F O O tg g) (hs : swapsWithSole [tg] e pos.line X.env = pure false := by rfl) (hw : swappedStores [tg] e X.env = pure none := by rfl)
    (h1 : (assignEach [tg] X.env).map (·.2) = [assign tg X.env] := by rfl) : PSD X F O O OL (.Assign [tg] e pos) (fun δ => do let d ← t δ; let δ' ← g d δ; pure (δ', .nx)) := ps_imp (ps_asg h k hs hw h1) fun Dn σ H ⟨B, ρ, δ, S, r, q⟩ =>
  ⟨B, ρ, δ, S, r, q.bind.imp fun d S' k v H' ρ' r' g z => ⟨B, ρ', δ, S', d, r', z, k.bind.imp fun δ2 S2 k σ2 H2 B2 ρ2 r2 g2 n2 => k σ2 H2 B2 ρ2 r2 (g.wk.trans g2 fun b h => .inl h) fun b h => by
    rcases n2 b h with h | h
    · exact .inl h
    · exact .inr (Classical.byContradiction fun y => g.alive b y h)⟩⟩
end
end Fg

set_option Elab.async false
set_option linter.all false
set_option maxRecDepth 100000
set_option maxHeartbeats 4000000
namespace Fg
open PySem PySem.Spec PyProof.Rows L2
variable [TQ]
/-! ### for -/
def forL (g : D → DEnv → M DEnv) (b : DEnv → M (DEnv × Fl)) : List D → DEnv → M (DEnv × Fl)
  | [], δ => pure (δ, .nx)
  | x :: r, δ => do
    let δ1 ← g x δ
    let p ← b δ1
    match p.2 with
    | .nx => forL g b r p.1
    | .ct => forL g b r p.1
    | .bk => pure (p.1, .nx)
    | .rt d => pure (p.1, .rt d)
def forS (t : DEnv → M (List D)) (g : D → DEnv → M DEnv) (b : DEnv → M (DEnv × Fl)) : DEnv → M (DEnv × Fl) := fun δ => do let xs ← t δ; forL g b xs δ
/-- what is walked -/
def dW (F : Fr) (O : List Nat) (t : DEnv → M (List D)) : TW := fun σ H R => ∃ B ρ δ S, Rel F O B ρ σ H δ S ∧
  Ok1 F (t δ S) fun ds S' => ∀ vs st H' ρ', Rel F O B ρ' σ H' δ S' → Gr ρ NoZ H ρ' H' → RinL F .fz B ρ' H' vs ds → st H' → (∀ H1 ρ1, Gr ρ' (Own B) H' ρ1 H1 → st H1) → R vs st H'
abbrev PID (X : Cx) (F : Fr) (O : List Nat) (tg e : Expr) (t : DEnv → M (List D)) : Prop := PI X tg e (wiOf (upW (dW F O t)))
def itL : D → M (List D)
  | .lst ds => pure ds
  | _ => M.stuck
def itT : D → M (List D)
  | .tup ds => pure ds
  | _ => M.stuck
def signsD (z : Str) : List D := z.cps.toList.map fun c => D.str ⟨#[c]⟩
def itS : D → M (List D)
  | .str z => pure (signsD z)
  | _ => M.stuck
def rgD (lo : Int) (n : Nat) : List D := (List.range n).map fun (i : Nat) => D.int (lo + i)
def InR (i : Int) : Prop := -(2 ^ 62) ≤ i ∧ i < 2 ^ 62
instance (i : Int) : Decidable (InR i) := by unfold InR; infer_instance
def itR1 : List D → M (List D)
  | [.int j] => if InR j then pure (rgD 0 j.toNat) else M.stuck
  | _ => M.stuck
def itR2 : List D → M (List D)
  | [.int i, .int j] => if InR i ∧ InR j then pure (rgD i (j - i).toNat) else M.stuck
  | _ => M.stuck
theorem rpL_map {K : PySem.W.Frag} {ca : Str → Option Addr} {ρ : List Addr} {G : Hp} {α : Type} {f : α → V} {g : α → D} (h : ∀ x, Rp K ca ρ G (f x) (g x)) : ∀ l : List α, RpL K ca ρ G (l.map f) (l.map g)
  | [] => .nil
  | x :: l => .cons (h x) (rpL_map h l)
section
variable {X : Cx} {F : Fr} {O O' O1 O2 OL : List Nat} {m mi : Md} {pos pos' : Pos} {a b c e tg : Expr} {rest es : List Expr} {i : Nat}
theorem pid_L {t : DEnv → M D} (hK : F.K = X.K) (h : PED X F O .fz e t) : PID X F O tg e (fun δ => do let d ← t δ; itL d) := pi_imp (fi_L h) fun σ H R ⟨R0, ⟨B, ρ, δ, S, r, q⟩, k⟩ => ⟨R0, ⟨B, ρ, δ, S, r, q.bind.imp fun d S' q v H' ρ' r' g z => by
  cases d <;> first | exact (show False from q).elim | skip
  rename_i ds
  have z : Rp F.K F.ca ρ' (hid (Zo F B ρ') H') v (.lst ds) := z
  cases z with
  | lst h1 h2 =>
    obtain ⟨no, h1⟩ := hid_iff.mp h1
    have st : ∀ H1 ρ1, Gr ρ' (Own B) H' ρ1 H1 → SqL X.K H1 _ _ := fun H1 ρ1 g => SqL.of (g.keep _ _ (fun z => no (.inr z)) (fun z => no (.inl (.inr z))) (fun _ z => by cases z) h1)
    exact ⟨_, SqL.of h1, q _ _ H' ρ' r' g h2 (SqL.of h1) st⟩⟩, k⟩
theorem pid_T {t : DEnv → M D} (hK : F.K = X.K) (h : PED X F O .fz e t) : PID X F O tg e (fun δ => do let d ← t δ; itT d) := pi_imp (fi_T h) fun σ H R ⟨R0, ⟨B, ρ, δ, S, r, q⟩, k⟩ => ⟨R0, ⟨B, ρ, δ, S, r, q.bind.imp fun d S' q v H' ρ' r' g z => by
  cases d <;> first | exact (show False from q).elim | skip
  rename_i ds
  have z : Rp F.K F.ca ρ' (hid (Zo F B ρ') H') v (.tup ds) := z
  cases z with
  | tup h1 h2 =>
    rw [hK] at h1
    have st : ∀ H1 ρ1, Gr ρ' (Own B) H' ρ1 H1 → SqT X.K H1 _ _ := fun H1 ρ1 g => by
      refine SqT.ext (fun b o e ht => ?_) h1
      obtain ⟨no, e⟩ := hid_iff.mp e
      exact g.keep b o (fun z => no (.inr z)) (fun z => no (.inl (.inr z))) ht e
    exact ⟨_, st H' ρ' (Gr.refl _ _ _), q _ _ H' ρ' r' g h2 (st H' ρ' (Gr.refl _ _ _)) st⟩⟩, k⟩
theorem pid_S {t : DEnv → M D} (h : PED X F O .tr e t) : PID X F O tg e (fun δ => do let d ← t δ; itS d) := pi_imp (fi_S h) fun σ H R ⟨R0, ⟨B, ρ, δ, S, r, q⟩, k⟩ => ⟨R0, ⟨B, ρ, δ, S, r, q.bind.imp fun d S' q v H' ρ' r' g z => by
  cases d <;> first | exact (show False from q).elim | skip
  obtain rfl := Rin.str (m := .tr) (B := B) z
  exact q _ _ H' ρ' r' g (rpL_map (fun c => .str) _) trivial fun _ _ _ => trivial⟩, k⟩
theorem pid_R1 {p : Pos} {t : DEnv → M (List D)} (hgl : Gl X "range") (hm : X.mg "range" = none) (ha : PAD X F O .tr [a] t) (hst : starEach [a] X.env = [(false, eval a X.env)] := by rfl) : PID X F O tg (.Call (.Name "range" p) [a] [] pos) (fun δ => do let d ← t δ; itR1 d) :=
  pi_imp (fi_R1 hgl hm ha hst) fun σ H R ⟨R0, ⟨B, ρ, δ, S, r, q⟩, k⟩ => ⟨R0, ⟨B, ρ, δ, S, r, q.bind.imp fun d S' q v H' ρ' r' g z => by
    unfold itR1 at q
    split at q
    · rename_i j
      split at q
      · rename_i hj
        have z : RpL F.K F.ca ρ' (hid (Zf F ρ') H') v [.int j] := z
        cases z with
        | cons z zs =>
          cases z; cases zs
          exact ⟨⟨hj.2, hj.1⟩, q _ _ H' ρ' r' g (rpL_map (fun c => .int) _) trivial fun _ _ _ => trivial⟩
      · exact q.stuck.elim
    · exact q.stuck.elim⟩, k⟩
theorem pid_R2 {p : Pos} {t : DEnv → M (List D)} (hgl : Gl X "range") (hm : X.mg "range" = none) (ha : PAD X F O .tr [a, b] t) (hst : starEach [a, b] X.env = [(false, eval a X.env), (false, eval b X.env)] := by rfl) (hst2 : starEach [b] X.env = [(false, eval b X.env)] := by rfl) : PID X F O tg (.Call (.Name "range" p) [a, b] [] pos) (fun δ => do let d ← t δ; itR2 d) :=
  pi_imp (fi_R2 hgl hm ha hst hst2) fun σ H R ⟨R0, ⟨B, ρ, δ, S, r, q⟩, k⟩ => ⟨R0, ⟨B, ρ, δ, S, r, q.bind.imp fun d S' q v H' ρ' r' g z => by
    unfold itR2 at q
    split at q
    · rename_i i j
      split at q
      · rename_i hj
        have z : RpL F.K F.ca ρ' (hid (Zf F ρ') H') v [.int i, .int j] := z
        cases z with
        | cons y1 ys =>
          cases ys with
          | cons y2 yn =>
            cases y1
            cases y2
            cases yn
            exact ⟨⟨hj.1.1, hj.1.2, hj.2.1, hj.2.2⟩, q _ _ H' ρ' r' g (rpL_map (fun c => .int) _) trivial fun _ _ _ => trivial⟩
      · exact q.stuck.elim
    · exact q.stuck.elim⟩, k⟩
/-- the turns of a walk -/
theorem loop_of {g : D → DEnv → M DEnv} {bd : DEnv → M (DEnv × Fl)} {Og : List Nat} {Dn : Ends} {st : Hp → Prop} {B : Nat → Option Addr} {ρ : List Addr} {H : Hp} (hst : ∀ H1 ρ1, Gr ρ (Own B) H ρ1 H1 → st H1) :
    ∀ (ds : List D) (vs : List V) (σ1 : L2.St) (B1 : Nat → Option Addr) (ρ1 : List Addr) (H1 : Hp) (δ1 : DEnv) (S1 : Sto), Rel F O B1 ρ1 σ1 H1 δ1 S1 → Gr ρ (Own B) H ρ1 H1 → (∀ b, Own B1 b → Own B b ∨ Nw H b) → RinL F .fz B1 ρ1 H1 vs ds →
    Ok1 F (forL g bd ds δ1 S1) (fun p S' => match p.2 with
      | .nx => ∀ σ' H' B' ρ', Rel F O B' ρ' σ' H' p.1 S' → Gr ρ (Own B) H ρ' H' → (∀ b, Own B' b → Own B b ∨ Nw H b) → Dn.nx σ' H'
      | .bk => True
      | .ct => True
      | .rt d => ∀ v H' ρ', End F ρ' H' S' → Rp F.K F.ca ρ' (hid (Zf F ρ') H') v d → Dn.rt v H') → Loop st (dG F O Og g) (dS F Og O O bd) Dn vs σ1 H1
  | [], vs, σ1, B1, ρ1, H1, δ1, S1, r1, g1, n1, z, q => by
    have z : RpL F.K F.ca ρ1 (hid (Zo F B1 ρ1) H1) vs [] := z
    cases z
    exact (q : ∀ σ' H' B' ρ', _) σ1 H1 B1 ρ1 r1 g1 n1
  | d :: ds, vs, σ1, B1, ρ1, H1, δ1, S1, r1, g1, n1, z, q => by
    have z : RpL F.K F.ca ρ1 (hid (Zo F B1 ρ1) H1) vs (d :: ds) := z
    cases z with
    | cons z zs =>
      unfold forL at q
      refine ⟨B1, ρ1, δ1, S1, d, r1, z, q.bind.imp fun δ2 S2 q σ2 H2 B2 ρ2 r2 g2 n2 => ?_⟩
      have n2' : ∀ b, Own B2 b → Own B b ∨ Nw H b := fun b h => by
        rcases n2 b h with h | h
        · exact n1 b h
        · exact .inr (Classical.byContradiction fun y => g1.alive b y h)
      have g2' := g1.trans g2 n1
      refine ⟨B2, ρ2, δ2, S2, r2, q.bind.imp fun p S3 q => ?_⟩
      have later : ∀ {σ3 H3 B3 ρ3}, Rel F O B3 ρ3 σ3 H3 p.1 S3 → Gr ρ2 (Own B2) H2 ρ3 H3 → (∀ b, Own B3 b → Own B2 b ∨ Nw H2 b) → Ok1 F (forL g bd ds p.1 S3) (fun p S' => match p.2 with
          | .nx => ∀ σ' H' B' ρ', Rel F O B' ρ' σ' H' p.1 S' → Gr ρ (Own B) H ρ' H' → (∀ b, Own B' b → Own B b ∨ Nw H b) → Dn.nx σ' H'
          | .bk => True
          | .ct => True
          | .rt d => ∀ v H' ρ', End F ρ' H' S' → Rp F.K F.ca ρ' (hid (Zf F ρ') H') v d → Dn.rt v H') → st H3 ∧ Loop st (dG F O Og g) (dS F Og O O bd) Dn _ σ3 H3 := fun {σ3 H3 B3 ρ3} r3 g3 n3 q => by
        have n3' : ∀ b, Own B3 b → Own B b ∨ Nw H b := fun b h => by
          rcases n3 b h with h | h
          · exact n2' b h
          · exact .inr (Classical.byContradiction fun y => g2'.alive b y h)
        have g3' := g2'.trans g3 n2'
        refine ⟨hst H3 ρ3 g3', loop_of hst ds _ σ3 B3 ρ3 H3 p.1 S3 r3 g3' n3' (RpL.mono (fun k x e => g3.at k x (g2.at k x e)) (fun b o e ht => ?_) zs) q⟩
        have s1 := (g2.trans g3 n2).sees (Z := fun b => F.Xs b ∨ Own B1 b) (Z1 := fun b => F.Xs b ∨ Own B3 b) (fun b h => .inl (.inr h)) (fun b h => by
          rcases h with h | h
          · exact .inl (.inl h)
          · rcases n3 b h with h | h
            · exact (n2 b h).imp .inr id
            · exact .inr (Classical.byContradiction fun y => g2.alive b y h))
        exact s1 b o e ht
      obtain ⟨δ3, f⟩ := p
      cases f with
      | nx => exact fun σ3 H3 B3 ρ3 r3 g3 n3 => later r3 g3 n3 q
      | ct => exact fun σ3 H3 B3 ρ3 r3 g3 n3 => later r3 g3 n3 q
      | bk =>
        exact fun σ3 H3 B3 ρ3 r3 g3 n3 => (q : ∀ σ' H' B' ρ', _) σ3 H3 B3 ρ3 r3 (g2'.trans g3 n2') fun b h => by
          rcases n3 b h with h | h
          · exact n2' b h
          · exact .inr (Classical.byContradiction fun y => g2'.alive b y h)
      | rt d => exact q
theorem psd_for {t : DEnv → M (List D)} {g : D → DEnv → M DEnv} {bd : DEnv → M (DEnv × Fl)} {Og : List Nat} {body : List Stmt} (hp : PassesOwn (model X.prog X.w) X.A X.env X.xe) (hc : X.calm = true) (h : PID X F O tg e t) (hg : PGD X F O Og tg g) (hb : PSsD X F Og O O body bd) (hs : ∀ x, foldedSetIterable e X.env x = pure x := by intro _; rfl) :
    PSD X F O O OL (.For tg e body [] pos) (forS t g bd) := ps_imp (fs_for hp hc h hg hb hs) fun Dn σ H ⟨B, ρ, δ, S, r, q⟩ => ⟨B, ρ, δ, S, r, q.bind.imp fun ds S' q vs st H' ρ' r' g' z h1 hst => ⟨h1, by
  refine loop_of (B := B) (H := H') hst ds vs σ B ρ' H' δ S' r' (Gr.refl _ _ _) (fun b h => .inl h) z (q.imp fun p S2 k => ?_)
  obtain ⟨δ2, f⟩ := p
  cases f with
  | nx =>
    exact fun σ2 H2 B2 ρ2 r2 g2 n2 => k σ2 H2 B2 ρ2 r2 (g'.wk.trans g2 fun b h => .inl h) fun b h => by
      rcases n2 b h with h | h
      · exact .inl h
      · exact .inr (Classical.byContradiction fun y => g'.alive b y h)
  | bk => trivial
  | ct => trivial
  | rt d => exact k⟩⟩
end
end Fg

set_option Elab.async false
set_option linter.all false
set_option maxRecDepth 100000
set_option maxHeartbeats 4000000
namespace Fg
open PySem PySem.Spec PyProof.Rows L2
variable [TQ]
/-! ### while -/
def whB (c : DEnv → M Bool) (b : DEnv → M (DEnv × Fl)) (f : DEnv → Sto → Option (Except Ex (DEnv × Fl) × Sto)) (δ : DEnv) (S : Sto) : Option (Except Ex (DEnv × Fl) × Sto) :=
  match c δ S with
  | none => none
  | some (.error e, S1) => some (.error e, S1)
  | some (.ok false, S1) => some (.ok (δ, .nx), S1)
  | some (.ok true, S1) => match b δ S1 with
    | none => none
    | some (.error e, S2) => some (.error e, S2)
    | some (.ok (δ2, .nx), S2) => f δ2 S2
    | some (.ok (δ2, .ct), S2) => f δ2 S2
    | some (.ok (δ2, .bk), S2) => some (.ok (δ2, .nx), S2)
    | some (.ok (δ2, .rt d), S2) => some (.ok (δ2, .rt d), S2)
def whL (c : DEnv → M Bool) (b : DEnv → M (DEnv × Fl)) (δ : DEnv) (S : Sto) : Option (Except Ex (DEnv × Fl) × Sto) :=
  match c δ S with
  | none => none
  | some (.error e, S1) => some (.error e, S1)
  | some (.ok false, S1) => some (.ok (δ, .nx), S1)
  | some (.ok true, S1) => match b δ S1 with
    | none => none
    | some (.error e, S2) => some (.error e, S2)
    | some (.ok (δ2, .nx), S2) => whL c b δ2 S2
    | some (.ok (δ2, .ct), S2) => whL c b δ2 S2
    | some (.ok (δ2, .bk), S2) => some (.ok (δ2, .nx), S2)
    | some (.ok (δ2, .rt d), S2) => some (.ok (δ2, .rt d), S2)
partial_fixpoint
def whN (c : DEnv → M Bool) (b : DEnv → M (DEnv × Fl)) : Nat → DEnv → Sto → Option (Except Ex (DEnv × Fl) × Sto)
  | 0 => fun _ _ => none
  | n + 1 => whB c b (whN c b n)
theorem whB_cases {c : DEnv → M Bool} {b : DEnv → M (DEnv × Fl)} {f : DEnv → Sto → Option (Except Ex (DEnv × Fl) × Sto)} {δ : DEnv} {S : Sto} {r : Except Ex (DEnv × Fl) × Sto} (h : whB c b f δ S = some r) :
    (∀ f', whB c b f' δ S = some r) ∨ ∃ δ2 S2, f δ2 S2 = some r ∧ ∀ f', whB c b f' δ S = f' δ2 S2 := by
  unfold whB at h ⊢
  cases e1 : c δ S with
  | none => rw [e1] at h; cases h
  | some p =>
    rw [e1] at h
    obtain ⟨x, S1⟩ := p
    cases x with
    | error e => exact .inl fun _ => h
    | ok k =>
      cases k with
      | false => exact .inl fun _ => h
      | true =>
        dsimp only at h ⊢
        cases e2 : b δ S1 with
        | none => rw [e2] at h; cases h
        | some p =>
          rw [e2] at h
          obtain ⟨x, S2⟩ := p
          cases x with
          | error e => exact .inl fun _ => h
          | ok p =>
            obtain ⟨δ2, fl⟩ := p
            cases fl with
            | nx => exact .inr ⟨δ2, S2, h, fun _ => rfl⟩
            | ct => exact .inr ⟨δ2, S2, h, fun _ => rfl⟩
            | bk => exact .inl fun _ => h
            | rt d => exact .inl fun _ => h
theorem whL_eq (c : DEnv → M Bool) (b : DEnv → M (DEnv × Fl)) (δ : DEnv) (S : Sto) : whL c b δ S = whB c b (whL c b) δ S := by
  rw [whL.eq_1]; rfl
theorem whL_n {c : DEnv → M Bool} {b : DEnv → M (DEnv × Fl)} : ∀ (δ : DEnv) (S : Sto) (r : Except Ex (DEnv × Fl) × Sto), whL c b δ S = some r → ∃ n, whN c b n δ S = some r := by
  refine whL.partial_correctness c b (fun δ S r => ∃ n, whN c b n δ S = some r) fun f ih δ S r h => ?_
  have h : whB c b f δ S = some r := h
  rcases whB_cases h with h | ⟨δ2, S2, h1, h2⟩
  · exact ⟨1, h _⟩
  · obtain ⟨n, hn⟩ := ih δ2 S2 r h1
    exact ⟨n + 1, by show whB c b (whN c b n) δ S = _; rw [h2]; exact hn⟩
def whS (c : DEnv → M Bool) (b : DEnv → M (DEnv × Fl)) : DEnv → M (DEnv × Fl) := fun δ S => whL c b δ S
theorem whS_eq (c : DEnv → M Bool) (b : DEnv → M (DEnv × Fl)) (δ : DEnv) : whS c b δ = (c δ >>= fun k => if k = true then (b δ >>= fun p => match p.2 with
    | .nx => whS c b p.1
    | .ct => whS c b p.1
    | .bk => pure (p.1, .nx)
    | .rt d => pure (p.1, .rt d)) else pure (δ, .nx)) := by
  funext S
  show whL c b δ S = M.bind (c δ) _ S
  rw [whL_eq]
  unfold whB M.bind
  cases e1 : c δ S with
  | none => rfl
  | some p =>
    obtain ⟨x, S1⟩ := p
    cases x with
    | error e => rfl
    | ok k =>
      cases k with
      | false => rfl
      | true =>
        dsimp only
        rw [if_pos rfl]
        show _ = M.bind (b δ) _ S1
        unfold M.bind
        cases e2 : b δ S1 with
        | none => rfl
        | some p =>
          obtain ⟨x, S2⟩ := p
          cases x with
          | error e => rfl
          | ok p =>
            obtain ⟨δ2, fl⟩ := p
            cases fl <;> rfl
section
variable {X : Cx} {F : Fr} {O O' O1 O2 OL : List Nat} {m mi : Md} {pos pos' : Pos} {a b c e tg : Expr} {rest es : List Expr} {i : Nat}
theorem psd_while {t : DEnv → M Bool} {bd : DEnv → M (DEnv × Fl)} {body : List Stmt} (hp : PassesOwn (model X.prog X.w) X.A X.env X.xe) (h : PTD X F O e t) (hb : PSsD X F O O O body bd) : PSD X F O O OL (.While e body [] pos) (whS t bd) := ps_imp (fs_while hp h hb) fun Dn σ H ⟨B, ρ, δ, S, r, q⟩ => by
  obtain ⟨res, e0⟩ : ∃ res, whL t bd δ S = some res := by
    have q : Ok1 F (whL t bd δ S) _ := q
    cases e : whL t bd δ S with
    | none => rw [e] at q; exact q.elim
    | some p => exact ⟨p, rfl⟩
  obtain ⟨n, hn⟩ := whL_n δ S res e0
  have q : Ok1 F (whL t bd δ S) _ := q
  rw [e0] at q
  refine .by (fun m σ1 H1 => ∃ B1 ρ1 δ1 S1, Rel F O B1 ρ1 σ1 H1 δ1 S1 ∧ Gr ρ (Own B) H ρ1 H1 ∧ (∀ b, Own B1 b → Own B b ∨ Nw H b) ∧ whN t bd m δ1 S1 = some res) n ⟨B, ρ, δ, S, r, Gr.refl _ _ _, fun b h => .inl h, hn⟩ ?_
  rintro m σ1 H1 ⟨B1, ρ1, δ1, S1, r1, g1, n1, hw⟩
  cases m with
  | zero => cases hw
  | succ m =>
    have hw : whB t bd (whN t bd m) δ1 S1 = some res := hw
    refine ⟨B1, ρ1, δ1, S1, r1, ?_⟩
    unfold whB at hw
    cases e1 : t δ1 S1 with
    | none => rw [e1] at hw; cases hw
    | some p =>
      rw [e1] at hw
      obtain ⟨x, S2⟩ := p
      cases x with
      | error ex => cases hw; exact q
      | ok k =>
        cases k with
        | false =>
          cases hw
          intro H2 ρ2 r2 g2
          exact (q : ∀ σ' H' B' ρ', _) σ1 H2 B1 ρ2 r2 (g1.tr g2) n1
        | true =>
          dsimp only at hw
          intro H2 ρ2 r2 g2
          refine ⟨B1, ρ2, δ1, S2, r2, ?_⟩
          have g2' := g1.tr g2
          cases e2 : bd δ1 S2 with
          | none => rw [e2] at hw; cases hw
          | some p =>
            rw [e2] at hw
            obtain ⟨x, S3⟩ := p
            cases x with
            | error ex => cases hw; exact q
            | ok p =>
              obtain ⟨δ3, fl⟩ := p
              have nn : ∀ {B3 : Nat → Option Addr}, (∀ b, Own B3 b → Own B1 b ∨ Nw H2 b) → ∀ b, Own B3 b → Own B b ∨ Nw H b := fun h b hb => by
                rcases h b hb with z | z
                · exact n1 b z
                · exact .inr (Classical.byContradiction fun y => g2'.alive b y z)
              cases fl with
              | nx => exact fun σ3 H3 B3 ρ3 r3 g3 n3 => .mk m (Nat.lt_succ_self m) ⟨B3, ρ3, δ3, S3, r3, g2'.trans g3 n1, nn n3, hw⟩
              | ct => exact fun σ3 H3 B3 ρ3 r3 g3 n3 => .mk m (Nat.lt_succ_self m) ⟨B3, ρ3, δ3, S3, r3, g2'.trans g3 n1, nn n3, hw⟩
              | bk =>
                cases hw
                exact fun σ3 H3 B3 ρ3 r3 g3 n3 => (q : ∀ σ' H' B' ρ', _) σ3 H3 B3 ρ3 r3 (g2'.trans g3 n1) (nn n3)
              | rt d =>
                cases hw
                exact q
/-! ### walks over new pairs -/
theorem loopZ_of {g : D → DEnv → M DEnv} {bd : DEnv → M (DEnv × Fl)} {Og : List Nat} {Dn : Ends} {st : Hp → Prop} {B : Nat → Option Addr} {ρ : List Addr} {H : Hp} (hst : ∀ H1 ρ1, Gr ρ (Own B) H ρ1 H1 → st H1) :
    ∀ (ds : List (D × D)) (vs : List (V × V)) (σ1 : L2.St) (B1 : Nat → Option Addr) (ρ1 : List Addr) (H1 : Hp) (δ1 : DEnv) (S1 : Sto), Rel F O B1 ρ1 σ1 H1 δ1 S1 → Gr ρ (Own B) H ρ1 H1 → (∀ b, Own B1 b → Own B b ∨ Nw H b) → RinL F .fz B1 ρ1 H1 (vs.map (·.1)) (ds.map (·.1)) → RinL F .fz B1 ρ1 H1 (vs.map (·.2)) (ds.map (·.2)) →
    Ok1 F (forL g bd (ds.map fun p => .tup [p.1, p.2]) δ1 S1) (fun p S' => match p.2 with
      | .nx => ∀ σ' H' B' ρ', Rel F O B' ρ' σ' H' p.1 S' → Gr ρ (Own B) H ρ' H' → (∀ b, Own B' b → Own B b ∨ Nw H b) → Dn.nx σ' H'
      | .bk => True
      | .ct => True
      | .rt d => ∀ v H' ρ', End F ρ' H' S' → Rp F.K F.ca ρ' (hid (Zf F ρ') H') v d → Dn.rt v H') → LoopZ st (dG F O Og g) (dS F Og O O bd) Dn vs σ1 H1
  | [], vs, σ1, B1, ρ1, H1, δ1, S1, r1, g1, n1, z, z2, q => by
    have hv : vs = [] := by
      have := RinL.len z
      simpa using this
    subst hv
    exact (q : ∀ σ' H' B' ρ', _) σ1 H1 B1 ρ1 r1 g1 n1
  | (d, e) :: ds, vs, σ1, B1, ρ1, H1, δ1, S1, r1, g1, n1, z, z2, q => by
    match vs, z, z2 with
    | [], z, _ => exact absurd (RinL.len z) (by simp)
    | (x, y) :: vs, z, z2 =>
      have z : RpL F.K F.ca ρ1 (hid (Zo F B1 ρ1) H1) (x :: vs.map (·.1)) (d :: ds.map (·.1)) := z
      have z2 : RpL F.K F.ca ρ1 (hid (Zo F B1 ρ1) H1) (y :: vs.map (·.2)) (e :: ds.map (·.2)) := z2
      cases z with
      | cons zx zs =>
        cases z2 with
        | cons zy zs2 =>
          intro T HT nT sT hT
          have rT := r1.same sT
          have gT : Gr ρ1 NoZ H1 ρ1 HT := Gr.same sT
          have gT1 := g1.tr gT
          have seeT := gT.seesO (F := F) (B := B1)
          rw [List.map_cons] at q
          unfold forL at q
          have noT : ¬ Zo F B1 ρ1 T := fun z => by
            rcases z with (z | z) | z
            · exact r1.sta.live T (.inl (.inl z)) (Nw.of nT)
            · exact r1.sta.live T (.inl (.inr z)) (Nw.of nT)
            · exact r1.sta.live T (.inr z) (Nw.of nT)
          refine ⟨B1, ρ1, δ1, S1, .tup [d, e], rT, (Rp.tup (SqT.of (hid_iff.mpr ⟨noT, hT⟩)) (.cons (zx.mono (fun _ _ e => e) seeT) (.cons (zy.mono (fun _ _ e => e) seeT) .nil)) : Rp F.K F.ca ρ1 (hid (Zo F B1 ρ1) HT) (.ref T) (.tup [d, e])), q.bind.imp fun δ2 S2 q σ2 H2 B2 ρ2 r2 g2 n2 => ?_⟩
          have n2' : ∀ b, Own B2 b → Own B b ∨ Nw H b := fun b h => by
            rcases n2 b h with h | h
            · exact n1 b h
            · exact .inr (Classical.byContradiction fun y => gT1.alive b y h)
          have g2' := gT1.trans g2 n1
          refine ⟨B2, ρ2, δ2, S2, r2, q.bind.imp fun p S3 q => ?_⟩
          have later : ∀ {σ3 H3 B3 ρ3}, Rel F O B3 ρ3 σ3 H3 p.1 S3 → Gr ρ2 (Own B2) H2 ρ3 H3 → (∀ b, Own B3 b → Own B2 b ∨ Nw H2 b) → Ok1 F (forL g bd (ds.map fun p => .tup [p.1, p.2]) p.1 S3) (fun p S' => match p.2 with
              | .nx => ∀ σ' H' B' ρ', Rel F O B' ρ' σ' H' p.1 S' → Gr ρ (Own B) H ρ' H' → (∀ b, Own B' b → Own B b ∨ Nw H b) → Dn.nx σ' H'
              | .bk => True
              | .ct => True
              | .rt d => ∀ v H' ρ', End F ρ' H' S' → Rp F.K F.ca ρ' (hid (Zf F ρ') H') v d → Dn.rt v H') → st H3 ∧ LoopZ st (dG F O Og g) (dS F Og O O bd) Dn vs σ3 H3 := fun {σ3 H3 B3 ρ3} r3 g3 n3 q => by
            have n3' : ∀ b, Own B3 b → Own B b ∨ Nw H b := fun b h => by
              rcases n3 b h with h | h
              · exact n2' b h
              · exact .inr (Classical.byContradiction fun y => g2'.alive b y h)
            have g3' := g2'.trans g3 n2'
            have s1 : LamX.ExtN (hid (Zo F B1 ρ1) HT) (hid (Zo F B3 ρ3) H3) := (g2.trans g3 n2).sees (Z := fun b => F.Xs b ∨ Own B1 b) (Z1 := fun b => F.Xs b ∨ Own B3 b) (fun b h => .inl (.inr h)) (fun b h => by
              rcases h with h | h
              · exact .inl (.inl h)
              · rcases n3 b h with h | h
                · exact (n2 b h).imp .inr id
                · exact .inr (Classical.byContradiction fun y => g2.alive b y h))
            have at3 : ∀ (k : Nat) (x : Addr), ρ1[k]? = some x → ρ3[k]? = some x := fun k x e => g3.at k x (g2.at k x e)
            exact ⟨hst H3 ρ3 g3', loopZ_of hst ds vs σ3 B3 ρ3 H3 p.1 S3 r3 g3' n3' (RpL.mono at3 s1 (RpL.mono (fun _ _ e => e) seeT zs)) (RpL.mono at3 s1 (RpL.mono (fun _ _ e => e) seeT zs2)) q⟩
          obtain ⟨δ3, f⟩ := p
          cases f with
          | nx => exact fun σ3 H3 B3 ρ3 r3 g3 n3 => later r3 g3 n3 q
          | ct => exact fun σ3 H3 B3 ρ3 r3 g3 n3 => later r3 g3 n3 q
          | bk =>
            exact fun σ3 H3 B3 ρ3 r3 g3 n3 => (q : ∀ σ' H' B' ρ', _) σ3 H3 B3 ρ3 r3 (g2'.trans g3 n2') fun b h => by
              rcases n3 b h with h | h
              · exact n2' b h
              · exact .inr (Classical.byContradiction fun y => g2'.alive b y h)
          | rt d => exact q
def enumD (n : Nat) : List D → List (D × D)
  | [] => []
  | x :: r => (.int (n : Nat), x) :: enumD (n + 1) r
def pairsD (l : List (D × D)) : List D := l.map fun p => .tup [p.1, p.2]
end
end Fg

set_option Elab.async false
set_option linter.all false
set_option maxRecDepth 100000
set_option maxHeartbeats 4000000
namespace Fg
open PySem PySem.Spec PyProof.Rows L2
variable [TQ]
/-! ### zip and enumerate in a for -/
def itD : D → Option (List D)
  | .lst ds => some ds
  | .tup ds => some ds
  | .str z => some (signsD z)
  | _ => none
theorem sd_of {K : PySem.W.Frag} {F : Fr} {B : Nat → Option Addr} {ρ : List Addr} {H : Hp} {v : V} {d : D} {ds : List D} (hK : F.K = K) (z : Rin F .fz B ρ H v d) (e : itD d = some ds) :
    ∃ (sd : Sd) (vs : List V), v = sd.v ∧ RinL F .fz B ρ H vs ds ∧ ∀ H1 ρ1, Gr ρ (Own B) H ρ1 H1 → sd.has K H1 vs := by
  have see : ∀ {H1 ρ1}, Gr ρ (Own B) H ρ1 H1 → LamX.ExtN (hid (Zo F B ρ) H) H1 := fun {H1 ρ1} g b o e ht => by
    obtain ⟨no, e⟩ := hid_iff.mp e
    exact g.keep b o (fun z => no (.inr z)) (fun z => no (.inl (.inr z))) ht e
  subst hK
  cases d <;> first | cases e | skip
  · obtain rfl := Rin.str (m := .fz) z
    exact ⟨.S _, _, rfl, rpL_map (fun c => .str) _, fun _ _ _ => rfl⟩
  · have z : Rp F.K F.ca ρ (hid (Zo F B ρ) H) v (.tup ds) := z
    cases z with
    | tup h1 h2 => exact ⟨.T _, _, rfl, h2, fun H1 ρ1 g => SqT.ext (see g) h1⟩
  · have z : Rp F.K F.ca ρ (hid (Zo F B ρ) H) v (.lst ds) := z
    cases z with
    | lst h1 h2 => exact ⟨.L _, _, rfl, h2, fun H1 ρ1 g => SqL.of (see g _ _ h1 fun _ z => by cases z)⟩
def zipM2 (t : DEnv → M (List D)) : DEnv → M (List D) := fun δ => do
  let ds ← t δ
  match ds with
  | [x, y] => match itD x, itD y with
    | some xs, some ys => if xs.length = ys.length then pure (pairsD (xs.zip ys)) else M.stuck
    | _, _ => M.stuck
  | _ => M.stuck
def enumM2 (t : DEnv → M (List D)) : DEnv → M (List D) := fun δ => do
  let ds ← t δ
  match ds with
  | [x] => match itD x with
    | some xs => pure (pairsD (enumD 0 xs))
    | _ => M.stuck
  | _ => M.stuck
theorem enumD_len : ∀ (n : Nat) (xs : List D), (enumD n xs).length = xs.length
  | _, [] => rfl
  | n, _ :: r => congrArg Nat.succ (enumD_len (n + 1) r)
def enumV (n : Nat) : List V → List (V × V)
  | [] => []
  | x :: r => (.int (n : Nat), x) :: enumV (n + 1) r
theorem enumV_len : ∀ (n : Nat) (xs : List V), (enumV n xs).length = xs.length
  | _, [] => rfl
  | n, _ :: r => congrArg Nat.succ (enumV_len (n + 1) r)
theorem enumV_get : ∀ (n : Nat) (xs : List V) (i : Nat), (enumV n xs)[i]? = xs[i]?.map fun x => (V.int ((n + i : Nat) : Int), x)
  | _, [], _ => by simp [enumV]
  | n, x :: r, 0 => by simp [enumV]
  | n, x :: r, i + 1 => by
    show (enumV (n + 1) r)[i]? = r[i]?.map _
    rw [enumV_get (n + 1) r i, show n + 1 + i = n + (i + 1) by omega]
section
variable {K : PySem.W.Frag} {ca : Str → Option Addr} {ρ : List Addr} {G : Hp}
theorem enum1 : ∀ (n : Nat) {vs : List V} {ds : List D}, RpL K ca ρ G vs ds → RpL K ca ρ G ((enumV n vs).map (·.1)) ((enumD n ds).map (·.1))
  | _, _, _, .nil => .nil
  | n, _, _, .cons _ t => .cons .int (enum1 (n + 1) t)
theorem enum2 : ∀ (n : Nat) {vs : List V} {ds : List D}, RpL K ca ρ G vs ds → RpL K ca ρ G ((enumV n vs).map (·.2)) ((enumD n ds).map (·.2))
  | _, _, _, .nil => .nil
  | n, _, _, .cons h t => .cons h (enum2 (n + 1) t)
theorem zip1 : ∀ {vs ws : List V} {ds es : List D}, ds.length = es.length → RpL K ca ρ G vs ds → RpL K ca ρ G ws es → RpL K ca ρ G ((vs.zip ws).map (·.1)) ((ds.zip es).map (·.1))
  | _, _, [], [], _, .nil, .nil => .nil
  | _, _, _ :: _, _ :: _, h, .cons a t, .cons _ u => .cons a (zip1 (Nat.succ.inj h) t u)
theorem zip2 : ∀ {vs ws : List V} {ds es : List D}, ds.length = es.length → RpL K ca ρ G vs ds → RpL K ca ρ G ws es → RpL K ca ρ G ((vs.zip ws).map (·.2)) ((ds.zip es).map (·.2))
  | _, _, [], [], _, .nil, .nil => .nil
  | _, _, _ :: _, _ :: _, h, .cons _ t, .cons b u => .cons b (zip2 (Nat.succ.inj h) t u)
end
section
variable {X : Cx} {F : Fr} {O O' O1 O2 OL : List Nat} {m mi : Md} {pos pos' p tpos : Pos} {a b c e e2 tg : Expr} {rest es elts : List Expr} {i kk : Nat} {g : TG} {tb : TS} {ta : TA} {body : List Stmt}
theorem fs_forZg (hp : PassesOwn (model X.prog X.w) X.A X.env X.xe) (hc : X.calm = true) (hgl : Gl X "zip") (hm : X.mg "zip" = none) (ha : PA X [e, e2] ta) (hg : PG X (.Tuple elts kk tpos) g) (hb : PSs X body tb)
    (hst : starEach [e, e2] X.env = (false, eval e X.env) :: starEach [e2] X.env := by rfl) (hpl : (backTo pos (starEach [e2] X.env)).any (·.1) = false := by rfl) (hs : ∀ x, foldedSetIterable (.Call (.Name "zip" p) [e, e2] [] pos) X.env x = pure x := by intro _; rfl) :
    PS X (.For (.Tuple elts kk tpos) (.Call (.Name "zip" p) [e, e2] [] pos) body [] pos') (fun D σ H => ta σ H fun vs H1 => ∃ (d1 d2 : Sd) (xs ys : List V), vs = [d1.v, d2.v] ∧ (d1.has X.K H1 xs ∧ d2.has X.K H1 ys) ∧ xs.length = ys.length ∧ LoopZ (fun H => d1.has X.K H xs ∧ d2.has X.K H ys) g tb D (xs.zip ys) σ H1) :=
  ps_imp (ps_for hp hc (pi_zipM hgl hm (pa_up ha) hst hpl) hg hb hs) fun D σ H q => ⟨_, q, fun vs H1 ⟨d1, d2, xs, ys, hv, hxy, hl, q⟩ => by
  have hz : (xs.zip ys).length = xs.length := by rw [List.length_zip, hl, Nat.min_self]
  refine ⟨d1, d2, xs, ys, hv, hxy.1, hxy.2, hl, loopZ_it (J := ItM X.K d1 d2) (st := fun H => d1.has X.K H xs ∧ d2.has X.K H ys) (fun i H hi h => ?_) (fun i H x H' h y => ?_) (fun H h => ?_) hxy q⟩
  · rw [hz] at hi
    exact ⟨xs, ys, h.1, h.2, hi, hl⟩
  · obtain ⟨T, x1, x2, rfl, nT, rfl, f1, f2⟩ := y
    refine ⟨T, rfl, nT, fun p hp => ?_⟩
    rw [List.getElem?_zip_eq_some] at hp
    have e1 := (f1 _ h.1).symm.trans hp.1
    have e2 := (f2 _ h.2).symm.trans hp.2
    rw [Option.some.inj e1, Option.some.inj e2]
  · exact ⟨xs, ys, h.1, h.2, hz, hl⟩⟩
theorem fs_forEg (hp : PassesOwn (model X.prog X.w) X.A X.env X.xe) (hc : X.calm = true) (hgl : Gl X "enumerate") (hm : X.mg "enumerate" = none) (ha : PA X [e] ta) (hg : PG X (.Tuple elts kk tpos) g) (hb : PSs X body tb)
    (hst : starEach [e] X.env = [(false, eval e X.env)] := by rfl) (hs : ∀ x, foldedSetIterable (.Call (.Name "enumerate" p) [e] [] pos) X.env x = pure x := by intro _; rfl) :
    PS X (.For (.Tuple elts kk tpos) (.Call (.Name "enumerate" p) [e] [] pos) body [] pos') (fun D σ H => ta σ H fun vs H1 => ∃ (d : Sd) (xs : List V), vs = [d.v] ∧ d.has X.K H1 xs ∧ LoopZ (fun H => d.has X.K H xs) g tb D (enumV 0 xs) σ H1) :=
  ps_imp (ps_for hp hc (pi_enumM hgl hm (pa_up ha) hst) hg hb hs) fun D σ H q => ⟨_, q, fun vs H1 ⟨d, xs, hv, hx, q⟩ => by
    refine ⟨d, xs, hv, hx, loopZ_it (J := IeM X.K d) (st := fun H => d.has X.K H xs) (fun i H hi h => ?_) (fun i H x H' h y => ?_) (fun H h => ?_) hx q⟩
    · rw [enumV_len] at hi
      exact ⟨xs, h, hi⟩
    · obtain ⟨T, x1, rfl, nT, rfl, f1⟩ := y
      refine ⟨T, rfl, nT, fun p hp => ?_⟩
      have e1 : xs[i]? = some x1 := f1 _ h
      rw [enumV_get, e1] at hp
      cases hp
      rw [Nat.zero_add]
    · exact ⟨xs, h, enumV_len 0 xs⟩⟩
theorem endsZ {B : Nat → Option Addr} {ρ ρ' : List Addr} {H H' : Hp} {Dn : Ends} {p : DEnv × Fl} {S2 : Sto} (g' : Gr ρ NoZ H ρ' H') (k : match p.2 with
      | .nx => ∀ σ' H' B' ρ', Rel F O B' ρ' σ' H' p.1 S2 → Gr ρ (Own B) H ρ' H' → (∀ b, Own B' b → Own B b ∨ Nw H b) → Dn.nx σ' H'
      | .bk => ∀ σ' H' B' ρ', Rel F OL B' ρ' σ' H' p.1 S2 → Gr ρ (Own B) H ρ' H' → (∀ b, Own B' b → Own B b ∨ Nw H b) → Dn.bk σ' H'
      | .ct => ∀ σ' H' B' ρ', Rel F OL B' ρ' σ' H' p.1 S2 → Gr ρ (Own B) H ρ' H' → (∀ b, Own B' b → Own B b ∨ Nw H b) → Dn.ct σ' H'
      | .rt d => ∀ v H' ρ', End F ρ' H' S2 → Rp F.K F.ca ρ' (hid (Zf F ρ') H') v d → Dn.rt v H') : match p.2 with
      | .nx => ∀ σ2 H2 B2 ρ2, Rel F O B2 ρ2 σ2 H2 p.1 S2 → Gr ρ' (Own B) H' ρ2 H2 → (∀ b, Own B2 b → Own B b ∨ Nw H' b) → Dn.nx σ2 H2
      | .bk => True
      | .ct => True
      | .rt d => ∀ v H' ρ', End F ρ' H' S2 → Rp F.K F.ca ρ' (hid (Zf F ρ') H') v d → Dn.rt v H' := by
  obtain ⟨δ2, f⟩ := p
  cases f with
  | nx =>
    exact fun σ2 H2 B2 ρ2 r2 g2 n2 => k σ2 H2 B2 ρ2 r2 (g'.wk.trans g2 fun b h => .inl h) fun b h => by
      rcases n2 b h with h | h
      · exact .inl h
      · exact .inr (Classical.byContradiction fun y => g'.alive b y h)
  | bk => trivial
  | ct => trivial
  | rt d => exact k
theorem psd_forZ {t : DEnv → M (List D)} {g : D → DEnv → M DEnv} {bd : DEnv → M (DEnv × Fl)} {Og : List Nat} (hK : F.K = X.K) (hp : PassesOwn (model X.prog X.w) X.A X.env X.xe) (hc : X.calm = true) (hgl : Gl X "zip") (hm : X.mg "zip" = none) (ha : PAD X F O .fz [e, e2] t) (hg : PGD X F O Og (.Tuple elts kk tpos) g) (hb : PSsD X F Og O O body bd)
    (hst : starEach [e, e2] X.env = (false, eval e X.env) :: starEach [e2] X.env := by rfl) (hpl : (backTo pos (starEach [e2] X.env)).any (·.1) = false := by rfl) (hs : ∀ x, foldedSetIterable (.Call (.Name "zip" p) [e, e2] [] pos) X.env x = pure x := by intro _; rfl) :
    PSD X F O O OL (.For (.Tuple elts kk tpos) (.Call (.Name "zip" p) [e, e2] [] pos) body [] pos') (forS (zipM2 t) g bd) := ps_imp (fs_forZg hp hc hgl hm ha hg hb hst hpl hs) fun Dn σ H ⟨B, ρ, δ, S, r, q⟩ => ⟨B, ρ, δ, S, r, q.bind.bind.imp fun ds S' q vs H' ρ' r' g' z => by
  match ds, z, q with
  | [x, y], z, q =>
    have z : RpL F.K F.ca ρ' (hid (Zo F B ρ') H') vs [x, y] := z
    cases z with
    | cons z1 zn =>
      cases zn with
      | cons z2 zn =>
        cases zn
        have q : Ok1 F ((match itD x, itD y with
          | some xs, some ys => if xs.length = ys.length then pure (pairsD (xs.zip ys)) else M.stuck
          | _, _ => M.stuck) S') _ := q
        cases e1 : itD x with
        | none => rw [e1] at q; exact q.elim
        | some xs =>
          cases e2 : itD y with
          | none => rw [e1, e2] at q; exact q.elim
          | some ys =>
            rw [e1, e2] at q
            dsimp only at q
            split at q
            · rename_i hl
              obtain ⟨d1, v1, rfl, l1, k1⟩ := sd_of hK z1 e1
              obtain ⟨d2, v2, rfl, l2, k2⟩ := sd_of hK z2 e2
              have hv : v1.length = v2.length := by rw [RinL.len l1, RinL.len l2, hl]
              exact ⟨d1, d2, v1, v2, rfl, ⟨k1 _ _ (Gr.refl _ _ _), k2 _ _ (Gr.refl _ _ _)⟩, hv, loopZ_of (B := B) (H := H') (fun H1 ρ1 g => ⟨k1 _ _ g, k2 _ _ g⟩) (xs.zip ys) (v1.zip v2) σ B ρ' H' δ S' r' (Gr.refl _ _ _) (fun b h => .inl h) (zip1 hl l1 l2) (zip2 hl l1 l2) ((show Ok1 F (forL g bd (pairsD (xs.zip ys)) δ S') _ from q).imp fun p S2 k => endsZ g' k)⟩
            · exact q.stuck.elim
  | [], _, q => exact (show False from q).elim
  | [_], _, q => exact (show False from q).elim
  | _ :: _ :: _ :: _, _, q => exact (show False from q).elim⟩
theorem psd_forE {t : DEnv → M (List D)} {g : D → DEnv → M DEnv} {bd : DEnv → M (DEnv × Fl)} {Og : List Nat} (hK : F.K = X.K) (hp : PassesOwn (model X.prog X.w) X.A X.env X.xe) (hc : X.calm = true) (hgl : Gl X "enumerate") (hm : X.mg "enumerate" = none) (ha : PAD X F O .fz [e] t) (hg : PGD X F O Og (.Tuple elts kk tpos) g) (hb : PSsD X F Og O O body bd)
    (hst : starEach [e] X.env = [(false, eval e X.env)] := by rfl) (hs : ∀ x, foldedSetIterable (.Call (.Name "enumerate" p) [e] [] pos) X.env x = pure x := by intro _; rfl) :
    PSD X F O O OL (.For (.Tuple elts kk tpos) (.Call (.Name "enumerate" p) [e] [] pos) body [] pos') (forS (enumM2 t) g bd) := ps_imp (fs_forEg hp hc hgl hm ha hg hb hst hs) fun Dn σ H ⟨B, ρ, δ, S, r, q⟩ => ⟨B, ρ, δ, S, r, q.bind.bind.imp fun ds S' q vs H' ρ' r' g' z => by
  match ds, z, q with
  | [x], z, q =>
    have z : RpL F.K F.ca ρ' (hid (Zo F B ρ') H') vs [x] := z
    cases z with
    | cons z1 zn =>
      cases zn
      have q : Ok1 F ((match itD x with
        | some xs => pure (pairsD (enumD 0 xs))
        | _ => M.stuck) S') _ := q
      cases e1 : itD x with
      | none => rw [e1] at q; exact q.elim
      | some xs =>
        rw [e1] at q
        obtain ⟨d1, v1, rfl, l1, k1⟩ := sd_of hK z1 e1
        exact ⟨d1, v1, rfl, k1 _ _ (Gr.refl _ _ _), loopZ_of (B := B) (H := H') (fun H1 ρ1 g => k1 _ _ g) (enumD 0 xs) (enumV 0 v1) σ B ρ' H' δ S' r' (Gr.refl _ _ _) (fun b h => .inl h) (enum1 0 l1) (enum2 0 l1) ((show Ok1 F (forL g bd (pairsD (enumD 0 xs)) δ S') _ from q).imp fun p S2 k => endsZ g' k)⟩
  | [], _, q => exact (show False from q).elim
  | _ :: _ :: _, _, q => exact (show False from q).elim⟩
end
end Fg

set_option Elab.async false
set_option linter.all false
set_option maxRecDepth 100000
set_option maxHeartbeats 4000000
namespace Fg
open PySem PySem.Spec PyProof.Rows L2
variable [TQ]
/-! ### new things -/
section
variable {F : Fr} {O : List Nat} {B : Nat → Option Addr} {ρ ρ' : List Addr} {σ : L2.St} {H H' H1 : Hp} {δ : DEnv} {S S' : Sto} {v : V} {d : D} {m mi : Md}
theorem Sta.new {K : PySem.W.Frag} {ca : Str → Option Addr} {Z : Addr → Prop} {p : Addr} (s : Sta K ca ρ Z H S) (e : Same H H') (n : H p = none) (n' : ¬ Nw H' p) : Sta K ca ρ (fun b => Z b ∨ b = p) H' S := by
  have g : Gr ρ NoZ H ρ H' := Gr.same e
  refine ⟨fun b h => ?_, s.nd, fun b hb z => ?_, SrL.mono (fun _ _ e => e) (g.sees (Z := Z) (Z1 := fun b => Z b ∨ b = p) (fun _ z => z.elim) fun b h => h.elim .inl fun z => .inr (z ▸ Nw.of n)) (fun a _ o _ h => e a o h) s.sto⟩
  · rcases h with (h | h) | h
    · exact g.alive b (s.live b (.inl h))
    · rw [h]; exact n'
    · exact g.alive b (s.live b (.inr h))
  · rcases z with z | z
    · exact s.xr b hb z
    · exact s.live b (.inr hb) (z ▸ Nw.of n)
/-- a new list, dict -/
theorem res_new {p : Addr} (r : Rel F O B ρ σ H δ S) (g : Gr ρ' NoZ H1 ρ H) (e : Same H H') (n : H p = none) (n' : ¬ Nw H' p) (t : Top F.K F.ca ρ (hid (fun b => Zo F B ρ b ∨ b = p) H') H' p d) : Res F .nw B ρ H1 H' S (.ref p) d :=
  ⟨p, rfl, Classical.byContradiction fun z => g.alive p z (Nw.of n), fun z => r.sta.live p (.inr z) (Nw.of n), r.sta.new e n n', t⟩
theorem seesN {p : Addr} (e : Same H H') (n : H p = none) : LamX.ExtN (hid (Zo F B ρ) H) (hid (fun b => Zo F B ρ b ∨ b = p) H') := fun b o h _ => by
  obtain ⟨no, h⟩ := hid_iff.mp h
  exact hid_iff.mpr ⟨fun z => z.elim no fun z => (by rw [z, n] at h; cases h), e b o h⟩
end
def capL (ds : List D) : M Unit := if ds.length ≤ sizeLine then pure () else M.stuck
section
variable {X : Cx} {F : Fr} {O O' O1 O2 OL : List Nat} {m mi : Md} {pos pos' p tpos : Pos} {a b c e e2 tg o : Expr} {rest es elts : List Expr} {i kk : Nat}
theorem Ok1.cap {ds : List D} {S : Sto} {P : Unit → Sto → Prop} (h : Ok1 F (capL ds S) P) : ds.length ≤ sizeLine ∧ P () S := by
  unfold capL at h
  split at h
  · exact ⟨‹_›, h⟩
  · exact h.stuck.elim
theorem pd_lst {t : DEnv → M (List D)} (h : PAD X F O .fz es t) : PED X F O .nw (.List es pos) (fun δ => do let ds ← t δ; capL ds; pure (.lst ds)) := pe_imp (fe_lst h) fun σ H Q ⟨B, ρ, δ, S, r, q⟩ => ⟨B, ρ, δ, S, r, q.bind.imp fun ds S' q vs H' ρ' r' g z => by
  obtain ⟨hc, q⟩ := q.bind.cap
  refine ⟨by rw [RinL.len z]; exact hc, fun p H2 np s2 h2 => ?_⟩
  exact (q : ∀ v H' ρ', _) _ H2 ρ' (r'.same s2) (g.tr (Gr.same s2)) (res_new r' g s2 np (Nw.live h2 fun _ z => by cases z) ⟨_, h2, RpL.mono (fun _ _ e => e) (seesN s2 np) z⟩)⟩
theorem pd_tup {x1} {t : DEnv → M (List D)} (h : PAD X F O m es t) (hm : m ≠ .nw := by decide) : PED X F O m (.Tuple es x1 pos) (fun δ => do let ds ← t δ; capL ds; pure (.tup ds)) := pe_imp (fe_tup h) fun σ H Q ⟨B, ρ, δ, S, r, q⟩ => ⟨B, ρ, δ, S, r, q.bind.imp fun ds S' q vs H' ρ' r' g z => by
  obtain ⟨hc, q⟩ := q.bind.cap
  refine ⟨by rw [RinL.len z]; exact hc, fun p H2 np s2 h2 => ?_⟩
  refine (q : ∀ v H' ρ', _) _ H2 ρ' (r'.same s2) (g.tr (Gr.same s2)) ?_
  have g2 : Gr ρ' NoZ H' ρ' H2 := Gr.same s2
  have z2 := RinL.gr z g2
  have no : ¬ Zo F B ρ' p := fun z => by
    rcases z with (z | z) | z
    · exact r'.sta.live p (.inl (.inl z)) (Nw.of np)
    · exact r'.sta.live p (.inl (.inr z)) (Nw.of np)
    · exact r'.sta.live p (.inr z) (Nw.of np)
  cases m
  · exact .tup (SqT.of (hid_iff.mpr ⟨fun z => no (zf_zo z), h2⟩)) z2
  · exact .tup (SqT.of (hid_iff.mpr ⟨no, h2⟩)) z2
  · exact absurd rfl hm⟩
/-! ### append -/
theorem Ok1.itL {x : D} {S : Sto} {P : List D → Sto → Prop} (h : Ok1 F (itL x S) P) : ∃ ds, x = .lst ds ∧ P ds S := by
  cases x <;> first | exact h.elim | exact ⟨_, rfl, h⟩
theorem Ok1.itT {x : D} {S : Sto} {P : List D → Sto → Prop} (h : Ok1 F (itT x S) P) : ∃ ds, x = .tup ds ∧ P ds S := by
  cases x <;> first | exact h.elim | exact ⟨_, rfl, h⟩
theorem Ok1.ite {α : Type} {p : Prop} [Decidable p] {x : M α} {S : Sto} {P : α → Sto → Prop} (h : Ok1 F ((if p then x else M.stuck) S) P) : p ∧ Ok1 F (x S) P := by
  split at h
  · exact ⟨‹_›, h⟩
  · exact h.stuck.elim
def appS (i : Nat) (t : DEnv → M D) : DEnv → M (DEnv × Fl) := fun δ => do
  let x ← rd i δ
  let ds ← itL x
  let d ← t δ
  if ds.length < sizeLine then pure (δ.set i (some (.lst (ds ++ [d]))), Fl.nx) else M.stuck
theorem psd_app {x : Str} {t : DEnv → M D} {npos apos cpos : Pos} (i : Nat) (h : PED X F O .fz e t) (ho : i ∈ O := by decide) (hN : X.N[i]? = some x := by rfl) (hv : Vis X.env.scope x := by first | exact Or.inl rfl | exact Or.inr (Or.inl rfl) | exact Or.inr (Or.inr rfl))
    (hbase : attributeBase (.Name x npos) "append" X.env (eval (.Name x npos) X.env) = eval (.Name x npos) X.env := by rfl)
    (hfew : ((backTo cpos (starEach [e] X.env)).all (fun x => !x.1) && (backToKw cpos (keywordEach [] X.env)).all (fun x => x.1.isSome)
      && decide ([e].length + ([] : List Keyword).length + (if ([] : List Keyword).isEmpty then 0 else 1) < 30)) = true := by rfl)
    (hline : (apos.endLine == cpos.line) = true := by rfl) (hs : starEach [e] X.env = (false, eval e X.env) :: starEach [] X.env := by rfl) (hplain : (backTo cpos (starEach [] X.env)).any (·.1) = false := by rfl)
    (hsw : swapsWith (.Call (.Attribute (.Name x npos) "append" apos) [e] [] cpos) none pos.line X.env = pure false := by rfl) (hd : (x == ("__debug__" : Str)) = false := by decide)
    (hcd : (x == ("__classdict__" : Str)) = false := by decide) :
    PSD X F O O OL (.Expr (.Call (.Attribute (.Name x npos) "append" apos) [e] [] cpos) pos) (appS i t) := ps_imp (ps_expr (fe_append (fv i hN hv hd hcd) h hbase hfew hline hs hplain) hsw) fun Dn σ H ⟨B, ρ, δ, S, r, q⟩ => by
  obtain ⟨a, eb⟩ := (r.own i).mpr ho
  obtain ⟨d0, e0⟩ := r.ownd i a eb
  have s0 := r.slot i d0 e0
  unfold SlAt at s0
  rw [eb] at s0
  obtain ⟨h1, t0⟩ := s0
  obtain ⟨x0, ex, q⟩ := (show Ok1 F (M.opt δ[i]?.join S) _ from q.bind).opt
  cases e0.symm.trans (rd_get ex)
  obtain ⟨ds, ed, q2⟩ := q.bind.itL
  clear q
  subst ed
  unfold tDrop tApp tV
  rw [h1]
  obtain ⟨vs, hv, _⟩ := t0
  refine ⟨⟨vs, hv⟩, B, ρ, δ, S, r, q2.bind.imp fun d S' q v H' ρ' r' g z => ?_⟩
  obtain ⟨hl, q⟩ := q.ite
  have s1 := r'.slot i _ e0
  unfold SlAt at s1
  rw [eb] at s1
  obtain ⟨_, ws, hw, tw⟩ := s1
  refine ⟨ws, hw, by rw [RpL.length tw]; exact hl, fun H2 b2 h2 => ?_⟩
  obtain ⟨r2, g2⟩ := r'.put (d := .lst (ds ++ [d])) eb b2 hw h2 (fun _ z => by cases z) (fun _ z => by cases z) ⟨_, h2, RpL.append tw (.cons z .nil)⟩
  exact (q : ∀ σ' H' B' ρ', _) σ H2 B ρ' r2 (g.wk.trans g2 fun b h => .inl h) fun b h => .inl h
end
end Fg

set_option Elab.async false
set_option linter.all false
set_option maxRecDepth 100000
set_option maxHeartbeats 4000000
namespace Fg
open PySem PySem.Spec PyProof.Rows L2
variable [TQ]
/-! ### operators on data -/
instance (i j : Int) : Decidable (CBig i j) := by unfold CBig; infer_instance
instance (i j : Int) : Decidable (CM i j) := by unfold CM; infer_instance
instance (i j : Int) : Decidable (CDv i j) := by unfold CDv; infer_instance
instance (i j : Int) : Decidable (CPow i j) := by unfold CPow; infer_instance
def addD : D → D → M D
  | .int i, .int j => pure (.int (i + j))
  | .str a, .str b => if a.length + b.length ≤ sizeLine then pure (.str (a ++ b)) else M.stuck
  | _, _ => M.stuck
def catD : D → D → M D
  | .lst a, .lst b => if a.length + b.length ≤ sizeLine then pure (.lst (a ++ b)) else M.stuck
  | _, _ => M.stuck
def subD : D → D → M D
  | .int i, .int j => pure (.int (i - j))
  | _, _ => M.stuck
def mulD : D → D → M D
  | .int i, .int j => if CM i j then pure (.int (i * j)) else M.stuck
  | _, _ => M.stuck
def modD : D → D → M D
  | .int i, .int j => if 0 < j then pure (.int (i % j)) else M.stuck
  | _, _ => M.stuck
def fdivD : D → D → M D
  | .int i, .int j => if CDv i j then pure (.int (i / j)) else M.stuck
  | _, _ => M.stuck
def powD : D → D → M D
  | .int i, .int j => if CPow i j then pure (.int (i ^ j.toNat)) else M.stuck
  | _, _ => M.stuck
def ltD : D → D → M D
  | .int i, .int j => pure (.bl (decide (i < j)))
  | _, _ => M.stuck
def leD : D → D → M D
  | .int i, .int j => pure (.bl (decide (i ≤ j)))
  | _, _ => M.stuck
def gtD : D → D → M D
  | .int i, .int j => pure (.bl (decide (j < i)))
  | _, _ => M.stuck
def geD : D → D → M D
  | .int i, .int j => pure (.bl (decide (j ≤ i)))
  | _, _ => M.stuck
/-- == of plain things -/
def eqS : D → D → Option Bool
  | .int i, .int j => some (decide (i = j))
  | .str i, .str j => some (decide (i = j))
  | .bl i, .bl j => some (decide (i = j))
  | .non, .non => some true
  | .non, .int _ => some false | .int _, .non => some false | .non, .bl _ => some false | .bl _, .non => some false
  | .non, .str _ => some false | .str _, .non => some false
  | .int _, .str _ => some false | .str _, .int _ => some false | .bl _, .str _ => some false | .str _, .bl _ => some false
  | _, _ => none
def eqD (x y : D) : M D := do let b ← M.opt (eqS x y); pure (.bl b)
def neD (x y : D) : M D := do let b ← M.opt (eqS x y); pure (.bl !b)
/-- x is None -/
def isNonD (neg : Bool) : D → D → M D
  | .non, .non => pure (.bl !neg)
  | _, .non => pure (.bl neg)
  | _, _ => M.stuck
/-- x is not True, False -/
def notBlD : D → D → M D
  | .bl a, .bl b => pure (.bl !decide (a = b))
  | .non, .bl _ => pure (.bl true)
  | .int _, .bl _ => pure (.bl true)
  | .str _, .bl _ => pure (.bl true)
  | _, _ => M.stuck
def isSign (a : Str) : Option Nat := match a.cps.toList with
  | [c] => some c
  | _ => none
/-- sign in text -/
def inSD (neg : Bool) : D → D → M D
  | .str a, .str z => do let c ← M.opt (isSign a); pure (.bl (opp neg (decide (c ∈ z.cps.toList))))
  | _, _ => M.stuck
section
variable {F : Fr} {m mi : Md} {O : List Nat} {B : Nat → Option Addr} {ρ : List Addr} {σ : L2.St} {H H' : Hp} {δ : DEnv} {S S' : Sto} {v w : V} {d e : D} {Q : VK} {r0 : R2}
theorem o_add (hm : mi = m) (h2 : m ≠ .nw) : OpD F mi m fAdd addD := by
  intro O B ρ σ δ H S x y d e Q r hx hy q
  cases d <;> cases e <;> first | exact (show False from q).elim | skip
  · cases hx.int; cases hy.int
    exact Ok1.scal r (d := .int _) rfl h2 q
  · cases hx.str; cases hy.str
    obtain ⟨c, q⟩ := Ok1.ite q
    exact ⟨c, Ok1.scal r (d := .str _) rfl h2 q⟩
theorem o_int {g : Int → Int → D} {f : D → D → M D} (hf : ∀ i j, f (.int i) (.int j) = pure (g i j)) (hn : ∀ x y S, (∀ i j, ¬ (x = .int i ∧ y = .int j)) → f x y S = none) (hs : ∀ i j, scalD (g i j) = true) (h2 : m ≠ .nw) : OpD F mi m (fI fun i j => scV (g i j)) f := by
  intro O B ρ σ δ H S x y d e Q r hx hy q
  by_cases c : ∃ i j, d = .int i ∧ e = .int j
  · obtain ⟨i, j, rfl, rfl⟩ := c
    cases hx.int; cases hy.int
    rw [hf] at q
    exact Ok1.scal r (hs i j) h2 q
  · rw [hn d e S fun i j z => c ⟨i, j, z⟩] at q
    exact q.elim
theorem o_intc {C : Int → Int → Prop} [∀ i j, Decidable (C i j)] {g : Int → Int → D} {f : D → D → M D} (hf : ∀ i j, f (.int i) (.int j) = if C i j then pure (g i j) else M.stuck) (hn : ∀ x y S, (∀ i j, ¬ (x = .int i ∧ y = .int j)) → f x y S = none) (hs : ∀ i j, scalD (g i j) = true) (h2 : m ≠ .nw) : OpD F mi m (fIc C fun i j => scV (g i j)) f := by
  intro O B ρ σ δ H S x y d e Q r hx hy q
  by_cases c : ∃ i j, d = .int i ∧ e = .int j
  · obtain ⟨i, j, rfl, rfl⟩ := c
    cases hx.int; cases hy.int
    rw [hf] at q
    obtain ⟨c, q⟩ := Ok1.ite q
    exact ⟨c, Ok1.scal r (hs i j) h2 q⟩
  · rw [hn d e S fun i j z => c ⟨i, j, z⟩] at q
    exact q.elim
local macro_rules | `(tactic| walk_at "ni") => `(tactic| (intro x y S h; cases x <;> cases y <;> first | rfl | exact absurd ⟨rfl, rfl⟩ (h _ _)))
theorem o_sub (h2 : m ≠ .nw) : OpD F mi m (fI fun i j => .int (i - j)) subD := o_int (g := fun i j => .int (i - j)) (fun _ _ => rfl) (by walk_at "ni") (fun _ _ => rfl) h2
theorem o_lt (h2 : m ≠ .nw) : OpD F mi m (fI fun i j => .bl (decide (i < j))) ltD := o_int (g := fun i j => .bl (decide (i < j))) (fun _ _ => rfl) (by walk_at "ni") (fun _ _ => rfl) h2
theorem o_le (h2 : m ≠ .nw) : OpD F mi m (fI fun i j => .bl (decide (i ≤ j))) leD := o_int (g := fun i j => .bl (decide (i ≤ j))) (fun _ _ => rfl) (by walk_at "ni") (fun _ _ => rfl) h2
theorem o_gt (h2 : m ≠ .nw) : OpD F mi m (fI fun i j => .bl (decide (j < i))) gtD := o_int (g := fun i j => .bl (decide (j < i))) (fun _ _ => rfl) (by walk_at "ni") (fun _ _ => rfl) h2
theorem o_ge (h2 : m ≠ .nw) : OpD F mi m (fI fun i j => .bl (decide (j ≤ i))) geD := o_int (g := fun i j => .bl (decide (j ≤ i))) (fun _ _ => rfl) (by walk_at "ni") (fun _ _ => rfl) h2
theorem o_mul (h2 : m ≠ .nw) : OpD F mi m (fIc CM fun i j => .int (i * j)) mulD := o_intc (g := fun i j => .int (i * j)) (fun _ _ => rfl) (by walk_at "ni") (fun _ _ => rfl) h2
theorem o_mod (h2 : m ≠ .nw) : OpD F mi m (fIc (fun _ j => 0 < j) fun i j => .int (i % j)) modD := o_intc (g := fun i j => .int (i % j)) (fun _ _ => rfl) (by walk_at "ni") (fun _ _ => rfl) h2
theorem o_fdiv (h2 : m ≠ .nw) : OpD F mi m (fIc CDv fun i j => .int (i / j)) fdivD := o_intc (g := fun i j => .int (i / j)) (fun _ _ => rfl) (by walk_at "ni") (fun _ _ => rfl) h2
theorem o_pow (h2 : m ≠ .nw) : OpD F mi m (fIc CPow fun i j => .int (i ^ j.toNat)) powD := o_intc (g := fun i j => .int (i ^ j.toNat)) (fun _ _ => rfl) (by walk_at "ni") (fun _ _ => rfl) h2
theorem o_cat (hm : mi = m) (h2 : m ≠ .nw) : OpD F mi m fCat catD := by
  subst hm
  intro O B ρ σ δ H S x y d e Q r hx hy q
  cases d <;> cases e <;> first | exact (show False from q).elim | skip
  obtain ⟨a, vs, rfl, ha, la⟩ := hx.lst
  obtain ⟨b, ws, rfl, hb, lb⟩ := hy.lst
  obtain ⟨c, q⟩ := Ok1.ite q
  refine ⟨vs, ws, ha, hb, by rw [RinL.len la, RinL.len lb]; exact c, fun p H2 np s2 h2' => ?_⟩
  have g : Gr ρ NoZ H ρ H2 := Gr.same s2
  refine (q : ∀ v H' ρ', _) _ H2 ρ (r.same s2) g ?_
  have no : ¬ Zo F B ρ p := fun z => by
    rcases z with (z | z) | z
    · exact r.sta.live p (.inl (.inl z)) (Nw.of np)
    · exact r.sta.live p (.inl (.inr z)) (Nw.of np)
    · exact r.sta.live p (.inr z) (Nw.of np)
  cases mi
  · exact .lst (hid_iff.mpr ⟨fun z => no (zf_zo z), h2'⟩) (RpL.append (RinL.gr (m := .tr) (B := B) la g) (RinL.gr (m := .tr) (B := B) lb g))
  · exact .lst (hid_iff.mpr ⟨no, h2'⟩) (RpL.append (RinL.gr (m := .fz) la g) (RinL.gr (m := .fz) lb g))
  · exact absurd rfl h2
/-- of plain things -/
theorem scal_of {x y : D} {b : Bool} (h : eqS x y = some b) : scalD x = true ∧ scalD y = true ∧ scal (scV x) (scV y) = true ∧ b = decide (scV x = scV y) := by
  cases x <;> cases y <;> first | cases h | skip
  all_goals first
    | exact ⟨rfl, rfl, rfl, by simp [scV]⟩
    | (refine ⟨rfl, rfl, rfl, ?_⟩; simp [scV]; done)
theorem o_eq (h2 : m ≠ .nw) : OpD F mi m rEq eqD := by
  intro O B ρ σ δ H S x y d e Q r hx hy q
  obtain ⟨b, eb, q⟩ := q.bind.opt
  obtain ⟨s1, s2, s3, rfl⟩ := scal_of eb
  cases hx.scal s1; cases hy.scal s2
  exact ⟨s3, Ok1.scal r (d := .bl _) rfl h2 q⟩
theorem o_ne (h2 : m ≠ .nw) : OpD F mi m rNe neD := by
  intro O B ρ σ δ H S x y d e Q r hx hy q
  obtain ⟨b, eb, q⟩ := q.bind.opt
  obtain ⟨s1, s2, s3, rfl⟩ := scal_of eb
  cases hx.scal s1; cases hy.scal s2
  exact ⟨s3, Ok1.scal r (d := .bl _) rfl h2 q⟩
theorem o_isN {neg : Bool} (h2 : m ≠ .nw) : OpD F mi m (fIsN neg) (isNonD neg) := by
  intro O B ρ σ δ H S x y d e Q r hx hy q
  cases e <;> first | (cases d <;> exact (show False from q).elim) | skip
  cases hy.non
  cases d
  · cases hx.non; exact Ok1.scal r (d := .bl _) rfl h2 q
  · cases hx.bl; exact Ok1.scal r (d := .bl _) rfl h2 q
  · cases hx.int; exact Ok1.scal r (d := .bl _) rfl h2 q
  · cases hx.str; exact Ok1.scal r (d := .bl _) rfl h2 q
  · obtain ⟨a, _, rfl, _⟩ := hx.tup; exact Ok1.scal r (d := .bl _) rfl h2 q
  · obtain ⟨a, _, rfl, _⟩ := hx.lst; exact Ok1.scal r (d := .bl _) rfl h2 q
  · obtain ⟨a, _, rfl, _⟩ := hx.dct; exact Ok1.scal r (d := .bl _) rfl h2 q
  · obtain ⟨a, _, _, _, rfl, _⟩ := hx.obj; exact Ok1.scal r (d := .bl _) rfl h2 q
  · obtain ⟨a, rfl, _⟩ := hx.mt; exact Ok1.scal r (d := .bl _) rfl h2 q
theorem o_notBl (h2 : m ≠ .nw) : OpD F mi m rNotBl notBlD := by
  intro O B ρ σ δ H S x y d e Q r hx hy q
  cases d <;> cases e <;> first | exact (show False from q).elim | skip
  · cases hx.non; cases hy.bl; exact ⟨rfl, Ok1.scal r (d := .bl true) rfl h2 q⟩
  · cases hx.bl; cases hy.bl
    rename_i a b
    refine ⟨rfl, ?_⟩
    have z := Ok1.scal r (d := .bl !decide (a = b)) rfl h2 q
    have e : decide (V.bl a = V.bl b) = decide (a = b) := by
      by_cases h : a = b
      · rw [h]; simp
      · simp [h]
    rw [e]; exact z
  · cases hx.int; cases hy.bl; exact ⟨rfl, Ok1.scal r (d := .bl true) rfl h2 q⟩
  · cases hx.str; cases hy.bl; exact ⟨rfl, Ok1.scal r (d := .bl true) rfl h2 q⟩
theorem isSign_eq {a : Str} {c : Nat} (h : isSign a = some c) : a = ⟨#[c]⟩ := by
  unfold isSign at h
  split at h
  · rename_i c' e
    cases h
    obtain ⟨⟨l⟩⟩ := a
    have e : l = [c] := e
    rw [e]
  · cases h
theorem o_inS {neg : Bool} (h2 : m ≠ .nw) : OpD F mi m (fInS neg) (inSD neg) := by
  intro O B ρ σ δ H S x y d e Q r hx hy q
  cases d <;> cases e <;> first | exact (show False from q).elim | skip
  obtain ⟨c, ec, q⟩ := q.bind.opt
  cases hx.str; cases hy.str
  exact ⟨c, isSign_eq ec, Ok1.scal r (d := .bl _) rfl h2 q⟩
end
end Fg

set_option Elab.async false
set_option linter.all false
set_option maxRecDepth 100000
set_option maxHeartbeats 4000000
namespace Fg
open PySem PySem.Spec PyProof.Rows L2
variable [TQ]
/-! ### defs -/
def startD (n : Nat) (ds : List D) : DEnv := ds.map some ++ List.replicate (n - ds.length) none
/-- a def's body run with values -/
def runD (n : Nat) (b : DEnv → M (DEnv × Fl)) (ds : List D) : M D := do
  let p ← b (startD n ds)
  match p.2 with
  | .nx => pure .non
  | .rt d => pure d
  | _ => M.stuck
/-- the promise of a def that computes f -/
def spD (K : PySem.W.Frag) (ca ce : Str → Option Addr) (n : Nat) (f : List D → M D) : Sp := fun vs H Q E => ∃ (Xs : Addr → Prop) (ρ : List Addr) (ds : List D) (S : Sto), ds.length = n ∧ Sta K ca ρ Xs H S ∧ RpL K ca ρ (hid (fun b => Xs b ∨ b ∈ ρ) H) vs ds ∧
  Ok1 ⟨K, ca, ce, H, Xs, ρ, E, none⟩ (f ds S) fun d S' => ∀ v H' ρ', End ⟨K, ca, ce, H, Xs, ρ, E, none⟩ ρ' H' S' → Rp K ca ρ' (hid (fun b => Xs b ∨ b ∈ ρ') H') v d → Q v H'
theorem spD_len {K : PySem.W.Frag} {ca ce : Str → Option Addr} {n : Nat} {f : List D → M D} {vs : List V} {H : Hp} {Q : VK} {E : XK} (h : spD K ca ce n f vs H Q E) : vs.length = n := by
  obtain ⟨Xs, ρ, ds, S, hl, _, p, _⟩ := h
  rw [RpL.length p, hl]
theorem start_at {α : Type} : ∀ (l : List α) (n i : Nat) (x : α), (l.map some ++ List.replicate n none)[i]? = some (some x) → l[i]? = some x
  | [], n, i, x, h => by
    rw [List.map_nil, List.nil_append, List.getElem?_replicate] at h
    split at h <;> cases h
  | y :: l, n, 0, x, h => by simpa using h
  | y :: l, n, i + 1, x, h => start_at l n i x (by simpa using h)
theorem start_in {α : Type} : ∀ (l : List α) (n i : Nat) (x : α), l[i]? = some x → (l.map some ++ List.replicate n none)[i]? = some (some x)
  | [], n, i, x, h => by simp at h
  | y :: l, n, 0, x, h => by simpa using h
  | y :: l, n, i + 1, x, h => by simpa using start_in l n i x (by simpa using h)
/-- a body, at its entry -/
theorem body_of {F : Fr} {N : List Str} {vs : List V} {ds : List D} {b : DEnv → M (DEnv × Fl)} {O' : List Nat} {Dn : Ends} {S : Sto} {n : Nat} (hn : N.length = n) (st : Sta F.K F.ca F.R0 F.Xs F.H0 S) (p : RpL F.K F.ca F.R0 (hid (fun b => F.Xs b ∨ b ∈ F.R0) F.H0) vs ds)
    (q : Ok1 F (runD n b ds S) fun d S' => ∀ v H' ρ', End F ρ' H' S' → Rp F.K F.ca ρ' (hid (fun b => F.Xs b ∨ b ∈ ρ') H') v d → Dn.rt v H') (hnx : ∀ σ H, Dn.rt .non H → Dn.nx σ H) : dS F [] O' [] b Dn (L2.start N vs) F.H0 := by
  refine ⟨fun _ => none, F.R0, startD n ds, S, ⟨Gr.refl _ _ _, st.wk fun b h => h.elim id fun ⟨_, z⟩ => (by cases z), fun b ⟨_, z⟩ => (by cases z), fun b ⟨_, z⟩ => (by cases z), fun i j b z => (by cases z), fun i => ⟨fun ⟨_, z⟩ => (by cases z), fun z => (by cases z)⟩, fun i a z => (by cases z), fun _ _ => .inr rfl, ?_, fun i d e => ?_⟩, ?_⟩
  · unfold L2.start startD
    rw [List.length_append, List.length_append, List.length_map, List.length_map, List.length_replicate, List.length_replicate, RpL.length p, hn]
  · have e' := start_at ds _ i d e
    obtain ⟨v, hv, hr⟩ := RpL.get p e'
    refine ⟨v, start_in vs _ i v hv, hr.mono (fun _ _ e => e) fun b o e _ => ?_⟩
    obtain ⟨no, e⟩ := hid_iff.mp e
    exact hid_iff.mpr ⟨fun z => no (z.elim (fun z => z.elim .inl fun ⟨_, z⟩ => (by cases z)) .inr), e⟩
  · refine (Ok1.bind q).imp fun p S' k => ?_
    obtain ⟨δ', fl⟩ := p
    cases fl with
    | nx => exact fun σ' H' B' ρ' r' g n => hnx _ _ ((k : ∀ v H' ρ', _) .non H' ρ' r'.end .non)
    | rt d => exact k
    | bk => exact (show False from k).elim
    | ct => exact (show False from k).elim
section
variable {P : Program} {w : World} {K : PySem.W.Frag} {mg : Str → Option Value} {base : Heap} {ca ce : Str → Option Addr}
/-- a def that computes what its body's term says -/
theorem calleeD_of {x : Str} {st : Stmt} {N ps : List Str} {k n m : Nat} {b : DEnv → M (DEnv × Fl)} (F : FunAt K mg x st) (S : FnScope N ps (defScope st)) (hn : N.length = n := by rfl) (hm : ps.length = m := by rfl)
    (hb : ∀ (kV doc pm : Value) (an : Option Addr) (cdv ct : Value) (us : List Value), us.length = ps.length → bindArgs (PySem.W.fnOf x x (defArgs st) (defBody st) (defScope st) .none kV doc pm an cdv ct) ⟨us, []⟩ = pure (ps.zip us))
    (hbody : ∀ (f : Addr) (cdv : Value) (A : Around) (outer : List Env) (s : Shared) (H : Hp) (Xs : Addr → Prop) (ρ : List Addr) (E : XK), Room k (cxOf (L2.CX P w) P w K mg base N x (defScope st) f cdv A outer s H E).A →
      Takes (cxOf (L2.CX P w) P w K mg base N x (defScope st) f cdv A outer s H E) (fun cls d _ H => E cls d H) →
      PassesOwn (model P w) (cxOf (L2.CX P w) P w K mg base N x (defScope st) f cdv A outer s H E).A (cxOf (L2.CX P w) P w K mg base N x (defScope st) f cdv A outer s H E).env (cxOf (L2.CX P w) P w K mg base N x (defScope st) f cdv A outer s H E).xe →
      PSsD (cxOf (L2.CX P w) P w K mg base N x (defScope st) f cdv A outer s H E) ⟨K, ca, ce, H, Xs, ρ, E, none⟩ [] [] [] (defBody st) b) :
    Callee P w K mg base (k + 1) x ps (spD K ca ce m (runD n b)) := by
  refine callee_of F S hb (fun vs H Q E h => by rw [spD_len h, hm]) fun f cdv A outer s H vs Q E hr tk po h => ?_
  obtain ⟨Xs, ρ, ds, S0, hl, st0, p, q⟩ := h
  exact ⟨_, hbody f cdv A outer s H Xs ρ E hr tk po, body_of (F := ⟨K, ca, ce, H, Xs, ρ, E, none⟩) hn st0 p q fun _ _ h => h⟩
end
/-! ### calls -/
section
variable {X : Cx} {F : Fr} {O O' O1 O2 OL : List Nat} {m mi : Md} {pos pos2 p tpos : Pos} {a b c e e2 tg o : Expr} {rest es elts : List Expr} {i j k kk n : Nat} {x f : Str} {ps : List Str}
/-- a def's promise at a point of its caller -/
theorem spD_at {f : List D → M D} {B : Nat → Option Addr} {ρ : List Addr} {σ : L2.St} {H1 : Hp} {δ : DEnv} {S1 : Sto} {vs : List V} {ds : List D} {Q : VK} (r : Rel F O B ρ σ H1 δ S1) (z : RinL F .fz B ρ H1 vs ds)
    (q : Ok1 F (if ds.length = n then f ds S1 else none) fun d S' => ∀ v H' ρ', Rel F O B ρ' σ H' δ S' → Gr ρ NoZ H1 ρ' H' → Res F .fz B ρ' H1 H' S' v d → Q v H') : spD F.K F.ca F.ce n f vs H1 Q F.W := by
  split at q
  · rename_i hl
    refine ⟨fun b => F.Xs b ∨ Own B b, ρ, ds, S1, hl, r.sta, z, ?_⟩
    unfold Ok1 at q ⊢
    cases e : f ds S1 with
    | none => rw [e] at q; exact q
    | some p =>
      rw [e] at q
      obtain ⟨res, S'⟩ := p
      cases res with
      | error ex =>
        intro cls dd H' ρ' en er
        refine q cls dd H' ρ' ⟨r.gr.tr en.gr, en.sta.wk fun b h => .inl h⟩ ?_
        obtain ⟨C, x, vs, h1, h2, h3, h4, h5⟩ := er
        exact ⟨C, x, vs, h1, h2, h3, h4, RpF.mono (fun _ _ e => e) (fun b o e _ => by
          obtain ⟨no, e⟩ := hid_iff.mp e
          exact hid_iff.mpr ⟨fun z => no (z.imp .inl id), e⟩) h5⟩
      | ok d =>
        intro v H' ρ' en hr
        exact q v H' ρ' (r.step en.gr en.sta) en.gr hr
  · exact (show False from q).elim
def callD (n : Nat) (f : List D → M D) (t : DEnv → M (List D)) : DEnv → M D := fun δ => do let ds ← t δ; if ds.length = n then f ds else M.stuck
theorem ite_at {α : Type} {p : Prop} [Decidable p] {x : M α} {S : Sto} : (if p then x else M.stuck) S = if p then x S else none := by split <;> rfl
theorem pd_call {f : List D → M D} {t : DEnv → M (List D)} (c : Callee X.prog X.w X.K X.mg X.base k x ps (spD F.K F.ca F.ce n f)) (hr : Room j X.A) (hk : k ≤ j) (hg : Gl X x) (tk : Takes X fun cls d _ H => F.W cls d H) (ha : PAD X F O .fz (e :: es) t) (hdb : (x == ("__debug__" : Str)) = false := by decide) (he : starEach (e :: es) X.env = (false, eval e X.env) :: starEach es X.env := by rfl)
    (hpl : (backTo pos (starEach es X.env)).any (·.1) = false := by rfl) : PED X F O .fz (.Call (.Name x p) (e :: es) [] pos) (callD n f t) := pe_imp (fc_call c hr hk hg tk ha hdb he hpl) fun σ H Q ⟨B, ρ, δ, S, r, q⟩ => ⟨B, ρ, δ, S, r, q.bind.imp fun ds S' q vs H' ρ' r' g z => by
  rw [ite_at] at q
  exact spD_at r' z (q.imp fun d S2 k v H2 ρ2 r2 g2 z2 => k v H2 ρ2 r2 (g.tr g2) z2)⟩
theorem pd_call0 {f : List D → M D} (c : Callee X.prog X.w X.K X.mg X.base k x ps (spD F.K F.ca F.ce n f)) (hr : Room j X.A) (hk : k ≤ j) (hg : Gl X x) (tk : Takes X fun cls d _ H => F.W cls d H) (hdb : (x == ("__debug__" : Str)) = false := by decide) :
    PED X F O .fz (.Call (.Name x p) [] [] pos) (callD n f nilM) := pe_imp (fc_call0 c hr hk hg tk hdb) fun σ H Q ⟨B, ρ, δ, S, r, q⟩ => by
  have q := q.bind
  rw [show ((nilM δ) S) = some (.ok [], S) from rfl] at q
  have q : Ok1 F ((if [].length = n then f [] else M.stuck) S) _ := q
  rw [ite_at] at q
  exact spD_at r RinL.nil q
def raiseS (c f : Str) (t : DEnv → M D) : DEnv → M (DEnv × Fl) := fun δ => do let d ← t δ; M.raise ⟨c, [(f, d)]⟩
theorem psd_raise {C : Addr} {t : DEnv → M D} (hc : X.calm = true) (R : Raiser X.prog X.w X.K X.mg X.base x C f) (hca : F.ce x = some C) (hr : Room j X.A) (hk : 2 ≤ j) (tk : Takes X fun cls d _ H => F.W cls d H) (hg : Gl X x) (he : PED X F O .tr e t) (hdb : (x == ("__debug__" : Str)) = false := by decide)
    (hst : starEach (e :: []) X.env = (false, eval e X.env) :: starEach [] X.env := by rfl) (hpl : (backTo pos (starEach [] X.env)).any (·.1) = false := by rfl) :
    PSD X F O O' OL (.Raise (some (.Call (.Name x p) [e] [] pos)) none pos2) (raiseS x f t) := ps_imp (fr_raise hc R hr hk tk hg he hdb hst hpl) fun Dn σ H ⟨B, ρ, δ, S, r, q⟩ => ⟨B, ρ, δ, S, r, q.bind.imp fun d S' q v H' ρ' r' g z => fun dd H2 nd s2 h2 => by
  have r2 := r'.same s2
  exact (q : ∀ cls dd H' ρ', _) _ _ H2 ρ' r2.end ⟨C, dd, _, rfl, hca, rfl, h2, .cons (Rp.mono (fun _ _ e => e) (Gr.seesF (F := F) (Gr.same (ρ := ρ') s2)) z) .nil⟩⟩
end
end Fg

set_option Elab.async false
set_option linter.all false
set_option maxRecDepth 100000
set_option maxHeartbeats 4000000
namespace Fg
open PySem PySem.Spec PyProof.Rows L2
variable [TQ]
/-! ### built-ins -/
def CallD (F : Fr) (mi m : Md) (r : List V → Hp → VK → Prop) (f : List D → M D) : Prop := ∀ O B ρ σ δ H S vs ds Q, Rel F O B ρ σ H δ S → RinL F mi B ρ H vs ds →
  Ok1 F (f ds S) (fun d' S' => ∀ v H' ρ', Rel F O B ρ' σ H' δ S' → Gr ρ NoZ H ρ' H' → Res F m B ρ' H H' S' v d' → Q v H') → r vs H Q
def lenD : List D → M D
  | [.str z] => if z.length ≤ sizeLine then pure (.int z.length) else M.stuck
  | [.lst ds] => pure (.int ds.length)
  | [.tup ds] => pure (.int ds.length)
  | _ => M.stuck
def intD : List D → M D
  | [.int i] => pure (.int i)
  | [.bl k] => pure (.int (if k then 1 else 0))
  | _ => M.stuck
def absD : List D → M D
  | [.int i] => pure (.int (i.natAbs : Nat))
  | _ => M.stuck
def maxD : List D → M D
  | [.int i, .int j] => pure (.int (max i j))
  | _ => M.stuck
def minD : List D → M D
  | [.int i, .int j] => pure (.int (min i j))
  | _ => M.stuck
def strD : List D → M D
  | [.int i] => if i.natAbs.log2 < 1920 then pure (.str (toString i)) else M.stuck
  | _ => M.stuck
def blsD : List D → Option (List Bool)
  | [] => some []
  | .bl b :: r => (blsD r).map (b :: ·)
  | _ :: _ => none
def allD : List D → M D
  | [.lst ds] => do let bs ← M.opt (blsD ds); pure (.bl (bs.all id))
  | _ => M.stuck
def anyD : List D → M D
  | [.lst ds] => do let bs ← M.opt (blsD ds); pure (.bl (bs.any id))
  | _ => M.stuck
def tupleD : List D → M D
  | [.lst ds] => pure (.tup ds)
  | _ => M.stuck
def listD : List D → M D
  | [.lst ds] => pure (.lst ds)
  | [.tup ds] => pure (.lst ds)
  | _ => M.stuck
section
variable {X : Cx} {F : Fr} {O O' O1 O2 OL : List Nat} {m mi : Md} {pos pos' p tpos : Pos} {a b c e e2 tg o : Expr} {rest es elts : List Expr} {i j k kk n : Nat} {x f : Str} {ps : List Str}
theorem pd_callB {id : String} {r : List V → Hp → VK → Prop} {g : List D → M D} {t : DEnv → M (List D)} (hc : CallR X (.builtin id) r) (hf : CallD F mi m r g) (hg : Gl X x) (hm : X.mg x = none) (hv : bootBuiltins x = some (.builtin id)) (ha : PAD X F O mi (e :: es) t) (hn : x ≠ "__name__" := by decide) (hdb : (x == ("__debug__" : Str)) = false := by decide)
    (he : starEach (e :: es) X.env = (false, eval e X.env) :: starEach es X.env := by rfl) (hpl : (backTo pos (starEach es X.env)).any (·.1) = false := by rfl) : PED X F O m (.Call (.Name x p) (e :: es) [] pos) (fun δ => do let ds ← t δ; g ds) :=
  pe_imp (pe_callB hc hg hm hv ha hn hdb he hpl) fun σ H Q ⟨B, ρ, δ, S, r0, q⟩ => ⟨B, ρ, δ, S, r0, q.bind.imp fun ds S' q vs H' ρ' r' g z => hf O B ρ' σ δ H' S' vs ds Q r' z (q.imp fun d S2 k v H2 ρ2 r2 g2 z2 => k v H2 ρ2 r2 (g.tr g2) (Res.gr2 g z2))⟩
theorem pd_callTy {T : String} {r : List V → Hp → VK → Prop} {g : List D → M D} {t : DEnv → M (List D)} (hc : CallR X (.type T) r) (hf : CallD F mi m r g) (hg : Gl X x) (hm : X.mg x = none) (hv : bootBuiltins x = some (.type T)) (ha : PAD X F O mi (e :: es) t) (hn : x ≠ "__name__" := by decide) (hdb : (x == ("__debug__" : Str)) = false := by decide)
    (he : starEach (e :: es) X.env = (false, eval e X.env) :: starEach es X.env := by rfl) (hpl : (backTo pos (starEach es X.env)).any (·.1) = false := by rfl) : PED X F O m (.Call (.Name x p) (e :: es) [] pos) (fun δ => do let ds ← t δ; g ds) :=
  pe_imp (pe_callTy hc hg hm hv ha hn hdb he hpl) fun σ H Q ⟨B, ρ, δ, S, r0, q⟩ => ⟨B, ρ, δ, S, r0, q.bind.imp fun ds S' q vs H' ρ' r' g z => hf O B ρ' σ δ H' S' vs ds Q r' z (q.imp fun d S2 k v H2 ρ2 r2 g2 z2 => k v H2 ρ2 r2 (g.tr g2) (Res.gr2 g z2))⟩
end
section
variable {K : PySem.W.Frag} {F : Fr} {m mi : Md} {B : Nat → Option Addr} {ρ : List Addr} {H : Hp}
theorem RinL.one {vs : List V} {d : D} (h : RinL F mi B ρ H vs [d]) : ∃ v, vs = [v] ∧ Rin F mi B ρ H v d := by
  obtain ⟨v, hv, hr⟩ := h.get (i := 0) rfl
  have hl := h.len
  match vs, hl, hv with
  | [w], _, hv => cases hv; exact ⟨_, rfl, hr⟩
theorem RinL.two {vs : List V} {d e : D} (h : RinL F mi B ρ H vs [d, e]) : ∃ v w, vs = [v, w] ∧ Rin F mi B ρ H v d ∧ Rin F mi B ρ H w e := by
  obtain ⟨v, hv, hr⟩ := h.get (i := 0) rfl
  obtain ⟨w, hw, hs⟩ := h.get (i := 1) rfl
  have hl := h.len
  match vs, hl, hv, hw with
  | [_, _], _, hv, hw => cases hv; cases hw; exact ⟨_, _, rfl, hr, hs⟩
theorem SqL.ofH {a : Addr} {vs : List V} (h : H a = some (.lst vs)) : SqL K H a vs := SqL.of h
theorem c_len (hK : F.K = K) (h2 : m ≠ .nw) : CallD F mi m (fLen K) lenD := by
  intro O B ρ σ δ H S vs ds Q r z q
  subst hK
  unfold lenD at q
  split at q
  · obtain ⟨v, rfl, y⟩ := z.one
    cases y.str
    obtain ⟨c, q⟩ := Ok1.ite q
    exact ⟨c, Ok1.scal r (d := .int _) rfl h2 q⟩
  · obtain ⟨v, rfl, y⟩ := z.one
    obtain ⟨a, ws, rfl, ha, la⟩ := y.lst
    refine ⟨ws, .inl (SqL.of ha), ?_⟩
    rw [RinL.len la]
    exact Ok1.scal r (d := .int _) rfl h2 q
  · obtain ⟨v, rfl, y⟩ := z.one
    obtain ⟨a, ws, rfl, ha, la⟩ := y.tup
    refine ⟨ws, .inr ha, ?_⟩
    rw [RinL.len la]
    exact Ok1.scal r (d := .int _) rfl h2 q
  · exact q.stuck.elim
theorem c_int (h2 : m ≠ .nw) : CallD F mi m fInt intD := by
  intro O B ρ σ δ H S vs ds Q r z q
  unfold intD at q
  split at q
  · obtain ⟨v, rfl, y⟩ := z.one
    cases y.int
    exact Ok1.scal r (d := .int _) rfl h2 q
  · obtain ⟨v, rfl, y⟩ := z.one
    cases y.bl
    exact Ok1.scal r (d := .int _) rfl h2 q
  · exact q.stuck.elim
theorem c_abs (h2 : m ≠ .nw) : CallD F mi m fAbs absD := by
  intro O B ρ σ δ H S vs ds Q r z q
  unfold absD at q
  split at q
  · obtain ⟨v, rfl, y⟩ := z.one
    cases y.int
    exact Ok1.scal r (d := .int _) rfl h2 q
  · exact q.stuck.elim
theorem c_max (h2 : m ≠ .nw) : CallD F mi m fMax maxD := by
  intro O B ρ σ δ H S vs ds Q r z q
  unfold maxD at q
  split at q
  · obtain ⟨v, w, rfl, y1, y2⟩ := z.two
    cases y1.int; cases y2.int
    exact Ok1.scal r (d := .int _) rfl h2 q
  · exact q.stuck.elim
theorem c_min (h2 : m ≠ .nw) : CallD F mi m fMin minD := by
  intro O B ρ σ δ H S vs ds Q r z q
  unfold minD at q
  split at q
  · obtain ⟨v, w, rfl, y1, y2⟩ := z.two
    cases y1.int; cases y2.int
    exact Ok1.scal r (d := .int _) rfl h2 q
  · exact q.stuck.elim
theorem c_str (h2 : m ≠ .nw) : CallD F mi m fStr strD := by
  intro O B ρ σ δ H S vs ds Q r z q
  unfold strD at q
  split at q
  · obtain ⟨v, rfl, y⟩ := z.one
    cases y.int
    obtain ⟨c, q⟩ := Ok1.ite q
    exact ⟨c, Ok1.scal r (d := .str _) rfl h2 q⟩
  · exact q.stuck.elim
theorem bls_rp {ca : Str → Option Addr} {G : Hp} : ∀ {ds : List D} {vs : List V} {bs : List Bool}, RpL K ca ρ G vs ds → blsD ds = some bs → vs = bs.map V.bl
  | [], _, _, .nil, e => by cases e; rfl
  | d :: ds, _, bs, .cons h t, e => by
    cases d <;> first | cases e | skip
    rename_i b
    cases h
    have e : (blsD ds).map (b :: ·) = some bs := e
    cases eb : blsD ds with
    | none => rw [eb] at e; cases e
    | some cs =>
      rw [eb] at e
      cases e
      rw [bls_rp t eb]
      rfl
theorem c_all (hK : F.K = K) (h2 : m ≠ .nw) : CallD F mi m (fAll K fun bs => bs.all id) allD := by
  intro O B ρ σ δ H S vs ds Q r z q
  subst hK
  unfold allD at q
  split at q
  · obtain ⟨v, rfl, y⟩ := z.one
    obtain ⟨a, ws, rfl, ha, la⟩ := y.lst
    obtain ⟨bs, eb, q⟩ := q.bind.opt
    obtain ⟨G, _, la⟩ := la.out
    exact ⟨ws, bs, SqL.of ha, bls_rp la eb, Ok1.scal r (d := .bl _) rfl h2 q⟩
  · exact q.stuck.elim
theorem c_any (hK : F.K = K) (h2 : m ≠ .nw) : CallD F mi m (fAll K fun bs => bs.any id) anyD := by
  intro O B ρ σ δ H S vs ds Q r z q
  subst hK
  unfold anyD at q
  split at q
  · obtain ⟨v, rfl, y⟩ := z.one
    obtain ⟨a, ws, rfl, ha, la⟩ := y.lst
    obtain ⟨bs, eb, q⟩ := q.bind.opt
    obtain ⟨G, _, la⟩ := la.out
    exact ⟨ws, bs, SqL.of ha, bls_rp la eb, Ok1.scal r (d := .bl _) rfl h2 q⟩
  · exact q.stuck.elim
theorem no_new {O : List Nat} {σ : L2.St} {δ : DEnv} {S : Sto} {p : Addr} (r : Rel F O B ρ σ H δ S) (np : H p = none) : ¬ Zo F B ρ p := fun z => by
  rcases z with (z | z) | z
  · exact r.sta.live p (.inl (.inl z)) (Nw.of np)
  · exact r.sta.live p (.inl (.inr z)) (Nw.of np)
  · exact r.sta.live p (.inr z) (Nw.of np)
/-- a new tuple of things that are there -/
theorem tup_new {O : List Nat} {σ : L2.St} {δ : DEnv} {S S' : Sto} {p : Addr} {H2 H0 : Hp} {ws : List V} {ds : List D} (r : Rel F O B ρ σ H δ S) (np : H p = none) (s2 : Same H H2) (h2 : H2 p = some (.tup ws)) (hm : m ≠ .nw) (la : RinL F m B ρ H ws ds) : Res F m B ρ H0 H2 S' (.ref p) (.tup ds) := by
  have no := no_new r np
  have z2 := RinL.gr la (Gr.same s2)
  cases m
  · exact .tup (SqT.of (hid_iff.mpr ⟨fun z => no (zf_zo z), h2⟩)) z2
  · exact .tup (SqT.of (hid_iff.mpr ⟨no, h2⟩)) z2
  · exact absurd rfl hm
theorem lst_new {O : List Nat} {σ : L2.St} {δ : DEnv} {S S' : Sto} {p : Addr} {H2 H0 : Hp} {ws : List V} {ds : List D} (r : Rel F O B ρ σ H δ S) (np : H p = none) (s2 : Same H H2) (h2 : H2 p = some (.lst ws)) (hm : m ≠ .nw) (la : RinL F m B ρ H ws ds) : Res F m B ρ H0 H2 S' (.ref p) (.lst ds) := by
  have no := no_new r np
  have z2 := RinL.gr la (Gr.same s2)
  cases m
  · exact .lst (hid_iff.mpr ⟨fun z => no (zf_zo z), h2⟩) z2
  · exact .lst (hid_iff.mpr ⟨no, h2⟩) z2
  · exact absurd rfl hm
theorem c_tuple (hK : F.K = K) (h2 : m ≠ .nw) : CallD F m m (fTuple K) tupleD := by
  intro O B ρ σ δ H S vs ds Q r z q
  subst hK
  unfold tupleD at q
  split at q
  · obtain ⟨v, rfl, y⟩ := z.one
    obtain ⟨a, ws, rfl, ha, la⟩ := y.lst
    exact ⟨ws, SqL.of ha, fun p H2 np s2 h2' => (q : ∀ v H' ρ', _) _ H2 ρ (r.same s2) (Gr.same s2) (tup_new r np s2 h2' h2 la)⟩
  · exact q.stuck.elim
theorem c_list (hK : F.K = K) (h2 : m ≠ .nw) : CallD F m m (fList K) listD := by
  intro O B ρ σ δ H S vs ds Q r z q
  subst hK
  unfold listD at q
  split at q
  · obtain ⟨v, rfl, y⟩ := z.one
    obtain ⟨a, ws, rfl, ha, la⟩ := y.lst
    exact ⟨ws, .inl (SqL.of ha), fun p H2 np s2 h2' => (q : ∀ v H' ρ', _) _ H2 ρ (r.same s2) (Gr.same s2) (lst_new r np s2 h2' h2 la)⟩
  · obtain ⟨v, rfl, y⟩ := z.one
    obtain ⟨a, ws, rfl, ha, la⟩ := y.tup
    exact ⟨ws, .inr ha, fun p H2 np s2 h2' => (q : ∀ v H' ρ', _) _ H2 ρ (r.same s2) (Gr.same s2) (lst_new r np s2 h2' h2 la)⟩
  · exact q.stuck.elim
end
/-! ### subscripts -/
def ixD : D → D → M D
  | .str z, .int i => if z.length ≤ sizeLine then (do let c ← M.opt (atI z.cps.toList i); pure (.str ⟨#[c]⟩)) else M.stuck
  | .lst ds, .int i => M.opt (atI ds i)
  | .tup ds, .int i => M.opt (atI ds i)
  | _, _ => M.stuck
theorem RinL.atI {F : Fr} {m : Md} {B : Nat → Option Addr} {ρ : List Addr} {H : Hp} {vs : List V} {ds : List D} {d : D} {i : Int} (h : RinL F m B ρ H vs ds) (e : L2.atI ds i = some d) : ∃ v, L2.atI vs i = some v ∧ Rin F m B ρ H v d := by
  unfold L2.atI at e ⊢
  rw [h.len]
  cases ej : ixN ds.length i with
  | none => rw [ej] at e; cases e
  | some j => rw [ej] at e; exact h.get e
section
variable {X : Cx} {F : Fr} {O O' O1 O2 OL : List Nat} {m mi : Md} {pos pos' p tpos : Pos} {a b c e e2 tg o : Expr} {K : PySem.W.Frag}
theorem o_ix (hK : F.K = K) (h2 : m ≠ .nw) : OpD F m m (fIx K) ixD := by
  intro O B ρ σ δ H S x y d e Q r hx hy q
  subst hK
  unfold ixD at q
  split at q
  · obtain ⟨c, q⟩ := Ok1.ite q
    obtain ⟨ch, ec, q⟩ := q.bind.opt
    cases hx.str; cases hy.int
    exact ⟨c, ch, ec, Ok1.scal r (d := .str _) rfl h2 q⟩
  · obtain ⟨d, ed, q⟩ := q.opt
    obtain ⟨a, ws, rfl, ha, la⟩ := hx.lst
    cases hy.int
    obtain ⟨v, hv, hr⟩ := la.atI ed
    refine ⟨ws, v, .inl (SqL.of ha), hv, q v H ρ r (Gr.refl _ _ _) ?_⟩
    cases m
    · exact hr
    · exact hr
    · exact absurd rfl h2
  · obtain ⟨d, ed, q⟩ := q.opt
    obtain ⟨a, ws, rfl, ha, la⟩ := hx.tup
    cases hy.int
    obtain ⟨v, hv, hr⟩ := la.atI ed
    refine ⟨ws, v, .inr ha, hv, q v H ρ r (Gr.refl _ _ _) ?_⟩
    cases m
    · exact hr
    · exact hr
    · exact absurd rfl h2
  · exact q.stuck.elim
theorem pd_ix {r : R2} {f : D → D → M D} {ta tb : DEnv → M D} (hr : IxR X r) (hf : OpD F mi m r f) (ha : PED X F O mi a ta) (hb : PED X F O mi b tb) (hs : PlainIx b) (hi : mi ≠ .nw := by decide) : PED X F O m (.Subscript a b pos) (fun δ => do let x ← ta δ; let y ← tb δ; f x y) :=
  pe_imp (pe_ix hr ha hb hs) fun σ H Q q => bin_imp hf hi q
/-! ### fields -/
def fldD (c f : Str) : D → M D
  | .obj c' fs => if c' = c then M.opt (fs.lookup f) else M.stuck
  | _ => M.stuck
theorem pd_fld {C : Addr} {c f : Str} {t : DEnv → M D} (hca : F.ca c = some C) (cl : Cls X.K C) (nf : NoAttr X.K C f) (h : PED X F O m e t) (hm : m ≠ .nw := by decide) (hb : attributeBase e f X.env (eval e X.env) = eval e X.env := by rfl) : PED X F O m (.Attribute e f pos) (fun δ => do let x ← t δ; fldD c f x) :=
  pe_imp (fe_fld cl nf h hb) fun σ H Q ⟨B, ρ, δ, S, r, q⟩ => ⟨B, ρ, δ, S, r, q.bind.imp fun d S' q v H' ρ' r' g z => by
    cases d <;> first | exact (show False from q).elim | skip
    obtain ⟨ec, q2⟩ := Ok1.ite q
    clear q
    subst ec
    obtain ⟨y, ey, q⟩ := q2.opt
    obtain ⟨a, C', dx, ws, rfl, e1, h1, h2⟩ := Rin.obj (Res.rin r z)
    cases hca.symm.trans e1
    obtain ⟨w, ew, hw⟩ := RinF.get h2 ey
    refine ⟨dx, ws, w, h1, ew, q w H' ρ' r' g ?_⟩
    cases m
    · exact hw
    · exact hw
    · exact absurd rfl hm⟩
end
end Fg

set_option Elab.async false
set_option linter.all false
set_option maxRecDepth 100000
set_option maxHeartbeats 4000000
namespace Fg
open PySem PySem.Spec PyProof.Rows L2
variable [TQ]
/-! ### isinstance -/
/-- the text's classes -/
structure ClF (K : PySem.W.Frag) (ca : Str → Option Addr) : Prop where
  cl : ∀ c C, ca c = some C → Cls K C
  ins : ∀ c C, ca c = some C → (PySem.W.findIn K (.ref C) "__class__" = some (some (.builtin "object.__class__"))) ∧ (PySem.W.specialIn K (.builtin "object.__class__") "__get__" = some (some (.builtin "getset_descriptor.__get__"))) ∧ (PySem.W.takesIn K (.builtin "object.__class__") = some true) ∧ PySem.W.mroIn K C (.type "object") = some true
  ty : ∀ c C n, ca c = some C → n ∈ ["int", "str", "tuple", "bool", "list", "dict"] → PySem.W.kitOne K (.ref C) (.type n) = some false
  own : ∀ c C c' C', ca c = some C → ca c' = some C' → PySem.W.kitOne K (.ref C) (.ref C') = some (decide (c = c'))
/-- the type of data -/
def tyV (ca : Str → Option Addr) : D → Option Value
  | .non => some (.type "NoneType")
  | .bl _ => some (.type "bool")
  | .int _ => some (.type "int")
  | .str _ => some (.type "str")
  | .tup _ => some (.type "tuple")
  | .lst _ => some (.type "list")
  | .dct _ => some (.type "dict")
  | .obj c _ => (ca c).map .ref
  | .mt _ => none
theorem tyX_tup {K : PySem.W.Frag} {H : Hp} {a : Addr} {vs : List V} (h : SqT K H a vs) : TyX K H (.ref a) (.type "tuple") := by
  rcases h with (h | ⟨u, h⟩) | ⟨o, its, n, h1, h2, _⟩
  · exact .base (.tup h)
  · exact .fTuple h
  · exact .kTuple h1 h2
theorem tyX_of {F : Fr} {m : Md} {B : Nat → Option Addr} {ρ : List Addr} {H : Hp} {v : V} {d : D} {t : Value} (cf : ClF F.K F.ca) (h : Rin F m B ρ H v d) (e : tyV F.ca d = some t) : TyX F.K H v t := by
  cases d
  · cases e; cases h.non; exact .base .non
  · cases e; cases h.bl; exact .base (.bl _)
  · cases e; cases h.int; exact .base (.int _)
  · cases e; cases h.str; exact .base (.str _)
  · cases e; obtain ⟨a, vs, rfl, h1, _⟩ := h.tup; exact tyX_tup h1
  · cases e; obtain ⟨a, vs, rfl, h1, _⟩ := h.lst; exact .base (.lst h1)
  · cases e; obtain ⟨a, vs, rfl, h1, _⟩ := h.dct; exact .base (.dK h1)
  · obtain ⟨a, C, dx, vs, rfl, e1, h1, _⟩ := h.obj
    have e : Option.map Value.ref (F.ca _) = some t := e
    rw [e1] at e
    cases e
    obtain ⟨i1, i2, i3, i4⟩ := cf.ins _ _ e1
    exact .base (.ins h1 (cf.cl _ _ e1) i1 i2 i3 i4)
  · cases e
def isTyD (n : String) : D → M D
  | .non => pure (.bl false)
  | .bl _ => pure (.bl (n == "int" || n == "bool"))
  | .int _ => pure (.bl (n == "int"))
  | .str _ => pure (.bl (n == "str"))
  | .tup _ => pure (.bl (n == "tuple"))
  | .lst _ => pure (.bl (n == "list"))
  | .dct _ => pure (.bl (n == "dict"))
  | .obj _ _ => pure (.bl false)
  | .mt _ => M.stuck
def isCD (c : Str) : D → M D
  | .obj c' _ => pure (.bl (decide (c' = c)))
  | .mt _ => M.stuck
  | _ => pure (.bl false)
section
variable {X : Cx} {F : Fr} {O O' O1 O2 OL : List Nat} {m mi : Md} {pos pos' p tpos : Pos} {a b c e e2 tg o elt iter : Expr} {rest es elts ifs : List Expr} {i j k kk : Nat} {x f : Str} {ps : List Str} {K : PySem.W.Frag}
theorem kit6 {n : String} (h : n ∈ ["int", "str", "tuple", "bool", "list", "dict"]) : PySem.W.kitOne K (.type "tuple") (.type n) = some (n == "tuple") ∧ PySem.W.kitOne K (.type "list") (.type n) = some (n == "list") ∧ PySem.W.kitOne K (.type "dict") (.type n) = some (n == "dict") := by
  simp only [List.mem_cons, List.not_mem_nil, or_false] at h
  rcases h with rfl | rfl | rfl | rfl | rfl | rfl <;> exact ⟨kit_ty (by decide +kernel), kit_ty (by decide +kernel), kit_ty (by decide +kernel)⟩
theorem pd_isTy {n : String} {t : DEnv → M D} (hK : F.K = X.K) (cf : ClF F.K F.ca) (hn : n ∈ ["int", "str", "tuple", "bool", "list", "dict"]) (h : PED X F O .tr e t) (hT : PE X e2 (tC (.ty n))) (hgl : Gl X "isinstance") (hm : X.mg "isinstance" = none) (h2 : m ≠ .nw := by decide)
    (hs2 : starEach [e2] X.env = (false, eval e2 X.env) :: starEach [] X.env := by rfl) (hs : starEach [e, e2] X.env = (false, eval e X.env) :: starEach [e2] X.env := by rfl) (hpl : (backTo pos (starEach [e2] X.env)).any (·.1) = false := by rfl) :
    PED X F O m (.Call (.Name "isinstance" p) [e, e2] [] pos) (fun δ => do let d ← t δ; isTyD n d) :=
  pe_imp (pe_callB (f_isTy (X := X) (n := n) (by simpa using hn)) hgl hm (by decide +kernel) (pa_cons h (pa_cons hT pa_nil hs2) hs) (by decide) (by decide) hs hpl) fun σ H Q ⟨B, ρ, δ, S, r, q⟩ => ⟨B, ρ, δ, S, r, q.bind.imp fun d S' q v H' ρ' r' g z => by
    show fIsTy X.K n [v, .ty n] H' Q
    have z : Rin F .tr B ρ' H' v d := z
    obtain ⟨k1, k2, k3⟩ := kit6 (K := X.K) hn
    refine ⟨rfl, ?_⟩
    have fin : ∀ bb : Bool, Ok1 F ((pure (.bl bb) : M D) S') (fun d S' => ∀ v H' ρ', Rel F O B ρ' σ H' δ S' → Gr ρ NoZ H ρ' H' → Res F m B ρ' H H' S' v d → Q v H') → Q (.bl bb) H' := fun bb q => (q : ∀ v H' ρ', _) _ H' ρ' r' g (scV_res (d := .bl bb) rfl h2)
    cases d
    · cases z.non; exact fin _ q
    · cases z.bl; exact fin _ q
    · cases z.int; exact fin _ q
    · cases z.str; exact fin _ q
    · obtain ⟨a, vs, rfl, _⟩ := z.tup; exact ⟨_, ⟨_, hK ▸ tyX_of cf z rfl, k1⟩, fin _ q⟩
    · obtain ⟨a, vs, rfl, _⟩ := z.lst; exact ⟨_, ⟨_, hK ▸ tyX_of cf z rfl, k2⟩, fin _ q⟩
    · obtain ⟨a, vs, rfl, _⟩ := z.dct; exact ⟨_, ⟨_, hK ▸ tyX_of cf z rfl, k3⟩, fin _ q⟩
    · obtain ⟨a, C, dx, vs, rfl, e1, _⟩ := z.obj
      exact ⟨_, ⟨_, hK ▸ tyX_of cf z (t := .ref C) (by show Option.map Value.ref (F.ca _) = _; rw [e1]; rfl), hK ▸ cf.ty _ _ _ e1 hn⟩, fin _ q⟩
    · exact (show False from q).elim⟩
theorem pd_isC {n : Str} {C : Addr} {t : DEnv → M D} (hK : F.K = X.K) (cf : ClF F.K F.ca) (hca : F.ca n = some C) (ic : InsC X.K C) (h : PED X F O .tr e t) (hT : PE X e2 (tC (.ref C))) (hgl : Gl X "isinstance") (hm : X.mg "isinstance" = none) (h2 : m ≠ .nw := by decide)
    (hs2 : starEach [e2] X.env = (false, eval e2 X.env) :: starEach [] X.env := by rfl) (hs : starEach [e, e2] X.env = (false, eval e X.env) :: starEach [e2] X.env := by rfl) (hpl : (backTo pos (starEach [e2] X.env)).any (·.1) = false := by rfl) :
    PED X F O m (.Call (.Name "isinstance" p) [e, e2] [] pos) (fun δ => do let d ← t δ; isCD n d) :=
  pe_imp (pe_callB (f_isC ic) hgl hm (by decide +kernel) (pa_cons h (pa_cons hT pa_nil hs2) hs) (by decide) (by decide) hs hpl) fun σ H Q ⟨B, ρ, δ, S, r, q⟩ => ⟨B, ρ, δ, S, r, q.bind.imp fun d S' q v H' ρ' r' g z => by
    show fIsC X.K C [v, .ref C] H' Q
    have z : Rin F .tr B ρ' H' v d := z
    refine ⟨rfl, ?_⟩
    have fin : ∀ bb : Bool, Ok1 F ((pure (.bl bb) : M D) S') (fun d S' => ∀ v H' ρ', Rel F O B ρ' σ H' δ S' → Gr ρ NoZ H ρ' H' → Res F m B ρ' H H' S' v d → Q v H') → Q (.bl bb) H' := fun bb q => (q : ∀ v H' ρ', _) _ H' ρ' r' g (scV_res (d := .bl bb) rfl h2)
    cases d
    · cases z.non; exact fin _ q
    · cases z.bl; exact fin _ q
    · cases z.int; exact fin _ q
    · cases z.str; exact fin _ q
    · obtain ⟨a, vs, rfl, _⟩ := z.tup; exact ⟨_, ⟨_, hK ▸ tyX_of cf z rfl, ic.no "tuple" (by decide)⟩, fin _ q⟩
    · obtain ⟨a, vs, rfl, _⟩ := z.lst; exact ⟨_, ⟨_, hK ▸ tyX_of cf z rfl, ic.no "list" (by decide)⟩, fin _ q⟩
    · obtain ⟨a, vs, rfl, _⟩ := z.dct; exact ⟨_, ⟨_, hK ▸ tyX_of cf z rfl, ic.no "dict" (by decide)⟩, fin _ q⟩
    · obtain ⟨a, C', dx, vs, rfl, e1, _⟩ := z.obj
      exact ⟨_, ⟨_, hK ▸ tyX_of cf z (t := .ref C') (by show Option.map Value.ref (F.ca _) = _; rw [e1]; rfl), hK ▸ cf.own _ _ _ _ e1 hca⟩, fin _ q⟩
    · exact (show False from q).elim⟩
/-! ### a < b < c -/
def chainD (f g : D → D → M D) (ta tb tc : DEnv → M D) : DEnv → M D := fun δ => do
  let x ← ta δ
  let y ← tb δ
  let r ← f x y
  let b ← tbD r
  if b = true then (do let z ← tc δ; g y z) else pure (.bl false)
theorem pd_chain {op op' : CmpOp} {r r' : R2} {f g : D → D → M D} {ta tb tc : DEnv → M D} (ho : OpR X (compareOp op) r) (ho' : OpR X (compareOp op') r') (hf : OpD F .tr .tr r f) (hg : OpD F .tr .tr r' g) (ha : PED X F O .tr a ta) (hb : PED X F O .tr b tb) (hc : PED X F O .tr c tc)
    (hm : lastMarks [op, op'] [b, c] = false := by with_unfolding_all rfl) : PED X F O .tr (.Compare a [op, op'] [b, c] pos) (chainD f g ta tb tc) := pe_imp (pe_chain ho ho' ha hb hc hm) fun σ H Q ⟨B, ρ, δ, S, r, q⟩ =>
  ⟨B, ρ, δ, S, r, q.bind.imp fun d1 S1 q v1 H1 ρ1 r1 g1 z1 => ⟨B, ρ1, δ, S1, r1, q.bind.imp fun d2 S2 q v2 H2 ρ2 r2 g2 z2 => by
    refine hf O B ρ2 σ δ H2 S2 v1 v2 d1 d2 _ r2 (Rin.gr (m := .tr) z1 g2) z2 (q.bind.imp fun d3 S3 q v3 H3 ρ3 r3 g3 z3 => ?_)
    obtain ⟨bb, eb, q3⟩ := q.bind.tb
    clear q
    subst eb
    obtain rfl := Rin.bl (m := .tr) (B := B) z3
    refine ⟨bb, rfl, ?_⟩
    cases bb with
    | false => exact (q3 : ∀ v H' ρ', _) _ H3 ρ3 r3 ((g1.tr g2).tr g3) (scV_res (m := .tr) (d := .bl false) rfl (by decide))
    | true =>
      refine ⟨B, ρ3, δ, S3, r3, (Ok1.bind q3).imp fun d4 S4 q v4 H4 ρ4 r4 g4 z4 => ?_⟩
      refine hg O B ρ4 σ δ H4 S4 v2 v4 d2 d4 Q r4 (Rin.gr (m := .tr) z2 (g3.tr g4)) z4 (q.imp fun d5 S5 k v5 H5 ρ5 r5 g5 z5 => k v5 H5 ρ5 r5 ((((g1.tr g2).tr g3).tr g4).tr g5) z5)⟩⟩
theorem pd_wkS {t : DEnv → M D} (h : PED X F O .tr e t) (hs : ∀ δ S d S', t δ S = some (.ok d, S') → scalD d = true) (h2 : m ≠ .nw := by decide) : PED X F O m e t := pe_imp h fun σ H Q ⟨B, ρ, δ, S, r, q⟩ => by
  refine ⟨B, ρ, δ, S, r, ?_⟩
  unfold Ok1 at q ⊢
  cases et : t δ S with
  | none => rw [et] at q; exact q
  | some p =>
    rw [et] at q
    obtain ⟨res, S'⟩ := p
    cases res with
    | error ex => exact q
    | ok d =>
      have sd := hs _ _ _ _ et
      intro v H' ρ' r' g z
      obtain rfl := Rin.scal (m := .tr) (B := B) sd z
      exact q _ H' ρ' r' g (scV_res sd h2)
/-- the same in a test -/
theorem pd_tchain {op op' : CmpOp} {r r' : R2} {f g : D → D → M D} {ta tb tc : DEnv → M D} (ho : OpR X (compareOp op) r) (ho' : OpR X (compareOp op') r') (hf : OpD F .tr .tr r f) (hg : OpD F .tr .tr r' g) (ha : PED X F O .tr a ta) (hb : PED X F O .tr b tb) (hc : PED X F O .tr c tc)
    (hm : lastMarks [op, op'] [b, c] = false := by with_unfolding_all rfl) : PTD X F O (.Compare a [op, op'] [b, c] pos) (tvM (chainD f g ta tb tc)) := pt_imp (pt_chain ho ho' ha hb hc hm) fun σ H Q ⟨B, ρ, δ, S, r, q⟩ =>
  ⟨B, ρ, δ, S, r, q.bind.bind.imp fun d1 S1 q v1 H1 ρ1 r1 g1 z1 => ⟨B, ρ1, δ, S1, r1, q.bind.imp fun d2 S2 q v2 H2 ρ2 r2 g2 z2 => by
    refine hf O B ρ2 σ δ H2 S2 v1 v2 d1 d2 _ r2 (Rin.gr (m := .tr) z1 g2) z2 (q.bind.imp fun d3 S3 q v3 H3 ρ3 r3 g3 z3 => ?_)
    obtain ⟨bb, eb, q3⟩ := q.bind.tb
    clear q
    subst eb
    obtain rfl := Rin.bl (m := .tr) (B := B) z3
    refine ⟨bb, rfl, ?_⟩
    cases bb with
    | false => exact ⟨false, rfl, (q3 : ∀ H' ρ', _) H3 ρ3 r3 ((g1.tr g2).tr g3)⟩
    | true =>
      refine ⟨B, ρ3, δ, S3, r3, (Ok1.bind q3).imp fun d4 S4 q v4 H4 ρ4 r4 g4 z4 => ?_⟩
      refine hg O B ρ4 σ δ H4 S4 v2 v4 d2 d4 _ r4 (Rin.gr (m := .tr) z2 (g3.tr g4)) z4 (q.imp fun d5 S5 k v5 H5 ρ5 r5 g5 z5 => ?_)
      obtain ⟨bb, rfl, k⟩ := k.tb
      obtain rfl := Rin.bl (m := .tr) (B := B) z5
      exact ⟨bb, rfl, k H5 ρ5 r5 ((((g1.tr g2).tr g3).tr g4).tr g5)⟩⟩⟩
end
end Fg

set_option Elab.async false
set_option linter.all false
set_option maxRecDepth 100000
set_option maxHeartbeats 4000000
namespace Fg
open PySem PySem.Spec PyProof.Rows L2
variable [TQ]
/-! ### comprehensions -/
def noErr {α : Type} (m : M α) : M α := fun S => match m S with
  | some (.error _, _) => none
  | r => r
@[simp] theorem noErr_pure {α : Type} (a : α) : noErr (pure a : M α) = pure a := rfl
def wipeD (δ : DEnv) : List Nat → DEnv
  | [] => δ
  | v :: vs => (wipeD δ vs).set v none
def compL (g : D → DEnv → M DEnv) (t : DEnv → M Bool) (e : DEnv → M D) (δ : DEnv) : List D → List D → M (List D)
  | acc, [] => pure acc
  | acc, x :: r => do
    let δ1 ← noErr (g x δ)
    let b ← noErr (t δ1)
    if b = true then do
      let y ← noErr (e δ1)
      if acc.length < sizeLine then compL g t e δ (acc ++ [y]) r else M.stuck
    else compL g t e δ acc r
def lcD (vs : List Nat) (it : DEnv → M (List D)) (g : D → DEnv → M DEnv) (t : DEnv → M Bool) (e : DEnv → M D) : DEnv → M D := fun δ => do
  let xs ← it δ
  let ys ← compL g t e (wipeD δ vs) [] xs
  pure (.lst ys)
/-- the frame within a comprehension whose list stands at D -/
def Fr.blk (F : Fr) (D : Addr) : Fr := ⟨F.K, F.ca, F.ce, F.H0, fun b => F.Xs b ∨ b = D, F.R0, fun _ _ _ => False, F.own0⟩
theorem Ok1.noErr {α : Type} {F F' : Fr} {x : M α} {S : Sto} {P : α → Sto → Prop} (h : Ok1 F (Fg.noErr x S) P) : Ok1 F' (x S) P := by
  unfold Ok1 Fg.noErr at *
  cases e : x S with
  | none => rw [e] at h; exact h
  | some p =>
    rw [e] at h
    obtain ⟨r, S'⟩ := p
    cases r with
    | error _ => exact h.elim
    | ok a => exact h
section
variable {F : Fr} {O : List Nat} {B : Nat → Option Addr} {ρ ρ' : List Addr} {σ : L2.St} {H H' : Hp} {δ : DEnv} {S S' : Sto}
theorem Rel.wipe (r : Rel F O B ρ σ H δ S) : ∀ (vs : List Nat), (∀ v ∈ vs, v ∉ O) → Rel F O B ρ (wipe σ vs) H (wipeD δ vs) S
  | [], _ => r
  | v :: vs, h => by
    have r1 := Rel.wipe r vs fun w hw => h w (List.mem_cons_of_mem _ hw)
    have hv := h v (List.mem_cons_self ..)
    have bv := r1.notO hv
    refine ⟨r1.gr, r1.sta, r1.bnew, r1.oxs, r1.binj, r1.own, fun j a e => ?_, r1.zero, by show ((Fg.wipeD δ vs).set v none |> fun _ => ((L2.wipe σ vs).set v none).length = ((wipeD δ vs).set v none).length); rw [List.length_set, List.length_set]; exact r1.len, fun j d e => ?_⟩
    · obtain ⟨x, hx⟩ := r1.ownd j a e
      exact ⟨x, by show ((wipeD δ vs).set v none)[j]? = _; rw [List.getElem?_set_ne (fun z => by subst z; rw [bv] at e; cases e)]; exact hx⟩
    · have e : ((wipeD δ vs).set v none)[j]? = some (some d) := e
      by_cases z : v = j
      · subst z
        rw [List.getElem?_set] at e
        simp at e
      · rw [List.getElem?_set_ne z] at e
        have q := r1.slot j d e
        unfold SlAt at q ⊢
        cases eb : B j with
        | none =>
          rw [eb] at q
          obtain ⟨w, h1, h2⟩ := q
          exact ⟨w, by show ((L2.wipe σ vs).set v none)[j]? = _; rw [List.getElem?_set_ne z]; exact h1, h2⟩
        | some a =>
          rw [eb] at q
          exact ⟨by show ((L2.wipe σ vs).set v none)[j]? = _; rw [List.getElem?_set_ne z]; exact q.1, q.2⟩
theorem zo_blk {D b : Addr} : Zo (F.blk D) B ρ b ↔ (Zo F B ρ b ∨ b = D) := by
  unfold Zo Fr.blk
  constructor
  · rintro (((h | h) | h) | h)
    · exact .inl (.inl (.inl h))
    · exact .inr h
    · exact .inl (.inl (.inr h))
    · exact .inl (.inr h)
  · rintro (((h | h) | h) | h)
    · exact .inl (.inl (.inl h))
    · exact .inl (.inr h)
    · exact .inr h
    · exact .inl (.inl (.inr h))
theorem zo_blkE {D : Addr} : Zo (F.blk D) B ρ = fun b => Zo F B ρ b ∨ b = D := funext fun _ => propext zo_blk
theorem xs_blkE {D : Addr} : (fun b => (F.blk D).Xs b ∨ Own B b) = fun b => (F.Xs b ∨ Own B b) ∨ b = D := funext fun b => propext (by
  show ((F.Xs b ∨ b = D) ∨ Own B b) ↔ _
  rw [or_assoc, or_assoc, or_comm (a := b = D)])
/-- the list is laid -/
theorem Rel.enter {D : Addr} (r : Rel F O B ρ σ H δ S) (s : Same H H') (n : H D = none) (n' : ¬ Nw H' D) : Rel (F.blk D) O B ρ σ H' δ S := by
  have g : Gr ρ NoZ H ρ H' := Gr.same s
  have nb : ¬ Own B D := fun z => r.sta.live D (.inl (.inr z)) (Nw.of n)
  have r' := r.same s
  refine ⟨r'.gr, by rw [xs_blkE]; exact r.sta.new s n n', r'.bnew, fun b h z => z.elim (r.oxs b h) fun z => nb (z ▸ h), r'.binj, r'.own, r'.ownd, r'.zero, r'.len, fun i d e => ?_⟩
  have q := r.slot i d e
  have see : LamX.ExtN (hid (Zo F B ρ) H) (hid (Zo (F.blk D) B ρ) H') := by
    rw [zo_blkE]
    exact seesN s n
  unfold SlAt at q ⊢
  cases eb : B i with
  | none =>
    rw [eb] at q
    obtain ⟨v, h1, h2⟩ := q
    exact ⟨v, h1, h2.mono (fun _ _ e => e) see⟩
  | some a =>
    rw [eb] at q
    exact ⟨q.1, q.2.mono (fun _ _ e => e) see fun o _ e => s a o e⟩
/-- what is hidden has changed -/
theorem Rel.under {D : Addr} {o o' : HO} (r : Rel F O B ρ σ H δ S) (hx : F.Xs D) (h0 : Nw F.H0 D) (b : But D H H') (h : H D = some o) (h' : H' D = some o') (n1 : ∀ ps, o ≠ .tbl ps) (n2 : ∀ φ, o ≠ .ext φ) (n1' : ∀ ps, o' ≠ .tbl ps := by intro _ z; cases z) : Rel F O B ρ σ H' δ S ∧ Gr ρ (fun c => c = D) H ρ H' := by
  have g : Gr ρ (fun c => c = D) H ρ H' := Gr.but b h h' (.inl rfl) n1 n2 n1'
  have see : LamX.ExtN (hid (Zo F B ρ) H) (hid (Zo F B ρ) H') := g.sees (Z := fun b => F.Xs b ∨ Own B b) (fun c z => .inl (.inl (z ▸ hx))) fun b h => .inl h
  have nr : D ∉ ρ := fun z => r.sta.xr D z (.inl hx)
  refine ⟨⟨r.gr.trans g fun c z => .inr (z ▸ h0), ⟨fun c z => g.alive c (r.sta.live c z), r.sta.nd, r.sta.xr, SrL.mono (fun _ _ e => e) see (fun c hc u _ e => b c u (fun z => nr (z ▸ hc)) e) r.sta.sto⟩, r.bnew, r.oxs, r.binj, r.own, r.ownd, r.zero, r.len, fun i d e => ?_⟩, g⟩
  have q := r.slot i d e
  unfold SlAt at q ⊢
  cases eb : B i with
  | none =>
    rw [eb] at q
    obtain ⟨v, h1, h2⟩ := q
    exact ⟨v, h1, h2.mono (fun _ _ e => e) see⟩
  | some a =>
    rw [eb] at q
    exact ⟨q.1, q.2.mono (fun _ _ e => e) see fun u _ e => b a u (fun z => r.oxs a ⟨i, eb⟩ (z ▸ hx)) e⟩
end
theorem wipe_get (σ : L2.St) (j : Nat) : ∀ vs : List Nat, (L2.wipe σ vs)[j]? = if j ∈ vs then (if j < σ.length then some none else none) else σ[j]?
  | [] => by simp [L2.wipe]
  | v :: vs => by
    show ((L2.wipe σ vs).set v none)[j]? = _
    rw [List.getElem?_set, wipe_get σ j vs, wipe_length]
    by_cases c : v = j
    · subst c
      simp
    · rw [if_neg c]
      have c2 : ¬ j = v := fun z => c z.symm
      simp [c2]
theorem wipe_set {σ : L2.St} {i : Nat} {x : Option V} {vs : List Nat} (h : i ∈ vs) : L2.wipe (σ.set i x) vs = L2.wipe σ vs := by
  refine List.ext_getElem? fun j => ?_
  rw [wipe_get, wipe_get, List.length_set]
  by_cases c : j ∈ vs
  · rw [if_pos c, if_pos c]
  · rw [if_neg c, if_neg c, List.getElem?_set_ne (fun z : i = j => c (by rw [← z]; exact h))]
theorem wipe_wipe {σ : L2.St} {vs : List Nat} : L2.wipe (L2.wipe σ vs) vs = L2.wipe σ vs := by
  refine List.ext_getElem? fun j => ?_
  rw [wipe_get (L2.wipe σ vs), wipe_length]
  by_cases c : j ∈ vs
  · rw [if_pos c, wipe_get, if_pos c]
  · rw [if_neg c]
/-- a target within a comprehension -/
def dGC (F : Fr) (O : List Nat) (vs : List Nat) (t : D → DEnv → M DEnv) : TG := fun v σ H R => ∃ B ρ δ S d, Rel F O B ρ σ H δ S ∧ Rin F .fz B ρ H v d ∧
  Ok1 F (t d δ S) fun δ' S' => ∀ σ' H' ρ', Rel F O B ρ' σ' H' δ' S' → Gr ρ NoZ H ρ' H' → L2.wipe σ' vs = L2.wipe σ vs → R σ' H'
def dGCs (F : Fr) (O : List Nat) (vs : List Nat) (gs : List (D → DEnv → M DEnv)) : TGs := fun ws σ H R => ∃ B ρ δ S ds, Rel F O B ρ σ H δ S ∧ RinL F .fz B ρ H ws ds ∧
  Ok1 F (tgs gs ds δ S) fun δ' S' => ∀ σ' H' ρ', Rel F O B ρ' σ' H' δ' S' → Gr ρ NoZ H ρ' H' → L2.wipe σ' vs = L2.wipe σ vs → R σ' H'
section
variable {X : Cx} {F : Fr} {O : List Nat} {vs : List Nat} {e : Expr} {es : List Expr} {pos : Pos}
theorem pgc_name {x : Str} (i : Nat) (hN : X.N.Nodup) (hi : X.N[i]? = some x := by rfl) (hx : Loc X.env.scope x := by first | exact Or.inl rfl | exact Or.inr rfl) (ho : i ∉ O := by decide) (hv : i ∈ vs := by decide) (hf : X.fn x = true ∨ X.env.scope.names.lookup x = some .local := by first | exact .inl rfl | exact .inr rfl | assumption) :
    PG X (.Name x pos) (dGC F O vs (tgN i)) := pg_imp (pg_name hN hi hx hf) fun v σ H Q ⟨B, ρ, δ, S, d, r, z, q⟩ => (q : ∀ σ' H' ρ', _) _ H ρ (r.set ho z) (Gr.refl _ _ _) (wipe_set hv)
theorem pgc_nil : PGs X [] (dGCs F O vs []) := pgs_imp pgs_nil fun ws σ H Q ⟨B, ρ, δ, S, ds, r, z, q⟩ => by
  cases ds with
  | nil =>
    have z : RpL F.K F.ca ρ (hid (Zo F B ρ) H) ws [] := z
    cases z
    exact ⟨rfl, (q : ∀ σ' H' ρ', _) σ H ρ r (Gr.refl _ _ _) rfl⟩
  | cons d ds => exact (show False from q).elim
theorem pgc_cons {g : D → DEnv → M DEnv} {gs : List (D → DEnv → M DEnv)} (h : PG X e (dGC F O vs g)) (k : PGs X es (dGCs F O vs gs)) (hs : (assignEach (e :: es) X.env).map (·.2) = assign e X.env :: (assignEach es X.env).map (·.2) := by rfl) : PGs X (e :: es) (dGCs F O vs (g :: gs)) :=
  pgs_imp (pgs_cons h k hs) fun ws σ H Q ⟨B, ρ, δ, S, ds, r, z, q⟩ => by
    cases ds with
    | nil => exact (show False from q).elim
    | cons d ds =>
      have z : RpL F.K F.ca ρ (hid (Zo F B ρ) H) ws (d :: ds) := z
      cases z with
      | cons z zs =>
        exact ⟨_, _, rfl, B, ρ, δ, S, d, r, z, (Ok1.bind q).imp fun δ' S' k σ' H' ρ' r' g w => ⟨B, ρ', δ', S', ds, r', RinL.gr (m := .fz) zs g, k.imp fun δ2 S2 k σ2 H2 ρ2 r2 g2 w2 => k σ2 H2 ρ2 r2 (g.tr g2) (w2.trans w)⟩⟩
theorem pgc_tup {gs : List (D → DEnv → M DEnv)} {kk n : Nat} (hK : F.K = X.K) (hc : X.calm = true) (h : PGs X es (dGCs F O vs gs)) (hg : gs.length = n) (hn : (assignEach es X.env).length = n := by rfl) (hst : (assignEach es X.env).findIdx? (·.1) = none := by rfl) : PG X (.Tuple es kk pos) (dGC F O vs (tgT gs)) :=
  pg_imp (pg_tup hc h hn hst) fun v σ H Q ⟨B, ρ, δ, S, d, r, z, q⟩ => by
    cases d <;> first | exact (show False from q).elim | skip
    rename_i ds
    obtain ⟨a, ws, rfl, h1, h2⟩ := Rin.tup z
    obtain ⟨hl, q⟩ := Ok1.ite (show Ok1 F ((if ds.length = gs.length then tgs gs ds δ else M.stuck) S) _ from q)
    exact ⟨a, ws, rfl, hK ▸ h1, by rw [RinL.len h2, hl, hg], B, ρ, δ, S, ds, r, h2, q⟩
end
/-- readings that hang on where the list stands -/
def exG (t : Addr → TG) : TG := fun v σ H R => ∃ D, t D v σ H R
def exT (t : Addr → TT) : TT := fun σ H R => ∃ D, t D σ H R
def exE (t : Addr → TE) : TE := fun σ H R => ∃ D, t D σ H R
theorem pg_ex {X : Cx} {e : Expr} {t : Addr → TG} (h : ∀ D, PG X e (t D)) : PG X e (exG t) := ⟨fun pins s σ H v u Q I r ⟨D, q⟩ => (h D).run pins s σ H v u Q I r q⟩
theorem pe_ex {X : Cx} {e : Expr} {t : Addr → TE} (h : ∀ D, PE X e (t D)) : PE X e (exE t) := ⟨fun pins s σ H Q I ⟨D, q⟩ => (h D).run pins s σ H Q I q⟩
theorem pts_ex {X : Cx} {e : List Expr} {t : Addr → TT} (h : ∀ D, PTs X e (t D)) : PTs X e (exT t) := ⟨fun pins s σ H Q I ⟨D, q⟩ => (h D).run pins s σ H Q I q⟩
def yesM : DEnv → M Bool := fun _ => pure true
theorem ptsd_nil {X : Cx} {F : Fr} {O : List Nat} : PTs X [] (dT F O yesM) := ⟨fun pins s σ H Q I ⟨B, ρ, δ, S, r, q⟩ => pts_nil.run pins s σ H Q I ((q : ∀ H' ρ', _) H ρ r (Gr.refl _ _ _))⟩
theorem ptsd_one {X : Cx} {F : Fr} {O : List Nat} {c : Expr} {t : DEnv → M Bool} (h : PTD X F O c t) : PTs X [c] (dT F O t) := pts_one h
section
variable {F : Fr} {O : List Nat} {g : D → DEnv → M DEnv} {t : DEnv → M Bool} {el : DEnv → M D} {st : Hp → Prop} {vs : List Nat} {σ : L2.St} {Da : Addr} {Q : Hp → Prop} {Hs : Hp} {ρs : List Addr} {B : Nat → Option Addr} {δ : DEnv}
/-- the items of a comprehension -/
theorem comp_of (hn : Nw Hs Da) (h0 : Nw F.H0 Da) (hst : ∀ H1 ρ1, Gr ρs NoZ Hs ρ1 H1 → st H1) :
    ∀ (ds : List D) (xs : List V) (acc : List D) (ys : List V) (ρ1 : List Addr) (H1 : Hp) (S1 : Sto), Rel (F.blk Da) O B ρ1 (L2.wipe σ vs) H1 (wipeD δ vs) S1 → Gr ρs NoZ Hs ρ1 H1 → H1 Da = some (.lst ys) → RinL (F.blk Da) .fz B ρ1 H1 ys acc → RinL (F.blk Da) .fz B ρ1 H1 xs ds →
    Ok1 F (compL g t el (wipeD δ vs) acc ds S1) (fun r S' => ∀ H' ρ' zs, Rel (F.blk Da) O B ρ' (L2.wipe σ vs) H' (wipeD δ vs) S' → Gr ρs NoZ Hs ρ' H' → H' Da = some (.lst zs) → RinL (F.blk Da) .fz B ρ' H' zs r → Q H') →
    Comp st (exG fun D => dGC (F.blk D) O vs g) (exT fun D => dT (F.blk D) O t) (exE fun D => dE (F.blk D) O .fz el) vs σ Da Q xs H1
  | [], xs, acc, ys, ρ1, H1, S1, r1, g1, hD, la, lx, q => by
    have z : RpL F.K F.ca ρ1 (hid (Zo (F.blk Da) B ρ1) H1) xs [] := lx
    cases z
    exact (q : ∀ H' ρ' zs, _) H1 ρ1 ys r1 g1 hD la
  | d :: ds, xs, acc, ys, ρ1, H1, S1, r1, g1, hD, la, lx, q => by
    have z : RpL F.K F.ca ρ1 (hid (Zo (F.blk Da) B ρ1) H1) xs (d :: ds) := lx
    cases z with
    | cons zx zs =>
      unfold compL at q
      refine ⟨Da, B, ρ1, wipeD δ vs, S1, d, r1, zx, q.bind.noErr.imp fun δ2 S2 q σ2 H2 ρ2 r2 g2 w2 => ⟨w2.trans wipe_wipe, Da, B, ρ2, δ2, S2, r2, q.bind.noErr.imp fun b S3 q H3 ρ3 r3 g3 => ?_⟩⟩
      have back : ∀ {H4 ρ4 S4}, Rel (F.blk Da) O B ρ4 σ2 H4 δ2 S4 → Gr ρ1 NoZ H1 ρ4 H4 → Rel (F.blk Da) O B ρ4 (L2.wipe σ vs) H4 (wipeD δ vs) S4 := fun r4 g4 => r1.step g4 r4.sta
      have hD3 : H3 Da = some (.lst ys) := (g2.tr g3).keep Da _ (fun z => r1.sta.xr Da z (.inl (.inr rfl))) (fun z => z) (fun _ z => by cases z) hD
      cases b with
      | false =>
        refine ⟨hst H3 ρ3 (g1.tr (g2.tr g3)), ?_⟩
        exact comp_of hn h0 hst ds _ acc ys ρ3 H3 S3 (back r3 (g2.tr g3)) (g1.tr (g2.tr g3)) hD3 (la.gr (g2.tr g3)) (RinL.gr (m := .fz) zs (g2.tr g3)) q
      | true =>
        refine ⟨Da, B, ρ3, δ2, S3, r3, (Ok1.bind q).noErr.imp fun y S4 q v H4 ρ4 r4 g4 z4 => ?_⟩
        obtain ⟨hl, q⟩ := Ok1.ite q
        have g14 := g2.tr (g3.tr g4)
        have hD4 : H4 Da = some (.lst ys) := g14.keep Da _ (fun z => r1.sta.xr Da z (.inl (.inr rfl))) (fun z => z) (fun _ z => by cases z) hD
        have rb := back r4 g14
        obtain ⟨r5, g5⟩ := rb.under (D := Da) (o' := .lst (ys ++ [v])) (.inr rfl) h0 But.upd hD4 upd_same (fun _ z => by cases z) (fun _ z => by cases z)
        have see : LamX.ExtN (hid (Zo (F.blk Da) B ρ4) H4) (hid (Zo (F.blk Da) B ρ4) (upd H4 Da (.lst (ys ++ [v])))) := g5.sees (Z := fun b => (F.blk Da).Xs b ∨ Own B b) (fun c z => .inl (.inl (.inr z))) fun b h => .inl h
        have gg : Gr ρs NoZ Hs ρ4 (upd H4 Da (.lst (ys ++ [v]))) := (g1.tr g14).trans g5 fun c z => .inr (z ▸ hn)
        have l5 : RinL (F.blk Da) .fz B ρ4 (upd H4 Da (.lst (ys ++ [v]))) (ys ++ [v]) (acc ++ [y]) := RpL.mono (fun _ _ e => e) see (RpL.append (RinL.gr (m := .fz) la g14) (.cons z4 .nil))
        refine ⟨ys, hD4, by rw [RinL.len la]; exact hl, hst _ ρ4 gg, ?_⟩
        exact comp_of hn h0 hst ds _ (acc ++ [y]) (ys ++ [v]) ρ4 _ S4 r5 gg upd_same l5 (RpL.mono (fun _ _ e => e) see (RinL.gr (m := .fz) zs g14)) q
end
section
variable {X : Cx} {F : Fr} {O OL : List Nat} {pos pos' : Pos} {elt tg iter : Expr} {ifs : List Expr} {scope : Scope} {own : List (Str × Nat)} {it : DEnv → M (List D)} {g : D → DEnv → M DEnv} {t : DEnv → M Bool} {el : DEnv → M D}
theorem dE_nw {F : Fr} {O : List Nat} {t : DEnv → M D} {σ : L2.St} {H : Hp} {Q : VK} (q : dE F O .fz t σ H Q) : dE F O .nw t σ H Q := by
  obtain ⟨B, ρ, δ, S, r, q⟩ := q
  exact ⟨B, ρ, δ, S, r, q.imp fun d S' k v H' ρ' r' g z => k v H' ρ' r' g (Res.rin (m := .nw) r z)⟩
/-- what a comprehension reads -/
theorem lc_of {σ : L2.St} {H : Hp} {Q : VK} (ho : ∀ v ∈ own.map (·.2), v ∉ O) (q : dE F O .nw (lcD (own.map (·.2)) it g t el) σ H Q) :
    tLcW (dW F O it) (exG fun D => dGC (F.blk D) O (own.map (·.2)) g) (exT fun D => dT (F.blk D) O t) (exE fun D => dE (F.blk D) O .fz el) (own.map (·.2)) σ H Q := by
  obtain ⟨B, ρ, δ, S, r, q⟩ := q
  refine ⟨B, ρ, δ, S, r, q.bind.imp fun ds S' q vs st H' ρ' r' g' z h1 hst => ⟨h1, fun Da H2 nD s2 h2 => ?_⟩⟩
  have g2 : Gr ρ' NoZ H' ρ' H2 := Gr.same s2
  have re := (r'.enter s2 nD (Nw.live h2 fun _ z => by cases z)).wipe (own.map (·.2)) ho
  have h0 : Nw F.H0 Da := Classical.byContradiction fun z => r'.gr.alive Da z (Nw.of nD)
  have lx : RinL (F.blk Da) .fz B ρ' H2 vs ds := RpL.mono (fun _ _ e => e) (zo_blkE (F := F) ▸ seesN s2 nD) z
  refine ⟨hst H2 ρ' g2.wk, comp_of (Hs := H') (ρs := ρ') (Nw.of nD) h0 (fun H1 ρ1 g => hst H1 ρ1 g.wk) ds vs [] [] ρ' H2 S' re g2 h2 RinL.nil lx (q.bind.imp fun ys S2 k H3 ρ3 zs r3 g3 hD l3 => ?_)⟩
  have k : ∀ v H' ρ', _ := k
  have st3 : Sta F.K F.ca ρ3 (fun b => (F.Xs b ∨ Own B b) ∨ b = Da) H3 S2 := xs_blkE (F := F) (B := B) ▸ r3.sta
  refine k (.ref Da) H3 ρ3 (r'.step g3 (st3.wk fun b h => .inl h)) (g'.tr g3) ⟨Da, rfl, Classical.byContradiction fun z => g'.alive Da z (Nw.of nD), fun z => r3.sta.xr Da z (.inl (.inr rfl)), st3, zs, hD, ?_⟩
  exact zo_blkE (F := F) ▸ l3
theorem pd_lc (hc : X.calm = true) (hN : X.N.Nodup) (hi : PID X F O tg iter it) (ok : BlkOk X.N X.env.scope scope own) (ho : ∀ v ∈ own.map (·.2), v ∉ O)
    (hg : ∀ (s : Shared) (H : Hp) (C : Addr) (cl : List (Str × Addr)) (fp : List Addr) (D : Addr), PG (X.blk s H scope (compEnvC scope cl C X.env) fp) tg (dGC (F.blk D) O (own.map (·.2)) g))
    (ht : ∀ (s : Shared) (H : Hp) (C : Addr) (cl : List (Str × Addr)) (fp : List Addr) (D : Addr), PTs (X.blk s H scope (compEnvC scope cl C X.env) fp) ifs (dT (F.blk D) O t))
    (he : ∀ (s : Shared) (H : Hp) (C : Addr) (cl : List (Str × Addr)) (fp : List Addr) (D : Addr), PE (X.blk s H scope (compEnvC scope cl C X.env) fp) elt (dE (F.blk D) O .fz el)) (hs : ∀ x, foldedSetIterable iter X.env x = pure x := by intro _; rfl) :
    PED X F O .nw (.ListComp elt [⟨tg, iter, ifs, 0⟩] scope pos) (lcD (own.map (·.2)) it g t el) :=
  pe_imp (fe_lc hc hN hi ok (fun s H C cl fp => pg_ex (hg s H C cl fp)) (fun s H C cl fp => pts_ex (ht s H C cl fp)) (fun s H C cl fp => pe_ex (he s H C cl fp)) hs) fun σ H Q q => lc_of ho q
/-- x = [..] -/
theorem psd_setLc {i : Nat} {y : Str} {py spos : Pos} (hc : X.calm = true) (hN : X.N.Nodup) (hy : X.N[i]? = some y) (hyl : X.env.scope.names.lookup y = some .local)
    (hsw : swapsWith (.ListComp elt [⟨tg, iter, ifs, 0⟩] scope pos) (some (.Name y py)) spos.line X.env = pure true) (hi : PID X F O tg iter it) (ok : BlkOk X.N X.env.scope scope own) (ho : ∀ v ∈ own.map (·.2), v ∉ O) (hio : i ∉ O)
    (hg : ∀ (s : Shared) (H : Hp) (C : Addr) (cl : List (Str × Addr)) (fp : List Addr) (D : Addr), PG (X.blk s H scope (compEnvC scope cl C X.env) fp) tg (dGC (F.blk D) O (own.map (·.2)) g))
    (ht : ∀ (s : Shared) (H : Hp) (C : Addr) (cl : List (Str × Addr)) (fp : List Addr) (D : Addr), PTs (X.blk s H scope (compEnvC scope cl C X.env) fp) ifs (dT (F.blk D) O t))
    (he : ∀ (s : Shared) (H : Hp) (C : Addr) (cl : List (Str × Addr)) (fp : List Addr) (D : Addr), PE (X.blk s H scope (compEnvC scope cl C X.env) fp) elt (dE (F.blk D) O .fz el)) (hs : ∀ x, foldedSetIterable iter X.env x = pure x := by intro _; rfl) :
    PSD X F O O OL (.Assign [.Name y py] (.ListComp elt [⟨tg, iter, ifs, 0⟩] scope pos) spos) (setS i (lcD (own.map (·.2)) it g t el)) :=
  ps_imp (fs_setLc hc hN hy hyl hsw hi ok (fun s H C cl fp => pg_ex (hg s H C cl fp)) (fun s H C cl fp => pts_ex (ht s H C cl fp)) (fun s H C cl fp => pe_ex (he s H C cl fp)) hs) fun Dn σ H q => asg_fz (t := lcD (own.map (·.2)) it g t el) (fun Q q => lc_of ho (dE_nw q)) hio q
theorem psd_setLcN {i : Nat} {y : Str} {py spos : Pos} (hc : X.calm = true) (hN : X.N.Nodup) (hy : X.N[i]? = some y) (hyl : X.env.scope.names.lookup y = some .local)
    (hsw : swapsWith (.ListComp elt [⟨tg, iter, ifs, 0⟩] scope pos) (some (.Name y py)) spos.line X.env = pure true) (hi : PID X F O tg iter it) (ok : BlkOk X.N X.env.scope scope own) (ho : ∀ v ∈ own.map (·.2), v ∉ O) (hio : i ∉ O)
    (hg : ∀ (s : Shared) (H : Hp) (C : Addr) (cl : List (Str × Addr)) (fp : List Addr) (D : Addr), PG (X.blk s H scope (compEnvC scope cl C X.env) fp) tg (dGC (F.blk D) O (own.map (·.2)) g))
    (ht : ∀ (s : Shared) (H : Hp) (C : Addr) (cl : List (Str × Addr)) (fp : List Addr) (D : Addr), PTs (X.blk s H scope (compEnvC scope cl C X.env) fp) ifs (dT (F.blk D) O t))
    (he : ∀ (s : Shared) (H : Hp) (C : Addr) (cl : List (Str × Addr)) (fp : List Addr) (D : Addr), PE (X.blk s H scope (compEnvC scope cl C X.env) fp) elt (dE (F.blk D) O .fz el)) (hs : ∀ x, foldedSetIterable iter X.env x = pure x := by intro _; rfl) (hz0 : i ≠ 0 ∨ F.own0 = none := by first | exact Or.inl (by decide) | exact Or.inr rfl) :
    PSD X F O (i :: O) OL (.Assign [.Name y py] (.ListComp elt [⟨tg, iter, ifs, 0⟩] scope pos) spos) (setS i (lcD (own.map (·.2)) it g t el)) :=
  ps_len (ps_imp (fs_setLc hc hN hy hyl hsw hi ok (fun s H C cl fp => pg_ex (hg s H C cl fp)) (fun s H C cl fp => pts_ex (ht s H C cl fp)) (fun s H C cl fp => pe_ex (he s H C cl fp)) hs) fun Dn σ H ⟨hl, q⟩ => by
    have li : i < σ.length := by rw [hl]; exact (List.getElem?_eq_some_iff.mp hy).1
    exact asg_nw (X := X) (t := lcD (own.map (·.2)) it g t el) (fun Q q => lc_of ho q) hio hz0 (fun _ => li) q li)
end
end Fg

set_option Elab.async false
set_option linter.all false
set_option maxRecDepth 100000
set_option maxHeartbeats 4000000
namespace Fg
open PySem PySem.Spec PyProof.Rows L2
variable [TQ]
/-! ### names of the terms' forms -/
abbrev binM (f : D → D → M D) (ta tb : DEnv → M D) : DEnv → M D := fun δ => do let x ← ta δ; let y ← tb δ; f x y
abbrev oneM {α : Type} (g : D → M α) (t : DEnv → M D) : DEnv → M α := fun δ => do let d ← t δ; g d
abbrev callM {α : Type} (g : List D → M α) (t : DEnv → M (List D)) : DEnv → M α := fun δ => do let ds ← t δ; g ds
abbrev lstM (t : DEnv → M (List D)) : DEnv → M D := fun δ => do let ds ← t δ; capL ds; pure (.lst ds)
abbrev tupM (t : DEnv → M (List D)) : DEnv → M D := fun δ => do let ds ← t δ; capL ds; pure (.tup ds)
abbrev cM (d : D) : DEnv → M D := fun _ => pure d
abbrev asgS (t : DEnv → M D) (g : D → DEnv → M DEnv) : DEnv → M (DEnv × Fl) := fun δ => do let d ← t δ; let δ' ← g d δ; pure (δ', .nx)
/-! ### texts -/
section
variable {X : Cx} {F : Fr} {O O' O1 O2 OL : List Nat} {m mi : Md} {pos pos' p apos : Pos} {a b c e e2 tg o : Expr} {rest es elts ifs : List Expr} {i j k kk : Nat} {x f : Str} {ps : List Str} {K : PySem.W.Frag}
/-- a method of a text with an argument -/
def MetD (F : Fr) (mi m : Md) (r : V → List V → Hp → VK → Prop) (f : D → D → M D) : Prop := ∀ O B ρ σ δ H S z y e Q, Rel F O B ρ σ H δ S → Rin F mi B ρ H y e →
  Ok1 F (f (.str z) e S) (fun d' S' => ∀ v H' ρ', Rel F O B ρ' σ H' δ S' → Gr ρ NoZ H ρ' H' → Res F m B ρ' H H' S' v d' → Q v H') → r (.str z) [y] H Q
def strM (f : D → D → M D) (t u : DEnv → M D) : DEnv → M D := fun δ => do
  let x ← t δ
  match x with
  | .str z => (do let y ← u δ; f (.str z) y)
  | _ => M.stuck
theorem pd_sm1 {id : String} {name : Str} {r : V → List V → Hp → VK → Prop} {g : D → D → M D} {t u : DEnv → M D} (slot : Slot "str" name id) (ty : typeOf (.builtin id) = pure (.type "method_descriptor")) (rule : MtR X id r) (hf : MetD F mi m r g) (ho : PED X F O mi o t) (he : PED X F O mi e u) (hi : mi ≠ .nw := by decide)
    (hs : starEach [e] X.env = [(false, eval e X.env)] := by rfl) (hbase : attributeBase o name X.env (eval o X.env) = eval o X.env := by rfl) (hline : (apos.endLine == pos.line) = true := by rfl) :
    PED X F O m (.Call (.Attribute o name apos) [e] [] pos) (strM g t u) := pe_imp (fe_sm1 slot ty rule ho he hs hbase hline) fun σ H Q ⟨B, ρ, δ, S, r0, q⟩ => ⟨B, ρ, δ, S, r0, q.bind.imp fun d S' q v H' ρ' r' g1 z => by
    cases d <;> first | exact (show False from q).elim | skip
    rename_i s
    obtain rfl := Rin.str (Res.rin r0 z)
    exact ⟨B, ρ', δ, S', r', (Ok1.bind q).imp fun y S2 q w H2 ρ2 r2 g2 z2 => hf O B ρ2 σ δ H2 S2 s w y Q r2 (Res.rin r' z2) (q.imp fun d3 S3 k v3 H3 ρ3 r3 g3 z3 => k v3 H3 ρ3 r3 ((g1.tr g2).tr g3) (Res.gr2 (g1.tr g2) z3))⟩⟩
def strsD : List D → Option (List Str)
  | [] => some []
  | .str z :: r => (strsD r).map (z :: ·)
  | _ :: _ => none
theorem strs_rp {ca : Str → Option Addr} {ρ : List Addr} {G : Hp} : ∀ {ds : List D} {vs : List V} {bs : List Str}, RpL K ca ρ G vs ds → strsD ds = some bs → vs = bs.map V.str
  | [], _, _, .nil, e => by cases e; rfl
  | d :: ds, _, bs, .cons h t, e => by
    cases d <;> first | cases e | skip
    rename_i b
    cases h
    have e : (strsD ds).map (b :: ·) = some bs := e
    cases eb : strsD ds with
    | none => rw [eb] at e; cases e
    | some cs =>
      rw [eb] at e
      cases e
      rw [strs_rp t eb]
      rfl
def joinOk (a : Str) (ys : List Str) : Prop := (ys.map (·.length)).sum + ys.length * a.length ≤ 16777216
instance (a : Str) (ys : List Str) : Decidable (joinOk a ys) := by unfold joinOk; infer_instance
def joinD : D → D → M D
  | .str a, .lst ds => do let ys ← M.opt (strsD ds); if joinOk a ys then pure (.str (Txt.join a ys)) else M.stuck
  | .str a, .tup ds => do let ys ← M.opt (strsD ds); if joinOk a ys then pure (.str (Txt.join a ys)) else M.stuck
  | _, _ => M.stuck
theorem m_join (hK : F.K = K) (h2 : m ≠ .nw) : MetD F mi m (fJoin K) joinD := by
  intro O B ρ σ δ H S z y e Q r hy q
  subst hK
  cases e <;> first | exact (show False from q).elim | skip
  · obtain ⟨ys, ey, q⟩ := q.bind.opt
    obtain ⟨c, q⟩ := Ok1.ite q
    obtain ⟨a, ws, rfl, ha, la⟩ := hy.tup
    obtain ⟨G, _, la⟩ := la.out
    exact ⟨ys, .inr (strs_rp la ey ▸ ha), c, Ok1.scal r (d := .str _) rfl h2 q⟩
  · obtain ⟨ys, ey, q⟩ := q.bind.opt
    obtain ⟨c, q⟩ := Ok1.ite q
    obtain ⟨a, ws, rfl, ha, la⟩ := hy.lst
    obtain ⟨G, _, la⟩ := la.out
    exact ⟨ys, .inl (SqL.of (strs_rp la ey ▸ ha)), c, Ok1.scal r (d := .str _) rfl h2 q⟩
def indexD : D → D → M D
  | .str a, .str b => do let k ← M.opt (Txt.index0 a b); pure (.int (k : Nat))
  | _, _ => M.stuck
theorem m_index (h2 : m ≠ .nw) : MetD F mi m fIndex indexD := by
  intro O B ρ σ δ H S z y e Q r hy q
  cases e <;> first | exact (show False from q).elim | skip
  obtain ⟨k, ek, q⟩ := q.bind.opt
  cases hy.str
  exact ⟨k, ek, Ok1.scal r (d := .int _) rfl h2 q⟩
def splitD : D → D → M D
  | .str a, .str b => if (b.length == 0) = false ∧ a.length + 2 ≤ sizeLine then pure (.lst ((Txt.split a b).map D.str)) else M.stuck
  | _, _ => M.stuck
theorem m_split (h2 : m ≠ .nw) : MetD F mi m fSplit splitD := by
  intro O B ρ σ δ H S z y e Q r hy q
  cases e <;> first | exact (show False from q).elim | skip
  obtain ⟨c, q⟩ := Ok1.ite q
  cases hy.str
  refine ⟨c.1, c.2, fun p H2 np s2 h2' => (q : ∀ v H' ρ', _) _ H2 ρ (r.same s2) (Gr.same s2) (lst_new r np s2 h2' h2 ?_)⟩
  cases m
  · exact rpL_map (fun c => .str) _
  · exact rpL_map (fun c => .str) _
  · exact absurd rfl h2
/-! ### f-strings -/
def fmtD : D → M Str
  | .str y => if y.length ≤ sizeLine then pure y else M.stuck
  | .int i => if i.natAbs.log2 < 1920 then pure (toString i) else M.stuck
  | _ => M.stuck
/-- a piece of an f-string -/
structure PJD (X : Cx) (F : Fr) (O : List Nat) (e : Expr) (t : DEnv → M D) : Prop where
  h : PED X F O .tr e t
inductive PJs (X : Cx) (F : Fr) (O : List Nat) : List Expr → List (DEnv → M D) → Prop where
  | nil : PJs X F O [] []
  | cons {e : Expr} {t : DEnv → M D} {es : List Expr} {ts : List (DEnv → M D)} (h : PED X F O .tr e t) (r : PJs X F O es ts) : PJs X F O (e :: es) (t :: ts)
theorem pjs_pj {ts : List (DEnv → M D)} (h : PJs X F O es ts) : PJ X es (ts.map (dE F O .tr)) := by
  induction h with
  | nil => exact .nil
  | cons h _ ih => exact .cons h ih
def joinedM : List (DEnv → M D) → Str → DEnv → M Str
  | [], acc, _ => pure acc
  | t :: ts, acc, δ => do
    let x ← t δ
    match x with
    | .str y => if (acc ++ y).length ≤ sizeLine then joinedM ts (acc ++ y) δ else M.stuck
    | _ => M.stuck
abbrev fstrM (ts : List (DEnv → M D)) : DEnv → M D := fun δ => do let s ← joinedM ts Str.empty δ; pure (.str s)
theorem tJs_of {Q : Str → Hp → Prop} {σ : L2.St} {B : Nat → Option Addr} {δ : DEnv} {ρ0 : List Addr} {H0 : Hp} : ∀ (ts : List (DEnv → M D)) (acc : Str) (ρ : List Addr) (H : Hp) (S : Sto), Rel F O B ρ σ H δ S → Gr ρ0 NoZ H0 ρ H →
    Ok1 F (joinedM ts acc δ S) (fun s S' => ∀ H' ρ', Rel F O B ρ' σ H' δ S' → Gr ρ0 NoZ H0 ρ' H' → Q s H') → tJs (ts.map (dE F O .tr)) acc σ H Q
  | [], acc, ρ, H, S, r, g, q => (q : ∀ H' ρ', _) H ρ r g
  | t :: ts, acc, ρ, H, S, r, g, q => by
    unfold joinedM at q
    refine ⟨B, ρ, δ, S, r, q.bind.imp fun d S' q v H' ρ' r' g' z => ?_⟩
    cases d <;> first | exact (show False from q).elim | skip
    rename_i y
    obtain rfl := Rin.str (m := .tr) (B := B) z
    obtain ⟨c, q⟩ := Ok1.ite q
    exact ⟨y, rfl, c, tJs_of ts _ ρ' H' S' r' (g.tr g') q⟩
theorem pd_fstr {v1 v2 : Expr} {ts : List (DEnv → M D)} (h : PJs X F O (v1 :: v2 :: rest) ts) (h2 : m ≠ .nw := by decide) : PED X F O m (.JoinedStr (v1 :: v2 :: rest) pos) (fstrM ts) := pe_imp (pe_joined (pjs_pj h)) fun σ H Q ⟨B, ρ, δ, S, r, q⟩ =>
  tJs_of ts Str.empty ρ H S r (Gr.refl _ _ _) (q.bind.imp fun s S' k H' ρ' r' g => (k : ∀ v H' ρ', _) _ H' ρ' r' g (scV_res (d := .str s) rfl h2))
theorem pd_fstr1 {t : DEnv → M D} (h : PED X F O m e t) : PED X F O m (.JoinedStr [e] pos) t := pe_joined1 h
theorem pd_fmt {t : DEnv → M D} (h : PED X F O .tr e t) (h2 : m ≠ .nw := by decide) : PED X F O m (.FormattedValue e (-1) none pos) (fun δ => do let d ← t δ; let s ← fmtD d; pure (.str s)) := pe_imp (fe_fmt h) fun σ H Q ⟨B, ρ, δ, S, r, q⟩ => ⟨B, ρ, δ, S, r, q.bind.imp fun d S' q v H' ρ' r' g z => by
  have z : Rin F .tr B ρ' H' v d := z
  cases d <;> first | exact (show False from q).elim | skip
  · cases z.int
    obtain ⟨c, q⟩ := Ok1.ite q.bind
    exact ⟨c, (q : ∀ v H' ρ', _) _ H' ρ' r' g (scV_res (d := .str _) rfl h2)⟩
  · cases z.str
    obtain ⟨c, q⟩ := Ok1.ite q.bind
    exact ⟨c, (q : ∀ v H' ρ', _) _ H' ρ' r' g (scV_res (d := .str _) rfl h2)⟩⟩
end
end Fg

set_option Elab.async false
set_option linter.all false
set_option maxRecDepth 100000
set_option maxHeartbeats 4000000
namespace Fg
open PySem PySem.Spec PyProof.Rows L2
variable [TQ]
abbrev fmtM (t : DEnv → M D) : DEnv → M D := fun δ => do let d ← t δ; let s ← fmtD d; pure (.str s)
/-! ### -x, slices, repetition -/
def negD : D → M D
  | .int i => pure (.int (-i))
  | _ => M.stuck
def revD : D → M D
  | .lst ds => pure (.lst ds.reverse)
  | _ => M.stuck
def cutD (ds : List D) (lo hi : Option Int) : List D := (ds.drop (HT.sIx ds.length 0 lo)).take (HT.sIx ds.length ds.length hi - HT.sIx ds.length 0 lo)
abbrev noPM : DEnv → M (Option Int) := fun _ => pure none
def partD : D → M (Option Int)
  | .int i => pure (some i)
  | _ => M.stuck
abbrev somePM (t : DEnv → M D) : DEnv → M (Option Int) := fun δ => do let d ← t δ; partD d
abbrev sliceM (f : D → Option Int → Option Int → M D) (t : DEnv → M D) (l u : DEnv → M (Option Int)) : DEnv → M D := fun δ => do let x ← t δ; let lo ← l δ; let hi ← u δ; f x lo hi
def slLD : D → Option Int → Option Int → M D
  | .lst ds, lo, hi => pure (.lst (cutD ds lo hi))
  | _, _, _ => M.stuck
def slTD : D → Option Int → Option Int → M D
  | .tup ds, lo, hi => pure (.tup (cutD ds lo hi))
  | _, _, _ => M.stuck
def slSD : D → Option Int → Option Int → M D
  | .str z, lo, hi => if z.length ≤ sizeLine then pure (.str (cutS z lo hi)) else M.stuck
  | _, _, _ => M.stuck
def repOk (n : Nat) (k : Int) : Prop := k < 2 ^ 63 ∧ -(2 ^ 63) ≤ k ∧ n * k.toNat ≤ sizeLine
instance (n : Nat) (k : Int) : Decidable (repOk n k) := by unfold repOk; infer_instance
def repD : D → D → M D
  | .lst ds, .int k => if repOk ds.length k then pure (.lst (List.replicate k.toNat ds).flatten) else M.stuck
  | _, _ => M.stuck
def mulSD : D → D → M D
  | .str z, .int n => do let c ← M.opt (isSign z); if -1000000 ≤ n ∧ n ≤ 1000000 then pure (.str (repC c n.toNat)) else M.stuck
  | _, _ => M.stuck
/-- == of flat things -/
def eqF : D → D → Bool
  | .non, .non => true
  | .bl a, .bl b => a == b
  | .bl a, .int b => (if a then 1 else 0) == b
  | .int a, .bl b => a == (if b then 1 else 0)
  | .int a, .int b => a == b
  | .str a, .str b => a == b
  | _, _ => false
theorem eqF_V {x y : D} (hx : scalD x = true) (hy : scalD y = true) : eqV (scV x) (scV y) = eqF x y := by
  cases x <;> cases y <;> first | rfl | (cases hx; done) | (cases hy; done)
def inQD (neg : Bool) : D → D → M D
  | x, .lst ds => if scalD x = true ∧ ds.all scalD = true then pure (.bl (opp neg (ds.any fun y => eqF y x))) else M.stuck
  | x, .tup ds => if scalD x = true ∧ ds.all scalD = true then pure (.bl (opp neg (ds.any fun y => eqF y x))) else M.stuck
  | _, _ => M.stuck
def inKD (kds : List (Str × D)) : D → M D
  | .str z => pure (.bl (kds.lookup z).isSome)
  | _ => M.stuck
def ixKD (kds : List (Str × D)) : D → M D
  | .str z => M.opt (kds.lookup z)
  | _ => M.stuck
/-- == at any depth -/
def eqNL (f : D → D → Option Bool) : List D → List D → Option (List Bool)
  | [], _ => some []
  | _ :: _, [] => some []
  | x :: xs, y :: ys => (f x y).bind fun b => (eqNL f xs ys).map (b :: ·)
def eqN : Nat → D → D → Option Bool
  | 0, x, y => if scalD x = true ∧ scalD y = true then some (eqF x y) else none
  | n + 1, x, y => match x, y with
    | .lst xs, .lst ys => if xs.length = ys.length then (eqNL (eqN n) xs ys).map (·.all id) else some false
    | .tup xs, .tup ys => (eqNL (eqN n) xs ys).map fun bs => bs.all id && xs.length == ys.length
    | x, y => if scalD x = true ∧ scalD y = true then some (eqF x y) else none
def eqBD (neg : Bool) : D → D → M D
  | .lst xs, .lst ys => if xs.length = ys.length then (do let bs ← M.opt (eqNL (eqN 20) xs ys); pure (.bl (opp neg (bs.all id)))) else pure (.bl neg)
  | .tup xs, .tup ys => do let bs ← M.opt (eqNL (eqN 20) xs ys); pure (.bl (opp neg (bs.all id && xs.length == ys.length)))
  | _, _ => M.stuck
section
variable {K : PySem.W.Frag} {ca : Str → Option Addr} {F : Fr} {m mi : Md} {B : Nat → Option Addr} {ρ : List Addr} {H : Hp}
theorem RpL.cut {G : Hp} {vs : List V} {ds : List D} (h : RpL K ca ρ G vs ds) (lo hi : Option Int) : RpL K ca ρ G (cutV vs lo hi) (cutD ds lo hi) := by
  unfold cutV cutD
  rw [RpL.length h]
  exact RpL.take _ (RpL.drop _ h)
theorem RinL.cut {vs : List V} {ds : List D} (h : RinL F m B ρ H vs ds) (lo hi : Option Int) : RinL F m B ρ H (cutV vs lo hi) (cutD ds lo hi) := by cases m <;> exact RpL.cut h lo hi
theorem RinL.rev {vs : List V} {ds : List D} (h : RinL F m B ρ H vs ds) : RinL F m B ρ H vs.reverse ds.reverse := by cases m <;> exact RpL.reverse h
theorem RpL.rep {G : Hp} {vs : List V} {ds : List D} (h : RpL K ca ρ G vs ds) : ∀ n : Nat, RpL K ca ρ G (List.replicate n vs).flatten (List.replicate n ds).flatten
  | 0 => .nil
  | n + 1 => by
    rw [List.replicate_succ, List.replicate_succ, List.flatten_cons, List.flatten_cons]
    exact RpL.append h (RpL.rep h n)
theorem flat_scal {d : D} (h : scalD d = true) : flatV (scV d) = true := by cases d <;> first | rfl | (cases h; done)
theorem rp_scal {G : Hp} : ∀ {ds : List D} {vs : List V}, RpL K ca ρ G vs ds → ds.all scalD = true → vs = ds.map scV
  | [], _, .nil, _ => rfl
  | d :: ds, _, .cons h t, e => by
    rw [List.all_cons, Bool.and_eq_true] at e
    rw [rp_scal t e.2]
    have : ∀ {v}, Rp K ca ρ G v d → v = scV d := fun {v} h => by
      cases d <;> first | (cases h; rfl) | cases e.1
    rw [this h]
    rfl
theorem o_rep (hm : mi = m) (h2 : m ≠ .nw) : OpD F mi m fRep repD := by
  subst hm
  intro O B ρ σ δ H S x y d e Q r hx hy q
  cases d <;> cases e <;> first | exact (show False from q).elim | skip
  obtain ⟨a, vs, rfl, ha, la⟩ := hx.lst
  cases hy.int
  obtain ⟨c, q⟩ := Ok1.ite q
  refine ⟨vs, ha, c.1, c.2.1, by rw [RinL.len la]; exact c.2.2, fun p H2 np s2 h2' => (q : ∀ v H' ρ', _) _ H2 ρ (r.same s2) (Gr.same s2) (lst_new r np s2 h2' h2 ?_)⟩
  cases mi
  · exact RpL.rep la _
  · exact RpL.rep la _
  · exact absurd rfl h2
theorem o_mulS (h2 : m ≠ .nw) : OpD F mi m fMulS mulSD := by
  intro O B ρ σ δ H S x y d e Q r hx hy q
  cases d <;> cases e <;> first | exact (show False from q).elim | skip
  obtain ⟨c, ec, q⟩ := q.bind.opt
  obtain ⟨b, q⟩ := Ok1.ite q
  cases hx.str; cases hy.int
  exact ⟨c, isSign_eq ec, b, Ok1.scal r (d := .str _) rfl h2 q⟩
theorem inV_eq {x : D} {ds : List D} (hx : scalD x = true) (h : ds.all scalD = true) : inV (scV x) (ds.map scV) = ds.any fun y => eqF y x := by
  unfold inV
  rw [List.any_map]
  induction ds with
  | nil => rfl
  | cons d ds ih =>
    rw [List.all_cons, Bool.and_eq_true] at h
    rw [List.any_cons, List.any_cons, ih h.2]
    show (eqV (scV d) (scV x) || _) = _
    rw [eqF_V h.1 hx]
theorem o_inQ {neg : Bool} (hK : F.K = K) (h2 : m ≠ .nw) : OpD F mi m (fInQ K neg) (inQD neg) := by
  intro O B ρ σ δ H S x y d e Q r hx hy q
  subst hK
  have fl : ∀ {ds : List D}, ds.all scalD = true → (ds.map scV).all flatV = true := fun {ds} h => by
    rw [List.all_map]
    rw [List.all_eq_true] at h ⊢
    exact fun z hz => flat_scal (h z hz)
  cases e <;> first | (cases d <;> exact (show False from q).elim) | skip
  · obtain ⟨c, q⟩ := Ok1.ite q
    obtain ⟨a, vs, rfl, ha, la⟩ := hy.tup
    obtain ⟨G, _, la⟩ := la.out
    have ev := rp_scal la c.2
    subst ev
    cases hx.scal c.1
    refine ⟨_, .inr ha, flat_scal c.1, fl c.2, ?_⟩
    rw [inV_eq c.1 c.2]
    exact Ok1.scal r (d := .bl _) rfl h2 q
  · obtain ⟨c, q⟩ := Ok1.ite q
    obtain ⟨a, vs, rfl, ha, la⟩ := hy.lst
    obtain ⟨G, _, la⟩ := la.out
    have ev := rp_scal la c.2
    subst ev
    cases hx.scal c.1
    refine ⟨_, .inl (SqL.of ha), flat_scal c.1, fl c.2, ?_⟩
    rw [inV_eq c.1 c.2]
    exact Ok1.scal r (d := .bl _) rfl h2 q
/-- a table of plain things -/
theorem lookup_scal {z : Str} : ∀ {kds : List (Str × D)}, (kds.map fun p => (p.1, scV p.2)).lookup z = (kds.lookup z).map scV
  | [] => rfl
  | (k, d) :: r => by
    rw [List.map_cons, List.lookup_cons, List.lookup_cons]
    cases (z == k) with
    | true => rfl
    | false => exact lookup_scal
theorem eqN_at : ∀ (n : Nat) {x y : V} {d e : D} {b : Bool}, Rin F mi B ρ H x d → Rin F mi B ρ H y e → eqN n d e = some b → EqB F.K H n x y b
  | 0, x, y, d, e, b, hx, hy, h => by
    unfold eqN at h
    split at h
    · rename_i c
      cases h
      cases hx.scal c.1; cases hy.scal c.2
      exact ⟨flat_scal c.1, flat_scal c.2, (eqF_V c.1 c.2).symm⟩
    · cases h
  | n + 1, x, y, d, e, b, hx, hy, h => by
    have key : ∀ {xs ys : List D} {vs ws : List V} {bs : List Bool}, RinL F mi B ρ H vs xs → RinL F mi B ρ H ws ys → eqNL (eqN n) xs ys = some bs → Pr3 (EqB F.K H n) vs ws bs := by
      intro xs
      induction xs with
      | nil =>
        intro ys vs ws bs h1 h2 h
        have := h1.len
        cases vs with
        | nil => cases h; exact .nl
        | cons _ _ => cases this
      | cons a xs ih =>
        intro ys vs ws bs h1 h2 h
        cases ys with
        | nil =>
          have := h2.len
          cases ws with
          | nil => cases h; exact .nr
          | cons _ _ => cases this
        | cons c ys =>
          cases vs with
          | nil => exact absurd h1.len (by simp)
          | cons v vs =>
            cases ws with
            | nil => exact absurd h2.len (by simp)
            | cons w ws =>
              have h : ((eqN n a c).bind fun b => (eqNL (eqN n) xs ys).map (b :: ·)) = some bs := h
              cases e1 : eqN n a c with
              | none => rw [e1] at h; cases h
              | some b1 =>
                rw [e1] at h
                have h : (eqNL (eqN n) xs ys).map (b1 :: ·) = some bs := h
                cases e2 : eqNL (eqN n) xs ys with
                | none => rw [e2] at h; cases h
                | some cs =>
                  rw [e2] at h
                  cases h
                  have p1 : Rin F mi B ρ H v a ∧ RinL F mi B ρ H vs xs := by cases mi <;> (cases h1 with | cons a b => exact ⟨a, b⟩)
                  have p2 : Rin F mi B ρ H w c ∧ RinL F mi B ρ H ws ys := by cases mi <;> (cases h2 with | cons a b => exact ⟨a, b⟩)
                  exact .cons (eqN_at n p1.1 p2.1 e1) (ih p1.2 p2.2 e2)
    have flat : (if scalD d = true ∧ scalD e = true then some (eqF d e) else none) = some b → EqB F.K H (n + 1) x y b := fun h => by
      split at h
      · rename_i c
        cases h
        cases hx.scal c.1; cases hy.scal c.2
        exact .inl ⟨flat_scal c.1, flat_scal c.2, (eqF_V c.1 c.2).symm⟩
      · cases h
    unfold eqN at h
    split at h
    · rename_i xs ys
      obtain ⟨a, vs, rfl, ha, la⟩ := hx.lst
      obtain ⟨c, ws, rfl, hc, lc⟩ := hy.lst
      split at h
      · rename_i hl
        cases e2 : eqNL (eqN n) xs ys with
        | none => rw [e2] at h; cases h
        | some bs =>
          rw [e2] at h
          cases h
          exact .inr (.inr (.inr (.inl ⟨a, c, vs, ws, bs, rfl, rfl, SqL.of ha, SqL.of hc, by rw [la.len, lc.len, hl], key la lc e2, rfl⟩)))
      · rename_i hl
        cases h
        exact .inr (.inr (.inl ⟨a, c, vs, ws, rfl, rfl, SqL.of ha, SqL.of hc, by rw [la.len, lc.len]; exact hl, rfl⟩))
    · rename_i xs ys
      obtain ⟨a, vs, rfl, ha, la⟩ := hx.tup
      obtain ⟨c, ws, rfl, hc, lc⟩ := hy.tup
      cases e2 : eqNL (eqN n) xs ys with
      | none => rw [e2] at h; cases h
      | some bs =>
        rw [e2] at h
        cases h
        exact .inr (.inr (.inr (.inr ⟨a, c, vs, ws, bs, rfl, rfl, ha, hc, key la lc e2, by rw [la.len, lc.len]⟩)))
    · exact flat h
theorem o_eqB {neg : Bool} (hK : F.K = K) (h2 : m ≠ .nw) : OpD F mi m (fEqB K neg) (eqBD neg) := by
  intro O B ρ σ δ H S x y d e Q r hx hy q
  subst hK
  have lift : ∀ {xs ys : List D} {vs ws : List V} {bs : List Bool}, RinL F mi B ρ H vs xs → RinL F mi B ρ H ws ys → eqNL (eqN 20) xs ys = some bs → Pr3 (EqB F.K H 20) vs ws bs := by
    intro xs
    induction xs with
    | nil =>
      intro ys vs ws bs h1 h2 h
      have := h1.len
      cases vs with
      | nil => cases h; exact .nl
      | cons _ _ => cases this
    | cons a xs ih =>
      intro ys vs ws bs h1 h2 h
      cases ys with
      | nil =>
        have := h2.len
        cases ws with
        | nil => cases h; exact .nr
        | cons _ _ => cases this
      | cons c ys =>
        cases vs with
        | nil => exact absurd h1.len (by simp)
        | cons v vs =>
          cases ws with
          | nil => exact absurd h2.len (by simp)
          | cons w ws =>
            have h : ((eqN 20 a c).bind fun b => (eqNL (eqN 20) xs ys).map (b :: ·)) = some bs := h
            cases e1 : eqN 20 a c with
            | none => rw [e1] at h; cases h
            | some b1 =>
              rw [e1] at h
              have h : (eqNL (eqN 20) xs ys).map (b1 :: ·) = some bs := h
              cases e2 : eqNL (eqN 20) xs ys with
              | none => rw [e2] at h; cases h
              | some cs =>
                rw [e2] at h
                cases h
                have p1 : Rin F mi B ρ H v a ∧ RinL F mi B ρ H vs xs := by cases mi <;> (cases h1 with | cons a b => exact ⟨a, b⟩)
                have p2 : Rin F mi B ρ H w c ∧ RinL F mi B ρ H ws ys := by cases mi <;> (cases h2 with | cons a b => exact ⟨a, b⟩)
                exact .cons (eqN_at 20 p1.1 p2.1 e1) (ih p1.2 p2.2 e2)
  cases d <;> cases e <;> first | exact (show False from q).elim | skip
  · obtain ⟨bs, eb, q⟩ := (Ok1.bind q).opt
    obtain ⟨a, vs, rfl, ha, la⟩ := hx.tup
    obtain ⟨c, ws, rfl, hc, lc⟩ := hy.tup
    refine .inr (.inr ⟨vs, ws, bs, ha, hc, lift la lc eb, ?_⟩)
    rw [la.len, lc.len]
    exact Ok1.scal r (d := .bl _) rfl h2 q
  · obtain ⟨a, vs, rfl, ha, la⟩ := hx.lst
    obtain ⟨c, ws, rfl, hc, lc⟩ := hy.lst
    have q : Ok1 F ((if _ = _ then _ else _ : M D) S) _ := q
    split at q
    · rename_i hl
      obtain ⟨bs, eb, q⟩ := (Ok1.bind q).opt
      exact .inr (.inl ⟨vs, ws, bs, SqL.of ha, SqL.of hc, by rw [la.len, lc.len, hl], lift la lc eb, Ok1.scal r (d := .bl _) rfl h2 q⟩)
    · rename_i hl
      exact .inl ⟨vs, ws, SqL.of ha, SqL.of hc, by rw [la.len, lc.len]; exact hl, Ok1.scal r (d := .bl _) rfl h2 q⟩
end
end Fg

set_option Elab.async false
set_option linter.all false
set_option maxRecDepth 100000
set_option maxHeartbeats 4000000
namespace Fg
open PySem PySem.Spec PyProof.Rows L2
variable [TQ]
section
variable {X : Cx} {F : Fr} {O O' O1 O2 OL : List Nat} {m mi : Md} {pos pos' p apos spos : Pos} {a b c e e2 tg o : Expr} {rest es elts ifs : List Expr} {i j k kk : Nat} {x f : Str} {ps : List Str} {K : PySem.W.Frag}
theorem pd_neg {t : DEnv → M D} (h : PED X F O .tr e t) (h2 : m ≠ .nw := by decide) : PED X F O m (.UnaryOp .USub e pos) (oneM negD t) := pe_imp (pe_un un_neg h) fun σ H Q ⟨B, ρ, δ, S, r, q⟩ => ⟨B, ρ, δ, S, r, q.bind.imp fun d S' q v H' ρ' r' g z => by
  have z : Rin F .tr B ρ' H' v d := z
  cases d <;> first | exact (show False from q).elim | skip
  cases z.int
  exact ⟨_, rfl, (q : ∀ v H' ρ', _) _ H' ρ' r' g (scV_res (d := .int _) rfl h2)⟩⟩
theorem pd_revL {n : Nat} {p1 p2 p3 : Pos} {t : DEnv → M D} (hK : F.K = X.K) (h : PED X F O m e t) (h2 : m ≠ .nw := by decide) : PED X F O m (.Subscript e (.Slice none none (some (.UnaryOp .USub (.Constant (.int 1) n p1) p2)) p3) pos) (oneM revD t) := pe_imp (fe_revL h) fun σ H Q ⟨B, ρ, δ, S, r, q⟩ => ⟨B, ρ, δ, S, r, q.bind.imp fun d S' q v H' ρ' r' g z => by
  have z : Rin F m B ρ' H' v d := Res.rin r z
  cases d <;> first | exact (show False from q).elim | skip
  obtain ⟨a, vs, rfl, ha, la⟩ := z.lst
  exact ⟨vs, SqL.of ha, fun p H2 np s2 h2' => (q : ∀ v H' ρ', _) _ H2 ρ' (r'.same s2) (g.tr (Gr.same s2)) (lst_new r' np s2 h2' h2 la.rev)⟩⟩
/-! ### slices -/
def dO (F : Fr) (O : List Nat) (t : DEnv → M (Option Int)) : TO := fun σ H Q => ∃ B ρ δ S, Rel F O B ρ σ H δ S ∧ Ok1 F (t δ S) fun o S' => ∀ H' ρ', Rel F O B ρ' σ H' δ S' → Gr ρ NoZ H ρ' H' → Q o H'
theorem po_imp {e : Option Expr} {t t' : TO} (h : PO X e t) (w : ∀ σ H Q, t' σ H Q → t σ H Q) : PO X e t' := ⟨fun pins s σ H Q I q => h.run pins s σ H Q I (w σ H Q q)⟩
theorem pod_none : PO X none (dO F O noPM) := po_imp po_none fun σ H Q ⟨B, ρ, δ, S, r, q⟩ => (q : ∀ H' ρ', _) H ρ r (Gr.refl _ _ _)
theorem pod_some {t : DEnv → M D} (h : PED X F O .tr e t) : PO X (some e) (dO F O (somePM t)) := po_imp (po_some h) fun σ H Q ⟨B, ρ, δ, S, r, q⟩ => ⟨B, ρ, δ, S, r, q.bind.imp fun d S' q v H' ρ' r' g z => by
  have z : Rin F .tr B ρ' H' v d := z
  cases d <;> first | exact (show False from q).elim | skip
  cases z.int
  exact ⟨_, rfl, (q : ∀ H' ρ', _) H' ρ' r' g⟩⟩
def SlD (F : Fr) (mi m : Md) (r : V → Option Int → Option Int → Hp → VK → Prop) (f : D → Option Int → Option Int → M D) : Prop := ∀ O B ρ σ δ H S x d lo hi Q, Rel F O B ρ σ H δ S → Rin F mi B ρ H x d →
  Ok1 F (f d lo hi S) (fun d' S' => ∀ v H' ρ', Rel F O B ρ' σ H' δ S' → Gr ρ NoZ H ρ' H' → Res F m B ρ' H H' S' v d' → Q v H') → r x lo hi H Q
theorem pd_slice {p2 : Pos} {lo hi : Option Expr} {r : V → Option Int → Option Int → Hp → VK → Prop} {g : D → Option Int → Option Int → M D} {t : DEnv → M D} {l u : DEnv → M (Option Int)} (hr : SlR X r) (hf : SlD F mi m r g) (he : PED X F O mi e t) (hl : PO X lo (dO F O l)) (hu : PO X hi (dO F O u)) :
    PED X F O m (.Subscript e (.Slice lo hi none p2) pos) (sliceM g t l u) := pe_imp (pe_slice hr he hl hu) fun σ H Q ⟨B, ρ, δ, S, r, q⟩ => ⟨B, ρ, δ, S, r, q.bind.imp fun d S' q v H' ρ' r' g1 z => ⟨B, ρ', δ, S', r', q.bind.imp fun lo S2 q H2 ρ2 r2 g2 => ⟨B, ρ2, δ, S2, r2, q.bind.imp fun hi S3 q H3 ρ3 r3 g3 =>
    hf O B ρ3 σ δ H3 S3 v d lo hi Q r3 (((Res.rin r z).gr g2).gr g3) (q.imp fun d4 S4 k v4 H4 ρ4 r4 g4 z4 => k v4 H4 ρ4 r4 (((g1.tr g2).tr g3).tr g4) (Res.gr2 ((g1.tr g2).tr g3) z4))⟩⟩⟩
theorem s_slL (hK : F.K = K) (hm : mi = m) (h2 : m ≠ .nw) : SlD F mi m (fSlL K) slLD := by
  subst hm hK
  intro O B ρ σ δ H S x d lo hi Q r z q
  cases d <;> first | exact (show False from q).elim | skip
  obtain ⟨a, vs, rfl, ha, la⟩ := z.lst
  exact ⟨vs, SqL.of ha, fun p H2 np s2 h2' => (q : ∀ v H' ρ', _) _ H2 ρ (r.same s2) (Gr.same s2) (lst_new r np s2 h2' h2 (la.cut lo hi))⟩
theorem cut_all {α : Type} (xs : List α) (lo hi : Option Int) (h : HT.sIx xs.length 0 lo = 0 ∧ HT.sIx xs.length xs.length hi = xs.length) : (xs.drop (HT.sIx xs.length 0 lo)).take (HT.sIx xs.length xs.length hi - HT.sIx xs.length 0 lo) = xs := by
  rw [h.1, h.2, List.drop_zero, Nat.sub_zero, List.take_length]
theorem s_slT (hK : F.K = K) (hm : mi = m) (h2 : m ≠ .nw) : SlD F mi m (rSlA K) slTD := by
  subst hm hK
  intro O B ρ σ δ H S x d lo hi Q r z q
  cases d <;> first | exact (show False from q).elim | skip
  obtain ⟨a, vs, rfl, ha, la⟩ := z.tup
  refine ⟨a, vs, rfl, ha, fun w => ?_, fun _ p np => (q : ∀ v H' ρ', _) _ _ ρ (r.same (Same.new np)) (Gr.same (Same.new np)) (tup_new r np (Same.new np) upd_same h2 (la.cut lo hi))⟩
  have e1 : cutD _ lo hi = _ := cut_all _ lo hi (la.len ▸ w)
  rw [slTD, e1] at q
  refine (q : ∀ v H' ρ', _) _ H ρ r (Gr.refl _ _ _) ?_
  cases mi
  · exact z
  · exact z
  · exact absurd rfl h2
theorem s_slS (h2 : m ≠ .nw) : SlD F mi m fSlS slSD := by
  intro O B ρ σ δ H S x d lo hi Q r z q
  cases d <;> first | exact (show False from q).elim | skip
  obtain ⟨c, q⟩ := Ok1.ite q
  cases z.str
  exact ⟨c, Ok1.scal r (d := .str _) rfl h2 q⟩
/-- t + u, tuples -/
def catTD : D → D → M D
  | .tup a, .tup b => if a.length + b.length ≤ sizeLine then pure (.tup (a ++ b)) else M.stuck
  | _, _ => M.stuck
theorem o_catT (hK : F.K = K) (hm : mi = m) (h2 : m ≠ .nw) : OpD F mi m (rCatA K) catTD := by
  subst hm hK
  intro O B ρ σ δ H S x y d e Q r hx hy q
  cases d <;> cases e <;> first | exact (show False from q).elim | skip
  rename_i xs ys
  obtain ⟨c, q⟩ := Ok1.ite q
  have app : ∀ {vs ws}, RinL F mi B ρ H vs xs → RinL F mi B ρ H ws ys → RinL F mi B ρ H (vs ++ ws) (xs ++ ys) := fun h1 h2 => by cases mi <;> exact RpL.append h1 h2
  obtain ⟨a, vs, rfl, ha, la⟩ := hx.tup
  obtain ⟨b, ws, rfl, hb, lb⟩ := hy.tup
  have l1 := la.len
  have l2 := lb.len
  refine ⟨a, b, vs, ws, rfl, rfl, ha, hb, by rw [l1, l2]; exact c, fun e => ?_, fun _ e => ?_, fun _ _ p np => (q : ∀ v H' ρ', _) _ _ ρ (r.same (Same.new np)) (Gr.same (Same.new np)) (tup_new r np (Same.new np) upd_same h2 (app la lb))⟩
  · subst e
    cases xs with
    | cons _ _ => cases l1
    | nil =>
      refine (q : ∀ v H' ρ', _) _ H ρ r (Gr.refl _ _ _) ?_
      cases mi
      · exact hy
      · exact hy
      · exact absurd rfl h2
  · subst e
    cases ys with
    | cons _ _ => cases l2
    | nil =>
      rw [List.append_nil] at q
      refine (q : ∀ v H' ρ', _) _ H ρ r (Gr.refl _ _ _) ?_
      cases mi
      · exact hx
      · exact hx
      · exact absurd rfl h2
/-! ### two names at once; x += e -/
def parS (i j : Nat) (ta tb : DEnv → M D) : DEnv → M (DEnv × Fl) := fun δ => do let x ← ta δ; let y ← tb δ; pure ((δ.set i (some x)).set j (some y), Fl.nx)
theorem psd_par {x y : Str} {px py pt pt2 : Pos} {kt k2 : Nat} {ta tb : DEnv → M D} (i j : Nat) (hc : X.calm = true) (hN : X.N.Nodup) (hi : X.N[i]? = some x) (hj : X.N[j]? = some y) (hij : i ≠ j)
    (hx : X.env.scope.names.lookup x = some .local) (hy : X.env.scope.names.lookup y = some .local) (ha : PED X F O .fz a ta) (hb : PED X F O .fz b tb) (hio : i ∉ O := by decide) (hjo : j ∉ O := by decide)
    (h : PS X (.Assign [.Tuple [.Name x px, .Name y py] kt pt] (.Tuple [a, b] k2 pt2) pos) (tPar i j (tCons (dE F O .fz ta) (tCons (dE F O .fz tb) tNil))) := by exact ps_par ‹_› ‹_› ‹_› ‹_› ‹_› ‹_› ‹_› (pa_cons ‹_› (pa_cons ‹_› pa_nil)) (by rfl)) :
    PSD X F O O OL (.Assign [.Tuple [.Name x px, .Name y py] kt pt] (.Tuple [a, b] k2 pt2) pos) (parS i j ta tb) := ps_imp h fun Dn σ H ⟨B, ρ, δ, S, r, q⟩ => ⟨B, ρ, δ, S, r, q.bind.imp fun d1 S1 q v1 H1 ρ1 r1 g1 z1 => ⟨B, ρ1, δ, S1, r1, q.bind.imp fun d2 S2 q v2 H2 ρ2 r2 g2 z2 =>
    ⟨v1, v2, rfl, (q : ∀ σ' H' B' ρ', _) _ H2 B ρ2 ((r2.set hio (Rin.gr (m := .fz) z1 g2)).set hjo z2) (g1.tr g2).wk fun b h => .inl h⟩⟩⟩
/-- the first one new, the second one a plain constant -/
theorem psd_parN {x y : Str} {px py pt pt2 : Pos} {kt k2 : Nat} {ta : DEnv → M D} {d : D} (i j : Nat) (hc : X.calm = true) (hN : X.N.Nodup) (hi : X.N[i]? = some x) (hj : X.N[j]? = some y) (hij : i ≠ j)
    (hx : X.env.scope.names.lookup x = some .local) (hy : X.env.scope.names.lookup y = some .local) (ha : PED X F O .nw a ta) (hb : PE X b (tC (scV d))) (hd : scalD d = true := by rfl) (hio : i ∉ O := by decide) (hjo : j ∉ O := by decide) (hjo2 : j ∉ i :: O := by decide) (hz0 : i ≠ 0 ∨ F.own0 = none := by first | exact Or.inl (by decide) | exact Or.inr rfl)
    (h : PS X (.Assign [.Tuple [.Name x px, .Name y py] kt pt] (.Tuple [a, b] k2 pt2) pos) (tPar i j (tCons (dE F O .nw ta) (tCons (tC (scV d)) tNil))) := by exact ps_par ‹_› ‹_› ‹_› ‹_› ‹_› ‹_› ‹_› (pa_cons ‹_› (pa_cons ‹_› pa_nil)) (by rfl)) :
    PSD X F O (i :: O) OL (.Assign [.Tuple [.Name x px, .Name y py] kt pt] (.Tuple [a, b] k2 pt2) pos) (parS i j ta (cM d)) := ps_len (ps_imp h fun Dn σ H ⟨hl, B, ρ, δ, S, r, q⟩ => ⟨B, ρ, δ, S, r, q.bind.imp fun d1 S1 q v1 H1 ρ1 r1 g1 z1 => by
    obtain ⟨B', r2, n2⟩ := r.new (m := .nw) r1 g1 hio hz0 (by rw [← r.len, hl]; exact (List.getElem?_eq_some_iff.mp hi).1) z1
    exact ⟨v1, _, rfl, (q : ∀ σ' H' B' ρ', _) _ H1 B' ρ1 (r2.set hjo2 (scV_rin (m := .fz) hd)) g1.wk n2⟩⟩)
def augS (f : D → D → M D) (i : Nat) (t : DEnv → M D) : DEnv → M (DEnv × Fl) := fun δ => do let x ← rd i δ; let y ← t δ; let z ← f x y; pure (δ.set i (some z), Fl.nx)
theorem aug_of {op : Operator} {g : Int → Int → Int} {f : D → D → M D} {x : Str} {t : DEnv → M D} (i : Nat) (hp : PIp X op (ipI g)) (hf : ∀ a b, f (.int a) (.int b) = pure (.int (g a b))) (hn : ∀ x y S, (∀ a b, ¬ (x = .int a ∧ y = .int b)) → f x y S = none) (h : PED X F O .tr e t) (hN : X.N.Nodup) (hi : X.N[i]? = some x) (hx : Loc X.env.scope x) (ho : i ∉ O)
    (hl : X.fn x = true ∨ X.env.scope.names.lookup x = some .local) : PSD X F O O OL (.AugAssign (.Name x pos') op e pos) (augS f i t) := ps_imp (ps_aug hN hi hx h hp hl) fun Dn σ H ⟨B, ρ, δ, S, r, q⟩ => by
  obtain ⟨d0, e0, q⟩ := (Ok1.bind q).opt
  have e0 := rd_get e0
  have s0 := r.slot i d0 e0
  unfold SlAt at s0
  rw [r.notO ho] at s0
  obtain ⟨v0, h1, h2⟩ := s0
  refine ⟨v0, h1, B, ρ, δ, S, r, q.bind.imp fun d1 S1 q v1 H1 ρ1 r1 g1 z1 => ?_⟩
  have z1 : Rin F .tr B ρ1 H1 v1 d1 := z1
  by_cases c : ∃ a b, d0 = .int a ∧ d1 = .int b
  · obtain ⟨a, b, rfl, rfl⟩ := c
    cases (show Rin F .fz B ρ H v0 (.int a) from h2).int
    cases z1.int
    rw [hf] at q
    exact ⟨a, b, rfl, rfl, (q : ∀ σ' H' B' ρ', _) _ H1 B ρ1 (r1.set ho (scV_rin (m := .fz) (d := .int _) rfl)) g1.wk fun b h => .inl h⟩
  · have q := q.bind
    rw [hn d0 d1 S1 fun a b z => c ⟨a, b, z⟩] at q
    exact q.elim
local macro_rules | `(tactic| walk_at "ni") => `(tactic| (intro x y S h; cases x <;> cases y <;> first | rfl | exact absurd ⟨rfl, rfl⟩ (h _ _)))
def iaddD : D → D → M D
  | .int i, .int j => pure (.int (i + j))
  | _, _ => M.stuck
theorem psd_aug {x : Str} {t : DEnv → M D} (i : Nat) (h : PED X F O .tr e t) (hN : X.N.Nodup) (hi : X.N[i]? = some x := by rfl) (hx : Loc X.env.scope x := by first | exact Or.inl rfl | exact Or.inr rfl) (ho : i ∉ O := by decide) (hl : X.fn x = true ∨ X.env.scope.names.lookup x = some .local := by first | exact .inl rfl | exact .inr rfl | assumption) :
    PSD X F O O OL (.AugAssign (.Name x pos') .Add e pos) (augS iaddD i t) := aug_of i ip_add (fun _ _ => rfl) (by walk_at "ni") h hN hi hx ho hl
theorem psd_augS {x : Str} {t : DEnv → M D} (i : Nat) (h : PED X F O .tr e t) (hN : X.N.Nodup) (hi : X.N[i]? = some x := by rfl) (hx : Loc X.env.scope x := by first | exact Or.inl rfl | exact Or.inr rfl) (ho : i ∉ O := by decide) (hl : X.fn x = true ∨ X.env.scope.names.lookup x = some .local := by first | exact .inl rfl | exact .inr rfl | assumption) :
    PSD X F O O OL (.AugAssign (.Name x pos') .Sub e pos) (augS subD i t) := aug_of i ip_sub (fun _ _ => rfl) (by walk_at "ni") h hN hi hx ho hl
theorem psd_doc {s : Str} {n : Nat} : PSD X F O O OL (.Expr (.Constant (.str s) n pos) pos') skipS := ps_imp ps_doc fun Dn σ H ⟨B, ρ, δ, S, r, q⟩ => (q : ∀ σ' H' B' ρ', _) σ H B ρ r (Gr.refl _ _ _) fun b h => .inl h
/-! ### tables of the module -/
theorem pd_inK {x : Str} {d : Addr} {kds : List (Str × D)} {t : DEnv → M D} (T : KTab X.K X.w d (kds.map fun p => (p.1, scV p.2))) (hg : Gl X x) (hx : ∃ u, X.mg x = some u ∧ RelV (.ref d) u) (h : PED X F O .tr a t) (hm : behindInMarks .In (.Name x pos') = false) (h2 : m ≠ .nw := by decide) (hd : (x == ("__debug__" : Str)) = false := by decide) :
    PED X F O m (.Compare a [.In] [.Name x pos'] pos) (oneM (inKD kds) t) := pe_imp (pe_cmpR (f_inK T) h (fe_g hg hx hd) hm) fun σ H Q ⟨B, ρ, δ, S, r, q⟩ => ⟨B, ρ, δ, S, r, q.bind.imp fun e S' q v H' ρ' r' g z => by
    have z : Rin F .tr B ρ' H' v e := z
    cases e <;> first | exact (show False from q).elim | skip
    cases z.str
    refine ⟨rfl, ?_⟩
    show Q (.bl (List.lookup _ (List.map _ kds)).isSome) H'
    rw [lookup_scal, Option.isSome_map]
    exact (q : ∀ v H' ρ', _) _ H' ρ' r' g (scV_res (d := .bl _) rfl h2)⟩
theorem pd_tinK {x : Str} {d : Addr} {kds : List (Str × D)} {t : DEnv → M D} (T : KTab X.K X.w d (kds.map fun p => (p.1, scV p.2))) (hg : Gl X x) (hx : ∃ u, X.mg x = some u ∧ RelV (.ref d) u) (h : PED X F O .tr a t) (hm : behindInMarks .In (.Name x pos') = false) (hd : (x == ("__debug__" : Str)) = false := by decide) :
    PTD X F O (.Compare a [.In] [.Name x pos'] pos) (tvM (oneM (inKD kds) t)) := pt_imp (ft_cmp (f_inK T) h (fe_g hg hx hd) hm) fun σ H Q ⟨B, ρ, δ, S, r, q⟩ => ⟨B, ρ, δ, S, r, q.bind.bind.imp fun e S' q v H' ρ' r' g z => by
    have z : Rin F .tr B ρ' H' v e := z
    cases e <;> first | exact (show False from q).elim | skip
    cases z.str
    refine ⟨rfl, ?_⟩
    show Q (List.lookup _ (List.map _ kds)).isSome H'
    rw [lookup_scal, Option.isSome_map]
    exact (q : ∀ H' ρ', _) H' ρ' r' g⟩
theorem pd_ixK {x : Str} {d : Addr} {kds : List (Str × D)} {t : DEnv → M D} (T : KTab X.K X.w d (kds.map fun p => (p.1, scV p.2))) (hs : kds.all (fun p => scalD p.2) = true) (hg : Gl X x) (hx : ∃ u, X.mg x = some u ∧ RelV (.ref d) u) (h : PED X F O .tr b t) (hn : PlainIx b) (h2 : m ≠ .nw := by decide) (hd : (x == ("__debug__" : Str)) = false := by decide) :
    PED X F O m (.Subscript (.Name x pos') b pos) (oneM (ixKD kds) t) := pe_imp (pe_ix (f_ixK T) (fe_g hg hx hd) h hn) fun σ H Q ⟨B, ρ, δ, S, r, q⟩ => ⟨B, ρ, δ, S, r, q.bind.imp fun e S' q v H' ρ' r' g z => by
    have z : Rin F .tr B ρ' H' v e := z
    cases e <;> first | exact (show False from q).elim | skip
    cases z.str
    obtain ⟨y, ey, q⟩ := (show Ok1 F (M.opt (kds.lookup _) S') _ from q).opt
    have sy : scalD y = true := by
      have key : ∀ (l : List (Str × D)), l.all (fun p => scalD p.2) = true → ∀ s, l.lookup s = some y → scalD y = true := by
        intro l
        induction l with
        | nil => intro _ s e; cases e
        | cons p l ih =>
          intro hl s e
          rw [List.all_cons, Bool.and_eq_true] at hl
          obtain ⟨k, w⟩ := p
          rw [List.lookup_cons] at e
          cases ek : (s == k) with
          | true => rw [ek] at e; cases e; exact hl.1
          | false => rw [ek] at e; exact ih hl.2 s e
      exact key kds hs _ ey
    refine ⟨rfl, scV y, ?_, (q : ∀ v H' ρ', _) _ H' ρ' r' g (scV_res sy h2)⟩
    rw [lookup_scal, ey]
    rfl⟩
end
end Fg

set_option Elab.async false
set_option linter.all false
set_option maxRecDepth 100000
set_option maxHeartbeats 4000000
namespace Fg
open PySem PySem.Spec PyProof.Rows L2
variable [TQ]
/-! ### things that change: xs[i], xs[i] = e of a list that is handed about (the pot) -/
def mtL : D → M (List D)
  | .mt k => fun S => match S[k]? with
    | some (.lst ds) => some (.ok ds, S)
    | _ => none
  | _ => M.stuck
def mtSet : D → List D → M Unit
  | .mt k, ds => fun S => some (.ok (), S.set k (.lst ds))
  | _, _ => M.stuck
def ixMD (x y : D) : M D := do
  let ds ← mtL x
  match y with
  | .int i => M.opt (atI ds i)
  | _ => M.stuck
def mputS (i : Nat) (k t : DEnv → M D) : DEnv → M (DEnv × Fl) := fun δ => do
  let v ← t δ
  let x ← rd i δ
  let y ← k δ
  let ds ← mtL x
  match y with
  | .int n => (do let j ← M.opt (ixN ds.length n); mtSet x (ds.set j v); pure (δ, Fl.nx))
  | _ => M.stuck
section
variable {F : Fr} {O : List Nat} {B : Nat → Option Addr} {ρ : List Addr} {σ : L2.St} {H H' : Hp} {δ : DEnv} {S : Sto} {v : V} {d : D} {m mi : Md}
theorem Ok1.mtL {x : D} {S : Sto} {P : List D → Sto → Prop} (h : Ok1 F (Fg.mtL x S) P) : ∃ k ds, x = .mt k ∧ S[k]? = some (.lst ds) ∧ P ds S := by
  cases x <;> first | exact (show False from h).elim | skip
  rename_i k
  have h : Ok1 F (match S[k]? with | some (.lst ds) => some (.ok ds, S) | _ => none) P := h
  split at h
  · exact ⟨k, _, rfl, ‹_›, h⟩
  · exact h.elim
theorem SrL.set {K : PySem.W.Frag} {ca : Str → Option Addr} {G : Hp} : ∀ {l : List Addr} {S : Sto} {k : Nat} {a : Addr}, SrL K ca ρ G H l S → l[k]? = some a → l.Nodup → (∀ b ∈ l, b ≠ a → ∀ o, H b = some o → H' b = some o) → Top K ca ρ G H' a d → SrL K ca ρ G H' l (S.set k d)
  | [], _, _, _, _, e, _, _, _ => by simp at e
  | b :: l, [], _, _, h, _, _, _, _ => h.elim
  | b :: l, x :: S, 0, a, ⟨h, t⟩, e, nd, k, z => by
    simp at e; subst e
    refine ⟨z, SrL.mono (fun _ _ e => e) (fun _ _ e _ => e) (fun c hc o _ e => k c (List.mem_cons_of_mem _ hc) (fun w => ?_) o e) t⟩
    subst w
    exact (List.nodup_cons.mp nd).1 hc
  | b :: l, x :: S, n + 1, a, ⟨h, t⟩, e, nd, k, z => by
    have e : l[n]? = some a := by simpa using e
    have ne : b ≠ a := fun w => by
      subst w
      exact (List.nodup_cons.mp nd).1 (List.mem_of_getElem? e)
    exact ⟨Top.mono (fun _ _ e => e) (fun _ _ e _ => e) (fun o _ e => k b (List.mem_cons_self ..) ne o e) h, SrL.set t e (List.nodup_cons.mp nd).2 (fun c hc => k c (List.mem_cons_of_mem _ hc)) z⟩
theorem Rel.mset {k : Nat} {a : Addr} {o o' : HO} (r : Rel F O B ρ σ H δ S) (hk : ρ[k]? = some a) (b : But a H H') (h : H a = some o) (h' : H' a = some o') (n1 : ∀ ps, o ≠ .tbl ps) (n2 : ∀ φ, o ≠ .ext φ)
    (t : Top F.K F.ca ρ (hid (Zo F B ρ) H) H' a d) : Rel F O B ρ σ H' δ (S.set k d) ∧ Gr ρ NoZ H ρ H' := by
  have ha : a ∈ ρ := List.mem_of_getElem? hk
  have g : Gr ρ NoZ H ρ H' := Gr.but b h h' (.inr ha) n1 n2 (t.ntbl h')
  have see : LamX.ExtN (hid (Zo F B ρ) H) (hid (Zo F B ρ) H') := g.seesO
  refine ⟨r.step g ⟨fun c z => g.alive c (r.sta.live c z), r.sta.nd, r.sta.xr, ?_⟩, g⟩
  have s2 := SrL.set (d := d) (H' := H') r.sta.sto hk r.sta.nd (fun c _ ne o e => b c o ne e) t
  exact SrL.mono (fun _ _ e => e) see (fun _ _ _ _ e => e) s2
theorem top_lst {K : PySem.W.Frag} {ca : Str → Option Addr} {G : Hp} {a : Addr} {ds : List D} (h : Top K ca ρ G H a (.lst ds)) : ∃ vs, H a = some (.lst vs) ∧ RpL K ca ρ G vs ds := h
end
section
variable {X : Cx} {F : Fr} {O O' O1 O2 OL : List Nat} {m mi : Md} {pos pos' p apos spos : Pos} {a b c e e2 tg o : Expr} {rest es elts ifs : List Expr} {i j k kk : Nat} {x f : Str} {ps : List Str} {K : PySem.W.Frag}
theorem o_ixM (hK : F.K = K) (h2 : m ≠ .nw) : OpD F .tr m (fIx K) ixMD := by
  subst hK
  intro O B ρ σ δ H S x y d e Q r hx hy q
  obtain ⟨k, ds, rfl, hs, q⟩ := q.bind.mtL
  obtain ⟨a, rfl, ha⟩ := hx.mt
  obtain ⟨d0, e0, t⟩ := SrL.get r.sta.sto ha
  cases hs.symm.trans e0
  obtain ⟨vs, h1, h3⟩ := top_lst t
  cases e <;> first | exact (show False from q).elim | skip
  cases hy.int
  obtain ⟨w, ew, q⟩ := (show Ok1 F (M.opt (atI ds _) S) _ from q).opt
  have l : RinL F .fz B ρ H vs ds := h3
  obtain ⟨v, hv, hr⟩ := l.atI ew
  refine ⟨vs, v, .inl (SqL.of h1), hv, q v H ρ r (Gr.refl _ _ _) ?_⟩
  cases m
  · exact Rin.wk (m := .fz) hr
  · exact hr
  · exact absurd rfl h2
theorem pd_ixM {ta tb : DEnv → M D} (hK : F.K = X.K) (ha : PED X F O .tr a ta) (hb : PED X F O .tr b tb) (hs : PlainIx b) (h2 : m ≠ .nw := by decide) : PED X F O m (.Subscript a b pos) (binM ixMD ta tb) := pe_imp (pe_ix f_ix ha hb hs) fun σ H Q q => bin_imp (o_ixM hK h2) (by decide) q
theorem psd_mput {x : Str} {npos spos : Pos} {tk t : DEnv → M D} (i : Nat) (hk : PED X F O .tr b tk) (h : PED X F O .fz e t) (ho : i ∉ O := by decide) (hN : X.N[i]? = some x := by rfl) (hv : Vis X.env.scope x := by first | exact Or.inl rfl | exact Or.inr (Or.inl rfl) | exact Or.inr (Or.inr rfl)) (hd : (x == ("__debug__" : Str)) = false := by decide) (hcd : (x == ("__classdict__" : Str)) = false := by decide)
    (ha : ∀ v, assign (.Subscript (.Name x npos) b spos) X.env v = (do
      let ov ← holding [v] (eval (.Name x npos) X.env)
      let iv ← holding [v, ov] (eval b X.env)
      standAt spos
      holding [v, ov, iv] (setItem ov iv v)
      release [v, ov, iv] []) := by intro _; rfl)
    (hs : swapsWithSole [.Subscript (.Name x npos) b spos] e pos.line X.env = pure false := by rfl) (hw : swappedStores [.Subscript (.Name x npos) b spos] e X.env = pure none := by rfl)
    (h1 : (assignEach [.Subscript (.Name x npos) b spos] X.env).map (·.2) = [assign (.Subscript (.Name x npos) b spos) X.env] := by rfl) :
    PSD X F O O OL (.Assign [.Subscript (.Name x npos) b spos] e pos) (mputS i tk t) := ps_imp (ps_asg h (pg_sub (fv i hN hv hd hcd) hk g_setL ha) hs hw h1) fun Dn σ H ⟨B, ρ, δ, S, r, q⟩ => ⟨B, ρ, δ, S, r, q.bind.imp fun d S' q v H' ρ' r' g z => by
  obtain ⟨x0, ex, q⟩ := (Ok1.bind q).opt
  have e0 := rd_get ex
  have s0 := r'.slot i _ e0
  unfold SlAt at s0
  rw [r'.notO ho] at s0
  obtain ⟨v0, h1, h2⟩ := s0
  unfold gSub tV
  rw [h1]
  refine ⟨B, ρ', δ, S', r', q.bind.imp fun d2 S2 q v2 H2 ρ2 r2 g2 z2 => ?_⟩
  obtain ⟨n, ds, rfl, hs, q⟩ := q.bind.mtL
  cases d2 <;> first | exact (show False from q).elim | skip
  cases (show Rin F .tr B ρ2 H2 v2 (.int _) from z2).int
  obtain ⟨jj, ej, q⟩ := q.bind.opt
  obtain ⟨a, rfl, ha⟩ := (show Rin F .fz B ρ' H' v0 (.mt n) from h2).mt
  have ha2 := g2.at n a ha
  obtain ⟨d0, e1, t⟩ := SrL.get r2.sta.sto ha2
  cases hs.symm.trans e1
  obtain ⟨vs, hv, hl⟩ := top_lst t
  refine ⟨vs, jj, hv, by rw [RpL.length hl]; exact ej, fun H3 b3 h3 => ?_⟩
  obtain ⟨r3, g3⟩ := r2.mset (d := .lst (ds.set jj d)) ha2 b3 hv h3 (fun _ z => by cases z) (fun _ z => by cases z) ⟨_, h3, RpL.set (Rin.gr (m := .fz) z g2) jj hl⟩
  exact (q : ∀ σ' H' B' ρ', _) σ H3 B ρ2 r3 ((g.tr g2).tr g3).wk fun b h => .inl h⟩
/-! ### xs[i], xs[i] = e of a list of the def's own -/
def lputS (i : Nat) (k t : DEnv → M D) : DEnv → M (DEnv × Fl) := fun δ => do
  let v ← t δ
  let x ← rd i δ
  let ds ← itL x
  let y ← k δ
  match y with
  | .int n => (do let j ← M.opt (ixN ds.length n); pure (δ.set i (some (.lst (ds.set j v))), Fl.nx))
  | _ => M.stuck
theorem psd_lput {x : Str} {npos spos : Pos} {tk t : DEnv → M D} (i : Nat) (hk : PED X F O .tr b tk) (h : PED X F O .fz e t) (ho : i ∈ O := by decide) (hN : X.N[i]? = some x := by rfl) (hv : Vis X.env.scope x := by first | exact Or.inl rfl | exact Or.inr (Or.inl rfl) | exact Or.inr (Or.inr rfl)) (hd : (x == ("__debug__" : Str)) = false := by decide) (hcd : (x == ("__classdict__" : Str)) = false := by decide)
    (ha : ∀ v, assign (.Subscript (.Name x npos) b spos) X.env v = (do
      let ov ← holding [v] (eval (.Name x npos) X.env)
      let iv ← holding [v, ov] (eval b X.env)
      standAt spos
      holding [v, ov, iv] (setItem ov iv v)
      release [v, ov, iv] []) := by intro _; rfl)
    (hs : swapsWithSole [.Subscript (.Name x npos) b spos] e pos.line X.env = pure false := by rfl) (hw : swappedStores [.Subscript (.Name x npos) b spos] e X.env = pure none := by rfl)
    (h1 : (assignEach [.Subscript (.Name x npos) b spos] X.env).map (·.2) = [assign (.Subscript (.Name x npos) b spos) X.env] := by rfl) :
    PSD X F O O OL (.Assign [.Subscript (.Name x npos) b spos] e pos) (lputS i tk t) := ps_imp (ps_asg h (pg_sub (fv i hN hv hd hcd) hk g_setL ha) hs hw h1) fun Dn σ H ⟨B, ρ, δ, S, r, q⟩ => ⟨B, ρ, δ, S, r, q.bind.imp fun d S' q v H' ρ' r' g z => by
  obtain ⟨x0, ex, q⟩ := (Ok1.bind q).opt
  have e0 := rd_get ex
  obtain ⟨ds, ed, q2⟩ := q.bind.itL
  clear q
  subst ed
  obtain ⟨a, eb⟩ := (r'.own i).mpr ho
  have s0 := r'.slot i _ e0
  unfold SlAt at s0
  rw [eb] at s0
  obtain ⟨h1, t0⟩ := s0
  unfold gSub tV
  rw [h1]
  refine ⟨B, ρ', δ, S', r', q2.bind.imp fun d2 S2 q v2 H2 ρ2 r2 g2 z2 => ?_⟩
  cases d2 <;> first | exact (show False from q).elim | skip
  cases (show Rin F .tr B ρ2 H2 v2 (.int _) from z2).int
  obtain ⟨jj, ej, q⟩ := (Ok1.bind q).opt
  have s2 := r2.slot i _ e0
  unfold SlAt at s2
  rw [eb] at s2
  obtain ⟨vs, hv, hl⟩ := top_lst s2.2
  refine ⟨vs, jj, hv, by rw [RpL.length hl]; exact ej, fun H3 b3 h3 => ?_⟩
  obtain ⟨r3, g3⟩ := r2.put (d := .lst (ds.set jj d)) eb b3 hv h3 (fun _ z => by cases z) (fun _ z => by cases z) ⟨_, h3, RpL.set (Rin.gr (m := .fz) z g2) jj hl⟩
  exact (q : ∀ σ' H' B' ρ', _) σ H3 B ρ2 r3 ((g.tr g2).wk.trans g3 fun b h => .inl h) fun b h => .inl h⟩
/-- an item of a list of the def's own is none of its own things -/
theorem pd_ixO {x : Str} {npos : Pos} {tb : DEnv → M D} (i : Nat) (hK : F.K = X.K) (hb : PED X F O .tr b tb) (hs : PlainIx b) (ho : i ∈ O := by decide) (hN : X.N[i]? = some x := by rfl) (hv : Vis X.env.scope x := by first | exact Or.inl rfl | exact Or.inr (Or.inl rfl) | exact Or.inr (Or.inr rfl)) (hd : (x == ("__debug__" : Str)) = false := by decide) (hcd : (x == ("__classdict__" : Str)) = false := by decide) :
    PED X F O .fz (.Subscript (.Name x npos) b pos) (fun δ => do let x ← rd i δ; let ds ← itL x; let y ← tb δ; ixD (.lst ds) y) := pe_imp (pe_ix f_ix (fv i hN hv hd hcd) hb hs) fun σ H Q ⟨B, ρ, δ, S, r, q⟩ => by
  obtain ⟨x0, ex, q⟩ := q.bind.opt
  have e0 := rd_get ex
  obtain ⟨ds, ed, q2⟩ := q.bind.itL
  clear q
  subst ed
  obtain ⟨a, eb⟩ := (r.own i).mpr ho
  have s0 := r.slot i _ e0
  unfold SlAt at s0
  rw [eb] at s0
  obtain ⟨h1, t0⟩ := s0
  unfold tOp tV
  rw [h1]
  refine ⟨B, ρ, δ, S, r, q2.bind.imp fun d2 S2 q v2 H2 ρ2 r2 g2 z2 => ?_⟩
  cases d2 <;> first | exact (show False from q).elim | skip
  cases (show Rin F .tr B ρ2 H2 v2 (.int _) from z2).int
  obtain ⟨w, ew, q⟩ := (show Ok1 F (M.opt (atI ds _) S2) _ from q).opt
  have s2 := r2.slot i _ e0
  unfold SlAt at s2
  rw [eb] at s2
  obtain ⟨vs, hv, hl⟩ := top_lst s2.2
  have l : RinL F .fz B ρ2 H2 vs ds := hl
  obtain ⟨v, hv2, hr⟩ := l.atI ew
  exact ⟨vs, v, .inl (hK ▸ SqL.of hv), hv2, q v H2 ρ2 r2 g2 hr⟩
end
end Fg

set_option Elab.async false
set_option linter.all false
set_option maxRecDepth 100000
set_option maxHeartbeats 4000000
namespace Fg
open PySem PySem.Spec PyProof.Rows L2
variable [TQ]
abbrev ixOM (i : Nat) (tb : DEnv → M D) : DEnv → M D := fun δ => do let x ← rd i δ; let ds ← itL x; let y ← tb δ; ixD (.lst ds) y
/-! ### self.f = e within __init__ -/
def putD (f : Str) (d : D) : List (Str × D) → List (Str × D)
  | [] => [(f, d)]
  | (g, x) :: r => if g = f then (g, d) :: r else (g, x) :: putD f d r
theorem RpF.put {K : PySem.W.Frag} {ca : Str → Option Addr} {ρ : List Addr} {G : Hp} {f : Str} {v : V} {d : D} (h : Rp K ca ρ G v d) : ∀ {vs : List (Str × V)} {ds : List (Str × D)}, RpF K ca ρ G vs ds → RpF K ca ρ G (putF f v vs) (putD f d ds)
  | _, _, .nil => .cons h .nil
  | _, _, .cons (k := k) g t => by
    unfold putF putD
    split
    · exact .cons h t
    · exact .cons g (RpF.put h t)
theorem RpF.length {K : PySem.W.Frag} {ca : Str → Option Addr} {ρ : List Addr} {G : Hp} : ∀ {vs : List (Str × V)} {ds : List (Str × D)}, RpF K ca ρ G vs ds → vs.length = ds.length
  | _, _, .nil => rfl
  | _, _, .cons _ t => congrArg Nat.succ (RpF.length t)
def asO (c : Str) : D → M (List (Str × D))
  | .obj c' fs => if c' = c then pure fs else M.stuck
  | _ => M.stuck
def fldS (i : Nat) (c f : Str) (t : DEnv → M D) : DEnv → M (DEnv × Fl) := fun δ => do
  let v ← t δ
  let x ← rd i δ
  let fs ← asO c x
  if fs.length < 1000 then pure (δ.set i (some (.obj c (putD f v fs))), Fl.nx) else M.stuck
theorem Ok1.asO {F : Fr} {c : Str} {x : D} {S : Sto} {P : List (Str × D) → Sto → Prop} (h : Ok1 F (Fg.asO c x S) P) : ∃ fs, x = .obj c fs ∧ P fs S := by
  cases x <;> first | exact (show False from h).elim | skip
  obtain ⟨e, h2⟩ := Ok1.ite h
  clear h
  subst e
  exact ⟨_, rfl, h2⟩
section
variable {X : Cx} {F : Fr} {O O' O1 O2 OL : List Nat} {m mi : Md} {pos pos' p apos spos npos : Pos} {a b c e e2 tg o : Expr} {rest es elts ifs : List Expr} {i j k kk n : Nat} {x f : Str} {ps : List Str} {K : PySem.W.Frag}
theorem psd_fld {C : Addr} {c f : Str} {t : DEnv → M D} (i : Nat) (hca : F.ca c = some C) (cl : Cls X.K C) (nf : NoAttr X.K C f) (h : PED X F O .fz e t) (ho : i ∈ O := by decide) (hN : X.N[i]? = some x := by rfl) (hv : Vis X.env.scope x := by first | exact Or.inl rfl | exact Or.inr (Or.inl rfl) | exact Or.inr (Or.inr rfl)) (hd : (x == ("__debug__" : Str)) = false := by decide) (hcd : (x == ("__classdict__" : Str)) = false := by decide)
    (hs : swapsWith e (some (.Attribute (.Name x npos) f pos')) pos.line X.env = pure false := by rfl) : PSD X F O O OL (.Assign [.Attribute (.Name x npos) f pos'] e pos) (fldS i c f t) := ps_imp (fs_fld cl nf (fv i hN hv hd hcd) h hs) fun Dn σ H ⟨B, ρ, δ, S, r, q⟩ => ⟨B, ρ, δ, S, r, q.bind.imp fun d S' q v H' ρ' r' g z => by
  obtain ⟨x0, ex, q⟩ := (Ok1.bind q).opt
  have e0 := rd_get ex
  obtain ⟨fs, ed, q2⟩ := q.bind.asO
  clear q
  subst ed
  obtain ⟨hl, q⟩ := q2.ite
  obtain ⟨a, eb⟩ := (r'.own i).mpr ho
  have s0 := r'.slot i _ e0
  unfold SlAt at s0
  rw [eb] at s0
  obtain ⟨h1, C', dx, vs, e1, hv, hf⟩ := s0
  cases hca.symm.trans e1
  unfold tV
  rw [h1]
  refine ⟨dx, vs, hv, by rw [RpF.length hf]; exact hl, fun H3 b3 h3 => ?_⟩
  obtain ⟨r3, g3⟩ := r'.put (d := .obj c (putD f d fs)) eb b3 hv h3 (fun _ z => by cases z) (fun _ z => by cases z) ⟨C, dx, _, hca, h3, RpF.put z hf⟩
  exact (q : ∀ σ' H' B' ρ', _) σ H3 B ρ' r3 (g.wk.trans g3 fun b h => .inl h) fun b h => .inl h⟩
end
/-! ### a class is called -/
/-- __init__ run with values: what the new instance is -/
def runI (c : Str) (n : Nat) (b : DEnv → M (DEnv × Fl)) (ds : List D) : M D := do
  let p ← b (startD n (.obj c [] :: ds))
  match p.2 with
  | .nx => M.opt p.1[0]?.join
  | _ => M.stuck
/-- the promise of an __init__ -/
def spI (K : PySem.W.Frag) (ca ce : Str → Option Addr) (c : Str) (C : Addr) (n : Nat) (f : List D → M D) : Sp := fun vs H Q E => ∃ (Hb : Hp) (q dx : Addr) (Xs : Addr → Prop) (ρ : List Addr) (ds : List D) (S : Sto) (ws : List V), vs = .ref q :: ws ∧ ds.length + 1 = n ∧ ca c = some C ∧ Hb q = none ∧ Same Hb H ∧ H q = some (.ins C dx []) ∧
  Sta K ca ρ Xs Hb S ∧ RpL K ca ρ (hid (fun b => Xs b ∨ b ∈ ρ) Hb) ws ds ∧ Ok1 ⟨K, ca, ce, Hb, Xs, ρ, E, some q⟩ (f ds S) fun d S' => ∀ H' ρ', Gr ρ NoZ Hb ρ' H' → q ∉ ρ' → Sta K ca ρ' (fun b => Xs b ∨ b = q) H' S' → Top K ca ρ' (hid (fun b => (Xs b ∨ b ∈ ρ') ∨ b = q) H') H' q d → Q .non H'
theorem spI_len {K : PySem.W.Frag} {ca ce : Str → Option Addr} {c : Str} {C : Addr} {n : Nat} {f : List D → M D} {vs : List V} {H : Hp} {Q : VK} {E : XK} (h : spI K ca ce c C n f vs H Q E) : vs.length = n := by
  obtain ⟨Hb, q, dx, Xs, ρ, ds, S, ws, rfl, hl, _, _, _, _, _, p, _⟩ := h
  rw [List.length_cons, RpL.length p, hl]
theorem init_of {K : PySem.W.Frag} {ca ce : Str → Option Addr} {c : Str} {C : Addr} {N : List Str} {n m : Nat} {b : DEnv → M (DEnv × Fl)} {vs : List V} {H : Hp} {Q : VK} {E : XK} (hn : N.length = n) (h : spI K ca ce c C m (runI c n b) vs H Q E) :
    ∃ (Hb : Hp) (Xs : Addr → Prop) (ρ : List Addr) (q : Addr), dS ⟨K, ca, ce, Hb, Xs, ρ, E, some q⟩ [0] [0] [] b { nx := fun _ H' => Q .non H', rt := Q } (L2.start N vs) H := by
  obtain ⟨Hb, q, dx, Xs, ρ, ds, S, ws, rfl, hl, hc, nq, s, hq, st, p, k⟩ := h
  refine ⟨Hb, Xs, ρ, q, fun i => if i = 0 then some q else none, ρ, startD n (.obj c [] :: ds), S, ?_, ?_⟩
  · have on : ∀ b, Own (fun i => if i = 0 then some q else none) b ↔ b = q := fun b => by
      constructor
      · rintro ⟨i, e⟩
        dsimp only at e
        split at e
        · exact (Option.some.inj e).symm
        · cases e
      · intro e
        exact ⟨0, by rw [e]; rfl⟩
    have hx : (fun b => Xs b ∨ Own (fun i => if i = 0 then some q else none) b) = fun b => Xs b ∨ b = q := funext fun b => propext (by rw [on])
    have nx : ¬ Xs q := fun z => st.live q (.inl z) (Nw.of nq)
    refine ⟨Gr.same s, by show Sta K ca ρ (fun b => Xs b ∨ Own _ b) H S; rw [hx]; exact st.new s nq (Nw.live hq fun _ z => by cases z), fun b h => by rw [(on b).mp h]; exact Nw.of nq, fun b h => by rw [(on b).mp h]; exact nx, fun i j b h1 h2 => ?_, fun i => ?_, fun i a e => ?_, fun q' e => ?_, ?_, fun i d e => ?_⟩
    · have h1 : (if i = 0 then some q else none) = some b := h1
      have h2 : (if j = 0 then some q else none) = some b := h2
      split at h1
      · split at h2
        · rename_i z1 z2; rw [z1, z2]
        · cases h2
      · cases h1
    · constructor
      · rintro ⟨a, e⟩
        have e : (if i = 0 then some q else none) = some a := e
        split at e
        · rename_i z; rw [z]; exact List.mem_cons_self ..
        · cases e
      · intro e
        simp only [List.mem_cons, List.not_mem_nil, or_false] at e
        exact ⟨q, by rw [e]; rfl⟩
    · have e : (if i = 0 then some q else none) = some a := e
      split at e
      · rename_i z; subst z; exact ⟨.obj c [], rfl⟩
      · cases e
    · cases e; exact .inl rfl
    · unfold L2.start startD
      rw [List.length_append, List.length_append, List.length_map, List.length_map, List.length_replicate, List.length_replicate, List.length_cons, List.length_cons, RpL.length p, hn]
    · have e' := start_at (D.obj c [] :: ds) _ i d e
      have zz : Zo ⟨K, ca, ce, Hb, Xs, ρ, E, some q⟩ (fun i => if i = 0 then some q else none) ρ = fun b => (Xs b ∨ b ∈ ρ) ∨ b = q := funext fun b => propext (by
        show ((Xs b ∨ Own _ b) ∨ b ∈ ρ) ↔ _
        rw [on, or_assoc, or_assoc, or_comm (a := b = q)])
      cases i with
      | zero =>
        cases e'
        exact ⟨rfl, C, dx, [], hc, hq, .nil⟩
      | succ i =>
        have e2 : ds[i]? = some d := by simpa using e'
        obtain ⟨v, hv, hr⟩ := RpL.get p e2
        refine ⟨v, start_in (.ref q :: ws) _ (i + 1) v (by simpa using hv), hr.mono (fun _ _ e => e) ?_⟩
        rw [zz]
        intro b o h _
        obtain ⟨no, h⟩ := hid_iff.mp h
        exact hid_iff.mpr ⟨fun z => z.elim no fun z => (by rw [z, nq] at h; cases h), s b o h⟩
  · refine (Ok1.bind k).imp fun p S' k => ?_
    obtain ⟨δ', fl⟩ := p
    cases fl with
    | rt d => exact (show False from k).elim
    | bk => exact (show False from k).elim
    | ct => exact (show False from k).elim
    | nx =>
      intro σ' H' B' ρ' r' g n
      obtain ⟨d, ed, k⟩ := (show Ok1 _ (M.opt δ'[0]?.join S') _ from k).opt
      have ed := rd_get ed
      have b0 : B' 0 = some q := by
        rcases r'.zero q rfl with z | z
        · exact z
        · obtain ⟨a, ea⟩ := (r'.own 0).mpr (List.mem_cons_self ..)
          rw [z] at ea; cases ea
      have on : ∀ b, Own B' b ↔ b = q := fun b => by
        constructor
        · rintro ⟨i, e⟩
          have := (r'.own i).mp ⟨b, e⟩
          simp only [List.mem_cons, List.not_mem_nil, or_false] at this
          rw [this, b0] at e
          exact (Option.some.inj e).symm
        · intro e; exact ⟨0, by rw [e]; exact b0⟩
      have s0 := r'.slot 0 d ed
      unfold SlAt at s0
      rw [b0] at s0
      have zz : Zo ⟨K, ca, ce, Hb, Xs, ρ, E, some q⟩ B' ρ' = fun b => (Xs b ∨ b ∈ ρ') ∨ b = q := funext fun b => propext (by
        show ((Xs b ∨ Own _ b) ∨ b ∈ ρ') ↔ _
        rw [on, or_assoc, or_assoc, or_comm (a := b = q)])
      have hx : (fun b => Xs b ∨ Own B' b) = fun b => Xs b ∨ b = q := funext fun b => propext (by rw [on])
      refine (k : ∀ H' ρ', _) H' ρ' r'.gr (fun z => r'.sta.xr q z (.inr ((on q).mpr rfl))) (hx ▸ r'.sta) (zz ▸ s0.2)
section
variable {P : Program} {w : World} {K : PySem.W.Frag} {mg : Str → Option Value} {base : Heap} {ca ce : Str → Option Addr}
theorem kmakerD_of {x qual : Str} {C : Addr} {st : Stmt} {kws : List (Str × V)} {N ps : List Str} {k n m : Nat} {b : DEnv → M (DEnv × Fl)} (g : mg x = some (.ref C)) (F : InitK K C qual st kws) (S : FnScope N ps (defScope st)) (hn : N.length = n := by rfl) (hm : ps.length = m := by rfl)
    (hbody : ∀ (f : Addr) (cdv : Value) (A : Around) (outer : List Env) (s : Shared) (H Hb : Hp) (Xs : Addr → Prop) (ρ : List Addr) (E : XK) (q : Addr), Room k (cxOf (L2.CX P w) P w K mg base N qual (defScope st) f cdv A outer s H E).A →
      Takes (cxOf (L2.CX P w) P w K mg base N qual (defScope st) f cdv A outer s H E) (fun cls d _ H => E cls d H) →
      PassesOwn (model P w) (cxOf (L2.CX P w) P w K mg base N qual (defScope st) f cdv A outer s H E).A (cxOf (L2.CX P w) P w K mg base N qual (defScope st) f cdv A outer s H E).env (cxOf (L2.CX P w) P w K mg base N qual (defScope st) f cdv A outer s H E).xe →
      PSsD (cxOf (L2.CX P w) P w K mg base N qual (defScope st) f cdv A outer s H E) ⟨K, ca, ce, Hb, Xs, ρ, E, some q⟩ [0] [0] [] (defBody st) b) : KMaker P w K mg base (k + 1) x C qual st kws ps (spI K ca ce x C m (runI x n b)) := by
  refine kmaker_of g F S (fun vs H Q E h => by rw [spI_len h, hm]) fun f cdv A outer s H vs Q E hr tk po h => ?_
  obtain ⟨Hb, Xs, ρ, q, z⟩ := init_of hn h
  exact ⟨_, hbody f cdv A outer s H Hb Xs ρ E q hr tk po, z⟩
theorem qmakerD_of {x qual : Str} {C : Addr} {st : Stmt} {dvs : List V} {N ps : List Str} {k n m : Nat} {b : DEnv → M (DEnv × Fl)} (g : mg x = some (.ref C)) (F : InitD K C qual st dvs) (S : FnScope N ps (defScope st)) (hn : N.length = n := by rfl) (hm : ps.length = m := by rfl)
    (hbody : ∀ (f : Addr) (cdv : Value) (A : Around) (outer : List Env) (s : Shared) (H Hb : Hp) (Xs : Addr → Prop) (ρ : List Addr) (E : XK) (q : Addr), Room k (cxOf (L2.CX P w) P w K mg base N qual (defScope st) f cdv A outer s H E).A →
      Takes (cxOf (L2.CX P w) P w K mg base N qual (defScope st) f cdv A outer s H E) (fun cls d _ H => E cls d H) →
      PassesOwn (model P w) (cxOf (L2.CX P w) P w K mg base N qual (defScope st) f cdv A outer s H E).A (cxOf (L2.CX P w) P w K mg base N qual (defScope st) f cdv A outer s H E).env (cxOf (L2.CX P w) P w K mg base N qual (defScope st) f cdv A outer s H E).xe →
      PSsD (cxOf (L2.CX P w) P w K mg base N qual (defScope st) f cdv A outer s H E) ⟨K, ca, ce, Hb, Xs, ρ, E, some q⟩ [0] [0] [] (defBody st) b) : QMaker P w K mg base (k + 1) x C qual st dvs ps (spI K ca ce x C m (runI x n b)) := by
  refine qmaker_of g F S (fun vs H Q E h => by rw [spI_len h, hm]) fun f cdv A outer s H vs Q E hr tk po h => ?_
  obtain ⟨Hb, Xs, ρ, q, z⟩ := init_of hn h
  exact ⟨_, hbody f cdv A outer s H Hb Xs ρ E q hr tk po, z⟩
theorem starD_of {x qual pv : Str} {C : Addr} {st : Stmt} {N : List Str} {k n m : Nat} {b : DEnv → M (DEnv × Fl)} (g : mg x = some (.ref C)) (F : InitD K C qual st []) (S : FnScope N ["self", pv] (defScope st))
    (hb : ∀ (kV doc pm : Value) (an : Option Addr) (cdv ct : Value) (us rest : List Value), us.length = ["self"].length → bindArgs (PySem.W.fnOf "__init__" qual (defArgs st) (defBody st) (defScope st) .none kV doc pm an cdv ct) ⟨us ++ rest, []⟩ = (newTuple rest >>= fun t => pure ((["self"] : List Str).zip us ++ [(pv, t)]))) (hn : N.length = n := by rfl)
    (hbody : ∀ (f : Addr) (cdv : Value) (A : Around) (outer : List Env) (s : Shared) (H Hb : Hp) (Xs : Addr → Prop) (ρ : List Addr) (E : XK) (q : Addr), Room k (cxOf (L2.CX P w) P w K mg base N qual (defScope st) f cdv A outer s H E).A →
      Takes (cxOf (L2.CX P w) P w K mg base N qual (defScope st) f cdv A outer s H E) (fun cls d _ H => E cls d H) →
      PassesOwn (model P w) (cxOf (L2.CX P w) P w K mg base N qual (defScope st) f cdv A outer s H E).A (cxOf (L2.CX P w) P w K mg base N qual (defScope st) f cdv A outer s H E).env (cxOf (L2.CX P w) P w K mg base N qual (defScope st) f cdv A outer s H E).xe →
      PSsD (cxOf (L2.CX P w) P w K mg base N qual (defScope st) f cdv A outer s H E) ⟨K, ca, ce, Hb, Xs, ρ, E, some q⟩ [0] [0] [] (defBody st) b) : StarMk P w K mg base (k + 1) x C (spR (spI K ca ce x C 2 (runI x n b))) := by
  refine starmk_of g F S hb fun f cdv A outer s H vs Q E hr tk po h => ?_
  obtain ⟨Hb, Xs, ρ, q, z⟩ := init_of hn h
  exact ⟨_, hbody f cdv A outer s H Hb Xs ρ E q hr tk po, z⟩
end
end Fg

set_option Elab.async false
set_option linter.all false
set_option maxRecDepth 100000
set_option maxHeartbeats 4000000
namespace Fg
open PySem PySem.Spec PyProof.Rows L2
variable [TQ]
section
variable {X : Cx} {F : Fr} {O O' O1 O2 OL : List Nat} {m mi : Md} {pos pos' p apos spos npos : Pos} {a b c e e2 tg o : Expr} {rest es elts ifs : List Expr} {i j k kk n : Nat} {x f : Str} {ps : List Str} {K : PySem.W.Frag}
variable {B : Nat → Option Addr} {ρ : List Addr} {σ : L2.St} {H1 : Hp} {δ : DEnv} {S1 : Sto}
/-- an __init__'s promise at a point of its caller -/
theorem spI_at {f : List D → M D} {C : Addr} {cn : Str} {ws : List V} {ds : List D} {Q : VK} {H3 : Hp} {q dx : Addr} (hca : F.ca cn = some C) (r : Rel F O B ρ σ H1 δ S1) (z : RinL F .fz B ρ H1 ws ds) (nq : H1 q = none) (s : Same H1 H3) (hq : H3 q = some (.ins C dx []))
    (k : Ok1 F (if ds.length + 1 = n then f ds S1 else none) fun d S' => ∀ v H' ρ', Rel F O B ρ' σ H' δ S' → Gr ρ NoZ H1 ρ' H' → Res F .nw B ρ' H1 H' S' v d → Q v H') : spI F.K F.ca F.ce cn C n f (.ref q :: ws) H3 (fun v H4 => v = .non ∧ Q (.ref q) H4) F.W := by
  split at k
  · rename_i hl
    refine ⟨H1, q, dx, fun b => F.Xs b ∨ Own B b, ρ, ds, S1, ws, rfl, hl, hca, nq, s, hq, r.sta, z, ?_⟩
    unfold Ok1 at k ⊢
    cases e : f ds S1 with
    | none => rw [e] at k; exact k
    | some p =>
      rw [e] at k
      obtain ⟨res, S'⟩ := p
      cases res with
      | error ex =>
        intro cls dd H' ρ' en er
        refine k cls dd H' ρ' ⟨r.gr.tr en.gr, en.sta.wk fun b h => .inl h⟩ ?_
        obtain ⟨C, x, vs, h1, h2, h3, h4, h5⟩ := er
        exact ⟨C, x, vs, h1, h2, h3, h4, RpF.mono (fun _ _ e => e) (fun b o e _ => by
          obtain ⟨no, e⟩ := hid_iff.mp e
          exact hid_iff.mpr ⟨fun z => no (z.imp .inl id), e⟩) h5⟩
      | ok d =>
        intro H' ρ' g nr st t
        exact ⟨rfl, k (.ref q) H' ρ' (r.step g (st.wk fun b h => .inl h)) g ⟨q, rfl, Nw.of nq, nr, st, t⟩⟩
  · exact (show False from k).elim
theorem RinL.append {m : Md} {H : Hp} {vs ws : List V} {ds es : List D} (h : RinL F m B ρ H vs ds) (t : RinL F m B ρ H ws es) : RinL F m B ρ H (vs ++ ws) (ds ++ es) := by cases m <;> exact RpL.append h t
theorem rinL_scal {m : Md} {H : Hp} {ds : List D} (h : ds.all scalD = true) : RinL F m B ρ H (ds.map scV) ds := by cases m <;> exact rpL_scal h
/-- C(a, ..) by position, the rest by default -/
def newDD (m i : Nat) (dd : List D) (n : Nat) (f : List D → M D) (t : DEnv → M (List D)) : DEnv → M D := fun δ => do
  let ds ← t δ
  if ds.length = m then (if (ds ++ dd.drop i).length + 1 = n then f (ds ++ dd.drop i) else M.stuck) else M.stuck
theorem all_drop {α : Type} {q : α → Bool} : ∀ (l : List α) (i : Nat), l.all q = true → (l.drop i).all q = true
  | [], i, _ => by simp
  | x :: l, 0, h => h
  | x :: l, i + 1, h => by
    rw [List.all_cons, Bool.and_eq_true] at h
    exact all_drop l i h.2
theorem pd_newD {C : Addr} {qual cn : Str} {st : Stmt} {dd : List D} {f : List D → M D} {t : DEnv → M (List D)} (m i : Nat) (hca : F.ca cn = some C) (c : QMaker X.prog X.w X.K X.mg X.base k x C qual st (dd.map scV) ps (spI F.K F.ca F.ce cn C n f)) (hdd : dd.all scalD = true) (hr : Room j X.A) (hj : k + 1 ≤ j) (hg : Gl X x) (tk : Takes X fun cls d _ H => F.W cls d H) (ha : PAD X F O .fz (e :: es) t) (hd : dd.map scV ≠ []) (hn : (m + 1) + ((dd.map scV).length - i) = ps.length)
    (hb : ∀ (T : Addr) (kV doc pm : Value) (an : Option Addr) (cdv ct : Value) (us its : List Value), us.length = m + 1 → its.length = (dd.map scV).length →
      ∃ k, bindArgs (PySem.W.fnOf "__init__" qual (defArgs st) (defBody st) (defScope st) (.ref T) kV doc pm an cdv ct) ⟨us, []⟩ = seqItems? (.ref T) >>= k ∧ k (some its.toArray) = pure (ps.zip (us ++ its.drop i)))
    (hdb : (x == ("__debug__" : Str)) = false := by decide)
    (he : starEach (e :: es) X.env = (false, eval e X.env) :: starEach es X.env := by rfl) (hpl : (backTo pos (starEach es X.env)).any (·.1) = false := by rfl) : PED X F O .nw (.Call (.Name x p) (e :: es) [] pos) (newDD m i dd n f t) :=
  pe_imp (fc_newD m i c hr hj hg tk ha hd hn hb hdb he hpl) fun σ H Q ⟨B, ρ, δ, S, r, q⟩ => ⟨B, ρ, δ, S, r, q.bind.imp fun ds S' q vs H' ρ' r' g z => by
    obtain ⟨hl, q⟩ := q.ite
    rw [ite_at] at q
    refine ⟨by rw [RinL.len z, hl], fun p dx H3 np s hp => ?_⟩
    have l2 : RinL F .fz B ρ' H' (vs ++ (dd.map scV).drop i) (ds ++ dd.drop i) := z.append (by rw [← List.map_drop]; exact rinL_scal (all_drop dd i hdd))
    exact spI_at hca r' l2 np s hp (q.imp fun d S2 k v H2 ρ2 r2 g2 z2 => k v H2 ρ2 r2 (g.tr g2) (Res.gr2 g z2))⟩
/-- C(a, *b, ..), *parts in its __init__ -/
def newSD (f : List D → M D) (t : DEnv → M (List D)) : DEnv → M D := fun δ => do let ds ← t δ; capL ds; f [.tup ds]
theorem star_at {f : List D → M D} {C : Addr} {cn : Str} {H : Hp} {vs : List V} {ds : List D} {Q : VK} (hca : F.ca cn = some C) (r : Rel F O B ρ σ H δ S1) (z : RinL F .fz B ρ H vs ds)
    (k : Ok1 F ((do capL ds; f [.tup ds] : M D) S1) fun d S' => ∀ v H' ρ', Rel F O B ρ' σ H' δ S' → Gr ρ NoZ H ρ' H' → Res F .nw B ρ' H H' S' v d → Q v H') : MadeBy C (spR (spI F.K F.ca F.ce cn C 2 f)) (fun l => l) (fun cls d _ H => F.W cls d H) σ vs H Q := by
  obtain ⟨hc, k⟩ := k.bind.cap
  refine fun q dx H3 nq s hq => ⟨by rw [RinL.len z]; exact hc, fun p2 H4 n4 s4 h4 => ?_⟩
  have n2 : H p2 = none := by
    cases e : H p2 with
    | none => rfl
    | some o => rw [s p2 o e] at n4; cases n4
  have ne : q ≠ p2 := fun w => by rw [w, n4] at hq; cases hq
  have sb : Same H (upd H p2 (.tup vs)) := Same.new n2
  have rb := r.same sb
  have gb : Gr ρ NoZ H ρ (upd H p2 (.tup vs)) := Gr.same sb
  refine spI_at (H1 := upd H p2 (.tup vs)) hca rb (RinL.cons (tup_new (m := .fz) (H0 := H) (S' := S1) r n2 sb upd_same (by decide) z) RinL.nil) (by rw [upd_ne ne]; exact nq) (fun b o e => ?_) (s4 _ _ hq) ?_
  · by_cases w : b = p2
    · subst w; rw [upd_same] at e; cases e; exact h4
    · rw [upd_ne w] at e; exact s4 _ _ (s _ _ e)
  · rw [if_pos (show [D.tup ds].length + 1 = 2 from rfl)]
    exact k.imp fun d S2 k v H2 ρ2 r2 g2 z2 => k v H2 ρ2 r2 (gb.tr g2) (Res.gr2 gb z2)
theorem pd_newS {C : Addr} {cn : Str} {f : List D → M D} {t : DEnv → M (List D)} (hca : F.ca cn = some C) (c : StarMk X.prog X.w X.K X.mg X.base k x C (spR (spI F.K F.ca F.ce cn C 2 f))) (hr : Room j X.A) (hj : k + 1 ≤ j) (hg : Gl X x) (tk : Takes X fun cls d _ H => F.W cls d H) (ha : PAD X F O .fz (e :: es) t) (hdb : (x == ("__debug__" : Str)) = false := by decide)
    (he : starEach (e :: es) X.env = (false, eval e X.env) :: starEach es X.env := by rfl) (hpl : (backTo pos (starEach es X.env)).any (·.1) = false := by rfl) : PED X F O .nw (.Call (.Name x p) (e :: es) [] pos) (newSD f t) :=
  pe_imp (fc_newS c hr hj hg tk ha hdb he hpl) fun σ H Q ⟨B, ρ, δ, S, r, q⟩ => ⟨B, ρ, δ, S, r, q.bind.imp fun ds S' q vs H' ρ' r' g z => star_at hca r' z (q.imp fun d S2 k v H2 ρ2 r2 g2 z2 => k v H2 ρ2 r2 (g.tr g2) (Res.gr2 g z2))⟩
theorem pd_newS2 {C : Addr} {cn : Str} {f : List D → M D} {t : DEnv → M (List D)} (hca : F.ca cn = some C) (c : StarMk X.prog X.w X.K X.mg X.base k x C (spR (spI F.K F.ca F.ce cn C 2 f))) (hr : Room j X.A) (hj : k + 1 ≤ j) (hg : Gl X x) (tk : Takes X fun cls d _ H => F.W cls d H) (ha : PAD X F O .fz (e :: es) t) (hdb : (x == ("__debug__" : Str)) = false := by decide)
    (he : starEach (e :: es) X.env = (false, eval e X.env) :: starEach es X.env := by rfl) (hst : (backTo pos (starEach es X.env)).any (·.1) = true := by rfl) : PED X F O .nw (.Call (.Name x p) (e :: es) [] pos) (newSD f t) :=
  pe_imp (fc_newS2 c hr hj hg tk ha hdb he hst) fun σ H Q ⟨B, ρ, δ, S, r, q⟩ => ⟨B, ρ, δ, S, r, q.bind.imp fun ds S' q vs H' ρ' r' g z => star_at hca r' z (q.imp fun d S2 k v H2 ρ2 r2 g2 z2 => k v H2 ρ2 r2 (g.tr g2) (Res.gr2 g z2))⟩
theorem pd_newS0 {C : Addr} {cn : Str} {f : List D → M D} (hca : F.ca cn = some C) (c : StarMk X.prog X.w X.K X.mg X.base k x C (spR (spI F.K F.ca F.ce cn C 2 f))) (hr : Room j X.A) (hj : k + 1 ≤ j) (hg : Gl X x) (tk : Takes X fun cls d _ H => F.W cls d H) (hdb : (x == ("__debug__" : Str)) = false := by decide) : PED X F O .nw (.Call (.Name x p) [] [] pos) (newSD f nilM) :=
  pe_imp (fc_newS0 c hr hj hg tk hdb) fun σ H Q ⟨B, ρ, δ, S, r, q⟩ => star_at hca r RinL.nil (Ok1.bind q)
theorem pd_newS3 {p1 p2 : Pos} {C : Addr} {cn : Str} {f : List D → M D} {t : DEnv → M (List D)} (hca : F.ca cn = some C) (c : StarMk X.prog X.w X.K X.mg X.base k x C (spR (spI F.K F.ca F.ce cn C 2 f))) (hr : Room j X.A) (hj : k + 1 ≤ j) (hg : Gl X x) (tk : Takes X fun cls d _ H => F.W cls d H) (ha : PAD X F O .fz [.Starred e p1, .Starred e2 p2] t) (hdb : (x == ("__debug__" : Str)) = false := by decide)
    (hst : starEach [.Starred e p1, .Starred e2 p2] X.env = [(true, eval e X.env), (true, eval e2 X.env)] := by rfl) : PED X F O .nw (.Call (.Name x p) [.Starred e p1, .Starred e2 p2] [] pos) (newSD f t) :=
  pe_imp (fc_newS3 c hr hj hg tk ha hdb hst) fun σ H Q ⟨B, ρ, δ, S, r, q⟩ => ⟨B, ρ, δ, S, r, q.bind.imp fun ds S' q vs H' ρ' r' g z => star_at hca r' z (q.imp fun d S2 k v H2 ρ2 r2 g2 z2 => k v H2 ρ2 r2 (g.tr g2) (Res.gr2 g z2))⟩
/-- *e among arguments -/
def sqD : D → M (List D)
  | .lst ds => pure ds
  | .tup ds => pure ds
  | _ => M.stuck
def starM (t : DEnv → M D) (u : DEnv → M (List D)) : DEnv → M (List D) := fun δ => do let x ← t δ; let ds ← sqD x; let r ← u δ; pure (ds ++ r)
theorem pad_star {sp : Pos} {t : DEnv → M D} {u : DEnv → M (List D)} (hK : F.K = X.K) (h : PED X F O m e t) (k : PAD X F O m rest u) (h2 : m ≠ .nw := by decide) (hs : starEach (.Starred e sp :: rest) X.env = (true, eval e X.env) :: starEach rest X.env := by rfl) : PAD X F O m (.Starred e sp :: rest) (starM t u) :=
  pa_imp2 (fa_star h k hs) fun σ H Q ⟨B, ρ, δ, S, r, q⟩ => ⟨B, ρ, δ, S, r, q.bind.imp fun d S' q v H' ρ' r' g z => by
    have z : Rin F m B ρ' H' v d := Res.rin r z
    have key : ∀ {ds : List D} {vs : List V}, RinL F m B ρ' H' vs ds → Ok1 F ((do let r ← u δ; pure (ds ++ r) : M (List D)) S') (fun d S' => ∀ v H' ρ', Rel F O B ρ' σ H' δ S' → Gr ρ NoZ H ρ' H' → RinL F m B ρ' H' v d → Q v H') → dA F O m u σ H' fun ys H2 => Q (vs ++ ys) H2 := fun {ds vs} l q => ⟨B, ρ', δ, S', r', q.bind.imp fun es S2 k ys H2 ρ2 r2 g2 z2 => (k : ∀ v H' ρ', _) _ H2 ρ2 r2 (g.tr g2) ((l.gr g2).append z2)⟩
    have q := q.bind
    cases d <;> first | exact (show False from q).elim | skip
    · obtain ⟨a, vs, rfl, ha, la⟩ := z.tup
      exact ⟨vs, .inr (hK ▸ ha), key la q⟩
    · obtain ⟨a, vs, rfl, ha, la⟩ := z.lst
      exact ⟨vs, .inl (SqL.of ha), key la q⟩⟩
/-! ### methods -/
def methD (c mn : Str) (n : Nat) (f : List D → M D) (t : DEnv → M D) (u : DEnv → M (List D)) : DEnv → M D := fun δ => do
  let x ← t δ
  let fs ← asO c x
  if fs.lookup mn = none then (do let ds ← u δ; if ds.length + 1 = n then f (x :: ds) else M.stuck) else M.stuck
theorem RpF.lookN {ca : Str → Option Addr} {G : Hp} {mn : Str} : ∀ {vs : List (Str × V)} {ds : List (Str × D)}, RpF K ca ρ G vs ds → ds.lookup mn = none → vs.lookup mn = none
  | _, _, .nil, _ => rfl
  | _, _, .cons (k := kk) _ t, e => by
    rw [List.lookup_cons] at e ⊢
    cases ek : (mn == kk) with
    | true => rw [ek] at e; cases e
    | false => rw [ek] at e; exact RpF.lookN t e
theorem pd_meth {C : Addr} {c mn : Str} {f : List D → M D} {t : DEnv → M D} {u : DEnv → M (List D)} {pl : Sem Bool} (hca : F.ca c = some C) (cc : MCallee X.prog X.w X.K X.mg X.base k C mn ps (spD F.K F.ca F.ce n f)) (hr : Room j X.A) (hk : k ≤ j) (tk : Takes X fun cls d _ H => F.W cls d H) (ho : PED X F O .fz o t) (ha : PAD X F O .fz (e :: es) u)
    (hst : starEach (e :: es) X.env = (false, eval e X.env) :: starEach es X.env := by rfl) (hpl : (backTo pos (starEach es X.env)).any (·.1) = false := by rfl)
    (ht : eval (.Call (.Attribute o mn apos) (e :: es) [] pos) X.env = (do
      let ov ← eval o X.env; standAt apos.atName; let (f, first) ← holding [ov] (getMethod ov mn pl)
      callWith pos f first (backTo pos (starEach (e :: es) X.env)) (backToKw pos (keywordEach [] X.env))) := by rfl) : PED X F O .fz (.Call (.Attribute o mn apos) (e :: es) [] pos) (methD c mn n f t u) :=
  pe_imp (fc_meth cc hr hk tk ho ha hst hpl ht) fun σ H Q ⟨B, ρ, δ, S, r, q⟩ => ⟨B, ρ, δ, S, r, q.bind.imp fun d S' q v H' ρ' r' g z => by
    have z : Rin F .fz B ρ' H' v d := z
    obtain ⟨fs, ed, q2⟩ := q.bind.asO
    clear q
    subst ed
    obtain ⟨hl, q⟩ := q2.ite
    have z0 := z
    obtain ⟨a, C', dx, vs, rfl, e1, h1, h2⟩ := z.obj
    cases hca.symm.trans e1
    exact ⟨⟨dx, vs, h1, RpF.lookN h2 hl⟩, B, ρ', δ, S', r', q.bind.imp fun ds S2 q ws H2 ρ2 r2 g2 z2 => by
      rw [ite_at] at q
      exact spD_at r2 (RinL.cons (z0.gr g2) z2) (q.imp fun d S3 k v H3 ρ3 r3 g3 z3 => k v H3 ρ3 r3 ((g.tr g2).tr g3) z3)⟩⟩
theorem pd_meth0 {C : Addr} {c mn : Str} {f : List D → M D} {t : DEnv → M D} {pl : Sem Bool} (hca : F.ca c = some C) (cc : MCallee X.prog X.w X.K X.mg X.base k C mn ps (spD F.K F.ca F.ce n f)) (hr : Room j X.A) (hk : k ≤ j) (tk : Takes X fun cls d _ H => F.W cls d H) (ho : PED X F O .fz o t)
    (ht : eval (.Call (.Attribute o mn apos) [] [] pos) X.env = (do
      let ov ← eval o X.env; standAt apos.atName; let (f, first) ← holding [ov] (getMethod ov mn pl)
      callWith pos f first (backTo pos (starEach [] X.env)) (backToKw pos (keywordEach [] X.env))) := by rfl) : PED X F O .fz (.Call (.Attribute o mn apos) [] [] pos) (methD c mn n f t nilM) :=
  pe_imp (fc_meth0 cc hr hk tk ho ht) fun σ H Q ⟨B, ρ, δ, S, r, q⟩ => ⟨B, ρ, δ, S, r, q.bind.imp fun d S' q v H' ρ' r' g z => by
    have z : Rin F .fz B ρ' H' v d := z
    obtain ⟨fs, ed, q2⟩ := q.bind.asO
    clear q
    subst ed
    obtain ⟨hl, q⟩ := q2.ite
    have z0 := z
    obtain ⟨a, C', dx, vs, rfl, e1, h1, h2⟩ := z.obj
    cases hca.symm.trans e1
    have q : Ok1 F ((if [].length + 1 = n then f [.obj c fs] else M.stuck) S') _ := q
    rw [ite_at] at q
    exact ⟨⟨dx, vs, h1, RpF.lookN h2 hl⟩, spD_at r' (RinL.cons z0 RinL.nil) (q.imp fun d S3 k v H3 ρ3 r3 g3 z3 => k v H3 ρ3 r3 (g.tr g3) z3)⟩⟩
end
section
variable {P : Program} {w : World} {K : PySem.W.Frag} {mg : Str → Option Value} {base : Heap} {ca ce : Str → Option Addr}
theorem mcalleeD_of {C : Addr} {mn qual : Str} {st : Stmt} {N ps : List Str} {k n m : Nat} {b : DEnv → M (DEnv × Fl)} (cl : Cls K C) (F : MethAt K C mn qual st) (S : FnScope N ps (defScope st)) (hn : N.length = n := by rfl) (hm : ps.length = m := by rfl)
    (hb : ∀ (kV doc pm : Value) (an : Option Addr) (cdv ct : Value) (us : List Value), us.length = ps.length → bindArgs (PySem.W.fnOf mn qual (defArgs st) (defBody st) (defScope st) .none kV doc pm an cdv ct) ⟨us, []⟩ = pure (ps.zip us))
    (hbody : ∀ (f : Addr) (cdv : Value) (A : Around) (outer : List Env) (s : Shared) (H : Hp) (Xs : Addr → Prop) (ρ : List Addr) (E : XK), Room k (cxOf (L2.CX P w) P w K mg base N qual (defScope st) f cdv A outer s H E).A →
      Takes (cxOf (L2.CX P w) P w K mg base N qual (defScope st) f cdv A outer s H E) (fun cls d _ H => E cls d H) →
      PassesOwn (model P w) (cxOf (L2.CX P w) P w K mg base N qual (defScope st) f cdv A outer s H E).A (cxOf (L2.CX P w) P w K mg base N qual (defScope st) f cdv A outer s H E).env (cxOf (L2.CX P w) P w K mg base N qual (defScope st) f cdv A outer s H E).xe →
      PSsD (cxOf (L2.CX P w) P w K mg base N qual (defScope st) f cdv A outer s H E) ⟨K, ca, ce, H, Xs, ρ, E, none⟩ [] [] [] (defBody st) b) : MCallee P w K mg base (k + 1) C mn ps (spD K ca ce m (runD n b)) := by
  refine mcallee_of cl F S hb (fun vs H Q E h => by rw [spD_len h, hm]) fun f cdv A outer s H vs Q E hr tk po h => ?_
  obtain ⟨Xs, ρ, ds, S0, hl, st0, p, q⟩ := h
  exact ⟨_, hbody f cdv A outer s H Xs ρ E hr tk po, body_of (F := ⟨K, ca, ce, H, Xs, ρ, E, none⟩) hn st0 p q fun _ _ h => h⟩
end
end Fg

set_option Elab.async false
set_option linter.all false
set_option maxRecDepth 100000
set_option maxHeartbeats 4000000
namespace Fg
open PySem PySem.Spec PyProof.Rows L2
variable [TQ]
/-! ### dicts -/
def putKD (kvs : List (Key × D)) (k : Key) (v : D) : List (Key × D) :=
  if (kvs.any fun kv => decide (kv.1 = k)) = true then kvs.map (fun kv => if kv.1 = k then (kv.1, v) else kv) else kvs ++ [(k, v)]
def getKD (kvs : List (Key × D)) (k : Key) : Option D := (kvs.find? fun kv => decide (kv.1 = k)).map (·.2)
def keyD : D → M Key
  | .int i => pure (.inl i)
  | .str x => pure (.inr x)
  | _ => M.stuck
def asDct : D → M (List (Key × D))
  | .dct kvs => pure kvs
  | _ => M.stuck
def dgetD (x y : D) : M D := do
  let kvs ← asDct x
  let k ← keyD y
  M.opt (getKD kvs k)
def tgD (i : Nat) (k : DEnv → M D) : D → DEnv → M DEnv := fun v δ => do
  let x ← rd i δ
  let kvs ← asDct x
  let y ← k δ
  let key ← keyD y
  if kvs.length < sizeLine then pure (δ.set i (some (.dct (putKD kvs key v)))) else M.stuck
section
variable {K : PySem.W.Frag} {ca : Str → Option Addr} {ρ : List Addr} {G : Hp} {F : Fr} {B : Nat → Option Addr} {H : Hp} {m : Md}
theorem RpK.any (k : Key) : ∀ {vs : List (Key × V)} {ds : List (Key × D)}, RpK K ca ρ G vs ds → (vs.any fun kv => decide (kv.1 = k)) = (ds.any fun kv => decide (kv.1 = k))
  | _, _, .nil => rfl
  | _, _, .cons _ t => by rw [List.any_cons, List.any_cons, RpK.any k t]
theorem RpK.length : ∀ {vs : List (Key × V)} {ds : List (Key × D)}, RpK K ca ρ G vs ds → vs.length = ds.length
  | _, _, .nil => rfl
  | _, _, .cons _ t => congrArg Nat.succ (RpK.length t)
theorem RpK.app {v : V} {d : D} (h : Rp K ca ρ G v d) (k : Key) : ∀ {vs : List (Key × V)} {ds : List (Key × D)}, RpK K ca ρ G vs ds → RpK K ca ρ G (vs ++ [(k, v)]) (ds ++ [(k, d)])
  | _, _, .nil => .cons h .nil
  | _, _, .cons g t => .cons g (RpK.app h k t)
theorem RpK.mapPut {v : V} {d : D} (h : Rp K ca ρ G v d) (k : Key) : ∀ {vs : List (Key × V)} {ds : List (Key × D)}, RpK K ca ρ G vs ds → RpK K ca ρ G (vs.map fun kv => if kv.1 = k then (kv.1, v) else kv) (ds.map fun kv => if kv.1 = k then (kv.1, d) else kv)
  | _, _, .nil => .nil
  | _, _, .cons (k := j) g t => by
    rw [List.map_cons, List.map_cons]
    by_cases e : j = k
    · rw [if_pos e, if_pos e]; exact .cons h (RpK.mapPut h k t)
    · rw [if_neg e, if_neg e]; exact .cons g (RpK.mapPut h k t)
theorem RpK.put {v : V} {d : D} (h : Rp K ca ρ G v d) (k : Key) {vs : List (Key × V)} {ds : List (Key × D)} (l : RpK K ca ρ G vs ds) : RpK K ca ρ G (putK vs k v) (putKD ds k d) := by
  unfold putK putKD
  rw [RpK.any k l]
  split
  · exact RpK.mapPut h k l
  · exact RpK.app h k l
theorem RpK.val {k : Key} {d : D} : ∀ {vs : List (Key × V)} {ds : List (Key × D)}, RpK K ca ρ G vs ds → getKD ds k = some d → ∃ v, valV vs k = some v ∧ Rp K ca ρ G v d
  | _, _, .nil, e => by cases e
  | _, _, .cons (k := j) (vs := vs) (ds := ds) g t, e => by
    unfold getKD at e
    rw [List.find?_cons] at e
    by_cases c : j = k
    · rw [decide_eq_true c] at e
      cases e
      exact ⟨_, valV_pos c, g⟩
    · rw [decide_eq_false c] at e
      obtain ⟨v, hv, hr⟩ := RpK.val t e
      exact ⟨v, (valV_neg c).trans hv, hr⟩
theorem RinK.get {vs : List (Key × V)} {ds : List (Key × D)} {k : Key} {d : D} (h : RinK F m B ρ H vs ds) (e : getKD ds k = some d) : ∃ v, valV vs k = some v ∧ Rin F m B ρ H v d := by cases m <;> exact RpK.val h e
theorem Ok1.asDct {x : D} {S : Sto} {P : List (Key × D) → Sto → Prop} (h : Ok1 F (Fg.asDct x S) P) : ∃ ds, x = .dct ds ∧ P ds S := by
  cases x <;> first | exact (show False from h).elim | exact ⟨_, rfl, h⟩
theorem Ok1.keyD {x : D} {S : Sto} {P : Key → Sto → Prop} (h : Ok1 F (Fg.keyD x S) P) : (∃ i, x = .int i ∧ P (.inl i) S) ∨ ∃ z, x = .str z ∧ P (.inr z) S := by
  cases x <;> first | exact (show False from h).elim | exact .inl ⟨_, rfl, h⟩ | exact .inr ⟨_, rfl, h⟩
end
section
variable {X : Cx} {F : Fr} {O O' O1 O2 OL : List Nat} {m mi : Md} {pos pos' p apos spos npos : Pos} {a b c e e2 tg o : Expr} {rest es elts ifs : List Expr} {i j k kk n : Nat} {x f : Str} {ps : List Str} {K : PySem.W.Frag}
theorem pd_dget {ta tb : DEnv → M D} (hu : X.A.units + 1 < cLine) (ha : PED X F O m a ta) (hb : PED X F O .tr b tb) (hs : NoSl b) (h2 : m ≠ .nw := by decide) : PED X F O m (.Subscript a b pos) (binM dgetD ta tb) := pe_imp (fe_dget hu ha hb hs) fun σ H Q ⟨B, ρ, δ, S, r, q⟩ =>
  ⟨B, ρ, δ, S, r, q.bind.imp fun d1 S1 q v1 H1 ρ1 r1 g1 z1 => ⟨B, ρ1, δ, S1, r1, q.bind.imp fun d2 S2 q v2 H2 ρ2 r2 g2 z2 => by
    obtain ⟨kvs, ed, q2⟩ := q.bind.asDct
    clear q
    subst ed
    have z1 : Rin F m B ρ2 H2 v1 (.dct kvs) := (Res.rin r z1).gr g2
    have z2 : Rin F .tr B ρ2 H2 v2 d2 := z2
    have fin : ∀ {v d}, Rin F m B ρ2 H2 v d → (∀ v H' ρ', Rel F O B ρ' σ H' δ S2 → Gr ρ NoZ H ρ' H' → Res F m B ρ' H H' S2 v d → Q v H') → Q v H2 := fun {v d} hr k => k v H2 ρ2 r2 (g1.tr g2) (by
      cases m
      · exact hr
      · exact hr
      · exact absurd rfl h2)
    rcases q2.bind.keyD with ⟨i, rfl, q⟩ | ⟨s, rfl, q⟩
    · obtain ⟨d, ed, q⟩ := q.opt
      cases z2.int
      obtain ⟨a, vs, rfl, ha, la⟩ := z1.dct
      obtain ⟨v, hv, hr⟩ := la.get ed
      exact ⟨vs, v, ha, hv, fin hr q⟩
    · obtain ⟨d, ed, q⟩ := q.opt
      cases z2.str
      obtain ⟨a, vs, rfl, ha, la⟩ := z1.dct
      obtain ⟨v, hv, hr⟩ := la.get ed
      exact ⟨vs, v, ha, hv, fin hr q⟩⟩⟩
/-- d[k] as a target, d the def's own -/
theorem pgd_dput {x : Str} {tk : DEnv → M D} (i : Nat) (hu : X.A.units + 1 < cLine) (hk : PED X F O .tr b tk) (ho : i ∈ O := by decide) (hN : X.N[i]? = some x := by rfl) (hv : Vis X.env.scope x := by first | exact Or.inl rfl | exact Or.inr (Or.inl rfl) | exact Or.inr (Or.inr rfl)) (hd : (x == ("__debug__" : Str)) = false := by decide) (hcd : (x == ("__classdict__" : Str)) = false := by decide)
    (ha : ∀ v, assign (.Subscript (.Name x npos) b spos) X.env v = (do
      let ov ← holding [v] (eval (.Name x npos) X.env)
      let iv ← holding [v, ov] (eval b X.env)
      standAt spos
      holding [v, ov, iv] (setItem ov iv v)
      release [v, ov, iv] []) := by intro _; rfl) : PGD X F O O (.Subscript (.Name x npos) b spos) (tgD i tk) := pg_imp (pg_sub (fv i hN hv hd hcd) hk (g_setD hu) ha) fun v σ H Q ⟨B, ρ, δ, S, d, r, z, q⟩ => by
  obtain ⟨x0, ex, q⟩ := (Ok1.bind q).opt
  have e0 := rd_get ex
  obtain ⟨kvs, ed, q2⟩ := q.bind.asDct
  clear q
  subst ed
  obtain ⟨a, eb⟩ := (r.own i).mpr ho
  have s0 := r.slot i _ e0
  unfold SlAt at s0
  rw [eb] at s0
  unfold gSub tV
  rw [s0.1]
  refine ⟨B, ρ, δ, S, r, q2.bind.imp fun d2 S2 q v2 H2 ρ2 r2 g2 z2 => ?_⟩
  have z2 : Rin F .tr B ρ2 H2 v2 d2 := z2
  have s2 := r2.slot i _ e0
  unfold SlAt at s2
  rw [eb] at s2
  obtain ⟨_, vs, hv, hl⟩ := s2
  have fin : ∀ (key : Key), Ok1 F ((if kvs.length < sizeLine then pure (δ.set i (some (.dct (putKD kvs key d)))) else M.stuck : M DEnv) S2) (fun δ' S' => ∀ σ' H' B' ρ', Rel F O B' ρ' σ' H' δ' S' → Gr ρ (Own B) H ρ' H' → (∀ b, Own B' b → Own B b ∨ Nw H b) → Q σ' H') → vs.length < sizeLine ∧ Chg H2 a (.dK (putK vs key v)) (Q σ) := fun key q => by
    obtain ⟨c, q⟩ := Ok1.ite q
    refine ⟨by rw [RpK.length hl]; exact c, fun H3 b3 h3 => ?_⟩
    obtain ⟨r3, g3⟩ := r2.put (d := .dct (putKD kvs key d)) eb b3 hv h3 (fun _ z => by cases z) (fun _ z => by cases z) ⟨_, h3, RpK.put (Rin.gr (m := .fz) z g2) key hl⟩
    exact (q : ∀ σ' H' B' ρ', _) σ H3 B ρ2 r3 (g2.wk.trans g3 fun b h => .inl h) fun b h => .inl h
  rcases q.bind.keyD with ⟨n, rfl, q⟩ | ⟨s, rfl, q⟩
  · cases z2.int
    exact ⟨vs, hv, fin _ q⟩
  · cases z2.str
    exact ⟨vs, hv, fin _ q⟩
theorem pd_d0 : PED X F O .nw (.Dict [] [] pos) (cM (.dct [])) := pe_imp fe_d0 fun σ H Q ⟨B, ρ, δ, S, r, q⟩ => fun p H2 np s2 h2 => by
  exact (q : ∀ v H' ρ', _) _ H2 ρ (r.same s2) (Gr.same s2) (res_new r (Gr.refl _ _ _) s2 np (Nw.live h2 fun _ z => by cases z) ⟨_, h2, .nil⟩)
/-! ### {k: v, ..} -/
def mergeKD (acc : List (Key × D)) : List (Key × D) → List (Key × D)
  | [] => acc
  | (k, v) :: r => mergeKD (putKD acc k v) r
def pairsM : List ((DEnv → M D) × (DEnv → M D)) → DEnv → M (List (Key × D))
  | [], _ => pure []
  | (a, b) :: r, δ => do
    let x ← noErr (a δ)
    let y ← noErr (b δ)
    let k ← keyD x
    let l ← pairsM r δ
    pure ((k, y) :: l)
def dispM (l : List ((DEnv → M D) × (DEnv → M D))) : DEnv → M D := fun δ => do
  let kvs ← pairsM l δ
  if kvs.length ≤ 15 then pure (.dct (mergeKD [] kvs)) else M.stuck
def trD (F : Fr) (O : List Nat) (p : (DEnv → M D) × (DEnv → M D)) : TE × TE := (exE fun D => dE (F.blk D) O .fz p.1, exE fun D => dE (F.blk D) O .fz p.2)
abbrev PDS (X : Cx) (F : Fr) (O : List Nat) (pos : Pos) (ks : List (Option Expr)) (vs : List Expr) (l : List ((DEnv → M D) × (DEnv → M D))) : Prop := PPs X pos ks vs ((l.map (trD F O)).map upTT)
theorem pds_nil : PDS X F O pos [] [] [] := fps_nil
theorem pds_cons {k v : Expr} {ks : List (Option Expr)} {vs : List Expr} {a b : DEnv → M D} {l : List ((DEnv → M D) × (DEnv → M D))} (hk : ∀ D, PED X (F.blk D) O .fz k a) (hv : ∀ D, PED X (F.blk D) O .fz v b) (hr : PDS X F O pos ks vs l) : PDS X F O pos (some k :: ks) (v :: vs) ((a, b) :: l) :=
  fps_cons (pe_ex hk) (pe_ex hv) hr
theorem RpK.merge {ca : Str → Option Addr} {ρ : List Addr} {G : Hp} : ∀ {more : List (Key × V)} {md : List (Key × D)} {acc : List (Key × V)} {ad : List (Key × D)}, RpK K ca ρ G more md → RpK K ca ρ G acc ad → RpK K ca ρ G (mergeK acc more) (mergeKD ad md)
  | _, _, _, _, .nil, h => h
  | _, _, acc, ad, .cons (k := kk) (v := v) (d := d) (vs := vs) (ds := ds) g t, h => by
    have z := RpK.merge t (RpK.put g kk h)
    exact z
theorem pairs_of {Q0 : List (V × V) → Hp → Prop} {B : Nat → Option Addr} {σ : L2.St} {δ : DEnv} {Da : Addr} {Hs : Hp} {ρs : List Addr} : ∀ (l : List ((DEnv → M D) × (DEnv → M D))) (ρ1 : List Addr) (H1 : Hp) (S1 : Sto), Rel (F.blk Da) O B ρ1 σ H1 δ S1 → Gr ρs NoZ Hs ρ1 H1 →
    Ok1 F (pairsM l δ S1) (fun kds S' => ∀ H' ρ' ps kvs, Rel (F.blk Da) O B ρ' σ H' δ S' → Gr ρs NoZ Hs ρ' H' → toKs ps = some kvs → RpK F.K F.ca ρ' (hid (Zo (F.blk Da) B ρ') H') kvs kds → Q0 ps H') → tPairs (l.map (trD F O)) σ H1 Q0
  | [], ρ1, H1, S1, r, g, q => (q : ∀ H' ρ' ps kvs, _) H1 ρ1 [] [] r g rfl .nil
  | (a, b) :: l, ρ1, H1, S1, r, g, q => by
    unfold pairsM at q
    refine ⟨Da, B, ρ1, δ, S1, r, q.bind.noErr.imp fun d1 S2 q v1 H2 ρ2 r2 g2 z1 => ⟨Da, B, ρ2, δ, S2, r2, q.bind.noErr.imp fun d2 S3 q v2 H3 ρ3 r3 g3 z2 => ?_⟩⟩
    have z1 : Rin (F.blk Da) .fz B ρ3 H3 v1 d1 := Rin.gr (m := .fz) z1 g3
    have go : ∀ (key : Key) (w : V), (∀ ps kvs, toKs ps = some kvs → toKs ((w, v2) :: ps) = some ((key, v2) :: kvs)) → v1 = w → Ok1 F ((do let l ← pairsM l δ; pure ((key, d2) :: l) : M (List (Key × D))) S3) (fun kds S' => ∀ H' ρ' ps kvs, Rel (F.blk Da) O B ρ' σ H' δ S' → Gr ρs NoZ Hs ρ' H' → toKs ps = some kvs → RpK F.K F.ca ρ' (hid (Zo (F.blk Da) B ρ') H') kvs kds → Q0 ps H') → tPairs (l.map (trD F O)) σ H3 fun ps H3 => Q0 ((v1, v2) :: ps) H3 := fun key w hw ev q => by
      subst ev
      refine pairs_of (ρs := ρ3) (Hs := H3) l ρ3 H3 S3 r3 (Gr.refl _ _ _) (q.bind.imp fun kds S4 k H4 ρ4 ps kvs r4 g4 e4 l4 => ?_)
      exact (k : ∀ H' ρ' ps kvs, _) H4 ρ4 _ _ r4 ((g.tr (g2.tr g3)).tr g4) (hw ps kvs e4) (.cons (Rin.gr (m := .fz) z2 g4) l4)
    rcases q.bind.keyD with ⟨n, rfl, q⟩ | ⟨s, rfl, q⟩
    · cases z1.int
      exact go _ (.int n) (fun ps kvs e => by unfold toKs; rw [e]) rfl q
    · cases z1.str
      exact go _ (.str s) (fun ps kvs e => by unfold toKs; rw [e]) rfl q
theorem toKs_len : ∀ {ps : List (V × V)} {kvs : List (Key × V)}, toKs ps = some kvs → ps.length = kvs.length := fun h => by rw [toKs_ok h, List.length_map]
theorem pd_disp {keys : List (Option Expr)} {values : List Expr} {l : List ((DEnv → M D) × (DEnv → M D))} (h : PDS X F O pos keys values l) (hall : keys.all (·.isSome) = true) (hl : keys.length = values.length) (h0 : keys ≠ []) (h15 : keys.length ≤ 15) : PED X F O .nw (.Dict keys values pos) (dispM l) :=
  pe_imp (fe_disp h hall hl h0 h15) fun σ H Q ⟨B, ρ, δ, S, r, q⟩ => fun Da H1 nD s1 h1 => by
    have re := r.enter s1 nD (Nw.live h1 fun _ z => by cases z)
    have h00 : Nw F.H0 Da := Classical.byContradiction fun z => r.gr.alive Da z (Nw.of nD)
    have g1 : Gr ρ NoZ H ρ H1 := Gr.same s1
    refine pairs_of (ρs := ρ) (Hs := H1) l ρ H1 S re (Gr.refl _ _ _) (q.bind.imp fun kds S2 k H2 ρ2 ps kvs r2 g2 e2 l2 => ?_)
    obtain ⟨hc, k⟩ := Ok1.ite k
    have hD2 : H2 Da = some (.dK []) := g2.keep Da _ (fun z => re.sta.xr Da z (.inl (.inr rfl))) (fun z => z) (fun _ z => by cases z) h1
    refine ⟨hD2, ?_⟩
    rw [e2]
    refine ⟨by rw [RpK.length l2]; exact hc, fun H3 b3 h3 => ?_⟩
    obtain ⟨r3, g3⟩ := r2.under (D := Da) (.inr rfl) h00 b3 hD2 h3 (fun _ z => by cases z) (fun _ z => by cases z)
    have see : LamX.ExtN (hid (Zo (F.blk Da) B ρ2) H2) (hid (Zo (F.blk Da) B ρ2) H3) := g3.sees (Z := fun b => (F.blk Da).Xs b ∨ Own B b) (fun c z => .inl (.inl (.inr z))) fun b h => .inl h
    have gg : Gr ρ NoZ H ρ2 H3 := (g1.tr g2).trans g3 fun c z => .inr (z ▸ Nw.of nD)
    have st3 : Sta F.K F.ca ρ2 (fun b => (F.Xs b ∨ Own B b) ∨ b = Da) H3 S2 := xs_blkE (F := F) (B := B) ▸ r3.sta
    refine (k : ∀ v H' ρ', _) (.ref Da) H3 ρ2 (r.step gg (st3.wk fun b h => .inl h)) gg ⟨Da, rfl, Nw.of nD, fun z => r3.sta.xr Da z (.inl (.inr rfl)), st3, mergeK [] kvs, h3, ?_⟩
    exact zo_blkE (F := F) ▸ RpK.merge (RpK.mono (fun _ _ e => e) see l2) .nil
/-! ### C(k = e, ..) -/
theorem pkd_nil : PK X [] (dA F O m nilM) := ⟨fun pos pins s σ H Q I ⟨B, ρ, δ, S, r, q⟩ => pk_nil.run pos pins s σ H Q I ((q : ∀ v H' ρ', _) [] H ρ r (Gr.refl _ _ _) RinL.nil)⟩
theorem pk_imp {kw : List Keyword} {t t' : TA} (h : PK X kw t) (w : ∀ σ H Q, t' σ H Q → t σ H Q) : PK X kw t' := ⟨fun pos pins s σ H Q I q => h.run pos pins s σ H Q I (w σ H Q q)⟩
theorem pkd_cons {nm : Option Str} {kpos : Pos} {kws : List Keyword} {t : DEnv → M D} {u : DEnv → M (List D)} (h : PED X F O m e t) (k : PK X kws (dA F O m u)) : PK X (⟨nm, e, kpos⟩ :: kws) (dA F O m (consM t u)) :=
  pk_imp (pk_cons h k) fun σ H Q ⟨B, ρ, δ, S, r, q⟩ => ⟨B, ρ, δ, S, r, q.bind.imp fun d S' q v H' ρ' r' g z => ⟨B, ρ', δ, S', r', q.bind.imp fun ds S2 k vs H2 ρ2 r2 g2 z2 => (k : ∀ v H' ρ', _) (v :: vs) H2 ρ2 r2 (g.tr g2) (RinL.cons ((Res.rin r z).gr g2) z2)⟩⟩
def newKD (idx : List Nat) (md : List D) (len n : Nat) (f : List D → M D) (t : DEnv → M (List D)) : DEnv → M D := fun δ => do
  let ds ← t δ
  if ds.length = len then (if (pick idx (md ++ ds)).length + 1 = n then f (pick idx (md ++ ds)) else M.stuck) else M.stuck
theorem RpL.pick {ca : Str → Option Addr} {ρ : List Addr} {G : Hp} {vs : List V} {ds : List D} (h : RpL K ca ρ G vs ds) : ∀ idx : List Nat, RpL K ca ρ G (Fg.pick idx vs) (Fg.pick idx ds)
  | [] => .nil
  | i :: idx => by
    unfold Fg.pick
    rw [List.filterMap_cons, List.filterMap_cons]
    cases e : ds[i]? with
    | none =>
      have : vs[i]? = none := by rw [List.getElem?_eq_none_iff] at e ⊢; rw [RpL.length h]; exact e
      rw [this]
      exact RpL.pick h idx
    | some d =>
      obtain ⟨v, hv, hr⟩ := RpL.get h e
      rw [hv]
      exact .cons hr (RpL.pick h idx)
theorem pick_succ {α : Type} (a : α) (l : List α) : ∀ idx : List Nat, pick (idx.map (· + 1)) (a :: l) = pick idx l
  | [] => rfl
  | i :: idx => by
    unfold pick
    rw [List.map_cons, List.filterMap_cons, List.filterMap_cons]
    have := pick_succ a l idx
    unfold pick at this
    rw [this]
    rfl
theorem pd_make {C : Addr} {cn qual : Str} {st : Stmt} {kws ms : List (Str × V)} {ks : List Str} {kwe : List Keyword} {f : List D → M D} {t : DEnv → M (List D)} (idx : List Nat) (md : List D) (hca : F.ca cn = some C) (c : KMaker X.prog X.w X.K X.mg X.base k x C qual st kws ps (spI F.K F.ca F.ce cn C n f)) (hmd : ms.map (·.2) = md.map scV) (hmds : md.all scalD = true)
    (hr : Room j X.A) (hj : k + 1 ≤ j) (hg : Gl X x) (tk : Takes X fun cls d _ H => F.W cls d H) (hkw : PK X kwe (dA F O .fz t)) (hk : kws ≠ []) (hms : ∀ q ∈ ms, q ∈ kws)
    (h : ∀ (D : Addr) (doc pm : Value) (an : Option Addr) (cdv ct : Value) (us mv ws : List Value), us.length = 1 → mv.length = ms.length → ws.length = ks.length →
      KwChain D ((ms.map (·.1)).zip mv) (bindArgs (PySem.W.fnOf "__init__" qual (defArgs st) (defBody st) (defScope st) .none (.ref D) doc pm an cdv ct) ⟨us, ks.zip ws⟩) (ps.zip (pick (0 :: idx.map (· + 1)) (us ++ (mv ++ ws)))))
    (hall : (backToKw pos (keywordEach kwe X.env)).all (·.1.isSome) = true := by rfl) (hks : (backToKw pos (keywordEach kwe X.env)).filterMap (·.1) = ks := by rfl) (hdb : (x == ("__debug__" : Str)) = false := by decide)
    (hpl : ((backTo pos (starEach [] X.env)).any (·.1) || (backToKw pos (keywordEach kwe X.env)).any (·.1.isNone)) = false := by rfl) : PED X F O .nw (.Call (.Name x p) [] kwe pos) (newKD idx md ks.length n f t) :=
  pe_imp (fc_make c hr hj hg tk hkw hk hms h hall hks hdb hpl) fun σ H Q ⟨B, ρ, δ, S, r, q⟩ => ⟨B, ρ, δ, S, r, q.bind.imp fun ds S' q vs H' ρ' r' g z => by
    obtain ⟨hl, q⟩ := q.ite
    rw [ite_at] at q
    refine ⟨by rw [RinL.len z, hl], fun p dx H3 np s hp => ?_⟩
    have l1 : RinL F .fz B ρ' H' (md.map scV ++ vs) (md ++ ds) := (rinL_scal hmds).append z
    have l2 : RinL F .fz B ρ' H' (pick idx (md.map scV ++ vs)) (pick idx (md ++ ds)) := RpL.pick l1 idx
    have e : pick (0 :: idx.map (· + 1)) ([V.ref p] ++ (ms.map (·.2) ++ vs)) = .ref p :: pick idx (md.map scV ++ vs) := by
      rw [hmd]
      exact congrArg (V.ref p :: ·) (pick_succ (V.ref p) (md.map scV ++ vs) idx)
    show spI _ _ _ _ _ _ _ (pick (0 :: idx.map (· + 1)) ([V.ref p] ++ (ms.map (·.2) ++ vs))) H3 _ _
    rw [e]
    exact spI_at hca r' l2 np s hp (q.imp fun d S2 k v H2 ρ2 r2 g2 z2 => k v H2 ρ2 r2 (g.tr g2) (Res.gr2 g z2))⟩
end
end Fg

set_option Elab.async false
set_option linter.all false
set_option maxRecDepth 100000
set_option maxHeartbeats 4000000
namespace Fg
open PySem PySem.Spec PyProof.Rows L2
variable [TQ]
/-! ### x(lambda: e): x calls it, and catches errors -/
/-- how it ends: given, or an error among hs (with the field that is read of it) -/
def endR (hs : List (Str × Str)) : Option (Except Ex D × Sto) → Option (Except Ex D × Sto)
  | some (.ok d, S) => some (.ok (.lst [.str "given", d]), S)
  | some (.error e, S) => match hs.lookup e.c, e.fs with
    | some f, [(g, d)] => if g = f then some (.ok (.lst [.str e.c, d, .bl true]), S) else none
    | _, _ => none
  | none => none
def endM (hs : List (Str × Str)) (O : List Nat) (t : DEnv → M D) : DEnv → M D := fun δ S => endR hs (t (wipeD δ O) S)
/-- how a call ends, as told to the def that catches -/
def TEndD (ce : Str → Option Addr) (hs : List (Str × Str)) : (XK → Hp → VK → Prop) → Hp → VK → Prop := fun tl H Q =>
  tl (fun cls d H' => ∃ c f C dd v, hs.lookup c = some f ∧ ce c = some C ∧ cls = .ref C ∧ d = some dd ∧ H' dd = some (.xd [(f, v)]) ∧ ∀ p H2, H' p = none → Same H' H2 → H2 p = some (.lst [.str c, v, .bl true]) → Q (.ref p) H2) H
    (fun v H1 => ([.str "given", v] : List V).length ≤ sizeLine ∧ ∀ p H2, H1 p = none → Same H1 H2 → H2 p = some (.lst [.str "given", v]) → Q (.ref p) H2)
section
variable {F : Fr} {O : List Nat} {B : Nat → Option Addr} {ρ ρ' : List Addr} {σ : L2.St} {H H' : Hp} {δ : DEnv} {S S' : Sto}
theorem Gr.lam {P : Addr} {q : Str} (hQ : ∀ P' q', TQ.q P' q' → P' = P ∧ q' = q) (e : LamX.ExtN H H') (t : LamX.TabS H' P q) : Gr ρ NoZ H ρ H' :=
  ⟨⟨[], by simp, fun b hb => (by cases hb)⟩, fun b o _ _ n h => e b o h n, fun b h n => h fun o eo => Classical.byContradiction fun z => by
    obtain ⟨ps, w⟩ := n o (e b o eo fun ps w => z ⟨ps, w⟩)
    exact z ⟨ps, w⟩, fun P' q' hq _ => by
    obtain ⟨rfl, rfl⟩ := hQ P' q' hq
    exact t⟩
theorem Sta.lam {Z : Addr → Prop} {K : PySem.W.Frag} {ca : Str → Option Addr} (s : Sta K ca ρ Z H S) (g : Gr ρ NoZ H ρ H') (e : LamX.ExtN H H') : Sta K ca ρ Z H' S :=
  ⟨fun b z => g.alive b (s.live b z), s.nd, s.xr, SrL.mono (fun _ _ e => e) (g.sees (fun _ z => z.elim) fun b h => .inl h) (fun _ _ o ht h => e _ o h ht) s.sto⟩
theorem wipeD_len (δ : DEnv) : ∀ vs, (wipeD δ vs).length = δ.length
  | [] => rfl
  | v :: vs => by show ((wipeD δ vs).set v none).length = _; rw [List.length_set, wipeD_len δ vs]
theorem wipeD_at {δ : DEnv} {i : Nat} {d : D} : ∀ {vs : List Nat}, (wipeD δ vs)[i]? = some (some d) → i ∉ vs ∧ δ[i]? = some (some d)
  | [], h => ⟨by simp, h⟩
  | v :: vs, h => by
    have h : ((wipeD δ vs).set v none)[i]? = some (some d) := h
    by_cases z : v = i
    · subst z
      rw [List.getElem?_set] at h
      simp at h
    · rw [List.getElem?_set_ne z] at h
      obtain ⟨h1, h2⟩ := wipeD_at h
      exact ⟨fun w => (List.mem_cons.mp w).elim (fun w => z w.symm) h1, h2⟩
theorem endR_err {hs : List (Str × Str)} {e : Ex} {P : D → Sto → Prop} (h : Ok1 F (endR hs (some (.error e, S))) P) : ∃ f d, hs.lookup e.c = some f ∧ e.fs = [(f, d)] ∧ P (.lst [.str e.c, d, .bl true]) S := by
  unfold endR at h
  dsimp only at h
  split at h
  · rename_i f g d hl hf
    split at h
    · rename_i hg
      subst hg
      exact ⟨_, d, hl, hf, h⟩
    · exact (show False from h).elim
  · exact (show False from h).elim
theorem endR_ok {hs : List (Str × Str)} {d : D} {P : D → Sto → Prop} (h : Ok1 F (endR hs (some (.ok d, S))) P) : P (.lst [.str "given", d]) S := h
/-- the frame of the lambda's body -/
def Fr.lam (F : Fr) (B : Nat → Option Addr) (ρ : List Addr) (H : Hp) (E : XK) : Fr := ⟨F.K, F.ca, F.ce, H, fun b => F.Xs b ∨ Own B b, ρ, E, none⟩
theorem xs_lam {F : Fr} {E : XK} : (fun b => (F.lam B ρ H E).Xs b ∨ Own (fun _ => none) b) = fun b => F.Xs b ∨ Own B b := funext fun b => propext ⟨fun h => h.elim id fun ⟨_, e⟩ => (by cases e), .inl⟩
theorem zo_lam {F : Fr} {E : XK} {ρ1 : List Addr} : Zo (F.lam B ρ H E) (fun _ => none) ρ1 = Zo F B ρ1 := funext fun b => propext ⟨fun h => h.elim (fun h => h.elim .inl fun ⟨_, e⟩ => (by cases e)) .inr, fun h => h.elim (fun h => .inl (.inl h)) .inr⟩
theorem Rel.lam (r : Rel F O B ρ σ H δ S) {E : XK} : Rel (F.lam B ρ H E) [] (fun _ => none) ρ σ H (wipeD δ O) S := by
  refine ⟨Gr.refl _ _ _, by rw [xs_lam]; exact r.sta, fun b ⟨_, e⟩ => (by cases e), fun b ⟨_, e⟩ => (by cases e), fun i j b e _ => (by cases e), fun i => ⟨fun ⟨_, e⟩ => (by cases e), fun e => (by cases e)⟩, fun i a e => (by cases e), fun p e => (by cases e), by rw [wipeD_len]; exact r.len, fun i d e => ?_⟩
  obtain ⟨h1, h2⟩ := wipeD_at e
  have q := r.slot i d h2
  unfold SlAt at q ⊢
  rw [r.notO h1] at q
  obtain ⟨v, e1, e2⟩ := q
  exact ⟨v, e1, by rw [zo_lam]; exact e2⟩
end
section
variable {X : Cx} {F : Fr} {O O' O1 O2 OL : List Nat} {m mi : Md} {pos pos' : Pos} {i j k kk : Nat}
theorem pe_exF {e : Expr} {α : Type} {Pr : α → Prop} {t : α → TE} (h : ∀ a, Pr a → PE X e (t a)) : PE X e (fun σ H Q => ∃ a, Pr a ∧ t a σ H Q) := ⟨fun pins s σ H Q I ⟨a, p, q⟩ => (h a p).run pins s σ H Q I q⟩
/-- the body's reading, for any frame -/
def tBody (K : PySem.W.Frag) (ca ce : Str → Option Addr) (tb : DEnv → M D) (E : XK) : TE := fun σ H Q => ∃ F1 : Fr, (∃ H0 Xs R0, F1 = ⟨K, ca, ce, H0, Xs, R0, E, none⟩) ∧ dE F1 [] .tr tb σ H Q
theorem pd_lam {hs : List (Str × Str)} {x a : Str} {st : Stmt} {c Pt : Addr} {Ng : List Str} {params : Arguments} {body : Expr} {scope : Scope} {ca ce : Str → Option Addr} {tb : DEnv → M D} {p lpos pos : Pos} {qn : Str} (hqn : qn = X.env.qual ++ "<lambda>")
    (hK : F.K = X.K) (hca : F.ca = ca) (hce : F.ce = ce) (hQ : ∀ P' q', TQ.q P' q' ↔ P' = Pt ∧ q' = qn) (h0 : LamX.TabS F.H0 Pt qn)
    (FA : FunAt X.K X.mg x st) (Sg : FnScope Ng [a] (defScope st)) (hNg : Ng[0]? = some a)
    (hb : ∀ (kV doc pm : Value) (an : Option Addr) (cdv ct : Value) (us : List Value), us.length = ([a] : List Str).length → bindArgs (PySem.W.fnOf x x (defArgs st) (defBody st) (defScope st) .none kV doc pm an cdv ct) ⟨us, []⟩ = pure (([a] : List Str).zip us))
    (hG : ∀ g cdv, LamX.GivesTo X Ng x (defScope st) g cdv (defBody st) a (X.env.qual ++ "<lambda>") (TEndD ce hs)) (TB : LamX.TabB X.base X.mg c Pt) (hcode : X.env.code = .ref c)
    (hr : Room j X.A) (hj : k + 2 ≤ j) (hg : Gl X x) (L : LamX.LamS X.env.scope scope) (hva : Vis (defScope st) a) (hdef : defaultsOf params X.env = ([], []))
    (hbind : ∀ (q : Str) (cl : List (Str × Addr)) (pm cv ctv : Value), bindArgs (PySem.W.kla_fn "<lambda>" q params body scope cl pm cv ctv) ⟨[], []⟩ = pure [])
    (hbody : ∀ (A : Around) (outer : List Env) (s : Shared) (H : Hp) (E : XK) (f c' : Addr) (H0 : Hp) (Xs : Addr → Prop) (R0 : List Addr), Room k (LamX.lamCx X A outer s H E scope f c').A → Takes (LamX.lamCx X A outer s H E scope f c') (fun cls d _ H => E cls d H) →
      PED (LamX.lamCx X A outer s H E scope f c') ⟨X.K, ca, ce, H0, Xs, R0, E, none⟩ [] .tr body tb)
    (hdb : (x == ("__debug__" : Str)) = false := by decide) (hd : (a == ("__debug__" : Str)) = false := by decide) (hcd : (a == ("__classdict__" : Str)) = false := by decide) :
    PED X F O .fz (.Call (.Name x p) [.Lambda params body scope lpos] [] pos) (endM hs O tb) := by
  subst hqn hca hce
  obtain ⟨f0, fd, Fu, hm⟩ := FA.ex
  have hbd := Fu.binds hb
  obtain ⟨oc, od, kV, doc, pm, an, cdv, ct, osl, rfl, lk, hcode2⟩ := Fu.ex
  refine pe_imp (LamX.pe_lamcall (T := [(Pt, X.env.qual ++ "<lambda>")]) (k := k) (t := tBody X.K F.ca F.ce tb) hg hm Fu.kp lk hcode2 hbd Sg hNg hva (hG f0 cdv) TB hcode (List.mem_singleton.mpr rfl) (fun q hq _ => by rw [List.mem_singleton.mp hq]) (hr.mono hj) L hdef hbind
    (fun A outer s H E f' c' r => ⟨fun pins s' σ H' Q I ⟨F1, ⟨H0, Xs, R0, e⟩, q⟩ => by subst e; exact (hbody A outer s H E f' c' H0 Xs R0 r (takes_of rfl rfl rfl rfl)).run pins s' σ H' Q I q⟩) hdb hd hcd) fun σ H Q ⟨B, ρ, δ, S, r, q⟩ => ?_
  have hQ1 : ∀ P' q', TQ.q P' q' → P' = Pt ∧ q' = X.env.qual ++ "<lambda>" := fun P' q' h => (hQ P' q').mp h
  have t0 : LamX.TabS H Pt (X.env.qual ++ "<lambda>") := r.gr.tabs _ _ ((hQ _ _).mpr ⟨rfl, rfl⟩) h0
  refine ⟨fun p hp => by rw [List.mem_singleton.mp hp]; exact t0, fun H1 e1 T1 => ?_⟩
  have g1 : Gr ρ NoZ H ρ H1 := Gr.lam hQ1 e1 (T1 _ (List.mem_singleton.mpr rfl))
  have r1 := r.step g1 (r.sta.lam g1 e1)
  refine ⟨F.lam B ρ H1 _, ⟨_, _, _, by unfold Fr.lam; rw [hK]⟩, fun _ => none, ρ, wipeD δ O, S, r1.lam, ?_⟩
  have q : Ok1 F (endR hs (tb (wipeD δ O) S)) _ := q
  cases et : tb (wipeD δ O) S with
  | none => rw [et] at q; exact q
  | some pr =>
    rw [et] at q
    obtain ⟨res, S'⟩ := pr
    cases res with
    | error e =>
      intro cls dd H2 ρ2 en er
      obtain ⟨C, x0, vs, e1, e2, e3, e4, e5⟩ := er
      obtain ⟨f, d, hl, hf, q⟩ := endR_err q
      rw [hf] at e5
      cases e5 with
      | cons hv tl =>
        cases tl
        refine ⟨e.c, _, C, x0, _, hl, e2, e1, e3, e4, fun p H3 np s3 h3 => ?_⟩
        have st2 : Sta F.K F.ca ρ2 (fun b => F.Xs b ∨ Own B b) H2 S' := en.sta
        have r2 := r1.step en.gr st2
        exact (q : ∀ v H' ρ', _) _ H3 ρ2 (r2.same s3) ((g1.tr en.gr).tr (Gr.same s3)) (lst_new (m := .fz) r2 np s3 h3 (by decide) (.cons (v := V.str e.c) (d := .str e.c) Rp.str (.cons hv (.cons (v := V.bl true) (d := .bl true) Rp.bl RinL.nil))))
    | ok d =>
      have q := endR_ok q
      intro v H2 ρ2 r2 g2 z2
      refine ⟨by show 2 ≤ sizeLine; decide, fun p H3 np s3 h3 => ?_⟩
      have st2 : Sta F.K F.ca ρ2 (fun b => F.Xs b ∨ Own B b) H2 S' := xs_lam (F := F) (B := B) (ρ := ρ) (H := H1) ▸ r2.sta
      have r2 := r1.step g2 st2
      exact (q : ∀ v H' ρ', _) _ H3 ρ2 (r2.same s3) ((g1.tr g2).tr (Gr.same s3)) (lst_new (m := .fz) r2 np s3 h3 (by decide) (.cons (v := V.str "given") (d := .str "given") Rp.str (.cons z2 RinL.nil)))
end
end Fg

set_option Elab.async false
set_option linter.all false
set_option maxRecDepth 100000
set_option maxHeartbeats 4000000
namespace Fg
open PySem PySem.Spec PyProof.Rows L2
variable [TQ]
/-! ### len(x) by an own __len__ -/
section
variable {prog : Program} {w : World} {A : Around} {E : Value → Shared → Prop} {s : Shared} {K : PySem.W.Frag} {x C f : Addr} {ox : Obj} {od : Option Obj} {Q : Value → Shared → Prop}
theorem len_own (X : K.In s.heap) (I : PySem.W.InstAt s.heap x ox C od) (hs : PySem.W.findIn K (.ref C) "__len__" = some (some (.ref f))) (hf : PySem.W.typeIn K (.ref f) = some (.type "function"))
    (h : wpAny (model prog w) A.in1 (call (.ref f) [.ref x]) (fun v s' => ∃ n t, v = .int n t ∧ 0 ≤ n ∧ n < 2 ^ 63 ∧ Q (.int n s'.toks) { s' with toks := s'.toks + 1 }) E s) : wpAny (model prog w) A (call (.builtin "len") [.ref x]) Q E s :=
  Calls.call_function_entry kind_len plain_len entry_len (args_len1 _) (by
    unfold Builtin.«len»
    refine wpAny_bind (m := oneArg "len" _) (wpAny_pure ?_)
    refine wpAny_bind (m := callSpecial? (.ref x) (Str.ofString "__len__")) (PySem.W.special_fn X I hs hf (wpAny_mono h (fun v s' hv => ?_) fun _ _ e => e))
    obtain ⟨n, t, rfl, h0, h1, q⟩ := hv
    refine wpAny_bind (wpAny_holding (wpAny_pure ?_))
    refine wpAny_bind (wpAny_letGo ?_)
    show wpAny _ _ (if n < 0 then _ else _) _ _ _
    rw [if_neg (by omega)]
    show wpAny _ _ (if n ≥ 2 ^ 63 then _ else _) _ _ _
    rw [if_neg (by omega)]
    exact wpAny_bind (wpAny_mkInt (wpAny_pure ⟨_, rfl, q⟩)))
end
section
variable {X : Cx} {C : Addr} {sp : Sp} {ps : List Str} {n k : Nat}
def fLenO (C : Addr) (sp : Sp) : List V → Hp → VK → Prop := fun xs H Q => match xs with
  | [.ref a] => (∃ dx fs, H a = some (.ins C dx fs)) ∧ sp [.ref a] H (fun v H' => match v with | .int z => 0 ≤ z ∧ z < 2 ^ 63 ∧ Q (.int z) H' | _ => False) noE
  | _ => False
theorem f_lenO (c : MCallee X.prog X.w X.K X.mg X.base k C "__len__" ps sp) (hr : Room n X.A) (hk : k + 1 ≤ n) : CallR X (.builtin "len") (fLenO C sp) := by
  obtain ⟨g, fd, F, cl, hm, hb⟩ := c.ex
  intro pins s σ H xs us Q I r hq
  unfold fLenO at hq
  split at hq
  · rename_i a
    obtain ⟨⟨dx, fs, ha⟩, q⟩ := hq
    rw [Vals.ref1 r]
    obtain ⟨mA, J, _⟩ := ins_get I.hok ha
    obtain ⟨od, J, _⟩ := J.look
    have r1 := hr.mono hk
    refine len_own I.kIn J hm.at_ (beq_iff_eq.mp hm.fn) ?_
    refine wpAny_mono (run_in (us := [.ref a]) F r1.in1 rfl hb I (.cons (show RelV (.ref a) (.ref a) from rfl) .nil) q) (fun r s' z => ?_) fun _ _ e => e
    obtain ⟨v, H', I', rz, q'⟩ := z
    split at q'
    · rename_i z
      obtain ⟨t, rfl⟩ := rz
      exact ⟨z, t, rfl, q'.1, q'.2.1, .int z, H', I'.kept fun _ _ e => e, ⟨_, rfl⟩, q'.2.2⟩
    · exact q'.elim
  · exact hq.elim
end
def lenOD (c : Str) (f : List D → M D) (x : D) : M D := do
  let fs ← asO c x
  let r ← noErr (f [.obj c fs])
  match r with
  | .int n => if 0 ≤ n ∧ n < 2 ^ 63 then pure (.int n) else M.stuck
  | _ => M.stuck
section
variable {F : Fr} {O : List Nat} {B : Nat → Option Addr} {ρ : List Addr} {σ : L2.St} {H H' H1 : Hp} {δ : DEnv} {S S' S1 : Sto} {n : Nat}
theorem spD_noE {f : List D → M D} {vs : List V} {ds : List D} {Q : VK} {E : XK} (r : Rel F O B ρ σ H1 δ S1) (z : RinL F .fz B ρ H1 vs ds) (hl : ds.length = n)
    (q : Ok1 F (noErr (f ds) S1) fun d S' => ∀ v H' ρ', Rel F O B ρ' σ H' δ S' → Gr ρ NoZ H1 ρ' H' → Res F .fz B ρ' H1 H' S' v d → Q v H') : spD F.K F.ca F.ce n f vs H1 Q E :=
  ⟨fun b => F.Xs b ∨ Own B b, ρ, ds, S1, hl, r.sta, z, (q.noErr (F' := ⟨F.K, F.ca, F.ce, H1, fun b => F.Xs b ∨ Own B b, ρ, E, none⟩)).imp fun d S' k v H' ρ' en hr => k v H' ρ' (r.step en.gr en.sta) en.gr hr⟩
end
section
variable {X : Cx} {F : Fr} {O O' O1 O2 OL : List Nat} {m mi : Md} {pos pos' p : Pos} {i j k kk : Nat} {a b e : Expr} {ps psA psR : List Str}
theorem pd_lenO {C : Addr} {c : Str} {f : List D → M D} {t : DEnv → M D} (hca : F.ca c = some C) (cc : MCallee X.prog X.w X.K X.mg X.base k C "__len__" ps (spD F.K F.ca F.ce 1 f)) (hr : Room j X.A) (hk : k + 1 ≤ j) (h : PED X F O .fz e t) (hgl : Gl X "len") (hm : X.mg "len" = none) (h2 : m ≠ .nw := by decide)
    (hs : starEach [e] X.env = (false, eval e X.env) :: starEach [] X.env := by rfl) (hpl : (backTo pos (starEach [] X.env)).any (·.1) = false := by rfl) :
    PED X F O m (.Call (.Name "len" p) [e] [] pos) (fun δ => do let d ← t δ; lenOD c f d) :=
  pe_imp (pe_callB (f_lenO cc hr hk) hgl hm (by decide +kernel) (pa_cons h pa_nil hs) (by decide) (by decide) hs hpl) fun σ H Q ⟨B, ρ, δ, S, r, q⟩ => ⟨B, ρ, δ, S, r, q.bind.imp fun d S' q v H' ρ' r' g z => by
    have z : Rin F .fz B ρ' H' v d := z
    unfold lenOD at q
    obtain ⟨fs, ed, q2⟩ := q.bind.asO
    clear q
    subst ed
    obtain ⟨a, C', dx, vs, e0, e1, h1, h3⟩ := z.obj
    subst e0
    cases hca.symm.trans e1
    show fLenO C _ [.ref a] H' Q
    refine ⟨⟨dx, vs, h1⟩, spD_noE r' (RinL.cons z RinL.nil) rfl (q2.bind.imp fun d2 S2 q v2 H2 ρ2 r2 g2 z2 => ?_)⟩
    cases d2 <;> first | exact (show False from q).elim | skip
    obtain ⟨hc, q⟩ := Ok1.ite q
    cases (show Rin F .fz B ρ2 H2 v2 (.int _) from z2).int
    exact ⟨hc.1, hc.2, (q : ∀ v H' ρ', _) _ H2 ρ2 r2 (g.tr g2) (scV_res (d := .int _) rfl h2)⟩⟩
/-! ### a + b with an own class on one side -/
def isO (c : Str) : D → Bool
  | .obj c' _ => decide (c' = c)
  | _ => false
def isMt : D → Bool
  | .mt _ => true
  | _ => false
def isSO : D → Bool
  | .obj _ _ => true
  | .str _ => true
  | _ => false
def addOD (c : Str) (fA fR : List D → M D) (x y : D) : M D :=
  if isO c x = true ∧ isMt y = false then fA [x, y] else if isO c x = false ∧ isO c y = true ∧ isSO x = true then fR [y, x] else M.stuck
theorem isO_obj {c : Str} {d : D} (h : isO c d = true) : ∃ fs, d = .obj c fs := by
  cases d <;> first | exact absurd h Bool.false_ne_true | skip
  rename_i c' fs
  exact ⟨fs, by rw [show c' = c from of_decide_eq_true h]⟩
theorem o_addO {C : Addr} {c : Str} {fA fR : List D → M D} (cf : ClF F.K F.ca) (hca : F.ca c = some C) (hn : ∀ c' D, F.ca c' = some D → c' ≠ c → D ≠ C ∧ NoAdd F.K D) :
    OpD F .fz .fz (AddTo F.K C (spD F.K F.ca F.ce 2 fA) (spD F.K F.ca F.ce 2 fR) F.W) (addOD c fA fR) := by
  intro O B ρ σ δ H S x y d e Q r hx hy q
  unfold addOD at q
  split at q
  · rename_i hc
    obtain ⟨fs, ed⟩ := isO_obj hc.1
    subst ed
    have hx0 := hx
    obtain ⟨a, C', dx, vs, e0, e1, h1, h3⟩ := hx.obj
    subst e0
    cases hca.symm.trans e1
    have ty : ∃ t, TyX F.K H y t ∧ SideT F.K C t := by
      cases e with
      | obj c' fs' =>
        obtain ⟨a', D', dx', vs', e0', e1', h1', h3'⟩ := hy.obj
        refine ⟨.ref D', tyX_of cf hy (by show Option.map Value.ref (F.ca _) = _; rw [e1']; rfl), ?_⟩
        by_cases z : c' = c
        · subst z; rw [hca] at e1'; cases e1'; exact .inl rfl
        · exact .inr (.inl ⟨D', rfl, hn c' D' e1' z⟩)
      | mt k => exact Bool.noConfusion (show true = false from hc.2)
      | non => exact ⟨_, tyX_of cf hy rfl, .inr (.inr ⟨_, rfl, by decide⟩)⟩
      | bl _ => exact ⟨_, tyX_of cf hy rfl, .inr (.inr ⟨_, rfl, by decide⟩)⟩
      | int _ => exact ⟨_, tyX_of cf hy rfl, .inr (.inr ⟨_, rfl, by decide⟩)⟩
      | str _ => exact ⟨_, tyX_of cf hy rfl, .inr (.inr ⟨_, rfl, by decide⟩)⟩
      | tup _ => exact ⟨_, tyX_of cf hy rfl, .inr (.inr ⟨_, rfl, by decide⟩)⟩
      | lst _ => exact ⟨_, tyX_of cf hy rfl, .inr (.inr ⟨_, rfl, by decide⟩)⟩
      | dct _ => exact ⟨_, tyX_of cf hy rfl, .inr (.inr ⟨_, rfl, by decide⟩)⟩
    exact .inl ⟨a, dx, vs, rfl, h1, ty, spD_at r (RinL.cons hx0 (RinL.cons hy RinL.nil)) (by rw [if_pos (show [_, _].length = 2 from rfl)]; exact q)⟩
  · split at q
    · rename_i _ hc
      obtain ⟨hc1, hc2, hc3⟩ := hc
      obtain ⟨fs, ed⟩ := isO_obj hc2
      subst ed
      have hy0 := hy
      obtain ⟨a, C', dx, vs, e0, e1, h1, h3⟩ := hy.obj
      subst e0
      cases hca.symm.trans e1
      have ty : ∃ t, TyX F.K H x t ∧ LeftT F.K C t := by
        cases d with
        | obj c' fs' =>
          obtain ⟨a', D', dx', vs', e0', e1', h1', h3'⟩ := hx.obj
          refine ⟨.ref D', tyX_of cf hx (by show Option.map Value.ref (F.ca _) = _; rw [e1']; rfl), .inl ⟨D', rfl, hn c' D' e1' fun z => ?_⟩⟩
          rw [show isO c (.obj c' fs') = true from decide_eq_true z] at hc1
          cases hc1
        | str _ => exact ⟨_, tyX_of cf hx rfl, .inr rfl⟩
        | _ => exact Bool.noConfusion (show false = true from hc3)
      exact .inr ⟨a, dx, vs, rfl, h1, ty, spD_at r (RinL.cons hy0 (RinL.cons hx RinL.nil)) (by rw [if_pos (show [_, _].length = 2 from rfl)]; exact q)⟩
    · exact (show False from q).elim
theorem pd_addO {C : Addr} {c : Str} {fA fR : List D → M D} {ta tb : DEnv → M D} (hK : F.K = X.K) (cf : ClF F.K F.ca) (hca : F.ca c = some C) (hn : ∀ c' D, F.ca c' = some D → c' ≠ c → D ≠ C ∧ NoAdd F.K D) (cA : MCallee X.prog X.w X.K X.mg X.base k C "__add__" psA (spD F.K F.ca F.ce 2 fA))
    (cR : MCallee X.prog X.w X.K X.mg X.base k C "__radd__" psR (spD F.K F.ca F.ce 2 fR)) (fi : PySem.W.selfFirst X.K C = true) (hr : Room j X.A) (hk : k ≤ j) (tk : Takes X fun cls d _ H => F.W cls d H) (ha : PED X F O .fz a ta) (hb : PED X F O .fz b tb) : PED X F O .fz (.BinOp a .Add b pos) (binM (addOD c fA fR) ta tb) :=
  pe_imp (pe_addO cA cR fi hr hk tk ha hb) fun σ H Q q => by
    have z := bin_imp (o_addO (fA := fA) (fR := fR) cf hca hn) (by decide) q
    unfold tOp at z
    rw [← hK]
    exact z
end
/-! ### a def with a lambda in it -/
section
variable {P : Program} {w : World} {K : PySem.W.Frag} {mg : Str → Option Value} {base : Heap} {ca ce : Str → Option Addr}
/-- the promise of a def with a lambda in it: its table is known -/
def spT (K : PySem.W.Frag) (ca ce : Str → Option Addr) (Pt : Addr) (qn : Str) (m : Nat) (f : List D → M D) : Sp := fun vs H Q E => LamX.TabS H Pt qn ∧ spD K ca ce m f vs H Q E
theorem calleeT_of {x : Str} {st : Stmt} {N ps : List Str} {k n m : Nat} {c Pt : Addr} {qn : Str} {b : DEnv → M (DEnv × Fl)} (F : FunC K mg x st c) (S : FnScope N ps (defScope st)) (hn : N.length = n := by rfl) (hm : ps.length = m := by rfl)
    (hb : ∀ (kV doc pm : Value) (an : Option Addr) (cdv ct : Value) (us : List Value), us.length = ps.length → bindArgs (PySem.W.fnOf x x (defArgs st) (defBody st) (defScope st) .none kV doc pm an cdv ct) ⟨us, []⟩ = pure (ps.zip us))
    (hbody : ∀ (f : Addr) (A : Around) (outer : List Env) (s : Shared) (H : Hp) (Xs : Addr → Prop) (ρ : List Addr) (E : XK), LamX.TabS H Pt qn → Room k (cxOf (L2.CX P w) P w K mg base N x (defScope st) f (.ref c) A outer s H E).A →
      Takes (cxOf (L2.CX P w) P w K mg base N x (defScope st) f (.ref c) A outer s H E) (fun cls d _ H => E cls d H) →
      PassesOwn (model P w) (cxOf (L2.CX P w) P w K mg base N x (defScope st) f (.ref c) A outer s H E).A (cxOf (L2.CX P w) P w K mg base N x (defScope st) f (.ref c) A outer s H E).env (cxOf (L2.CX P w) P w K mg base N x (defScope st) f (.ref c) A outer s H E).xe →
      PSsD (cxOf (L2.CX P w) P w K mg base N x (defScope st) f (.ref c) A outer s H E) ⟨K, ca, ce, H, Xs, ρ, E, none⟩ [] [] [] (defBody st) b) :
    Callee P w K mg base (k + 1) x ps (spT K ca ce Pt qn m (runD n b)) := by
  obtain ⟨f, oc, od, kV, doc, pm, an, ct, osl, lk, hcd, kp, hm2⟩ := F.ex
  have F' : Fun K x x st f (PySem.W.fnOf x x (defArgs st) (defBody st) (defScope st) .none kV doc pm an (.ref c) ct) := fun_mk lk hcd kp
  refine ⟨f, _, fn_of lk hcd S (fun vs H Q E h => by rw [spD_len h.2, hm]) fun A outer s H vs Q E hr h => ?_, hm2, kp, F'.binds hb⟩
  obtain ⟨t0, Xs, ρ, ds, S0, hl, st0, p, q⟩ := h
  exact ⟨_, hbody f A outer s H Xs ρ E t0 hr (takes_of rfl rfl rfl rfl) (passes_of rfl), body_of (F := ⟨K, ca, ce, H, Xs, ρ, E, none⟩) hn st0 p q fun _ _ h => h⟩
end
/-! ### a field of the def's own instance -/
section
variable {X : Cx} {F : Fr} {O : List Nat} {pos : Pos}
theorem pd_fldO {C : Addr} {c f x : Str} {npos : Pos} (i : Nat) (hca : F.ca c = some C) (cl : Cls X.K C) (nf : NoAttr X.K C f) (ho : i ∈ O := by decide) (hN : X.N[i]? = some x := by rfl) (hv : Vis X.env.scope x := by first | exact Or.inl rfl | exact Or.inr (Or.inl rfl) | exact Or.inr (Or.inr rfl)) (hd : (x == ("__debug__" : Str)) = false := by decide)
    (hcd : (x == ("__classdict__" : Str)) = false := by decide) (hb : attributeBase (.Name x npos) f X.env (eval (.Name x npos) X.env) = eval (.Name x npos) X.env := by rfl) : PED X F O .fz (.Attribute (.Name x npos) f pos) (fun δ => do let x ← rd i δ; fldD c f x) :=
  pe_imp (fe_fld cl nf (fv i hN hv hd hcd) hb) fun σ H Q ⟨B, ρ, δ, S, r, q⟩ => by
    obtain ⟨x0, ex, q⟩ := q.bind.opt
    have e0 := rd_get ex
    obtain ⟨a, eb⟩ := (r.own i).mpr ho
    have s0 := r.slot i _ e0
    unfold SlAt at s0
    rw [eb] at s0
    obtain ⟨h1, t0⟩ := s0
    unfold tFldF tV
    rw [h1]
    cases x0 <;> first | exact (show False from q).elim | skip
    obtain ⟨ec, q2⟩ := Ok1.ite q
    clear q
    subst ec
    obtain ⟨y, ey, q⟩ := q2.opt
    obtain ⟨C', dx, vs, e1, h2, h3⟩ := t0
    cases hca.symm.trans e1
    have h3 : RinF F .fz B ρ H vs _ := h3
    obtain ⟨w, ew, hw⟩ := RinF.get h3 ey
    exact ⟨dx, vs, w, h2, ew, q w H ρ r (Gr.refl _ _ _) hw⟩
end
end Fg

set_option Elab.async false
set_option linter.all false
set_option maxRecDepth 100000
set_option maxHeartbeats 4000000
namespace Fg
open PySem PySem.Spec PyProof.Rows L2
/-! ### runs on data, told by what comes of them (no program in sight) -/
def W {α : Type} (m : M α) (S : Sto) (P : α → Sto → Prop) : Prop := ∃ a S', m S = some (.ok a, S') ∧ P a S'
section
variable {α β : Type} {m : M α} {f : α → M β} {S : Sto} {P Q : α → Sto → Prop} {R : β → Sto → Prop}
theorem W.bind (h : W m S fun a S' => W (f a) S' R) : W (m >>= f) S R := by
  obtain ⟨a, S', e, b, S2, e2, p⟩ := h
  exact ⟨b, S2, by rw [M.bind_ok e]; exact e2, p⟩
theorem W.pure {a : α} (h : P a S) : W (pure a : M α) S P := ⟨a, S, rfl, h⟩
theorem W.imp (h : W m S P) (k : ∀ a S', P a S' → Q a S') : W m S Q := by
  obtain ⟨a, S', e, p⟩ := h
  exact ⟨a, S', e, k _ _ p⟩
theorem W.eq {a : α} {S' : Sto} (e : m S = some (.ok a, S')) (h : P a S') : W m S P := ⟨a, S', e, h⟩
theorem W.ite {c : Prop} [Decidable c] {x y : M α} (hc : c) (h : W x S P) : W (if c then x else y) S P := by rw [if_pos hc]; exact h
theorem W.opt {o : Option α} {a : α} (e : o = some a) (h : P a S) : W (M.opt o) S P := by subst e; exact ⟨a, S, rfl, h⟩
end
section
variable {S : Sto} {δ : DEnv} {P : D → Sto → Prop} {PL : List D → Sto → Prop} {PB : Bool → Sto → Prop} {PS : DEnv × Fl → Sto → Prop} {PE : DEnv → Sto → Prop} {t u ta tb : DEnv → M D} {tl ul : DEnv → M (List D)} {tt : DEnv → M Bool} {b c : DEnv → M (DEnv × Fl)} {i j n : Nat} {ds : List D} {d : D}
theorem W.run (h : W (b (startD n ds)) S fun p S' => match p.2 with | .rt d => P d S' | .nx => P .non S' | _ => False) : W (runD n b ds) S P := by
  unfold runD
  refine W.bind (h.imp fun p S' q => ?_)
  obtain ⟨δ', fl⟩ := p
  cases fl with
  | rt d => exact W.pure q
  | nx => exact W.pure q
  | bk => exact q.elim
  | ct => exact q.elim
theorem W.seq (h : W (b δ) S fun p S' => match p.2 with | .nx => W (c p.1) S' PS | _ => PS p S') : W (seqS b c δ) S PS := by
  unfold seqS
  refine W.bind (h.imp fun p S' q => ?_)
  obtain ⟨δ', fl⟩ := p
  cases fl with
  | rt d => exact W.pure q
  | nx => exact q
  | bk => exact W.pure q
  | ct => exact W.pure q
theorem W.set (h : W (t δ) S fun d S' => PS (δ.set i (some d), .nx) S') : W (setS i t δ) S PS := W.bind (h.imp fun _ _ q => W.pure q)
theorem W.ret (h : W (t δ) S fun d S' => PS (δ, .rt d) S') : W (retS t δ) S PS := W.bind (h.imp fun _ _ q => W.pure q)
theorem W.ifs (h : W (tt δ) S fun x S' => if x = true then W (b δ) S' PS else W (c δ) S' PS) : W (ifS tt b c δ) S PS := W.bind (h.imp fun x S' q => by split <;> rename_i e <;> simpa [e] using q)
theorem W.ife (h : W (tt δ) S fun x S' => if x = true then W (t δ) S' P else W (u δ) S' P) : W (ifE tt t u δ) S P := W.bind (h.imp fun x S' q => by split <;> rename_i e <;> simpa [e] using q)
theorem W.skip (h : PS (δ, .nx) S) : W (skipS δ) S PS := W.pure h
theorem W.rdd (e : δ[i]?.join = some d) (h : P d S) : W (rd i δ) S P := W.opt e h
theorem W.cst (h : P d S) : W (cM d δ) S P := W.pure h
theorem W.bin {f : D → D → M D} (h : W (ta δ) S fun x S1 => W (tb δ) S1 fun y S2 => W (f x y) S2 P) : W (binM f ta tb δ) S P := W.bind (h.imp fun _ _ q => W.bind q)
theorem W.one {α : Type} {Pa : α → Sto → Prop} {g : D → M α} (h : W (t δ) S fun x S1 => W (g x) S1 Pa) : W (oneM g t δ) S Pa := W.bind h
theorem W.callm {α : Type} {Pa : α → Sto → Prop} {g : List D → M α} (h : W (tl δ) S fun x S1 => W (g x) S1 Pa) : W (callM g tl δ) S Pa := W.bind h
theorem W.call {f : List D → M D} (h : W (tl δ) S fun x S1 => x.length = n ∧ W (f x) S1 P) : W (callD n f tl δ) S P := W.bind (h.imp fun _ _ q => W.ite q.1 q.2)
theorem W.cons (h : W (t δ) S fun x S1 => W (tl δ) S1 fun r S2 => PL (x :: r) S2) : W (consM t tl δ) S PL := W.bind (h.imp fun _ _ q => W.bind (q.imp fun _ _ q => W.pure q))
theorem W.nil (h : PL [] S) : W (nilM δ) S PL := W.pure h
theorem W.cap (hl : ds.length ≤ sizeLine) {Pu : Unit → Sto → Prop} (h : Pu () S) : W (capL ds) S Pu := by unfold capL; exact W.ite hl (W.pure h)
theorem W.lst (h : W (tl δ) S fun x S1 => x.length ≤ sizeLine ∧ P (.lst x) S1) : W (lstM tl δ) S P := W.bind (h.imp fun _ _ q => W.bind (W.cap q.1 (W.pure q.2)))
theorem W.tup (h : W (tl δ) S fun x S1 => x.length ≤ sizeLine ∧ P (.tup x) S1) : W (tupM tl δ) S P := W.bind (h.imp fun _ _ q => W.bind (W.cap q.1 (W.pure q.2)))
theorem W.tv (h : W (t δ) S fun x S1 => W (tbD x) S1 PB) : W (tvM t δ) S PB := W.bind h
theorem W.asg {g : D → DEnv → M DEnv} (h : W (t δ) S fun x S1 => W (g x δ) S1 fun δ' S2 => PS (δ', .nx) S2) : W (asgS t g δ) S PS := W.bind (h.imp fun _ _ q => W.bind (q.imp fun _ _ q => W.pure q))
theorem W.ndd {m k : Nat} {dd : List D} {f : List D → M D} (h : W (tl δ) S fun x S1 => x.length = m ∧ (x ++ dd.drop i).length + 1 = n ∧ W (f (x ++ dd.drop i)) S1 P) : W (newDD m i dd n f tl δ) S P := W.bind (h.imp fun _ _ q => W.ite q.1 (W.ite q.2.1 q.2.2))
theorem W.nkd {idx : List Nat} {md : List D} {l : Nat} {f : List D → M D} (h : W (tl δ) S fun x S1 => x.length = l ∧ (pick idx (md ++ x)).length + 1 = n ∧ W (f (pick idx (md ++ x))) S1 P) : W (newKD idx md l n f tl δ) S P := W.bind (h.imp fun _ _ q => W.ite q.1 (W.ite q.2.1 q.2.2))
theorem W.tgd {k : DEnv → M D} {v : D} {kvs : List (Key × D)} (e : δ[i]?.join = some (.dct kvs)) (h : W (k δ) S fun y S' => W (keyD y) S' fun key S2 => kvs.length < sizeLine ∧ PE (δ.set i (some (.dct (putKD kvs key v)))) S2) : W (tgD i k v δ) S PE := by
  unfold tgD
  refine W.bind (W.rdd e (W.bind (W.pure (W.bind (h.imp fun y S' q => W.bind (q.imp fun key S2 q => W.ite q.1 (W.pure q.2)))))))
theorem W.mput {k : Nat} (ht : W (t δ) S fun v S1 => δ[i]?.join = some (.mt k) ∧ W (u δ) S1 fun y S2 => ∃ n j ds, y = .int n ∧ S2[k]? = some (.lst ds) ∧ ixN ds.length n = some j ∧ PS (δ, .nx) (S2.set k (.lst (ds.set j v)))) : W (mputS i u t δ) S PS := by
  unfold mputS
  refine W.bind (ht.imp fun v S1 ⟨e1, q⟩ => W.bind (W.rdd e1 (W.bind (q.imp fun y S2 ⟨n, j, ds, ey, e2, e3, q⟩ => ?_))))
  subst ey
  refine W.bind (W.eq (a := ds) (S' := S2) (by show (match S2[k]? with | some (.lst ds) => some (Except.ok ds, S2) | _ => none) = _; rw [e2]) ?_)
  exact W.bind (W.opt e3 (W.bind (W.eq rfl (W.pure q))))
theorem W.ixm {k : Nat} {ds : List D} {z : Int} (e : S[k]? = some (.lst ds)) (ea : atI ds z = some d) (h : P d S) : W (ixMD (.mt k) (.int z)) S P := by
  unfold ixMD
  exact W.bind (W.eq (a := ds) (S' := S) (by show (match S[k]? with | some (.lst ds) => some (Except.ok ds, S) | _ => none) = _; rw [e]) (W.opt ea h))
theorem W.gt {a b : Int} (h : P (.bl (decide (b < a))) S) : W (gtD (.int a) (.int b)) S P := W.pure h
theorem W.add {a b : Int} (h : P (.int (a + b)) S) : W (addD (.int a) (.int b)) S P := W.pure h
theorem W.mul {a b : Int} (hc : CM a b) (h : P (.int (a * b)) S) : W (mulD (.int a) (.int b)) S P := W.ite hc (W.pure h)
theorem W.mod {a b : Int} (hb : 0 < b) (h : P (.int (a % b)) S) : W (modD (.int a) (.int b)) S P := W.ite hb (W.pure h)
theorem W.fdiv {a b : Int} (hb : CDv a b) (h : P (.int (a / b)) S) : W (fdivD (.int a) (.int b)) S P := W.ite hb (W.pure h)
theorem cm_r {a b : Int} (h1 : -(2 ^ 64) < b) (h2 : b < 2 ^ 64) : CM a b := .inr (.inl ⟨h1, h2⟩)
theorem cdv_r {a b : Int} (h1 : 0 < b) (h2 : b < 10 ^ 60) : CDv a b := ⟨h1, h2⟩
theorem W.intd {a : Int} (h : P (.int a) S) : W (intD [.int a]) S P := W.pure h
theorem W.eqI {a b : Int} (h : P (.bl (decide (a = b))) S) : W (eqD (.int a) (.int b)) S P := W.pure h
theorem W.lenL (h : P (.int ds.length) S) : W (lenD [.lst ds]) S P := W.pure h
theorem W.tbd {x : Bool} (h : PB x S) : W (tbD (.bl x)) S PB := W.pure h
theorem W.ifd {c : Prop} [Decidable c] {A B : Prop} (h1 : c → A) (h2 : ¬ c → B) : if decide c = true then A else B := by
  by_cases hc : c
  · rw [if_pos (decide_eq_true hc)]; exact h1 hc
  · rw [if_neg (by simpa using hc)]; exact h2 hc
theorem W.fors {g : D → DEnv → M DEnv} (h : W (tl δ) S fun xs S1 => W (forL g b xs δ) S1 PS) : W (forS tl g b δ) S PS := W.bind h
theorem W.forn {g : D → DEnv → M DEnv} (h : PS (δ, .nx) S) : W (forL g b [] δ) S PS := W.pure h
theorem W.forc {g : D → DEnv → M DEnv} {x : D} {r : List D} (h : W (g x δ) S fun δ1 S1 => W (b δ1) S1 fun p S2 => match p.2 with | .nx => W (forL g b r p.1) S2 PS | .ct => W (forL g b r p.1) S2 PS | .bk => PS (p.1, .nx) S2 | .rt d => PS (p.1, .rt d) S2) : W (forL g b (x :: r) δ) S PS := by
  unfold forL
  refine W.bind (h.imp fun δ1 S1 q => W.bind (q.imp fun p S2 q => ?_))
  obtain ⟨δ', fl⟩ := p
  cases fl with
  | rt d => exact W.pure q
  | nx => exact q
  | bk => exact W.pure q
  | ct => exact q
theorem W.zip (h : W (tl δ) S fun ds S1 => ∃ x y xs ys, ds = [x, y] ∧ itD x = some xs ∧ itD y = some ys ∧ xs.length = ys.length ∧ PL (pairsD (xs.zip ys)) S1) : W (zipM2 tl δ) S PL := by
  unfold zipM2
  refine W.bind (h.imp fun ds S1 ⟨x, y, xs, ys, e, e1, e2, e3, q⟩ => ?_)
  subst e
  dsimp only
  rw [e1, e2]
  exact W.ite e3 (W.pure q)
theorem W.tgn {x : D} (h : PE (δ.set i (some x)) S) : W (tgN i x δ) S PE := W.pure h
theorem W.tgt2 {x y : D} {g1 g2 : D → DEnv → M DEnv} (h : W (g1 x δ) S fun δ1 S1 => W (g2 y δ1) S1 PE) : W (tgT [g1, g2] (.tup [x, y]) δ) S PE := W.bind (h.imp fun _ _ q => W.bind (q.imp fun _ _ q => W.pure q))
theorem W.app (e : δ[i]?.join = some (.lst ds)) (h : W (t δ) S fun d S1 => ds.length < sizeLine ∧ PS (δ.set i (some (.lst (ds ++ [d]))), .nx) S1) : W (appS i t δ) S PS := by
  unfold appS
  exact W.bind (W.rdd e (W.bind (W.pure (W.bind (h.imp fun _ _ q => W.ite q.1 (W.pure q.2))))))
theorem W.fld {c f : Str} (h : W (t δ) S fun v S1 => ∃ fs, δ[i]?.join = some (.obj c fs) ∧ fs.length < 1000 ∧ PS (δ.set i (some (.obj c (putD f v fs))), .nx) S1) : W (fldS i c f t δ) S PS := by
  unfold fldS
  exact W.bind (h.imp fun _ _ ⟨fs, e, e2, q⟩ => W.bind (W.rdd e (W.bind (W.ite rfl (W.pure (W.ite e2 (W.pure q)))))))
theorem W.notm (h : W (tt δ) S fun x S1 => PB (!x) S1) : W (notM tt δ) S PB := W.bind (h.imp fun _ _ q => W.pure q)
theorem W.strm {f : D → D → M D} (h : W (t δ) S fun x S1 => ∃ z, x = .str z ∧ W (u δ) S1 fun y S2 => W (f (.str z) y) S2 P) : W (strM f t u δ) S P := by
  unfold strM
  refine W.bind (h.imp fun x S1 ⟨z, e, q⟩ => ?_)
  subst e
  exact W.bind q
theorem W.fmt (h : W (t δ) S fun d S1 => W (fmtD d) S1 fun x S2 => P (.str x) S2) : W (fmtM t δ) S P := W.bind (h.imp fun _ _ q => W.bind (q.imp fun _ _ q => W.pure q))
theorem W.runi {c : Str} (h : W (b (startD n (.obj c [] :: ds))) S fun p S' => p.2 = .nx ∧ ∃ d, p.1[0]?.join = some d ∧ P d S') : W (runI c n b ds) S P := by
  unfold runI
  refine W.bind (h.imp fun p S' ⟨e, d, e2, q⟩ => ?_)
  rw [e]
  exact W.opt e2 q
theorem W.ife_t (e : tt δ S = some (.ok true, S)) (h : W (t δ) S P) : W (ifE tt t u δ) S P := W.ife (W.eq e (by rw [if_pos rfl]; exact h))
theorem W.ife_f (e : tt δ S = some (.ok false, S)) (h : W (u δ) S P) : W (ifE tt t u δ) S P := W.ife (W.eq e (by rw [if_neg Bool.false_ne_true]; exact h))
theorem W.ifs_t (e : tt δ S = some (.ok true, S)) (h : W (b δ) S PS) : W (ifS tt b c δ) S PS := W.ifs (W.eq e (by rw [if_pos rfl]; exact h))
theorem W.ifs_f (e : tt δ S = some (.ok false, S)) (h : W (c δ) S PS) : W (ifS tt b c δ) S PS := W.ifs (W.eq e (by rw [if_neg Bool.false_ne_true]; exact h))
theorem W.noErr {α : Type} {m : M α} {Q : α → Sto → Prop} (h : W m S Q) : W (noErr m) S Q := by
  obtain ⟨a, S', e, q⟩ := h
  exact ⟨a, S', by unfold Fg.noErr; rw [e], q⟩
theorem W.disp1 (h : W (ta δ) S fun x S1 => W (tb δ) S1 fun y S2 => W (keyD x) S2 fun k S3 => P (.dct [(k, y)]) S3) : W (dispM [(ta, tb)] δ) S P := by
  unfold dispM pairsM pairsM
  refine W.bind (W.bind ((h.imp fun x S1 q => ?_).noErr))
  refine W.bind ((q.imp fun y S2 q => ?_).noErr)
  refine W.bind (q.imp fun k S3 q => ?_)
  exact W.bind (W.pure (W.pure (W.ite (show 1 ≤ 15 from by decide) (W.pure q))))
theorem W.ixs {z : Str} {n : Int} {c : Nat} (hz : z.length ≤ sizeLine) (e : atI z.cps.toList n = some c) (h : P (.str ⟨#[c]⟩) S) : W (ixD (.str z) (.int n)) S P := W.ite hz (W.bind (W.opt e (W.pure h)))
theorem W.keys {x : Str} {PK : Key → Sto → Prop} (h : PK (.inr x) S) : W (keyD (.str x)) S PK := W.pure h
theorem W.join {a : Str} {ys : List Str} (hs : strsD ds = some ys) (hj : joinOk a ys) (h : P (.str (Txt.join a ys)) S) : W (joinD (.str a) (.lst ds)) S P := W.bind (W.opt hs (W.ite hj (W.pure h)))
theorem W.nt {A B : Prop} (h : B) : if (!true) = true then A else B := by rw [if_neg (by decide)]; exact h
/-- what a body returns -/
def resOf : Option (Except Ex (DEnv × Fl) × Sto) → Option (D × Sto)
  | some (.ok (_, .rt d), S) => some (d, S)
  | _ => none
theorem W.res {S' : Sto} {d : D} (e : resOf (b δ S) = some (d, S')) (h : ∀ δ', PS (δ', .rt d) S') : W (b δ) S PS := by
  unfold resOf at e
  split at e
  · rename_i δ' d' S'' h'
    cases e
    exact ⟨_, _, h', h _⟩
  · cases e
theorem all_eq {α β : Type} {l : List α} {f g : α → β} (h : l.map f = l.map g) : ∀ x ∈ l, f x = g x := by
  intro x hx
  exact (List.map_inj_left.mp h) x hx
end
/-! ### the pot -/
def PotS (S : Sto) : Prop := ∃ i j : Int, S = [.lst [.int i, .int j]]
end Fg

set_option Elab.async false
set_option linter.all false
set_option maxRecDepth 100000
set_option maxHeartbeats 4000000
namespace Fg
open PySem PySem.Spec PyProof.Rows L2
local macro_rules | `(tactic| walk_at "hp") => `(tactic| first | assumption | (refine Same.get (by assumption) ?_; walk_at "hp"))
local macro_rules | `(tactic| walk_at "sq") => `(tactic| first | assumption | (exact Or.inr (by assumption)) | (exact Or.inl (by assumption)) | (exact Or.inl (SqL.of (by walk_at "hp"))) | (exact Or.inr (SqT.of (by walk_at "hp"))) | (exact SqL.of (by walk_at "hp")) | (exact SqT.of (by walk_at "hp")))
local macro_rules | `(tactic| walk_at "cl") => `(tactic| first | ((first | show (_ : Int) < _ | show (_ : Int) ≤ _); first | omega | decide) | ((first | show (_ : Nat) < _ | show (_ : Nat) ≤ _); first | with_reducible assumption | (refine sz_le ?_; first | decide | omega | (simp <;> omega)) | (refine sz_lt ?_; first | decide | omega | (simp <;> omega)) | omega | decide | ((with_reducible show List.length _ < _); exact Nat.le_of_ble_eq_true rfl)) | rfl | walk_at "hp" | walk_at "sq" | (refine And.intro (by walk_at "cl") (by walk_at "cl")) | (exact Exists.intro _ (by walk_at "hp")) | (exact Exists.intro _ (Exists.intro _ (by walk_at "hp"))) | (exact Exists.intro _ (Exists.intro _ (And.intro (by walk_at "hp") rfl))) | decide | (exact Or.inl (by walk_at "cl")) | (exact Or.inr (by walk_at "cl")) | omega)
local macro_rules | `(tactic| walk_at "s1") => `(tactic| first | refine And.intro (by walk_at "cl") ?_ | apply Exists.intro)
local macro_rules | `(tactic| walk_at "sx") => `(tactic| repeat walk_at "s1")
local macro_rules | `(tactic| walk_at "si") => `(tactic| first | refine iteY rfl ?_ | refine iteN rfl ?_)
local macro_rules | `(tactic| walk_at "sy") => `(tactic| repeat first | walk_at "s1" | walk_at "si")
def adOf (K : PySem.W.Frag) : Ad where
  cFormat := He.ga K "Format"
  cField := He.ga K "Field"
  cLine := He.ga K "Line"
  cNotAFormat := He.ga K "NotAFormat"
  cInvalidNumber := He.ga K "InvalidNumber"
  cInvalidText := He.ga K "InvalidText"
  cInvalidName := He.ga K "InvalidName"
  cInvalidSetting := He.ga K "InvalidSetting"
  cInvalidRange := He.ga K "InvalidRange"
  cInvalidParts := He.ga K "InvalidParts"
  cC_l_right := He.codeOf K ("_law_right", none)
  tP_l_right := He.tabOf K (He.codeOf K ("_law_right", none))
  tHEADS := He.ga K "HEADS"
  tSIDES := He.ga K "SIDES"
  tSETTINGS := He.ga K "SETTINGS"
  cUnfit := He.ga K "Unfit"
theorem txt_of {w : World} {K : PySem.W.Frag} {h : Heap} {mg : Str → Option Value} (X : K.In h) (G : h.Ns mainGlobals mg) (c : He.SaysX headFa headFn headTs headTf headEx w h K) : Txt w K mg (adOf K) where
  cl_Format := He.cls_ok (c.t.d.fact 0 rfl)
  cl_Field := He.cls_ok (c.t.d.fact 1 rfl)
  cl_Line := He.cls_ok (c.t.d.fact 2 rfl)
  in_Format := inB_ok (exAt c.more 0 rfl)
  in_Field := inB_ok (exAt c.more 1 rfl)
  in_Line := inB_ok (exAt c.more 2 rfl)
  kn_Format_int := of_decide_eq_true (exAt c.more 3 rfl)
  kn_Format_str := of_decide_eq_true (exAt c.more 4 rfl)
  kn_Format_tuple := of_decide_eq_true (exAt c.more 5 rfl)
  kn_Format_bool := of_decide_eq_true (exAt c.more 6 rfl)
  kn_Format_list := of_decide_eq_true (exAt c.more 7 rfl)
  kn_Format_dict := of_decide_eq_true (exAt c.more 8 rfl)
  kn_Field_int := of_decide_eq_true (exAt c.more 9 rfl)
  kn_Field_str := of_decide_eq_true (exAt c.more 10 rfl)
  kn_Field_tuple := of_decide_eq_true (exAt c.more 11 rfl)
  kn_Field_bool := of_decide_eq_true (exAt c.more 12 rfl)
  kn_Field_list := of_decide_eq_true (exAt c.more 13 rfl)
  kn_Field_dict := of_decide_eq_true (exAt c.more 14 rfl)
  kn_Line_int := of_decide_eq_true (exAt c.more 15 rfl)
  kn_Line_str := of_decide_eq_true (exAt c.more 16 rfl)
  kn_Line_tuple := of_decide_eq_true (exAt c.more 17 rfl)
  kn_Line_bool := of_decide_eq_true (exAt c.more 18 rfl)
  kn_Line_list := of_decide_eq_true (exAt c.more 19 rfl)
  kn_Line_dict := of_decide_eq_true (exAt c.more 20 rfl)
  kc_Format_Field := of_decide_eq_true (exAt c.more 21 rfl)
  kc_Format_Line := of_decide_eq_true (exAt c.more 22 rfl)
  kc_Field_Format := of_decide_eq_true (exAt c.more 23 rfl)
  kc_Field_Line := of_decide_eq_true (exAt c.more 24 rfl)
  kc_Line_Format := of_decide_eq_true (exAt c.more 25 rfl)
  kc_Line_Field := of_decide_eq_true (exAt c.more 26 rfl)
  na_Format := naB_ok (exAt c.more 27 rfl)
  na_Field := naB_ok (exAt c.more 28 rfl)
  oe_InvalidName := oeB_ok (exAt c.more 29 rfl)
  g_InvalidName := He.glo_ok X G (c.t.d.fact 3 rfl)
  I_InvalidNamedd_initdd := initAt_of (c.t.d.def_ 0 rfl) (c.t.d.fact 4 rfl)
  nf_InvalidName := He.noat_ok (c.t.d.fact 5 rfl)
  oe_NotAFormat := oeB_ok (exAt c.more 30 rfl)
  g_NotAFormat := He.glo_ok X G (c.t.d.fact 6 rfl)
  I_NotAFormatdd_initdd := initAt_of (c.t.d.def_ 1 rfl) (c.t.d.fact 7 rfl)
  nf_NotAFormat := He.noat_ok (c.t.d.fact 8 rfl)
  oe_InvalidRange := oeB_ok (exAt c.more 31 rfl)
  g_InvalidRange := He.glo_ok X G (c.t.d.fact 9 rfl)
  I_InvalidRangedd_initdd := initAt_of (c.t.d.def_ 2 rfl) (c.t.d.fact 10 rfl)
  nf_InvalidRange := He.noat_ok (c.t.d.fact 11 rfl)
  oe_InvalidSetting := oeB_ok (exAt c.more 32 rfl)
  g_InvalidSetting := He.glo_ok X G (c.t.d.fact 12 rfl)
  I_InvalidSettingdd_initdd := initAt_of (c.t.d.def_ 3 rfl) (c.t.d.fact 13 rfl)
  nf_InvalidSetting := He.noat_ok (c.t.d.fact 14 rfl)
  oe_InvalidNumber := oeB_ok (exAt c.more 33 rfl)
  g_InvalidNumber := He.glo_ok X G (c.t.d.fact 15 rfl)
  I_InvalidNumberdd_initdd := initAt_of (c.t.d.def_ 4 rfl) (c.t.d.fact 16 rfl)
  nf_InvalidNumber := He.noat_ok (c.t.d.fact 17 rfl)
  oe_InvalidText := oeB_ok (exAt c.more 34 rfl)
  g_InvalidText := He.glo_ok X G (c.t.d.fact 18 rfl)
  I_InvalidTextdd_initdd := initAt_of (c.t.d.def_ 5 rfl) (c.t.d.fact 19 rfl)
  nf_InvalidText := He.noat_ok (c.t.d.fact 20 rfl)
  oe_InvalidParts := oeB_ok (exAt c.more 35 rfl)
  g_InvalidParts := He.glo_ok X G (c.t.d.fact 21 rfl)
  I_InvalidPartsdd_initdd := initAt_of (c.t.d.def_ 6 rfl) (c.t.d.fact 22 rfl)
  nf_InvalidParts := He.noat_ok (c.t.d.fact 23 rfl)
  F_is_integer := funAt_of X G (c.t.d.def_ 7 rfl) (c.t.d.fact 24 rfl)
  b_int := He.free_ok X G (c.t.d.fact 25 rfl)
  b_isinstance := He.free_ok X G (c.t.d.fact 26 rfl)
  F_is_between := funAt_of X G (c.t.d.def_ 8 rfl) (c.t.d.fact 27 rfl)
  F_is_sign := funAt_of X G (c.t.d.def_ 9 rfl) (c.t.d.fact 28 rfl)
  b_str := He.free_ok X G (c.t.d.fact 29 rfl)
  b_len := He.free_ok X G (c.t.d.fact 30 rfl)
  g_PRINT := strG_of X G (c.t.d.fact 31 rfl)
  F_is_word := funAt_of X G (c.t.d.def_ 10 rfl) (c.t.d.fact 32 rfl)
  b_all := He.free_ok X G (c.t.d.fact 33 rfl)
  F_is_name := funAt_of X G (c.t.d.def_ 11 rfl) (c.t.d.fact 34 rfl)
  g_LONGEST_NAME := intG_of X G (c.t.d.fact 35 rfl)
  g_SMALL_LETTERS := strG_of X G (c.t.d.fact 36 rfl)
  F_code_of := funAt_of X G (c.t.d.def_ 12 rfl) (c.t.d.fact 37 rfl)
  F_is_setting := funAt_of X G (c.t.d.def_ 13 rfl) (c.t.d.fact 38 rfl)
  d_HEADS := kTab_of (c.t.tab 0 rfl) (exAt c.more 36 rfl)
  g_HEADS := refG_of X G (c.t.d.fact 39 rfl)
  g_SIDES := refG_of X G (c.t.d.fact 40 rfl)
  t_SIDES := fun H => He.tupB_ok (exAt c.more 37 rfl) H
  g_FIGURES := strG_of X G (c.t.d.fact 41 rfl)
  g_MOST_GROUP := intG_of X G (c.t.d.fact 42 rfl)
  g_MOST_WIDTH := intG_of X G (c.t.d.fact 43 rfl)
  F_settings_text := funAt_of X G (c.t.d.def_ 14 rfl) (c.t.d.fact 44 rfl)
  b_zip := He.free_ok X G (c.t.d.fact 45 rfl)
  g_SETTINGS := refG_of X G (c.t.d.fact 46 rfl)
  t_SETTINGS := fun H => He.tupB_ok (exAt c.more 38 rfl) H
  g_Format := He.glo_ok X G (c.t.d.fact 47 rfl)
  K_Format := initK_of (c.t.d.def_ 15 rfl) (c.t.d.fact 48 rfl)
  n_Format_base := He.noat_ok (c.t.d.fact 49 rfl)
  n_Format_sign := He.noat_ok (c.t.d.fact 50 rfl)
  n_Format_least := He.noat_ok (c.t.d.fact 51 rfl)
  n_Format_group := He.noat_ok (c.t.d.fact 52 rfl)
  n_Format_mark := He.noat_ok (c.t.d.fact 53 rfl)
  n_Format_width := He.noat_ok (c.t.d.fact 54 rfl)
  n_Format_fill := He.noat_ok (c.t.d.fact 55 rfl)
  n_Format_side := He.noat_ok (c.t.d.fact 56 rfl)
  n_Format_words := He.noat_ok (c.t.d.fact 57 rfl)
  F_check_format := funAt_of X G (c.t.d.def_ 16 rfl) (c.t.d.fact 58 rfl)
  i_Format := insB_ok (exAt c.more 39 rfl)
  v_Format := refG_of X G (c.t.d.fact 47 rfl)
  F_check_range := funAt_of X G (c.t.d.def_ 17 rfl) (c.t.d.fact 59 rfl)
  g_MOST_BOUND := intG_of X G (c.t.d.fact 60 rfl)
  g_Field := He.glo_ok X G (c.t.d.fact 61 rfl)
  D_Field := initD_of (c.t.d.def_ 18 rfl) (c.t.d.fact 62 rfl)
  n_Field_name := He.noat_ok (c.t.d.fact 63 rfl)
  n_Field_pattern := He.noat_ok (c.t.d.fact 64 rfl)
  n_Field_low := He.noat_ok (c.t.d.fact 65 rfl)
  n_Field_high := He.noat_ok (c.t.d.fact 66 rfl)
  F_check_parts := funAt_of X G (c.t.d.def_ 19 rfl) (c.t.d.fact 67 rfl)
  g_MOST_PARTS := intG_of X G (c.t.d.fact 68 rfl)
  b_enumerate := He.free_ok X G (c.t.d.fact 69 rfl)
  i_Field := insB_ok (exAt c.more 40 rfl)
  v_Field := refG_of X G (c.t.d.fact 61 rfl)
  g_MOST_FIELDS := intG_of X G (c.t.d.fact 70 rfl)
  F_joined := funAt_of X G (c.t.d.def_ 20 rfl) (c.t.d.fact 71 rfl)
  b_tuple := He.free_ok X G (c.t.d.fact 72 rfl)
  F_parts_of := funAt_of X G (c.t.d.def_ 21 rfl) (c.t.d.fact 73 rfl)
  i_Line := insB_ok (exAt c.more 41 rfl)
  v_Line := refG_of X G (c.t.d.fact 74 rfl)
  n_Line_parts := He.noat_ok (c.t.d.fact 75 rfl)
  g_Line := He.glo_ok X G (c.t.d.fact 74 rfl)
  D_Line := initD_of (c.t.d.def_ 22 rfl) (c.t.d.fact 76 rfl)
  n_Line_fields := He.noat_ok (c.t.d.fact 77 rfl)
  n_Line_names := He.noat_ok (c.t.d.fact 78 rfl)
  M_Linedd_adddd := methAt_of (c.t.d.def_ 23 rfl) (c.t.d.fact 79 rfl)
  M_Linedd_radddd := methAt_of (c.t.d.def_ 24 rfl) (c.t.d.fact 80 rfl)
  M_Linedd_lendd := methAt_of (c.t.d.def_ 25 rfl) (c.t.d.fact 81 rfl)
  F_l_spoon := funAt_of X G (c.t.d.def_ 26 rfl) (c.t.d.fact 82 rfl)
  F_l_of := funAt_of X G (c.t.d.def_ 27 rfl) (c.t.d.fact 83 rfl)
  F_l_signs := funAt_of X G (c.t.d.def_ 28 rfl) (c.t.d.fact 84 rfl)
  F_l_sign := funAt_of X G (c.t.d.def_ 29 rfl) (c.t.d.fact 85 rfl)
  F_l_shape := funAt_of X G (c.t.d.def_ 30 rfl) (c.t.d.fact 86 rfl)
  F_l_format := funAt_of X G (c.t.d.def_ 31 rfl) (c.t.d.fact 87 rfl)
  xf_InvalidParts := xfB_ok (exAt c.more 42 rfl)
  xc_InvalidParts := xcB_ok (exAt c.more 43 rfl)
  v_Unfit := refG_of X G (c.t.d.fact 88 rfl)
  b_ValueError := He.free_ok X G (c.t.d.fact 89 rfl)
  ex_InvalidParts_InvalidParts := He.exm_ok (c.t.d.fact 90 rfl)
  ki_InvalidParts_Unfit := of_decide_eq_true (exAt c.more 44 rfl)
  ki_InvalidParts_ValueError := of_decide_eq_true (exAt c.more 45 rfl)
  k_l_right := funC_of X G (c.t.d.def_ 32 rfl) (c.t.d.fact 91 rfl)
  F_l_ended := funAt_of X G (c.t.d.def_ 33 rfl) (c.t.d.fact 92 rfl)
  sf_Line := (exAt c.more 46 rfl)
  F_l_pot := funAt_of X G (c.t.d.def_ 34 rfl) (c.t.d.fact 93 rfl)
  b_abs := He.free_ok X G (c.t.d.fact 94 rfl)
  F_law := funAt_of X G (c.t.d.def_ 35 rfl) (c.t.d.fact 95 rfl)
  b_range := He.free_ok X G (c.t.d.fact 96 rfl)
  b_max := He.free_ok X G (c.t.d.fact 97 rfl)
  b_min := He.free_ok X G (c.t.d.fact 98 rfl)
end Fg
set_option Elab.async false
set_option linter.all false
set_option maxRecDepth 100000
set_option maxHeartbeats 4000000
namespace Fg
open PySem PySem.Spec PyProof.Rows L2
local macro_rules | `(tactic| walk_at "hp") => `(tactic| first | assumption | (refine Same.get (by assumption) ?_; walk_at "hp"))
local macro_rules | `(tactic| walk_at "sq") => `(tactic| first | assumption | (exact Or.inr (by assumption)) | (exact Or.inl (by assumption)) | (exact Or.inl (SqL.of (by walk_at "hp"))) | (exact Or.inr (SqT.of (by walk_at "hp"))) | (exact SqL.of (by walk_at "hp")) | (exact SqT.of (by walk_at "hp")))
local macro_rules | `(tactic| walk_at "cl") => `(tactic| first | ((first | show (_ : Int) < _ | show (_ : Int) ≤ _); first | omega | decide) | ((first | show (_ : Nat) < _ | show (_ : Nat) ≤ _); first | with_reducible assumption | (refine sz_le ?_; first | decide | omega | (simp <;> omega)) | (refine sz_lt ?_; first | decide | omega | (simp <;> omega)) | omega | decide | ((with_reducible show List.length _ < _); exact Nat.le_of_ble_eq_true rfl)) | rfl | walk_at "hp" | walk_at "sq" | (refine And.intro (by walk_at "cl") (by walk_at "cl")) | (exact Exists.intro _ (by walk_at "hp")) | (exact Exists.intro _ (Exists.intro _ (by walk_at "hp"))) | (exact Exists.intro _ (Exists.intro _ (And.intro (by walk_at "hp") rfl))) | decide | (exact Or.inl (by walk_at "cl")) | (exact Or.inr (by walk_at "cl")) | omega)
local macro_rules | `(tactic| walk_at "s1") => `(tactic| first | refine And.intro (by walk_at "cl") ?_ | apply Exists.intro)
local macro_rules | `(tactic| walk_at "sx") => `(tactic| repeat walk_at "s1")
local macro_rules | `(tactic| walk_at "si") => `(tactic| first | refine iteY rfl ?_ | refine iteN rfl ?_)
local macro_rules | `(tactic| walk_at "sy") => `(tactic| repeat first | walk_at "s1" | walk_at "si")
variable [TQ]
theorem kit_self {K : PySem.W.Frag} {C : Addr} {b : Bool} (h : b = true := by exact decide_eq_true rfl) : PySem.W.kitOne K (.ref C) (.ref C) = some b := by
  subst h
  unfold PySem.W.kitOne
  rw [if_pos (by simp)]
def caOf (A : Ad) : Str → Option Addr := fun c => if c = "Format" then some A.cFormat else if c = "Field" then some A.cField else if c = "Line" then some A.cLine else none
def ceOf (A : Ad) : Str → Option Addr := fun c => if c = "NotAFormat" then some A.cNotAFormat else if c = "InvalidNumber" then some A.cInvalidNumber else if c = "InvalidText" then some A.cInvalidText else if c = "InvalidName" then some A.cInvalidName else if c = "InvalidSetting" then some A.cInvalidSetting else if c = "InvalidRange" then some A.cInvalidRange else if c = "InvalidParts" then some A.cInvalidParts else none
theorem caOf_cases {A : Ad} {c : Str} {C : Addr} (h : caOf A c = some C) : (c = "Format" ∧ C = A.cFormat) ∨ (c = "Field" ∧ C = A.cField) ∨ (c = "Line" ∧ C = A.cLine) := by
  unfold caOf at h
  split at h
  · exact .inl ⟨by assumption, (Option.some.inj h).symm⟩
  split at h
  · exact .inr (.inl ⟨by assumption, (Option.some.inj h).symm⟩)
  split at h
  · exact .inr (.inr (⟨by assumption, (Option.some.inj h).symm⟩))
  cases h
section
variable {w : World} {K : PySem.W.Frag} {mg : Str → Option Value} {A : Ad}
theorem cf_of (T : Txt w K mg A) : ClF K (caOf A) where
  cl := fun c C h => by
    rcases caOf_cases h with ⟨rfl, rfl⟩ | ⟨rfl, rfl⟩ | ⟨rfl, rfl⟩
    · exact T.cl_Format
    · exact T.cl_Field
    · exact T.cl_Line
  ins := fun c C h => by
    rcases caOf_cases h with ⟨rfl, rfl⟩ | ⟨rfl, rfl⟩ | ⟨rfl, rfl⟩
    · exact T.in_Format
    · exact T.in_Field
    · exact T.in_Line
  ty := fun c C n h hn => by
    simp only [List.mem_cons, List.not_mem_nil, or_false] at hn
    rcases caOf_cases h with ⟨rfl, rfl⟩ | ⟨rfl, rfl⟩ | ⟨rfl, rfl⟩
    · rcases hn with rfl | rfl | rfl | rfl | rfl | rfl
      · exact T.kn_Format_int
      · exact T.kn_Format_str
      · exact T.kn_Format_tuple
      · exact T.kn_Format_bool
      · exact T.kn_Format_list
      · exact T.kn_Format_dict
    · rcases hn with rfl | rfl | rfl | rfl | rfl | rfl
      · exact T.kn_Field_int
      · exact T.kn_Field_str
      · exact T.kn_Field_tuple
      · exact T.kn_Field_bool
      · exact T.kn_Field_list
      · exact T.kn_Field_dict
    · rcases hn with rfl | rfl | rfl | rfl | rfl | rfl
      · exact T.kn_Line_int
      · exact T.kn_Line_str
      · exact T.kn_Line_tuple
      · exact T.kn_Line_bool
      · exact T.kn_Line_list
      · exact T.kn_Line_dict
  own := fun c C c2 C2 h h2 => by
    rcases caOf_cases h with ⟨rfl, rfl⟩ | ⟨rfl, rfl⟩ | ⟨rfl, rfl⟩
    · rcases caOf_cases h2 with ⟨rfl, rfl⟩ | ⟨rfl, rfl⟩ | ⟨rfl, rfl⟩
      · exact kit_self
      · exact (T.kc_Format_Field).trans (congrArg some (decide_eq_false (by decide)).symm)
      · exact (T.kc_Format_Line).trans (congrArg some (decide_eq_false (by decide)).symm)
    · rcases caOf_cases h2 with ⟨rfl, rfl⟩ | ⟨rfl, rfl⟩ | ⟨rfl, rfl⟩
      · exact (T.kc_Field_Format).trans (congrArg some (decide_eq_false (by decide)).symm)
      · exact kit_self
      · exact (T.kc_Field_Line).trans (congrArg some (decide_eq_false (by decide)).symm)
    · rcases caOf_cases h2 with ⟨rfl, rfl⟩ | ⟨rfl, rfl⟩ | ⟨rfl, rfl⟩
      · exact (T.kc_Line_Format).trans (congrArg some (decide_eq_false (by decide)).symm)
      · exact (T.kc_Line_Field).trans (congrArg some (decide_eq_false (by decide)).symm)
      · exact kit_self
theorem nadd_Line (T : Txt w K mg A) : ∀ c' D, caOf A c' = some D → c' ≠ "Line" → D ≠ A.cLine ∧ NoAdd K D := fun c' D h n => by
  rcases caOf_cases h with ⟨rfl, rfl⟩ | ⟨rfl, rfl⟩ | ⟨rfl, rfl⟩
  · exact ⟨fun z => (by have e := (kit_self (K := K) (C := A.cLine) (b := true) rfl).symm.trans (z ▸ T.kc_Format_Line); cases e), T.na_Format⟩
  · exact ⟨fun z => (by have e := (kit_self (K := K) (C := A.cLine) (b := true) rfl).symm.trans (z ▸ T.kc_Field_Line); cases e), T.na_Field⟩
  · exact absurd rfl n
end

section
variable {P : Program} {w : World} {K : PySem.W.Frag} {mg : Str → Option Value} {base : Heap} {A : Ad}
theorem r_InvalidName (T : Txt w K mg A) : Raiser P w K mg base "InvalidName" A.cInvalidName "value" :=
  raiser_of T.oe_InvalidName T.g_InvalidName T.I_InvalidNamedd_initdd T.nf_InvalidName sc_InvalidNamedd_initdd (fun _ _ _ _ _ _ us hl => match us, hl with | [_, _], _ => rfl) (fun X hs hN => pss_one (ps_ost (fv 0 (by rw [hN]; rfl) (by rw [hs]; exact Or.inl rfl)) (fv 1 (by rw [hN]; rfl) (by rw [hs]; exact Or.inl rfl))))
theorem r_NotAFormat (T : Txt w K mg A) : Raiser P w K mg base "NotAFormat" A.cNotAFormat "value" :=
  raiser_of T.oe_NotAFormat T.g_NotAFormat T.I_NotAFormatdd_initdd T.nf_NotAFormat sc_NotAFormatdd_initdd (fun _ _ _ _ _ _ us hl => match us, hl with | [_, _], _ => rfl) (fun X hs hN => pss_one (ps_ost (fv 0 (by rw [hN]; rfl) (by rw [hs]; exact Or.inl rfl)) (fv 1 (by rw [hN]; rfl) (by rw [hs]; exact Or.inl rfl))))
theorem r_InvalidRange (T : Txt w K mg A) : Raiser P w K mg base "InvalidRange" A.cInvalidRange "end" :=
  raiser_of T.oe_InvalidRange T.g_InvalidRange T.I_InvalidRangedd_initdd T.nf_InvalidRange sc_InvalidRangedd_initdd (fun _ _ _ _ _ _ us hl => match us, hl with | [_, _], _ => rfl) (fun X hs hN => pss_one (ps_ost (fv 0 (by rw [hN]; rfl) (by rw [hs]; exact Or.inl rfl)) (fv 1 (by rw [hN]; rfl) (by rw [hs]; exact Or.inl rfl))))
theorem r_InvalidSetting (T : Txt w K mg A) : Raiser P w K mg base "InvalidSetting" A.cInvalidSetting "setting" :=
  raiser_of T.oe_InvalidSetting T.g_InvalidSetting T.I_InvalidSettingdd_initdd T.nf_InvalidSetting sc_InvalidSettingdd_initdd (fun _ _ _ _ _ _ us hl => match us, hl with | [_, _], _ => rfl) (fun X hs hN => pss_one (ps_ost (fv 0 (by rw [hN]; rfl) (by rw [hs]; exact Or.inl rfl)) (fv 1 (by rw [hN]; rfl) (by rw [hs]; exact Or.inl rfl))))
theorem r_InvalidNumber (T : Txt w K mg A) : Raiser P w K mg base "InvalidNumber" A.cInvalidNumber "value" :=
  raiser_of T.oe_InvalidNumber T.g_InvalidNumber T.I_InvalidNumberdd_initdd T.nf_InvalidNumber sc_InvalidNumberdd_initdd (fun _ _ _ _ _ _ us hl => match us, hl with | [_, _], _ => rfl) (fun X hs hN => pss_one (ps_ost (fv 0 (by rw [hN]; rfl) (by rw [hs]; exact Or.inl rfl)) (fv 1 (by rw [hN]; rfl) (by rw [hs]; exact Or.inl rfl))))
theorem r_InvalidText (T : Txt w K mg A) : Raiser P w K mg base "InvalidText" A.cInvalidText "value" :=
  raiser_of T.oe_InvalidText T.g_InvalidText T.I_InvalidTextdd_initdd T.nf_InvalidText sc_InvalidTextdd_initdd (fun _ _ _ _ _ _ us hl => match us, hl with | [_, _], _ => rfl) (fun X hs hN => pss_one (ps_ost (fv 0 (by rw [hN]; rfl) (by rw [hs]; exact Or.inl rfl)) (fv 1 (by rw [hN]; rfl) (by rw [hs]; exact Or.inl rfl))))
theorem r_InvalidParts (T : Txt w K mg A) : Raiser P w K mg base "InvalidParts" A.cInvalidParts "index" :=
  raiser_of T.oe_InvalidParts T.g_InvalidParts T.I_InvalidPartsdd_initdd T.nf_InvalidParts sc_InvalidPartsdd_initdd (fun _ _ _ _ _ _ us hl => match us, hl with | [_, _], _ => rfl) (fun X hs hN => pss_one (ps_ost (fv 0 (by rw [hN]; rfl) (by rw [hs]; exact Or.inl rfl)) (fv 1 (by rw [hN]; rfl) (by rw [hs]; exact Or.inl rfl))))
end

end Fg
set_option Elab.async false
set_option linter.all false
set_option maxRecDepth 100000
set_option maxHeartbeats 4000000
namespace Fg
open PySem PySem.Spec PyProof.Rows L2
local macro_rules | `(tactic| walk_at "hp") => `(tactic| first | assumption | (refine Same.get (by assumption) ?_; walk_at "hp"))
local macro_rules | `(tactic| walk_at "sq") => `(tactic| first | assumption | (exact Or.inr (by assumption)) | (exact Or.inl (by assumption)) | (exact Or.inl (SqL.of (by walk_at "hp"))) | (exact Or.inr (SqT.of (by walk_at "hp"))) | (exact SqL.of (by walk_at "hp")) | (exact SqT.of (by walk_at "hp")))
local macro_rules | `(tactic| walk_at "cl") => `(tactic| first | ((first | show (_ : Int) < _ | show (_ : Int) ≤ _); first | omega | decide) | ((first | show (_ : Nat) < _ | show (_ : Nat) ≤ _); first | with_reducible assumption | (refine sz_le ?_; first | decide | omega | (simp <;> omega)) | (refine sz_lt ?_; first | decide | omega | (simp <;> omega)) | omega | decide | ((with_reducible show List.length _ < _); exact Nat.le_of_ble_eq_true rfl)) | rfl | walk_at "hp" | walk_at "sq" | (refine And.intro (by walk_at "cl") (by walk_at "cl")) | (exact Exists.intro _ (by walk_at "hp")) | (exact Exists.intro _ (Exists.intro _ (by walk_at "hp"))) | (exact Exists.intro _ (Exists.intro _ (And.intro (by walk_at "hp") rfl))) | decide | (exact Or.inl (by walk_at "cl")) | (exact Or.inr (by walk_at "cl")) | omega)
local macro_rules | `(tactic| walk_at "s1") => `(tactic| first | refine And.intro (by walk_at "cl") ?_ | apply Exists.intro)
local macro_rules | `(tactic| walk_at "sx") => `(tactic| repeat walk_at "s1")
local macro_rules | `(tactic| walk_at "si") => `(tactic| first | refine iteY rfl ?_ | refine iteN rfl ?_)
local macro_rules | `(tactic| walk_at "sy") => `(tactic| repeat first | walk_at "s1" | walk_at "si")
variable [TQ]
section
variable {P : Program} {w : World} {K : PySem.W.Frag} {mg : Str → Option Value} {base : Heap} {A : Ad}
def b_is_integer : DEnv → M (DEnv × Fl) :=
  (seqS (retS (andE (oneM (isTyD "int") (rd 0)) (andE (binM notBlD (rd 0) (cM (.bl true))) (binM notBlD (rd 0) (cM (.bl false)))))) skipS)
def f_is_integer : List D → M D := runD 1 b_is_integer
theorem ok_is_integer (T : Txt w K mg A) : Callee P w K mg base 1 "is_integer" ["value"] (spD K (caOf A) (ceOf A) 1 f_is_integer) :=
  have cf := cf_of T
  calleeD_of (b := b_is_integer) T.F_is_integer sc_is_integer rfl rfl (fun _ _ _ _ _ _ us hl => match us, hl with | [_], _ => rfl) (fun f cdv Ar outer s H Xs ρ E hr tk po =>
    (pssd_cons (psd_ret (pd_eand (pd_isTy (n := "int") rfl cf (by decide) (pd_varT 0) (pe_bltn (v := .ty "int") (by rfl) T.b_int (by decide +kernel) rfl) (by rfl) T.b_isinstance) (pd_eand (pd_cmp (mi := .tr) op_notBl (o_notBl (by decide)) (pd_varT 0) pd_bl (nomark _)) (pd_eone (pd_cmp (mi := .tr) op_notBl (o_notBl (by decide)) (pd_varT 0) pd_bl (nomark _))))))
      (pssd_nil (O := []) (O' := []))))

def b_is_between : DEnv → M (DEnv × Fl) :=
  (seqS (retS (andE (callD 1 f_is_integer (consM (rd 0) nilM)) (chainD leD leD (rd 1) (rd 0) (rd 2)))) skipS)
def f_is_between : List D → M D := runD 3 b_is_between
theorem ok_is_between (T : Txt w K mg A) : Callee P w K mg base 2 "is_between" ["value", "low", "high"] (spD K (caOf A) (ceOf A) 3 f_is_between) :=
  have cf := cf_of T
  calleeD_of (b := b_is_between) T.F_is_between sc_is_between rfl rfl (fun _ _ _ _ _ _ us hl => match us, hl with | [_, _, _], _ => rfl) (fun f cdv Ar outer s H Xs ρ E hr tk po =>
    (pssd_cons (psd_ret (pd_eand (pd_wk (m := .fz) (pd_call (ok_is_integer T) hr (by decide) (by rfl) tk (pad_cons (pd_var 0) pad_nil))) (pd_eone (pd_chain f_le f_le (o_le (by decide)) (o_le (by decide)) (pd_varT 1) (pd_varT 0) (pd_varT 2)))))
      (pssd_nil (O := []) (O' := []))))

def b_is_sign : DEnv → M (DEnv × Fl) :=
  (seqS (retS (andE (oneM (isTyD "str") (rd 0)) (andE (binM eqD (callM lenD (consM (rd 0) nilM)) (cM (.int 1))) (binM (inSD false) (rd 0) (cM (.str " !\"#$&'()*+,-./0123456789:;<=>?@ABCDEFGHIJKLMNOPQRSTUVWXYZ[\\]^_`abcdefghijklmnopqrstuvwxyz{|}~")))))) skipS)
def f_is_sign : List D → M D := runD 1 b_is_sign
theorem ok_is_sign (T : Txt w K mg A) : Callee P w K mg base 1 "is_sign" ["value"] (spD K (caOf A) (ceOf A) 1 f_is_sign) :=
  have cf := cf_of T
  calleeD_of (b := b_is_sign) T.F_is_sign sc_is_sign rfl rfl (fun _ _ _ _ _ _ us hl => match us, hl with | [_], _ => rfl) (fun f cdv Ar outer s H Xs ρ E hr tk po =>
    (pssd_cons (psd_ret (pd_eand (pd_isTy (n := "str") rfl cf (by decide) (pd_varT 0) (pe_bltn (v := .ty "str") (by rfl) T.b_str (by decide +kernel) rfl) (by rfl) T.b_isinstance) (pd_eand (pd_cmp (mi := .tr) op_eq (o_eq (by decide)) (pd_callB (mi := .tr) f_len (c_len rfl (by decide)) (by rfl) T.b_len (by decide +kernel) (pad_cons (pd_varT 0) pad_nil)) pd_int (nomark _)) (pd_eone (pd_cmp (mi := .tr) f_inS (o_inS (by decide)) (pd_varT 0) (pd_g (d := (.str " !\"#$&'()*+,-./0123456789:;<=>?@ABCDEFGHIJKLMNOPQRSTUVWXYZ[\\]^_`abcdefghijklmnopqrstuvwxyz{|}~")) (by rfl) T.g_PRINT rfl) (by rfl))))))
      (pssd_nil (O := []) (O' := []))))

def b_is_word : DEnv → M (DEnv × Fl) :=
  (seqS (ifS (orM (notM (tvM (oneM (isTyD "str") (rd 0)))) (tvM (binM eqD (rd 0) (cM (.str ""))))) (seqS (retS (cM (.bl false))) skipS) skipS) (seqS (retS (callM allD (consM (lcD [1] (oneM itS (rd 0)) (tgN 1) yesM (callD 1 f_is_sign (consM (rd 1) nilM))) nilM))) skipS))
def f_is_word : List D → M D := runD 2 b_is_word
theorem ok_is_word (T : Txt w K mg A) : Callee P w K mg base 2 "is_word" ["value"] (spD K (caOf A) (ceOf A) 1 f_is_word) :=
  have cf := cf_of T
  calleeD_of (b := b_is_word) T.F_is_word sc_is_word rfl rfl (fun _ _ _ _ _ _ us hl => match us, hl with | [_], _ => rfl) (fun f cdv Ar outer s H Xs ρ E hr tk po =>
    (pssd_cons (psd_if (O := []) (O' := []) (PW.pt (pd_or (pd_tnot (pd_tval (pd_isTy (n := "str") rfl cf (by decide) (pd_varT 0) (pe_bltn (v := .ty "str") (by rfl) T.b_str (by decide +kernel) rfl) (by rfl) T.b_isinstance))) (pd_or1 (pd_tcmp op_eq (o_eq (by decide)) (pd_varT 0) pd_str (nomark _)))))
      (pssd_cons (psd_ret pd_bl)
      (pssd_nil (O := []) (O' := [])))
      (pssd_nil (O := []) (O' := [])))
      (pssd_cons (psd_ret (pd_callB (mi := .tr) (f_all rfl) (c_all rfl (by decide)) (by rfl) T.b_all (by decide +kernel) (pad_cons (pd_wk (m := .nw) (pd_lc (own := [("sign", 1)]) (by rfl) sc_is_word.nd (pid_S (pd_varT 0)) (blkOk_by (own := [("sign", 1)]) (N := ["value", "sign"]) (sc := defScope s_is_word) (by decide +kernel)) (by decide) (fun _ _ _ _ _ _ => (pgc_name 1 sc_is_word.nd)) (fun _ _ _ _ _ _ => ptsd_nil) (fun _ _ _ _ _ _ => (pd_call (ok_is_sign T) hr (by decide) (by rfl) takes0 (pad_cons (pd_var 1) pad_nil))))) pad_nil)))
      (pssd_nil (O := []) (O' := [])))))

def b_is_name : DEnv → M (DEnv × Fl) :=
  (seqS (ifS (orM (notM (tvM (oneM (isTyD "str") (rd 0)))) (orM (tvM (binM eqD (rd 0) (cM (.str "")))) (tvM (binM gtD (callM lenD (consM (rd 0) nilM)) (cM (.int 10)))))) (seqS (retS (cM (.bl false))) skipS) skipS) (seqS (retS (callM allD (consM (lcD [1] (oneM itS (rd 0)) (tgN 1) yesM (binM (inSD false) (rd 1) (cM (.str "abcdefghijklmnopqrstuvwxyz")))) nilM))) skipS))
def f_is_name : List D → M D := runD 2 b_is_name
theorem ok_is_name (T : Txt w K mg A) : Callee P w K mg base 1 "is_name" ["value"] (spD K (caOf A) (ceOf A) 1 f_is_name) :=
  have cf := cf_of T
  calleeD_of (b := b_is_name) T.F_is_name sc_is_name rfl rfl (fun _ _ _ _ _ _ us hl => match us, hl with | [_], _ => rfl) (fun f cdv Ar outer s H Xs ρ E hr tk po =>
    (pssd_cons (psd_if (O := []) (O' := []) (PW.pt (pd_or (pd_tnot (pd_tval (pd_isTy (n := "str") rfl cf (by decide) (pd_varT 0) (pe_bltn (v := .ty "str") (by rfl) T.b_str (by decide +kernel) rfl) (by rfl) T.b_isinstance))) (pd_or (pd_tcmp op_eq (o_eq (by decide)) (pd_varT 0) pd_str (nomark _)) (pd_or1 (pd_tcmp f_gt (o_gt (by decide)) (pd_callB (mi := .tr) f_len (c_len rfl (by decide)) (by rfl) T.b_len (by decide +kernel) (pad_cons (pd_varT 0) pad_nil)) (pd_g (d := (.int 10)) (by rfl) T.g_LONGEST_NAME rfl) (nomark _))))))
      (pssd_cons (psd_ret pd_bl)
      (pssd_nil (O := []) (O' := [])))
      (pssd_nil (O := []) (O' := [])))
      (pssd_cons (psd_ret (pd_callB (mi := .tr) (f_all rfl) (c_all rfl (by decide)) (by rfl) T.b_all (by decide +kernel) (pad_cons (pd_wk (m := .nw) (pd_lc (own := [("sign", 1)]) (by rfl) sc_is_name.nd (pid_S (pd_varT 0)) (blkOk_by (own := [("sign", 1)]) (N := ["value", "sign"]) (sc := defScope s_is_name) (by decide +kernel)) (by decide) (fun _ _ _ _ _ _ => (pgc_name 1 sc_is_name.nd)) (fun _ _ _ _ _ _ => ptsd_nil) (fun _ _ _ _ _ _ => (pd_cmp (mi := .tr) f_inS (o_inS (by decide)) (pd_varT 1) (pd_g (d := (.str "abcdefghijklmnopqrstuvwxyz")) (by rfl) T.g_SMALL_LETTERS rfl) (by rfl))))) pad_nil)))
      (pssd_nil (O := []) (O' := [])))))

def b_code_of : DEnv → M (DEnv × Fl) :=
  (seqS (setS 1 (strM indexD (cM (.str " !\"#$&'()*+,-./0123456789:;<=>?@ABCDEFGHIJKLMNOPQRSTUVWXYZ[\\]^_`abcdefghijklmnopqrstuvwxyz{|}~")) (rd 0))) (seqS (retS (ifE (tvM (binM ltD (rd 1) (cM (.int 5)))) (binM addD (rd 1) (cM (.int 32))) (binM addD (rd 1) (cM (.int 33))))) skipS))
def f_code_of : List D → M D := runD 2 b_code_of
theorem ok_code_of (T : Txt w K mg A) : Callee P w K mg base 1 "code_of" ["sign"] (spD K (caOf A) (ceOf A) 1 f_code_of) :=
  have cf := cf_of T
  calleeD_of (b := b_code_of) T.F_code_of sc_code_of rfl rfl (fun _ _ _ _ _ _ us hl => match us, hl with | [_], _ => rfl) (fun f cdv Ar outer s H Xs ρ E hr tk po =>
    (pssd_cons (psd_set 1 (pd_sm1 (mi := .tr) PySem.F.slot_str_index PySem.F.type_str_index f_sindex (m_index (by decide)) (pd_g (d := (.str " !\"#$&'()*+,-./0123456789:;<=>?@ABCDEFGHIJKLMNOPQRSTUVWXYZ[\\]^_`abcdefghijklmnopqrstuvwxyz{|}~")) (by rfl) T.g_PRINT rfl) (pd_varT 0)) sc_code_of.nd)
      (pssd_cons (psd_ret (pd_if (pd_tcmp f_lt (o_lt (by decide)) (pd_varT 1) pd_int (nomark _)) (pd_op (mi := .tr) f_add (o_add rfl (by decide)) (pd_varT 1) pd_int) (pd_op (mi := .tr) f_add (o_add rfl (by decide)) (pd_varT 1) pd_int)))
      (pssd_nil (O := []) (O' := [])))))

end

end Fg
set_option Elab.async false
set_option linter.all false
set_option maxRecDepth 100000
set_option maxHeartbeats 4000000
namespace Fg
open PySem PySem.Spec PyProof.Rows L2
local macro_rules | `(tactic| walk_at "hp") => `(tactic| first | assumption | (refine Same.get (by assumption) ?_; walk_at "hp"))
local macro_rules | `(tactic| walk_at "sq") => `(tactic| first | assumption | (exact Or.inr (by assumption)) | (exact Or.inl (by assumption)) | (exact Or.inl (SqL.of (by walk_at "hp"))) | (exact Or.inr (SqT.of (by walk_at "hp"))) | (exact SqL.of (by walk_at "hp")) | (exact SqT.of (by walk_at "hp")))
local macro_rules | `(tactic| walk_at "cl") => `(tactic| first | ((first | show (_ : Int) < _ | show (_ : Int) ≤ _); first | omega | decide) | ((first | show (_ : Nat) < _ | show (_ : Nat) ≤ _); first | with_reducible assumption | (refine sz_le ?_; first | decide | omega | (simp <;> omega)) | (refine sz_lt ?_; first | decide | omega | (simp <;> omega)) | omega | decide | ((with_reducible show List.length _ < _); exact Nat.le_of_ble_eq_true rfl)) | rfl | walk_at "hp" | walk_at "sq" | (refine And.intro (by walk_at "cl") (by walk_at "cl")) | (exact Exists.intro _ (by walk_at "hp")) | (exact Exists.intro _ (Exists.intro _ (by walk_at "hp"))) | (exact Exists.intro _ (Exists.intro _ (And.intro (by walk_at "hp") rfl))) | decide | (exact Or.inl (by walk_at "cl")) | (exact Or.inr (by walk_at "cl")) | omega)
local macro_rules | `(tactic| walk_at "s1") => `(tactic| first | refine And.intro (by walk_at "cl") ?_ | apply Exists.intro)
local macro_rules | `(tactic| walk_at "sx") => `(tactic| repeat walk_at "s1")
local macro_rules | `(tactic| walk_at "si") => `(tactic| first | refine iteY rfl ?_ | refine iteN rfl ?_)
local macro_rules | `(tactic| walk_at "sy") => `(tactic| repeat first | walk_at "s1" | walk_at "si")
variable [TQ]
section
variable {P : Program} {w : World} {K : PySem.W.Frag} {mg : Str → Option Value} {base : Heap} {A : Ad}
def b_is_setting : DEnv → M (DEnv × Fl) :=
  (seqS (ifS (tvM (binM (inQD false) (rd 0) (tupM (consM (cM (.str "mark")) (consM (cM (.str "fill")) nilM))))) (seqS (retS (callD 1 f_is_sign (consM (rd 1) nilM))) skipS) skipS) (seqS (ifS (tvM (binM eqD (rd 0) (cM (.str "sign")))) (seqS (retS (andE (oneM (isTyD "str") (rd 1)) (oneM (inKD [("minus", (.str "")), ("plus", (.str "+")), ("blank", (.str " "))]) (rd 1)))) skipS) skipS) (seqS (ifS (tvM (binM eqD (rd 0) (cM (.str "side")))) (seqS (retS (andE (oneM (isTyD "str") (rd 1)) (binM (inQD false) (rd 1) (cM (.tup [(.str "left"), (.str "right"), (.str "both"), (.str "inner")]))))) skipS) skipS) (seqS (ifS (tvM (binM eqD (rd 0) (cM (.str "base")))) (seqS (retS (callD 3 f_is_between (consM (rd 1) (consM (cM (.int 2)) (consM (callM lenD (consM (cM (.str "0123456789abcdef")) nilM)) nilM))))) skipS) skipS) (seqS (ifS (tvM (binM eqD (rd 0) (cM (.str "group")))) (seqS (retS (callD 3 f_is_between (consM (rd 1) (consM (cM (.int 0)) (consM (cM (.int 4)) nilM))))) skipS) skipS) (seqS (retS (callD 3 f_is_between (consM (rd 1) (consM (ifE (tvM (binM eqD (rd 0) (cM (.str "least")))) (cM (.int 1)) (cM (.int 0))) (consM (cM (.int 12)) nilM))))) skipS))))))
def f_is_setting : List D → M D := runD 2 b_is_setting
theorem ok_is_setting (T : Txt w K mg A) : Callee P w K mg base 3 "is_setting" ["setting", "value"] (spD K (caOf A) (ceOf A) 2 f_is_setting) :=
  have cf := cf_of T
  calleeD_of (b := b_is_setting) T.F_is_setting sc_is_setting rfl rfl (fun _ _ _ _ _ _ us hl => match us, hl with | [_, _], _ => rfl) (fun f cdv Ar outer s H Xs ρ E hr tk po =>
    (pssd_cons (psd_if (O := []) (O' := []) (pd_tcmp f_inQ (o_inQ rfl (by decide)) (pd_varT 0) (pd_tup (pad_cons pd_str (pad_cons pd_str pad_nil))) (by rfl))
      (pssd_cons (psd_ret (pd_wk (m := .fz) (pd_call (ok_is_sign T) hr (by decide) (by rfl) tk (pad_cons (pd_var 1) pad_nil))))
      (pssd_nil (O := []) (O' := [])))
      (pssd_nil (O := []) (O' := [])))
      (pssd_cons (psd_if (O := []) (O' := []) (pd_tcmp op_eq (o_eq (by decide)) (pd_varT 0) pd_str (nomark _))
      (pssd_cons (psd_ret (pd_eand (pd_isTy (n := "str") rfl cf (by decide) (pd_varT 1) (pe_bltn (v := .ty "str") (by rfl) T.b_str (by decide +kernel) rfl) (by rfl) T.b_isinstance) (pd_eone (pd_inK (kds := [("minus", (.str "")), ("plus", (.str "+")), ("blank", (.str " "))]) T.d_HEADS (by rfl) T.g_HEADS (pd_varT 1) (by rfl)))))
      (pssd_nil (O := []) (O' := [])))
      (pssd_nil (O := []) (O' := [])))
      (pssd_cons (psd_if (O := []) (O' := []) (pd_tcmp op_eq (o_eq (by decide)) (pd_varT 0) pd_str (nomark _))
      (pssd_cons (psd_ret (pd_eand (pd_isTy (n := "str") rfl cf (by decide) (pd_varT 1) (pe_bltn (v := .ty "str") (by rfl) T.b_str (by decide +kernel) rfl) (by rfl) T.b_isinstance) (pd_eone (pd_cmp (mi := .tr) f_inQ (o_inQ rfl (by decide)) (pd_varT 1) (pd_gT (ds := [.str "left", .str "right", .str "both", .str "inner"]) (by rfl) T.g_SIDES T.t_SIDES rfl) (by rfl)))))
      (pssd_nil (O := []) (O' := [])))
      (pssd_nil (O := []) (O' := [])))
      (pssd_cons (psd_if (O := []) (O' := []) (pd_tcmp op_eq (o_eq (by decide)) (pd_varT 0) pd_str (nomark _))
      (pssd_cons (psd_ret (pd_wk (m := .fz) (pd_call (ok_is_between T) hr (by decide) (by rfl) tk (pad_cons (pd_var 1) (pad_cons pd_int (pad_cons (pd_callB (mi := .tr) f_len (c_len rfl (by decide)) (by rfl) T.b_len (by decide +kernel) (pad_cons (pd_g (d := (.str "0123456789abcdef")) (by rfl) T.g_FIGURES rfl) pad_nil)) pad_nil))))))
      (pssd_nil (O := []) (O' := [])))
      (pssd_nil (O := []) (O' := [])))
      (pssd_cons (psd_if (O := []) (O' := []) (pd_tcmp op_eq (o_eq (by decide)) (pd_varT 0) pd_str (nomark _))
      (pssd_cons (psd_ret (pd_wk (m := .fz) (pd_call (ok_is_between T) hr (by decide) (by rfl) tk (pad_cons (pd_var 1) (pad_cons pd_int (pad_cons (pd_g (d := (.int 4)) (by rfl) T.g_MOST_GROUP rfl) pad_nil))))))
      (pssd_nil (O := []) (O' := [])))
      (pssd_nil (O := []) (O' := [])))
      (pssd_cons (psd_ret (pd_wk (m := .fz) (pd_call (ok_is_between T) hr (by decide) (by rfl) tk (pad_cons (pd_var 1) (pad_cons (pd_if (pd_tcmp op_eq (o_eq (by decide)) (pd_varT 0) pd_str (nomark _)) pd_int pd_int) (pad_cons (pd_g (d := (.int 12)) (by rfl) T.g_MOST_WIDTH rfl) pad_nil))))))
      (pssd_nil (O := []) (O' := [])))))))))

def b_settings_text : DEnv → M (DEnv × Fl) :=
  (seqS (setS 1 (lstM nilM)) (seqS (forS (zipM2 (consM (cM (.tup [(.str "base"), (.str "sign"), (.str "least"), (.str "group"), (.str "mark"), (.str "width"), (.str "fill"), (.str "side")])) (consM (rd 0) nilM))) (tgT ((tgN 2) :: ((tgN 3) :: []))) (seqS (appS 1 (rd 2)) (seqS (appS 1 (ifE (tvM (binM (inQD false) (rd 2) (tupM (consM (cM (.str "mark")) (consM (cM (.str "fill")) nilM))))) (fmtM (callD 1 f_code_of (consM (rd 3) nilM))) (fmtM (rd 3)))) skipS))) (seqS (retS (strM joinD (cM (.str " ")) (rd 1))) skipS)))
def f_settings_text : List D → M D := runD 4 b_settings_text
theorem ok_settings_text (T : Txt w K mg A) : Callee P w K mg base 2 "settings_text" ["values"] (spD K (caOf A) (ceOf A) 1 f_settings_text) :=
  have cf := cf_of T
  calleeD_of (b := b_settings_text) T.F_settings_text sc_settings_text rfl rfl (fun _ _ _ _ _ _ us hl => match us, hl with | [_], _ => rfl) (fun f cdv Ar outer s H Xs ρ E hr tk po =>
    (pssd_cons (psd_new 1 (pd_lst pad_nil) sc_settings_text.nd)
      (pssd_cons (psd_forZ rfl po rfl (by rfl) T.b_zip (pad_cons (pd_gT (ds := [.str "base", .str "sign", .str "least", .str "group", .str "mark", .str "width", .str "fill", .str "side"]) (by rfl) T.g_SETTINGS T.t_SETTINGS rfl) (pad_cons (pd_var 0) pad_nil)) (pgd_tup rfl rfl (pgd_cons (pgd_name 2 sc_settings_text.nd) (pgd_cons (pgd_name 3 sc_settings_text.nd) pgd_nil)) rfl)
      (pssd_cons (psd_app 1 (pd_var 2))
      (pssd_cons (psd_app 1 (pd_if (pd_tcmp f_inQ (o_inQ rfl (by decide)) (pd_varT 2) (pd_tup (pad_cons pd_str (pad_cons pd_str pad_nil))) (by rfl)) (pd_fstr1 (pd_fmt (pd_wk (m := .fz) (pd_call (ok_code_of T) hr (by decide) (by rfl) tk (pad_cons (pd_var 3) pad_nil))))) (pd_fstr1 (pd_fmt (pd_varT 3)))))
      (pssd_nil (O := [1]) (O' := [1])))))
      (pssd_cons (psd_ret (pd_sm1 (mi := .tr) PySem.F.slot_str_join PySem.F.type_str_join f_join (m_join rfl (by decide)) pd_str (pd_varT 1)))
      (pssd_nil (O := []) (O' := []))))))

def b_Formatdd_initdd : DEnv → M (DEnv × Fl) :=
  (seqS (setS 9 (tupM (consM (rd 1) (consM (rd 2) (consM (rd 3) (consM (rd 4) (consM (rd 5) (consM (rd 6) (consM (rd 7) (consM (rd 8) nilM)))))))))) (seqS (forS (zipM2 (consM (cM (.tup [(.str "base"), (.str "sign"), (.str "least"), (.str "group"), (.str "mark"), (.str "width"), (.str "fill"), (.str "side")])) (consM (rd 9) nilM))) (tgT ((tgN 10) :: ((tgN 11) :: []))) (seqS (ifS (notM (tvM (callD 2 f_is_setting (consM (rd 10) (consM (rd 11) nilM))))) (seqS (raiseS "InvalidSetting" "setting" (rd 10)) skipS) skipS) skipS)) (seqS (fldS 0 "Format" "base" (rd 1)) (seqS (fldS 0 "Format" "sign" (rd 2)) (seqS (fldS 0 "Format" "least" (rd 3)) (seqS (fldS 0 "Format" "group" (rd 4)) (seqS (fldS 0 "Format" "mark" (rd 5)) (seqS (fldS 0 "Format" "width" (rd 6)) (seqS (fldS 0 "Format" "fill" (rd 7)) (seqS (fldS 0 "Format" "side" (rd 8)) (seqS (fldS 0 "Format" "words" (callD 1 f_settings_text (consM (rd 9) nilM))) skipS)))))))))))
def f_Formatdd_initdd : List D → M D := runI "Format" 12 b_Formatdd_initdd
theorem mk_Format (T : Txt w K mg A) : KMaker P w K mg base 4 "Format" A.cFormat "Format.__init__" s_Formatdd_initdd [("base", scV (.int 10)), ("sign", scV (.str "minus")), ("least", scV (.int 1)), ("group", scV (.int 0)), ("mark", scV (.str ",")), ("width", scV (.int 0)), ("fill", scV (.str " ")), ("side", scV (.str "left"))] ["self", "base", "sign", "least", "group", "mark", "width", "fill", "side"] (spI K (caOf A) (ceOf A) "Format" A.cFormat 9 f_Formatdd_initdd) :=
  have cf := cf_of T
  kmakerD_of (b := b_Formatdd_initdd) T.g_Format T.K_Format sc_Formatdd_initdd rfl rfl (fun f cdv Ar outer s H Hb Xs ρ E q hr tk po =>
    (pssd_cons (psd_set 9 (pd_tup (pad_cons (pd_var 1) (pad_cons (pd_var 2) (pad_cons (pd_var 3) (pad_cons (pd_var 4) (pad_cons (pd_var 5) (pad_cons (pd_var 6) (pad_cons (pd_var 7) (pad_cons (pd_var 8) pad_nil))))))))) sc_Formatdd_initdd.nd)
      (pssd_cons (psd_forZ rfl po rfl (by rfl) T.b_zip (pad_cons (pd_gT (ds := [.str "base", .str "sign", .str "least", .str "group", .str "mark", .str "width", .str "fill", .str "side"]) (by rfl) T.g_SETTINGS T.t_SETTINGS rfl) (pad_cons (pd_var 9) pad_nil)) (pgd_tup rfl rfl (pgd_cons (pgd_name 10 sc_Formatdd_initdd.nd) (pgd_cons (pgd_name 11 sc_Formatdd_initdd.nd) pgd_nil)) rfl)
      (pssd_cons (psd_if (O := [0]) (O' := [0]) (pd_tnot (pd_tval (pd_wk (m := .fz) (pd_call (ok_is_setting T) hr (by decide) (by rfl) tk (pad_cons (pd_var 10) (pad_cons (pd_var 11) pad_nil))))))
      (pssd_cons (psd_raise rfl (r_InvalidSetting T) rfl hr (by decide) tk (by rfl) (pd_varT 10))
      (pssd_nil (O := [0]) (O' := [0])))
      (pssd_nil (O := [0]) (O' := [0])))
      (pssd_nil (O := [0]) (O' := [0]))))
      (pssd_cons (psd_fld (c := "Format") 0 rfl T.cl_Format T.n_Format_base (pd_var 1))
      (pssd_cons (psd_fld (c := "Format") 0 rfl T.cl_Format T.n_Format_sign (pd_var 2))
      (pssd_cons (psd_fld (c := "Format") 0 rfl T.cl_Format T.n_Format_least (pd_var 3))
      (pssd_cons (psd_fld (c := "Format") 0 rfl T.cl_Format T.n_Format_group (pd_var 4))
      (pssd_cons (psd_fld (c := "Format") 0 rfl T.cl_Format T.n_Format_mark (pd_var 5))
      (pssd_cons (psd_fld (c := "Format") 0 rfl T.cl_Format T.n_Format_width (pd_var 6))
      (pssd_cons (psd_fld (c := "Format") 0 rfl T.cl_Format T.n_Format_fill (pd_var 7))
      (pssd_cons (psd_fld (c := "Format") 0 rfl T.cl_Format T.n_Format_side (pd_var 8))
      (pssd_cons (psd_fld (c := "Format") 0 rfl T.cl_Format T.n_Format_words (pd_call (ok_settings_text T) hr (by decide) (by rfl) tk (pad_cons (pd_var 9) pad_nil)))
      (pssd_nil (O := [0]) (O' := [0]))))))))))))))

end

end Fg
set_option Elab.async false
set_option linter.all false
set_option maxRecDepth 100000
set_option maxHeartbeats 4000000
namespace Fg
open PySem PySem.Spec PyProof.Rows L2
local macro_rules | `(tactic| walk_at "hp") => `(tactic| first | assumption | (refine Same.get (by assumption) ?_; walk_at "hp"))
local macro_rules | `(tactic| walk_at "sq") => `(tactic| first | assumption | (exact Or.inr (by assumption)) | (exact Or.inl (by assumption)) | (exact Or.inl (SqL.of (by walk_at "hp"))) | (exact Or.inr (SqT.of (by walk_at "hp"))) | (exact SqL.of (by walk_at "hp")) | (exact SqT.of (by walk_at "hp")))
local macro_rules | `(tactic| walk_at "cl") => `(tactic| first | ((first | show (_ : Int) < _ | show (_ : Int) ≤ _); first | omega | decide) | ((first | show (_ : Nat) < _ | show (_ : Nat) ≤ _); first | with_reducible assumption | (refine sz_le ?_; first | decide | omega | (simp <;> omega)) | (refine sz_lt ?_; first | decide | omega | (simp <;> omega)) | omega | decide | ((with_reducible show List.length _ < _); exact Nat.le_of_ble_eq_true rfl)) | rfl | walk_at "hp" | walk_at "sq" | (refine And.intro (by walk_at "cl") (by walk_at "cl")) | (exact Exists.intro _ (by walk_at "hp")) | (exact Exists.intro _ (Exists.intro _ (by walk_at "hp"))) | (exact Exists.intro _ (Exists.intro _ (And.intro (by walk_at "hp") rfl))) | decide | (exact Or.inl (by walk_at "cl")) | (exact Or.inr (by walk_at "cl")) | omega)
local macro_rules | `(tactic| walk_at "s1") => `(tactic| first | refine And.intro (by walk_at "cl") ?_ | apply Exists.intro)
local macro_rules | `(tactic| walk_at "sx") => `(tactic| repeat walk_at "s1")
local macro_rules | `(tactic| walk_at "si") => `(tactic| first | refine iteY rfl ?_ | refine iteN rfl ?_)
local macro_rules | `(tactic| walk_at "sy") => `(tactic| repeat first | walk_at "s1" | walk_at "si")
variable [TQ]
section
variable {P : Program} {w : World} {K : PySem.W.Frag} {mg : Str → Option Value} {base : Heap} {A : Ad}
def b_check_format : DEnv → M (DEnv × Fl) :=
  (seqS (ifS (notM (tvM (oneM (isCD "Format") (rd 0)))) (seqS (raiseS "NotAFormat" "value" (rd 0)) skipS) skipS) skipS)
def f_check_format : List D → M D := runD 1 b_check_format
theorem ok_check_format (T : Txt w K mg A) : Callee P w K mg base 3 "check_format" ["value"] (spD K (caOf A) (ceOf A) 1 f_check_format) :=
  have cf := cf_of T
  calleeD_of (b := b_check_format) T.F_check_format sc_check_format rfl rfl (fun _ _ _ _ _ _ us hl => match us, hl with | [_], _ => rfl) (fun f cdv Ar outer s H Xs ρ E hr tk po =>
    (pssd_cons (psd_if (O := []) (O' := []) (pd_tnot (pd_tval (pd_isC (n := "Format") rfl cf rfl T.i_Format (pd_varT 0) (fe_g (by rfl) T.v_Format) (by rfl) T.b_isinstance)))
      (pssd_cons (psd_raise rfl (r_NotAFormat T) rfl hr (by decide) tk (by rfl) (pd_varT 0))
      (pssd_nil (O := []) (O' := [])))
      (pssd_nil (O := []) (O' := [])))
      (pssd_nil (O := []) (O' := []))))

def b_check_range : DEnv → M (DEnv × Fl) :=
  (seqS (forS (oneM itT (tupM (consM (tupM (consM (cM (.str "low")) (consM (rd 0) nilM))) (consM (tupM (consM (cM (.str "high")) (consM (rd 1) nilM))) nilM)))) (tgT ((tgN 2) :: ((tgN 3) :: []))) (seqS (ifS (andM (tvM (binM (isNonD true) (rd 3) (cM .non))) (notM (tvM (callD 3 f_is_between (consM (rd 3) (consM (oneM negD (cM (.int 1000000000000))) (consM (cM (.int 1000000000000)) nilM))))))) (seqS (raiseS "InvalidRange" "end" (rd 2)) skipS) skipS) skipS)) (seqS (ifS (andM (tvM (binM (isNonD true) (rd 0) (cM .non))) (andM (tvM (binM (isNonD true) (rd 1) (cM .non))) (tvM (binM ltD (rd 1) (rd 0))))) (seqS (raiseS "InvalidRange" "end" (cM (.str "high"))) skipS) skipS) skipS))
def f_check_range : List D → M D := runD 4 b_check_range
theorem ok_check_range (T : Txt w K mg A) : Callee P w K mg base 3 "check_range" ["low", "high"] (spD K (caOf A) (ceOf A) 2 f_check_range) :=
  have cf := cf_of T
  calleeD_of (b := b_check_range) T.F_check_range sc_check_range rfl rfl (fun _ _ _ _ _ _ us hl => match us, hl with | [_, _], _ => rfl) (fun f cdv Ar outer s H Xs ρ E hr tk po =>
    (pssd_cons (psd_for po rfl (pid_T rfl (pd_tup (pad_cons (pd_tup (pad_cons pd_str (pad_cons (pd_var 0) pad_nil))) (pad_cons (pd_tup (pad_cons pd_str (pad_cons (pd_var 1) pad_nil))) pad_nil)))) (pgd_tup rfl rfl (pgd_cons (pgd_name 2 sc_check_range.nd) (pgd_cons (pgd_name 3 sc_check_range.nd) pgd_nil)) rfl)
      (pssd_cons (psd_if (O := []) (O' := []) (PW.pt (pd_and (pd_tcmp f_notN (o_isN (by decide)) (pd_varT 3) pd_non (nomark _)) (pd_and1 (pd_tnot (pd_tval (pd_wk (m := .fz) (pd_call (ok_is_between T) hr (by decide) (by rfl) tk (pad_cons (pd_var 3) (pad_cons (pd_neg (pd_g (d := (.int 1000000000000)) (by rfl) T.g_MOST_BOUND rfl)) (pad_cons (pd_g (d := (.int 1000000000000)) (by rfl) T.g_MOST_BOUND rfl) pad_nil))))))))))
      (pssd_cons (psd_raise rfl (r_InvalidRange T) rfl hr (by decide) tk (by rfl) (pd_varT 2))
      (pssd_nil (O := []) (O' := [])))
      (pssd_nil (O := []) (O' := [])))
      (pssd_nil (O := []) (O' := []))))
      (pssd_cons (psd_if (O := []) (O' := []) (PW.pt (pd_and (pd_tcmp f_notN (o_isN (by decide)) (pd_varT 0) pd_non (nomark _)) (pd_and (pd_tcmp f_notN (o_isN (by decide)) (pd_varT 1) pd_non (nomark _)) (pd_and1 (pd_tcmp f_lt (o_lt (by decide)) (pd_varT 1) (pd_varT 0) (nomark _))))))
      (pssd_cons (psd_raise rfl (r_InvalidRange T) rfl hr (by decide) tk (by rfl) pd_str)
      (pssd_nil (O := []) (O' := [])))
      (pssd_nil (O := []) (O' := [])))
      (pssd_nil (O := []) (O' := [])))))

def b_Fielddd_initdd : DEnv → M (DEnv × Fl) :=
  (seqS (ifS (notM (tvM (callD 1 f_is_name (consM (rd 1) nilM)))) (seqS (raiseS "InvalidName" "value" (rd 1)) skipS) skipS) (seqS (dropS (callD 1 f_check_format (consM (rd 2) nilM))) (seqS (dropS (callD 2 f_check_range (consM (rd 3) (consM (rd 4) nilM)))) (seqS (fldS 0 "Field" "name" (rd 1)) (seqS (fldS 0 "Field" "pattern" (rd 2)) (seqS (fldS 0 "Field" "low" (rd 3)) (seqS (fldS 0 "Field" "high" (rd 4)) skipS)))))))
def f_Fielddd_initdd : List D → M D := runI "Field" 5 b_Fielddd_initdd
theorem nq_Field (T : Txt w K mg A) : QMaker P w K mg base 4 "Field" A.cField "Field.__init__" s_Fielddd_initdd (([.non, .non] : List D).map scV) ["self", "name", "pattern", "low", "high"] (spI K (caOf A) (ceOf A) "Field" A.cField 5 f_Fielddd_initdd) :=
  have cf := cf_of T
  qmakerD_of (b := b_Fielddd_initdd) T.g_Field T.D_Field sc_Fielddd_initdd rfl rfl (fun f cdv Ar outer s H Hb Xs ρ E q hr tk po =>
    (pssd_cons (psd_if (O := [0]) (O' := [0]) (pd_tnot (pd_tval (pd_wk (m := .fz) (pd_call (ok_is_name T) hr (by decide) (by rfl) tk (pad_cons (pd_var 1) pad_nil)))))
      (pssd_cons (psd_raise rfl (r_InvalidName T) rfl hr (by decide) tk (by rfl) (pd_varT 1))
      (pssd_nil (O := [0]) (O' := [0])))
      (pssd_nil (O := [0]) (O' := [0])))
      (pssd_cons (psd_expr (pd_wk (m := .fz) (pd_call (ok_check_format T) hr (by decide) (by rfl) tk (pad_cons (pd_var 2) pad_nil))))
      (pssd_cons (psd_expr (pd_wk (m := .fz) (pd_call (ok_check_range T) hr (by decide) (by rfl) tk (pad_cons (pd_var 3) (pad_cons (pd_var 4) pad_nil)))))
      (pssd_cons (psd_fld (c := "Field") 0 rfl T.cl_Field T.n_Field_name (pd_var 1))
      (pssd_cons (psd_fld (c := "Field") 0 rfl T.cl_Field T.n_Field_pattern (pd_var 2))
      (pssd_cons (psd_fld (c := "Field") 0 rfl T.cl_Field T.n_Field_low (pd_var 3))
      (pssd_cons (psd_fld (c := "Field") 0 rfl T.cl_Field T.n_Field_high (pd_var 4))
      (pssd_nil (O := [0]) (O' := [0]))))))))))

end

end Fg
set_option Elab.async false
set_option linter.all false
set_option maxRecDepth 100000
set_option maxHeartbeats 4000000
namespace Fg
open PySem PySem.Spec PyProof.Rows L2
local macro_rules | `(tactic| walk_at "hp") => `(tactic| first | assumption | (refine Same.get (by assumption) ?_; walk_at "hp"))
local macro_rules | `(tactic| walk_at "sq") => `(tactic| first | assumption | (exact Or.inr (by assumption)) | (exact Or.inl (by assumption)) | (exact Or.inl (SqL.of (by walk_at "hp"))) | (exact Or.inr (SqT.of (by walk_at "hp"))) | (exact SqL.of (by walk_at "hp")) | (exact SqT.of (by walk_at "hp")))
local macro_rules | `(tactic| walk_at "cl") => `(tactic| first | ((first | show (_ : Int) < _ | show (_ : Int) ≤ _); first | omega | decide) | ((first | show (_ : Nat) < _ | show (_ : Nat) ≤ _); first | with_reducible assumption | (refine sz_le ?_; first | decide | omega | (simp <;> omega)) | (refine sz_lt ?_; first | decide | omega | (simp <;> omega)) | omega | decide | ((with_reducible show List.length _ < _); exact Nat.le_of_ble_eq_true rfl)) | rfl | walk_at "hp" | walk_at "sq" | (refine And.intro (by walk_at "cl") (by walk_at "cl")) | (exact Exists.intro _ (by walk_at "hp")) | (exact Exists.intro _ (Exists.intro _ (by walk_at "hp"))) | (exact Exists.intro _ (Exists.intro _ (And.intro (by walk_at "hp") rfl))) | decide | (exact Or.inl (by walk_at "cl")) | (exact Or.inr (by walk_at "cl")) | omega)
local macro_rules | `(tactic| walk_at "s1") => `(tactic| first | refine And.intro (by walk_at "cl") ?_ | apply Exists.intro)
local macro_rules | `(tactic| walk_at "sx") => `(tactic| repeat walk_at "s1")
local macro_rules | `(tactic| walk_at "si") => `(tactic| first | refine iteY rfl ?_ | refine iteN rfl ?_)
local macro_rules | `(tactic| walk_at "sy") => `(tactic| repeat first | walk_at "s1" | walk_at "si")
variable [TQ]
section
variable {P : Program} {w : World} {K : PySem.W.Frag} {mg : Str → Option Value} {base : Heap} {A : Ad}
def b_check_parts : DEnv → M (DEnv × Fl) :=
  (seqS (ifS (notM (tvM (chainD ltD leD (cM (.int 0)) (callM lenD (consM (rd 0) nilM)) (cM (.int 8))))) (seqS (raiseS "InvalidParts" "index" (cM .non)) skipS) skipS) (seqS (setS 1 (lstM nilM)) (seqS (forS (enumM2 (consM (rd 0) nilM)) (tgT ((tgN 2) :: ((tgN 3) :: []))) (seqS (ifS (tvM (oneM (isCD "Field") (rd 3))) (seqS (ifS (orM (tvM (binM (inQD false) (oneM (fldD "Field" "name") (rd 3)) (rd 1))) (tvM (binM eqD (callM lenD (consM (rd 1) nilM)) (cM (.int 4))))) (seqS (raiseS "InvalidParts" "index" (rd 2)) skipS) skipS) (seqS (appS 1 (oneM (fldD "Field" "name") (rd 3))) skipS)) (seqS (ifS (notM (tvM (callD 1 f_is_word (consM (rd 3) nilM)))) (seqS (raiseS "InvalidParts" "index" (rd 2)) skipS) skipS) skipS)) skipS)) (seqS (ifS (tvM (binM (eqBD false) (rd 1) (lstM nilM))) (seqS (raiseS "InvalidParts" "index" (cM .non)) skipS) skipS) skipS))))
def f_check_parts : List D → M D := runD 4 b_check_parts
theorem ok_check_parts (T : Txt w K mg A) : Callee P w K mg base 3 "check_parts" ["parts"] (spD K (caOf A) (ceOf A) 1 f_check_parts) :=
  have cf := cf_of T
  calleeD_of (b := b_check_parts) T.F_check_parts sc_check_parts rfl rfl (fun _ _ _ _ _ _ us hl => match us, hl with | [_], _ => rfl) (fun f cdv Ar outer s H Xs ρ E hr tk po =>
    (pssd_cons (psd_if (O := []) (O' := []) (pd_tnot (pd_tchain f_lt f_le (o_lt (by decide)) (o_le (by decide)) pd_int (pd_callB (mi := .tr) f_len (c_len rfl (by decide)) (by rfl) T.b_len (by decide +kernel) (pad_cons (pd_varT 0) pad_nil)) (pd_g (d := (.int 8)) (by rfl) T.g_MOST_PARTS rfl)))
      (pssd_cons (psd_raise rfl (r_InvalidParts T) rfl hr (by decide) tk (by rfl) pd_non)
      (pssd_nil (O := []) (O' := [])))
      (pssd_nil (O := []) (O' := [])))
      (pssd_cons (psd_new 1 (pd_lst pad_nil) sc_check_parts.nd)
      (pssd_cons (psd_forE rfl po rfl (by rfl) T.b_enumerate (pad_cons (pd_var 0) pad_nil) (pgd_tup rfl rfl (pgd_cons (pgd_name 2 sc_check_parts.nd) (pgd_cons (pgd_name 3 sc_check_parts.nd) pgd_nil)) rfl)
      (pssd_cons (psd_if (O := [1]) (O' := [1]) (pd_tval (pd_isC (n := "Field") rfl cf rfl T.i_Field (pd_varT 3) (fe_g (by rfl) T.v_Field) (by rfl) T.b_isinstance))
      (pssd_cons (psd_if (O := [1]) (O' := [1]) (PW.pt (pd_or (pd_tcmp f_inQ (o_inQ rfl (by decide)) (pd_fld (c := "Field") rfl T.cl_Field T.n_Field_name (pd_varT 3)) (pd_varT 1) (by rfl)) (pd_or1 (pd_tcmp op_eq (o_eq (by decide)) (pd_callB (mi := .tr) f_len (c_len rfl (by decide)) (by rfl) T.b_len (by decide +kernel) (pad_cons (pd_varT 1) pad_nil)) (pd_g (d := (.int 4)) (by rfl) T.g_MOST_FIELDS rfl) (nomark _)))))
      (pssd_cons (psd_raise rfl (r_InvalidParts T) rfl hr (by decide) tk (by rfl) (pd_varT 2))
      (pssd_nil (O := [1]) (O' := [1])))
      (pssd_nil (O := [1]) (O' := [1])))
      (pssd_cons (psd_app 1 (pd_fld (c := "Field") rfl T.cl_Field T.n_Field_name (pd_var 3)))
      (pssd_nil (O := [1]) (O' := [1]))))
      (pssd_cons (psd_if (O := [1]) (O' := [1]) (pd_tnot (pd_tval (pd_wk (m := .fz) (pd_call (ok_is_word T) hr (by decide) (by rfl) tk (pad_cons (pd_var 3) pad_nil)))))
      (pssd_cons (psd_raise rfl (r_InvalidParts T) rfl hr (by decide) tk (by rfl) (pd_varT 2))
      (pssd_nil (O := [1]) (O' := [1])))
      (pssd_nil (O := [1]) (O' := [1])))
      (pssd_nil (O := [1]) (O' := [1]))))
      (pssd_nil (O := [1]) (O' := [1]))))
      (pssd_cons (psd_if (O := [1]) (O' := [1]) (pd_tcmp (f_eqB hr.units) (o_eqB rfl (by decide)) (pd_varT 1) (pd_wk (m := .nw) (pd_lst pad_nil)) (nomark _))
      (pssd_cons (psd_raise rfl (r_InvalidParts T) rfl hr (by decide) tk (by rfl) pd_non)
      (pssd_nil (O := [1]) (O' := [1])))
      (pssd_nil (O := [1]) (O' := [1])))
      (pssd_nil (O := [1]) (O' := [])))))))

def b_joined : DEnv → M (DEnv × Fl) :=
  (seqS (setS 1 (lstM nilM)) (seqS (forS (oneM itT (rd 0)) (tgN 2) (seqS (ifS (andM (tvM (binM (eqBD true) (rd 1) (lstM nilM))) (andM (tvM (oneM (isTyD "str") (rd 2))) (tvM (oneM (isTyD "str") (binM ixD (rd 1) (oneM negD (cM (.int 1)))))))) (seqS (lputS 1 (oneM negD (cM (.int 1))) (binM addD (ixOM 1 (oneM negD (cM (.int 1)))) (rd 2))) skipS) (seqS (appS 1 (rd 2)) skipS)) skipS)) (seqS (retS (callM tupleD (consM (rd 1) nilM))) skipS)))
def f_joined : List D → M D := runD 3 b_joined
theorem ok_joined (T : Txt w K mg A) : Callee P w K mg base 1 "joined" ["parts"] (spD K (caOf A) (ceOf A) 1 f_joined) :=
  have cf := cf_of T
  calleeD_of (b := b_joined) T.F_joined sc_joined rfl rfl (fun _ _ _ _ _ _ us hl => match us, hl with | [_], _ => rfl) (fun f cdv Ar outer s H Xs ρ E hr tk po =>
    (pssd_cons (psd_new 1 (pd_lst pad_nil) sc_joined.nd)
      (pssd_cons (psd_for po rfl (pid_T rfl (pd_var 0)) (pgd_name 2 sc_joined.nd)
      (pssd_cons (psd_if (O := [1]) (O' := [1]) (PW.pt (pd_and (pd_tcmp (f_neB hr.units) (o_eqB rfl (by decide)) (pd_varT 1) (pd_wk (m := .nw) (pd_lst pad_nil)) (nomark _)) (pd_and (pd_tval (pd_isTy (n := "str") rfl cf (by decide) (pd_varT 2) (pe_bltn (v := .ty "str") (by rfl) T.b_str (by decide +kernel) rfl) (by rfl) T.b_isinstance)) (pd_and1 (pd_tval (pd_isTy (n := "str") rfl cf (by decide) (pd_ix (mi := .tr) f_ix (o_ix rfl (by decide)) (pd_varT 1) (pd_neg pd_int) (fun _ _ => rfl)) (pe_bltn (v := .ty "str") (by rfl) T.b_str (by decide +kernel) rfl) (by rfl) T.b_isinstance))))))
      (pssd_cons (psd_lput 1 (pd_neg pd_int) (pd_op (mi := .fz) f_add (o_add rfl (by decide)) (pd_ixO 1 rfl (pd_neg pd_int) (fun _ _ => rfl)) (pd_var 2)))
      (pssd_nil (O := [1]) (O' := [1])))
      (pssd_cons (psd_app 1 (pd_var 2))
      (pssd_nil (O := [1]) (O' := [1]))))
      (pssd_nil (O := [1]) (O' := [1]))))
      (pssd_cons (psd_ret (pd_callTy (mi := .tr) f_tuple (c_tuple rfl (by decide)) (by rfl) T.b_tuple (by decide +kernel) (pad_cons (pd_varT 1) pad_nil)))
      (pssd_nil (O := []) (O' := []))))))

def b_parts_of : DEnv → M (DEnv × Fl) :=
  (seqS (retS (ifE (tvM (oneM (isCD "Line") (rd 0))) (oneM (fldD "Line" "parts") (rd 0)) (tupM (consM (rd 0) nilM)))) skipS)
def f_parts_of : List D → M D := runD 1 b_parts_of
theorem ok_parts_of (T : Txt w K mg A) : Callee P w K mg base 1 "parts_of" ["value"] (spD K (caOf A) (ceOf A) 1 f_parts_of) :=
  have cf := cf_of T
  calleeD_of (b := b_parts_of) T.F_parts_of sc_parts_of rfl rfl (fun _ _ _ _ _ _ us hl => match us, hl with | [_], _ => rfl) (fun f cdv Ar outer s H Xs ρ E hr tk po =>
    (pssd_cons (psd_ret (pd_if (pd_tval (pd_isC (n := "Line") rfl cf rfl T.i_Line (pd_varT 0) (fe_g (by rfl) T.v_Line) (by rfl) T.b_isinstance)) (pd_fld (c := "Line") rfl T.cl_Line T.n_Line_parts (pd_varT 0)) (pd_tup (pad_cons (pd_varT 0) pad_nil))))
      (pssd_nil (O := []) (O' := []))))

def b_Linedd_initdd : DEnv → M (DEnv × Fl) :=
  (seqS (dropS (callD 1 f_check_parts (consM (rd 1) nilM))) (seqS (fldS 0 "Line" "parts" (callD 1 f_joined (consM (rd 1) nilM))) (seqS (fldS 0 "Line" "fields" (callM tupleD (consM (lcD [2] (oneM itT (oneM (fldD "Line" "parts") (rd 0))) (tgN 2) (tvM (oneM (isCD "Field") (rd 2))) (rd 2)) nilM))) (seqS (fldS 0 "Line" "names" (callM tupleD (consM (lcD [3] (oneM itT (oneM (fldD "Line" "fields") (rd 0))) (tgN 3) yesM (oneM (fldD "Field" "name") (rd 3))) nilM))) skipS))))
def f_Linedd_initdd : List D → M D := runI "Line" 4 b_Linedd_initdd
theorem nw_Line (T : Txt w K mg A) : StarMk P w K mg base 4 "Line" A.cLine (spR (spI K (caOf A) (ceOf A) "Line" A.cLine 2 f_Linedd_initdd)) :=
  have cf := cf_of T
  starD_of (m := 0) (b := b_Linedd_initdd) T.g_Line T.D_Line sc_Linedd_initdd (fun kV doc pm an cdv ct => StX.bind_star1 (B := fun l => bindArgs (PySem.W.fnOf "__init__" "Line.__init__" (defArgs s_Linedd_initdd) (defBody s_Linedd_initdd) (defScope s_Linedd_initdd) .none kV doc pm an cdv ct) ⟨l, []⟩) (fun _ => rfl) (fun _ _ _ => rfl)) rfl (fun f cdv Ar outer s H Hb Xs ρ E q hr tk po =>
    (pssd_cons (psd_expr (pd_wk (m := .fz) (pd_call (ok_check_parts T) hr (by decide) (by rfl) tk (pad_cons (pd_var 1) pad_nil))))
      (pssd_cons (psd_fld (c := "Line") 0 rfl T.cl_Line T.n_Line_parts (pd_call (ok_joined T) hr (by decide) (by rfl) tk (pad_cons (pd_var 1) pad_nil)))
      (pssd_cons (psd_fld (c := "Line") 0 rfl T.cl_Line T.n_Line_fields (pd_callTy (mi := .fz) f_tuple (c_tuple rfl (by decide)) (by rfl) T.b_tuple (by decide +kernel) (pad_cons (pd_fz (pd_lc (own := [("part", 2)]) (by rfl) sc_Linedd_initdd.nd (pid_T rfl (pd_fldO (c := "Line") 0 rfl T.cl_Line T.n_Line_parts)) (blkOk_by (own := [("part", 2)]) (N := ["self", "parts", "part", "field"]) (sc := defScope s_Linedd_initdd) (by decide +kernel)) (by decide) (fun _ _ _ _ _ _ => (pgc_name 2 sc_Linedd_initdd.nd)) (fun _ _ _ _ _ _ => (ptsd_one (pd_tval (pd_isC (n := "Field") rfl cf rfl T.i_Field (pd_varT 2) (fe_g (by rfl) T.v_Field) (by rfl) T.b_isinstance)))) (fun _ _ _ _ _ _ => (pd_var 2)))) pad_nil)))
      (pssd_cons (psd_fld (c := "Line") 0 rfl T.cl_Line T.n_Line_names (pd_callTy (mi := .fz) f_tuple (c_tuple rfl (by decide)) (by rfl) T.b_tuple (by decide +kernel) (pad_cons (pd_fz (pd_lc (own := [("field", 3)]) (by rfl) sc_Linedd_initdd.nd (pid_T rfl (pd_fldO (c := "Line") 0 rfl T.cl_Line T.n_Line_fields)) (blkOk_by (own := [("field", 3)]) (N := ["self", "parts", "part", "field"]) (sc := defScope s_Linedd_initdd) (by decide +kernel)) (by decide) (fun _ _ _ _ _ _ => (pgc_name 3 sc_Linedd_initdd.nd)) (fun _ _ _ _ _ _ => ptsd_nil) (fun _ _ _ _ _ _ => (pd_fld (c := "Field") rfl T.cl_Field T.n_Field_name (pd_var 3))))) pad_nil)))
      (pssd_nil (O := [0]) (O' := [0])))))))

def b_Linedd_adddd : DEnv → M (DEnv × Fl) :=
  (seqS (setS 2 (callD 1 f_parts_of (consM (rd 1) nilM))) (seqS (retS (newSD f_Linedd_initdd (starM (oneM (fldD "Line" "parts") (rd 0)) (starM (rd 2) nilM)))) skipS))
def f_Linedd_adddd : List D → M D := runD 3 b_Linedd_adddd
theorem ok_Linedd_adddd (T : Txt w K mg A) : MCallee P w K mg base 6 A.cLine "__add__" ["self", "other"] (spD K (caOf A) (ceOf A) 2 f_Linedd_adddd) :=
  have cf := cf_of T
  mcalleeD_of (b := b_Linedd_adddd) T.cl_Line T.M_Linedd_adddd sc_Linedd_adddd rfl rfl (fun _ _ _ _ _ _ us hl => match us, hl with | [_, _], _ => rfl) (fun f cdv Ar outer s H Xs ρ E hr tk po =>
    (pssd_cons (psd_set 2 (pd_call (ok_parts_of T) hr (by decide) (by rfl) tk (pad_cons (pd_var 1) pad_nil)) sc_Linedd_adddd.nd)
      (pssd_cons (psd_ret (pd_wk (m := .nw) (pd_newS3 rfl (nw_Line T) hr (by decide) (by rfl) tk (pad_star rfl (pd_fld (c := "Line") rfl T.cl_Line T.n_Line_parts (pd_var 0)) (pad_star rfl (pd_var 2) pad_nil)))))
      (pssd_nil (O := []) (O' := [])))))

def b_Linedd_radddd : DEnv → M (DEnv × Fl) :=
  (seqS (retS (newSD f_Linedd_initdd (consM (rd 1) (starM (oneM (fldD "Line" "parts") (rd 0)) nilM)))) skipS)
def f_Linedd_radddd : List D → M D := runD 2 b_Linedd_radddd
theorem ok_Linedd_radddd (T : Txt w K mg A) : MCallee P w K mg base 6 A.cLine "__radd__" ["self", "other"] (spD K (caOf A) (ceOf A) 2 f_Linedd_radddd) :=
  have cf := cf_of T
  mcalleeD_of (b := b_Linedd_radddd) T.cl_Line T.M_Linedd_radddd sc_Linedd_radddd rfl rfl (fun _ _ _ _ _ _ us hl => match us, hl with | [_, _], _ => rfl) (fun f cdv Ar outer s H Xs ρ E hr tk po =>
    (pssd_cons (psd_ret (pd_wk (m := .nw) (pd_newS2 rfl (nw_Line T) hr (by decide) (by rfl) tk (pad_cons (pd_var 1) (pad_star rfl (pd_fld (c := "Line") rfl T.cl_Line T.n_Line_parts (pd_var 0)) pad_nil)))))
      (pssd_nil (O := []) (O' := []))))

def b_Linedd_lendd : DEnv → M (DEnv × Fl) :=
  (seqS (retS (callM lenD (consM (oneM (fldD "Line" "parts") (rd 0)) nilM))) skipS)
def f_Linedd_lendd : List D → M D := runD 1 b_Linedd_lendd
theorem ok_Linedd_lendd (T : Txt w K mg A) : MCallee P w K mg base 1 A.cLine "__len__" ["self"] (spD K (caOf A) (ceOf A) 1 f_Linedd_lendd) :=
  have cf := cf_of T
  mcalleeD_of (b := b_Linedd_lendd) T.cl_Line T.M_Linedd_lendd sc_Linedd_lendd rfl rfl (fun _ _ _ _ _ _ us hl => match us, hl with | [_], _ => rfl) (fun f cdv Ar outer s H Xs ρ E hr tk po =>
    (pssd_cons (psd_ret (pd_callB (mi := .tr) f_len (c_len rfl (by decide)) (by rfl) T.b_len (by decide +kernel) (pad_cons (pd_fld (c := "Line") rfl T.cl_Line T.n_Line_parts (pd_varT 0)) pad_nil)))
      (pssd_nil (O := []) (O' := []))))

end

end Fg
set_option Elab.async false
set_option linter.all false
set_option maxRecDepth 100000
set_option maxHeartbeats 4000000
namespace Fg
open PySem PySem.Spec PyProof.Rows L2
local macro_rules | `(tactic| walk_at "hp") => `(tactic| first | assumption | (refine Same.get (by assumption) ?_; walk_at "hp"))
local macro_rules | `(tactic| walk_at "sq") => `(tactic| first | assumption | (exact Or.inr (by assumption)) | (exact Or.inl (by assumption)) | (exact Or.inl (SqL.of (by walk_at "hp"))) | (exact Or.inr (SqT.of (by walk_at "hp"))) | (exact SqL.of (by walk_at "hp")) | (exact SqT.of (by walk_at "hp")))
local macro_rules | `(tactic| walk_at "cl") => `(tactic| first | ((first | show (_ : Int) < _ | show (_ : Int) ≤ _); first | omega | decide) | ((first | show (_ : Nat) < _ | show (_ : Nat) ≤ _); first | with_reducible assumption | (refine sz_le ?_; first | decide | omega | (simp <;> omega)) | (refine sz_lt ?_; first | decide | omega | (simp <;> omega)) | omega | decide | ((with_reducible show List.length _ < _); exact Nat.le_of_ble_eq_true rfl)) | rfl | walk_at "hp" | walk_at "sq" | (refine And.intro (by walk_at "cl") (by walk_at "cl")) | (exact Exists.intro _ (by walk_at "hp")) | (exact Exists.intro _ (Exists.intro _ (by walk_at "hp"))) | (exact Exists.intro _ (Exists.intro _ (And.intro (by walk_at "hp") rfl))) | decide | (exact Or.inl (by walk_at "cl")) | (exact Or.inr (by walk_at "cl")) | omega)
local macro_rules | `(tactic| walk_at "s1") => `(tactic| first | refine And.intro (by walk_at "cl") ?_ | apply Exists.intro)
local macro_rules | `(tactic| walk_at "sx") => `(tactic| repeat walk_at "s1")
local macro_rules | `(tactic| walk_at "si") => `(tactic| first | refine iteY rfl ?_ | refine iteN rfl ?_)
local macro_rules | `(tactic| walk_at "sy") => `(tactic| repeat first | walk_at "s1" | walk_at "si")
variable [TQ]
section
variable {P : Program} {w : World} {K : PySem.W.Frag} {mg : Str → Option Value} {base : Heap} {A : Ad}
def b_l_spoon : DEnv → M (DEnv × Fl) :=
  (seqS (ifS (tvM (binM gtD (binM ixMD (rd 0) (cM (.int 0))) (cM (.int 0)))) (seqS (setS 2 (binM modD (callM intD (consM (binM ixMD (rd 0) (cM (.int 0))) nilM)) (rd 1))) (seqS (mputS 0 (cM (.int 0)) (binM fdivD (callM intD (consM (binM ixMD (rd 0) (cM (.int 0))) nilM)) (rd 1))) (seqS (retS (rd 2)) skipS))) skipS) (seqS (mputS 0 (cM (.int 1)) (binM modD (callM intD (consM (binM addD (binM addD (binM mulD (binM ixMD (rd 0) (cM (.int 1))) (cM (.int 1597))) (binM mulD (binM fdivD (binM ixMD (rd 0) (cM (.int 1))) (cM (.int 8191))) (cM (.int 29)))) (cM (.int 51749))) nilM)) (cM (.int 2038074743)))) (seqS (retS (binM modD (callM intD (consM (binM fdivD (binM ixMD (rd 0) (cM (.int 1))) (cM (.int 1021))) nilM)) (rd 1))) skipS)))
def f_l_spoon : List D → M D := runD 3 b_l_spoon
theorem ok_l_spoon (T : Txt w K mg A) : Callee P w K mg base 1 "_law_spoon" ["_law_pot_here", "_law_wide"] (spD K (caOf A) (ceOf A) 2 f_l_spoon) :=
  have cf := cf_of T
  calleeD_of (b := b_l_spoon) T.F_l_spoon sc_l_spoon rfl rfl (fun _ _ _ _ _ _ us hl => match us, hl with | [_, _], _ => rfl) (fun f cdv Ar outer s H Xs ρ E hr tk po =>
    (pssd_cons (psd_if (O := []) (O' := []) (pd_tcmp f_gt (o_gt (by decide)) (pd_ixM rfl (pd_varT 0) pd_int (fun _ _ => rfl)) pd_int (nomark _))
      (pssd_cons (psd_set 2 (pd_op (mi := .tr) f_mod (o_mod (by decide)) (pd_callTy (mi := .tr) f_int (c_int (by decide)) (by rfl) T.b_int (by decide +kernel) (pad_cons (pd_ixM rfl (pd_varT 0) pd_int (fun _ _ => rfl)) pad_nil)) (pd_varT 1)) sc_l_spoon.nd)
      (pssd_cons (psd_mput 0 pd_int (pd_op (mi := .tr) f_fdiv (o_fdiv (by decide)) (pd_callTy (mi := .tr) f_int (c_int (by decide)) (by rfl) T.b_int (by decide +kernel) (pad_cons (pd_ixM rfl (pd_varT 0) pd_int (fun _ _ => rfl)) pad_nil)) (pd_varT 1)))
      (pssd_cons (psd_ret (pd_varT 2))
      (pssd_nil (O := []) (O' := [])))))
      (pssd_nil (O := []) (O' := [])))
      (pssd_cons (psd_mput 0 pd_int (pd_op (mi := .tr) f_mod (o_mod (by decide)) (pd_callTy (mi := .tr) f_int (c_int (by decide)) (by rfl) T.b_int (by decide +kernel) (pad_cons (pd_op (mi := .tr) f_add (o_add rfl (by decide)) (pd_op (mi := .tr) f_add (o_add rfl (by decide)) (pd_op (mi := .tr) f_mul (o_mul (by decide)) (pd_ixM rfl (pd_varT 0) pd_int (fun _ _ => rfl)) pd_int) (pd_op (mi := .tr) f_mul (o_mul (by decide)) (pd_op (mi := .tr) f_fdiv (o_fdiv (by decide)) (pd_ixM rfl (pd_varT 0) pd_int (fun _ _ => rfl)) pd_int) pd_int)) pd_int) pad_nil)) pd_int))
      (pssd_cons (psd_ret (pd_op (mi := .tr) f_mod (o_mod (by decide)) (pd_callTy (mi := .tr) f_int (c_int (by decide)) (by rfl) T.b_int (by decide +kernel) (pad_cons (pd_op (mi := .tr) f_fdiv (o_fdiv (by decide)) (pd_ixM rfl (pd_varT 0) pd_int (fun _ _ => rfl)) pd_int) pad_nil)) (pd_varT 1)))
      (pssd_nil (O := []) (O' := []))))))

def b_l_of : DEnv → M (DEnv × Fl) :=
  (seqS (retS (binM ixD (rd 1) (callD 2 f_l_spoon (consM (rd 0) (consM (callM lenD (consM (rd 1) nilM)) nilM))))) skipS)
def f_l_of : List D → M D := runD 2 b_l_of
theorem ok_l_of (T : Txt w K mg A) : Callee P w K mg base 2 "_law_of" ["_law_pot_here", "_law_things"] (spD K (caOf A) (ceOf A) 2 f_l_of) :=
  have cf := cf_of T
  calleeD_of (b := b_l_of) T.F_l_of sc_l_of rfl rfl (fun _ _ _ _ _ _ us hl => match us, hl with | [_, _], _ => rfl) (fun f cdv Ar outer s H Xs ρ E hr tk po =>
    (pssd_cons (psd_ret (pd_ix (mi := .tr) f_ix (o_ix rfl (by decide)) (pd_varT 1) (pd_wk (m := .fz) (pd_call (ok_l_spoon T) hr (by decide) (by rfl) tk (pad_cons (pd_var 0) (pad_cons (pd_callB (mi := .tr) f_len (c_len rfl (by decide)) (by rfl) T.b_len (by decide +kernel) (pad_cons (pd_varT 1) pad_nil)) pad_nil)))) (fun _ _ => rfl)))
      (pssd_nil (O := []) (O' := []))))

def b_l_signs : DEnv → M (DEnv × Fl) :=
  (seqS (retS (cM (.str " !\"#$&'()*+,-./0123456789:;<=>?@ABCDEFGHIJKLMNOPQRSTUVWXYZ[\\]^_`abcdefghijklmnopqrstuvwxyz{|}~"))) skipS)
def f_l_signs : List D → M D := runD 0 b_l_signs
theorem ok_l_signs (T : Txt w K mg A) : Callee P w K mg base 1 "_law_signs" [] (spD K (caOf A) (ceOf A) 0 f_l_signs) :=
  have cf := cf_of T
  calleeD_of (b := b_l_signs) T.F_l_signs sc_l_signs rfl rfl (fun _ _ _ _ _ _ us hl => match us, hl with | [], _ => rfl) (fun f cdv Ar outer s H Xs ρ E hr tk po =>
    (pssd_cons (psd_ret pd_str)
      (pssd_nil (O := []) (O' := []))))

def b_l_sign : DEnv → M (DEnv × Fl) :=
  (seqS (ifS (tvM (binM eqD (callD 2 f_l_spoon (consM (rd 0) (consM (cM (.int 2)) nilM))) (cM (.int 0)))) (seqS (retS (binM ixD (callD 0 f_l_signs nilM) (callD 2 f_l_spoon (consM (rd 0) (consM (cM (.int 94)) nilM))))) skipS) skipS) (seqS (retS (callD 2 f_l_of (consM (rd 0) (consM (lstM (consM (cM (.str " ")) (consM (cM (.str "0")) (consM (cM (.str "1")) (consM (cM (.str "-")) (consM (cM (.str "+")) (consM (cM (.str ",")) (consM (cM (.str ".")) (consM (cM (.str "9")) (consM (cM (.str "a")) (consM (cM (.str "*")) (consM (cM (.str "/")) (consM (cM (.str "5")) (consM (cM (.str "&")) (consM (cM (.str "~")) nilM))))))))))))))) nilM)))) skipS))
def f_l_sign : List D → M D := runD 1 b_l_sign
theorem ok_l_sign (T : Txt w K mg A) : Callee P w K mg base 3 "_law_sign" ["_law_pot_here"] (spD K (caOf A) (ceOf A) 1 f_l_sign) :=
  have cf := cf_of T
  calleeD_of (b := b_l_sign) T.F_l_sign sc_l_sign rfl rfl (fun _ _ _ _ _ _ us hl => match us, hl with | [_], _ => rfl) (fun f cdv Ar outer s H Xs ρ E hr tk po =>
    (pssd_cons (psd_if (O := []) (O' := []) (pd_tcmp op_eq (o_eq (by decide)) (pd_wk (m := .fz) (pd_call (ok_l_spoon T) hr (by decide) (by rfl) tk (pad_cons (pd_var 0) (pad_cons pd_int pad_nil)))) pd_int (nomark _))
      (pssd_cons (psd_ret (pd_ix (mi := .tr) f_ix (o_ix rfl (by decide)) (pd_wk (m := .fz) (pd_call0 (ok_l_signs T) hr (by decide) (by rfl) tk)) (pd_wk (m := .fz) (pd_call (ok_l_spoon T) hr (by decide) (by rfl) tk (pad_cons (pd_var 0) (pad_cons pd_int pad_nil)))) (fun _ _ => rfl)))
      (pssd_nil (O := []) (O' := [])))
      (pssd_nil (O := []) (O' := [])))
      (pssd_cons (psd_ret (pd_wk (m := .fz) (pd_call (ok_l_of T) hr (by decide) (by rfl) tk (pad_cons (pd_var 0) (pad_cons (pd_fz (pd_lst (pad_cons pd_str (pad_cons pd_str (pad_cons pd_str (pad_cons pd_str (pad_cons pd_str (pad_cons pd_str (pad_cons pd_str (pad_cons pd_str (pad_cons pd_str (pad_cons pd_str (pad_cons pd_str (pad_cons pd_str (pad_cons pd_str (pad_cons pd_str pad_nil)))))))))))))))) pad_nil)))))
      (pssd_nil (O := []) (O' := [])))))

def b_l_shape : DEnv → M (DEnv × Fl) :=
  (seqS (setS 1 (callD 2 f_l_spoon (consM (rd 0) (consM (cM (.int 3)) nilM)))) (seqS (setS 2 (dispM (((cM (.str "base")), (ifE (tvM (binM eqD (rd 1) (cM (.int 0)))) (binM addD (cM (.int 2)) (callD 2 f_l_spoon (consM (rd 0) (consM (cM (.int 15)) nilM)))) (callD 2 f_l_of (consM (rd 0) (consM (lstM (consM (cM (.int 10)) (consM (cM (.int 10)) (consM (cM (.int 10)) (consM (cM (.int 2)) (consM (cM (.int 3)) (consM (cM (.int 16)) nilM))))))) nilM))))) :: []))) (seqS (asgS (callD 2 f_l_of (consM (rd 0) (consM (lstM (consM (cM (.str "minus")) (consM (cM (.str "minus")) (consM (cM (.str "plus")) (consM (cM (.str "blank")) nilM))))) nilM))) (tgD 2 (cM (.str "sign")))) (seqS (asgS (ifE (tvM (binM eqD (rd 1) (cM (.int 1)))) (binM addD (cM (.int 1)) (callD 2 f_l_spoon (consM (rd 0) (consM (cM (.int 12)) nilM)))) (callD 2 f_l_of (consM (rd 0) (consM (lstM (consM (cM (.int 1)) (consM (cM (.int 1)) (consM (cM (.int 2)) (consM (cM (.int 3)) nilM))))) nilM)))) (tgD 2 (cM (.str "least")))) (seqS (asgS (tupM (consM (callD 2 f_l_of (consM (rd 0) (consM (lstM (consM (cM (.int 0)) (consM (cM (.int 0)) (consM (cM (.int 1)) (consM (cM (.int 2)) (consM (cM (.int 3)) (consM (cM (.int 4)) nilM))))))) nilM))) (consM (callD 1 f_l_sign (consM (rd 0) nilM)) nilM))) (tgT ((tgD 2 (cM (.str "group"))) :: ((tgD 2 (cM (.str "mark"))) :: [])))) (seqS (asgS (ifE (tvM (binM eqD (rd 1) (cM (.int 2)))) (callD 2 f_l_spoon (consM (rd 0) (consM (cM (.int 13)) nilM))) (callD 2 f_l_of (consM (rd 0) (consM (lstM (consM (cM (.int 0)) (consM (cM (.int 0)) (consM (cM (.int 2)) (consM (cM (.int 3)) (consM (cM (.int 4)) (consM (cM (.int 6)) nilM))))))) nilM)))) (tgD 2 (cM (.str "width")))) (seqS (asgS (tupM (consM (callD 1 f_l_sign (consM (rd 0) nilM)) (consM (callD 2 f_l_of (consM (rd 0) (consM (lstM (consM (cM (.str "left")) (consM (cM (.str "right")) (consM (cM (.str "both")) (consM (cM (.str "inner")) nilM))))) nilM))) nilM))) (tgT ((tgD 2 (cM (.str "fill"))) :: ((tgD 2 (cM (.str "side"))) :: [])))) (seqS (retS (rd 2)) skipS))))))))
def f_l_shape : List D → M D := runD 3 b_l_shape
theorem ok_l_shape (T : Txt w K mg A) : Callee P w K mg base 4 "_law_shape" ["_law_pot_here"] (spD K (caOf A) (ceOf A) 1 f_l_shape) :=
  have cf := cf_of T
  calleeD_of (b := b_l_shape) T.F_l_shape sc_l_shape rfl rfl (fun _ _ _ _ _ _ us hl => match us, hl with | [_], _ => rfl) (fun f cdv Ar outer s H Xs ρ E hr tk po =>
    (pssd_cons (psd_set 1 (pd_call (ok_l_spoon T) hr (by decide) (by rfl) tk (pad_cons (pd_var 0) (pad_cons pd_int pad_nil))) sc_l_shape.nd)
      (pssd_cons (psd_new 2 (pd_disp (pds_cons (fun _ => pd_str) (fun _ => (pd_if (pd_tcmp op_eq (o_eq (by decide)) (pd_varT 1) pd_int (nomark _)) (pd_op (mi := .fz) f_add (o_add rfl (by decide)) pd_int (pd_call (ok_l_spoon T) hr (by decide) (by rfl) takes0 (pad_cons (pd_var 0) (pad_cons pd_int pad_nil)))) (pd_call (ok_l_of T) hr (by decide) (by rfl) takes0 (pad_cons (pd_var 0) (pad_cons (pd_fz (pd_lst (pad_cons pd_int (pad_cons pd_int (pad_cons pd_int (pad_cons pd_int (pad_cons pd_int (pad_cons pd_int pad_nil)))))))) pad_nil))))) pds_nil) rfl rfl (by decide) (by decide)) sc_l_shape.nd)
      (pssd_cons (psd_asg (pd_call (ok_l_of T) hr (by decide) (by rfl) tk (pad_cons (pd_var 0) (pad_cons (pd_fz (pd_lst (pad_cons pd_str (pad_cons pd_str (pad_cons pd_str (pad_cons pd_str pad_nil)))))) pad_nil))) (pgd_dput 2 (hu_of hr) pd_str))
      (pssd_cons (psd_asg (pd_if (pd_tcmp op_eq (o_eq (by decide)) (pd_varT 1) pd_int (nomark _)) (pd_op (mi := .fz) f_add (o_add rfl (by decide)) pd_int (pd_call (ok_l_spoon T) hr (by decide) (by rfl) tk (pad_cons (pd_var 0) (pad_cons pd_int pad_nil)))) (pd_call (ok_l_of T) hr (by decide) (by rfl) tk (pad_cons (pd_var 0) (pad_cons (pd_fz (pd_lst (pad_cons pd_int (pad_cons pd_int (pad_cons pd_int (pad_cons pd_int pad_nil)))))) pad_nil)))) (pgd_dput 2 (hu_of hr) pd_str))
      (pssd_cons (psd_asg (pd_tup (pad_cons (pd_call (ok_l_of T) hr (by decide) (by rfl) tk (pad_cons (pd_var 0) (pad_cons (pd_fz (pd_lst (pad_cons pd_int (pad_cons pd_int (pad_cons pd_int (pad_cons pd_int (pad_cons pd_int (pad_cons pd_int pad_nil)))))))) pad_nil))) (pad_cons (pd_call (ok_l_sign T) hr (by decide) (by rfl) tk (pad_cons (pd_var 0) pad_nil)) pad_nil))) (pgd_tup rfl rfl (pgd_cons (pgd_dput 2 (hu_of hr) pd_str) (pgd_cons (pgd_dput 2 (hu_of hr) pd_str) pgd_nil)) rfl))
      (pssd_cons (psd_asg (pd_if (pd_tcmp op_eq (o_eq (by decide)) (pd_varT 1) pd_int (nomark _)) (pd_call (ok_l_spoon T) hr (by decide) (by rfl) tk (pad_cons (pd_var 0) (pad_cons pd_int pad_nil))) (pd_call (ok_l_of T) hr (by decide) (by rfl) tk (pad_cons (pd_var 0) (pad_cons (pd_fz (pd_lst (pad_cons pd_int (pad_cons pd_int (pad_cons pd_int (pad_cons pd_int (pad_cons pd_int (pad_cons pd_int pad_nil)))))))) pad_nil)))) (pgd_dput 2 (hu_of hr) pd_str))
      (pssd_cons (psd_asg (pd_tup (pad_cons (pd_call (ok_l_sign T) hr (by decide) (by rfl) tk (pad_cons (pd_var 0) pad_nil)) (pad_cons (pd_call (ok_l_of T) hr (by decide) (by rfl) tk (pad_cons (pd_var 0) (pad_cons (pd_fz (pd_lst (pad_cons pd_str (pad_cons pd_str (pad_cons pd_str (pad_cons pd_str pad_nil)))))) pad_nil))) pad_nil))) (pgd_tup rfl rfl (pgd_cons (pgd_dput 2 (hu_of hr) pd_str) (pgd_cons (pgd_dput 2 (hu_of hr) pd_str) pgd_nil)) rfl))
      (pssd_cons (psd_ret (pd_varT 2))
      (pssd_nil (O := []) (O' := [])))))))))))

def b_l_format : DEnv → M (DEnv × Fl) :=
  (seqS (retS (newKD [0, 1, 2, 3, 4, 5, 6, 7] [] 8 9 f_Formatdd_initdd (consM (binM dgetD (rd 0) (cM (.str "base"))) (consM (binM dgetD (rd 0) (cM (.str "sign"))) (consM (binM dgetD (rd 0) (cM (.str "least"))) (consM (binM dgetD (rd 0) (cM (.str "group"))) (consM (binM dgetD (rd 0) (cM (.str "mark"))) (consM (binM dgetD (rd 0) (cM (.str "width"))) (consM (binM dgetD (rd 0) (cM (.str "fill"))) (consM (binM dgetD (rd 0) (cM (.str "side"))) nilM)))))))))) skipS)
def f_l_format : List D → M D := runD 1 b_l_format
theorem ok_l_format (T : Txt w K mg A) : Callee P w K mg base 6 "_law_format" ["_law_shape_here"] (spD K (caOf A) (ceOf A) 1 f_l_format) :=
  have cf := cf_of T
  calleeD_of (b := b_l_format) T.F_l_format sc_l_format rfl rfl (fun _ _ _ _ _ _ us hl => match us, hl with | [_], _ => rfl) (fun f cdv Ar outer s H Xs ρ E hr tk po =>
    (pssd_cons (psd_ret (pd_wk (m := .nw) (pd_make (ks := ["base", "sign", "least", "group", "mark", "width", "fill", "side"]) (ms := []) [0, 1, 2, 3, 4, 5, 6, 7] [] rfl (mk_Format T) rfl rfl hr (by decide) (by rfl) tk (pkd_cons (pd_dget (hu_of hr) (pd_var 0) pd_str (fun _ _ => rfl)) (pkd_cons (pd_dget (hu_of hr) (pd_var 0) pd_str (fun _ _ => rfl)) (pkd_cons (pd_dget (hu_of hr) (pd_var 0) pd_str (fun _ _ => rfl)) (pkd_cons (pd_dget (hu_of hr) (pd_var 0) pd_str (fun _ _ => rfl)) (pkd_cons (pd_dget (hu_of hr) (pd_var 0) pd_str (fun _ _ => rfl)) (pkd_cons (pd_dget (hu_of hr) (pd_var 0) pd_str (fun _ _ => rfl)) (pkd_cons (pd_dget (hu_of hr) (pd_var 0) pd_str (fun _ _ => rfl)) (pkd_cons (pd_dget (hu_of hr) (pd_var 0) pd_str (fun _ _ => rfl)) pkd_nil)))))))) (by decide) (by decide) (fun _ _ _ _ _ _ us mv ws l1 l2 l3 => match us, mv, ws, l1, l2, l3 with | [_], [], [_, _, _, _, _, _, _, _], _, _, _ => rfl))))
      (pssd_nil (O := []) (O' := []))))

end

end Fg
set_option Elab.async false
set_option linter.all false
set_option maxRecDepth 100000
set_option maxHeartbeats 4000000
namespace Fg
open PySem PySem.Spec PyProof.Rows L2
local macro_rules | `(tactic| walk_at "hp") => `(tactic| first | assumption | (refine Same.get (by assumption) ?_; walk_at "hp"))
local macro_rules | `(tactic| walk_at "sq") => `(tactic| first | assumption | (exact Or.inr (by assumption)) | (exact Or.inl (by assumption)) | (exact Or.inl (SqL.of (by walk_at "hp"))) | (exact Or.inr (SqT.of (by walk_at "hp"))) | (exact SqL.of (by walk_at "hp")) | (exact SqT.of (by walk_at "hp")))
local macro_rules | `(tactic| walk_at "cl") => `(tactic| first | ((first | show (_ : Int) < _ | show (_ : Int) ≤ _); first | omega | decide) | ((first | show (_ : Nat) < _ | show (_ : Nat) ≤ _); first | with_reducible assumption | (refine sz_le ?_; first | decide | omega | (simp <;> omega)) | (refine sz_lt ?_; first | decide | omega | (simp <;> omega)) | omega | decide | ((with_reducible show List.length _ < _); exact Nat.le_of_ble_eq_true rfl)) | rfl | walk_at "hp" | walk_at "sq" | (refine And.intro (by walk_at "cl") (by walk_at "cl")) | (exact Exists.intro _ (by walk_at "hp")) | (exact Exists.intro _ (Exists.intro _ (by walk_at "hp"))) | (exact Exists.intro _ (Exists.intro _ (And.intro (by walk_at "hp") rfl))) | decide | (exact Or.inl (by walk_at "cl")) | (exact Or.inr (by walk_at "cl")) | omega)
local macro_rules | `(tactic| walk_at "s1") => `(tactic| first | refine And.intro (by walk_at "cl") ?_ | apply Exists.intro)
local macro_rules | `(tactic| walk_at "sx") => `(tactic| repeat walk_at "s1")
local macro_rules | `(tactic| walk_at "si") => `(tactic| first | refine iteY rfl ?_ | refine iteN rfl ?_)
local macro_rules | `(tactic| walk_at "sy") => `(tactic| repeat first | walk_at "s1" | walk_at "si")
/-! ### isinstance of a caught error that has fields -/
end Fg
namespace PySem.W
open PySem PySem.Spec PySem.Calls PyProof.Rows
section
variable {P : Program} {w : World} {B : Around} {Ex : Value → Shared → Prop} {s : Shared} {K : Frag} {e D : Addr} {oe : Obj} {dct : Obj}
theorem fg_found (hdct : hasDictIn K D = true) (hc : findIn K (.ref D) "__class__" = some (some (.builtin "object.__class__"))) (hg : specialIn K (.builtin "object.__class__") "__get__" = some (some (.builtin "getset_descriptor.__get__")))
    (ht : takesIn K (.builtin "object.__class__") = some true) : findObj K D (some dct) "__class__" = some (.bind (.builtin "getset_descriptor.__get__") (.builtin "object.__class__")) := by
  obtain ⟨cd, hcd, _⟩ := any_some hdct
  unfold findObj
  rw [hcd, Option.bind_some, hc, Option.bind_some]; simp [hg, ht]
theorem fg_class {Q : Option Value → Shared → Prop} (C : L2.ExcC K D) (Kh : K.In s.heap) (J : InstAt s.heap e oe D (some dct)) (q : Q (some (.ref D)) { s with toks := s.toks + 1 }) : wpAny (model P w) B (getAttr? (.ref e) "__class__") Q Ex s := by
  have found := fg_found (dct := dct) C.hd C.ha C.hn C.ht
  obtain ⟨hp, gg, dd, tk, os⟩ := s
  have T0 := J.type (M := model P w); have T1 := looks_findIn (M := model P w) Kh C.hg; have T2 := looks_findIn (M := model P w) Kh C.hk; have T3 := looks_find (M := model P w) Kh J found
  have isB : Looks (model P w) hp (isInstance (.ref e) (.type "BaseException")) true := T0.andThen (looks_subIn Kh C.hs)
  have ne1 : (Value.builtin "BaseException.__getattribute__" == Value.builtin "object.__getattribute__") = false := by decide +kernel
  have ne2 : (onTheHeap (Value.ref D) && Value.builtin "BaseException.__getattribute__" == Value.builtin "object.__getattribute__") = false := by (rw [ne1]; rfl)
  have ne0 : (false && onTheHeap (Value.builtin "BaseException.__getattribute__")) = false := by first | rfl
  (unfold getAttr? getAttrBy? getAttrBy); refine wpAny_bind (wpAny_mkText (wpAny_bind (wpAny_attempt (wpAny_holding (wpAny_bind (T0.at (wpAny_bind (T1.at ?_))))))))
  show wpAny _ _ (if (onTheHeap (Value.ref D) && Value.builtin "BaseException.__getattribute__" == Value.builtin "object.__getattribute__") = true then _ else _) _ _ _; rw [ne2, if_neg Bool.false_ne_true]
  (unfold getAttrByItsOwn hookBefore); refine wpAny_bind ?_; rw [if_pos (show onTheHeap (Value.ref D) = true from rfl)]; refine T2.at (wpAny_bind (wpAny_attempt (wpAny_holding ?_)))
  (unfold callGetattribute); rw [ne0, if_neg Bool.false_ne_true]; (unfold boundAndCalled); rw [PySem.F.excAttr_ValueError.ga.bind (.ref e)]; refine wpAny_bind (wpAny_pure ?_)
  show wpAny _ _ (call (.builtin "BaseException.__getattribute__") [.ref e, .str "__class__" tk]) _ _ _; refine wpAny_call (codeAny_call_builtin PySem.F.excAttr_ValueError.ga.plain PySem.F.entry_bexc_ga ?_)
  refine @check_slot (model P w) _ _ ⟨hp, gg, dd, tk + 1, os⟩ "BaseException.__getattribute__" "BaseException" "__getattribute__" (.ref e) [.str "__class__" tk] [] _ (by decide +kernel) (by decide +kernel) isB (PySem.F.args_bexc_ga (.ref e) (.str "__class__" tk)) ?_
  (unfold Builtin.«object.__getattribute__»); refine wpAny_bind (wpAny_of_eq (a := ((Value.ref e : Value), [Value.str "__class__" tk])) (by first | rfl | (simp only [slotArgs]; rfl)) ?_)
  refine wpAny_bind (wpAny_pure (wpAny_bind (T0.at (wpAny_bind (T3.at ?_))))); show wpAny _ _ (holding [Value.builtin "object.__class__"] (call (.builtin "getset_descriptor.__get__") [.builtin "object.__class__", .ref e, .ref D]) >>= ret) _ _ _
  refine wpAny_bind (wpAny_holding (wpAny_call (class_get (s := ⟨hp, gg, dd, tk + 1, os⟩) (ox := oe) (od := some dct) Kh J C.hm ?_))); refine wpAny_pure ?_
  show wpAny _ _ (handedOut (.ref D)) _ _ _; rw [handedOut_of (v := .ref D) rfl]
  first | exact wpAny_pure (wpAny_pure q) | exact wpAny_pure q | exact wpAny_pure (wpAny_bind (wpAny_pure (wpAny_pure q)))
theorem fg_kit (C : L2.ExcC K D) : KitX K (.ref e) (.ref D) (fun h => ∃ dct, InstAt h e oe D (some dct)) := by
  obtain ⟨cd, hcd, _⟩ := any_some C.hd
  refine ⟨fun _ _ _ ⟨_, J⟩ => J.type, fun _ _ Kh _ => ?_, fun h tp _ _ _ _ Kh at_ => ?_, fun Kh ⟨_, J⟩ k => fg_class C Kh J k⟩
  · unfold clsIn at hcd
    split at hcd
    · rename_i looked
      intro _ _ _ _ keep q
      (unfold isType loadHead); exact wpAny_bind (wpAny_loadPart (keep _ _ (Kh _ _ looked)) (wpAny_pure q))
    · cases hcd
  · refine Bool.eq_false_iff.mpr fun same => ?_
    cases (Value.ref.inj (beq_iff_eq.mp same) : D = tp)
    unfold clsIn at hcd
    split at hcd
    · rename_i looked
      cases (Kh _ _ looked).symm.trans at_
    · cases hcd
end
end PySem.W
namespace Fg
open PySem PySem.Spec PyProof.Rows L2
/-- isinstance(e, c), e the error that the suite holds -/
def fIsE (K : PySem.W.Frag) (D a : Addr) : List V → Hp → VK → Prop := fun xs H Q => match xs with
  | [.ref b, .ref c] => b = a ∧ ∃ r, PySem.W.kitOne K (.ref D) (.ref c) = some r ∧ Q (.bl r) H
  | [.ref b, .ty c] => b = a ∧ ∃ r, PySem.W.kitOne K (.ref D) (.type c) = some r ∧ Q (.bl r) H
  | _ => False
theorem f_isE {X : Cx} {a D dx : Addr} {oe : Obj} {pn : List (Addr × Obj)} (C : ExcC X.K D) (hz : Zc (.ref D) (some dx) oe) (hf : ∃ vs, oe.data = .fields vs) {fs : List (Str × V)} :
    CallR (X.suite a ((a, oe) :: pn)) (.builtin "isinstance") (fun xs H Q => H dx = some (.xd fs) ∧ fIsE X.K D a xs H Q) := by
  intro pins s σ H xs us Q J r ⟨hd, q⟩
  have ans : ∀ (cv : Value) (k : Bool), PySem.W.kitOne X.K (.ref D) cv = some k → Q (.bl k) H → wpAny (model X.prog X.w) (X.suite a ((a, oe) :: pn)).A (call (.builtin "isinstance") [.ref a, cv]) (EP (X.suite a ((a, oe) :: pn)) pins σ Q) (X.suite a ((a, oe) :: pn)).xe s := fun cv k ek qk => by
    obtain ⟨hget, _⟩ := J.pin (a, oe) (List.mem_append.mpr (.inl List.mem_cons_self))
    obtain ⟨vs, hv⟩ := hf
    obtain ⟨mA, hns, _⟩ := (show ObjOk X.prog X.w H s.heap dx (.xd fs) from J.hok dx _ hd)
    obtain ⟨od, ho, _⟩ := lookIn_ns hns
    have I2 : PySem.W.InstAt s.heap a oe D (some od) := ⟨hget, hz.1, by unfold PySem.W.notCls; rw [hv] <;> rfl, by rw [hz.2]; exact ho⟩
    exact PySem.W.kia_one (PySem.W.fg_kit C) J.kIn ⟨od, I2⟩ ek (fun z => nomatch z) fun tk => ⟨.bl k, H, J.kept (t' := tk) fun _ _ z => z, rfl, qk⟩
  unfold fIsE at q
  split at q
  · obtain ⟨rfl, k, ek, qk⟩ := q
    cases r with
    | cons r1 rr =>
      cases rr with
      | cons r2 rr =>
        cases rr
        cases r1
        cases r2
        exact ans _ k ek qk
  · obtain ⟨rfl, k, ek, qk⟩ := q
    cases r with
    | cons r1 rr =>
      cases rr with
      | cons r2 rr =>
        cases rr
        cases r1
        cases r2
        exact ans _ k ek qk
  · exact q.elim

end Fg
set_option Elab.async false
set_option linter.all false
set_option maxRecDepth 100000
set_option maxHeartbeats 4000000
namespace Fg
open PySem PySem.Spec PyProof.Rows L2
local macro_rules | `(tactic| walk_at "hp") => `(tactic| first | assumption | (refine Same.get (by assumption) ?_; walk_at "hp"))
local macro_rules | `(tactic| walk_at "sq") => `(tactic| first | assumption | (exact Or.inr (by assumption)) | (exact Or.inl (by assumption)) | (exact Or.inl (SqL.of (by walk_at "hp"))) | (exact Or.inr (SqT.of (by walk_at "hp"))) | (exact SqL.of (by walk_at "hp")) | (exact SqT.of (by walk_at "hp")))
local macro_rules | `(tactic| walk_at "cl") => `(tactic| first | ((first | show (_ : Int) < _ | show (_ : Int) ≤ _); first | omega | decide) | ((first | show (_ : Nat) < _ | show (_ : Nat) ≤ _); first | with_reducible assumption | (refine sz_le ?_; first | decide | omega | (simp <;> omega)) | (refine sz_lt ?_; first | decide | omega | (simp <;> omega)) | omega | decide | ((with_reducible show List.length _ < _); exact Nat.le_of_ble_eq_true rfl)) | rfl | walk_at "hp" | walk_at "sq" | (refine And.intro (by walk_at "cl") (by walk_at "cl")) | (exact Exists.intro _ (by walk_at "hp")) | (exact Exists.intro _ (Exists.intro _ (by walk_at "hp"))) | (exact Exists.intro _ (Exists.intro _ (And.intro (by walk_at "hp") rfl))) | decide | (exact Or.inl (by walk_at "cl")) | (exact Or.inr (by walk_at "cl")) | omega)
local macro_rules | `(tactic| walk_at "s1") => `(tactic| first | refine And.intro (by walk_at "cl") ?_ | apply Exists.intro)
local macro_rules | `(tactic| walk_at "sx") => `(tactic| repeat walk_at "s1")
local macro_rules | `(tactic| walk_at "si") => `(tactic| first | refine iteY rfl ?_ | refine iteN rfl ?_)
local macro_rules | `(tactic| walk_at "sy") => `(tactic| repeat first | walk_at "s1" | walk_at "si")
variable [TQ]
section
variable {P : Program} {w : World} {K : PySem.W.Frag} {mg : Str → Option Value} {base : Heap} {A : Ad}
/-- isinstance of whatever the suite holds -/
theorem f_isEg {X : Cx} {a D : Addr} {cls : Value} {d : Option Addr} {oe : Obj} {pn : List (Addr × Obj)} (C : ExcC X.K D) (hz : Zc cls d oe) (hf : ∃ vs, oe.data = .fields vs) :
    CallR (X.suite a ((a, oe) :: pn)) (.builtin "isinstance") (fun xs H Q => cls = .ref D ∧ ∃ dx fs, d = some dx ∧ H dx = some (.xd fs) ∧ fIsE X.K D a xs H Q) := by
  intro pins s σ H xs us Q J r ⟨hc, dx, fs, hd, q⟩
  subst hc hd
  exact f_isE C hz hf pins s σ H xs us Q J r q
theorem pss_ex {X : Cx} {b : List Stmt} {α : Sort _} {Pp : α → Prop} {t : α → TS} (h : ∀ a, Pp a → PSs X b (t a)) : PSs X b (fun D σ H => ∃ a, Pp a ∧ t a D σ H) := ⟨fun pins s σ H D I ⟨a, p, q⟩ => (h a p).run pins s σ H D I q⟩
theorem takes_len {X : Cx} {W : WX} (t : Takes X W) : Takes X (fun c d σ H => σ.length = X.N.length → W c d σ H) :=
  fun u s' ⟨a, B, sI, pins, σ, H, cls, d, e, I, nb, up, sky, na, os, ag, w⟩ => t u s' ⟨a, B, sI, pins, σ, H, cls, d, e, I, nb, up, sky, na, os, ag, w I.len⟩
theorem gives_l_ended {X : Cx} (T : Txt X.w X.K X.mg A) {q : Str} : ∀ (g : Addr) (cdv : Value), LamX.GivesTo X ["_law_ask", "_law_given", "_law_e"] "_law_ended" (defScope s_l_ended) g cdv (defBody s_l_ended) "_law_ask" q (TEndD (ceOf A) [("InvalidParts", "index")]) := by
  intro g cdv f c' s H Q tl act hc h
  have hgl : Gl (cxOf C8.CX0 X.prog X.w X.K X.mg X.base ["_law_ask", "_law_given", "_law_e"] "_law_ended" (defScope s_l_ended) g cdv X.A X.stack s H C8.E0).nox "InvalidParts" := by rfl
  refine ⟨_, pss_cons (ps_try_as (X := (cxOf C8.CX0 X.prog X.w X.K X.mg X.base ["_law_ask", "_law_given", "_law_e"] "_law_ended" (defScope s_l_ended) g cdv X.A X.stack s H C8.E0).nox) (c := .ref A.cInvalidParts) (i := 2)
      (tb := fun W D σ H => ∃ Ech : XK, (∀ cls d (σ' : L2.St) H', Ech cls d H' → σ'.length = 3 → W cls d σ' H') ∧ σ[0]? = some (some (.ref f)) ∧ H c' = some (LamX.CodeO c' q) ∧ tl Ech H (fun v H1 => D.nx (σ.set 1 (some v)) H1))
      rfl rfl sc_l_ended.nd rfl rfl ⟨hgl, by decide, .inl T.g_InvalidParts⟩ takes0 (fun W pn xe tk _ => ?_)
      (fun a oe cls d pn hz hf => pss_one (ps_ret (fe_lst (pa_cons pe_str (pa_cons (pe_xf T.xf_InvalidParts T.nf_InvalidParts hz hf (fv 2)) (pa_cons (pe_and
        (pe_callB (f_isEg T.xc_InvalidParts hz hf) (by rfl) T.b_isinstance (by decide +kernel) (pa_cons (fv 2) (pa_cons (fe_g (by rfl) T.v_Unfit) pa_nil)))
        (pe_one (pe_callB (f_isEg T.xc_InvalidParts hz hf) (by rfl) T.b_isinstance (by decide +kernel) (pa_cons (fv 2) (pa_cons (pe_bltn (v := .ty "ValueError") (by rfl) T.b_ValueError (by decide +kernel) rfl) pa_nil))))) pa_nil)))))))
    (pss_one (ps_ret (fe_lst (pa_cons pe_str (pa_cons (fv 1) pa_nil))))), ?_⟩
  · exact pss_ex fun Ech hW => pss_one (ps_set (i := 1) sc_l_ended.nd rfl (.inl rfl) (act (fun c d σ H => σ.length = 3 → W c d σ H) pn xe Ech _ _ (takes_len tk) hW))
  · unfold TEndD at h
    refine ⟨_, fun cls d σ' H' hE hl => ?_, rfl, hc, h⟩
    obtain ⟨cn, fn, C, dd, v, hlk, hC, rfl, rfl, hd, k⟩ := hE
    rw [List.lookup_cons] at hlk
    split at hlk
    · rename_i ec
      have ec := eq_of_beq ec
      subst ec
      cases hlk
      have hC : some A.cInvalidParts = some C := hC
      cases hC
      obtain ⟨x0, x1, x2, rfl⟩ : ∃ x0 x1 x2, σ' = [x0, x1, x2] := by
        match σ', hl with
        | [x0, x1, x2], _ => exact ⟨x0, x1, x2, rfl⟩
      refine ⟨true, T.ex_InvalidParts_InvalidParts, fun _ a na => ?_, fun z => nomatch z⟩
      have k1 := T.ki_InvalidParts_Unfit
      have k2 := T.ki_InvalidParts_ValueError
      walk_at "sx"
      exact k
    · cases hlk

end

end Fg
set_option Elab.async false
set_option linter.all false
set_option maxRecDepth 100000
set_option maxHeartbeats 4000000
namespace Fg
open PySem PySem.Spec PyProof.Rows L2
local macro_rules | `(tactic| walk_at "hp") => `(tactic| first | assumption | (refine Same.get (by assumption) ?_; walk_at "hp"))
local macro_rules | `(tactic| walk_at "sq") => `(tactic| first | assumption | (exact Or.inr (by assumption)) | (exact Or.inl (by assumption)) | (exact Or.inl (SqL.of (by walk_at "hp"))) | (exact Or.inr (SqT.of (by walk_at "hp"))) | (exact SqL.of (by walk_at "hp")) | (exact SqT.of (by walk_at "hp")))
local macro_rules | `(tactic| walk_at "cl") => `(tactic| first | ((first | show (_ : Int) < _ | show (_ : Int) ≤ _); first | omega | decide) | ((first | show (_ : Nat) < _ | show (_ : Nat) ≤ _); first | with_reducible assumption | (refine sz_le ?_; first | decide | omega | (simp <;> omega)) | (refine sz_lt ?_; first | decide | omega | (simp <;> omega)) | omega | decide | ((with_reducible show List.length _ < _); exact Nat.le_of_ble_eq_true rfl)) | rfl | walk_at "hp" | walk_at "sq" | (refine And.intro (by walk_at "cl") (by walk_at "cl")) | (exact Exists.intro _ (by walk_at "hp")) | (exact Exists.intro _ (Exists.intro _ (by walk_at "hp"))) | (exact Exists.intro _ (Exists.intro _ (And.intro (by walk_at "hp") rfl))) | decide | (exact Or.inl (by walk_at "cl")) | (exact Or.inr (by walk_at "cl")) | omega)
local macro_rules | `(tactic| walk_at "s1") => `(tactic| first | refine And.intro (by walk_at "cl") ?_ | apply Exists.intro)
local macro_rules | `(tactic| walk_at "sx") => `(tactic| repeat walk_at "s1")
local macro_rules | `(tactic| walk_at "si") => `(tactic| first | refine iteY rfl ?_ | refine iteN rfl ?_)
local macro_rules | `(tactic| walk_at "sy") => `(tactic| repeat first | walk_at "s1" | walk_at "si")
variable [TQ]
section
variable {P : Program} {w : World} {K : PySem.W.Frag} {mg : Str → Option Value} {base : Heap} {A : Ad}
def b_l_right : DEnv → M (DEnv × Fl) :=
  (seqS (setS 1 (callD 1 f_l_format (consM (callD 1 f_l_shape (consM (rd 0) nilM)) nilM))) (seqS (asgS (tupM (consM (newDD 2 0 [.non, .non] 5 f_Fielddd_initdd (consM (cM (.str "a")) (consM (rd 1) nilM))) (consM (newDD 3 1 [.non, .non] 5 f_Fielddd_initdd (consM (cM (.str "b")) (consM (rd 1) (consM (cM (.int 3)) nilM)))) (consM (newDD 4 2 [.non, .non] 5 f_Fielddd_initdd (consM (cM (.str "c")) (consM (rd 1) (consM (cM .non) (consM (oneM negD (cM (.int 4))) nilM))))) nilM)))) (tgT ((tgN 2) :: ((tgN 3) :: ((tgN 4) :: []))))) (seqS (asgS (tupM (consM (newDD 4 2 [.non, .non] 5 f_Fielddd_initdd (consM (cM (.str "d")) (consM (rd 1) (consM (cM (.int 1)) (consM (cM (.int 2)) nilM))))) (consM (newDD 2 0 [.non, .non] 5 f_Fielddd_initdd (consM (cM (.str "e")) (consM (rd 1) nilM))) (consM (newDD 4 2 [.non, .non] 5 f_Fielddd_initdd (consM (cM (.str "a")) (consM (rd 1) (consM (cM (.int 7)) (consM (cM (.int 9)) nilM))))) nilM)))) (tgT ((tgN 5) :: ((tgN 6) :: ((tgN 7) :: []))))) (seqS (setS 8 (callD 2 f_l_of (consM (rd 0) (consM (lstM (consM (cM .non) (consM (cM (.str "")) (consM (cM (.str "\n")) (consM (cM (.str "a\n")) (consM (cM (.int 5)) (consM (tupM (consM (rd 2) nilM)) (consM (lstM (consM (rd 2) nilM)) (consM (cM (.bl true)) (consM (rd 1) (consM (cM (.dct [])) (consM (tupM (consM (cM (.str "x")) nilM)) nilM)))))))))))) nilM)))) (seqS (setS 9 (lstM (consM (endM [("InvalidParts", "index")] [] (newSD f_Linedd_initdd nilM)) nilM))) (seqS (appS 9 (endM [("InvalidParts", "index")] [9] (newSD f_Linedd_initdd (consM (rd 8) (consM (rd 2) (consM (rd 3) (consM (rd 4) (consM (rd 5) (consM (cM (.str "x")) (consM (cM (.str "y")) (consM (cM (.str "z")) (consM (cM (.str "w")) nilM)))))))))))) (seqS (appS 9 (endM [("InvalidParts", "index")] [9] (newSD f_Linedd_initdd (consM (rd 8) (consM (rd 2) (consM (rd 7) nilM)))))) (seqS (appS 9 (endM [("InvalidParts", "index")] [9] (newSD f_Linedd_initdd (consM (rd 2) (consM (rd 8) (consM (rd 7) nilM)))))) (seqS (appS 9 (endM [("InvalidParts", "index")] [9] (newSD f_Linedd_initdd (consM (rd 2) (consM (cM (.str "x")) (consM (rd 7) (consM (rd 8) nilM))))))) (seqS (appS 9 (endM [("InvalidParts", "index")] [9] (newSD f_Linedd_initdd (consM (rd 2) (consM (rd 3) (consM (rd 4) (consM (cM (.str "x")) (consM (rd 5) (consM (rd 6) (consM (rd 8) nilM)))))))))) (seqS (appS 9 (endM [("InvalidParts", "index")] [9] (newSD f_Linedd_initdd (consM (cM (.str "x")) (consM (cM (.str "y")) nilM))))) (seqS (appS 9 (endM [("InvalidParts", "index")] [9] (newSD f_Linedd_initdd (consM (cM (.str "x")) (consM (rd 8) (consM (cM (.str "y")) nilM)))))) (seqS (setS 10 (lstM (consM (lstM (consM (cM (.str "InvalidParts")) (consM (cM .non) (consM (cM (.bl true)) nilM)))) (consM (lstM (consM (cM (.str "InvalidParts")) (consM (cM .non) (consM (cM (.bl true)) nilM)))) (consM (lstM (consM (cM (.str "InvalidParts")) (consM (cM (.int 0)) (consM (cM (.bl true)) nilM)))) nilM))))) (seqS (setS 10 (binM catD (rd 10) (lstM (consM (lstM (consM (cM (.str "InvalidParts")) (consM (cM (.int 1)) (consM (cM (.bl true)) nilM)))) (consM (lstM (consM (cM (.str "InvalidParts")) (consM (cM (.int 2)) (consM (cM (.bl true)) nilM)))) (consM (lstM (consM (cM (.str "InvalidParts")) (consM (cM (.int 5)) (consM (cM (.bl true)) nilM)))) nilM)))))) (seqS (setS 10 (binM catD (rd 10) (lstM (consM (lstM (consM (cM (.str "InvalidParts")) (consM (cM .non) (consM (cM (.bl true)) nilM)))) (consM (lstM (consM (cM (.str "InvalidParts")) (consM (cM (.int 1)) (consM (cM (.bl true)) nilM)))) nilM))))) (seqS (ifS (tvM (binM (eqBD true) (rd 9) (rd 10))) (seqS (retS (cM (.bl false))) skipS) skipS) (seqS (setS 11 (newSD f_Linedd_initdd (consM (rd 2) (consM (cM (.str "x")) (consM (rd 3) (consM (cM (.str "y")) (consM (rd 4) (consM (cM (.str "z")) (consM (rd 5) (consM (cM (.str "w")) nilM)))))))))) (seqS (asgS (tupM (consM (newSD f_Linedd_initdd (consM (rd 2) (consM (cM (.str "x")) (consM (rd 3) nilM)))) (consM (newSD f_Linedd_initdd (consM (cM (.str "y")) (consM (rd 4) (consM (rd 5) (consM (cM (.str "z")) nilM))))) nilM))) (tgT ((tgN 12) :: ((tgN 13) :: [])))) (seqS (setS 9 (lstM (consM (endM [("InvalidParts", "index")] [] (binM (addOD "Line" f_Linedd_adddd f_Linedd_radddd) (rd 12) (rd 8))) nilM))) (seqS (appS 9 (endM [("InvalidParts", "index")] [9] (binM (addOD "Line" f_Linedd_adddd f_Linedd_radddd) (rd 12) (rd 7)))) (seqS (appS 9 (endM [("InvalidParts", "index")] [9] (binM (addOD "Line" f_Linedd_adddd f_Linedd_radddd) (rd 12) (rd 11)))) (seqS (appS 9 (endM [("InvalidParts", "index")] [9] (binM (addOD "Line" f_Linedd_adddd f_Linedd_radddd) (binM (addOD "Line" f_Linedd_adddd f_Linedd_radddd) (rd 12) (rd 13)) (rd 6)))) (seqS (appS 9 (endM [("InvalidParts", "index")] [9] (binM (addOD "Line" f_Linedd_adddd f_Linedd_radddd) (rd 11) (cM (.str "v"))))) (seqS (appS 9 (endM [("InvalidParts", "index")] [9] (binM (addOD "Line" f_Linedd_adddd f_Linedd_radddd) (cM (.str "v")) (rd 11)))) (seqS (appS 9 (endM [("InvalidParts", "index")] [9] (binM (addOD "Line" f_Linedd_adddd f_Linedd_radddd) (rd 7) (rd 12)))) (seqS (setS 10 (lstM (consM (lstM (consM (cM (.str "InvalidParts")) (consM (cM (.int 3)) (consM (cM (.bl true)) nilM)))) (consM (lstM (consM (cM (.str "InvalidParts")) (consM (cM (.int 3)) (consM (cM (.bl true)) nilM)))) (consM (lstM (consM (cM (.str "InvalidParts")) (consM (cM .non) (consM (cM (.bl true)) nilM)))) nilM))))) (seqS (setS 10 (binM catD (rd 10) (lstM (consM (lstM (consM (cM (.str "InvalidParts")) (consM (cM (.int 7)) (consM (cM (.bl true)) nilM)))) (consM (lstM (consM (cM (.str "InvalidParts")) (consM (cM .non) (consM (cM (.bl true)) nilM)))) (consM (lstM (consM (cM (.str "InvalidParts")) (consM (cM .non) (consM (cM (.bl true)) nilM)))) nilM)))))) (seqS (retS (andE (binM (eqBD false) (rd 9) (binM catD (rd 10) (lstM (consM (lstM (consM (cM (.str "InvalidParts")) (consM (cM (.int 1)) (consM (cM (.bl true)) nilM)))) nilM)))) (andE (binM eqD (oneM (lenOD "Line" f_Linedd_lendd) (rd 11)) (cM (.int 8))) (binM eqD (oneM (lenOD "Line" f_Linedd_lendd) (binM (addOD "Line" f_Linedd_adddd f_Linedd_radddd) (rd 12) (rd 13))) (cM (.int 7)))))) skipS))))))))))))))))))))))))))))
def f_l_right : List D → M D := runD 14 b_l_right
theorem ok_l_right (T : Txt w K mg A) (TB : LamX.TabB base mg A.cC_l_right A.tP_l_right) (hQ : ∀ P' q', TQ.q P' q' ↔ P' = A.tP_l_right ∧ q' = "_law_right.<locals>.<lambda>") : Callee P w K mg base 9 "_law_right" ["_law_pot_here"] (spT K (caOf A) (ceOf A) A.tP_l_right "_law_right.<locals>.<lambda>" 1 f_l_right) :=
  have cf := cf_of T
  calleeT_of (b := b_l_right) T.k_l_right sc_l_right rfl rfl (fun _ _ _ _ _ _ us hl => match us, hl with | [_], _ => rfl) (fun f Ar outer s H Xs ρ E tb0 hr tk po =>
    (pssd_cons (psd_set 1 (pd_call (ok_l_format T) hr (by decide) (by rfl) tk (pad_cons (pd_call (ok_l_shape T) hr (by decide) (by rfl) tk (pad_cons (pd_var 0) pad_nil)) pad_nil)) sc_l_right.nd)
      (pssd_cons (psd_asg (pd_tup (pad_cons (pd_fz (pd_newD (dd := [.non, .non]) 2 0 rfl (nq_Field T) rfl hr (by decide) (by rfl) tk (pad_cons pd_str (pad_cons (pd_var 1) pad_nil)) (fun e => by cases e) (by decide) (fun _ _ _ _ _ _ _ us its h1 h2 => match us, its, h1, h2 with | [_, _, _], [_, _], _, _ => ⟨_, rfl, rfl⟩))) (pad_cons (pd_fz (pd_newD (dd := [.non, .non]) 3 1 rfl (nq_Field T) rfl hr (by decide) (by rfl) tk (pad_cons pd_str (pad_cons (pd_var 1) (pad_cons pd_int pad_nil))) (fun e => by cases e) (by decide) (fun _ _ _ _ _ _ _ us its h1 h2 => match us, its, h1, h2 with | [_, _, _, _], [_, _], _, _ => ⟨_, rfl, rfl⟩))) (pad_cons (pd_fz (pd_newD (dd := [.non, .non]) 4 2 rfl (nq_Field T) rfl hr (by decide) (by rfl) tk (pad_cons pd_str (pad_cons (pd_var 1) (pad_cons pd_non (pad_cons (pd_neg pd_int) pad_nil)))) (fun e => by cases e) (by decide) (fun _ _ _ _ _ _ _ us its h1 h2 => match us, its, h1, h2 with | [_, _, _, _, _], [_, _], _, _ => ⟨_, rfl, rfl⟩))) pad_nil)))) (pgd_tup rfl rfl (pgd_cons (pgd_name 2 sc_l_right.nd) (pgd_cons (pgd_name 3 sc_l_right.nd) (pgd_cons (pgd_name 4 sc_l_right.nd) pgd_nil))) rfl))
      (pssd_cons (psd_asg (pd_tup (pad_cons (pd_fz (pd_newD (dd := [.non, .non]) 4 2 rfl (nq_Field T) rfl hr (by decide) (by rfl) tk (pad_cons pd_str (pad_cons (pd_var 1) (pad_cons pd_int (pad_cons pd_int pad_nil)))) (fun e => by cases e) (by decide) (fun _ _ _ _ _ _ _ us its h1 h2 => match us, its, h1, h2 with | [_, _, _, _, _], [_, _], _, _ => ⟨_, rfl, rfl⟩))) (pad_cons (pd_fz (pd_newD (dd := [.non, .non]) 2 0 rfl (nq_Field T) rfl hr (by decide) (by rfl) tk (pad_cons pd_str (pad_cons (pd_var 1) pad_nil)) (fun e => by cases e) (by decide) (fun _ _ _ _ _ _ _ us its h1 h2 => match us, its, h1, h2 with | [_, _, _], [_, _], _, _ => ⟨_, rfl, rfl⟩))) (pad_cons (pd_fz (pd_newD (dd := [.non, .non]) 4 2 rfl (nq_Field T) rfl hr (by decide) (by rfl) tk (pad_cons pd_str (pad_cons (pd_var 1) (pad_cons pd_int (pad_cons pd_int pad_nil)))) (fun e => by cases e) (by decide) (fun _ _ _ _ _ _ _ us its h1 h2 => match us, its, h1, h2 with | [_, _, _, _, _], [_, _], _, _ => ⟨_, rfl, rfl⟩))) pad_nil)))) (pgd_tup rfl rfl (pgd_cons (pgd_name 5 sc_l_right.nd) (pgd_cons (pgd_name 6 sc_l_right.nd) (pgd_cons (pgd_name 7 sc_l_right.nd) pgd_nil))) rfl))
      (pssd_cons (psd_set 8 (pd_call (ok_l_of T) hr (by decide) (by rfl) tk (pad_cons (pd_var 0) (pad_cons (pd_fz (pd_lst (pad_cons pd_non (pad_cons pd_str (pad_cons pd_str (pad_cons pd_str (pad_cons pd_int (pad_cons (pd_tup (pad_cons (pd_var 2) pad_nil)) (pad_cons (pd_fz (pd_lst (pad_cons (pd_var 2) pad_nil))) (pad_cons pd_bl (pad_cons (pd_var 1) (pad_cons (pd_fz pd_d0) (pad_cons (pd_tup (pad_cons pd_str pad_nil)) pad_nil))))))))))))) pad_nil))) sc_l_right.nd)
      (pssd_cons (psd_new 9 (pd_lst (pad_cons (pd_lam (Pt := A.tP_l_right) (c := A.cC_l_right) (k := 6) (hs := [("InvalidParts", "index")]) (ca := caOf A) (ce := ceOf A) (qn := "_law_right.<locals>.<lambda>") rfl rfl rfl rfl hQ tb0 T.F_l_ended sc_l_ended rfl (fun _ _ _ _ _ _ us hl => match us, hl with | [_], _ => rfl) (gives_l_ended T) TB rfl hr (by decide) (by rfl) (LamX.lamS_by (by show LamX.lamSB (defScope s_l_right) _ = true; decide +kernel)) (Or.inl rfl) rfl (fun _ _ _ _ _ => rfl) (fun _ _ _ _ _ _ _ _ _ _ hrl tkl => (pd_wk (m := .nw) (pd_newS0 rfl (nw_Line T) hrl (by decide) (by rfl) tkl)))) pad_nil)) sc_l_right.nd)
      (pssd_cons (psd_app 9 (pd_lam (Pt := A.tP_l_right) (c := A.cC_l_right) (k := 6) (hs := [("InvalidParts", "index")]) (ca := caOf A) (ce := ceOf A) (qn := "_law_right.<locals>.<lambda>") rfl rfl rfl rfl hQ tb0 T.F_l_ended sc_l_ended rfl (fun _ _ _ _ _ _ us hl => match us, hl with | [_], _ => rfl) (gives_l_ended T) TB rfl hr (by decide) (by rfl) (LamX.lamS_by (by show LamX.lamSB (defScope s_l_right) _ = true; decide +kernel)) (Or.inl rfl) rfl (fun _ _ _ _ _ => rfl) (fun _ _ _ _ _ _ _ _ _ _ hrl tkl => (pd_wk (m := .nw) (pd_newS rfl (nw_Line T) hrl (by decide) (by rfl) tkl (pad_cons (pd_var 8) (pad_cons (pd_var 2) (pad_cons (pd_var 3) (pad_cons (pd_var 4) (pad_cons (pd_var 5) (pad_cons pd_str (pad_cons pd_str (pad_cons pd_str (pad_cons pd_str pad_nil))))))))))))))
      (pssd_cons (psd_app 9 (pd_lam (Pt := A.tP_l_right) (c := A.cC_l_right) (k := 6) (hs := [("InvalidParts", "index")]) (ca := caOf A) (ce := ceOf A) (qn := "_law_right.<locals>.<lambda>") rfl rfl rfl rfl hQ tb0 T.F_l_ended sc_l_ended rfl (fun _ _ _ _ _ _ us hl => match us, hl with | [_], _ => rfl) (gives_l_ended T) TB rfl hr (by decide) (by rfl) (LamX.lamS_by (by show LamX.lamSB (defScope s_l_right) _ = true; decide +kernel)) (Or.inl rfl) rfl (fun _ _ _ _ _ => rfl) (fun _ _ _ _ _ _ _ _ _ _ hrl tkl => (pd_wk (m := .nw) (pd_newS rfl (nw_Line T) hrl (by decide) (by rfl) tkl (pad_cons (pd_var 8) (pad_cons (pd_var 2) (pad_cons (pd_var 7) pad_nil))))))))
      (pssd_cons (psd_app 9 (pd_lam (Pt := A.tP_l_right) (c := A.cC_l_right) (k := 6) (hs := [("InvalidParts", "index")]) (ca := caOf A) (ce := ceOf A) (qn := "_law_right.<locals>.<lambda>") rfl rfl rfl rfl hQ tb0 T.F_l_ended sc_l_ended rfl (fun _ _ _ _ _ _ us hl => match us, hl with | [_], _ => rfl) (gives_l_ended T) TB rfl hr (by decide) (by rfl) (LamX.lamS_by (by show LamX.lamSB (defScope s_l_right) _ = true; decide +kernel)) (Or.inl rfl) rfl (fun _ _ _ _ _ => rfl) (fun _ _ _ _ _ _ _ _ _ _ hrl tkl => (pd_wk (m := .nw) (pd_newS rfl (nw_Line T) hrl (by decide) (by rfl) tkl (pad_cons (pd_var 2) (pad_cons (pd_var 8) (pad_cons (pd_var 7) pad_nil))))))))
      (pssd_cons (psd_app 9 (pd_lam (Pt := A.tP_l_right) (c := A.cC_l_right) (k := 6) (hs := [("InvalidParts", "index")]) (ca := caOf A) (ce := ceOf A) (qn := "_law_right.<locals>.<lambda>") rfl rfl rfl rfl hQ tb0 T.F_l_ended sc_l_ended rfl (fun _ _ _ _ _ _ us hl => match us, hl with | [_], _ => rfl) (gives_l_ended T) TB rfl hr (by decide) (by rfl) (LamX.lamS_by (by show LamX.lamSB (defScope s_l_right) _ = true; decide +kernel)) (Or.inl rfl) rfl (fun _ _ _ _ _ => rfl) (fun _ _ _ _ _ _ _ _ _ _ hrl tkl => (pd_wk (m := .nw) (pd_newS rfl (nw_Line T) hrl (by decide) (by rfl) tkl (pad_cons (pd_var 2) (pad_cons pd_str (pad_cons (pd_var 7) (pad_cons (pd_var 8) pad_nil)))))))))
      (pssd_cons (psd_app 9 (pd_lam (Pt := A.tP_l_right) (c := A.cC_l_right) (k := 6) (hs := [("InvalidParts", "index")]) (ca := caOf A) (ce := ceOf A) (qn := "_law_right.<locals>.<lambda>") rfl rfl rfl rfl hQ tb0 T.F_l_ended sc_l_ended rfl (fun _ _ _ _ _ _ us hl => match us, hl with | [_], _ => rfl) (gives_l_ended T) TB rfl hr (by decide) (by rfl) (LamX.lamS_by (by show LamX.lamSB (defScope s_l_right) _ = true; decide +kernel)) (Or.inl rfl) rfl (fun _ _ _ _ _ => rfl) (fun _ _ _ _ _ _ _ _ _ _ hrl tkl => (pd_wk (m := .nw) (pd_newS rfl (nw_Line T) hrl (by decide) (by rfl) tkl (pad_cons (pd_var 2) (pad_cons (pd_var 3) (pad_cons (pd_var 4) (pad_cons pd_str (pad_cons (pd_var 5) (pad_cons (pd_var 6) (pad_cons (pd_var 8) pad_nil))))))))))))
      (pssd_cons (psd_app 9 (pd_lam (Pt := A.tP_l_right) (c := A.cC_l_right) (k := 6) (hs := [("InvalidParts", "index")]) (ca := caOf A) (ce := ceOf A) (qn := "_law_right.<locals>.<lambda>") rfl rfl rfl rfl hQ tb0 T.F_l_ended sc_l_ended rfl (fun _ _ _ _ _ _ us hl => match us, hl with | [_], _ => rfl) (gives_l_ended T) TB rfl hr (by decide) (by rfl) (LamX.lamS_by (by show LamX.lamSB (defScope s_l_right) _ = true; decide +kernel)) (Or.inl rfl) rfl (fun _ _ _ _ _ => rfl) (fun _ _ _ _ _ _ _ _ _ _ hrl tkl => (pd_wk (m := .nw) (pd_newS rfl (nw_Line T) hrl (by decide) (by rfl) tkl (pad_cons pd_str (pad_cons pd_str pad_nil)))))))
      (pssd_cons (psd_app 9 (pd_lam (Pt := A.tP_l_right) (c := A.cC_l_right) (k := 6) (hs := [("InvalidParts", "index")]) (ca := caOf A) (ce := ceOf A) (qn := "_law_right.<locals>.<lambda>") rfl rfl rfl rfl hQ tb0 T.F_l_ended sc_l_ended rfl (fun _ _ _ _ _ _ us hl => match us, hl with | [_], _ => rfl) (gives_l_ended T) TB rfl hr (by decide) (by rfl) (LamX.lamS_by (by show LamX.lamSB (defScope s_l_right) _ = true; decide +kernel)) (Or.inl rfl) rfl (fun _ _ _ _ _ => rfl) (fun _ _ _ _ _ _ _ _ _ _ hrl tkl => (pd_wk (m := .nw) (pd_newS rfl (nw_Line T) hrl (by decide) (by rfl) tkl (pad_cons pd_str (pad_cons (pd_var 8) (pad_cons pd_str pad_nil))))))))
      (pssd_cons (psd_set 10 (pd_fz (pd_lst (pad_cons (pd_fz (pd_lst (pad_cons pd_str (pad_cons pd_non (pad_cons pd_bl pad_nil))))) (pad_cons (pd_fz (pd_lst (pad_cons pd_str (pad_cons pd_non (pad_cons pd_bl pad_nil))))) (pad_cons (pd_fz (pd_lst (pad_cons pd_str (pad_cons pd_int (pad_cons pd_bl pad_nil))))) pad_nil))))) sc_l_right.nd)
      (pssd_cons (psd_set 10 (pd_op (mi := .fz) f_cat (o_cat rfl (by decide)) (pd_var 10) (pd_fz (pd_lst (pad_cons (pd_fz (pd_lst (pad_cons pd_str (pad_cons pd_int (pad_cons pd_bl pad_nil))))) (pad_cons (pd_fz (pd_lst (pad_cons pd_str (pad_cons pd_int (pad_cons pd_bl pad_nil))))) (pad_cons (pd_fz (pd_lst (pad_cons pd_str (pad_cons pd_int (pad_cons pd_bl pad_nil))))) pad_nil)))))) sc_l_right.nd)
      (pssd_cons (psd_set 10 (pd_op (mi := .fz) f_cat (o_cat rfl (by decide)) (pd_var 10) (pd_fz (pd_lst (pad_cons (pd_fz (pd_lst (pad_cons pd_str (pad_cons pd_non (pad_cons pd_bl pad_nil))))) (pad_cons (pd_fz (pd_lst (pad_cons pd_str (pad_cons pd_int (pad_cons pd_bl pad_nil))))) pad_nil))))) sc_l_right.nd)
      (pssd_cons (psd_if (O := [9]) (O' := [9]) (pd_tcmp (f_neB hr.units) (o_eqB rfl (by decide)) (pd_varT 9) (pd_varT 10) (nomark _))
      (pssd_cons (psd_ret pd_bl)
      (pssd_nil (O := [9]) (O' := [9])))
      (pssd_nil (O := [9]) (O' := [9])))
      (pssd_cons (psd_set 11 (pd_fz (pd_newS rfl (nw_Line T) hr (by decide) (by rfl) tk (pad_cons (pd_var 2) (pad_cons pd_str (pad_cons (pd_var 3) (pad_cons pd_str (pad_cons (pd_var 4) (pad_cons pd_str (pad_cons (pd_var 5) (pad_cons pd_str pad_nil)))))))))) sc_l_right.nd)
      (pssd_cons (psd_asg (pd_tup (pad_cons (pd_fz (pd_newS rfl (nw_Line T) hr (by decide) (by rfl) tk (pad_cons (pd_var 2) (pad_cons pd_str (pad_cons (pd_var 3) pad_nil))))) (pad_cons (pd_fz (pd_newS rfl (nw_Line T) hr (by decide) (by rfl) tk (pad_cons pd_str (pad_cons (pd_var 4) (pad_cons (pd_var 5) (pad_cons pd_str pad_nil)))))) pad_nil))) (pgd_tup rfl rfl (pgd_cons (pgd_name 12 sc_l_right.nd) (pgd_cons (pgd_name 13 sc_l_right.nd) pgd_nil)) rfl))
      (pssd_cons (psd_drop (O1 := []) (psd_new 9 (pd_lst (pad_cons (pd_lam (Pt := A.tP_l_right) (c := A.cC_l_right) (k := 6) (hs := [("InvalidParts", "index")]) (ca := caOf A) (ce := ceOf A) (qn := "_law_right.<locals>.<lambda>") rfl rfl rfl rfl hQ tb0 T.F_l_ended sc_l_ended rfl (fun _ _ _ _ _ _ us hl => match us, hl with | [_], _ => rfl) (gives_l_ended T) TB rfl hr (by decide) (by rfl) (LamX.lamS_by (by show LamX.lamSB (defScope s_l_right) _ = true; decide +kernel)) (Or.inl rfl) rfl (fun _ _ _ _ _ => rfl) (fun _ _ _ _ _ _ _ _ _ _ hrl tkl => (pd_wk (m := .fz) (pd_addO (c := "Line") rfl cf rfl (nadd_Line T) (ok_Linedd_adddd T) (ok_Linedd_radddd T) T.sf_Line hrl (by decide) tkl (pd_var 12) (pd_var 8))))) pad_nil)) sc_l_right.nd))
      (pssd_cons (psd_app 9 (pd_lam (Pt := A.tP_l_right) (c := A.cC_l_right) (k := 6) (hs := [("InvalidParts", "index")]) (ca := caOf A) (ce := ceOf A) (qn := "_law_right.<locals>.<lambda>") rfl rfl rfl rfl hQ tb0 T.F_l_ended sc_l_ended rfl (fun _ _ _ _ _ _ us hl => match us, hl with | [_], _ => rfl) (gives_l_ended T) TB rfl hr (by decide) (by rfl) (LamX.lamS_by (by show LamX.lamSB (defScope s_l_right) _ = true; decide +kernel)) (Or.inl rfl) rfl (fun _ _ _ _ _ => rfl) (fun _ _ _ _ _ _ _ _ _ _ hrl tkl => (pd_wk (m := .fz) (pd_addO (c := "Line") rfl cf rfl (nadd_Line T) (ok_Linedd_adddd T) (ok_Linedd_radddd T) T.sf_Line hrl (by decide) tkl (pd_var 12) (pd_var 7))))))
      (pssd_cons (psd_app 9 (pd_lam (Pt := A.tP_l_right) (c := A.cC_l_right) (k := 6) (hs := [("InvalidParts", "index")]) (ca := caOf A) (ce := ceOf A) (qn := "_law_right.<locals>.<lambda>") rfl rfl rfl rfl hQ tb0 T.F_l_ended sc_l_ended rfl (fun _ _ _ _ _ _ us hl => match us, hl with | [_], _ => rfl) (gives_l_ended T) TB rfl hr (by decide) (by rfl) (LamX.lamS_by (by show LamX.lamSB (defScope s_l_right) _ = true; decide +kernel)) (Or.inl rfl) rfl (fun _ _ _ _ _ => rfl) (fun _ _ _ _ _ _ _ _ _ _ hrl tkl => (pd_wk (m := .fz) (pd_addO (c := "Line") rfl cf rfl (nadd_Line T) (ok_Linedd_adddd T) (ok_Linedd_radddd T) T.sf_Line hrl (by decide) tkl (pd_var 12) (pd_var 11))))))
      (pssd_cons (psd_app 9 (pd_lam (Pt := A.tP_l_right) (c := A.cC_l_right) (k := 6) (hs := [("InvalidParts", "index")]) (ca := caOf A) (ce := ceOf A) (qn := "_law_right.<locals>.<lambda>") rfl rfl rfl rfl hQ tb0 T.F_l_ended sc_l_ended rfl (fun _ _ _ _ _ _ us hl => match us, hl with | [_], _ => rfl) (gives_l_ended T) TB rfl hr (by decide) (by rfl) (LamX.lamS_by (by show LamX.lamSB (defScope s_l_right) _ = true; decide +kernel)) (Or.inl rfl) rfl (fun _ _ _ _ _ => rfl) (fun _ _ _ _ _ _ _ _ _ _ hrl tkl => (pd_wk (m := .fz) (pd_addO (c := "Line") rfl cf rfl (nadd_Line T) (ok_Linedd_adddd T) (ok_Linedd_radddd T) T.sf_Line hrl (by decide) tkl (pd_addO (c := "Line") rfl cf rfl (nadd_Line T) (ok_Linedd_adddd T) (ok_Linedd_radddd T) T.sf_Line hrl (by decide) tkl (pd_var 12) (pd_var 13)) (pd_var 6))))))
      (pssd_cons (psd_app 9 (pd_lam (Pt := A.tP_l_right) (c := A.cC_l_right) (k := 6) (hs := [("InvalidParts", "index")]) (ca := caOf A) (ce := ceOf A) (qn := "_law_right.<locals>.<lambda>") rfl rfl rfl rfl hQ tb0 T.F_l_ended sc_l_ended rfl (fun _ _ _ _ _ _ us hl => match us, hl with | [_], _ => rfl) (gives_l_ended T) TB rfl hr (by decide) (by rfl) (LamX.lamS_by (by show LamX.lamSB (defScope s_l_right) _ = true; decide +kernel)) (Or.inl rfl) rfl (fun _ _ _ _ _ => rfl) (fun _ _ _ _ _ _ _ _ _ _ hrl tkl => (pd_wk (m := .fz) (pd_addO (c := "Line") rfl cf rfl (nadd_Line T) (ok_Linedd_adddd T) (ok_Linedd_radddd T) T.sf_Line hrl (by decide) tkl (pd_var 11) pd_str)))))
      (pssd_cons (psd_app 9 (pd_lam (Pt := A.tP_l_right) (c := A.cC_l_right) (k := 6) (hs := [("InvalidParts", "index")]) (ca := caOf A) (ce := ceOf A) (qn := "_law_right.<locals>.<lambda>") rfl rfl rfl rfl hQ tb0 T.F_l_ended sc_l_ended rfl (fun _ _ _ _ _ _ us hl => match us, hl with | [_], _ => rfl) (gives_l_ended T) TB rfl hr (by decide) (by rfl) (LamX.lamS_by (by show LamX.lamSB (defScope s_l_right) _ = true; decide +kernel)) (Or.inl rfl) rfl (fun _ _ _ _ _ => rfl) (fun _ _ _ _ _ _ _ _ _ _ hrl tkl => (pd_wk (m := .fz) (pd_addO (c := "Line") rfl cf rfl (nadd_Line T) (ok_Linedd_adddd T) (ok_Linedd_radddd T) T.sf_Line hrl (by decide) tkl pd_str (pd_var 11))))))
      (pssd_cons (psd_app 9 (pd_lam (Pt := A.tP_l_right) (c := A.cC_l_right) (k := 6) (hs := [("InvalidParts", "index")]) (ca := caOf A) (ce := ceOf A) (qn := "_law_right.<locals>.<lambda>") rfl rfl rfl rfl hQ tb0 T.F_l_ended sc_l_ended rfl (fun _ _ _ _ _ _ us hl => match us, hl with | [_], _ => rfl) (gives_l_ended T) TB rfl hr (by decide) (by rfl) (LamX.lamS_by (by show LamX.lamSB (defScope s_l_right) _ = true; decide +kernel)) (Or.inl rfl) rfl (fun _ _ _ _ _ => rfl) (fun _ _ _ _ _ _ _ _ _ _ hrl tkl => (pd_wk (m := .fz) (pd_addO (c := "Line") rfl cf rfl (nadd_Line T) (ok_Linedd_adddd T) (ok_Linedd_radddd T) T.sf_Line hrl (by decide) tkl (pd_var 7) (pd_var 12))))))
      (pssd_cons (psd_set 10 (pd_fz (pd_lst (pad_cons (pd_fz (pd_lst (pad_cons pd_str (pad_cons pd_int (pad_cons pd_bl pad_nil))))) (pad_cons (pd_fz (pd_lst (pad_cons pd_str (pad_cons pd_int (pad_cons pd_bl pad_nil))))) (pad_cons (pd_fz (pd_lst (pad_cons pd_str (pad_cons pd_non (pad_cons pd_bl pad_nil))))) pad_nil))))) sc_l_right.nd)
      (pssd_cons (psd_set 10 (pd_op (mi := .fz) f_cat (o_cat rfl (by decide)) (pd_var 10) (pd_fz (pd_lst (pad_cons (pd_fz (pd_lst (pad_cons pd_str (pad_cons pd_int (pad_cons pd_bl pad_nil))))) (pad_cons (pd_fz (pd_lst (pad_cons pd_str (pad_cons pd_non (pad_cons pd_bl pad_nil))))) (pad_cons (pd_fz (pd_lst (pad_cons pd_str (pad_cons pd_non (pad_cons pd_bl pad_nil))))) pad_nil)))))) sc_l_right.nd)
      (pssd_cons (psd_ret (pd_eand (pd_cmp (mi := .tr) (f_eqB hr.units) (o_eqB rfl (by decide)) (pd_varT 9) (pd_op (mi := .tr) f_cat (o_cat rfl (by decide)) (pd_varT 10) (pd_wk (m := .nw) (pd_lst (pad_cons (pd_fz (pd_lst (pad_cons pd_str (pad_cons pd_int (pad_cons pd_bl pad_nil))))) pad_nil)))) (nomark _)) (pd_eand (pd_cmp (mi := .tr) op_eq (o_eq (by decide)) (pd_lenO (c := "Line") rfl (ok_Linedd_lendd T) hr (by decide) (pd_var 11) (by rfl) T.b_len) pd_int (nomark _)) (pd_eone (pd_cmp (mi := .tr) op_eq (o_eq (by decide)) (pd_lenO (c := "Line") rfl (ok_Linedd_lendd T) hr (by decide) (pd_addO (c := "Line") rfl cf rfl (nadd_Line T) (ok_Linedd_adddd T) (ok_Linedd_radddd T) T.sf_Line hr (by decide) tk (pd_var 12) (pd_var 13)) (by rfl) T.b_len) pd_int (nomark _))))))
      (pssd_nil (O := []) (O' := [])))))))))))))))))))))))))))))))

end

end Fg
set_option Elab.async false
set_option linter.all false
set_option maxRecDepth 100000
set_option maxHeartbeats 4000000
namespace Fg
open PySem PySem.Spec PyProof.Rows L2
local macro_rules | `(tactic| walk_at "hp") => `(tactic| first | assumption | (refine Same.get (by assumption) ?_; walk_at "hp"))
local macro_rules | `(tactic| walk_at "sq") => `(tactic| first | assumption | (exact Or.inr (by assumption)) | (exact Or.inl (by assumption)) | (exact Or.inl (SqL.of (by walk_at "hp"))) | (exact Or.inr (SqT.of (by walk_at "hp"))) | (exact SqL.of (by walk_at "hp")) | (exact SqT.of (by walk_at "hp")))
local macro_rules | `(tactic| walk_at "cl") => `(tactic| first | ((first | show (_ : Int) < _ | show (_ : Int) ≤ _); first | omega | decide) | ((first | show (_ : Nat) < _ | show (_ : Nat) ≤ _); first | with_reducible assumption | (refine sz_le ?_; first | decide | omega | (simp <;> omega)) | (refine sz_lt ?_; first | decide | omega | (simp <;> omega)) | omega | decide | ((with_reducible show List.length _ < _); exact Nat.le_of_ble_eq_true rfl)) | rfl | walk_at "hp" | walk_at "sq" | (refine And.intro (by walk_at "cl") (by walk_at "cl")) | (exact Exists.intro _ (by walk_at "hp")) | (exact Exists.intro _ (Exists.intro _ (by walk_at "hp"))) | (exact Exists.intro _ (Exists.intro _ (And.intro (by walk_at "hp") rfl))) | decide | (exact Or.inl (by walk_at "cl")) | (exact Or.inr (by walk_at "cl")) | omega)
local macro_rules | `(tactic| walk_at "s1") => `(tactic| first | refine And.intro (by walk_at "cl") ?_ | apply Exists.intro)
local macro_rules | `(tactic| walk_at "sx") => `(tactic| repeat walk_at "s1")
local macro_rules | `(tactic| walk_at "si") => `(tactic| first | refine iteY rfl ?_ | refine iteN rfl ?_)
local macro_rules | `(tactic| walk_at "sy") => `(tactic| repeat first | walk_at "s1" | walk_at "si")
/-! ### the draws, on data -/
local macro_rules | `(tactic| walk_at "wg") => `(tactic| repeat' first | with_reducible refine W.run ?_ | with_reducible refine W.runi ?_ | with_reducible refine W.seq ?_ | with_reducible refine W.set ?_ | with_reducible refine W.ret ?_ | with_reducible refine W.ifs ?_ | with_reducible refine W.disp1 ?_ | with_reducible refine W.ife ?_ | with_reducible refine W.skip ?_ | with_reducible refine W.rdd rfl ?_ | with_reducible refine W.lst ?_ | with_reducible refine W.tup ?_ | with_reducible refine W.asg ?_ | with_reducible refine W.fmt ?_ | with_reducible refine W.nkd ?_ | with_reducible refine W.ndd ?_ | with_reducible refine W.tv ?_ | with_reducible refine W.notm ?_ | with_reducible refine W.bin ?_ | with_reducible refine W.one ?_ | with_reducible refine W.callm ?_ | with_reducible refine W.call ?_ | with_reducible refine W.cons ?_ | with_reducible refine W.nil ?_ | with_reducible refine W.cst ?_ | with_reducible refine W.ixm rfl rfl ?_ | with_reducible refine W.gt ?_ | with_reducible refine W.add ?_ | with_reducible refine W.mul (cm_r (by decide) (by decide)) ?_ | with_reducible refine W.mod (by first | assumption | decide) ?_ | with_reducible refine W.fdiv (by first | assumption | exact cdv_r (by decide) (by decide)) ?_ | with_reducible refine W.intd ?_ | with_reducible refine W.eqI ?_ | with_reducible refine W.lenL ?_ | with_reducible refine W.tbd ?_ | with_reducible refine W.mput (k := 0) ?_ | with_reducible refine W.tgt2 ?_ | with_reducible refine W.tgn ?_ | with_reducible refine W.tgd rfl ?_ | with_reducible refine W.app rfl ?_ | with_reducible refine W.fld ?_ | with_reducible refine W.keys ?_ | refine And.intro rfl ?_ | refine And.intro (Nat.le_of_ble_eq_true rfl) ?_ | dsimp only)
local macro_rules | `(tactic| walk_at "wh") => `(tactic| repeat' first | with_reducible refine W.run ?_ | with_reducible refine W.runi ?_ | with_reducible refine W.seq ?_ | with_reducible refine W.set ?_ | with_reducible refine W.ret ?_ | with_reducible refine W.ifs ?_ | with_reducible refine W.disp1 ?_ | with_reducible refine W.skip ?_ | with_reducible refine W.rdd rfl ?_ | with_reducible refine W.lst ?_ | with_reducible refine W.tup ?_ | with_reducible refine W.asg ?_ | with_reducible refine W.fmt ?_ | with_reducible refine W.nkd ?_ | with_reducible refine W.ndd ?_ | with_reducible refine W.tv ?_ | with_reducible refine W.notm ?_ | with_reducible refine W.bin ?_ | with_reducible refine W.one ?_ | with_reducible refine W.callm ?_ | with_reducible refine W.call ?_ | with_reducible refine W.cons ?_ | with_reducible refine W.nil ?_ | with_reducible refine W.cst ?_ | with_reducible refine W.ixm rfl rfl ?_ | with_reducible refine W.gt ?_ | with_reducible refine W.add ?_ | with_reducible refine W.mul (cm_r (by decide) (by decide)) ?_ | with_reducible refine W.mod (by first | assumption | decide) ?_ | with_reducible refine W.fdiv (by first | assumption | exact cdv_r (by decide) (by decide)) ?_ | with_reducible refine W.intd ?_ | with_reducible refine W.eqI ?_ | with_reducible refine W.lenL ?_ | with_reducible refine W.tbd ?_ | with_reducible refine W.mput (k := 0) ?_ | with_reducible refine W.tgt2 ?_ | with_reducible refine W.tgn ?_ | with_reducible refine W.tgd rfl ?_ | with_reducible refine W.app rfl ?_ | with_reducible refine W.fld ?_ | with_reducible refine W.keys ?_ | refine And.intro rfl ?_ | refine And.intro (Nat.le_of_ble_eq_true rfl) ?_ | dsimp only)
local macro_rules | `(tactic| walk_at "wf") => `(tactic| repeat' first | with_reducible refine W.run ?_ | with_reducible refine W.runi ?_ | with_reducible refine W.seq ?_ | with_reducible refine W.set ?_ | with_reducible refine W.ret ?_ | with_reducible refine W.ifs ?_ | with_reducible refine W.disp1 ?_ | with_reducible refine W.fors ?_ | with_reducible refine W.forc ?_ | with_reducible refine W.forn ?_ | with_reducible refine W.zip ?_ | (with_reducible refine W.ife_f (by kernel_rfl) ?_) | (with_reducible refine W.ife_t (by kernel_rfl) ?_) | with_reducible refine W.skip ?_ | with_reducible refine W.rdd rfl ?_ | with_reducible refine W.lst ?_ | with_reducible refine W.tup ?_ | with_reducible refine W.asg ?_ | with_reducible refine W.fmt ?_ | with_reducible refine W.nkd ?_ | with_reducible refine W.ndd ?_ | with_reducible refine W.tv ?_ | with_reducible refine W.notm ?_ | with_reducible refine W.bin ?_ | with_reducible refine W.one ?_ | with_reducible refine W.callm ?_ | with_reducible refine W.call ?_ | with_reducible refine W.cons ?_ | with_reducible refine W.nil ?_ | with_reducible refine W.cst ?_ | with_reducible refine W.ixm rfl rfl ?_ | with_reducible refine W.gt ?_ | with_reducible refine W.add ?_ | with_reducible refine W.mul (cm_r (by decide) (by decide)) ?_ | with_reducible refine W.mod (by first | assumption | decide) ?_ | with_reducible refine W.fdiv (by first | assumption | exact cdv_r (by decide) (by decide)) ?_ | with_reducible refine W.intd ?_ | with_reducible refine W.eqI ?_ | with_reducible refine W.lenL ?_ | with_reducible refine W.tbd ?_ | with_reducible refine W.mput (k := 0) ?_ | with_reducible refine W.tgt2 ?_ | with_reducible refine W.tgn ?_ | with_reducible refine W.tgd rfl ?_ | with_reducible refine W.app rfl ?_ | with_reducible refine W.fld ?_ | with_reducible refine W.keys ?_ | refine And.intro rfl ?_ | refine And.intro (Nat.le_of_ble_eq_true rfl) ?_ | dsimp only)
theorem spoon_ok {S : Sto} {m : Int} (hm : 0 < m) (hs : m < 10 ^ 40) (h : PotS S) : W (f_l_spoon [.mt 0, .int m]) S fun d S' => ∃ r : Int, d = .int r ∧ 0 ≤ r ∧ r < m ∧ PotS S' := by
  obtain ⟨i, j, rfl⟩ := h
  have cd : CDv i m := ⟨hm, by omega⟩
  have fin : ∀ a b r : Int, 0 ≤ r → r < m → (∃ r' : Int, D.int r = .int r' ∧ 0 ≤ r' ∧ r' < m ∧ PotS [.lst [.int a, .int b]]) := fun a b r h1 h2 => ⟨r, rfl, h1, h2, a, b, rfl⟩
  unfold f_l_spoon b_l_spoon
  walk_at "wg"
  refine W.ifd (fun c => ?_) (fun c => ?_)
  · walk_at "wg"
    refine ⟨_, _, _, rfl, rfl, rfl, ?_⟩
    walk_at "wg"
    exact fin _ _ _ (Int.emod_nonneg _ (by omega)) (Int.emod_lt_of_pos _ hm)
  · walk_at "wg"
    refine ⟨_, _, _, rfl, rfl, rfl, ?_⟩
    walk_at "wg"
    exact fin _ _ _ (Int.emod_nonneg _ (by omega)) (Int.emod_lt_of_pos _ hm)
theorem of_ok {S : Sto} {ds : List D} (h0 : 0 < ds.length) (h1 : ds.length < 1000) (h : PotS S) : W (f_l_of [.mt 0, .lst ds]) S fun d S' => d ∈ ds ∧ PotS S' := by
  unfold f_l_of b_l_of
  walk_at "wg"
  refine (spoon_ok (by omega) (by omega) h).imp fun d S' ⟨r, ed, h2, h3, hp⟩ => ?_
  subst ed
  obtain ⟨n, rfl⟩ : ∃ n : Nat, r = n := ⟨r.toNat, by omega⟩
  have nl : n < ds.length := by omega
  exact W.opt (atI_nat (List.getElem?_eq_getElem nl)) ⟨List.getElem_mem nl, hp⟩
/-- the values of a setting -/
def vBase : List D := [.int 10, .int 10, .int 10, .int 2, .int 3, .int 16] ++ (List.range 15).map fun (n : Nat) => .int (2 + (n : Int))
def vSign : List D := [.str "minus", .str "minus", .str "plus", .str "blank"]
def vLeast : List D := [.int 1, .int 1, .int 2, .int 3] ++ (List.range 12).map fun (n : Nat) => .int (1 + (n : Int))
def vGroup : List D := [.int 0, .int 0, .int 1, .int 2, .int 3, .int 4]
def vMark : List D := [.str " ", .str "0", .str "1", .str "-", .str "+", .str ",", .str ".", .str "9", .str "a", .str "*", .str "/", .str "5", .str "&", .str "~"] ++ signsD " !\"#$&'()*+,-./0123456789:;<=>?@ABCDEFGHIJKLMNOPQRSTUVWXYZ[\\]^_`abcdefghijklmnopqrstuvwxyz{|}~"
def vWidth : List D := [.int 0, .int 0, .int 2, .int 3, .int 4, .int 6] ++ (List.range 13).map fun (n : Nat) => .int (n : Int)
def vSide : List D := [.str "left", .str "right", .str "both", .str "inner"]
theorem sign_ok {S : Sto} (h : PotS S) : W (f_l_sign [.mt 0]) S fun d S' => d ∈ vMark ∧ PotS S' := by
  unfold f_l_sign b_l_sign
  walk_at "wg"
  refine (spoon_ok (by decide) (by decide) h).imp fun d S1 ⟨r, ed, h2, h3, hp⟩ => ?_
  subst ed
  walk_at "wg"
  refine W.ifd (fun c => ?_) (fun c => ?_)
  · walk_at "wg"
    unfold f_l_signs b_l_signs
    walk_at "wg"
    refine (spoon_ok (by decide) (by decide) hp).imp fun d S2 ⟨r2, ed, h4, h5, hp2⟩ => ?_
    subst ed
    obtain ⟨n, rfl⟩ : ∃ n : Nat, r2 = n := ⟨r2.toNat, by omega⟩
    have nl : n < (" !\"#$&'()*+,-./0123456789:;<=>?@ABCDEFGHIJKLMNOPQRSTUVWXYZ[\\]^_`abcdefghijklmnopqrstuvwxyz{|}~" : Str).cps.toList.length := by
      have e : (" !\"#$&'()*+,-./0123456789:;<=>?@ABCDEFGHIJKLMNOPQRSTUVWXYZ[\\]^_`abcdefghijklmnopqrstuvwxyz{|}~" : Str).cps.toList.length = 94 := by kernel_rfl
      omega
    refine W.ixs (by decide +kernel) (atI_nat (List.getElem?_eq_getElem nl)) ⟨List.mem_append_right _ ?_, hp2⟩
    exact List.mem_map.mpr ⟨_, List.getElem_mem nl, rfl⟩
  · walk_at "wg"
    refine (of_ok (by decide) (by decide) hp).imp fun d S2 ⟨hm, hp2⟩ => ?_
    exact ⟨List.mem_append_left _ hm, hp2⟩

end Fg
set_option Elab.async false
set_option linter.all false
set_option maxRecDepth 100000
set_option maxHeartbeats 4000000
namespace Fg
open PySem PySem.Spec PyProof.Rows L2
local macro_rules | `(tactic| walk_at "hp") => `(tactic| first | assumption | (refine Same.get (by assumption) ?_; walk_at "hp"))
local macro_rules | `(tactic| walk_at "sq") => `(tactic| first | assumption | (exact Or.inr (by assumption)) | (exact Or.inl (by assumption)) | (exact Or.inl (SqL.of (by walk_at "hp"))) | (exact Or.inr (SqT.of (by walk_at "hp"))) | (exact SqL.of (by walk_at "hp")) | (exact SqT.of (by walk_at "hp")))
local macro_rules | `(tactic| walk_at "cl") => `(tactic| first | ((first | show (_ : Int) < _ | show (_ : Int) ≤ _); first | omega | decide) | ((first | show (_ : Nat) < _ | show (_ : Nat) ≤ _); first | with_reducible assumption | (refine sz_le ?_; first | decide | omega | (simp <;> omega)) | (refine sz_lt ?_; first | decide | omega | (simp <;> omega)) | omega | decide | ((with_reducible show List.length _ < _); exact Nat.le_of_ble_eq_true rfl)) | rfl | walk_at "hp" | walk_at "sq" | (refine And.intro (by walk_at "cl") (by walk_at "cl")) | (exact Exists.intro _ (by walk_at "hp")) | (exact Exists.intro _ (Exists.intro _ (by walk_at "hp"))) | (exact Exists.intro _ (Exists.intro _ (And.intro (by walk_at "hp") rfl))) | decide | (exact Or.inl (by walk_at "cl")) | (exact Or.inr (by walk_at "cl")) | omega)
local macro_rules | `(tactic| walk_at "s1") => `(tactic| first | refine And.intro (by walk_at "cl") ?_ | apply Exists.intro)
local macro_rules | `(tactic| walk_at "sx") => `(tactic| repeat walk_at "s1")
local macro_rules | `(tactic| walk_at "si") => `(tactic| first | refine iteY rfl ?_ | refine iteN rfl ?_)
local macro_rules | `(tactic| walk_at "sy") => `(tactic| repeat first | walk_at "s1" | walk_at "si")
local macro_rules | `(tactic| walk_at "wg") => `(tactic| repeat' first | with_reducible refine W.run ?_ | with_reducible refine W.runi ?_ | with_reducible refine W.seq ?_ | with_reducible refine W.set ?_ | with_reducible refine W.ret ?_ | with_reducible refine W.ifs ?_ | with_reducible refine W.disp1 ?_ | with_reducible refine W.ife ?_ | with_reducible refine W.skip ?_ | with_reducible refine W.rdd rfl ?_ | with_reducible refine W.lst ?_ | with_reducible refine W.tup ?_ | with_reducible refine W.asg ?_ | with_reducible refine W.fmt ?_ | with_reducible refine W.nkd ?_ | with_reducible refine W.ndd ?_ | with_reducible refine W.tv ?_ | with_reducible refine W.notm ?_ | with_reducible refine W.bin ?_ | with_reducible refine W.one ?_ | with_reducible refine W.callm ?_ | with_reducible refine W.call ?_ | with_reducible refine W.cons ?_ | with_reducible refine W.nil ?_ | with_reducible refine W.cst ?_ | with_reducible refine W.ixm rfl rfl ?_ | with_reducible refine W.gt ?_ | with_reducible refine W.add ?_ | with_reducible refine W.mul (cm_r (by decide) (by decide)) ?_ | with_reducible refine W.mod (by first | assumption | decide) ?_ | with_reducible refine W.fdiv (by first | assumption | exact cdv_r (by decide) (by decide)) ?_ | with_reducible refine W.intd ?_ | with_reducible refine W.eqI ?_ | with_reducible refine W.lenL ?_ | with_reducible refine W.tbd ?_ | with_reducible refine W.mput (k := 0) ?_ | with_reducible refine W.tgt2 ?_ | with_reducible refine W.tgn ?_ | with_reducible refine W.tgd rfl ?_ | with_reducible refine W.app rfl ?_ | with_reducible refine W.fld ?_ | with_reducible refine W.keys ?_ | refine And.intro rfl ?_ | refine And.intro (Nat.le_of_ble_eq_true rfl) ?_ | dsimp only)
local macro_rules | `(tactic| walk_at "wh") => `(tactic| repeat' first | with_reducible refine W.run ?_ | with_reducible refine W.runi ?_ | with_reducible refine W.seq ?_ | with_reducible refine W.set ?_ | with_reducible refine W.ret ?_ | with_reducible refine W.ifs ?_ | with_reducible refine W.disp1 ?_ | with_reducible refine W.skip ?_ | with_reducible refine W.rdd rfl ?_ | with_reducible refine W.lst ?_ | with_reducible refine W.tup ?_ | with_reducible refine W.asg ?_ | with_reducible refine W.fmt ?_ | with_reducible refine W.nkd ?_ | with_reducible refine W.ndd ?_ | with_reducible refine W.tv ?_ | with_reducible refine W.notm ?_ | with_reducible refine W.bin ?_ | with_reducible refine W.one ?_ | with_reducible refine W.callm ?_ | with_reducible refine W.call ?_ | with_reducible refine W.cons ?_ | with_reducible refine W.nil ?_ | with_reducible refine W.cst ?_ | with_reducible refine W.ixm rfl rfl ?_ | with_reducible refine W.gt ?_ | with_reducible refine W.add ?_ | with_reducible refine W.mul (cm_r (by decide) (by decide)) ?_ | with_reducible refine W.mod (by first | assumption | decide) ?_ | with_reducible refine W.fdiv (by first | assumption | exact cdv_r (by decide) (by decide)) ?_ | with_reducible refine W.intd ?_ | with_reducible refine W.eqI ?_ | with_reducible refine W.lenL ?_ | with_reducible refine W.tbd ?_ | with_reducible refine W.mput (k := 0) ?_ | with_reducible refine W.tgt2 ?_ | with_reducible refine W.tgn ?_ | with_reducible refine W.tgd rfl ?_ | with_reducible refine W.app rfl ?_ | with_reducible refine W.fld ?_ | with_reducible refine W.keys ?_ | refine And.intro rfl ?_ | refine And.intro (Nat.le_of_ble_eq_true rfl) ?_ | dsimp only)
local macro_rules | `(tactic| walk_at "wf") => `(tactic| repeat' first | with_reducible refine W.run ?_ | with_reducible refine W.runi ?_ | with_reducible refine W.seq ?_ | with_reducible refine W.set ?_ | with_reducible refine W.ret ?_ | with_reducible refine W.ifs ?_ | with_reducible refine W.disp1 ?_ | with_reducible refine W.fors ?_ | with_reducible refine W.forc ?_ | with_reducible refine W.forn ?_ | with_reducible refine W.zip ?_ | (with_reducible refine W.ife_f (by kernel_rfl) ?_) | (with_reducible refine W.ife_t (by kernel_rfl) ?_) | with_reducible refine W.skip ?_ | with_reducible refine W.rdd rfl ?_ | with_reducible refine W.lst ?_ | with_reducible refine W.tup ?_ | with_reducible refine W.asg ?_ | with_reducible refine W.fmt ?_ | with_reducible refine W.nkd ?_ | with_reducible refine W.ndd ?_ | with_reducible refine W.tv ?_ | with_reducible refine W.notm ?_ | with_reducible refine W.bin ?_ | with_reducible refine W.one ?_ | with_reducible refine W.callm ?_ | with_reducible refine W.call ?_ | with_reducible refine W.cons ?_ | with_reducible refine W.nil ?_ | with_reducible refine W.cst ?_ | with_reducible refine W.ixm rfl rfl ?_ | with_reducible refine W.gt ?_ | with_reducible refine W.add ?_ | with_reducible refine W.mul (cm_r (by decide) (by decide)) ?_ | with_reducible refine W.mod (by first | assumption | decide) ?_ | with_reducible refine W.fdiv (by first | assumption | exact cdv_r (by decide) (by decide)) ?_ | with_reducible refine W.intd ?_ | with_reducible refine W.eqI ?_ | with_reducible refine W.lenL ?_ | with_reducible refine W.tbd ?_ | with_reducible refine W.mput (k := 0) ?_ | with_reducible refine W.tgt2 ?_ | with_reducible refine W.tgn ?_ | with_reducible refine W.tgd rfl ?_ | with_reducible refine W.app rfl ?_ | with_reducible refine W.fld ?_ | with_reducible refine W.keys ?_ | refine And.intro rfl ?_ | refine And.intro (Nat.le_of_ble_eq_true rfl) ?_ | dsimp only)
theorem shape_ok {S : Sto} (h : PotS S) : W (f_l_shape [.mt 0]) S fun d S' => (∃ b s l g m w f sd, d = .dct [(.inr "base", b), (.inr "sign", s), (.inr "least", l), (.inr "group", g), (.inr "mark", m), (.inr "width", w), (.inr "fill", f), (.inr "side", sd)] ∧ b ∈ vBase ∧ s ∈ vSign ∧ l ∈ vLeast ∧ g ∈ vGroup ∧ m ∈ vMark ∧ w ∈ vWidth ∧ f ∈ vMark ∧ sd ∈ vSide) ∧ PotS S' := by
  unfold f_l_shape b_l_shape
  walk_at "wh"
  refine (spoon_ok (by decide) (by decide) h).imp fun d S1 ⟨far, ed, h2, h3, hp⟩ => ?_
  subst ed
  clear h
  walk_at "wh"
  refine W.imp (P := fun b S' => b ∈ vBase ∧ PotS S') ?_ fun b S2 ⟨hb, hp2⟩ => ?_
  · walk_at "wg"
    refine W.ifd (fun c => ?_) (fun c => ?_)
    · walk_at "wg"
      refine (spoon_ok (by decide) (by decide) hp).imp fun d S2 ⟨r, ed, h4, h5, hp2⟩ => ?_
      subst ed
      walk_at "wg"
      obtain ⟨n, rfl⟩ : ∃ n : Nat, r = n := ⟨r.toNat, by omega⟩
      exact ⟨List.mem_append_right _ (List.mem_map.mpr ⟨n, List.mem_range.mpr (by omega), rfl⟩), hp2⟩
    · walk_at "wg"
      exact (of_ok (by decide) (by decide) hp).imp fun d S2 ⟨hm, hp2⟩ => ⟨List.mem_append_left _ hm, hp2⟩
  clear hp
  walk_at "wh"
  refine (of_ok (by decide) (by decide) hp2).imp fun s S3 ⟨hs, hp3⟩ => ?_
  clear hp2
  walk_at "wh"
  refine W.imp (P := fun b S' => b ∈ vLeast ∧ PotS S') ?_ fun l S4 ⟨hl, hp4⟩ => ?_
  · walk_at "wg"
    refine W.ifd (fun c => ?_) (fun c => ?_)
    · walk_at "wg"
      refine (spoon_ok (by decide) (by decide) hp3).imp fun d S2 ⟨r, ed, h4, h5, hp2⟩ => ?_
      subst ed
      walk_at "wg"
      obtain ⟨n, rfl⟩ : ∃ n : Nat, r = n := ⟨r.toNat, by omega⟩
      exact ⟨List.mem_append_right _ (List.mem_map.mpr ⟨n, List.mem_range.mpr (by omega), rfl⟩), hp2⟩
    · walk_at "wg"
      exact (of_ok (by decide) (by decide) hp3).imp fun d S2 ⟨hm, hp2⟩ => ⟨List.mem_append_left _ hm, hp2⟩
  clear hp3
  walk_at "wh"
  refine (of_ok (by decide) (by decide) hp4).imp fun g S5 ⟨hg, hp5⟩ => ?_
  clear hp4
  walk_at "wh"
  refine (sign_ok hp5).imp fun m S6 ⟨hm, hp6⟩ => ?_
  clear hp5
  walk_at "wh"
  refine W.imp (P := fun b S' => b ∈ vWidth ∧ PotS S') ?_ fun w S7 ⟨hw, hp7⟩ => ?_
  · walk_at "wg"
    refine W.ifd (fun c => ?_) (fun c => ?_)
    · walk_at "wg"
      refine (spoon_ok (by decide) (by decide) hp6).imp fun d S2 ⟨r, ed, h4, h5, hp2⟩ => ?_
      subst ed
      obtain ⟨n, rfl⟩ : ∃ n : Nat, r = n := ⟨r.toNat, by omega⟩
      exact ⟨List.mem_append_right _ (List.mem_map.mpr ⟨n, List.mem_range.mpr (by omega), rfl⟩), hp2⟩
    · walk_at "wg"
      exact (of_ok (by decide) (by decide) hp6).imp fun d S2 ⟨hm, hp2⟩ => ⟨List.mem_append_left _ hm, hp2⟩
  clear hp6
  walk_at "wh"
  refine (sign_ok hp7).imp fun f S8 ⟨hf, hp8⟩ => ?_
  clear hp7
  walk_at "wh"
  refine (of_ok (by decide) (by decide) hp8).imp fun sd S9 ⟨hsd, hp9⟩ => ?_
  clear hp8
  walk_at "wh"
  exact ⟨⟨b, s, l, g, m, w, f, sd, by kernel_rfl, hb, hs, hl, hg, hm, hw, hf, hsd⟩, hp9⟩

end Fg
set_option Elab.async false
set_option linter.all false
set_option maxRecDepth 100000
set_option maxHeartbeats 4000000
namespace Fg
open PySem PySem.Spec PyProof.Rows L2
local macro_rules | `(tactic| walk_at "hp") => `(tactic| first | assumption | (refine Same.get (by assumption) ?_; walk_at "hp"))
local macro_rules | `(tactic| walk_at "sq") => `(tactic| first | assumption | (exact Or.inr (by assumption)) | (exact Or.inl (by assumption)) | (exact Or.inl (SqL.of (by walk_at "hp"))) | (exact Or.inr (SqT.of (by walk_at "hp"))) | (exact SqL.of (by walk_at "hp")) | (exact SqT.of (by walk_at "hp")))
local macro_rules | `(tactic| walk_at "cl") => `(tactic| first | ((first | show (_ : Int) < _ | show (_ : Int) ≤ _); first | omega | decide) | ((first | show (_ : Nat) < _ | show (_ : Nat) ≤ _); first | with_reducible assumption | (refine sz_le ?_; first | decide | omega | (simp <;> omega)) | (refine sz_lt ?_; first | decide | omega | (simp <;> omega)) | omega | decide | ((with_reducible show List.length _ < _); exact Nat.le_of_ble_eq_true rfl)) | rfl | walk_at "hp" | walk_at "sq" | (refine And.intro (by walk_at "cl") (by walk_at "cl")) | (exact Exists.intro _ (by walk_at "hp")) | (exact Exists.intro _ (Exists.intro _ (by walk_at "hp"))) | (exact Exists.intro _ (Exists.intro _ (And.intro (by walk_at "hp") rfl))) | decide | (exact Or.inl (by walk_at "cl")) | (exact Or.inr (by walk_at "cl")) | omega)
local macro_rules | `(tactic| walk_at "s1") => `(tactic| first | refine And.intro (by walk_at "cl") ?_ | apply Exists.intro)
local macro_rules | `(tactic| walk_at "sx") => `(tactic| repeat walk_at "s1")
local macro_rules | `(tactic| walk_at "si") => `(tactic| first | refine iteY rfl ?_ | refine iteN rfl ?_)
local macro_rules | `(tactic| walk_at "sy") => `(tactic| repeat first | walk_at "s1" | walk_at "si")
local macro_rules | `(tactic| walk_at "wg") => `(tactic| repeat' first | with_reducible refine W.run ?_ | with_reducible refine W.runi ?_ | with_reducible refine W.seq ?_ | with_reducible refine W.set ?_ | with_reducible refine W.ret ?_ | with_reducible refine W.ifs ?_ | with_reducible refine W.disp1 ?_ | with_reducible refine W.ife ?_ | with_reducible refine W.skip ?_ | with_reducible refine W.rdd rfl ?_ | with_reducible refine W.lst ?_ | with_reducible refine W.tup ?_ | with_reducible refine W.asg ?_ | with_reducible refine W.fmt ?_ | with_reducible refine W.nkd ?_ | with_reducible refine W.ndd ?_ | with_reducible refine W.tv ?_ | with_reducible refine W.notm ?_ | with_reducible refine W.bin ?_ | with_reducible refine W.one ?_ | with_reducible refine W.callm ?_ | with_reducible refine W.call ?_ | with_reducible refine W.cons ?_ | with_reducible refine W.nil ?_ | with_reducible refine W.cst ?_ | with_reducible refine W.ixm rfl rfl ?_ | with_reducible refine W.gt ?_ | with_reducible refine W.add ?_ | with_reducible refine W.mul (cm_r (by decide) (by decide)) ?_ | with_reducible refine W.mod (by first | assumption | decide) ?_ | with_reducible refine W.fdiv (by first | assumption | exact cdv_r (by decide) (by decide)) ?_ | with_reducible refine W.intd ?_ | with_reducible refine W.eqI ?_ | with_reducible refine W.lenL ?_ | with_reducible refine W.tbd ?_ | with_reducible refine W.mput (k := 0) ?_ | with_reducible refine W.tgt2 ?_ | with_reducible refine W.tgn ?_ | with_reducible refine W.tgd rfl ?_ | with_reducible refine W.app rfl ?_ | with_reducible refine W.fld ?_ | with_reducible refine W.keys ?_ | refine And.intro rfl ?_ | refine And.intro (Nat.le_of_ble_eq_true rfl) ?_ | dsimp only)
local macro_rules | `(tactic| walk_at "wh") => `(tactic| repeat' first | with_reducible refine W.run ?_ | with_reducible refine W.runi ?_ | with_reducible refine W.seq ?_ | with_reducible refine W.set ?_ | with_reducible refine W.ret ?_ | with_reducible refine W.ifs ?_ | with_reducible refine W.disp1 ?_ | with_reducible refine W.skip ?_ | with_reducible refine W.rdd rfl ?_ | with_reducible refine W.lst ?_ | with_reducible refine W.tup ?_ | with_reducible refine W.asg ?_ | with_reducible refine W.fmt ?_ | with_reducible refine W.nkd ?_ | with_reducible refine W.ndd ?_ | with_reducible refine W.tv ?_ | with_reducible refine W.notm ?_ | with_reducible refine W.bin ?_ | with_reducible refine W.one ?_ | with_reducible refine W.callm ?_ | with_reducible refine W.call ?_ | with_reducible refine W.cons ?_ | with_reducible refine W.nil ?_ | with_reducible refine W.cst ?_ | with_reducible refine W.ixm rfl rfl ?_ | with_reducible refine W.gt ?_ | with_reducible refine W.add ?_ | with_reducible refine W.mul (cm_r (by decide) (by decide)) ?_ | with_reducible refine W.mod (by first | assumption | decide) ?_ | with_reducible refine W.fdiv (by first | assumption | exact cdv_r (by decide) (by decide)) ?_ | with_reducible refine W.intd ?_ | with_reducible refine W.eqI ?_ | with_reducible refine W.lenL ?_ | with_reducible refine W.tbd ?_ | with_reducible refine W.mput (k := 0) ?_ | with_reducible refine W.tgt2 ?_ | with_reducible refine W.tgn ?_ | with_reducible refine W.tgd rfl ?_ | with_reducible refine W.app rfl ?_ | with_reducible refine W.fld ?_ | with_reducible refine W.keys ?_ | refine And.intro rfl ?_ | refine And.intro (Nat.le_of_ble_eq_true rfl) ?_ | dsimp only)
local macro_rules | `(tactic| walk_at "wf") => `(tactic| repeat' first | with_reducible refine W.run ?_ | with_reducible refine W.runi ?_ | with_reducible refine W.seq ?_ | with_reducible refine W.set ?_ | with_reducible refine W.ret ?_ | with_reducible refine W.ifs ?_ | with_reducible refine W.disp1 ?_ | with_reducible refine W.fors ?_ | with_reducible refine W.forc ?_ | with_reducible refine W.forn ?_ | with_reducible refine W.zip ?_ | (with_reducible refine W.ife_f (by kernel_rfl) ?_) | (with_reducible refine W.ife_t (by kernel_rfl) ?_) | with_reducible refine W.skip ?_ | with_reducible refine W.rdd rfl ?_ | with_reducible refine W.lst ?_ | with_reducible refine W.tup ?_ | with_reducible refine W.asg ?_ | with_reducible refine W.fmt ?_ | with_reducible refine W.nkd ?_ | with_reducible refine W.ndd ?_ | with_reducible refine W.tv ?_ | with_reducible refine W.notm ?_ | with_reducible refine W.bin ?_ | with_reducible refine W.one ?_ | with_reducible refine W.callm ?_ | with_reducible refine W.call ?_ | with_reducible refine W.cons ?_ | with_reducible refine W.nil ?_ | with_reducible refine W.cst ?_ | with_reducible refine W.ixm rfl rfl ?_ | with_reducible refine W.gt ?_ | with_reducible refine W.add ?_ | with_reducible refine W.mul (cm_r (by decide) (by decide)) ?_ | with_reducible refine W.mod (by first | assumption | decide) ?_ | with_reducible refine W.fdiv (by first | assumption | exact cdv_r (by decide) (by decide)) ?_ | with_reducible refine W.intd ?_ | with_reducible refine W.eqI ?_ | with_reducible refine W.lenL ?_ | with_reducible refine W.tbd ?_ | with_reducible refine W.mput (k := 0) ?_ | with_reducible refine W.tgt2 ?_ | with_reducible refine W.tgn ?_ | with_reducible refine W.tgd rfl ?_ | with_reducible refine W.app rfl ?_ | with_reducible refine W.fld ?_ | with_reducible refine W.keys ?_ | refine And.intro rfl ?_ | refine And.intro (Nat.le_of_ble_eq_true rfl) ?_ | dsimp only)
/-- a setting's value is good, whatever the pot -/
def GoodV (nm : Str) (d : D) : Prop := ∀ S, f_is_setting [.str nm, d] S = some (.ok (.bl true), S)
theorem goodBase : ∀ d ∈ vBase, GoodV "base" d := fun d hd S => all_eq (f := fun d => f_is_setting [.str "base", d] S) (g := fun _ => some (.ok (.bl true), S)) (by kernel_rfl) d hd
theorem goodSign : ∀ d ∈ vSign, GoodV "sign" d := fun d hd S => all_eq (f := fun d => f_is_setting [.str "sign", d] S) (g := fun _ => some (.ok (.bl true), S)) (by kernel_rfl) d hd
theorem goodLeast : ∀ d ∈ vLeast, GoodV "least" d := fun d hd S => all_eq (f := fun d => f_is_setting [.str "least", d] S) (g := fun _ => some (.ok (.bl true), S)) (by kernel_rfl) d hd
theorem goodGroup : ∀ d ∈ vGroup, GoodV "group" d := fun d hd S => all_eq (f := fun d => f_is_setting [.str "group", d] S) (g := fun _ => some (.ok (.bl true), S)) (by kernel_rfl) d hd
theorem goodMark : ∀ d ∈ vMark, GoodV "mark" d := fun d hd S => all_eq (f := fun d => f_is_setting [.str "mark", d] S) (g := fun _ => some (.ok (.bl true), S)) (by kernel_rfl) d hd
theorem goodWidth : ∀ d ∈ vWidth, GoodV "width" d := fun d hd S => all_eq (f := fun d => f_is_setting [.str "width", d] S) (g := fun _ => some (.ok (.bl true), S)) (by kernel_rfl) d hd
theorem goodFill : ∀ d ∈ vMark, GoodV "fill" d := fun d hd S => all_eq (f := fun d => f_is_setting [.str "fill", d] S) (g := fun _ => some (.ok (.bl true), S)) (by kernel_rfl) d hd
theorem goodSide : ∀ d ∈ vSide, GoodV "side" d := fun d hd S => all_eq (f := fun d => f_is_setting [.str "side", d] S) (g := fun _ => some (.ok (.bl true), S)) (by kernel_rfl) d hd
/-- its word -/
def wordX (d : D) : Str := match fmtD d [] with
  | some (.ok x, _) => x
  | _ => ""
def codeX (d : D) : Int := match f_code_of [d] [] with
  | some (.ok (.int i), _) => i
  | _ => 0
def Word1 (d : D) : Prop := ∃ x : Str, x.length ≤ 100 ∧ ∀ S, fmtD d S = some (.ok x, S)
def Word2 (d : D) : Prop := ∃ i : Int, (toString i : Str).length ≤ 100 ∧ i.natAbs.log2 < 1920 ∧ ∀ S, f_code_of [d] S = some (.ok (.int i), S)
theorem wordA {l : List D} (h1 : l.all (fun d => decide ((wordX d).length ≤ 100)) = true) (h2 : ∀ S, l.map (fun d => fmtD d S) = l.map (fun d => some (.ok (wordX d), S))) : ∀ d ∈ l, Word1 d := fun d hd => ⟨wordX d, of_decide_eq_true (List.all_eq_true.mp h1 d hd), fun S => all_eq (h2 S) d hd⟩
theorem wordBase : ∀ d ∈ vBase, Word1 d := wordA (by kernel_rfl) fun S => by kernel_rfl
theorem wordSign : ∀ d ∈ vSign, Word1 d := wordA (by kernel_rfl) fun S => by kernel_rfl
theorem wordLeast : ∀ d ∈ vLeast, Word1 d := wordA (by kernel_rfl) fun S => by kernel_rfl
theorem wordGroup : ∀ d ∈ vGroup, Word1 d := wordA (by kernel_rfl) fun S => by kernel_rfl
theorem wordWidth : ∀ d ∈ vWidth, Word1 d := wordA (by kernel_rfl) fun S => by kernel_rfl
theorem wordSide : ∀ d ∈ vSide, Word1 d := wordA (by kernel_rfl) fun S => by kernel_rfl
theorem wordMark : ∀ d ∈ vMark, Word2 d := fun d hd => by
  have h := List.all_eq_true.mp (show vMark.all (fun d => decide ((toString (codeX d) : Str).length ≤ 100 ∧ (codeX d).natAbs.log2 < 1920)) = true from by kernel_rfl) d hd
  have h := of_decide_eq_true h
  exact ⟨codeX d, h.1, h.2, fun S => all_eq (f := fun d => f_code_of [d] S) (g := fun d => some (.ok (.int (codeX d)), S)) (by kernel_rfl) d hd⟩

end Fg
set_option Elab.async false
set_option linter.all false
set_option maxRecDepth 100000
set_option maxHeartbeats 4000000
namespace Fg
open PySem PySem.Spec PyProof.Rows L2
local macro_rules | `(tactic| walk_at "hp") => `(tactic| first | assumption | (refine Same.get (by assumption) ?_; walk_at "hp"))
local macro_rules | `(tactic| walk_at "sq") => `(tactic| first | assumption | (exact Or.inr (by assumption)) | (exact Or.inl (by assumption)) | (exact Or.inl (SqL.of (by walk_at "hp"))) | (exact Or.inr (SqT.of (by walk_at "hp"))) | (exact SqL.of (by walk_at "hp")) | (exact SqT.of (by walk_at "hp")))
local macro_rules | `(tactic| walk_at "cl") => `(tactic| first | ((first | show (_ : Int) < _ | show (_ : Int) ≤ _); first | omega | decide) | ((first | show (_ : Nat) < _ | show (_ : Nat) ≤ _); first | with_reducible assumption | (refine sz_le ?_; first | decide | omega | (simp <;> omega)) | (refine sz_lt ?_; first | decide | omega | (simp <;> omega)) | omega | decide | ((with_reducible show List.length _ < _); exact Nat.le_of_ble_eq_true rfl)) | rfl | walk_at "hp" | walk_at "sq" | (refine And.intro (by walk_at "cl") (by walk_at "cl")) | (exact Exists.intro _ (by walk_at "hp")) | (exact Exists.intro _ (Exists.intro _ (by walk_at "hp"))) | (exact Exists.intro _ (Exists.intro _ (And.intro (by walk_at "hp") rfl))) | decide | (exact Or.inl (by walk_at "cl")) | (exact Or.inr (by walk_at "cl")) | omega)
local macro_rules | `(tactic| walk_at "s1") => `(tactic| first | refine And.intro (by walk_at "cl") ?_ | apply Exists.intro)
local macro_rules | `(tactic| walk_at "sx") => `(tactic| repeat walk_at "s1")
local macro_rules | `(tactic| walk_at "si") => `(tactic| first | refine iteY rfl ?_ | refine iteN rfl ?_)
local macro_rules | `(tactic| walk_at "sy") => `(tactic| repeat first | walk_at "s1" | walk_at "si")
local macro_rules | `(tactic| walk_at "wg") => `(tactic| repeat' first | with_reducible refine W.run ?_ | with_reducible refine W.runi ?_ | with_reducible refine W.seq ?_ | with_reducible refine W.set ?_ | with_reducible refine W.ret ?_ | with_reducible refine W.ifs ?_ | with_reducible refine W.disp1 ?_ | with_reducible refine W.ife ?_ | with_reducible refine W.skip ?_ | with_reducible refine W.rdd rfl ?_ | with_reducible refine W.lst ?_ | with_reducible refine W.tup ?_ | with_reducible refine W.asg ?_ | with_reducible refine W.fmt ?_ | with_reducible refine W.nkd ?_ | with_reducible refine W.ndd ?_ | with_reducible refine W.tv ?_ | with_reducible refine W.notm ?_ | with_reducible refine W.bin ?_ | with_reducible refine W.one ?_ | with_reducible refine W.callm ?_ | with_reducible refine W.call ?_ | with_reducible refine W.cons ?_ | with_reducible refine W.nil ?_ | with_reducible refine W.cst ?_ | with_reducible refine W.ixm rfl rfl ?_ | with_reducible refine W.gt ?_ | with_reducible refine W.add ?_ | with_reducible refine W.mul (cm_r (by decide) (by decide)) ?_ | with_reducible refine W.mod (by first | assumption | decide) ?_ | with_reducible refine W.fdiv (by first | assumption | exact cdv_r (by decide) (by decide)) ?_ | with_reducible refine W.intd ?_ | with_reducible refine W.eqI ?_ | with_reducible refine W.lenL ?_ | with_reducible refine W.tbd ?_ | with_reducible refine W.mput (k := 0) ?_ | with_reducible refine W.tgt2 ?_ | with_reducible refine W.tgn ?_ | with_reducible refine W.tgd rfl ?_ | with_reducible refine W.app rfl ?_ | with_reducible refine W.fld ?_ | with_reducible refine W.keys ?_ | refine And.intro rfl ?_ | refine And.intro (Nat.le_of_ble_eq_true rfl) ?_ | dsimp only)
local macro_rules | `(tactic| walk_at "wh") => `(tactic| repeat' first | with_reducible refine W.run ?_ | with_reducible refine W.runi ?_ | with_reducible refine W.seq ?_ | with_reducible refine W.set ?_ | with_reducible refine W.ret ?_ | with_reducible refine W.ifs ?_ | with_reducible refine W.disp1 ?_ | with_reducible refine W.skip ?_ | with_reducible refine W.rdd rfl ?_ | with_reducible refine W.lst ?_ | with_reducible refine W.tup ?_ | with_reducible refine W.asg ?_ | with_reducible refine W.fmt ?_ | with_reducible refine W.nkd ?_ | with_reducible refine W.ndd ?_ | with_reducible refine W.tv ?_ | with_reducible refine W.notm ?_ | with_reducible refine W.bin ?_ | with_reducible refine W.one ?_ | with_reducible refine W.callm ?_ | with_reducible refine W.call ?_ | with_reducible refine W.cons ?_ | with_reducible refine W.nil ?_ | with_reducible refine W.cst ?_ | with_reducible refine W.ixm rfl rfl ?_ | with_reducible refine W.gt ?_ | with_reducible refine W.add ?_ | with_reducible refine W.mul (cm_r (by decide) (by decide)) ?_ | with_reducible refine W.mod (by first | assumption | decide) ?_ | with_reducible refine W.fdiv (by first | assumption | exact cdv_r (by decide) (by decide)) ?_ | with_reducible refine W.intd ?_ | with_reducible refine W.eqI ?_ | with_reducible refine W.lenL ?_ | with_reducible refine W.tbd ?_ | with_reducible refine W.mput (k := 0) ?_ | with_reducible refine W.tgt2 ?_ | with_reducible refine W.tgn ?_ | with_reducible refine W.tgd rfl ?_ | with_reducible refine W.app rfl ?_ | with_reducible refine W.fld ?_ | with_reducible refine W.keys ?_ | refine And.intro rfl ?_ | refine And.intro (Nat.le_of_ble_eq_true rfl) ?_ | dsimp only)
local macro_rules | `(tactic| walk_at "wf") => `(tactic| repeat' first | with_reducible refine W.run ?_ | with_reducible refine W.runi ?_ | with_reducible refine W.seq ?_ | with_reducible refine W.set ?_ | with_reducible refine W.ret ?_ | with_reducible refine W.ifs ?_ | with_reducible refine W.disp1 ?_ | with_reducible refine W.fors ?_ | with_reducible refine W.forc ?_ | with_reducible refine W.forn ?_ | with_reducible refine W.zip ?_ | (with_reducible refine W.ife_f (by kernel_rfl) ?_) | (with_reducible refine W.ife_t (by kernel_rfl) ?_) | with_reducible refine W.skip ?_ | with_reducible refine W.rdd rfl ?_ | with_reducible refine W.lst ?_ | with_reducible refine W.tup ?_ | with_reducible refine W.asg ?_ | with_reducible refine W.fmt ?_ | with_reducible refine W.nkd ?_ | with_reducible refine W.ndd ?_ | with_reducible refine W.tv ?_ | with_reducible refine W.notm ?_ | with_reducible refine W.bin ?_ | with_reducible refine W.one ?_ | with_reducible refine W.callm ?_ | with_reducible refine W.call ?_ | with_reducible refine W.cons ?_ | with_reducible refine W.nil ?_ | with_reducible refine W.cst ?_ | with_reducible refine W.ixm rfl rfl ?_ | with_reducible refine W.gt ?_ | with_reducible refine W.add ?_ | with_reducible refine W.mul (cm_r (by decide) (by decide)) ?_ | with_reducible refine W.mod (by first | assumption | decide) ?_ | with_reducible refine W.fdiv (by first | assumption | exact cdv_r (by decide) (by decide)) ?_ | with_reducible refine W.intd ?_ | with_reducible refine W.eqI ?_ | with_reducible refine W.lenL ?_ | with_reducible refine W.tbd ?_ | with_reducible refine W.mput (k := 0) ?_ | with_reducible refine W.tgt2 ?_ | with_reducible refine W.tgn ?_ | with_reducible refine W.tgd rfl ?_ | with_reducible refine W.app rfl ?_ | with_reducible refine W.fld ?_ | with_reducible refine W.keys ?_ | refine And.intro rfl ?_ | refine And.intro (Nat.le_of_ble_eq_true rfl) ?_ | dsimp only)
theorem W.loop {g : D → DEnv → M DEnv} {b : DEnv → M (DEnv × Fl)} {Iv : List D → DEnv → Sto → Prop} (step : ∀ x r δ S, Iv (x :: r) δ S → W (g x δ) S fun δ1 S1 => W (b δ1) S1 fun p S2 => p.2 = .nx ∧ Iv r p.1 S2) :
    ∀ (xs : List D) (δ : DEnv) (S : Sto), Iv xs δ S → W (forL g b xs δ) S fun p S' => p.2 = .nx ∧ Iv [] p.1 S'
  | [], _, _, h => W.forn ⟨rfl, h⟩
  | x :: r, δ, S, h => W.forc ((step x r δ S h).imp fun δ1 S1 q => q.imp fun p S2 ⟨e, q⟩ => by rw [e]; exact W.loop step r _ _ q)
theorem fmt_int {i : Int} {S : Sto} (k : i.natAbs.log2 < 1920) : fmtD (.int i) S = some (.ok (toString i), S) := by
  show (if i.natAbs.log2 < 1920 then (pure (toString i) : M Str) else M.stuck) S = _
  rw [if_pos k]
  rfl
def isMF (nm : Str) : Bool := [D.str "mark", D.str "fill"].any fun y => eqF y (.str nm)
theorem mf_test {t l d : Option D} {nm : Str} {S : Sto} : tvM (binM (inQD false) (rd 2) (tupM (consM (cM (.str "mark")) (consM (cM (.str "fill")) nilM)))) [t, l, some (.str nm), d] S = some (.ok (isMF nm), S) := by kernel_rfl
def PairOk (x : D) : Prop := ∃ nm d, x = .tup [.str nm, d] ∧ nm.length ≤ 10 ∧ (isMF nm = true → Word2 d) ∧ (isMF nm = false → Word1 d)
theorem strs_app {a : Str} : ∀ {l : List D} {ys : List Str}, strsD l = some ys → strsD (l ++ [.str a]) = some (ys ++ [a])
  | [], ys, h => by cases h; rfl
  | .str x :: r, ys, h => by
    obtain ⟨zs, hz, h⟩ := Option.map_eq_some_iff.mp (show (strsD r).map (x :: ·) = some ys from h)
    subst h
    show (strsD (r ++ [.str a])).map (x :: ·) = _
    rw [strs_app hz]
    rfl
def TextIv (t : D) (S : Sto) (xs : List D) (δ : DEnv) (S' : Sto) : Prop := S' = S ∧ (∀ x ∈ xs, PairOk x) ∧ ∃ acc ys a2 a3, δ = [some t, some (.lst acc), a2, a3] ∧ strsD acc = some ys ∧ acc.length + 2 * xs.length ≤ 16 ∧ ys.length + 2 * xs.length ≤ 16 ∧ (ys.map (·.length)).sum + 110 * xs.length ≤ 880
theorem text_turn {t : D} {S : Sto} (x : D) (r : List D) (δ : DEnv) (S1 : Sto) (h : TextIv t S (x :: r) δ S1) : W (tgT [tgN 2, tgN 3] x δ) S1 fun δ1 S1 => W ((seqS (appS 1 (rd 2)) (seqS (appS 1 (ifE (tvM (binM (inQD false) (rd 2) (tupM (consM (cM (.str "mark")) (consM (cM (.str "fill")) nilM))))) (fmtM (callD 1 f_code_of (consM (rd 3) nilM))) (fmtM (rd 3)))) skipS)) δ1) S1 fun p S2 => p.2 = .nx ∧ TextIv t S r p.1 S2 := by
  obtain ⟨rfl, hp, acc, ys, a2, a3, rfl, hy, h1, h2, h3⟩ := h
  rw [List.length_cons] at h1 h2 h3
  obtain ⟨nm, d, rfl, hn, m1, m2⟩ := hp x (List.mem_cons_self ..)
  have fin : ∀ z : Str, z.length ≤ 100 → TextIv t S1 r [some t, some (.lst (acc ++ [.str nm] ++ [.str z])), some (.str nm), some d] S1 := fun z hz => by
    refine ⟨rfl, fun y hy => hp y (List.mem_cons_of_mem _ hy), _, _, _, _, rfl, strs_app (strs_app hy), ?_, ?_, ?_⟩
    · rw [List.length_append, List.length_append, List.length_singleton, List.length_singleton]; omega
    · rw [List.length_append, List.length_append, List.length_singleton, List.length_singleton]; omega
    · rw [List.map_append, List.map_append, List.sum_append, List.sum_append]
      simp only [List.map_cons, List.map_nil, List.sum_cons, List.sum_nil]
      omega
  refine W.tgt2 (W.tgn (W.tgn ?_))
  show W _ _ _
  refine W.seq (W.app rfl (W.rdd rfl ⟨sz_lt (by omega), ?_⟩))
  refine W.seq (W.app (ds := acc ++ [.str nm]) rfl ?_)
  have sz : (acc ++ [D.str nm]).length < sizeLine := by
    refine sz_lt ?_
    rw [List.length_append, List.length_singleton]; omega
  cases hc : isMF nm with
  | true =>
    obtain ⟨k, l5, k5, e5⟩ := m1 hc
    refine W.ife_t (mf_test.trans (by rw [hc])) (W.fmt (W.call (W.cons (W.rdd rfl (W.nil ⟨rfl, W.eq (e5 _) (W.eq (fmt_int k5) ?_)⟩)))))
    exact ⟨sz, W.skip ⟨rfl, fin _ l5⟩⟩
  | false =>
    obtain ⟨x1, l1, e1⟩ := m2 hc
    refine W.ife_f (mf_test.trans (by rw [hc])) (W.fmt (W.rdd rfl (W.eq (e1 _) ?_)))
    exact ⟨sz, W.skip ⟨rfl, fin _ l1⟩⟩
theorem text_ok {b s l g m w f sd : D} {S : Sto} (hb : b ∈ vBase) (hs : s ∈ vSign) (hl : l ∈ vLeast) (hg : g ∈ vGroup) (hm : m ∈ vMark) (hw : w ∈ vWidth) (hf : f ∈ vMark) (hd : sd ∈ vSide) :
    W (f_settings_text [.tup [b, s, l, g, m, w, f, sd]]) S fun d S' => (∃ x, d = .str x) ∧ S' = S := by
  have p1 : ∀ {nm : Str} {d : D}, decide (nm.length ≤ 10) = true → isMF nm = false → Word1 d → PairOk (.tup [.str nm, d]) := fun {nm d} h1 h2 h3 => ⟨nm, d, rfl, of_decide_eq_true h1, (fun z => by rw [h2] at z; cases z), fun _ => h3⟩
  have p2 : ∀ {nm : Str} {d : D}, decide (nm.length ≤ 10) = true → isMF nm = true → Word2 d → PairOk (.tup [.str nm, d]) := fun {nm d} h1 h2 h3 => ⟨nm, d, rfl, of_decide_eq_true h1, fun _ => h3, fun z => by rw [h2] at z; cases z⟩
  have q1 := p1 (nm := "base") (by kernel_rfl) (by kernel_rfl) (wordBase b hb)
  have q2 := p1 (nm := "sign") (by kernel_rfl) (by kernel_rfl) (wordSign s hs)
  have q3 := p1 (nm := "least") (by kernel_rfl) (by kernel_rfl) (wordLeast l hl)
  have q4 := p1 (nm := "group") (by kernel_rfl) (by kernel_rfl) (wordGroup g hg)
  have q5 := p2 (nm := "mark") (by kernel_rfl) (by kernel_rfl) (wordMark m hm)
  have q6 := p1 (nm := "width") (by kernel_rfl) (by kernel_rfl) (wordWidth w hw)
  have q7 := p2 (nm := "fill") (by kernel_rfl) (by kernel_rfl) (wordMark f hf)
  have q8 := p1 (nm := "side") (by kernel_rfl) (by kernel_rfl) (wordSide sd hd)
  unfold f_settings_text b_settings_text
  refine W.run (W.seq (W.set (W.lst (W.nil ⟨Nat.le_of_ble_eq_true rfl, ?_⟩))))
  refine W.seq (W.fors (W.zip (W.cons (W.cst (W.cons (W.rdd rfl (W.nil ⟨_, _, _, _, rfl, rfl, rfl, rfl, ?_⟩)))))))
  refine (W.loop (Iv := TextIv (.tup [b, s, l, g, m, w, f, sd]) S) (fun x r δ S1 h => text_turn x r δ S1 h) _ _ _ ?_).imp ?_
  · refine ⟨rfl, ?_, [], [], none, none, rfl, rfl, Nat.le_of_ble_eq_true (by kernel_rfl), Nat.le_of_ble_eq_true (by kernel_rfl), Nat.le_of_ble_eq_true (by kernel_rfl)⟩
    intro x hx
    simp only [pairsD, List.zip, List.zipWith, List.map, List.mem_cons, List.not_mem_nil, or_false] at hx
    rcases hx with rfl | rfl | rfl | rfl | rfl | rfl | rfl | rfl
    · exact q1
    · exact q2
    · exact q3
    · exact q4
    · exact q5
    · exact q6
    · exact q7
    · exact q8
  · rintro ⟨δ, fl⟩ S' ⟨e, rfl, _, acc, ys, a2, a3, ed, hy, h1, h2, h3⟩
    have e : fl = .nx := e
    have ed : δ = _ := ed
    subst e ed
    refine W.seq (W.ret (W.strm (W.cst ⟨_, rfl, W.rdd rfl (W.join hy ?_ ⟨⟨_, rfl⟩, rfl⟩)⟩)))
    unfold joinOk
    have e1 : (" " : Str).length = 1 := by kernel_rfl
    rw [e1]
    simp only [List.length_nil] at h1 h2 h3
    omega

end Fg
set_option Elab.async false
set_option linter.all false
set_option maxRecDepth 100000
set_option maxHeartbeats 4000000
namespace Fg
open PySem PySem.Spec PyProof.Rows L2
local macro_rules | `(tactic| walk_at "hp") => `(tactic| first | assumption | (refine Same.get (by assumption) ?_; walk_at "hp"))
local macro_rules | `(tactic| walk_at "sq") => `(tactic| first | assumption | (exact Or.inr (by assumption)) | (exact Or.inl (by assumption)) | (exact Or.inl (SqL.of (by walk_at "hp"))) | (exact Or.inr (SqT.of (by walk_at "hp"))) | (exact SqL.of (by walk_at "hp")) | (exact SqT.of (by walk_at "hp")))
local macro_rules | `(tactic| walk_at "cl") => `(tactic| first | ((first | show (_ : Int) < _ | show (_ : Int) ≤ _); first | omega | decide) | ((first | show (_ : Nat) < _ | show (_ : Nat) ≤ _); first | with_reducible assumption | (refine sz_le ?_; first | decide | omega | (simp <;> omega)) | (refine sz_lt ?_; first | decide | omega | (simp <;> omega)) | omega | decide | ((with_reducible show List.length _ < _); exact Nat.le_of_ble_eq_true rfl)) | rfl | walk_at "hp" | walk_at "sq" | (refine And.intro (by walk_at "cl") (by walk_at "cl")) | (exact Exists.intro _ (by walk_at "hp")) | (exact Exists.intro _ (Exists.intro _ (by walk_at "hp"))) | (exact Exists.intro _ (Exists.intro _ (And.intro (by walk_at "hp") rfl))) | decide | (exact Or.inl (by walk_at "cl")) | (exact Or.inr (by walk_at "cl")) | omega)
local macro_rules | `(tactic| walk_at "s1") => `(tactic| first | refine And.intro (by walk_at "cl") ?_ | apply Exists.intro)
local macro_rules | `(tactic| walk_at "sx") => `(tactic| repeat walk_at "s1")
local macro_rules | `(tactic| walk_at "si") => `(tactic| first | refine iteY rfl ?_ | refine iteN rfl ?_)
local macro_rules | `(tactic| walk_at "sy") => `(tactic| repeat first | walk_at "s1" | walk_at "si")
local macro_rules | `(tactic| walk_at "wg") => `(tactic| repeat' first | with_reducible refine W.run ?_ | with_reducible refine W.runi ?_ | with_reducible refine W.seq ?_ | with_reducible refine W.set ?_ | with_reducible refine W.ret ?_ | with_reducible refine W.ifs ?_ | with_reducible refine W.disp1 ?_ | with_reducible refine W.ife ?_ | with_reducible refine W.skip ?_ | with_reducible refine W.rdd rfl ?_ | with_reducible refine W.lst ?_ | with_reducible refine W.tup ?_ | with_reducible refine W.asg ?_ | with_reducible refine W.fmt ?_ | with_reducible refine W.nkd ?_ | with_reducible refine W.ndd ?_ | with_reducible refine W.tv ?_ | with_reducible refine W.notm ?_ | with_reducible refine W.bin ?_ | with_reducible refine W.one ?_ | with_reducible refine W.callm ?_ | with_reducible refine W.call ?_ | with_reducible refine W.cons ?_ | with_reducible refine W.nil ?_ | with_reducible refine W.cst ?_ | with_reducible refine W.ixm rfl rfl ?_ | with_reducible refine W.gt ?_ | with_reducible refine W.add ?_ | with_reducible refine W.mul (cm_r (by decide) (by decide)) ?_ | with_reducible refine W.mod (by first | assumption | decide) ?_ | with_reducible refine W.fdiv (by first | assumption | exact cdv_r (by decide) (by decide)) ?_ | with_reducible refine W.intd ?_ | with_reducible refine W.eqI ?_ | with_reducible refine W.lenL ?_ | with_reducible refine W.tbd ?_ | with_reducible refine W.mput (k := 0) ?_ | with_reducible refine W.tgt2 ?_ | with_reducible refine W.tgn ?_ | with_reducible refine W.tgd rfl ?_ | with_reducible refine W.app rfl ?_ | with_reducible refine W.fld ?_ | with_reducible refine W.keys ?_ | refine And.intro rfl ?_ | refine And.intro (Nat.le_of_ble_eq_true rfl) ?_ | dsimp only)
local macro_rules | `(tactic| walk_at "wh") => `(tactic| repeat' first | with_reducible refine W.run ?_ | with_reducible refine W.runi ?_ | with_reducible refine W.seq ?_ | with_reducible refine W.set ?_ | with_reducible refine W.ret ?_ | with_reducible refine W.ifs ?_ | with_reducible refine W.disp1 ?_ | with_reducible refine W.skip ?_ | with_reducible refine W.rdd rfl ?_ | with_reducible refine W.lst ?_ | with_reducible refine W.tup ?_ | with_reducible refine W.asg ?_ | with_reducible refine W.fmt ?_ | with_reducible refine W.nkd ?_ | with_reducible refine W.ndd ?_ | with_reducible refine W.tv ?_ | with_reducible refine W.notm ?_ | with_reducible refine W.bin ?_ | with_reducible refine W.one ?_ | with_reducible refine W.callm ?_ | with_reducible refine W.call ?_ | with_reducible refine W.cons ?_ | with_reducible refine W.nil ?_ | with_reducible refine W.cst ?_ | with_reducible refine W.ixm rfl rfl ?_ | with_reducible refine W.gt ?_ | with_reducible refine W.add ?_ | with_reducible refine W.mul (cm_r (by decide) (by decide)) ?_ | with_reducible refine W.mod (by first | assumption | decide) ?_ | with_reducible refine W.fdiv (by first | assumption | exact cdv_r (by decide) (by decide)) ?_ | with_reducible refine W.intd ?_ | with_reducible refine W.eqI ?_ | with_reducible refine W.lenL ?_ | with_reducible refine W.tbd ?_ | with_reducible refine W.mput (k := 0) ?_ | with_reducible refine W.tgt2 ?_ | with_reducible refine W.tgn ?_ | with_reducible refine W.tgd rfl ?_ | with_reducible refine W.app rfl ?_ | with_reducible refine W.fld ?_ | with_reducible refine W.keys ?_ | refine And.intro rfl ?_ | refine And.intro (Nat.le_of_ble_eq_true rfl) ?_ | dsimp only)
local macro_rules | `(tactic| walk_at "wf") => `(tactic| repeat' first | with_reducible refine W.run ?_ | with_reducible refine W.runi ?_ | with_reducible refine W.seq ?_ | with_reducible refine W.set ?_ | with_reducible refine W.ret ?_ | with_reducible refine W.ifs ?_ | with_reducible refine W.disp1 ?_ | with_reducible refine W.fors ?_ | with_reducible refine W.forc ?_ | with_reducible refine W.forn ?_ | with_reducible refine W.zip ?_ | (with_reducible refine W.ife_f (by kernel_rfl) ?_) | (with_reducible refine W.ife_t (by kernel_rfl) ?_) | with_reducible refine W.skip ?_ | with_reducible refine W.rdd rfl ?_ | with_reducible refine W.lst ?_ | with_reducible refine W.tup ?_ | with_reducible refine W.asg ?_ | with_reducible refine W.fmt ?_ | with_reducible refine W.nkd ?_ | with_reducible refine W.ndd ?_ | with_reducible refine W.tv ?_ | with_reducible refine W.notm ?_ | with_reducible refine W.bin ?_ | with_reducible refine W.one ?_ | with_reducible refine W.callm ?_ | with_reducible refine W.call ?_ | with_reducible refine W.cons ?_ | with_reducible refine W.nil ?_ | with_reducible refine W.cst ?_ | with_reducible refine W.ixm rfl rfl ?_ | with_reducible refine W.gt ?_ | with_reducible refine W.add ?_ | with_reducible refine W.mul (cm_r (by decide) (by decide)) ?_ | with_reducible refine W.mod (by first | assumption | decide) ?_ | with_reducible refine W.fdiv (by first | assumption | exact cdv_r (by decide) (by decide)) ?_ | with_reducible refine W.intd ?_ | with_reducible refine W.eqI ?_ | with_reducible refine W.lenL ?_ | with_reducible refine W.tbd ?_ | with_reducible refine W.mput (k := 0) ?_ | with_reducible refine W.tgt2 ?_ | with_reducible refine W.tgn ?_ | with_reducible refine W.tgd rfl ?_ | with_reducible refine W.app rfl ?_ | with_reducible refine W.fld ?_ | with_reducible refine W.keys ?_ | refine And.intro rfl ?_ | refine And.intro (Nat.le_of_ble_eq_true rfl) ?_ | dsimp only)
def SetIv (h : List (Option D)) (S : Sto) (xs : List D) (δ : DEnv) (S' : Sto) : Prop := S' = S ∧ (∀ x ∈ xs, ∃ nm d, x = .tup [.str nm, d] ∧ GoodV nm d) ∧ ∃ a b, δ = h ++ [a, b]
theorem set_turn {a0 a1 a2 a3 a4 a5 a6 a7 a8 a9 : Option D} {S : Sto} (x : D) (r : List D) (δ : DEnv) (S1 : Sto) (h : SetIv [a0, a1, a2, a3, a4, a5, a6, a7, a8, a9] S (x :: r) δ S1) :
    W (tgT [tgN 10, tgN 11] x δ) S1 fun δ1 S1 => W ((seqS (ifS (notM (tvM (callD 2 f_is_setting (consM (rd 10) (consM (rd 11) nilM))))) (seqS (raiseS "InvalidSetting" "setting" (rd 10)) skipS) skipS) skipS) δ1) S1 fun p S2 => p.2 = .nx ∧ SetIv [a0, a1, a2, a3, a4, a5, a6, a7, a8, a9] S r p.1 S2 := by
  obtain ⟨rfl, hp, a, b, rfl⟩ := h
  obtain ⟨nm, d, rfl, hg⟩ := hp x (List.mem_cons_self ..)
  refine W.tgt2 (W.tgn (W.tgn ?_))
  show W _ _ _
  refine W.seq (W.ifs (W.notm (W.tv (W.call (W.cons (W.rdd rfl (W.cons (W.rdd rfl (W.nil ⟨rfl, W.eq (hg _) (W.tbd (W.nt ?_))⟩)))))))))
  exact W.skip (W.skip ⟨rfl, rfl, fun y hy => hp y (List.mem_cons_of_mem _ hy), _, _, rfl⟩)
theorem made_ok {b s l g m w f sd : D} {S : Sto} (hb : b ∈ vBase) (hs : s ∈ vSign) (hl : l ∈ vLeast) (hg : g ∈ vGroup) (hm : m ∈ vMark) (hw : w ∈ vWidth) (hf : f ∈ vMark) (hd : sd ∈ vSide) :
    W (f_Formatdd_initdd [b, s, l, g, m, w, f, sd]) S fun d S' => (∃ fs, d = .obj "Format" fs) ∧ S' = S := by
  unfold f_Formatdd_initdd b_Formatdd_initdd
  refine W.runi (W.seq (W.set (W.tup ?_)))
  walk_at "wh"
  refine W.fors (W.zip (W.cons (W.cst (W.cons (W.rdd rfl (W.nil ⟨_, _, _, _, rfl, rfl, rfl, rfl, ?_⟩))))))
  refine (W.loop (Iv := SetIv [some (.obj "Format" []), some b, some s, some l, some g, some m, some w, some f, some sd, some (.tup [b, s, l, g, m, w, f, sd])] S) (fun x r δ S1 h => set_turn x r δ S1 h) _ _ _ ?_).imp ?_
  · refine ⟨rfl, ?_, none, none, rfl⟩
    intro x hx
    simp only [pairsD, List.zip, List.zipWith, List.map, List.mem_cons, List.not_mem_nil, or_false] at hx
    rcases hx with rfl | rfl | rfl | rfl | rfl | rfl | rfl | rfl
    · exact ⟨_, _, rfl, goodBase b hb⟩
    · exact ⟨_, _, rfl, goodSign s hs⟩
    · exact ⟨_, _, rfl, goodLeast l hl⟩
    · exact ⟨_, _, rfl, goodGroup g hg⟩
    · exact ⟨_, _, rfl, goodMark m hm⟩
    · exact ⟨_, _, rfl, goodWidth w hw⟩
    · exact ⟨_, _, rfl, goodFill f hf⟩
    · exact ⟨_, _, rfl, goodSide sd hd⟩
  · rintro ⟨δ, fl⟩ S' ⟨e, rfl, _, a10, a11, ed⟩
    have e : fl = .nx := e
    have ed : δ = _ := ed
    subst e ed
    refine W.seq (W.fld (W.rdd rfl ⟨_, rfl, of_decide_eq_true (by kernel_rfl), ?_⟩))
    refine W.seq (W.fld (W.rdd rfl ⟨_, rfl, of_decide_eq_true (by kernel_rfl), ?_⟩))
    refine W.seq (W.fld (W.rdd rfl ⟨_, rfl, of_decide_eq_true (by kernel_rfl), ?_⟩))
    refine W.seq (W.fld (W.rdd rfl ⟨_, rfl, of_decide_eq_true (by kernel_rfl), ?_⟩))
    refine W.seq (W.fld (W.rdd rfl ⟨_, rfl, of_decide_eq_true (by kernel_rfl), ?_⟩))
    refine W.seq (W.fld (W.rdd rfl ⟨_, rfl, of_decide_eq_true (by kernel_rfl), ?_⟩))
    refine W.seq (W.fld (W.rdd rfl ⟨_, rfl, of_decide_eq_true (by kernel_rfl), ?_⟩))
    refine W.seq (W.fld (W.rdd rfl ⟨_, rfl, of_decide_eq_true (by kernel_rfl), ?_⟩))
    refine W.seq (W.fld (W.call (W.cons (W.rdd (d := .tup [b, s, l, g, m, w, f, sd]) rfl (W.nil ⟨rfl, ?_⟩)))))
    refine (text_ok hb hs hl hg hm hw hf hd).imp fun x S2 ⟨⟨y, ex⟩, e2⟩ => ?_
    subst ex e2
    exact ⟨_, rfl, of_decide_eq_true (by kernel_rfl), W.skip ⟨rfl, _, rfl, ⟨_, rfl⟩, rfl⟩⟩
theorem format_ok {b s l g m w f sd : D} {S : Sto} (hb : b ∈ vBase) (hs : s ∈ vSign) (hl : l ∈ vLeast) (hg : g ∈ vGroup) (hm : m ∈ vMark) (hw : w ∈ vWidth) (hf : f ∈ vMark) (hd : sd ∈ vSide) :
    W (f_l_format [.dct [(.inr "base", b), (.inr "sign", s), (.inr "least", l), (.inr "group", g), (.inr "mark", m), (.inr "width", w), (.inr "fill", f), (.inr "side", sd)]]) S fun d S' => (∃ fs, d = .obj "Format" fs) ∧ S' = S := by
  unfold f_l_format b_l_format
  refine W.run (W.seq (W.ret (W.nkd ?_)))
  refine W.cons (W.bin (W.rdd rfl (W.cst (W.eq (a := b) (S' := S) (by kernel_rfl) ?_))))
  refine W.cons (W.bin (W.rdd rfl (W.cst (W.eq (a := s) (S' := S) (by kernel_rfl) ?_))))
  refine W.cons (W.bin (W.rdd rfl (W.cst (W.eq (a := l) (S' := S) (by kernel_rfl) ?_))))
  refine W.cons (W.bin (W.rdd rfl (W.cst (W.eq (a := g) (S' := S) (by kernel_rfl) ?_))))
  refine W.cons (W.bin (W.rdd rfl (W.cst (W.eq (a := m) (S' := S) (by kernel_rfl) ?_))))
  refine W.cons (W.bin (W.rdd rfl (W.cst (W.eq (a := w) (S' := S) (by kernel_rfl) ?_))))
  refine W.cons (W.bin (W.rdd rfl (W.cst (W.eq (a := f) (S' := S) (by kernel_rfl) ?_))))
  refine W.cons (W.bin (W.rdd rfl (W.cst (W.eq (a := sd) (S' := S) (by kernel_rfl) ?_))))
  refine W.nil ⟨rfl, rfl, ?_⟩
  exact made_ok hb hs hl hg hm hw hf hd

end Fg
set_option Elab.async false
set_option linter.all false
set_option maxRecDepth 100000
set_option maxHeartbeats 4000000
namespace Fg
open PySem PySem.Spec PyProof.Rows L2
local macro_rules | `(tactic| walk_at "hp") => `(tactic| first | assumption | (refine Same.get (by assumption) ?_; walk_at "hp"))
local macro_rules | `(tactic| walk_at "sq") => `(tactic| first | assumption | (exact Or.inr (by assumption)) | (exact Or.inl (by assumption)) | (exact Or.inl (SqL.of (by walk_at "hp"))) | (exact Or.inr (SqT.of (by walk_at "hp"))) | (exact SqL.of (by walk_at "hp")) | (exact SqT.of (by walk_at "hp")))
local macro_rules | `(tactic| walk_at "cl") => `(tactic| first | ((first | show (_ : Int) < _ | show (_ : Int) ≤ _); first | omega | decide) | ((first | show (_ : Nat) < _ | show (_ : Nat) ≤ _); first | with_reducible assumption | (refine sz_le ?_; first | decide | omega | (simp <;> omega)) | (refine sz_lt ?_; first | decide | omega | (simp <;> omega)) | omega | decide | ((with_reducible show List.length _ < _); exact Nat.le_of_ble_eq_true rfl)) | rfl | walk_at "hp" | walk_at "sq" | (refine And.intro (by walk_at "cl") (by walk_at "cl")) | (exact Exists.intro _ (by walk_at "hp")) | (exact Exists.intro _ (Exists.intro _ (by walk_at "hp"))) | (exact Exists.intro _ (Exists.intro _ (And.intro (by walk_at "hp") rfl))) | decide | (exact Or.inl (by walk_at "cl")) | (exact Or.inr (by walk_at "cl")) | omega)
local macro_rules | `(tactic| walk_at "s1") => `(tactic| first | refine And.intro (by walk_at "cl") ?_ | apply Exists.intro)
local macro_rules | `(tactic| walk_at "sx") => `(tactic| repeat walk_at "s1")
local macro_rules | `(tactic| walk_at "si") => `(tactic| first | refine iteY rfl ?_ | refine iteN rfl ?_)
local macro_rules | `(tactic| walk_at "sy") => `(tactic| repeat first | walk_at "s1" | walk_at "si")
local macro_rules | `(tactic| walk_at "wg") => `(tactic| repeat' first | with_reducible refine W.run ?_ | with_reducible refine W.runi ?_ | with_reducible refine W.seq ?_ | with_reducible refine W.set ?_ | with_reducible refine W.ret ?_ | with_reducible refine W.ifs ?_ | with_reducible refine W.disp1 ?_ | with_reducible refine W.ife ?_ | with_reducible refine W.skip ?_ | with_reducible refine W.rdd rfl ?_ | with_reducible refine W.lst ?_ | with_reducible refine W.tup ?_ | with_reducible refine W.asg ?_ | with_reducible refine W.fmt ?_ | with_reducible refine W.nkd ?_ | with_reducible refine W.ndd ?_ | with_reducible refine W.tv ?_ | with_reducible refine W.notm ?_ | with_reducible refine W.bin ?_ | with_reducible refine W.one ?_ | with_reducible refine W.callm ?_ | with_reducible refine W.call ?_ | with_reducible refine W.cons ?_ | with_reducible refine W.nil ?_ | with_reducible refine W.cst ?_ | with_reducible refine W.ixm rfl rfl ?_ | with_reducible refine W.gt ?_ | with_reducible refine W.add ?_ | with_reducible refine W.mul (cm_r (by decide) (by decide)) ?_ | with_reducible refine W.mod (by first | assumption | decide) ?_ | with_reducible refine W.fdiv (by first | assumption | exact cdv_r (by decide) (by decide)) ?_ | with_reducible refine W.intd ?_ | with_reducible refine W.eqI ?_ | with_reducible refine W.lenL ?_ | with_reducible refine W.tbd ?_ | with_reducible refine W.mput (k := 0) ?_ | with_reducible refine W.tgt2 ?_ | with_reducible refine W.tgn ?_ | with_reducible refine W.tgd rfl ?_ | with_reducible refine W.app rfl ?_ | with_reducible refine W.fld ?_ | with_reducible refine W.keys ?_ | refine And.intro rfl ?_ | refine And.intro (Nat.le_of_ble_eq_true rfl) ?_ | dsimp only)
local macro_rules | `(tactic| walk_at "wh") => `(tactic| repeat' first | with_reducible refine W.run ?_ | with_reducible refine W.runi ?_ | with_reducible refine W.seq ?_ | with_reducible refine W.set ?_ | with_reducible refine W.ret ?_ | with_reducible refine W.ifs ?_ | with_reducible refine W.disp1 ?_ | with_reducible refine W.skip ?_ | with_reducible refine W.rdd rfl ?_ | with_reducible refine W.lst ?_ | with_reducible refine W.tup ?_ | with_reducible refine W.asg ?_ | with_reducible refine W.fmt ?_ | with_reducible refine W.nkd ?_ | with_reducible refine W.ndd ?_ | with_reducible refine W.tv ?_ | with_reducible refine W.notm ?_ | with_reducible refine W.bin ?_ | with_reducible refine W.one ?_ | with_reducible refine W.callm ?_ | with_reducible refine W.call ?_ | with_reducible refine W.cons ?_ | with_reducible refine W.nil ?_ | with_reducible refine W.cst ?_ | with_reducible refine W.ixm rfl rfl ?_ | with_reducible refine W.gt ?_ | with_reducible refine W.add ?_ | with_reducible refine W.mul (cm_r (by decide) (by decide)) ?_ | with_reducible refine W.mod (by first | assumption | decide) ?_ | with_reducible refine W.fdiv (by first | assumption | exact cdv_r (by decide) (by decide)) ?_ | with_reducible refine W.intd ?_ | with_reducible refine W.eqI ?_ | with_reducible refine W.lenL ?_ | with_reducible refine W.tbd ?_ | with_reducible refine W.mput (k := 0) ?_ | with_reducible refine W.tgt2 ?_ | with_reducible refine W.tgn ?_ | with_reducible refine W.tgd rfl ?_ | with_reducible refine W.app rfl ?_ | with_reducible refine W.fld ?_ | with_reducible refine W.keys ?_ | refine And.intro rfl ?_ | refine And.intro (Nat.le_of_ble_eq_true rfl) ?_ | dsimp only)
local macro_rules | `(tactic| walk_at "wf") => `(tactic| repeat' first | with_reducible refine W.run ?_ | with_reducible refine W.runi ?_ | with_reducible refine W.seq ?_ | with_reducible refine W.set ?_ | with_reducible refine W.ret ?_ | with_reducible refine W.ifs ?_ | with_reducible refine W.disp1 ?_ | with_reducible refine W.fors ?_ | with_reducible refine W.forc ?_ | with_reducible refine W.forn ?_ | with_reducible refine W.zip ?_ | (with_reducible refine W.ife_f (by kernel_rfl) ?_) | (with_reducible refine W.ife_t (by kernel_rfl) ?_) | with_reducible refine W.skip ?_ | with_reducible refine W.rdd rfl ?_ | with_reducible refine W.lst ?_ | with_reducible refine W.tup ?_ | with_reducible refine W.asg ?_ | with_reducible refine W.fmt ?_ | with_reducible refine W.nkd ?_ | with_reducible refine W.ndd ?_ | with_reducible refine W.tv ?_ | with_reducible refine W.notm ?_ | with_reducible refine W.bin ?_ | with_reducible refine W.one ?_ | with_reducible refine W.callm ?_ | with_reducible refine W.call ?_ | with_reducible refine W.cons ?_ | with_reducible refine W.nil ?_ | with_reducible refine W.cst ?_ | with_reducible refine W.ixm rfl rfl ?_ | with_reducible refine W.gt ?_ | with_reducible refine W.add ?_ | with_reducible refine W.mul (cm_r (by decide) (by decide)) ?_ | with_reducible refine W.mod (by first | assumption | decide) ?_ | with_reducible refine W.fdiv (by first | assumption | exact cdv_r (by decide) (by decide)) ?_ | with_reducible refine W.intd ?_ | with_reducible refine W.eqI ?_ | with_reducible refine W.lenL ?_ | with_reducible refine W.tbd ?_ | with_reducible refine W.mput (k := 0) ?_ | with_reducible refine W.tgt2 ?_ | with_reducible refine W.tgn ?_ | with_reducible refine W.tgd rfl ?_ | with_reducible refine W.app rfl ?_ | with_reducible refine W.fld ?_ | with_reducible refine W.keys ?_ | refine And.intro rfl ?_ | refine And.intro (Nat.le_of_ble_eq_true rfl) ?_ | dsimp only)
def fldX (nm : Str) (p lo hi : D) : D := .obj "Field" [("name", .str nm), ("pattern", p), ("low", lo), ("high", hi)]
theorem right_ok {S : Sto} (h : PotS S) : W (f_l_right [.mt 0]) S fun d S' => d = .bl true := by
  unfold f_l_right b_l_right
  refine W.run (W.seq (W.set (W.call (W.cons (W.call (W.cons (W.rdd rfl (W.nil ⟨rfl, ?_⟩))))))))
  refine (shape_ok h).imp fun d S1 ⟨⟨b, s, l, g, m, w, f, sd, ed, hb, hs, hl, hg, hm, hw, hf, hsd⟩, hp⟩ => ?_
  subst ed
  refine W.nil ⟨rfl, ?_⟩
  refine (format_ok hb hs hl hg hm hw hf hsd).imp fun d S2 ⟨⟨fs, ed⟩, e2⟩ => ?_
  subst ed e2
  clear hb hs hl hg hm hw hf hsd h
  refine W.seq (W.eq (a := ([some (.mt 0), some (.obj "Format" fs), some (fldX "a" (.obj "Format" fs) .non .non), some (fldX "b" (.obj "Format" fs) (.int 3) .non), some (fldX "c" (.obj "Format" fs) .non (.int (-4))), none, none, none, none, none, none, none, none, none], .nx)) (S' := S2) (by kernel_rfl) ?_)
  refine W.seq (W.eq (a := ([some (.mt 0), some (.obj "Format" fs), some (fldX "a" (.obj "Format" fs) .non .non), some (fldX "b" (.obj "Format" fs) (.int 3) .non), some (fldX "c" (.obj "Format" fs) .non (.int (-4))), some (fldX "d" (.obj "Format" fs) (.int 1) (.int 2)), some (fldX "e" (.obj "Format" fs) .non .non), some (fldX "a" (.obj "Format" fs) (.int 7) (.int 9)), none, none, none, none, none, none], .nx)) (S' := S2) (by kernel_rfl) ?_)
  refine W.seq (W.set (W.call (W.cons (W.rdd rfl (W.cons (W.eq (a := .lst [.non, .str "", .str "\n", .str "a\n", .int 5, .tup [fldX "a" (.obj "Format" fs) .non .non], .lst [fldX "a" (.obj "Format" fs) .non .non], .bl true, .obj "Format" fs, .dct [], .tup [.str "x"]]) (S' := S2) (by kernel_rfl) (W.nil ⟨rfl, ?_⟩)))))))
  refine (of_ok (Nat.le_of_ble_eq_true rfl) (Nat.le_of_ble_eq_true rfl) hp).imp fun odd S3 ⟨ho, hp3⟩ => ?_
  clear hp
  simp only [List.mem_cons, List.not_mem_nil, or_false] at ho
  rcases ho with rfl | rfl | rfl | rfl | rfl | rfl | rfl | rfl | rfl | rfl | rfl
  · exact W.res (d := .bl true) (S' := S3) (by kernel_rfl) fun _ => rfl
  · exact W.res (d := .bl true) (S' := S3) (by kernel_rfl) fun _ => rfl
  · exact W.res (d := .bl true) (S' := S3) (by kernel_rfl) fun _ => rfl
  · exact W.res (d := .bl true) (S' := S3) (by kernel_rfl) fun _ => rfl
  · exact W.res (d := .bl true) (S' := S3) (by kernel_rfl) fun _ => rfl
  · exact W.res (d := .bl true) (S' := S3) (by kernel_rfl) fun _ => rfl
  · exact W.res (d := .bl true) (S' := S3) (by kernel_rfl) fun _ => rfl
  · exact W.res (d := .bl true) (S' := S3) (by kernel_rfl) fun _ => rfl
  · exact W.res (d := .bl true) (S' := S3) (by kernel_rfl) fun _ => rfl
  · exact W.res (d := .bl true) (S' := S3) (by kernel_rfl) fun _ => rfl
  · exact W.res (d := .bl true) (S' := S3) (by kernel_rfl) fun _ => rfl

end Fg
set_option Elab.async false
set_option linter.all false
set_option maxRecDepth 100000
set_option maxHeartbeats 4000000
namespace Fg
open PySem PySem.Spec PyProof.Rows L2
local macro_rules | `(tactic| walk_at "hp") => `(tactic| first | assumption | (refine Same.get (by assumption) ?_; walk_at "hp"))
local macro_rules | `(tactic| walk_at "sq") => `(tactic| first | assumption | (exact Or.inr (by assumption)) | (exact Or.inl (by assumption)) | (exact Or.inl (SqL.of (by walk_at "hp"))) | (exact Or.inr (SqT.of (by walk_at "hp"))) | (exact SqL.of (by walk_at "hp")) | (exact SqT.of (by walk_at "hp")))
local macro_rules | `(tactic| walk_at "cl") => `(tactic| first | ((first | show (_ : Int) < _ | show (_ : Int) ≤ _); first | omega | decide) | ((first | show (_ : Nat) < _ | show (_ : Nat) ≤ _); first | with_reducible assumption | (refine sz_le ?_; first | decide | omega | (simp <;> omega)) | (refine sz_lt ?_; first | decide | omega | (simp <;> omega)) | omega | decide | ((with_reducible show List.length _ < _); exact Nat.le_of_ble_eq_true rfl)) | rfl | walk_at "hp" | walk_at "sq" | (refine And.intro (by walk_at "cl") (by walk_at "cl")) | (exact Exists.intro _ (by walk_at "hp")) | (exact Exists.intro _ (Exists.intro _ (by walk_at "hp"))) | (exact Exists.intro _ (Exists.intro _ (And.intro (by walk_at "hp") rfl))) | decide | (exact Or.inl (by walk_at "cl")) | (exact Or.inr (by walk_at "cl")) | omega)
local macro_rules | `(tactic| walk_at "s1") => `(tactic| first | refine And.intro (by walk_at "cl") ?_ | apply Exists.intro)
local macro_rules | `(tactic| walk_at "sx") => `(tactic| repeat walk_at "s1")
local macro_rules | `(tactic| walk_at "si") => `(tactic| first | refine iteY rfl ?_ | refine iteN rfl ?_)
local macro_rules | `(tactic| walk_at "sy") => `(tactic| repeat first | walk_at "s1" | walk_at "si")
namespace LawD
section
variable {P : Program} {w : World} {K : PySem.W.Frag} {mg : Str → Option Value} {base : Heap} {A : Ad}
/-- the pot: two integers -/
def Pot (p : Addr) (H : Hp) : Prop := ∃ i j, H p = some (.lst [.int i, .int j])
theorem Pot.same {p : Addr} {H H' : Hp} (s : Same H H') (h : Pot p H) : Pot p H' := h.elim fun i ⟨j, e⟩ => ⟨i, j, s _ _ e⟩
/-- what stands beside a pot stays -/
theorem But.pot {p : Addr} {H H' : Hp} {b : Addr} {o : HO} (s : But p H H') (hp : Pot p H) (e : H b = some o) (n : ∀ i j, o ≠ .lst [.int i, .int j]) : H' b = some o := by
  obtain ⟨i, j, e2⟩ := hp
  exact But.get s e e2 (n i j)
theorem But.none_of {p : Addr} {H H' : Hp} {d : Addr} (s : But p H H') (q : Pot p H') (q0 : Pot p H) (n : H' d = none) : H d = none := by
  cases h : H d with
  | none => rfl
  | some o =>
    by_cases e : d = p
    · obtain ⟨i, j, z⟩ := q
      rw [e, z] at n
      cases n
    · rw [s d o e h] at n
      cases n
def Small (i : Int) : Prop := 0 < i ∧ i < 10 ^ 40
def sp_l_pot (K : PySem.W.Frag) : Sp := s2 fun a b H Q _ => ∃ (s : Addr) (ns : List Int) (k : Nat), a = .ref s ∧ SqL K H s (ns.map V.int) ∧ b = .int (k : Nat) ∧ k ≤ 5 ∧ ∀ p H', H p = none → Same H H' → Pot p H' → Q (.ref p) H'
theorem ok_l_pot (T : Txt w K mg A) : Callee P w K mg base 1 "_law_pot" ["_law_script", "_law_k"] (sp_l_pot K) := by
  refine callee_of T.F_l_pot sc_l_pot (fun _ _ _ _ _ _ us hl => match us, hl with | [_, _], _ => rfl) (fun vs H Q E h => ?_) (fun f cdv Ar outer s H vs Q E hr tk po h => ?_)
  · obtain ⟨_, _, rfl, _⟩ := s2_len h
    rfl
  · obtain ⟨a, b, rfl, s, ns, k, rfl, hs, rfl, hk, q⟩ := s2_len h
    refine ⟨_, (pss_cons (ps_set (i := 2) sc_l_pot.nd rfl (Or.inl rfl) (pe_op f_add pe_int (pe_op f_mul pe_int (fv 1))))
      (pss_cons (fs_for po rfl (fi_L (pe_slice f_slL (fv 0) po_none (po_some pe_int))) (pg_name (i := 3) sc_l_pot.nd rfl (Or.inl rfl)) (pss_one (ps_set (i := 2) sc_l_pot.nd rfl (Or.inl rfl) (pe_op f_mod (pe_callTy f_int (by rfl) T.b_int (by decide +kernel) (pa_cons (pe_op f_add (pe_op f_add (pe_op f_mul (fv 2) pe_int) (pe_op f_mod (pe_callTy f_int (by rfl) T.b_int (by decide +kernel) (pa_cons (fv 3) pa_nil)) pe_int)) pe_int) pa_nil)) pe_int))))
      (pss_cons (ps_set (i := 4) sc_l_pot.nd rfl (Or.inl rfl) (pe_ifExp (ft_cmp f_lt (fv 1) (pe_callB f_len (by rfl) T.b_len (by decide +kernel) (pa_cons (fv 0) pa_nil)) (nomark _)) (pe_callTy f_int (by rfl) T.b_int (by decide +kernel) (pa_cons (pe_ix f_ix (fv 0) (fv 1) (fun _ _ => rfl)) pa_nil)) (pe_op f_mul pe_int (fv 1))))
      (pss_one (ps_ret (fe_lst (pa_cons (pe_ifExp (ft_cmp f_ge (pe_callB f_abs (by rfl) T.b_abs (by decide +kernel) (pa_cons (fv 4) pa_nil)) (pe_op f_pow pe_int pe_int) (nomark _)) (pe_callB f_abs (by rfl) T.b_abs (by decide +kernel) (pa_cons (fv 4) pa_nil)) pe_int) (pa_cons (pe_op f_mod (pe_callTy f_int (by rfl) T.b_int (by decide +kernel) (pa_cons (pe_op f_add (fv 2) (pe_op f_mod (fv 4) pe_int)) pa_nil)) pe_int) pa_nil)))))))), ?_⟩
    walk_at "sx"
    intro a1 H1 n1 s1 h1
    have hs1 : SqL K H1 s (ns.map V.int) := s1.seq hs
    have intsOk : ∀ x ∈ cutV (ns.map V.int) none (some 11), ∃ i, x = V.int i := fun x hx => by
      have z := List.mem_of_mem_drop (List.mem_of_mem_take hx)
      obtain ⟨i, _, e⟩ := List.mem_map.mp z
      exact ⟨i, e.symm⟩
    walk_at "sx"
    refine Loop.by (fun rest σ Hc => ∃ z, ∃ a3, σ = [some (.ref s), some (.int (k : Nat)), some (.int z), a3, none] ∧ Same H1 Hc ∧ ∀ x ∈ rest, ∃ i, x = V.int i) ?_ ?_ _ _ _ ?_
    · rintro x r σ Hc ⟨z, a3, rfl, sc, hr⟩ N hN
      obtain ⟨i, rfl⟩ := hr _ (List.mem_cons_self ..)
      walk_at "sx"
      exact hN _ _ (SqL.of (sc _ _ h1)) ⟨_, _, rfl, sc, fun x hx => hr x (List.mem_cons_of_mem _ hx)⟩
    · rintro σ Hc ⟨z, a3, rfl, sc, _⟩
      have hsc : SqL K Hc s (ns.map V.int) := sc.seq hs1
      have fin : ∀ (e : Int) p H', Hc p = none → Same Hc H' → H' p = some (.lst [.int e, .int z]) → True := fun _ _ _ _ _ _ => trivial
      walk_at "sx"
      refine iteD (fun c => ?_) (fun c => ?_)
      · have kl : k < ns.length := by
          have : ((k : Nat) : Int) < ((ns.map V.int).length : Nat) := c
          rw [List.length_map] at this
          omega
        have at1 : atI (ns.map V.int) ((k : Nat) : Int) = some (V.int ns[k]) := atI_nat (by rw [List.getElem?_map, List.getElem?_eq_getElem kl]; rfl)
        walk_at "sx"
        refine iteD (fun d => ?_) (fun d => ?_)
        · walk_at "sx"
          intro p H2 n2 s2 h2
          exact q p H2 (Same.no (s1.trans sc) n2) ((s1.trans sc).trans s2) ⟨_, _, h2⟩
        · walk_at "sx"
          intro p H2 n2 s2 h2
          exact q p H2 (Same.no (s1.trans sc) n2) ((s1.trans sc).trans s2) ⟨_, _, h2⟩
      · walk_at "sx"
        refine iteD (fun d => ?_) (fun d => ?_)
        · walk_at "sx"
          intro p H2 n2 s2 h2
          exact q p H2 (Same.no (s1.trans sc) n2) ((s1.trans sc).trans s2) ⟨_, _, h2⟩
        · walk_at "sx"
          intro p H2 n2 s2 h2
          exact q p H2 (Same.no (s1.trans sc) n2) ((s1.trans sc).trans s2) ⟨_, _, h2⟩
    · exact ⟨_, none, rfl, Same.refl _, intsOk⟩
end
/-! ### counted walks, walks with new tables -/
/-- all but the pot at p and the tables stays -/
def ButN (p : Addr) (H H' : Hp) : Prop := ∀ b o, b ≠ p → H b = some o → (∀ ps, o ≠ .tbl ps) → H' b = some o
theorem ButN.refl (p : Addr) (H : Hp) : ButN p H H := fun _ _ _ e _ => e
theorem ButN.trans {p : Addr} {H H1 H2 : Hp} (x : ButN p H H1) (y : ButN p H1 H2) : ButN p H H2 := fun b o n e t => y b o n (x b o n e t) t
theorem ButN.of {p : Addr} {H H' : Hp} (h : But p H H') : ButN p H H' := fun b o n e _ => h b o n e
theorem ButN.ext {p : Addr} {H H' : Hp} (h : LamX.ExtN H H') : ButN p H H' := fun b o _ e t => h b o e t
theorem ButN.same {p : Addr} {H H' : Hp} (h : Same H H') : ButN p H H' := fun b o _ e _ => h b o e
theorem TabS.but {p : Addr} {H H' : Hp} {P : Addr} {q : Str} (b : But p H H') (hp : Pot p H) (t : LamX.TabS H P q) : LamX.TabS H' P q := by
  obtain ⟨i, j, e⟩ := hp
  obtain ⟨ps, h1, h2, h3⟩ := t
  have ne : ∀ {a : Addr} {o : HO}, H a = some o → (∀ i j, o ≠ .lst [.int i, .int j]) → a ≠ p := fun {a o} ea no z => by
    rw [z, e] at ea
    exact no i j (Option.some.inj ea).symm
  refine ⟨ps, b _ _ (ne h1 fun _ _ z => by cases z) h1, h2, fun pos cv hc => ?_⟩
  obtain ⟨c, e1, e2⟩ := h3 pos cv hc
  exact ⟨c, e1, b _ _ (ne e2 fun _ _ z => by unfold LamX.CodeO at z; cases z) e2⟩
theorem Tabs.but {p : Addr} {H H' : Hp} {T : List (Addr × Str)} (b : But p H H') (hp : Pot p H) (t : LamX.Tabs T H) : LamX.Tabs T H' := fun q hq => TabS.but b hp (t q hq)
theorem Tabs.same {H H' : Hp} {T : List (Addr × Str)} (b : Same H H') (t : LamX.Tabs T H) : LamX.Tabs T H' := t.ext b
theorem Pot.ext {p : Addr} {H H' : Hp} (s : LamX.ExtN H H') (h : Pot p H) : Pot p H' := h.elim fun i ⟨j, e⟩ => ⟨i, j, s _ _ e fun _ z => by cases z⟩
def tabs_l_right (A : Ad) : List (Addr × Str) := [(A.tP_l_right, "_law_right.<locals>.<lambda>")]
section
variable {P : Program} {w : World} {K : PySem.W.Frag} {mg : Str → Option Value} {base : Heap} {A : Ad}
theorem callee_imp {k : Nat} {x : Str} {ps : List Str} {sp sp' : Sp} (c : Callee P w K mg base k x ps sp) (h : ∀ vs H Q E, sp' vs H Q E → sp vs H Q E) : Callee P w K mg base k x ps sp' := by
  obtain ⟨f, fd, F, r⟩ := c.ex
  exact ⟨f, fd, F.imp h, r⟩
def sp_l_right (A : Ad) : Sp := s1 fun a H Q _ => ∃ p, a = .ref p ∧ Pot p H ∧ LamX.Tabs (tabs_l_right A) H ∧ ∀ H', ButN p H H' → LamX.Tabs (tabs_l_right A) H' → Q (.bl true) H'
theorem ok_l_right (T : Txt w K mg A) (TB : LamX.TabB base mg A.cC_l_right A.tP_l_right) : Callee P w K mg base 9 "_law_right" ["_law_pot_here"] (sp_l_right A) := by
  letI : TQ := ⟨fun P q => P = A.tP_l_right ∧ q = "_law_right.<locals>.<lambda>"⟩
  refine callee_imp (Fg.ok_l_right T TB (fun _ _ => Iff.rfl)) fun vs H Q E h => ?_
  obtain ⟨a, rfl, p, rfl, ⟨i, j, hp⟩, t0, q⟩ := s1_len h
  refine ⟨t0 _ (List.mem_singleton.mpr rfl), fun _ => False, [p], [.mt 0], [.lst [.int i, .int j]], rfl, ⟨fun b hb => ?_, by simp, fun _ _ z => z, ⟨⟨[.int i, .int j], hp, .cons .int (.cons .int .nil)⟩, trivial⟩⟩, .cons (.mt rfl) .nil, ?_⟩
  · rcases hb with hb | hb
    · exact hb.elim
    · rw [List.mem_singleton.mp hb]
      exact Nw.live hp fun _ z => by cases z
  · obtain ⟨d, S', e, ed⟩ := right_ok (S := [.lst [.int i, .int j]]) ⟨i, j, rfl⟩
    rw [e]
    intro v H' ρ' en hr
    subst ed
    cases hr
    refine q H' (fun b o n eb nt => en.gr.keep b o (fun z => n (List.mem_singleton.mp z)) (fun z => z) nt eb) fun x hx => ?_
    rw [List.mem_singleton.mp hx]
    exact en.gr.tabs _ _ ⟨rfl, rfl⟩ (t0 _ (List.mem_singleton.mpr rfl))
end
/-- a def that is known -/
theorem fnok_of {P : Program} {w : World} {K : PySem.W.Frag} {mg : Str → Option Value} {base : Heap} {x : Str} {st : Stmt} {f : Addr} {fd : FuncData} {N ps : List Str} {k : Nat} {sp : Sp} (F : Fun K x x st f fd) (S : FnScope N ps (defScope st))
    (len : ∀ vs H Q E, sp vs H Q E → vs.length = ps.length)
    (hbody : ∀ (f : Addr) (cdv : Value) (A : Around) (outer : List Env) (s : Shared) (H : Hp) (vs : List V) (Q : VK) (E : XK), Room k (cxOf (L2.CX P w) P w K mg base N x (defScope st) f cdv A outer s H E).A →
      Takes (cxOf (L2.CX P w) P w K mg base N x (defScope st) f cdv A outer s H E) (fun cls d _ H => E cls d H) →
      PassesOwn (model P w) (cxOf (L2.CX P w) P w K mg base N x (defScope st) f cdv A outer s H E).A (cxOf (L2.CX P w) P w K mg base N x (defScope st) f cdv A outer s H E).env (cxOf (L2.CX P w) P w K mg base N x (defScope st) f cdv A outer s H E).xe → sp vs H Q E →
      ∃ t, PSs (cxOf (L2.CX P w) P w K mg base N x (defScope st) f cdv A outer s H E) (defBody st) t ∧ t { nx := fun _ H' => Q .non H', rt := Q } (start N vs) H) :
    FnOk P w K mg base (L2.CX P w) (k + 1) f fd ps sp := F.okX S len fun cdv A outer s H vs Q E hr h => hbody f cdv A outer s H vs Q E hr (takes_of rfl rfl rfl rfl) (passes_of rfl) h
/-- each item gives y; an invariant beside -/
theorem Comp.inv {st : Hp → Prop} {g : TG} {te : TE} {vs : List Nat} {σ : L2.St} {D : Addr} {Q : Hp → Prop} (Iv : Hp → Prop) (Px : V → Prop) (y : V) (hst : ∀ H, Iv H → st H) (hI : ∀ H acc, Iv H → H D = some (.lst acc) → ∀ acc', Iv (upd H D (.lst acc')))
    (hx : ∀ (x : V) (H : Hp) (acc : List V) (R : VK), Px x → Iv H → H D = some (.lst acc) → (∀ H', Iv H' → H' D = some (.lst acc) → R y H') → g x (wipe σ vs) H fun σ2 H2 => wipe σ2 vs = wipe σ vs ∧ te σ2 H2 R) :
    ∀ (xs : List V) (acc : List V) (H : Hp), (∀ x ∈ xs, Px x) → acc.length + xs.length ≤ sizeLine → Iv H → H D = some (.lst acc) → (∀ H', Iv H' → H' D = some (.lst (acc ++ xs.map fun _ => y)) → Q H') → Comp st g tYes te vs σ D Q xs H
  | [], acc, H, _, _, s, hD, q => q H s (by rw [List.map_nil, List.append_nil]; exact hD)
  | x :: r, acc, H, hp, hl, s, hD, q => by
    rw [List.length_cons] at hl
    have k := hx x H acc (fun y H4 => ∃ acc, H4 D = some (.lst acc) ∧ acc.length < sizeLine ∧ st (upd H4 D (.lst (acc ++ [y]))) ∧ Comp st g tYes te vs σ D Q r (upd H4 D (.lst (acc ++ [y])))) (hp x (List.mem_cons_self ..)) s hD fun H' s' hD' => by
      have s2 := hI H' acc s' hD' (acc ++ [y])
      refine ⟨acc, hD', by omega, hst _ s2, ?_⟩
      refine Comp.inv Iv Px y hst hI hx r (acc ++ [y]) _ (fun z hz => hp z (List.mem_cons_of_mem _ hz)) (by rw [List.length_append, List.length_singleton]; omega) s2 upd_same fun H2 s3 e => q H2 s3 ?_
      rw [e, List.append_assoc]
      rfl
    exact k
theorem sqL_upd {K : PySem.W.Frag} {H Hc : Hp} {a D : Addr} {xs : List V} {o : HO} (h0 : SqL K H a xs) (n : H D = none) (h1 : SqL K Hc a xs) : SqL K (upd Hc D o) a xs := by
  rcases h0 with (h0 | ⟨u, h0⟩) | hk
  · have ne := ne_of_none h0 n
    rcases h1 with (h1 | ⟨u, h1⟩) | hk
    · exact .inl (.inl (by rw [upd_ne ne]; exact h1))
    · exact .inl (.inr ⟨u, by rw [upd_ne ne]; exact h1⟩)
    · exact .inr hk
  · have ne := ne_of_none h0 n
    rcases h1 with (h1 | ⟨u, h1⟩) | hk
    · exact .inl (.inl (by rw [upd_ne ne]; exact h1))
    · exact .inl (.inr ⟨u, by rw [upd_ne ne]; exact h1⟩)
    · exact .inr hk
  · exact .inr hk
theorem sqL_butN {K : PySem.W.Frag} {H0 H H' : Hp} {a p : Addr} {xs : List V} (h1 : SqL K H a xs) (h0 : SqL K H0 a xs) (s : Same H0 H) (n : H0 p = none) (b : ButN p H H') : SqL K H' a xs := by
  rcases h0 with (h0 | ⟨u, h0⟩) | hk
  · exact .inl (.inl (b _ _ (ne_of_none h0 n) (s _ _ h0) fun _ z => by cases z))
  · exact .inl (.inr ⟨u, b _ _ (ne_of_none h0 n) (s _ _ h0) fun _ z => by cases z⟩)
  · exact .inr hk
theorem tabS_upd {H : Hp} {D P : Addr} {q : Str} {acc acc' : List V} (hD : H D = some (.lst acc)) (t : LamX.TabS H P q) : LamX.TabS (upd H D (.lst acc')) P q := by
  obtain ⟨ps, h1, h2, h3⟩ := t
  have ne : ∀ {a : Addr} {o : HO}, H a = some o → (∀ xs, o ≠ .lst xs) → a ≠ D := fun {a o} ea no z => by
    rw [z, hD] at ea
    exact no acc (Option.some.inj ea).symm
  refine ⟨ps, by rw [upd_ne (ne h1 fun _ z => by cases z)]; exact h1, h2, fun pos cv hc => ?_⟩
  obtain ⟨c, e1, e2⟩ := h3 pos cv hc
  exact ⟨c, e1, by rw [upd_ne (ne e2 fun _ z => by unfold LamX.CodeO at z; cases z)]; exact e2⟩
theorem ButN.none_of {p : Addr} {H H' : Hp} {d : Addr} (s : ButN p H H') (n : H' d = none) (hp : d ≠ p) (nt : ∀ ps, H d ≠ some (.tbl ps)) : H d = none := by
  cases h : H d with
  | none => rfl
  | some o =>
    rw [s d o hp h (fun ps z => nt ps (by rw [h, z]))] at n
    cases n
section
variable {P : Program} {w : World} {K : PySem.W.Frag} {mg : Str → Option Value} {base : Heap} {A : Ad}
def sp_law (K : PySem.W.Frag) (A : Ad) : Sp := s1 fun a H Q _ => ∃ (s : Addr) (ns : List Int), a = .ref s ∧ SqL K H s (ns.map V.int) ∧ ns.length ≤ 63 ∧ LamX.Tabs (tabs_l_right A) H ∧ ∀ H', Q (.bl true) H'
theorem law_fun (T : Txt w K mg A) : FunAt K mg "law" s_law := T.F_law
theorem ok_law {f : Addr} {fd : FuncData} (F : Fun K "law" "law" s_law f fd) (T : Txt w K mg A) (TB : LamX.TabB base mg A.cC_l_right A.tP_l_right) : FnOk P w K mg base (L2.CX P w) 15 f fd ["_law_script"] (sp_law K A) := by
  refine fnok_of F sc_law (fun vs H Q E h => ?_) (fun f cdv Ar outer s H vs Q E hr tk po h => ?_)
  · obtain ⟨_, rfl, _⟩ := s1_len h
    rfl
  · obtain ⟨a, rfl, s0, ns, rfl, h0, hl, t0, q⟩ := s1_len h
    refine ⟨_, (pss_one (ps_ret (pe_callB (f_all rfl) (by rfl) T.b_all (by decide +kernel) (pa_cons (fe_lc (own := [("_law_k", 1)]) (tt := tYes) (by rfl) sc_law.nd (fi_R1 (by rfl) T.b_range (pa_cons (pe_callB (f_max rfl) (by rfl) T.b_max (by decide +kernel) (pa_cons pe_int (pa_cons (pe_callB (f_min rfl) (by rfl) T.b_min (by decide +kernel) (pa_cons (pe_callB f_len (by rfl) T.b_len (by decide +kernel) (pa_cons (fv 0) pa_nil)) (pa_cons pe_int pa_nil))) pa_nil))) pa_nil)) (blkOk_by (own := [("_law_k", 1)]) (N := ["_law_script", "_law_k"]) (sc := defScope s_law) (by decide +kernel)) (fun _ _ _ _ _ => pg_name (i := 1) sc_law.nd rfl (Or.inl rfl)) (fun _ _ _ _ _ => pts_nil) (fun _ _ _ _ _ => (fc_call (ok_l_right T TB) hr (by decide) (by rfl) takes0 (pa_cons (fc_call (ok_l_pot T) hr (by decide) (by rfl) takes0 (pa_cons (fv 0) (pa_cons (fv 1) pa_nil))) pa_nil)))) pa_nil)))), ?_⟩
    walk_at "sx"
    refine And.intro trivial ?_
    intro D H2 n2 s2 h2
    refine And.intro trivial ?_
    refine Comp.inv (fun Hc => SqL K Hc s0 (ns.map V.int) ∧ LamX.Tabs (tabs_l_right A) Hc) (fun x => ∃ k : Nat, x = .int (k : Nat) ∧ k ≤ 5) (.bl true) (fun _ _ => trivial) ?_ ?_ _ [] _ ?_ ?_ ?_ h2 ?_
    · rintro Hc acc ⟨h1, t1⟩ hD acc'
      exact ⟨sqL_upd h0 n2 h1, fun r hr => tabS_upd hD (t1 r hr)⟩
    · rintro x Hc acc R ⟨k, rfl, hk⟩ ⟨h1, t1⟩ hD kk
      walk_at "sx"
      intro p H3 np s3 p3
      have t3 := Tabs.same s3 t1
      walk_at "sx"
      intro H4 b4 t4
      exact kk H4 ⟨sqL_butN (s3.seq h1) h1 s3 np b4, t4⟩ (b4 _ _ (ne_of_none hD np) (s3 _ _ hD) fun _ z => by cases z)
    · intro x hx
      obtain ⟨i, hi, rfl⟩ := List.mem_map.mp hx
      have := List.mem_range.mp hi
      exact ⟨i, by rw [Int.zero_add], by omega⟩
    · rw [rgI_len]
      refine sz_le ?_
      simp only [List.length_nil]
      omega
    · exact ⟨s2.seq h0, Tabs.same s2 t0⟩
    · rintro Hc ⟨h1, t1⟩ hD
      have hD2 : ∀ n : Nat, ([] ++ List.map (fun _ => V.bl true) (rgI 0 n)) = (List.replicate n true).map V.bl := fun n => by
        rw [List.nil_append, List.map_replicate, List.map_const', rgI_len]
      rw [hD2] at hD
      have al : ∀ n : Nat, ((List.replicate n true).all id) = true := fun n => by
        induction n with
        | zero => rfl
        | succ n ih => rw [List.replicate_succ, List.all_cons, ih]; rfl
      have qq := q Hc
      rw [← al (max 2 (min (((List.map V.int ns).length : Nat) : Int) 5)).toNat] at qq
      refine ⟨_, _, SqL.of hD, rfl, qq⟩
end

end LawD
abbrev sp_law := LawD.sp_law
abbrev law_fun := @LawD.law_fun
abbrev ok_law := @LawD.ok_law

end Fg
set_option Elab.async false
set_option linter.all false
set_option maxRecDepth 100000
set_option maxHeartbeats 4000000
namespace Fg
open PySem PySem.Spec PyProof.Rows L2
local macro_rules | `(tactic| walk_at "hp") => `(tactic| first | assumption | (refine Same.get (by assumption) ?_; walk_at "hp"))
local macro_rules | `(tactic| walk_at "sq") => `(tactic| first | assumption | (exact Or.inr (by assumption)) | (exact Or.inl (by assumption)) | (exact Or.inl (SqL.of (by walk_at "hp"))) | (exact Or.inr (SqT.of (by walk_at "hp"))) | (exact SqL.of (by walk_at "hp")) | (exact SqT.of (by walk_at "hp")))
local macro_rules | `(tactic| walk_at "cl") => `(tactic| first | ((first | show (_ : Int) < _ | show (_ : Int) ≤ _); first | omega | decide) | ((first | show (_ : Nat) < _ | show (_ : Nat) ≤ _); first | with_reducible assumption | (refine sz_le ?_; first | decide | omega | (simp <;> omega)) | (refine sz_lt ?_; first | decide | omega | (simp <;> omega)) | omega | decide | ((with_reducible show List.length _ < _); exact Nat.le_of_ble_eq_true rfl)) | rfl | walk_at "hp" | walk_at "sq" | (refine And.intro (by walk_at "cl") (by walk_at "cl")) | (exact Exists.intro _ (by walk_at "hp")) | (exact Exists.intro _ (Exists.intro _ (by walk_at "hp"))) | (exact Exists.intro _ (Exists.intro _ (And.intro (by walk_at "hp") rfl))) | decide | (exact Or.inl (by walk_at "cl")) | (exact Or.inr (by walk_at "cl")) | omega)
local macro_rules | `(tactic| walk_at "s1") => `(tactic| first | refine And.intro (by walk_at "cl") ?_ | apply Exists.intro)
local macro_rules | `(tactic| walk_at "sx") => `(tactic| repeat walk_at "s1")
local macro_rules | `(tactic| walk_at "si") => `(tactic| first | refine iteY rfl ?_ | refine iteN rfl ?_)
local macro_rules | `(tactic| walk_at "sy") => `(tactic| repeat first | walk_at "s1" | walk_at "si")
theorem law_facts {w : World} {mg : Str → Option Value} {fa : Addr} {h : Heap} (Y : headHk.says w h) (G : h.Ns mainGlobals mg) (hmg : mg "law" = some (.ref fa)) :
    ∃ K : PySem.W.Frag, K.In h ∧ LamX.LawAtS PySem.Challenge.rw_figurelines_k08_lines_refused w K (L2.CX (PySem.Challenge.rw_figurelines_k08_lines_refused).prog w) 15 63 "_law_script" mg fa h := by
  obtain ⟨K, X, c⟩ := Y
  have T := txt_of X G c
  obtain ⟨f, fd, F, g⟩ := (law_fun T).ex
  have ef := hmg.symm.trans g
  cases ef
  have F0 := F
  obtain ⟨oc, od, kV, doc, pm, an, cdv, ct, osl, rfl, lk, hcd⟩ := F.ex
  have hm : (("_law_right", none) : He.Defn) ∈ headTf := List.mem_cons_self ..
  have one : ∀ p ∈ [He.cT K ("_law_right", none)], p = He.cT K ("_law_right", none) := fun p hp => List.mem_singleton.mp hp
  refine ⟨K, X, PySem.W.fnOf "law" "law" (defArgs s_law) (defBody s_law) (defScope s_law) .none kV doc pm an cdv ct, [He.cT K ("_law_right", none)], sp_law K (adOf K), fun p hp => ?_, fun p hp => ?_, fun p hp => ?_, fun s u => .of_eq rfl, fun H a ns hl _ hT hS => ?_, fun base KB GB TB => ?_⟩
  · rw [one p hp]; exact c.empty _ hm
  · rw [one p hp]; exact c.out _ hm
  · rw [one p hp]; exact PySem.W.codeHd_of_K X (c.hd _ hm)
  · refine ⟨a, ns, rfl, hS, hl, fun p hp => ?_, fun _ => rfl⟩
    rw [List.mem_singleton.mp hp]
    exact LamX.TabS.nil (hT _ (List.mem_singleton.mpr rfl))
  · exact ok_law F0 T (TB _ (List.mem_singleton.mpr rfl))
end Fg
open PySem PySem.W PySem.Calls PyProof.Rows
set_option maxRecDepth 100000 in
set_option maxHeartbeats 0 in
theorem PySem.Challenge.cw_figurelines_k08_lines_refused_holds : PySem.Challenge.rw_figurelines_k08_lines_refused.Holds := by
  w_on; o_law
  refine HandSHeadRun.head_any (r := OpenLaw.row PySem.Challenge.rw_figurelines_k08_lines_refused) (q := view (OpenLaw.row PySem.Challenge.rw_figurelines_k08_lines_refused).prog [65]) (H := Fg.headHk) (ob := Fg.headOb) (M := 12000) (loose := Fg.headNames) (d := HandSHeadRun.topDef (OpenLaw.row PySem.Challenge.rw_figurelines_k08_lines_refused).prog 65) (kwd := []) Fg.headOb_eq
    (by kernel_rfl) (fun s => by kernel_rfl) Fg.headRun (by kernel_rfl) (by kernel_rfl) (by kernel_rfl) (by rfl) (by first | assumption | decide +kernel) (by decide +kernel) ⟨rfl, rfl, rfl, rfl, rfl, by decide +kernel⟩ ?hw ?hc
  case hw => w_witness2
  case hc =>
    refine LamX.walk_ofTsE (l := PySem.Challenge.rw_figurelines_k08_lines_refused) (n := 63) (k := 15) (x := "_law_script") (CX := fun w => L2.CX (PySem.Challenge.rw_figurelines_k08_lines_refused).prog w) rfl (by decide) (by kernel_rfl) ⟨rfl, by decide, by decide⟩ ?F ?X
    case F =>
      intro w mg fa h Y G hmg0
      have hmg : mg ("law" : PySem.Str) = some (.ref fa) := by
        have e : (HandSHeadRun.topDef (OpenLaw.row PySem.Challenge.rw_figurelines_k08_lines_refused).prog 65).name = ("law" : PySem.Str) := by kernel_rfl
        rw [← e]
        exact hmg0
      exact Fg.law_facts Y G hmg
    case X =>
      intro w H s e s' z
      obtain ⟨_, _, _, _, _, _, _, _, _, _, _, _, z⟩ := z
      exact z
#print axioms PySem.Challenge.cw_figurelines_k08_lines_refused_holds
