import PyProof.Rows.All
import HandS.Head0
import HandS.Head1
import HandS.Head2
import HandS.HeadEnd
import HandS.HeadHook1
import HandS.HeadHook2
import HandS.HeadHook3
import HandS.HeadHook4
import HandS.HeadWalk
import HandS.HeadNt
import Wide.All
import OpenK.AllK
import Wide.FinOn
import HandS.ForMost
import HandS.ForExc
import HandS.IsInst
import HandS.FStr
import HandS.TupAny
import HandS.Star
import HandS.Lambda
import HandS.EndTab
import HandS.StrMore
import HandS.Style
import HandS.Zip
import HandS.Small
import HandS.ExcInit
import HandS.ExcIs
import HandS.ExcField
import HandS.TryMany
import HandS.Defaults
import HandS.MakeKwOnly
import HandS.Wide
import PyProof.ListStr
import KE.GoesOver
import KE.GoesMore
import KE.GoesEnum
import KE.GoesNew
import HandS.SortInts
import HandS.SetFor
import HandS.Strs
import PyProof.NeKinds
import HandS.ClsMeth
import HandS.New0
import KE.KCallOwn
import KE.KFmtOwn
import KE.KDictList
import HandS.OwnEq
import HandS.Deep
import HandS.DictComp
import HandS.ListItems
import HandS.StrSplit
import KE.KOpsOwn
import KE.KDictZip
import KE.KExcInit
import HandS.ExcOwn
import HandS.RaiseMore
import HandS.Finally
import HandS.SortRule
import HandS.More
import KE.KItemsList
import HandS.GenList
import HandS.Replace
import HandS.HotCalls
import PyProof.ReprNest
import PyProof.ReprDict
import PyProof.ReprRoads
import OpenK.KOps
import OpenK.KMeth
import KE.KEqDict
import HandS.TupMul
import PyProof.EqKinds
import PyProof.FactsAll.dict
import HandS.Property
import HandS.List
import KE.KxField
import KE.DataMinMax
import HandS.Conv
import HandS.SuiteRaise
import HandS.RaiseFrom
import HandS.ExcInitHot
import HandS.ReplaceLit
import PySem.Challenge.RW_figurelines_k02_whole_format_texts
set_option Elab.async false
set_option linter.all false
set_option maxRecDepth 100000
set_option maxHeartbeats 4000000
namespace Fg
open PySem PySem.Spec PyProof.Rows L2
def hdG (x : Str) (st : Stmt) : He.DefD := ⟨(x, none), x, x, defArgs st, defBody st, defScope st, [], []⟩
def dM (C m q : Str) (st : Stmt) : He.DefD := ⟨(C, some m), m, q, defArgs st, defBody st, defScope st, [], []⟩
def dMK (C m q : Str) (st : Stmt) (kws : List (Str × He.Dv)) : He.DefD := ⟨(C, some m), m, q, defArgs st, defBody st, defScope st, [], kws⟩
/-- an own error class -/
def oeB (K : PySem.W.Frag) (C : Addr) : Bool := (match K.lookup C with
  | some ⟨.type t, _, .cls cd, sl⟩ => decide (t = "type") && ((match cd.mro with
    | .ref c :: bm => decide (c = C) && PySem.HandSPX.refsVE bm
    | _ => false) && ((cd.hasDict && !cd.hasDel) && (match sl.toList with
    | [_, _, _, _, some (.builtin n), _] => decide (n = "ValueError.__new__")
    | _ => false)))
  | _ => false) && (decide (PySem.W.findIn K (.ref C) "__setattr__" = some (some (.builtin "object.__setattr__"))) && (decide (PySem.W.subIn K (.ref C) (.type "BaseException") = some true) && (decide (PySem.W.typeIn K (.ref C) = some (.type "type")) && PySem.W.keepIn K (.ref C))))
def xcB (K : PySem.W.Frag) (D : Addr) : Bool := decide (PySem.W.findIn K (.ref D) "__getattribute__" = some (some (.builtin "BaseException.__getattribute__"))) && (decide (PySem.W.findIn K (.ref D) "__getattr__" = some none) && (decide (PySem.W.subIn K (.ref D) (.type "BaseException") = some true) &&
  (PySem.W.hasDictIn K D && (decide (PySem.W.findIn K (.ref D) "__class__" = some (some (.builtin "object.__class__"))) && (decide (PySem.W.specialIn K (.builtin "object.__class__") "__get__" = some (some (.builtin "getset_descriptor.__get__"))) &&
  (decide (PySem.W.takesIn K (.builtin "object.__class__") = some true) && decide (PySem.W.mroIn K D (.type "object") = some true)))))))
/-- what isinstance asks of the instances' class -/
def inB (K : PySem.W.Frag) (C : Addr) : Bool := decide (PySem.W.findIn K (.ref C) "__class__" = some (some (.builtin "object.__class__"))) && (decide (PySem.W.specialIn K (.builtin "object.__class__") "__get__" = some (some (.builtin "getset_descriptor.__get__"))) &&
  (decide (PySem.W.takesIn K (.builtin "object.__class__") = some true) && decide (PySem.W.mroIn K C (.type "object") = some true)))
def entB (K : PySem.W.Frag) : List DictEntry → List (Str × He.Dv) → Bool
  | [], [] => true
  | e :: r, q :: qs => (match e.key with
    | .str x _ => decide (x = q.1)
    | _ => false) && (He.relB (q.2.v K) e.val && entB K r qs)
  | _, _ => false
def tabB (K : PySem.W.Frag) (d : Addr) (kvs : List (Str × He.Dv)) : Bool := match K.lookup d with
  | some ⟨_, _, .dict es _, _⟩ => entB K es.toList kvs
  | _ => false
def smAt (C m : Str) : PySem.W.Frag → Addr := fun K => He5.wf K (He.ga K C) "staticmethod" m
def hdS (C m q : Str) (st : Stmt) : He5.DefA := ⟨smAt C m, m, q, defArgs st, defBody st, defScope st, [], []⟩
def insB (K : PySem.W.Frag) (C : Addr) : Bool := ["NoneType", "bool", "int", "str", "list", "tuple", "dict"].all fun n => decide (PySem.W.kitOne K (.type n) (.ref C) = some false)
def neB (K : PySem.W.Frag) (C : Addr) : Bool := decide (PySem.W.findIn K (.ref C) "__ne__" = some (some (.builtin "object.__ne__"))) && decide (PySem.W.mroIn K C (.type "object") = some true)
def stB (K : PySem.W.Frag) (C m : Str) : Bool := He5.wrapB K (He.ga K C) "staticmethod" "staticmethod.__get__" m && PySem.W.readsIn K (He.ga K C) (.type "type")
abbrev AlY : Type := He.AlT × (Bool × List He5.FnW)
structure SaysY (fa : List He.Fa) (fn : List He.DefD) (ts : List He.Tab) (tf : List He.Defn) (ex : PySem.W.Frag → Bool) (sm : List He5.DefA) (w : World) (h : Heap) (K : PySem.W.Frag) : Prop where
  x : He.SaysX fa fn ts tf ex w h K
  smo : (sm.all fun d => d.ok K) = true
  sme : (sm.map fun d => He5.fnA K (d.at_ K)) = sm.map He5.DefA.val
def obsYK (fa : List He.Fa) (fn : List He.DefD) (ts : List He.Tab) (tf : List He.Defn) (ex : PySem.W.Frag → Bool) (sm : List He5.DefA) (g : Addr → Option Obj) (K : PySem.W.Frag) : AlY :=
  (He.obsT fa fn ts K, (ex K && (He.tabsB g tf K && sm.all fun d => d.ok K), sm.map fun d => He5.fnA K (d.at_ K)))
def valY (fn : List He.DefD) (ts : List He.Tab) (sm : List He5.DefA) (w : World) : AlY := (He.valT fn ts w, (true, sm.map He5.DefA.val))
theorem saysY_at {fa : List He.Fa} {fn : List He.DefD} {ts : List He.Tab} {tf : List He.Defn} {ex : PySem.W.Frag → Bool} {sm : List He5.DefA} {w : World} {h : Heap} {as : List Addr} {K : PySem.W.Frag} (eK : K = He.frT h.get? as) (e : obsYK fa fn ts tf ex sm h.get? K = valY fn ts sm w) : SaysY fa fn ts tf ex sm w h K := by
  unfold obsYK valY at e
  simp only [Prod.mk.injEq] at e
  obtain ⟨e1, e2, e3⟩ := e
  obtain ⟨e2, e4⟩ := He.ba e2
  obtain ⟨e5, e6⟩ := He.ba e4
  have key : ∀ p ∈ tf, PySem.W.codeHdIn K (He.cT K p).1 (He.cT K p).2 = true ∧ ∃ o, h.get? (He.cT K p).2 = some o ∧ He.emptyTab o = true := fun p hp => by
    obtain ⟨k1, k2⟩ := He.ba (List.all_eq_true.mp e5 p hp)
    refine ⟨k1, ?_⟩
    cases q : h.get? (He.cT K p).2 with
    | some o => exact ⟨o, rfl, by rw [q] at k2; exact k2⟩
    | none => rw [q] at k2; cases k2
  refine ⟨⟨e1, e2, fun p hp => (key p hp).1, fun p hp => ?_, fun p hp => ?_⟩, e6, e3⟩
  · obtain ⟨_, o, q, z⟩ := key p hp
    have := He.frT_none (as := as) q z
    rw [← eK] at this
    exact this
  · obtain ⟨_, o, q, z⟩ := key p hp
    rw [q, He.emptyTab_eq z]
theorem SaysY.sm_ {fa : List He.Fa} {fn : List He.DefD} {ts : List He.Tab} {tf : List He.Defn} {ex : PySem.W.Frag → Bool} {sm : List He5.DefA} {w : World} {h : Heap} {K : PySem.W.Frag} (c : SaysY fa fn ts tf ex sm w h K) (i : Nat) {d : He5.DefA} (e : sm[i]? = some d := by rfl) : ∃ fd, FunD K d.name d.qual d.params d.body d.scope (d.dvs K) (d.kws K) (d.at_ K) fd := by
  have z : (sm.map fun d => He5.fnA K (d.at_ K))[i]? = (sm.map He5.DefA.val)[i]? := by rw [c.sme]
  rw [List.getElem?_map, List.getElem?_map, e] at z
  exact He5.DefA.funD (Option.some.inj z) (List.all_eq_true.mp c.smo d (List.mem_of_getElem? e))
def refsV (g : Addr → Option Obj) : List Addr → List Addr
  | [] => []
  | a :: r => (match g a with
    | some o => He.refsD o
    | none => []) ++ refsV g r
def markV {β : Type} : List Addr → Nat → List Addr → (Nat → List Addr → β) → β
  | [], v, new, k => k v new
  | r :: rs, v, new, k => HandSHeadRun.frNat r fun r => match Nat.beq (Nat.land (Nat.shiftRight v r) 1) 1 with
    | true => markV rs v new k
    | false => HandSHeadRun.frNat (Nat.lor v (Nat.shiftLeft 1 r)) fun v => markV rs v (r :: new) k
def levV (g : Addr → Option Obj) : Nat → List Addr → Nat → List Addr → List Addr
  | 0, f, _, acc => acc ++ f
  | n + 1, f, v, acc => markV (refsV g f) v [] fun v new => levV g n new.reverse v (acc ++ f)
def asV (g : Addr → Option Obj) (n : Nat) : List Addr := levV g n [mainGlobals] (Nat.shiftLeft 1 mainGlobals) []
def obsV (n : Nat) (fa : List He.Fa) (fn : List He.DefD) (ts : List He.Tab) (tf : List He.Defn) (ex : PySem.W.Frag → Bool) (sm : List He5.DefA) (g : Addr → Option Obj) : AlY := obsYK fa fn ts tf ex sm g (He.frT g (asV g n ++ [cStatics, sysModules]))
def hookV (n : Nat) (fa : List He.Fa) (fn : List He.DefD) (ts : List He.Tab) (tf : List He.Defn) (ex : PySem.W.Frag → Bool) (sm : List He5.DefA) : PySem.W.Hook where
  α := AlY
  obs s := obsV n fa fn ts tf ex sm s.heap.get?
  val w := valY fn ts sm w
  says w h := ∃ K : PySem.W.Frag, K.In h ∧ SaysY fa fn ts tf ex sm w h K
  of _ _ e := ⟨_, He.frT_in, saysY_at rfl e⟩
  keeps _ _ _ := fun ⟨K, hK, c⟩ k => ⟨K, hK.keeps k, ⟨⟨c.x.t, c.x.more, c.x.hd, c.x.out, fun p hp => k _ _ (c.x.empty p hp)⟩, c.smo, c.sme⟩⟩
theorem obsV_eq (n : Nat) (fa : List He.Fa) (fn : List He.DefD) (ts : List He.Tab) (tf : List He.Defn) (ex : PySem.W.Frag → Bool) (sm : List He5.DefA) {g : Addr → Option Obj} {s : Shared} (h : ∀ a, g a = s.heap.get? a) : obsV n fa fn ts tf ex sm g = (hookV n fa fn ts tf ex sm).obs s := by
  obtain rfl : g = s.heap.get? := funext h
  rfl
def top (i : Nat) : Stmt := PySem.Challenge.pw_figurelines_k02_whole_format_texts.main.body.getD i (.Pass ⟨0, 0, 0, 0⟩)
abbrev s_InvalidTextdd_initdd : Stmt := inClass (top 4) 0
abbrev s_InvalidSettingdd_initdd : Stmt := inClass (top 5) 0
abbrev s_is_integer : Stmt := top 11
abbrev s_is_between : Stmt := top 12
abbrev s_is_sign : Stmt := top 13
abbrev s_code_of : Stmt := top 14
abbrev s_sign_of : Stmt := top 15
abbrev s_size_of : Stmt := top 17
abbrev s_integer_in : Stmt := top 18
abbrev s_is_setting : Stmt := top 23
abbrev s_settings_text : Stmt := top 24
abbrev s_format_of : Stmt := top 25
abbrev s_Formatdd_initdd : Stmt := inClass (top 26) 0
abbrev s_Format_read : Stmt := inClass (top 26) 1
abbrev s_Format_settings : Stmt := inClass (top 26) 2
abbrev s_Formatdd_eqdd : Stmt := inClass (top 26) 11
abbrev s_Formatdd_strdd : Stmt := inClass (top 26) 12
abbrev s_setting_in : Stmt := top 27
abbrev s_settings_in : Stmt := top 28
abbrev s_l_pot : Stmt := top 30
abbrev s_l_spoon : Stmt := top 31
abbrev s_l_of : Stmt := top 32
abbrev s_l_signs : Stmt := top 33
abbrev s_l_sign : Stmt := top 34
abbrev s_l_shape : Stmt := top 35
abbrev s_l_format : Stmt := top 36
abbrev s_l_ended : Stmt := top 37
abbrev s_l_bent : Stmt := top 38
abbrev s_l_right : Stmt := top 39
abbrev s_law : Stmt := top 40
def headFa : List He.Fa := [.cls "Format", .glo "InvalidText", .meth "InvalidText" "__init__", .noat "InvalidText" "value", .glo "InvalidSetting", .meth "InvalidSetting" "__init__", .noat "InvalidSetting" "setting", .glo "is_sign", .free "str", .free "isinstance", .free "len", .str "PRINT" " !\"#$&'()*+,-./0123456789:;<=>?@ABCDEFGHIJKLMNOPQRSTUVWXYZ[\\]^_`abcdefghijklmnopqrstuvwxyz{|}~", .glo "is_integer", .free "int", .glo "is_between", .glo "is_setting", .glo "HEADS", .glo "SIDES", .str "FIGURES" "0123456789abcdef", .int "MOST_GROUP" 4, .int "MOST_WIDTH" 12, .glo "code_of", .glo "settings_text", .free "zip", .glo "SETTINGS", .glo "Format", .mkr "Format", .noat "Format" "base", .noat "Format" "sign", .noat "Format" "least", .noat "Format" "group", .noat "Format" "mark", .noat "Format" "width", .noat "Format" "fill", .noat "Format" "side", .noat "Format" "words", .glo "_law_format", .glo "_law_spoon", .glo "_law_of", .glo "_law_signs", .glo "_law_sign", .glo "_law_shape", .meth "Format" "__str__", .meth "Format" "settings", .meth "Format" "__eq__", .glo "size_of", .glo "integer_in", .free "any", .glo "sign_of", .glo "setting_in", .glo "settings_in", .free "tuple", .free "list", .glo "format_of", .glo "_law_bent", .glo "Unfit", .free "ValueError", .exm "InvalidText" "InvalidText" true, .glo "_law_right", .free "range", .glo "_law_ended", .glo "_law_pot", .free "abs", .glo "law", .free "all", .free "max", .free "min"]
def headFn : List He.DefD := [dM "InvalidText" "__init__" "InvalidText.__init__" s_InvalidTextdd_initdd, dM "InvalidSetting" "__init__" "InvalidSetting.__init__" s_InvalidSettingdd_initdd, hdG "is_sign" s_is_sign, hdG "is_integer" s_is_integer, hdG "is_between" s_is_between, hdG "is_setting" s_is_setting, hdG "code_of" s_code_of, hdG "settings_text" s_settings_text, dMK "Format" "__init__" "Format.__init__" s_Formatdd_initdd [("base", .int 10), ("sign", .str "minus"), ("least", .int 1), ("group", .int 0), ("mark", .str ","), ("width", .int 0), ("fill", .str " "), ("side", .str "left")], hdG "_law_format" s_l_format, hdG "_law_spoon" s_l_spoon, hdG "_law_of" s_l_of, hdG "_law_signs" s_l_signs, hdG "_law_sign" s_l_sign, hdG "_law_shape" s_l_shape, dM "Format" "__str__" "Format.__str__" s_Formatdd_strdd, dM "Format" "settings" "Format.settings" s_Format_settings, dM "Format" "__eq__" "Format.__eq__" s_Formatdd_eqdd, hdG "size_of" s_size_of, hdG "integer_in" s_integer_in, hdG "sign_of" s_sign_of, hdG "setting_in" s_setting_in, hdG "settings_in" s_settings_in, hdG "format_of" s_format_of, hdG "_law_bent" s_l_bent, hdG "_law_right" s_l_right, hdG "_law_ended" s_l_ended, hdG "_law_pot" s_l_pot, hdG "law" s_law]
def headEx (K : PySem.W.Frag) : Bool := ([inB K (He.ga K "Format"), decide (PySem.W.kitOne K (.ref (He.ga K "Format")) (.type "int") = some false), decide (PySem.W.kitOne K (.ref (He.ga K "Format")) (.type "str") = some false), decide (PySem.W.kitOne K (.ref (He.ga K "Format")) (.type "tuple") = some false), decide (PySem.W.kitOne K (.ref (He.ga K "Format")) (.type "bool") = some false), decide (PySem.W.kitOne K (.ref (He.ga K "Format")) (.type "list") = some false), decide (PySem.W.kitOne K (.ref (He.ga K "Format")) (.type "dict") = some false), oeB K (He.ga K "InvalidText"), oeB K (He.ga K "InvalidSetting"), tabB K (He.ga K "HEADS") [("minus", .str ""), ("plus", .str "+"), ("blank", .str " ")], He.tupB K "SIDES" [.str "left", .str "right", .str "both", .str "inner"], He.tupB K "SETTINGS" [.str "base", .str "sign", .str "least", .str "group", .str "mark", .str "width", .str "fill", .str "side"], insB K (He.ga K "Format"), decide (PySem.W.subIn K (.ref (He.ga K "Format")) (.type "str") = some false), neB K (He.ga K "Format"), stB K "Format" "read", xfB K (He.ga K "InvalidText"), xcB K (He.ga K "InvalidText"), decide (PySem.W.kitOne K (.ref (He.ga K "InvalidText")) (.ref (He.ga K "Unfit")) = some true), decide (PySem.W.kitOne K (.ref (He.ga K "InvalidText")) (.type "ValueError") = some true)] : List Bool).all id
def headTs : List He.Tab := [(fun K => He.ga K "HEADS", ["minus", "plus", "blank"])]
def headTf : List He.Defn := [("_law_right", none)]
def headSm : List He5.DefA := [hdS "Format" "read" "Format.read" s_Format_read]
def headNames : List Str := (["_wall", "__name__", "Unfit", "InvalidNumber", "InvalidText", "InvalidSetting", "MOST_WIDTH", "MOST_GROUP", "FIGURES", "PRINT", "is_integer", "is_between", "is_sign", "code_of", "sign_of", "figures_of", "size_of", "integer_in", "SETTINGS", "HEADS", "SIDES", "is_setting", "settings_text", "format_of", "Format", "setting_in", "settings_in", "_law_pot", "_law_spoon", "_law_of"] : List Str) ++ (["_law_signs", "_law_sign", "_law_shape", "_law_format", "_law_ended", "_law_bent", "_law_right"] : List Str)
abbrev headR : PySem.W.OpenRow := PySem.W.OpenLaw.row PySem.Challenge.rw_figurelines_k02_whole_format_texts
abbrev headHk : PySem.W.Hook := hookV 6 headFa headFn headTs headTf headEx headSm
def headOb (s : PySem.W.SharedT) : AlY := obsV 6 headFa headFn headTs headTf headEx headSm (HandSHeadRun.getT s)
theorem headOb_eq (s : PySem.W.SharedT) : headOb s = headHk.obs s.abs := obsV_eq _ _ _ _ _ _ _ (HandSHeadRun.getT_eq s)
abbrev headP (w : World) : Prop := HandSHeadRun.RunEq headR (PySem.W.view headR.prog [40]) headHk headOb 12000 headNames w
set_option maxHeartbeats 0 in
theorem headRunF (w : World) : headP (w.withFollow "special-get-raises" false) := by
  intro os
  kernel_rfl
set_option maxHeartbeats 0 in
theorem headRunT (w : World) : headP (w.withFollow "special-get-raises" true) := by
  intro os
  kernel_rfl
theorem headRun (w : World) : headP w := PySem.W.byRow2 "special-get-raises" headRunF headRunT w
set_option maxHeartbeats 0 in
open PySem PySem.W PySem.Calls PyProof.Rows in
theorem earlyH (call : PySem.W.WalkO (PySem.W.view (PySem.W.OpenLaw.row PySem.Challenge.rw_figurelines_k02_whole_format_texts).prog [40]) headNames (PySem.W.XL (PySem.W.view (PySem.W.OpenLaw.row PySem.Challenge.rw_figurelines_k02_whole_format_texts).prog [40]) []) (PySem.W.Hook.says headHk) (PySem.W.OpenLaw.row PySem.Challenge.rw_figurelines_k02_whole_format_texts).toRowW (HandSHeadRun.topDef (PySem.W.OpenLaw.row PySem.Challenge.rw_figurelines_k02_whole_format_texts).prog 40) [] fun f vs => PySem.call f vs) : PySem.Challenge.rw_figurelines_k02_whole_format_texts.Holds := by
  w_on; o_law
  refine HandSHeadRun.head_any (r := PySem.W.OpenLaw.row PySem.Challenge.rw_figurelines_k02_whole_format_texts) (q := view (PySem.W.OpenLaw.row PySem.Challenge.rw_figurelines_k02_whole_format_texts).prog [40]) (H := Fg.headHk) (ob := Fg.headOb) (M := 12000) (loose := Fg.headNames) (d := HandSHeadRun.topDef (PySem.W.OpenLaw.row PySem.Challenge.rw_figurelines_k02_whole_format_texts).prog 40) (kwd := []) Fg.headOb_eq
    (by kernel_rfl) (fun s => by kernel_rfl) Fg.headRun (by kernel_rfl) (by kernel_rfl) (by kernel_rfl) (by rfl) (by first | assumption | decide +kernel) (by decide +kernel) ⟨rfl, rfl, rfl, rfl, rfl, by decide +kernel⟩ ?hw call
  case hw => w_witness2
end Fg
namespace Fg
open PySem PySem.Spec PyProof.Rows L2
theorem iteD {p : Prop} [Decidable p] {A B : Prop} (h1 : p → A) (h2 : ¬ p → B) : if decide p = true then A else B := by
  by_cases h : p
  · rw [if_pos (decide_eq_true h)]; exact h1 h
  · rw [if_neg (by rw [decide_eq_false h]; decide)]; exact h2 h
theorem iteY {b : Bool} {A B : Prop} (e : b = true) (h : A) : if b = true then A else B := by rw [if_pos e]; exact h
theorem iteN {b : Bool} {A B : Prop} (e : b = false) (h : B) : if b = true then A else B := by rw [if_neg (by rw [e]; decide)]; exact h
section
variable {X : Cx}
theorem pe_imp {e : Expr} {t t' : TE} (h : PE X e t) (w : ∀ σ H Q, t' σ H Q → t σ H Q) : PE X e t' := ⟨fun pins s σ H Q I q => h.run pins s σ H Q I (w σ H Q q)⟩
theorem pt_imp {e : Expr} {t t' : TT} (h : PT X e t) (w : ∀ σ H Q, t' σ H Q → t σ H Q) : PT X e t' := ⟨fun pins s σ H Q I q => h.run pins s σ H Q I (w σ H Q q)⟩
theorem op_imp {f : Value → Value → Sem Value} {r r' : R2} (h : OpR X f r) (w : ∀ x y H Q, r' x y H Q → r x y H Q) : OpR X f r' := fun pins s σ H x y v u Q I rx ry q => h pins s σ H x y v u Q I rx ry (w x y H Q q)
theorem call_imp {f : Value} {r r' : List V → Hp → VK → Prop} (h : CallR X f r) (w : ∀ xs H Q, r' xs H Q → r xs H Q) : CallR X f r' := fun pins s σ H xs us Q I rx q => h pins s σ H xs us Q I rx (w xs H Q q)
def tV (i : Nat) : TE := fun σ H Q => match σ[i]? with
  | some (some v) => Q v H
  | _ => False
theorem fv (i : Nat) {x : Str} {pos : Pos} (hN : X.N[i]? = some x := by rfl) (hv : Vis X.env.scope x := by first | exact Or.inl rfl | exact Or.inr (Or.inl rfl) | exact Or.inr (Or.inr rfl)) (hd : (x == ("__debug__" : Str)) = false := by decide)
    (hcd : (x == ("__classdict__" : Str)) = false := by decide) : PE X (.Name x pos) (tV i) := pe_imp (pe_var hN hv hd hcd) fun σ H Q q => by
  unfold tV at q
  split at q
  · exact ⟨_, by assumption, q⟩
  · exact q.elim
/-- a name of the module -/
theorem fe_g {x : Str} {v : V} {pos : Pos} (hg : Gl X x) (h : ∃ u, X.mg x = some u ∧ RelV v u) (hd : (x == ("__debug__" : Str)) = false := by decide) : PE X (.Name x pos) (tC v) := by
  obtain ⟨u, hm, r⟩ := h
  exact pe_glob hg hm r hd
def fI (g : Int → Int → V) : R2 := fun x y H Q => match x, y with
  | .int i, .int j => Q (g i j) H
  | _, _ => False
def fIc (C : Int → Int → Prop) (g : Int → Int → V) : R2 := fun x y H Q => match x, y with
  | .int i, .int j => C i j ∧ Q (g i j) H
  | _, _ => False
theorem fI_imp {f : Value → Value → Sem Value} {g : Int → Int → V} (h : OpR X f (rI0 g)) : OpR X f (fI g) := op_imp h fun x y H Q q => by
  unfold fI at q
  split at q
  · exact ⟨_, _, rfl, rfl, q⟩
  · exact q.elim
theorem fIc_imp {f : Value → Value → Sem Value} {C : Int → Int → Prop} {g : Int → Int → V} (h : OpR X f (rI C g)) : OpR X f (fIc C g) := op_imp h fun x y H Q q => by
  unfold fIc at q
  split at q
  · exact ⟨_, _, rfl, rfl, q.1, q.2⟩
  · exact q.elim
def fAdd : R2 := fun x y H Q => match x, y with
  | .int i, .int j => Q (.int (i + j)) H
  | .str a, .str b => a.length + b.length ≤ sizeLine ∧ Q (.str (a ++ b)) H
  | _, _ => False
theorem f_add : OpR X (binaryOp .Add) fAdd := op_imp (op_add.or op_add_str) fun x y H Q q => by
  unfold fAdd at q
  split at q
  · exact .inl ⟨_, _, rfl, rfl, q⟩
  · exact .inr ⟨_, _, rfl, rfl, q.1, q.2⟩
  · exact q.elim
theorem f_sub : OpR X (binaryOp .Sub) (fI fun i j => .int (i - j)) := fI_imp op_sub
/-- factors that are not too great -/
def CBig (i j : Int) : Prop := -(10 ^ 60) < i ∧ i < 10 ^ 60 ∧ -(10 ^ 60) < j ∧ j < 10 ^ 60
def CM (i j : Int) : Prop := (-(2 ^ 64) < i ∧ i < 2 ^ 64) ∨ (-(2 ^ 64) < j ∧ j < 2 ^ 64) ∨ CBig i j
theorem log_le {n k : Nat} (h : n < 2 ^ (k + 1)) : n.log2 ≤ k := by
  by_cases z : n = 0
  · rw [z]; exact Nat.zero_le _
  · exact Nat.le_of_lt_succ ((Nat.log2_lt z).mpr h)
theorem CM.ok {i j : Int} (h : CM i j) : IntMulOk i j := by
  rcases h with h | h | h
  · exact CMul.ok (.inl h)
  · exact CMul.ok (.inr h)
  · have z : -(10 ^ 60) < i ∧ i < 10 ^ 60 ∧ -(10 ^ 60) < j ∧ j < 10 ^ 60 := h
    have a1 : i.natAbs.log2 ≤ 199 := log_le (by omega)
    have a2 : j.natAbs.log2 ≤ 199 := log_le (by omega)
    exact CMulW.ok (show i.natAbs.log2 + j.natAbs.log2 < 1000000 by omega)
theorem f_mul : OpR X (binaryOp .Mult) (fIc CM fun i j => .int (i * j)) := fIc_imp (opI fun _ _ _ _ _ _ _ hc q => mul_int q hc.ok)
theorem f_mod : OpR X (binaryOp .Mod) (fIc (fun _ j => 0 < j) fun i j => .int (i % j)) := fIc_imp op_mod
def CDv (_ j : Int) : Prop := 0 < j ∧ j < 10 ^ 60
theorem f_fdiv : OpR X (binaryOp .FloorDiv) (fIc CDv fun i j => .int (i / j)) := op_imp op_fdivW fun x y H Q q => by
  unfold fIc at q
  split at q
  · rename_i i j
    have z : 0 < j ∧ j < 10 ^ 60 := q.1
    have a2 : j.natAbs.log2 ≤ 199 := log_le (by omega)
    exact ⟨i, j, rfl, rfl, ⟨z.1, by omega⟩, q.2⟩
  · exact q.elim
theorem f_pow : OpR X (binaryOp .Pow) (fIc CPow fun i j => .int (i ^ j.toNat)) := fIc_imp op_pow
theorem f_lt : OpR X (compareOp .Lt) (fI fun i j => .bl (decide (i < j))) := fI_imp op_lt
theorem f_le : OpR X (compareOp .LtE) (fI fun i j => .bl (decide (i ≤ j))) := fI_imp op_le
theorem f_gt : OpR X (compareOp .Gt) (fI fun i j => .bl (decide (j < i))) := fI_imp op_gt
theorem f_ge : OpR X (compareOp .GtE) (fI fun i j => .bl (decide (j ≤ i))) := fI_imp op_ge
/-- x is not True, x is True: whatever is no object -/
def notRef : V → Bool
  | .non => true | .bl _ => true | .int _ => true | .str _ => true | .byt _ => true | .flt _ => true | _ => false
def rNotBl : R2 := fun x y H Q => match y with
  | .bl b => notRef x = true ∧ Q (.bl (!decide (x = .bl b))) H
  | _ => False
theorem op_notBl : OpR X (compareOp .IsNot) rNotBl := by
  intro pins s σ H x y v u Q I rx ry h
  cases y <;> first | exact h.elim | skip
  rename_i b
  obtain ⟨n, q⟩ := h
  cases (show u = Value.bool b from ry)
  cases x with
  | non => cases (show v = Value.none from rx); exact wpAny_isNot_other rfl (fun z => by cases z) ⟨.bl true, H, I, rfl, by simpa using q⟩
  | bl a =>
    cases (show v = Value.bool a from rx)
    by_cases e : a = b
    · subst e
      exact wpAny_isNot_self rfl ⟨.bl false, H, I, rfl, by simpa using q⟩
    · exact wpAny_isNot_other rfl (fun z => e (Value.bool.inj z)) ⟨.bl true, H, I, rfl, by simpa [e] using q⟩
  | int i => obtain ⟨t, rfl⟩ := (show ∃ t, v = Value.int i t from rx); exact wpAny_isNot_other rfl (fun z => by cases z) ⟨.bl true, H, I, rfl, by simpa using q⟩
  | str i => obtain ⟨t, rfl⟩ := (show ∃ t, v = Value.str i t from rx); exact wpAny_isNot_other rfl (fun z => by cases z) ⟨.bl true, H, I, rfl, by simpa using q⟩
  | byt i => obtain ⟨t, rfl⟩ := (show ∃ t, v = Value.bytes i t from rx); exact wpAny_isNot_other rfl (fun z => by cases z) ⟨.bl true, H, I, rfl, by simpa using q⟩
  | flt i => obtain ⟨t, rfl⟩ := (show ∃ t, v = Value.float i t from rx); exact wpAny_isNot_other rfl (fun z => by cases z) ⟨.bl true, H, I, rfl, by simpa using q⟩
  | ref _ => cases n
  | ty _ => cases n
/-- a test that is a bool -/
def tT (t : TE) : TT := fun σ H Q => t σ H fun x H' => match x with
  | .bl k => Q k H'
  | _ => False
variable {a b : Expr} {ta tb : TE} {pos : Pos}
theorem ft_cmp {op : CmpOp} {r : R2} (ho : OpR X (compareOp op) r) (ha : PE X a ta) (hb : PE X b tb) (hm : behindInMarks op b = false) : PT X (.Compare a [op] [b] pos) (tT (tOp r ta tb)) := by
  refine ⟨fun pins s σ H Q I h => ?_⟩
  refine wpAny_isTrue_Compare1 (thn (ha.run pins s σ H _ I h) fun v s1 ⟨x, H1, I1, rx, q⟩ => thn (hb.run pins s1 σ H1 _ I1 q) fun u s2 ⟨y, H2, I2, ry, q⟩ => thn (ho pins s2 σ H2 x y v u _ I2 rx ry q) fun c s3 ⟨z, H3, I3, rz, q3⟩ => ?_) hm
  cases z <;> first | exact q3.elim | skip
  cases rz
  exact wpAny_truthy_bool ⟨H3, I3, q3⟩
theorem ft_val {e : Expr} {t : TE} (h : PE X e t) (he : ∀ whole, isTrue e X.env whole = (do let v ← whole; standAt e.pos; holding [v] (truthy v)) := by intro _; rfl) : PT X e (tT t) := by
  refine ⟨fun pins s σ H Q I hw => ?_⟩
  refine isTrue_plain (thn (h.run pins s σ H _ I hw) fun v s1 ⟨x, H1, I1, r1, q1⟩ => ?_) (he _)
  cases x <;> first | exact q1.elim | skip
  cases r1
  exact wpAny_truthy_bool ⟨H1, I1, q1⟩
end
def s0 (P : Hp → VK → XK → Prop) : Sp := fun vs H Q E => match vs with
  | [] => P H Q E
  | _ => False
def s1 (P : V → Hp → VK → XK → Prop) : Sp := fun vs H Q E => match vs with
  | [a] => P a H Q E
  | _ => False
def s2 (P : V → V → Hp → VK → XK → Prop) : Sp := fun vs H Q E => match vs with
  | [a, b] => P a b H Q E
  | _ => False
def s3 (P : V → V → V → Hp → VK → XK → Prop) : Sp := fun vs H Q E => match vs with
  | [a, b, c] => P a b c H Q E
  | _ => False
theorem s1_len {P} {vs : List V} {H : Hp} {Q : VK} {E : XK} (h : s1 P vs H Q E) : ∃ a, vs = [a] ∧ P a H Q E := by
  unfold s1 at h; split at h
  · exact ⟨_, rfl, h⟩
  · exact h.elim
theorem s2_len {P} {vs : List V} {H : Hp} {Q : VK} {E : XK} (h : s2 P vs H Q E) : ∃ a b, vs = [a, b] ∧ P a b H Q E := by
  unfold s2 at h; split at h
  · exact ⟨_, _, rfl, h⟩
  · exact h.elim
structure FunAt (K : PySem.W.Frag) (mg : Str → Option Value) (x : Str) (st : Stmt) : Prop where
  ex : ∃ f fd, Fun K x x st f fd ∧ mg x = some (.ref f)
structure Callee (P : Program) (w : World) (K : PySem.W.Frag) (mg : Str → Option Value) (base : Heap) (k : Nat) (x : Str) (ps : List Str) (sp : Sp) : Prop where
  ex : ∃ f fd, FnOk P w K mg base (L2.CX P w) k f fd ps sp ∧ mg x = some (.ref f) ∧ PySem.W.keepIn K (.ref f) = true ∧ Binds K fd ps []
section
variable {X : Cx} {W : WX} {j k : Nat} {x : Str} {ps : List Str} {sp : Sp} {p pos : Pos} {e : Expr} {es : List Expr} {t : TA}
theorem fc_call (c : Callee X.prog X.w X.K X.mg X.base k x ps sp) (hr : Room j X.A) (hk : k ≤ j) (hg : Gl X x) (tk : Takes X W) (ha : PA X (e :: es) t) (hdb : (x == ("__debug__" : Str)) = false := by decide) (he : starEach (e :: es) X.env = (false, eval e X.env) :: starEach es X.env := by rfl)
    (hpl : (backTo pos (starEach es X.env)).any (·.1) = false := by rfl) : PE X (.Call (.Name x p) (e :: es) [] pos) (tCallS sp (WE W) t) := by
  obtain ⟨f, fd, F, hm, hkp, hb⟩ := c.ex
  exact pe_callS F (hr.mono hk) hg hm hkp hb (fun σ => passAt tk σ) ha hdb he hpl
theorem fc_call0 (c : Callee X.prog X.w X.K X.mg X.base k x ps sp) (hr : Room j X.A) (hk : k ≤ j) (hg : Gl X x) (tk : Takes X W) (hdb : (x == ("__debug__" : Str)) = false := by decide) :
    PE X (.Call (.Name x p) [] [] pos) (fun σ H Q => sp [] H Q (WE W σ)) := by
  obtain ⟨f, fd, F, hm, hkp, hb⟩ := c.ex
  refine ⟨fun pins s σ H Q I h => ?_⟩
  refine wpAny_Call_Name_kw (ld_glob I hg hm ?_ hdb)
  exact PySem.W.callWith_K0 I.kIn hkp (run_fnS (us := []) F (hr.mono hk) hb (passAt tk σ) I .nil h)
end
section
variable {P : Program} {w : World} {K : PySem.W.Frag} {mg : Str → Option Value} {base : Heap}
/-- the rule of a def: its body as a term, its reading -/
theorem callee_of {x : Str} {st : Stmt} {N ps : List Str} {k : Nat} {sp : Sp} (F : FunAt K mg x st) (S : FnScope N ps (defScope st))
    (hb : ∀ (kV doc pm : Value) (an : Option Addr) (cdv ct : Value) (us : List Value), us.length = ps.length → bindArgs (PySem.W.fnOf x x (defArgs st) (defBody st) (defScope st) .none kV doc pm an cdv ct) ⟨us, []⟩ = pure (ps.zip us))
    (len : ∀ vs H Q E, sp vs H Q E → vs.length = ps.length)
    (hbody : ∀ (f : Addr) (cdv : Value) (A : Around) (outer : List Env) (s : Shared) (H : Hp) (vs : List V) (Q : VK) (E : XK), Room k (cxOf (L2.CX P w) P w K mg base N x (defScope st) f cdv A outer s H E).A →
      Takes (cxOf (L2.CX P w) P w K mg base N x (defScope st) f cdv A outer s H E) (fun cls d _ H => E cls d H) →
      PassesOwn (model P w) (cxOf (L2.CX P w) P w K mg base N x (defScope st) f cdv A outer s H E).A (cxOf (L2.CX P w) P w K mg base N x (defScope st) f cdv A outer s H E).env (cxOf (L2.CX P w) P w K mg base N x (defScope st) f cdv A outer s H E).xe → sp vs H Q E →
      ∃ t, PSs (cxOf (L2.CX P w) P w K mg base N x (defScope st) f cdv A outer s H E) (defBody st) t ∧ t { nx := fun _ H' => Q .non H', rt := Q } (start N vs) H) :
    Callee P w K mg base (k + 1) x ps sp := by
  obtain ⟨f, fd, F, hm⟩ := F.ex
  exact ⟨f, fd, F.okX S len fun cdv A outer s H vs Q E hr h => hbody f cdv A outer s H vs Q E hr (takes_of rfl rfl rfl rfl) (passes_of rfl) h, hm, F.kp, F.binds hb⟩
end
/-- the thing at a is of a type that T is none of -/
def RefTy (K : PySem.W.Frag) (H : Hp) (a : Addr) (c : Value) (b : Bool) : Prop := ∃ t, TyX K H (.ref a) t ∧ PySem.W.kitOne K t c = some b
def fIsTy (K : PySem.W.Frag) (n : String) : List V → Hp → VK → Prop := fun xs H Q => match xs with
  | [x, .ty m] => n = m ∧ match x with
    | .non => Q (.bl false) H
    | .bl _ => Q (.bl (n == "int" || n == "bool")) H
    | .int _ => Q (.bl (n == "int")) H
    | .str _ => Q (.bl (n == "str")) H
    | .ref a => ∃ b, RefTy K H a (.type n) b ∧ Q (.bl b) H
    | _ => False
  | _ => False
section
variable {X : Cx}
theorem kit_int1 {K : PySem.W.Frag} {n : String} (h : n = "int" ∨ n = "str" ∨ n = "tuple" ∨ n = "bool" ∨ n = "list" ∨ n = "dict") :
    PySem.W.kitOne K (.type "NoneType") (.type n) = some false ∧ PySem.W.kitOne K (.type "bool") (.type n) = some (n == "int" || n == "bool") ∧ PySem.W.kitOne K (.type "int") (.type n) = some (n == "int") ∧ PySem.W.kitOne K (.type "str") (.type n) = some (n == "str") := by
  rcases h with rfl | rfl | rfl | rfl | rfl | rfl <;> exact ⟨kit_ty (by decide +kernel), kit_ty (by decide +kernel), kit_ty (by decide +kernel), kit_ty (by decide +kernel)⟩
theorem f_isTy {n : String} (h : n = "int" ∨ n = "str" ∨ n = "tuple" ∨ n = "bool" ∨ n = "list" ∨ n = "dict") : CallR X (.builtin "isinstance") (fIsTy X.K n) := call_imp call_isi fun xs H Q q => by
  obtain ⟨k1, k2, k3, k4⟩ := kit_int1 (K := X.K) h
  unfold fIsTy at q
  split at q
  · rename_i x m
    obtain ⟨rfl, q⟩ := q
    cases x with
    | non => exact ⟨_, _, _, _, _, rfl, .ty _, .base .non, k1, q⟩
    | bl b => exact ⟨_, _, _, _, _, rfl, .ty _, .base (.bl _), k2, q⟩
    | int b => exact ⟨_, _, _, _, _, rfl, .ty _, .base (.int _), k3, q⟩
    | str b => exact ⟨_, _, _, _, _, rfl, .ty _, .base (.str _), k4, q⟩
    | ref a =>
      obtain ⟨b, ⟨t, ty, kt⟩, q⟩ := q
      exact ⟨_, _, _, _, _, rfl, .ty _, ty, kt, q⟩
    | byt _ => exact q.elim
    | flt _ => exact q.elim
    | ty _ => exact q.elim
  · exact q.elim
/-- a list or a tuple that is read -/
def Sq (K : PySem.W.Frag) (H : Hp) (a : Addr) (xs : List V) : Prop := SqL K H a xs ∨ SqT K H a xs
def fLen (K : PySem.W.Frag) : List V → Hp → VK → Prop := fun xs H Q => match xs with
  | [.str z] => z.length ≤ sizeLine ∧ Q (.int z.length) H
  | [.ref a] => ∃ ys, Sq K H a ys ∧ Q (.int ys.length) H
  | _ => False
theorem f_len : CallR X (.builtin "len") (fLen X.K) := fun pins s σ H xs us Q I r q => by
  unfold fLen at q
  split at q
  · exact call_len pins s σ H _ us Q I r ⟨_, _, rfl, ⟨q.1, rfl⟩, q.2⟩
  · obtain ⟨ys, h, q⟩ := q
    rcases h with h | h
    · exact call_len pins s σ H _ us Q I r ⟨_, _, rfl, .inl ⟨_, h, rfl⟩, q⟩
    · exact call_len pins s σ H _ us Q I r ⟨_, _, rfl, .inr ⟨_, h, rfl⟩, q⟩
  · exact q.elim
def fIx (K : PySem.W.Frag) : R2 := fun x y H Q => match x, y with
  | .str z, .int i => z.length ≤ sizeLine ∧ ∃ c, atI z.cps.toList i = some c ∧ Q (.str ⟨#[c]⟩) H
  | .ref a, .int i => ∃ ys v, Sq K H a ys ∧ atI ys i = some v ∧ Q v H
  | _, _ => False
theorem f_ix : IxR X (fIx X.K) := fun value slice pins s σ H x y v u Q I rx ry q hs => by
  unfold fIx at q
  split at q
  · obtain ⟨h, c, hc, q⟩ := q
    exact ix_str value slice pins s σ H _ _ v u Q I rx ry ⟨_, _, _, rfl, rfl, h, hc, q⟩ hs
  · obtain ⟨ys, z, h, hz, q⟩ := q
    rcases h with h | h
    · exact ix_list value slice pins s σ H _ _ v u Q I rx ry ⟨_, _, _, _, rfl, rfl, h, hz, q⟩ hs
    · exact ix_tup value slice pins s σ H _ _ v u Q I rx ry ⟨_, _, _, _, rfl, rfl, h, hz, q⟩ hs
  · exact q.elim
def fInt : List V → Hp → VK → Prop := fun xs H Q => match xs with
  | [.int i] => Q (.int i) H
  | [.bl k] => Q (.int (if k then 1 else 0)) H
  | _ => False
theorem f_int : CallR X (.type "int") fInt := call_imp call_int1 fun xs H Q q => by
  unfold fInt at q
  split at q
  · exact .inl ⟨_, rfl, q⟩
  · exact .inr ⟨_, rfl, q⟩
  · exact q.elim
def fAbs : List V → Hp → VK → Prop := fun xs H Q => match xs with
  | [.int i] => Q (.int ((i.natAbs : Nat) : Int)) H
  | _ => False
theorem f_abs : CallR X (.builtin "abs") fAbs := call_imp call_abs fun xs H Q q => by
  unfold fAbs at q
  split at q
  · rename_i i
    refine ⟨i, rfl, ?_⟩
    rw [show (if i < 0 then -i else i) = ((i.natAbs : Nat) : Int) by split <;> omega]
    exact q
  · exact q.elim
def fMax : List V → Hp → VK → Prop := fun xs H Q => match xs with
  | [.int i, .int j] => Q (.int (max i j)) H
  | _ => False
theorem f_max (hc : X.calm = true) : CallR X (.builtin "max") fMax := call_imp (call_max2 hc) fun xs H Q q => by
  unfold fMax at q
  split at q
  · rename_i i j
    refine ⟨i, j, rfl, ?_⟩
    rw [show (if j > i then j else i) = max i j by split <;> omega]
    exact q
  · exact q.elim
def fMin : List V → Hp → VK → Prop := fun xs H Q => match xs with
  | [.int i, .int j] => Q (.int (min i j)) H
  | _ => False
theorem f_min (hc : X.calm = true) : CallR X (.builtin "min") fMin := call_imp (call_min2 hc) fun xs H Q q => by
  unfold fMin at q
  split at q
  · rename_i i j
    refine ⟨i, j, rfl, ?_⟩
    rw [show (if j < i then j else i) = min i j by split <;> omega]
    exact q
  · exact q.elim
end
/-- a new object o, called p in the heap H': all that was stands as it was -/
def Fresh (H : Hp) (o : HO) (Q : VK) : Prop := ∀ p H', H p = none → Same H H' → H' p = some o → Q (.ref p) H'
theorem Fresh.go {H : Hp} {o : HO} {Q : VK} (h : Fresh H o Q) : ∀ p, H p = none → Q (.ref p) (upd H p o) :=
  fun p np => h p _ np (fun b u e => by rw [upd_ne (ne_of_none e np)]; exact e) upd_same
theorem Same.new {H : Hp} {p : Addr} {o : HO} (np : H p = none) : Same H (upd H p o) := fun b u e => by rw [upd_ne (ne_of_none e np)]; exact e
section
variable {X : Cx} {es : List Expr} {t : TA} {pos : Pos}
def tTupF (t : TA) : TE := fun σ H Q => t σ H fun xs H1 => xs.length ≤ sizeLine ∧ Fresh H1 (.tup xs) Q
def tLstF (t : TA) : TE := fun σ H Q => t σ H fun xs H1 => xs.length ≤ sizeLine ∧ Fresh H1 (.lst xs) Q
/-- what is wanted may be handed on weaker -/
def upA (t : TA) : TA := fun σ H Q => ∃ R, t σ H R ∧ ∀ vs H', R vs H' → Q vs H'
def upE (t : TE) : TE := fun σ H Q => ∃ R, t σ H R ∧ ∀ v H', R v H' → Q v H'
theorem pa_up {es : List Expr} {t : TA} (h : PA X es t) : PA X es (upA t) := ⟨fun pos pins s σ H Q I ⟨R, q, w⟩ => thn (h.run pos pins s σ H R I q) fun us s1 ⟨vs, H1, I1, r, q1⟩ => ⟨vs, H1, I1, r, w _ _ q1⟩⟩
theorem pe_up {e : Expr} {t : TE} (h : PE X e t) : PE X e (upE t) := ⟨fun pins s σ H Q I ⟨R, q, w⟩ => thn (h.run pins s σ H R I q) fun u s1 ⟨v, H1, I1, r, q1⟩ => ⟨v, H1, I1, r, w _ _ q1⟩⟩
theorem fe_tup {x1} (h : PA X es t) : PE X (.Tuple es x1 pos) (tTupF t) := pe_imp (pe_tup (pa_up h)) fun σ H Q q => ⟨_, q, fun xs H1 r => ⟨r.1, r.2.go⟩⟩
theorem fe_lst (h : PA X es t) : PE X (.List es pos) (tLstF t) := pe_imp (pe_lst (pa_up h)) fun σ H Q q => ⟨_, q, fun xs H1 r => ⟨r.1, r.2.go⟩⟩
def fCat : R2 := fun x y H Q => match x, y with
  | .ref a, .ref b => ∃ xs ys, H a = some (.lst xs) ∧ H b = some (.lst ys) ∧ xs.length + ys.length ≤ sizeLine ∧ Fresh H (.lst (xs ++ ys)) Q
  | _, _ => False
theorem f_cat : OpR X (binaryOp .Add) fCat := op_imp op_cat fun x y H Q q => by
  unfold fCat at q
  split at q
  · obtain ⟨xs, ys, h1, h2, h3, q⟩ := q
    exact ⟨_, _, _, _, rfl, rfl, h1, h2, h3, q.go⟩
  · exact q.elim
/-- tuple(a list) -/
def fTuple (K : PySem.W.Frag) : List V → Hp → VK → Prop := fun xs H Q => match xs with
  | [.ref a] => ∃ ys, SqL K H a ys ∧ Fresh H (.tup ys) Q
  | _ => False
theorem f_tuple : CallR X (.type "tuple") (fTuple X.K) := call_imp call_tuple_of fun xs H Q q => by
  unfold fTuple at q
  split at q
  · obtain ⟨ys, h, q⟩ := q
    exact ⟨_, _, rfl, .inl ⟨h, q.go⟩⟩
  · exact q.elim
theorem sl_imp {r r' : V → Option Int → Option Int → Hp → VK → Prop} (h : SlR X r) (w : ∀ x l u H Q, r' x l u H Q → r x l u H Q) : SlR X r' := fun pins s σ H x v vl vu lo hi sl Q I rx hs pl pu q => h pins s σ H x v vl vu lo hi sl Q I rx hs pl pu (w _ _ _ _ _ q)
def fSlL (K : PySem.W.Frag) : V → Option Int → Option Int → Hp → VK → Prop := fun x lo hi H Q => match x with
  | .ref a => ∃ xs, SqL K H a xs ∧ Fresh H (.lst (cutV xs lo hi)) Q
  | _ => False
theorem f_slL : SlR X (fSlL X.K) := sl_imp sl_list fun x l u H Q q => by
  unfold fSlL at q
  split at q
  · obtain ⟨xs, h, q⟩ := q
    exact ⟨_, _, rfl, h, q.go⟩
  · exact q.elim
def fSlS : V → Option Int → Option Int → Hp → VK → Prop := fun x lo hi H Q => match x with
  | .str z => z.length ≤ sizeLine ∧ Q (.str (cutS z lo hi)) H
  | _ => False
theorem f_slS : SlR X fSlS := sl_imp sl_str fun x l u H Q q => by
  unfold fSlS at q
  split at q
  · exact ⟨_, rfl, q.1, q.2⟩
  · exact q.elim
/-- d[k], d a dict that is known, k a text -/
def fDGet (td ty : TE) : TE := fun σ H Q => td σ H fun x H1 => ty σ H1 fun y H2 => match x, y with
  | .ref a, .str k => ∃ kvs v, H2 a = some (.dK kvs) ∧ valV kvs (Sum.inr k : Key) = some v ∧ Q v H2
  | .ref a, .int k => ∃ kvs v, H2 a = some (.dK kvs) ∧ valV kvs (Sum.inl k : Key) = some v ∧ Q v H2
  | _, _ => False
variable {o i : Expr} {td ty tv : TE} {te : TE}
theorem fe_dget (hu : X.A.units + 1 < cLine) (ho : PE X o td) (hi : PE X i ty) (hs : NoSl i) : PE X (.Subscript o i pos) (fDGet td ty) := pe_imp (pe_dget hu (pe_up ho) (pe_up hi) hs) fun σ H Q q => ⟨_, q, fun x H1 q1 => ⟨_, q1, fun y H2 q2 => by
    split at q2
    · obtain ⟨kvs, v, h, hv, q⟩ := q2
      exact ⟨_, _, rfl, hv ▸ DGet.k (k := Sum.inr _) h, q⟩
    · obtain ⟨kvs, v, h, hv, q⟩ := q2
      exact ⟨_, _, rfl, hv ▸ DGet.k (k := Sum.inl _) h, q⟩
    · exact q2.elim⟩⟩
/-- {x}, a text or an int -/
def tFmtF (te : TE) : TE := fun σ H Q => te σ H fun x H1 => match x with
  | .str y => y.length ≤ sizeLine ∧ Q (.str y) H1
  | .int i => i.natAbs.log2 < 1920 ∧ Q (.str (toString i)) H1
  | _ => False
theorem fe_fmt {e : Expr} (he : PE X e te) : PE X (.FormattedValue e (-1) none pos) (tFmtF te) := pe_imp (pe_fmt (pe_up he)) fun σ H Q q => ⟨_, q, fun x H1 q1 => by
    split at q1
    · exact .inl ⟨_, rfl, q1.1, q1.2⟩
    · exact .inr ⟨_, rfl, q1.1, q1.2⟩
    · exact q1.elim⟩
end
def Loop (st : Hp → Prop) (g : TG) (tb : TS) (D : Ends) : List V → L2.St → Hp → Prop
  | [] => fun σ H => D.nx σ H
  | x :: r => fun σ H => g x σ H fun σ2 H2 => tb { D with nx := fun σ' H' => st H' ∧ Loop st g tb D r σ' H', ct := fun σ' H' => st H' ∧ Loop st g tb D r σ' H', bk := D.nx } σ2 H2
theorem loop_it {J : It} {xs : List V} {st : Hp → Prop} {g : TG} {tb : TS} {D : Ends} {σ : L2.St} {H : Hp} (hgo : ∀ i H, i < xs.length → st H → J.go i H) (hyl : ∀ i H x H', st H → J.yld i H x H' → H' = H ∧ (i < xs.length → xs[i]? = some x))
    (hst : ∀ H, st H → J.stop xs.length H) (h0 : st H) (h : Loop st g tb D xs σ H) : ∃ W : Nat → Nat → L2.St → Hp → Prop, (∃ m, W 0 m σ H) ∧ ∀ i m σ H, W i m σ H →
      (J.stop i H ∧ D.nx σ H) ∨ (J.go i H ∧ ∃ N : L2.St → Hp → Prop, (∀ σ' H', N σ' H' → ∃ m', m' < m ∧ W (i + 1) m' σ' H') ∧ ∀ x H', J.yld i H x H' → g x σ H' fun σ2 H2 => tb { D with nx := N, ct := N, bk := D.nx } σ2 H2) := by
  refine ⟨fun i m σ H => m + i = xs.length ∧ st H ∧ Loop st g tb D (xs.drop i) σ H, ⟨xs.length, rfl, h0, h⟩, ?_⟩
  rintro i m σ H ⟨hm, hs, hl⟩
  by_cases hi : i < xs.length
  · right
    rw [List.drop_eq_getElem_cons hi] at hl
    refine ⟨hgo i H hi hs, fun σ' H' => st H' ∧ Loop st g tb D (xs.drop (i + 1)) σ' H', fun σ' H' ⟨a, b⟩ => ⟨m - 1, by omega, by omega, a, b⟩, fun x H' y => ?_⟩
    obtain ⟨rfl, hx⟩ := hyl i H x H' hs y
    have e : x = xs[i] := by
      have z := hx hi
      rw [List.getElem?_eq_getElem hi] at z
      exact (Option.some.inj z).symm
    subst e
    exact hl
  · left
    have e : i = xs.length := by omega
    subst e
    rw [List.drop_length] at hl
    exact ⟨hst H hs, hl⟩
/-- the same, each turn over a new pair -/
def LoopZ (st : Hp → Prop) (g : TG) (tb : TS) (D : Ends) : List (V × V) → L2.St → Hp → Prop
  | [] => fun σ H => D.nx σ H
  | p :: r => fun σ H => ∀ T H', H T = none → Same H H' → H' T = some (.tup [p.1, p.2]) → g (.ref T) σ H' fun σ2 H2 => tb { D with nx := fun σ' H' => st H' ∧ LoopZ st g tb D r σ' H', ct := fun σ' H' => st H' ∧ LoopZ st g tb D r σ' H', bk := D.nx } σ2 H2
theorem loopZ_it {J : It} {xs : List (V × V)} {st : Hp → Prop} {g : TG} {tb : TS} {D : Ends} {σ : L2.St} {H : Hp} (hgo : ∀ i H, i < xs.length → st H → J.go i H)
    (hyl : ∀ i H x H', st H → J.yld i H x H' → ∃ T, x = .ref T ∧ H T = none ∧ ∀ p, xs[i]? = some p → H' = upd H T (.tup [p.1, p.2]))
    (hst : ∀ H, st H → J.stop xs.length H) (h0 : st H) (h : LoopZ st g tb D xs σ H) : ∃ W : Nat → Nat → L2.St → Hp → Prop, (∃ m, W 0 m σ H) ∧ ∀ i m σ H, W i m σ H →
      (J.stop i H ∧ D.nx σ H) ∨ (J.go i H ∧ ∃ N : L2.St → Hp → Prop, (∀ σ' H', N σ' H' → ∃ m', m' < m ∧ W (i + 1) m' σ' H') ∧ ∀ x H', J.yld i H x H' → g x σ H' fun σ2 H2 => tb { D with nx := N, ct := N, bk := D.nx } σ2 H2) := by
  refine ⟨fun i m σ H => m + i = xs.length ∧ st H ∧ LoopZ st g tb D (xs.drop i) σ H, ⟨xs.length, rfl, h0, h⟩, ?_⟩
  rintro i m σ H ⟨hm, hs, hl⟩
  by_cases hi : i < xs.length
  · right
    rw [List.drop_eq_getElem_cons hi] at hl
    refine ⟨hgo i H hi hs, fun σ' H' => st H' ∧ LoopZ st g tb D (xs.drop (i + 1)) σ' H', fun σ' H' ⟨a, b⟩ => ⟨m - 1, by omega, by omega, a, b⟩, fun x H' y => ?_⟩
    obtain ⟨T, rfl, nT, z⟩ := hyl i H x H' hs y
    have e := z _ (List.getElem?_eq_getElem hi)
    subst e
    exact hl T _ nT (Same.new nT) upd_same
  · left
    have e : i = xs.length := by omega
    subst e
    rw [List.drop_length] at hl
    exact ⟨hst H hs, hl⟩
/-- an invariant of a loop over a row -/
theorem Loop.by {st : Hp → Prop} {g : TG} {tb : TS} {D : Ends} (Pv : List V → L2.St → Hp → Prop)
    (hs : ∀ x r σ H, Pv (x :: r) σ H → ∀ N : L2.St → Hp → Prop, (∀ σ' H', st H' → Pv r σ' H' → N σ' H') → g x σ H fun σ2 H2 => tb { D with nx := N, ct := N, bk := D.nx } σ2 H2)
    (hd : ∀ σ H, Pv [] σ H → D.nx σ H) : ∀ (xs : List V) (σ : L2.St) (H : Hp), Pv xs σ H → Loop st g tb D xs σ H
  | [], σ, H, h => hd σ H h
  | x :: r, σ, H, h => hs x r σ H h _ fun σ' H' a b => ⟨a, Loop.by Pv hs hd r σ' H' b⟩
theorem ps_imp {X : Cx} {st : Stmt} {t t' : TS} (h : PS X st t) (w : ∀ D σ H, t' D σ H → t D σ H) : PS X st t' := ⟨fun pins s σ H D I q => h.run pins s σ H D I (w D σ H q)⟩
section
variable {X : Cx} {tg e : Expr} {body : List Stmt} {tl : TE} {g : TG} {tb : TS} {pos : Pos} {ta : TA}
/-- lo, lo + 1, .. -/
def rgI (lo : Int) (n : Nat) : List V := (List.range n).map fun (i : Nat) => V.int (lo + i)
theorem rgI_get {lo : Int} {n i : Nat} (h : i < n) : (rgI lo n)[i]? = some (.int (lo + i)) := by
  unfold rgI
  rw [List.getElem?_map, List.getElem?_range h]
  rfl
theorem rgI_len (lo : Int) (n : Nat) : (rgI lo n).length = n := by simp [rgI]
/-- the signs of a text -/
def signs (z : Str) : List V := z.cps.toList.map fun c => V.str ⟨#[c]⟩
/-- what an iterator yields while st stands -/
structure JOk (J : It) (xs : List V) (st : Hp → Prop) : Prop where
  go : ∀ i H, i < xs.length → st H → J.go i H
  yl : ∀ i H x H', st H → J.yld i H x H' → H' = H ∧ (i < xs.length → xs[i]? = some x)
  stp : ∀ H, st H → J.stop xs.length H
abbrev TW := L2.St → Hp → (List V → (Hp → Prop) → Hp → Prop) → Prop
def wiOf (w : TW) : TI := fun σ H R => w σ H fun xs st H1 => st H1 ∧ ∀ J, JOk J xs st → R J H1
theorem pi_imp {w w' : TI} (h : PI X tg e w) (k : ∀ σ H R, w' σ H R → w σ H R) : PI X tg e w' := ⟨fun pins s σ H R I q => h.run pins s σ H R I (k σ H R q)⟩
def wL (K : PySem.W.Frag) (tl : TE) : TW := fun σ H R => tl σ H fun x H1 => match x with
  | .ref a => ∃ xs, SqL K H1 a xs ∧ R xs (fun H => SqL K H a xs) H1
  | _ => False
def wS (tl : TE) : TW := fun σ H R => tl σ H fun x H1 => match x with
  | .str z => R (signs z) (fun _ => True) H1
  | _ => False
def wR1 (ta : TA) : TW := fun σ H R => ta σ H fun vs H1 => match vs with
  | [.int j] => (j < 2 ^ 62 ∧ -(2 ^ 62) ≤ j) ∧ R (rgI 0 j.toNat) (fun _ => True) H1
  | _ => False
theorem jok_L {K : PySem.W.Frag} {a : Addr} {xs : List V} : JOk (Itl K a) xs (fun H => SqL K H a xs) := ⟨fun i H hi h => ⟨xs, xs[i], h, List.getElem?_eq_getElem hi⟩, fun i H x H' h y => ⟨y.1, fun _ => y.2 _ h⟩, fun H h => ⟨xs, h, Nat.le_refl _⟩⟩
theorem jok_R {lo : Int} {n : Nat} : JOk (Itr lo n) (rgI lo n) (fun _ => True) := ⟨fun i H hi _ => by rw [rgI_len] at hi; exact hi, fun i H x H' _ y => ⟨y.1, fun hi => by rw [rgI_len] at hi; rw [rgI_get hi, y.2]⟩, fun H _ => by rw [rgI_len]; exact Nat.le_refl _⟩
theorem jok_S {z : Str} : JOk (Its z) (signs z) (fun _ => True) := by
  have el : (signs z).length = z.cps.size := by simp [signs]
  refine ⟨fun i H hi _ => by rw [el] at hi; exact hi, fun i H x H' _ y => ⟨y.1, fun hi => ?_⟩, fun H _ => by rw [el]; exact Nat.le_refl _⟩
  obtain ⟨_, c, hc, rfl⟩ := y
  unfold signs
  rw [List.getElem?_map, Array.getElem?_toList, hc]
  rfl
/-- what a row of TW wants may be handed on weaker -/
def upW (w : TW) : TW := fun σ H R => ∃ R0, w σ H R0 ∧ ∀ xs st H', R0 xs st H' → R xs st H'
theorem fi_L (hi : PE X e tl) : PI X tg e (wiOf (upW (wL X.K tl))) := pi_imp (pi_list (pe_up hi)) fun σ H R ⟨R0, q0, k⟩ => ⟨_, q0, fun x H1 q1 => by
  split at q1
  · obtain ⟨xs, h, r⟩ := q1
    obtain ⟨h1, q⟩ := k _ _ _ r
    exact ⟨_, rfl, ⟨_, h⟩, q _ jok_L⟩
  · exact q1.elim⟩
theorem fi_S (hi : PE X e tl) : PI X tg e (wiOf (upW (wS tl))) := pi_imp (pi_str (pe_up hi)) fun σ H R ⟨R0, q0, k⟩ => ⟨_, q0, fun x H1 q1 => by
  split at q1
  · exact ⟨_, rfl, (k _ _ _ q1).2 _ jok_S⟩
  · exact q1.elim⟩
theorem fi_R1 {a : Expr} {p : Pos} (hgl : Gl X "range") (hm : X.mg "range" = none) (ha : PA X [a] ta) (hst : starEach [a] X.env = [(false, eval a X.env)] := by rfl) : PI X tg (.Call (.Name "range" p) [a] [] pos) (wiOf (upW (wR1 ta))) := pi_imp (pi_range1 hgl hm (pa_up ha) hst) fun σ H R ⟨R0, q0, k⟩ => ⟨_, q0, fun vs H1 q1 => by
  split at q1
  · exact ⟨_, rfl, q1.1.2, q1.1.1, (k _ _ _ q1.2).2 _ jok_R⟩
  · exact q1.elim⟩
/-- for -/
def tForW (w : TW) (g : TG) (tb : TS) : TS := fun D σ H => w σ H fun xs st H1 => st H1 ∧ Loop st g tb D xs σ H1
theorem fs_for {w : TW} (hp : PassesOwn (model X.prog X.w) X.A X.env X.xe) (hc : X.calm = true) (h : PI X tg e (wiOf (upW w))) (hg : PG X tg g) (hb : PSs X body tb) (hs : ∀ x, foldedSetIterable e X.env x = pure x := by intro _; rfl) :
    PS X (.For tg e body [] pos) (tForW w g tb) := ps_imp (ps_for hp hc h hg hb hs) fun D σ H q => ⟨_, q, fun xs st H' ⟨h1, l⟩ => ⟨h1, fun J j => loop_it j.go j.yl j.stp h1 l⟩⟩
end
/-- all but what stands at a is as it was -/
def But (a : Addr) (H H' : Hp) : Prop := ∀ b o, b ≠ a → H b = some o → H' b = some o
theorem But.upd {a : Addr} {H : Hp} {o : HO} : But a H (L2.upd H a o) := fun b u n e => by rw [upd_ne n]; exact e
theorem But.of {a : Addr} {H H' : Hp} (h : Same H H') : But a H H' := fun b o _ e => h b o e
theorem But.trans {a : Addr} {H H1 H2 : Hp} (x : But a H H1) (y : But a H1 H2) : But a H H2 := fun b o n e => y b o n (x b o n e)
/-- what is new to H0 may change -/
theorem Same.but {a : Addr} {H0 H H' : Hp} (s : Same H0 H) (n : H0 a = none) (b : But a H H') : Same H0 H' := fun c o e => b c o (ne_of_none e n) (s c o e)
theorem Same.get {H H' : Hp} {b : Addr} {o : HO} (s : Same H H') (e : H b = some o) : H' b = some o := s b o e
theorem But.get {a : Addr} {H H' : Hp} {b : Addr} {o u : HO} (s : But a H H') (e : H b = some o) (ha : H a = some u) (d : o ≠ u) : H' b = some o := s b o (ne_of e ha d) e
theorem SqT.same {K : PySem.W.Frag} {H H' : Hp} {a : Addr} {xs : List V} (e : Same H H') (h : SqT K H a xs) : SqT K H' a xs := by
  rcases h with (h | ⟨o, h⟩) | h
  · exact .inl (.inl (e _ _ h))
  · exact .inl (.inr ⟨o, e _ _ h⟩)
  · exact .inr h
theorem Sq.same {K : PySem.W.Frag} {H H' : Hp} {a : Addr} {xs : List V} (e : Same H H') (h : Sq K H a xs) : Sq K H' a xs := by
  rcases h with h | h
  · exact .inl (e.seq h)
  · exact .inr (SqT.same e h)
/-- the object at a becomes o -/
def Chg (H : Hp) (a : Addr) (o : HO) (Q : Hp → Prop) : Prop := ∀ H', But a H H' → H' a = some o → Q H'
theorem Chg.go {H : Hp} {a : Addr} {o : HO} {Q : Hp → Prop} (h : Chg H a o Q) : Q (upd H a o) := h _ But.upd upd_same
section
variable {X : Cx} {o e i : Expr} {to te ti : TE} {pos apos cpos pos' : Pos}
/-- xs.append(e) -/
def tApp (to te : TE) : TE := fun σ H Q => to σ H fun x H1 => match x with
  | .ref l => (∃ ys, H1 l = some (.lst ys)) ∧ te σ H1 fun y H2 => ∃ xs, H2 l = some (.lst xs) ∧ xs.length < sizeLine ∧ Chg H2 l (.lst (xs ++ [y])) (Q .non)
  | _ => False
theorem fe_append (ho : PE X o to) (he : PE X e te) (hbase : attributeBase o "append" X.env (eval o X.env) = eval o X.env := by rfl)
    (hfew : ((backTo cpos (starEach [e] X.env)).all (fun x => !x.1) && (backToKw cpos (keywordEach [] X.env)).all (fun x => x.1.isSome)
      && decide ([e].length + ([] : List Keyword).length + (if ([] : List Keyword).isEmpty then 0 else 1) < 30)) = true := by rfl)
    (hline : (apos.endLine == cpos.line) = true := by rfl) (hs : starEach [e] X.env = (false, eval e X.env) :: starEach [] X.env := by rfl) (hplain : (backTo cpos (starEach [] X.env)).any (·.1) = false := by rfl) :
    PE X (.Call (.Attribute o "append" apos) [e] [] cpos) (tApp to te) :=
  pe_imp (pe_bm PySem.F.plainAttrs_list PySem.F.slot_list_append PySem.F.type_list_append mt_append (pe_up ho) (pa_cons (pe_up he) pa_nil hs) hbase hfew hline hs hplain) fun σ H Q q => ⟨_, q, fun x H1 q1 => by
    split at q1
    · rename_i l
      obtain ⟨⟨ys, hy⟩, q1⟩ := q1
      refine ⟨.inl ⟨rfl, ys, .of hy⟩, ?_⟩
      exact ⟨_, q1, fun y H2 ⟨xs, h1, h2, q2⟩ => ⟨l, xs, y, rfl, rfl, h1, h2, q2.go⟩⟩
    · exact q1.elim⟩
/-- xs[i] = v of a list; d[k] = v (as targets) -/
def gSetL : TSet := fun o i v H Q => match o, i with
  | .ref a, .int i => ∃ xs j, H a = some (.lst xs) ∧ ixN xs.length i = some j ∧ Chg H a (.lst (xs.set j v)) Q
  | _, _ => False
theorem g_setL : PSet X gSetL := fun pins s σ H o i v ov iv u Q I ro ri rv q => by
  unfold gSetL at q
  split at q
  · obtain ⟨xs, j, h, hj, q⟩ := q
    exact set_list pins s σ H _ _ v ov iv u Q I ro ri rv ⟨_, _, _, _, rfl, rfl, h, hj, q.go⟩
  · exact q.elim
def gSetD : TSet := fun o i v H Q => match o, i with
  | .ref a, .str k => ∃ kvs, H a = some (.dK kvs) ∧ kvs.length < sizeLine ∧ Chg H a (.dK (putK kvs (Sum.inr k : Key) v)) Q
  | .ref a, .int k => ∃ kvs, H a = some (.dK kvs) ∧ kvs.length < sizeLine ∧ Chg H a (.dK (putK kvs (Sum.inl k : Key) v)) Q
  | _, _ => False
theorem g_setD (hu : X.A.units + 1 < cLine) : PSet X gSetD := fun pins s σ H o i v ov iv u Q I ro ri rv q => by
  unfold gSetD at q
  split at q
  · obtain ⟨kvs, h, hl, q⟩ := q
    exact set_dict hu pins s σ H _ _ v ov iv u Q I ro ri rv ⟨_, _, rfl, DPut.k (k := Sum.inr _) h hl, q.go⟩
  · obtain ⟨kvs, h, hl, q⟩ := q
    exact set_dict hu pins s σ H _ _ v ov iv u Q I ro ri rv ⟨_, _, rfl, DPut.k (k := Sum.inl _) h hl, q.go⟩
  · exact q.elim
def tFldF (C : Addr) (f : Str) (te : TE) : TE := fun σ H Q => te σ H fun x H1 => match x with
  | .ref a => ∃ dx fs v, H1 a = some (.ins C dx fs) ∧ fs.lookup f = some v ∧ Q v H1
  | _ => False
theorem fe_fld {C : Addr} {f : Str} (c : Cls X.K C) (n : NoAttr X.K C f) (he : PE X e te) (hb : attributeBase e f X.env (eval e X.env) = eval e X.env := by rfl) : PE X (.Attribute e f pos) (tFldF C f te) :=
  pe_imp (pe_fld (pe_up he) hb) fun σ H Q q => ⟨_, q, fun x H1 q1 => by
    split at q1
    · obtain ⟨dx, fs, v, h, hl, q⟩ := q1
      exact ⟨_, _, _, _, _, rfl, h, c, n, hl, q⟩
    · exact q1.elim⟩
def tSetF (C : Addr) (f : Str) (to te : TE) : TS := fun D σ H => te σ H fun y H1 => to σ H1 fun x H2 => match x with
  | .ref a => ∃ dx fs, H2 a = some (.ins C dx fs) ∧ fs.length < 1000 ∧ Chg H2 a (.ins C dx (putF f y fs)) (D.nx σ)
  | _ => False
theorem fs_fld {C : Addr} {f : Str} {value : Expr} {tv : TE} (c : Cls X.K C) (n : NoAttr X.K C f) (ho : PE X o to) (hv : PE X value tv) (hs : swapsWith value (some (.Attribute o f pos')) pos.line X.env = pure false := by rfl) :
    PS X (.Assign [.Attribute o f pos'] value pos) (tSetF C f to tv) := ps_imp (ps_fld (pe_up ho) (pe_up hv) hs) fun D σ H q => ⟨_, q, fun y H1 q1 => ⟨_, q1, fun x H2 q2 => by
    split at q2
    · obtain ⟨dx, fs, h, hl, q⟩ := q2
      exact ⟨_, _, _, _, rfl, h, c, n, hl, q.go⟩
    · exact q2.elim⟩⟩
end
/-- the items are told by f, objects may be made on the way -/
def Comp (st : Hp → Prop) (g : TG) (tt : TT) (te : TE) (vs : List Nat) (σ : L2.St) (D : Addr) (Q : Hp → Prop) : List V → Hp → Prop
  | [] => fun H => Q H
  | x :: r => fun H => g x (wipe σ vs) H fun σ2 H2 => wipe σ2 vs = wipe σ vs ∧ tt σ2 H2 fun b H3 =>
    if b = true then te σ2 H3 fun y H4 => ∃ acc, H4 D = some (.lst acc) ∧ acc.length < sizeLine ∧ st (upd H4 D (.lst (acc ++ [y]))) ∧ Comp st g tt te vs σ D Q r (upd H4 D (.lst (acc ++ [y]))) else st H3 ∧ Comp st g tt te vs σ D Q r H3
theorem comp_it {J : It} {xs : List V} {st : Hp → Prop} {g : TG} {tt : TT} {te : TE} {vs : List Nat} {σ : L2.St} {D : Addr} {H1 : Hp} {Q : Hp → Prop} (hgo : ∀ i H, i < xs.length → st H → J.go i H) (hyl : ∀ i H x H', st H → J.yld i H x H' → H' = H ∧ (i < xs.length → xs[i]? = some x))
    (hst : ∀ H, st H → J.stop xs.length H) (h0 : st (upd H1 D (.lst []))) (h : Comp st g tt te vs σ D Q xs (upd H1 D (.lst []))) : ∃ W : Nat → Nat → Hp → Prop, (∃ m, W 0 m (upd H1 D (.lst []))) ∧ ∀ i m H, W i m H →
      (J.stop i H ∧ Q H) ∨ (J.go i H ∧ ∃ Nx : Hp → Prop, (∀ H', Nx H' → ∃ m', m' < m ∧ W (i + 1) m' H') ∧ ∀ x H', J.yld i H x H' → g x (wipe σ vs) H' fun σ2 H2 => wipe σ2 vs = wipe σ vs ∧ tt σ2 H2 fun b H3 =>
        if b = true then te σ2 H3 fun y H4 => ∃ acc, H4 D = some (.lst acc) ∧ acc.length < sizeLine ∧ Nx (upd H4 D (.lst (acc ++ [y]))) else Nx H3) := by
  refine ⟨fun i m H => m + i = xs.length ∧ st H ∧ Comp st g tt te vs σ D Q (xs.drop i) H, ⟨xs.length, rfl, h0, h⟩, ?_⟩
  rintro i m H ⟨hm, hs, hl⟩
  by_cases hi : i < xs.length
  · right
    rw [List.drop_eq_getElem_cons hi] at hl
    refine ⟨hgo i H hi hs, fun H' => st H' ∧ Comp st g tt te vs σ D Q (xs.drop (i + 1)) H', fun H' ⟨a, b⟩ => ⟨m - 1, by omega, by omega, a, b⟩, fun x H' y => ?_⟩
    obtain ⟨rfl, hx⟩ := hyl i H x H' hs y
    have e : x = xs[i] := by
      have z := hx hi
      rw [List.getElem?_eq_getElem hi] at z
      exact (Option.some.inj z).symm
    subst e
    exact hl
  · left
    have e : i = xs.length := by omega
    subst e
    rw [List.drop_length] at hl
    exact ⟨hst H hs, hl⟩
/-- each item by a function; what is made on the way stands beside -/
theorem Comp.map {st : Hp → Prop} {g : TG} {te : TE} {vs : List Nat} {σ : L2.St} {D : Addr} {Q : Hp → Prop} {H0 : Hp} (f : V → V) (n0 : H0 D = none) (hst : ∀ H, Same H0 H → st H)
    (hx : ∀ (x : V) (H : Hp) (R : VK), Same H0 H → (∀ H', Same H H' → R (f x) H') → g x (wipe σ vs) H fun σ2 H2 => wipe σ2 vs = wipe σ vs ∧ te σ2 H2 R) :
    ∀ (xs : List V) (acc : List V) (H : Hp), acc.length + xs.length ≤ sizeLine → Same H0 H → H D = some (.lst acc) → (∀ H', Same H0 H' → H' D = some (.lst (acc ++ xs.map f)) → Q H') → Comp st g tYes te vs σ D Q xs H
  | [], acc, H, _, s, hD, q => q H s (by rw [List.map_nil, List.append_nil]; exact hD)
  | x :: r, acc, H, hl, s, hD, q => by
    rw [List.length_cons] at hl
    have k := hx x H (fun y H4 => ∃ acc, H4 D = some (.lst acc) ∧ acc.length < sizeLine ∧ st (upd H4 D (.lst (acc ++ [y]))) ∧ Comp st g tYes te vs σ D Q r (upd H4 D (.lst (acc ++ [y])))) s fun H' s' => by
      have s2 : Same H0 (upd H' D (.lst (acc ++ [f x]))) := Same.but (s.trans s') n0 But.upd
      refine ⟨acc, s' _ _ hD, by omega, hst _ s2, ?_⟩
      refine Comp.map f n0 hst hx r (acc ++ [f x]) _ (by rw [List.length_append, List.length_singleton]; omega) s2 upd_same fun H2 s3 e => q H2 s3 ?_
      rw [e, List.append_assoc]
      rfl
    exact k
section
variable {X : Cx} {elt tg iter : Expr} {ifs : List Expr} {scope : Scope} {own : List (Str × Nat)} {pos : Pos} {g : TG} {tt : TT} {te : TE} {w : TW}
def tLcW (w : TW) (g : TG) (tt : TT) (te : TE) (vs : List Nat) : TE := fun σ H Q => w σ H fun xs st H1 => st H1 ∧ ∀ D H2, H1 D = none → Same H1 H2 → H2 D = some (.lst []) → st H2 ∧ Comp st g tt te vs σ D (Q (.ref D)) xs H2
theorem fe_lc (hc : X.calm = true) (hN : X.N.Nodup) (hi : PI X tg iter (wiOf (upW w))) (ok : BlkOk X.N X.env.scope scope own)
    (hg : ∀ (s : Shared) (H : Hp) (C : Addr) (cl : List (Str × Addr)) (fp : List Addr), PG (X.blk s H scope (compEnvC scope cl C X.env) fp) tg g) (ht : ∀ (s : Shared) (H : Hp) (C : Addr) (cl : List (Str × Addr)) (fp : List Addr), PTs (X.blk s H scope (compEnvC scope cl C X.env) fp) ifs tt)
    (he : ∀ (s : Shared) (H : Hp) (C : Addr) (cl : List (Str × Addr)) (fp : List Addr), PE (X.blk s H scope (compEnvC scope cl C X.env) fp) elt te) (hs : ∀ x, foldedSetIterable iter X.env x = pure x := by intro _; rfl) :
    PE X (.ListComp elt [⟨tg, iter, ifs, 0⟩] scope pos) (tLcW w g tt te (own.map (·.2))) := pe_imp (pe_lc hc hN hi ok hg ht he hs) fun σ H Q q => ⟨_, q, fun xs st H1 ⟨h1, k⟩ => ⟨h1, fun J j D n => by
    obtain ⟨h2, c⟩ := k D _ n (Same.new n) upd_same
    exact comp_it j.go j.yl j.stp h2 c⟩⟩
end
structure MethAt (K : PySem.W.Frag) (C : Addr) (m qual : Str) (st : Stmt) : Prop where
  ex : ∃ f fd, Fun K m qual st f fd ∧ Meth K C m f
structure MCallee (P : Program) (w : World) (K : PySem.W.Frag) (mg : Str → Option Value) (base : Heap) (k : Nat) (C : Addr) (m : Str) (ps : List Str) (sp : Sp) : Prop where
  ex : ∃ f fd, FnOk P w K mg base (L2.CX P w) k f fd ps sp ∧ Cls K C ∧ Meth K C m f ∧ Binds K fd ps []
section
variable {P : Program} {w : World} {K : PySem.W.Frag} {mg : Str → Option Value} {base : Heap}
theorem mcallee_of {C : Addr} {m qual : Str} {st : Stmt} {N ps : List Str} {k : Nat} {sp : Sp} (cl : Cls K C) (F : MethAt K C m qual st) (S : FnScope N ps (defScope st))
    (hb : ∀ (kV doc pm : Value) (an : Option Addr) (cdv ct : Value) (us : List Value), us.length = ps.length → bindArgs (PySem.W.fnOf m qual (defArgs st) (defBody st) (defScope st) .none kV doc pm an cdv ct) ⟨us, []⟩ = pure (ps.zip us))
    (len : ∀ vs H Q E, sp vs H Q E → vs.length = ps.length)
    (hbody : ∀ (f : Addr) (cdv : Value) (A : Around) (outer : List Env) (s : Shared) (H : Hp) (vs : List V) (Q : VK) (E : XK), Room k (cxOf (L2.CX P w) P w K mg base N qual (defScope st) f cdv A outer s H E).A →
      Takes (cxOf (L2.CX P w) P w K mg base N qual (defScope st) f cdv A outer s H E) (fun cls d _ H => E cls d H) →
      PassesOwn (model P w) (cxOf (L2.CX P w) P w K mg base N qual (defScope st) f cdv A outer s H E).A (cxOf (L2.CX P w) P w K mg base N qual (defScope st) f cdv A outer s H E).env (cxOf (L2.CX P w) P w K mg base N qual (defScope st) f cdv A outer s H E).xe → sp vs H Q E →
      ∃ t, PSs (cxOf (L2.CX P w) P w K mg base N qual (defScope st) f cdv A outer s H E) (defBody st) t ∧ t { nx := fun _ H' => Q .non H', rt := Q } (start N vs) H) :
    MCallee P w K mg base (k + 1) C m ps sp := by
  obtain ⟨f, fd, F, hm⟩ := F.ex
  exact ⟨f, fd, F.okX S len fun cdv A outer s H vs Q E hr h => hbody f cdv A outer s H vs Q E hr (takes_of rfl rfl rfl rfl) (passes_of rfl) h, cl, hm, F.binds hb⟩
end
section
variable {X : Cx} {W : WX} {j k : Nat} {C : Addr} {m x : Str} {ps : List Str} {sp : Sp} {p pos apos pos2 : Pos} {o e : Expr} {es : List Expr} {t : TA} {ta te : TE}
/-- o.m(e, ..) of an instance of the class at C -/
def tMethF (C : Addr) (m : Str) (sp : Sp) (W : WX) (ta : TE) (t : TA) : TE := fun σ H Q => ta σ H fun x H1 => match x with
  | .ref a => (∃ dx fs, H1 a = some (.ins C dx fs) ∧ fs.lookup m = none) ∧ t σ H1 fun vs H2 => sp (.ref a :: vs) H2 Q (fun cls d H' => W cls d σ H')
  | _ => False
theorem fc_meth0 {pl : Sem Bool} (c : MCallee X.prog X.w X.K X.mg X.base k C m ps sp) (hr : Room j X.A) (hk : k ≤ j) (tk : Takes X W) (ho : PE X o ta)
    (ht : eval (.Call (.Attribute o m apos) [] [] pos) X.env = (do
      let ov ← eval o X.env; standAt apos.atName; let (f, first) ← holding [ov] (getMethod ov m pl)
      callWith pos f first (backTo pos (starEach [] X.env)) (backToKw pos (keywordEach [] X.env))) := by rfl) :
    PE X (.Call (.Attribute o m apos) [] [] pos) (tMethF C m sp W ta tNil) := by
  obtain ⟨g, fd, F, cl, hm, hb⟩ := c.ex
  refine ⟨fun pins s σ H Q I h => PySem.W.methodCall_KW (pl := pl) (thn (ho.run pins s σ H _ I h) fun u s1 ⟨x, H1, J, rx, q⟩ => ?_) ht⟩
  cases x <;> first | exact q.elim | skip
  rename_i a
  cases rx
  obtain ⟨⟨dx, fs, ea, l⟩, q⟩ := q
  refine getmeth_ok J ea cl hm l (PySem.W.callWith_K0 (first := [.ref a]) J.kIn hm.kp ?_)
  exact run_fnS (us := [.ref a]) (vs := [.ref a]) (E := WE W) F (hr.mono hk) hb (passAt tk σ) J (.cons rfl .nil) q
end
structure InitAt (K : PySem.W.Frag) (C : Addr) (qual : Str) (st : Stmt) : Prop where
  ex : ∃ f fd, Fun K "__init__" qual st f fd ∧ PySem.W.findIn K (.ref C) "__init__" = some (some (.ref f)) ∧ PySem.W.typeIn K (.ref f) = some (.type "function")
structure Raiser (P : Program) (w : World) (K : PySem.W.Frag) (mg : Str → Option Value) (base : Heap) (x : Str) (C : Addr) (f : Str) : Prop where
  T : OexC K C
  g : mg x = some (.ref C)
  ex : ∃ fI fd, PySem.W.findIn K (.ref C) "__init__" = some (some (.ref fI)) ∧ PySem.W.typeIn K (.ref fI) = some (.type "function") ∧
    FnOk P w K mg base (L2.CX P w) 1 fI fd (["self", f] : List Str) (s2 fun a v H Q _ => ∃ p, a = .ref p ∧ H p = some (exo p C none) ∧ ∀ dx, H dx = none → dx ≠ p → Q .non (upd (upd H dx (exd dx [(f, v)])) p (exo p C (some dx)))) ∧ Binds K fd (["self", f] : List Str) []
theorem raiser_of {P : Program} {w : World} {K : PySem.W.Frag} {mg : Str → Option Value} {base : Heap} {x : Str} {C : Addr} {f qual : Str} {st : Stmt} (T : OexC K C) (g : mg x = some (.ref C)) (F : InitAt K C qual st) (no : PySem.W.findIn K (.ref C) f = some none)
    (S : FnScope (["self", f] : List Str) (["self", f] : List Str) (defScope st))
    (hb : ∀ (kV doc pm : Value) (an : Option Addr) (cdv ct : Value) (us : List Value), us.length = 2 → bindArgs (PySem.W.fnOf "__init__" qual (defArgs st) (defBody st) (defScope st) .none kV doc pm an cdv ct) ⟨us, []⟩ = pure ((["self", f] : List Str).zip us))
    (hbody : ∀ X : Cx, X.env.scope = defScope st → X.N = (["self", f] : List Str) → PSs X (defBody st) (tOst X.K f (tV 0) (tV 1))) : Raiser P w K mg base x C f := by
  obtain ⟨fI, fd, F, hi, ht⟩ := F.ex
  refine ⟨T, g, fI, fd, hi, ht, F.okX S (fun vs H Q E h => ?_) (fun cdv A outer s H vs Q E hr h => ⟨_, hbody _ rfl rfl, ?_⟩), F.binds (ps := (["self", f] : List Str)) hb⟩
  · obtain ⟨_, _, rfl, _⟩ := s2_len h
    rfl
  · obtain ⟨a, v, rfl, p, rfl, h0, q⟩ := s2_len h
    exact ⟨p, C, rfl, T, no, .inl ⟨h0, q⟩⟩
section
variable {X : Cx} {W : WX} {j : Nat} {C : Addr} {x f : Str} {p pos pos2 : Pos} {e : Expr} {te : TE}
/-- raise x(e) -/
theorem fr_raise (hc : X.calm = true) (R : Raiser X.prog X.w X.K X.mg X.base x C f) (hr : Room j X.A) (hk : 2 ≤ j) (tk : Takes X W) (hg : Gl X x) (he : PE X e te) (hdb : (x == ("__debug__" : Str)) = false := by decide)
    (hst : starEach (e :: []) X.env = (false, eval e X.env) :: starEach [] X.env := by rfl) (hpl : (backTo pos (starEach [] X.env)).any (·.1) = false := by rfl) :
    PS X (.Raise (some (.Call (.Name x p) [e] [] pos)) none pos2) (fun _ σ H => te σ H fun v H1 => ∀ d H', H1 d = none → Same H1 H' → H' d = some (.xd [(f, v)]) → W (.ref C) (some d) σ H') := by
  obtain ⟨fI, fd, hi, ht, F, hb⟩ := R.ex
  refine ps_imp (ps_raise hc tk (pmk_oex R.T hi ht F (hr.mono hk) hb .nil (fun pins σ H s e' s' I c => passL (X := X) pins σ H s e' s' I c) hg R.g (pa_cons (pe_up he) pa_nil hst) hdb hst hpl)) fun D σ H q => ⟨_, q, fun v H1 q1 => ⟨by show 1 ≤ 1000; decide, fun a na => ?_⟩⟩
  refine ⟨a, rfl, upd_same, fun dx nx ne => ⟨rfl, dx, [(f, v)], upd_same, by rw [upd_ne ne, upd_same], ?_, ?_⟩⟩
  · rw [upd_ne ne] at nx
    exact nx
  · have nx1 : H1 dx = none := by
      rw [upd_ne ne] at nx
      exact nx
    refine q1 dx _ nx1 (fun b u z => ?_) upd_same
    have n1 := ne_of_none z na
    have n2 := ne_of_none z nx1
    rw [upd_ne n2, del_ne n1, upd_ne n1, upd_ne n2, upd_ne n1]
    exact z
end
theorem mt_imp {X : Cx} {id : String} {r r' : V → List V → Hp → VK → Prop} (h : MtR X id r) (k : ∀ x xs H Q, r' x xs H Q → r x xs H Q) : MtR X id r' := fun pins s σ H x xs v us Q I rx rs q => h pins s σ H x xs v us Q I rx rs (k _ _ _ _ q)
section
variable {X : Cx} {o e : Expr} {to te : TE} {apos cpos pos : Pos}
/-- text.index(sign), the sign there -/
def fIndex : V → List V → Hp → VK → Prop := fun x xs H Q => match x, xs with
  | .str a, [.str b] => ∃ k, Txt.index0 a b = some k ∧ Q (.int (k : Nat)) H
  | _, _ => False
theorem f_sindex : MtR X "str.index" fIndex := by
  intro pins s σ H x xs v us Q I rx rs h
  unfold fIndex at h
  split at h
  · obtain ⟨k, hk, q⟩ := h
    obtain ⟨t, rfl⟩ := rx
    cases rs with
    | cons r1 rs =>
      cases rs
      obtain ⟨u, rfl⟩ := r1
      rename_i a b
      unfold Txt.index0 at hk
      cases z : Builtin.Str.occurrences a b 0 a.length 1 with
      | nil => rw [z] at hk; cases hk
      | cons m rest =>
        rw [z] at hk
        cases hk
        exact PySem.SC.index z ⟨.int (k : Nat), H, I.tok _, ⟨_, rfl⟩, q⟩
  · exact h.elim
/-- a built-in type's method by what the values are: texts -/
def tSM1 (r : V → List V → Hp → VK → Prop) (to te : TE) : TE := fun σ H Q => to σ H fun x H1 => match x with
  | .str a => te σ H1 fun y H2 => r (.str a) [y] H2 Q
  | _ => False
def tSM0 (r : V → List V → Hp → VK → Prop) (to : TE) : TE := fun σ H Q => to σ H fun x H1 => match x with
  | .str a => r (.str a) [] H1 Q
  | _ => False
theorem fe_sm1 {id : String} {name : Str} {r : V → List V → Hp → VK → Prop} (slot : Slot "str" name id) (ty : typeOf (.builtin id) = pure (.type "method_descriptor")) (rule : MtR X id r) (ho : PE X o to) (he : PE X e te)
    (hs : starEach [e] X.env = [(false, eval e X.env)] := by rfl) (hbase : attributeBase o name X.env (eval o X.env) = eval o X.env := by rfl) (hline : (apos.endLine == pos.line) = true := by rfl) :
    PE X (.Call (.Attribute o name apos) [e] [] pos) (tSM1 r to te) := pe_imp (pe_m1 slot ty rule (pe_up ho) (pe_up he) hs hbase hline) fun σ H Q q => ⟨_, q, fun x H1 q1 => by
  split at q1
  · exact ⟨⟨_, rfl⟩, _, q1, fun y H2 q2 => q2⟩
  · exact q1.elim⟩
theorem fe_sm0 {id : String} {name : Str} {r : V → List V → Hp → VK → Prop} (slot : Slot "str" name id) (ty : typeOf (.builtin id) = pure (.type "method_descriptor")) (rule : MtR X id r) (ho : PE X o to)
    (hbase : attributeBase o name X.env (eval o X.env) = eval o X.env := by rfl) (hline : (apos.endLine == pos.line) = true := by rfl) :
    PE X (.Call (.Attribute o name apos) [] [] pos) (tSM0 r to) := pe_imp (pe_m0 slot ty rule (pe_up ho) hbase hline) fun σ H Q q => ⟨_, q, fun x H1 q1 => by
  split at q1
  · exact ⟨⟨_, rfl⟩, q1⟩
  · exact q1.elim⟩
/-- text.join(texts) -/
def fJoin (K : PySem.W.Frag) : V → List V → Hp → VK → Prop := fun x xs H Q => match x, xs with
  | .str a, [.ref p] => ∃ ys : List Str, Sq K H p (ys.map V.str) ∧ (ys.map (·.length)).sum + ys.length * a.length ≤ 16777216 ∧ Q (.str (Txt.join a ys)) H
  | _, _ => False
theorem f_join : MtR X "str.join" (fJoin X.K) := mt_imp mt_join fun x xs H Q q => by
  unfold fJoin at q
  split at q
  · obtain ⟨ys, h, hz, q⟩ := q
    exact ⟨_, _, ys, rfl, rfl, h, hz, q⟩
  · exact q.elim
/-- text.split(sep) -/
def fSplit : V → List V → Hp → VK → Prop := fun x xs H Q => match x, xs with
  | .str a, [.str b] => (b.length == 0) = false ∧ a.length + 2 ≤ sizeLine ∧ Fresh H (.lst ((Txt.split a b).map V.str)) Q
  | _, _ => False
theorem f_split : MtR X "str.split" fSplit := mt_imp mt_split fun x xs H Q q => by
  unfold fSplit at q
  split at q
  · exact ⟨_, _, rfl, rfl, q.1, q.2.1, q.2.2.go⟩
  · exact q.elim
/-- b, or its opposite -/
def opp (neg b : Bool) : Bool := match neg with
  | true => !b
  | false => b
/-- sign in text, sign not in text -/
def fInS (neg : Bool) : R2 := fun x y H Q => match x, y with
  | .str a, .str z => ∃ c, a = ⟨#[c]⟩ ∧ Q (.bl (opp neg (decide (c ∈ z.cps.toList)))) H
  | _, _ => False
theorem f_inS : OpR X (compareOp .In) (fInS false) := op_imp op_in_sign fun x y H Q q => by
  unfold fInS at q
  split at q
  · obtain ⟨c, rfl, q⟩ := q
    exact ⟨c, _, rfl, rfl, q⟩
  · exact q.elim
theorem f_notInS : OpR X (compareOp .NotIn) (fInS true) := op_imp op_notIn_sign fun x y H Q q => by
  unfold fInS at q
  split at q
  · obtain ⟨c, rfl, q⟩ := q
    exact ⟨c, _, rfl, rfl, q⟩
  · exact q.elim
/-- x in a row of plain things -/
def fInQ (K : PySem.W.Frag) (neg : Bool) : R2 := fun x y H Q => match y with
  | .ref p => ∃ xs, Sq K H p xs ∧ flatV x = true ∧ xs.all flatV = true ∧ Q (.bl (opp neg (inV x xs))) H
  | _ => False
theorem f_inQ : OpR X (compareOp .In) (fInQ X.K false) := op_imp op_in_seq fun x y H Q q => by
  unfold fInQ at q
  split at q
  · obtain ⟨xs, h, h1, h2, q⟩ := q
    exact ⟨_, xs, rfl, h, h1, h2, q⟩
  · exact q.elim
/-- x is None, x is not None -/
def fIsN (neg : Bool) : R2 := fun x y H Q => match y with
  | .non => match x with
    | .non => Q (.bl (!neg)) H
    | _ => Q (.bl neg) H
  | _ => False
theorem f_isN : OpR X (compareOp .Is) (fIsN false) := op_imp op_isN fun x y H Q q => by
  unfold fIsN at q
  cases y <;> first | exact q.elim | skip
  refine ⟨rfl, ?_⟩
  cases x <;> exact q
theorem f_notN : OpR X (compareOp .IsNot) (fIsN true) := op_imp op_notN fun x y H Q q => by
  unfold fIsN at q
  cases y <;> first | exact q.elim | skip
  refine ⟨rfl, ?_⟩
  cases x <;> exact q
theorem vals_at : ∀ {xs : List V} {us : List Value}, xs.length = us.length → (∀ (i : Nat) x u, xs[i]? = some x → us[i]? = some u → RelV x u) → Vals xs us
  | [], [], _, _ => .nil
  | [], _ :: _, h, _ => by cases h
  | _ :: _, [], h, _ => by cases h
  | x :: xs, u :: us, h, k => .cons (k 0 x u rfl rfl) (vals_at (Nat.succ.inj h) fun i y z e1 e2 => k (i + 1) y z e1 e2)
structure KTab (K : PySem.W.Frag) (w : World) (d : Addr) (kvs : List (Str × V)) : Prop where
  ex : ∃ es n, KDict K w d es n ∧ ∀ z : Str, ∃ r, PySem.W.nsIn K d z = some r ∧ RelO (kvs.lookup z) r
def fInK (d : Addr) (kvs : List (Str × V)) : R2 := fun x y H Q => y = .ref d ∧ match x with
  | .str z => Q (.bl (kvs.lookup z).isSome) H
  | _ => False
theorem f_inK {d : Addr} {kvs : List (Str × V)} (T : KTab X.K X.w d kvs) : OpR X (compareOp .In) (fInK d kvs) := by
  obtain ⟨es, n, D, f⟩ := T.ex
  refine op_imp (op_in_kd D) fun x y H Q q => ?_
  obtain ⟨rfl, q⟩ := q
  cases x <;> first | exact q.elim | skip
  rename_i z
  obtain ⟨r, e, rel⟩ := f z
  refine ⟨z, r, rfl, rfl, e, ?_⟩
  have : r.isSome = (kvs.lookup z).isSome := by
    cases h : kvs.lookup z with
    | none => rw [h] at rel; cases r with
      | none => rfl
      | some u => exact rel.elim
    | some v => rw [h] at rel; cases r with
      | none => exact rel.elim
      | some u => rfl
  rw [this]
  exact q
end
section
variable {X : Cx} {e : Expr} {te : TE} {pos : Pos}
theorem pa_imp {es : List Expr} {t t' : TA} (h : PA X es t) (w : ∀ σ H Q, t' σ H Q → t σ H Q) : PA X es t' := ⟨fun pos pins s σ H Q I q => h.run pos pins s σ H Q I (w σ H Q q)⟩
end
/-- what stands at the places idx -/
def pick {α : Type} (idx : List Nat) (xs : List α) : List α := idx.filterMap fun i => xs[i]?
theorem vals_nth : ∀ {xs : List V} {us : List Value}, Vals xs us → ∀ i : Nat, (xs[i]? = none ∧ us[i]? = none) ∨ ∃ x u, xs[i]? = some x ∧ us[i]? = some u ∧ RelV x u
  | [], [], .nil, i => .inl ⟨rfl, rfl⟩
  | x :: xs, u :: us, .cons a r, 0 => .inr ⟨x, u, rfl, rfl, a⟩
  | x :: xs, u :: us, .cons a r, i + 1 => vals_nth r i
theorem vals_pick : ∀ (idx : List Nat) {xs : List V} {us : List Value}, Vals xs us → Vals (pick idx xs) (pick idx us)
  | [], _, _, _ => .nil
  | i :: idx, xs, us, r => by
    have ih := vals_pick idx r
    unfold pick at ih ⊢
    rcases vals_nth r i with ⟨a, b⟩ | ⟨x, u, a, b, c⟩
    · rw [List.filterMap_cons_none a, List.filterMap_cons_none b]
      exact ih
    · rw [List.filterMap_cons_some a, List.filterMap_cons_some b]
      exact .cons c ih
structure InitK (K : PySem.W.Frag) (C : Addr) (qual : Str) (st : Stmt) (kws : List (Str × V)) : Prop where
  ex : ∃ f fd, FunD K "__init__" qual (defArgs st) (defBody st) (defScope st) [] kws f fd ∧ Mk K C f
structure KMaker (P : Program) (w : World) (K : PySem.W.Frag) (mg : Str → Option Value) (base : Heap) (k : Nat) (x : Str) (C : Addr) (qual : Str) (st : Stmt) (kws : List (Str × V)) (ps : List Str) (sp : Sp) : Prop where
  ex : ∃ f fd, FunD K "__init__" qual (defArgs st) (defBody st) (defScope st) [] kws f fd ∧ Mk K C f ∧ FnOk P w K mg base (L2.CX P w) k f fd ps sp
  g : mg x = some (.ref C)
theorem kmaker_of {P : Program} {w : World} {K : PySem.W.Frag} {mg : Str → Option Value} {base : Heap} {x qual : Str} {C : Addr} {st : Stmt} {kws : List (Str × V)} {N ps : List Str} {k : Nat} {sp : Sp} (g : mg x = some (.ref C)) (F : InitK K C qual st kws) (S : FnScope N ps (defScope st))
    (len : ∀ vs H Q E, sp vs H Q E → vs.length = ps.length)
    (hbody : ∀ (f : Addr) (cdv : Value) (A : Around) (outer : List Env) (s : Shared) (H : Hp) (vs : List V) (Q : VK) (E : XK), Room k (cxOf (L2.CX P w) P w K mg base N qual (defScope st) f cdv A outer s H E).A →
      Takes (cxOf (L2.CX P w) P w K mg base N qual (defScope st) f cdv A outer s H E) (fun cls d _ H => E cls d H) →
      PassesOwn (model P w) (cxOf (L2.CX P w) P w K mg base N qual (defScope st) f cdv A outer s H E).A (cxOf (L2.CX P w) P w K mg base N qual (defScope st) f cdv A outer s H E).env (cxOf (L2.CX P w) P w K mg base N qual (defScope st) f cdv A outer s H E).xe → sp vs H Q E →
      ∃ t, PSs (cxOf (L2.CX P w) P w K mg base N qual (defScope st) f cdv A outer s H E) (defBody st) t ∧ t { nx := fun _ H' => Q .non H', rt := Q } (start N vs) H) :
    KMaker P w K mg base (k + 1) x C qual st kws ps sp := by
  obtain ⟨f, fd, F, M⟩ := F.ex
  exact ⟨⟨f, fd, F, M, F.ok S len fun cdv A outer s H vs Q E hr h => hbody f cdv A outer s H vs Q E hr (takes_of rfl rfl rfl rfl) (passes_of rfl) h⟩, g⟩
section
variable {X : Cx} {W : WX} {j k : Nat} {C : Addr} {x qual : Str} {st : Stmt} {kws : List (Str × V)} {ps ks : List Str} {sp : Sp} {p pos : Pos} {kwe : List Keyword} {t : TA}
/-- what a class does that is called: a new object, then its __init__ (promise sp) -/
def MadeBy (C : Addr) (sp : Sp) (gV : List V → List V) (W : WX) (σ : L2.St) (zs : List V) (H : Hp) (Q : VK) : Prop :=
  ∀ p dx H3, H p = none → Same H H3 → H3 p = some (.ins C dx []) → sp (gV (.ref p :: zs)) H3 (fun v H4 => v = .non ∧ Q (.ref p) H4) (fun cls d H' => W cls d σ H')
theorem run_made {pins : List (Addr × Obj)} {σ : L2.St} {H : Hp} {s : Shared} {Q : VK} {f : Addr} {fd : FuncData} {us ws : List Value} {gV : List V → List V} {zs : List V} {E : XK} {all : List Value} (M : Mk X.K C f) (F : FnOk X.prog X.w X.K X.mg X.base (L2.CX X.prog X.w) k f fd ps sp) (hr : Room (k + 1) X.A)
    (hb : ∀ s' : Shared, X.K.In s'.heap → BindsTo s' fd ⟨.ref (s.heap.objs.size + 1) :: us, ks.zip ws⟩ (ps.zip all)) (hall : L2.Vals (gV (.ref (s.heap.objs.size + 1) :: zs)) all) (tk : PassesAt (L2.CX X.prog X.w) X σ E) (J : Inv X pins σ H s)
    (h : ∀ a b, H a = none → H b = none → b ≠ a → sp (gV (.ref a :: zs)) (upd (upd H b (.own a)) a (.ins C b [])) (fun v H2 => v = .non ∧ Q (.ref a) H2) E) :
    wpAny (model X.prog X.w) X.A (call (.ref C) us (ks.zip ws)) (EP X pins σ Q) X.xe s := by
  have said := h (s.heap.objs.size + 1) s.heap.objs.size (J.hok.fresh (Nat.le_succ _)) (J.hok.fresh (Nat.le_refl _)) (Nat.ne_of_lt (Nat.lt_succ_self _))
  have J2 := Inv.made (C := C) J
  have ran := F.run _ X.stack _ _ ⟨Value.ref (s.heap.objs.size + 1) :: us, ks.zip ws⟩ all _ _ E (hr.make C us (ks.zip ws)) (J2.env0.make C us (ks.zip ws)) (hb _ J2.kIn) hall said
  refine wpAny_call (make_map (f := f) J.kIn M.makes M.init (beq_iff_eq.mp M.fn) (codeAny_mono ran fun out s' got => ?_))
  match out, got with
  | .error e, got => exact tk pins _ _ e s' J2 got
  | .ok (.ret u), got =>
    obtain ⟨v, H', J3, rv, ev, q3⟩ := J2.after got
    subst ev
    exact ⟨rv, V.ref (s.heap.objs.size + 1), H', J3, rfl, q3⟩
  | .ok .next, got => exact False.elim got
  | .ok .brk, got => exact False.elim got
  | .ok .cont, got => exact False.elim got
theorem MadeBy.go {C : Addr} {sp : Sp} {gV : List V → List V} {W : WX} {σ : L2.St} {zs : List V} {H : Hp} {Q : VK} (h : MadeBy C sp gV W σ zs H Q) : ∀ a b, H a = none → H b = none → b ≠ a → sp (gV (.ref a :: zs)) (upd (upd H b (.own a)) a (.ins C b [])) (fun v H2 => v = .non ∧ Q (.ref a) H2) (WE W σ) :=
  fun a b na nb ne => h a b _ na (Same.but (Same.new nb) na But.upd) upd_same
/-- x(k = v, ..): ks the written names, ms the lacking ones; idx: where each parameter's value stands in self, the lacking ones, the written ones -/
theorem fc_make {idx : List Nat} {ms : List (Str × V)} (c : KMaker X.prog X.w X.K X.mg X.base k x C qual st kws ps sp) (hr : Room j X.A) (hj : k + 1 ≤ j) (hg : Gl X x) (tk : Takes X W) (hkw : PK X kwe t) (hk : kws ≠ []) (hms : ∀ q ∈ ms, q ∈ kws)
    (h : ∀ (D : Addr) (doc pm : Value) (an : Option Addr) (cdv ct : Value) (us mv ws : List Value), us.length = 1 → mv.length = ms.length → ws.length = ks.length →
      KwChain D ((ms.map (·.1)).zip mv) (bindArgs (PySem.W.fnOf "__init__" qual (defArgs st) (defBody st) (defScope st) .none (.ref D) doc pm an cdv ct) ⟨us, ks.zip ws⟩) (ps.zip (pick idx (us ++ (mv ++ ws)))))
    (hall : (backToKw pos (keywordEach kwe X.env)).all (·.1.isSome) = true := by rfl) (hks : (backToKw pos (keywordEach kwe X.env)).filterMap (·.1) = ks := by rfl) (hdb : (x == ("__debug__" : Str)) = false := by decide)
    (hpl : ((backTo pos (starEach [] X.env)).any (·.1) || (backToKw pos (keywordEach kwe X.env)).any (·.1.isNone)) = false := by rfl) :
    PE X (.Call (.Name x p) [] kwe pos) (fun σ H Q => t σ H fun zs H2 => zs.length = ks.length ∧ MadeBy C sp (fun l => match l with
      | a :: zs => pick idx ([a] ++ (ms.map (·.2) ++ zs))
      | [] => []) W σ zs H2 Q) := by
  obtain ⟨f, fd, F, M, O⟩ := c.ex
  obtain ⟨mv, B⟩ := F.kbinds0 (ps := ps) 1 ks ms (fun us mv ws => pick idx (us ++ (mv ++ ws))) hk hms (fun r1 r2 r3 => vals_pick idx (r1.append (r2.append r3))) h
  refine ⟨fun pins s σ H Q J q => ?_⟩
  refine wpAny_Call_Name_kw (ld_glob J hg c.g ?_ hdb)
  refine PySem.W.callWith_KW0 (h₀ := X.base) J.ok.mod.kin M.kp hall ?_ hpl
  refine thn (hkw.run pos pins s σ H _ J q) fun ws s2 ⟨zs, H2, J2, rz, l, q2⟩ => ⟨J2.kIn, ?_⟩
  rw [hks]
  have lw : ws.length = ks.length := by rw [← rz.length, l]
  exact run_made (us := []) (gV := fun l => match l with
      | a :: zs => pick idx ([a] ++ (ms.map (·.2) ++ zs))
      | [] => []) M O (hr.mono hj) (fun s' K => B.to s' [_] ws K rfl lw) (B.rel (.cons rfl .nil) rz) (passAt tk σ) J2 q2.go
end
section
variable {X : Cx} {W : WX} {j k : Nat} {C : Addr} {m x : Str} {ps : List Str} {sp : Sp} {pos apos p : Pos} {o : Expr} {kwe : List Keyword} {t : TA} {ta : TE}
/-- a method without defaults, as it stands -/
structure MKCallee (P : Program) (w : World) (K : PySem.W.Frag) (mg : Str → Option Value) (base : Heap) (k : Nat) (C : Addr) (m qual : Str) (st : Stmt) (ps : List Str) (sp : Sp) : Prop where
  ex : ∃ f fd, FnOk P w K mg base (L2.CX P w) k f fd ps sp ∧ Cls K C ∧ Meth K C m f ∧ Fun K m qual st f fd
theorem MKCallee.plain {P : Program} {w : World} {K : PySem.W.Frag} {mg : Str → Option Value} {base : Heap} {C : Addr} {m qual : Str} {st : Stmt} {ps : List Str} {k : Nat} {sp : Sp} (c : MKCallee P w K mg base k C m qual st ps sp)
    (hb : ∀ (kV doc pm : Value) (an : Option Addr) (cdv ct : Value) (us : List Value), us.length = ps.length → bindArgs (PySem.W.fnOf m qual (defArgs st) (defBody st) (defScope st) .none kV doc pm an cdv ct) ⟨us, []⟩ = pure (ps.zip us)) : MCallee P w K mg base k C m ps sp := by
  obtain ⟨f, fd, O, cl, hm, F⟩ := c.ex
  exact ⟨f, fd, O, cl, hm, F.binds hb⟩
theorem code_fnK {CX : CXT} {f : Addr} {fd : FuncData} {E : L2.St → XK} {pins : List (Addr × Obj)} {σ : L2.St} {H : Hp} {s : Shared} {Q : VK} {us : List Value} {vs : List V} {args : Args} (F : FnOk X.prog X.w X.K X.mg X.base CX k f fd ps sp) (hr : Room k X.A) (hb : BindsTo s fd args (ps.zip us)) (hx : PassesAt CX X σ (E σ))
    (J : Inv X pins σ H s) (r : L2.Vals vs us) (h : sp vs H Q (E σ)) : wpAny (model X.prog X.w) X.A (call (.ref f) args.pos args.kw) (EP X pins σ Q) X.xe s := by
  refine wpAny_call (codeAny_mono (F.run X.A X.stack s H args us vs Q (E σ) hr J.env0 hb r h) fun out s' got => ?_)
  match out, got with
  | .error e, got => exact hx pins H s e s' J got
  | .ok (.ret u), got => exact J.after got
  | .ok .next, got => exact False.elim got
  | .ok .brk, got => exact False.elim got
  | .ok .cont, got => exact False.elim got
end
section
variable {X : Cx} {pos : Pos}
def upTT (p : TE × TE) : TE × TE := (upE p.1, upE p.2)
theorem tPairs_up : ∀ (trs : List (TE × TE)) {σ : L2.St} {H : Hp} {R Q : List (V × V) → Hp → Prop}, tPairs trs σ H R → (∀ ps H', R ps H' → Q ps H') → tPairs (trs.map upTT) σ H Q
  | [], σ, H, R, Q, h, w => w _ _ h
  | (tk, tv) :: r, σ, H, R, Q, h, w => ⟨_, h, fun x H1 h1 => ⟨_, h1, fun y H2 h2 => tPairs_up r h2 fun ps H' h3 => w _ _ h3⟩⟩
theorem fps_cons {k v : Expr} {ks : List (Option Expr)} {vs : List Expr} {tk tv : TE} {trs : List (TE × TE)} (hk : PE X k tk) (hv : PE X v tv) (hr : PPs X pos ks vs (trs.map upTT)) :
    PPs X pos (some k :: ks) (v :: vs) (((tk, tv) :: trs).map upTT) := pps_cons (pe_up hk) (pe_up hv) hr
theorem fps_nil : PPs X pos [] [] (([] : List (TE × TE)).map upTT) := pps_nil
def toKs : List (V × V) → Option (List (Key × V))
  | [] => some []
  | (.str k, v) :: r => match toKs r with
    | some kvs => some ((.inr k, v) :: kvs)
    | none => none
  | (.int k, v) :: r => match toKs r with
    | some kvs => some ((.inl k, v) :: kvs)
    | none => none
  | _ :: _ => none
theorem toKs_ok : ∀ {ps : List (V × V)} {kvs : List (Key × V)}, toKs ps = some kvs → ps = kvs.map fun kv => (kV kv.1, kv.2)
  | [], kvs, h => by cases h; rfl
  | (k, v) :: r, kvs, h => by
    cases k <;> unfold toKs at h <;> try cases h
    all_goals
      cases z : toKs r with
      | none => rw [z] at h; cases h
      | some k2 =>
        rw [z] at h
        cases h
        rw [List.map_cons, ← toKs_ok z]
        rfl
/-- {k: v, ..} -/
def fDisp (trs : List (TE × TE)) : TE := fun σ H Q => ∀ p H1, H p = none → Same H H1 → H1 p = some (.dK []) → tPairs trs σ H1 fun ps H2 => H2 p = some (.dK []) ∧ match toKs ps with
  | some kvs => kvs.length ≤ 15 ∧ ∀ H3, But p H2 H3 → H3 p = some (.dK (mergeK [] kvs)) → Q (.ref p) H3
  | none => False
theorem fe_disp {keys : List (Option Expr)} {values : List Expr} {trs : List (TE × TE)} (h : PPs X pos keys values (trs.map upTT)) (hall : keys.all (·.isSome) = true) (hl : keys.length = values.length) (h0 : keys ≠ [])
    (h15 : keys.length ≤ 15) : PE X (.Dict keys values pos) (fDisp trs) := pe_imp (pe_disp h hall hl h0 h15) fun σ H Q q p np => tPairs_up trs (q p _ np (Same.new np) upd_same) fun ps H2 ⟨e, r⟩ => by
  refine ⟨e, ?_⟩
  split at r
  · rename_i kvs ek
    exact ⟨kvs, toKs_ok ek, r.1, r.2 _ But.upd upd_same⟩
  · exact r.elim
theorem fe_d0 : PE X (.Dict [] [] pos) (fun _ H Q => Fresh H (.dK []) Q) := pe_imp pe_dnewK fun σ H Q q => q.go
end
theorem TyX.same {K : PySem.W.Frag} {H H' : Hp} {v : V} {t : Value} (s : Same H H') (h : TyX K H v t) : TyX K H' v t := by
  cases h with
  | base b =>
    cases b with
    | non => exact .base .non
    | bl b => exact .base (.bl b)
    | int b => exact .base (.int b)
    | str b => exact .base (.str b)
    | flt b => exact .base (.flt b)
    | lst e => exact .base (.lst (s _ _ e))
    | frz e => exact .base (.frz (s _ _ e))
    | tup e => exact .base (.tup (s _ _ e))
    | dK e => exact .base (.dK (s _ _ e))
    | dT e => exact .base (.dT (s _ _ e))
    | ins e cl ha hn htk => exact .base (.ins (s _ _ e) cl ha hn htk (by assumption))
  | byt b => exact .byt b
  | set e => exact .set (s _ _ e)
  | kList e c => exact .kList e c
  | kTuple e c => exact .kTuple e c
  | kDict e c => exact .kDict e c
  | fTuple e => exact .fTuple (s _ _ e)
  | fDict e => exact .fDict (s _ _ e)
theorem RefTy.same {K : PySem.W.Frag} {H H' : Hp} {a : Addr} {c : Value} {b : Bool} (s : Same H H') (h : RefTy K H a c b) : RefTy K H' a c b := by
  obtain ⟨t, x, k⟩ := h
  exact ⟨t, TyX.same s x, k⟩
/-- a thing of any kind that is handed in: no int, no text if it is an object -/
def AnyV (K : PySem.W.Frag) (H : Hp) : V → Prop
  | .non => True
  | .bl _ => True
  | .int _ => True
  | .str z => z.length ≤ 100000
  | .ref a => RefTy K H a (.type "int") false ∧ RefTy K H a (.type "str") false
  | _ => False
theorem AnyV.same {K : PySem.W.Frag} {H H' : Hp} {v : V} (s : Same H H') (h : AnyV K H v) : AnyV K H' v := by
  cases v with
  | ref a => exact ⟨RefTy.same s h.1, RefTy.same s h.2⟩
  | _ => exact h
theorem sz_le {n : Nat} (h : n ≤ 16000000) : n ≤ sizeLine := Nat.le_trans h (by rw [sizeLine_eq]; decide)
theorem sz_lt {n : Nat} (h : n ≤ 16000000) : n < sizeLine := Nat.lt_of_le_of_lt h (by rw [sizeLine_eq]; decide)
def fAll (K : PySem.W.Frag) (f : List Bool → Bool) : List V → Hp → VK → Prop := fun xs H Q => match xs with
  | [.ref a] => ∃ ys bs, SqL K H a ys ∧ ys = bs.map V.bl ∧ Q (.bl (f bs)) H
  | _ => False
theorem f_all {X : Cx} (hc : X.calm = true) : CallR X (.builtin "all") (fAll X.K fun bs => bs.all id) := call_imp (cr_all hc) fun xs H Q q => by
  unfold fAll at q
  split at q
  · obtain ⟨ys, bs, h, rfl, q⟩ := q
    exact ⟨_, bs, rfl, h, q⟩
  · exact q.elim
theorem f_any {X : Cx} (hc : X.calm = true) : CallR X (.builtin "any") (fAll X.K fun bs => bs.any id) := call_imp (cr_any hc) fun xs H Q q => by
  unfold fAll at q
  split at q
  · obtain ⟨ys, bs, h, rfl, q⟩ := q
    exact ⟨_, bs, rfl, h, q⟩
  · exact q.elim
theorem Same.no {H H' : Hp} {p : Addr} (s : Same H H') (n : H' p = none) : H p = none := by
  cases h : H p with
  | none => rfl
  | some o =>
    rw [s _ _ h] at n
    cases n
/-- a def of the module whose code object is known -/
structure FunC (K : PySem.W.Frag) (mg : Str → Option Value) (x : Str) (st : Stmt) (c : Addr) : Prop where
  ex : ∃ (f : Addr) (oc : Value) (od : Option Addr) (kV doc pm : Value) (an : Option Addr) (ct : Value) (osl : Array (Option Value)),
    K.lookup f = some ⟨oc, od, .func (PySem.W.fnOf x x (defArgs st) (defBody st) (defScope st) .none kV doc pm an (.ref c) ct), osl⟩ ∧ PySem.W.codeIn K (.ref c) x = true ∧ PySem.W.keepIn K (.ref f) = true ∧ mg x = some (.ref f)
end Fg
namespace Fg
open PySem PySem.Spec PyProof.Rows L2
inductive Sd where
  | L (a : Addr)
  | T (a : Addr)
  | S (z : Str)
def Sd.has (K : PySem.W.Frag) (H : Hp) : Sd → List V → Prop
  | .L a => SqL K H a
  | .T a => SqT K H a
  | .S z => fun xs => xs = signs z
def Sd.v : Sd → V
  | .L a => .ref a
  | .T a => .ref a
  | .S z => .str z
def Sd.src : Sd → List Addr
  | .L a => [a]
  | .T a => [a]
  | .S _ => []
/-- its iterator at i1, behind i turns -/
def Sd.itr (i1 : Addr) (t : Tok) (i : Nat) (h : Heap) : Sd → Prop
  | .L a => h.IsListIter i1 a i
  | .T a => h.IsTupleIter i1 a i
  | .S z => h.IsStrIter i1 (strIterType z) z t i
theorem Sd.itr_at {d : Sd} {i1 : Addr} {t : Tok} {i : Nat} {h h' : Heap} (s : d.itr i1 t i h) (k : ∀ o, h.get? i1 = some o → h'.get? i1 = some o) : d.itr i1 t i h' := by
  cases d with
  | L a => exact Heap.IsListIter.at s k
  | T a => exact Heap.IsTupleIter.at s k
  | S z => obtain ⟨o, e, q⟩ := s; exact ⟨o, k o e, q⟩
theorem Sd.itr_ob {d : Sd} {i1 : Addr} {t : Tok} {i : Nat} {h : Heap} (s : d.itr i1 t i h) : ∃ o, h.get? i1 = some o ∧ ∀ v, o.data ≠ .cell v := by
  cases d with
  | L a => obtain ⟨o, e, _, q⟩ := s; exact ⟨o, e, fun v z => by rw [q] at z; cases z⟩
  | T a => obtain ⟨o, e, _, q⟩ := s; exact ⟨o, e, fun v z => by rw [q] at z; cases z⟩
  | S z => obtain ⟨o, e, _, q⟩ := s; exact ⟨o, e, fun v z => by rw [q] at z; cases z⟩
section
variable {X : Cx} {pins : List (Addr × Obj)} {σ : L2.St} {H : Hp} {s : Shared}
theorem Sd.inj {d : Sd} (I : Inv X pins σ H s) {xs ys : List V} (h : d.has X.K H xs) (h' : d.has X.K H ys) : xs = ys := by
  cases d with
  | L a => exact I.list_inj h h'
  | T a => exact I.tuple_inj h h'
  | S z => exact (show xs = signs z from h).trans (show ys = signs z from h').symm
/-- what such an iterator draws, from here on -/
theorem Sd.draws {d : Sd} (I : Inv X pins σ H s) (hc : X.calm = true) {xs : List V} (h : d.has X.K H xs) (i1 : Addr) (t : Tok) (ne : ∀ a ∈ d.src, a ≠ i1) :
    ∃ (Pv : Nat → Value → Prop) (St : Nat → Heap → Prop), Draws X.prog X.w X.A.in1 i1 (i1 :: d.src) xs.length Pv St ∧ (∀ i h, St i h → d.itr i1 t i h) ∧ (∀ i, d.itr i1 t i s.heap → St i s.heap) ∧
      ∀ i u, Pv i u → ∃ x, xs[i]? = some x ∧ RelV x u := by
  have hh : X.A.in1.handled = none := I.ok.hd hc
  have fwd : ∀ {its : List Value} (r : Vals xs its) (i : Nat) (u : Value), its.toArray[i]? = some u → ∃ x, xs[i]? = some x ∧ RelV x u := fun {its} r i u e => by
    rcases vals_nth r i with ⟨_, b⟩ | ⟨x, w, a, b, c⟩
    · rw [List.getElem?_toArray, b] at e; cases e
    · rw [List.getElem?_toArray, b] at e
      cases e
      exact ⟨x, a, c⟩
  cases d with
  | L a =>
    obtain ⟨its, r, p, _⟩ := I.list h
    have D := Draws.list (prog := X.prog) (w := X.w) hh i1 a (ne a (List.mem_singleton.mpr rfl)) its.toArray
    rw [show its.toArray.size = xs.length by rw [List.size_toArray, r.length]] at D
    exact ⟨_, _, D, fun i h q => q.1, fun i q => ⟨q, p.isList⟩, fun i u e => fwd r i u e⟩
  | T a =>
    obtain ⟨its, r, p, _⟩ := I.tuple h
    have D := Draws.tuple (prog := X.prog) (w := X.w) hh i1 a (ne a (List.mem_singleton.mpr rfl)) its.toArray
    rw [show its.toArray.size = xs.length by rw [List.size_toArray, r.length]] at D
    exact ⟨_, _, D, fun i h q => q.1, fun i q => ⟨q, p⟩, fun i u e => fwd r i u e⟩
  | S z =>
    have D := Draws.text (prog := X.prog) (w := X.w) hh i1 z t
    have ex : xs = signs z := h
    rw [show z.cps.size = xs.length by rw [ex]; simp [signs]] at D
    refine ⟨_, _, D, fun i h q => q, fun i q => q, fun i u e => ?_⟩
    obtain ⟨c, tk, ec, rfl⟩ := e
    refine ⟨.str ⟨#[c]⟩, ?_, tk, rfl⟩
    rw [ex]
    unfold signs
    rw [List.getElem?_map, Array.getElem?_toList, ec]
    rfl
end
/-- both as they stand at each turn, the items in new pairs -/
def ItM (K : PySem.W.Frag) (d1 d2 : Sd) : It :=
  ⟨fun i H => ∃ xs ys : List V, d1.has K H xs ∧ d2.has K H ys ∧ i < xs.length ∧ xs.length = ys.length,
    fun i H v H' => ∃ T x y, v = .ref T ∧ H T = none ∧ H' = upd H T (.tup [x, y]) ∧ (∀ xs, d1.has K H xs → xs[i]? = some x) ∧ ∀ ys, d2.has K H ys → ys[i]? = some y,
    fun i H => ∃ xs ys : List V, d1.has K H xs ∧ d2.has K H ys ∧ i = xs.length ∧ xs.length = ys.length⟩
structure Apt (z TI TO i1 i2 : Addr) (d1 d2 : Sd) : Prop where
  TIz : TI ≠ z
  TOz : TO ≠ z
  TITO : TI ≠ TO
  TIi1 : TI ≠ i1
  TIi2 : TI ≠ i2
  zi1 : z ≠ i1
  zi2 : z ≠ i2
  TOi1 : TO ≠ i1
  TOi2 : TO ≠ i2
  i12 : i1 ≠ i2
  s1 : ∀ a ∈ d1.src, a ≠ z ∧ a ≠ TO ∧ a ≠ i1 ∧ a ≠ i2
  s2 : ∀ a ∈ d2.src, a ≠ z ∧ a ≠ TO ∧ a ≠ i1 ∧ a ≠ i2
theorem Apt.sep {z TI TO i1 i2 : Addr} {d1 d2 : Sd} (D : Apt z TI TO i1 i2 d1 d2) : ZipSep2 z TI TO i1 i2 (i1 :: d1.src) (i2 :: d2.src) where
  TIz := D.TIz
  TOz := D.TOz
  TITO := D.TITO
  TIi1 := D.TIi1
  mem1 := List.mem_cons_self ..
  zf1 := fun h => (List.mem_cons.mp h).elim D.zi1 fun h => (D.s1 z h).1 rfl
  Tf1 := fun h => (List.mem_cons.mp h).elim D.TOi1 fun h => (D.s1 TO h).2.1 rfl
  TIi2 := D.TIi2
  mem2 := List.mem_cons_self ..
  zf2 := fun h => (List.mem_cons.mp h).elim D.zi2 fun h => (D.s2 z h).1 rfl
  Tf2 := fun h => (List.mem_cons.mp h).elim D.TOi2 fun h => (D.s2 TO h).2.1 rfl
  sep1_2 := fun h => (List.mem_cons.mp h).elim D.i12 fun h => (D.s2 i1 h).2.2.1 rfl
  sep2_1 := fun h => (List.mem_cons.mp h).elim (fun e => D.i12 e.symm) fun h => (D.s1 i2 h).2.2.2 rfl
theorem turn_zipM {P : Program} {w : World} {K : PySem.W.Frag} {elts : List Expr} {kk : Nat} {tpos : Pos} {d1 d2 : Sd} {z TI TO i1 i2 : Addr} {t1 t2 : Tok} (D : Apt z TI TO i1 i2 d1 d2) :
    Turn P w K (.Tuple elts kk tpos) (ItM K d1 d2) [z, TI, TO, i1, i2] z (fun i h => IsZip h z TI TO .none ∧ IsTupOf2 h TI (.ref i1) (.ref i2) ∧ (∃ a1 a2, IsTupOf2 h TO a1 a2) ∧ d1.itr i1 t1 i h ∧ d2.itr i2 t2 i h) where
  mem := by simp
  obj := fun i h st c hc => by
    obtain ⟨hz, hTI, ⟨x, y, hTO⟩, h1, h2⟩ := st
    simp only [List.mem_cons, List.not_mem_nil, or_false] at hc
    rcases hc with rfl | rfl | rfl | rfl | rfl
    · exact ⟨_, hz, fun v q => nomatch q⟩
    · exact ⟨_, hTI, fun v q => nomatch q⟩
    · exact ⟨_, hTO, fun v q => nomatch q⟩
    · exact Sd.itr_ob h1
    · exact Sd.itr_ob h2
  keep := fun i h h' st k => by
    obtain ⟨hz, hTI, ⟨x, y, hTO⟩, h1, h2⟩ := st
    exact ⟨k z (by simp) _ hz, k TI (by simp) _ hTI, ⟨x, y, k TO (by simp) _ hTO⟩, Sd.itr_at h1 fun o q => k i1 (by simp) o q, Sd.itr_at h2 fun o q => k i2 (by simp) o q⟩
  item := by
    intro X hP hw hK hc i pins s σ H E I hf st hg
    subst hP hw hK
    obtain ⟨hz, hTI, hTO, h1, h2⟩ := st
    obtain ⟨xs, ys, q1, q2, hi, hl⟩ := hg
    obtain ⟨P1, S1, D1, f1, g1, r1⟩ := Sd.draws I hc q1 i1 t1 fun a ha => (D.s1 a ha).2.2.1
    obtain ⟨P2, S2, D2, f2, g2, r2⟩ := Sd.draws I hc q2 i2 t2 fun a ha => (D.s2 a ha).2.2.2
    have G := GoesN.zip2 (elts := elts) (x1 := kk) (pos := tpos) D.sep D1 D2
    refine G.goes i s _ E (by rw [← hl, Nat.min_self]; exact hi) ⟨hz, hTI, hTO, g1 i h1, g2 i h2⟩ fun v h' tk hY st' hk htk => ?_
    obtain ⟨T, x, y, rfl, hT, p1, p2, tup⟩ := hY
    obtain ⟨x', ex, rx⟩ := r1 i x p1
    obtain ⟨y', ey, ry⟩ := r2 i y p2
    have nT : H T = none := I.hok.fresh hT
    have new : ObjOk X.prog X.w (upd H T (.tup [x', y'])) h' T (.tup [x', y']) := ⟨by show 2 ≤ sizeLine; decide, [x, y], .cons rx (.cons ry .nil), tup⟩
    have sub : ∀ b ∈ [z, TO, i1, i2], b ∈ [z, TI, TO, i1, i2] := fun b hb => by
      simp only [List.mem_cons, List.not_mem_nil, or_false] at hb ⊢
      rcases hb with rfl | rfl | rfl | rfl
      · exact .inl rfl
      · exact .inr (.inr (.inl rfl))
      · exact .inr (.inr (.inr (.inl rfl)))
      · exact .inr (.inr (.inr (.inr rfl)))
    refine ⟨.ref T, upd H T (.tup [x', y']), I.turnedNew (t' := tk) (ch := [z, TO, i1, i2]) (fun b o hb e => hk b o hb e) (fun b hb => hf b (sub b hb)) hT new, rfl, ⟨T, x', y', rfl, nT, rfl, fun l hl => by rw [Sd.inj I hl q1]; exact ex, fun l hl => by rw [Sd.inj I hl q2]; exact ey⟩, ?_, fun b hb => ?_⟩
    · obtain ⟨a1, a2, a3, a4, a5⟩ := st'
      exact ⟨a1, a2, a3, f1 _ _ a4, f2 _ _ a5⟩
    · rw [upd_ne fun e => ?_]
      · exact (hf b hb).1
      · obtain ⟨o, ho, _⟩ : ∃ o, s.heap.get? b = some o ∧ True := by
          simp only [List.mem_cons, List.not_mem_nil, or_false] at hb
          rcases hb with rfl | rfl | rfl | rfl | rfl
          · exact ⟨_, hz, trivial⟩
          · exact ⟨_, hTI, trivial⟩
          · obtain ⟨_, _, q⟩ := hTO; exact ⟨_, q, trivial⟩
          · obtain ⟨o, q, _⟩ := Sd.itr_ob h1; exact ⟨o, q, trivial⟩
          · obtain ⟨o, q, _⟩ := Sd.itr_ob h2; exact ⟨o, q, trivial⟩
        rw [e] at ho
        exact Nat.lt_irrefl _ (Nat.lt_of_lt_of_le (Heap.lt_size ho) hT)
  done := by
    intro X hP hw hK hc i pins s σ H E I hf st hg
    subst hP hw hK
    obtain ⟨hz, hTI, hTO, h1, h2⟩ := st
    obtain ⟨xs, ys, q1, q2, rfl, hl⟩ := hg
    obtain ⟨P1, S1, D1, f1, g1, r1⟩ := Sd.draws I hc q1 i1 t1 fun a ha => (D.s1 a ha).2.2.1
    obtain ⟨P2, S2, D2, f2, g2, r2⟩ := Sd.draws I hc q2 i2 t2 fun a ha => (D.s2 a ha).2.2.2
    have G := GoesN.zip2 (elts := elts) (x1 := kk) (pos := tpos) D.sep D1 D2
    rw [← hl, Nat.min_self] at G
    refine G.stops s _ E ⟨hz, hTI, hTO, g1 _ h1, g2 _ h2⟩ fun h' tk hk htk => I.turnedL (t' := tk) (ch := [z, TO, i1, i2]) (fun b o hb e => hk b o hb e) fun b hb => hf b (by
      simp only [List.mem_cons, List.not_mem_nil, or_false] at hb ⊢
      rcases hb with rfl | rfl | rfl | rfl
      · exact .inl rfl
      · exact .inr (.inr (.inl rfl))
      · exact .inr (.inr (.inr (.inl rfl)))
      · exact .inr (.inr (.inr (.inr rfl))))
  self := fun A i s Q E st h => wpAny_pyIter_zip st.1 h
theorem apt_new (N : Nat) (d1 d2 : Sd) (h1 : ∀ a ∈ d1.src, a < N) (h2 : ∀ a ∈ d2.src, a < N) : Apt (N + 4) (N + 2) (N + 3) N (N + 1) d1 d2 where
  TIz := show (N + 2 : Nat) ≠ N + 4 by omega
  TOz := show (N + 3 : Nat) ≠ N + 4 by omega
  TITO := show (N + 2 : Nat) ≠ N + 3 by omega
  TIi1 := show (N + 2 : Nat) ≠ N by omega
  TIi2 := show (N + 2 : Nat) ≠ N + 1 by omega
  zi1 := show (N + 4 : Nat) ≠ N by omega
  zi2 := show (N + 4 : Nat) ≠ N + 1 by omega
  TOi1 := show (N + 3 : Nat) ≠ N by omega
  TOi2 := show (N + 3 : Nat) ≠ N + 1 by omega
  i12 := show (N : Nat) ≠ N + 1 by omega
  s1 := fun a ha => by
    have q : (show Nat from a) < N := h1 a ha
    exact ⟨fun e => by rw [show (show Nat from a) = N + 4 from e] at q; omega, fun e => by rw [show (show Nat from a) = N + 3 from e] at q; omega, fun e => by rw [show (show Nat from a) = N from e] at q; omega, fun e => by rw [show (show Nat from a) = N + 1 from e] at q; omega⟩
  s2 := fun a ha => by
    have q : (show Nat from a) < N := h2 a ha
    exact ⟨fun e => by rw [show (show Nat from a) = N + 4 from e] at q; omega, fun e => by rw [show (show Nat from a) = N + 3 from e] at q; omega, fun e => by rw [show (show Nat from a) = N from e] at q; omega, fun e => by rw [show (show Nat from a) = N + 1 from e] at q; omega⟩
section
variable {X : Cx} {pins : List (Addr × Obj)} {σ : L2.St} {H : Hp} {s : Shared}
/-- how iter of such a side begins -/
theorem Sd.begins {d : Sd} (I : Inv X pins σ H s) {xs : List V} (h : d.has X.K H xs) {u : Value} (r : RelV d.v u) : ∃ (t : Tok) (o : Obj) (Hq : Heap → Prop), Begins u o Hq ∧ Hq s.heap ∧ (∀ a ∈ d.src, a < s.heap.objs.size) ∧ ∀ h' i1, h'.get? i1 = some o → d.itr i1 t 0 h' := by
  cases d with
  | L a =>
    obtain ⟨its, rv, p, _⟩ := I.list h
    cases r
    refine ⟨0, _, _, begins_list a its.toArray, p.isList, fun b hb => ?_, fun h' i1 e => ⟨_, e, rfl, rfl⟩⟩
    rw [List.mem_singleton.mp hb]
    exact p.lt
  | T a =>
    obtain ⟨its, rv, p, _⟩ := I.tuple h
    cases r
    refine ⟨0, _, _, begins_tuple a its.toArray, p, fun b hb => ?_, fun h' i1 e => ⟨_, e, rfl, rfl⟩⟩
    rw [List.mem_singleton.mp hb]
    obtain ⟨o, ho, _⟩ := p
    exact Heap.lt_size ho
  | S z =>
    obtain ⟨t, rfl⟩ := r
    exact ⟨t, _, _, begins_text z t, trivial, fun b hb => absurd hb List.not_mem_nil, fun h' i1 e => ⟨_, e, rfl, rfl⟩⟩
end
def iZipM (K : PySem.W.Frag) (ta : TA) : TI := fun σ H R => ta σ H fun vs H1 => ∃ (d1 d2 : Sd) (xs ys : List V), vs = [d1.v, d2.v] ∧ d1.has K H1 xs ∧ d2.has K H1 ys ∧ xs.length = ys.length ∧ R (ItM K d1 d2) H1
theorem pi_zipM {X : Cx} {e e2 : Expr} {ta : TA} {p pos tpos : Pos} {elts : List Expr} {kk : Nat} (hg : Gl X "zip") (hm : X.mg "zip" = none) (ha : PA X [e, e2] ta)
    (hs : starEach [e, e2] X.env = (false, eval e X.env) :: starEach [e2] X.env := by rfl) (hpl : (backTo pos (starEach [e2] X.env)).any (·.1) = false := by rfl) :
    PI X (.Tuple elts kk tpos) (.Call (.Name "zip" p) [e, e2] [] pos) (iZipM X.K ta) := by
  refine ⟨fun pins s σ H R I h => Call_ (ld_blt I hg hm PyProof.Rows.boot_zip (PyProof.Rows.callWith_type1 (thn (ha.run pos pins s σ H _ I h) fun us s1 ⟨vs, H1, I1, r1, q1⟩ => ?_) hs hpl))⟩
  obtain ⟨d1, d2, xs, ys, rfl, h1, h2, hl, q⟩ := q1
  cases r1 with
  | cons r rr =>
    cases rr with
    | cons r' rr =>
      cases rr
      obtain ⟨t1, o1, Q1, B1, b1, l1, i1⟩ := Sd.begins I1 h1 r
      obtain ⟨t2, o2, Q2, B2, b2, l2, i2⟩ := Sd.begins I1 h2 r'
      refine zip_begins2 B1 B2 b1 b2 fun h' hz hTI hTO g1 g2 hsz hk => wpAny_pyIter_zip hz ?_
      have I2 : Inv X pins σ H1 { s1 with heap := h' } := I1.kept (t' := s1.toks) hk
      refine ⟨s1.heap.objs.size + 4, [s1.heap.objs.size + 4, s1.heap.objs.size + 2, s1.heap.objs.size + 3, s1.heap.objs.size, s1.heap.objs.size + 1], _, ItM X.K d1 d2, H1, rfl, I2, turn_zipM (t1 := t1) (t2 := t2) (apt_new _ d1 d2 l1 l2), ⟨hz, hTI, ⟨_, _, hTO⟩, i1 _ _ g1, i2 _ _ g2⟩, fun c hc => ?_, q⟩
      have hle : s1.heap.objs.size ≤ c := by
        simp only [List.mem_cons, List.not_mem_nil, or_false] at hc
        rcases hc with e | e | e | e | e <;> rw [e]
        · exact Nat.le_add_right _ _
        · exact Nat.le_add_right _ _
        · exact Nat.le_add_right _ _
        · exact Nat.le_refl _
        · exact Nat.le_add_right _ _
      exact I1.fpOk hle (I1.hok.fresh hle)
end Fg
namespace L2
open PySem PySem.Spec PyProof.Rows
end L2
namespace Fg
open PySem PySem.Spec PyProof.Rows L2
/-- C.m is a staticmethod: its record at p, its def at g -/
structure SMet (K : PySem.W.Frag) (C : Addr) (m : Str) (p g : Addr) : Prop where
  at_ : PySem.W.findCls K (.ref C) (.type "type") m = some (.get (.builtin "staticmethod.__get__") (.ref p) .none (.ref C))
  rc : ∃ rest, PySem.W.recIn K p "staticmethod" = some (.ref g :: rest)
def tSMeth (C : Addr) (sp : Sp) (E : L2.St → XK) (ta : TE) (t : TA) : TE := fun σ H Q => ta σ H fun x H1 => x = .ref C ∧ t σ H1 fun vs H2 => sp vs H2 Q (E σ)
section
variable {X : Cx} {CX : CXT} {k : Nat} {C p g : Addr} {sp : Sp} {E : L2.St → XK} {o e : Expr} {es : List Expr} {m : Str} {pos apos : Pos} {ta : TE} {t : TA} {pl : Sem Bool} {fd : FuncData} {ps : List Str}
theorem getsm_ok {pins : List (Addr × Obj)} {σ : L2.St} {H : Hp} {s : Shared} {A : Around} {Ev : Value → Shared → Prop} {Q : Value × List Value → Shared → Prop} (I : Inv X pins σ H s) (r : ClX.CRead X.K C (.type "type")) (c : SMet X.K C m p g)
    (h : ∀ s', Inv X pins σ H s' → Q (.ref g, []) s') : wpAny (model X.prog X.w) A (getMethod (.ref C) m pl) Q Ev s := by
  obtain ⟨rest, hp⟩ := c.rc
  refine PySem.W.method_cls I.kIn r.ga (PySem.W.cls_bind I.kIn r.rd c.at_ ?_)
  refine wpAny_call (PySem.W.sm_get (s := { s with toks := s.toks + 1 }) I.kIn hp (PySem.W.handed_on rfl ?_))
  exact h _ (I.tok _)
theorem pe_smeth (he : PE X o ta) (r : ClX.CRead X.K C (.type "type")) (c : SMet X.K C m p g) (F : FnOk X.prog X.w X.K X.mg X.base CX k g fd ps sp) (hr : Room k X.A) (hk : PySem.W.keepIn X.K (.ref g) = true) (hb : Binds X.K fd ps []) (hx : ∀ σ, PassesAt CX X σ (E σ)) (ha : PA X (e :: es) t)
    (hst : starEach (e :: es) X.env = (false, eval e X.env) :: starEach es X.env := by rfl) (hpl : (backTo pos (starEach es X.env)).any (·.1) = false := by rfl)
    (ht : eval (.Call (.Attribute o m apos) (e :: es) [] pos) X.env = (do
      let ov ← eval o X.env
      standAt apos.atName
      let (f, first) ← holding [ov] (getMethod ov m pl)
      callWith pos f first (backTo pos (starEach (e :: es) X.env)) (backToKw pos (keywordEach [] X.env))) := by rfl) :
    PE X (.Call (.Attribute o m apos) (e :: es) [] pos) (tSMeth C sp E ta t) := by
  refine ⟨fun pins s σ H Q I h => ?_⟩
  refine PySem.W.methodCall_KW (pl := pl) (thn (he.run pins s σ H _ I h) fun u s1 ⟨x, H1, I1, rx, ex, q⟩ => ?_) ht
  subst ex
  obtain rfl : u = Value.ref C := rx
  refine getsm_ok I1 r c fun s2 I2 => ?_
  refine PySem.W.callWith_K (h₀ := X.base) I2.ok.mod.kin hk (thn (ha.run pos pins s2 σ H1 _ I2 q) fun us s3 ⟨vs, H2, I3, rv, q2⟩ => ⟨I3.kIn, ?_⟩) hst hpl
  exact run_fnS F hr hb (hx σ) I3 rv q2
end
end Fg
namespace Fg
open PySem PySem.Spec PySem.Calls PyProof.Rows L2
section
variable {X : Cx} {k n : Nat} {C f : Addr} {fd : FuncData} {ps : List Str} {sp : Sp} {pins : List (Addr × Obj)} {σ : L2.St} {H : Hp} {s : Shared} {A : Around}
abbrev noE : XK := fun _ _ _ => False
/-- a def called further in, that raises nothing here -/
theorem run_in {Q : VK} {us : List Value} {vs : List V} (F : FnOk X.prog X.w X.K X.mg X.base (L2.CX X.prog X.w) k f fd ps sp) (hr : Room k A) (fr : A.frames = X.A.frames) (hb : Binds X.K fd ps []) (I : Inv X pins σ H s) (r : L2.Vals vs us) (h : sp vs H Q noE) :
    wpAny (model X.prog X.w) A (call (.ref f) us) (EP X pins σ Q) X.xe s := by
  have e0 : Env0 X.prog X.w X.K X.mg X.base A X.stack s H := by
    have e := I.env0
    exact ⟨by rw [fr]; exact e.frames, e.mod, e.bs, e.bsz, e.funs, e.frf, e.hok, e.bare⟩
  have hl := F.len _ _ _ _ h
  refine wpAny_call (codeAny_mono (F.run A X.stack s H ⟨us, []⟩ us vs Q noE hr e0 (by
    have := hb s us I.kIn (by rw [List.append_nil, ← r.length]; exact hl)
    simpa using this) r h) fun out s' got => ?_)
  match out, got with
  | .error e, got =>
    obtain ⟨_, _, _, _, _, _, _, _, _, _, _, _, z⟩ := got
    exact z.elim
  | .ok (.ret u), got => exact I.after got
  | .ok .next, got => exact False.elim got
  | .ok .brk, got => exact False.elim got
  | .ok .cont, got => exact False.elim got
/-- a != b by the == of the class -/
structure NeAt (K : PySem.W.Frag) (C : Addr) : Prop where
  ne : PySem.W.findIn K (.ref C) "__ne__" = some (some (.builtin "object.__ne__"))
  ob : PySem.W.mroIn K C (.type "object") = some true
theorem ifBound_B {M : Model} {E : Value → Shared → Prop} {K : PySem.W.Frag} {x : Addr} {ox : Obj} {od : Option Obj} {name : Str} {id : String} {args : List Value} {Q : Option Value → Shared → Prop} (X : K.In s.heap) (I : PySem.W.InstAt s.heap x ox C od) (hs : PySem.W.findIn K (.ref C) name = some (some (.builtin id)))
    (hb : ∀ self, bindSpecial (.builtin id) self = pure (.builtin id, [self])) (h : wpAny M A (call (.builtin id) (.ref x :: args)) (fun v => Q (some v)) E s) : wpAny M A (callSpecialIfBound? (.ref x) name args) Q E s := by
  simp only [callSpecialIfBound?, bindSpecialIfBound?]
  refine wpAny_holding (wpAny_bind (wpAny_bind (wpAny_bind (I.type.here ((PySem.W.looks_findIn X hs).here ?_)))))
  refine wpAny_bind (wpAny_askSetting (wpAny_ite ?_))
  have fin : wpAny M A (call (.builtin id) ([.ref x] ++ args) >>= fun v => pure (some v)) Q E s := wpAny_bind (wpAny_mono h (fun v s' h' => wpAny_pure h') fun _ _ h' => h')
  split
  · exact wpAny_bind ((PySem.W.Looks.of_pure (hb _)).here (wpAny_pure (by exact fin)))
  · exact wpAny_tryCatch (wpAny_bind ((PySem.W.Looks.of_pure (hb _)).here (wpAny_pure (by exact fin))))
/-- str(o) by an own __str__ -/
def fStrO (C : Addr) (sp : Sp) : List V → Hp → VK → Prop := fun xs H Q => match xs with
  | [.ref a] => (∃ dx fs, H a = some (.ins C dx fs)) ∧ sp [.ref a] H (fun v H' => match v with | .str z => Q (.str z) H' | _ => False) noE
  | _ => False
theorem f_strO (c : MCallee X.prog X.w X.K X.mg X.base k C "__str__" ps sp) (hr : Room n X.A) (hk : k + 2 ≤ n) : CallR X (.type "str") (fStrO C sp) := by
  obtain ⟨g, fd, F, cl, hm, hb⟩ := c.ex
  intro pins s σ H xs us Q I r hq
  unfold fStrO at hq
  split at hq
  · rename_i a
    obtain ⟨⟨dx, fs, ha⟩, q⟩ := hq
    rw [Vals.ref1 r]
    obtain ⟨mA, J, _⟩ := ins_get I.hok ha
    obtain ⟨od, J, _⟩ := J.look
    have r1 := hr.mono hk
    refine PySem.W.kso_call r1.in1.in1.units0 I.kIn J hm.at_ hm.fn ?_
    refine wpAny_mono (run_in (us := [.ref a]) F r1.in1.in1 rfl hb I (.cons (show RelV (.ref a) (.ref a) from rfl) .nil) q) (fun r s' z => ?_) fun _ _ e => e
    obtain ⟨v, H', I', rz, q'⟩ := z
    split at q'
    · rename_i z
      obtain ⟨t, rfl⟩ := rz
      exact ⟨.str z, H', I', ⟨t, rfl⟩, q'⟩
    · exact q'.elim
  · exact hq.elim
end
section
variable {X : Cx} {e : Expr} {te : TE} {p apos cpos pos p2 p3 p4 : Pos} {k k2 : Nat}
def evenI : List Nat := [0, 2, 4, 6, 8, 10, 12, 14]
def oddI : List Nat := [1, 3, 5, 7, 9, 11, 13, 15]
def tStep (K : PySem.W.Frag) (idx : List Nat) (te : TE) : TE := fun σ H Q => te σ H fun x H1 => match x with
  | .ref a => ∃ xs, SqL K H1 a xs ∧ xs.length = 16 ∧ Fresh H1 (.lst (pick idx xs)) Q
  | _ => False
theorem pick16 {α : Type} {xs : List α} (h : xs.length = 16) : ∃ a0 a1 a2 a3 a4 a5 a6 a7 a8 a9 a10 a11 a12 a13 a14 a15, xs = [a0, a1, a2, a3, a4, a5, a6, a7, a8, a9, a10, a11, a12, a13, a14, a15] := by
  match xs, h with
  | [a0, a1, a2, a3, a4, a5, a6, a7, a8, a9, a10, a11, a12, a13, a14, a15], _ => exact ⟨_, _, _, _, _, _, _, _, _, _, _, _, _, _, _, _, rfl⟩
theorem step_pick {its : List Value} (h : its.length = 16) : (slicePick its.toArray none none (some 2)).toList = pick evenI its ∧ (slicePick its.toArray (some 1) none (some 2)).toList = pick oddI its := by
  obtain ⟨a0, a1, a2, a3, a4, a5, a6, a7, a8, a9, a10, a11, a12, a13, a14, a15, rfl⟩ := pick16 h
  exact ⟨by kernel_rfl, by kernel_rfl⟩
theorem pe_step {lo : Option Expr} {wl : Option Int} {idx : List Nat} {tl : TO} (hlo : PO X lo tl) (ql : ∀ σ H, tl σ H (fun o H2 => o = wl ∧ H2 = H)) (hix : idx.length ≤ 100) (hidx : ∀ its : List Value, its.length = 16 → (slicePick its.toArray wl none (some 2)).toList = pick idx its) (he : PE X e te) :
    PE X (.Subscript e (.Slice lo none (some (.Constant (.int 2) k p2)) p3) pos) (tStep X.K idx te) := by
  refine ⟨fun pins s σ H Q I h => ?_⟩
  refine Subscript_ (thn (he.run pins s σ H _ I h) fun v s1 ⟨x, H1, I1, r1, q1⟩ => ?_)
  dsimp only at q1
  split at q1
  · rename_i a
    obtain ⟨xs, hx, hl, q⟩ := q1
    cases r1
    have hst : PO X (some (.Constant (.int 2) k p2)) (tPart (tC (.int 2))) := po_some pe_int
    refine wpAny_Slice (thn (hlo.run pins s1 σ H1 (fun o H2 => o = wl ∧ H2 = H1) I1 (ql σ H1)) fun vl s2 ⟨l, H2, I2, pl, el, e2⟩ => ?_)
    subst el e2
    refine thn (po_none.run pins s2 σ H2 (fun o H3 => o = none ∧ H3 = H2) I2 ⟨rfl, rfl⟩) fun vu s3 ⟨u, H3, I3, pu, eu, e3⟩ => ?_
    subst eu e3
    refine thn (hst.run pins s3 σ H3 (fun o H4 => o = some 2 ∧ H4 = H3) I3 ⟨2, rfl, rfl, rfl⟩) fun vs s4 ⟨o, H4, I4, ps, eo, e4⟩ => ?_
    subst eo e4
    have I5 : Inv X pins σ H4 { s4 with heap := s4.heap.push { cls := .type "slice", data := .fields #[vl, vu, vs] } } := I4.kept (t' := s4.toks) fun b ob q => Heap.get?_push_of_some _ q
    obtain ⟨its, r, ht, hz⟩ := I5.list hx
    have hlen := r.length
    have hl16 : its.length = 16 := by omega
    show wpAny (model X.prog X.w) X.A (subscriptTail e (.Slice lo none (some (.Constant (.int 2) k p2)) p3) (.ref a) (.ref s4.heap.objs.size)) (EP X pins σ Q) X.xe { s4 with heap := s4.heap.push { cls := .type "slice", data := .fields #[vl, vu, vs] } }
    refine tail_any (ops := [.ref a, .ref s4.heap.objs.size]) ht.isList.typeIs (PySem.slot_list_getitem.lookup) ?_ (by with_unfolding_all rfl)
    refine wpAny_getItem_list_slice ht.isList (Heap.IsSliceOf.new _ vl vu vs) pl pu ps (by decide) ?_ (by rw [List.size_toArray]; omega)
    have hp := hidx its hl16
    refine ⟨.ref _, _, I5.laid (t' := s4.toks) (o := .lst (pick idx xs)) (fun b ob q => Heap.get?_push_of_some _ q) (Nat.le_refl _) ?_, rfl, q.go _ (I5.hok.fresh (Nat.le_refl _))⟩
    refine ⟨?_, (slicePick its.toArray l none (some 2)).toList, 0, ?_, ?_⟩
    · exact Nat.le_trans (List.length_filterMap_le ..) (Nat.le_trans hix (by show 100 ≤ sizeLine; decide))
    · rw [hp]; exact vals_pick idx r
    · rw [Array.toArray_toList]
      exact Heap.get?_push_size _ rfl
  · exact q1.elim
theorem pe_even (he : PE X e te) : PE X (.Subscript e (.Slice none none (some (.Constant (.int 2) k p2)) p3) pos) (tStep X.K evenI te) := pe_step po_none (fun σ H => ⟨rfl, rfl⟩) (by decide) (fun its h => (step_pick h).1) he
theorem pe_odd (he : PE X e te) : PE X (.Subscript e (.Slice (some (.Constant (.int 1) k2 p4)) none (some (.Constant (.int 2) k p2)) p3) pos) (tStep X.K oddI te) := pe_step (po_some pe_int) (fun σ H => ⟨1, rfl, rfl, rfl⟩) (by decide) (fun its h => (step_pick h).2) he
def tListVals (te : TE) : TE := fun σ H Q => te σ H fun x H1 => match x with
  | .ref d => ∃ kvs : List (Key × V), H1 d = some (.dK kvs) ∧ Fresh H1 (.lst (kvs.map (·.2))) Q
  | _ => False
/-- list(e.values()) -/
theorem pe_listVals (hc : X.calm = true) (he : PE X e te) (hg : Gl X "list") (hm : X.mg "list" = none) (hv : bootBuiltins "list" = some (.type "list")) (hbase : attributeBase e "values" X.env (eval e X.env) = eval e X.env := by rfl) (hline : (apos.endLine == cpos.line) = true := by rfl)
    (hs : starEach [.Call (.Attribute e "values" apos) [] [] cpos] X.env = (false, eval (.Call (.Attribute e "values" apos) [] [] cpos) X.env) :: starEach [] X.env := by rfl) :
    PE X (.Call (.Name "list" p) [.Call (.Attribute e "values" apos) [] [] cpos] [] pos) (tListVals te) := by
  refine ⟨fun pins s σ H Q I hq => ?_⟩
  refine wpAny_Call_Name_kw (ld_blt I hg hm hv ?_)
  refine PyProof.Rows.callWith_type1 ?_ hs rfl
  rw [hs]
  show wpAny _ _ (spliced ((false, eval (.Call (.Attribute e "values" apos) [] [] cpos) X.env) :: backTo pos (starEach [] X.env))) _ _ s
  refine Calls.spliced_cons ?_
  refine wpAny_Call_method (T := "dict") (id := "dict.values") hbase rfl hline F.plainAttrs_dict F.slot_dict_values F.type_dict_values (thn (he.run pins s σ H _ I hq) fun u s1 ⟨x, H1, I1, rx, hq1⟩ => ?_)
  dsimp only at hq1
  split at hq1
  · rename_i d
    obtain ⟨kvs, hd, q⟩ := hq1
    obtain rfl : u = Value.ref d := rx
    obtain ⟨hz, hs0, vs, kv, hdo⟩ := I1.hok d _ hd
    obtain ⟨ep, hat⟩ := hdo.dictAt
    have lk : kvs.length = vs.length := Paired.length kv
    have I2 : Inv X pins σ H1 { s1 with heap := s1.heap.push { cls := .type "dict_values", data := .fields #[.ref d] } } := I1.kept (t' := s1.toks) fun b ob q => Heap.get?_push_of_some _ q
    refine ⟨hdo.typeIs, hdo.mapOf.noDict, ?_⟩
    show wpAny _ _ (callWith cpos (.builtin "dict.values") [.ref d] [] []) _ X.xe s1
    refine method_meetsIn F.slot_dict_values F.entry_dict_values rfl (PySem.evalArgs_none ⟨rfl, hdo.typeIs, F.args_dict_values_1 _, _, meets_dict_values (mixKind X.prog X.w) d hs0, ⟨vs, hdo⟩, ?_⟩)
    refine Calls.spliced_nil ?_
    refine PySem.W.kdl_call (PySem.W.kdl_values (knd := mixKind X.prog X.w) (kvs := vs) (ep := ep)) (I1.ok.hd hc) ⟨⟨_, Heap.get?_push_size _ rfl, rfl, rfl⟩, hat.push _⟩ (by omega) fun h' tk acc c hk hS hacc => ?_
    have rv : Vals (kvs.map (·.2)) acc.toList := by
      refine vals_at ?_ fun i x u hx hu => ?_
      · have e : acc.toList.length = acc.size := Array.length_toList ..
        rw [List.length_map, lk, e]
        exact hacc.1.symm
      · rw [Array.getElem?_toList] at hu
        obtain ⟨k, ek⟩ := hacc.2 i u hu
        rw [List.getElem?_map] at hx
        obtain ⟨kx, e1, e2⟩ := Option.map_eq_some_iff.mp hx
        obtain ⟨y, e3, r⟩ := LiI.paired_get kv e1
        rw [ek] at e3
        cases e3
        rw [← e2]
        exact r.2
    refine ⟨.ref _, _, I2.laid (t' := tk) (o := .lst (kvs.map (·.2))) hk (Nat.le_refl _) ⟨by rw [List.length_map]; omega, acc.toList, c, rv, ?_⟩, rfl, q.go _ (I2.hok.fresh (Nat.le_refl _))⟩
    rw [Array.toArray_toList]
    exact hS
  · exact hq1.elim
end
end Fg
namespace Fg
open PySem PySem.Spec PySem.Calls PyProof.Rows L2
inductive Pr3 (F : V → V → Bool → Prop) : List V → List V → List Bool → Prop
  | nl {ys : List V} : Pr3 F [] ys []
  | nr {xs : List V} : Pr3 F xs [] []
  | cons {x y : V} {b : Bool} {xs ys : List V} {bs : List Bool} : F x y b → Pr3 F xs ys bs → Pr3 F (x :: xs) (y :: ys) (b :: bs)
/-- x == y answers b -/
def EqB (K : PySem.W.Frag) (H : Hp) : Nat → V → V → Bool → Prop
  | 0 => fun x y b => flatV x = true ∧ flatV y = true ∧ b = eqV x y
  | n + 1 => fun x y b => (flatV x = true ∧ flatV y = true ∧ b = eqV x y) ∨ (∃ a, x = .ref a ∧ y = .ref a ∧ b = true) ∨
    (∃ a c xs ys, x = .ref a ∧ y = .ref c ∧ SqL K H a xs ∧ SqL K H c ys ∧ xs.length ≠ ys.length ∧ b = false) ∨
    (∃ a c xs ys bs, x = .ref a ∧ y = .ref c ∧ SqL K H a xs ∧ SqL K H c ys ∧ xs.length = ys.length ∧ Pr3 (EqB K H n) xs ys bs ∧ b = bs.all id) ∨
    (∃ a c xs ys bs, x = .ref a ∧ y = .ref c ∧ SqT K H a xs ∧ SqT K H c ys ∧ Pr3 (EqB K H n) xs ys bs ∧ b = (bs.all id && xs.length == ys.length))
theorem eqV_self {x : V} (h : flatV x = true) : eqV x x = true := by
  cases x <;> first | (cases h; done) | simp [eqV]
theorem pr3_at {F : V → V → Bool → Prop} {A : Around} {s : Shared} (ih : ∀ x y b v u, F x y b → RelV x v → RelV y u → SeqAt.EqAt A s v u b) {xs ys : List V} {bs : List Bool} (hp : Pr3 F xs ys bs) :
    ∀ {us ws : List Value}, L2.Vals xs us → L2.Vals ys ws → bs.length = min us.length ws.length ∧ ∀ j (h1 : j < us.length) (h2 : j < ws.length), SeqAt.EqAt A s us[j] ws[j] (bs.getD j false) := by
  induction hp with
  | nl =>
    intro us ws r1 _
    cases r1
    exact ⟨by simp, fun j h1 => absurd h1 (Nat.not_lt_zero j)⟩
  | nr =>
    intro us ws _ r2
    cases r2
    exact ⟨by simp, fun j _ h2 => absurd h2 (Nat.not_lt_zero j)⟩
  | cons f _ rest =>
    intro us ws r1 r2
    cases r1 with
    | cons p1 q1 =>
      cases r2 with
      | cons p2 q2 =>
        obtain ⟨hl, hr⟩ := rest q1 q2
        refine ⟨by simp only [List.length_cons]; omega, fun j h1 h2 => ?_⟩
        match j with
        | 0 => exact ih _ _ _ _ _ f p1 p2
        | j + 1 => exact hr j (Nat.lt_of_succ_lt_succ h1) (Nat.lt_of_succ_lt_succ h2)
theorem all_getD (bs : List Bool) : (List.range bs.length).all (fun j => bs.getD j false) = bs.all id := by
  induction bs with
  | nil => rfl
  | cons b r ih =>
    rw [List.length_cons, List.range_succ_eq_map, List.all_cons, List.all_map, List.all_cons]
    exact congrArg (b && ·) ih
section
variable {X : Cx} {pins : List (Addr × Obj)} {σ : L2.St} {H : Hp} {s : Shared}
theorem pr3_true {K : PySem.W.Frag} {n : Nat} (ih : ∀ x b, EqB K H n x x b → b = true) : ∀ {xs : List V} {bs : List Bool}, Pr3 (EqB K H n) xs xs bs → bs.all id = true
  | [], _, .nl => rfl
  | [], _, .nr => rfl
  | x :: xs, _, .cons f r => by
    rw [List.all_cons, pr3_true ih r, ih _ _ f]
    rfl
theorem eqB_true (J : Inv X pins σ H s) : ∀ (n : Nat) (x : V) (b : Bool), EqB X.K H n x x b → b = true
  | 0, x, b, h => by
    obtain ⟨f, _, rfl⟩ := h
    exact eqV_self f
  | n + 1, x, b, h => by
    rcases h with ⟨f, _, rfl⟩ | ⟨a, _, _, rfl⟩ | ⟨a, c, xs, ys, e1, e2, h1, h2, hl, rfl⟩ | ⟨a, c, xs, ys, bs, e1, e2, h1, h2, hl, hp, rfl⟩ | ⟨a, c, xs, ys, bs, e1, e2, h1, h2, hp, rfl⟩
    · exact eqV_self f
    · rfl
    · rw [e1] at e2
      cases e2
      exact absurd (congrArg List.length (J.list_inj h1 h2)) hl
    · rw [e1] at e2
      cases e2
      cases J.list_inj h1 h2
      exact pr3_true (eqB_true J n) hp
    · rw [e1] at e2
      cases e2
      cases J.tuple_inj h1 h2
      rw [pr3_true (eqB_true J n) hp]
      simp
theorem eqB_at (J : Inv X pins σ H s) : ∀ (n : Nat) (A : Around), A.units + n < cLine → ∀ (x y : V) (b : Bool) (v u : Value), EqB X.K H n x y b → RelV x v → RelV y u → SeqAt.EqAt A s v u b
  | 0, A, hu, x, y, b, v, u, h, rx, ry => by
    obtain ⟨f1, f2, rfl⟩ := h
    exact eqAt_V rx ry f1 f2
  | n + 1, A, hu, x, y, b, v, u, h, rx, ry => by
    have h0 := h
    rcases h with ⟨f1, f2, rfl⟩ | ⟨a, rfl, rfl, rfl⟩ | ⟨a, c, xs, ys, rfl, rfl, ha, hb, hl, rfl⟩ | ⟨a, c, xs, ys, bs, rfl, rfl, ha, hb, hl, hp, rfl⟩ | ⟨a, c, xs, ys, bs, rfl, rfl, ha, hb, hp, rfl⟩
    · exact eqAt_V rx ry f1 f2
    · cases rx
      cases ry
      exact SeqAt.EqAt.same _
    · cases rx
      cases ry
      have e : a ≠ c := fun e => by
        subst e
        exact hl (congrArg List.length (J.list_inj ha hb))
      obtain ⟨us, r1, p1, _⟩ := J.list ha
      obtain ⟨ws, r2, p2, _⟩ := J.list hb
      refine SeqAt.EqAt.of_refs e (SeqAt.RcAt.lists_lengths p1.isList p2.isList ?_ (by omega))
      rw [List.size_toArray, List.size_toArray, ← r1.length, ← r2.length]
      simpa using hl
    · cases rx
      cases ry
      by_cases e : a = c
      · subst e
        rw [eqB_true J (n + 1) _ _ h0]
        exact SeqAt.EqAt.same _
      obtain ⟨us, r1, p1, _⟩ := J.list ha
      obtain ⟨ws, r2, p2, _⟩ := J.list hb
      have hsz : us.toArray.size = ws.toArray.size := by rw [List.size_toArray, List.size_toArray, ← r1.length, ← r2.length]; exact hl
      obtain ⟨hbl, k⟩ := pr3_at (eqB_at J n A.in1 (by show A.units + 1 + n < cLine; omega)) hp r1 r2
      have z := SeqAt.RcAt.lists (A := A) (e := fun j => bs.getD j false) p1.isList p2.isList hsz (by omega) fun j h1 h2 => by
        have k := k j (by simpa using h1) (by simpa using h2)
        simpa using k
      have es : us.toArray.size = bs.length := by
        rw [hbl]
        simp only [List.size_toArray] at hsz ⊢
        omega
      rw [es, all_getD] at z
      exact SeqAt.EqAt.of_refs e z
    · cases rx
      cases ry
      by_cases e : a = c
      · subst e
        rw [eqB_true J (n + 1) _ _ h0]
        exact SeqAt.EqAt.same _
      obtain ⟨us, r1, p1, _⟩ := J.tuple ha
      obtain ⟨ws, r2, p2, _⟩ := J.tuple hb
      obtain ⟨hbl, k⟩ := pr3_at (eqB_at J n A.in1 (by show A.units + 1 + n < cLine; omega)) hp r1 r2
      have z := SeqAt.RcAt.tuples (A := A) (e := fun j => bs.getD j false) p1 p2 (by omega) fun j h1 h2 => by
        have k := k j (by simpa using h1) (by simpa using h2)
        simpa using k
      have es : min us.toArray.size ws.toArray.size = bs.length := by
        rw [hbl]
        simp only [List.size_toArray]
      rw [es, all_getD, List.size_toArray, List.size_toArray, ← r1.length, ← r2.length] at z
      exact SeqAt.EqAt.of_refs e z
/-- == and != of two lists, two tuples -/
def fEqB (K : PySem.W.Frag) (neg : Bool) : R2 := fun x y H Q => match x, y with
  | .ref a, .ref c => (∃ xs ys, SqL K H a xs ∧ SqL K H c ys ∧ xs.length ≠ ys.length ∧ Q (.bl neg) H) ∨
    (∃ xs ys bs, SqL K H a xs ∧ SqL K H c ys ∧ xs.length = ys.length ∧ Pr3 (EqB K H 20) xs ys bs ∧ Q (.bl (opp neg (bs.all id))) H) ∨
    (∃ xs ys bs, SqT K H a xs ∧ SqT K H c ys ∧ Pr3 (EqB K H 20) xs ys bs ∧ Q (.bl (opp neg (bs.all id && xs.length == ys.length))) H)
  | _, _ => False
theorem f_eqB (hu : X.A.units + 64 < cLine) : OpR X (compareOp .Eq) (fEqB X.K false) := by
  intro pins s σ H x y v u Q J rx ry h
  unfold fEqB at h
  split at h
  · rename_i a c
    cases rx
    cases ry
    rcases h with ⟨xs, ys, ha, hb, hl, q⟩ | ⟨xs, ys, bs, ha, hb, hl, hp, q⟩ | ⟨xs, ys, bs, ha, hb, hp, q⟩
    · obtain ⟨us, r1, p1, _⟩ := J.list ha
      obtain ⟨ws, r2, p2, _⟩ := J.list hb
      refine SeqAt.eq_list_lengthsAt p1.isList p2.isList ?_ (by omega) ⟨.bl false, H, J, rfl, q⟩
      rw [List.size_toArray, List.size_toArray, ← r1.length, ← r2.length]
      simpa using hl
    · obtain ⟨us, r1, p1, _⟩ := J.list ha
      obtain ⟨ws, r2, p2, _⟩ := J.list hb
      have hsz : us.toArray.size = ws.toArray.size := by rw [List.size_toArray, List.size_toArray, ← r1.length, ← r2.length]; exact hl
      obtain ⟨hbl, k⟩ := pr3_at (eqB_at J 20 X.A.in1 (by show X.A.units + 1 + 20 < cLine; omega)) hp r1 r2
      have es : us.toArray.size = bs.length := by
        rw [hbl]
        simp only [List.size_toArray] at hsz ⊢
        omega
      refine SeqAt.eq_listAt (e := fun j => bs.getD j false) p1.isList p2.isList hsz (by omega) (fun j h1 h2 => ?_) ?_
      · have k := k j (by simpa using h1) (by simpa using h2)
        simpa using k
      · rw [es, all_getD]
        exact ⟨.bl _, H, J, rfl, q⟩
    · obtain ⟨us, r1, p1, _⟩ := J.tuple ha
      obtain ⟨ws, r2, p2, _⟩ := J.tuple hb
      obtain ⟨hbl, k⟩ := pr3_at (eqB_at J 20 X.A.in1 (by show X.A.units + 1 + 20 < cLine; omega)) hp r1 r2
      have es : min us.toArray.size ws.toArray.size = bs.length := by
        rw [hbl]
        simp only [List.size_toArray]
      refine SeqAt.eq_tupleAt (e := fun j => bs.getD j false) p1 p2 (by omega) (fun j h1 h2 => ?_) ?_
      · have k := k j (by simpa using h1) (by simpa using h2)
        simpa using k
      · rw [es, all_getD, List.size_toArray, List.size_toArray, ← r1.length, ← r2.length]
        exact ⟨.bl _, H, J, rfl, q⟩
  · exact h.elim
theorem f_neB (hu : X.A.units + 64 < cLine) : OpR X (compareOp .NotEq) (fEqB X.K true) := by
  intro pins s σ H x y v u Q J rx ry h
  unfold fEqB at h
  split at h
  · rename_i a c
    cases rx
    cases ry
    rcases h with ⟨xs, ys, ha, hb, hl, q⟩ | ⟨xs, ys, bs, ha, hb, hl, hp, q⟩ | ⟨xs, ys, bs, ha, hb, hp, q⟩
    · obtain ⟨us, r1, p1, _⟩ := J.list ha
      obtain ⟨ws, r2, p2, _⟩ := J.list hb
      refine SeqAt.RcNeAt.lists_lengths p1.isList p2.isList ?_ (by omega) _ _ _ _ ⟨.bl true, H, J, rfl, q⟩
      rw [List.size_toArray, List.size_toArray, ← r1.length, ← r2.length]
      simpa using hl
    · obtain ⟨us, r1, p1, _⟩ := J.list ha
      obtain ⟨ws, r2, p2, _⟩ := J.list hb
      have hsz : us.toArray.size = ws.toArray.size := by rw [List.size_toArray, List.size_toArray, ← r1.length, ← r2.length]; exact hl
      obtain ⟨hbl, k⟩ := pr3_at (eqB_at J 20 X.A.in1 (by show X.A.units + 1 + 20 < cLine; omega)) hp r1 r2
      have es : us.toArray.size = bs.length := by
        rw [hbl]
        simp only [List.size_toArray] at hsz ⊢
        omega
      refine SeqAt.RcNeAt.lists (e := fun j => bs.getD j false) p1.isList p2.isList hsz (by omega) (fun j h1 h2 => ?_) _ _ _ _ ?_
      · have k := k j (by simpa using h1) (by simpa using h2)
        simpa using k
      · rw [es, all_getD]
        exact ⟨.bl _, H, J, rfl, q⟩
    · obtain ⟨us, r1, p1, _⟩ := J.tuple ha
      obtain ⟨ws, r2, p2, _⟩ := J.tuple hb
      obtain ⟨hbl, k⟩ := pr3_at (eqB_at J 20 X.A.in1 (by show X.A.units + 1 + 20 < cLine; omega)) hp r1 r2
      have es : min us.toArray.size ws.toArray.size = bs.length := by
        rw [hbl]
        simp only [List.size_toArray]
      refine SeqAt.RcNeAt.tuples (e := fun j => bs.getD j false) p1 p2 (by omega) (fun j h1 h2 => ?_) _ _ _ _ ?_
      · have k := k j (by simpa using h1) (by simpa using h2)
        simpa using k
      · rw [es, all_getD, List.size_toArray, List.size_toArray, ← r1.length, ← r2.length]
        exact ⟨.bl _, H, J, rfl, q⟩
  · exact h.elim
end
end Fg
namespace Fg
open PySem PySem.Spec PySem.Calls PyProof.Rows L2
structure StatAt (K : PySem.W.Frag) (C : Addr) (m qual : Str) (st : Stmt) : Prop where
  ex : ∃ p g fd, Fun K m qual st g fd ∧ SMet K C m p g
  rd : ClX.CRead K C (.type "type")
structure SCallee (P : Program) (w : World) (K : PySem.W.Frag) (mg : Str → Option Value) (base : Heap) (k : Nat) (x : Str) (C : Addr) (m qual : Str) (st : Stmt) (ps : List Str) (sp : Sp) : Prop where
  ex : ∃ p g fd, FnOk P w K mg base (L2.CX P w) k g fd ps sp ∧ SMet K C m p g ∧ Fun K m qual st g fd
  rd : ClX.CRead K C (.type "type")
  g : ∃ u, mg x = some u ∧ RelV (.ref C) u
theorem scallee_of {P : Program} {w : World} {K : PySem.W.Frag} {mg : Str → Option Value} {base : Heap} {x : Str} {C : Addr} {m qual : Str} {st : Stmt} {N ps : List Str} {k : Nat} {sp : Sp} (g : ∃ u, mg x = some u ∧ RelV (.ref C) u) (F : StatAt K C m qual st) (S : FnScope N ps (defScope st))
    (len : ∀ vs H Q E, sp vs H Q E → vs.length = ps.length)
    (hbody : ∀ (f : Addr) (cdv : Value) (A : Around) (outer : List Env) (s : Shared) (H : Hp) (vs : List V) (Q : VK) (E : XK), Room k (cxOf (L2.CX P w) P w K mg base N qual (defScope st) f cdv A outer s H E).A →
      Takes (cxOf (L2.CX P w) P w K mg base N qual (defScope st) f cdv A outer s H E) (fun cls d _ H => E cls d H) →
      PassesOwn (model P w) (cxOf (L2.CX P w) P w K mg base N qual (defScope st) f cdv A outer s H E).A (cxOf (L2.CX P w) P w K mg base N qual (defScope st) f cdv A outer s H E).env (cxOf (L2.CX P w) P w K mg base N qual (defScope st) f cdv A outer s H E).xe → sp vs H Q E →
      ∃ t, PSs (cxOf (L2.CX P w) P w K mg base N qual (defScope st) f cdv A outer s H E) (defBody st) t ∧ t { nx := fun _ H' => Q .non H', rt := Q } (start N vs) H) :
    SCallee P w K mg base (k + 1) x C m qual st ps sp := by
  obtain ⟨p, f, fd, F', hm⟩ := F.ex
  exact ⟨⟨p, f, fd, F'.okX S len fun cdv A outer s H vs Q E hr h => hbody f cdv A outer s H vs Q E hr (takes_of rfl rfl rfl rfl) (passes_of rfl) h, hm, F'⟩, F.rd, g⟩
section
variable {X : Cx} {W : WX} {j k : Nat} {C : Addr} {m x qual : Str} {st : Stmt} {ps ks : List Str} {sp : Sp} {pos apos p2 : Pos} {e : Expr} {es : List Expr} {kwe : List Keyword} {t : TA} {pl : Sem Bool} {idx : List Nat}
theorem fc_smeth (c : SCallee X.prog X.w X.K X.mg X.base k x C m qual st ps sp) (hr : Room j X.A) (hj : k ≤ j) (hg : Gl X x) (tk : Takes X W) (ha : PA X (e :: es) t)
    (hb : ∀ (kV doc pm : Value) (an : Option Addr) (cdv ct : Value) (us : List Value), us.length = ps.length → bindArgs (PySem.W.fnOf m qual (defArgs st) (defBody st) (defScope st) .none kV doc pm an cdv ct) ⟨us, []⟩ = pure (ps.zip us))
    (hdb : (x == ("__debug__" : Str)) = false := by decide) (hst : starEach (e :: es) X.env = (false, eval e X.env) :: starEach es X.env := by rfl) (hpl : (backTo pos (starEach es X.env)).any (·.1) = false := by rfl)
    (ht : eval (.Call (.Attribute (.Name x p2) m apos) (e :: es) [] pos) X.env = (do
      let ov ← eval (.Name x p2) X.env
      standAt apos.atName
      let (f, first) ← holding [ov] (getMethod ov m pl)
      callWith pos f first (backTo pos (starEach (e :: es) X.env)) (backToKw pos (keywordEach [] X.env))) := by rfl) :
    PE X (.Call (.Attribute (.Name x p2) m apos) (e :: es) [] pos) (fun σ H Q => t σ H fun vs H2 => sp vs H2 Q (fun cls d H' => W cls d σ H')) := by
  obtain ⟨p, g, fd, F, S, Fu⟩ := c.ex
  exact pe_imp (pe_smeth (E := WE W) (fe_g hg c.g hdb) c.rd S F (hr.mono hj) Fu.kp (Fu.binds hb) (passAt tk) ha hst hpl ht) fun σ H Q q => ⟨rfl, q⟩
theorem fc_smethK (c : SCallee X.prog X.w X.K X.mg X.base k x C m qual st ps sp) (hr : Room j X.A) (hj : k ≤ j) (hg : Gl X x) (tk : Takes X W) (hkw : PK X kwe t)
    (hb : ∀ (kV doc pm : Value) (an : Option Addr) (cdv ct : Value) (ws : List Value), ws.length = ks.length → bindArgs (PySem.W.fnOf m qual (defArgs st) (defBody st) (defScope st) .none kV doc pm an cdv ct) ⟨[], ks.zip ws⟩ = pure (ps.zip (pick idx ws)))
    (hdb : (x == ("__debug__" : Str)) = false := by decide) (hall : (backToKw pos (keywordEach kwe X.env)).all (·.1.isSome) = true := by rfl) (hks : (backToKw pos (keywordEach kwe X.env)).filterMap (·.1) = ks := by rfl)
    (hpl : ((backTo pos (starEach [] X.env)).any (·.1) || (backToKw pos (keywordEach kwe X.env)).any (·.1.isNone)) = false := by rfl)
    (ht : eval (.Call (.Attribute (.Name x p2) m apos) [] kwe pos) X.env = (do
      let ov ← eval (.Name x p2) X.env
      standAt apos.atName
      let (f, first) ← holding [ov] (getMethod ov m pl)
      callWith pos f first (backTo pos (starEach [] X.env)) (backToKw pos (keywordEach kwe X.env))) := by rfl) :
    PE X (.Call (.Attribute (.Name x p2) m apos) [] kwe pos) (fun σ H Q => t σ H fun zs H2 => zs.length = ks.length ∧ sp (pick idx zs) H2 Q (fun cls d H' => W cls d σ H')) := by
  obtain ⟨p, g, fd, F, S, Fu⟩ := c.ex
  refine ⟨fun pins s σ H Q I h => ?_⟩
  refine PySem.W.methodCall_KW (pl := pl) (thn ((fe_g hg c.g hdb).run pins s σ H (fun v H' => v = .ref C ∧ t σ H' fun zs H2 => zs.length = ks.length ∧ sp (pick idx zs) H2 Q (fun cls d H' => W cls d σ H')) I ⟨rfl, h⟩) fun u s1 ⟨v, H1, I1, rx, ev, q⟩ => ?_) ht
  subst ev
  obtain rfl : u = Value.ref C := rx
  refine getsm_ok I1 c.rd S fun s2 I2 => ?_
  refine PySem.W.callWith_KW0 (first := []) (h₀ := X.base) I2.ok.mod.kin Fu.kp hall ?_ hpl
  refine thn (hkw.run pos pins s2 σ H1 _ I2 q) fun ws s3 ⟨zs, H2, J2, rz, ln, q2⟩ => ⟨J2.kIn, ?_⟩
  rw [hks]
  have lw : ws.length = ks.length := by rw [← rz.length, ln]
  obtain ⟨oc, od, kV, doc, pm, an, cdv, ct, osl, rfl, _, _⟩ := Fu.ex
  exact code_fnK (E := WE W) (args := ⟨[], ks.zip ws⟩) F (hr.mono hj) (.of_eq (hb kV doc pm an cdv ct ws lw)) (passAt tk σ) J2 (vals_pick idx rz) q2
end
end Fg
namespace Fg
open PySem PySem.Spec PySem.Calls PyProof.Rows L2
def DCompZ (st : Hp → Prop) (g : TG) (tk tv : TE) (vs : List Nat) (σ : L2.St) (D : Addr) (Q : Hp → Prop) : List (V × V) → Hp → Prop
  | [] => fun H => Q H
  | p :: r => fun H => ∀ T H', H T = none → Same H H' → H' T = some (.tup [p.1, p.2]) → g (.ref T) (wipe σ vs) H' fun σ2 H2 => wipe σ2 vs = wipe σ vs ∧ tk σ2 H2 fun y H3 => tv σ2 H3 fun z H4 =>
      ∃ kvs k, y = kV k ∧ H4 D = some (.dK kvs) ∧ kvs.length < sizeLine ∧ st (upd H4 D (.dK (putK kvs k z))) ∧ DCompZ st g tk tv vs σ D Q r (upd H4 D (.dK (putK kvs k z)))
section
variable {X : Cx} {kx vx e e2 : Expr} {scope : Scope} {own : List (Str × Nat)} {pos p pos2 tpos : Pos} {elts : List Expr} {kk : Nat} {g : TG} {tk tv : TE} {ta : TA}
def tDcZ (K : PySem.W.Frag) (g : TG) (tk tv : TE) (ta : TA) (vs : List Nat) : TE := fun σ H Q => ta σ H fun zs H1 => ∃ (d1 d2 : Sd) (xs ys : List V), zs = [d1.v, d2.v] ∧ d1.has K H1 xs ∧ d2.has K H1 ys ∧ xs.length = ys.length ∧
  ∀ D H2, H1 D = none → Same H1 H2 → H2 D = some (.dK []) → (d1.has K H2 xs ∧ d2.has K H2 ys) ∧ DCompZ (fun H => d1.has K H xs ∧ d2.has K H ys) g tk tv vs σ D (Q (.ref D)) (xs.zip ys) H2
end
end Fg
namespace Fg
open PySem PySem.Spec PySem.Calls PyProof.Rows L2
/-- no thing of a built-in type is of the class at C -/
structure InsC (K : PySem.W.Frag) (C : Addr) : Prop where
  no : ∀ n ∈ ["NoneType", "bool", "int", "str", "list", "tuple", "dict"], PySem.W.kitOne K (.type n) (.ref C) = some false
def fIsC (K : PySem.W.Frag) (C : Addr) : List V → Hp → VK → Prop := fun xs H Q => match xs with
  | [x, .ref c] => c = C ∧ match x with
    | .non => Q (.bl false) H
    | .bl _ => Q (.bl false) H
    | .int _ => Q (.bl false) H
    | .str _ => Q (.bl false) H
    | .ref a => ∃ b, RefTy K H a (.ref C) b ∧ Q (.bl b) H
    | _ => False
  | _ => False
theorem f_isC {X : Cx} {C : Addr} (i : InsC X.K C) : CallR X (.builtin "isinstance") (fIsC X.K C) := call_imp call_isi fun xs H Q q => by
  unfold fIsC at q
  split at q
  · rename_i x m
    obtain ⟨rfl, q⟩ := q
    cases x with
    | non => exact ⟨_, _, _, _, _, rfl, .own _, .base .non, i.no "NoneType" (by decide), q⟩
    | bl b => exact ⟨_, _, _, _, _, rfl, .own _, .base (.bl _), i.no "bool" (by decide), q⟩
    | int b => exact ⟨_, _, _, _, _, rfl, .own _, .base (.int _), i.no "int" (by decide), q⟩
    | str b => exact ⟨_, _, _, _, _, rfl, .own _, .base (.str _), i.no "str" (by decide), q⟩
    | ref a =>
      obtain ⟨b, ⟨t, ty, kt⟩, q⟩ := q
      exact ⟨_, _, _, _, _, rfl, .own _, ty, kt, q⟩
    | byt _ => exact q.elim
    | flt _ => exact q.elim
    | ty _ => exact q.elim
  · exact q.elim
end Fg
namespace Fg
open PySem PySem.Spec PySem.Calls PyProof.Rows L2
section
variable {X : Cx} {kx vx tg iter : Expr} {ifs : List Expr} {scope : Scope} {own : List (Str × Nat)} {pos spos py : Pos} {i : Nat} {y : Str}
theorem ps_setDc {wi : TI} {g : TG} {tt : TT} {tk tv : TE} (hc : X.calm = true) (hN : X.N.Nodup) (hy : X.N[i]? = some y) (hyl : X.env.scope.names.lookup y = some .local)
    (hsw : swapsWith (.DictComp kx vx [⟨tg, iter, ifs, 0⟩] scope pos) (some (.Name y py)) spos.line X.env = pure true) (hi : PI X tg iter wi) (ok : BlkOk X.N X.env.scope scope own)
    (hg : ∀ (s : Shared) (H : Hp) (C : Addr) (cl : List (Str × Addr)) (fp : List Addr), PG (X.blk s H scope (compEnvC scope cl C X.env) fp) tg g) (ht : ∀ (s : Shared) (H : Hp) (C : Addr) (cl : List (Str × Addr)) (fp : List Addr), PTs (X.blk s H scope (compEnvC scope cl C X.env) fp) ifs tt)
    (hk : ∀ (s : Shared) (H : Hp) (C : Addr) (cl : List (Str × Addr)) (fp : List Addr), PE (X.blk s H scope (compEnvC scope cl C X.env) fp) kx tk)
    (he : ∀ (s : Shared) (H : Hp) (C : Addr) (cl : List (Str × Addr)) (fp : List Addr), PE (X.blk s H scope (compEnvC scope cl C X.env) fp) vx tv) (hs : ∀ x, foldedSetIterable iter X.env x = pure x := by intro _; rfl) :
    PS X (.Assign [.Name y py] (.DictComp kx vx [⟨tg, iter, ifs, 0⟩] scope pos) spos) (tAsg (tDc wi g tt tk tv (own.map (·.2))) (gName i)) := by
  refine ⟨fun pins s σ H D I h => ?_⟩
  rw [exec_Assign_Name_used _ _ _ _ hsw]
  refine wpAny_bind (wpAny_standAt (wpAny_bind ?_))
  show wpAny _ X.A (do let _ ← comprehension (.DictComp kx vx [⟨tg, iter, ifs, 0⟩] scope pos) scope X.env (firstIterPos [⟨tg, iter, ifs, 0⟩] pos) newDict false (eval iter X.env) (some (assign (.Name y py) X.env))) _ _ s
  have h' : tDc wi g tt tk tv (own.map (·.2)) σ H (fun x H1 => gName i x σ H1 D.nx) := h
  refine wpAny_bind (thn (dc_core (Qf := fun _ s' => SP X pins D .next s') hc hN I hi ok hg ht hk he hs h' fun L C s' m H' I' q hn f => ?_) fun _ s' hq => wpAny_pure (wpAny_pure hq))
  show wpAny _ _ (assign (.Name y py) X.env (.ref L)) _ _ _
  refine wpAny_assign_Name (store_ok2 (v := V.ref L) I' hN hy (.inl hyl) rfl (fun s2 I2 ⟨a, sb, ha⟩ => ?_) (.inr hyl))
  obtain ⟨f0, f1, f2, f3, f4, f5⟩ := f
  have hCa : C ≠ a := by
    rcases ha with z | z
    · rw [z]; exact f1
    · exact fun e => f4 y a z e.symm
  exact ⟨m, hn.sameBut sb hCa, fun h3 sb3 => ⟨_, H', I2.turned (t' := s2.toks) (fun b o hb e => (sb3.2 b hb).trans e) f0 f1 f3 f4 f5, q⟩⟩
theorem sw_dict {gs : List Comprehension} {l : Nat} {env : Env} (hk : env.scope.kind = .function) (hy : env.scope.names.lookup y = some .local) (hl : (py.line == pos.line) = true)
    (ha : (scope.names.any fun (n, k) => n == y && (k == .local || k == .cell)) = false) : swapsWith (.DictComp kx vx gs scope pos) (some (.Name y py)) l env = pure true := by
  have ky : env.kindOf y = some .local := hy
  have hb : env.blockKind = .function := by unfold Env.blockKind; rw [hk]; rfl
  unfold swapsWith
  simp only [hb, ky, ha, Expr.pos, hl]
  rfl
end
section
variable {X : Cx} {kx vx e e2 : Expr} {scope : Scope} {own : List (Str × Nat)} {pos p pos2 tpos spos py : Pos} {elts : List Expr} {kk i : Nat} {y : Str} {g : TG} {tk tv : TE} {ta : TA}
theorem dcz_imp {σ : L2.St} {H : Hp} {Q : VK} (q : tDcZ X.K g tk tv ta (own.map (·.2)) σ H Q) : tDc (iZipM X.K (upA ta)) g tYes tk tv (own.map (·.2)) σ H Q := ⟨_, q, fun zs H1 ⟨d1, d2, xs, ys, ez, h1, h2, hl, k⟩ => ⟨d1, d2, xs, ys, ez, h1, h2, hl, fun D nD => by
    obtain ⟨hst, c⟩ := k D _ nD (Same.new nD) upd_same
    refine ⟨fun i m H => m + i = (xs.zip ys).length ∧ (d1.has X.K H xs ∧ d2.has X.K H ys) ∧ DCompZ (fun H => d1.has X.K H xs ∧ d2.has X.K H ys) g tk tv (own.map (·.2)) σ D (Q (.ref D)) ((xs.zip ys).drop i) H, ⟨_, rfl, hst, c⟩, ?_⟩
    rintro i m H ⟨hm, hs, hc⟩
    have hz : (xs.zip ys).length = xs.length := by rw [List.length_zip, hl, Nat.min_self]
    by_cases hi : i < (xs.zip ys).length
    · right
      rw [List.drop_eq_getElem_cons hi] at hc
      refine ⟨⟨xs, ys, hs.1, hs.2, by omega, hl⟩, fun H' => (d1.has X.K H' xs ∧ d2.has X.K H' ys) ∧ DCompZ (fun H => d1.has X.K H xs ∧ d2.has X.K H ys) g tk tv (own.map (·.2)) σ D (Q (.ref D)) ((xs.zip ys).drop (i + 1)) H', fun H' ⟨a, b⟩ => ⟨m - 1, by omega, by omega, a, b⟩, fun x H' y => ?_⟩
      obtain ⟨T, x1, x2, rfl, nT, rfl, f1, f2⟩ := y
      have ep : (xs.zip ys)[i] = (x1, x2) := by
        have e1 := f1 xs hs.1
        have e2 := f2 ys hs.2
        have hi1 : i < xs.length := by omega
        have hi2 : i < ys.length := by omega
        rw [List.getElem?_eq_getElem hi1] at e1
        rw [List.getElem?_eq_getElem hi2] at e2
        rw [List.getElem_zip, Option.some.inj e1, Option.some.inj e2]
      rw [ep] at hc
      exact hc T _ nT (Same.new nT) upd_same
    · left
      have ei : i = (xs.zip ys).length := by omega
      subst ei
      rw [List.drop_length] at hc
      exact ⟨⟨xs, ys, hs.1, hs.2, hz, hl⟩, hc⟩⟩⟩
theorem fs_setDcZ (hc : X.calm = true) (hN : X.N.Nodup) (hy : X.N[i]? = some y) (hyl : X.env.scope.names.lookup y = some .local)
    (hsw : swapsWith (.DictComp kx vx [⟨.Tuple elts kk tpos, .Call (.Name "zip" p) [e, e2] [] pos2, [], 0⟩] scope pos) (some (.Name y py)) spos.line X.env = pure true) (hgl : Gl X "zip") (hm : X.mg "zip" = none) (ha : PA X [e, e2] ta) (ok : BlkOk X.N X.env.scope scope own)
    (hg : ∀ (s : Shared) (H : Hp) (C : Addr) (cl : List (Str × Addr)) (fp : List Addr), PG (X.blk s H scope (compEnvC scope cl C X.env) fp) (.Tuple elts kk tpos) g)
    (hk : ∀ (s : Shared) (H : Hp) (C : Addr) (cl : List (Str × Addr)) (fp : List Addr), PE (X.blk s H scope (compEnvC scope cl C X.env) fp) kx tk)
    (he : ∀ (s : Shared) (H : Hp) (C : Addr) (cl : List (Str × Addr)) (fp : List Addr), PE (X.blk s H scope (compEnvC scope cl C X.env) fp) vx tv)
    (hst : starEach [e, e2] X.env = (false, eval e X.env) :: starEach [e2] X.env := by rfl) (hpl : (backTo pos2 (starEach [e2] X.env)).any (·.1) = false := by rfl) (hs : ∀ x, foldedSetIterable (.Call (.Name "zip" p) [e, e2] [] pos2) X.env x = pure x := by intro _; rfl) :
    PS X (.Assign [.Name y py] (.DictComp kx vx [⟨.Tuple elts kk tpos, .Call (.Name "zip" p) [e, e2] [] pos2, [], 0⟩] scope pos) spos) (tAsg (tDcZ X.K g tk tv ta (own.map (·.2))) (gName i)) :=
  ps_imp (ps_setDc (tt := tYes) hc hN hy hyl hsw (pi_zipM hgl hm (pa_up ha) hst hpl) ok hg (fun _ _ _ _ _ => pts_nil) hk he hs) fun D σ H q => dcz_imp q
end
end Fg
namespace GB
open PySem PySem.SeqAt
open AutoSeq1 (wpAny_loadPart')
open MeetsSeq MeetsSeq2 MeetsSeq3 SeqRoads2 GQ
section
variable {prog : Program} {w : World} {A : Around} {R : Result → Shared → Prop}
theorem all_false {bs : List Bool} {i : Nat} (hi : i < bs.length) (h : bs.getD i false = false) : bs.all id = false := by
  rw [List.getD_eq_getElem?_getD, List.getElem?_eq_getElem hi] at h
  exact List.all_eq_false.mpr ⟨_, List.getElem_mem hi, by rw [show bs[i] = false from h]; simp⟩
theorem take_succ_all {bs : List Bool} {i : Nat} (h : (bs.take i).all id = true) (e : bs.getD i false = true) : (bs.take (i + 1)).all id = true := by
  rw [List.take_add_one, List.all_append, h, Bool.true_and]
  rw [List.getD_eq_getElem?_getD] at e
  cases q : bs[i]? with
  | none => rw [q] at e; cases e
  | some b => rw [q] at e; rw [show b = true from e]; rfl
theorem tupB_eq (l b : Addr) (items items2 : Array Value) (n n2 : Nat) (dd dd2 : Option Addr) (sl sl2 : Array (Option Value)) (bs : List Bool) (hbs : bs.length = min items.size items2.size) (L : Shared → Prop)
    (turn : ∀ i (h1 : i < items.size) (h2 : i < items2.size) (s : Shared), L s → wpAny (model prog w) A.in1 (eqBool items[i] items2[i]) (fun r s' => r = bs.getD i false ∧ L s') (fun e s' => R (.error e) s') s)
    (fin : ∀ s, L s → R (.ok (.ret (.bool (bs.all id && items.size == items2.size)))) s) {s : Shared} (hl1 : s.heap.get? l = some { cls := .type "tuple", dict := dd, data := .seq items n, slots := sl }) (hb1 : s.heap.get? b = some { cls := .type "tuple", dict := dd2, data := .seq items2 n2, slots := sl2 }) (h : L s) :
    wpAny (model prog w) A.in1 (Builtin.«tuple.__eq__» ⟨[.ref l, .ref b], []⟩) (FinOf prog w A R) (fun e s' => R (.error e) s') s := by
  have f2 := AutoSeq1.sub_tuple_tuple
  have zl : (items.toList.zip items2.toList).length = bs.length := by rw [hbs, List.length_zip]; simp
  have start := h
  obtain ⟨hp, g, d, tk, os⟩ := s
  wp_walk using wpAny_loadPart' hl1, wpAny_loadPart' hb1, wpAny_forIn_list _ (fun rest b s' => b.1 = none ∧ ∃ i, rest = (items.toList.zip items2.toList).drop i ∧ i ≤ bs.length ∧ (bs.take i).all id = true ∧ L s') _
  case turn =>
    rintro ⟨y, x⟩ rest b s' ⟨hb', i, hz, hi, ha, hL⟩
    have hlt : i < (items.toList.zip items2.toList).length := Nat.lt_of_not_le fun z => by rw [List.drop_of_length_le z] at hz; cases hz
    have lt1 : i < bs.length := zl ▸ hlt
    have h1 : i < items.size := by omega
    have h2 : i < items2.size := by omega
    rw [List.drop_eq_getElem_cons hlt] at hz
    injection hz with hyx hrest
    obtain rfl : y = items[i] := by simpa using congrArg Prod.fst hyx
    obtain rfl : x = items2[i] := by simpa using congrArg Prod.snd hyx
    refine wpAny_bind (wpAny_mono (turn i h1 h2 s' hL) (fun r s2 q2 => ?_) fun _ _ x => x)
    obtain ⟨hr, q2⟩ := q2
    cases r with
    | true => wp_walk; exact ⟨rfl, i + 1, hrest, lt1, take_succ_all ha hr.symm, q2⟩
    | false =>
      have no := all_false lt1 hr.symm
      have e := fin s2 q2
      rw [no, Bool.false_and] at e
      wp_walk
      exact e
  case fin =>
    rintro ⟨b1, b2⟩ s' ⟨hb', i, hz, hi, ha, hL⟩
    simp only at hb'
    subst hb'
    have ge : bs.length ≤ i := Nat.le_of_not_lt fun z => by rw [List.drop_eq_getElem_cons (zl ▸ z)] at hz; cases hz
    rw [List.take_of_length_le ge] at ha
    have e := fin s' hL
    rw [ha, Bool.true_and] at e
    wp_walk
    simpa [Builtin.Tuple.tupleCompareSizes] using e
  case h => exact ⟨rfl, 0, rfl, Nat.zero_le _, rfl, start⟩
/-- what is known of two lists that are read anew at each turn -/
def ListB (prog : Program) (w : World) (A : Around) (E : Value → Shared → Prop) (l b : Addr) (bs : List Bool) (L : Shared → Prop) : Prop :=
  ∀ s, L s → ∃ (items items2 : Array Value) (n n2 : Nat), (s.heap.get? l = some { cls := .type "list", data := .seq items n } ∧ s.heap.get? b = some { cls := .type "list", data := .seq items2 n2 }) ∧ (items.size = bs.length ∧ items2.size = bs.length) ∧
    ∀ i (h1 : i < items.size) (h2 : i < items2.size), wpAny (model prog w) A.in1 (eqBool items[i] items2[i]) (fun r s' => r = bs.getD i false ∧ L s') E s
theorem loopB_eq (l b : Addr) (bs : List Bool) (L : Shared → Prop) (hl : ListB prog w A (fun e s' => R (.error e) s') l b bs L) (fin : ∀ s, L s → R (.ok (.ret (.bool (bs.all id)))) s) (k : Nat) :
    ∀ i : Nat, bs.length - i = k → i ≤ bs.length → ∀ s, (bs.take i).all id = true → L s → wpAny (model prog w) A.in1 (Builtin.«list.__eq__.loop» ⟨[.ref l, .ref b, rawInt i, rawInt 2], []⟩) (FinOf prog w A R) (fun e s' => R (.error e) s') s := by
  induction k with
  | zero =>
    intro i hk hi s ha h
    obtain ⟨items, items2, n, n2, ⟨hl1, hb1⟩, ⟨hs1, hs2⟩, _⟩ := hl _ h
    have e := fin s h
    rw [List.take_of_length_le (by omega)] at ha
    rw [ha] at e
    obtain ⟨hp, g, d, tk, os⟩ := s
    have n1 : items[((i : Nat) : Int).toNat]? = none := by simp; omega
    have m1 : items2[((i : Nat) : Int).toNat]? = none := by simp; omega
    wp_walk using wpAny_loadPart' hl1, wpAny_loadPart' hb1
    rw [n1, m1]; wp_walk using wpAny_loadPart' hl1, wpAny_loadPart' hb1
    show R (.ok (.ret (.bool (items.size == items2.size)))) _
    rw [hs1, hs2, beq_self_eq_true]; exact e
  | succ k ih =>
    intro i hk hi s ha h
    obtain ⟨items, items2, n, n2, ⟨hl1, hb1⟩, ⟨hs1, hs2⟩, turn⟩ := hl _ h
    have lt1 : i < items.size := by omega
    have lt2 : i < items2.size := by omega
    have t0 := turn i lt1 lt2
    obtain ⟨hp, g, d, tk, os⟩ := s
    have n1 : items[((i : Nat) : Int).toNat]? = some items[i] := by simp [lt1]
    have m1 : items2[((i : Nat) : Int).toNat]? = some items2[i] := by simp [lt2]
    wp_walk using wpAny_loadPart' hl1, wpAny_loadPart' hb1
    rw [n1, m1]; refine wpAny_bind (wpAny_mono t0 (fun r s2 q2 => ?_) fun _ _ x => x)
    obtain ⟨hr, q2⟩ := q2
    cases r with
    | true =>
      have again := ih (i + 1) (by omega) (by omega) s2 (take_succ_all ha hr.symm) q2
      have hc : ((i : Int) + 1) = ((i + 1 : Nat) : Int) := by omega
      obtain ⟨hp2, g2, d2, tk2, os2⟩ := s2
      wp_walk
      rw [hc]; exact ⟨plainId_quiet plain_eq_loop _, codeAny_builtin entry_eq_loop (by rw [Around.under_plainId plain_eq_loop _]; exact again)⟩
    | false =>
      have e := fin s2 q2
      rw [all_false (by omega) hr.symm] at e
      obtain ⟨xs, ys, k1, k2, ⟨hl2, hb2⟩, ⟨hs3, hs4⟩, _⟩ := hl _ q2
      obtain ⟨hp2, g2, d2, tk2, os2⟩ := s2
      have n2 : xs[((i : Nat) : Int).toNat]? = some xs[i] := by simp [show i < xs.size by omega]
      have m2 : ys[((i : Nat) : Int).toNat]? = some ys[i] := by simp [show i < ys.size by omega]
      wp_walk using wpAny_loadPart' hl2, wpAny_loadPart' hb2
      rw [n2, m2]; wp_walk
      exact e
theorem listB_eq (l b : Addr) (bs : List Bool) (L : Shared → Prop) (hl : ListB prog w A (fun e s' => R (.error e) s') l b bs L) (fin : ∀ s, L s → R (.ok (.ret (.bool (bs.all id)))) s) {s : Shared} (h : L s) :
    wpAny (model prog w) A.in1 (Builtin.«list.__eq__» ⟨[.ref l, .ref b], []⟩) (FinOf prog w A R) (fun e s' => R (.error e) s') s := by
  obtain ⟨items, items2, n, n2, ⟨hl1, hb1⟩, ⟨hs1, hs2⟩, _⟩ := hl _ h
  have again := loopB_eq (A := A) (R := R) l b bs L hl fin _ 0 rfl (Nat.zero_le _) s rfl h
  have ne : ¬ (items.size != items2.size) = true := by simp [hs1, hs2]
  obtain ⟨hp, g, d, tk, os⟩ := s
  have sub := AutoSeq1.sub_list_list
  wp_walk using wpAny_loadPart' hl1, wpAny_loadPart' hb1
  exact ⟨plainId_quiet plain_eq_loop _, codeAny_builtin entry_eq_loop (by rw [Around.under_plainId plain_eq_loop _]; exact again)⟩
end
section
variable {prog : Program} {w : World} {A : Around} {E : Value → Shared → Prop} {s : Shared}
theorem rc_listB {l b : Addr} {bs : List Bool} {Q : Value → Shared → Prop} (hu : A.units < cLine) (L : Shared → Prop) (hl : ListB prog w A E l b bs L) (fin : ∀ s, L s → Q (.bool (bs.all id)) s) (h : L s) : wpAny (model prog w) A (richCompare .Eq (.ref l) (.ref b)) Q E s := by
  obtain ⟨items, items2, n, n2, ⟨hl1, hb1⟩, _⟩ := hl _ h
  refine wpAny_richCompare_same_room (op := .Eq) ⟨_, hl1, rfl⟩ ⟨_, hb1, rfl⟩ F.slot_list_eq (call_here F.slot_list_eq ⟨_, hl1, rfl⟩ F.entry_list_eq (F.args_list_eq_2 _ _) (listB_eq (R := wants (fun v s' => v ≠ .notImplemented ∧ Q v s') E) l b bs L hl (fun s' q => ⟨(fun x => nomatch x), fin s' q⟩) h)) hu
theorem rc_tupB {l b : Addr} {items items2 : Array Value} {bs : List Bool} {Q : Value → Shared → Prop} (hbs : bs.length = min items.size items2.size) (hu : A.units < cLine) (L : Shared → Prop) (hl : s.heap.IsTuple l items) (hb : s.heap.IsTuple b items2)
    (turn : ∀ i (h1 : i < items.size) (h2 : i < items2.size) (s : Shared), L s → wpAny (model prog w) A.in1 (eqBool items[i] items2[i]) (fun r s' => r = bs.getD i false ∧ L s') E s)
    (fin : ∀ s, L s → Q (.bool (bs.all id && items.size == items2.size)) s) (h : L s) : wpAny (model prog w) A (richCompare .Eq (.ref l) (.ref b)) Q E s := by
  obtain ⟨⟨cls, dd, data, sl⟩, ho, hc, n, hd⟩ := id hl
  obtain ⟨⟨cls2, dd2, data2, sl2⟩, ho2, hc2, n2, hd2⟩ := id hb
  simp only at hc hd hc2 hd2
  subst hc hd hc2 hd2
  exact wpAny_richCompare_same_room (op := .Eq) ⟨_, ho, rfl⟩ ⟨_, ho2, rfl⟩ F.slot_tuple_eq (call_here F.slot_tuple_eq ⟨_, ho, rfl⟩ F.entry_tuple_eq (F.args_tuple_eq_2 _ _) (tupB_eq (R := wants (fun v s' => v ≠ .notImplemented ∧ Q v s') E) l b items items2 n n2 dd dd2 sl sl2 bs hbs L turn (fun s' q => ⟨(fun x => nomatch x), fin s' q⟩) ho ho2 h)) hu
end
end GB
namespace GB
open PySem PySem.SeqAt
open AutoSeq1 (wpAny_loadPart')
open MeetsSeq MeetsSeq2 MeetsSeq3 SeqRoads2 GQ
section
variable {prog : Program} {w : World} {A : Around} {R : Result → Shared → Prop}
theorem tupB_ne (l b : Addr) (items items2 : Array Value) (n n2 : Nat) (dd dd2 : Option Addr) (sl sl2 : Array (Option Value)) (bs : List Bool) (hbs : bs.length = min items.size items2.size) (L : Shared → Prop)
    (turn : ∀ i (h1 : i < items.size) (h2 : i < items2.size) (s : Shared), L s → wpAny (model prog w) A.in1 (eqBool items[i] items2[i]) (fun r s' => r = bs.getD i false ∧ L s') (fun e s' => R (.error e) s') s)
    (fin : ∀ s, L s → R (.ok (.ret (.bool (!(bs.all id && items.size == items2.size))))) s) {s : Shared} (hl1 : s.heap.get? l = some { cls := .type "tuple", dict := dd, data := .seq items n, slots := sl }) (hb1 : s.heap.get? b = some { cls := .type "tuple", dict := dd2, data := .seq items2 n2, slots := sl2 }) (h : L s) :
    wpAny (model prog w) A.in1 (Builtin.«tuple.__ne__» ⟨[.ref l, .ref b], []⟩) (FinOf prog w A R) (fun e s' => R (.error e) s') s := by
  have f2 := AutoSeq1.sub_tuple_tuple
  have zl : (items.toList.zip items2.toList).length = bs.length := by rw [hbs, List.length_zip]; simp
  have start := h
  obtain ⟨hp, g, d, tk, os⟩ := s
  wp_walk using wpAny_loadPart' hl1, wpAny_loadPart' hb1, wpAny_forIn_list _ (fun rest b s' => b.1 = none ∧ ∃ i, rest = (items.toList.zip items2.toList).drop i ∧ i ≤ bs.length ∧ (bs.take i).all id = true ∧ L s') _
  case turn =>
    rintro ⟨y, x⟩ rest b s' ⟨hb', i, hz, hi, ha, hL⟩
    have hlt : i < (items.toList.zip items2.toList).length := Nat.lt_of_not_le fun z => by rw [List.drop_of_length_le z] at hz; cases hz
    have lt1 : i < bs.length := zl ▸ hlt
    have h1 : i < items.size := by omega
    have h2 : i < items2.size := by omega
    rw [List.drop_eq_getElem_cons hlt] at hz
    injection hz with hyx hrest
    obtain rfl : y = items[i] := by simpa using congrArg Prod.fst hyx
    obtain rfl : x = items2[i] := by simpa using congrArg Prod.snd hyx
    refine wpAny_bind (wpAny_mono (turn i h1 h2 s' hL) (fun r s2 q2 => ?_) fun _ _ x => x)
    obtain ⟨hr, q2⟩ := q2
    cases r with
    | true => wp_walk; exact ⟨rfl, i + 1, hrest, lt1, take_succ_all ha hr.symm, q2⟩
    | false =>
      have no := all_false lt1 hr.symm
      have e := fin s2 q2
      rw [no, Bool.false_and] at e
      wp_walk
      exact e
  case fin =>
    rintro ⟨b1, b2⟩ s' ⟨hb', i, hz, hi, ha, hL⟩
    simp only at hb'
    subst hb'
    have ge : bs.length ≤ i := Nat.le_of_not_lt fun z => by rw [List.drop_eq_getElem_cons (zl ▸ z)] at hz; cases hz
    rw [List.take_of_length_le ge] at ha
    have e := fin s' hL
    rw [ha, Bool.true_and] at e
    wp_walk
    simpa [Builtin.Tuple.tupleCompareSizes, bne] using e
  case h => exact ⟨rfl, 0, rfl, Nat.zero_le _, rfl, start⟩
theorem loopB_ne (l b : Addr) (bs : List Bool) (L : Shared → Prop) (hl : ListB prog w A (fun e s' => R (.error e) s') l b bs L) (fin : ∀ s, L s → R (.ok (.ret (.bool (!bs.all id)))) s) (k : Nat) :
    ∀ i : Nat, bs.length - i = k → i ≤ bs.length → ∀ s, (bs.take i).all id = true → L s → wpAny (model prog w) A.in1 (Builtin.«list.__eq__.loop» ⟨[.ref l, .ref b, rawInt i, rawInt 3], []⟩) (FinOf prog w A R) (fun e s' => R (.error e) s') s := by
  induction k with
  | zero =>
    intro i hk hi s ha h
    obtain ⟨items, items2, n, n2, ⟨hl1, hb1⟩, ⟨hs1, hs2⟩, _⟩ := hl _ h
    have e := fin s h
    rw [List.take_of_length_le (by omega)] at ha
    rw [ha] at e
    obtain ⟨hp, g, d, tk, os⟩ := s
    have n1 : items[((i : Nat) : Int).toNat]? = none := by simp; omega
    have m1 : items2[((i : Nat) : Int).toNat]? = none := by simp; omega
    wp_walk using wpAny_loadPart' hl1, wpAny_loadPart' hb1
    rw [n1, m1]; wp_walk using wpAny_loadPart' hl1, wpAny_loadPart' hb1
    show R (.ok (.ret (.bool (items.size != items2.size)))) _
    rw [hs1, hs2, show (bs.length != bs.length) = false by simp]; exact e
  | succ k ih =>
    intro i hk hi s ha h
    obtain ⟨items, items2, n, n2, ⟨hl1, hb1⟩, ⟨hs1, hs2⟩, turn⟩ := hl _ h
    have lt1 : i < items.size := by omega
    have lt2 : i < items2.size := by omega
    have t0 := turn i lt1 lt2
    obtain ⟨hp, g, d, tk, os⟩ := s
    have n1 : items[((i : Nat) : Int).toNat]? = some items[i] := by simp [lt1]
    have m1 : items2[((i : Nat) : Int).toNat]? = some items2[i] := by simp [lt2]
    wp_walk using wpAny_loadPart' hl1, wpAny_loadPart' hb1
    rw [n1, m1]; refine wpAny_bind (wpAny_mono t0 (fun r s2 q2 => ?_) fun _ _ x => x)
    obtain ⟨hr, q2⟩ := q2
    cases r with
    | true =>
      have again := ih (i + 1) (by omega) (by omega) s2 (take_succ_all ha hr.symm) q2
      have hc : ((i : Int) + 1) = ((i + 1 : Nat) : Int) := by omega
      obtain ⟨hp2, g2, d2, tk2, os2⟩ := s2
      wp_walk
      rw [hc]; exact ⟨plainId_quiet plain_eq_loop _, codeAny_builtin entry_eq_loop (by rw [Around.under_plainId plain_eq_loop _]; exact again)⟩
    | false =>
      have e := fin s2 q2
      rw [all_false (by omega) hr.symm] at e
      obtain ⟨xs, ys, k1, k2, ⟨hl2, hb2⟩, ⟨hs3, hs4⟩, _⟩ := hl _ q2
      obtain ⟨hp2, g2, d2, tk2, os2⟩ := s2
      have n2 : xs[((i : Nat) : Int).toNat]? = some xs[i] := by simp [show i < xs.size by omega]
      have m2 : ys[((i : Nat) : Int).toNat]? = some ys[i] := by simp [show i < ys.size by omega]
      wp_walk using wpAny_loadPart' hl2, wpAny_loadPart' hb2
      rw [n2, m2]; wp_walk
      exact e
theorem listB_ne (l b : Addr) (bs : List Bool) (L : Shared → Prop) (hl : ListB prog w A (fun e s' => R (.error e) s') l b bs L) (fin : ∀ s, L s → R (.ok (.ret (.bool (!bs.all id)))) s) {s : Shared} (h : L s) :
    wpAny (model prog w) A.in1 (Builtin.«list.__ne__» ⟨[.ref l, .ref b], []⟩) (FinOf prog w A R) (fun e s' => R (.error e) s') s := by
  obtain ⟨items, items2, n, n2, ⟨hl1, hb1⟩, ⟨hs1, hs2⟩, _⟩ := hl _ h
  have again := loopB_ne (A := A) (R := R) l b bs L hl fin _ 0 rfl (Nat.zero_le _) s rfl h
  have ne : ¬ (items.size != items2.size) = true := by simp [hs1, hs2]
  obtain ⟨hp, g, d, tk, os⟩ := s
  have sub := AutoSeq1.sub_list_list
  wp_walk using wpAny_loadPart' hl1, wpAny_loadPart' hb1
  exact ⟨plainId_quiet plain_eq_loop _, codeAny_builtin entry_eq_loop (by rw [Around.under_plainId plain_eq_loop _]; exact again)⟩
end
section
variable {prog : Program} {w : World} {A : Around} {E : Value → Shared → Prop} {s : Shared}
theorem rc_listBn {l b : Addr} {bs : List Bool} {Q : Value → Shared → Prop} (hu : A.units < cLine) (L : Shared → Prop) (hl : ListB prog w A E l b bs L) (fin : ∀ s, L s → Q (.bool (!bs.all id)) s) (h : L s) : wpAny (model prog w) A (richCompare .NotEq (.ref l) (.ref b)) Q E s := by
  obtain ⟨items, items2, n, n2, ⟨hl1, hb1⟩, _⟩ := hl _ h
  refine wpAny_richCompare_same_room (op := .NotEq) ⟨_, hl1, rfl⟩ ⟨_, hb1, rfl⟩ F.slot_list_ne (call_here F.slot_list_ne ⟨_, hl1, rfl⟩ F.entry_list_ne (F.args_list_ne_2 _ _) (listB_ne (R := wants (fun v s' => v ≠ .notImplemented ∧ Q v s') E) l b bs L hl (fun s' q => ⟨(fun x => nomatch x), fin s' q⟩) h)) hu
theorem rc_tupBn {l b : Addr} {items items2 : Array Value} {bs : List Bool} {Q : Value → Shared → Prop} (hbs : bs.length = min items.size items2.size) (hu : A.units < cLine) (L : Shared → Prop) (hl : s.heap.IsTuple l items) (hb : s.heap.IsTuple b items2)
    (turn : ∀ i (h1 : i < items.size) (h2 : i < items2.size) (s : Shared), L s → wpAny (model prog w) A.in1 (eqBool items[i] items2[i]) (fun r s' => r = bs.getD i false ∧ L s') E s)
    (fin : ∀ s, L s → Q (.bool (!(bs.all id && items.size == items2.size))) s) (h : L s) : wpAny (model prog w) A (richCompare .NotEq (.ref l) (.ref b)) Q E s := by
  obtain ⟨⟨cls, dd, data, sl⟩, ho, hc, n, hd⟩ := id hl
  obtain ⟨⟨cls2, dd2, data2, sl2⟩, ho2, hc2, n2, hd2⟩ := id hb
  simp only at hc hd hc2 hd2
  subst hc hd hc2 hd2
  exact wpAny_richCompare_same_room (op := .NotEq) ⟨_, ho, rfl⟩ ⟨_, ho2, rfl⟩ F.slot_tuple_ne (call_here F.slot_tuple_ne ⟨_, ho, rfl⟩ F.entry_tuple_ne (F.args_tuple_ne_2 _ _) (tupB_ne (R := wants (fun v s' => v ≠ .notImplemented ∧ Q v s') E) l b items items2 n n2 dd dd2 sl sl2 bs hbs L turn (fun s' q => ⟨(fun x => nomatch x), fin s' q⟩) ho ho2 h)) hu
end
end GB
namespace L2
open PySem PySem.Spec PyProof.Rows
end L2
namespace GB
open PySem PySem.SeqAt
open AutoSeq1 (wpAny_loadPart')
open MeetsSeq MeetsSeq2 MeetsSeq3 SeqRoads2 GQ
section
variable {prog : Program} {w : World} {A : Around} {R : Result → Shared → Prop}
theorem any_true {bs : List Bool} {i : Nat} (hi : i < bs.length) (h : bs.getD i false = true) : bs.any id = true := by
  rw [List.getD_eq_getElem?_getD, List.getElem?_eq_getElem hi] at h
  exact List.any_eq_true.mpr ⟨_, List.getElem_mem hi, by rw [show bs[i] = true from h]; rfl⟩
theorem take_succ_any {bs : List Bool} {i : Nat} (h : (bs.take i).any id = false) (e : bs.getD i false = false) : (bs.take (i + 1)).any id = false := by
  rw [List.take_add_one, List.any_append, h, Bool.false_or]
  rw [List.getD_eq_getElem?_getD] at e
  cases q : bs[i]? with
  | none => rfl
  | some b => rw [q] at e; rw [show b = false from e]; rfl
def ListIn (prog : Program) (w : World) (A : Around) (E : Value → Shared → Prop) (l : Addr) (x : Value) (bs : List Bool) (L : Shared → Prop) : Prop :=
  ∀ s, L s → ∃ (items : Array Value) (n : Nat), s.heap.get? l = some { cls := .type "list", data := .seq items n } ∧ items.size = bs.length ∧
    ∀ i (h1 : i < items.size), wpAny (model prog w) A.in1 (eqBool items[i] x) (fun r s' => r = bs.getD i false ∧ L s') E s
theorem loopIn (l : Addr) (x : Value) (bs : List Bool) (L : Shared → Prop) (hl : ListIn prog w A (fun e s' => R (.error e) s') l x bs L) (fin : ∀ s, L s → R (.ok (.ret (.bool (bs.any id)))) s) (k : Nat) :
    ∀ i : Nat, bs.length - i = k → i ≤ bs.length → ∀ s, (bs.take i).any id = false → L s → wpAny (model prog w) A.in1 (Builtin.«list.__contains__.loop» ⟨[.ref l, x, rawInt i], []⟩) (FinOf prog w A R) (fun e s' => R (.error e) s') s := by
  induction k with
  | zero =>
    intro i hk hi s ha h
    obtain ⟨items, n, hl1, hs1, _⟩ := hl _ h
    have e := fin s h
    rw [List.take_of_length_le (by omega)] at ha
    rw [ha] at e
    obtain ⟨hp, g, d, tk, os⟩ := s
    have n1 : items[((i : Nat) : Int).toNat]? = none := by simp; omega
    wp_walk using wpAny_loadPart' hl1
    rw [n1]
    wp_walk
    exact e
  | succ k ih =>
    intro i hk hi s ha h
    obtain ⟨items, n, hl1, hs1, turn⟩ := hl _ h
    have lt1 : i < items.size := by omega
    have t0 := turn i lt1
    obtain ⟨hp, g, d, tk, os⟩ := s
    have n1 : items[((i : Nat) : Int).toNat]? = some items[i] := by simp [lt1]
    wp_walk using wpAny_loadPart' hl1
    rw [n1]; refine wpAny_bind (wpAny_mono t0 (fun r s2 q2 => ?_) fun _ _ x => x)
    obtain ⟨hr, q2⟩ := q2
    cases r with
    | false =>
      have again := ih (i + 1) (by omega) (by omega) s2 (take_succ_any ha hr.symm) q2
      have hc : ((i : Int) + 1) = ((i + 1 : Nat) : Int) := by omega
      obtain ⟨hp2, g2, d2, tk2, os2⟩ := s2
      wp_walk
      rw [hc]; exact ⟨plainId_quiet plain_contains_loop _, codeAny_builtin entry_contains_loop (by rw [Around.under_plainId plain_contains_loop _]; exact again)⟩
    | true =>
      have e := fin s2 q2
      rw [any_true (by omega) hr.symm] at e
      wp_walk
      exact e
theorem listIn (l : Addr) (x : Value) (bs : List Bool) (L : Shared → Prop) (hl : ListIn prog w A (fun e s' => R (.error e) s') l x bs L) (fin : ∀ s, L s → R (.ok (.ret (.bool (bs.any id)))) s) {s : Shared} (h : L s) :
    wpAny (model prog w) A.in1 (Builtin.«list.__contains__» ⟨[.ref l, x], []⟩) (FinOf prog w A R) (fun e s' => R (.error e) s') s := by
  obtain ⟨items, n, hl1, hs1, _⟩ := hl _ h
  have again := loopIn (A := A) (R := R) l x bs L hl fin _ 0 rfl (Nat.zero_le _) s rfl h
  obtain ⟨hp, g, d, tk, os⟩ := s
  wp_walk using wpAny_loadPart' hl1
  exact ⟨plainId_quiet plain_contains_loop _, codeAny_builtin entry_contains_loop (by rw [Around.under_plainId plain_contains_loop _]; exact again)⟩
end
end GB
namespace Fg
open PySem PySem.Spec PySem.Calls PyProof.Rows L2
section
variable {X : Cx}
inductive PrsAt (K : PySem.W.Frag) (H : Hp) : List V → List (Int × Int) → Prop
  | nil : PrsAt K H [] []
  | cons {t : Addr} {p : Int × Int} {xs : List V} {ps : List (Int × Int)} (h : SqT K H t [.int p.1, .int p.2]) (r : PrsAt K H xs ps) : PrsAt K H (.ref t :: xs) (p :: ps)
end
end Fg
namespace Fg
open PySem PySem.Spec PySem.Calls PyProof.Rows L2
section
variable {prog : Program} {w : World} {A : Around} {E : Value → Shared → Prop} {s : Shared} {z TI TO i1 i2 l1 l2 : Addr} {xs ys : Array Value}
/-- a zip of two lists, i turns on; its last tuple may be out -/
def ZlSt (z TI TO i1 i2 l1 l2 S : Addr) (xs ys : Array Value) (i : Nat) (h : Heap) : Prop :=
  IsTupOf2 h TI (.ref i1) (.ref i2) ∧ (h.IsListIter i1 l1 i ∧ h.IsList l1 xs) ∧ (h.IsListIter i2 l2 i ∧ h.IsList l2 ys) ∧
    ((IsZip h z TI TO .none ∧ ∃ a b, IsTupOf2 h TO a b) ∨ ∃ T f oT, IsZipHeld h z TI TO T f ∧ h.get? T = some oT ∧ T ≠ z ∧ T ≠ i1 ∧ T ≠ i2 ∧ T ≠ S)
theorem ZlSt.keep {S : Addr} {i : Nat} {h h' : Heap} (st : ZlSt z TI TO i1 i2 l1 l2 S xs ys i h) (hk : ∀ b o, b ≠ S → h.get? b = some o → h'.get? b = some o)
    (n : z ≠ S ∧ TI ≠ S ∧ TO ≠ S ∧ i1 ≠ S ∧ i2 ≠ S ∧ l1 ≠ S ∧ l2 ≠ S) : ZlSt z TI TO i1 i2 l1 l2 S xs ys i h' := by
  obtain ⟨nz, nTI, nTO, n1, n2, m1, m2⟩ := n
  obtain ⟨a1, ⟨a2, a3⟩, ⟨a4, a5⟩, zz⟩ := st
  refine ⟨hk _ _ nTI a1, ⟨a2.at fun o e => hk _ o n1 e, a3.at fun o e => hk _ o m1 e⟩, ⟨a4.at fun o e => hk _ o n2 e, a5.at fun o e => hk _ o m2 e⟩, ?_⟩
  rcases zz with ⟨b1, u, v, b2⟩ | ⟨T, f, oT, b1, b2, r1, r2, r3, r4⟩
  · exact .inl ⟨hk _ _ nz b1, u, v, hk _ _ nTO b2⟩
  · exact .inr ⟨T, f, oT, hk _ _ nz b1, hk _ _ r4 b2, r1, r2, r3, r4⟩
end
/-- the tuples of the pairs as they stand -/
structure ZlG (xs ys : Array Value) (lo : Addr) (h : Heap) (as : List Addr) : Prop where
  rise : as.Pairwise (· < ·)
  above : ∀ a ∈ as, lo ≤ a
  pairs : ∀ (j : Nat) (a : Addr), as[j]? = some a → ∃ x y, xs[j]? = some x ∧ ys[j]? = some y ∧ h.get? a = some { cls := .type "tuple", data := .seq #[x, y] }
theorem ZlG.there {xs ys : Array Value} {lo : Addr} {h : Heap} {as : List Addr} (g : ZlG xs ys lo h as) {a : Addr} (ha : a ∈ as) : a < h.objs.size := by
  obtain ⟨j, hj⟩ := List.mem_iff_getElem?.mp ha
  obtain ⟨_, _, _, _, e⟩ := g.pairs j a hj
  exact Heap.lt_size e
end Fg
namespace Fg
open PySem PySem.Spec PyProof.Rows L2 GenW
structure GEx where
  nx : Nat → L2.St → Hp → Prop
  rt : Nat → V → Hp → Prop
  bk : Nat → L2.St → Hp → Prop := fun _ _ _ => False
  ct : Nat → L2.St → Hp → Prop := fun _ _ _ => False
def GEx.at (D : GEx) (i : Nat) : Ends := { nx := D.nx i, rt := D.rt i, bk := D.bk i, ct := D.ct i }
end Fg
namespace Fg
open PySem PySem.Spec PySem.Calls PyProof.Rows L2 GenW
/-- all that the consumer knows lies below La -/
structure LowP (X : Cx) (pins : List (Addr × Obj)) (La p : Addr) : Prop where
  p : p < La
  s0 : X.s_0.heap.objs.size ≤ La
  loc : X.env.locals < La
  cell : ∀ x c, X.env.cells.lookup x = some c → c < La
  pin : ∀ q ∈ X.pn ++ pins, q.1 < La
theorem back {X : Cx} {pins : List (Addr × Obj)} {σ : L2.St} {H0 H : Hp} {s0 s1 : Shared} {La p : Addr} {vs : List V} {n : Nat} (I : Inv X pins σ (upd H0 p (.lst vs)) s0) (hp : H0 p = none) (L : LowP X pins La p) (U : Un (frs X.stack) (List.range' La n) H0 H s0.heap s1.heap) (hok : HOk X.prog X.w H s1.heap) (os : s1.os = s0.os) (bare : AllBare s1.gens) :
    Inv X pins σ (upd H p (.lst vs)) s1 ∧ H p = none := by
  have nr : ∀ {b : Addr}, b < La → b ∉ List.range' La n := fun {b} hb hm => by
    rw [List.mem_range'_1] at hm
    exact absurd hm.1 (Nat.not_le_of_lt hb)
  obtain ⟨hz, its, nn, r, ho⟩ := I.hok p _ upd_same
  have pf : p ∉ frs X.stack := fun hm => by
    have := I.stkFree p hm
    rw [upd_same] at this; cases this
  have ho1 := U.keep p _ ho hp pf (nr L.p)
  have hp1 : H p = none := U.free p _ ho hp (nr L.p)
  have ne : ∀ {b : Addr}, (upd H0 p (.lst vs)) b = none → b ≠ p ∧ H0 b = none := fun {b} e => by
    have nb : b ≠ p := fun z => by subst z; rw [upd_same] at e; cases e
    rw [upd_ne nb] at e
    exact ⟨nb, e⟩
  refine ⟨I.call' (ch := List.range' La n) os ⟨fun b o e q hf hx => U.keep b o e (ne q).2 hf hx, fun b o e q hf hx => U.slot b o e (ne q).2 hf hx, fun b o e q hx => ?_, U.there, fun b xs q => ?_, fun b o u q => ?_, fun b ps q => ?_⟩ (fun b u q => ?_) bare fun b hb => ?_, hp1⟩
  · rw [upd_ne (ne q).1]; exact U.free b o e (ne q).2 hx
  · have nb : b ≠ p := fun z => by subst z; rw [upd_same] at q; cases q
    rw [upd_ne nb] at q ⊢
    exact U.tups b xs q
  · have nb : b ≠ p := fun z => by subst z; rw [upd_same] at q; cases q
    rw [upd_ne nb] at q ⊢
    exact U.frzs b o u q
  · have nb : b ≠ p := fun z => by subst z; rw [upd_same] at q; cases q
    rw [upd_ne nb] at q ⊢
    exact U.tbls b ps q
  · by_cases hb : b = p
    · subst hb
      rw [upd_same] at q
      cases q
      exact ⟨hz, its, nn, r, ho1⟩
    · rw [upd_ne hb] at q
      exact (hok b u q).stay (fun _ _ _ z => z) (fun c z => by rw [upd_ne (ne_of_none z hp1)]; exact z) fun c xs z => by rw [upd_ne (ne_of_none z hp1)]; exact z
  · rw [List.mem_range'_1] at hb
    exact ⟨.inr (Nat.le_trans L.s0 hb.1), Nat.ne_of_gt (Nat.lt_of_lt_of_le L.loc hb.1), fun x c e => Nat.ne_of_lt (Nat.lt_of_lt_of_le (L.cell x c e) hb.1), fun q hq => Nat.ne_of_lt (Nat.lt_of_lt_of_le (L.pin q hq) hb.1)⟩
end Fg
namespace Fg
open PySem PySem.Spec PyProof.Rows L2
abbrev RTab := Addr → Sp → Prop
/-- what stands above a call: builtin codes above the caller's -/
structure Rz (X : Cx) (k : Nat) (A : Around) : Prop where
  fr : A.frames = X.A.frames
  hd : A.handled = X.A.handled
  dp : A.depth + 3 * k + 5 < recursionLimit
  un : A.units + 16 * k + 200 < cLine
theorem Rz.units0 {X : Cx} {k : Nat} {A : Around} (r : Rz X k A) : A.units < cLine := by have := r.un; omega
theorem Rz.mono {X : Cx} {j k : Nat} {A : Around} (r : Rz X k A) (h : j ≤ k) : Rz X j A := ⟨r.fr, r.hd, by have := r.dp; omega, by have := r.un; omega⟩
theorem Rz.in1 {X : Cx} {k : Nat} {A : Around} (r : Rz X (k + 1) A) : Rz X k A.in1 := ⟨r.fr, r.hd, by have := r.dp; show A.depth + 3 * k + 5 < _; omega, by have := r.un; show A.units + 1 + 16 * k + 200 < _; omega⟩
section
variable {X : Cx} {pins : List (Addr × Obj)} {σ : L2.St} {H : Hp} {s : Shared} {A : Around} {k : Nat} {rt : RTab} {base : Nat}
inductive EntR : List (Key × V) → List DictEntry → Prop
  | nil : EntR [] []
  | cons {k : Key} {v : V} {e : DictEntry} {kvs : List (Key × V)} {es : List DictEntry} : RelV (kV k) e.key → RelV v e.val → EntR kvs es → EntR ((k, v) :: kvs) (e :: es)
theorem EntR.item : ∀ {kvs : List (Key × V)} {es : List DictEntry}, EntR kvs es → ∀ (i : Nat) (k : Key) (v : V), kvs[i]? = some (k, v) → ∃ e, es[i]? = some e ∧ RelV (kV k) e.key ∧ RelV v e.val
  | _, _, .nil, i, k, v, q => by simp at q
  | _, _, .cons h1 h2 _, 0, k, v, q => by
    simp at q
    obtain ⟨e1, e2⟩ := q
    subst e1 e2
    exact ⟨_, rfl, h1, h2⟩
  | _, _, .cons _ _ t, i + 1, k, v, q => by
    obtain ⟨e, h⟩ := t.item i k v (by simpa using q)
    exact ⟨e, by simpa using h⟩
theorem EntR.length : ∀ {kvs : List (Key × V)} {es : List DictEntry}, EntR kvs es → kvs.length = es.length
  | _, _, .nil => rfl
  | _, _, .cons _ _ t => congrArg Nat.succ t.length
end
end Fg
namespace Fg
open PySem PySem.Spec PyProof.Rows L2
abbrev DefAt (K : PySem.W.Frag) (d : He.DefD) : Prop := ∃ fd, FunD K d.name d.qual d.params d.body d.scope (d.dvs K) (d.kws K) (He.fAd K d.at_) fd
section
variable {K : PySem.W.Frag} {h : Heap} {mg : Str → Option Value} {w : World}
theorem fun_of {x q : Str} {st : Stmt} {f : Addr} {fd : FuncData} (F : FunD K x q (defArgs st) (defBody st) (defScope st) [] [] f fd) : Fun K x q st f fd := by
  obtain ⟨⟨oc, od, dV, kV, doc, pm, an, cdv, ct, osl, rfl, lk, hcd, hd, _⟩, kp⟩ := F
  rcases hd with ⟨_, rfl⟩ | ⟨z, _⟩
  · exact ⟨⟨oc, od, kV, doc, pm, an, cdv, ct, osl, rfl, lk, hcd⟩, kp⟩
  · exact absurd rfl z
theorem funAt_of (X : K.In h) (G : h.Ns mainGlobals mg) {x : Str} {st : Stmt} (F : DefAt K (hdG x st)) (g : (He.Fa.glo x).ok K = true) : FunAt K mg x st := by
  obtain ⟨fd, F⟩ := F
  exact ⟨⟨He.ga K x, fd, fun_of F, He.glo_ok X G g⟩⟩
theorem methAt_of {C m q : Str} {st : Stmt} (F : DefAt K (dM C m q st)) (g : (He.Fa.meth C m).ok K = true) : MethAt K (He.ga K C) m q st := by
  obtain ⟨fd, F⟩ := F
  exact ⟨⟨_, fd, fun_of F, He.meth_ok g⟩⟩
theorem initAt_of {C q : Str} {st : Stmt} (F : DefAt K (dM C "__init__" q st)) (g : (He.Fa.meth C "__init__").ok K = true) : InitAt K (He.ga K C) q st := by
  obtain ⟨fd, F⟩ := F
  have M := He.meth_ok g
  exact ⟨⟨_, fd, fun_of F, M.at_, beq_iff_eq.mp M.fn⟩⟩
theorem initK_of {C q : Str} {st : Stmt} {kws : List (Str × He.Dv)} (F : DefAt K (dMK C "__init__" q st kws)) (g : (He.Fa.mkr C).ok K = true) : InitK K (He.ga K C) q st (kws.map fun p => (p.1, p.2.v K)) := by
  obtain ⟨fd, F⟩ := F
  exact ⟨⟨_, fd, F, He.mkr_ok g⟩⟩
theorem funC_of (X : K.In h) (G : h.Ns mainGlobals mg) {x : Str} {st : Stmt} (F : DefAt K (hdG x st)) (g : (He.Fa.glo x).ok K = true) : FunC K mg x st (He.codeOf K (x, none)) := by
  obtain ⟨fd, F⟩ := F
  have F2 := fun_of F
  obtain ⟨oc, od, kV, doc, pm, an, cdv, ct, osl, rfl, lk, hcd⟩ := F2.ex
  obtain ⟨c, rfl⟩ := He.codeIn_ref hcd
  have e : He.codeOf K (x, none) = c := He.codeOf_eq (p := (x, none)) lk rfl
  rw [e]
  exact ⟨⟨_, oc, od, kV, doc, pm, an, ct, osl, lk, hcd, F2.kp, He.glo_ok X G g⟩⟩
/-- a text, an int of the module -/
theorem strG_of (X : K.In h) (G : h.Ns mainGlobals mg) {x z : Str} (g : (He.Fa.str x z).ok K = true) : ∃ u, mg x = some u ∧ RelV (.str z) u := by
  obtain ⟨t, e⟩ := He.str_ok X G g
  exact ⟨_, e, t, rfl⟩
theorem intG_of (X : K.In h) (G : h.Ns mainGlobals mg) {x : Str} {i : Int} (g : (He.Fa.int x i).ok K = true) : ∃ u, mg x = some u ∧ RelV (.int i) u := by
  obtain ⟨t, e⟩ := He.int_ok X G g
  exact ⟨_, e, t, rfl⟩
theorem refG_of (X : K.In h) (G : h.Ns mainGlobals mg) {x : Str} (g : (He.Fa.glo x).ok K = true) : ∃ u, mg x = some u ∧ RelV (.ref (He.ga K x)) u := ⟨_, He.glo_ok X G g, rfl⟩
theorem oeB_ok {C : Addr} (g : oeB K C = true) : OexC K C := by
  obtain ⟨g1, g⟩ := He.ba g
  obtain ⟨g2, g⟩ := He.ba g
  obtain ⟨g3, g⟩ := He.ba g
  obtain ⟨g4, g5⟩ := He.ba g
  refine ⟨?_, of_decide_eq_true g2, of_decide_eq_true g3, of_decide_eq_true g4, g5⟩
  split at g1
  · rename_i t dd cd sl lk
    obtain ⟨a1, g1⟩ := He.ba g1
    obtain ⟨a2, g1⟩ := He.ba g1
    obtain ⟨a3, a4⟩ := He.ba g1
    obtain ⟨a5, a6⟩ := He.ba a3
    obtain ⟨nm, bs, mro, ns, qn, hdct, sn, sub, ab, col, hdel⟩ := cd
    dsimp only at a2 a5 a6
    subst a5
    have e6 : hdel = false := by
      cases hdel with
      | false => rfl
      | true => cases a6
    subst e6
    split at a2
    · rename_i c bm
      obtain ⟨b1, b2⟩ := He.ba a2
      have b1 := of_decide_eq_true b1
      have e1 := of_decide_eq_true a1
      subst e1
      obtain ⟨sl⟩ := sl
      dsimp only at a4
      split at a4
      · have e4 := of_decide_eq_true a4
        subst b1
        subst e4
        exact ⟨_, _, _, _, _, _, _, _, _, _, _, _, _, _, _, lk, b2⟩
      · cases a4
    · cases a2
  · cases g1
theorem xcB_ok {D : Addr} (g : xcB K D = true) : ExcC K D := by
  obtain ⟨g1, g⟩ := He.ba g
  obtain ⟨g2, g⟩ := He.ba g
  obtain ⟨g3, g⟩ := He.ba g
  obtain ⟨g4, g⟩ := He.ba g
  obtain ⟨g5, g⟩ := He.ba g
  obtain ⟨g6, g⟩ := He.ba g
  obtain ⟨g7, g8⟩ := He.ba g
  exact ⟨of_decide_eq_true g1, of_decide_eq_true g2, of_decide_eq_true g3, g4, of_decide_eq_true g5, of_decide_eq_true g6, of_decide_eq_true g7, of_decide_eq_true g8⟩
theorem inB_ok {C : Addr} (g : inB K C = true) : (PySem.W.findIn K (.ref C) "__class__" = some (some (.builtin "object.__class__"))) ∧ (PySem.W.specialIn K (.builtin "object.__class__") "__get__" = some (some (.builtin "getset_descriptor.__get__"))) ∧ (PySem.W.takesIn K (.builtin "object.__class__") = some true) ∧ PySem.W.mroIn K C (.type "object") = some true := by
  obtain ⟨g1, g⟩ := He.ba g
  obtain ⟨g2, g⟩ := He.ba g
  obtain ⟨g3, g4⟩ := He.ba g
  exact ⟨of_decide_eq_true g1, of_decide_eq_true g2, of_decide_eq_true g3, of_decide_eq_true g4⟩
theorem entB_ref : ∀ {es : List DictEntry} {kvs : List (Str × He.Dv)}, entB K es kvs = true → es.any (·.refKey) = false
  | [], _, _ => rfl
  | e :: r, [], g => by cases g
  | e :: r, q :: qs, g => by
    obtain ⟨g1, g⟩ := He.ba g
    obtain ⟨g2, g3⟩ := He.ba g
    rw [List.any_cons, entB_ref g3, Bool.or_false]
    split at g1
    · rename_i x t ek
      unfold DictEntry.refKey
      rw [ek]
    · cases g1
theorem entB_find (z : Str) : ∀ {es : List DictEntry} {kvs : List (Str × He.Dv)}, entB K es kvs = true → RelO ((kvs.map fun p => (p.1, p.2.v K)).lookup z) ((es.find? (·.key.isStr z)).map (·.val))
  | [], [], _ => trivial
  | [], _ :: _, g => by cases g
  | e :: r, [], g => by cases g
  | e :: r, q :: qs, g => by
    obtain ⟨g1, g⟩ := He.ba g
    obtain ⟨g2, g3⟩ := He.ba g
    have ih := entB_find z g3
    split at g1
    · rename_i x t ek
      have ex := of_decide_eq_true g1
      have es : e.key.isStr z = decide (q.1 = z) := by
        rw [ek, ← ex]
        rfl
      rw [List.map_cons, List.find?_cons, es]
      by_cases c : q.1 = z
      · rw [decide_eq_true c]
        subst c
        simp only [List.lookup, beq_self_eq_true, Option.map]
        exact He.relB_ok g2
      · rw [decide_eq_false c]
        have c2 : (z == q.1) = false := beq_eq_false_iff_ne.mpr fun y => c y.symm
        simp only [List.lookup, c2]
        exact ih
    · cases g1
theorem kTab_of {d : Addr} {kvs : List (Str × He.Dv)} (D : ∃ es n, KDict K w d es n) (g : tabB K d kvs = true) : KTab K w d (kvs.map fun p => (p.1, p.2.v K)) := by
  obtain ⟨es, n, D⟩ := D
  refine ⟨⟨es, n, D, fun z => ?_⟩⟩
  unfold tabB at g
  rw [D.at_] at g
  have r := entB_find z g
  have nr := entB_ref g
  refine ⟨_, ?_, r⟩
  unfold PySem.W.nsIn
  rw [D.at_]
  dsimp only
  cases e : es.toList.find? (·.key.isStr z) with
  | some e => rfl
  | none =>
    dsimp only
    rw [nr]
    rfl
/-- the i-th check -/
theorem exAt {l : List Bool} (g : l.all id = true) (i : Nat) {b : Bool} (h : l[i]? = some b := by rfl) : b = true := List.all_eq_true.mp g b (List.mem_of_getElem? h)
end
end Fg
namespace Fg
open PySem PySem.Spec PyProof.Rows L2
section
variable {K : PySem.W.Frag} {h : Heap} {w : World}
theorem insB_ok {C : Addr} (g : insB K C = true) : InsC K C := ⟨fun n hn => of_decide_eq_true (List.all_eq_true.mp g n hn)⟩
theorem neB_ok {C : Addr} (g : neB K C = true) : NeAt K C := by
  obtain ⟨g1, g2⟩ := He.ba g
  exact ⟨of_decide_eq_true g1, of_decide_eq_true g2⟩
theorem statAt_of {C m q : Str} {st : Stmt} (F : ∃ fd, FunD K m q (defArgs st) (defBody st) (defScope st) [] [] (smAt C m K) fd) (g : stB K C m = true) : StatAt K (He.ga K C) m q st := by
  obtain ⟨g1, g2⟩ := He.ba g
  obtain ⟨fd, F⟩ := F
  obtain ⟨k1, k2⟩ := He5.wrapB_ok g1
  refine ⟨⟨_, _, fd, fun_of F, ⟨k1, k2⟩⟩, g2, ?_⟩
  unfold PySem.W.readsIn at g2
  simp only [Bool.and_eq_true, beq_iff_eq] at g2
  obtain ⟨⟨⟨⟨_, a⟩, b⟩, _⟩, _⟩ := g2
  unfold PySem.W.specialIn
  rw [a, Option.bind_some]
  exact b
end
end Fg
namespace Fg
open PySem PySem.Spec PyProof.Rows L2
/-- the tables of code objects that are known, and the name that each one's code bears -/
class TQ where
  q : Addr → Str → Prop
/-- nothing is known at b (but a table) -/
def Nw (H : Hp) (b : Addr) : Prop := ∀ o, H b = some o → ∃ ps, o = .tbl ps
theorem Nw.of {H : Hp} {b : Addr} (h : H b = none) : Nw H b := fun o e => by rw [h] at e; cases e
theorem Nw.no {H : Hp} {b : Addr} {o : HO} (n : Nw H b) (h : H b = some o) (t : ∀ ps, o ≠ .tbl ps) : False := (n o h).elim fun ps e => t ps e
theorem Nw.live {H : Hp} {b : Addr} {o : HO} (h : H b = some o) (t : ∀ ps, o ≠ .tbl ps) : ¬ Nw H b := fun n => n.no h t
inductive D where
  | non | bl (b : Bool) | int (i : Int) | str (x : Str)
  | tup (xs : List D) | lst (xs : List D) | dct (kvs : List (Key × D)) | obj (c : Str) (fs : List (Str × D))
  /-- the k-th thing that changes -/
  | mt (k : Nat)
instance : Inhabited D := ⟨.non⟩
structure Ex where
  c : Str
  fs : List (Str × D)
/-- the things that change: lists, dicts, instances -/
abbrev Sto := List D
def M (α : Type) := Sto → Option (Except Ex α × Sto)
namespace M
protected def bind {α β : Type} (m : M α) (f : α → M β) : M β := fun S => match m S with
  | none => none
  | some (.error e, S') => some (.error e, S')
  | some (.ok a, S') => f a S'
instance : Monad M where
  pure a := fun S => some (.ok a, S)
  bind := M.bind
instance : LawfulMonad M := LawfulMonad.mk' (m := M) (id_map := by
    intro α x; funext S; show M.bind x _ S = _; unfold M.bind; cases h : x S with
    | none => rfl
    | some p => obtain ⟨e, S'⟩ := p; cases e <;> rfl)
  (pure_bind := by intros; rfl)
  (bind_assoc := by
    intro α β γ x f g; funext S; show M.bind (M.bind x f) g S = M.bind x (fun a => M.bind (f a) g) S
    unfold M.bind; cases h : x S with
    | none => rfl
    | some p => obtain ⟨e, S'⟩ := p; cases e <;> rfl)
/-- no rule for it -/
def stuck {α : Type} : M α := fun _ => none
def raise {α : Type} (e : Ex) : M α := fun S => some (.error e, S)
def opt {α : Type} : Option α → M α
  | some a => pure a
  | none => stuck
@[simp] theorem opt_some {α : Type} (a : α) : opt (some a) = pure a := rfl
@[simp] theorem opt_none {α : Type} : opt (none : Option α) = stuck := rfl
theorem bind_ok {α β : Type} {m : M α} {f : α → M β} {S S' : Sto} {a : α} (h : m S = some (.ok a, S')) : (m >>= f) S = f a S' := by
  show M.bind m f S = _
  unfold M.bind; rw [h]
theorem bind_err {α β : Type} {m : M α} {f : α → M β} {S S' : Sto} {e : Ex} (h : m S = some (.error e, S')) : (m >>= f) S = some (.error e, S') := by
  show M.bind m f S = _
  unfold M.bind; rw [h]
theorem bind_none {α β : Type} {m : M α} {f : α → M β} {S : Sto} (h : m S = none) : (m >>= f) S = none := by
  show M.bind m f S = _
  unfold M.bind; rw [h]
@[simp] theorem raise_bind {α β : Type} (e : Ex) (f : α → M β) : ((raise e : M α) >>= f) = raise e := rfl
@[simp] theorem stuck_bind {α β : Type} (f : α → M β) : ((stuck : M α) >>= f) = stuck := rfl
end M
/-- the slots of a def, as data -/
abbrev DEnv := List (Option D)
section
variable (K : PySem.W.Frag) (ca : Str → Option Addr) (ρ : List Addr)
mutual
/-- v in the heap G is the data d -/
inductive Rp (G : Hp) : V → D → Prop
  | non : Rp G .non .non
  | bl {b : Bool} : Rp G (.bl b) (.bl b)
  | int {i : Int} : Rp G (.int i) (.int i)
  | str {x : Str} : Rp G (.str x) (.str x)
  | tup {a : Addr} {vs : List V} {ds : List D} (h : SqT K G a vs) (p : RpL G vs ds) : Rp G (.ref a) (.tup ds)
  | lst {a : Addr} {vs : List V} {ds : List D} (h : G a = some (.lst vs)) (p : RpL G vs ds) : Rp G (.ref a) (.lst ds)
  | dct {a : Addr} {vs : List (Key × V)} {ds : List (Key × D)} (h : G a = some (.dK vs)) (p : RpK G vs ds) : Rp G (.ref a) (.dct ds)
  | obj {a C dx : Addr} {c : Str} {vs : List (Str × V)} {ds : List (Str × D)} (e : ca c = some C) (h : G a = some (.ins C dx vs)) (p : RpF G vs ds) : Rp G (.ref a) (.obj c ds)
  | mt {a : Addr} {k : Nat} (h : ρ[k]? = some a) : Rp G (.ref a) (.mt k)
inductive RpL (G : Hp) : List V → List D → Prop
  | nil : RpL G [] []
  | cons {v : V} {d : D} {vs : List V} {ds : List D} (h : Rp G v d) (t : RpL G vs ds) : RpL G (v :: vs) (d :: ds)
inductive RpK (G : Hp) : List (Key × V) → List (Key × D) → Prop
  | nil : RpK G [] []
  | cons {k : Key} {v : V} {d : D} {vs : List (Key × V)} {ds : List (Key × D)} (h : Rp G v d) (t : RpK G vs ds) : RpK G ((k, v) :: vs) ((k, d) :: ds)
inductive RpF (G : Hp) : List (Str × V) → List (Str × D) → Prop
  | nil : RpF G [] []
  | cons {k : Str} {v : V} {d : D} {vs : List (Str × V)} {ds : List (Str × D)} (h : Rp G v d) (t : RpF G vs ds) : RpF G ((k, v) :: vs) ((k, d) :: ds)
end
end
theorem SqL.ext {K : PySem.W.Frag} {H H' : Hp} {a : Addr} {xs : List V} (e : LamX.ExtN H H') (h : SqL K H a xs) : SqL K H' a xs := by
  rcases h with (h | ⟨u, h⟩) | hk
  · exact .inl (.inl (e _ _ h fun _ z => by cases z))
  · exact .inl (.inr ⟨u, e _ _ h fun _ z => by cases z⟩)
  · exact .inr hk
theorem SqT.ext {K : PySem.W.Frag} {H H' : Hp} {a : Addr} {xs : List V} (e : LamX.ExtN H H') (h : SqT K H a xs) : SqT K H' a xs := by
  rcases h with (h | ⟨u, h⟩) | hk
  · exact .inl (.inl (e _ _ h fun _ z => by cases z))
  · exact .inl (.inr ⟨u, e _ _ h fun _ z => by cases z⟩)
  · exact .inr hk
section
variable {K : PySem.W.Frag} {ca : Str → Option Addr} {ρ ρ' : List Addr} {G G' : Hp}
mutual
theorem Rp.mono (r : ∀ (k : Nat) (a : Addr), ρ[k]? = some a → ρ'[k]? = some a) (e : LamX.ExtN G G') : ∀ {v : V} {d : D}, Rp K ca ρ G v d → Rp K ca ρ' G' v d
  | _, _, .non => .non
  | _, _, .bl => .bl
  | _, _, .int => .int
  | _, _, .str => .str
  | _, _, .tup h p => .tup (SqT.ext e h) (RpL.mono r e p)
  | _, _, .lst h p => .lst (e _ _ h fun _ z => by cases z) (RpL.mono r e p)
  | _, _, .dct h p => .dct (e _ _ h fun _ z => by cases z) (RpK.mono r e p)
  | _, _, .obj c h p => .obj c (e _ _ h fun _ z => by cases z) (RpF.mono r e p)
  | _, _, .mt h => .mt (r _ _ h)
theorem RpL.mono (r : ∀ (k : Nat) (a : Addr), ρ[k]? = some a → ρ'[k]? = some a) (e : LamX.ExtN G G') : ∀ {v : List V} {d : List D}, RpL K ca ρ G v d → RpL K ca ρ' G' v d
  | _, _, .nil => .nil
  | _, _, .cons h p => .cons (Rp.mono r e h) (RpL.mono r e p)
theorem RpK.mono (r : ∀ (k : Nat) (a : Addr), ρ[k]? = some a → ρ'[k]? = some a) (e : LamX.ExtN G G') : ∀ {v : List (Key × V)} {d : List (Key × D)}, RpK K ca ρ G v d → RpK K ca ρ' G' v d
  | _, _, .nil => .nil
  | _, _, .cons h p => .cons (Rp.mono r e h) (RpK.mono r e p)
theorem RpF.mono (r : ∀ (k : Nat) (a : Addr), ρ[k]? = some a → ρ'[k]? = some a) (e : LamX.ExtN G G') : ∀ {v : List (Str × V)} {d : List (Str × D)}, RpF K ca ρ G v d → RpF K ca ρ' G' v d
  | _, _, .nil => .nil
  | _, _, .cons h p => .cons (Rp.mono r e h) (RpF.mono r e p)
end
theorem RpL.length : ∀ {vs : List V} {ds : List D}, RpL K ca ρ G vs ds → vs.length = ds.length
  | _, _, .nil => rfl
  | _, _, .cons _ t => congrArg Nat.succ (RpL.length t)
theorem RpL.get : ∀ {vs : List V} {ds : List D} {i : Nat} {d : D}, RpL K ca ρ G vs ds → ds[i]? = some d → ∃ v, vs[i]? = some v ∧ Rp K ca ρ G v d
  | _, _, _, _, .nil, e => by simp at e
  | _, _, 0, _, .cons h _, e => by simp at e; subst e; exact ⟨_, rfl, h⟩
  | _, _, i + 1, _, .cons _ t, e => by simpa using RpL.get (i := i) t (by simpa using e)
theorem RpL.append : ∀ {vs ws : List V} {ds es : List D}, RpL K ca ρ G vs ds → RpL K ca ρ G ws es → RpL K ca ρ G (vs ++ ws) (ds ++ es)
  | _, _, _, _, .nil, s => s
  | _, _, _, _, .cons h t, s => .cons h (RpL.append t s)
theorem RpL.set {v : V} {d : D} (h : Rp K ca ρ G v d) : ∀ {vs : List V} {ds : List D} (i : Nat), RpL K ca ρ G vs ds → RpL K ca ρ G (vs.set i v) (ds.set i d)
  | _, _, _, .nil => .nil
  | _, _, 0, .cons _ t => .cons h t
  | _, _, i + 1, .cons g t => .cons g (RpL.set h i t)
theorem RpL.take : ∀ {vs : List V} {ds : List D} (n : Nat), RpL K ca ρ G vs ds → RpL K ca ρ G (vs.take n) (ds.take n)
  | _, _, 0, _ => .nil
  | _, _, _ + 1, .nil => .nil
  | _, _, n + 1, .cons h t => .cons h (RpL.take n t)
theorem RpL.drop : ∀ {vs : List V} {ds : List D} (n : Nat), RpL K ca ρ G vs ds → RpL K ca ρ G (vs.drop n) (ds.drop n)
  | _, _, 0, h => h
  | _, _, _ + 1, .nil => .nil
  | _, _, n + 1, .cons _ t => RpL.drop n t
theorem RpL.reverse : ∀ {vs : List V} {ds : List D}, RpL K ca ρ G vs ds → RpL K ca ρ G vs.reverse ds.reverse
  | _, _, .nil => .nil
  | _, _, .cons h t => by
    rw [List.reverse_cons, List.reverse_cons]
    exact RpL.append (RpL.reverse t) (.cons h .nil)
end
open Classical in
noncomputable def hid (Z : Addr → Prop) (H : Hp) : Hp := fun b => if Z b then none else H b
theorem hid_iff {Z : Addr → Prop} {H : Hp} {b : Addr} {o : HO} : hid Z H b = some o ↔ ¬ Z b ∧ H b = some o := by
  unfold hid
  split
  · rename_i h; exact ⟨fun z => (by cases z), fun z => absurd h z.1⟩
  · rename_i h; exact ⟨fun z => ⟨h, z⟩, fun z => z.2⟩
section
variable (K : PySem.W.Frag) (ca : Str → Option Addr) (ρ : List Addr)
/-- the thing at a, its parts being told by G -/
def Top (G H : Hp) (a : Addr) : D → Prop
  | .lst ds => ∃ vs, H a = some (.lst vs) ∧ RpL K ca ρ G vs ds
  | .dct ds => ∃ vs, H a = some (.dK vs) ∧ RpK K ca ρ G vs ds
  | .obj c ds => ∃ C dx vs, ca c = some C ∧ H a = some (.ins C dx vs) ∧ RpF K ca ρ G vs ds
  | _ => False
def SrL (G H : Hp) : List Addr → Sto → Prop
  | [], [] => True
  | a :: r, d :: S => Top K ca ρ G H a d ∧ SrL G H r S
  | _, _ => False
/-- the world: what may not be touched (Xs), the things that change -/
structure Sta (Xs : Addr → Prop) (H : Hp) (S : Sto) : Prop where
  live : ∀ b, (Xs b ∨ b ∈ ρ) → ¬ Nw H b
  nd : ρ.Nodup
  xr : ∀ b ∈ ρ, ¬ Xs b
  sto : SrL K ca ρ (hid (fun b => Xs b ∨ b ∈ ρ) H) H ρ S
end
variable [TQ]
/-- from one heap to a later one: all stays but what may change (ρ, Z), tables grow -/
structure Gr (ρ : List Addr) (Z : Addr → Prop) (H : Hp) (ρ' : List Addr) (H' : Hp) : Prop where
  ext : ∃ N, ρ' = ρ ++ N ∧ ∀ b ∈ N, Nw H b
  keep : ∀ b o, b ∉ ρ → ¬ Z b → (∀ ps, o ≠ .tbl ps) → H b = some o → H' b = some o
  alive : ∀ b, ¬ Nw H b → ¬ Nw H' b
  tabs : ∀ P q, TQ.q P q → LamX.TabS H P q → LamX.TabS H' P q
def NoZ : Addr → Prop := fun _ => False
theorem Gr.refl (ρ : List Addr) (Z : Addr → Prop) (H : Hp) : Gr ρ Z H ρ H := ⟨⟨[], by simp, fun b hb => (by cases hb)⟩, fun _ _ _ _ _ e => e, fun _ e => e, fun _ _ _ t => t⟩
theorem Gr.trans {ρ ρ1 ρ2 : List Addr} {Z Z1 : Addr → Prop} {H H1 H2 : Hp} (a : Gr ρ Z H ρ1 H1) (b : Gr ρ1 Z1 H1 ρ2 H2) (hz : ∀ c, Z1 c → Z c ∨ Nw H c) : Gr ρ Z H ρ2 H2 := by
  obtain ⟨N, e1, n1⟩ := a.ext
  obtain ⟨N2, e2, n2⟩ := b.ext
  refine ⟨⟨N ++ N2, by rw [e2, e1, List.append_assoc], fun c hc => ?_⟩, fun c o h1 h2 h3 h4 => ?_, fun c h => b.alive c (a.alive c h), fun P q n t => b.tabs P q n (a.tabs P q n t)⟩
  · rcases List.mem_append.mp hc with h | h
    · exact n1 c h
    · exact Classical.byContradiction fun z => a.alive c z (n2 c h)
  · refine b.keep c o ?_ ?_ h3 (a.keep c o h1 h2 h3 h4)
    · rw [e1]
      intro hm
      rcases List.mem_append.mp hm with h | h
      · exact h1 h
      · exact (n1 c h).no h4 h3
    · intro hz1
      rcases hz c hz1 with h | h
      · exact h2 h
      · exact h.no h4 h3
theorem Gr.tr {ρ ρ1 ρ2 : List Addr} {Z : Addr → Prop} {H H1 H2 : Hp} (a : Gr ρ Z H ρ1 H1) (b : Gr ρ1 NoZ H1 ρ2 H2) : Gr ρ Z H ρ2 H2 := a.trans b fun _ z => z.elim
theorem Gr.wk {ρ ρ1 : List Addr} {Z : Addr → Prop} {H H1 : Hp} (a : Gr ρ NoZ H ρ1 H1) : Gr ρ Z H ρ1 H1 := ⟨a.ext, fun b o h1 _ h3 h4 => a.keep b o h1 (fun z => z) h3 h4, a.alive, a.tabs⟩
theorem Gr.at {ρ ρ1 : List Addr} {Z : Addr → Prop} {H H1 : Hp} (a : Gr ρ Z H ρ1 H1) : ∀ (k : Nat) (x : Addr), ρ[k]? = some x → ρ1[k]? = some x := fun k x e => by
  obtain ⟨N, e1, _⟩ := a.ext
  rw [e1, List.getElem?_append_left]
  · exact e
  · exact (List.getElem?_eq_some_iff.mp e).1
/-- what is seen stays seen -/
theorem Gr.sees {ρ ρ1 : List Addr} {Y Z Z1 : Addr → Prop} {H H1 : Hp} (a : Gr ρ Y H ρ1 H1) (hy : ∀ b, Y b → Z b ∨ b ∈ ρ) (hz : ∀ b, Z1 b → Z b ∨ Nw H b) : LamX.ExtN (hid (fun b => Z b ∨ b ∈ ρ) H) (hid (fun b => Z1 b ∨ b ∈ ρ1) H1) := by
  intro b o h ht
  obtain ⟨n, e⟩ := hid_iff.mp h
  obtain ⟨N, e1, n1⟩ := a.ext
  refine hid_iff.mpr ⟨fun z => ?_, a.keep b o (fun z => n (.inr z)) (fun z => n (hy b z)) ht e⟩
  rcases z with z | z
  · rcases hz b z with z | z
    · exact n (.inl z)
    · exact z.no e ht
  · rw [e1] at z
    rcases List.mem_append.mp z with z | z
    · exact n (.inr z)
    · exact (n1 b z).no e ht
/-- new objects alone -/
theorem Gr.same {ρ : List Addr} {Z : Addr → Prop} {H H' : Hp} (s : Same H H') : Gr ρ Z H ρ H' := ⟨⟨[], by simp, fun b hb => (by cases hb)⟩, fun b o _ _ _ e => s b o e, fun b h z => h fun o e => z o (s b o e), fun P q _ t => t.ext s⟩
theorem tabS_but {H H' : Hp} {a : Addr} {o : HO} (b : But a H H') (h : H a = some o) (n1 : ∀ ps, o ≠ .tbl ps) (n2 : ∀ φ, o ≠ .ext φ) {P : Addr} {q : Str} (t : LamX.TabS H P q) : LamX.TabS H' P q := by
  obtain ⟨ps, h1, h2, h3⟩ := t
  refine ⟨ps, b _ _ (fun z => ?_) h1, h2, fun pos cv hc => ?_⟩
  · rw [z, h] at h1; exact n1 ps (Option.some.inj h1)
  · obtain ⟨c, e1, e2⟩ := h3 pos cv hc
    refine ⟨c, e1, b _ _ (fun z => ?_) e2⟩
    rw [z, h] at e2
    exact n2 _ (Option.some.inj e2)
/-- the thing at a is changed -/
theorem Gr.but {ρ : List Addr} {Z : Addr → Prop} {H H' : Hp} {a : Addr} {o o' : HO} (b : But a H H') (h : H a = some o) (h' : H' a = some o') (hz : Z a ∨ a ∈ ρ) (n1 : ∀ ps, o ≠ .tbl ps) (n2 : ∀ φ, o ≠ .ext φ) (n1' : ∀ ps, o' ≠ .tbl ps := by intro _ z; cases z) : Gr ρ Z H ρ H' :=
  ⟨⟨[], by simp, fun b hb => (by cases hb)⟩, fun c u h1 h2 _ e => b c u (fun z => by subst z; exact hz.elim h2 h1) e, fun c e => by
    by_cases z : c = a
    · subst z; exact Nw.live h' n1'
    · exact fun n => e fun o eo => n o (b c o z eo), fun P q _ t => tabS_but b h n1 n2 t⟩
section
variable {K : PySem.W.Frag} {ca : Str → Option Addr} {ρ ρ' : List Addr} {G G' H H' : Hp} {a : Addr}
theorem Top.mono {d : D} (r : ∀ (k : Nat) (a : Addr), ρ[k]? = some a → ρ'[k]? = some a) (e : LamX.ExtN G G') (k : ∀ o, (∀ ps, o ≠ .tbl ps) → H a = some o → H' a = some o) (h : Top K ca ρ G H a d) : Top K ca ρ' G' H' a d := by
  cases d <;> first | exact h.elim | skip
  · obtain ⟨vs, h1, h2⟩ := h; exact ⟨vs, k _ (fun _ z => by cases z) h1, RpL.mono r e h2⟩
  · obtain ⟨vs, h1, h2⟩ := h; exact ⟨vs, k _ (fun _ z => by cases z) h1, RpK.mono r e h2⟩
  · obtain ⟨C, dx, vs, h0, h1, h2⟩ := h; exact ⟨C, dx, vs, h0, k _ (fun _ z => by cases z) h1, RpF.mono r e h2⟩
theorem SrL.mono (r : ∀ (k : Nat) (a : Addr), ρ[k]? = some a → ρ'[k]? = some a) (e : LamX.ExtN G G') : ∀ {l : List Addr} {S : Sto}, (∀ a ∈ l, ∀ o, (∀ ps, o ≠ .tbl ps) → H a = some o → H' a = some o) → SrL K ca ρ G H l S → SrL K ca ρ' G' H' l S
  | [], [], _, _ => trivial
  | a :: l, d :: S, k, ⟨h, t⟩ => ⟨Top.mono r e (k a (List.mem_cons_self ..)) h, SrL.mono r e (fun b hb => k b (List.mem_cons_of_mem _ hb)) t⟩
  | [], _ :: _, _, h => h.elim
  | _ :: _, [], _, h => h.elim
theorem SrL.get : ∀ {l : List Addr} {S : Sto} {k : Nat}, SrL K ca ρ G H l S → l[k]? = some a → ∃ d, S[k]? = some d ∧ Top K ca ρ G H a d
  | [], _, _, _, e => by simp at e
  | b :: l, [], _, h, _ => h.elim
  | b :: l, d :: S, 0, ⟨h, _⟩, e => by simp at e; subst e; exact ⟨d, rfl, h⟩
  | b :: l, d :: S, k + 1, ⟨_, t⟩, e => by simpa using SrL.get (k := k) t (by simpa using e)
theorem SrL.len : ∀ {l : List Addr} {S : Sto}, SrL K ca ρ G H l S → l.length = S.length
  | [], [], _ => rfl
  | _ :: _, _ :: _, ⟨_, t⟩ => congrArg Nat.succ (SrL.len t)
  | [], _ :: _, h => h.elim
  | _ :: _, [], h => h.elim
theorem SrL.append : ∀ {l m : List Addr} {S T : Sto}, SrL K ca ρ G H l S → SrL K ca ρ G H m T → SrL K ca ρ G H (l ++ m) (S ++ T)
  | [], _, [], _, _, h => h
  | _ :: _, _, _ :: _, _, ⟨h, t⟩, s => ⟨h, SrL.append t s⟩
  | [], _, _ :: _, _, h, _ => h.elim
  | _ :: _, _, [], _, h, _ => h.elim
/-- the world seen with less hidden -/
theorem Sta.wk {Xs Ys : Addr → Prop} {S : Sto} (h : Sta K ca ρ Xs H S) (w : ∀ b, Ys b → Xs b) : Sta K ca ρ Ys H S :=
  ⟨fun b z => h.live b (z.imp (w b) id), h.nd, fun b hb z => h.xr b hb (w b z), SrL.mono (fun _ _ e => e) (fun b o e ht => by
    obtain ⟨n, e⟩ := hid_iff.mp e
    exact hid_iff.mpr ⟨fun z => n (z.imp (w b) id), e⟩) (fun _ _ _ _ e => e) h.sto⟩
end
/-- what stands through the def's run: where classes stand, the heap at the entry, what may not be touched, what changes, what is wanted of an error -/
structure Fr where
  K : PySem.W.Frag
  ca : Str → Option Addr
  ce : Str → Option Addr
  H0 : Hp
  Xs : Addr → Prop
  R0 : List Addr
  W : XK
  /-- where the own thing of slot 0 stands, in an __init__ -/
  own0 : Option Addr
def Own (B : Nat → Option Addr) (b : Addr) : Prop := ∃ i, B i = some b
def Zf (F : Fr) (ρ : List Addr) : Addr → Prop := fun b => F.Xs b ∨ b ∈ ρ
def Zo (F : Fr) (B : Nat → Option Addr) (ρ : List Addr) : Addr → Prop := fun b => (F.Xs b ∨ Own B b) ∨ b ∈ ρ
structure End (F : Fr) (ρ : List Addr) (H : Hp) (S : Sto) : Prop where
  gr : Gr F.R0 NoZ F.H0 ρ H
  sta : Sta F.K F.ca ρ F.Xs H S
def SlAt (F : Fr) (B : Nat → Option Addr) (ρ : List Addr) (H : Hp) (σ : L2.St) (i : Nat) (d : D) : Prop := match B i with
  | none => ∃ v, σ[i]? = some (some v) ∧ Rp F.K F.ca ρ (hid (Zo F B ρ) H) v d
  | some a => σ[i]? = some (some (.ref a)) ∧ Top F.K F.ca ρ (hid (Zo F B ρ) H) H a d
/-- a point within the def: O the slots whose things are the def's own (and may be changed by it), B where they stand -/
structure Rel (F : Fr) (O : List Nat) (B : Nat → Option Addr) (ρ : List Addr) (σ : L2.St) (H : Hp) (δ : DEnv) (S : Sto) : Prop where
  gr : Gr F.R0 NoZ F.H0 ρ H
  sta : Sta F.K F.ca ρ (fun b => F.Xs b ∨ Own B b) H S
  bnew : ∀ b, Own B b → Nw F.H0 b
  oxs : ∀ b, Own B b → ¬ F.Xs b
  binj : ∀ i j b, B i = some b → B j = some b → i = j
  own : ∀ i, (∃ a, B i = some a) ↔ i ∈ O
  ownd : ∀ i a, B i = some a → ∃ d, δ[i]? = some (some d)
  zero : ∀ p, F.own0 = some p → B 0 = some p ∨ B 0 = none
  len : σ.length = δ.length
  slot : ∀ i d, δ[i]? = some (some d) → SlAt F B ρ H σ i d
def ErrAt (F : Fr) (ρ : List Addr) (H : Hp) (cls : Value) (dd : Option Addr) (e : Ex) : Prop :=
  ∃ C, cls = .ref C ∧ F.ce e.c = some C ∧ ((e.fs = [] ∧ dd = none) ∨ (e.fs ≠ [] ∧ ∃ x vs, dd = some x ∧ H x = some (.xd vs) ∧ RpF F.K F.ca ρ (hid (Zf F ρ) H) vs e.fs))
/-- what comes of a run: never none; an error is wanted -/
def Ok1 {α : Type} (F : Fr) (r : Option (Except Ex α × Sto)) (P : α → Sto → Prop) : Prop := match r with
  | none => False
  | some (.error e, S') => ∀ cls dd H' ρ', End F ρ' H' S' → ErrAt F ρ' H' cls dd e → F.W cls dd H'
  | some (.ok a, S') => P a S'
theorem Ok1.bind {α β : Type} {F : Fr} {m : M α} {f : α → M β} {S : Sto} {P : β → Sto → Prop} (h : Ok1 F ((m >>= f) S) P) : Ok1 F (m S) (fun a S' => Ok1 F (f a S') P) := by
  unfold Ok1
  cases e : m S with
  | none => rw [M.bind_none e] at h; exact h
  | some p =>
    obtain ⟨r, S'⟩ := p
    cases r with
    | error x => rw [M.bind_err e] at h; exact h
    | ok a => rw [M.bind_ok e] at h; exact h
theorem Ok1.imp {α : Type} {F : Fr} {r : Option (Except Ex α × Sto)} {P Q : α → Sto → Prop} (h : Ok1 F r P) (w : ∀ a S, P a S → Q a S) : Ok1 F r Q := by
  unfold Ok1 at *
  split
  · exact h
  · exact h
  · exact w _ _ h
theorem Ok1.pure {α : Type} {F : Fr} {a : α} {S : Sto} {P : α → Sto → Prop} (h : Ok1 F ((pure a : M α) S) P) : P a S := h
theorem Ok1.opt {α : Type} {F : Fr} {o : Option α} {S : Sto} {P : α → Sto → Prop} (h : Ok1 F (M.opt o S) P) : ∃ a, o = some a ∧ P a S := by
  cases o with
  | none => exact h.elim
  | some a => exact ⟨a, rfl, h⟩
theorem Ok1.stuck {α : Type} {F : Fr} {S : Sto} {P : α → Sto → Prop} (h : Ok1 F ((M.stuck : M α) S) P) : False := h
section
variable {F : Fr} {O O' : List Nat} {B B' : Nat → Option Addr} {ρ ρ' : List Addr} {σ σ' : L2.St} {H H' : Hp} {δ δ' : DEnv} {S S' : Sto}
theorem Rel.end (r : Rel F O B ρ σ H δ S) : End F ρ H S := ⟨r.gr, r.sta.wk fun _ h => .inl h⟩
/-- the heap has grown, the things that change are as S' says -/
theorem Rel.step (r : Rel F O B ρ σ H δ S) (g : Gr ρ NoZ H ρ' H') (s : Sta F.K F.ca ρ' (fun b => F.Xs b ∨ Own B b) H' S') : Rel F O B ρ' σ H' δ S' := by
  refine ⟨r.gr.tr g, s, r.bnew, r.oxs, r.binj, r.own, r.ownd, r.zero, r.len, fun i d e => ?_⟩
  have z := r.slot i d e
  have sees : LamX.ExtN (hid (Zo F B ρ) H) (hid (Zo F B ρ') H') := g.sees (fun _ z => z.elim) fun b h => .inl h
  unfold SlAt at *
  cases eb : B i with
  | none =>
    rw [eb] at z
    obtain ⟨v, h1, h2⟩ := z
    exact ⟨v, h1, h2.mono g.at sees⟩
  | some a =>
    rw [eb] at z
    refine ⟨z.1, z.2.mono g.at sees fun o ht e => g.keep a o (fun hm => r.sta.xr a hm (.inr ⟨i, eb⟩)) (fun z => z) ht e⟩
theorem Sta.same {K : PySem.W.Frag} {ca : Str → Option Addr} {Xs : Addr → Prop} (s : Sta K ca ρ Xs H S) (e : Same H H') : Sta K ca ρ Xs H' S := by
  have g : Gr ρ NoZ H ρ H' := Gr.same e
  refine ⟨fun b h => g.alive b (s.live b h), s.nd, s.xr, SrL.mono (fun _ _ e => e) (g.sees (fun _ z => z.elim) fun b h => .inl h) (fun a _ o _ h => e a o h) s.sto⟩
/-- new objects alone -/
theorem Rel.same (r : Rel F O B ρ σ H δ S) (e : Same H H') : Rel F O B ρ σ H' δ S := r.step (Gr.same e) (r.sta.same e)
end
/-- what is known of a value: tr: it may be one of the def's own things; fz: it is none of these; nw: a new thing -/
inductive Md | tr | fz | nw
  deriving DecidableEq
def Res (F : Fr) (m : Md) (B : Nat → Option Addr) (ρ : List Addr) (H H' : Hp) (S : Sto) (v : V) (d : D) : Prop := match m with
  | .tr => Rp F.K F.ca ρ (hid (Zf F ρ) H') v d
  | .fz => Rp F.K F.ca ρ (hid (Zo F B ρ) H') v d
  | .nw => ∃ a, v = .ref a ∧ Nw H a ∧ a ∉ ρ ∧ Sta F.K F.ca ρ (fun b => (F.Xs b ∨ Own B b) ∨ b = a) H' S ∧ Top F.K F.ca ρ (hid (fun b => Zo F B ρ b ∨ b = a) H') H' a d
/-- a value as it comes in -/
def Rin (F : Fr) (m : Md) (B : Nat → Option Addr) (ρ : List Addr) (H : Hp) (v : V) (d : D) : Prop := match m with
  | .tr => Rp F.K F.ca ρ (hid (Zf F ρ) H) v d
  | _ => Rp F.K F.ca ρ (hid (Zo F B ρ) H) v d
def RinL (F : Fr) (m : Md) (B : Nat → Option Addr) (ρ : List Addr) (H : Hp) (v : List V) (d : List D) : Prop := match m with
  | .tr => RpL F.K F.ca ρ (hid (Zf F ρ) H) v d
  | _ => RpL F.K F.ca ρ (hid (Zo F B ρ) H) v d
def dE (F : Fr) (O : List Nat) (m : Md) (t : DEnv → M D) : TE := fun σ H Q => ∃ B ρ δ S, Rel F O B ρ σ H δ S ∧
  Ok1 F (t δ S) fun d S' => ∀ v H' ρ', Rel F O B ρ' σ H' δ S' → Gr ρ NoZ H ρ' H' → Res F m B ρ' H H' S' v d → Q v H'
def dA (F : Fr) (O : List Nat) (m : Md) (t : DEnv → M (List D)) : TA := fun σ H Q => ∃ B ρ δ S, Rel F O B ρ σ H δ S ∧
  Ok1 F (t δ S) fun d S' => ∀ v H' ρ', Rel F O B ρ' σ H' δ S' → Gr ρ NoZ H ρ' H' → RinL F m B ρ' H' v d → Q v H'
def dT (F : Fr) (O : List Nat) (t : DEnv → M Bool) : TT := fun σ H Q => ∃ B ρ δ S, Rel F O B ρ σ H δ S ∧
  Ok1 F (t δ S) fun b S' => ∀ H' ρ', Rel F O B ρ' σ H' δ S' → Gr ρ NoZ H ρ' H' → Q b H'
inductive Fl | nx | bk | ct | rt (d : D)
def dS (F : Fr) (O O' OL : List Nat) (t : DEnv → M (DEnv × Fl)) : TS := fun Dn σ H => ∃ B ρ δ S, Rel F O B ρ σ H δ S ∧
  Ok1 F (t δ S) fun p S' => match p.2 with
    | .nx => ∀ σ' H' B' ρ', Rel F O' B' ρ' σ' H' p.1 S' → Gr ρ (Own B) H ρ' H' → (∀ b, Own B' b → Own B b ∨ Nw H b) → Dn.nx σ' H'
    | .bk => ∀ σ' H' B' ρ', Rel F OL B' ρ' σ' H' p.1 S' → Gr ρ (Own B) H ρ' H' → (∀ b, Own B' b → Own B b ∨ Nw H b) → Dn.bk σ' H'
    | .ct => ∀ σ' H' B' ρ', Rel F OL B' ρ' σ' H' p.1 S' → Gr ρ (Own B) H ρ' H' → (∀ b, Own B' b → Own B b ∨ Nw H b) → Dn.ct σ' H'
    | .rt d => ∀ v H' ρ', End F ρ' H' S' → Rp F.K F.ca ρ' (hid (Zf F ρ') H') v d → Dn.rt v H'
/-- a target: the value comes in, the slots go out -/
def dG (F : Fr) (O O' : List Nat) (t : D → DEnv → M DEnv) : TG := fun v σ H R => ∃ B ρ δ S d, Rel F O B ρ σ H δ S ∧ Rin F .fz B ρ H v d ∧
  Ok1 F (t d δ S) fun δ' S' => ∀ σ' H' B' ρ', Rel F O' B' ρ' σ' H' δ' S' → Gr ρ (Own B) H ρ' H' → (∀ b, Own B' b → Own B b ∨ Nw H b) → R σ' H'
abbrev PED (X : Cx) (F : Fr) (O : List Nat) (m : Md) (e : Expr) (t : DEnv → M D) : Prop := PE X e (dE F O m t)
abbrev PAD (X : Cx) (F : Fr) (O : List Nat) (m : Md) (e : List Expr) (t : DEnv → M (List D)) : Prop := PA X e (dA F O m t)
abbrev PTD (X : Cx) (F : Fr) (O : List Nat) (e : Expr) (t : DEnv → M Bool) : Prop := PT X e (dT F O t)
abbrev PWD (X : Cx) (F : Fr) (O : List Nat) (e : Expr) (t : DEnv → M Bool) : Prop := PW X e (dT F O t)
abbrev PSD (X : Cx) (F : Fr) (O O' OL : List Nat) (s : Stmt) (t : DEnv → M (DEnv × Fl)) : Prop := PS X s (dS F O O' OL t)
abbrev PSsD (X : Cx) (F : Fr) (O O' OL : List Nat) (s : List Stmt) (t : DEnv → M (DEnv × Fl)) : Prop := PSs X s (dS F O O' OL t)
abbrev PGD (X : Cx) (F : Fr) (O O' : List Nat) (e : Expr) (t : D → DEnv → M DEnv) : Prop := PG X e (dG F O O' t)
section
variable {F : Fr} {O O' : List Nat} {B B' : Nat → Option Addr} {ρ ρ' : List Addr} {σ σ' : L2.St} {H H' H1 : Hp} {δ δ' : DEnv} {S S' : Sto} {v : V} {d : D}
theorem zf_zo {b : Addr} (h : Zf F ρ b) : Zo F B ρ b := h.imp .inl id
theorem seesZ (H : Hp) : LamX.ExtN (hid (Zo F B ρ) H) (hid (Zf F ρ) H) := fun b o e _ => by
  obtain ⟨n, e⟩ := hid_iff.mp e
  exact hid_iff.mpr ⟨fun z => n (zf_zo z), e⟩
theorem Rin.wk {m : Md} (h : Rin F m B ρ H v d) : Rin F .tr B ρ H v d := by
  cases m
  · exact h
  · exact Rp.mono (fun _ _ e => e) (seesZ H) h
  · exact Rp.mono (fun _ _ e => e) (seesZ H) h
theorem Gr.seesF (g : Gr ρ NoZ H ρ' H') : LamX.ExtN (hid (Zf F ρ) H) (hid (Zf F ρ') H') := g.sees (fun _ z => z.elim) fun b h => .inl h
theorem Gr.seesO (g : Gr ρ NoZ H ρ' H') : LamX.ExtN (hid (Zo F B ρ) H) (hid (Zo F B ρ') H') := g.sees (fun _ z => z.elim) fun b h => .inl h
theorem Rin.gr {m : Md} (h : Rin F m B ρ H v d) (g : Gr ρ NoZ H ρ' H') : Rin F m B ρ' H' v d := by
  cases m
  · exact Rp.mono g.at g.seesF h
  · exact Rp.mono g.at g.seesO h
  · exact Rp.mono g.at g.seesO h
theorem RinL.gr {m : Md} {v : List V} {d : List D} (h : RinL F m B ρ H v d) (g : Gr ρ NoZ H ρ' H') : RinL F m B ρ' H' v d := by
  cases m
  · exact RpL.mono g.at g.seesF h
  · exact RpL.mono g.at g.seesO h
  · exact RpL.mono g.at g.seesO h
theorem RinL.nil {m : Md} : RinL F m B ρ H [] [] := by cases m <;> exact RpL.nil
theorem RinL.cons {m : Md} {vs : List V} {ds : List D} (h : Rin F m B ρ H v d) (t : RinL F m B ρ H vs ds) : RinL F m B ρ H (v :: vs) (d :: ds) := by
  cases m <;> exact RpL.cons h t
theorem RinL.wk {m : Md} {vs : List V} {ds : List D} (h : RinL F m B ρ H vs ds) : RinL F .tr B ρ H vs ds := by
  cases m
  · exact h
  · exact RpL.mono (fun _ _ e => e) (seesZ H) h
  · exact RpL.mono (fun _ _ e => e) (seesZ H) h
theorem RinL.out {m : Md} {v : List V} {ds : List D} (h : RinL F m B ρ H v ds) : (∃ G, (∀ b o, G b = some o → H b = some o) ∧ RpL F.K F.ca ρ G v ds) := by
  cases m
  · exact ⟨_, fun b o e => (hid_iff.mp e).2, h⟩
  · exact ⟨_, fun b o e => (hid_iff.mp e).2, h⟩
  · exact ⟨_, fun b o e => (hid_iff.mp e).2, h⟩
/-- a result as something that comes in -/
theorem Res.rin {m : Md} (r : Rel F O B ρ σ H δ S) (h : Res F m B ρ' H H' S' v d) : Rin F m B ρ' H' v d := by
  cases m
  · exact h
  · exact h
  · obtain ⟨a, rfl, n, na, sz, t⟩ := h
    have no : ¬ Zo F B ρ' a := fun z => by
      rcases z with (z | z) | z
      · exact r.sta.live a (.inl (.inl z)) n
      · exact r.sta.live a (.inl (.inr z)) n
      · exact na z
    have see : LamX.ExtN (hid (fun b => Zo F B ρ' b ∨ b = a) H') (hid (Zo F B ρ') H') := fun b o e _ => by
      obtain ⟨n, e⟩ := hid_iff.mp e
      exact hid_iff.mpr ⟨fun z => n (.inl z), e⟩
    cases d <;> first | exact t.elim | skip
    · obtain ⟨vs, h1, h2⟩ := t
      exact .lst (hid_iff.mpr ⟨no, h1⟩) (RpL.mono (fun _ _ e => e) see h2)
    · obtain ⟨vs, h1, h2⟩ := t
      exact .dct (hid_iff.mpr ⟨no, h1⟩) (RpK.mono (fun _ _ e => e) see h2)
    · obtain ⟨C, dx, vs, h0, h1, h2⟩ := t
      exact .obj h0 (hid_iff.mpr ⟨no, h1⟩) (RpF.mono (fun _ _ e => e) see h2)
/-- a plain value -/
def scalD : D → Bool
  | .non => true | .bl _ => true | .int _ => true | .str _ => true | _ => false
def scV : D → V
  | .non => .non | .bl b => .bl b | .int i => .int i | .str x => .str x | _ => .non
theorem scV_rin {m : Md} (h : scalD d = true) : Rin F m B ρ H (scV d) d := by
  cases d <;> first | cases h | skip
  all_goals (cases m <;> constructor)
theorem scV_res {m : Md} (h : scalD d = true) (hm : m ≠ .nw) : Res F m B ρ H H' S (scV d) d := by
  cases m
  · exact scV_rin (m := .tr) (B := B) h
  · exact scV_rin (m := .fz) h
  · exact absurd rfl hm
end
section
variable {X : Cx} {F : Fr} {O O' O1 O2 OL : List Nat}
/-- a value of any kind may be taken for one of the def's own -/
theorem pd_wk {m : Md} {e : Expr} {t : DEnv → M D} (h : PED X F O m e t) : PED X F O .tr e t := pe_imp h fun σ H Q ⟨B, ρ, δ, S, r, q⟩ => ⟨B, ρ, δ, S, r, q.imp fun d S' k v H' ρ' r' g z => k v H' ρ' r' g (Rin.wk (m := m) (Res.rin r z))⟩
theorem pd_fz {e : Expr} {t : DEnv → M D} (h : PED X F O .nw e t) : PED X F O .fz e t := pe_imp h fun σ H Q ⟨B, ρ, δ, S, r, q⟩ => ⟨B, ρ, δ, S, r, q.imp fun d S' k v H' ρ' r' g z => k v H' ρ' r' g (Res.rin (m := .nw) r z)⟩
end
end Fg
namespace Fg
open PySem PySem.Spec PyProof.Rows L2
variable [TQ]
section
variable {F : Fr} {O : List Nat} {B : Nat → Option Addr} {ρ : List Addr} {σ : L2.St} {H H' : Hp} {δ : DEnv} {S : Sto} {v : V} {d : D} {m : Md}
theorem Rin.rp (h : Rin F m B ρ H v d) : ∃ G, (∀ b o, G b = some o → H b = some o) ∧ Rp F.K F.ca ρ G v d := by
  cases m <;> exact ⟨_, fun b o e => (hid_iff.mp e).2, h⟩
theorem Rin.int {i : Int} (h : Rin F m B ρ H v (.int i)) : v = .int i := by obtain ⟨G, _, h⟩ := h.rp; cases h; rfl
theorem Rin.str {i : Str} (h : Rin F m B ρ H v (.str i)) : v = .str i := by obtain ⟨G, _, h⟩ := h.rp; cases h; rfl
theorem Rin.bl {i : Bool} (h : Rin F m B ρ H v (.bl i)) : v = .bl i := by obtain ⟨G, _, h⟩ := h.rp; cases h; rfl
theorem Rin.non (h : Rin F m B ρ H v .non) : v = .non := by obtain ⟨G, _, h⟩ := h.rp; cases h; rfl
theorem Rin.scal (hs : scalD d = true) (h : Rin F m B ρ H v d) : v = scV d := by
  cases d <;> first | cases hs | skip
  · exact h.non
  · exact h.bl
  · exact h.int
  · exact h.str
theorem Rin.lst {ds : List D} (h : Rin F m B ρ H v (.lst ds)) : ∃ a vs, v = .ref a ∧ H a = some (.lst vs) ∧ RinL F m B ρ H vs ds := by
  cases m <;> (cases h with | lst h p => exact ⟨_, _, rfl, (hid_iff.mp h).2, p⟩)
theorem Rin.tup {ds : List D} (h : Rin F m B ρ H v (.tup ds)) : ∃ a vs, v = .ref a ∧ SqT F.K H a vs ∧ RinL F m B ρ H vs ds := by
  cases m <;> (cases h with | tup h p => exact ⟨_, _, rfl, SqT.ext (fun b o e _ => (hid_iff.mp e).2) h, p⟩)
def RinK (F : Fr) (m : Md) (B : Nat → Option Addr) (ρ : List Addr) (H : Hp) (v : List (Key × V)) (d : List (Key × D)) : Prop := match m with
  | .tr => RpK F.K F.ca ρ (hid (Zf F ρ) H) v d
  | _ => RpK F.K F.ca ρ (hid (Zo F B ρ) H) v d
def RinF (F : Fr) (m : Md) (B : Nat → Option Addr) (ρ : List Addr) (H : Hp) (v : List (Str × V)) (d : List (Str × D)) : Prop := match m with
  | .tr => RpF F.K F.ca ρ (hid (Zf F ρ) H) v d
  | _ => RpF F.K F.ca ρ (hid (Zo F B ρ) H) v d
theorem Rin.dct {ds : List (Key × D)} (h : Rin F m B ρ H v (.dct ds)) : ∃ a vs, v = .ref a ∧ H a = some (.dK vs) ∧ RinK F m B ρ H vs ds := by
  cases m <;> (cases h with | dct h p => exact ⟨_, _, rfl, (hid_iff.mp h).2, p⟩)
theorem Rin.obj {c : Str} {ds : List (Str × D)} (h : Rin F m B ρ H v (.obj c ds)) : ∃ a C dx vs, v = .ref a ∧ F.ca c = some C ∧ H a = some (.ins C dx vs) ∧ RinF F m B ρ H vs ds := by
  cases m <;> (cases h with | obj e h p => exact ⟨_, _, _, _, rfl, e, (hid_iff.mp h).2, p⟩)
theorem Rin.mt {k : Nat} (h : Rin F m B ρ H v (.mt k)) : ∃ a, v = .ref a ∧ ρ[k]? = some a := by obtain ⟨G, _, h⟩ := h.rp; cases h with | mt h => exact ⟨_, rfl, h⟩
theorem RinL.len {vs : List V} {ds : List D} (h : RinL F m B ρ H vs ds) : vs.length = ds.length := by cases m <;> exact RpL.length h
theorem RinL.get {vs : List V} {ds : List D} {i : Nat} (h : RinL F m B ρ H vs ds) (e : ds[i]? = some d) : ∃ v, vs[i]? = some v ∧ Rin F m B ρ H v d := by cases m <;> exact RpL.get h e
theorem RinF.get {c : Str} : ∀ {vs : List (Str × V)} {ds : List (Str × D)}, RinF F m B ρ H vs ds → ds.lookup c = some d → ∃ v, vs.lookup c = some v ∧ Rin F m B ρ H v d := by
  have key : ∀ {G : Hp} {vs : List (Str × V)} {ds : List (Str × D)}, RpF F.K F.ca ρ G vs ds → ds.lookup c = some d → ∃ v, vs.lookup c = some v ∧ Rp F.K F.ca ρ G v d := by
    intro G vs ds h
    induction ds generalizing vs with
    | nil => intro e; cases e
    | cons p ds ih =>
      intro e
      cases h with
      | cons h t =>
        rename_i k v0 d0 vs0
        rw [List.lookup_cons] at e ⊢
        cases ek : (c == k) with
        | true => rw [ek] at e; cases e; exact ⟨_, rfl, h⟩
        | false => rw [ek] at e; exact ih t e
  intro vs ds h e
  cases m <;> exact key h e
/-- a plain result is there -/
theorem Ok1.scal {d : D} {Q : VK} (r : Rel F O B ρ σ H δ S) (hs : scalD d = true) (hm : m ≠ .nw) (h : ∀ v H' ρ', Rel F O B ρ' σ H' δ S → Gr ρ NoZ H ρ' H' → Res F m B ρ' H H' S v d → Q v H') : Q (scV d) H := h _ H ρ r (Gr.refl _ _ _) (scV_res hs hm)
end
def rd (i : Nat) : DEnv → M D := fun δ => M.opt δ[i]?.join
theorem rd_get {α : Type} {l : List (Option α)} {i : Nat} {d : α} (h : l[i]?.join = some d) : l[i]? = some (some d) := by
  cases e : l[i]? with
  | none => rw [e] at h; cases h
  | some x => rw [e] at h; rw [show x = some d from h]
section
variable {X : Cx} {F : Fr} {O O' OL : List Nat} {m mi : Md} {pos : Pos}
theorem pd_var (i : Nat) {x : Str} (hN : X.N[i]? = some x := by rfl) (ho : i ∉ O := by decide) (hv : Vis X.env.scope x := by first | exact Or.inl rfl | exact Or.inr (Or.inl rfl) | exact Or.inr (Or.inr rfl)) (hd : (x == ("__debug__" : Str)) = false := by decide)
    (hcd : (x == ("__classdict__" : Str)) = false := by decide) : PED X F O .fz (.Name x pos) (rd i) := pe_imp (fv i hN hv hd hcd) fun σ H Q ⟨B, ρ, δ, S, r, q⟩ => by
  unfold rd at q
  unfold tV
  obtain ⟨d, e, q⟩ := q.opt
  · have e := rd_get e
    have z := r.slot i d e
    unfold SlAt at z
    have eb : B i = none := by
      cases eb : B i with
      | none => rfl
      | some a => exact absurd ((r.own i).mp ⟨a, eb⟩) ho
    rw [eb] at z
    obtain ⟨v, h1, h2⟩ := z
    rw [h1]
    exact q v H ρ r (Gr.refl _ _ _) h2
theorem pd_varT (i : Nat) {x : Str} (hN : X.N[i]? = some x := by rfl) (hv : Vis X.env.scope x := by first | exact Or.inl rfl | exact Or.inr (Or.inl rfl) | exact Or.inr (Or.inr rfl)) (hd : (x == ("__debug__" : Str)) = false := by decide)
    (hcd : (x == ("__classdict__" : Str)) = false := by decide) : PED X F O .tr (.Name x pos) (rd i) := pe_imp (fv i hN hv hd hcd) fun σ H Q ⟨B, ρ, δ, S, r, q⟩ => by
  unfold rd at q
  unfold tV
  obtain ⟨d, e, q⟩ := q.opt
  · have e := rd_get e
    have z := r.slot i d e
    unfold SlAt at z
    cases eb : B i with
    | none =>
      rw [eb] at z
      obtain ⟨v, h1, h2⟩ := z
      rw [h1]
      exact q v H ρ r (Gr.refl _ _ _) (Rin.wk (m := .fz) (B := B) h2)
    | some a =>
      rw [eb] at z
      obtain ⟨h1, t⟩ := z
      rw [h1]
      have no : ¬ Zf F ρ a := fun z => by
        rcases z with z | z
        · exact r.oxs a ⟨i, eb⟩ z
        · exact r.sta.xr a z (.inr ⟨i, eb⟩)
      refine q _ H ρ r (Gr.refl _ _ _) ?_
      cases d <;> first | exact t.elim | skip
      · obtain ⟨vs, h1, h2⟩ := t
        exact .lst (hid_iff.mpr ⟨no, h1⟩) (RpL.mono (fun _ _ e => e) (seesZ H) h2)
      · obtain ⟨vs, h1, h2⟩ := t
        exact .dct (hid_iff.mpr ⟨no, h1⟩) (RpK.mono (fun _ _ e => e) (seesZ H) h2)
      · obtain ⟨C, dx, vs, h0, h1, h2⟩ := t
        exact .obj h0 (hid_iff.mpr ⟨no, h1⟩) (RpF.mono (fun _ _ e => e) (seesZ H) h2)
/-- a plain constant, from its rule -/
theorem pd_of {e : Expr} {d : D} (h : PE X e (tC (scV d))) (hs : scalD d = true) (hm : m ≠ .nw := by decide) : PED X F O m e (fun _ => pure d) := pe_imp h fun σ H Q ⟨B, ρ, δ, S, r, q⟩ => Ok1.scal r hs hm q
theorem pd_int {i j} (hm : m ≠ .nw := by decide) : PED X F O m (.Constant (.int i) j pos) (fun _ => pure (.int i)) := pd_of pe_int rfl hm
theorem pd_bl {i j} (hm : m ≠ .nw := by decide) : PED X F O m (.Constant (.bool i) j pos) (fun _ => pure (.bl i)) := pd_of pe_bl rfl hm
theorem pd_non {j} (hm : m ≠ .nw := by decide) : PED X F O m (.Constant .none j pos) (fun _ => pure .non) := pd_of pe_non rfl hm
theorem pd_str {i j} (hm : m ≠ .nw := by decide) : PED X F O m (.Constant (.str i) j pos) (fun _ => pure (.str i)) := pd_of pe_str rfl hm
/-- a plain constant of the module -/
theorem pd_g {x : Str} {d : D} (hg : Gl X x) (h : ∃ u, X.mg x = some u ∧ RelV (scV d) u) (hs : scalD d = true) (hm : m ≠ .nw := by decide) (hd : (x == ("__debug__" : Str)) = false := by decide) : PED X F O m (.Name x pos) (fun _ => pure d) := pd_of (fe_g hg h hd) hs hm
/-- a tuple of plain things of the module -/
theorem rpL_scal {K : PySem.W.Frag} {ca : Str → Option Addr} {ρ : List Addr} {G : Hp} : ∀ {ds : List D}, ds.all scalD = true → RpL K ca ρ G (ds.map scV) ds
  | [], _ => .nil
  | d :: ds, h => by
    rw [List.all_cons, Bool.and_eq_true] at h
    refine .cons ?_ (rpL_scal h.2)
    cases d <;> first | exact Rp.non | exact Rp.bl | exact Rp.int | exact Rp.str | exact absurd h.1 Bool.false_ne_true
theorem pd_gT {x : Str} {a : Addr} {ds : List D} (hg : Gl X x) (h : ∃ u, X.mg x = some u ∧ RelV (.ref a) u) (ht : ∀ H, SqT F.K H a (ds.map scV)) (hs : ds.all scalD = true) (hm : m ≠ .nw := by decide) (hd : (x == ("__debug__" : Str)) = false := by decide) :
    PED X F O m (.Name x pos) (fun _ => pure (.tup ds)) := pe_imp (fe_g hg h hd) fun σ H Q ⟨B, ρ, δ, S, r, q⟩ => by
  refine Ok1.pure q _ H ρ r (Gr.refl _ _ _) ?_
  cases m
  · exact .tup (ht _) (rpL_scal hs)
  · exact .tup (ht _) (rpL_scal hs)
  · exact absurd rfl hm
/-- an operator's reading is what f says -/
def OpD (F : Fr) (mi m : Md) (r : R2) (f : D → D → M D) : Prop := ∀ O B ρ σ δ H S x y d e Q, Rel F O B ρ σ H δ S → Rin F mi B ρ H x d → Rin F mi B ρ H y e →
  Ok1 F (f d e S) (fun d' S' => ∀ v H' ρ', Rel F O B ρ' σ H' δ S' → Gr ρ NoZ H ρ' H' → Res F m B ρ' H H' S' v d' → Q v H') → r x y H Q
theorem bin_imp {r : R2} {f : D → D → M D} {ta tb : DEnv → M D} (hf : OpD F mi m r f) (hi : mi ≠ .nw) {σ : L2.St} {H : Hp} {Q : VK} (q : dE F O m (fun δ => do let x ← ta δ; let y ← tb δ; f x y) σ H Q) : tOp r (dE F O mi ta) (dE F O mi tb) σ H Q := by
  obtain ⟨B, ρ, δ, S, r0, q⟩ := q
  refine ⟨B, ρ, δ, S, r0, q.bind.imp fun d1 S1 q1 v1 H1 ρ1 r1 g1 z1 => ?_⟩
  refine ⟨B, ρ1, δ, S1, r1, q1.bind.imp fun d2 S2 q2 v2 H2 ρ2 r2 g2 z2 => ?_⟩
  refine hf O B ρ2 σ δ H2 S2 v1 v2 d1 d2 Q r2 ((Res.rin r0 z1).gr g2) (Res.rin r1 z2) (q2.imp fun d3 S3 k v H3 ρ3 r3 g3 z3 => k v H3 ρ3 r3 ((g1.tr g2).tr g3) ?_)
  cases m
  · exact z3
  · exact z3
  · obtain ⟨a, e, n, na, sz, t⟩ := z3
    refine ⟨a, e, Classical.byContradiction fun z => (g1.tr g2).alive a z n, na, sz, t⟩
variable {a b c : Expr} {ta tb tc : DEnv → M D}
theorem pd_op {op : Operator} {r : R2} {f : D → D → M D} (ho : OpR X (binaryOp op) r) (hf : OpD F mi m r f) (ha : PED X F O mi a ta) (hb : PED X F O mi b tb) (hi : mi ≠ .nw := by decide) : PED X F O m (.BinOp a op b pos) (fun δ => do let x ← ta δ; let y ← tb δ; f x y) :=
  pe_imp (pe_op ho ha hb) fun σ H Q q => bin_imp hf hi q
theorem pd_cmp {op : CmpOp} {r : R2} {f : D → D → M D} (ho : OpR X (compareOp op) r) (hf : OpD F mi m r f) (ha : PED X F O mi a ta) (hb : PED X F O mi b tb) (hm : behindInMarks op b = false) (hi : mi ≠ .nw := by decide) : PED X F O m (.Compare a [op] [b] pos) (fun δ => do let x ← ta δ; let y ← tb δ; f x y) :=
  pe_imp (pe_cmpR ho ha hb hm) fun σ H Q q => bin_imp hf hi q
/-- a plain result of two plain things -/
theorem OpD.scal {r : R2} {g : D → D → Option D} (hm : m ≠ .nw) (h : ∀ x y d H Q, scalD x = true → scalD y = true → g x y = some d → scalD d = true ∧ (Q (scV d) H → r (scV x) (scV y) H Q)) (hg : ∀ x y d, g x y = some d → scalD x = true ∧ scalD y = true) :
    OpD F mi m r (fun x y => M.opt (g x y)) := by
  intro O B ρ σ δ H S x y d e Q r0 hx hy q
  obtain ⟨z, eg, q⟩ := q.opt
  · obtain ⟨s1, s2⟩ := hg _ _ _ eg
    obtain ⟨s3, k⟩ := h d e z H Q s1 s2 eg
    rw [hx.scal s1, hy.scal s2]
    exact k (Ok1.scal r0 s3 hm q)
end
end Fg
namespace Fg
open PySem PySem.Spec PyProof.Rows L2
variable [TQ]
def tbD : D → M Bool
  | .bl b => pure b
  | _ => M.stuck
@[simp] theorem tbD_bl (b : Bool) : tbD (.bl b) = pure b := rfl
def notM (t : DEnv → M Bool) : DEnv → M Bool := fun δ => do let b ← t δ; pure (!b)
def andM (t u : DEnv → M Bool) : DEnv → M Bool := fun δ => do let b ← t δ; if b = true then u δ else pure false
def orM (t u : DEnv → M Bool) : DEnv → M Bool := fun δ => do let b ← t δ; if b = true then pure true else u δ
def andE (t u : DEnv → M D) : DEnv → M D := fun δ => do let x ← t δ; let b ← tbD x; if b = true then u δ else pure (.bl false)
def orE (t u : DEnv → M D) : DEnv → M D := fun δ => do let x ← t δ; let b ← tbD x; if b = true then pure (.bl true) else u δ
def ifE (t : DEnv → M Bool) (u v : DEnv → M D) : DEnv → M D := fun δ => do let b ← t δ; if b = true then u δ else v δ
def teE (t : DEnv → M Bool) : DEnv → M D := fun δ => do let b ← t δ; pure (.bl b)
def tvM (t : DEnv → M D) : DEnv → M Bool := fun δ => do let x ← t δ; tbD x
section
variable {F : Fr} {O : List Nat} {B : Nat → Option Addr} {ρ : List Addr} {σ : L2.St} {H H' : Hp} {δ : DEnv} {S : Sto} {v : V} {d : D} {m : Md}
theorem Ok1.tb {x : D} {P : Bool → Sto → Prop} (h : Ok1 F (tbD x S) P) : ∃ b, x = .bl b ∧ P b S := by
  cases x <;> first | exact h.elim | exact ⟨_, rfl, h⟩
end
section
variable {X : Cx} {F : Fr} {O O' O1 O2 OL : List Nat} {m mi : Md} {pos : Pos} {a b c e : Expr} {rest : List Expr}
theorem pd_tval {t : DEnv → M D} (h : PED X F O .tr e t) (he : ∀ whole, isTrue e X.env whole = (do let v ← whole; standAt e.pos; holding [v] (truthy v)) := by intro _; rfl) : PTD X F O e (tvM t) := pt_imp (ft_val h he) fun σ H Q ⟨B, ρ, δ, S, r, q⟩ =>
  ⟨B, ρ, δ, S, r, q.bind.imp fun d S' k v H' ρ' r' g z => by
    obtain ⟨b, rfl, k⟩ := k.tb
    obtain rfl := Rin.bl (m := .tr) (B := B) z
    exact k H' ρ' r' g⟩
theorem pd_tcmp {op : CmpOp} {r : R2} {f : D → D → M D} {ta tb : DEnv → M D} (ho : OpR X (compareOp op) r) (hf : OpD F .tr .tr r f) (ha : PED X F O .tr a ta) (hb : PED X F O .tr b tb) (hm : behindInMarks op b = false) : PTD X F O (.Compare a [op] [b] pos) (tvM fun δ => do let x ← ta δ; let y ← tb δ; f x y) :=
  pt_imp (ft_cmp ho ha hb hm) fun σ H Q ⟨B, ρ, δ, S, r0, q⟩ => bin_imp (m := .tr) hf (by decide) ⟨B, ρ, δ, S, r0, q.bind.imp fun d S' k v H' ρ' r' g z => by
    obtain ⟨b, rfl, k⟩ := k.tb
    obtain rfl := Rin.bl (m := .tr) (B := B) z
    exact k H' ρ' r' g⟩
theorem pd_tnot {t : DEnv → M Bool} (h : PTD X F O e t) : PTD X F O (.UnaryOp .Not e pos) (notM t) := pt_imp (pt_not h) fun σ H Q ⟨B, ρ, δ, S, r, q⟩ => ⟨B, ρ, δ, S, r, q.bind.imp fun b S' k H' ρ' r' g => k H' ρ' r' g⟩
theorem pw_imp {e : Expr} {t t' : TT} (h : PW X e t) (w : ∀ σ H Q, t' σ H Q → t σ H Q) : PW X e t' := ⟨fun wh pins s σ H Q I q => h.run wh pins s σ H Q I (w σ H Q q)⟩
theorem pd_and1 {t : DEnv → M Bool} (h : PTD X F O a t) : PWD X F O (.BoolOp .And [a] pos) t := pw_and1 h
theorem pd_or1 {t : DEnv → M Bool} (h : PTD X F O a t) : PWD X F O (.BoolOp .Or [a] pos) t := pw_or1 h
theorem pd_and {t u : DEnv → M Bool} (h : PTD X F O a t) (k : PWD X F O (.BoolOp .And (b :: rest) pos) u) : PWD X F O (.BoolOp .And (a :: b :: rest) pos) (andM t u) := pw_imp (pw_and h k) fun σ H Q ⟨B, ρ, δ, S, r, q⟩ =>
  ⟨B, ρ, δ, S, r, q.bind.imp fun c S' k H' ρ' r' g => by
    cases c with
    | true => exact ⟨B, ρ', δ, S', r', (k : Ok1 F (u δ S') _).imp fun c S2 k H2 ρ2 r2 g2 => k H2 ρ2 r2 (g.tr g2)⟩
    | false => exact k H' ρ' r' g⟩
theorem pd_or {t u : DEnv → M Bool} (h : PTD X F O a t) (k : PWD X F O (.BoolOp .Or (b :: rest) pos) u) : PWD X F O (.BoolOp .Or (a :: b :: rest) pos) (orM t u) := pw_imp (pw_or h k) fun σ H Q ⟨B, ρ, δ, S, r, q⟩ =>
  ⟨B, ρ, δ, S, r, q.bind.imp fun c S' k H' ρ' r' g => by
    cases c with
    | true => exact k H' ρ' r' g
    | false => exact ⟨B, ρ', δ, S', r', (k : Ok1 F (u δ S') _).imp fun c S2 k H2 ρ2 r2 g2 => k H2 ρ2 r2 (g.tr g2)⟩⟩
theorem Res.gr {B : Nat → Option Addr} {ρ ρ' : List Addr} {H H1 H' : Hp} {S' : Sto} {v : V} {d : D} (g : Gr ρ NoZ H ρ' H1) (z : Res F m B ρ' H1 H' S' v d) : Res F m B ρ' H H' S' v d := by
  cases m
  · exact z
  · exact z
  · obtain ⟨a, e, n, na, sz, t⟩ := z
    exact ⟨a, e, Classical.byContradiction fun z => g.alive a z n, na, sz, t⟩
theorem Res.gr2 {B : Nat → Option Addr} {ρ ρ1 ρ' : List Addr} {H H1 H' : Hp} {S' : Sto} {v : V} {d : D} (g : Gr ρ NoZ H ρ1 H1) (z : Res F m B ρ' H1 H' S' v d) : Res F m B ρ' H H' S' v d := by
  cases m
  · exact z
  · exact z
  · obtain ⟨a, e, n, na, sz, t⟩ := z
    exact ⟨a, e, Classical.byContradiction fun z => g.alive a z n, na, sz, t⟩
/-- what follows is run from a later point -/
theorem dE_from {t : DEnv → M D} {σ : L2.St} {B : Nat → Option Addr} {ρ ρ' : List Addr} {δ : DEnv} {S' : Sto} {H H' : Hp} {Q : VK} (r' : Rel F O B ρ' σ H' δ S') (g : Gr ρ NoZ H ρ' H')
    (k : Ok1 F (t δ S') fun d S2 => ∀ v H2 ρ2, Rel F O B ρ2 σ H2 δ S2 → Gr ρ NoZ H ρ2 H2 → Res F m B ρ2 H H2 S2 v d → Q v H2) : dE F O m t σ H' Q :=
  ⟨B, ρ', δ, S', r', k.imp fun d S2 k v H2 ρ2 r2 g2 z => k v H2 ρ2 r2 (g.tr g2) (Res.gr2 g z)⟩
theorem pd_eone {op} {t : DEnv → M D} (h : PED X F O m a t) : PED X F O m (.BoolOp op [a] pos) t := pe_one h
theorem pd_eand {t u : DEnv → M D} (h : PED X F O .tr a t) (k : PED X F O m (.BoolOp .And (b :: rest) pos) u) (hm : m ≠ .nw := by decide) : PED X F O m (.BoolOp .And (a :: b :: rest) pos) (andE t u) := pe_imp (pe_and h k) fun σ H Q ⟨B, ρ, δ, S, r, q⟩ =>
  ⟨B, ρ, δ, S, r, q.bind.imp fun c S' k v H' ρ' r' g z => by
    obtain ⟨b, rfl, k⟩ := k.bind.tb
    obtain rfl := Rin.bl (m := .tr) (B := B) z
    refine ⟨b, rfl, ?_⟩
    cases b with
    | true => exact dE_from r' g k
    | false => exact k _ H' ρ' r' g (scV_res (d := .bl false) rfl hm)⟩
theorem pd_if {t : DEnv → M Bool} {u w : DEnv → M D} (h : PTD X F O c t) (ha : PED X F O m a u) (hb : PED X F O m b w) : PED X F O m (.IfExp c a b pos) (ifE t u w) := pe_imp (pe_ifExp h ha hb) fun σ H Q ⟨B, ρ, δ, S, r, q⟩ =>
  ⟨B, ρ, δ, S, r, q.bind.imp fun c S' k H' ρ' r' g => by
    cases c with
    | true => exact dE_from (t := u) r' g k
    | false => exact dE_from (t := w) r' g k⟩
def notE (t : DEnv → M D) : DEnv → M D := fun δ => do let x ← t δ; let b ← tbD x; pure (.bl !b)
def consM (t : DEnv → M D) (u : DEnv → M (List D)) : DEnv → M (List D) := fun δ => do let x ← t δ; let r ← u δ; pure (x :: r)
def nilM : DEnv → M (List D) := fun _ => pure []
theorem pa_imp2 {es : List Expr} {t t' : TA} (h : PA X es t) (w : ∀ σ H Q, t' σ H Q → t σ H Q) : PA X es t' := pa_imp h w
theorem pad_nil : PAD X F O m [] nilM := pa_imp2 pa_nil fun σ H Q ⟨B, ρ, δ, S, r, q⟩ => q [] H ρ r (Gr.refl _ _ _) RinL.nil
theorem pad_cons {t : DEnv → M D} {u : DEnv → M (List D)} (h : PED X F O m e t) (k : PAD X F O m rest u) (hs : starEach (e :: rest) X.env = (false, eval e X.env) :: starEach rest X.env := by rfl) : PAD X F O m (e :: rest) (consM t u) :=
  pa_imp2 (pa_cons h k hs) fun σ H Q ⟨B, ρ, δ, S, r, q⟩ => ⟨B, ρ, δ, S, r, q.bind.imp fun d S' k v H' ρ' r' g z => ⟨B, ρ', δ, S', r', k.bind.imp fun ds S2 k vs H2 ρ2 r2 g2 z2 =>
    k (v :: vs) H2 ρ2 r2 (g.tr g2) (RinL.cons ((Res.rin r z).gr g2) z2)⟩⟩
def seqS (t u : DEnv → M (DEnv × Fl)) : DEnv → M (DEnv × Fl) := fun δ => do
  let p ← t δ
  match p.2 with
  | .nx => u p.1
  | _ => pure p
def skipS : DEnv → M (DEnv × Fl) := fun δ => pure (δ, .nx)
def brkS : DEnv → M (DEnv × Fl) := fun δ => pure (δ, .bk)
def ctS : DEnv → M (DEnv × Fl) := fun δ => pure (δ, .ct)
def retS (t : DEnv → M D) : DEnv → M (DEnv × Fl) := fun δ => do let d ← t δ; pure (δ, .rt d)
def dropS (t : DEnv → M D) : DEnv → M (DEnv × Fl) := fun δ => do let _ ← t δ; pure (δ, .nx)
def ifS (t : DEnv → M Bool) (u w : DEnv → M (DEnv × Fl)) : DEnv → M (DEnv × Fl) := fun δ => do let b ← t δ; if b = true then u δ else w δ
def setS (i : Nat) (t : DEnv → M D) : DEnv → M (DEnv × Fl) := fun δ => do let d ← t δ; pure (δ.set i (some d), .nx)
theorem pss_imp {st : List Stmt} {t t' : TS} (h : PSs X st t) (w : ∀ D σ H, t' D σ H → t D σ H) : PSs X st t' := ⟨fun pins s σ H D I q => h.run pins s σ H D I (w D σ H q)⟩
section
variable {B B' : Nat → Option Addr} {ρ ρ' : List Addr} {σ : L2.St} {H H' : Hp} {δ : DEnv} {S : Sto}
/-- some of the def's own things are its own no longer -/
theorem Rel.drop (r : Rel F O B ρ σ H δ S) (ho : ∀ i, i ∈ O' → i ∈ O) : ∃ B', Rel F O' B' ρ σ H δ S ∧ ∀ b, Own B' b → Own B b := by
  classical
  refine ⟨fun i => if i ∈ O' then B i else none, ?_⟩
  have sub : ∀ b, Own (fun i => if i ∈ O' then B i else none) b → Own B b := fun b ⟨i, e⟩ => ⟨i, by
    dsimp only at e
    split at e
    · exact e
    · cases e⟩
  have see : LamX.ExtN (hid (Zo F B ρ) H) (hid (Zo F (fun i => if i ∈ O' then B i else none) ρ) H) := fun b o e _ => by
    obtain ⟨n, e⟩ := hid_iff.mp e
    exact hid_iff.mpr ⟨fun z => n (z.imp (Or.imp id (sub b)) id), e⟩
  refine ⟨⟨r.gr, r.sta.wk fun b h => h.imp id (sub b), fun b h => r.bnew b (sub b h), fun b h => r.oxs b (sub b h), fun i j b h1 h2 => ?_, fun i => ⟨fun ⟨a, e⟩ => ?_, fun h => ?_⟩, fun i a e => ?_, fun p hp => ?_, r.len, fun i d e => ?_⟩, sub⟩
  · have h1 : (if i ∈ O' then B i else none) = some b := h1
    have h2 : (if j ∈ O' then B j else none) = some b := h2
    split at h1
    · split at h2
      · exact r.binj i j b h1 h2
      · cases h2
    · cases h1
  · have e : (if i ∈ O' then B i else none) = some a := e
    split at e
    · assumption
    · cases e
  · obtain ⟨a, e⟩ := (r.own i).mpr (ho i h)
    exact ⟨a, by rw [if_pos h]; exact e⟩
  · have e : (if i ∈ O' then B i else none) = some a := e
    split at e
    · exact r.ownd i a e
    · cases e
  · show (if 0 ∈ O' then B 0 else none) = some p ∨ (if 0 ∈ O' then B 0 else none) = none
    split
    · exact r.zero p hp
    · exact .inr rfl
  · have z := r.slot i d e
    unfold SlAt at z ⊢
    dsimp only
    by_cases hi : i ∈ O'
    · rw [if_pos hi]
      cases eb : B i with
      | none =>
        rw [eb] at z
        obtain ⟨v, h1, h2⟩ := z
        exact ⟨v, h1, h2.mono (fun _ _ e => e) see⟩
      | some a =>
        rw [eb] at z
        exact ⟨z.1, z.2.mono (fun _ _ e => e) see fun _ _ e => e⟩
    · rw [if_neg hi]
      cases eb : B i with
      | none =>
        rw [eb] at z
        obtain ⟨v, h1, h2⟩ := z
        exact ⟨v, h1, h2.mono (fun _ _ e => e) see⟩
      | some a =>
        rw [eb] at z
        obtain ⟨h1, t⟩ := z
        have no : ¬ Zo F (fun i => if i ∈ O' then B i else none) ρ a := fun z => by
          rcases z with (z | ⟨j, ej⟩) | z
          · exact r.oxs a ⟨i, eb⟩ z
          · dsimp only at ej
            split at ej
            · rename_i hj
              exact hi (r.binj i j a eb ej ▸ hj)
            · cases ej
          · exact r.sta.xr a z (.inr ⟨i, eb⟩)
        refine ⟨_, h1, ?_⟩
        cases d <;> first | exact t.elim | skip
        · obtain ⟨vs, h1, h2⟩ := t
          exact .lst (hid_iff.mpr ⟨no, h1⟩) (RpL.mono (fun _ _ e => e) see h2)
        · obtain ⟨vs, h1, h2⟩ := t
          exact .dct (hid_iff.mpr ⟨no, h1⟩) (RpK.mono (fun _ _ e => e) see h2)
        · obtain ⟨C, dx, vs, h0, h1, h2⟩ := t
          exact .obj h0 (hid_iff.mpr ⟨no, h1⟩) (RpF.mono (fun _ _ e => e) see h2)
end
theorem pssd_nil (ho : ∀ i, i ∈ O' → i ∈ O := by decide) : PSsD X F O O' OL [] skipS := pss_imp pss_nil fun Dn σ H ⟨B, ρ, δ, S, r, q⟩ => by
  obtain ⟨B', r', sub⟩ := r.drop ho
  exact q σ H B' ρ r' (Gr.refl _ _ _) fun b h => .inl (sub b h)
theorem psd_drop {st : Stmt} {t : DEnv → M (DEnv × Fl)} (h : PSD X F O1 O' OL st t) (ho : ∀ i, i ∈ O1 → i ∈ O := by decide) : PSD X F O O' OL st t := ps_imp h fun Dn σ H ⟨B, ρ, δ, S, r, q⟩ => by
  obtain ⟨B1, r1, sub⟩ := r.drop ho
  refine ⟨B1, ρ, δ, S, r1, q.imp fun p S' k => ?_⟩
  have gz : ∀ {ρ' H'}, Gr ρ (Own B1) H ρ' H' → Gr ρ (Own B) H ρ' H' := fun g => ⟨g.ext, fun b o h1 h2 h3 h4 => g.keep b o h1 (fun z => h2 (sub b z)) h3 h4, g.alive, g.tabs⟩
  obtain ⟨δ', f⟩ := p
  cases f with
  | nx => exact fun σ' H' B' ρ' r' g n => k σ' H' B' ρ' r' (gz g) fun b h => (n b h).imp (sub b) id
  | bk => exact fun σ' H' B' ρ' r' g n => k σ' H' B' ρ' r' (gz g) fun b h => (n b h).imp (sub b) id
  | ct => exact fun σ' H' B' ρ' r' g n => k σ' H' B' ρ' r' (gz g) fun b h => (n b h).imp (sub b) id
  | rt d => exact k
/-- what stands behind a statement, told from an earlier point -/
theorem dS_from {t : DEnv → M (DEnv × Fl)} {σ1 : L2.St} {B B1 : Nat → Option Addr} {ρ ρ1 : List Addr} {δ1 : DEnv} {S1 : Sto} {H H1 : Hp} {Dn : Ends} (r1 : Rel F O1 B1 ρ1 σ1 H1 δ1 S1) (g : Gr ρ (Own B) H ρ1 H1) (n : ∀ b, Own B1 b → Own B b ∨ Nw H b)
    (k : Ok1 F (t δ1 S1) fun p S' => match p.2 with
      | .nx => ∀ σ' H' B' ρ', Rel F O' B' ρ' σ' H' p.1 S' → Gr ρ (Own B) H ρ' H' → (∀ b, Own B' b → Own B b ∨ Nw H b) → Dn.nx σ' H'
      | .bk => ∀ σ' H' B' ρ', Rel F OL B' ρ' σ' H' p.1 S' → Gr ρ (Own B) H ρ' H' → (∀ b, Own B' b → Own B b ∨ Nw H b) → Dn.bk σ' H'
      | .ct => ∀ σ' H' B' ρ', Rel F OL B' ρ' σ' H' p.1 S' → Gr ρ (Own B) H ρ' H' → (∀ b, Own B' b → Own B b ∨ Nw H b) → Dn.ct σ' H'
      | .rt d => ∀ v H' ρ', End F ρ' H' S' → Rp F.K F.ca ρ' (hid (Zf F ρ') H') v d → Dn.rt v H') : dS F O1 O' OL t Dn σ1 H1 := by
  refine ⟨B1, ρ1, δ1, S1, r1, k.imp fun p S' k => ?_⟩
  have nn : ∀ {B' : Nat → Option Addr}, (∀ b, Own B' b → Own B1 b ∨ Nw H1 b) → ∀ b, Own B' b → Own B b ∨ Nw H b := fun h b hb => by
    rcases h b hb with z | z
    · exact n b z
    · exact .inr (Classical.byContradiction fun y => g.alive b y z)
  obtain ⟨δ', f⟩ := p
  cases f with
  | nx => exact fun σ' H' B' ρ' r' g2 n2 => k σ' H' B' ρ' r' (g.trans g2 n) (nn n2)
  | bk => exact fun σ' H' B' ρ' r' g2 n2 => k σ' H' B' ρ' r' (g.trans g2 n) (nn n2)
  | ct => exact fun σ' H' B' ρ' r' g2 n2 => k σ' H' B' ρ' r' (g.trans g2 n) (nn n2)
  | rt d => exact k
theorem pssd_cons {st : Stmt} {r : List Stmt} {t u : DEnv → M (DEnv × Fl)} (h : PSD X F O O1 OL st t) (k : PSsD X F O1 O' OL r u) : PSsD X F O O' OL (st :: r) (seqS t u) := pss_imp (pss_cons h k) fun Dn σ H ⟨B, ρ, δ, S, r, q⟩ =>
  ⟨B, ρ, δ, S, r, q.bind.imp fun p S' k => by
    obtain ⟨δ', f⟩ := p
    cases f with
    | nx => exact fun σ' H' B' ρ' r' g n => dS_from r' g n k
    | bk => exact k
    | ct => exact k
    | rt d => exact k⟩
theorem psd_if {t : DEnv → M Bool} {p q : List Stmt} {u w : DEnv → M (DEnv × Fl)} (h : PTD X F O c t) (ha : PSsD X F O O' OL p u) (hb : PSsD X F O O' OL q w) : PSD X F O O' OL (.If c p q pos) (ifS t u w) := ps_imp (ps_if h ha hb) fun Dn σ H ⟨B, ρ, δ, S, r, q⟩ =>
  ⟨B, ρ, δ, S, r, q.bind.imp fun c S' k H' ρ' r' g => by
    cases c with
    | true => exact dS_from (t := u) r' g.wk (fun b h => .inl h) k
    | false => exact dS_from (t := w) r' g.wk (fun b h => .inl h) k⟩
theorem psd_ret {t : DEnv → M D} (h : PED X F O .tr e t) : PSD X F O O' OL (.Return (some e) pos) (retS t) := ps_imp (ps_ret h) fun Dn σ H ⟨B, ρ, δ, S, r, q⟩ =>
  ⟨B, ρ, δ, S, r, q.bind.imp fun d S' k v H' ρ' r' g z => k v H' ρ' r'.end z⟩
end
end Fg
namespace Fg
open PySem PySem.Spec PyProof.Rows L2
variable [TQ]
section
variable {F : Fr} {O O' : List Nat} {B B' : Nat → Option Addr} {ρ ρ' : List Addr} {σ : L2.St} {H H' H1 : Hp} {δ : DEnv} {S S' : Sto} {v : V} {d : D} {i : Nat}
theorem Rel.notO (r : Rel F O B ρ σ H δ S) (hi : i ∉ O) : B i = none := by
  cases eb : B i with
  | none => rfl
  | some a => exact absurd ((r.own i).mp ⟨a, eb⟩) hi
theorem Rel.set (r : Rel F O B ρ σ H δ S) (hi : i ∉ O) (h : Rin F .fz B ρ H v d) : Rel F O B ρ (σ.set i (some v)) H (δ.set i (some d)) S := by
  have bi := r.notO hi
  refine ⟨r.gr, r.sta, r.bnew, r.oxs, r.binj, r.own, fun j a e => ?_, r.zero, by rw [List.length_set, List.length_set]; exact r.len, fun j x e => ?_⟩
  · obtain ⟨x, hx⟩ := r.ownd j a e
    have ne : i ≠ j := fun z => by subst z; rw [bi] at e; cases e
    exact ⟨x, by rw [List.getElem?_set_ne ne]; exact hx⟩
  · by_cases z : i = j
    · subst z
      unfold SlAt
      rw [bi]
      have li : i < δ.length := by
        rcases Nat.lt_or_ge i δ.length with h | h
        · exact h
        · rw [List.getElem?_eq_none (by rw [List.length_set]; exact h)] at e; cases e
      rw [List.getElem?_set_self li] at e
      cases e
      exact ⟨v, List.getElem?_set_self (by rw [r.len]; exact li), h⟩
    · rw [List.getElem?_set_ne z] at e
      have q := r.slot j x e
      unfold SlAt at q ⊢
      cases eb : B j with
      | none =>
        rw [eb] at q
        obtain ⟨v, h1, h2⟩ := q
        exact ⟨v, by rw [List.getElem?_set_ne z]; exact h1, h2⟩
      | some a =>
        rw [eb] at q
        exact ⟨by rw [List.getElem?_set_ne z]; exact q.1, q.2⟩
/-- a new thing becomes the def's own -/
theorem Rel.new {m : Md} (r : Rel F O B ρ σ H δ S) (r' : Rel F O B ρ' σ H' δ S') (g : Gr ρ NoZ H ρ' H') (hi : i ∉ O) (hz0 : i ≠ 0 ∨ F.own0 = none) (hl : i < δ.length) (h : Res F .nw B ρ' H H' S' v d) :
    ∃ B', Rel F (i :: O) B' ρ' (σ.set i (some v)) H' (δ.set i (some d)) S' ∧ ∀ b, Own B' b → Own B b ∨ Nw H b := by
  obtain ⟨a, rfl, n, na, st, t⟩ := h
  have bi := r.notO hi
  refine ⟨fun j => if j = i then some a else B j, ?_, ?_⟩
  have on : ∀ b, Own (fun j => if j = i then some a else B j) b ↔ Own B b ∨ b = a := fun b => by
    constructor
    · rintro ⟨j, e⟩
      dsimp only at e
      split at e
      · exact .inr (Option.some.inj e).symm
      · exact .inl ⟨j, e⟩
    · rintro (⟨j, e⟩ | e)
      · refine ⟨j, ?_⟩
        dsimp only
        rw [if_neg (fun z => by subst z; rw [bi] at e; cases e)]
        exact e
      · exact ⟨i, by dsimp only; rw [if_pos rfl, e]⟩
  have nh0 : Nw F.H0 a := Classical.byContradiction fun z => r.gr.alive a z n
  have nx : ¬ F.Xs a := fun z => r.sta.live a (.inl (.inl z)) n
  have nb : ¬ Own B a := fun z => r.sta.live a (.inl (.inr z)) n
  have zz : ∀ b, Zo F (fun j => if j = i then some a else B j) ρ' b ↔ (Zo F B ρ' b ∨ b = a) := fun b => by
    unfold Zo
    rw [on]
    constructor
    · rintro ((h | h | h) | h)
      · exact .inl (.inl (.inl h))
      · exact .inl (.inl (.inr h))
      · exact .inr h
      · exact .inl (.inr h)
    · rintro (((h | h) | h) | h)
      · exact .inl (.inl h)
      · exact .inl (.inr (.inl h))
      · exact .inr h
      · exact .inl (.inr (.inr h))
  have hz : (Zo F (fun j => if j = i then some a else B j) ρ') = fun b => Zo F B ρ' b ∨ b = a := funext fun b => propext (zz b)
  have hx : (fun b => F.Xs b ∨ Own (fun j => if j = i then some a else B j) b) = fun b => (F.Xs b ∨ Own B b) ∨ b = a := funext fun b => propext (by rw [on, or_assoc])
  have see : LamX.ExtN (hid (Zo F B ρ) H) (hid (Zo F (fun j => if j = i then some a else B j) ρ') H') := by
    rw [hz]
    intro b o e ht
    obtain ⟨nn, e2⟩ := hid_iff.mp e
    obtain ⟨nn2, e3⟩ := hid_iff.mp (g.seesO (F := F) (B := B) b o e ht)
    exact hid_iff.mpr ⟨fun z => z.elim nn2 (fun z => n.no (z ▸ e2) ht), e3⟩
  refine ⟨r'.gr, by rw [hx]; exact st, fun b h => ?_, fun b h => ?_, fun j k b h1 h2 => ?_, fun j => ?_, fun j c e => ?_, fun q hq => ?_, by rw [List.length_set, List.length_set]; exact r.len, fun j x e => ?_⟩
  · rcases (on b).mp h with h | h
    · exact r.bnew b h
    · rw [h]; exact nh0
  · rcases (on b).mp h with h | h
    · exact r.oxs b h
    · rw [h]; exact nx
  · have h1 : (if j = i then some a else B j) = some b := h1
    have h2 : (if k = i then some a else B k) = some b := h2
    split at h1
    · split at h2
      · rename_i z1 z2; rw [z1, z2]
      · rw [← Option.some.inj h1] at h2; exact absurd ⟨k, h2⟩ nb
    · split at h2
      · rw [← Option.some.inj h2] at h1; exact absurd ⟨j, h1⟩ nb
      · exact r.binj j k b h1 h2
  · rw [List.mem_cons]
    constructor
    · rintro ⟨c, e⟩
      have e : (if j = i then some a else B j) = some c := e
      split at e
      · exact .inl ‹_›
      · exact .inr ((r.own j).mp ⟨c, e⟩)
    · rintro (e | e)
      · exact ⟨a, by rw [if_pos e]⟩
      · obtain ⟨c, h⟩ := (r.own j).mpr e
        exact ⟨c, by rw [if_neg (fun z : j = i => hi (by rw [← z]; exact e))]; exact h⟩
  · have e : (if j = i then some a else B j) = some c := e
    split at e
    · rename_i z; subst z; exact ⟨d, List.getElem?_set_self hl⟩
    · rename_i z
      obtain ⟨x, hx⟩ := r.ownd j c e
      exact ⟨x, by rw [List.getElem?_set_ne (Ne.symm z)]; exact hx⟩
  · show (if 0 = i then some a else B 0) = some q ∨ (if 0 = i then some a else B 0) = none
    rcases hz0 with z | z
    · rw [if_neg (Ne.symm z)]
      exact r.zero q hq
    · rw [z] at hq; cases hq
  · unfold SlAt
    by_cases z : j = i
    · subst z
      rw [List.getElem?_set_self hl] at e
      cases e
      dsimp only
      rw [if_pos rfl]
      exact ⟨List.getElem?_set_self (by rw [r.len]; exact hl), by rw [hz]; exact t⟩
    · rw [List.getElem?_set_ne (Ne.symm z)] at e
      have q := r.slot j x e
      unfold SlAt at q
      dsimp only
      rw [if_neg z]
      cases eb : B j with
      | none =>
        rw [eb] at q
        obtain ⟨v, h1, h2⟩ := q
        exact ⟨v, by rw [List.getElem?_set_ne (Ne.symm z)]; exact h1, h2.mono g.at see⟩
      | some c =>
        rw [eb] at q
        refine ⟨by rw [List.getElem?_set_ne (Ne.symm z)]; exact q.1, q.2.mono g.at see fun o ht e => g.keep c o (fun hm => r.sta.xr c hm (.inr ⟨j, eb⟩)) (fun z => z) ht e⟩
  · rintro b ⟨j, e⟩
    dsimp only at e
    split at e
    · exact .inr ((Option.some.inj e) ▸ n)
    · exact .inl ⟨j, e⟩
theorem Top.ntbl {K : PySem.W.Frag} {ca : Str → Option Addr} {ρ : List Addr} {G H : Hp} {a : Addr} {d : D} {o : HO} (t : Top K ca ρ G H a d) (h : H a = some o) : ∀ ps, o ≠ .tbl ps := fun ps z => by
  subst z
  cases d <;> first | exact t.elim | skip
  · obtain ⟨vs, h1, _⟩ := t; rw [h] at h1; cases h1
  · obtain ⟨vs, h1, _⟩ := t; rw [h] at h1; cases h1
  · obtain ⟨C, dx, vs, _, h1, _⟩ := t; rw [h] at h1; cases h1
/-- the def's own thing at i is changed -/
theorem Rel.put {a : Addr} {o o' : HO} (r : Rel F O B ρ σ H δ S) (hi : B i = some a) (b : But a H H') (h : H a = some o) (h' : H' a = some o') (n1 : ∀ ps, o ≠ .tbl ps) (n2 : ∀ φ, o ≠ .ext φ)
    (t : Top F.K F.ca ρ (hid (Zo F B ρ) H) H' a d) : Rel F O B ρ σ H' (δ.set i (some d)) S ∧ Gr ρ (Own B) H ρ H' := by
  have g : Gr ρ (Own B) H ρ H' := Gr.but b h h' (.inl ⟨i, hi⟩) n1 n2 (t.ntbl h')
  have see : LamX.ExtN (hid (Zo F B ρ) H) (hid (Zo F B ρ) H') := g.sees (fun b h => .inl (.inr h)) fun b h => .inl h
  obtain ⟨d0, e0⟩ := r.ownd i a hi
  have hl : i < δ.length := (List.getElem?_eq_some_iff.mp e0).1
  have s0 : SlAt F B ρ H σ i d0 := r.slot i d0 e0
  refine ⟨⟨?_, ?_, r.bnew, r.oxs, r.binj, r.own, fun j c e => ?_, r.zero, by rw [List.length_set]; exact r.len, fun j x e => ?_⟩, g⟩
  · exact ⟨r.gr.ext, fun c u h1 h2 h3 h4 => b c u (fun z => by subst z; exact (r.bnew c ⟨i, hi⟩).no h4 h3) (r.gr.keep c u h1 h2 h3 h4), fun c z => g.alive c (r.gr.alive c z), fun P q n t => g.tabs P q n (r.gr.tabs P q n t)⟩
  · refine ⟨fun c z => g.alive c (r.sta.live c z), r.sta.nd, r.sta.xr, SrL.mono (fun _ _ e => e) see (fun c hc u _ e => b c u (fun z => by subst z; exact r.sta.xr c hc (.inr ⟨i, hi⟩)) e) r.sta.sto⟩
  · by_cases z : i = j
    · subst z; exact ⟨d, List.getElem?_set_self hl⟩
    · obtain ⟨x, hx⟩ := r.ownd j c e
      exact ⟨x, by rw [List.getElem?_set_ne z]; exact hx⟩
  · unfold SlAt
    by_cases z : i = j
    · subst z
      rw [List.getElem?_set_self hl] at e
      cases e
      rw [hi]
      unfold SlAt at s0
      rw [hi] at s0
      exact ⟨s0.1, Top.mono (fun _ _ e => e) see (fun _ _ e => e) t⟩
    · rw [List.getElem?_set_ne z] at e
      have q := r.slot j x e
      unfold SlAt at q
      cases eb : B j with
      | none =>
        rw [eb] at q
        obtain ⟨v, h1, h2⟩ := q
        exact ⟨v, h1, h2.mono (fun _ _ e => e) see⟩
      | some c =>
        rw [eb] at q
        exact ⟨q.1, q.2.mono (fun _ _ e => e) see fun u _ e => b c u (fun z2 => z (r.binj i j a hi (z2 ▸ eb))) e⟩
end
section
variable {X : Cx} {F : Fr} {O O' O1 O2 OL : List Nat} {m mi : Md} {pos pos' : Pos} {a b c e : Expr} {rest : List Expr} {i : Nat}
/-- x = e, from what the right side reads -/
theorem asg_fz {te : TE} {t : DEnv → M D} {Dn : Ends} {σ : L2.St} {H : Hp} (w : ∀ Q, dE F O .fz t σ H Q → te σ H Q) (hi : i ∉ O) (q : dS F O O OL (setS i t) Dn σ H) : tAsg te (gName i) Dn σ H := by
  obtain ⟨B, ρ, δ, S, r, q⟩ := q
  exact w _ ⟨B, ρ, δ, S, r, q.bind.imp fun d S' k v H' ρ' r' g z => k _ H' B ρ' (r'.set hi z) g.wk fun b h => .inl h⟩
theorem asg_nw {te : TE} {t : DEnv → M D} {Dn : Ends} {σ : L2.St} {H : Hp} (w : ∀ Q, dE F O .nw t σ H Q → te σ H Q) (hi : i ∉ O) (hz0 : i ≠ 0 ∨ F.own0 = none) (hn : σ.length = X.N.length → i < σ.length) (q : dS F O (i :: O) OL (setS i t) Dn σ H) (hs : i < σ.length) : tAsg te (gName i) Dn σ H := by
  obtain ⟨B, ρ, δ, S, r, q⟩ := q
  exact w _ ⟨B, ρ, δ, S, r, q.bind.imp fun d S' k v H' ρ' r' g z => by
    obtain ⟨B', r2, n2⟩ := r.new (m := .nw) r' g hi hz0 (by rw [← r.len]; exact hs) z
    exact k _ H' B' ρ' r2 g.wk n2⟩
theorem psd_set {x : Str} {t : DEnv → M D} (i : Nat) (h : PED X F O .fz e t) (hN : X.N.Nodup) (hi : X.N[i]? = some x := by rfl) (hx : Loc X.env.scope x := by first | exact Or.inl rfl | exact Or.inr rfl) (ho : i ∉ O := by decide) (hs : swapsWith e (some (.Name x pos')) pos.line X.env = pure false := by rfl) (hf : X.fn x = true ∨ X.env.scope.names.lookup x = some .local := by first | exact .inl rfl | exact .inr rfl | assumption) :
    PSD X F O O OL (.Assign [.Name x pos'] e pos) (setS i t) := ps_imp (ps_set hN hi hx h hs hf) fun Dn σ H q => asg_fz (fun _ q => q) ho q
theorem ps_len {st : Stmt} {t : TS} (h : PS X st (fun D σ H => σ.length = X.N.length ∧ t D σ H)) : PS X st t := ⟨fun pins s σ H D I q => h.run pins s σ H D I ⟨I.len, q⟩⟩
theorem psd_new {x : Str} {t : DEnv → M D} (i : Nat) (h : PED X F O .nw e t) (hN : X.N.Nodup) (hi : X.N[i]? = some x := by rfl) (hx : Loc X.env.scope x := by first | exact Or.inl rfl | exact Or.inr rfl) (ho : i ∉ O := by decide) (hs : swapsWith e (some (.Name x pos')) pos.line X.env = pure false := by rfl) (hf : X.fn x = true ∨ X.env.scope.names.lookup x = some .local := by first | exact .inl rfl | exact .inr rfl | assumption) (hz0 : i ≠ 0 ∨ F.own0 = none := by first | exact Or.inl (by decide) | exact Or.inr rfl) :
    PSD X F O (i :: O) OL (.Assign [.Name x pos'] e pos) (setS i t) := ps_len (ps_imp (ps_set hN hi hx h hs hf) fun Dn σ H ⟨hl, q⟩ => by
  have li : i < σ.length := by rw [hl]; exact (List.getElem?_eq_some_iff.mp hi).1
  exact asg_nw (X := X) (fun _ q => q) ho hz0 (fun _ => li) q li)
def tgN (i : Nat) : D → DEnv → M DEnv := fun d δ => pure (δ.set i (some d))
def tgs : List (D → DEnv → M DEnv) → List D → DEnv → M DEnv
  | [], [], δ => pure δ
  | g :: gs, d :: ds, δ => do let δ' ← g d δ; tgs gs ds δ'
  | _, _, _ => M.stuck
def tgT (gs : List (D → DEnv → M DEnv)) : D → DEnv → M DEnv := fun d δ => match d with
  | .tup ds => if ds.length = gs.length then tgs gs ds δ else M.stuck
  | _ => M.stuck
theorem pg_imp {t t' : TG} (h : PG X e t) (w : ∀ v σ H Q, t' v σ H Q → t v σ H Q) : PG X e t' := ⟨fun pins s σ H v u Q I r q => h.run pins s σ H v u Q I r (w _ _ _ _ q)⟩
theorem pgd_name {x : Str} (i : Nat) (hN : X.N.Nodup) (hi : X.N[i]? = some x := by rfl) (hx : Loc X.env.scope x := by first | exact Or.inl rfl | exact Or.inr rfl) (ho : i ∉ O := by decide) (hf : X.fn x = true ∨ X.env.scope.names.lookup x = some .local := by first | exact .inl rfl | exact .inr rfl | assumption) :
    PGD X F O O (.Name x pos) (tgN i) := pg_imp (pg_name hN hi hx hf) fun v σ H Q ⟨B, ρ, δ, S, d, r, z, q⟩ => (q : ∀ σ' H' B' ρ', _) _ H B ρ (r.set ho z) (Gr.refl _ _ _) fun b h => .inl h
/-- several targets -/
def dGs (F : Fr) (O : List Nat) (gs : List (D → DEnv → M DEnv)) : TGs := fun vs σ H R => ∃ B ρ δ S ds, Rel F O B ρ σ H δ S ∧ RinL F .fz B ρ H vs ds ∧
  Ok1 F (tgs gs ds δ S) fun δ' S' => ∀ σ' H' B' ρ', Rel F O B' ρ' σ' H' δ' S' → Gr ρ (Own B) H ρ' H' → (∀ b, Own B' b → Own B b ∨ Nw H b) → R σ' H'
theorem pgs_imp {es : List Expr} {t t' : TGs} (h : PGs X es t) (w : ∀ v σ H Q, t' v σ H Q → t v σ H Q) : PGs X es t' := ⟨fun pins s σ H v u Q I r q => h.run pins s σ H v u Q I r (w _ _ _ _ q)⟩
theorem pgd_nil : PGs X [] (dGs F O []) := pgs_imp pgs_nil fun vs σ H Q ⟨B, ρ, δ, S, ds, r, z, q⟩ => by
  cases ds with
  | nil =>
    have z : RpL F.K F.ca ρ (hid (Zo F B ρ) H) vs [] := z
    cases z
    exact ⟨rfl, q σ H B ρ r (Gr.refl _ _ _) fun b h => .inl h⟩
  | cons d ds => exact q.stuck.elim
theorem pgd_cons {g : D → DEnv → M DEnv} {gs : List (D → DEnv → M DEnv)} {es : List Expr} (h : PGD X F O O e g) (k : PGs X es (dGs F O gs)) (hs : (assignEach (e :: es) X.env).map (·.2) = assign e X.env :: (assignEach es X.env).map (·.2) := by rfl) : PGs X (e :: es) (dGs F O (g :: gs)) :=
  pgs_imp (pgs_cons h k hs) fun vs σ H Q ⟨B, ρ, δ, S, ds, r, z, q⟩ => by
    cases ds with
    | nil => exact q.stuck.elim
    | cons d ds =>
      have z : RpL F.K F.ca ρ (hid (Zo F B ρ) H) vs (d :: ds) := z
      cases z with
      | cons z zs =>
        refine ⟨_, _, rfl, B, ρ, δ, S, d, r, z, (Ok1.bind q).imp fun δ' S' k σ' H' B' ρ' r' g n => ⟨B', ρ', δ', S', ds, r', RpL.mono g.at (g.sees (fun b h => .inl (.inr h)) fun b h => by
          rcases h with h | h
          · exact .inl (.inl h)
          · exact (n b h).imp .inr id) zs, k.imp fun δ2 S2 k σ2 H2 B2 ρ2 r2 g2 n2 => k σ2 H2 B2 ρ2 r2 (g.trans g2 n) fun b h => by
            rcases n2 b h with h | h
            · exact n b h
            · exact .inr (Classical.byContradiction fun y => g.alive b y h)⟩⟩
theorem pgd_tup {gs : List (D → DEnv → M DEnv)} {es : List Expr} {kk n : Nat} (hK : F.K = X.K) (hc : X.calm = true) (h : PGs X es (dGs F O gs)) (hg : gs.length = n) (hn : (assignEach es X.env).length = n := by rfl) (hst : (assignEach es X.env).findIdx? (·.1) = none := by rfl) : PGD X F O O (.Tuple es kk pos) (tgT gs) :=
  pg_imp (pg_tup hc h hn hst) fun v σ H Q ⟨B, ρ, δ, S, d, r, z, q⟩ => by
    cases d <;> first | exact (show False from q).elim | skip
    rename_i ds
    obtain ⟨a, vs, rfl, h1, h2⟩ := Rin.tup z
    have q : Ok1 F ((if ds.length = gs.length then tgs gs ds δ else M.stuck) S) _ := q
    split at q
    · rename_i hl
      exact ⟨a, vs, rfl, hK ▸ h1, by rw [RinL.len h2, hl, hg], B, ρ, δ, S, ds, r, h2, q⟩
    · exact q.stuck.elim
theorem psd_asg {t : DEnv → M D} {g : D → DEnv → M DEnv} {tg : Expr} (h : PED X F O .fz e t) (k : PGD X F O O tg g) (hs : swapsWithSole [tg] e pos.line X.env = pure false := by rfl) (hw : swappedStores [tg] e X.env = pure none := by rfl)
    (h1 : (assignEach [tg] X.env).map (·.2) = [assign tg X.env] := by rfl) : PSD X F O O OL (.Assign [tg] e pos) (fun δ => do let d ← t δ; let δ' ← g d δ; pure (δ', .nx)) := ps_imp (ps_asg h k hs hw h1) fun Dn σ H ⟨B, ρ, δ, S, r, q⟩ =>
  ⟨B, ρ, δ, S, r, q.bind.imp fun d S' k v H' ρ' r' g z => ⟨B, ρ', δ, S', d, r', z, k.bind.imp fun δ2 S2 k σ2 H2 B2 ρ2 r2 g2 n2 => k σ2 H2 B2 ρ2 r2 (g.wk.trans g2 fun b h => .inl h) fun b h => by
    rcases n2 b h with h | h
    · exact .inl h
    · exact .inr (Classical.byContradiction fun y => g.alive b y h)⟩⟩
end
end Fg
namespace Fg
open PySem PySem.Spec PyProof.Rows L2
variable [TQ]
def forL (g : D → DEnv → M DEnv) (b : DEnv → M (DEnv × Fl)) : List D → DEnv → M (DEnv × Fl)
  | [], δ => pure (δ, .nx)
  | x :: r, δ => do
    let δ1 ← g x δ
    let p ← b δ1
    match p.2 with
    | .nx => forL g b r p.1
    | .ct => forL g b r p.1
    | .bk => pure (p.1, .nx)
    | .rt d => pure (p.1, .rt d)
def forS (t : DEnv → M (List D)) (g : D → DEnv → M DEnv) (b : DEnv → M (DEnv × Fl)) : DEnv → M (DEnv × Fl) := fun δ => do let xs ← t δ; forL g b xs δ
/-- what is walked -/
def dW (F : Fr) (O : List Nat) (t : DEnv → M (List D)) : TW := fun σ H R => ∃ B ρ δ S, Rel F O B ρ σ H δ S ∧
  Ok1 F (t δ S) fun ds S' => ∀ vs st H' ρ', Rel F O B ρ' σ H' δ S' → Gr ρ NoZ H ρ' H' → RinL F .fz B ρ' H' vs ds → st H' → (∀ H1 ρ1, Gr ρ' (Own B) H' ρ1 H1 → st H1) → R vs st H'
abbrev PID (X : Cx) (F : Fr) (O : List Nat) (tg e : Expr) (t : DEnv → M (List D)) : Prop := PI X tg e (wiOf (upW (dW F O t)))
def itL : D → M (List D)
  | .lst ds => pure ds
  | _ => M.stuck
def itT : D → M (List D)
  | .tup ds => pure ds
  | _ => M.stuck
def signsD (z : Str) : List D := z.cps.toList.map fun c => D.str ⟨#[c]⟩
def itS : D → M (List D)
  | .str z => pure (signsD z)
  | _ => M.stuck
def rgD (lo : Int) (n : Nat) : List D := (List.range n).map fun (i : Nat) => D.int (lo + i)
def InR (i : Int) : Prop := -(2 ^ 62) ≤ i ∧ i < 2 ^ 62
instance (i : Int) : Decidable (InR i) := by unfold InR; infer_instance
def itR1 : List D → M (List D)
  | [.int j] => if InR j then pure (rgD 0 j.toNat) else M.stuck
  | _ => M.stuck
theorem rpL_map {K : PySem.W.Frag} {ca : Str → Option Addr} {ρ : List Addr} {G : Hp} {α : Type} {f : α → V} {g : α → D} (h : ∀ x, Rp K ca ρ G (f x) (g x)) : ∀ l : List α, RpL K ca ρ G (l.map f) (l.map g)
  | [] => .nil
  | x :: l => .cons (h x) (rpL_map h l)
section
variable {X : Cx} {F : Fr} {O O' O1 O2 OL : List Nat} {m mi : Md} {pos pos' : Pos} {a b c e tg : Expr} {rest es : List Expr} {i : Nat}
theorem pid_L {t : DEnv → M D} (hK : F.K = X.K) (h : PED X F O .fz e t) : PID X F O tg e (fun δ => do let d ← t δ; itL d) := pi_imp (fi_L h) fun σ H R ⟨R0, ⟨B, ρ, δ, S, r, q⟩, k⟩ => ⟨R0, ⟨B, ρ, δ, S, r, q.bind.imp fun d S' q v H' ρ' r' g z => by
  cases d <;> first | exact (show False from q).elim | skip
  rename_i ds
  have z : Rp F.K F.ca ρ' (hid (Zo F B ρ') H') v (.lst ds) := z
  cases z with
  | lst h1 h2 =>
    obtain ⟨no, h1⟩ := hid_iff.mp h1
    have st : ∀ H1 ρ1, Gr ρ' (Own B) H' ρ1 H1 → SqL X.K H1 _ _ := fun H1 ρ1 g => SqL.of (g.keep _ _ (fun z => no (.inr z)) (fun z => no (.inl (.inr z))) (fun _ z => by cases z) h1)
    exact ⟨_, SqL.of h1, q _ _ H' ρ' r' g h2 (SqL.of h1) st⟩⟩, k⟩
theorem pid_S {t : DEnv → M D} (h : PED X F O .tr e t) : PID X F O tg e (fun δ => do let d ← t δ; itS d) := pi_imp (fi_S h) fun σ H R ⟨R0, ⟨B, ρ, δ, S, r, q⟩, k⟩ => ⟨R0, ⟨B, ρ, δ, S, r, q.bind.imp fun d S' q v H' ρ' r' g z => by
  cases d <;> first | exact (show False from q).elim | skip
  obtain rfl := Rin.str (m := .tr) (B := B) z
  exact q _ _ H' ρ' r' g (rpL_map (fun c => .str) _) trivial fun _ _ _ => trivial⟩, k⟩
theorem pid_R1 {p : Pos} {t : DEnv → M (List D)} (hgl : Gl X "range") (hm : X.mg "range" = none) (ha : PAD X F O .tr [a] t) (hst : starEach [a] X.env = [(false, eval a X.env)] := by rfl) : PID X F O tg (.Call (.Name "range" p) [a] [] pos) (fun δ => do let d ← t δ; itR1 d) :=
  pi_imp (fi_R1 hgl hm ha hst) fun σ H R ⟨R0, ⟨B, ρ, δ, S, r, q⟩, k⟩ => ⟨R0, ⟨B, ρ, δ, S, r, q.bind.imp fun d S' q v H' ρ' r' g z => by
    unfold itR1 at q
    split at q
    · rename_i j
      split at q
      · rename_i hj
        have z : RpL F.K F.ca ρ' (hid (Zf F ρ') H') v [.int j] := z
        cases z with
        | cons z zs =>
          cases z; cases zs
          exact ⟨⟨hj.2, hj.1⟩, q _ _ H' ρ' r' g (rpL_map (fun c => .int) _) trivial fun _ _ _ => trivial⟩
      · exact q.stuck.elim
    · exact q.stuck.elim⟩, k⟩
/-- the turns of a walk -/
theorem loop_of {g : D → DEnv → M DEnv} {bd : DEnv → M (DEnv × Fl)} {Og : List Nat} {Dn : Ends} {st : Hp → Prop} {B : Nat → Option Addr} {ρ : List Addr} {H : Hp} (hst : ∀ H1 ρ1, Gr ρ (Own B) H ρ1 H1 → st H1) :
    ∀ (ds : List D) (vs : List V) (σ1 : L2.St) (B1 : Nat → Option Addr) (ρ1 : List Addr) (H1 : Hp) (δ1 : DEnv) (S1 : Sto), Rel F O B1 ρ1 σ1 H1 δ1 S1 → Gr ρ (Own B) H ρ1 H1 → (∀ b, Own B1 b → Own B b ∨ Nw H b) → RinL F .fz B1 ρ1 H1 vs ds →
    Ok1 F (forL g bd ds δ1 S1) (fun p S' => match p.2 with
      | .nx => ∀ σ' H' B' ρ', Rel F O B' ρ' σ' H' p.1 S' → Gr ρ (Own B) H ρ' H' → (∀ b, Own B' b → Own B b ∨ Nw H b) → Dn.nx σ' H'
      | .bk => True
      | .ct => True
      | .rt d => ∀ v H' ρ', End F ρ' H' S' → Rp F.K F.ca ρ' (hid (Zf F ρ') H') v d → Dn.rt v H') → Loop st (dG F O Og g) (dS F Og O O bd) Dn vs σ1 H1
  | [], vs, σ1, B1, ρ1, H1, δ1, S1, r1, g1, n1, z, q => by
    have z : RpL F.K F.ca ρ1 (hid (Zo F B1 ρ1) H1) vs [] := z
    cases z
    exact (q : ∀ σ' H' B' ρ', _) σ1 H1 B1 ρ1 r1 g1 n1
  | d :: ds, vs, σ1, B1, ρ1, H1, δ1, S1, r1, g1, n1, z, q => by
    have z : RpL F.K F.ca ρ1 (hid (Zo F B1 ρ1) H1) vs (d :: ds) := z
    cases z with
    | cons z zs =>
      unfold forL at q
      refine ⟨B1, ρ1, δ1, S1, d, r1, z, q.bind.imp fun δ2 S2 q σ2 H2 B2 ρ2 r2 g2 n2 => ?_⟩
      have n2' : ∀ b, Own B2 b → Own B b ∨ Nw H b := fun b h => by
        rcases n2 b h with h | h
        · exact n1 b h
        · exact .inr (Classical.byContradiction fun y => g1.alive b y h)
      have g2' := g1.trans g2 n1
      refine ⟨B2, ρ2, δ2, S2, r2, q.bind.imp fun p S3 q => ?_⟩
      have later : ∀ {σ3 H3 B3 ρ3}, Rel F O B3 ρ3 σ3 H3 p.1 S3 → Gr ρ2 (Own B2) H2 ρ3 H3 → (∀ b, Own B3 b → Own B2 b ∨ Nw H2 b) → Ok1 F (forL g bd ds p.1 S3) (fun p S' => match p.2 with
          | .nx => ∀ σ' H' B' ρ', Rel F O B' ρ' σ' H' p.1 S' → Gr ρ (Own B) H ρ' H' → (∀ b, Own B' b → Own B b ∨ Nw H b) → Dn.nx σ' H'
          | .bk => True
          | .ct => True
          | .rt d => ∀ v H' ρ', End F ρ' H' S' → Rp F.K F.ca ρ' (hid (Zf F ρ') H') v d → Dn.rt v H') → st H3 ∧ Loop st (dG F O Og g) (dS F Og O O bd) Dn _ σ3 H3 := fun {σ3 H3 B3 ρ3} r3 g3 n3 q => by
        have n3' : ∀ b, Own B3 b → Own B b ∨ Nw H b := fun b h => by
          rcases n3 b h with h | h
          · exact n2' b h
          · exact .inr (Classical.byContradiction fun y => g2'.alive b y h)
        have g3' := g2'.trans g3 n2'
        refine ⟨hst H3 ρ3 g3', loop_of hst ds _ σ3 B3 ρ3 H3 p.1 S3 r3 g3' n3' (RpL.mono (fun k x e => g3.at k x (g2.at k x e)) (fun b o e ht => ?_) zs) q⟩
        have s1 := (g2.trans g3 n2).sees (Z := fun b => F.Xs b ∨ Own B1 b) (Z1 := fun b => F.Xs b ∨ Own B3 b) (fun b h => .inl (.inr h)) (fun b h => by
          rcases h with h | h
          · exact .inl (.inl h)
          · rcases n3 b h with h | h
            · exact (n2 b h).imp .inr id
            · exact .inr (Classical.byContradiction fun y => g2.alive b y h))
        exact s1 b o e ht
      obtain ⟨δ3, f⟩ := p
      cases f with
      | nx => exact fun σ3 H3 B3 ρ3 r3 g3 n3 => later r3 g3 n3 q
      | ct => exact fun σ3 H3 B3 ρ3 r3 g3 n3 => later r3 g3 n3 q
      | bk =>
        exact fun σ3 H3 B3 ρ3 r3 g3 n3 => (q : ∀ σ' H' B' ρ', _) σ3 H3 B3 ρ3 r3 (g2'.trans g3 n2') fun b h => by
          rcases n3 b h with h | h
          · exact n2' b h
          · exact .inr (Classical.byContradiction fun y => g2'.alive b y h)
      | rt d => exact q
theorem psd_for {t : DEnv → M (List D)} {g : D → DEnv → M DEnv} {bd : DEnv → M (DEnv × Fl)} {Og : List Nat} {body : List Stmt} (hp : PassesOwn (model X.prog X.w) X.A X.env X.xe) (hc : X.calm = true) (h : PID X F O tg e t) (hg : PGD X F O Og tg g) (hb : PSsD X F Og O O body bd) (hs : ∀ x, foldedSetIterable e X.env x = pure x := by intro _; rfl) :
    PSD X F O O OL (.For tg e body [] pos) (forS t g bd) := ps_imp (fs_for hp hc h hg hb hs) fun Dn σ H ⟨B, ρ, δ, S, r, q⟩ => ⟨B, ρ, δ, S, r, q.bind.imp fun ds S' q vs st H' ρ' r' g' z h1 hst => ⟨h1, by
  refine loop_of (B := B) (H := H') hst ds vs σ B ρ' H' δ S' r' (Gr.refl _ _ _) (fun b h => .inl h) z (q.imp fun p S2 k => ?_)
  obtain ⟨δ2, f⟩ := p
  cases f with
  | nx =>
    exact fun σ2 H2 B2 ρ2 r2 g2 n2 => k σ2 H2 B2 ρ2 r2 (g'.wk.trans g2 fun b h => .inl h) fun b h => by
      rcases n2 b h with h | h
      · exact .inl h
      · exact .inr (Classical.byContradiction fun y => g'.alive b y h)
  | bk => trivial
  | ct => trivial
  | rt d => exact k⟩⟩
end
end Fg
namespace Fg
open PySem PySem.Spec PyProof.Rows L2
variable [TQ]
section
variable {X : Cx} {F : Fr} {O O' O1 O2 OL : List Nat} {m mi : Md} {pos pos' : Pos} {a b c e tg : Expr} {rest es : List Expr} {i : Nat}
theorem loopZ_of {g : D → DEnv → M DEnv} {bd : DEnv → M (DEnv × Fl)} {Og : List Nat} {Dn : Ends} {st : Hp → Prop} {B : Nat → Option Addr} {ρ : List Addr} {H : Hp} (hst : ∀ H1 ρ1, Gr ρ (Own B) H ρ1 H1 → st H1) :
    ∀ (ds : List (D × D)) (vs : List (V × V)) (σ1 : L2.St) (B1 : Nat → Option Addr) (ρ1 : List Addr) (H1 : Hp) (δ1 : DEnv) (S1 : Sto), Rel F O B1 ρ1 σ1 H1 δ1 S1 → Gr ρ (Own B) H ρ1 H1 → (∀ b, Own B1 b → Own B b ∨ Nw H b) → RinL F .fz B1 ρ1 H1 (vs.map (·.1)) (ds.map (·.1)) → RinL F .fz B1 ρ1 H1 (vs.map (·.2)) (ds.map (·.2)) →
    Ok1 F (forL g bd (ds.map fun p => .tup [p.1, p.2]) δ1 S1) (fun p S' => match p.2 with
      | .nx => ∀ σ' H' B' ρ', Rel F O B' ρ' σ' H' p.1 S' → Gr ρ (Own B) H ρ' H' → (∀ b, Own B' b → Own B b ∨ Nw H b) → Dn.nx σ' H'
      | .bk => True
      | .ct => True
      | .rt d => ∀ v H' ρ', End F ρ' H' S' → Rp F.K F.ca ρ' (hid (Zf F ρ') H') v d → Dn.rt v H') → LoopZ st (dG F O Og g) (dS F Og O O bd) Dn vs σ1 H1
  | [], vs, σ1, B1, ρ1, H1, δ1, S1, r1, g1, n1, z, z2, q => by
    have hv : vs = [] := by
      have := RinL.len z
      simpa using this
    subst hv
    exact (q : ∀ σ' H' B' ρ', _) σ1 H1 B1 ρ1 r1 g1 n1
  | (d, e) :: ds, vs, σ1, B1, ρ1, H1, δ1, S1, r1, g1, n1, z, z2, q => by
    match vs, z, z2 with
    | [], z, _ => exact absurd (RinL.len z) (by simp)
    | (x, y) :: vs, z, z2 =>
      have z : RpL F.K F.ca ρ1 (hid (Zo F B1 ρ1) H1) (x :: vs.map (·.1)) (d :: ds.map (·.1)) := z
      have z2 : RpL F.K F.ca ρ1 (hid (Zo F B1 ρ1) H1) (y :: vs.map (·.2)) (e :: ds.map (·.2)) := z2
      cases z with
      | cons zx zs =>
        cases z2 with
        | cons zy zs2 =>
          intro T HT nT sT hT
          have rT := r1.same sT
          have gT : Gr ρ1 NoZ H1 ρ1 HT := Gr.same sT
          have gT1 := g1.tr gT
          have seeT := gT.seesO (F := F) (B := B1)
          rw [List.map_cons] at q
          unfold forL at q
          have noT : ¬ Zo F B1 ρ1 T := fun z => by
            rcases z with (z | z) | z
            · exact r1.sta.live T (.inl (.inl z)) (Nw.of nT)
            · exact r1.sta.live T (.inl (.inr z)) (Nw.of nT)
            · exact r1.sta.live T (.inr z) (Nw.of nT)
          refine ⟨B1, ρ1, δ1, S1, .tup [d, e], rT, (Rp.tup (SqT.of (hid_iff.mpr ⟨noT, hT⟩)) (.cons (zx.mono (fun _ _ e => e) seeT) (.cons (zy.mono (fun _ _ e => e) seeT) .nil)) : Rp F.K F.ca ρ1 (hid (Zo F B1 ρ1) HT) (.ref T) (.tup [d, e])), q.bind.imp fun δ2 S2 q σ2 H2 B2 ρ2 r2 g2 n2 => ?_⟩
          have n2' : ∀ b, Own B2 b → Own B b ∨ Nw H b := fun b h => by
            rcases n2 b h with h | h
            · exact n1 b h
            · exact .inr (Classical.byContradiction fun y => gT1.alive b y h)
          have g2' := gT1.trans g2 n1
          refine ⟨B2, ρ2, δ2, S2, r2, q.bind.imp fun p S3 q => ?_⟩
          have later : ∀ {σ3 H3 B3 ρ3}, Rel F O B3 ρ3 σ3 H3 p.1 S3 → Gr ρ2 (Own B2) H2 ρ3 H3 → (∀ b, Own B3 b → Own B2 b ∨ Nw H2 b) → Ok1 F (forL g bd (ds.map fun p => .tup [p.1, p.2]) p.1 S3) (fun p S' => match p.2 with
              | .nx => ∀ σ' H' B' ρ', Rel F O B' ρ' σ' H' p.1 S' → Gr ρ (Own B) H ρ' H' → (∀ b, Own B' b → Own B b ∨ Nw H b) → Dn.nx σ' H'
              | .bk => True
              | .ct => True
              | .rt d => ∀ v H' ρ', End F ρ' H' S' → Rp F.K F.ca ρ' (hid (Zf F ρ') H') v d → Dn.rt v H') → st H3 ∧ LoopZ st (dG F O Og g) (dS F Og O O bd) Dn vs σ3 H3 := fun {σ3 H3 B3 ρ3} r3 g3 n3 q => by
            have n3' : ∀ b, Own B3 b → Own B b ∨ Nw H b := fun b h => by
              rcases n3 b h with h | h
              · exact n2' b h
              · exact .inr (Classical.byContradiction fun y => g2'.alive b y h)
            have g3' := g2'.trans g3 n2'
            have s1 : LamX.ExtN (hid (Zo F B1 ρ1) HT) (hid (Zo F B3 ρ3) H3) := (g2.trans g3 n2).sees (Z := fun b => F.Xs b ∨ Own B1 b) (Z1 := fun b => F.Xs b ∨ Own B3 b) (fun b h => .inl (.inr h)) (fun b h => by
              rcases h with h | h
              · exact .inl (.inl h)
              · rcases n3 b h with h | h
                · exact (n2 b h).imp .inr id
                · exact .inr (Classical.byContradiction fun y => g2.alive b y h))
            have at3 : ∀ (k : Nat) (x : Addr), ρ1[k]? = some x → ρ3[k]? = some x := fun k x e => g3.at k x (g2.at k x e)
            exact ⟨hst H3 ρ3 g3', loopZ_of hst ds vs σ3 B3 ρ3 H3 p.1 S3 r3 g3' n3' (RpL.mono at3 s1 (RpL.mono (fun _ _ e => e) seeT zs)) (RpL.mono at3 s1 (RpL.mono (fun _ _ e => e) seeT zs2)) q⟩
          obtain ⟨δ3, f⟩ := p
          cases f with
          | nx => exact fun σ3 H3 B3 ρ3 r3 g3 n3 => later r3 g3 n3 q
          | ct => exact fun σ3 H3 B3 ρ3 r3 g3 n3 => later r3 g3 n3 q
          | bk =>
            exact fun σ3 H3 B3 ρ3 r3 g3 n3 => (q : ∀ σ' H' B' ρ', _) σ3 H3 B3 ρ3 r3 (g2'.trans g3 n2') fun b h => by
              rcases n3 b h with h | h
              · exact n2' b h
              · exact .inr (Classical.byContradiction fun y => g2'.alive b y h)
          | rt d => exact q
def pairsD (l : List (D × D)) : List D := l.map fun p => .tup [p.1, p.2]
end
end Fg
namespace Fg
open PySem PySem.Spec PyProof.Rows L2
variable [TQ]
def itD : D → Option (List D)
  | .lst ds => some ds
  | .tup ds => some ds
  | .str z => some (signsD z)
  | _ => none
theorem sd_of {K : PySem.W.Frag} {F : Fr} {B : Nat → Option Addr} {ρ : List Addr} {H : Hp} {v : V} {d : D} {ds : List D} (hK : F.K = K) (z : Rin F .fz B ρ H v d) (e : itD d = some ds) :
    ∃ (sd : Sd) (vs : List V), v = sd.v ∧ RinL F .fz B ρ H vs ds ∧ ∀ H1 ρ1, Gr ρ (Own B) H ρ1 H1 → sd.has K H1 vs := by
  have see : ∀ {H1 ρ1}, Gr ρ (Own B) H ρ1 H1 → LamX.ExtN (hid (Zo F B ρ) H) H1 := fun {H1 ρ1} g b o e ht => by
    obtain ⟨no, e⟩ := hid_iff.mp e
    exact g.keep b o (fun z => no (.inr z)) (fun z => no (.inl (.inr z))) ht e
  subst hK
  cases d <;> first | cases e | skip
  · obtain rfl := Rin.str (m := .fz) z
    exact ⟨.S _, _, rfl, rpL_map (fun c => .str) _, fun _ _ _ => rfl⟩
  · have z : Rp F.K F.ca ρ (hid (Zo F B ρ) H) v (.tup ds) := z
    cases z with
    | tup h1 h2 => exact ⟨.T _, _, rfl, h2, fun H1 ρ1 g => SqT.ext (see g) h1⟩
  · have z : Rp F.K F.ca ρ (hid (Zo F B ρ) H) v (.lst ds) := z
    cases z with
    | lst h1 h2 => exact ⟨.L _, _, rfl, h2, fun H1 ρ1 g => SqL.of (see g _ _ h1 fun _ z => by cases z)⟩
def zipM2 (t : DEnv → M (List D)) : DEnv → M (List D) := fun δ => do
  let ds ← t δ
  match ds with
  | [x, y] => match itD x, itD y with
    | some xs, some ys => if xs.length = ys.length then pure (pairsD (xs.zip ys)) else M.stuck
    | _, _ => M.stuck
  | _ => M.stuck
section
variable {K : PySem.W.Frag} {ca : Str → Option Addr} {ρ : List Addr} {G : Hp}
theorem zip1 : ∀ {vs ws : List V} {ds es : List D}, ds.length = es.length → RpL K ca ρ G vs ds → RpL K ca ρ G ws es → RpL K ca ρ G ((vs.zip ws).map (·.1)) ((ds.zip es).map (·.1))
  | _, _, [], [], _, .nil, .nil => .nil
  | _, _, _ :: _, _ :: _, h, .cons a t, .cons _ u => .cons a (zip1 (Nat.succ.inj h) t u)
theorem zip2 : ∀ {vs ws : List V} {ds es : List D}, ds.length = es.length → RpL K ca ρ G vs ds → RpL K ca ρ G ws es → RpL K ca ρ G ((vs.zip ws).map (·.2)) ((ds.zip es).map (·.2))
  | _, _, [], [], _, .nil, .nil => .nil
  | _, _, _ :: _, _ :: _, h, .cons _ t, .cons b u => .cons b (zip2 (Nat.succ.inj h) t u)
end
section
variable {X : Cx} {F : Fr} {O O' O1 O2 OL : List Nat} {m mi : Md} {pos pos' p tpos : Pos} {a b c e e2 tg : Expr} {rest es elts : List Expr} {i kk : Nat} {g : TG} {tb : TS} {ta : TA} {body : List Stmt}
theorem fs_forZg (hp : PassesOwn (model X.prog X.w) X.A X.env X.xe) (hc : X.calm = true) (hgl : Gl X "zip") (hm : X.mg "zip" = none) (ha : PA X [e, e2] ta) (hg : PG X (.Tuple elts kk tpos) g) (hb : PSs X body tb)
    (hst : starEach [e, e2] X.env = (false, eval e X.env) :: starEach [e2] X.env := by rfl) (hpl : (backTo pos (starEach [e2] X.env)).any (·.1) = false := by rfl) (hs : ∀ x, foldedSetIterable (.Call (.Name "zip" p) [e, e2] [] pos) X.env x = pure x := by intro _; rfl) :
    PS X (.For (.Tuple elts kk tpos) (.Call (.Name "zip" p) [e, e2] [] pos) body [] pos') (fun D σ H => ta σ H fun vs H1 => ∃ (d1 d2 : Sd) (xs ys : List V), vs = [d1.v, d2.v] ∧ (d1.has X.K H1 xs ∧ d2.has X.K H1 ys) ∧ xs.length = ys.length ∧ LoopZ (fun H => d1.has X.K H xs ∧ d2.has X.K H ys) g tb D (xs.zip ys) σ H1) :=
  ps_imp (ps_for hp hc (pi_zipM hgl hm (pa_up ha) hst hpl) hg hb hs) fun D σ H q => ⟨_, q, fun vs H1 ⟨d1, d2, xs, ys, hv, hxy, hl, q⟩ => by
  have hz : (xs.zip ys).length = xs.length := by rw [List.length_zip, hl, Nat.min_self]
  refine ⟨d1, d2, xs, ys, hv, hxy.1, hxy.2, hl, loopZ_it (J := ItM X.K d1 d2) (st := fun H => d1.has X.K H xs ∧ d2.has X.K H ys) (fun i H hi h => ?_) (fun i H x H' h y => ?_) (fun H h => ?_) hxy q⟩
  · rw [hz] at hi
    exact ⟨xs, ys, h.1, h.2, hi, hl⟩
  · obtain ⟨T, x1, x2, rfl, nT, rfl, f1, f2⟩ := y
    refine ⟨T, rfl, nT, fun p hp => ?_⟩
    rw [List.getElem?_zip_eq_some] at hp
    have e1 := (f1 _ h.1).symm.trans hp.1
    have e2 := (f2 _ h.2).symm.trans hp.2
    rw [Option.some.inj e1, Option.some.inj e2]
  · exact ⟨xs, ys, h.1, h.2, hz, hl⟩⟩
theorem endsZ {B : Nat → Option Addr} {ρ ρ' : List Addr} {H H' : Hp} {Dn : Ends} {p : DEnv × Fl} {S2 : Sto} (g' : Gr ρ NoZ H ρ' H') (k : match p.2 with
      | .nx => ∀ σ' H' B' ρ', Rel F O B' ρ' σ' H' p.1 S2 → Gr ρ (Own B) H ρ' H' → (∀ b, Own B' b → Own B b ∨ Nw H b) → Dn.nx σ' H'
      | .bk => ∀ σ' H' B' ρ', Rel F OL B' ρ' σ' H' p.1 S2 → Gr ρ (Own B) H ρ' H' → (∀ b, Own B' b → Own B b ∨ Nw H b) → Dn.bk σ' H'
      | .ct => ∀ σ' H' B' ρ', Rel F OL B' ρ' σ' H' p.1 S2 → Gr ρ (Own B) H ρ' H' → (∀ b, Own B' b → Own B b ∨ Nw H b) → Dn.ct σ' H'
      | .rt d => ∀ v H' ρ', End F ρ' H' S2 → Rp F.K F.ca ρ' (hid (Zf F ρ') H') v d → Dn.rt v H') : match p.2 with
      | .nx => ∀ σ2 H2 B2 ρ2, Rel F O B2 ρ2 σ2 H2 p.1 S2 → Gr ρ' (Own B) H' ρ2 H2 → (∀ b, Own B2 b → Own B b ∨ Nw H' b) → Dn.nx σ2 H2
      | .bk => True
      | .ct => True
      | .rt d => ∀ v H' ρ', End F ρ' H' S2 → Rp F.K F.ca ρ' (hid (Zf F ρ') H') v d → Dn.rt v H' := by
  obtain ⟨δ2, f⟩ := p
  cases f with
  | nx =>
    exact fun σ2 H2 B2 ρ2 r2 g2 n2 => k σ2 H2 B2 ρ2 r2 (g'.wk.trans g2 fun b h => .inl h) fun b h => by
      rcases n2 b h with h | h
      · exact .inl h
      · exact .inr (Classical.byContradiction fun y => g'.alive b y h)
  | bk => trivial
  | ct => trivial
  | rt d => exact k
theorem psd_forZ {t : DEnv → M (List D)} {g : D → DEnv → M DEnv} {bd : DEnv → M (DEnv × Fl)} {Og : List Nat} (hK : F.K = X.K) (hp : PassesOwn (model X.prog X.w) X.A X.env X.xe) (hc : X.calm = true) (hgl : Gl X "zip") (hm : X.mg "zip" = none) (ha : PAD X F O .fz [e, e2] t) (hg : PGD X F O Og (.Tuple elts kk tpos) g) (hb : PSsD X F Og O O body bd)
    (hst : starEach [e, e2] X.env = (false, eval e X.env) :: starEach [e2] X.env := by rfl) (hpl : (backTo pos (starEach [e2] X.env)).any (·.1) = false := by rfl) (hs : ∀ x, foldedSetIterable (.Call (.Name "zip" p) [e, e2] [] pos) X.env x = pure x := by intro _; rfl) :
    PSD X F O O OL (.For (.Tuple elts kk tpos) (.Call (.Name "zip" p) [e, e2] [] pos) body [] pos') (forS (zipM2 t) g bd) := ps_imp (fs_forZg hp hc hgl hm ha hg hb hst hpl hs) fun Dn σ H ⟨B, ρ, δ, S, r, q⟩ => ⟨B, ρ, δ, S, r, q.bind.bind.imp fun ds S' q vs H' ρ' r' g' z => by
  match ds, z, q with
  | [x, y], z, q =>
    have z : RpL F.K F.ca ρ' (hid (Zo F B ρ') H') vs [x, y] := z
    cases z with
    | cons z1 zn =>
      cases zn with
      | cons z2 zn =>
        cases zn
        have q : Ok1 F ((match itD x, itD y with
          | some xs, some ys => if xs.length = ys.length then pure (pairsD (xs.zip ys)) else M.stuck
          | _, _ => M.stuck) S') _ := q
        cases e1 : itD x with
        | none => rw [e1] at q; exact q.elim
        | some xs =>
          cases e2 : itD y with
          | none => rw [e1, e2] at q; exact q.elim
          | some ys =>
            rw [e1, e2] at q
            dsimp only at q
            split at q
            · rename_i hl
              obtain ⟨d1, v1, rfl, l1, k1⟩ := sd_of hK z1 e1
              obtain ⟨d2, v2, rfl, l2, k2⟩ := sd_of hK z2 e2
              have hv : v1.length = v2.length := by rw [RinL.len l1, RinL.len l2, hl]
              exact ⟨d1, d2, v1, v2, rfl, ⟨k1 _ _ (Gr.refl _ _ _), k2 _ _ (Gr.refl _ _ _)⟩, hv, loopZ_of (B := B) (H := H') (fun H1 ρ1 g => ⟨k1 _ _ g, k2 _ _ g⟩) (xs.zip ys) (v1.zip v2) σ B ρ' H' δ S' r' (Gr.refl _ _ _) (fun b h => .inl h) (zip1 hl l1 l2) (zip2 hl l1 l2) ((show Ok1 F (forL g bd (pairsD (xs.zip ys)) δ S') _ from q).imp fun p S2 k => endsZ g' k)⟩
            · exact q.stuck.elim
  | [], _, q => exact (show False from q).elim
  | [_], _, q => exact (show False from q).elim
  | _ :: _ :: _ :: _, _, q => exact (show False from q).elim⟩
end
end Fg
namespace Fg
open PySem PySem.Spec PyProof.Rows L2
variable [TQ]
section
variable {F : Fr} {O : List Nat} {B : Nat → Option Addr} {ρ ρ' : List Addr} {σ : L2.St} {H H' H1 : Hp} {δ : DEnv} {S S' : Sto} {v : V} {d : D} {m mi : Md}
theorem Sta.new {K : PySem.W.Frag} {ca : Str → Option Addr} {Z : Addr → Prop} {p : Addr} (s : Sta K ca ρ Z H S) (e : Same H H') (n : H p = none) (n' : ¬ Nw H' p) : Sta K ca ρ (fun b => Z b ∨ b = p) H' S := by
  have g : Gr ρ NoZ H ρ H' := Gr.same e
  refine ⟨fun b h => ?_, s.nd, fun b hb z => ?_, SrL.mono (fun _ _ e => e) (g.sees (Z := Z) (Z1 := fun b => Z b ∨ b = p) (fun _ z => z.elim) fun b h => h.elim .inl fun z => .inr (z ▸ Nw.of n)) (fun a _ o _ h => e a o h) s.sto⟩
  · rcases h with (h | h) | h
    · exact g.alive b (s.live b (.inl h))
    · rw [h]; exact n'
    · exact g.alive b (s.live b (.inr h))
  · rcases z with z | z
    · exact s.xr b hb z
    · exact s.live b (.inr hb) (z ▸ Nw.of n)
/-- a new list, dict -/
theorem res_new {p : Addr} (r : Rel F O B ρ σ H δ S) (g : Gr ρ' NoZ H1 ρ H) (e : Same H H') (n : H p = none) (n' : ¬ Nw H' p) (t : Top F.K F.ca ρ (hid (fun b => Zo F B ρ b ∨ b = p) H') H' p d) : Res F .nw B ρ H1 H' S (.ref p) d :=
  ⟨p, rfl, Classical.byContradiction fun z => g.alive p z (Nw.of n), fun z => r.sta.live p (.inr z) (Nw.of n), r.sta.new e n n', t⟩
theorem seesN {p : Addr} (e : Same H H') (n : H p = none) : LamX.ExtN (hid (Zo F B ρ) H) (hid (fun b => Zo F B ρ b ∨ b = p) H') := fun b o h _ => by
  obtain ⟨no, h⟩ := hid_iff.mp h
  exact hid_iff.mpr ⟨fun z => z.elim no fun z => (by rw [z, n] at h; cases h), e b o h⟩
end
def capL (ds : List D) : M Unit := if ds.length ≤ sizeLine then pure () else M.stuck
section
variable {X : Cx} {F : Fr} {O O' O1 O2 OL : List Nat} {m mi : Md} {pos pos' p tpos : Pos} {a b c e e2 tg o : Expr} {rest es elts : List Expr} {i kk : Nat}
theorem Ok1.cap {ds : List D} {S : Sto} {P : Unit → Sto → Prop} (h : Ok1 F (capL ds S) P) : ds.length ≤ sizeLine ∧ P () S := by
  unfold capL at h
  split at h
  · exact ⟨‹_›, h⟩
  · exact h.stuck.elim
theorem pd_lst {t : DEnv → M (List D)} (h : PAD X F O .fz es t) : PED X F O .nw (.List es pos) (fun δ => do let ds ← t δ; capL ds; pure (.lst ds)) := pe_imp (fe_lst h) fun σ H Q ⟨B, ρ, δ, S, r, q⟩ => ⟨B, ρ, δ, S, r, q.bind.imp fun ds S' q vs H' ρ' r' g z => by
  obtain ⟨hc, q⟩ := q.bind.cap
  refine ⟨by rw [RinL.len z]; exact hc, fun p H2 np s2 h2 => ?_⟩
  exact (q : ∀ v H' ρ', _) _ H2 ρ' (r'.same s2) (g.tr (Gr.same s2)) (res_new r' g s2 np (Nw.live h2 fun _ z => by cases z) ⟨_, h2, RpL.mono (fun _ _ e => e) (seesN s2 np) z⟩)⟩
theorem pd_tup {x1} {t : DEnv → M (List D)} (h : PAD X F O m es t) (hm : m ≠ .nw := by decide) : PED X F O m (.Tuple es x1 pos) (fun δ => do let ds ← t δ; capL ds; pure (.tup ds)) := pe_imp (fe_tup h) fun σ H Q ⟨B, ρ, δ, S, r, q⟩ => ⟨B, ρ, δ, S, r, q.bind.imp fun ds S' q vs H' ρ' r' g z => by
  obtain ⟨hc, q⟩ := q.bind.cap
  refine ⟨by rw [RinL.len z]; exact hc, fun p H2 np s2 h2 => ?_⟩
  refine (q : ∀ v H' ρ', _) _ H2 ρ' (r'.same s2) (g.tr (Gr.same s2)) ?_
  have g2 : Gr ρ' NoZ H' ρ' H2 := Gr.same s2
  have z2 := RinL.gr z g2
  have no : ¬ Zo F B ρ' p := fun z => by
    rcases z with (z | z) | z
    · exact r'.sta.live p (.inl (.inl z)) (Nw.of np)
    · exact r'.sta.live p (.inl (.inr z)) (Nw.of np)
    · exact r'.sta.live p (.inr z) (Nw.of np)
  cases m
  · exact .tup (SqT.of (hid_iff.mpr ⟨fun z => no (zf_zo z), h2⟩)) z2
  · exact .tup (SqT.of (hid_iff.mpr ⟨no, h2⟩)) z2
  · exact absurd rfl hm⟩
theorem Ok1.itL {x : D} {S : Sto} {P : List D → Sto → Prop} (h : Ok1 F (itL x S) P) : ∃ ds, x = .lst ds ∧ P ds S := by
  cases x <;> first | exact h.elim | exact ⟨_, rfl, h⟩
theorem Ok1.ite {α : Type} {p : Prop} [Decidable p] {x : M α} {S : Sto} {P : α → Sto → Prop} (h : Ok1 F ((if p then x else M.stuck) S) P) : p ∧ Ok1 F (x S) P := by
  split at h
  · exact ⟨‹_›, h⟩
  · exact h.stuck.elim
def appS (i : Nat) (t : DEnv → M D) : DEnv → M (DEnv × Fl) := fun δ => do
  let x ← rd i δ
  let ds ← itL x
  let d ← t δ
  if ds.length < sizeLine then pure (δ.set i (some (.lst (ds ++ [d]))), Fl.nx) else M.stuck
theorem psd_app {x : Str} {t : DEnv → M D} {npos apos cpos : Pos} (i : Nat) (h : PED X F O .fz e t) (ho : i ∈ O := by decide) (hN : X.N[i]? = some x := by rfl) (hv : Vis X.env.scope x := by first | exact Or.inl rfl | exact Or.inr (Or.inl rfl) | exact Or.inr (Or.inr rfl))
    (hbase : attributeBase (.Name x npos) "append" X.env (eval (.Name x npos) X.env) = eval (.Name x npos) X.env := by rfl)
    (hfew : ((backTo cpos (starEach [e] X.env)).all (fun x => !x.1) && (backToKw cpos (keywordEach [] X.env)).all (fun x => x.1.isSome)
      && decide ([e].length + ([] : List Keyword).length + (if ([] : List Keyword).isEmpty then 0 else 1) < 30)) = true := by rfl)
    (hline : (apos.endLine == cpos.line) = true := by rfl) (hs : starEach [e] X.env = (false, eval e X.env) :: starEach [] X.env := by rfl) (hplain : (backTo cpos (starEach [] X.env)).any (·.1) = false := by rfl)
    (hsw : swapsWith (.Call (.Attribute (.Name x npos) "append" apos) [e] [] cpos) none pos.line X.env = pure false := by rfl) (hd : (x == ("__debug__" : Str)) = false := by decide)
    (hcd : (x == ("__classdict__" : Str)) = false := by decide) :
    PSD X F O O OL (.Expr (.Call (.Attribute (.Name x npos) "append" apos) [e] [] cpos) pos) (appS i t) := ps_imp (ps_expr (fe_append (fv i hN hv hd hcd) h hbase hfew hline hs hplain) hsw) fun Dn σ H ⟨B, ρ, δ, S, r, q⟩ => by
  obtain ⟨a, eb⟩ := (r.own i).mpr ho
  obtain ⟨d0, e0⟩ := r.ownd i a eb
  have s0 := r.slot i d0 e0
  unfold SlAt at s0
  rw [eb] at s0
  obtain ⟨h1, t0⟩ := s0
  obtain ⟨x0, ex, q⟩ := (show Ok1 F (M.opt δ[i]?.join S) _ from q.bind).opt
  cases e0.symm.trans (rd_get ex)
  obtain ⟨ds, ed, q2⟩ := q.bind.itL
  clear q
  subst ed
  unfold tDrop tApp tV
  rw [h1]
  obtain ⟨vs, hv, _⟩ := t0
  refine ⟨⟨vs, hv⟩, B, ρ, δ, S, r, q2.bind.imp fun d S' q v H' ρ' r' g z => ?_⟩
  obtain ⟨hl, q⟩ := q.ite
  have s1 := r'.slot i _ e0
  unfold SlAt at s1
  rw [eb] at s1
  obtain ⟨_, ws, hw, tw⟩ := s1
  refine ⟨ws, hw, by rw [RpL.length tw]; exact hl, fun H2 b2 h2 => ?_⟩
  obtain ⟨r2, g2⟩ := r'.put (d := .lst (ds ++ [d])) eb b2 hw h2 (fun _ z => by cases z) (fun _ z => by cases z) ⟨_, h2, RpL.append tw (.cons z .nil)⟩
  exact (q : ∀ σ' H' B' ρ', _) σ H2 B ρ' r2 (g.wk.trans g2 fun b h => .inl h) fun b h => .inl h
end
end Fg
namespace Fg
open PySem PySem.Spec PyProof.Rows L2
variable [TQ]
instance (i j : Int) : Decidable (CBig i j) := by unfold CBig; infer_instance
instance (i j : Int) : Decidable (CM i j) := by unfold CM; infer_instance
instance (i j : Int) : Decidable (CDv i j) := by unfold CDv; infer_instance
instance (i j : Int) : Decidable (CPow i j) := by unfold CPow; infer_instance
def addD : D → D → M D
  | .int i, .int j => pure (.int (i + j))
  | .str a, .str b => if a.length + b.length ≤ sizeLine then pure (.str (a ++ b)) else M.stuck
  | _, _ => M.stuck
def catD : D → D → M D
  | .lst a, .lst b => if a.length + b.length ≤ sizeLine then pure (.lst (a ++ b)) else M.stuck
  | _, _ => M.stuck
def subD : D → D → M D
  | .int i, .int j => pure (.int (i - j))
  | _, _ => M.stuck
def mulD : D → D → M D
  | .int i, .int j => if CM i j then pure (.int (i * j)) else M.stuck
  | _, _ => M.stuck
def modD : D → D → M D
  | .int i, .int j => if 0 < j then pure (.int (i % j)) else M.stuck
  | _, _ => M.stuck
def fdivD : D → D → M D
  | .int i, .int j => if CDv i j then pure (.int (i / j)) else M.stuck
  | _, _ => M.stuck
def ltD : D → D → M D
  | .int i, .int j => pure (.bl (decide (i < j)))
  | _, _ => M.stuck
def leD : D → D → M D
  | .int i, .int j => pure (.bl (decide (i ≤ j)))
  | _, _ => M.stuck
def gtD : D → D → M D
  | .int i, .int j => pure (.bl (decide (j < i)))
  | _, _ => M.stuck
def geD : D → D → M D
  | .int i, .int j => pure (.bl (decide (j ≤ i)))
  | _, _ => M.stuck
/-- == of plain things -/
def eqS : D → D → Option Bool
  | .int i, .int j => some (decide (i = j))
  | .str i, .str j => some (decide (i = j))
  | .bl i, .bl j => some (decide (i = j))
  | .non, .non => some true
  | .non, .int _ => some false | .int _, .non => some false | .non, .bl _ => some false | .bl _, .non => some false
  | .non, .str _ => some false | .str _, .non => some false
  | .int _, .str _ => some false | .str _, .int _ => some false | .bl _, .str _ => some false | .str _, .bl _ => some false
  | _, _ => none
def eqD (x y : D) : M D := do let b ← M.opt (eqS x y); pure (.bl b)
def neD (x y : D) : M D := do let b ← M.opt (eqS x y); pure (.bl !b)
/-- x is None -/
def isNonD (neg : Bool) : D → D → M D
  | .non, .non => pure (.bl !neg)
  | _, .non => pure (.bl neg)
  | _, _ => M.stuck
/-- x is not True, False -/
def notBlD : D → D → M D
  | .bl a, .bl b => pure (.bl !decide (a = b))
  | .non, .bl _ => pure (.bl true)
  | .int _, .bl _ => pure (.bl true)
  | .str _, .bl _ => pure (.bl true)
  | _, _ => M.stuck
def isSign (a : Str) : Option Nat := match a.cps.toList with
  | [c] => some c
  | _ => none
/-- sign in text -/
def inSD (neg : Bool) : D → D → M D
  | .str a, .str z => do let c ← M.opt (isSign a); pure (.bl (opp neg (decide (c ∈ z.cps.toList))))
  | _, _ => M.stuck
section
variable {F : Fr} {m mi : Md} {O : List Nat} {B : Nat → Option Addr} {ρ : List Addr} {σ : L2.St} {H H' : Hp} {δ : DEnv} {S S' : Sto} {v w : V} {d e : D} {Q : VK} {r0 : R2}
theorem o_add (hm : mi = m) (h2 : m ≠ .nw) : OpD F mi m fAdd addD := by
  intro O B ρ σ δ H S x y d e Q r hx hy q
  cases d <;> cases e <;> first | exact (show False from q).elim | skip
  · cases hx.int; cases hy.int
    exact Ok1.scal r (d := .int _) rfl h2 q
  · cases hx.str; cases hy.str
    obtain ⟨c, q⟩ := Ok1.ite q
    exact ⟨c, Ok1.scal r (d := .str _) rfl h2 q⟩
theorem o_int {g : Int → Int → D} {f : D → D → M D} (hf : ∀ i j, f (.int i) (.int j) = pure (g i j)) (hn : ∀ x y S, (∀ i j, ¬ (x = .int i ∧ y = .int j)) → f x y S = none) (hs : ∀ i j, scalD (g i j) = true) (h2 : m ≠ .nw) : OpD F mi m (fI fun i j => scV (g i j)) f := by
  intro O B ρ σ δ H S x y d e Q r hx hy q
  by_cases c : ∃ i j, d = .int i ∧ e = .int j
  · obtain ⟨i, j, rfl, rfl⟩ := c
    cases hx.int; cases hy.int
    rw [hf] at q
    exact Ok1.scal r (hs i j) h2 q
  · rw [hn d e S fun i j z => c ⟨i, j, z⟩] at q
    exact q.elim
theorem o_intc {C : Int → Int → Prop} [∀ i j, Decidable (C i j)] {g : Int → Int → D} {f : D → D → M D} (hf : ∀ i j, f (.int i) (.int j) = if C i j then pure (g i j) else M.stuck) (hn : ∀ x y S, (∀ i j, ¬ (x = .int i ∧ y = .int j)) → f x y S = none) (hs : ∀ i j, scalD (g i j) = true) (h2 : m ≠ .nw) : OpD F mi m (fIc C fun i j => scV (g i j)) f := by
  intro O B ρ σ δ H S x y d e Q r hx hy q
  by_cases c : ∃ i j, d = .int i ∧ e = .int j
  · obtain ⟨i, j, rfl, rfl⟩ := c
    cases hx.int; cases hy.int
    rw [hf] at q
    obtain ⟨c, q⟩ := Ok1.ite q
    exact ⟨c, Ok1.scal r (hs i j) h2 q⟩
  · rw [hn d e S fun i j z => c ⟨i, j, z⟩] at q
    exact q.elim
local macro_rules | `(tactic| walk_at "ni") => `(tactic| (intro x y S h; cases x <;> cases y <;> first | rfl | exact absurd ⟨rfl, rfl⟩ (h _ _)))
theorem o_sub (h2 : m ≠ .nw) : OpD F mi m (fI fun i j => .int (i - j)) subD := o_int (g := fun i j => .int (i - j)) (fun _ _ => rfl) (by walk_at "ni") (fun _ _ => rfl) h2
theorem o_lt (h2 : m ≠ .nw) : OpD F mi m (fI fun i j => .bl (decide (i < j))) ltD := o_int (g := fun i j => .bl (decide (i < j))) (fun _ _ => rfl) (by walk_at "ni") (fun _ _ => rfl) h2
theorem o_le (h2 : m ≠ .nw) : OpD F mi m (fI fun i j => .bl (decide (i ≤ j))) leD := o_int (g := fun i j => .bl (decide (i ≤ j))) (fun _ _ => rfl) (by walk_at "ni") (fun _ _ => rfl) h2
theorem o_gt (h2 : m ≠ .nw) : OpD F mi m (fI fun i j => .bl (decide (j < i))) gtD := o_int (g := fun i j => .bl (decide (j < i))) (fun _ _ => rfl) (by walk_at "ni") (fun _ _ => rfl) h2
theorem o_mul (h2 : m ≠ .nw) : OpD F mi m (fIc CM fun i j => .int (i * j)) mulD := o_intc (g := fun i j => .int (i * j)) (fun _ _ => rfl) (by walk_at "ni") (fun _ _ => rfl) h2
theorem o_mod (h2 : m ≠ .nw) : OpD F mi m (fIc (fun _ j => 0 < j) fun i j => .int (i % j)) modD := o_intc (g := fun i j => .int (i % j)) (fun _ _ => rfl) (by walk_at "ni") (fun _ _ => rfl) h2
theorem o_fdiv (h2 : m ≠ .nw) : OpD F mi m (fIc CDv fun i j => .int (i / j)) fdivD := o_intc (g := fun i j => .int (i / j)) (fun _ _ => rfl) (by walk_at "ni") (fun _ _ => rfl) h2
theorem o_cat (hm : mi = m) (h2 : m ≠ .nw) : OpD F mi m fCat catD := by
  subst hm
  intro O B ρ σ δ H S x y d e Q r hx hy q
  cases d <;> cases e <;> first | exact (show False from q).elim | skip
  obtain ⟨a, vs, rfl, ha, la⟩ := hx.lst
  obtain ⟨b, ws, rfl, hb, lb⟩ := hy.lst
  obtain ⟨c, q⟩ := Ok1.ite q
  refine ⟨vs, ws, ha, hb, by rw [RinL.len la, RinL.len lb]; exact c, fun p H2 np s2 h2' => ?_⟩
  have g : Gr ρ NoZ H ρ H2 := Gr.same s2
  refine (q : ∀ v H' ρ', _) _ H2 ρ (r.same s2) g ?_
  have no : ¬ Zo F B ρ p := fun z => by
    rcases z with (z | z) | z
    · exact r.sta.live p (.inl (.inl z)) (Nw.of np)
    · exact r.sta.live p (.inl (.inr z)) (Nw.of np)
    · exact r.sta.live p (.inr z) (Nw.of np)
  cases mi
  · exact .lst (hid_iff.mpr ⟨fun z => no (zf_zo z), h2'⟩) (RpL.append (RinL.gr (m := .tr) (B := B) la g) (RinL.gr (m := .tr) (B := B) lb g))
  · exact .lst (hid_iff.mpr ⟨no, h2'⟩) (RpL.append (RinL.gr (m := .fz) la g) (RinL.gr (m := .fz) lb g))
  · exact absurd rfl h2
/-- of plain things -/
theorem scal_of {x y : D} {b : Bool} (h : eqS x y = some b) : scalD x = true ∧ scalD y = true ∧ scal (scV x) (scV y) = true ∧ b = decide (scV x = scV y) := by
  cases x <;> cases y <;> first | cases h | skip
  all_goals first
    | exact ⟨rfl, rfl, rfl, by simp [scV]⟩
    | (refine ⟨rfl, rfl, rfl, ?_⟩; simp [scV]; done)
theorem o_eq (h2 : m ≠ .nw) : OpD F mi m rEq eqD := by
  intro O B ρ σ δ H S x y d e Q r hx hy q
  obtain ⟨b, eb, q⟩ := q.bind.opt
  obtain ⟨s1, s2, s3, rfl⟩ := scal_of eb
  cases hx.scal s1; cases hy.scal s2
  exact ⟨s3, Ok1.scal r (d := .bl _) rfl h2 q⟩
theorem o_ne (h2 : m ≠ .nw) : OpD F mi m rNe neD := by
  intro O B ρ σ δ H S x y d e Q r hx hy q
  obtain ⟨b, eb, q⟩ := q.bind.opt
  obtain ⟨s1, s2, s3, rfl⟩ := scal_of eb
  cases hx.scal s1; cases hy.scal s2
  exact ⟨s3, Ok1.scal r (d := .bl _) rfl h2 q⟩
theorem o_isN {neg : Bool} (h2 : m ≠ .nw) : OpD F mi m (fIsN neg) (isNonD neg) := by
  intro O B ρ σ δ H S x y d e Q r hx hy q
  cases e <;> first | (cases d <;> exact (show False from q).elim) | skip
  cases hy.non
  cases d
  · cases hx.non; exact Ok1.scal r (d := .bl _) rfl h2 q
  · cases hx.bl; exact Ok1.scal r (d := .bl _) rfl h2 q
  · cases hx.int; exact Ok1.scal r (d := .bl _) rfl h2 q
  · cases hx.str; exact Ok1.scal r (d := .bl _) rfl h2 q
  · obtain ⟨a, _, rfl, _⟩ := hx.tup; exact Ok1.scal r (d := .bl _) rfl h2 q
  · obtain ⟨a, _, rfl, _⟩ := hx.lst; exact Ok1.scal r (d := .bl _) rfl h2 q
  · obtain ⟨a, _, rfl, _⟩ := hx.dct; exact Ok1.scal r (d := .bl _) rfl h2 q
  · obtain ⟨a, _, _, _, rfl, _⟩ := hx.obj; exact Ok1.scal r (d := .bl _) rfl h2 q
  · obtain ⟨a, rfl, _⟩ := hx.mt; exact Ok1.scal r (d := .bl _) rfl h2 q
theorem o_notBl (h2 : m ≠ .nw) : OpD F mi m rNotBl notBlD := by
  intro O B ρ σ δ H S x y d e Q r hx hy q
  cases d <;> cases e <;> first | exact (show False from q).elim | skip
  · cases hx.non; cases hy.bl; exact ⟨rfl, Ok1.scal r (d := .bl true) rfl h2 q⟩
  · cases hx.bl; cases hy.bl
    rename_i a b
    refine ⟨rfl, ?_⟩
    have z := Ok1.scal r (d := .bl !decide (a = b)) rfl h2 q
    have e : decide (V.bl a = V.bl b) = decide (a = b) := by
      by_cases h : a = b
      · rw [h]; simp
      · simp [h]
    rw [e]; exact z
  · cases hx.int; cases hy.bl; exact ⟨rfl, Ok1.scal r (d := .bl true) rfl h2 q⟩
  · cases hx.str; cases hy.bl; exact ⟨rfl, Ok1.scal r (d := .bl true) rfl h2 q⟩
theorem isSign_eq {a : Str} {c : Nat} (h : isSign a = some c) : a = ⟨#[c]⟩ := by
  unfold isSign at h
  split at h
  · rename_i c' e
    cases h
    obtain ⟨⟨l⟩⟩ := a
    have e : l = [c] := e
    rw [e]
  · cases h
theorem o_inS {neg : Bool} (h2 : m ≠ .nw) : OpD F mi m (fInS neg) (inSD neg) := by
  intro O B ρ σ δ H S x y d e Q r hx hy q
  cases d <;> cases e <;> first | exact (show False from q).elim | skip
  obtain ⟨c, ec, q⟩ := q.bind.opt
  cases hx.str; cases hy.str
  exact ⟨c, isSign_eq ec, Ok1.scal r (d := .bl _) rfl h2 q⟩
end
end Fg
namespace Fg
open PySem PySem.Spec PyProof.Rows L2
variable [TQ]
def startD (n : Nat) (ds : List D) : DEnv := ds.map some ++ List.replicate (n - ds.length) none
/-- a def's body run with values -/
def runD (n : Nat) (b : DEnv → M (DEnv × Fl)) (ds : List D) : M D := do
  let p ← b (startD n ds)
  match p.2 with
  | .nx => pure .non
  | .rt d => pure d
  | _ => M.stuck
/-- the promise of a def that computes f -/
def spD (K : PySem.W.Frag) (ca ce : Str → Option Addr) (n : Nat) (f : List D → M D) : Sp := fun vs H Q E => ∃ (Xs : Addr → Prop) (ρ : List Addr) (ds : List D) (S : Sto), ds.length = n ∧ Sta K ca ρ Xs H S ∧ RpL K ca ρ (hid (fun b => Xs b ∨ b ∈ ρ) H) vs ds ∧
  Ok1 ⟨K, ca, ce, H, Xs, ρ, E, none⟩ (f ds S) fun d S' => ∀ v H' ρ', End ⟨K, ca, ce, H, Xs, ρ, E, none⟩ ρ' H' S' → Rp K ca ρ' (hid (fun b => Xs b ∨ b ∈ ρ') H') v d → Q v H'
theorem spD_len {K : PySem.W.Frag} {ca ce : Str → Option Addr} {n : Nat} {f : List D → M D} {vs : List V} {H : Hp} {Q : VK} {E : XK} (h : spD K ca ce n f vs H Q E) : vs.length = n := by
  obtain ⟨Xs, ρ, ds, S, hl, _, p, _⟩ := h
  rw [RpL.length p, hl]
theorem start_at {α : Type} : ∀ (l : List α) (n i : Nat) (x : α), (l.map some ++ List.replicate n none)[i]? = some (some x) → l[i]? = some x
  | [], n, i, x, h => by
    rw [List.map_nil, List.nil_append, List.getElem?_replicate] at h
    split at h <;> cases h
  | y :: l, n, 0, x, h => by simpa using h
  | y :: l, n, i + 1, x, h => start_at l n i x (by simpa using h)
theorem start_in {α : Type} : ∀ (l : List α) (n i : Nat) (x : α), l[i]? = some x → (l.map some ++ List.replicate n none)[i]? = some (some x)
  | [], n, i, x, h => by simp at h
  | y :: l, n, 0, x, h => by simpa using h
  | y :: l, n, i + 1, x, h => by simpa using start_in l n i x (by simpa using h)
/-- a body, at its entry -/
theorem body_of {F : Fr} {N : List Str} {vs : List V} {ds : List D} {b : DEnv → M (DEnv × Fl)} {O' : List Nat} {Dn : Ends} {S : Sto} {n : Nat} (hn : N.length = n) (st : Sta F.K F.ca F.R0 F.Xs F.H0 S) (p : RpL F.K F.ca F.R0 (hid (fun b => F.Xs b ∨ b ∈ F.R0) F.H0) vs ds)
    (q : Ok1 F (runD n b ds S) fun d S' => ∀ v H' ρ', End F ρ' H' S' → Rp F.K F.ca ρ' (hid (fun b => F.Xs b ∨ b ∈ ρ') H') v d → Dn.rt v H') (hnx : ∀ σ H, Dn.rt .non H → Dn.nx σ H) : dS F [] O' [] b Dn (L2.start N vs) F.H0 := by
  refine ⟨fun _ => none, F.R0, startD n ds, S, ⟨Gr.refl _ _ _, st.wk fun b h => h.elim id fun ⟨_, z⟩ => (by cases z), fun b ⟨_, z⟩ => (by cases z), fun b ⟨_, z⟩ => (by cases z), fun i j b z => (by cases z), fun i => ⟨fun ⟨_, z⟩ => (by cases z), fun z => (by cases z)⟩, fun i a z => (by cases z), fun _ _ => .inr rfl, ?_, fun i d e => ?_⟩, ?_⟩
  · unfold L2.start startD
    rw [List.length_append, List.length_append, List.length_map, List.length_map, List.length_replicate, List.length_replicate, RpL.length p, hn]
  · have e' := start_at ds _ i d e
    obtain ⟨v, hv, hr⟩ := RpL.get p e'
    refine ⟨v, start_in vs _ i v hv, hr.mono (fun _ _ e => e) fun b o e _ => ?_⟩
    obtain ⟨no, e⟩ := hid_iff.mp e
    exact hid_iff.mpr ⟨fun z => no (z.elim (fun z => z.elim .inl fun ⟨_, z⟩ => (by cases z)) .inr), e⟩
  · refine (Ok1.bind q).imp fun p S' k => ?_
    obtain ⟨δ', fl⟩ := p
    cases fl with
    | nx => exact fun σ' H' B' ρ' r' g n => hnx _ _ ((k : ∀ v H' ρ', _) .non H' ρ' r'.end .non)
    | rt d => exact k
    | bk => exact (show False from k).elim
    | ct => exact (show False from k).elim
section
variable {P : Program} {w : World} {K : PySem.W.Frag} {mg : Str → Option Value} {base : Heap} {ca ce : Str → Option Addr}
/-- a def that computes what its body's term says -/
theorem calleeD_of {x : Str} {st : Stmt} {N ps : List Str} {k n m : Nat} {b : DEnv → M (DEnv × Fl)} (F : FunAt K mg x st) (S : FnScope N ps (defScope st)) (hn : N.length = n := by rfl) (hm : ps.length = m := by rfl)
    (hb : ∀ (kV doc pm : Value) (an : Option Addr) (cdv ct : Value) (us : List Value), us.length = ps.length → bindArgs (PySem.W.fnOf x x (defArgs st) (defBody st) (defScope st) .none kV doc pm an cdv ct) ⟨us, []⟩ = pure (ps.zip us))
    (hbody : ∀ (f : Addr) (cdv : Value) (A : Around) (outer : List Env) (s : Shared) (H : Hp) (Xs : Addr → Prop) (ρ : List Addr) (E : XK), Room k (cxOf (L2.CX P w) P w K mg base N x (defScope st) f cdv A outer s H E).A →
      Takes (cxOf (L2.CX P w) P w K mg base N x (defScope st) f cdv A outer s H E) (fun cls d _ H => E cls d H) →
      PassesOwn (model P w) (cxOf (L2.CX P w) P w K mg base N x (defScope st) f cdv A outer s H E).A (cxOf (L2.CX P w) P w K mg base N x (defScope st) f cdv A outer s H E).env (cxOf (L2.CX P w) P w K mg base N x (defScope st) f cdv A outer s H E).xe →
      PSsD (cxOf (L2.CX P w) P w K mg base N x (defScope st) f cdv A outer s H E) ⟨K, ca, ce, H, Xs, ρ, E, none⟩ [] [] [] (defBody st) b) :
    Callee P w K mg base (k + 1) x ps (spD K ca ce m (runD n b)) := by
  refine callee_of F S hb (fun vs H Q E h => by rw [spD_len h, hm]) fun f cdv A outer s H vs Q E hr tk po h => ?_
  obtain ⟨Xs, ρ, ds, S0, hl, st0, p, q⟩ := h
  exact ⟨_, hbody f cdv A outer s H Xs ρ E hr tk po, body_of (F := ⟨K, ca, ce, H, Xs, ρ, E, none⟩) hn st0 p q fun _ _ h => h⟩
end
section
variable {X : Cx} {F : Fr} {O O' O1 O2 OL : List Nat} {m mi : Md} {pos pos2 p tpos : Pos} {a b c e e2 tg o : Expr} {rest es elts : List Expr} {i j k kk n : Nat} {x f : Str} {ps : List Str}
/-- a def's promise at a point of its caller -/
theorem spD_at {f : List D → M D} {B : Nat → Option Addr} {ρ : List Addr} {σ : L2.St} {H1 : Hp} {δ : DEnv} {S1 : Sto} {vs : List V} {ds : List D} {Q : VK} (r : Rel F O B ρ σ H1 δ S1) (z : RinL F .fz B ρ H1 vs ds)
    (q : Ok1 F (if ds.length = n then f ds S1 else none) fun d S' => ∀ v H' ρ', Rel F O B ρ' σ H' δ S' → Gr ρ NoZ H1 ρ' H' → Res F .fz B ρ' H1 H' S' v d → Q v H') : spD F.K F.ca F.ce n f vs H1 Q F.W := by
  split at q
  · rename_i hl
    refine ⟨fun b => F.Xs b ∨ Own B b, ρ, ds, S1, hl, r.sta, z, ?_⟩
    unfold Ok1 at q ⊢
    cases e : f ds S1 with
    | none => rw [e] at q; exact q
    | some p =>
      rw [e] at q
      obtain ⟨res, S'⟩ := p
      cases res with
      | error ex =>
        intro cls dd H' ρ' en er
        refine q cls dd H' ρ' ⟨r.gr.tr en.gr, en.sta.wk fun b h => .inl h⟩ ?_
        obtain ⟨C, h1, h2, h3⟩ := er
        exact ⟨C, h1, h2, h3.imp id fun ⟨nf, x, vs, h3, h4, h5⟩ => ⟨nf, x, vs, h3, h4, RpF.mono (fun _ _ e => e) (fun b o e _ => by
          obtain ⟨no, e⟩ := hid_iff.mp e
          exact hid_iff.mpr ⟨fun z => no (z.imp .inl id), e⟩) h5⟩⟩
      | ok d =>
        intro v H' ρ' en hr
        exact q v H' ρ' (r.step en.gr en.sta) en.gr hr
  · exact (show False from q).elim
def callD (n : Nat) (f : List D → M D) (t : DEnv → M (List D)) : DEnv → M D := fun δ => do let ds ← t δ; if ds.length = n then f ds else M.stuck
theorem ite_at {α : Type} {p : Prop} [Decidable p] {x : M α} {S : Sto} : (if p then x else M.stuck) S = if p then x S else none := by split <;> rfl
theorem pd_call {f : List D → M D} {t : DEnv → M (List D)} (c : Callee X.prog X.w X.K X.mg X.base k x ps (spD F.K F.ca F.ce n f)) (hr : Room j X.A) (hk : k ≤ j) (hg : Gl X x) (tk : Takes X fun cls d _ H => F.W cls d H) (ha : PAD X F O .fz (e :: es) t) (hdb : (x == ("__debug__" : Str)) = false := by decide) (he : starEach (e :: es) X.env = (false, eval e X.env) :: starEach es X.env := by rfl)
    (hpl : (backTo pos (starEach es X.env)).any (·.1) = false := by rfl) : PED X F O .fz (.Call (.Name x p) (e :: es) [] pos) (callD n f t) := pe_imp (fc_call c hr hk hg tk ha hdb he hpl) fun σ H Q ⟨B, ρ, δ, S, r, q⟩ => ⟨B, ρ, δ, S, r, q.bind.imp fun ds S' q vs H' ρ' r' g z => by
  rw [ite_at] at q
  exact spD_at r' z (q.imp fun d S2 k v H2 ρ2 r2 g2 z2 => k v H2 ρ2 r2 (g.tr g2) z2)⟩
theorem pd_call0 {f : List D → M D} (c : Callee X.prog X.w X.K X.mg X.base k x ps (spD F.K F.ca F.ce n f)) (hr : Room j X.A) (hk : k ≤ j) (hg : Gl X x) (tk : Takes X fun cls d _ H => F.W cls d H) (hdb : (x == ("__debug__" : Str)) = false := by decide) :
    PED X F O .fz (.Call (.Name x p) [] [] pos) (callD n f nilM) := pe_imp (fc_call0 c hr hk hg tk hdb) fun σ H Q ⟨B, ρ, δ, S, r, q⟩ => by
  have q := q.bind
  rw [show ((nilM δ) S) = some (.ok [], S) from rfl] at q
  have q : Ok1 F ((if [].length = n then f [] else M.stuck) S) _ := q
  rw [ite_at] at q
  exact spD_at r RinL.nil q
def raiseS (c f : Str) (t : DEnv → M D) : DEnv → M (DEnv × Fl) := fun δ => do let d ← t δ; M.raise ⟨c, [(f, d)]⟩
theorem psd_raise {C : Addr} {t : DEnv → M D} (hc : X.calm = true) (R : Raiser X.prog X.w X.K X.mg X.base x C f) (hca : F.ce x = some C) (hr : Room j X.A) (hk : 2 ≤ j) (tk : Takes X fun cls d _ H => F.W cls d H) (hg : Gl X x) (he : PED X F O .tr e t) (hdb : (x == ("__debug__" : Str)) = false := by decide)
    (hst : starEach (e :: []) X.env = (false, eval e X.env) :: starEach [] X.env := by rfl) (hpl : (backTo pos (starEach [] X.env)).any (·.1) = false := by rfl) :
    PSD X F O O' OL (.Raise (some (.Call (.Name x p) [e] [] pos)) none pos2) (raiseS x f t) := ps_imp (fr_raise hc R hr hk tk hg he hdb hst hpl) fun Dn σ H ⟨B, ρ, δ, S, r, q⟩ => ⟨B, ρ, δ, S, r, q.bind.imp fun d S' q v H' ρ' r' g z => fun dd H2 nd s2 h2 => by
  have r2 := r'.same s2
  exact (q : ∀ cls dd H' ρ', _) _ _ H2 ρ' r2.end ⟨C, rfl, hca, .inr ⟨(fun z => nomatch z), dd, _, rfl, h2, .cons (Rp.mono (fun _ _ e => e) (Gr.seesF (F := F) (Gr.same (ρ := ρ') s2)) z) .nil⟩⟩⟩
end
end Fg
namespace Fg
open PySem PySem.Spec PyProof.Rows L2
variable [TQ]
def CallD (F : Fr) (mi m : Md) (r : List V → Hp → VK → Prop) (f : List D → M D) : Prop := ∀ O B ρ σ δ H S vs ds Q, Rel F O B ρ σ H δ S → RinL F mi B ρ H vs ds →
  Ok1 F (f ds S) (fun d' S' => ∀ v H' ρ', Rel F O B ρ' σ H' δ S' → Gr ρ NoZ H ρ' H' → Res F m B ρ' H H' S' v d' → Q v H') → r vs H Q
def lenD : List D → M D
  | [.str z] => if z.length ≤ sizeLine then pure (.int z.length) else M.stuck
  | [.lst ds] => pure (.int ds.length)
  | [.tup ds] => pure (.int ds.length)
  | _ => M.stuck
def intD : List D → M D
  | [.int i] => pure (.int i)
  | [.bl k] => pure (.int (if k then 1 else 0))
  | _ => M.stuck
def blsD : List D → Option (List Bool)
  | [] => some []
  | .bl b :: r => (blsD r).map (b :: ·)
  | _ :: _ => none
def allD : List D → M D
  | [.lst ds] => do let bs ← M.opt (blsD ds); pure (.bl (bs.all id))
  | _ => M.stuck
def anyD : List D → M D
  | [.lst ds] => do let bs ← M.opt (blsD ds); pure (.bl (bs.any id))
  | _ => M.stuck
def tupleD : List D → M D
  | [.lst ds] => pure (.tup ds)
  | _ => M.stuck
section
variable {X : Cx} {F : Fr} {O O' O1 O2 OL : List Nat} {m mi : Md} {pos pos' p tpos : Pos} {a b c e e2 tg o : Expr} {rest es elts : List Expr} {i j k kk n : Nat} {x f : Str} {ps : List Str}
theorem pd_callB {id : String} {r : List V → Hp → VK → Prop} {g : List D → M D} {t : DEnv → M (List D)} (hc : CallR X (.builtin id) r) (hf : CallD F mi m r g) (hg : Gl X x) (hm : X.mg x = none) (hv : bootBuiltins x = some (.builtin id)) (ha : PAD X F O mi (e :: es) t) (hn : x ≠ "__name__" := by decide) (hdb : (x == ("__debug__" : Str)) = false := by decide)
    (he : starEach (e :: es) X.env = (false, eval e X.env) :: starEach es X.env := by rfl) (hpl : (backTo pos (starEach es X.env)).any (·.1) = false := by rfl) : PED X F O m (.Call (.Name x p) (e :: es) [] pos) (fun δ => do let ds ← t δ; g ds) :=
  pe_imp (pe_callB hc hg hm hv ha hn hdb he hpl) fun σ H Q ⟨B, ρ, δ, S, r0, q⟩ => ⟨B, ρ, δ, S, r0, q.bind.imp fun ds S' q vs H' ρ' r' g z => hf O B ρ' σ δ H' S' vs ds Q r' z (q.imp fun d S2 k v H2 ρ2 r2 g2 z2 => k v H2 ρ2 r2 (g.tr g2) (Res.gr2 g z2))⟩
theorem pd_callTy {T : String} {r : List V → Hp → VK → Prop} {g : List D → M D} {t : DEnv → M (List D)} (hc : CallR X (.type T) r) (hf : CallD F mi m r g) (hg : Gl X x) (hm : X.mg x = none) (hv : bootBuiltins x = some (.type T)) (ha : PAD X F O mi (e :: es) t) (hn : x ≠ "__name__" := by decide) (hdb : (x == ("__debug__" : Str)) = false := by decide)
    (he : starEach (e :: es) X.env = (false, eval e X.env) :: starEach es X.env := by rfl) (hpl : (backTo pos (starEach es X.env)).any (·.1) = false := by rfl) : PED X F O m (.Call (.Name x p) (e :: es) [] pos) (fun δ => do let ds ← t δ; g ds) :=
  pe_imp (pe_callTy hc hg hm hv ha hn hdb he hpl) fun σ H Q ⟨B, ρ, δ, S, r0, q⟩ => ⟨B, ρ, δ, S, r0, q.bind.imp fun ds S' q vs H' ρ' r' g z => hf O B ρ' σ δ H' S' vs ds Q r' z (q.imp fun d S2 k v H2 ρ2 r2 g2 z2 => k v H2 ρ2 r2 (g.tr g2) (Res.gr2 g z2))⟩
end
section
variable {K : PySem.W.Frag} {F : Fr} {m mi : Md} {B : Nat → Option Addr} {ρ : List Addr} {H : Hp}
theorem RinL.one {vs : List V} {d : D} (h : RinL F mi B ρ H vs [d]) : ∃ v, vs = [v] ∧ Rin F mi B ρ H v d := by
  obtain ⟨v, hv, hr⟩ := h.get (i := 0) rfl
  have hl := h.len
  match vs, hl, hv with
  | [w], _, hv => cases hv; exact ⟨_, rfl, hr⟩
theorem RinL.two {vs : List V} {d e : D} (h : RinL F mi B ρ H vs [d, e]) : ∃ v w, vs = [v, w] ∧ Rin F mi B ρ H v d ∧ Rin F mi B ρ H w e := by
  obtain ⟨v, hv, hr⟩ := h.get (i := 0) rfl
  obtain ⟨w, hw, hs⟩ := h.get (i := 1) rfl
  have hl := h.len
  match vs, hl, hv, hw with
  | [_, _], _, hv, hw => cases hv; cases hw; exact ⟨_, _, rfl, hr, hs⟩
theorem c_len (hK : F.K = K) (h2 : m ≠ .nw) : CallD F mi m (fLen K) lenD := by
  intro O B ρ σ δ H S vs ds Q r z q
  subst hK
  unfold lenD at q
  split at q
  · obtain ⟨v, rfl, y⟩ := z.one
    cases y.str
    obtain ⟨c, q⟩ := Ok1.ite q
    exact ⟨c, Ok1.scal r (d := .int _) rfl h2 q⟩
  · obtain ⟨v, rfl, y⟩ := z.one
    obtain ⟨a, ws, rfl, ha, la⟩ := y.lst
    refine ⟨ws, .inl (SqL.of ha), ?_⟩
    rw [RinL.len la]
    exact Ok1.scal r (d := .int _) rfl h2 q
  · obtain ⟨v, rfl, y⟩ := z.one
    obtain ⟨a, ws, rfl, ha, la⟩ := y.tup
    refine ⟨ws, .inr ha, ?_⟩
    rw [RinL.len la]
    exact Ok1.scal r (d := .int _) rfl h2 q
  · exact q.stuck.elim
theorem c_int (h2 : m ≠ .nw) : CallD F mi m fInt intD := by
  intro O B ρ σ δ H S vs ds Q r z q
  unfold intD at q
  split at q
  · obtain ⟨v, rfl, y⟩ := z.one
    cases y.int
    exact Ok1.scal r (d := .int _) rfl h2 q
  · obtain ⟨v, rfl, y⟩ := z.one
    cases y.bl
    exact Ok1.scal r (d := .int _) rfl h2 q
  · exact q.stuck.elim
theorem bls_rp {ca : Str → Option Addr} {G : Hp} : ∀ {ds : List D} {vs : List V} {bs : List Bool}, RpL K ca ρ G vs ds → blsD ds = some bs → vs = bs.map V.bl
  | [], _, _, .nil, e => by cases e; rfl
  | d :: ds, _, bs, .cons h t, e => by
    cases d <;> first | cases e | skip
    rename_i b
    cases h
    have e : (blsD ds).map (b :: ·) = some bs := e
    cases eb : blsD ds with
    | none => rw [eb] at e; cases e
    | some cs =>
      rw [eb] at e
      cases e
      rw [bls_rp t eb]
      rfl
theorem c_any (hK : F.K = K) (h2 : m ≠ .nw) : CallD F mi m (fAll K fun bs => bs.any id) anyD := by
  intro O B ρ σ δ H S vs ds Q r z q
  subst hK
  unfold anyD at q
  split at q
  · obtain ⟨v, rfl, y⟩ := z.one
    obtain ⟨a, ws, rfl, ha, la⟩ := y.lst
    obtain ⟨bs, eb, q⟩ := q.bind.opt
    obtain ⟨G, _, la⟩ := la.out
    exact ⟨ws, bs, SqL.of ha, bls_rp la eb, Ok1.scal r (d := .bl _) rfl h2 q⟩
  · exact q.stuck.elim
theorem no_new {O : List Nat} {σ : L2.St} {δ : DEnv} {S : Sto} {p : Addr} (r : Rel F O B ρ σ H δ S) (np : H p = none) : ¬ Zo F B ρ p := fun z => by
  rcases z with (z | z) | z
  · exact r.sta.live p (.inl (.inl z)) (Nw.of np)
  · exact r.sta.live p (.inl (.inr z)) (Nw.of np)
  · exact r.sta.live p (.inr z) (Nw.of np)
/-- a new tuple of things that are there -/
theorem tup_new {O : List Nat} {σ : L2.St} {δ : DEnv} {S S' : Sto} {p : Addr} {H2 H0 : Hp} {ws : List V} {ds : List D} (r : Rel F O B ρ σ H δ S) (np : H p = none) (s2 : Same H H2) (h2 : H2 p = some (.tup ws)) (hm : m ≠ .nw) (la : RinL F m B ρ H ws ds) : Res F m B ρ H0 H2 S' (.ref p) (.tup ds) := by
  have no := no_new r np
  have z2 := RinL.gr la (Gr.same s2)
  cases m
  · exact .tup (SqT.of (hid_iff.mpr ⟨fun z => no (zf_zo z), h2⟩)) z2
  · exact .tup (SqT.of (hid_iff.mpr ⟨no, h2⟩)) z2
  · exact absurd rfl hm
theorem lst_new {O : List Nat} {σ : L2.St} {δ : DEnv} {S S' : Sto} {p : Addr} {H2 H0 : Hp} {ws : List V} {ds : List D} (r : Rel F O B ρ σ H δ S) (np : H p = none) (s2 : Same H H2) (h2 : H2 p = some (.lst ws)) (hm : m ≠ .nw) (la : RinL F m B ρ H ws ds) : Res F m B ρ H0 H2 S' (.ref p) (.lst ds) := by
  have no := no_new r np
  have z2 := RinL.gr la (Gr.same s2)
  cases m
  · exact .lst (hid_iff.mpr ⟨fun z => no (zf_zo z), h2⟩) z2
  · exact .lst (hid_iff.mpr ⟨no, h2⟩) z2
  · exact absurd rfl hm
theorem c_tuple (hK : F.K = K) (h2 : m ≠ .nw) : CallD F m m (fTuple K) tupleD := by
  intro O B ρ σ δ H S vs ds Q r z q
  subst hK
  unfold tupleD at q
  split at q
  · obtain ⟨v, rfl, y⟩ := z.one
    obtain ⟨a, ws, rfl, ha, la⟩ := y.lst
    exact ⟨ws, SqL.of ha, fun p H2 np s2 h2' => (q : ∀ v H' ρ', _) _ H2 ρ (r.same s2) (Gr.same s2) (tup_new r np s2 h2' h2 la)⟩
  · exact q.stuck.elim
end
def ixD : D → D → M D
  | .str z, .int i => if z.length ≤ sizeLine then (do let c ← M.opt (atI z.cps.toList i); pure (.str ⟨#[c]⟩)) else M.stuck
  | .lst ds, .int i => M.opt (atI ds i)
  | .tup ds, .int i => M.opt (atI ds i)
  | _, _ => M.stuck
theorem RinL.atI {F : Fr} {m : Md} {B : Nat → Option Addr} {ρ : List Addr} {H : Hp} {vs : List V} {ds : List D} {d : D} {i : Int} (h : RinL F m B ρ H vs ds) (e : L2.atI ds i = some d) : ∃ v, L2.atI vs i = some v ∧ Rin F m B ρ H v d := by
  unfold L2.atI at e ⊢
  rw [h.len]
  cases ej : ixN ds.length i with
  | none => rw [ej] at e; cases e
  | some j => rw [ej] at e; exact h.get e
section
variable {X : Cx} {F : Fr} {O O' O1 O2 OL : List Nat} {m mi : Md} {pos pos' p tpos : Pos} {a b c e e2 tg o : Expr} {K : PySem.W.Frag}
theorem o_ix (hK : F.K = K) (h2 : m ≠ .nw) : OpD F m m (fIx K) ixD := by
  intro O B ρ σ δ H S x y d e Q r hx hy q
  subst hK
  unfold ixD at q
  split at q
  · obtain ⟨c, q⟩ := Ok1.ite q
    obtain ⟨ch, ec, q⟩ := q.bind.opt
    cases hx.str; cases hy.int
    exact ⟨c, ch, ec, Ok1.scal r (d := .str _) rfl h2 q⟩
  · obtain ⟨d, ed, q⟩ := q.opt
    obtain ⟨a, ws, rfl, ha, la⟩ := hx.lst
    cases hy.int
    obtain ⟨v, hv, hr⟩ := la.atI ed
    refine ⟨ws, v, .inl (SqL.of ha), hv, q v H ρ r (Gr.refl _ _ _) ?_⟩
    cases m
    · exact hr
    · exact hr
    · exact absurd rfl h2
  · obtain ⟨d, ed, q⟩ := q.opt
    obtain ⟨a, ws, rfl, ha, la⟩ := hx.tup
    cases hy.int
    obtain ⟨v, hv, hr⟩ := la.atI ed
    refine ⟨ws, v, .inr ha, hv, q v H ρ r (Gr.refl _ _ _) ?_⟩
    cases m
    · exact hr
    · exact hr
    · exact absurd rfl h2
  · exact q.stuck.elim
theorem pd_ix {r : R2} {f : D → D → M D} {ta tb : DEnv → M D} (hr : IxR X r) (hf : OpD F mi m r f) (ha : PED X F O mi a ta) (hb : PED X F O mi b tb) (hs : PlainIx b) (hi : mi ≠ .nw := by decide) : PED X F O m (.Subscript a b pos) (fun δ => do let x ← ta δ; let y ← tb δ; f x y) :=
  pe_imp (pe_ix hr ha hb hs) fun σ H Q q => bin_imp hf hi q
def fldD (c f : Str) : D → M D
  | .obj c' fs => if c' = c then M.opt (fs.lookup f) else M.stuck
  | _ => M.stuck
theorem pd_fld {C : Addr} {c f : Str} {t : DEnv → M D} (hca : F.ca c = some C) (cl : Cls X.K C) (nf : NoAttr X.K C f) (h : PED X F O m e t) (hm : m ≠ .nw := by decide) (hb : attributeBase e f X.env (eval e X.env) = eval e X.env := by rfl) : PED X F O m (.Attribute e f pos) (fun δ => do let x ← t δ; fldD c f x) :=
  pe_imp (fe_fld cl nf h hb) fun σ H Q ⟨B, ρ, δ, S, r, q⟩ => ⟨B, ρ, δ, S, r, q.bind.imp fun d S' q v H' ρ' r' g z => by
    cases d <;> first | exact (show False from q).elim | skip
    obtain ⟨ec, q2⟩ := Ok1.ite q
    clear q
    subst ec
    obtain ⟨y, ey, q⟩ := q2.opt
    obtain ⟨a, C', dx, ws, rfl, e1, h1, h2⟩ := Rin.obj (Res.rin r z)
    cases hca.symm.trans e1
    obtain ⟨w, ew, hw⟩ := RinF.get h2 ey
    refine ⟨dx, ws, w, h1, ew, q w H' ρ' r' g ?_⟩
    cases m
    · exact hw
    · exact hw
    · exact absurd rfl hm⟩
end
end Fg
namespace Fg
open PySem PySem.Spec PyProof.Rows L2
variable [TQ]
/-- the text's classes -/
structure ClF (K : PySem.W.Frag) (ca : Str → Option Addr) : Prop where
  cl : ∀ c C, ca c = some C → Cls K C
  ins : ∀ c C, ca c = some C → (PySem.W.findIn K (.ref C) "__class__" = some (some (.builtin "object.__class__"))) ∧ (PySem.W.specialIn K (.builtin "object.__class__") "__get__" = some (some (.builtin "getset_descriptor.__get__"))) ∧ (PySem.W.takesIn K (.builtin "object.__class__") = some true) ∧ PySem.W.mroIn K C (.type "object") = some true
  ty : ∀ c C n, ca c = some C → n ∈ ["int", "str", "tuple", "bool", "list", "dict"] → PySem.W.kitOne K (.ref C) (.type n) = some false
  own : ∀ c C c' C', ca c = some C → ca c' = some C' → PySem.W.kitOne K (.ref C) (.ref C') = some (decide (c = c'))
/-- the type of data -/
def tyV (ca : Str → Option Addr) : D → Option Value
  | .non => some (.type "NoneType")
  | .bl _ => some (.type "bool")
  | .int _ => some (.type "int")
  | .str _ => some (.type "str")
  | .tup _ => some (.type "tuple")
  | .lst _ => some (.type "list")
  | .dct _ => some (.type "dict")
  | .obj c _ => (ca c).map .ref
  | .mt _ => none
theorem tyX_tup {K : PySem.W.Frag} {H : Hp} {a : Addr} {vs : List V} (h : SqT K H a vs) : TyX K H (.ref a) (.type "tuple") := by
  rcases h with (h | ⟨u, h⟩) | ⟨o, its, n, h1, h2, _⟩
  · exact .base (.tup h)
  · exact .fTuple h
  · exact .kTuple h1 h2
theorem tyX_of {F : Fr} {m : Md} {B : Nat → Option Addr} {ρ : List Addr} {H : Hp} {v : V} {d : D} {t : Value} (cf : ClF F.K F.ca) (h : Rin F m B ρ H v d) (e : tyV F.ca d = some t) : TyX F.K H v t := by
  cases d
  · cases e; cases h.non; exact .base .non
  · cases e; cases h.bl; exact .base (.bl _)
  · cases e; cases h.int; exact .base (.int _)
  · cases e; cases h.str; exact .base (.str _)
  · cases e; obtain ⟨a, vs, rfl, h1, _⟩ := h.tup; exact tyX_tup h1
  · cases e; obtain ⟨a, vs, rfl, h1, _⟩ := h.lst; exact .base (.lst h1)
  · cases e; obtain ⟨a, vs, rfl, h1, _⟩ := h.dct; exact .base (.dK h1)
  · obtain ⟨a, C, dx, vs, rfl, e1, h1, _⟩ := h.obj
    have e : Option.map Value.ref (F.ca _) = some t := e
    rw [e1] at e
    cases e
    obtain ⟨i1, i2, i3, i4⟩ := cf.ins _ _ e1
    exact .base (.ins h1 (cf.cl _ _ e1) i1 i2 i3 i4)
  · cases e
def isTyD (n : String) : D → M D
  | .non => pure (.bl false)
  | .bl _ => pure (.bl (n == "int" || n == "bool"))
  | .int _ => pure (.bl (n == "int"))
  | .str _ => pure (.bl (n == "str"))
  | .tup _ => pure (.bl (n == "tuple"))
  | .lst _ => pure (.bl (n == "list"))
  | .dct _ => pure (.bl (n == "dict"))
  | .obj _ _ => pure (.bl false)
  | .mt _ => M.stuck
def isCD (c : Str) : D → M D
  | .obj c' _ => pure (.bl (decide (c' = c)))
  | .mt _ => M.stuck
  | _ => pure (.bl false)
section
variable {X : Cx} {F : Fr} {O O' O1 O2 OL : List Nat} {m mi : Md} {pos pos' p tpos : Pos} {a b c e e2 tg o elt iter : Expr} {rest es elts ifs : List Expr} {i j k kk : Nat} {x f : Str} {ps : List Str} {K : PySem.W.Frag}
theorem kit6 {n : String} (h : n ∈ ["int", "str", "tuple", "bool", "list", "dict"]) : PySem.W.kitOne K (.type "tuple") (.type n) = some (n == "tuple") ∧ PySem.W.kitOne K (.type "list") (.type n) = some (n == "list") ∧ PySem.W.kitOne K (.type "dict") (.type n) = some (n == "dict") := by
  simp only [List.mem_cons, List.not_mem_nil, or_false] at h
  rcases h with rfl | rfl | rfl | rfl | rfl | rfl <;> exact ⟨kit_ty (by decide +kernel), kit_ty (by decide +kernel), kit_ty (by decide +kernel)⟩
theorem pd_isTy {n : String} {t : DEnv → M D} (hK : F.K = X.K) (cf : ClF F.K F.ca) (hn : n ∈ ["int", "str", "tuple", "bool", "list", "dict"]) (h : PED X F O .tr e t) (hT : PE X e2 (tC (.ty n))) (hgl : Gl X "isinstance") (hm : X.mg "isinstance" = none) (h2 : m ≠ .nw := by decide)
    (hs2 : starEach [e2] X.env = (false, eval e2 X.env) :: starEach [] X.env := by rfl) (hs : starEach [e, e2] X.env = (false, eval e X.env) :: starEach [e2] X.env := by rfl) (hpl : (backTo pos (starEach [e2] X.env)).any (·.1) = false := by rfl) :
    PED X F O m (.Call (.Name "isinstance" p) [e, e2] [] pos) (fun δ => do let d ← t δ; isTyD n d) :=
  pe_imp (pe_callB (f_isTy (X := X) (n := n) (by simpa using hn)) hgl hm (by decide +kernel) (pa_cons h (pa_cons hT pa_nil hs2) hs) (by decide) (by decide) hs hpl) fun σ H Q ⟨B, ρ, δ, S, r, q⟩ => ⟨B, ρ, δ, S, r, q.bind.imp fun d S' q v H' ρ' r' g z => by
    show fIsTy X.K n [v, .ty n] H' Q
    have z : Rin F .tr B ρ' H' v d := z
    obtain ⟨k1, k2, k3⟩ := kit6 (K := X.K) hn
    refine ⟨rfl, ?_⟩
    have fin : ∀ bb : Bool, Ok1 F ((pure (.bl bb) : M D) S') (fun d S' => ∀ v H' ρ', Rel F O B ρ' σ H' δ S' → Gr ρ NoZ H ρ' H' → Res F m B ρ' H H' S' v d → Q v H') → Q (.bl bb) H' := fun bb q => (q : ∀ v H' ρ', _) _ H' ρ' r' g (scV_res (d := .bl bb) rfl h2)
    cases d
    · cases z.non; exact fin _ q
    · cases z.bl; exact fin _ q
    · cases z.int; exact fin _ q
    · cases z.str; exact fin _ q
    · obtain ⟨a, vs, rfl, _⟩ := z.tup; exact ⟨_, ⟨_, hK ▸ tyX_of cf z rfl, k1⟩, fin _ q⟩
    · obtain ⟨a, vs, rfl, _⟩ := z.lst; exact ⟨_, ⟨_, hK ▸ tyX_of cf z rfl, k2⟩, fin _ q⟩
    · obtain ⟨a, vs, rfl, _⟩ := z.dct; exact ⟨_, ⟨_, hK ▸ tyX_of cf z rfl, k3⟩, fin _ q⟩
    · obtain ⟨a, C, dx, vs, rfl, e1, _⟩ := z.obj
      exact ⟨_, ⟨_, hK ▸ tyX_of cf z (t := .ref C) (by show Option.map Value.ref (F.ca _) = _; rw [e1]; rfl), hK ▸ cf.ty _ _ _ e1 hn⟩, fin _ q⟩
    · exact (show False from q).elim⟩
theorem pd_isC {n : Str} {C : Addr} {t : DEnv → M D} (hK : F.K = X.K) (cf : ClF F.K F.ca) (hca : F.ca n = some C) (ic : InsC X.K C) (h : PED X F O .tr e t) (hT : PE X e2 (tC (.ref C))) (hgl : Gl X "isinstance") (hm : X.mg "isinstance" = none) (h2 : m ≠ .nw := by decide)
    (hs2 : starEach [e2] X.env = (false, eval e2 X.env) :: starEach [] X.env := by rfl) (hs : starEach [e, e2] X.env = (false, eval e X.env) :: starEach [e2] X.env := by rfl) (hpl : (backTo pos (starEach [e2] X.env)).any (·.1) = false := by rfl) :
    PED X F O m (.Call (.Name "isinstance" p) [e, e2] [] pos) (fun δ => do let d ← t δ; isCD n d) :=
  pe_imp (pe_callB (f_isC ic) hgl hm (by decide +kernel) (pa_cons h (pa_cons hT pa_nil hs2) hs) (by decide) (by decide) hs hpl) fun σ H Q ⟨B, ρ, δ, S, r, q⟩ => ⟨B, ρ, δ, S, r, q.bind.imp fun d S' q v H' ρ' r' g z => by
    show fIsC X.K C [v, .ref C] H' Q
    have z : Rin F .tr B ρ' H' v d := z
    refine ⟨rfl, ?_⟩
    have fin : ∀ bb : Bool, Ok1 F ((pure (.bl bb) : M D) S') (fun d S' => ∀ v H' ρ', Rel F O B ρ' σ H' δ S' → Gr ρ NoZ H ρ' H' → Res F m B ρ' H H' S' v d → Q v H') → Q (.bl bb) H' := fun bb q => (q : ∀ v H' ρ', _) _ H' ρ' r' g (scV_res (d := .bl bb) rfl h2)
    cases d
    · cases z.non; exact fin _ q
    · cases z.bl; exact fin _ q
    · cases z.int; exact fin _ q
    · cases z.str; exact fin _ q
    · obtain ⟨a, vs, rfl, _⟩ := z.tup; exact ⟨_, ⟨_, hK ▸ tyX_of cf z rfl, ic.no "tuple" (by decide)⟩, fin _ q⟩
    · obtain ⟨a, vs, rfl, _⟩ := z.lst; exact ⟨_, ⟨_, hK ▸ tyX_of cf z rfl, ic.no "list" (by decide)⟩, fin _ q⟩
    · obtain ⟨a, vs, rfl, _⟩ := z.dct; exact ⟨_, ⟨_, hK ▸ tyX_of cf z rfl, ic.no "dict" (by decide)⟩, fin _ q⟩
    · obtain ⟨a, C', dx, vs, rfl, e1, _⟩ := z.obj
      exact ⟨_, ⟨_, hK ▸ tyX_of cf z (t := .ref C') (by show Option.map Value.ref (F.ca _) = _; rw [e1]; rfl), hK ▸ cf.own _ _ _ _ e1 hca⟩, fin _ q⟩
    · exact (show False from q).elim⟩
def chainD (f g : D → D → M D) (ta tb tc : DEnv → M D) : DEnv → M D := fun δ => do
  let x ← ta δ
  let y ← tb δ
  let r ← f x y
  let b ← tbD r
  if b = true then (do let z ← tc δ; g y z) else pure (.bl false)
theorem pd_chain {op op' : CmpOp} {r r' : R2} {f g : D → D → M D} {ta tb tc : DEnv → M D} (ho : OpR X (compareOp op) r) (ho' : OpR X (compareOp op') r') (hf : OpD F .tr .tr r f) (hg : OpD F .tr .tr r' g) (ha : PED X F O .tr a ta) (hb : PED X F O .tr b tb) (hc : PED X F O .tr c tc)
    (hm : lastMarks [op, op'] [b, c] = false := by with_unfolding_all rfl) : PED X F O .tr (.Compare a [op, op'] [b, c] pos) (chainD f g ta tb tc) := pe_imp (pe_chain ho ho' ha hb hc hm) fun σ H Q ⟨B, ρ, δ, S, r, q⟩ =>
  ⟨B, ρ, δ, S, r, q.bind.imp fun d1 S1 q v1 H1 ρ1 r1 g1 z1 => ⟨B, ρ1, δ, S1, r1, q.bind.imp fun d2 S2 q v2 H2 ρ2 r2 g2 z2 => by
    refine hf O B ρ2 σ δ H2 S2 v1 v2 d1 d2 _ r2 (Rin.gr (m := .tr) z1 g2) z2 (q.bind.imp fun d3 S3 q v3 H3 ρ3 r3 g3 z3 => ?_)
    obtain ⟨bb, eb, q3⟩ := q.bind.tb
    clear q
    subst eb
    obtain rfl := Rin.bl (m := .tr) (B := B) z3
    refine ⟨bb, rfl, ?_⟩
    cases bb with
    | false => exact (q3 : ∀ v H' ρ', _) _ H3 ρ3 r3 ((g1.tr g2).tr g3) (scV_res (m := .tr) (d := .bl false) rfl (by decide))
    | true =>
      refine ⟨B, ρ3, δ, S3, r3, (Ok1.bind q3).imp fun d4 S4 q v4 H4 ρ4 r4 g4 z4 => ?_⟩
      refine hg O B ρ4 σ δ H4 S4 v2 v4 d2 d4 Q r4 (Rin.gr (m := .tr) z2 (g3.tr g4)) z4 (q.imp fun d5 S5 k v5 H5 ρ5 r5 g5 z5 => k v5 H5 ρ5 r5 ((((g1.tr g2).tr g3).tr g4).tr g5) z5)⟩⟩
/-- the same in a test -/
theorem pd_tchain {op op' : CmpOp} {r r' : R2} {f g : D → D → M D} {ta tb tc : DEnv → M D} (ho : OpR X (compareOp op) r) (ho' : OpR X (compareOp op') r') (hf : OpD F .tr .tr r f) (hg : OpD F .tr .tr r' g) (ha : PED X F O .tr a ta) (hb : PED X F O .tr b tb) (hc : PED X F O .tr c tc)
    (hm : lastMarks [op, op'] [b, c] = false := by with_unfolding_all rfl) : PTD X F O (.Compare a [op, op'] [b, c] pos) (tvM (chainD f g ta tb tc)) := pt_imp (pt_chain ho ho' ha hb hc hm) fun σ H Q ⟨B, ρ, δ, S, r, q⟩ =>
  ⟨B, ρ, δ, S, r, q.bind.bind.imp fun d1 S1 q v1 H1 ρ1 r1 g1 z1 => ⟨B, ρ1, δ, S1, r1, q.bind.imp fun d2 S2 q v2 H2 ρ2 r2 g2 z2 => by
    refine hf O B ρ2 σ δ H2 S2 v1 v2 d1 d2 _ r2 (Rin.gr (m := .tr) z1 g2) z2 (q.bind.imp fun d3 S3 q v3 H3 ρ3 r3 g3 z3 => ?_)
    obtain ⟨bb, eb, q3⟩ := q.bind.tb
    clear q
    subst eb
    obtain rfl := Rin.bl (m := .tr) (B := B) z3
    refine ⟨bb, rfl, ?_⟩
    cases bb with
    | false => exact ⟨false, rfl, (q3 : ∀ H' ρ', _) H3 ρ3 r3 ((g1.tr g2).tr g3)⟩
    | true =>
      refine ⟨B, ρ3, δ, S3, r3, (Ok1.bind q3).imp fun d4 S4 q v4 H4 ρ4 r4 g4 z4 => ?_⟩
      refine hg O B ρ4 σ δ H4 S4 v2 v4 d2 d4 _ r4 (Rin.gr (m := .tr) z2 (g3.tr g4)) z4 (q.imp fun d5 S5 k v5 H5 ρ5 r5 g5 z5 => ?_)
      obtain ⟨bb, rfl, k⟩ := k.tb
      obtain rfl := Rin.bl (m := .tr) (B := B) z5
      exact ⟨bb, rfl, k H5 ρ5 r5 ((((g1.tr g2).tr g3).tr g4).tr g5)⟩⟩⟩
end
end Fg
namespace Fg
open PySem PySem.Spec PyProof.Rows L2
variable [TQ]
def noErr {α : Type} (m : M α) : M α := fun S => match m S with
  | some (.error _, _) => none
  | r => r
@[simp] theorem noErr_pure {α : Type} (a : α) : noErr (pure a : M α) = pure a := rfl
def wipeD (δ : DEnv) : List Nat → DEnv
  | [] => δ
  | v :: vs => (wipeD δ vs).set v none
def compL (g : D → DEnv → M DEnv) (t : DEnv → M Bool) (e : DEnv → M D) (δ : DEnv) : List D → List D → M (List D)
  | acc, [] => pure acc
  | acc, x :: r => do
    let δ1 ← noErr (g x δ)
    let b ← noErr (t δ1)
    if b = true then do
      let y ← noErr (e δ1)
      if acc.length < sizeLine then compL g t e δ (acc ++ [y]) r else M.stuck
    else compL g t e δ acc r
def lcD (vs : List Nat) (it : DEnv → M (List D)) (g : D → DEnv → M DEnv) (t : DEnv → M Bool) (e : DEnv → M D) : DEnv → M D := fun δ => do
  let xs ← it δ
  let ys ← compL g t e (wipeD δ vs) [] xs
  pure (.lst ys)
/-- the frame within a comprehension whose list stands at D -/
def Fr.blk (F : Fr) (D : Addr) : Fr := ⟨F.K, F.ca, F.ce, F.H0, fun b => F.Xs b ∨ b = D, F.R0, fun _ _ _ => False, F.own0⟩
theorem Ok1.noErr {α : Type} {F F' : Fr} {x : M α} {S : Sto} {P : α → Sto → Prop} (h : Ok1 F (Fg.noErr x S) P) : Ok1 F' (x S) P := by
  unfold Ok1 Fg.noErr at *
  cases e : x S with
  | none => rw [e] at h; exact h
  | some p =>
    rw [e] at h
    obtain ⟨r, S'⟩ := p
    cases r with
    | error _ => exact h.elim
    | ok a => exact h
section
variable {F : Fr} {O : List Nat} {B : Nat → Option Addr} {ρ ρ' : List Addr} {σ : L2.St} {H H' : Hp} {δ : DEnv} {S S' : Sto}
theorem Rel.wipe (r : Rel F O B ρ σ H δ S) : ∀ (vs : List Nat), (∀ v ∈ vs, v ∉ O) → Rel F O B ρ (wipe σ vs) H (wipeD δ vs) S
  | [], _ => r
  | v :: vs, h => by
    have r1 := Rel.wipe r vs fun w hw => h w (List.mem_cons_of_mem _ hw)
    have hv := h v (List.mem_cons_self ..)
    have bv := r1.notO hv
    refine ⟨r1.gr, r1.sta, r1.bnew, r1.oxs, r1.binj, r1.own, fun j a e => ?_, r1.zero, by show ((Fg.wipeD δ vs).set v none |> fun _ => ((L2.wipe σ vs).set v none).length = ((wipeD δ vs).set v none).length); rw [List.length_set, List.length_set]; exact r1.len, fun j d e => ?_⟩
    · obtain ⟨x, hx⟩ := r1.ownd j a e
      exact ⟨x, by show ((wipeD δ vs).set v none)[j]? = _; rw [List.getElem?_set_ne (fun z => by subst z; rw [bv] at e; cases e)]; exact hx⟩
    · have e : ((wipeD δ vs).set v none)[j]? = some (some d) := e
      by_cases z : v = j
      · subst z
        rw [List.getElem?_set] at e
        simp at e
      · rw [List.getElem?_set_ne z] at e
        have q := r1.slot j d e
        unfold SlAt at q ⊢
        cases eb : B j with
        | none =>
          rw [eb] at q
          obtain ⟨w, h1, h2⟩ := q
          exact ⟨w, by show ((L2.wipe σ vs).set v none)[j]? = _; rw [List.getElem?_set_ne z]; exact h1, h2⟩
        | some a =>
          rw [eb] at q
          exact ⟨by show ((L2.wipe σ vs).set v none)[j]? = _; rw [List.getElem?_set_ne z]; exact q.1, q.2⟩
theorem zo_blk {D b : Addr} : Zo (F.blk D) B ρ b ↔ (Zo F B ρ b ∨ b = D) := by
  unfold Zo Fr.blk
  constructor
  · rintro (((h | h) | h) | h)
    · exact .inl (.inl (.inl h))
    · exact .inr h
    · exact .inl (.inl (.inr h))
    · exact .inl (.inr h)
  · rintro (((h | h) | h) | h)
    · exact .inl (.inl (.inl h))
    · exact .inl (.inr h)
    · exact .inr h
    · exact .inl (.inl (.inr h))
theorem zo_blkE {D : Addr} : Zo (F.blk D) B ρ = fun b => Zo F B ρ b ∨ b = D := funext fun _ => propext zo_blk
theorem xs_blkE {D : Addr} : (fun b => (F.blk D).Xs b ∨ Own B b) = fun b => (F.Xs b ∨ Own B b) ∨ b = D := funext fun b => propext (by
  show ((F.Xs b ∨ b = D) ∨ Own B b) ↔ _
  rw [or_assoc, or_assoc, or_comm (a := b = D)])
/-- the list is laid -/
theorem Rel.enter {D : Addr} (r : Rel F O B ρ σ H δ S) (s : Same H H') (n : H D = none) (n' : ¬ Nw H' D) : Rel (F.blk D) O B ρ σ H' δ S := by
  have g : Gr ρ NoZ H ρ H' := Gr.same s
  have nb : ¬ Own B D := fun z => r.sta.live D (.inl (.inr z)) (Nw.of n)
  have r' := r.same s
  refine ⟨r'.gr, by rw [xs_blkE]; exact r.sta.new s n n', r'.bnew, fun b h z => z.elim (r.oxs b h) fun z => nb (z ▸ h), r'.binj, r'.own, r'.ownd, r'.zero, r'.len, fun i d e => ?_⟩
  have q := r.slot i d e
  have see : LamX.ExtN (hid (Zo F B ρ) H) (hid (Zo (F.blk D) B ρ) H') := by
    rw [zo_blkE]
    exact seesN s n
  unfold SlAt at q ⊢
  cases eb : B i with
  | none =>
    rw [eb] at q
    obtain ⟨v, h1, h2⟩ := q
    exact ⟨v, h1, h2.mono (fun _ _ e => e) see⟩
  | some a =>
    rw [eb] at q
    exact ⟨q.1, q.2.mono (fun _ _ e => e) see fun o _ e => s a o e⟩
/-- what is hidden has changed -/
theorem Rel.under {D : Addr} {o o' : HO} (r : Rel F O B ρ σ H δ S) (hx : F.Xs D) (h0 : Nw F.H0 D) (b : But D H H') (h : H D = some o) (h' : H' D = some o') (n1 : ∀ ps, o ≠ .tbl ps) (n2 : ∀ φ, o ≠ .ext φ) (n1' : ∀ ps, o' ≠ .tbl ps := by intro _ z; cases z) : Rel F O B ρ σ H' δ S ∧ Gr ρ (fun c => c = D) H ρ H' := by
  have g : Gr ρ (fun c => c = D) H ρ H' := Gr.but b h h' (.inl rfl) n1 n2 n1'
  have see : LamX.ExtN (hid (Zo F B ρ) H) (hid (Zo F B ρ) H') := g.sees (Z := fun b => F.Xs b ∨ Own B b) (fun c z => .inl (.inl (z ▸ hx))) fun b h => .inl h
  have nr : D ∉ ρ := fun z => r.sta.xr D z (.inl hx)
  refine ⟨⟨r.gr.trans g fun c z => .inr (z ▸ h0), ⟨fun c z => g.alive c (r.sta.live c z), r.sta.nd, r.sta.xr, SrL.mono (fun _ _ e => e) see (fun c hc u _ e => b c u (fun z => nr (z ▸ hc)) e) r.sta.sto⟩, r.bnew, r.oxs, r.binj, r.own, r.ownd, r.zero, r.len, fun i d e => ?_⟩, g⟩
  have q := r.slot i d e
  unfold SlAt at q ⊢
  cases eb : B i with
  | none =>
    rw [eb] at q
    obtain ⟨v, h1, h2⟩ := q
    exact ⟨v, h1, h2.mono (fun _ _ e => e) see⟩
  | some a =>
    rw [eb] at q
    exact ⟨q.1, q.2.mono (fun _ _ e => e) see fun u _ e => b a u (fun z => r.oxs a ⟨i, eb⟩ (z ▸ hx)) e⟩
end
theorem wipe_get (σ : L2.St) (j : Nat) : ∀ vs : List Nat, (L2.wipe σ vs)[j]? = if j ∈ vs then (if j < σ.length then some none else none) else σ[j]?
  | [] => by simp [L2.wipe]
  | v :: vs => by
    show ((L2.wipe σ vs).set v none)[j]? = _
    rw [List.getElem?_set, wipe_get σ j vs, wipe_length]
    by_cases c : v = j
    · subst c
      simp
    · rw [if_neg c]
      have c2 : ¬ j = v := fun z => c z.symm
      simp [c2]
theorem wipe_set {σ : L2.St} {i : Nat} {x : Option V} {vs : List Nat} (h : i ∈ vs) : L2.wipe (σ.set i x) vs = L2.wipe σ vs := by
  refine List.ext_getElem? fun j => ?_
  rw [wipe_get, wipe_get, List.length_set]
  by_cases c : j ∈ vs
  · rw [if_pos c, if_pos c]
  · rw [if_neg c, if_neg c, List.getElem?_set_ne (fun z : i = j => c (by rw [← z]; exact h))]
theorem wipe_wipe {σ : L2.St} {vs : List Nat} : L2.wipe (L2.wipe σ vs) vs = L2.wipe σ vs := by
  refine List.ext_getElem? fun j => ?_
  rw [wipe_get (L2.wipe σ vs), wipe_length]
  by_cases c : j ∈ vs
  · rw [if_pos c, wipe_get, if_pos c]
  · rw [if_neg c]
/-- a target within a comprehension -/
def dGC (F : Fr) (O : List Nat) (vs : List Nat) (t : D → DEnv → M DEnv) : TG := fun v σ H R => ∃ B ρ δ S d, Rel F O B ρ σ H δ S ∧ Rin F .fz B ρ H v d ∧
  Ok1 F (t d δ S) fun δ' S' => ∀ σ' H' ρ', Rel F O B ρ' σ' H' δ' S' → Gr ρ NoZ H ρ' H' → L2.wipe σ' vs = L2.wipe σ vs → R σ' H'
def dGCs (F : Fr) (O : List Nat) (vs : List Nat) (gs : List (D → DEnv → M DEnv)) : TGs := fun ws σ H R => ∃ B ρ δ S ds, Rel F O B ρ σ H δ S ∧ RinL F .fz B ρ H ws ds ∧
  Ok1 F (tgs gs ds δ S) fun δ' S' => ∀ σ' H' ρ', Rel F O B ρ' σ' H' δ' S' → Gr ρ NoZ H ρ' H' → L2.wipe σ' vs = L2.wipe σ vs → R σ' H'
section
variable {X : Cx} {F : Fr} {O : List Nat} {vs : List Nat} {e : Expr} {es : List Expr} {pos : Pos}
theorem pgc_name {x : Str} (i : Nat) (hN : X.N.Nodup) (hi : X.N[i]? = some x := by rfl) (hx : Loc X.env.scope x := by first | exact Or.inl rfl | exact Or.inr rfl) (ho : i ∉ O := by decide) (hv : i ∈ vs := by decide) (hf : X.fn x = true ∨ X.env.scope.names.lookup x = some .local := by first | exact .inl rfl | exact .inr rfl | assumption) :
    PG X (.Name x pos) (dGC F O vs (tgN i)) := pg_imp (pg_name hN hi hx hf) fun v σ H Q ⟨B, ρ, δ, S, d, r, z, q⟩ => (q : ∀ σ' H' ρ', _) _ H ρ (r.set ho z) (Gr.refl _ _ _) (wipe_set hv)
theorem pgc_nil : PGs X [] (dGCs F O vs []) := pgs_imp pgs_nil fun ws σ H Q ⟨B, ρ, δ, S, ds, r, z, q⟩ => by
  cases ds with
  | nil =>
    have z : RpL F.K F.ca ρ (hid (Zo F B ρ) H) ws [] := z
    cases z
    exact ⟨rfl, (q : ∀ σ' H' ρ', _) σ H ρ r (Gr.refl _ _ _) rfl⟩
  | cons d ds => exact (show False from q).elim
theorem pgc_cons {g : D → DEnv → M DEnv} {gs : List (D → DEnv → M DEnv)} (h : PG X e (dGC F O vs g)) (k : PGs X es (dGCs F O vs gs)) (hs : (assignEach (e :: es) X.env).map (·.2) = assign e X.env :: (assignEach es X.env).map (·.2) := by rfl) : PGs X (e :: es) (dGCs F O vs (g :: gs)) :=
  pgs_imp (pgs_cons h k hs) fun ws σ H Q ⟨B, ρ, δ, S, ds, r, z, q⟩ => by
    cases ds with
    | nil => exact (show False from q).elim
    | cons d ds =>
      have z : RpL F.K F.ca ρ (hid (Zo F B ρ) H) ws (d :: ds) := z
      cases z with
      | cons z zs =>
        exact ⟨_, _, rfl, B, ρ, δ, S, d, r, z, (Ok1.bind q).imp fun δ' S' k σ' H' ρ' r' g w => ⟨B, ρ', δ', S', ds, r', RinL.gr (m := .fz) zs g, k.imp fun δ2 S2 k σ2 H2 ρ2 r2 g2 w2 => k σ2 H2 ρ2 r2 (g.tr g2) (w2.trans w)⟩⟩
theorem pgc_tup {gs : List (D → DEnv → M DEnv)} {kk n : Nat} (hK : F.K = X.K) (hc : X.calm = true) (h : PGs X es (dGCs F O vs gs)) (hg : gs.length = n) (hn : (assignEach es X.env).length = n := by rfl) (hst : (assignEach es X.env).findIdx? (·.1) = none := by rfl) : PG X (.Tuple es kk pos) (dGC F O vs (tgT gs)) :=
  pg_imp (pg_tup hc h hn hst) fun v σ H Q ⟨B, ρ, δ, S, d, r, z, q⟩ => by
    cases d <;> first | exact (show False from q).elim | skip
    rename_i ds
    obtain ⟨a, ws, rfl, h1, h2⟩ := Rin.tup z
    obtain ⟨hl, q⟩ := Ok1.ite (show Ok1 F ((if ds.length = gs.length then tgs gs ds δ else M.stuck) S) _ from q)
    exact ⟨a, ws, rfl, hK ▸ h1, by rw [RinL.len h2, hl, hg], B, ρ, δ, S, ds, r, h2, q⟩
end
/-- readings that hang on where the list stands -/
def exG (t : Addr → TG) : TG := fun v σ H R => ∃ D, t D v σ H R
def exT (t : Addr → TT) : TT := fun σ H R => ∃ D, t D σ H R
def exE (t : Addr → TE) : TE := fun σ H R => ∃ D, t D σ H R
theorem pg_ex {X : Cx} {e : Expr} {t : Addr → TG} (h : ∀ D, PG X e (t D)) : PG X e (exG t) := ⟨fun pins s σ H v u Q I r ⟨D, q⟩ => (h D).run pins s σ H v u Q I r q⟩
theorem pe_ex {X : Cx} {e : Expr} {t : Addr → TE} (h : ∀ D, PE X e (t D)) : PE X e (exE t) := ⟨fun pins s σ H Q I ⟨D, q⟩ => (h D).run pins s σ H Q I q⟩
theorem pts_ex {X : Cx} {e : List Expr} {t : Addr → TT} (h : ∀ D, PTs X e (t D)) : PTs X e (exT t) := ⟨fun pins s σ H Q I ⟨D, q⟩ => (h D).run pins s σ H Q I q⟩
def yesM : DEnv → M Bool := fun _ => pure true
theorem ptsd_nil {X : Cx} {F : Fr} {O : List Nat} : PTs X [] (dT F O yesM) := ⟨fun pins s σ H Q I ⟨B, ρ, δ, S, r, q⟩ => pts_nil.run pins s σ H Q I ((q : ∀ H' ρ', _) H ρ r (Gr.refl _ _ _))⟩
section
variable {F : Fr} {O : List Nat} {g : D → DEnv → M DEnv} {t : DEnv → M Bool} {el : DEnv → M D} {st : Hp → Prop} {vs : List Nat} {σ : L2.St} {Da : Addr} {Q : Hp → Prop} {Hs : Hp} {ρs : List Addr} {B : Nat → Option Addr} {δ : DEnv}
/-- the items of a comprehension -/
theorem comp_of (hn : Nw Hs Da) (h0 : Nw F.H0 Da) (hst : ∀ H1 ρ1, Gr ρs NoZ Hs ρ1 H1 → st H1) :
    ∀ (ds : List D) (xs : List V) (acc : List D) (ys : List V) (ρ1 : List Addr) (H1 : Hp) (S1 : Sto), Rel (F.blk Da) O B ρ1 (L2.wipe σ vs) H1 (wipeD δ vs) S1 → Gr ρs NoZ Hs ρ1 H1 → H1 Da = some (.lst ys) → RinL (F.blk Da) .fz B ρ1 H1 ys acc → RinL (F.blk Da) .fz B ρ1 H1 xs ds →
    Ok1 F (compL g t el (wipeD δ vs) acc ds S1) (fun r S' => ∀ H' ρ' zs, Rel (F.blk Da) O B ρ' (L2.wipe σ vs) H' (wipeD δ vs) S' → Gr ρs NoZ Hs ρ' H' → H' Da = some (.lst zs) → RinL (F.blk Da) .fz B ρ' H' zs r → Q H') →
    Comp st (exG fun D => dGC (F.blk D) O vs g) (exT fun D => dT (F.blk D) O t) (exE fun D => dE (F.blk D) O .fz el) vs σ Da Q xs H1
  | [], xs, acc, ys, ρ1, H1, S1, r1, g1, hD, la, lx, q => by
    have z : RpL F.K F.ca ρ1 (hid (Zo (F.blk Da) B ρ1) H1) xs [] := lx
    cases z
    exact (q : ∀ H' ρ' zs, _) H1 ρ1 ys r1 g1 hD la
  | d :: ds, xs, acc, ys, ρ1, H1, S1, r1, g1, hD, la, lx, q => by
    have z : RpL F.K F.ca ρ1 (hid (Zo (F.blk Da) B ρ1) H1) xs (d :: ds) := lx
    cases z with
    | cons zx zs =>
      unfold compL at q
      refine ⟨Da, B, ρ1, wipeD δ vs, S1, d, r1, zx, q.bind.noErr.imp fun δ2 S2 q σ2 H2 ρ2 r2 g2 w2 => ⟨w2.trans wipe_wipe, Da, B, ρ2, δ2, S2, r2, q.bind.noErr.imp fun b S3 q H3 ρ3 r3 g3 => ?_⟩⟩
      have back : ∀ {H4 ρ4 S4}, Rel (F.blk Da) O B ρ4 σ2 H4 δ2 S4 → Gr ρ1 NoZ H1 ρ4 H4 → Rel (F.blk Da) O B ρ4 (L2.wipe σ vs) H4 (wipeD δ vs) S4 := fun r4 g4 => r1.step g4 r4.sta
      have hD3 : H3 Da = some (.lst ys) := (g2.tr g3).keep Da _ (fun z => r1.sta.xr Da z (.inl (.inr rfl))) (fun z => z) (fun _ z => by cases z) hD
      cases b with
      | false =>
        refine ⟨hst H3 ρ3 (g1.tr (g2.tr g3)), ?_⟩
        exact comp_of hn h0 hst ds _ acc ys ρ3 H3 S3 (back r3 (g2.tr g3)) (g1.tr (g2.tr g3)) hD3 (la.gr (g2.tr g3)) (RinL.gr (m := .fz) zs (g2.tr g3)) q
      | true =>
        refine ⟨Da, B, ρ3, δ2, S3, r3, (Ok1.bind q).noErr.imp fun y S4 q v H4 ρ4 r4 g4 z4 => ?_⟩
        obtain ⟨hl, q⟩ := Ok1.ite q
        have g14 := g2.tr (g3.tr g4)
        have hD4 : H4 Da = some (.lst ys) := g14.keep Da _ (fun z => r1.sta.xr Da z (.inl (.inr rfl))) (fun z => z) (fun _ z => by cases z) hD
        have rb := back r4 g14
        obtain ⟨r5, g5⟩ := rb.under (D := Da) (o' := .lst (ys ++ [v])) (.inr rfl) h0 But.upd hD4 upd_same (fun _ z => by cases z) (fun _ z => by cases z)
        have see : LamX.ExtN (hid (Zo (F.blk Da) B ρ4) H4) (hid (Zo (F.blk Da) B ρ4) (upd H4 Da (.lst (ys ++ [v])))) := g5.sees (Z := fun b => (F.blk Da).Xs b ∨ Own B b) (fun c z => .inl (.inl (.inr z))) fun b h => .inl h
        have gg : Gr ρs NoZ Hs ρ4 (upd H4 Da (.lst (ys ++ [v]))) := (g1.tr g14).trans g5 fun c z => .inr (z ▸ hn)
        have l5 : RinL (F.blk Da) .fz B ρ4 (upd H4 Da (.lst (ys ++ [v]))) (ys ++ [v]) (acc ++ [y]) := RpL.mono (fun _ _ e => e) see (RpL.append (RinL.gr (m := .fz) la g14) (.cons z4 .nil))
        refine ⟨ys, hD4, by rw [RinL.len la]; exact hl, hst _ ρ4 gg, ?_⟩
        exact comp_of hn h0 hst ds _ (acc ++ [y]) (ys ++ [v]) ρ4 _ S4 r5 gg upd_same l5 (RpL.mono (fun _ _ e => e) see (RinL.gr (m := .fz) zs g14)) q
end
section
variable {X : Cx} {F : Fr} {O OL : List Nat} {pos pos' : Pos} {elt tg iter : Expr} {ifs : List Expr} {scope : Scope} {own : List (Str × Nat)} {it : DEnv → M (List D)} {g : D → DEnv → M DEnv} {t : DEnv → M Bool} {el : DEnv → M D}
theorem dE_nw {F : Fr} {O : List Nat} {t : DEnv → M D} {σ : L2.St} {H : Hp} {Q : VK} (q : dE F O .fz t σ H Q) : dE F O .nw t σ H Q := by
  obtain ⟨B, ρ, δ, S, r, q⟩ := q
  exact ⟨B, ρ, δ, S, r, q.imp fun d S' k v H' ρ' r' g z => k v H' ρ' r' g (Res.rin (m := .nw) r z)⟩
/-- what a comprehension reads -/
theorem lc_of {σ : L2.St} {H : Hp} {Q : VK} (ho : ∀ v ∈ own.map (·.2), v ∉ O) (q : dE F O .nw (lcD (own.map (·.2)) it g t el) σ H Q) :
    tLcW (dW F O it) (exG fun D => dGC (F.blk D) O (own.map (·.2)) g) (exT fun D => dT (F.blk D) O t) (exE fun D => dE (F.blk D) O .fz el) (own.map (·.2)) σ H Q := by
  obtain ⟨B, ρ, δ, S, r, q⟩ := q
  refine ⟨B, ρ, δ, S, r, q.bind.imp fun ds S' q vs st H' ρ' r' g' z h1 hst => ⟨h1, fun Da H2 nD s2 h2 => ?_⟩⟩
  have g2 : Gr ρ' NoZ H' ρ' H2 := Gr.same s2
  have re := (r'.enter s2 nD (Nw.live h2 fun _ z => by cases z)).wipe (own.map (·.2)) ho
  have h0 : Nw F.H0 Da := Classical.byContradiction fun z => r'.gr.alive Da z (Nw.of nD)
  have lx : RinL (F.blk Da) .fz B ρ' H2 vs ds := RpL.mono (fun _ _ e => e) (zo_blkE (F := F) ▸ seesN s2 nD) z
  refine ⟨hst H2 ρ' g2.wk, comp_of (Hs := H') (ρs := ρ') (Nw.of nD) h0 (fun H1 ρ1 g => hst H1 ρ1 g.wk) ds vs [] [] ρ' H2 S' re g2 h2 RinL.nil lx (q.bind.imp fun ys S2 k H3 ρ3 zs r3 g3 hD l3 => ?_)⟩
  have k : ∀ v H' ρ', _ := k
  have st3 : Sta F.K F.ca ρ3 (fun b => (F.Xs b ∨ Own B b) ∨ b = Da) H3 S2 := xs_blkE (F := F) (B := B) ▸ r3.sta
  refine k (.ref Da) H3 ρ3 (r'.step g3 (st3.wk fun b h => .inl h)) (g'.tr g3) ⟨Da, rfl, Classical.byContradiction fun z => g'.alive Da z (Nw.of nD), fun z => r3.sta.xr Da z (.inl (.inr rfl)), st3, zs, hD, ?_⟩
  exact zo_blkE (F := F) ▸ l3
theorem pd_lc (hc : X.calm = true) (hN : X.N.Nodup) (hi : PID X F O tg iter it) (ok : BlkOk X.N X.env.scope scope own) (ho : ∀ v ∈ own.map (·.2), v ∉ O)
    (hg : ∀ (s : Shared) (H : Hp) (C : Addr) (cl : List (Str × Addr)) (fp : List Addr) (D : Addr), PG (X.blk s H scope (compEnvC scope cl C X.env) fp) tg (dGC (F.blk D) O (own.map (·.2)) g))
    (ht : ∀ (s : Shared) (H : Hp) (C : Addr) (cl : List (Str × Addr)) (fp : List Addr) (D : Addr), PTs (X.blk s H scope (compEnvC scope cl C X.env) fp) ifs (dT (F.blk D) O t))
    (he : ∀ (s : Shared) (H : Hp) (C : Addr) (cl : List (Str × Addr)) (fp : List Addr) (D : Addr), PE (X.blk s H scope (compEnvC scope cl C X.env) fp) elt (dE (F.blk D) O .fz el)) (hs : ∀ x, foldedSetIterable iter X.env x = pure x := by intro _; rfl) :
    PED X F O .nw (.ListComp elt [⟨tg, iter, ifs, 0⟩] scope pos) (lcD (own.map (·.2)) it g t el) :=
  pe_imp (fe_lc hc hN hi ok (fun s H C cl fp => pg_ex (hg s H C cl fp)) (fun s H C cl fp => pts_ex (ht s H C cl fp)) (fun s H C cl fp => pe_ex (he s H C cl fp)) hs) fun σ H Q q => lc_of ho q
end
end Fg
namespace Fg
open PySem PySem.Spec PyProof.Rows L2
variable [TQ]
abbrev binM (f : D → D → M D) (ta tb : DEnv → M D) : DEnv → M D := fun δ => do let x ← ta δ; let y ← tb δ; f x y
abbrev oneM {α : Type} (g : D → M α) (t : DEnv → M D) : DEnv → M α := fun δ => do let d ← t δ; g d
abbrev callM {α : Type} (g : List D → M α) (t : DEnv → M (List D)) : DEnv → M α := fun δ => do let ds ← t δ; g ds
abbrev lstM (t : DEnv → M (List D)) : DEnv → M D := fun δ => do let ds ← t δ; capL ds; pure (.lst ds)
abbrev tupM (t : DEnv → M (List D)) : DEnv → M D := fun δ => do let ds ← t δ; capL ds; pure (.tup ds)
abbrev cM (d : D) : DEnv → M D := fun _ => pure d
abbrev asgS (t : DEnv → M D) (g : D → DEnv → M DEnv) : DEnv → M (DEnv × Fl) := fun δ => do let d ← t δ; let δ' ← g d δ; pure (δ', .nx)
section
variable {X : Cx} {F : Fr} {O O' O1 O2 OL : List Nat} {m mi : Md} {pos pos' p apos : Pos} {a b c e e2 tg o : Expr} {rest es elts ifs : List Expr} {i j k kk : Nat} {x f : Str} {ps : List Str} {K : PySem.W.Frag}
/-- a method of a text with an argument -/
def MetD (F : Fr) (mi m : Md) (r : V → List V → Hp → VK → Prop) (f : D → D → M D) : Prop := ∀ O B ρ σ δ H S z y e Q, Rel F O B ρ σ H δ S → Rin F mi B ρ H y e →
  Ok1 F (f (.str z) e S) (fun d' S' => ∀ v H' ρ', Rel F O B ρ' σ H' δ S' → Gr ρ NoZ H ρ' H' → Res F m B ρ' H H' S' v d' → Q v H') → r (.str z) [y] H Q
def strM (f : D → D → M D) (t u : DEnv → M D) : DEnv → M D := fun δ => do
  let x ← t δ
  match x with
  | .str z => (do let y ← u δ; f (.str z) y)
  | _ => M.stuck
theorem pd_sm1 {id : String} {name : Str} {r : V → List V → Hp → VK → Prop} {g : D → D → M D} {t u : DEnv → M D} (slot : Slot "str" name id) (ty : typeOf (.builtin id) = pure (.type "method_descriptor")) (rule : MtR X id r) (hf : MetD F mi m r g) (ho : PED X F O mi o t) (he : PED X F O mi e u) (hi : mi ≠ .nw := by decide)
    (hs : starEach [e] X.env = [(false, eval e X.env)] := by rfl) (hbase : attributeBase o name X.env (eval o X.env) = eval o X.env := by rfl) (hline : (apos.endLine == pos.line) = true := by rfl) :
    PED X F O m (.Call (.Attribute o name apos) [e] [] pos) (strM g t u) := pe_imp (fe_sm1 slot ty rule ho he hs hbase hline) fun σ H Q ⟨B, ρ, δ, S, r0, q⟩ => ⟨B, ρ, δ, S, r0, q.bind.imp fun d S' q v H' ρ' r' g1 z => by
    cases d <;> first | exact (show False from q).elim | skip
    rename_i s
    obtain rfl := Rin.str (Res.rin r0 z)
    exact ⟨B, ρ', δ, S', r', (Ok1.bind q).imp fun y S2 q w H2 ρ2 r2 g2 z2 => hf O B ρ2 σ δ H2 S2 s w y Q r2 (Res.rin r' z2) (q.imp fun d3 S3 k v3 H3 ρ3 r3 g3 z3 => k v3 H3 ρ3 r3 ((g1.tr g2).tr g3) (Res.gr2 (g1.tr g2) z3))⟩⟩
def strsD : List D → Option (List Str)
  | [] => some []
  | .str z :: r => (strsD r).map (z :: ·)
  | _ :: _ => none
theorem strs_rp {ca : Str → Option Addr} {ρ : List Addr} {G : Hp} : ∀ {ds : List D} {vs : List V} {bs : List Str}, RpL K ca ρ G vs ds → strsD ds = some bs → vs = bs.map V.str
  | [], _, _, .nil, e => by cases e; rfl
  | d :: ds, _, bs, .cons h t, e => by
    cases d <;> first | cases e | skip
    rename_i b
    cases h
    have e : (strsD ds).map (b :: ·) = some bs := e
    cases eb : strsD ds with
    | none => rw [eb] at e; cases e
    | some cs =>
      rw [eb] at e
      cases e
      rw [strs_rp t eb]
      rfl
def joinOk (a : Str) (ys : List Str) : Prop := (ys.map (·.length)).sum + ys.length * a.length ≤ 16777216
instance (a : Str) (ys : List Str) : Decidable (joinOk a ys) := by unfold joinOk; infer_instance
def joinD : D → D → M D
  | .str a, .lst ds => do let ys ← M.opt (strsD ds); if joinOk a ys then pure (.str (Txt.join a ys)) else M.stuck
  | .str a, .tup ds => do let ys ← M.opt (strsD ds); if joinOk a ys then pure (.str (Txt.join a ys)) else M.stuck
  | _, _ => M.stuck
theorem m_join (hK : F.K = K) (h2 : m ≠ .nw) : MetD F mi m (fJoin K) joinD := by
  intro O B ρ σ δ H S z y e Q r hy q
  subst hK
  cases e <;> first | exact (show False from q).elim | skip
  · obtain ⟨ys, ey, q⟩ := q.bind.opt
    obtain ⟨c, q⟩ := Ok1.ite q
    obtain ⟨a, ws, rfl, ha, la⟩ := hy.tup
    obtain ⟨G, _, la⟩ := la.out
    exact ⟨ys, .inr (strs_rp la ey ▸ ha), c, Ok1.scal r (d := .str _) rfl h2 q⟩
  · obtain ⟨ys, ey, q⟩ := q.bind.opt
    obtain ⟨c, q⟩ := Ok1.ite q
    obtain ⟨a, ws, rfl, ha, la⟩ := hy.lst
    obtain ⟨G, _, la⟩ := la.out
    exact ⟨ys, .inl (SqL.of (strs_rp la ey ▸ ha)), c, Ok1.scal r (d := .str _) rfl h2 q⟩
def indexD : D → D → M D
  | .str a, .str b => do let k ← M.opt (Txt.index0 a b); pure (.int (k : Nat))
  | _, _ => M.stuck
theorem m_index (h2 : m ≠ .nw) : MetD F mi m fIndex indexD := by
  intro O B ρ σ δ H S z y e Q r hy q
  cases e <;> first | exact (show False from q).elim | skip
  obtain ⟨k, ek, q⟩ := q.bind.opt
  cases hy.str
  exact ⟨k, ek, Ok1.scal r (d := .int _) rfl h2 q⟩
def splitD : D → D → M D
  | .str a, .str b => if (b.length == 0) = false ∧ a.length + 2 ≤ sizeLine then pure (.lst ((Txt.split a b).map D.str)) else M.stuck
  | _, _ => M.stuck
theorem m_split (h2 : m ≠ .nw) : MetD F mi m fSplit splitD := by
  intro O B ρ σ δ H S z y e Q r hy q
  cases e <;> first | exact (show False from q).elim | skip
  obtain ⟨c, q⟩ := Ok1.ite q
  cases hy.str
  refine ⟨c.1, c.2, fun p H2 np s2 h2' => (q : ∀ v H' ρ', _) _ H2 ρ (r.same s2) (Gr.same s2) (lst_new r np s2 h2' h2 ?_)⟩
  cases m
  · exact rpL_map (fun c => .str) _
  · exact rpL_map (fun c => .str) _
  · exact absurd rfl h2
def fmtD : D → M Str
  | .str y => if y.length ≤ sizeLine then pure y else M.stuck
  | .int i => if i.natAbs.log2 < 1920 then pure (toString i) else M.stuck
  | _ => M.stuck
def joinedM : List (DEnv → M D) → Str → DEnv → M Str
  | [], acc, _ => pure acc
  | t :: ts, acc, δ => do
    let x ← t δ
    match x with
    | .str y => if (acc ++ y).length ≤ sizeLine then joinedM ts (acc ++ y) δ else M.stuck
    | _ => M.stuck
theorem pd_fstr1 {t : DEnv → M D} (h : PED X F O m e t) : PED X F O m (.JoinedStr [e] pos) t := pe_joined1 h
theorem pd_fmt {t : DEnv → M D} (h : PED X F O .tr e t) (h2 : m ≠ .nw := by decide) : PED X F O m (.FormattedValue e (-1) none pos) (fun δ => do let d ← t δ; let s ← fmtD d; pure (.str s)) := pe_imp (fe_fmt h) fun σ H Q ⟨B, ρ, δ, S, r, q⟩ => ⟨B, ρ, δ, S, r, q.bind.imp fun d S' q v H' ρ' r' g z => by
  have z : Rin F .tr B ρ' H' v d := z
  cases d <;> first | exact (show False from q).elim | skip
  · cases z.int
    obtain ⟨c, q⟩ := Ok1.ite q.bind
    exact ⟨c, (q : ∀ v H' ρ', _) _ H' ρ' r' g (scV_res (d := .str _) rfl h2)⟩
  · cases z.str
    obtain ⟨c, q⟩ := Ok1.ite q.bind
    exact ⟨c, (q : ∀ v H' ρ', _) _ H' ρ' r' g (scV_res (d := .str _) rfl h2)⟩⟩
end
end Fg
namespace Fg
open PySem PySem.Spec PyProof.Rows L2
variable [TQ]
abbrev fmtM (t : DEnv → M D) : DEnv → M D := fun δ => do let d ← t δ; let s ← fmtD d; pure (.str s)
def negD : D → M D
  | .int i => pure (.int (-i))
  | _ => M.stuck
def cutD (ds : List D) (lo hi : Option Int) : List D := (ds.drop (HT.sIx ds.length 0 lo)).take (HT.sIx ds.length ds.length hi - HT.sIx ds.length 0 lo)
abbrev noPM : DEnv → M (Option Int) := fun _ => pure none
def partD : D → M (Option Int)
  | .int i => pure (some i)
  | _ => M.stuck
abbrev somePM (t : DEnv → M D) : DEnv → M (Option Int) := fun δ => do let d ← t δ; partD d
abbrev sliceM (f : D → Option Int → Option Int → M D) (t : DEnv → M D) (l u : DEnv → M (Option Int)) : DEnv → M D := fun δ => do let x ← t δ; let lo ← l δ; let hi ← u δ; f x lo hi
def slLD : D → Option Int → Option Int → M D
  | .lst ds, lo, hi => pure (.lst (cutD ds lo hi))
  | _, _, _ => M.stuck
def slTD : D → Option Int → Option Int → M D
  | .tup ds, lo, hi => pure (.tup (cutD ds lo hi))
  | _, _, _ => M.stuck
def slSD : D → Option Int → Option Int → M D
  | .str z, lo, hi => if z.length ≤ sizeLine then pure (.str (cutS z lo hi)) else M.stuck
  | _, _, _ => M.stuck
/-- == of flat things -/
def eqF : D → D → Bool
  | .non, .non => true
  | .bl a, .bl b => a == b
  | .bl a, .int b => (if a then 1 else 0) == b
  | .int a, .bl b => a == (if b then 1 else 0)
  | .int a, .int b => a == b
  | .str a, .str b => a == b
  | _, _ => false
theorem eqF_V {x y : D} (hx : scalD x = true) (hy : scalD y = true) : eqV (scV x) (scV y) = eqF x y := by
  cases x <;> cases y <;> first | rfl | (cases hx; done) | (cases hy; done)
def inQD (neg : Bool) : D → D → M D
  | x, .lst ds => if scalD x = true ∧ ds.all scalD = true then pure (.bl (opp neg (ds.any fun y => eqF y x))) else M.stuck
  | x, .tup ds => if scalD x = true ∧ ds.all scalD = true then pure (.bl (opp neg (ds.any fun y => eqF y x))) else M.stuck
  | _, _ => M.stuck
def inKD (kds : List (Str × D)) : D → M D
  | .str z => pure (.bl (kds.lookup z).isSome)
  | _ => M.stuck
/-- == at any depth -/
def eqNL (f : D → D → Option Bool) : List D → List D → Option (List Bool)
  | [], _ => some []
  | _ :: _, [] => some []
  | x :: xs, y :: ys => (f x y).bind fun b => (eqNL f xs ys).map (b :: ·)
def eqN : Nat → D → D → Option Bool
  | 0, x, y => if scalD x = true ∧ scalD y = true then some (eqF x y) else none
  | n + 1, x, y => match x, y with
    | .lst xs, .lst ys => if xs.length = ys.length then (eqNL (eqN n) xs ys).map (·.all id) else some false
    | .tup xs, .tup ys => (eqNL (eqN n) xs ys).map fun bs => bs.all id && xs.length == ys.length
    | x, y => if scalD x = true ∧ scalD y = true then some (eqF x y) else none
def eqBD (neg : Bool) : D → D → M D
  | .lst xs, .lst ys => if xs.length = ys.length then (do let bs ← M.opt (eqNL (eqN 20) xs ys); pure (.bl (opp neg (bs.all id)))) else pure (.bl neg)
  | .tup xs, .tup ys => do let bs ← M.opt (eqNL (eqN 20) xs ys); pure (.bl (opp neg (bs.all id && xs.length == ys.length)))
  | _, _ => M.stuck
section
variable {K : PySem.W.Frag} {ca : Str → Option Addr} {F : Fr} {m mi : Md} {B : Nat → Option Addr} {ρ : List Addr} {H : Hp}
theorem RpL.cut {G : Hp} {vs : List V} {ds : List D} (h : RpL K ca ρ G vs ds) (lo hi : Option Int) : RpL K ca ρ G (cutV vs lo hi) (cutD ds lo hi) := by
  unfold cutV cutD
  rw [RpL.length h]
  exact RpL.take _ (RpL.drop _ h)
theorem RinL.cut {vs : List V} {ds : List D} (h : RinL F m B ρ H vs ds) (lo hi : Option Int) : RinL F m B ρ H (cutV vs lo hi) (cutD ds lo hi) := by cases m <;> exact RpL.cut h lo hi
theorem flat_scal {d : D} (h : scalD d = true) : flatV (scV d) = true := by cases d <;> first | rfl | (cases h; done)
theorem rp_scal {G : Hp} : ∀ {ds : List D} {vs : List V}, RpL K ca ρ G vs ds → ds.all scalD = true → vs = ds.map scV
  | [], _, .nil, _ => rfl
  | d :: ds, _, .cons h t, e => by
    rw [List.all_cons, Bool.and_eq_true] at e
    rw [rp_scal t e.2]
    have : ∀ {v}, Rp K ca ρ G v d → v = scV d := fun {v} h => by
      cases d <;> first | (cases h; rfl) | cases e.1
    rw [this h]
    rfl
theorem inV_eq {x : D} {ds : List D} (hx : scalD x = true) (h : ds.all scalD = true) : inV (scV x) (ds.map scV) = ds.any fun y => eqF y x := by
  unfold inV
  rw [List.any_map]
  induction ds with
  | nil => rfl
  | cons d ds ih =>
    rw [List.all_cons, Bool.and_eq_true] at h
    rw [List.any_cons, List.any_cons, ih h.2]
    show (eqV (scV d) (scV x) || _) = _
    rw [eqF_V h.1 hx]
theorem o_inQ {neg : Bool} (hK : F.K = K) (h2 : m ≠ .nw) : OpD F mi m (fInQ K neg) (inQD neg) := by
  intro O B ρ σ δ H S x y d e Q r hx hy q
  subst hK
  have fl : ∀ {ds : List D}, ds.all scalD = true → (ds.map scV).all flatV = true := fun {ds} h => by
    rw [List.all_map]
    rw [List.all_eq_true] at h ⊢
    exact fun z hz => flat_scal (h z hz)
  cases e <;> first | (cases d <;> exact (show False from q).elim) | skip
  · obtain ⟨c, q⟩ := Ok1.ite q
    obtain ⟨a, vs, rfl, ha, la⟩ := hy.tup
    obtain ⟨G, _, la⟩ := la.out
    have ev := rp_scal la c.2
    subst ev
    cases hx.scal c.1
    refine ⟨_, .inr ha, flat_scal c.1, fl c.2, ?_⟩
    rw [inV_eq c.1 c.2]
    exact Ok1.scal r (d := .bl _) rfl h2 q
  · obtain ⟨c, q⟩ := Ok1.ite q
    obtain ⟨a, vs, rfl, ha, la⟩ := hy.lst
    obtain ⟨G, _, la⟩ := la.out
    have ev := rp_scal la c.2
    subst ev
    cases hx.scal c.1
    refine ⟨_, .inl (SqL.of ha), flat_scal c.1, fl c.2, ?_⟩
    rw [inV_eq c.1 c.2]
    exact Ok1.scal r (d := .bl _) rfl h2 q
/-- a table of plain things -/
theorem lookup_scal {z : Str} : ∀ {kds : List (Str × D)}, (kds.map fun p => (p.1, scV p.2)).lookup z = (kds.lookup z).map scV
  | [] => rfl
  | (k, d) :: r => by
    rw [List.map_cons, List.lookup_cons, List.lookup_cons]
    cases (z == k) with
    | true => rfl
    | false => exact lookup_scal
theorem eqN_at : ∀ (n : Nat) {x y : V} {d e : D} {b : Bool}, Rin F mi B ρ H x d → Rin F mi B ρ H y e → eqN n d e = some b → EqB F.K H n x y b
  | 0, x, y, d, e, b, hx, hy, h => by
    unfold eqN at h
    split at h
    · rename_i c
      cases h
      cases hx.scal c.1; cases hy.scal c.2
      exact ⟨flat_scal c.1, flat_scal c.2, (eqF_V c.1 c.2).symm⟩
    · cases h
  | n + 1, x, y, d, e, b, hx, hy, h => by
    have key : ∀ {xs ys : List D} {vs ws : List V} {bs : List Bool}, RinL F mi B ρ H vs xs → RinL F mi B ρ H ws ys → eqNL (eqN n) xs ys = some bs → Pr3 (EqB F.K H n) vs ws bs := by
      intro xs
      induction xs with
      | nil =>
        intro ys vs ws bs h1 h2 h
        have := h1.len
        cases vs with
        | nil => cases h; exact .nl
        | cons _ _ => cases this
      | cons a xs ih =>
        intro ys vs ws bs h1 h2 h
        cases ys with
        | nil =>
          have := h2.len
          cases ws with
          | nil => cases h; exact .nr
          | cons _ _ => cases this
        | cons c ys =>
          cases vs with
          | nil => exact absurd h1.len (by simp)
          | cons v vs =>
            cases ws with
            | nil => exact absurd h2.len (by simp)
            | cons w ws =>
              have h : ((eqN n a c).bind fun b => (eqNL (eqN n) xs ys).map (b :: ·)) = some bs := h
              cases e1 : eqN n a c with
              | none => rw [e1] at h; cases h
              | some b1 =>
                rw [e1] at h
                have h : (eqNL (eqN n) xs ys).map (b1 :: ·) = some bs := h
                cases e2 : eqNL (eqN n) xs ys with
                | none => rw [e2] at h; cases h
                | some cs =>
                  rw [e2] at h
                  cases h
                  have p1 : Rin F mi B ρ H v a ∧ RinL F mi B ρ H vs xs := by cases mi <;> (cases h1 with | cons a b => exact ⟨a, b⟩)
                  have p2 : Rin F mi B ρ H w c ∧ RinL F mi B ρ H ws ys := by cases mi <;> (cases h2 with | cons a b => exact ⟨a, b⟩)
                  exact .cons (eqN_at n p1.1 p2.1 e1) (ih p1.2 p2.2 e2)
    have flat : (if scalD d = true ∧ scalD e = true then some (eqF d e) else none) = some b → EqB F.K H (n + 1) x y b := fun h => by
      split at h
      · rename_i c
        cases h
        cases hx.scal c.1; cases hy.scal c.2
        exact .inl ⟨flat_scal c.1, flat_scal c.2, (eqF_V c.1 c.2).symm⟩
      · cases h
    unfold eqN at h
    split at h
    · rename_i xs ys
      obtain ⟨a, vs, rfl, ha, la⟩ := hx.lst
      obtain ⟨c, ws, rfl, hc, lc⟩ := hy.lst
      split at h
      · rename_i hl
        cases e2 : eqNL (eqN n) xs ys with
        | none => rw [e2] at h; cases h
        | some bs =>
          rw [e2] at h
          cases h
          exact .inr (.inr (.inr (.inl ⟨a, c, vs, ws, bs, rfl, rfl, SqL.of ha, SqL.of hc, by rw [la.len, lc.len, hl], key la lc e2, rfl⟩)))
      · rename_i hl
        cases h
        exact .inr (.inr (.inl ⟨a, c, vs, ws, rfl, rfl, SqL.of ha, SqL.of hc, by rw [la.len, lc.len]; exact hl, rfl⟩))
    · rename_i xs ys
      obtain ⟨a, vs, rfl, ha, la⟩ := hx.tup
      obtain ⟨c, ws, rfl, hc, lc⟩ := hy.tup
      cases e2 : eqNL (eqN n) xs ys with
      | none => rw [e2] at h; cases h
      | some bs =>
        rw [e2] at h
        cases h
        exact .inr (.inr (.inr (.inr ⟨a, c, vs, ws, bs, rfl, rfl, ha, hc, key la lc e2, by rw [la.len, lc.len]⟩)))
    · exact flat h
theorem o_eqB {neg : Bool} (hK : F.K = K) (h2 : m ≠ .nw) : OpD F mi m (fEqB K neg) (eqBD neg) := by
  intro O B ρ σ δ H S x y d e Q r hx hy q
  subst hK
  have lift : ∀ {xs ys : List D} {vs ws : List V} {bs : List Bool}, RinL F mi B ρ H vs xs → RinL F mi B ρ H ws ys → eqNL (eqN 20) xs ys = some bs → Pr3 (EqB F.K H 20) vs ws bs := by
    intro xs
    induction xs with
    | nil =>
      intro ys vs ws bs h1 h2 h
      have := h1.len
      cases vs with
      | nil => cases h; exact .nl
      | cons _ _ => cases this
    | cons a xs ih =>
      intro ys vs ws bs h1 h2 h
      cases ys with
      | nil =>
        have := h2.len
        cases ws with
        | nil => cases h; exact .nr
        | cons _ _ => cases this
      | cons c ys =>
        cases vs with
        | nil => exact absurd h1.len (by simp)
        | cons v vs =>
          cases ws with
          | nil => exact absurd h2.len (by simp)
          | cons w ws =>
            have h : ((eqN 20 a c).bind fun b => (eqNL (eqN 20) xs ys).map (b :: ·)) = some bs := h
            cases e1 : eqN 20 a c with
            | none => rw [e1] at h; cases h
            | some b1 =>
              rw [e1] at h
              have h : (eqNL (eqN 20) xs ys).map (b1 :: ·) = some bs := h
              cases e2 : eqNL (eqN 20) xs ys with
              | none => rw [e2] at h; cases h
              | some cs =>
                rw [e2] at h
                cases h
                have p1 : Rin F mi B ρ H v a ∧ RinL F mi B ρ H vs xs := by cases mi <;> (cases h1 with | cons a b => exact ⟨a, b⟩)
                have p2 : Rin F mi B ρ H w c ∧ RinL F mi B ρ H ws ys := by cases mi <;> (cases h2 with | cons a b => exact ⟨a, b⟩)
                exact .cons (eqN_at 20 p1.1 p2.1 e1) (ih p1.2 p2.2 e2)
  cases d <;> cases e <;> first | exact (show False from q).elim | skip
  · obtain ⟨bs, eb, q⟩ := (Ok1.bind q).opt
    obtain ⟨a, vs, rfl, ha, la⟩ := hx.tup
    obtain ⟨c, ws, rfl, hc, lc⟩ := hy.tup
    refine .inr (.inr ⟨vs, ws, bs, ha, hc, lift la lc eb, ?_⟩)
    rw [la.len, lc.len]
    exact Ok1.scal r (d := .bl _) rfl h2 q
  · obtain ⟨a, vs, rfl, ha, la⟩ := hx.lst
    obtain ⟨c, ws, rfl, hc, lc⟩ := hy.lst
    have q : Ok1 F ((if _ = _ then _ else _ : M D) S) _ := q
    split at q
    · rename_i hl
      obtain ⟨bs, eb, q⟩ := (Ok1.bind q).opt
      exact .inr (.inl ⟨vs, ws, bs, SqL.of ha, SqL.of hc, by rw [la.len, lc.len, hl], lift la lc eb, Ok1.scal r (d := .bl _) rfl h2 q⟩)
    · rename_i hl
      exact .inl ⟨vs, ws, SqL.of ha, SqL.of hc, by rw [la.len, lc.len]; exact hl, Ok1.scal r (d := .bl _) rfl h2 q⟩
end
end Fg
namespace Fg
open PySem PySem.Spec PyProof.Rows L2
variable [TQ]
section
variable {X : Cx} {F : Fr} {O O' O1 O2 OL : List Nat} {m mi : Md} {pos pos' p apos spos : Pos} {a b c e e2 tg o : Expr} {rest es elts ifs : List Expr} {i j k kk : Nat} {x f : Str} {ps : List Str} {K : PySem.W.Frag}
theorem pd_neg {t : DEnv → M D} (h : PED X F O .tr e t) (h2 : m ≠ .nw := by decide) : PED X F O m (.UnaryOp .USub e pos) (oneM negD t) := pe_imp (pe_un un_neg h) fun σ H Q ⟨B, ρ, δ, S, r, q⟩ => ⟨B, ρ, δ, S, r, q.bind.imp fun d S' q v H' ρ' r' g z => by
  have z : Rin F .tr B ρ' H' v d := z
  cases d <;> first | exact (show False from q).elim | skip
  cases z.int
  exact ⟨_, rfl, (q : ∀ v H' ρ', _) _ H' ρ' r' g (scV_res (d := .int _) rfl h2)⟩⟩
def dO (F : Fr) (O : List Nat) (t : DEnv → M (Option Int)) : TO := fun σ H Q => ∃ B ρ δ S, Rel F O B ρ σ H δ S ∧ Ok1 F (t δ S) fun o S' => ∀ H' ρ', Rel F O B ρ' σ H' δ S' → Gr ρ NoZ H ρ' H' → Q o H'
theorem po_imp {e : Option Expr} {t t' : TO} (h : PO X e t) (w : ∀ σ H Q, t' σ H Q → t σ H Q) : PO X e t' := ⟨fun pins s σ H Q I q => h.run pins s σ H Q I (w σ H Q q)⟩
theorem pod_none : PO X none (dO F O noPM) := po_imp po_none fun σ H Q ⟨B, ρ, δ, S, r, q⟩ => (q : ∀ H' ρ', _) H ρ r (Gr.refl _ _ _)
theorem pod_some {t : DEnv → M D} (h : PED X F O .tr e t) : PO X (some e) (dO F O (somePM t)) := po_imp (po_some h) fun σ H Q ⟨B, ρ, δ, S, r, q⟩ => ⟨B, ρ, δ, S, r, q.bind.imp fun d S' q v H' ρ' r' g z => by
  have z : Rin F .tr B ρ' H' v d := z
  cases d <;> first | exact (show False from q).elim | skip
  cases z.int
  exact ⟨_, rfl, (q : ∀ H' ρ', _) H' ρ' r' g⟩⟩
def SlD (F : Fr) (mi m : Md) (r : V → Option Int → Option Int → Hp → VK → Prop) (f : D → Option Int → Option Int → M D) : Prop := ∀ O B ρ σ δ H S x d lo hi Q, Rel F O B ρ σ H δ S → Rin F mi B ρ H x d →
  Ok1 F (f d lo hi S) (fun d' S' => ∀ v H' ρ', Rel F O B ρ' σ H' δ S' → Gr ρ NoZ H ρ' H' → Res F m B ρ' H H' S' v d' → Q v H') → r x lo hi H Q
theorem pd_slice {p2 : Pos} {lo hi : Option Expr} {r : V → Option Int → Option Int → Hp → VK → Prop} {g : D → Option Int → Option Int → M D} {t : DEnv → M D} {l u : DEnv → M (Option Int)} (hr : SlR X r) (hf : SlD F mi m r g) (he : PED X F O mi e t) (hl : PO X lo (dO F O l)) (hu : PO X hi (dO F O u)) :
    PED X F O m (.Subscript e (.Slice lo hi none p2) pos) (sliceM g t l u) := pe_imp (pe_slice hr he hl hu) fun σ H Q ⟨B, ρ, δ, S, r, q⟩ => ⟨B, ρ, δ, S, r, q.bind.imp fun d S' q v H' ρ' r' g1 z => ⟨B, ρ', δ, S', r', q.bind.imp fun lo S2 q H2 ρ2 r2 g2 => ⟨B, ρ2, δ, S2, r2, q.bind.imp fun hi S3 q H3 ρ3 r3 g3 =>
    hf O B ρ3 σ δ H3 S3 v d lo hi Q r3 (((Res.rin r z).gr g2).gr g3) (q.imp fun d4 S4 k v4 H4 ρ4 r4 g4 z4 => k v4 H4 ρ4 r4 (((g1.tr g2).tr g3).tr g4) (Res.gr2 ((g1.tr g2).tr g3) z4))⟩⟩⟩
theorem s_slL (hK : F.K = K) (hm : mi = m) (h2 : m ≠ .nw) : SlD F mi m (fSlL K) slLD := by
  subst hm hK
  intro O B ρ σ δ H S x d lo hi Q r z q
  cases d <;> first | exact (show False from q).elim | skip
  obtain ⟨a, vs, rfl, ha, la⟩ := z.lst
  exact ⟨vs, SqL.of ha, fun p H2 np s2 h2' => (q : ∀ v H' ρ', _) _ H2 ρ (r.same s2) (Gr.same s2) (lst_new r np s2 h2' h2 (la.cut lo hi))⟩
theorem s_slS (h2 : m ≠ .nw) : SlD F mi m fSlS slSD := by
  intro O B ρ σ δ H S x d lo hi Q r z q
  cases d <;> first | exact (show False from q).elim | skip
  obtain ⟨c, q⟩ := Ok1.ite q
  cases z.str
  exact ⟨c, Ok1.scal r (d := .str _) rfl h2 q⟩
def parS (i j : Nat) (ta tb : DEnv → M D) : DEnv → M (DEnv × Fl) := fun δ => do let x ← ta δ; let y ← tb δ; pure ((δ.set i (some x)).set j (some y), Fl.nx)
theorem psd_par {x y : Str} {px py pt pt2 : Pos} {kt k2 : Nat} {ta tb : DEnv → M D} (i j : Nat) (hc : X.calm = true) (hN : X.N.Nodup) (hi : X.N[i]? = some x) (hj : X.N[j]? = some y) (hij : i ≠ j)
    (hx : X.env.scope.names.lookup x = some .local) (hy : X.env.scope.names.lookup y = some .local) (ha : PED X F O .fz a ta) (hb : PED X F O .fz b tb) (hio : i ∉ O := by decide) (hjo : j ∉ O := by decide)
    (h : PS X (.Assign [.Tuple [.Name x px, .Name y py] kt pt] (.Tuple [a, b] k2 pt2) pos) (tPar i j (tCons (dE F O .fz ta) (tCons (dE F O .fz tb) tNil))) := by exact ps_par ‹_› ‹_› ‹_› ‹_› ‹_› ‹_› ‹_› (pa_cons ‹_› (pa_cons ‹_› pa_nil)) (by rfl)) :
    PSD X F O O OL (.Assign [.Tuple [.Name x px, .Name y py] kt pt] (.Tuple [a, b] k2 pt2) pos) (parS i j ta tb) := ps_imp h fun Dn σ H ⟨B, ρ, δ, S, r, q⟩ => ⟨B, ρ, δ, S, r, q.bind.imp fun d1 S1 q v1 H1 ρ1 r1 g1 z1 => ⟨B, ρ1, δ, S1, r1, q.bind.imp fun d2 S2 q v2 H2 ρ2 r2 g2 z2 =>
    ⟨v1, v2, rfl, (q : ∀ σ' H' B' ρ', _) _ H2 B ρ2 ((r2.set hio (Rin.gr (m := .fz) z1 g2)).set hjo z2) (g1.tr g2).wk fun b h => .inl h⟩⟩⟩
def augS (f : D → D → M D) (i : Nat) (t : DEnv → M D) : DEnv → M (DEnv × Fl) := fun δ => do let x ← rd i δ; let y ← t δ; let z ← f x y; pure (δ.set i (some z), Fl.nx)
local macro_rules | `(tactic| walk_at "ni") => `(tactic| (intro x y S h; cases x <;> cases y <;> first | rfl | exact absurd ⟨rfl, rfl⟩ (h _ _)))
def iaddD : D → D → M D
  | .int i, .int j => pure (.int (i + j))
  | _, _ => M.stuck
theorem pd_inK {x : Str} {d : Addr} {kds : List (Str × D)} {t : DEnv → M D} (T : KTab X.K X.w d (kds.map fun p => (p.1, scV p.2))) (hg : Gl X x) (hx : ∃ u, X.mg x = some u ∧ RelV (.ref d) u) (h : PED X F O .tr a t) (hm : behindInMarks .In (.Name x pos') = false) (h2 : m ≠ .nw := by decide) (hd : (x == ("__debug__" : Str)) = false := by decide) :
    PED X F O m (.Compare a [.In] [.Name x pos'] pos) (oneM (inKD kds) t) := pe_imp (pe_cmpR (f_inK T) h (fe_g hg hx hd) hm) fun σ H Q ⟨B, ρ, δ, S, r, q⟩ => ⟨B, ρ, δ, S, r, q.bind.imp fun e S' q v H' ρ' r' g z => by
    have z : Rin F .tr B ρ' H' v e := z
    cases e <;> first | exact (show False from q).elim | skip
    cases z.str
    refine ⟨rfl, ?_⟩
    show Q (.bl (List.lookup _ (List.map _ kds)).isSome) H'
    rw [lookup_scal, Option.isSome_map]
    exact (q : ∀ v H' ρ', _) _ H' ρ' r' g (scV_res (d := .bl _) rfl h2)⟩
end
end Fg
namespace Fg
open PySem PySem.Spec PyProof.Rows L2
variable [TQ]
def mtL : D → M (List D)
  | .mt k => fun S => match S[k]? with
    | some (.lst ds) => some (.ok ds, S)
    | _ => none
  | _ => M.stuck
def mtSet : D → List D → M Unit
  | .mt k, ds => fun S => some (.ok (), S.set k (.lst ds))
  | _, _ => M.stuck
def ixMD (x y : D) : M D := do
  let ds ← mtL x
  match y with
  | .int i => M.opt (atI ds i)
  | _ => M.stuck
def mputS (i : Nat) (k t : DEnv → M D) : DEnv → M (DEnv × Fl) := fun δ => do
  let v ← t δ
  let x ← rd i δ
  let y ← k δ
  let ds ← mtL x
  match y with
  | .int n => (do let j ← M.opt (ixN ds.length n); mtSet x (ds.set j v); pure (δ, Fl.nx))
  | _ => M.stuck
section
variable {F : Fr} {O : List Nat} {B : Nat → Option Addr} {ρ : List Addr} {σ : L2.St} {H H' : Hp} {δ : DEnv} {S : Sto} {v : V} {d : D} {m mi : Md}
theorem Ok1.mtL {x : D} {S : Sto} {P : List D → Sto → Prop} (h : Ok1 F (Fg.mtL x S) P) : ∃ k ds, x = .mt k ∧ S[k]? = some (.lst ds) ∧ P ds S := by
  cases x <;> first | exact (show False from h).elim | skip
  rename_i k
  have h : Ok1 F (match S[k]? with | some (.lst ds) => some (.ok ds, S) | _ => none) P := h
  split at h
  · exact ⟨k, _, rfl, ‹_›, h⟩
  · exact h.elim
theorem SrL.set {K : PySem.W.Frag} {ca : Str → Option Addr} {G : Hp} : ∀ {l : List Addr} {S : Sto} {k : Nat} {a : Addr}, SrL K ca ρ G H l S → l[k]? = some a → l.Nodup → (∀ b ∈ l, b ≠ a → ∀ o, H b = some o → H' b = some o) → Top K ca ρ G H' a d → SrL K ca ρ G H' l (S.set k d)
  | [], _, _, _, _, e, _, _, _ => by simp at e
  | b :: l, [], _, _, h, _, _, _, _ => h.elim
  | b :: l, x :: S, 0, a, ⟨h, t⟩, e, nd, k, z => by
    simp at e; subst e
    refine ⟨z, SrL.mono (fun _ _ e => e) (fun _ _ e _ => e) (fun c hc o _ e => k c (List.mem_cons_of_mem _ hc) (fun w => ?_) o e) t⟩
    subst w
    exact (List.nodup_cons.mp nd).1 hc
  | b :: l, x :: S, n + 1, a, ⟨h, t⟩, e, nd, k, z => by
    have e : l[n]? = some a := by simpa using e
    have ne : b ≠ a := fun w => by
      subst w
      exact (List.nodup_cons.mp nd).1 (List.mem_of_getElem? e)
    exact ⟨Top.mono (fun _ _ e => e) (fun _ _ e _ => e) (fun o _ e => k b (List.mem_cons_self ..) ne o e) h, SrL.set t e (List.nodup_cons.mp nd).2 (fun c hc => k c (List.mem_cons_of_mem _ hc)) z⟩
theorem Rel.mset {k : Nat} {a : Addr} {o o' : HO} (r : Rel F O B ρ σ H δ S) (hk : ρ[k]? = some a) (b : But a H H') (h : H a = some o) (h' : H' a = some o') (n1 : ∀ ps, o ≠ .tbl ps) (n2 : ∀ φ, o ≠ .ext φ)
    (t : Top F.K F.ca ρ (hid (Zo F B ρ) H) H' a d) : Rel F O B ρ σ H' δ (S.set k d) ∧ Gr ρ NoZ H ρ H' := by
  have ha : a ∈ ρ := List.mem_of_getElem? hk
  have g : Gr ρ NoZ H ρ H' := Gr.but b h h' (.inr ha) n1 n2 (t.ntbl h')
  have see : LamX.ExtN (hid (Zo F B ρ) H) (hid (Zo F B ρ) H') := g.seesO
  refine ⟨r.step g ⟨fun c z => g.alive c (r.sta.live c z), r.sta.nd, r.sta.xr, ?_⟩, g⟩
  have s2 := SrL.set (d := d) (H' := H') r.sta.sto hk r.sta.nd (fun c _ ne o e => b c o ne e) t
  exact SrL.mono (fun _ _ e => e) see (fun _ _ _ _ e => e) s2
theorem top_lst {K : PySem.W.Frag} {ca : Str → Option Addr} {G : Hp} {a : Addr} {ds : List D} (h : Top K ca ρ G H a (.lst ds)) : ∃ vs, H a = some (.lst vs) ∧ RpL K ca ρ G vs ds := h
end
section
variable {X : Cx} {F : Fr} {O O' O1 O2 OL : List Nat} {m mi : Md} {pos pos' p apos spos : Pos} {a b c e e2 tg o : Expr} {rest es elts ifs : List Expr} {i j k kk : Nat} {x f : Str} {ps : List Str} {K : PySem.W.Frag}
theorem o_ixM (hK : F.K = K) (h2 : m ≠ .nw) : OpD F .tr m (fIx K) ixMD := by
  subst hK
  intro O B ρ σ δ H S x y d e Q r hx hy q
  obtain ⟨k, ds, rfl, hs, q⟩ := q.bind.mtL
  obtain ⟨a, rfl, ha⟩ := hx.mt
  obtain ⟨d0, e0, t⟩ := SrL.get r.sta.sto ha
  cases hs.symm.trans e0
  obtain ⟨vs, h1, h3⟩ := top_lst t
  cases e <;> first | exact (show False from q).elim | skip
  cases hy.int
  obtain ⟨w, ew, q⟩ := (show Ok1 F (M.opt (atI ds _) S) _ from q).opt
  have l : RinL F .fz B ρ H vs ds := h3
  obtain ⟨v, hv, hr⟩ := l.atI ew
  refine ⟨vs, v, .inl (SqL.of h1), hv, q v H ρ r (Gr.refl _ _ _) ?_⟩
  cases m
  · exact Rin.wk (m := .fz) hr
  · exact hr
  · exact absurd rfl h2
theorem pd_ixM {ta tb : DEnv → M D} (hK : F.K = X.K) (ha : PED X F O .tr a ta) (hb : PED X F O .tr b tb) (hs : PlainIx b) (h2 : m ≠ .nw := by decide) : PED X F O m (.Subscript a b pos) (binM ixMD ta tb) := pe_imp (pe_ix f_ix ha hb hs) fun σ H Q q => bin_imp (o_ixM hK h2) (by decide) q
theorem psd_mput {x : Str} {npos spos : Pos} {tk t : DEnv → M D} (i : Nat) (hk : PED X F O .tr b tk) (h : PED X F O .fz e t) (ho : i ∉ O := by decide) (hN : X.N[i]? = some x := by rfl) (hv : Vis X.env.scope x := by first | exact Or.inl rfl | exact Or.inr (Or.inl rfl) | exact Or.inr (Or.inr rfl)) (hd : (x == ("__debug__" : Str)) = false := by decide) (hcd : (x == ("__classdict__" : Str)) = false := by decide)
    (ha : ∀ v, assign (.Subscript (.Name x npos) b spos) X.env v = (do
      let ov ← holding [v] (eval (.Name x npos) X.env)
      let iv ← holding [v, ov] (eval b X.env)
      standAt spos
      holding [v, ov, iv] (setItem ov iv v)
      release [v, ov, iv] []) := by intro _; rfl)
    (hs : swapsWithSole [.Subscript (.Name x npos) b spos] e pos.line X.env = pure false := by rfl) (hw : swappedStores [.Subscript (.Name x npos) b spos] e X.env = pure none := by rfl)
    (h1 : (assignEach [.Subscript (.Name x npos) b spos] X.env).map (·.2) = [assign (.Subscript (.Name x npos) b spos) X.env] := by rfl) :
    PSD X F O O OL (.Assign [.Subscript (.Name x npos) b spos] e pos) (mputS i tk t) := ps_imp (ps_asg h (pg_sub (fv i hN hv hd hcd) hk g_setL ha) hs hw h1) fun Dn σ H ⟨B, ρ, δ, S, r, q⟩ => ⟨B, ρ, δ, S, r, q.bind.imp fun d S' q v H' ρ' r' g z => by
  obtain ⟨x0, ex, q⟩ := (Ok1.bind q).opt
  have e0 := rd_get ex
  have s0 := r'.slot i _ e0
  unfold SlAt at s0
  rw [r'.notO ho] at s0
  obtain ⟨v0, h1, h2⟩ := s0
  unfold gSub tV
  rw [h1]
  refine ⟨B, ρ', δ, S', r', q.bind.imp fun d2 S2 q v2 H2 ρ2 r2 g2 z2 => ?_⟩
  obtain ⟨n, ds, rfl, hs, q⟩ := q.bind.mtL
  cases d2 <;> first | exact (show False from q).elim | skip
  cases (show Rin F .tr B ρ2 H2 v2 (.int _) from z2).int
  obtain ⟨jj, ej, q⟩ := q.bind.opt
  obtain ⟨a, rfl, ha⟩ := (show Rin F .fz B ρ' H' v0 (.mt n) from h2).mt
  have ha2 := g2.at n a ha
  obtain ⟨d0, e1, t⟩ := SrL.get r2.sta.sto ha2
  cases hs.symm.trans e1
  obtain ⟨vs, hv, hl⟩ := top_lst t
  refine ⟨vs, jj, hv, by rw [RpL.length hl]; exact ej, fun H3 b3 h3 => ?_⟩
  obtain ⟨r3, g3⟩ := r2.mset (d := .lst (ds.set jj d)) ha2 b3 hv h3 (fun _ z => by cases z) (fun _ z => by cases z) ⟨_, h3, RpL.set (Rin.gr (m := .fz) z g2) jj hl⟩
  exact (q : ∀ σ' H' B' ρ', _) σ H3 B ρ2 r3 ((g.tr g2).tr g3).wk fun b h => .inl h⟩
def lputS (i : Nat) (k t : DEnv → M D) : DEnv → M (DEnv × Fl) := fun δ => do
  let v ← t δ
  let x ← rd i δ
  let ds ← itL x
  let y ← k δ
  match y with
  | .int n => (do let j ← M.opt (ixN ds.length n); pure (δ.set i (some (.lst (ds.set j v))), Fl.nx))
  | _ => M.stuck
theorem psd_lput {x : Str} {npos spos : Pos} {tk t : DEnv → M D} (i : Nat) (hk : PED X F O .tr b tk) (h : PED X F O .fz e t) (ho : i ∈ O := by decide) (hN : X.N[i]? = some x := by rfl) (hv : Vis X.env.scope x := by first | exact Or.inl rfl | exact Or.inr (Or.inl rfl) | exact Or.inr (Or.inr rfl)) (hd : (x == ("__debug__" : Str)) = false := by decide) (hcd : (x == ("__classdict__" : Str)) = false := by decide)
    (ha : ∀ v, assign (.Subscript (.Name x npos) b spos) X.env v = (do
      let ov ← holding [v] (eval (.Name x npos) X.env)
      let iv ← holding [v, ov] (eval b X.env)
      standAt spos
      holding [v, ov, iv] (setItem ov iv v)
      release [v, ov, iv] []) := by intro _; rfl)
    (hs : swapsWithSole [.Subscript (.Name x npos) b spos] e pos.line X.env = pure false := by rfl) (hw : swappedStores [.Subscript (.Name x npos) b spos] e X.env = pure none := by rfl)
    (h1 : (assignEach [.Subscript (.Name x npos) b spos] X.env).map (·.2) = [assign (.Subscript (.Name x npos) b spos) X.env] := by rfl) :
    PSD X F O O OL (.Assign [.Subscript (.Name x npos) b spos] e pos) (lputS i tk t) := ps_imp (ps_asg h (pg_sub (fv i hN hv hd hcd) hk g_setL ha) hs hw h1) fun Dn σ H ⟨B, ρ, δ, S, r, q⟩ => ⟨B, ρ, δ, S, r, q.bind.imp fun d S' q v H' ρ' r' g z => by
  obtain ⟨x0, ex, q⟩ := (Ok1.bind q).opt
  have e0 := rd_get ex
  obtain ⟨ds, ed, q2⟩ := q.bind.itL
  clear q
  subst ed
  obtain ⟨a, eb⟩ := (r'.own i).mpr ho
  have s0 := r'.slot i _ e0
  unfold SlAt at s0
  rw [eb] at s0
  obtain ⟨h1, t0⟩ := s0
  unfold gSub tV
  rw [h1]
  refine ⟨B, ρ', δ, S', r', q2.bind.imp fun d2 S2 q v2 H2 ρ2 r2 g2 z2 => ?_⟩
  cases d2 <;> first | exact (show False from q).elim | skip
  cases (show Rin F .tr B ρ2 H2 v2 (.int _) from z2).int
  obtain ⟨jj, ej, q⟩ := (Ok1.bind q).opt
  have s2 := r2.slot i _ e0
  unfold SlAt at s2
  rw [eb] at s2
  obtain ⟨vs, hv, hl⟩ := top_lst s2.2
  refine ⟨vs, jj, hv, by rw [RpL.length hl]; exact ej, fun H3 b3 h3 => ?_⟩
  obtain ⟨r3, g3⟩ := r2.put (d := .lst (ds.set jj d)) eb b3 hv h3 (fun _ z => by cases z) (fun _ z => by cases z) ⟨_, h3, RpL.set (Rin.gr (m := .fz) z g2) jj hl⟩
  exact (q : ∀ σ' H' B' ρ', _) σ H3 B ρ2 r3 ((g.tr g2).wk.trans g3 fun b h => .inl h) fun b h => .inl h⟩
end
end Fg
namespace Fg
open PySem PySem.Spec PyProof.Rows L2
variable [TQ]
def putD (f : Str) (d : D) : List (Str × D) → List (Str × D)
  | [] => [(f, d)]
  | (g, x) :: r => if g = f then (g, d) :: r else (g, x) :: putD f d r
theorem RpF.put {K : PySem.W.Frag} {ca : Str → Option Addr} {ρ : List Addr} {G : Hp} {f : Str} {v : V} {d : D} (h : Rp K ca ρ G v d) : ∀ {vs : List (Str × V)} {ds : List (Str × D)}, RpF K ca ρ G vs ds → RpF K ca ρ G (putF f v vs) (putD f d ds)
  | _, _, .nil => .cons h .nil
  | _, _, .cons (k := k) g t => by
    unfold putF putD
    split
    · exact .cons h t
    · exact .cons g (RpF.put h t)
theorem RpF.length {K : PySem.W.Frag} {ca : Str → Option Addr} {ρ : List Addr} {G : Hp} : ∀ {vs : List (Str × V)} {ds : List (Str × D)}, RpF K ca ρ G vs ds → vs.length = ds.length
  | _, _, .nil => rfl
  | _, _, .cons _ t => congrArg Nat.succ (RpF.length t)
def asO (c : Str) : D → M (List (Str × D))
  | .obj c' fs => if c' = c then pure fs else M.stuck
  | _ => M.stuck
def fldS (i : Nat) (c f : Str) (t : DEnv → M D) : DEnv → M (DEnv × Fl) := fun δ => do
  let v ← t δ
  let x ← rd i δ
  let fs ← asO c x
  if fs.length < 1000 then pure (δ.set i (some (.obj c (putD f v fs))), Fl.nx) else M.stuck
theorem Ok1.asO {F : Fr} {c : Str} {x : D} {S : Sto} {P : List (Str × D) → Sto → Prop} (h : Ok1 F (Fg.asO c x S) P) : ∃ fs, x = .obj c fs ∧ P fs S := by
  cases x <;> first | exact (show False from h).elim | skip
  obtain ⟨e, h2⟩ := Ok1.ite h
  clear h
  subst e
  exact ⟨_, rfl, h2⟩
section
variable {X : Cx} {F : Fr} {O O' O1 O2 OL : List Nat} {m mi : Md} {pos pos' p apos spos npos : Pos} {a b c e e2 tg o : Expr} {rest es elts ifs : List Expr} {i j k kk n : Nat} {x f : Str} {ps : List Str} {K : PySem.W.Frag}
theorem psd_fld {C : Addr} {c f : Str} {t : DEnv → M D} (i : Nat) (hca : F.ca c = some C) (cl : Cls X.K C) (nf : NoAttr X.K C f) (h : PED X F O .fz e t) (ho : i ∈ O := by decide) (hN : X.N[i]? = some x := by rfl) (hv : Vis X.env.scope x := by first | exact Or.inl rfl | exact Or.inr (Or.inl rfl) | exact Or.inr (Or.inr rfl)) (hd : (x == ("__debug__" : Str)) = false := by decide) (hcd : (x == ("__classdict__" : Str)) = false := by decide)
    (hs : swapsWith e (some (.Attribute (.Name x npos) f pos')) pos.line X.env = pure false := by rfl) : PSD X F O O OL (.Assign [.Attribute (.Name x npos) f pos'] e pos) (fldS i c f t) := ps_imp (fs_fld cl nf (fv i hN hv hd hcd) h hs) fun Dn σ H ⟨B, ρ, δ, S, r, q⟩ => ⟨B, ρ, δ, S, r, q.bind.imp fun d S' q v H' ρ' r' g z => by
  obtain ⟨x0, ex, q⟩ := (Ok1.bind q).opt
  have e0 := rd_get ex
  obtain ⟨fs, ed, q2⟩ := q.bind.asO
  clear q
  subst ed
  obtain ⟨hl, q⟩ := q2.ite
  obtain ⟨a, eb⟩ := (r'.own i).mpr ho
  have s0 := r'.slot i _ e0
  unfold SlAt at s0
  rw [eb] at s0
  obtain ⟨h1, C', dx, vs, e1, hv, hf⟩ := s0
  cases hca.symm.trans e1
  unfold tV
  rw [h1]
  refine ⟨dx, vs, hv, by rw [RpF.length hf]; exact hl, fun H3 b3 h3 => ?_⟩
  obtain ⟨r3, g3⟩ := r'.put (d := .obj c (putD f d fs)) eb b3 hv h3 (fun _ z => by cases z) (fun _ z => by cases z) ⟨C, dx, _, hca, h3, RpF.put z hf⟩
  exact (q : ∀ σ' H' B' ρ', _) σ H3 B ρ' r3 (g.wk.trans g3 fun b h => .inl h) fun b h => .inl h⟩
end
/-- __init__ run with values: what the new instance is -/
def runI (c : Str) (n : Nat) (b : DEnv → M (DEnv × Fl)) (ds : List D) : M D := do
  let p ← b (startD n (.obj c [] :: ds))
  match p.2 with
  | .nx => M.opt p.1[0]?.join
  | _ => M.stuck
/-- the promise of an __init__ -/
def spI (K : PySem.W.Frag) (ca ce : Str → Option Addr) (c : Str) (C : Addr) (n : Nat) (f : List D → M D) : Sp := fun vs H Q E => ∃ (Hb : Hp) (q dx : Addr) (Xs : Addr → Prop) (ρ : List Addr) (ds : List D) (S : Sto) (ws : List V), vs = .ref q :: ws ∧ ds.length + 1 = n ∧ ca c = some C ∧ Hb q = none ∧ Same Hb H ∧ H q = some (.ins C dx []) ∧
  Sta K ca ρ Xs Hb S ∧ RpL K ca ρ (hid (fun b => Xs b ∨ b ∈ ρ) Hb) ws ds ∧ Ok1 ⟨K, ca, ce, Hb, Xs, ρ, E, some q⟩ (f ds S) fun d S' => ∀ H' ρ', Gr ρ NoZ Hb ρ' H' → q ∉ ρ' → Sta K ca ρ' (fun b => Xs b ∨ b = q) H' S' → Top K ca ρ' (hid (fun b => (Xs b ∨ b ∈ ρ') ∨ b = q) H') H' q d → Q .non H'
theorem spI_len {K : PySem.W.Frag} {ca ce : Str → Option Addr} {c : Str} {C : Addr} {n : Nat} {f : List D → M D} {vs : List V} {H : Hp} {Q : VK} {E : XK} (h : spI K ca ce c C n f vs H Q E) : vs.length = n := by
  obtain ⟨Hb, q, dx, Xs, ρ, ds, S, ws, rfl, hl, _, _, _, _, _, p, _⟩ := h
  rw [List.length_cons, RpL.length p, hl]
theorem init_of {K : PySem.W.Frag} {ca ce : Str → Option Addr} {c : Str} {C : Addr} {N : List Str} {n m : Nat} {b : DEnv → M (DEnv × Fl)} {vs : List V} {H : Hp} {Q : VK} {E : XK} (hn : N.length = n) (h : spI K ca ce c C m (runI c n b) vs H Q E) :
    ∃ (Hb : Hp) (Xs : Addr → Prop) (ρ : List Addr) (q : Addr), dS ⟨K, ca, ce, Hb, Xs, ρ, E, some q⟩ [0] [0] [] b { nx := fun _ H' => Q .non H', rt := Q } (L2.start N vs) H := by
  obtain ⟨Hb, q, dx, Xs, ρ, ds, S, ws, rfl, hl, hc, nq, s, hq, st, p, k⟩ := h
  refine ⟨Hb, Xs, ρ, q, fun i => if i = 0 then some q else none, ρ, startD n (.obj c [] :: ds), S, ?_, ?_⟩
  · have on : ∀ b, Own (fun i => if i = 0 then some q else none) b ↔ b = q := fun b => by
      constructor
      · rintro ⟨i, e⟩
        dsimp only at e
        split at e
        · exact (Option.some.inj e).symm
        · cases e
      · intro e
        exact ⟨0, by rw [e]; rfl⟩
    have hx : (fun b => Xs b ∨ Own (fun i => if i = 0 then some q else none) b) = fun b => Xs b ∨ b = q := funext fun b => propext (by rw [on])
    have nx : ¬ Xs q := fun z => st.live q (.inl z) (Nw.of nq)
    refine ⟨Gr.same s, by show Sta K ca ρ (fun b => Xs b ∨ Own _ b) H S; rw [hx]; exact st.new s nq (Nw.live hq fun _ z => by cases z), fun b h => by rw [(on b).mp h]; exact Nw.of nq, fun b h => by rw [(on b).mp h]; exact nx, fun i j b h1 h2 => ?_, fun i => ?_, fun i a e => ?_, fun q' e => ?_, ?_, fun i d e => ?_⟩
    · have h1 : (if i = 0 then some q else none) = some b := h1
      have h2 : (if j = 0 then some q else none) = some b := h2
      split at h1
      · split at h2
        · rename_i z1 z2; rw [z1, z2]
        · cases h2
      · cases h1
    · constructor
      · rintro ⟨a, e⟩
        have e : (if i = 0 then some q else none) = some a := e
        split at e
        · rename_i z; rw [z]; exact List.mem_cons_self ..
        · cases e
      · intro e
        simp only [List.mem_cons, List.not_mem_nil, or_false] at e
        exact ⟨q, by rw [e]; rfl⟩
    · have e : (if i = 0 then some q else none) = some a := e
      split at e
      · rename_i z; subst z; exact ⟨.obj c [], rfl⟩
      · cases e
    · cases e; exact .inl rfl
    · unfold L2.start startD
      rw [List.length_append, List.length_append, List.length_map, List.length_map, List.length_replicate, List.length_replicate, List.length_cons, List.length_cons, RpL.length p, hn]
    · have e' := start_at (D.obj c [] :: ds) _ i d e
      have zz : Zo ⟨K, ca, ce, Hb, Xs, ρ, E, some q⟩ (fun i => if i = 0 then some q else none) ρ = fun b => (Xs b ∨ b ∈ ρ) ∨ b = q := funext fun b => propext (by
        show ((Xs b ∨ Own _ b) ∨ b ∈ ρ) ↔ _
        rw [on, or_assoc, or_assoc, or_comm (a := b = q)])
      cases i with
      | zero =>
        cases e'
        exact ⟨rfl, C, dx, [], hc, hq, .nil⟩
      | succ i =>
        have e2 : ds[i]? = some d := by simpa using e'
        obtain ⟨v, hv, hr⟩ := RpL.get p e2
        refine ⟨v, start_in (.ref q :: ws) _ (i + 1) v (by simpa using hv), hr.mono (fun _ _ e => e) ?_⟩
        rw [zz]
        intro b o h _
        obtain ⟨no, h⟩ := hid_iff.mp h
        exact hid_iff.mpr ⟨fun z => z.elim no fun z => (by rw [z, nq] at h; cases h), s b o h⟩
  · refine (Ok1.bind k).imp fun p S' k => ?_
    obtain ⟨δ', fl⟩ := p
    cases fl with
    | rt d => exact (show False from k).elim
    | bk => exact (show False from k).elim
    | ct => exact (show False from k).elim
    | nx =>
      intro σ' H' B' ρ' r' g n
      obtain ⟨d, ed, k⟩ := (show Ok1 _ (M.opt δ'[0]?.join S') _ from k).opt
      have ed := rd_get ed
      have b0 : B' 0 = some q := by
        rcases r'.zero q rfl with z | z
        · exact z
        · obtain ⟨a, ea⟩ := (r'.own 0).mpr (List.mem_cons_self ..)
          rw [z] at ea; cases ea
      have on : ∀ b, Own B' b ↔ b = q := fun b => by
        constructor
        · rintro ⟨i, e⟩
          have := (r'.own i).mp ⟨b, e⟩
          simp only [List.mem_cons, List.not_mem_nil, or_false] at this
          rw [this, b0] at e
          exact (Option.some.inj e).symm
        · intro e; exact ⟨0, by rw [e]; exact b0⟩
      have s0 := r'.slot 0 d ed
      unfold SlAt at s0
      rw [b0] at s0
      have zz : Zo ⟨K, ca, ce, Hb, Xs, ρ, E, some q⟩ B' ρ' = fun b => (Xs b ∨ b ∈ ρ') ∨ b = q := funext fun b => propext (by
        show ((Xs b ∨ Own _ b) ∨ b ∈ ρ') ↔ _
        rw [on, or_assoc, or_assoc, or_comm (a := b = q)])
      have hx : (fun b => Xs b ∨ Own B' b) = fun b => Xs b ∨ b = q := funext fun b => propext (by rw [on])
      refine (k : ∀ H' ρ', _) H' ρ' r'.gr (fun z => r'.sta.xr q z (.inr ((on q).mpr rfl))) (hx ▸ r'.sta) (zz ▸ s0.2)
section
variable {P : Program} {w : World} {K : PySem.W.Frag} {mg : Str → Option Value} {base : Heap} {ca ce : Str → Option Addr}
theorem kmakerD_of {x qual : Str} {C : Addr} {st : Stmt} {kws : List (Str × V)} {N ps : List Str} {k n m : Nat} {b : DEnv → M (DEnv × Fl)} (g : mg x = some (.ref C)) (F : InitK K C qual st kws) (S : FnScope N ps (defScope st)) (hn : N.length = n := by rfl) (hm : ps.length = m := by rfl)
    (hbody : ∀ (f : Addr) (cdv : Value) (A : Around) (outer : List Env) (s : Shared) (H Hb : Hp) (Xs : Addr → Prop) (ρ : List Addr) (E : XK) (q : Addr), Room k (cxOf (L2.CX P w) P w K mg base N qual (defScope st) f cdv A outer s H E).A →
      Takes (cxOf (L2.CX P w) P w K mg base N qual (defScope st) f cdv A outer s H E) (fun cls d _ H => E cls d H) →
      PassesOwn (model P w) (cxOf (L2.CX P w) P w K mg base N qual (defScope st) f cdv A outer s H E).A (cxOf (L2.CX P w) P w K mg base N qual (defScope st) f cdv A outer s H E).env (cxOf (L2.CX P w) P w K mg base N qual (defScope st) f cdv A outer s H E).xe →
      PSsD (cxOf (L2.CX P w) P w K mg base N qual (defScope st) f cdv A outer s H E) ⟨K, ca, ce, Hb, Xs, ρ, E, some q⟩ [0] [0] [] (defBody st) b) : KMaker P w K mg base (k + 1) x C qual st kws ps (spI K ca ce x C m (runI x n b)) := by
  refine kmaker_of g F S (fun vs H Q E h => by rw [spI_len h, hm]) fun f cdv A outer s H vs Q E hr tk po h => ?_
  obtain ⟨Hb, Xs, ρ, q, z⟩ := init_of hn h
  exact ⟨_, hbody f cdv A outer s H Hb Xs ρ E q hr tk po, z⟩
end
end Fg
namespace Fg
open PySem PySem.Spec PyProof.Rows L2
variable [TQ]
section
variable {X : Cx} {F : Fr} {O O' O1 O2 OL : List Nat} {m mi : Md} {pos pos' p apos spos npos : Pos} {a b c e e2 tg o : Expr} {rest es elts ifs : List Expr} {i j k kk n : Nat} {x f : Str} {ps : List Str} {K : PySem.W.Frag}
variable {B : Nat → Option Addr} {ρ : List Addr} {σ : L2.St} {H1 : Hp} {δ : DEnv} {S1 : Sto}
/-- an __init__'s promise at a point of its caller -/
theorem spI_at {f : List D → M D} {C : Addr} {cn : Str} {ws : List V} {ds : List D} {Q : VK} {H3 : Hp} {q dx : Addr} (hca : F.ca cn = some C) (r : Rel F O B ρ σ H1 δ S1) (z : RinL F .fz B ρ H1 ws ds) (nq : H1 q = none) (s : Same H1 H3) (hq : H3 q = some (.ins C dx []))
    (k : Ok1 F (if ds.length + 1 = n then f ds S1 else none) fun d S' => ∀ v H' ρ', Rel F O B ρ' σ H' δ S' → Gr ρ NoZ H1 ρ' H' → Res F .nw B ρ' H1 H' S' v d → Q v H') : spI F.K F.ca F.ce cn C n f (.ref q :: ws) H3 (fun v H4 => v = .non ∧ Q (.ref q) H4) F.W := by
  split at k
  · rename_i hl
    refine ⟨H1, q, dx, fun b => F.Xs b ∨ Own B b, ρ, ds, S1, ws, rfl, hl, hca, nq, s, hq, r.sta, z, ?_⟩
    unfold Ok1 at k ⊢
    cases e : f ds S1 with
    | none => rw [e] at k; exact k
    | some p =>
      rw [e] at k
      obtain ⟨res, S'⟩ := p
      cases res with
      | error ex =>
        intro cls dd H' ρ' en er
        refine k cls dd H' ρ' ⟨r.gr.tr en.gr, en.sta.wk fun b h => .inl h⟩ ?_
        obtain ⟨C, h1, h2, h3⟩ := er
        exact ⟨C, h1, h2, h3.imp id fun ⟨nf, x, vs, h3, h4, h5⟩ => ⟨nf, x, vs, h3, h4, RpF.mono (fun _ _ e => e) (fun b o e _ => by
          obtain ⟨no, e⟩ := hid_iff.mp e
          exact hid_iff.mpr ⟨fun z => no (z.imp .inl id), e⟩) h5⟩⟩
      | ok d =>
        intro H' ρ' g nr st t
        exact ⟨rfl, k (.ref q) H' ρ' (r.step g (st.wk fun b h => .inl h)) g ⟨q, rfl, Nw.of nq, nr, st, t⟩⟩
  · exact (show False from k).elim
theorem RinL.append {m : Md} {H : Hp} {vs ws : List V} {ds es : List D} (h : RinL F m B ρ H vs ds) (t : RinL F m B ρ H ws es) : RinL F m B ρ H (vs ++ ws) (ds ++ es) := by cases m <;> exact RpL.append h t
theorem rinL_scal {m : Md} {H : Hp} {ds : List D} (h : ds.all scalD = true) : RinL F m B ρ H (ds.map scV) ds := by cases m <;> exact rpL_scal h
/-- C(a, ..) by position, the rest by default -/
def newDD (m i : Nat) (dd : List D) (n : Nat) (f : List D → M D) (t : DEnv → M (List D)) : DEnv → M D := fun δ => do
  let ds ← t δ
  if ds.length = m then (if (ds ++ dd.drop i).length + 1 = n then f (ds ++ dd.drop i) else M.stuck) else M.stuck
/-- C(a, *b, ..), *parts in its __init__ -/
def newSD (f : List D → M D) (t : DEnv → M (List D)) : DEnv → M D := fun δ => do let ds ← t δ; capL ds; f [.tup ds]
/-- *e among arguments -/
def sqD : D → M (List D)
  | .lst ds => pure ds
  | .tup ds => pure ds
  | _ => M.stuck
def starM (t : DEnv → M D) (u : DEnv → M (List D)) : DEnv → M (List D) := fun δ => do let x ← t δ; let ds ← sqD x; let r ← u δ; pure (ds ++ r)
def methD (c mn : Str) (n : Nat) (f : List D → M D) (t : DEnv → M D) (u : DEnv → M (List D)) : DEnv → M D := fun δ => do
  let x ← t δ
  let fs ← asO c x
  if fs.lookup mn = none then (do let ds ← u δ; if ds.length + 1 = n then f (x :: ds) else M.stuck) else M.stuck
theorem RpF.lookN {ca : Str → Option Addr} {G : Hp} {mn : Str} : ∀ {vs : List (Str × V)} {ds : List (Str × D)}, RpF K ca ρ G vs ds → ds.lookup mn = none → vs.lookup mn = none
  | _, _, .nil, _ => rfl
  | _, _, .cons (k := kk) _ t, e => by
    rw [List.lookup_cons] at e ⊢
    cases ek : (mn == kk) with
    | true => rw [ek] at e; cases e
    | false => rw [ek] at e; exact RpF.lookN t e
theorem pd_meth0 {C : Addr} {c mn : Str} {f : List D → M D} {t : DEnv → M D} {pl : Sem Bool} (hca : F.ca c = some C) (cc : MCallee X.prog X.w X.K X.mg X.base k C mn ps (spD F.K F.ca F.ce n f)) (hr : Room j X.A) (hk : k ≤ j) (tk : Takes X fun cls d _ H => F.W cls d H) (ho : PED X F O .fz o t)
    (ht : eval (.Call (.Attribute o mn apos) [] [] pos) X.env = (do
      let ov ← eval o X.env; standAt apos.atName; let (f, first) ← holding [ov] (getMethod ov mn pl)
      callWith pos f first (backTo pos (starEach [] X.env)) (backToKw pos (keywordEach [] X.env))) := by rfl) : PED X F O .fz (.Call (.Attribute o mn apos) [] [] pos) (methD c mn n f t nilM) :=
  pe_imp (fc_meth0 cc hr hk tk ho ht) fun σ H Q ⟨B, ρ, δ, S, r, q⟩ => ⟨B, ρ, δ, S, r, q.bind.imp fun d S' q v H' ρ' r' g z => by
    have z : Rin F .fz B ρ' H' v d := z
    obtain ⟨fs, ed, q2⟩ := q.bind.asO
    clear q
    subst ed
    obtain ⟨hl, q⟩ := q2.ite
    have z0 := z
    obtain ⟨a, C', dx, vs, rfl, e1, h1, h2⟩ := z.obj
    cases hca.symm.trans e1
    have q : Ok1 F ((if [].length + 1 = n then f [.obj c fs] else M.stuck) S') _ := q
    rw [ite_at] at q
    exact ⟨⟨dx, vs, h1, RpF.lookN h2 hl⟩, spD_at r' (RinL.cons z0 RinL.nil) (q.imp fun d S3 k v H3 ρ3 r3 g3 z3 => k v H3 ρ3 r3 (g.tr g3) z3)⟩⟩
end
section
variable {P : Program} {w : World} {K : PySem.W.Frag} {mg : Str → Option Value} {base : Heap} {ca ce : Str → Option Addr}
theorem mcalleeD_of {C : Addr} {mn qual : Str} {st : Stmt} {N ps : List Str} {k n m : Nat} {b : DEnv → M (DEnv × Fl)} (cl : Cls K C) (F : MethAt K C mn qual st) (S : FnScope N ps (defScope st)) (hn : N.length = n := by rfl) (hm : ps.length = m := by rfl)
    (hb : ∀ (kV doc pm : Value) (an : Option Addr) (cdv ct : Value) (us : List Value), us.length = ps.length → bindArgs (PySem.W.fnOf mn qual (defArgs st) (defBody st) (defScope st) .none kV doc pm an cdv ct) ⟨us, []⟩ = pure (ps.zip us))
    (hbody : ∀ (f : Addr) (cdv : Value) (A : Around) (outer : List Env) (s : Shared) (H : Hp) (Xs : Addr → Prop) (ρ : List Addr) (E : XK), Room k (cxOf (L2.CX P w) P w K mg base N qual (defScope st) f cdv A outer s H E).A →
      Takes (cxOf (L2.CX P w) P w K mg base N qual (defScope st) f cdv A outer s H E) (fun cls d _ H => E cls d H) →
      PassesOwn (model P w) (cxOf (L2.CX P w) P w K mg base N qual (defScope st) f cdv A outer s H E).A (cxOf (L2.CX P w) P w K mg base N qual (defScope st) f cdv A outer s H E).env (cxOf (L2.CX P w) P w K mg base N qual (defScope st) f cdv A outer s H E).xe →
      PSsD (cxOf (L2.CX P w) P w K mg base N qual (defScope st) f cdv A outer s H E) ⟨K, ca, ce, H, Xs, ρ, E, none⟩ [] [] [] (defBody st) b) : MCallee P w K mg base (k + 1) C mn ps (spD K ca ce m (runD n b)) := by
  refine mcallee_of cl F S hb (fun vs H Q E h => by rw [spD_len h, hm]) fun f cdv A outer s H vs Q E hr tk po h => ?_
  obtain ⟨Xs, ρ, ds, S0, hl, st0, p, q⟩ := h
  exact ⟨_, hbody f cdv A outer s H Xs ρ E hr tk po, body_of (F := ⟨K, ca, ce, H, Xs, ρ, E, none⟩) hn st0 p q fun _ _ h => h⟩
end
end Fg
namespace Fg
open PySem PySem.Spec PyProof.Rows L2
variable [TQ]
def putKD (kvs : List (Key × D)) (k : Key) (v : D) : List (Key × D) :=
  if (kvs.any fun kv => decide (kv.1 = k)) = true then kvs.map (fun kv => if kv.1 = k then (kv.1, v) else kv) else kvs ++ [(k, v)]
def getKD (kvs : List (Key × D)) (k : Key) : Option D := (kvs.find? fun kv => decide (kv.1 = k)).map (·.2)
def keyD : D → M Key
  | .int i => pure (.inl i)
  | .str x => pure (.inr x)
  | _ => M.stuck
def asDct : D → M (List (Key × D))
  | .dct kvs => pure kvs
  | _ => M.stuck
def dgetD (x y : D) : M D := do
  let kvs ← asDct x
  let k ← keyD y
  M.opt (getKD kvs k)
def tgD (i : Nat) (k : DEnv → M D) : D → DEnv → M DEnv := fun v δ => do
  let x ← rd i δ
  let kvs ← asDct x
  let y ← k δ
  let key ← keyD y
  if kvs.length < sizeLine then pure (δ.set i (some (.dct (putKD kvs key v)))) else M.stuck
section
variable {K : PySem.W.Frag} {ca : Str → Option Addr} {ρ : List Addr} {G : Hp} {F : Fr} {B : Nat → Option Addr} {H : Hp} {m : Md}
theorem RpK.any (k : Key) : ∀ {vs : List (Key × V)} {ds : List (Key × D)}, RpK K ca ρ G vs ds → (vs.any fun kv => decide (kv.1 = k)) = (ds.any fun kv => decide (kv.1 = k))
  | _, _, .nil => rfl
  | _, _, .cons _ t => by rw [List.any_cons, List.any_cons, RpK.any k t]
theorem RpK.length : ∀ {vs : List (Key × V)} {ds : List (Key × D)}, RpK K ca ρ G vs ds → vs.length = ds.length
  | _, _, .nil => rfl
  | _, _, .cons _ t => congrArg Nat.succ (RpK.length t)
theorem RpK.app {v : V} {d : D} (h : Rp K ca ρ G v d) (k : Key) : ∀ {vs : List (Key × V)} {ds : List (Key × D)}, RpK K ca ρ G vs ds → RpK K ca ρ G (vs ++ [(k, v)]) (ds ++ [(k, d)])
  | _, _, .nil => .cons h .nil
  | _, _, .cons g t => .cons g (RpK.app h k t)
theorem RpK.mapPut {v : V} {d : D} (h : Rp K ca ρ G v d) (k : Key) : ∀ {vs : List (Key × V)} {ds : List (Key × D)}, RpK K ca ρ G vs ds → RpK K ca ρ G (vs.map fun kv => if kv.1 = k then (kv.1, v) else kv) (ds.map fun kv => if kv.1 = k then (kv.1, d) else kv)
  | _, _, .nil => .nil
  | _, _, .cons (k := j) g t => by
    rw [List.map_cons, List.map_cons]
    by_cases e : j = k
    · rw [if_pos e, if_pos e]; exact .cons h (RpK.mapPut h k t)
    · rw [if_neg e, if_neg e]; exact .cons g (RpK.mapPut h k t)
theorem RpK.put {v : V} {d : D} (h : Rp K ca ρ G v d) (k : Key) {vs : List (Key × V)} {ds : List (Key × D)} (l : RpK K ca ρ G vs ds) : RpK K ca ρ G (putK vs k v) (putKD ds k d) := by
  unfold putK putKD
  rw [RpK.any k l]
  split
  · exact RpK.mapPut h k l
  · exact RpK.app h k l
theorem RpK.val {k : Key} {d : D} : ∀ {vs : List (Key × V)} {ds : List (Key × D)}, RpK K ca ρ G vs ds → getKD ds k = some d → ∃ v, valV vs k = some v ∧ Rp K ca ρ G v d
  | _, _, .nil, e => by cases e
  | _, _, .cons (k := j) (vs := vs) (ds := ds) g t, e => by
    unfold getKD at e
    rw [List.find?_cons] at e
    by_cases c : j = k
    · rw [decide_eq_true c] at e
      cases e
      exact ⟨_, valV_pos c, g⟩
    · rw [decide_eq_false c] at e
      obtain ⟨v, hv, hr⟩ := RpK.val t e
      exact ⟨v, (valV_neg c).trans hv, hr⟩
theorem RinK.get {vs : List (Key × V)} {ds : List (Key × D)} {k : Key} {d : D} (h : RinK F m B ρ H vs ds) (e : getKD ds k = some d) : ∃ v, valV vs k = some v ∧ Rin F m B ρ H v d := by cases m <;> exact RpK.val h e
theorem Ok1.asDct {x : D} {S : Sto} {P : List (Key × D) → Sto → Prop} (h : Ok1 F (Fg.asDct x S) P) : ∃ ds, x = .dct ds ∧ P ds S := by
  cases x <;> first | exact (show False from h).elim | exact ⟨_, rfl, h⟩
theorem Ok1.keyD {x : D} {S : Sto} {P : Key → Sto → Prop} (h : Ok1 F (Fg.keyD x S) P) : (∃ i, x = .int i ∧ P (.inl i) S) ∨ ∃ z, x = .str z ∧ P (.inr z) S := by
  cases x <;> first | exact (show False from h).elim | exact .inl ⟨_, rfl, h⟩ | exact .inr ⟨_, rfl, h⟩
end
section
variable {X : Cx} {F : Fr} {O O' O1 O2 OL : List Nat} {m mi : Md} {pos pos' p apos spos npos : Pos} {a b c e e2 tg o : Expr} {rest es elts ifs : List Expr} {i j k kk n : Nat} {x f : Str} {ps : List Str} {K : PySem.W.Frag}
theorem pd_dget {ta tb : DEnv → M D} (hu : X.A.units + 1 < cLine) (ha : PED X F O m a ta) (hb : PED X F O .tr b tb) (hs : NoSl b) (h2 : m ≠ .nw := by decide) : PED X F O m (.Subscript a b pos) (binM dgetD ta tb) := pe_imp (fe_dget hu ha hb hs) fun σ H Q ⟨B, ρ, δ, S, r, q⟩ =>
  ⟨B, ρ, δ, S, r, q.bind.imp fun d1 S1 q v1 H1 ρ1 r1 g1 z1 => ⟨B, ρ1, δ, S1, r1, q.bind.imp fun d2 S2 q v2 H2 ρ2 r2 g2 z2 => by
    obtain ⟨kvs, ed, q2⟩ := q.bind.asDct
    clear q
    subst ed
    have z1 : Rin F m B ρ2 H2 v1 (.dct kvs) := (Res.rin r z1).gr g2
    have z2 : Rin F .tr B ρ2 H2 v2 d2 := z2
    have fin : ∀ {v d}, Rin F m B ρ2 H2 v d → (∀ v H' ρ', Rel F O B ρ' σ H' δ S2 → Gr ρ NoZ H ρ' H' → Res F m B ρ' H H' S2 v d → Q v H') → Q v H2 := fun {v d} hr k => k v H2 ρ2 r2 (g1.tr g2) (by
      cases m
      · exact hr
      · exact hr
      · exact absurd rfl h2)
    rcases q2.bind.keyD with ⟨i, rfl, q⟩ | ⟨s, rfl, q⟩
    · obtain ⟨d, ed, q⟩ := q.opt
      cases z2.int
      obtain ⟨a, vs, rfl, ha, la⟩ := z1.dct
      obtain ⟨v, hv, hr⟩ := la.get ed
      exact ⟨vs, v, ha, hv, fin hr q⟩
    · obtain ⟨d, ed, q⟩ := q.opt
      cases z2.str
      obtain ⟨a, vs, rfl, ha, la⟩ := z1.dct
      obtain ⟨v, hv, hr⟩ := la.get ed
      exact ⟨vs, v, ha, hv, fin hr q⟩⟩⟩
/-- d[k] as a target, d the def's own -/
theorem pgd_dput {x : Str} {tk : DEnv → M D} (i : Nat) (hu : X.A.units + 1 < cLine) (hk : PED X F O .tr b tk) (ho : i ∈ O := by decide) (hN : X.N[i]? = some x := by rfl) (hv : Vis X.env.scope x := by first | exact Or.inl rfl | exact Or.inr (Or.inl rfl) | exact Or.inr (Or.inr rfl)) (hd : (x == ("__debug__" : Str)) = false := by decide) (hcd : (x == ("__classdict__" : Str)) = false := by decide)
    (ha : ∀ v, assign (.Subscript (.Name x npos) b spos) X.env v = (do
      let ov ← holding [v] (eval (.Name x npos) X.env)
      let iv ← holding [v, ov] (eval b X.env)
      standAt spos
      holding [v, ov, iv] (setItem ov iv v)
      release [v, ov, iv] []) := by intro _; rfl) : PGD X F O O (.Subscript (.Name x npos) b spos) (tgD i tk) := pg_imp (pg_sub (fv i hN hv hd hcd) hk (g_setD hu) ha) fun v σ H Q ⟨B, ρ, δ, S, d, r, z, q⟩ => by
  obtain ⟨x0, ex, q⟩ := (Ok1.bind q).opt
  have e0 := rd_get ex
  obtain ⟨kvs, ed, q2⟩ := q.bind.asDct
  clear q
  subst ed
  obtain ⟨a, eb⟩ := (r.own i).mpr ho
  have s0 := r.slot i _ e0
  unfold SlAt at s0
  rw [eb] at s0
  unfold gSub tV
  rw [s0.1]
  refine ⟨B, ρ, δ, S, r, q2.bind.imp fun d2 S2 q v2 H2 ρ2 r2 g2 z2 => ?_⟩
  have z2 : Rin F .tr B ρ2 H2 v2 d2 := z2
  have s2 := r2.slot i _ e0
  unfold SlAt at s2
  rw [eb] at s2
  obtain ⟨_, vs, hv, hl⟩ := s2
  have fin : ∀ (key : Key), Ok1 F ((if kvs.length < sizeLine then pure (δ.set i (some (.dct (putKD kvs key d)))) else M.stuck : M DEnv) S2) (fun δ' S' => ∀ σ' H' B' ρ', Rel F O B' ρ' σ' H' δ' S' → Gr ρ (Own B) H ρ' H' → (∀ b, Own B' b → Own B b ∨ Nw H b) → Q σ' H') → vs.length < sizeLine ∧ Chg H2 a (.dK (putK vs key v)) (Q σ) := fun key q => by
    obtain ⟨c, q⟩ := Ok1.ite q
    refine ⟨by rw [RpK.length hl]; exact c, fun H3 b3 h3 => ?_⟩
    obtain ⟨r3, g3⟩ := r2.put (d := .dct (putKD kvs key d)) eb b3 hv h3 (fun _ z => by cases z) (fun _ z => by cases z) ⟨_, h3, RpK.put (Rin.gr (m := .fz) z g2) key hl⟩
    exact (q : ∀ σ' H' B' ρ', _) σ H3 B ρ2 r3 (g2.wk.trans g3 fun b h => .inl h) fun b h => .inl h
  rcases q.bind.keyD with ⟨n, rfl, q⟩ | ⟨s, rfl, q⟩
  · cases z2.int
    exact ⟨vs, hv, fin _ q⟩
  · cases z2.str
    exact ⟨vs, hv, fin _ q⟩
theorem pd_d0 : PED X F O .nw (.Dict [] [] pos) (cM (.dct [])) := pe_imp fe_d0 fun σ H Q ⟨B, ρ, δ, S, r, q⟩ => fun p H2 np s2 h2 => by
  exact (q : ∀ v H' ρ', _) _ H2 ρ (r.same s2) (Gr.same s2) (res_new r (Gr.refl _ _ _) s2 np (Nw.live h2 fun _ z => by cases z) ⟨_, h2, .nil⟩)
def mergeKD (acc : List (Key × D)) : List (Key × D) → List (Key × D)
  | [] => acc
  | (k, v) :: r => mergeKD (putKD acc k v) r
def pairsM : List ((DEnv → M D) × (DEnv → M D)) → DEnv → M (List (Key × D))
  | [], _ => pure []
  | (a, b) :: r, δ => do
    let x ← noErr (a δ)
    let y ← noErr (b δ)
    let k ← keyD x
    let l ← pairsM r δ
    pure ((k, y) :: l)
def dispM (l : List ((DEnv → M D) × (DEnv → M D))) : DEnv → M D := fun δ => do
  let kvs ← pairsM l δ
  if kvs.length ≤ 15 then pure (.dct (mergeKD [] kvs)) else M.stuck
def trD (F : Fr) (O : List Nat) (p : (DEnv → M D) × (DEnv → M D)) : TE × TE := (exE fun D => dE (F.blk D) O .fz p.1, exE fun D => dE (F.blk D) O .fz p.2)
abbrev PDS (X : Cx) (F : Fr) (O : List Nat) (pos : Pos) (ks : List (Option Expr)) (vs : List Expr) (l : List ((DEnv → M D) × (DEnv → M D))) : Prop := PPs X pos ks vs ((l.map (trD F O)).map upTT)
theorem pds_nil : PDS X F O pos [] [] [] := fps_nil
theorem pds_cons {k v : Expr} {ks : List (Option Expr)} {vs : List Expr} {a b : DEnv → M D} {l : List ((DEnv → M D) × (DEnv → M D))} (hk : ∀ D, PED X (F.blk D) O .fz k a) (hv : ∀ D, PED X (F.blk D) O .fz v b) (hr : PDS X F O pos ks vs l) : PDS X F O pos (some k :: ks) (v :: vs) ((a, b) :: l) :=
  fps_cons (pe_ex hk) (pe_ex hv) hr
theorem RpK.merge {ca : Str → Option Addr} {ρ : List Addr} {G : Hp} : ∀ {more : List (Key × V)} {md : List (Key × D)} {acc : List (Key × V)} {ad : List (Key × D)}, RpK K ca ρ G more md → RpK K ca ρ G acc ad → RpK K ca ρ G (mergeK acc more) (mergeKD ad md)
  | _, _, _, _, .nil, h => h
  | _, _, acc, ad, .cons (k := kk) (v := v) (d := d) (vs := vs) (ds := ds) g t, h => by
    have z := RpK.merge t (RpK.put g kk h)
    exact z
theorem pairs_of {Q0 : List (V × V) → Hp → Prop} {B : Nat → Option Addr} {σ : L2.St} {δ : DEnv} {Da : Addr} {Hs : Hp} {ρs : List Addr} : ∀ (l : List ((DEnv → M D) × (DEnv → M D))) (ρ1 : List Addr) (H1 : Hp) (S1 : Sto), Rel (F.blk Da) O B ρ1 σ H1 δ S1 → Gr ρs NoZ Hs ρ1 H1 →
    Ok1 F (pairsM l δ S1) (fun kds S' => ∀ H' ρ' ps kvs, Rel (F.blk Da) O B ρ' σ H' δ S' → Gr ρs NoZ Hs ρ' H' → toKs ps = some kvs → RpK F.K F.ca ρ' (hid (Zo (F.blk Da) B ρ') H') kvs kds → Q0 ps H') → tPairs (l.map (trD F O)) σ H1 Q0
  | [], ρ1, H1, S1, r, g, q => (q : ∀ H' ρ' ps kvs, _) H1 ρ1 [] [] r g rfl .nil
  | (a, b) :: l, ρ1, H1, S1, r, g, q => by
    unfold pairsM at q
    refine ⟨Da, B, ρ1, δ, S1, r, q.bind.noErr.imp fun d1 S2 q v1 H2 ρ2 r2 g2 z1 => ⟨Da, B, ρ2, δ, S2, r2, q.bind.noErr.imp fun d2 S3 q v2 H3 ρ3 r3 g3 z2 => ?_⟩⟩
    have z1 : Rin (F.blk Da) .fz B ρ3 H3 v1 d1 := Rin.gr (m := .fz) z1 g3
    have go : ∀ (key : Key) (w : V), (∀ ps kvs, toKs ps = some kvs → toKs ((w, v2) :: ps) = some ((key, v2) :: kvs)) → v1 = w → Ok1 F ((do let l ← pairsM l δ; pure ((key, d2) :: l) : M (List (Key × D))) S3) (fun kds S' => ∀ H' ρ' ps kvs, Rel (F.blk Da) O B ρ' σ H' δ S' → Gr ρs NoZ Hs ρ' H' → toKs ps = some kvs → RpK F.K F.ca ρ' (hid (Zo (F.blk Da) B ρ') H') kvs kds → Q0 ps H') → tPairs (l.map (trD F O)) σ H3 fun ps H3 => Q0 ((v1, v2) :: ps) H3 := fun key w hw ev q => by
      subst ev
      refine pairs_of (ρs := ρ3) (Hs := H3) l ρ3 H3 S3 r3 (Gr.refl _ _ _) (q.bind.imp fun kds S4 k H4 ρ4 ps kvs r4 g4 e4 l4 => ?_)
      exact (k : ∀ H' ρ' ps kvs, _) H4 ρ4 _ _ r4 ((g.tr (g2.tr g3)).tr g4) (hw ps kvs e4) (.cons (Rin.gr (m := .fz) z2 g4) l4)
    rcases q.bind.keyD with ⟨n, rfl, q⟩ | ⟨s, rfl, q⟩
    · cases z1.int
      exact go _ (.int n) (fun ps kvs e => by unfold toKs; rw [e]) rfl q
    · cases z1.str
      exact go _ (.str s) (fun ps kvs e => by unfold toKs; rw [e]) rfl q
theorem pd_disp {keys : List (Option Expr)} {values : List Expr} {l : List ((DEnv → M D) × (DEnv → M D))} (h : PDS X F O pos keys values l) (hall : keys.all (·.isSome) = true) (hl : keys.length = values.length) (h0 : keys ≠ []) (h15 : keys.length ≤ 15) : PED X F O .nw (.Dict keys values pos) (dispM l) :=
  pe_imp (fe_disp h hall hl h0 h15) fun σ H Q ⟨B, ρ, δ, S, r, q⟩ => fun Da H1 nD s1 h1 => by
    have re := r.enter s1 nD (Nw.live h1 fun _ z => by cases z)
    have h00 : Nw F.H0 Da := Classical.byContradiction fun z => r.gr.alive Da z (Nw.of nD)
    have g1 : Gr ρ NoZ H ρ H1 := Gr.same s1
    refine pairs_of (ρs := ρ) (Hs := H1) l ρ H1 S re (Gr.refl _ _ _) (q.bind.imp fun kds S2 k H2 ρ2 ps kvs r2 g2 e2 l2 => ?_)
    obtain ⟨hc, k⟩ := Ok1.ite k
    have hD2 : H2 Da = some (.dK []) := g2.keep Da _ (fun z => re.sta.xr Da z (.inl (.inr rfl))) (fun z => z) (fun _ z => by cases z) h1
    refine ⟨hD2, ?_⟩
    rw [e2]
    refine ⟨by rw [RpK.length l2]; exact hc, fun H3 b3 h3 => ?_⟩
    obtain ⟨r3, g3⟩ := r2.under (D := Da) (.inr rfl) h00 b3 hD2 h3 (fun _ z => by cases z) (fun _ z => by cases z)
    have see : LamX.ExtN (hid (Zo (F.blk Da) B ρ2) H2) (hid (Zo (F.blk Da) B ρ2) H3) := g3.sees (Z := fun b => (F.blk Da).Xs b ∨ Own B b) (fun c z => .inl (.inl (.inr z))) fun b h => .inl h
    have gg : Gr ρ NoZ H ρ2 H3 := (g1.tr g2).trans g3 fun c z => .inr (z ▸ Nw.of nD)
    have st3 : Sta F.K F.ca ρ2 (fun b => (F.Xs b ∨ Own B b) ∨ b = Da) H3 S2 := xs_blkE (F := F) (B := B) ▸ r3.sta
    refine (k : ∀ v H' ρ', _) (.ref Da) H3 ρ2 (r.step gg (st3.wk fun b h => .inl h)) gg ⟨Da, rfl, Nw.of nD, fun z => r3.sta.xr Da z (.inl (.inr rfl)), st3, mergeK [] kvs, h3, ?_⟩
    exact zo_blkE (F := F) ▸ RpK.merge (RpK.mono (fun _ _ e => e) see l2) .nil
theorem pkd_nil : PK X [] (dA F O m nilM) := ⟨fun pos pins s σ H Q I ⟨B, ρ, δ, S, r, q⟩ => pk_nil.run pos pins s σ H Q I ((q : ∀ v H' ρ', _) [] H ρ r (Gr.refl _ _ _) RinL.nil)⟩
theorem pk_imp {kw : List Keyword} {t t' : TA} (h : PK X kw t) (w : ∀ σ H Q, t' σ H Q → t σ H Q) : PK X kw t' := ⟨fun pos pins s σ H Q I q => h.run pos pins s σ H Q I (w σ H Q q)⟩
theorem pkd_cons {nm : Option Str} {kpos : Pos} {kws : List Keyword} {t : DEnv → M D} {u : DEnv → M (List D)} (h : PED X F O m e t) (k : PK X kws (dA F O m u)) : PK X (⟨nm, e, kpos⟩ :: kws) (dA F O m (consM t u)) :=
  pk_imp (pk_cons h k) fun σ H Q ⟨B, ρ, δ, S, r, q⟩ => ⟨B, ρ, δ, S, r, q.bind.imp fun d S' q v H' ρ' r' g z => ⟨B, ρ', δ, S', r', q.bind.imp fun ds S2 k vs H2 ρ2 r2 g2 z2 => (k : ∀ v H' ρ', _) (v :: vs) H2 ρ2 r2 (g.tr g2) (RinL.cons ((Res.rin r z).gr g2) z2)⟩⟩
def newKD (idx : List Nat) (md : List D) (len n : Nat) (f : List D → M D) (t : DEnv → M (List D)) : DEnv → M D := fun δ => do
  let ds ← t δ
  if ds.length = len then (if (pick idx (md ++ ds)).length + 1 = n then f (pick idx (md ++ ds)) else M.stuck) else M.stuck
theorem RpL.pick {ca : Str → Option Addr} {ρ : List Addr} {G : Hp} {vs : List V} {ds : List D} (h : RpL K ca ρ G vs ds) : ∀ idx : List Nat, RpL K ca ρ G (Fg.pick idx vs) (Fg.pick idx ds)
  | [] => .nil
  | i :: idx => by
    unfold Fg.pick
    rw [List.filterMap_cons, List.filterMap_cons]
    cases e : ds[i]? with
    | none =>
      have : vs[i]? = none := by rw [List.getElem?_eq_none_iff] at e ⊢; rw [RpL.length h]; exact e
      rw [this]
      exact RpL.pick h idx
    | some d =>
      obtain ⟨v, hv, hr⟩ := RpL.get h e
      rw [hv]
      exact .cons hr (RpL.pick h idx)
theorem pick_succ {α : Type} (a : α) (l : List α) : ∀ idx : List Nat, pick (idx.map (· + 1)) (a :: l) = pick idx l
  | [] => rfl
  | i :: idx => by
    unfold pick
    rw [List.map_cons, List.filterMap_cons, List.filterMap_cons]
    have := pick_succ a l idx
    unfold pick at this
    rw [this]
    rfl
theorem pd_make {C : Addr} {cn qual : Str} {st : Stmt} {kws ms : List (Str × V)} {ks : List Str} {kwe : List Keyword} {f : List D → M D} {t : DEnv → M (List D)} (idx : List Nat) (md : List D) (hca : F.ca cn = some C) (c : KMaker X.prog X.w X.K X.mg X.base k x C qual st kws ps (spI F.K F.ca F.ce cn C n f)) (hmd : ms.map (·.2) = md.map scV) (hmds : md.all scalD = true)
    (hr : Room j X.A) (hj : k + 1 ≤ j) (hg : Gl X x) (tk : Takes X fun cls d _ H => F.W cls d H) (hkw : PK X kwe (dA F O .fz t)) (hk : kws ≠ []) (hms : ∀ q ∈ ms, q ∈ kws)
    (h : ∀ (D : Addr) (doc pm : Value) (an : Option Addr) (cdv ct : Value) (us mv ws : List Value), us.length = 1 → mv.length = ms.length → ws.length = ks.length →
      KwChain D ((ms.map (·.1)).zip mv) (bindArgs (PySem.W.fnOf "__init__" qual (defArgs st) (defBody st) (defScope st) .none (.ref D) doc pm an cdv ct) ⟨us, ks.zip ws⟩) (ps.zip (pick (0 :: idx.map (· + 1)) (us ++ (mv ++ ws)))))
    (hall : (backToKw pos (keywordEach kwe X.env)).all (·.1.isSome) = true := by rfl) (hks : (backToKw pos (keywordEach kwe X.env)).filterMap (·.1) = ks := by rfl) (hdb : (x == ("__debug__" : Str)) = false := by decide)
    (hpl : ((backTo pos (starEach [] X.env)).any (·.1) || (backToKw pos (keywordEach kwe X.env)).any (·.1.isNone)) = false := by rfl) : PED X F O .nw (.Call (.Name x p) [] kwe pos) (newKD idx md ks.length n f t) :=
  pe_imp (fc_make c hr hj hg tk hkw hk hms h hall hks hdb hpl) fun σ H Q ⟨B, ρ, δ, S, r, q⟩ => ⟨B, ρ, δ, S, r, q.bind.imp fun ds S' q vs H' ρ' r' g z => by
    obtain ⟨hl, q⟩ := q.ite
    rw [ite_at] at q
    refine ⟨by rw [RinL.len z, hl], fun p dx H3 np s hp => ?_⟩
    have l1 : RinL F .fz B ρ' H' (md.map scV ++ vs) (md ++ ds) := (rinL_scal hmds).append z
    have l2 : RinL F .fz B ρ' H' (pick idx (md.map scV ++ vs)) (pick idx (md ++ ds)) := RpL.pick l1 idx
    have e : pick (0 :: idx.map (· + 1)) ([V.ref p] ++ (ms.map (·.2) ++ vs)) = .ref p :: pick idx (md.map scV ++ vs) := by
      rw [hmd]
      exact congrArg (V.ref p :: ·) (pick_succ (V.ref p) (md.map scV ++ vs) idx)
    show spI _ _ _ _ _ _ _ (pick (0 :: idx.map (· + 1)) ([V.ref p] ++ (ms.map (·.2) ++ vs))) H3 _ _
    rw [e]
    exact spI_at hca r' l2 np s hp (q.imp fun d S2 k v H2 ρ2 r2 g2 z2 => k v H2 ρ2 r2 (g.tr g2) (Res.gr2 g z2))⟩
end
end Fg
namespace Fg
open PySem PySem.Spec PyProof.Rows L2
variable [TQ]
/-- how it ends: given, or an error among hs (with the field that is read of it) -/
def endR (hs : List (Str × Str)) : Option (Except Ex D × Sto) → Option (Except Ex D × Sto)
  | some (.ok d, S) => some (.ok (.lst [.str "given", d]), S)
  | some (.error e, S) => match hs.lookup e.c, e.fs with
    | some f, [(g, d)] => if g = f then some (.ok (.lst [.str e.c, d, .bl true]), S) else none
    | _, _ => none
  | none => none
def endM (hs : List (Str × Str)) (O : List Nat) (t : DEnv → M D) : DEnv → M D := fun δ S => endR hs (t (wipeD δ O) S)
/-- how a call ends, as told to the def that catches -/
def TEndD (ce : Str → Option Addr) (hs : List (Str × Str)) : (XK → Hp → VK → Prop) → Hp → VK → Prop := fun tl H Q =>
  tl (fun cls d H' => ∃ c f C dd v, hs.lookup c = some f ∧ ce c = some C ∧ cls = .ref C ∧ d = some dd ∧ H' dd = some (.xd [(f, v)]) ∧ ∀ p H2, H' p = none → Same H' H2 → H2 p = some (.lst [.str c, v, .bl true]) → Q (.ref p) H2) H
    (fun v H1 => ([.str "given", v] : List V).length ≤ sizeLine ∧ ∀ p H2, H1 p = none → Same H1 H2 → H2 p = some (.lst [.str "given", v]) → Q (.ref p) H2)
section
variable {F : Fr} {O : List Nat} {B : Nat → Option Addr} {ρ ρ' : List Addr} {σ : L2.St} {H H' : Hp} {δ : DEnv} {S S' : Sto}
theorem Gr.lam {P : Addr} {q : Str} (hQ : ∀ P' q', TQ.q P' q' → P' = P ∧ q' = q) (e : LamX.ExtN H H') (t : LamX.TabS H' P q) : Gr ρ NoZ H ρ H' :=
  ⟨⟨[], by simp, fun b hb => (by cases hb)⟩, fun b o _ _ n h => e b o h n, fun b h n => h fun o eo => Classical.byContradiction fun z => by
    obtain ⟨ps, w⟩ := n o (e b o eo fun ps w => z ⟨ps, w⟩)
    exact z ⟨ps, w⟩, fun P' q' hq _ => by
    obtain ⟨rfl, rfl⟩ := hQ P' q' hq
    exact t⟩
theorem Sta.lam {Z : Addr → Prop} {K : PySem.W.Frag} {ca : Str → Option Addr} (s : Sta K ca ρ Z H S) (g : Gr ρ NoZ H ρ H') (e : LamX.ExtN H H') : Sta K ca ρ Z H' S :=
  ⟨fun b z => g.alive b (s.live b z), s.nd, s.xr, SrL.mono (fun _ _ e => e) (g.sees (fun _ z => z.elim) fun b h => .inl h) (fun _ _ o ht h => e _ o h ht) s.sto⟩
theorem wipeD_len (δ : DEnv) : ∀ vs, (wipeD δ vs).length = δ.length
  | [] => rfl
  | v :: vs => by show ((wipeD δ vs).set v none).length = _; rw [List.length_set, wipeD_len δ vs]
theorem wipeD_at {δ : DEnv} {i : Nat} {d : D} : ∀ {vs : List Nat}, (wipeD δ vs)[i]? = some (some d) → i ∉ vs ∧ δ[i]? = some (some d)
  | [], h => ⟨by simp, h⟩
  | v :: vs, h => by
    have h : ((wipeD δ vs).set v none)[i]? = some (some d) := h
    by_cases z : v = i
    · subst z
      rw [List.getElem?_set] at h
      simp at h
    · rw [List.getElem?_set_ne z] at h
      obtain ⟨h1, h2⟩ := wipeD_at h
      exact ⟨fun w => (List.mem_cons.mp w).elim (fun w => z w.symm) h1, h2⟩
theorem endR_err {hs : List (Str × Str)} {e : Ex} {P : D → Sto → Prop} (h : Ok1 F (endR hs (some (.error e, S))) P) : ∃ f d, hs.lookup e.c = some f ∧ e.fs = [(f, d)] ∧ P (.lst [.str e.c, d, .bl true]) S := by
  unfold endR at h
  dsimp only at h
  split at h
  · rename_i f g d hl hf
    split at h
    · rename_i hg
      subst hg
      exact ⟨_, d, hl, hf, h⟩
    · exact (show False from h).elim
  · exact (show False from h).elim
theorem endR_ok {hs : List (Str × Str)} {d : D} {P : D → Sto → Prop} (h : Ok1 F (endR hs (some (.ok d, S))) P) : P (.lst [.str "given", d]) S := h
/-- the frame of the lambda's body -/
def Fr.lam (F : Fr) (B : Nat → Option Addr) (ρ : List Addr) (H : Hp) (E : XK) : Fr := ⟨F.K, F.ca, F.ce, H, fun b => F.Xs b ∨ Own B b, ρ, E, none⟩
theorem xs_lam {F : Fr} {E : XK} : (fun b => (F.lam B ρ H E).Xs b ∨ Own (fun _ => none) b) = fun b => F.Xs b ∨ Own B b := funext fun b => propext ⟨fun h => h.elim id fun ⟨_, e⟩ => (by cases e), .inl⟩
theorem zo_lam {F : Fr} {E : XK} {ρ1 : List Addr} : Zo (F.lam B ρ H E) (fun _ => none) ρ1 = Zo F B ρ1 := funext fun b => propext ⟨fun h => h.elim (fun h => h.elim .inl fun ⟨_, e⟩ => (by cases e)) .inr, fun h => h.elim (fun h => .inl (.inl h)) .inr⟩
theorem Rel.lam (r : Rel F O B ρ σ H δ S) {E : XK} : Rel (F.lam B ρ H E) [] (fun _ => none) ρ σ H (wipeD δ O) S := by
  refine ⟨Gr.refl _ _ _, by rw [xs_lam]; exact r.sta, fun b ⟨_, e⟩ => (by cases e), fun b ⟨_, e⟩ => (by cases e), fun i j b e _ => (by cases e), fun i => ⟨fun ⟨_, e⟩ => (by cases e), fun e => (by cases e)⟩, fun i a e => (by cases e), fun p e => (by cases e), by rw [wipeD_len]; exact r.len, fun i d e => ?_⟩
  obtain ⟨h1, h2⟩ := wipeD_at e
  have q := r.slot i d h2
  unfold SlAt at q ⊢
  rw [r.notO h1] at q
  obtain ⟨v, e1, e2⟩ := q
  exact ⟨v, e1, by rw [zo_lam]; exact e2⟩
end
section
variable {X : Cx} {F : Fr} {O O' O1 O2 OL : List Nat} {m mi : Md} {pos pos' : Pos} {i j k kk : Nat}
/-- the body's reading, for any frame -/
def tBody (K : PySem.W.Frag) (ca ce : Str → Option Addr) (tb : DEnv → M D) (E : XK) : TE := fun σ H Q => ∃ F1 : Fr, (∃ H0 Xs R0, F1 = ⟨K, ca, ce, H0, Xs, R0, E, none⟩) ∧ dE F1 [] .tr tb σ H Q
theorem pd_lam {hs : List (Str × Str)} {x a : Str} {st : Stmt} {c Pt : Addr} {Ng : List Str} {params : Arguments} {body : Expr} {scope : Scope} {ca ce : Str → Option Addr} {tb : DEnv → M D} {p lpos pos : Pos} {qn : Str} (hqn : qn = X.env.qual ++ "<lambda>")
    (hK : F.K = X.K) (hca : F.ca = ca) (hce : F.ce = ce) (hQ : ∀ P' q', TQ.q P' q' ↔ P' = Pt ∧ q' = qn) (h0 : LamX.TabS F.H0 Pt qn)
    (FA : FunAt X.K X.mg x st) (Sg : FnScope Ng [a] (defScope st)) (hNg : Ng[0]? = some a)
    (hb : ∀ (kV doc pm : Value) (an : Option Addr) (cdv ct : Value) (us : List Value), us.length = ([a] : List Str).length → bindArgs (PySem.W.fnOf x x (defArgs st) (defBody st) (defScope st) .none kV doc pm an cdv ct) ⟨us, []⟩ = pure (([a] : List Str).zip us))
    (hG : ∀ g cdv, LamX.GivesTo X Ng x (defScope st) g cdv (defBody st) a (X.env.qual ++ "<lambda>") (TEndD ce hs)) (TB : LamX.TabB X.base X.mg c Pt) (hcode : X.env.code = .ref c)
    (hr : Room j X.A) (hj : k + 2 ≤ j) (hg : Gl X x) (L : LamX.LamS X.env.scope scope) (hva : Vis (defScope st) a) (hdef : defaultsOf params X.env = ([], []))
    (hbind : ∀ (q : Str) (cl : List (Str × Addr)) (pm cv ctv : Value), bindArgs (PySem.W.kla_fn "<lambda>" q params body scope cl pm cv ctv) ⟨[], []⟩ = pure [])
    (hbody : ∀ (A : Around) (outer : List Env) (s : Shared) (H : Hp) (E : XK) (f c' : Addr) (H0 : Hp) (Xs : Addr → Prop) (R0 : List Addr), Room k (LamX.lamCx X A outer s H E scope f c').A → Takes (LamX.lamCx X A outer s H E scope f c') (fun cls d _ H => E cls d H) →
      PED (LamX.lamCx X A outer s H E scope f c') ⟨X.K, ca, ce, H0, Xs, R0, E, none⟩ [] .tr body tb)
    (hdb : (x == ("__debug__" : Str)) = false := by decide) (hd : (a == ("__debug__" : Str)) = false := by decide) (hcd : (a == ("__classdict__" : Str)) = false := by decide) :
    PED X F O .fz (.Call (.Name x p) [.Lambda params body scope lpos] [] pos) (endM hs O tb) := by
  subst hqn hca hce
  obtain ⟨f0, fd, Fu, hm⟩ := FA.ex
  have hbd := Fu.binds hb
  obtain ⟨oc, od, kV, doc, pm, an, cdv, ct, osl, rfl, lk, hcode2⟩ := Fu.ex
  refine pe_imp (LamX.pe_lamcall (T := [(Pt, X.env.qual ++ "<lambda>")]) (k := k) (t := tBody X.K F.ca F.ce tb) hg hm Fu.kp lk hcode2 hbd Sg hNg hva (hG f0 cdv) TB hcode (List.mem_singleton.mpr rfl) (fun q hq _ => by rw [List.mem_singleton.mp hq]) (hr.mono hj) L hdef hbind
    (fun A outer s H E f' c' r => ⟨fun pins s' σ H' Q I ⟨F1, ⟨H0, Xs, R0, e⟩, q⟩ => by subst e; exact (hbody A outer s H E f' c' H0 Xs R0 r (takes_of rfl rfl rfl rfl)).run pins s' σ H' Q I q⟩) hdb hd hcd) fun σ H Q ⟨B, ρ, δ, S, r, q⟩ => ?_
  have hQ1 : ∀ P' q', TQ.q P' q' → P' = Pt ∧ q' = X.env.qual ++ "<lambda>" := fun P' q' h => (hQ P' q').mp h
  have t0 : LamX.TabS H Pt (X.env.qual ++ "<lambda>") := r.gr.tabs _ _ ((hQ _ _).mpr ⟨rfl, rfl⟩) h0
  refine ⟨fun p hp => by rw [List.mem_singleton.mp hp]; exact t0, fun H1 e1 T1 => ?_⟩
  have g1 : Gr ρ NoZ H ρ H1 := Gr.lam hQ1 e1 (T1 _ (List.mem_singleton.mpr rfl))
  have r1 := r.step g1 (r.sta.lam g1 e1)
  refine ⟨F.lam B ρ H1 _, ⟨_, _, _, by unfold Fr.lam; rw [hK]⟩, fun _ => none, ρ, wipeD δ O, S, r1.lam, ?_⟩
  have q : Ok1 F (endR hs (tb (wipeD δ O) S)) _ := q
  cases et : tb (wipeD δ O) S with
  | none => rw [et] at q; exact q
  | some pr =>
    rw [et] at q
    obtain ⟨res, S'⟩ := pr
    cases res with
    | error e =>
      intro cls dd H2 ρ2 en er
      obtain ⟨C, e1, e2, e3⟩ := er
      obtain ⟨f, d, hl, hf, q⟩ := endR_err q
      rw [hf] at e3
      obtain ⟨_, x0, vs, e3, e4, e5⟩ := e3.resolve_left fun z => by cases z.1
      cases e5 with
      | cons hv tl =>
        cases tl
        refine ⟨e.c, _, C, x0, _, hl, e2, e1, e3, e4, fun p H3 np s3 h3 => ?_⟩
        have st2 : Sta F.K F.ca ρ2 (fun b => F.Xs b ∨ Own B b) H2 S' := en.sta
        have r2 := r1.step en.gr st2
        exact (q : ∀ v H' ρ', _) _ H3 ρ2 (r2.same s3) ((g1.tr en.gr).tr (Gr.same s3)) (lst_new (m := .fz) r2 np s3 h3 (by decide) (.cons (v := V.str e.c) (d := .str e.c) Rp.str (.cons hv (.cons (v := V.bl true) (d := .bl true) Rp.bl RinL.nil))))
    | ok d =>
      have q := endR_ok q
      intro v H2 ρ2 r2 g2 z2
      refine ⟨by show 2 ≤ sizeLine; decide, fun p H3 np s3 h3 => ?_⟩
      have st2 : Sta F.K F.ca ρ2 (fun b => F.Xs b ∨ Own B b) H2 S' := xs_lam (F := F) (B := B) (ρ := ρ) (H := H1) ▸ r2.sta
      have r2 := r1.step g2 st2
      exact (q : ∀ v H' ρ', _) _ H3 ρ2 (r2.same s3) ((g1.tr g2).tr (Gr.same s3)) (lst_new (m := .fz) r2 np s3 h3 (by decide) (.cons (v := V.str "given") (d := .str "given") Rp.str (.cons z2 RinL.nil)))
end
end Fg
namespace Fg
open PySem PySem.Spec PyProof.Rows L2
variable [TQ]
section
variable {F : Fr} {O : List Nat} {B : Nat → Option Addr} {ρ : List Addr} {σ : L2.St} {H H' H1 : Hp} {δ : DEnv} {S S' S1 : Sto} {n : Nat}
theorem spD_noE {f : List D → M D} {vs : List V} {ds : List D} {Q : VK} {E : XK} (r : Rel F O B ρ σ H1 δ S1) (z : RinL F .fz B ρ H1 vs ds) (hl : ds.length = n)
    (q : Ok1 F (noErr (f ds) S1) fun d S' => ∀ v H' ρ', Rel F O B ρ' σ H' δ S' → Gr ρ NoZ H1 ρ' H' → Res F .fz B ρ' H1 H' S' v d → Q v H') : spD F.K F.ca F.ce n f vs H1 Q E :=
  ⟨fun b => F.Xs b ∨ Own B b, ρ, ds, S1, hl, r.sta, z, (q.noErr (F' := ⟨F.K, F.ca, F.ce, H1, fun b => F.Xs b ∨ Own B b, ρ, E, none⟩)).imp fun d S' k v H' ρ' en hr => k v H' ρ' (r.step en.gr en.sta) en.gr hr⟩
end
section
variable {X : Cx} {F : Fr} {O O' O1 O2 OL : List Nat} {m mi : Md} {pos pos' p : Pos} {i j k kk : Nat} {a b e : Expr} {ps psA psR : List Str}
def isO (c : Str) : D → Bool
  | .obj c' _ => decide (c' = c)
  | _ => false
def isMt : D → Bool
  | .mt _ => true
  | _ => false
theorem isO_obj {c : Str} {d : D} (h : isO c d = true) : ∃ fs, d = .obj c fs := by
  cases d <;> first | exact absurd h Bool.false_ne_true | skip
  rename_i c' fs
  exact ⟨fs, by rw [show c' = c from of_decide_eq_true h]⟩
end
section
variable {P : Program} {w : World} {K : PySem.W.Frag} {mg : Str → Option Value} {base : Heap} {ca ce : Str → Option Addr}
/-- the promise of a def with a lambda in it: its table is known -/
def spT (K : PySem.W.Frag) (ca ce : Str → Option Addr) (Pt : Addr) (qn : Str) (m : Nat) (f : List D → M D) : Sp := fun vs H Q E => LamX.TabS H Pt qn ∧ spD K ca ce m f vs H Q E
theorem calleeT_of {x : Str} {st : Stmt} {N ps : List Str} {k n m : Nat} {c Pt : Addr} {qn : Str} {b : DEnv → M (DEnv × Fl)} (F : FunC K mg x st c) (S : FnScope N ps (defScope st)) (hn : N.length = n := by rfl) (hm : ps.length = m := by rfl)
    (hb : ∀ (kV doc pm : Value) (an : Option Addr) (cdv ct : Value) (us : List Value), us.length = ps.length → bindArgs (PySem.W.fnOf x x (defArgs st) (defBody st) (defScope st) .none kV doc pm an cdv ct) ⟨us, []⟩ = pure (ps.zip us))
    (hbody : ∀ (f : Addr) (A : Around) (outer : List Env) (s : Shared) (H : Hp) (Xs : Addr → Prop) (ρ : List Addr) (E : XK), LamX.TabS H Pt qn → Room k (cxOf (L2.CX P w) P w K mg base N x (defScope st) f (.ref c) A outer s H E).A →
      Takes (cxOf (L2.CX P w) P w K mg base N x (defScope st) f (.ref c) A outer s H E) (fun cls d _ H => E cls d H) →
      PassesOwn (model P w) (cxOf (L2.CX P w) P w K mg base N x (defScope st) f (.ref c) A outer s H E).A (cxOf (L2.CX P w) P w K mg base N x (defScope st) f (.ref c) A outer s H E).env (cxOf (L2.CX P w) P w K mg base N x (defScope st) f (.ref c) A outer s H E).xe →
      PSsD (cxOf (L2.CX P w) P w K mg base N x (defScope st) f (.ref c) A outer s H E) ⟨K, ca, ce, H, Xs, ρ, E, none⟩ [] [] [] (defBody st) b) :
    Callee P w K mg base (k + 1) x ps (spT K ca ce Pt qn m (runD n b)) := by
  obtain ⟨f, oc, od, kV, doc, pm, an, ct, osl, lk, hcd, kp, hm2⟩ := F.ex
  have F' : Fun K x x st f (PySem.W.fnOf x x (defArgs st) (defBody st) (defScope st) .none kV doc pm an (.ref c) ct) := fun_mk lk hcd kp
  refine ⟨f, _, fn_of lk hcd S (fun vs H Q E h => by rw [spD_len h.2, hm]) fun A outer s H vs Q E hr h => ?_, hm2, kp, F'.binds hb⟩
  obtain ⟨t0, Xs, ρ, ds, S0, hl, st0, p, q⟩ := h
  exact ⟨_, hbody f A outer s H Xs ρ E t0 hr (takes_of rfl rfl rfl rfl) (passes_of rfl), body_of (F := ⟨K, ca, ce, H, Xs, ρ, E, none⟩) hn st0 p q fun _ _ h => h⟩
end
end Fg
namespace Fg
open PySem PySem.Spec PyProof.Rows L2
def W {α : Type} (m : M α) (S : Sto) (P : α → Sto → Prop) : Prop := ∃ a S', m S = some (.ok a, S') ∧ P a S'
section
variable {α β : Type} {m : M α} {f : α → M β} {S : Sto} {P Q : α → Sto → Prop} {R : β → Sto → Prop}
theorem W.bind (h : W m S fun a S' => W (f a) S' R) : W (m >>= f) S R := by
  obtain ⟨a, S', e, b, S2, e2, p⟩ := h
  exact ⟨b, S2, by rw [M.bind_ok e]; exact e2, p⟩
theorem W.pure {a : α} (h : P a S) : W (pure a : M α) S P := ⟨a, S, rfl, h⟩
theorem W.imp (h : W m S P) (k : ∀ a S', P a S' → Q a S') : W m S Q := by
  obtain ⟨a, S', e, p⟩ := h
  exact ⟨a, S', e, k _ _ p⟩
theorem W.eq {a : α} {S' : Sto} (e : m S = some (.ok a, S')) (h : P a S') : W m S P := ⟨a, S', e, h⟩
theorem W.ite {c : Prop} [Decidable c] {x y : M α} (hc : c) (h : W x S P) : W (if c then x else y) S P := by rw [if_pos hc]; exact h
theorem W.opt {o : Option α} {a : α} (e : o = some a) (h : P a S) : W (M.opt o) S P := by subst e; exact ⟨a, S, rfl, h⟩
end
section
variable {S : Sto} {δ : DEnv} {P : D → Sto → Prop} {PL : List D → Sto → Prop} {PB : Bool → Sto → Prop} {PS : DEnv × Fl → Sto → Prop} {PE : DEnv → Sto → Prop} {t u ta tb : DEnv → M D} {tl ul : DEnv → M (List D)} {tt : DEnv → M Bool} {b c : DEnv → M (DEnv × Fl)} {i j n : Nat} {ds : List D} {d : D}
theorem W.run (h : W (b (startD n ds)) S fun p S' => match p.2 with | .rt d => P d S' | .nx => P .non S' | _ => False) : W (runD n b ds) S P := by
  unfold runD
  refine W.bind (h.imp fun p S' q => ?_)
  obtain ⟨δ', fl⟩ := p
  cases fl with
  | rt d => exact W.pure q
  | nx => exact W.pure q
  | bk => exact q.elim
  | ct => exact q.elim
theorem W.seq (h : W (b δ) S fun p S' => match p.2 with | .nx => W (c p.1) S' PS | _ => PS p S') : W (seqS b c δ) S PS := by
  unfold seqS
  refine W.bind (h.imp fun p S' q => ?_)
  obtain ⟨δ', fl⟩ := p
  cases fl with
  | rt d => exact W.pure q
  | nx => exact q
  | bk => exact W.pure q
  | ct => exact W.pure q
theorem W.set (h : W (t δ) S fun d S' => PS (δ.set i (some d), .nx) S') : W (setS i t δ) S PS := W.bind (h.imp fun _ _ q => W.pure q)
theorem W.ret (h : W (t δ) S fun d S' => PS (δ, .rt d) S') : W (retS t δ) S PS := W.bind (h.imp fun _ _ q => W.pure q)
theorem W.ifs (h : W (tt δ) S fun x S' => if x = true then W (b δ) S' PS else W (c δ) S' PS) : W (ifS tt b c δ) S PS := W.bind (h.imp fun x S' q => by split <;> rename_i e <;> simpa [e] using q)
theorem W.ife (h : W (tt δ) S fun x S' => if x = true then W (t δ) S' P else W (u δ) S' P) : W (ifE tt t u δ) S P := W.bind (h.imp fun x S' q => by split <;> rename_i e <;> simpa [e] using q)
theorem W.skip (h : PS (δ, .nx) S) : W (skipS δ) S PS := W.pure h
theorem W.rdd (e : δ[i]?.join = some d) (h : P d S) : W (rd i δ) S P := W.opt e h
theorem W.cst (h : P d S) : W (cM d δ) S P := W.pure h
theorem W.bin {f : D → D → M D} (h : W (ta δ) S fun x S1 => W (tb δ) S1 fun y S2 => W (f x y) S2 P) : W (binM f ta tb δ) S P := W.bind (h.imp fun _ _ q => W.bind q)
theorem W.one {α : Type} {Pa : α → Sto → Prop} {g : D → M α} (h : W (t δ) S fun x S1 => W (g x) S1 Pa) : W (oneM g t δ) S Pa := W.bind h
theorem W.callm {α : Type} {Pa : α → Sto → Prop} {g : List D → M α} (h : W (tl δ) S fun x S1 => W (g x) S1 Pa) : W (callM g tl δ) S Pa := W.bind h
theorem W.call {f : List D → M D} (h : W (tl δ) S fun x S1 => x.length = n ∧ W (f x) S1 P) : W (callD n f tl δ) S P := W.bind (h.imp fun _ _ q => W.ite q.1 q.2)
theorem W.cons (h : W (t δ) S fun x S1 => W (tl δ) S1 fun r S2 => PL (x :: r) S2) : W (consM t tl δ) S PL := W.bind (h.imp fun _ _ q => W.bind (q.imp fun _ _ q => W.pure q))
theorem W.nil (h : PL [] S) : W (nilM δ) S PL := W.pure h
theorem W.cap (hl : ds.length ≤ sizeLine) {Pu : Unit → Sto → Prop} (h : Pu () S) : W (capL ds) S Pu := by unfold capL; exact W.ite hl (W.pure h)
theorem W.lst (h : W (tl δ) S fun x S1 => x.length ≤ sizeLine ∧ P (.lst x) S1) : W (lstM tl δ) S P := W.bind (h.imp fun _ _ q => W.bind (W.cap q.1 (W.pure q.2)))
theorem W.tup (h : W (tl δ) S fun x S1 => x.length ≤ sizeLine ∧ P (.tup x) S1) : W (tupM tl δ) S P := W.bind (h.imp fun _ _ q => W.bind (W.cap q.1 (W.pure q.2)))
theorem W.tv (h : W (t δ) S fun x S1 => W (tbD x) S1 PB) : W (tvM t δ) S PB := W.bind h
theorem W.asg {g : D → DEnv → M DEnv} (h : W (t δ) S fun x S1 => W (g x δ) S1 fun δ' S2 => PS (δ', .nx) S2) : W (asgS t g δ) S PS := W.bind (h.imp fun _ _ q => W.bind (q.imp fun _ _ q => W.pure q))
theorem W.ndd {m k : Nat} {dd : List D} {f : List D → M D} (h : W (tl δ) S fun x S1 => x.length = m ∧ (x ++ dd.drop i).length + 1 = n ∧ W (f (x ++ dd.drop i)) S1 P) : W (newDD m i dd n f tl δ) S P := W.bind (h.imp fun _ _ q => W.ite q.1 (W.ite q.2.1 q.2.2))
theorem W.nkd {idx : List Nat} {md : List D} {l : Nat} {f : List D → M D} (h : W (tl δ) S fun x S1 => x.length = l ∧ (pick idx (md ++ x)).length + 1 = n ∧ W (f (pick idx (md ++ x))) S1 P) : W (newKD idx md l n f tl δ) S P := W.bind (h.imp fun _ _ q => W.ite q.1 (W.ite q.2.1 q.2.2))
theorem W.tgd {k : DEnv → M D} {v : D} {kvs : List (Key × D)} (e : δ[i]?.join = some (.dct kvs)) (h : W (k δ) S fun y S' => W (keyD y) S' fun key S2 => kvs.length < sizeLine ∧ PE (δ.set i (some (.dct (putKD kvs key v)))) S2) : W (tgD i k v δ) S PE := by
  unfold tgD
  refine W.bind (W.rdd e (W.bind (W.pure (W.bind (h.imp fun y S' q => W.bind (q.imp fun key S2 q => W.ite q.1 (W.pure q.2)))))))
theorem W.mput {k : Nat} (ht : W (t δ) S fun v S1 => δ[i]?.join = some (.mt k) ∧ W (u δ) S1 fun y S2 => ∃ n j ds, y = .int n ∧ S2[k]? = some (.lst ds) ∧ ixN ds.length n = some j ∧ PS (δ, .nx) (S2.set k (.lst (ds.set j v)))) : W (mputS i u t δ) S PS := by
  unfold mputS
  refine W.bind (ht.imp fun v S1 ⟨e1, q⟩ => W.bind (W.rdd e1 (W.bind (q.imp fun y S2 ⟨n, j, ds, ey, e2, e3, q⟩ => ?_))))
  subst ey
  refine W.bind (W.eq (a := ds) (S' := S2) (by show (match S2[k]? with | some (.lst ds) => some (Except.ok ds, S2) | _ => none) = _; rw [e2]) ?_)
  exact W.bind (W.opt e3 (W.bind (W.eq rfl (W.pure q))))
theorem W.ixm {k : Nat} {ds : List D} {z : Int} (e : S[k]? = some (.lst ds)) (ea : atI ds z = some d) (h : P d S) : W (ixMD (.mt k) (.int z)) S P := by
  unfold ixMD
  exact W.bind (W.eq (a := ds) (S' := S) (by show (match S[k]? with | some (.lst ds) => some (Except.ok ds, S) | _ => none) = _; rw [e]) (W.opt ea h))
theorem W.gt {a b : Int} (h : P (.bl (decide (b < a))) S) : W (gtD (.int a) (.int b)) S P := W.pure h
theorem W.add {a b : Int} (h : P (.int (a + b)) S) : W (addD (.int a) (.int b)) S P := W.pure h
theorem W.mul {a b : Int} (hc : CM a b) (h : P (.int (a * b)) S) : W (mulD (.int a) (.int b)) S P := W.ite hc (W.pure h)
theorem W.mod {a b : Int} (hb : 0 < b) (h : P (.int (a % b)) S) : W (modD (.int a) (.int b)) S P := W.ite hb (W.pure h)
theorem W.fdiv {a b : Int} (hb : CDv a b) (h : P (.int (a / b)) S) : W (fdivD (.int a) (.int b)) S P := W.ite hb (W.pure h)
theorem cm_r {a b : Int} (h1 : -(2 ^ 64) < b) (h2 : b < 2 ^ 64) : CM a b := .inr (.inl ⟨h1, h2⟩)
theorem cdv_r {a b : Int} (h1 : 0 < b) (h2 : b < 10 ^ 60) : CDv a b := ⟨h1, h2⟩
theorem W.intd {a : Int} (h : P (.int a) S) : W (intD [.int a]) S P := W.pure h
theorem W.eqI {a b : Int} (h : P (.bl (decide (a = b))) S) : W (eqD (.int a) (.int b)) S P := W.pure h
theorem W.lenL (h : P (.int ds.length) S) : W (lenD [.lst ds]) S P := W.pure h
theorem W.tbd {x : Bool} (h : PB x S) : W (tbD (.bl x)) S PB := W.pure h
theorem W.ifd {c : Prop} [Decidable c] {A B : Prop} (h1 : c → A) (h2 : ¬ c → B) : if decide c = true then A else B := by
  by_cases hc : c
  · rw [if_pos (decide_eq_true hc)]; exact h1 hc
  · rw [if_neg (by simpa using hc)]; exact h2 hc
theorem W.fors {g : D → DEnv → M DEnv} (h : W (tl δ) S fun xs S1 => W (forL g b xs δ) S1 PS) : W (forS tl g b δ) S PS := W.bind h
theorem W.forn {g : D → DEnv → M DEnv} (h : PS (δ, .nx) S) : W (forL g b [] δ) S PS := W.pure h
theorem W.forc {g : D → DEnv → M DEnv} {x : D} {r : List D} (h : W (g x δ) S fun δ1 S1 => W (b δ1) S1 fun p S2 => match p.2 with | .nx => W (forL g b r p.1) S2 PS | .ct => W (forL g b r p.1) S2 PS | .bk => PS (p.1, .nx) S2 | .rt d => PS (p.1, .rt d) S2) : W (forL g b (x :: r) δ) S PS := by
  unfold forL
  refine W.bind (h.imp fun δ1 S1 q => W.bind (q.imp fun p S2 q => ?_))
  obtain ⟨δ', fl⟩ := p
  cases fl with
  | rt d => exact W.pure q
  | nx => exact q
  | bk => exact W.pure q
  | ct => exact q
theorem W.zip (h : W (tl δ) S fun ds S1 => ∃ x y xs ys, ds = [x, y] ∧ itD x = some xs ∧ itD y = some ys ∧ xs.length = ys.length ∧ PL (pairsD (xs.zip ys)) S1) : W (zipM2 tl δ) S PL := by
  unfold zipM2
  refine W.bind (h.imp fun ds S1 ⟨x, y, xs, ys, e, e1, e2, e3, q⟩ => ?_)
  subst e
  dsimp only
  rw [e1, e2]
  exact W.ite e3 (W.pure q)
theorem W.tgn {x : D} (h : PE (δ.set i (some x)) S) : W (tgN i x δ) S PE := W.pure h
theorem W.tgt2 {x y : D} {g1 g2 : D → DEnv → M DEnv} (h : W (g1 x δ) S fun δ1 S1 => W (g2 y δ1) S1 PE) : W (tgT [g1, g2] (.tup [x, y]) δ) S PE := W.bind (h.imp fun _ _ q => W.bind (q.imp fun _ _ q => W.pure q))
theorem W.app (e : δ[i]?.join = some (.lst ds)) (h : W (t δ) S fun d S1 => ds.length < sizeLine ∧ PS (δ.set i (some (.lst (ds ++ [d]))), .nx) S1) : W (appS i t δ) S PS := by
  unfold appS
  exact W.bind (W.rdd e (W.bind (W.pure (W.bind (h.imp fun _ _ q => W.ite q.1 (W.pure q.2))))))
theorem W.fld {c f : Str} (h : W (t δ) S fun v S1 => ∃ fs, δ[i]?.join = some (.obj c fs) ∧ fs.length < 1000 ∧ PS (δ.set i (some (.obj c (putD f v fs))), .nx) S1) : W (fldS i c f t δ) S PS := by
  unfold fldS
  exact W.bind (h.imp fun _ _ ⟨fs, e, e2, q⟩ => W.bind (W.rdd e (W.bind (W.ite rfl (W.pure (W.ite e2 (W.pure q)))))))
theorem W.notm (h : W (tt δ) S fun x S1 => PB (!x) S1) : W (notM tt δ) S PB := W.bind (h.imp fun _ _ q => W.pure q)
theorem W.strm {f : D → D → M D} (h : W (t δ) S fun x S1 => ∃ z, x = .str z ∧ W (u δ) S1 fun y S2 => W (f (.str z) y) S2 P) : W (strM f t u δ) S P := by
  unfold strM
  refine W.bind (h.imp fun x S1 ⟨z, e, q⟩ => ?_)
  subst e
  exact W.bind q
theorem W.fmt (h : W (t δ) S fun d S1 => W (fmtD d) S1 fun x S2 => P (.str x) S2) : W (fmtM t δ) S P := W.bind (h.imp fun _ _ q => W.bind (q.imp fun _ _ q => W.pure q))
theorem W.runi {c : Str} (h : W (b (startD n (.obj c [] :: ds))) S fun p S' => p.2 = .nx ∧ ∃ d, p.1[0]?.join = some d ∧ P d S') : W (runI c n b ds) S P := by
  unfold runI
  refine W.bind (h.imp fun p S' ⟨e, d, e2, q⟩ => ?_)
  rw [e]
  exact W.opt e2 q
theorem W.ife_t (e : tt δ S = some (.ok true, S)) (h : W (t δ) S P) : W (ifE tt t u δ) S P := W.ife (W.eq e (by rw [if_pos rfl]; exact h))
theorem W.ife_f (e : tt δ S = some (.ok false, S)) (h : W (u δ) S P) : W (ifE tt t u δ) S P := W.ife (W.eq e (by rw [if_neg Bool.false_ne_true]; exact h))
theorem W.ifs_f (e : tt δ S = some (.ok false, S)) (h : W (c δ) S PS) : W (ifS tt b c δ) S PS := W.ifs (W.eq e (by rw [if_neg Bool.false_ne_true]; exact h))
theorem W.noErr {α : Type} {m : M α} {Q : α → Sto → Prop} (h : W m S Q) : W (noErr m) S Q := by
  obtain ⟨a, S', e, q⟩ := h
  exact ⟨a, S', by unfold Fg.noErr; rw [e], q⟩
theorem W.disp1 (h : W (ta δ) S fun x S1 => W (tb δ) S1 fun y S2 => W (keyD x) S2 fun k S3 => P (.dct [(k, y)]) S3) : W (dispM [(ta, tb)] δ) S P := by
  unfold dispM pairsM pairsM
  refine W.bind (W.bind ((h.imp fun x S1 q => ?_).noErr))
  refine W.bind ((q.imp fun y S2 q => ?_).noErr)
  refine W.bind (q.imp fun k S3 q => ?_)
  exact W.bind (W.pure (W.pure (W.ite (show 1 ≤ 15 from by decide) (W.pure q))))
theorem W.ixs {z : Str} {n : Int} {c : Nat} (hz : z.length ≤ sizeLine) (e : atI z.cps.toList n = some c) (h : P (.str ⟨#[c]⟩) S) : W (ixD (.str z) (.int n)) S P := W.ite hz (W.bind (W.opt e (W.pure h)))
theorem W.keys {x : Str} {PK : Key → Sto → Prop} (h : PK (.inr x) S) : W (keyD (.str x)) S PK := W.pure h
theorem W.join {a : Str} {ys : List Str} (hs : strsD ds = some ys) (hj : joinOk a ys) (h : P (.str (Txt.join a ys)) S) : W (joinD (.str a) (.lst ds)) S P := W.bind (W.opt hs (W.ite hj (W.pure h)))
theorem all_eq {α β : Type} {l : List α} {f g : α → β} (h : l.map f = l.map g) : ∀ x ∈ l, f x = g x := by
  intro x hx
  exact (List.map_inj_left.mp h) x hx
end
def PotS (S : Sto) : Prop := ∃ i j : Int, S = [.lst [.int i, .int j]]
end Fg
namespace Fg
open PySem PySem.Spec PyProof.Rows L2
/-- no repr is under way around -/
abbrev NoG (A : Around) : Prop := A.guards = some []
theorem nog_deeper {A : Around} (h : NoG A) (env : Env) : NoG (A.deeper env) := by
  first | exact h | (unfold NoG Around.deeper; exact h) | (simpa [Around.deeper] using h)
structure FnG (P : Program) (w : World) (K : PySem.W.Frag) (mg : Str → Option Value) (base : Heap) (k : Nat) (f : Addr) (fd : FuncData) (ps : List Str) (sp : Sp) : Prop where
  ln : ∀ vs H Q E, sp vs H Q E → vs.length = ps.length
  go : ∀ (A : Around) (out : List Env) (s : Shared) (H : Hp) (args : Args) (us : List Value) (vs : List V) (Q : VK) (E : XK), NoG A → Room k A → Env0 P w K mg base A out s H → BindsTo s fd args (ps.zip us) → L2.Vals vs us → sp vs H Q E →
    codeAny (model P w) A (.call (.ref f) args) (CR (L2.CX P w) out P w H s Q E) s
section
variable {P : Program} {w : World} {K : PySem.W.Frag} {mg : Str → Option Value} {base : Heap} {j k : Nat} {f : Addr} {fd : FuncData} {N ps : List Str} {sp : Sp}
theorem FnG.up (F : FnG P w K mg base j f fd ps sp) (h : j ≤ k) : FnG P w K mg base k f fd ps sp := ⟨F.ln, fun A out s H args us vs Q E ng hr => F.go A out s H args us vs Q E ng (hr.mono h)⟩
theorem FnG.of (F : FnOk P w K mg base (L2.CX P w) k f fd ps sp) : FnG P w K mg base k f fd ps sp := ⟨F.len, fun A out s H args us vs Q E _ => F.run A out s H args us vs Q E⟩
theorem fnG_lk {name qual : Str} {params : Arguments} {body : List Stmt} {scope : Scope} {dV kV doc pm cdv ct oc : Value} {an od : Option Addr} {osl : Array (Option Value)} (look : K.lookup f = some ⟨oc, od, .func (PySem.W.fnOf name qual params body scope dV kV doc pm an cdv ct), osl⟩)
    (code : PySem.W.codeIn K cdv qual = true) (S : FnScope N ps scope) (len : ∀ vs H Q E, sp vs H Q E → vs.length = ps.length)
    (hb : ∀ (A : Around) (out : List Env) (s : Shared) (H : Hp) (vs : List V) (Q : VK) (E : XK), NoG (A.deeper (envOfC qual scope s.heap.objs.size f cdv)) → Room k (A.deeper (envOfC qual scope s.heap.objs.size f cdv)) → sp vs H Q E →
      ∃ t, PSs (cxOf (L2.CX P w) P w K mg base N qual scope f cdv A out s H E) body t ∧ t { nx := fun _ H' => Q .non H', rt := Q } (start N vs) H) : FnG P w K mg base (k + 1) f (PySem.W.fnOf name qual params body scope dV kV doc pm an cdv ct) ps sp := by
  refine ⟨len, fun A out s H args us vs Q E ng room env bnd rel hsp => ?_⟩
  have base_in : ∀ b o, base.get? b = some o → s.heap.get? b = some o := fun b o e => (env.bs b o e).1
  have kin : K.In s.heap := env.mod.kin.keeps base_in
  refine codeAny_call_function room.depth (kin _ _ look) rfl S.co S.gen rfl (PySem.W.codeRec_of kin code) (bnd _ _ _ _ ?_)
  refine wpAny_newFunctionEnv_cells S.kind (fun y hy => ?_) fun env' he s1 x => ?_
  · obtain ⟨n, v⟩ := y
    exact (S.par n (List.of_mem_zip hy).1).imp id fun q => ⟨q, PySem.W.cellsFrom_some _ _ _ (.inl q)⟩
  subst he
  refine ⟨(env.mod.nolimit.keeps base_in).keeps x.toInCall.keep, codeAny_func ?_⟩
  obtain ⟨t, ht, hq⟩ := hb A out s H vs Q E (nog_deeper ng _) (room.deeper _) hsp
  have I0 := inv_start (CX := L2.CX P w) (E := E) S room.hd env (len _ _ _ _ hsp) rel x
  refine wpAny_mono (ht.run [] s1 (start N vs) H _ I0 hq) (fun fl s' end_ => ?_) fun _ _ z => z
  match fl, end_ with
  | .ret u, ⟨v, σ', H', J, rv, q⟩ => exact ⟨v, H', J.os, J.bare, J.base, J.hok, rv, q⟩
  | .next, ⟨σ', H', J, q⟩ => exact ⟨V.non, H', J.os, J.bare, J.base, J.hok, rfl, q⟩
  | .brk, ⟨_, _, _, q⟩ => exact q.elim
  | .cont, ⟨_, _, _, q⟩ => exact q.elim
theorem fnG_of {x qual : Str} {st : Stmt} (F : Fun K x qual st f fd) (S : FnScope N ps (defScope st)) (len : ∀ vs H Q E, sp vs H Q E → vs.length = ps.length)
    (hb : ∀ (cdv : Value) (A : Around) (out : List Env) (s : Shared) (H : Hp) (vs : List V) (Q : VK) (E : XK), NoG (A.deeper (envOfC qual (defScope st) s.heap.objs.size f cdv)) → Room k (A.deeper (envOfC qual (defScope st) s.heap.objs.size f cdv)) → sp vs H Q E →
      ∃ t, PSs (cxOf (L2.CX P w) P w K mg base N qual (defScope st) f cdv A out s H E) (defBody st) t ∧ t { nx := fun _ H' => Q .non H', rt := Q } (start N vs) H) : FnG P w K mg base (k + 1) f fd ps sp := by
  obtain ⟨oc, od, kV, doc, pm, an, cdv, ct, osl, e, look, code⟩ := F.ex
  subst e
  exact fnG_lk look code S len (hb cdv)
end
/-- a def of the module as its callers see it, where no repr is under way -/
structure CalleeG (P : Program) (w : World) (K : PySem.W.Frag) (mg : Str → Option Value) (base : Heap) (k : Nat) (x : Str) (ps : List Str) (sp : Sp) : Prop where
  ex : ∃ f fd, FnG P w K mg base k f fd ps sp ∧ mg x = some (.ref f) ∧ PySem.W.keepIn K (.ref f) = true ∧ Binds K fd ps []
theorem Callee.g {P : Program} {w : World} {K : PySem.W.Frag} {mg : Str → Option Value} {base : Heap} {k : Nat} {x : Str} {ps : List Str} {sp : Sp} (c : Callee P w K mg base k x ps sp) : CalleeG P w K mg base k x ps sp := by
  obtain ⟨f, fd, F, r⟩ := c.ex
  exact ⟨f, fd, .of F, r⟩
section
variable {X : Cx} {W : WX} {j k : Nat} {x : Str} {ps : List Str} {sp : Sp} {p pos : Pos} {e : Expr} {es : List Expr} {t : TA}
theorem run_fnG {f : Addr} {fd : FuncData} {E : L2.St → XK} {pins : List (Addr × Obj)} {σ : L2.St} {H : Hp} {s : Shared} {Q : VK} {us : List Value} {vs : List V} (F : FnG X.prog X.w X.K X.mg X.base k f fd ps sp) (ng : NoG X.A) (hr : Room k X.A) (hb : Binds X.K fd ps []) (hx : PassesAt (L2.CX X.prog X.w) X σ (E σ))
    (I : Inv X pins σ H s) (r : L2.Vals vs us) (h : sp vs H Q (E σ)) : wpAny (model X.prog X.w) X.A (call (.ref f) us) (EP X pins σ Q) X.xe s := by
  have b := hb s us I.kIn (by rw [List.append_nil, ← r.length]; exact F.ln _ _ _ _ h)
  rw [List.append_nil] at b
  refine wpAny_call (codeAny_mono (F.go X.A X.stack s H ⟨us, []⟩ us vs Q (E σ) ng hr I.env0 b r h) fun out s' got => ?_)
  match out, got with
  | .error e, got => exact hx pins H s e s' I got
  | .ok (.ret u), got => exact I.after got
  | .ok .next, got => exact False.elim got
  | .ok .brk, got => exact False.elim got
  | .ok .cont, got => exact False.elim got
theorem fc_callG (c : CalleeG X.prog X.w X.K X.mg X.base k x ps sp) (ng : NoG X.A) (hr : Room j X.A) (hk : k ≤ j) (hg : Gl X x) (tk : Takes X W) (ha : PA X (e :: es) t) (hdb : (x == ("__debug__" : Str)) = false := by decide) (he : starEach (e :: es) X.env = (false, eval e X.env) :: starEach es X.env := by rfl)
    (hpl : (backTo pos (starEach es X.env)).any (·.1) = false := by rfl) : PE X (.Call (.Name x p) (e :: es) [] pos) (tCallS sp (WE W) t) := by
  obtain ⟨f, fd, F, hm, hkp, hb⟩ := c.ex
  refine ⟨fun pins s σ H Q I h => wpAny_Call_Name_kw (ld_glob I hg hm ?_ hdb)⟩
  exact PySem.W.callWith_K (h₀ := X.base) I.ok.mod.kin hkp (thn (ha.run pos pins s σ H _ I h) fun us s1 ⟨vs, H1, I1, r, q⟩ => ⟨I1.kIn, run_fnG F ng (hr.mono hk) hb (passAt tk σ) I1 r q⟩) he hpl
end
end Fg
namespace Fg
open PySem PySem.Spec PyProof.Rows L2
variable [TQ]
def keyP : Key → PyData
  | .inl i => .int i
  | .inr x => .str x
def pyL (f : D → Option PyData) : List D → Option (List PyData)
  | [] => some []
  | d :: ds => match f d, pyL f ds with
    | some p, some ps => some (p :: ps)
    | _, _ => none
def pyK (f : D → Option PyData) : List (Key × D) → Option (List (PyData × PyData))
  | [] => some []
  | (k, d) :: ds => match f d, pyK f ds with
    | some p, some ps => some ((keyP k, p) :: ps)
    | _, _ => none
def pyN : Nat → D → Option PyData
  | 0, _ => none
  | _ + 1, .non => some .none
  | _ + 1, .bl b => some (.bool b)
  | _ + 1, .int i => some (.int i)
  | _ + 1, .str x => some (.str x)
  | n + 1, .tup ds => (pyL (pyN n) ds).map .tuple
  | n + 1, .lst ds => (pyL (pyN n) ds).map .list
  | n + 1, .dct ds => (pyK (pyN n) ds).map .dict
  | _ + 1, _ => none
def showOk (p : PyData) : Bool := p.showable && decide (p.shown.length ≤ sizeLine) && decide (p.depth ≤ 30)
def reprD : List D → M D
  | [d] => match pyN 20 d with
    | some p => if showOk p = true then pure (.str p.shown) else M.stuck
    | none => M.stuck
  | _ => M.stuck
end Fg
namespace Fg
open PySem PySem.Spec PyProof.Rows L2
variable [TQ]
section
variable {P : Program} {w : World} {K : PySem.W.Frag} {mg : Str → Option Value} {base : Heap} {ca ce : Str → Option Addr}
theorem scalleeD_of {x mn qual : Str} {C : Addr} {st : Stmt} {N ps : List Str} {k n m : Nat} {b : DEnv → M (DEnv × Fl)} (g : ∃ u, mg x = some u ∧ RelV (.ref C) u) (F : StatAt K C mn qual st) (S : FnScope N ps (defScope st)) (hn : N.length = n := by rfl) (hm : ps.length = m := by rfl)
    (hbody : ∀ (f : Addr) (cdv : Value) (A : Around) (outer : List Env) (s : Shared) (H : Hp) (Xs : Addr → Prop) (ρ : List Addr) (E : XK), Room k (cxOf (L2.CX P w) P w K mg base N qual (defScope st) f cdv A outer s H E).A →
      Takes (cxOf (L2.CX P w) P w K mg base N qual (defScope st) f cdv A outer s H E) (fun cls d _ H => E cls d H) →
      PassesOwn (model P w) (cxOf (L2.CX P w) P w K mg base N qual (defScope st) f cdv A outer s H E).A (cxOf (L2.CX P w) P w K mg base N qual (defScope st) f cdv A outer s H E).env (cxOf (L2.CX P w) P w K mg base N qual (defScope st) f cdv A outer s H E).xe →
      PSsD (cxOf (L2.CX P w) P w K mg base N qual (defScope st) f cdv A outer s H E) ⟨K, ca, ce, H, Xs, ρ, E, none⟩ [] [] [] (defBody st) b) : SCallee P w K mg base (k + 1) x C mn qual st ps (spD K ca ce m (runD n b)) := by
  refine scallee_of g F S (fun vs H Q E h => by rw [spD_len h, hm]) fun f cdv A outer s H vs Q E hr tk po h => ?_
  obtain ⟨Xs, ρ, ds, S0, hl, st0, p, q⟩ := h
  exact ⟨_, hbody f cdv A outer s H Xs ρ E hr tk po, body_of (F := ⟨K, ca, ce, H, Xs, ρ, E, none⟩) hn st0 p q fun _ _ h => h⟩
end
/-- a call with keywords: the values in the parameters' order -/
def callK (idx : List Nat) (len n : Nat) (f : List D → M D) (t : DEnv → M (List D)) : DEnv → M D := fun δ => do
  let ds ← t δ
  if ds.length = len ∧ (pick idx ds).length = n then f (pick idx ds) else M.stuck
section
variable {X : Cx} {F : Fr} {O O' O1 O2 OL : List Nat} {m mi : Md} {pos pos2 p p2 apos tpos : Pos} {a b c e e2 tg o : Expr} {rest es elts : List Expr} {i j k kk n : Nat} {x f : Str} {ps ks : List Str} {kwe : List Keyword}
theorem pd_smeth {C : Addr} {mn qual : Str} {st : Stmt} {f : List D → M D} {u : DEnv → M (List D)} {pl : Sem Bool} (cc : SCallee X.prog X.w X.K X.mg X.base k x C mn qual st ps (spD F.K F.ca F.ce n f)) (hr : Room j X.A) (hk : k ≤ j) (hg : Gl X x) (tk : Takes X fun cls d _ H => F.W cls d H) (ha : PAD X F O .fz (e :: es) u)
    (hb : ∀ (kV doc pm : Value) (an : Option Addr) (cdv ct : Value) (us : List Value), us.length = ps.length → bindArgs (PySem.W.fnOf mn qual (defArgs st) (defBody st) (defScope st) .none kV doc pm an cdv ct) ⟨us, []⟩ = pure (ps.zip us))
    (hdb : (x == ("__debug__" : Str)) = false := by decide) (hst : starEach (e :: es) X.env = (false, eval e X.env) :: starEach es X.env := by rfl) (hpl : (backTo pos (starEach es X.env)).any (·.1) = false := by rfl)
    (ht : eval (.Call (.Attribute (.Name x p2) mn apos) (e :: es) [] pos) X.env = (do
      let ov ← eval (.Name x p2) X.env; standAt apos.atName; let (f, first) ← holding [ov] (getMethod ov mn pl)
      callWith pos f first (backTo pos (starEach (e :: es) X.env)) (backToKw pos (keywordEach [] X.env))) := by rfl) : PED X F O .fz (.Call (.Attribute (.Name x p2) mn apos) (e :: es) [] pos) (callD n f u) :=
  pe_imp (fc_smeth cc hr hk hg tk ha hb hdb hst hpl ht) fun σ H Q ⟨B, ρ, δ, S, r, q⟩ => ⟨B, ρ, δ, S, r, q.bind.imp fun ds S' q vs H' ρ' r' g z => by
    rw [ite_at] at q
    exact spD_at r' z (q.imp fun d S2 k v H2 ρ2 r2 g2 z2 => k v H2 ρ2 r2 (g.tr g2) z2)⟩
theorem RinL.pick {B : Nat → Option Addr} {ρ : List Addr} {H : Hp} {vs : List V} {ds : List D} (h : RinL F m B ρ H vs ds) (idx : List Nat) : RinL F m B ρ H (pick idx vs) (pick idx ds) := by cases m <;> exact RpL.pick h idx
theorem spD_atK {f : List D → M D} {idx : List Nat} {len : Nat} {B : Nat → Option Addr} {ρ : List Addr} {σ : L2.St} {H1 : Hp} {δ : DEnv} {S1 : Sto} {vs : List V} {ds : List D} {Q : VK} (r : Rel F O B ρ σ H1 δ S1) (z : RinL F .fz B ρ H1 vs ds)
    (q : Ok1 F ((if ds.length = len ∧ (pick idx ds).length = n then f (pick idx ds) else M.stuck) S1) fun d S' => ∀ v H' ρ', Rel F O B ρ' σ H' δ S' → Gr ρ NoZ H1 ρ' H' → Res F .fz B ρ' H1 H' S' v d → Q v H') : vs.length = len ∧ spD F.K F.ca F.ce n f (pick idx vs) H1 Q F.W := by
  obtain ⟨⟨h1, h2⟩, q⟩ := Ok1.ite q
  exact ⟨by rw [RinL.len z]; exact h1, spD_at r (z.pick idx) (by rw [if_pos h2]; exact q)⟩
theorem pd_smethK {C : Addr} {mn qual : Str} {st : Stmt} {f : List D → M D} {u : DEnv → M (List D)} {pl : Sem Bool} (idx : List Nat) (cc : SCallee X.prog X.w X.K X.mg X.base k x C mn qual st ps (spD F.K F.ca F.ce n f)) (hr : Room j X.A) (hk : k ≤ j) (hg : Gl X x) (tk : Takes X fun cls d _ H => F.W cls d H) (hkw : PK X kwe (dA F O .fz u))
    (hb : ∀ (kV doc pm : Value) (an : Option Addr) (cdv ct : Value) (ws : List Value), ws.length = ks.length → bindArgs (PySem.W.fnOf mn qual (defArgs st) (defBody st) (defScope st) .none kV doc pm an cdv ct) ⟨[], ks.zip ws⟩ = pure (ps.zip (pick idx ws)))
    (hdb : (x == ("__debug__" : Str)) = false := by decide) (hall : (backToKw pos (keywordEach kwe X.env)).all (·.1.isSome) = true := by rfl) (hks : (backToKw pos (keywordEach kwe X.env)).filterMap (·.1) = ks := by rfl)
    (hpl : ((backTo pos (starEach [] X.env)).any (·.1) || (backToKw pos (keywordEach kwe X.env)).any (·.1.isNone)) = false := by rfl)
    (ht : eval (.Call (.Attribute (.Name x p2) mn apos) [] kwe pos) X.env = (do
      let ov ← eval (.Name x p2) X.env; standAt apos.atName; let (f, first) ← holding [ov] (getMethod ov mn pl)
      callWith pos f first (backTo pos (starEach [] X.env)) (backToKw pos (keywordEach kwe X.env))) := by rfl) : PED X F O .fz (.Call (.Attribute (.Name x p2) mn apos) [] kwe pos) (callK idx ks.length n f u) :=
  pe_imp (fc_smethK (idx := idx) cc hr hk hg tk hkw hb hdb hall hks hpl ht) fun σ H Q ⟨B, ρ, δ, S, r, q⟩ => ⟨B, ρ, δ, S, r, q.bind.imp fun ds S' q vs H' ρ' r' g z =>
    spD_atK r' z (q.imp fun d S2 k v H2 ρ2 r2 g2 z2 => k v H2 ρ2 r2 (g.tr g2) z2)⟩
end
def FarT (K : PySem.W.Frag) (C : Addr) (t : Value) : Prop := PySem.W.notFirst K C t = true
theorem far_self {K : PySem.W.Frag} {C : Addr} : FarT K C (.ref C) := by simp [FarT, PySem.W.notFirst]
theorem far_ty {K : PySem.W.Frag} {C : Addr} {T : String} (h : T ∈ ["NoneType", "bool", "int", "str", "list", "tuple", "dict"]) : FarT K C (.type T) := by
  have key : ∀ T : String, PySem.W.subIn K (.type T) (.ref C) = some false → FarT K C (.type T) := fun T e => by unfold FarT PySem.W.notFirst; rw [e]; simp
  simp only [List.mem_cons, List.not_mem_nil, or_false] at h
  rcases h with rfl | rfl | rfl | rfl | rfl | rfl | rfl <;> exact key _ rfl
def fCmpO (K : PySem.W.Frag) (C : Addr) (sp : Sp) (neg : Bool) : R2 := fun x y H Q => ∃ a dx fs t, x = .ref a ∧ H a = some (.ins C dx fs) ∧ TyX K H y t ∧ FarT K C t ∧ sp [x, y] H (fun v H' => match v with | .bl r => Q (.bl (opp neg r)) H' | _ => False) noE
section
variable {X : Cx} {n k : Nat} {C : Addr} {ps : List Str} {sp : Sp} {K : PySem.W.Frag}
theorem ne_ownG {prog : Program} {w : World} {A : Around} {E : Value → Shared → Prop} {s : Shared} {x f : Addr} {y t : Value} {ox : Obj} {od : Option Obj} {Q : Value → Shared → Prop} (hu : A.units + 1 < cLine) (X : K.In s.heap) (I : PySem.W.InstAt s.heap x ox C od) (hy : PySem.W.Looks (model prog w) s.heap (typeOf y) t) (far : FarT K C t) (N : NeAt K C)
    (he : PySem.W.findIn K (.ref C) "__eq__" = some (some (.ref f))) (hf : PySem.W.isFn K (.ref f) = true)
    (hcall : wpAny (model prog w) A.in1 (call (.ref f) [.ref x, y]) (fun v s' => ∃ b, v = .bool b ∧ Q (.bool (!b)) s') E s) : wpAny (model prog w) A (richCompare .NotEq (.ref x) y) Q E s := by
  have body : ∀ {Q : Fin → Shared → Prop}, wpAny (model prog w) A.in1 (call (.ref f) [.ref x, y]) (fun v s' => ∃ b, v = .bool b ∧ Q (.done (.ret (.bool (!b)))) s') E s → wpAny (model prog w) A.in1 (Builtin.«object.__ne__» ⟨[.ref x, y], []⟩) Q E s := fun {Q} hcall => by
    unfold Builtin.«object.__ne__»
    refine wpAny_bind (m := slotArgs "__ne__" 1 _) (wpAny_pure ?_)
    refine wpAny_bind (m := cRoomFor _ _) (wpAny_cRoomFor hu ?_)
    refine wpAny_bind (m := callSpecialIfBound? (.ref x) (Str.ofString "__eq__") _) (PySem.W.ifBound_K X I he hf (wpAny_mono hcall (fun r s' hr => ?_) fun _ _ e => e))
    obtain ⟨b, rfl, hq⟩ := hr
    exact wpAny_bind (m := truthy (.bool _)) (wpAny_truthy_bool (wpAny_pure hq))
  have one : wpAny (model prog w) A (tryCompare (.ref x) "__ne__" y) (fun r s' => ∃ v, r = some v ∧ Q v s') E s := by
    unfold tryCompare
    refine wpAny_bind (ifBound_B X I N.ne PySem.F.slot_object_ne.bind ?_)
    refine wpAny_call (codeAny_call_builtin PySem.F.slot_object_ne.plain PySem.F.entry_object_ne (PySem.W.check_slot (i := "object.__ne__") (owner := "object") (n := "__ne__") (by decide +kernel) (by decide +kernel) (I.type.andThen (PySem.W.looks_mroIn X N.ob)) (PySem.F.args_object_ne_2 _ _) ?_))
    refine body (wpAny_mono hcall (fun v s' hv => ?_) fun _ _ e => e)
    obtain ⟨b, rfl, hq⟩ := hv
    exact ⟨b, rfl, wpAny_pure ⟨_, rfl, hq⟩⟩
  unfold richCompare
  simp only [oneThing_ref]
  refine wpAny_holding (wpAny_bind (wpAny_cRoomFor (Nat.lt_of_succ_lt hu) (wpAny_bind (I.type.here (wpAny_bind (hy.here ?_))))))
  split
  · rename_i q
    have e : PySem.W.subIn K t (.ref C) = some false := by
      rcases Bool.or_eq_true_iff.mp far with e | e
      · rw [beq_iff_eq.mp e] at q; simp at q
      · exact beq_iff_eq.mp e
    refine wpAny_bind ((PySem.W.looks_subIn X e).here ?_)
    simp only [Bool.false_eq_true, if_false]
    refine wpAny_bind (wpAny_mono one (fun r s' z => ?_) fun _ _ e => e)
    obtain ⟨v, rfl, hq⟩ := z
    exact wpAny_pure hq
  · refine wpAny_bind (wpAny_pure ?_)
    simp only [Bool.false_eq_true, if_false]
    refine wpAny_bind (wpAny_mono one (fun r s' z => ?_) fun _ _ e => e)
    obtain ⟨v, rfl, hq⟩ := z
    exact wpAny_pure hq
theorem f_neOG (hK : K = X.K) (c : MCallee X.prog X.w X.K X.mg X.base k C "__eq__" ps sp) (N : NeAt X.K C) (hr : Room n X.A) (hk : k + 1 ≤ n) : OpR X (compareOp .NotEq) (fCmpO K C sp true) := by
  subst hK
  obtain ⟨g, fd, F, cl, hm, hb⟩ := c.ex
  intro pins s σ H x y v u Q I rx ry ⟨a, dx, fs, t, ex, ha, ty, far, q⟩
  subst ex
  cases rx
  obtain ⟨mA, J, _⟩ := ins_get I.hok ha
  obtain ⟨od, J, _⟩ := J.look
  obtain ⟨P, kx, hP, _⟩ := kit_of I ry ty
  show wpAny (model X.prog X.w) X.A (richCompare .NotEq (.ref a) u) _ _ s
  have r1 := hr.mono hk
  refine ne_ownG (by have := hr.units; omega) I.kIn J (kx.ty _ _ I.kIn hP) far N hm.at_ hm.fn ?_
  refine wpAny_mono (run_in (us := [.ref a, u]) F r1.in1 rfl hb I (.cons (show RelV (.ref a) (.ref a) from rfl) (.cons ry .nil)) q) (fun r s' z => ?_) fun _ _ e => e
  obtain ⟨v', H', I', rz, q'⟩ := z
  split at q'
  · rename_i b
    cases rz
    exact ⟨b, rfl, .bl (!b), H', I', rfl, q'⟩
  · exact q'.elim
end
def eqOD (c : Str) (fE : List D → M D) (neg : Bool) (x y : D) : M D :=
  if isO c x = true ∧ isMt y = false then (do let r ← noErr (fE [x, y]); match r with | .bl b => pure (.bl (opp neg b)) | _ => M.stuck) else M.stuck
theorem o_cmpO {F : Fr} {C : Addr} {c : Str} {fE : List D → M D} {neg : Bool} {m : Md} (cf : ClF F.K F.ca) (hca : F.ca c = some C) (hs : ∀ c' D, F.ca c' = some D → c' ≠ c → PySem.W.subIn F.K (.ref D) (.ref C) = some false) (h2 : m ≠ .nw) :
    OpD F .fz m (fCmpO F.K C (spD F.K F.ca F.ce 2 fE) neg) (eqOD c fE neg) := by
  intro O B ρ σ δ H S x y d e Q r hx hy q
  unfold eqOD at q
  obtain ⟨⟨h1, hm⟩, q⟩ := Ok1.ite q
  obtain ⟨fs, ed⟩ := isO_obj h1
  subst ed
  have hx0 := hx
  obtain ⟨a, C', dx, vs, e0, e1, ha, _⟩ := hx.obj
  subst e0
  cases hca.symm.trans e1
  have ty : ∃ t, TyX F.K H y t ∧ FarT F.K C t := by
    cases e with
    | obj c' fs' =>
      obtain ⟨a', D', dx', vs', e0', e1', h1', h3'⟩ := hy.obj
      refine ⟨.ref D', tyX_of cf hy (by show Option.map Value.ref (F.ca _) = _; rw [e1']; rfl), ?_⟩
      by_cases z : c' = c
      · subst z; rw [hca] at e1'; cases e1'; exact far_self
      · unfold FarT PySem.W.notFirst; rw [hs c' D' e1' z]; simp
    | mt k => exact Bool.noConfusion (show true = false from hm)
    | non => exact ⟨_, tyX_of cf hy rfl, far_ty (by decide)⟩
    | bl _ => exact ⟨_, tyX_of cf hy rfl, far_ty (by decide)⟩
    | int _ => exact ⟨_, tyX_of cf hy rfl, far_ty (by decide)⟩
    | str _ => exact ⟨_, tyX_of cf hy rfl, far_ty (by decide)⟩
    | tup _ => exact ⟨_, tyX_of cf hy rfl, far_ty (by decide)⟩
    | lst _ => exact ⟨_, tyX_of cf hy rfl, far_ty (by decide)⟩
    | dct _ => exact ⟨_, tyX_of cf hy rfl, far_ty (by decide)⟩
  obtain ⟨t, ty, far⟩ := ty
  refine ⟨a, dx, vs, t, rfl, ha, ty, far, spD_noE r (RinL.cons hx0 (RinL.cons hy RinL.nil)) rfl (q.bind.imp fun d2 S2 q v2 H2 ρ2 r2 g2 z2 => ?_)⟩
  cases d2 <;> first | exact (show False from q).elim | skip
  cases (show Rin F .fz B ρ2 H2 v2 (.bl _) from z2).bl
  exact (q : ∀ v H' ρ', _) _ H2 ρ2 r2 g2 (scV_res (d := .bl _) rfl h2)
def strOD (c : Str) (f : List D → M D) (x : D) : M D := do
  let fs ← asO c x
  let r ← noErr (f [.obj c fs])
  match r with
  | .str z => pure (.str z)
  | _ => M.stuck
def oneL (g : D → M D) : List D → M D := fun ds => match ds with | [d] => g d | _ => M.stuck
theorem c_strO {F : Fr} {C : Addr} {c : Str} {f : List D → M D} {m : Md} (hca : F.ca c = some C) (h2 : m ≠ .nw) : CallD F .fz m (fStrO C (spD F.K F.ca F.ce 1 f)) (oneL (strOD c f)) := by
  intro O B ρ σ δ H S vs ds Q r z q
  unfold oneL at q
  split at q
  · rename_i d
    obtain ⟨v, rfl, y⟩ := z.one
    unfold strOD at q
    obtain ⟨fs, ed, q2⟩ := q.bind.asO
    clear q
    subst ed
    obtain ⟨a, C', dx, vs, e0, e1, h1, h3⟩ := y.obj
    subst e0
    cases hca.symm.trans e1
    show fStrO C _ [.ref a] H Q
    refine ⟨⟨dx, vs, h1⟩, spD_noE r (RinL.cons y RinL.nil) rfl (q2.bind.imp fun d2 S2 q v2 H2 ρ2 r2 g2 z2 => ?_)⟩
    cases d2 <;> first | exact (show False from q).elim | skip
    cases (show Rin F .fz B ρ2 H2 v2 (.str _) from z2).str
    exact (q : ∀ v H' ρ', _) _ H2 ρ2 r2 g2 (scV_res (d := .str _) rfl h2)
  · exact q.stuck.elim
def keyV : Key → D
  | .inl i => .int i
  | .inr z => .str z
end Fg
namespace Fg
open PySem PySem.Spec PyProof.Rows L2
def eqKV (ls : List (Key × V)) (kv : Key × V) : Bool := match valV ls kv.1 with
  | some v => eqV kv.2 v
  | none => false
theorem valV_mem {k : Key} {v : V} : ∀ {ls : List (Key × V)}, valV ls k = some v → ∃ p ∈ ls, p.2 = v := fun {ls} h => by
  unfold valV at h
  obtain ⟨p, e, rfl⟩ := Option.map_eq_some_iff.mp h
  exact ⟨p, List.mem_of_find?_eq_some e, rfl⟩
theorem keq_hits {P : Program} {w : World} {A : Around} {s : Shared} {ls : List (Key × V)} {lb : List (Key × Value)} (rb : KV ls lb) (fl : ∀ p ∈ ls, flatV p.2 = true) : ∀ {ks : List (Key × V)} {la : List (Key × Value)}, KV ks la → (∀ p ∈ ks, flatV p.2 = true) → ∃ b, PySem.W.KeqHits A s lb la b ∧ b = ks.all (eqKV ls)
  | [], _, r, _ => by
    cases r
    exact ⟨true, .nil, rfl⟩
  | (k, v) :: ks, _, r, hf => by
    cases r with
    | cons r1 r2 =>
      rename_i kv la'
      obtain ⟨k', u⟩ := kv
      obtain ⟨ek, rv⟩ := r1
      have ek : k = k' := ek
      subst ek
      obtain ⟨b, hb, eb⟩ := keq_hits (P := P) (w := w) rb fl r2 fun p hp => hf p (List.mem_cons_of_mem _ hp)
      have rr := rb.val k
      cases e : valV ls k with
      | none =>
        refine ⟨false, .miss (RelO.none_of (by rw [← e]; exact rr)), ?_⟩
        rw [List.all_cons]
        simp [eqKV, e]
      | some y =>
        rw [e] at rr
        cases e2 : valueAt lb k with
        | none => rw [e2] at rr; exact rr.elim
        | some z =>
          rw [e2] at rr
          obtain ⟨p, hp, ep⟩ := valV_mem e
          refine ⟨eqV v y && b, .hit e2 (eqAt_V rv rr (hf _ (List.mem_cons_self ..)) (ep ▸ fl p hp)) hb, ?_⟩
          rw [List.all_cons, eb]
          simp [eqKV, e]
variable [TQ]
def eqKD (ls : List (Key × D)) (kv : Key × D) : Bool := match getKD ls kv.1 with
  | some d => eqF kv.2 d
  | none => false
theorem rk_scal {K : PySem.W.Frag} {ca : Str → Option Addr} {ρ : List Addr} {G : Hp} : ∀ {ds : List (Key × D)} {vs : List (Key × V)}, RpK K ca ρ G vs ds → (ds.all fun p => scalD p.2) = true → vs = ds.map fun p => (p.1, scV p.2)
  | [], _, .nil, _ => rfl
  | (k, d) :: ds, _, .cons h t, e => by
    rw [List.all_cons, Bool.and_eq_true] at e
    rw [rk_scal t e.2, List.map_cons]
    have hd : scalD d = true := e.1
    cases d <;> first | (cases hd; done) | (cases h; rfl)
theorem valV_scal {k : Key} : ∀ {ds : List (Key × D)}, valV (ds.map fun p => (p.1, scV p.2)) k = (getKD ds k).map scV
  | [] => rfl
  | (k', d) :: ds => by
    unfold valV getKD
    rw [List.map_cons, List.find?_cons, List.find?_cons]
    by_cases e : k' = k
    · simp [e]
    · have ih := valV_scal (k := k) (ds := ds)
      unfold valV getKD at ih
      simp only [e, decide_false]
      exact ih
theorem getKD_mem {k : Key} {d : D} {ds : List (Key × D)} (h : getKD ds k = some d) : ∃ p ∈ ds, p.2 = d := by
  unfold getKD at h
  obtain ⟨p, e, rfl⟩ := Option.map_eq_some_iff.mp h
  exact ⟨p, List.mem_of_find?_eq_some e, rfl⟩
theorem eqK_scal {ls : List (Key × D)} (hl : (ls.all fun p => scalD p.2) = true) {p : Key × D} (hp : scalD p.2 = true) : eqKV (ls.map fun p => (p.1, scV p.2)) (p.1, scV p.2) = eqKD ls p := by
  unfold eqKV eqKD
  rw [valV_scal]
  cases e : getKD ls p.1 with
  | none => rfl
  | some d =>
    obtain ⟨q, hq, eq⟩ := getKD_mem e
    have hd : scalD d = true := eq ▸ List.all_eq_true.mp hl q hq
    show eqV (scV p.2) (scV d) = _
    exact eqF_V hp hd
theorem all_scal {ls : List (Key × D)} (hl : (ls.all fun p => scalD p.2) = true) : ∀ {ks : List (Key × D)}, (ks.all fun p => scalD p.2) = true → (ks.map fun p => (p.1, scV p.2)).all (eqKV (ls.map fun p => (p.1, scV p.2))) = ks.all (eqKD ls)
  | [], _ => rfl
  | p :: ks, h => by
    rw [List.all_cons, Bool.and_eq_true] at h
    rw [List.map_cons, List.all_cons, List.all_cons, eqK_scal hl h.1, all_scal hl h.2]
def stepD (idx : List Nat) : D → M D
  | .lst ds => if ds.length = 16 then pure (.lst (pick idx ds)) else M.stuck
  | _ => M.stuck
def valsD : D → M D
  | .dct kvs => pure (.lst (kvs.map (·.2)))
  | _ => M.stuck
theorem rp_vals {K : PySem.W.Frag} {ca : Str → Option Addr} {ρ : List Addr} {G : Hp} : ∀ {vs : List (Key × V)} {ds : List (Key × D)}, RpK K ca ρ G vs ds → RpL K ca ρ G (vs.map (·.2)) (ds.map (·.2))
  | _, _, .nil => .nil
  | _, _, .cons h t => .cons h (rp_vals t)
section
variable {X : Cx} {F : Fr} {O O' O1 O2 OL : List Nat} {m mi : Md} {pos pos2 p p2 p3 p4 apos cpos tpos : Pos} {a b c e e2 tg o : Expr} {rest es elts : List Expr} {i j kk n : Nat} {k k2 : Option Str} {x f : Str}
theorem step_of {idx : List Nat} {t : DEnv → M D} {σ : L2.St} {H : Hp} {Q : VK} (hK : F.K = X.K) (h2 : m ≠ .nw) (q : dE F O m (oneM (stepD idx) t) σ H Q) : tStep X.K idx (dE F O m t) σ H Q := by
  obtain ⟨B, ρ, δ, S, r, q⟩ := q
  refine ⟨B, ρ, δ, S, r, q.bind.imp fun d S' q v H' ρ' r' g z => ?_⟩
  have z : Rin F m B ρ' H' v d := Res.rin r z
  cases d <;> first | exact (show False from q).elim | skip
  obtain ⟨hl, q⟩ := Ok1.ite q
  obtain ⟨a, vs, rfl, ha, la⟩ := z.lst
  refine ⟨vs, SqL.of ha, by rw [RinL.len la, hl], fun q2 H2 nq s2 h2' => ?_⟩
  exact (q : ∀ v H' ρ', _) _ H2 ρ' (r'.same s2) (g.tr (Gr.same s2)) (lst_new r' nq s2 h2' h2 (la.pick idx))
theorem pd_even {kn : Nat} {t : DEnv → M D} (hK : F.K = X.K) (h : PED X F O m e t) (h2 : m ≠ .nw := by decide) : PED X F O m (.Subscript e (.Slice none none (some (.Constant (.int 2) kn p2)) p3) pos) (oneM (stepD evenI) t) := pe_imp (pe_even h) fun σ H Q q => step_of hK h2 q
theorem pd_odd {kn kn2 : Nat} {t : DEnv → M D} (hK : F.K = X.K) (h : PED X F O m e t) (h2 : m ≠ .nw := by decide) : PED X F O m (.Subscript e (.Slice (some (.Constant (.int 1) kn2 p4)) none (some (.Constant (.int 2) kn p2)) p3) pos) (oneM (stepD oddI) t) := pe_imp (pe_odd h) fun σ H Q q => step_of hK h2 q
theorem pd_listVals {t : DEnv → M D} (hc : X.calm = true) (h : PED X F O m e t) (hg : Gl X "list") (hm : X.mg "list" = none) (h2 : m ≠ .nw := by decide) (hbase : attributeBase e "values" X.env (eval e X.env) = eval e X.env := by rfl) (hline : (apos.endLine == cpos.line) = true := by rfl)
    (hs : starEach [.Call (.Attribute e "values" apos) [] [] cpos] X.env = (false, eval (.Call (.Attribute e "values" apos) [] [] cpos) X.env) :: starEach [] X.env := by rfl) :
    PED X F O m (.Call (.Name "list" p) [.Call (.Attribute e "values" apos) [] [] cpos] [] pos) (oneM valsD t) := pe_imp (pe_listVals hc h hg hm (by decide +kernel) hbase hline hs) fun σ H Q ⟨B, ρ, δ, S, r, q⟩ => ⟨B, ρ, δ, S, r, q.bind.imp fun d S' q v H' ρ' r' g z => by
  have z : Rin F m B ρ' H' v d := Res.rin r z
  cases d <;> first | exact (show False from q).elim | skip
  obtain ⟨a, vs, rfl, ha, la⟩ := z.dct
  refine ⟨vs, ha, fun q2 H2 nq s2 h2' => ?_⟩
  refine (q : ∀ v H' ρ', _) _ H2 ρ' (r'.same s2) (g.tr (Gr.same s2)) (lst_new r' nq s2 h2' h2 ?_)
  cases m
  · exact rp_vals la
  · exact rp_vals la
  · exact absurd rfl h2⟩
end
end Fg
namespace Fg
open PySem PySem.Spec PyProof.Rows L2
variable [TQ]
def compKL (g : D → DEnv → M DEnv) (tk tv : DEnv → M D) (δ : DEnv) : List (Key × D) → List D → M (List (Key × D))
  | acc, [] => pure acc
  | acc, d :: ds => do
    let δ2 ← noErr (g d δ)
    let y ← noErr (tk δ2)
    let z ← noErr (tv δ2)
    let k ← keyD y
    if acc.length < sizeLine then compKL g tk tv δ (putKD acc k z) ds else M.stuck
def dcZD (vs : List Nat) (it : DEnv → M (List D)) (g : D → DEnv → M DEnv) (tk tv : DEnv → M D) : DEnv → M D := fun δ => do
  let ps ← zipM2 it δ
  let kvs ← compKL g tk tv (wipeD δ vs) [] ps
  pure (.dct kvs)
section
variable {F : Fr} {O : List Nat} {g : D → DEnv → M DEnv} {tk tv : DEnv → M D} {st : Hp → Prop} {vs : List Nat} {σ : L2.St} {Da : Addr} {Q : Hp → Prop} {Hs : Hp} {ρs : List Addr} {B : Nat → Option Addr} {δ : DEnv}
theorem RinK.gr {m : Md} {ρ ρ' : List Addr} {H H' : Hp} {v : List (Key × V)} {d : List (Key × D)} (h : RinK F m B ρ H v d) (g : Gr ρ NoZ H ρ' H') : RinK F m B ρ' H' v d := by
  cases m
  · exact RpK.mono g.at g.seesF h
  · exact RpK.mono g.at g.seesO h
  · exact RpK.mono g.at g.seesO h
theorem compZ_of (hn : Nw Hs Da) (h0 : Nw F.H0 Da) (hst : ∀ H1 ρ1, Gr ρs NoZ Hs ρ1 H1 → st H1) :
    ∀ (ds : List (D × D)) (ps : List (V × V)) (acc : List (Key × D)) (ys : List (Key × V)) (ρ1 : List Addr) (H1 : Hp) (S1 : Sto), Rel (F.blk Da) O B ρ1 (L2.wipe σ vs) H1 (wipeD δ vs) S1 → Gr ρs NoZ Hs ρ1 H1 → H1 Da = some (.dK ys) → RinK (F.blk Da) .fz B ρ1 H1 ys acc →
    RinL (F.blk Da) .fz B ρ1 H1 (ps.map (·.1)) (ds.map (·.1)) → RinL (F.blk Da) .fz B ρ1 H1 (ps.map (·.2)) (ds.map (·.2)) →
    Ok1 F (compKL g tk tv (wipeD δ vs) acc (pairsD ds) S1) (fun r S' => ∀ H' ρ' zs, Rel (F.blk Da) O B ρ' (L2.wipe σ vs) H' (wipeD δ vs) S' → Gr ρs NoZ Hs ρ' H' → H' Da = some (.dK zs) → RinK (F.blk Da) .fz B ρ' H' zs r → Q H') →
    DCompZ st (exG fun D => dGC (F.blk D) O vs g) (exE fun D => dE (F.blk D) O .fz tk) (exE fun D => dE (F.blk D) O .fz tv) vs σ Da Q ps H1
  | [], ps, acc, ys, ρ1, H1, S1, r1, g1, hD, la, l1, l2, q => by
    have hp : ps = [] := by
      have := RinL.len l1
      simpa using this
    subst hp
    exact (q : ∀ H' ρ' zs, _) H1 ρ1 ys r1 g1 hD la
  | (d, e) :: ds, ps, acc, ys, ρ1, H1, S1, r1, g1, hD, la, l1, l2, q => by
    match ps, l1, l2 with
    | [], l1, _ => exact absurd (RinL.len l1) (by simp)
    | (x, y) :: ps, l1, l2 =>
      have l1 : RpL F.K F.ca ρ1 (hid (Zo (F.blk Da) B ρ1) H1) (x :: ps.map (·.1)) (d :: ds.map (·.1)) := l1
      have l2 : RpL F.K F.ca ρ1 (hid (Zo (F.blk Da) B ρ1) H1) (y :: ps.map (·.2)) (e :: ds.map (·.2)) := l2
      cases l1 with
      | cons zx zs =>
        cases l2 with
        | cons zy zs2 =>
          intro T HT nT sT hT
          have rT := r1.same sT
          have gT : Gr ρ1 NoZ H1 ρ1 HT := Gr.same sT
          have seeT := gT.seesO (F := F.blk Da) (B := B)
          have noT : ¬ Zo (F.blk Da) B ρ1 T := no_new r1 nT
          have q : Ok1 F ((do
            let δ2 ← noErr (g (.tup [d, e]) (wipeD δ vs))
            let y ← noErr (tk δ2)
            let z ← noErr (tv δ2)
            let k ← keyD y
            if acc.length < sizeLine then compKL g tk tv (wipeD δ vs) (putKD acc k z) (pairsD ds) else M.stuck : M (List (Key × D))) S1) _ := q
          refine ⟨Da, B, ρ1, wipeD δ vs, S1, .tup [d, e], rT, (Rp.tup (SqT.of (hid_iff.mpr ⟨noT, hT⟩)) (.cons (zx.mono (fun _ _ e => e) seeT) (.cons (zy.mono (fun _ _ e => e) seeT) .nil)) : Rp F.K F.ca ρ1 (hid (Zo (F.blk Da) B ρ1) HT) (.ref T) (.tup [d, e])),
            q.bind.noErr.imp fun δ2 S2 q σ2 H2 ρ2 r2 g2 w2 => ⟨w2.trans wipe_wipe, Da, B, ρ2, δ2, S2, r2, q.bind.noErr.imp fun y3 S3 q v3 H3 ρ3 r3 g3 z3 => ⟨Da, B, ρ3, δ2, S3, r3, q.bind.noErr.imp fun y4 S4 q v4 H4 ρ4 r4 g4 z4 => ?_⟩⟩⟩
          have fin : ∀ k : Key, v3 = kV k → Ok1 F ((if acc.length < sizeLine then compKL g tk tv (wipeD δ vs) (putKD acc k y4) (pairsD ds) else M.stuck) S4) (fun r S' => ∀ H' ρ' zs, Rel (F.blk Da) O B ρ' (L2.wipe σ vs) H' (wipeD δ vs) S' → Gr ρs NoZ Hs ρ' H' → H' Da = some (.dK zs) → RinK (F.blk Da) .fz B ρ' H' zs r → Q H') →
              ∃ kvs k, v3 = kV k ∧ H4 Da = some (.dK kvs) ∧ kvs.length < sizeLine ∧ st (upd H4 Da (.dK (putK kvs k v4))) ∧ DCompZ st (exG fun D => dGC (F.blk D) O vs g) (exE fun D => dE (F.blk D) O .fz tk) (exE fun D => dE (F.blk D) O .fz tv) vs σ Da Q ps (upd H4 Da (.dK (putK kvs k v4))) := fun k ek q => by
            obtain ⟨hl, q⟩ := Ok1.ite q
            have g14 := gT.tr (g2.tr (g3.tr g4))
            have hD4 : H4 Da = some (.dK ys) := g14.keep Da _ (fun z => r1.sta.xr Da z (.inl (.inr rfl))) (fun z => z) (fun _ z => by cases z) hD
            have rb : Rel (F.blk Da) O B ρ4 (L2.wipe σ vs) H4 (wipeD δ vs) S4 := r1.step g14 r4.sta
            obtain ⟨r5, g5⟩ := rb.under (D := Da) (o' := .dK (putK ys k v4)) (.inr rfl) h0 But.upd hD4 upd_same (fun _ z => by cases z) (fun _ z => by cases z)
            have see : LamX.ExtN (hid (Zo (F.blk Da) B ρ4) H4) (hid (Zo (F.blk Da) B ρ4) (upd H4 Da (.dK (putK ys k v4)))) := g5.sees (Z := fun b => (F.blk Da).Xs b ∨ Own B b) (fun c z => .inl (.inl (.inr z))) fun b h => .inl h
            have gg : Gr ρs NoZ Hs ρ4 (upd H4 Da (.dK (putK ys k v4))) := (g1.tr g14).trans g5 fun c z => .inr (z ▸ hn)
            have l5 : RinK (F.blk Da) .fz B ρ4 (upd H4 Da (.dK (putK ys k v4))) (putK ys k v4) (putKD acc k y4) := RpK.mono (fun _ _ e => e) see (RpK.put z4 k (RinK.gr (m := .fz) la g14))
            refine ⟨ys, k, ek, hD4, by rw [show ys.length = acc.length from RpK.length la]; exact hl, hst _ ρ4 gg, ?_⟩
            exact compZ_of hn h0 hst ds ps (putKD acc k y4) (putK ys k v4) ρ4 _ S4 r5 gg upd_same l5 (RpL.mono (fun _ _ e => e) see (RinL.gr (m := .fz) zs g14)) (RpL.mono (fun _ _ e => e) see (RinL.gr (m := .fz) zs2 g14)) q
          rcases q.bind.keyD with ⟨i, e3, q⟩ | ⟨i, e3, q⟩
          · subst e3
            exact fin (.inl i) (Rin.int (m := .fz) z3) q
          · subst e3
            exact fin (.inr i) (Rin.str (m := .fz) z3) q
end
section
variable {X : Cx} {F : Fr} {O OL : List Nat} {pos pos2 p tpos : Pos} {kx vx e e2 : Expr} {elts : List Expr} {kk : Nat} {scope : Scope} {own : List (Str × Nat)} {it : DEnv → M (List D)} {g : D → DEnv → M DEnv} {tk tv : DEnv → M D}
theorem dcZ_of {σ : L2.St} {H : Hp} {Q : VK} (hK : F.K = X.K) (ho : ∀ v ∈ own.map (·.2), v ∉ O) (q : dE F O .nw (dcZD (own.map (·.2)) it g tk tv) σ H Q) :
    tDcZ X.K (exG fun D => dGC (F.blk D) O (own.map (·.2)) g) (exE fun D => dE (F.blk D) O .fz tk) (exE fun D => dE (F.blk D) O .fz tv) (dA F O .fz it) (own.map (·.2)) σ H Q := by
  obtain ⟨B, ρ, δ, S, r, q⟩ := q
  have q := q.bind
  unfold zipM2 at q
  refine ⟨B, ρ, δ, S, r, q.bind.imp fun ds S' q vs H' ρ' r' g' z => ?_⟩
  match ds, z, q with
  | [], _, q => exact q.stuck.elim
  | [_], _, q => exact q.stuck.elim
  | _ :: _ :: _ :: _, _, q => exact q.stuck.elim
  | [x, y], z, q =>
    obtain ⟨v, w, rfl, hx, hy⟩ := z.two
    cases e1 : itD x with
    | none =>
      have q : Ok1 F ((match itD x, itD y with
        | some xs, some ys => if xs.length = ys.length then pure (pairsD (xs.zip ys)) else M.stuck
        | _, _ => M.stuck : M (List D)) S') _ := q
      rw [e1] at q
      exact q.stuck.elim
    | some xs =>
      cases e3 : itD y with
      | none =>
        have q : Ok1 F ((match itD x, itD y with
          | some xs, some ys => if xs.length = ys.length then pure (pairsD (xs.zip ys)) else M.stuck
          | _, _ => M.stuck : M (List D)) S') _ := q
        rw [e1, e3] at q
        exact q.stuck.elim
      | some ys =>
        have q : Ok1 F ((match itD x, itD y with
          | some xs, some ys => if xs.length = ys.length then pure (pairsD (xs.zip ys)) else M.stuck
          | _, _ => M.stuck : M (List D)) S') _ := q
        rw [e1, e3] at q
        obtain ⟨hl, q⟩ := Ok1.ite q
        obtain ⟨d1, us, rfl, lu, hu⟩ := sd_of hK hx e1
        obtain ⟨d2, ws, rfl, lw, hw⟩ := sd_of hK hy e3
        have el : us.length = ws.length := by rw [RinL.len lu, RinL.len lw, hl]
        refine ⟨d1, d2, us, ws, rfl, hu H' ρ' (Gr.refl _ _ _), hw H' ρ' (Gr.refl _ _ _), el, fun Da H2 nD s2 h2 => ?_⟩
        have g2 : Gr ρ' NoZ H' ρ' H2 := Gr.same s2
        have re := (r'.enter s2 nD (Nw.live h2 fun _ z => by cases z)).wipe (own.map (·.2)) ho
        have h0 : Nw F.H0 Da := Classical.byContradiction fun z => r'.gr.alive Da z (Nw.of nD)
        have see := zo_blkE (F := F) (B := B) (ρ := ρ') ▸ seesN (F := F) (B := B) (ρ := ρ') s2 nD
        have lu2 : RinL (F.blk Da) .fz B ρ' H2 ((us.zip ws).map (·.1)) ((xs.zip ys).map (·.1)) := RpL.mono (fun _ _ e => e) see (zip1 hl lu lw)
        have lw2 : RinL (F.blk Da) .fz B ρ' H2 ((us.zip ws).map (·.2)) ((xs.zip ys).map (·.2)) := RpL.mono (fun _ _ e => e) see (zip2 hl lu lw)
        refine ⟨⟨hu H2 ρ' g2.wk, hw H2 ρ' g2.wk⟩, compZ_of (Hs := H') (ρs := ρ') (Nw.of nD) h0 (fun H1 ρ1 g => ⟨hu H1 ρ1 g.wk, hw H1 ρ1 g.wk⟩) (xs.zip ys) (us.zip ws) [] [] ρ' H2 S' re g2 h2 RpK.nil lu2 lw2 (Ok1.bind (show Ok1 F ((compKL g tk tv (wipeD δ (own.map (·.2))) [] (pairsD (xs.zip ys)) >>= fun kvs => (pure (.dct kvs) : M D)) S') _ from q) |>.imp fun kvs S2 k H3 ρ3 zs r3 g3 hD l3 => ?_)⟩
        have k : ∀ v H' ρ', _ := k
        have st3 : Sta F.K F.ca ρ3 (fun b => (F.Xs b ∨ Own B b) ∨ b = Da) H3 S2 := xs_blkE (F := F) (B := B) ▸ r3.sta
        refine k (.ref Da) H3 ρ3 (r'.step g3 (st3.wk fun b h => .inl h)) (g'.tr g3) ⟨Da, rfl, Classical.byContradiction fun z => g'.alive Da z (Nw.of nD), fun z => r3.sta.xr Da z (.inl (.inr rfl)), st3, zs, hD, ?_⟩
        exact zo_blkE (F := F) ▸ l3
theorem psd_setDcZ {i : Nat} {y : Str} {py spos : Pos} (hK : F.K = X.K) (hc : X.calm = true) (hN : X.N.Nodup) (hy : X.N[i]? = some y) (hyl : X.env.scope.names.lookup y = some .local)
    (hsw : swapsWith (.DictComp kx vx [⟨.Tuple elts kk tpos, .Call (.Name "zip" p) [e, e2] [] pos2, [], 0⟩] scope pos) (some (.Name y py)) spos.line X.env = pure true) (hgl : Gl X "zip") (hm : X.mg "zip" = none) (ha : PAD X F O .fz [e, e2] it) (ok : BlkOk X.N X.env.scope scope own) (ho : ∀ v ∈ own.map (·.2), v ∉ O) (hio : i ∉ O)
    (hg : ∀ (s : Shared) (H : Hp) (C : Addr) (cl : List (Str × Addr)) (fp : List Addr) (D : Addr), PG (X.blk s H scope (compEnvC scope cl C X.env) fp) (.Tuple elts kk tpos) (dGC (F.blk D) O (own.map (·.2)) g))
    (hk : ∀ (s : Shared) (H : Hp) (C : Addr) (cl : List (Str × Addr)) (fp : List Addr) (D : Addr), PE (X.blk s H scope (compEnvC scope cl C X.env) fp) kx (dE (F.blk D) O .fz tk))
    (he : ∀ (s : Shared) (H : Hp) (C : Addr) (cl : List (Str × Addr)) (fp : List Addr) (D : Addr), PE (X.blk s H scope (compEnvC scope cl C X.env) fp) vx (dE (F.blk D) O .fz tv))
    (hst : starEach [e, e2] X.env = (false, eval e X.env) :: starEach [e2] X.env := by rfl) (hpl : (backTo pos2 (starEach [e2] X.env)).any (·.1) = false := by rfl) (hs : ∀ x, foldedSetIterable (.Call (.Name "zip" p) [e, e2] [] pos2) X.env x = pure x := by intro _; rfl) :
    PSD X F O O OL (.Assign [.Name y py] (.DictComp kx vx [⟨.Tuple elts kk tpos, .Call (.Name "zip" p) [e, e2] [] pos2, [], 0⟩] scope pos) spos) (setS i (dcZD (own.map (·.2)) it g tk tv)) :=
  ps_imp (fs_setDcZ hc hN hy hyl hsw hgl hm ha ok (fun s H C cl fp => pg_ex (hg s H C cl fp)) (fun s H C cl fp => pe_ex (hk s H C cl fp)) (fun s H C cl fp => pe_ex (he s H C cl fp)) hst hpl hs) fun Dn σ H q => asg_fz (t := dcZD (own.map (·.2)) it g tk tv) (fun Q q => dcZ_of hK ho (by
    obtain ⟨B, ρ, δ, S, r, q⟩ := q
    exact ⟨B, ρ, δ, S, r, q.imp fun d S' k v H' ρ' r' g z => k v H' ρ' r' g (Res.rin (m := .nw) r z)⟩)) hio q
end
end Fg
namespace Fg
open PySem PySem.Spec PyProof.Rows L2
variable [TQ]
section
variable {X : Cx} {F : Fr} {O : List Nat} {m mi : Md} {pos apos : Pos} {a b o : Expr} {i j k n : Nat} {ps ks : List Str} {kwe : List Keyword}
theorem pd_tcmpF {op : CmpOp} {r : R2} {f : D → D → M D} {ta tb : DEnv → M D} (ho : OpR X (compareOp op) r) (hf : OpD F .fz .tr r f) (ha : PED X F O .fz a ta) (hb : PED X F O .fz b tb) (hm : behindInMarks op b = false) : PTD X F O (.Compare a [op] [b] pos) (tvM (binM f ta tb)) :=
  pt_imp (ft_cmp ho ha hb hm) fun σ H Q ⟨B, ρ, δ, S, r0, q⟩ => bin_imp (mi := .fz) (m := .tr) hf (by decide) ⟨B, ρ, δ, S, r0, q.bind.imp fun d S' k v H' ρ' r' g z => by
    obtain ⟨b, rfl, k⟩ := k.tb
    obtain rfl := Rin.bl (m := .tr) (B := B) z
    exact k H' ρ' r' g⟩
end
end Fg
namespace Fg
open PySem PySem.Spec PyProof.Rows L2
variable [TQ]
section
variable {X : Cx} {F : Fr} {O : List Nat} {m : Md} {pos : Pos} {e : Expr} {j k : Nat} {ps : List Str}
theorem psd_parQ {OL : List Nat} {a b : Expr} {x y : Str} {px py pt pt2 : Pos} {kt k2 : Nat} {ta tb : DEnv → M D} (i j : Nat) (hc : X.calm = true) (hN : X.N.Nodup) (hi : X.N[i]? = some x) (hj : X.N[j]? = some y) (hij : i ≠ j)
    (hx : X.env.scope.names.lookup x = some .local) (hy : X.env.scope.names.lookup y = some .local) (ha : PED X F O .fz a ta) (hb : PED X F O .fz b tb) (hw : swappedStores [.Tuple [.Name x px, .Name y py] kt pt] (.Tuple [a, b] k2 pt2) X.env = pure (some [x, y]) := by rfl)
    (hs : swapsWithSole [.Tuple [.Name x px, .Name y py] kt pt] (.Tuple [a, b] k2 pt2) pos.line X.env = pure false := by rfl)
    (h1 : starEach [a, b] X.env = (false, eval a X.env) :: starEach [b] X.env := by rfl) (h2 : starEach [b] X.env = (false, eval b X.env) :: starEach [] X.env := by rfl) (hio : i ∉ O := by decide) (hjo : j ∉ O := by decide) :
    PSD X F O O OL (.Assign [.Tuple [.Name x px, .Name y py] kt pt] (.Tuple [a, b] k2 pt2) pos) (parS i j ta tb) :=
  psd_par i j hc hN hi hj hij hx hy ha hb hio hjo (ps_par hc hN hi hj hij hx hy (pa_cons ha (pa_cons hb pa_nil (hs := h2)) (hs := h1)) hw hs)
end
end Fg
namespace Fg
open PySem PySem.Spec PyProof.Rows L2
variable [TQ]
section
variable {X : Cx} {pins : List (Addr × Obj)} {σ : L2.St} {H : Hp} {s : Shared} {ca : Str → Option Addr} {ρ : List Addr} {Z : Addr → Prop}
/-- a value is one datum only -/
structure Clear (X : Cx) (ca : Str → Option Addr) (ρ : List Addr) (Z : Addr → Prop) (H : Hp) (s : Shared) : Prop where
  inv : ∃ pins σ, Inv X pins σ H s
  hz : ∀ b ∈ ρ, Z b
  nd : ρ.Nodup
  live : ∀ b ∈ ρ, ¬ Nw H b
  cf : ClF X.K ca
theorem Clear.kn (c : Clear X ca ρ Z H s) {a : Addr} {o : Obj} (e : X.K.lookup a = some o) : H a = none := by
  obtain ⟨pins, σ, I⟩ := c.inv
  exact (I.bs _ _ (I.ok.mod.kin _ _ e)).2
theorem Clear.tup (c : Clear X ca ρ Z H s) {a : Addr} {xs ys : List V} (h1 : SqT X.K (hid Z H) a xs) (h2 : SqT X.K (hid Z H) a ys) : xs = ys := by
  obtain ⟨pins, σ, I⟩ := c.inv
  exact I.tuple_inj (SqT.ext (fun b o e _ => (hid_iff.mp e).2) h1) (SqT.ext (fun b o e _ => (hid_iff.mp e).2) h2)
theorem Clear.notT (c : Clear X ca ρ Z H s) {a : Addr} {xs : List V} {o : HO} (h1 : SqT X.K (hid Z H) a xs) (h2 : hid Z H a = some o) (n1 : ∀ xs, o ≠ .tup xs) (n2 : ∀ u p, o ≠ .frz u p) : False := by
  rcases h1 with (h | ⟨u, h⟩) | ⟨ob, h⟩
  · exact n1 _ (Option.some.inj (h2.symm.trans h))
  · exact n2 _ _ (Option.some.inj (h2.symm.trans h))
  · obtain ⟨_, _, h, _⟩ := h
    have := c.kn h
    rw [(hid_iff.mp h2).2] at this
    cases this
theorem Clear.notM (c : Clear X ca ρ Z H s) {a : Addr} {k : Nat} (hk : ρ[k]? = some a) {o : HO} (h2 : hid Z H a = some o) : False := (hid_iff.mp h2).1 (c.hz a (List.mem_of_getElem? hk))
theorem Clear.notTM (c : Clear X ca ρ Z H s) {a : Addr} {k : Nat} {xs : List V} (hk : ρ[k]? = some a) (h1 : SqT X.K (hid Z H) a xs) : False := by
  rcases h1 with (h | ⟨u, h⟩) | ⟨ob, h⟩
  · exact c.notM hk h
  · exact c.notM hk h
  · obtain ⟨_, _, h, _⟩ := h
    have := c.kn h
    exact c.live a (List.mem_of_getElem? hk) fun o e => by rw [this] at e; cases e
mutual
theorem Rp.det (c : Clear X ca ρ Z H s) : ∀ {v : V} {d e : D}, Rp X.K ca ρ (hid Z H) v d → Rp X.K ca ρ (hid Z H) v e → d = e
  | _, _, _, .non, h => by cases h; rfl
  | _, _, _, .bl, h => by cases h; rfl
  | _, _, _, .int, h => by cases h; rfl
  | _, _, _, .str, h => by cases h; rfl
  | _, _, _, .tup h p, h2 => by
    cases h2 with
    | tup h' p' => cases c.tup h h'; rw [RpL.det c p p']
    | lst h' p' => exact (c.notT h h' (fun _ z => by cases z) fun _ _ z => by cases z).elim
    | dct h' p' => exact (c.notT h h' (fun _ z => by cases z) fun _ _ z => by cases z).elim
    | obj e' h' p' => exact (c.notT h h' (fun _ z => by cases z) fun _ _ z => by cases z).elim
    | mt h' => exact (c.notTM h' h).elim
  | _, _, _, .lst h p, h2 => by
    cases h2 with
    | tup h' p' => exact (c.notT h' h (fun _ z => by cases z) fun _ _ z => by cases z).elim
    | lst h' p' => cases h.symm.trans h'; rw [RpL.det c p p']
    | dct h' p' => cases h.symm.trans h'
    | obj e' h' p' => cases h.symm.trans h'
    | mt h' => exact (c.notM h' h).elim
  | _, _, _, .dct h p, h2 => by
    cases h2 with
    | tup h' p' => exact (c.notT h' h (fun _ z => by cases z) fun _ _ z => by cases z).elim
    | lst h' p' => cases h.symm.trans h'
    | dct h' p' => cases h.symm.trans h'; rw [RpK.det c p p']
    | obj e' h' p' => cases h.symm.trans h'
    | mt h' => exact (c.notM h' h).elim
  | _, _, _, .obj e h p, h2 => by
    cases h2 with
    | tup h' p' => exact (c.notT h' h (fun _ z => by cases z) fun _ _ z => by cases z).elim
    | lst h' p' => cases h.symm.trans h'
    | dct h' p' => cases h.symm.trans h'
    | obj e' h' p' =>
      cases h.symm.trans h'
      have k := (c.cf.own _ _ _ _ e e').symm.trans (c.cf.own _ _ _ _ e e)
      have k := of_decide_eq_true ((Option.some.inj k).trans (decide_eq_true rfl))
      rw [RpF.det c p p', k]
    | mt h' => exact (c.notM h' h).elim
  | _, _, _, .mt hk, h2 => by
    cases h2 with
    | tup h' p' => exact (c.notTM hk h').elim
    | lst h' p' => exact (c.notM hk h').elim
    | dct h' p' => exact (c.notM hk h').elim
    | obj e' h' p' => exact (c.notM hk h').elim
    | mt h' =>
      obtain ⟨l1, e1⟩ := List.getElem?_eq_some_iff.mp hk
      obtain ⟨l2, e2⟩ := List.getElem?_eq_some_iff.mp h'
      have pw := List.pairwise_iff_getElem.mp c.nd
      rcases Nat.lt_trichotomy _ _ with lt | eq | gt
      · exact (pw _ _ l1 l2 lt (e1.trans e2.symm)).elim
      · rw [eq]
      · exact (pw _ _ l2 l1 gt (e2.trans e1.symm)).elim
theorem RpL.det (c : Clear X ca ρ Z H s) : ∀ {v : List V} {d e : List D}, RpL X.K ca ρ (hid Z H) v d → RpL X.K ca ρ (hid Z H) v e → d = e
  | _, _, _, .nil, h => by cases h; rfl
  | _, _, _, .cons h t, h2 => by cases h2 with | cons h' t' => rw [Rp.det c h h', RpL.det c t t']
theorem RpK.det (c : Clear X ca ρ Z H s) : ∀ {v : List (Key × V)} {d e : List (Key × D)}, RpK X.K ca ρ (hid Z H) v d → RpK X.K ca ρ (hid Z H) v e → d = e
  | _, _, _, .nil, h => by cases h; rfl
  | _, _, _, .cons h t, h2 => by cases h2 with | cons h' t' => rw [Rp.det c h h', RpK.det c t t']
theorem RpF.det (c : Clear X ca ρ Z H s) : ∀ {v : List (Str × V)} {d e : List (Str × D)}, RpF X.K ca ρ (hid Z H) v d → RpF X.K ca ρ (hid Z H) v e → d = e
  | _, _, _, .nil, h => by cases h; rfl
  | _, _, _, .cons h t, h2 => by cases h2 with | cons h' t' => rw [Rp.det c h h', RpF.det c t t']
end
end
end Fg
namespace GB
open PySem PySem.SeqAt
open AutoSeq1 (wpAny_loadPart')
open MeetsSeq MeetsSeq2 MeetsSeq3 SeqRoads2 GQ
section
variable {prog : Program} {w : World} {A : Around} {E : Value → Shared → Prop} {s : Shared}
/-- lists of unlike lengths -/
theorem rc_listU {l b : Addr} {items items2 : Array Value} {n n2 : Nat} {Q : Value → Shared → Prop} (hu : A.units < cLine) (hl1 : s.heap.get? l = some { cls := .type "list", data := .seq items n }) (hb1 : s.heap.get? b = some { cls := .type "list", data := .seq items2 n2 }) (hs : items.size ≠ items2.size) (q : Q (.bool false) s) :
    wpAny (model prog w) A (richCompare .Eq (.ref l) (.ref b)) Q E s := by
  refine wpAny_richCompare_same_room (op := .Eq) ⟨_, hl1, rfl⟩ ⟨_, hb1, rfl⟩ F.slot_list_eq (call_here F.slot_list_eq ⟨_, hl1, rfl⟩ F.entry_list_eq (F.args_list_eq_2 _ _) ?_) hu
  have sub := AutoSeq1.sub_list_list
  have ne : (items.size != items2.size) = true := by simp [hs]
  obtain ⟨hp, g, d, tk, os⟩ := s
  wp_walk using wpAny_loadPart' hl1, wpAny_loadPart' hb1
  exact ⟨(fun x => nomatch x), q⟩
/-- an object and what is no object of the heap -/
theorem eqBool_un {a : Addr} {v : Value} {Q : Bool → Shared → Prop} (hne : (Value.ref a == v) = false) (h : wpAny (model prog w) A (richCompare .Eq (.ref a) v) (fun v s' => ∃ r, v = .bool r ∧ Q r s') E s) : wpAny (model prog w) A (eqBool (.ref a) v) Q E s := by
  unfold eqBool
  refine wpAny_holding (wpAny_ite_split (fun same => by rw [hne] at same; cases same) fun _ => wpAny_bind (wpAny_mono h (fun u s' hv => ?_) fun _ _ x => x))
  obtain ⟨r, rfl, q⟩ := hv
  exact wpAny_truthy_bool q
end
end GB
namespace Fg
open PySem PySem.Spec PyProof.Rows L2
variable [TQ]
/-- == of data, own objects by E -/
def eqX (E : Str → D → D → Option Bool) : Nat → D → D → Option Bool
  | 0, _, _ => none
  | n + 1, x, y => match x, y with
    | .lst xs, .lst ys => if xs.length = ys.length then (eqNL (eqX E n) xs ys).map (·.all id) else some false
    | .tup xs, .tup ys => (eqNL (eqX E n) xs ys).map fun bs => bs.all id && xs.length == ys.length
    | .obj c fs, y => if isMt y = true then none else E c (.obj c fs) y
    | .dct ks, .dct ls => if ks.length + ls.length = 0 then some true else none
    | x, y => if scalD x = true ∧ scalD y = true then some (eqF x y) else none
/-- E tells of the class c what its own == answers -/
def EqOwn (P : Program) (w : World) (K : PySem.W.Frag) (mg : Str → Option Value) (base : Heap) (ca ce : Str → Option Addr) (k : Nat) (c : Str) (g : D → D → Option Bool) : Prop :=
  ∃ C ps f, ca c = some C ∧ MCallee P w K mg base k C "__eq__" ps (spD K ca ce 2 f) ∧ (∀ c' D, ca c' = some D → c' ≠ c → PySem.W.subIn K (.ref D) (.ref C) = some false) ∧
    (∀ fs y b, g (.obj c fs) y = some b → ∀ S, f [.obj c fs, y] S = some (.ok (.bl b), S)) ∧ ∀ fs b, g (.obj c fs) (.obj c fs) = some b → b = true
theorem eqF_self {x : D} (h : scalD x = true) : eqF x x = true := by
  cases x <;> first | rfl | (cases h; done) | (show (_ == _) = true; exact beq_self_eq_true _)
section
variable {E : Str → D → D → Option Bool}
theorem eqNL_self {f : D → D → Option Bool} (h : ∀ d b, f d d = some b → b = true) : ∀ {ds : List D} {bs : List Bool}, eqNL f ds ds = some bs → bs.all id = true
  | [], bs, e => by cases e; rfl
  | d :: ds, bs, e => by
    have e : ((f d d).bind fun b => (eqNL f ds ds).map (b :: ·)) = some bs := e
    cases e1 : f d d with
    | none => rw [e1] at e; cases e
    | some b =>
      rw [e1] at e
      obtain ⟨cs, e2, e3⟩ := Option.map_eq_some_iff.mp (show (eqNL f ds ds).map (b :: ·) = some bs from e)
      subst e3
      rw [List.all_cons, h _ _ e1, eqNL_self h e2]
      rfl
theorem eqX_self (hE : ∀ c fs b, E c (.obj c fs) (.obj c fs) = some b → b = true) : ∀ (n : Nat) (d : D) (b : Bool), eqX E n d d = some b → b = true
  | 0, _, _, e => by cases e
  | n + 1, d, b, e => by
    have sc : scalD d = true ∧ scalD d = true → some (eqF d d) = some b → b = true := fun z q => by rw [eqF_self z.1] at q; exact (Option.some.inj q).symm
    cases d with
    | lst xs =>
      have e : (if xs.length = xs.length then (eqNL (eqX E n) xs xs).map (·.all id) else some false) = some b := e
      rw [if_pos rfl] at e
      obtain ⟨bs, e1, e2⟩ := Option.map_eq_some_iff.mp e
      rw [← e2]
      exact eqNL_self (eqX_self hE n) e1
    | tup xs =>
      obtain ⟨bs, e1, e2⟩ := Option.map_eq_some_iff.mp (show (eqNL (eqX E n) xs xs).map (fun bs => bs.all id && xs.length == xs.length) = some b from e)
      rw [← e2, eqNL_self (eqX_self hE n) e1, beq_self_eq_true]
      rfl
    | obj c fs =>
      have e : (if isMt (.obj c fs) = true then none else E c (.obj c fs) (.obj c fs)) = some b := e
      rw [if_neg (by intro z; cases z)] at e
      exact hE _ _ _ e
    | dct kvs =>
      have e : (if kvs.length + kvs.length = 0 then some true else none) = some b := e
      split at e
      · exact (Option.some.inj e).symm
      · cases e
    | mt k => unfold eqX at e; simp [scalD] at e
    | non => exact (Option.some.inj e).symm.trans (eqF_self rfl)
    | bl x => exact (Option.some.inj e).symm.trans (eqF_self rfl)
    | int x => exact (Option.some.inj e).symm.trans (eqF_self rfl)
    | str x => exact (Option.some.inj e).symm.trans (eqF_self rfl)
theorem eqNL_at {f : D → D → Option Bool} : ∀ {xs ys : List D} {bs : List Bool}, eqNL f xs ys = some bs → bs.length = min xs.length ys.length ∧ ∀ i (h1 : i < xs.length) (h2 : i < ys.length), f xs[i] ys[i] = some (bs.getD i false)
  | [], ys, bs, e => by cases e; exact ⟨by simp, fun i h => absurd h (Nat.not_lt_zero i)⟩
  | x :: xs, [], bs, e => by cases e; exact ⟨by simp, fun i _ h => absurd h (Nat.not_lt_zero i)⟩
  | x :: xs, y :: ys, bs, e => by
    have e : ((f x y).bind fun b => (eqNL f xs ys).map (b :: ·)) = some bs := e
    cases e1 : f x y with
    | none => rw [e1] at e; cases e
    | some b =>
      rw [e1] at e
      obtain ⟨cs, e2, e3⟩ := Option.map_eq_some_iff.mp (show (eqNL f xs ys).map (b :: ·) = some bs from e)
      subst e3
      obtain ⟨hl, hr⟩ := eqNL_at e2
      refine ⟨by simp only [List.length_cons]; omega, fun i h1 h2 => ?_⟩
      match i with
      | 0 => exact e1
      | i + 1 => exact hr i (Nat.lt_of_succ_lt_succ h1) (Nat.lt_of_succ_lt_succ h2)
end
end Fg
namespace Fg
open PySem PySem.Spec PyProof.Rows L2
variable [TQ]
section
variable {X : Cx} {ca ce : Str → Option Addr} {Xs : Addr → Prop} {S : Sto} {k : Nat} {E : Str → D → D → Option Bool}
noncomputable abbrev HidX (Xs : Addr → Prop) (ρ : List Addr) (H : Hp) : Hp := hid (fun b => Xs b ∨ b ∈ ρ) H
/-- what the walk keeps -/
def LX (X : Cx) (ca : Str → Option Addr) (Xs : Addr → Prop) (S : Sto) (pins : List (Addr × Obj)) (σ : L2.St) (H : Hp) (ρ : List Addr) (s' : Shared) : Prop := ∃ H' ρ', Inv X pins σ H' s' ∧ Gr ρ NoZ H ρ' H' ∧ Sta X.K ca ρ' Xs H' S
theorem keep_lst {H H' : Hp} {ρ ρ' : List Addr} {a : Addr} {vs : List V} (g : Gr ρ NoZ H ρ' H') (h : HidX Xs ρ H a = some (.lst vs)) : HidX Xs ρ' H' a = some (.lst vs) :=
  g.sees (Z := Xs) (fun _ z => z.elim) (fun b h => .inl h) a _ h fun _ z => by cases z
theorem rp_gr {H H' : Hp} {ρ ρ' : List Addr} {v : V} {d : D} (g : Gr ρ NoZ H ρ' H') (h : Rp X.K ca ρ (HidX Xs ρ H) v d) : Rp X.K ca ρ' (HidX Xs ρ' H') v d :=
  Rp.mono g.at (g.sees (Z := Xs) (fun _ z => z.elim) fun b h => .inl h) h
theorem clear_of {pins : List (Addr × Obj)} {σ : L2.St} {H : Hp} {s : Shared} {ρ : List Addr} (cf : ClF X.K ca) (I : Inv X pins σ H s) (st : Sta X.K ca ρ Xs H S) : Clear X ca ρ (fun b => Xs b ∨ b ∈ ρ) H s :=
  ⟨⟨pins, σ, I⟩, fun b hb => .inr hb, st.nd, fun b hb => st.live b (.inr hb), cf⟩
/-- == of data inside a builtin -/
theorem eqX_run (cf : ClF X.K ca) (hE : ∀ c, (∀ x y, E c x y = none) ∨ EqOwn X.prog X.w X.K X.mg X.base ca ce k c (E c)) : ∀ (n : Nat) {d e : D} {b : Bool}, eqX E n d e = some b →
    ∀ (A : Around), Sub X (k + n + 1) A → ∀ {x y : V} {u v : Value} {pins : List (Addr × Obj)} {σ : L2.St} {H : Hp} {s : Shared} {ρ : List Addr}, Inv X pins σ H s → Sta X.K ca ρ Xs H S → Rp X.K ca ρ (HidX Xs ρ H) x d → Rp X.K ca ρ (HidX Xs ρ H) y e → RelV x u → RelV y v →
    wpAny (model X.prog X.w) A (eqBool u v) (fun r s' => r = b ∧ LX X ca Xs S pins σ H ρ s') X.xe s := by
  have hself : ∀ c fs b, E c (.obj c fs) (.obj c fs) = some b → b = true := fun c fs b h => by
    rcases hE c with h0 | ⟨C, ps, f, _, _, _, _, hr⟩
    · rw [h0] at h; cases h
    · exact hr _ _ h
  intro n
  induction n with
  | zero => intro d e b h; cases h
  | succ n ih =>
    intro d e b h A sb x y u v pins σ H s ρ I st hx hy rx ry
    have here : LX X ca Xs S pins σ H ρ s := ⟨H, ρ, I, Gr.refl _ _ _, st⟩
    have flat : scalD d = true → scalD e = true → eqF d e = b → wpAny (model X.prog X.w) A (eqBool u v) (fun r s' => r = b ∧ LX X ca Xs S pins σ H ρ s') X.xe s := fun h1 h2 h3 => by
      have e1 : x = scV d := by cases d <;> first | (cases h1; done) | (cases hx; rfl)
      have e2 : y = scV e := by cases e <;> first | (cases h2; done) | (cases hy; rfl)
      subst e1 e2
      have q := eqAt_V (A := A) (s := s) rx ry (flat_scal h1) (flat_scal h2)
      rw [eqF_V h1 h2, h3] at q
      exact q X.prog X.w X.xe _ ⟨rfl, here⟩
    -- the same object
    have same : x = y → (∃ a, x = .ref a) → wpAny (model X.prog X.w) A (eqBool u v) (fun r s' => r = b ∧ LX X ca Xs S pins σ H ρ s') X.xe s := fun exy ⟨a, ex⟩ => by
      subst exy ex
      have ed := Rp.det (clear_of cf I st) hx hy
      subst ed
      cases rx
      cases ry
      exact SeqAt.EqAt.same (A := A) (s := s) (.ref a) X.prog X.w X.xe _ ⟨(eqX_self hself (n + 1) d b h).symm, here⟩
    -- item by item
    have items : ∀ {xs ys : List D} {vs ws : List V} {bs : List Bool} {its its2 : List Value}, RpL X.K ca ρ (HidX Xs ρ H) vs xs → RpL X.K ca ρ (HidX Xs ρ H) ws ys → eqNL (eqX E n) xs ys = some bs → L2.Vals vs its → L2.Vals ws its2 →
        ∀ i (h1 : i < its.toArray.size) (h2 : i < its2.toArray.size) (s1 : Shared), LX X ca Xs S pins σ H ρ s1 → wpAny (model X.prog X.w) A.in1 (eqBool its.toArray[i] its2.toArray[i]) (fun r s' => r = bs.getD i false ∧ LX X ca Xs S pins σ H ρ s') X.xe s1 := by
      intro xs ys vs ws bs its its2 p1 p2 eb r1 r2 i h1 h2 s1 ⟨H1, ρ1, I1, g1, st1⟩
      have l1 : i < its.length := by simpa using h1
      have l2 : i < its2.length := by simpa using h2
      have k1 : i < vs.length := by rw [r1.length]; exact l1
      have k2 : i < ws.length := by rw [r2.length]; exact l2
      have m1 : i < xs.length := by rw [← RpL.length p1]; exact k1
      have m2 : i < ys.length := by rw [← RpL.length p2]; exact k2
      obtain ⟨v1, ev1, q1⟩ := p1.get (List.getElem?_eq_getElem m1)
      obtain ⟨v2, ev2, q2⟩ := p2.get (List.getElem?_eq_getElem m2)
      obtain ⟨u1, eu1, z1⟩ := r1.get ev1
      obtain ⟨u2, eu2, z2⟩ := r2.get ev2
      have a1 : its.toArray[i] = u1 := by
        rw [List.getElem?_eq_getElem l1] at eu1
        simpa using Option.some.inj eu1
      have a2 : its2.toArray[i] = u2 := by
        rw [List.getElem?_eq_getElem l2] at eu2
        simpa using Option.some.inj eu2
      rw [a1, a2]
      refine wpAny_mono (ih ((eqNL_at eb).2 i m1 m2) A.in1 (Sub.in1 (sb.mono (by omega))) I1 st1 (rp_gr g1 q1) (rp_gr g1 q2) z1 z2) (fun r s2 ⟨er, H2, ρ2, I2, g2, st2⟩ => ⟨er, H2, ρ2, I2, g1.tr g2, st2⟩) fun _ _ z => z
    have hu := sb.room.units0
    have other : (scalD d = true ∧ scalD e = true → some (eqF d e) = some b → wpAny (model X.prog X.w) A (eqBool u v) (fun r s' => r = b ∧ LX X ca Xs S pins σ H ρ s') X.xe s) := fun z q => flat z.1 z.2 (Option.some.inj q)
    have scal : (if scalD d = true ∧ scalD e = true then some (eqF d e) else none) = some b → wpAny (model X.prog X.w) A (eqBool u v) (fun r s' => r = b ∧ LX X ca Xs S pins σ H ρ s') X.xe s := fun q => by
      split at q
      · rename_i z; exact other z q
      · cases q
    cases d with
    | non => exact scal h
    | bl _ => exact scal h
    | int _ => exact scal h
    | str _ => exact scal h
    | dct ks =>
      cases e with
      | dct ls =>
        have h : (if ks.length + ls.length = 0 then some true else none) = some b := h
        split at h
        · rename_i hz
          cases h
          have hk : ks = [] := List.length_eq_zero_iff.mp (by omega)
          have hl : ls = [] := List.length_eq_zero_iff.mp (by omega)
          subst hk
          subst hl
          cases hx with | dct ha pa => ?_
          cases hy with | dct hb pb => ?_
          cases pa
          cases pb
          rename_i a c
          by_cases ac : a = c
          · exact same (by rw [ac]) ⟨_, rfl⟩
          cases rx
          cases ry
          obtain ⟨_, ya, va, ra, da⟩ := dk_of I.hok (hid_iff.mp ha).2
          obtain ⟨_, yb, vb, rb, db⟩ := dk_of I.hok (hid_iff.mp hb).2
          cases ra
          cases rb
          exact GQ.eqBool_refG ac (PySem.W.keq_eq (knd := mixKind X.prog X.w) ya yb da db hu (fun _ => .nil) ⟨_, rfl, rfl, here⟩)
        · cases h
      | non => exact scal h
      | bl _ => exact scal h
      | int _ => exact scal h
      | str _ => exact scal h
      | lst _ => exact scal h
      | mt _ => exact scal h
      | tup _ => exact scal h
      | obj _ _ => exact scal h
    | mt _ => exact scal h
    | lst xs =>
      cases e with
      | lst ys =>
        cases hx with | lst ha pa => ?_
        cases hy with | lst hb pb => ?_
        rename_i a vs c ws
        by_cases ac : a = c
        · exact same (by rw [ac]) ⟨_, rfl⟩
        cases rx
        cases ry
        have at_ : ∀ {s1 : Shared} {H1 : Hp} {ρ1 : List Addr} {a : Addr} {vs : List V}, Inv X pins σ H1 s1 → Gr ρ NoZ H ρ1 H1 → HidX Xs ρ H a = some (.lst vs) → ∃ (its : List Value) (m : Nat), L2.Vals vs its ∧ s1.heap.get? a = some { cls := .type "list", data := .seq its.toArray m } := fun {s1 H1 ρ1 a vs} I1 g1 h1 => by
          obtain ⟨_, its, m, r, e⟩ := I1.hok a _ (hid_iff.mp (keep_lst g1 h1)).2
          exact ⟨its, m, r, e⟩
        have h : (if xs.length = ys.length then (eqNL (eqX E n) xs ys).map (·.all id) else some false) = some b := h
        split at h
        · rename_i hl
          obtain ⟨bs, eb, e2⟩ := Option.map_eq_some_iff.mp h
          have bl := (eqNL_at eb).1
          refine GQ.eqBool_refG ac (GB.rc_listB (bs := bs) hu (LX X ca Xs S pins σ H ρ) (fun s1 L1 => ?_) (fun s1 L1 => ⟨_, rfl, e2, L1⟩) here)
          obtain ⟨H1, ρ1, I1, g1, st1⟩ := id L1
          obtain ⟨its, m, r1, q1⟩ := at_ I1 g1 ha
          obtain ⟨its2, m2, r2, q2⟩ := at_ I1 g1 hb
          have z1 := RpL.length pa
          have z2 := RpL.length pb
          have z3 := r1.length
          have z4 := r2.length
          exact ⟨its.toArray, its2.toArray, m, m2, ⟨q1, q2⟩, ⟨by rw [List.size_toArray]; omega, by rw [List.size_toArray]; omega⟩, fun i h1 h2 => items pa pb eb r1 r2 i h1 h2 s1 L1⟩
        · rename_i hl
          cases h
          obtain ⟨its, m, r1, q1⟩ := at_ I (Gr.refl _ _ _) ha
          obtain ⟨its2, m2, r2, q2⟩ := at_ I (Gr.refl _ _ _) hb
          have z1 := RpL.length pa
          have z2 := RpL.length pb
          have z3 := r1.length
          have z4 := r2.length
          exact GQ.eqBool_refG ac (GB.rc_listU hu q1 q2 (by rw [List.size_toArray, List.size_toArray]; omega) ⟨_, rfl, rfl, here⟩)
      | non => exact scal h
      | bl _ => exact scal h
      | int _ => exact scal h
      | str _ => exact scal h
      | dct _ => exact scal h
      | mt _ => exact scal h
      | tup _ => exact scal h
      | obj _ _ => exact scal h
    | tup xs =>
      cases e with
      | tup ys =>
        cases hx with | tup ha pa => ?_
        cases hy with | tup hb pb => ?_
        rename_i a vs c ws
        by_cases ac : a = c
        · exact same (by rw [ac]) ⟨_, rfl⟩
        cases rx
        cases ry
        obtain ⟨bs, eb, e2⟩ := Option.map_eq_some_iff.mp (show (eqNL (eqX E n) xs ys).map (fun bs => bs.all id && xs.length == ys.length) = some b from h)
        have bl := (eqNL_at eb).1
        obtain ⟨its, r1, t1, _⟩ := I.tuple (SqT.ext (fun b o e _ => (hid_iff.mp e).2) ha)
        obtain ⟨its2, r2, t2, _⟩ := I.tuple (SqT.ext (fun b o e _ => (hid_iff.mp e).2) hb)
        have z1 := RpL.length pa
        have z2 := RpL.length pb
        have z3 := r1.length
        have z4 := r2.length
        have hs : (its.toArray.size == its2.toArray.size) = (xs.length == ys.length) := by rw [List.size_toArray, List.size_toArray, ← z3, ← z4, z1, z2]
        exact GQ.eqBool_refG ac (GB.rc_tupB (bs := bs) (by rw [List.size_toArray, List.size_toArray]; omega) hu (LX X ca Xs S pins σ H ρ) t1 t2 (fun i h1 h2 s1 L1 => items pa pb eb r1 r2 i h1 h2 s1 L1) (fun s1 L1 => ⟨_, rfl, by rw [hs]; exact e2, L1⟩) here)
      | non => exact scal h
      | bl _ => exact scal h
      | int _ => exact scal h
      | str _ => exact scal h
      | dct _ => exact scal h
      | mt _ => exact scal h
      | lst _ => exact scal h
      | obj _ _ => exact scal h
    | obj c fs =>
      have h : (if isMt e = true then none else E c (.obj c fs) e) = some b := h
      split at h
      · cases h
      rename_i hm
      rcases hE c with h0 | ⟨C, ps, f, hc, cc, hs, hf, hr⟩
      · rw [h0] at h; cases h
      have hx' : Rin (⟨X.K, ca, ce, H, Xs, ρ, noE, none⟩ : Fr) .tr (fun _ => none) ρ H x (.obj c fs) := hx
      obtain ⟨a, C', dx, vs, e0, e1, ha, _⟩ := Rin.obj hx'
      subst e0
      cases hc.symm.trans e1
      by_cases sm : V.ref a = y
      · exact same sm ⟨_, rfl⟩
      cases rx
      have ne : (Value.ref a == v) = false := beq_eq_false_iff_ne.mpr fun z => by
        subst z
        cases y <;> first | (cases ry; exact sm rfl) | (obtain ⟨_, z⟩ := ry; cases z) | cases ry
      have ty : ∃ t, TyX X.K H y t ∧ FarT X.K C t := by
        have hy' : Rin (⟨X.K, ca, ce, H, Xs, ρ, noE, none⟩ : Fr) .tr (fun _ => none) ρ H y e := hy
        cases e with
        | obj c' fs' =>
          obtain ⟨a', D', dx', vs', e0', e1', h1', h3'⟩ := Rin.obj hy'
          refine ⟨.ref D', tyX_of cf hy' (by show Option.map Value.ref (ca _) = _; rw [show ca c' = some D' from e1']; rfl), ?_⟩
          by_cases z : c' = c
          · subst z; cases hc.symm.trans (show ca c' = some D' from e1'); exact far_self
          · unfold FarT PySem.W.notFirst; rw [hs c' D' e1' z]; simp
        | mt k => exact absurd rfl hm
        | non => exact ⟨_, tyX_of cf hy' rfl, far_ty (by decide)⟩
        | bl _ => exact ⟨_, tyX_of cf hy' rfl, far_ty (by decide)⟩
        | int _ => exact ⟨_, tyX_of cf hy' rfl, far_ty (by decide)⟩
        | str _ => exact ⟨_, tyX_of cf hy' rfl, far_ty (by decide)⟩
        | tup _ => exact ⟨_, tyX_of cf hy' rfl, far_ty (by decide)⟩
        | lst _ => exact ⟨_, tyX_of cf hy' rfl, far_ty (by decide)⟩
        | dct _ => exact ⟨_, tyX_of cf hy' rfl, far_ty (by decide)⟩
      obtain ⟨t, ty, far⟩ := ty
      obtain ⟨g, fd, F, cl, hm2, hb2⟩ := cc.ex
      obtain ⟨mA, J, _⟩ := ins_get I.hok ha
      obtain ⟨od, J, _⟩ := J.look
      obtain ⟨m, hF⟩ := I.fr
      obtain ⟨P, kx, hP, _⟩ := kit_of I ry ty
      refine GB.eqBool_un ne (PySem.W.cmp_K (op := .Eq) (tb := t) hu hF I.ok.mod.kin J (kx.ty _ _ I.kIn hP) far hm2.at_ hm2.fn ?_)
      have sp : spD X.K ca ce 2 f [.ref a, y] H (fun w H' => w = .bl b ∧ ∃ ρ', Gr ρ NoZ H ρ' H' ∧ Sta X.K ca ρ' Xs H' S) noE := by
        refine ⟨Xs, ρ, [.obj c fs, e], S, rfl, st, .cons hx (.cons hy .nil), ?_⟩
        rw [hf _ _ _ h S]
        intro w H' ρ' en hw
        cases hw
        exact ⟨rfl, ρ', en.gr, en.sta⟩
      refine wpAny_mono (run_in (us := [.ref a, v]) F (sb.room.mono (by omega)) sb.fr hb2 I (.cons (show RelV (.ref a) (.ref a) from rfl) (.cons ry .nil)) sp) (fun r s' z => ?_) fun _ _ e => e
      obtain ⟨v', H', I', rz, ew, ρ', g', st'⟩ := z
      subst ew
      cases rz
      exact ⟨b, rfl, rfl, H', ρ', I', g', st'⟩
end
end Fg
namespace Fg
open PySem PySem.Spec PyProof.Rows L2
variable [TQ]
def Free {α : Type} (m : M α) : Prop := ∃ r : Option (Except Ex α), ∀ S, m S = r.map fun a => (a, S)
section
variable {α β : Type} {m : M α} {f : α → M β}
theorem Free.pure (a : α) : Free (pure a : M α) := ⟨some (.ok a), fun _ => rfl⟩
theorem Free.stuck : Free (M.stuck : M α) := ⟨none, fun _ => rfl⟩
theorem Free.bind (h : Free m) (k : ∀ a, Free (f a)) : Free (m >>= f) := by
  obtain ⟨r, h⟩ := h
  have u : ∀ S, (m >>= f) S = M.bind m f S := fun _ => rfl
  cases r with
  | none => exact ⟨none, fun S => by rw [u]; unfold M.bind; rw [h S]; rfl⟩
  | some x =>
    cases x with
    | error e => exact ⟨some (.error e), fun S => by rw [u]; unfold M.bind; rw [h S]; rfl⟩
    | ok a =>
      obtain ⟨r2, h2⟩ := k a
      exact ⟨r2, fun S => by rw [u]; unfold M.bind; rw [h S]; exact h2 S⟩
theorem Free.opt {o : Option α} : Free (M.opt o) := by
  cases o with
  | none => exact ⟨none, fun _ => rfl⟩
  | some a => exact ⟨some (.ok a), fun _ => rfl⟩
theorem Free.ite {c : Prop} [Decidable c] {x y : M α} (h1 : Free x) (h2 : Free y) : Free (if c then x else y) := by split <;> assumption
/-- from one store to another -/
theorem Free.at {S S' S2 : Sto} {x : Except Ex α} (h : Free m) (e : m S = some (x, S')) : m S2 = some (x, S2) := by
  obtain ⟨r, h⟩ := h
  rw [h S] at e
  rw [h S2]
  cases r with
  | none => cases e
  | some y =>
    cases e
    rfl
end
/-- what f answers of two -/
def ev2 (f : List D → M D) (x y : D) : Option Bool := match f [x, y] [] with
  | some (.ok (.bl b), _) => some b
  | _ => none
theorem ev2_at {f : List D → M D} {x y : D} {b : Bool} (h : Free (f [x, y])) (e : ev2 f x y = some b) (S : Sto) : f [x, y] S = some (.ok (.bl b), S) := by
  unfold ev2 at e
  split at e
  · rename_i b' S' e2
    cases e
    exact h.at e2
  · cases e
section
variable {δ : DEnv} {t u ta tb : DEnv → M D} {tl : DEnv → M (List D)} {b c : DEnv → M (DEnv × Fl)} {n i : Nat} {ds : List D} {d : D}
theorem Free.run (h : Free (b (startD n ds))) : Free (runD n b ds) := Free.bind h fun p => by
  obtain ⟨δ', fl⟩ := p
  cases fl <;> first | exact Free.pure _ | exact Free.stuck
theorem Free.seq1 (h : Free (t δ)) : Free (seqS (retS t) skipS δ) := Free.bind (Free.bind h fun d => Free.pure _) fun p => by
  obtain ⟨δ', fl⟩ := p
  cases fl <;> exact Free.pure _
theorem Free.rd : Free (rd i δ) := Free.opt
theorem Free.cst : Free (cM d δ) := Free.pure _
theorem Free.nil : Free (nilM δ) := Free.pure _
theorem Free.cons (h1 : Free (t δ)) (h2 : Free (tl δ)) : Free (consM t tl δ) := Free.bind h1 fun _ => Free.bind h2 fun _ => Free.pure _
theorem Free.one {α : Type} {g : D → M α} (h : Free (t δ)) (hg : ∀ d, Free (g d)) : Free (oneM g t δ) := Free.bind h hg
theorem Free.bin {g : D → D → M D} (h1 : Free (ta δ)) (h2 : Free (tb δ)) (hg : ∀ x y, Free (g x y)) : Free (binM g ta tb δ) := Free.bind h1 fun _ => Free.bind h2 fun _ => hg _ _
theorem Free.tup (h : Free (tl δ)) : Free (tupM tl δ) := Free.bind h fun _ => Free.bind (by unfold capL; exact Free.ite (Free.pure _) Free.stuck) fun _ => Free.pure _
theorem Free.fld {c f : Str} {x : D} : Free (fldD c f x) := by cases x <;> first | exact Free.stuck | exact Free.ite Free.opt Free.stuck
theorem Free.isC {c : Str} {x : D} : Free (isCD c x) := by cases x <;> first | exact Free.stuck | exact Free.pure _
theorem Free.tst {x : D} : Free (tbD x) := by cases x <;> first | exact Free.stuck | exact Free.pure _
theorem Free.and (h1 : Free (t δ)) (h2 : Free (u δ)) : Free (andE t u δ) := Free.bind h1 fun _ => Free.bind Free.tst fun _ => Free.ite h2 (Free.pure _)
theorem Free.meth0 {c mn : Str} {f : List D → M D} (h1 : Free (t δ)) (hf : ∀ x, Free (f [x])) : Free (methD c mn 1 f t nilM δ) := Free.bind h1 fun x => Free.bind (by cases x <;> first | exact Free.stuck | exact Free.ite (Free.pure _) Free.stuck) fun fs => by
  split
  · exact show Free (if ([] : List D).length + 1 = 1 then f [x] else M.stuck) from Free.ite (hf _) Free.stuck
  · exact Free.stuck
theorem Free.eqB {neg : Bool} {x y : D} : Free (eqBD neg x y) := by
  cases x <;> cases y <;> first | exact Free.stuck | exact Free.bind Free.opt fun _ => Free.pure _ | exact Free.ite (Free.bind Free.opt fun _ => Free.pure _) (Free.pure _)
end
theorem M.inv {α β : Type} {m : M α} {f : α → M β} {S S' : Sto} {v : β} (h : (m >>= f) S = some (.ok v, S')) : ∃ a S1, m S = some (.ok a, S1) ∧ f a S1 = some (.ok v, S') := by
  have h : M.bind m f S = some (.ok v, S') := h
  unfold M.bind at h
  cases e : m S with
  | none => rw [e] at h; cases h
  | some p =>
    obtain ⟨r, S1⟩ := p
    rw [e] at h
    cases r with
    | error _ => cases h
    | ok a => exact ⟨a, S1, rfl, h⟩
/-- == as isinstance(other, C) and self.m() == other.m() -/
theorem eq_self {c mn : Str} {fP : List D → M D} {g : D → D → M D} (hP : ∀ x, Free (fP [x])) (hg : ∀ x b S S', g x x S = some (.ok (.bl b), S') → b = true) {x : D} {b : Bool} (hx : isO c x = true)
    (e : ev2 (runD 2 (seqS (retS (andE (oneM (isCD c) (rd 1)) (binM g (methD c mn 1 fP (rd 0) nilM) (methD c mn 1 fP (rd 1) nilM)))) skipS)) x x = some b) : b = true := by
  obtain ⟨fs, rfl⟩ := isO_obj hx
  unfold ev2 at e
  split at e
  · rename_i b' S' e2
    obtain rfl : b' = b := Option.some.inj e
    have fr : Free (methD c mn 1 fP (rd 0) nilM [some (.obj c fs), some (.obj c fs)]) := Free.meth0 Free.rd hP
    obtain ⟨⟨δ1, fl⟩, S1, h1, h2⟩ := M.inv e2
    obtain ⟨⟨δ2, fl2⟩, S2, h3, h4⟩ := M.inv h1
    obtain ⟨d, S3, h5, h6⟩ := M.inv h3
    have h6 : some (Except.ok (startD 2 [D.obj c fs, .obj c fs], Fl.rt d), S3) = some (.ok (δ2, fl2), S2) := h6
    cases h6
    have h4 : some (Except.ok (startD 2 [D.obj c fs, .obj c fs], Fl.rt d), S2) = some (.ok (δ1, fl), S1) := h4
    cases h4
    have h2 : some (Except.ok d, S1) = some (.ok (D.bl b'), S') := h2
    cases h2
    obtain ⟨x1, S4, h7, h8⟩ := M.inv h5
    have h7 : some (Except.ok (D.bl (decide (c = c))), []) = some (.ok x1, S4) := h7
    cases h7
    obtain ⟨bb, S5, h9, h10⟩ := M.inv h8
    have h9 : some (Except.ok (decide (c = c)), []) = some (.ok bb, S5) := h9
    cases h9
    rw [if_pos (decide_eq_true rfl)] at h10
    obtain ⟨x2, S6, h11, h12⟩ := M.inv h10
    obtain ⟨x3, S7, h13, h14⟩ := M.inv h12
    have h15 := fr.at (S2 := S6) h11
    have h13 : methD c mn 1 fP (rd 0) nilM [some (.obj c fs), some (.obj c fs)] S6 = some (.ok x3, S7) := h13
    rw [h15] at h13
    cases h13
    exact hg _ _ _ _ h14
  · cases e
end Fg
namespace Fg
open PySem PySem.Spec PyProof.Rows L2
variable [TQ]
theorem eqN_self : ∀ (n : Nat) (d : D) (b : Bool), eqN n d d = some b → b = true
  | 0, d, b, e => by
    unfold eqN at e
    split at e
    · rename_i z
      rw [eqF_self z.1] at e
      exact (Option.some.inj e).symm
    · cases e
  | n + 1, d, b, e => by
    have sc : scalD d = true → some (eqF d d) = some b → b = true := fun z q => by rw [eqF_self z] at q; exact (Option.some.inj q).symm
    cases d with
    | lst xs =>
      have e : (if xs.length = xs.length then (eqNL (eqN n) xs xs).map (·.all id) else some false) = some b := e
      rw [if_pos rfl] at e
      obtain ⟨bs, e1, e2⟩ := Option.map_eq_some_iff.mp e
      rw [← e2]
      exact eqNL_self (eqN_self n) e1
    | tup xs =>
      obtain ⟨bs, e1, e2⟩ := Option.map_eq_some_iff.mp (show (eqNL (eqN n) xs xs).map (fun bs => bs.all id && xs.length == xs.length) = some b from e)
      rw [← e2, eqNL_self (eqN_self n) e1, beq_self_eq_true]
      rfl
    | obj c fs => unfold eqN at e; simp [scalD] at e
    | dct kvs => unfold eqN at e; simp [scalD] at e
    | mt k => unfold eqN at e; simp [scalD] at e
    | non => exact sc rfl e
    | bl x => exact sc rfl e
    | int x => exact sc rfl e
    | str x => exact sc rfl e
theorem eqB_self {x : D} {b : Bool} {S S' : Sto} (h : eqBD false x x S = some (.ok (.bl b), S')) : b = true := by
  cases x <;> first | (cases h; done) | skip
  · rename_i xs
    have h : ((M.opt (eqNL (eqN 20) xs xs) >>= fun bs => (pure (D.bl (opp false (bs.all id && xs.length == xs.length))) : M D)) S) = some (.ok (.bl b), S') := h
    cases e : eqNL (eqN 20) xs xs with
    | none => rw [e] at h; cases h
    | some cs =>
      rw [e] at h
      have h : some (Except.ok (D.bl (cs.all id && xs.length == xs.length)), S) = some (.ok (.bl b), S') := h
      cases h
      rw [eqNL_self (eqN_self 20) e, beq_self_eq_true]
      rfl
  · rename_i xs
    have h : (if xs.length = xs.length then (M.opt (eqNL (eqN 20) xs xs) >>= fun bs => pure (.bl (opp false (bs.all id)))) else pure (.bl false) : M D) S = some (.ok (.bl b), S') := h
    rw [if_pos rfl] at h
    cases e : eqNL (eqN 20) xs xs with
    | none => rw [e] at h; cases h
    | some cs =>
      rw [e] at h
      have h : some (Except.ok (D.bl (cs.all id)), S) = some (.ok (.bl b), S') := h
      cases h
      exact eqNL_self (eqN_self 20) e
theorem EqOwn.up {P : Program} {w : World} {K : PySem.W.Frag} {mg : Str → Option Value} {base : Heap} {ca ce : Str → Option Addr} {k k' : Nat} {c : Str} {g : D → D → Option Bool} (h : EqOwn P w K mg base ca ce k c g) (hk : k ≤ k') : EqOwn P w K mg base ca ce k' c g := by
  obtain ⟨C, ps, f, h1, cc, r⟩ := h
  obtain ⟨g', fd, F, q⟩ := cc.ex
  exact ⟨C, ps, f, h1, ⟨g', fd, F.mono hk, q⟩, r⟩
end Fg
namespace Fg
open PySem PySem.Spec PyProof.Rows L2
variable [TQ]
def triM (f : D → D → D → M D) (t u v : DEnv → M D) : DEnv → M D := fun δ => do
  let x ← t δ
  match x with
  | .str a => (do let y ← u δ; let z ← v δ; f (.str a) y z)
  | _ => M.stuck
end Fg
namespace GB
open PySem PySem.SeqAt
open AutoSeq1 (wpAny_loadPart')
open MeetsSeq MeetsSeq2 MeetsSeq3 SeqRoads2 GQ
section
variable {prog : Program} {w : World} {A : Around} {E : Value → Shared → Prop} {s : Shared}
/-- lists of unlike lengths -/
theorem rc_listUn {l b : Addr} {items items2 : Array Value} {n n2 : Nat} {Q : Value → Shared → Prop} (hu : A.units < cLine) (hl1 : s.heap.get? l = some { cls := .type "list", data := .seq items n }) (hb1 : s.heap.get? b = some { cls := .type "list", data := .seq items2 n2 }) (hs : items.size ≠ items2.size) (q : Q (.bool true) s) :
    wpAny (model prog w) A (richCompare .NotEq (.ref l) (.ref b)) Q E s := by
  refine wpAny_richCompare_same_room (op := .NotEq) ⟨_, hl1, rfl⟩ ⟨_, hb1, rfl⟩ F.slot_list_ne (call_here F.slot_list_ne ⟨_, hl1, rfl⟩ F.entry_list_ne (F.args_list_ne_2 _ _) ?_) hu
  have sub := AutoSeq1.sub_list_list
  have ne : (items.size != items2.size) = true := by simp [hs]
  obtain ⟨hp, g, d, tk, os⟩ := s
  wp_walk using wpAny_loadPart' hl1, wpAny_loadPart' hb1
  exact ⟨(fun x => nomatch x), q⟩
end
end GB
namespace Fg
open PySem PySem.Spec PyProof.Rows L2
abbrev Rs (α : Type) := Option (Except Ex α × Sto)
/-- the run goes on with f -/
def bnd {α β : Type} (r : Rs α) (f : α → M β) : Rs β := match r with
  | none => none
  | some (.error e, S') => some (.error e, S')
  | some (.ok a, S') => f a S'
/-- a condition that decides a run -/
def cnd {α : Type} (c : Prop) [Decidable c] (x y : M α) (S : Sto) : Rs α := (if c then x else y) S
section
variable {α β : Type} {S S' : Sto}
theorem ev_bind {m : M α} {f : α → M β} : (m >>= f) S = bnd (m S) f := id rfl
theorem ev_pure {a : α} : (pure a : M α) S = some (.ok a, S) := id rfl
theorem ev_ok {a : α} {f : α → M β} : bnd (some (.ok a, S')) f = f a S' := id rfl
theorem ev_er {e : Ex} {f : α → M β} : bnd (some (.error e, S')) f = some (.error e, S') := id rfl
theorem ev_no {f : α → M β} : bnd none f = none := id rfl
theorem ev_ite {c : Prop} [Decidable c] {x y : M α} : (if c then x else y) S = cnd c x y S := id rfl
theorem ev_t {x y : M α} : cnd True x y S = x S := by unfold cnd; rw [if_pos trivial]
theorem ev_f {x y : M α} : cnd False x y S = y S := by unfold cnd; rw [if_neg (fun h => h)]
theorem cnd_t {c : Prop} [Decidable c] (h : c) {x y : M α} : cnd c x y S = x S := by unfold cnd; rw [if_pos h]
theorem ev_some {a : α} : M.opt (some a) S = some (.ok a, S) := id rfl
theorem ev_raise {e : Ex} : (M.raise e : M α) S = some (.error e, S) := id rfl
theorem ev_noErr {a : α} {m : M α} : noErr m S = match m S with
  | some (.error _, _) => none
  | r => r := by unfold noErr; rfl
def nErr (r : Rs α) : Rs α := match r with
  | some (.error _, _) => none
  | r => r
theorem ev_nE {m : M α} : noErr m S = nErr (m S) := id rfl
theorem ev_nEo {a : α} : nErr (some (.ok a, S)) = some (.ok a, S) := id rfl
end
section
variable {S S' : Sto} {δ δ' : DEnv} {i n : Nat} {d x y z : D} {ds es : List D} {o : Option D} {t u v : DEnv → M D} {tl ul : DEnv → M (List D)} {b c : DEnv → M Bool} {s w : DEnv → M (DEnv × Fl)} {g : D → DEnv → M DEnv} {f : List D → M D}
theorem ev_rd0 : rd 0 (some d :: δ) S = some (.ok d, S) := id rfl
theorem ev_rdS : rd (i + 1) (o :: δ) S = rd i δ S := id rfl
theorem ev_st0 : startD 0 [] = [] := id rfl
theorem ev_stN : startD (n + 1) [] = none :: startD n [] := id rfl
theorem ev_stS : startD (n + 1) (d :: ds) = some d :: startD n ds := by
  unfold startD
  rw [List.map_cons, List.length_cons, Nat.succ_sub_succ]
  rfl
def seqF (w : DEnv → M (DEnv × Fl)) (p : DEnv × Fl) : M (DEnv × Fl) := match p.2 with
  | .nx => w p.1
  | _ => pure p
theorem ev_seq : seqS s w δ S = bnd (s δ S) (seqF w) := id rfl
theorem ev_sqn : seqF w (δ, .nx) S = w δ S := id rfl
theorem ev_sqr : seqF w (δ, .rt d) S = some (.ok (δ, .rt d), S) := id rfl
theorem ev_sqb : seqF w (δ, .bk) S = some (.ok (δ, .bk), S) := id rfl
theorem ev_sqc : seqF w (δ, .ct) S = some (.ok (δ, .ct), S) := id rfl
theorem ev_skip : skipS δ S = some (.ok (δ, .nx), S) := id rfl
theorem ev_brk : brkS δ S = some (.ok (δ, .bk), S) := id rfl
theorem ev_ctn : ctS δ S = some (.ok (δ, .ct), S) := id rfl
theorem ev_set : setS i t δ S = bnd (t δ S) fun d => pure (δ.set i (some d), .nx) := id rfl
theorem ev_ret : retS t δ S = bnd (t δ S) fun d => pure (δ, .rt d) := id rfl
theorem ev_drop : dropS t δ S = bnd (t δ S) fun _ => pure (δ, .nx) := id rfl
theorem ev_ifs : ifS b s w δ S = bnd (b δ S) fun k => if k = true then s δ else w δ := id rfl
theorem ev_ife : ifE b t u δ S = bnd (b δ S) fun k => if k = true then t δ else u δ := id rfl
def runF (p : DEnv × Fl) : M D := match p.2 with
  | .nx => pure .non
  | .rt d => pure d
  | _ => M.stuck
theorem ev_run : runD n s ds S = bnd (s (startD n ds) S) runF := id rfl
theorem ev_rnn : runF (δ, .nx) S = some (.ok .non, S) := id rfl
theorem ev_rnr : runF (δ, .rt d) S = some (.ok d, S) := id rfl
def runO (p : DEnv × Fl) : M D := match p.2 with
  | .nx => M.opt p.1[0]?.join
  | _ => M.stuck
theorem ev_runi {k : Str} : runI k n s ds S = bnd (s (startD n (.obj k [] :: ds)) S) runO := id rfl
theorem ev_rni : runO (some d :: δ, .nx) S = some (.ok d, S) := id rfl
theorem ev_app : appS i t δ S = bnd (rd i δ S) fun x => (do let ds ← itL x; let d ← t δ; if ds.length < sizeLine then pure (δ.set i (some (.lst (ds ++ [d]))), Fl.nx) else M.stuck) := id rfl
theorem ev_aug {f : D → D → M D} : augS f i t δ S = bnd (rd i δ S) fun x => (do let y ← t δ; let z ← f x y; pure (δ.set i (some z), Fl.nx)) := id rfl
theorem ev_par {j : Nat} : parS i j t u δ S = bnd (t δ S) fun x => (do let y ← u δ; pure ((δ.set i (some x)).set j (some y), Fl.nx)) := id rfl
theorem ev_fld {k h : Str} : fldS i k h t δ S = bnd (t δ S) fun v => (do
  let x ← rd i δ
  let fs ← asO k x
  if fs.length < 1000 then pure (δ.set i (some (.obj k (putD h v fs))), Fl.nx) else M.stuck) := id rfl
theorem ev_rai {k h : Str} : raiseS k h t δ S = bnd (t δ S) fun d => M.raise ⟨k, [(h, d)]⟩ := id rfl
theorem ev_asO {k : Str} {fs : List (Str × D)} : asO k (.obj k fs) S = some (.ok fs, S) := by
  show (if k = k then pure fs else M.stuck : M (List (Str × D))) S = _
  rw [if_pos rfl]; rfl
theorem ev_tgn : tgN i d δ S = some (.ok (δ.set i (some d)), S) := id rfl
theorem ev_tgT {gs : List (D → DEnv → M DEnv)} : tgT gs (.tup ds) δ S = cnd (ds.length = gs.length) (tgs gs ds δ) M.stuck S := id rfl
theorem ev_tg0 : tgs [] [] δ S = some (.ok δ, S) := id rfl
theorem ev_tgS {gs : List (D → DEnv → M DEnv)} : tgs (g :: gs) (d :: ds) δ S = bnd (g d δ S) (tgs gs ds) := id rfl
theorem ev_fors : forS tl g s δ S = bnd (tl δ S) fun xs => forL g s xs δ := id rfl
theorem ev_for0 : forL g s [] δ S = some (.ok (δ, .nx), S) := id rfl
def forF (g : D → DEnv → M DEnv) (s : DEnv → M (DEnv × Fl)) (r : List D) (p : DEnv × Fl) : M (DEnv × Fl) := match p.2 with
  | .nx => forL g s r p.1
  | .ct => forL g s r p.1
  | .bk => pure (p.1, .nx)
  | .rt d => pure (p.1, .rt d)
def forB (g : D → DEnv → M DEnv) (s : DEnv → M (DEnv × Fl)) (r : List D) (δ : DEnv) : M (DEnv × Fl) := s δ >>= forF g s r
theorem ev_forS : forL g s (d :: ds) δ S = bnd (g d δ S) (forB g s ds) := id rfl
theorem ev_forB : forB g s ds δ S = bnd (s δ S) (forF g s ds) := id rfl
theorem ev_ffn : forF g s ds (δ, .nx) S = forL g s ds δ S := id rfl
theorem ev_ffc : forF g s ds (δ, .ct) S = forL g s ds δ S := id rfl
theorem ev_ffb : forF g s ds (δ, .bk) S = some (.ok (δ, .nx), S) := id rfl
theorem ev_ffr : forF g s ds (δ, .rt d) S = some (.ok (δ, .rt d), S) := id rfl
theorem ev_itL : itL (.lst ds) S = some (.ok ds, S) := id rfl
theorem ev_itT : itT (.tup ds) S = some (.ok ds, S) := id rfl
theorem ev_itS {a : Str} : itS (.str a) S = some (.ok (signsD a), S) := id rfl
theorem ev_tbd {k : Bool} : tbD (.bl k) S = some (.ok k, S) := id rfl
theorem ev_tv : tvM t δ S = bnd (t δ S) tbD := id rfl
theorem ev_not : notM b δ S = bnd (b δ S) fun k => pure (!k) := id rfl
theorem ev_and : andM b c δ S = bnd (b δ S) fun k => if k = true then c δ else pure false := id rfl
theorem ev_or : orM b c δ S = bnd (b δ S) fun k => if k = true then pure true else c δ := id rfl
theorem ev_ande : andE t u δ S = bnd (t δ S) fun x => (do let b ← tbD x; if b = true then u δ else pure (.bl false)) := id rfl
theorem ev_ore : orE t u δ S = bnd (t δ S) fun x => (do let b ← tbD x; if b = true then pure (.bl true) else u δ) := id rfl
theorem ev_tee : teE b δ S = bnd (b δ S) fun k => pure (.bl k) := id rfl
theorem ev_note : notE t δ S = bnd (t δ S) fun x => (do let b ← tbD x; pure (.bl !b)) := id rfl
theorem ev_yes : yesM δ S = some (.ok true, S) := id rfl
theorem ev_cons : consM t tl δ S = bnd (t δ S) fun x => (do let r ← tl δ; pure (x :: r)) := id rfl
theorem ev_nil : nilM δ S = some (.ok [], S) := id rfl
theorem ev_cap : capL ds S = cnd (ds.length ≤ sizeLine) (pure ()) M.stuck S := id rfl
theorem ev_call : callD n f tl δ S = bnd (tl δ S) fun ds => if ds.length = n then f ds else M.stuck := id rfl
theorem ev_ndd {m : Nat} {dd : List D} : newDD m i dd n f tl δ S = bnd (tl δ S) fun ds => if ds.length = m then (if (ds ++ dd.drop i).length + 1 = n then f (ds ++ dd.drop i) else M.stuck) else M.stuck := id rfl
theorem ev_nkd {idx : List Nat} {md : List D} {l : Nat} : newKD idx md l n f tl δ S = bnd (tl δ S) fun ds => if ds.length = l then (if (pick idx (md ++ ds)).length + 1 = n then f (pick idx (md ++ ds)) else M.stuck) else M.stuck := id rfl
theorem ev_nsd : newSD f tl δ S = bnd (tl δ S) fun ds => (do capL ds; f [.tup ds]) := id rfl
theorem ev_star : starM t tl δ S = bnd (t δ S) fun x => (do let ds ← sqD x; let r ← tl δ; pure (ds ++ r)) := id rfl
theorem ev_sqL : sqD (.lst ds) S = some (.ok ds, S) := id rfl
theorem ev_sqT : sqD (.tup ds) S = some (.ok ds, S) := id rfl
theorem ev_met {k h : Str} : methD k h n f t tl δ S = bnd (t δ S) fun x => (do
  let fs ← asO k x
  if fs.lookup h = none then (do let ds ← tl δ; if ds.length + 1 = n then f (x :: ds) else M.stuck) else M.stuck) := id rfl
theorem ev_lc {vs : List Nat} : lcD vs tl g b t δ S = bnd (tl δ S) fun xs => (do let ys ← compL g b t (wipeD δ vs) [] xs; pure (.lst ys)) := id rfl
theorem ev_str {k : D → D → M D} : strM k t u δ S = bnd (t δ S) fun x => match x with
  | .str z => (do let y ← u δ; k (.str z) y)
  | _ => M.stuck := id rfl
theorem ev_slc {k : D → Option Int → Option Int → M D} {l h : DEnv → M (Option Int)} : sliceM k t l h δ S = bnd (t δ S) fun x => (do let lo ← l δ; let hi ← h δ; k x lo hi) := id rfl
theorem ev_chain {p q : D → D → M D} : chainD p q t u v δ S = bnd (t δ S) fun x => (do
  let y ← u δ
  let r ← p x y
  let b ← tbD r
  if b = true then (do let z ← v δ; q y z) else pure (.bl false)) := id rfl
theorem ev_end {hs : List (Str × Str)} {O : List Nat} : endM hs O t δ S = endR hs (t (wipeD δ O) S) := id rfl
theorem ev_endo {hs : List (Str × Str)} : endR hs (some (.ok d, S)) = some (.ok (.lst [.str "given", d]), S) := id rfl
theorem ev_ende {hs : List (Str × Str)} {k h : Str} (e : hs.lookup k = some h) : endR hs (some (.error ⟨k, [(h, d)]⟩, S)) = some (.ok (.lst [.str k, d, .bl true]), S) := by
  show (match hs.lookup k, [(h, d)] with
    | some f, [(g, d)] => if g = f then some (Except.ok (D.lst [.str k, d, .bl true]), S) else none
    | _, _ => none) = _
  rw [e]
  show (if h = h then _ else _) = _
  rw [if_pos rfl]
theorem ev_add {i j : Int} : addD (.int i) (.int j) S = some (.ok (.int (i + j)), S) := id rfl
theorem ev_addS {p q : Str} : addD (.str p) (.str q) S = cnd (p.length + q.length ≤ sizeLine) (pure (.str (p ++ q))) M.stuck S := id rfl
theorem ev_cat : catD (.lst ds) (.lst es) S = cnd (ds.length + es.length ≤ sizeLine) (pure (.lst (ds ++ es))) M.stuck S := id rfl
theorem ev_sub {i j : Int} : subD (.int i) (.int j) S = some (.ok (.int (i - j)), S) := id rfl
theorem ev_mul {i j : Int} : mulD (.int i) (.int j) S = cnd (CM i j) (pure (.int (i * j))) M.stuck S := id rfl
theorem ev_mod {i j : Int} : modD (.int i) (.int j) S = cnd (0 < j) (pure (.int (i % j))) M.stuck S := id rfl
theorem ev_fdiv {i j : Int} : fdivD (.int i) (.int j) S = cnd (CDv i j) (pure (.int (i / j))) M.stuck S := id rfl
theorem ev_lt {i j : Int} : ltD (.int i) (.int j) S = some (.ok (.bl (decide (i < j))), S) := id rfl
theorem ev_le {i j : Int} : leD (.int i) (.int j) S = some (.ok (.bl (decide (i ≤ j))), S) := id rfl
theorem ev_gt {i j : Int} : gtD (.int i) (.int j) S = some (.ok (.bl (decide (j < i))), S) := id rfl
theorem ev_ge {i j : Int} : geD (.int i) (.int j) S = some (.ok (.bl (decide (j ≤ i))), S) := id rfl
theorem ev_eqI {i j : Int} : eqD (.int i) (.int j) S = some (.ok (.bl (decide (i = j))), S) := id rfl
theorem ev_eqS {p q : Str} : eqD (.str p) (.str q) S = some (.ok (.bl (decide (p = q))), S) := id rfl
theorem ev_eqB {p q : Bool} : eqD (.bl p) (.bl q) S = some (.ok (.bl (decide (p = q))), S) := id rfl
theorem ev_neI {i j : Int} : neD (.int i) (.int j) S = some (.ok (.bl (!decide (i = j))), S) := id rfl
theorem ev_neS {p q : Str} : neD (.str p) (.str q) S = some (.ok (.bl (!decide (p = q))), S) := id rfl
theorem ev_neB {p q : Bool} : neD (.bl p) (.bl q) S = some (.ok (.bl (!decide (p = q))), S) := id rfl
theorem ev_nn {k : Bool} : isNonD k .non .non S = some (.ok (.bl !k), S) := id rfl
theorem ev_nI {k : Bool} {i : Int} : isNonD k (.int i) .non S = some (.ok (.bl k), S) := id rfl
theorem ev_nS {k : Bool} {p : Str} : isNonD k (.str p) .non S = some (.ok (.bl k), S) := id rfl
theorem ev_nO {k : Bool} {p : Str} {fs : List (Str × D)} : isNonD k (.obj p fs) .non S = some (.ok (.bl k), S) := id rfl
theorem ev_nD {k : Bool} {fs : List (Key × D)} : isNonD k (.dct fs) .non S = some (.ok (.bl k), S) := id rfl
theorem ev_lenL : lenD [.lst ds] S = some (.ok (.int ds.length), S) := id rfl
theorem ev_lenT : lenD [.tup ds] S = some (.ok (.int ds.length), S) := id rfl
theorem ev_lenS {p : Str} : lenD [.str p] S = cnd (p.length ≤ sizeLine) (pure (.int p.length)) M.stuck S := id rfl
theorem ev_int {i : Int} : intD [.int i] S = some (.ok (.int i), S) := id rfl
theorem ev_ixL {i : Int} : ixD (.lst ds) (.int i) S = M.opt (atI ds i) S := id rfl
theorem ev_ixT {i : Int} : ixD (.tup ds) (.int i) S = M.opt (atI ds i) S := id rfl
theorem ev_fldD {k h : Str} {fs : List (Str × D)} : fldD k h (.obj k fs) S = M.opt (fs.lookup h) S := by
  show (if k = k then M.opt (fs.lookup h) else M.stuck : M D) S = _
  rw [if_pos rfl]
theorem ev_isC {k : Str} {fs : List (Str × D)} : isCD k (.obj k fs) S = some (.ok (.bl true), S) := by
  show some (Except.ok (D.bl (decide (k = k))), S) = _
  rw [decide_eq_true rfl]
theorem ev_neg {i : Int} : negD (.int i) S = some (.ok (.int (-i)), S) := id rfl
theorem ev_tup : tupleD [.lst ds] S = some (.ok (.tup ds), S) := id rfl
theorem ev_fmtS {p : Str} : fmtD (.str p) S = cnd (p.length ≤ sizeLine) (pure p) M.stuck S := id rfl
theorem ev_fmtI {i : Int} : fmtD (.int i) S = cnd (i.natAbs.log2 < 1920) (pure ((toString i : String) : Str) : M Str) M.stuck S := id rfl
theorem ev_slS {p : Str} {l h : Option Int} : slSD (.str p) l h S = cnd (p.length ≤ sizeLine) (pure (.str (cutS p l h))) M.stuck S := id rfl
theorem ev_slL {l h : Option Int} : slLD (.lst ds) l h S = some (.ok (.lst (cutD ds l h)), S) := id rfl
theorem ev_slT {l h : Option Int} : slTD (.tup ds) l h S = some (.ok (.tup (cutD ds l h)), S) := id rfl
theorem ev_part {i : Int} : partD (.int i) S = some (.ok (some i), S) := id rfl
theorem ev_wp0 : wipeD δ [] = δ := id rfl
theorem ev_wpS {vs : List Nat} : wipeD δ (i :: vs) = (wipeD δ vs).set i none := id rfl
theorem ev_sg1 {c : Nat} : isSign ⟨#[c]⟩ = some c := id rfl
theorem ev_inS {k : Bool} {p q : Str} : inSD k (.str p) (.str q) S = bnd (M.opt (isSign p) S) fun c => pure (.bl (opp k (decide (c ∈ q.cps.toList)))) := id rfl
theorem ev_index {p q : Str} : indexD (.str p) (.str q) S = bnd (M.opt (Txt.index0 p q) S) fun k => pure (.int (k : Nat)) := id rfl
theorem ev_ixS {p : Str} {i : Int} : ixD (.str p) (.int i) S = cnd (p.length ≤ sizeLine) (do let c ← M.opt (atI p.cps.toList i); pure (.str ⟨#[c]⟩)) M.stuck S := id rfl
theorem ev_jn0 {a : Str} : joinedM [] a δ S = some (.ok a, S) := id rfl
theorem ev_jnS {ts : List (DEnv → M D)} {a : Str} : joinedM (t :: ts) a δ S = bnd (t δ S) fun x => match x with
    | .str y => if (a ++ y).length ≤ sizeLine then joinedM ts (a ++ y) δ else M.stuck
    | _ => M.stuck := id rfl
end
theorem ev_sz {α : Type} {x y : M α} {S : Sto} {n : Nat} (h : n ≤ 16000000) : cnd (n ≤ sizeLine) x y S = x S := cnd_t (sz_le h)
theorem ev_szl {α : Type} {x y : M α} {S : Sto} {n : Nat} (h : n ≤ 16000000) : cnd (n < sizeLine) x y S = x S := cnd_t (sz_lt h)
theorem ev_at0 {α : Type} {x : α} {r : List α} : atI (x :: r) (0 : Int) = some x := atI_nat (j := 0) rfl
theorem ev_at1 {α : Type} {x y : α} {r : List α} : atI (x :: y :: r) (1 : Int) = some y := atI_nat (j := 1) rfl
theorem ev_at2 {α : Type} {x y z : α} {r : List α} : atI (x :: y :: z :: r) (2 : Int) = some z := atI_nat (j := 2) rfl
theorem ev_at3 {α : Type} {x y z u : α} {r : List α} : atI (x :: y :: z :: u :: r) (3 : Int) = some u := atI_nat (j := 3) rfl
theorem ev_at4 {α : Type} {x y z u v : α} {r : List α} : atI (x :: y :: z :: u :: v :: r) (4 : Int) = some v := atI_nat (j := 4) rfl
theorem ev_at5 {α : Type} {x y z u v w : α} {r : List α} : atI (x :: y :: z :: u :: v :: w :: r) (5 : Int) = some w := atI_nat (j := 5) rfl
theorem ev_tri {f : D → D → D → M D} {t u v : DEnv → M D} {δ : DEnv} {S : Sto} : triM f t u v δ S = bnd (t δ S) fun x => (match x with
  | .str a => (do let y ← u δ; let z ← v δ; f (.str a) y z)
  | _ => M.stuck) := id rfl
section
variable {S : Sto}
def optI : Option Int → D
  | none => .non
  | some i => .int i
theorem comp_map {g : D → DEnv → M DEnv} {e : DEnv → M D} {δ : DEnv} (h : D → D) : ∀ (xs acc : List D), acc.length + xs.length ≤ sizeLine → (∀ x ∈ xs, ∃ δ1, g x δ S = some (.ok δ1, S) ∧ e δ1 S = some (.ok (h x), S)) → compL g yesM e δ acc xs S = some (.ok (acc ++ xs.map h), S)
  | [], acc, _, _ => by rw [List.map_nil, List.append_nil]; rfl
  | x :: r, acc, hl, hx => by
    obtain ⟨δ1, e1, e2⟩ := hx x (List.mem_cons_self ..)
    rw [List.length_cons] at hl
    have k := comp_map (g := g) (e := e) (δ := δ) h r (acc ++ [h x]) (by rw [List.length_append, List.length_singleton]; omega) fun y hy => hx y (List.mem_cons_of_mem _ hy)
    have lt : acc.length < sizeLine := by omega
    unfold compL
    simp only [ev_bind, ev_nE, e1, ev_nEo, ev_ok, ev_yes, ev_ite, eq_self, ev_t, e2, cnd_t lt]
    rw [k, List.append_assoc, List.map_cons]
    rfl
theorem bls_map {α : Type} (f : α → Bool) : ∀ xs : List α, blsD (xs.map fun x => D.bl (f x)) = some (xs.map f)
  | [] => rfl
  | x :: r => by
    rw [List.map_cons, List.map_cons]
    show (blsD (r.map fun x => D.bl (f x))).map (f x :: ·) = _
    rw [bls_map f r]
    rfl
theorem any_map {α : Type} (f : α → Bool) (xs : List α) : anyD [.lst (xs.map fun x => D.bl (f x))] S = some (.ok (.bl (xs.any f)), S) := by
  show ((M.opt (blsD (xs.map fun x => D.bl (f x))) >>= fun bs => pure (.bl (bs.any id)) : M D)) S = _
  rw [bls_map, ev_bind, ev_some, ev_ok, ev_pure, List.any_map]
  rfl
theorem all_map {α : Type} (f : α → Bool) (xs : List α) : allD [.lst (xs.map fun x => D.bl (f x))] S = some (.ok (.bl (xs.all f)), S) := by
  show ((M.opt (blsD (xs.map fun x => D.bl (f x))) >>= fun bs => pure (.bl (bs.all id)) : M D)) S = _
  rw [bls_map, ev_bind, ev_some, ev_ok, ev_pure, List.all_map]
  rfl
theorem mem_signs {z : Str} {x : D} (h : x ∈ signsD z) : ∃ c ∈ z.cps.toList, x = .str ⟨#[c]⟩ := by
  obtain ⟨c, hc, rfl⟩ := List.mem_map.mp h
  exact ⟨c, hc, rfl⟩
/-- a comprehension over the signs of a text -/
theorem lc_signs {e : DEnv → M D} {it : DEnv → M (List D)} {vs : List Nat} {i : Nat} {δ : DEnv} {z : Str} (h : Nat → D) (hi : it δ S = some (.ok (signsD z), S)) (hz : z.length ≤ sizeLine) (hx : ∀ c ∈ z.cps.toList, e ((wipeD δ vs).set i (some (.str ⟨#[c]⟩))) S = some (.ok (h c), S)) :
    lcD vs it (tgN i) yesM e δ S = some (.ok (.lst (z.cps.toList.map h)), S) := by
  have ln : (signsD z).length = z.length := by unfold signsD; rw [List.length_map]; exact Array.length_toList ..
  have k := comp_map (S := S) (g := tgN i) (e := e) (δ := wipeD δ vs) (fun x => match x with | .str y => h (y.cps.toList.headD 0) | _ => .non) (signsD z) [] (by rw [ln]; simpa using hz) fun x hx' => by
    obtain ⟨c, hc, rfl⟩ := mem_signs hx'
    exact ⟨_, rfl, hx c hc⟩
  rw [ev_lc, hi, ev_ok, ev_bind, k, ev_ok, ev_pure, List.nil_append]
  unfold signsD
  rw [List.map_map]
  rfl
end
end Fg
namespace Fg
open PySem PySem.Spec PyProof.Rows L2
variable [TQ]
instance (i j : Int) : Decidable (CDiv i j) := by unfold CDiv; infer_instance
def divmodD : List D → M D
  | [.int i, .int j] => if CDiv i j then pure (.tup [.int (i / j), .int (i % j)]) else M.stuck
  | _ => M.stuck
section
variable {X : Cx} {F : Fr} {m : Md}
theorem ev_divmod {S : Sto} {i j : Int} : divmodD [.int i, .int j] S = cnd (CDiv i j) (pure (.tup [.int (i / j), .int (i % j)])) M.stuck S := id rfl
end
end Fg
namespace Fg
open PySem PySem.Spec PyProof.Rows L2
variable [TQ]
def tgM (i : Nat) (k : DEnv → M D) : D → DEnv → M DEnv := fun v δ => do
  let x ← rd i δ
  let y ← k δ
  let ds ← mtL x
  match y with
  | .int n => (do let j ← M.opt (ixN ds.length n); mtSet x (ds.set j v); pure δ)
  | _ => M.stuck
theorem ev_tgM {i : Nat} {k : DEnv → M D} {v : D} {δ : DEnv} {S : Sto} : tgM i k v δ S = bnd (rd i δ S) fun x => (do
  let y ← k δ
  let ds ← mtL x
  match y with
  | .int n => (do let j ← M.opt (ixN ds.length n); mtSet x (ds.set j v); pure δ)
  | _ => M.stuck) := id rfl
end Fg
namespace Fg
open PySem PySem.Spec PyProof.Rows L2
variable [TQ]
def getOrM (t u w : DEnv → M D) : DEnv → M D := fun δ => do
  let x ← t δ
  let kvs ← asDct x
  let y ← u δ
  let z ← w δ
  match y with
  | .str k => pure ((getKD kvs (.inr k)).getD z)
  | _ => M.stuck
theorem ev_getOr {t u w : DEnv → M D} {δ : DEnv} {S : Sto} : getOrM t u w δ S = bnd (t δ S) fun x => (do
  let kvs ← asDct x
  let y ← u δ
  let z ← w δ
  match y with
  | .str k => pure ((getKD kvs (.inr k)).getD z)
  | _ => M.stuck) := id rfl
end Fg
namespace GB
open PySem PySem.SeqAt
open AutoSeq1 (wpAny_loadPart')
open MeetsSeq MeetsSeq2 MeetsSeq3 SeqRoads2 GQ
theorem str_declines_inst (b : Str) (u : Tok) (l C dx : Addr) :
    Meets (Builtin.«str.__eq__» ⟨[.str b u, .ref l], []⟩) (fun _ R s => s.heap.get? l = some (PySem.W.instObj C dx) ∧ R (.ok (.ret .notImplemented)) s) :=
  .of_wp fun prog w A R s h => by
    obtain ⟨hp, g, d, tk, os⟩ := s
    obtain ⟨hl, h⟩ := h
    unfold PySem.W.instObj at hl
    wp_walk using wpAny_loadPart' hl, wpAny_load hl
    exact ⟨_, rfl, h⟩
section
variable {prog : Program} {w : World} {A : Around} {E : Value → Shared → Prop} {s : Shared}
/-- a text and an own object: the object is asked -/
theorem eq_strOwn {K : PySem.W.Frag} {z : Str} {t : Tok} {x f C dx : Addr} {od : Option Obj} {Q : Value → Shared → Prop} (hu : A.units < cLine) (X : K.In s.heap) (J : PySem.W.InstAt s.heap x (PySem.W.instObj C dx) C od)
    (hsub : PySem.W.subIn K (.ref C) (.type "str") = some false) (he : PySem.W.findIn K (.ref C) "__eq__" = some (some (.ref f))) (hf : PySem.W.isFn K (.ref f) = true)
    (h : wpAny (model prog w) A (call (.ref f) [.ref x, .str z t]) (PySem.W.CmpBack Q) E s) : wpAny (model prog w) A (richCompare .Eq (.str z t) (.ref x)) Q E s := by
  have one : wpAny (model prog w) A (tryCompare (.ref x) "__eq__" (.str z t)) (fun r s' => ∃ v, r = some v ∧ Q v s') E s := by
    unfold tryCompare
    refine wpAny_bind (PySem.W.ifBound_K X J he hf (wpAny_mono h (fun v s' hv => ?_) fun _ _ e => e))
    cases v <;> first | exact hv.elim | exact wpAny_pure ⟨_, rfl, hv⟩
  simp only [richCompare, (typeIs_str s z t).oneThing_none]
  refine wpAny_holding (wpAny_bind (wpAny_cRoomFor hu ?_))
  refine wpAny_bind (wpAny_typeOf (typeIs_str s z t) (wpAny_bind (J.type.here ?_)))
  rw [show (Value.type "str" != Value.ref C) = true from rfl]
  simp only [if_true]
  refine wpAny_bind ((PySem.W.looks_subIn X hsub).here ?_)
  simp only [Bool.false_eq_true, if_false, Bool.not_false, if_true]
  refine wpAny_bind (m := tryCompare (.str z t) _ (.ref x)) (wpAny_tryCompare_declines (typeIs_str s z t) F.slot_str_eq (call_meets F.slot_str_eq (typeIs_str s z t) F.entry_str_eq (F.args_str_eq_2 _ _) (str_declines_inst z t x C dx) ⟨J.at_, rfl, ?_⟩))
  refine wpAny_bind (m := tryCompare (.ref x) _ (.str z t)) (wpAny_mono one (fun r s' y => ?_) fun _ _ e => e)
  obtain ⟨v, rfl, hq⟩ := y
  exact wpAny_pure hq
end
end GB
namespace Fg
open PySem PySem.Spec PyProof.Rows L2
variable [TQ]
def tryR (c : Str) (r : Rs D) : Rs D := match r with
  | some (.error e, S') => if e.c = c then some (.ok .non, S') else some (.error e, S')
  | r => r
def tryN (c : Str) (t : DEnv → M D) : DEnv → M D := fun δ S => tryR c (t δ S)
section
variable {X : Cx} {F : Fr} {O OL : List Nat} {e : Expr} {x : Str} {np pos pos1 pos2 pos3 pos4 : Pos} {n : Nat} {C : Addr} {t : DEnv → M D}
theorem Fr.rel {B : Nat → Option Addr} {ρ : List Addr} {σ : L2.St} {H : Hp} {δ : DEnv} {S : Sto} {E : XK} (r : Rel F O B ρ σ H δ S) : Rel { F with W := E } O B ρ σ H δ S := ⟨r.gr, r.sta, r.bnew, r.oxs, r.binj, r.own, r.ownd, r.zero, r.len, r.slot⟩
end
theorem ev_tryo {c : Str} {d : D} {S : Sto} : tryR c (some (.ok d, S)) = some (.ok d, S) := id rfl
theorem ev_tryN {c : Str} {t : DEnv → M D} {δ : DEnv} {S : Sto} : tryN c t δ S = tryR c (t δ S) := id rfl
theorem ev_trye {c : Str} {fs : List (Str × D)} {S : Sto} : tryR c (some (.error ⟨c, fs⟩, S)) = some (.ok .non, S) := by
  show (if c = c then _ else _) = _
  rw [if_pos rfl]
structure KFn (P : Program) (w : World) (K : PySem.W.Frag) (mg : Str → Option Value) (base : Heap) (k : Nat) (x : Str) (st : Stmt) (ps : List Str) (sp : Sp) : Prop where
  ex : ∃ f fd, FnOk P w K mg base (L2.CX P w) k f fd ps sp ∧ mg x = some (.ref f) ∧ Fun K x x st f fd
section
variable {P : Program} {w : World} {K : PySem.W.Frag} {mg : Str → Option Value} {base : Heap}
theorem KFn.plain {x : Str} {st : Stmt} {ps : List Str} {k : Nat} {sp : Sp} (c : KFn P w K mg base k x st ps sp)
    (hb : ∀ (kV doc pm : Value) (an : Option Addr) (cdv ct : Value) (us : List Value), us.length = ps.length → bindArgs (PySem.W.fnOf x x (defArgs st) (defBody st) (defScope st) .none kV doc pm an cdv ct) ⟨us, []⟩ = pure (ps.zip us)) : Callee P w K mg base k x ps sp := by
  obtain ⟨f, fd, F, hm, Fu⟩ := c.ex
  exact ⟨f, fd, F, hm, Fu.kp, Fu.binds hb⟩
variable {ca ce : Str → Option Addr}
end
end Fg
namespace PySem.SeqAt
open PySem
open MeetsSeq MeetsSeq2 MeetsSeq3
open PySem.W
theorem dict_eq_declines {prog : Program} {w : World} {A : Around} {E : Value → Shared → Prop} {s : Shared} {l : Addr} {v : Value} {T : String} {R : Fin → Shared → Prop} (ti : s.TypeIs (.ref l) "dict") (tv : s.TypeIs v T) (hs : isSubtype (.type T) (.type "dict") = pure false) (h : R (.done (.ret .notImplemented)) s) :
    wpAny (model prog w) A (Builtin.«dict.__eq__» ⟨[.ref l, v], []⟩) R E s := by
  show wpAny _ _ (Builtin.Dict.dictSlotArgs "__eq__" ⟨[.ref l, v], []⟩ >>= _) _ _ s
  refine wpAny_bind ?_
  unfold Builtin.Dict.dictSlotArgs
  refine wpAny_bind (wpAny_notOrdered_dict (args := ⟨[.ref l, v], []⟩) ti ?_)
  show wpAny _ _ (pure (Value.ref l, v)) _ _ s
  refine wpAny_pure ?_
  refine wpAny_bind (wpAny_isInstance (T := T) tv hs ?_)
  simp only [Bool.not_false, if_true]
  exact wpAny_bind (wpAny_rule (wpAny_pure h))
theorem dict_ne_declines {prog : Program} {w : World} {A : Around} {E : Value → Shared → Prop} {s : Shared} {l : Addr} {v : Value} {T : String} {R : Fin → Shared → Prop} (ti : s.TypeIs (.ref l) "dict") (tv : s.TypeIs v T) (hs : isSubtype (.type T) (.type "dict") = pure false) (h : R (.done (.ret .notImplemented)) s) :
    wpAny (model prog w) A (Builtin.«dict.__ne__» ⟨[.ref l, v], []⟩) R E s := by
  show wpAny _ _ (Builtin.Dict.dictSlotArgs "__ne__" ⟨[.ref l, v], []⟩ >>= _) _ _ s
  refine wpAny_bind ?_
  unfold Builtin.Dict.dictSlotArgs
  refine wpAny_bind (wpAny_notOrdered_dict (args := ⟨[.ref l, v], []⟩) ti ?_)
  show wpAny _ _ (pure (Value.ref l, v)) _ _ s
  refine wpAny_pure ?_
  refine wpAny_bind (wpAny_isInstance (T := T) tv hs ?_)
  simp only [Bool.not_false, if_true]
  exact wpAny_bind (wpAny_rule (wpAny_pure h))
theorem dw_dict_eq_none (l : Addr) (es : Array DictEntry) (n : Nat) (dd : Option Addr) (sl : Array (Option Value)) : Meets (Builtin.«dict.__eq__» ⟨[.ref l, .none], []⟩) (fun _ R s => s.heap.get? l = some { cls := .type "dict", dict := dd, data := .dict es n, slots := sl } ∧ R (.ok (.ret .notImplemented)) s) :=
  .of_wp fun prog w A R s h => dict_eq_declines (T := "NoneType") ⟨_, h.1, rfl⟩ rfl F.sub_NoneType_dict ⟨_, rfl, h.2⟩
theorem dw_dict_eq_bool (l : Addr) (es : Array DictEntry) (n : Nat) (dd : Option Addr) (sl : Array (Option Value)) (b : Bool) : Meets (Builtin.«dict.__eq__» ⟨[.ref l, (.bool b)], []⟩) (fun _ R s => s.heap.get? l = some { cls := .type "dict", dict := dd, data := .dict es n, slots := sl } ∧ R (.ok (.ret .notImplemented)) s) :=
  .of_wp fun prog w A R s h => dict_eq_declines (T := "bool") ⟨_, h.1, rfl⟩ rfl F.sub_bool_dict ⟨_, rfl, h.2⟩
theorem dw_bool_eq_dict (l : Addr) (es : Array DictEntry) (n : Nat) (dd : Option Addr) (sl : Array (Option Value)) (b : Bool) : Meets (Builtin.«int.__eq__» ⟨[(.bool b), .ref l], []⟩) (fun _ R s => s.heap.get? l = some { cls := .type "dict", dict := dd, data := .dict es n, slots := sl } ∧ R (.ok (.ret .notImplemented)) s) :=
  .of_wp fun prog w A R s h => by obtain ⟨hp, g, d, tk, os⟩ := s; obtain ⟨hl, h⟩ := h; wp_walk using wpAny_loadPart' hl, wpAny_load hl; exact ⟨_, rfl, h⟩
theorem dw_dict_eq_int (l : Addr) (es : Array DictEntry) (n : Nat) (dd : Option Addr) (sl : Array (Option Value)) (b : Int) (u : Tok) : Meets (Builtin.«dict.__eq__» ⟨[.ref l, (.int b u)], []⟩) (fun _ R s => s.heap.get? l = some { cls := .type "dict", dict := dd, data := .dict es n, slots := sl } ∧ R (.ok (.ret .notImplemented)) s) :=
  .of_wp fun prog w A R s h => dict_eq_declines (T := "int") ⟨_, h.1, rfl⟩ (typeIs_int s b u) F.sub_int_dict ⟨_, rfl, h.2⟩
theorem dw_int_eq_dict (l : Addr) (es : Array DictEntry) (n : Nat) (dd : Option Addr) (sl : Array (Option Value)) (b : Int) (u : Tok) : Meets (Builtin.«int.__eq__» ⟨[(.int b u), .ref l], []⟩) (fun _ R s => s.heap.get? l = some { cls := .type "dict", dict := dd, data := .dict es n, slots := sl } ∧ R (.ok (.ret .notImplemented)) s) :=
  .of_wp fun prog w A R s h => by obtain ⟨hp, g, d, tk, os⟩ := s; obtain ⟨hl, h⟩ := h; wp_walk using wpAny_loadPart' hl, wpAny_load hl; exact ⟨_, rfl, h⟩
theorem dw_dict_eq_str (l : Addr) (es : Array DictEntry) (n : Nat) (dd : Option Addr) (sl : Array (Option Value)) (b : Str) (u : Tok) : Meets (Builtin.«dict.__eq__» ⟨[.ref l, (.str b u)], []⟩) (fun _ R s => s.heap.get? l = some { cls := .type "dict", dict := dd, data := .dict es n, slots := sl } ∧ R (.ok (.ret .notImplemented)) s) :=
  .of_wp fun prog w A R s h => dict_eq_declines (T := "str") ⟨_, h.1, rfl⟩ (typeIs_str s b u) F.sub_str_dict ⟨_, rfl, h.2⟩
theorem dw_str_eq_dict (l : Addr) (es : Array DictEntry) (n : Nat) (dd : Option Addr) (sl : Array (Option Value)) (b : Str) (u : Tok) : Meets (Builtin.«str.__eq__» ⟨[(.str b u), .ref l], []⟩) (fun _ R s => s.heap.get? l = some { cls := .type "dict", dict := dd, data := .dict es n, slots := sl } ∧ R (.ok (.ret .notImplemented)) s) :=
  .of_wp fun prog w A R s h => by obtain ⟨hp, g, d, tk, os⟩ := s; obtain ⟨hl, h⟩ := h; wp_walk using wpAny_loadPart' hl, wpAny_load hl; exact ⟨_, rfl, h⟩
theorem dw_dict_eq_list (l : Addr) (es : Array DictEntry) (n : Nat) (dd : Option Addr) (sl : Array (Option Value)) (c : Addr) (items : Array Value) (n2 : Nat) (dd2 : Option Addr) (sl2 : Array (Option Value)) : Meets (Builtin.«dict.__eq__» ⟨[.ref l, .ref c], []⟩) (fun _ R s => s.heap.get? l = some { cls := .type "dict", dict := dd, data := .dict es n, slots := sl } ∧ s.heap.get? c = some { cls := .type "list", dict := dd2, data := .seq items n2, slots := sl2 } ∧ R (.ok (.ret .notImplemented)) s) :=
  .of_wp fun prog w A R s h => dict_eq_declines (T := "list") ⟨_, h.1, rfl⟩ ⟨_, h.2.1, rfl⟩ F.sub_list_dict ⟨_, rfl, h.2.2⟩
theorem dw_list_eq_dict (l : Addr) (es : Array DictEntry) (n : Nat) (dd : Option Addr) (sl : Array (Option Value)) (c : Addr) (items : Array Value) (n2 : Nat) (dd2 : Option Addr) (sl2 : Array (Option Value)) : Meets (Builtin.«list.__eq__» ⟨[.ref c, .ref l], []⟩) (fun _ R s => s.heap.get? l = some { cls := .type "dict", dict := dd, data := .dict es n, slots := sl } ∧ s.heap.get? c = some { cls := .type "list", dict := dd2, data := .seq items n2, slots := sl2 } ∧ R (.ok (.ret .notImplemented)) s) :=
  .of_wp fun prog w A R s h => by obtain ⟨hp, g, d, tk, os⟩ := s; obtain ⟨hl, hc, h⟩ := h; have f1 := F.sub_dict_list; wp_walk using wpAny_loadPart' hl, wpAny_load hl, wpAny_loadPart' hc, wpAny_load hc; exact ⟨_, rfl, h⟩
theorem dw_dict_eq_tuple (l : Addr) (es : Array DictEntry) (n : Nat) (dd : Option Addr) (sl : Array (Option Value)) (c : Addr) (items : Array Value) (n2 : Nat) (dd2 : Option Addr) (sl2 : Array (Option Value)) : Meets (Builtin.«dict.__eq__» ⟨[.ref l, .ref c], []⟩) (fun _ R s => s.heap.get? l = some { cls := .type "dict", dict := dd, data := .dict es n, slots := sl } ∧ s.heap.get? c = some { cls := .type "tuple", dict := dd2, data := .seq items n2, slots := sl2 } ∧ R (.ok (.ret .notImplemented)) s) :=
  .of_wp fun prog w A R s h => dict_eq_declines (T := "tuple") ⟨_, h.1, rfl⟩ ⟨_, h.2.1, rfl⟩ F.sub_tuple_dict ⟨_, rfl, h.2.2⟩
theorem dw_tuple_eq_dict (l : Addr) (es : Array DictEntry) (n : Nat) (dd : Option Addr) (sl : Array (Option Value)) (c : Addr) (items : Array Value) (n2 : Nat) (dd2 : Option Addr) (sl2 : Array (Option Value)) : Meets (Builtin.«tuple.__eq__» ⟨[.ref c, .ref l], []⟩) (fun _ R s => s.heap.get? l = some { cls := .type "dict", dict := dd, data := .dict es n, slots := sl } ∧ s.heap.get? c = some { cls := .type "tuple", dict := dd2, data := .seq items n2, slots := sl2 } ∧ R (.ok (.ret .notImplemented)) s) :=
  .of_wp fun prog w A R s h => by obtain ⟨hp, g, d, tk, os⟩ := s; obtain ⟨hl, hc, h⟩ := h; have f1 := F.sub_dict_tuple; wp_walk using wpAny_loadPart' hl, wpAny_load hl, wpAny_loadPart' hc, wpAny_load hc; exact ⟨_, rfl, h⟩
section
variable {A : Around} {s : Shared} {l c : Addr} {es : Array DictEntry} {n n2 : Nat} {dd dd2 : Option Addr} {sl sl2 : Array (Option Value)} {items : Array Value}
theorem RcAt.dict_none (hl : s.heap.get? l = some { cls := .type "dict", dict := dd, data := .dict es n, slots := sl }) (hu : A.units < cLine) : RcAt A s (.ref l) .none false := fun prog w E Q h =>
  rc_eq_decline_or (k := false) ⟨_, hl, rfl⟩ rfl (by decide) F.sub_NoneType_dict F.slot_dict_eq F.slot_NoneType_eq_refl
    (fun _ hq => call_meets F.slot_dict_eq ⟨_, hl, rfl⟩ F.entry_dict_eq (F.args_dict_eq_2 _ _) (dw_dict_eq_none l es n dd sl ) ⟨hl, hq⟩)
    (fun _ hq => call_gives F.slot_NoneType_eq_refl rfl F.entry_NoneType_eq (F.args_NoneType_eq_2 _ _) (NoneType___eq___none_ref_0 l) hq)
    (fun _ hq => wpAny_of_eq (rfl : isSame (.ref l) .none = pure false) hq) (.inr hu) h
theorem RcAt.none_dict (hl : s.heap.get? l = some { cls := .type "dict", dict := dd, data := .dict es n, slots := sl }) (hu : A.units < cLine) : RcAt A s .none (.ref l) false := fun prog w E Q h =>
  rc_eq_decline_or (k := false) rfl ⟨_, hl, rfl⟩ (by decide) F.sub_dict_NoneType F.slot_NoneType_eq F.slot_dict_eq_refl
    (fun _ hq => call_gives F.slot_NoneType_eq rfl F.entry_NoneType_eq (F.args_NoneType_eq_2 _ _) (NoneType___eq___none_ref_0 l) hq)
    (fun _ hq => call_meets F.slot_dict_eq_refl ⟨_, hl, rfl⟩ F.entry_dict_eq (F.args_dict_eq_2 _ _) (dw_dict_eq_none l es n dd sl ) ⟨hl, hq⟩)
    (fun _ hq => wpAny_of_eq (rfl : isSame .none (.ref l) = pure false) hq) (.inr hu) h
theorem RcAt.dict_bool (b : Bool) (hl : s.heap.get? l = some { cls := .type "dict", dict := dd, data := .dict es n, slots := sl }) (hu : A.units < cLine) : RcAt A s (.ref l) (.bool b) false := fun prog w E Q h =>
  rc_eq_decline_or (k := false) ⟨_, hl, rfl⟩ rfl (by decide) F.sub_bool_dict F.slot_dict_eq F.slot_bool_eq_refl
    (fun _ hq => call_meets F.slot_dict_eq ⟨_, hl, rfl⟩ F.entry_dict_eq (F.args_dict_eq_2 _ _) (dw_dict_eq_bool l es n dd sl b) ⟨hl, hq⟩)
    (fun _ hq => call_meets F.slot_bool_eq_refl rfl F.entry_int_eq (F.args_int_eq_2 _ _) (dw_bool_eq_dict l es n dd sl b) ⟨hl, hq⟩)
    (fun _ hq => wpAny_of_eq (rfl : isSame (.ref l) (.bool b) = pure false) hq) (.inr hu) h
theorem RcAt.bool_dict (b : Bool) (hl : s.heap.get? l = some { cls := .type "dict", dict := dd, data := .dict es n, slots := sl }) (hu : A.units < cLine) : RcAt A s (.bool b) (.ref l) false := fun prog w E Q h =>
  rc_eq_decline_or (k := false) rfl ⟨_, hl, rfl⟩ (by decide) F.sub_dict_bool F.slot_bool_eq F.slot_dict_eq_refl
    (fun _ hq => call_meets F.slot_bool_eq rfl F.entry_int_eq (F.args_int_eq_2 _ _) (dw_bool_eq_dict l es n dd sl b) ⟨hl, hq⟩)
    (fun _ hq => call_meets F.slot_dict_eq_refl ⟨_, hl, rfl⟩ F.entry_dict_eq (F.args_dict_eq_2 _ _) (dw_dict_eq_bool l es n dd sl b) ⟨hl, hq⟩)
    (fun _ hq => wpAny_of_eq (rfl : isSame (.bool b) (.ref l) = pure false) hq) (.inr hu) h
theorem RcAt.dict_int (b : Int) (u : Tok) (hl : s.heap.get? l = some { cls := .type "dict", dict := dd, data := .dict es n, slots := sl }) (hu : A.units < cLine) : RcAt A s (.ref l) (.int b u) false := fun prog w E Q h =>
  rc_eq_decline_or (k := false) ⟨_, hl, rfl⟩ (typeIs_int s b u) (by decide) F.sub_int_dict F.slot_dict_eq F.slot_int_eq_refl
    (fun _ hq => call_meets F.slot_dict_eq ⟨_, hl, rfl⟩ F.entry_dict_eq (F.args_dict_eq_2 _ _) (dw_dict_eq_int l es n dd sl b u) ⟨hl, hq⟩)
    (fun _ hq => call_meets F.slot_int_eq_refl (typeIs_int s b u) F.entry_int_eq (F.args_int_eq_2 _ _) (dw_int_eq_dict l es n dd sl b u) ⟨hl, hq⟩)
    (fun _ hq => wpAny_of_eq (rfl : isSame (.ref l) (.int b u) = pure false) hq) (.inr hu) h
theorem RcAt.int_dict (b : Int) (u : Tok) (hl : s.heap.get? l = some { cls := .type "dict", dict := dd, data := .dict es n, slots := sl }) (hu : A.units < cLine) : RcAt A s (.int b u) (.ref l) false := fun prog w E Q h =>
  rc_eq_decline_or (k := false) (typeIs_int s b u) ⟨_, hl, rfl⟩ (by decide) F.sub_dict_int F.slot_int_eq F.slot_dict_eq_refl
    (fun _ hq => call_meets F.slot_int_eq (typeIs_int s b u) F.entry_int_eq (F.args_int_eq_2 _ _) (dw_int_eq_dict l es n dd sl b u) ⟨hl, hq⟩)
    (fun _ hq => call_meets F.slot_dict_eq_refl ⟨_, hl, rfl⟩ F.entry_dict_eq (F.args_dict_eq_2 _ _) (dw_dict_eq_int l es n dd sl b u) ⟨hl, hq⟩)
    (fun _ hq => wpAny_of_eq (rfl : isSame (.int b u) (.ref l) = pure false) hq) (.inr hu) h
theorem RcAt.dict_str (b : Str) (u : Tok) (hl : s.heap.get? l = some { cls := .type "dict", dict := dd, data := .dict es n, slots := sl }) (hu : A.units < cLine) : RcAt A s (.ref l) (.str b u) false := fun prog w E Q h =>
  rc_eq_decline_or (k := false) ⟨_, hl, rfl⟩ (typeIs_str s b u) (by decide) F.sub_str_dict F.slot_dict_eq F.slot_str_eq_refl
    (fun _ hq => call_meets F.slot_dict_eq ⟨_, hl, rfl⟩ F.entry_dict_eq (F.args_dict_eq_2 _ _) (dw_dict_eq_str l es n dd sl b u) ⟨hl, hq⟩)
    (fun _ hq => call_meets F.slot_str_eq_refl (typeIs_str s b u) F.entry_str_eq (F.args_str_eq_2 _ _) (dw_str_eq_dict l es n dd sl b u) ⟨hl, hq⟩)
    (fun _ hq => wpAny_of_eq (rfl : isSame (.ref l) (.str b u) = pure false) hq) (.inr hu) h
theorem RcAt.str_dict (b : Str) (u : Tok) (hl : s.heap.get? l = some { cls := .type "dict", dict := dd, data := .dict es n, slots := sl }) (hu : A.units < cLine) : RcAt A s (.str b u) (.ref l) false := fun prog w E Q h =>
  rc_eq_decline_or (k := false) (typeIs_str s b u) ⟨_, hl, rfl⟩ (by decide) F.sub_dict_str F.slot_str_eq F.slot_dict_eq_refl
    (fun _ hq => call_meets F.slot_str_eq (typeIs_str s b u) F.entry_str_eq (F.args_str_eq_2 _ _) (dw_str_eq_dict l es n dd sl b u) ⟨hl, hq⟩)
    (fun _ hq => call_meets F.slot_dict_eq_refl ⟨_, hl, rfl⟩ F.entry_dict_eq (F.args_dict_eq_2 _ _) (dw_dict_eq_str l es n dd sl b u) ⟨hl, hq⟩)
    (fun _ hq => wpAny_of_eq (rfl : isSame (.str b u) (.ref l) = pure false) hq) (.inr hu) h
theorem RcAt.dict_list (hl : s.heap.get? l = some { cls := .type "dict", dict := dd, data := .dict es n, slots := sl }) (hc : s.heap.get? c = some { cls := .type "list", dict := dd2, data := .seq items n2, slots := sl2 }) (hn : l ≠ c) (hu : A.units < cLine) : RcAt A s (.ref l) (.ref c) false := fun prog w E Q h =>
  rc_eq_decline_or (k := false) ⟨_, hl, rfl⟩ ⟨_, hc, rfl⟩ (by decide) F.sub_list_dict F.slot_dict_eq F.slot_list_eq_refl
    (fun _ hq => call_meets F.slot_dict_eq ⟨_, hl, rfl⟩ F.entry_dict_eq (F.args_dict_eq_2 _ _) (dw_dict_eq_list l es n dd sl c items n2 dd2 sl2) ⟨hl, hc, hq⟩)
    (fun _ hq => call_meets F.slot_list_eq_refl ⟨_, hc, rfl⟩ F.entry_list_eq (F.args_list_eq_2 _ _) (dw_list_eq_dict l es n dd sl c items n2 dd2 sl2) ⟨hl, hc, hq⟩)
    (fun _ hq => wpAny_isSame_ref_other hn hl hc (by simp) hq) (.inr hu) h
theorem RcAt.list_dict (hl : s.heap.get? l = some { cls := .type "dict", dict := dd, data := .dict es n, slots := sl }) (hc : s.heap.get? c = some { cls := .type "list", dict := dd2, data := .seq items n2, slots := sl2 }) (hn : c ≠ l) (hu : A.units < cLine) : RcAt A s (.ref c) (.ref l) false := fun prog w E Q h =>
  rc_eq_decline_or (k := false) ⟨_, hc, rfl⟩ ⟨_, hl, rfl⟩ (by decide) F.sub_dict_list F.slot_list_eq F.slot_dict_eq_refl
    (fun _ hq => call_meets F.slot_list_eq ⟨_, hc, rfl⟩ F.entry_list_eq (F.args_list_eq_2 _ _) (dw_list_eq_dict l es n dd sl c items n2 dd2 sl2) ⟨hl, hc, hq⟩)
    (fun _ hq => call_meets F.slot_dict_eq_refl ⟨_, hl, rfl⟩ F.entry_dict_eq (F.args_dict_eq_2 _ _) (dw_dict_eq_list l es n dd sl c items n2 dd2 sl2) ⟨hl, hc, hq⟩)
    (fun _ hq => wpAny_isSame_ref_other' hn hc hl (by simp) hq) (.inr hu) h
theorem RcAt.dict_tuple (hl : s.heap.get? l = some { cls := .type "dict", dict := dd, data := .dict es n, slots := sl }) (hc : s.heap.get? c = some { cls := .type "tuple", dict := dd2, data := .seq items n2, slots := sl2 }) (hn : l ≠ c) (hu : A.units < cLine) : RcAt A s (.ref l) (.ref c) false := fun prog w E Q h =>
  rc_eq_decline_or (k := false) ⟨_, hl, rfl⟩ ⟨_, hc, rfl⟩ (by decide) F.sub_tuple_dict F.slot_dict_eq F.slot_tuple_eq_refl
    (fun _ hq => call_meets F.slot_dict_eq ⟨_, hl, rfl⟩ F.entry_dict_eq (F.args_dict_eq_2 _ _) (dw_dict_eq_tuple l es n dd sl c items n2 dd2 sl2) ⟨hl, hc, hq⟩)
    (fun _ hq => call_meets F.slot_tuple_eq_refl ⟨_, hc, rfl⟩ F.entry_tuple_eq (F.args_tuple_eq_2 _ _) (dw_tuple_eq_dict l es n dd sl c items n2 dd2 sl2) ⟨hl, hc, hq⟩)
    (fun _ hq => wpAny_isSame_ref_other hn hl hc (by simp) hq) (.inr hu) h
theorem RcAt.tuple_dict (hl : s.heap.get? l = some { cls := .type "dict", dict := dd, data := .dict es n, slots := sl }) (hc : s.heap.get? c = some { cls := .type "tuple", dict := dd2, data := .seq items n2, slots := sl2 }) (hn : c ≠ l) (hu : A.units < cLine) : RcAt A s (.ref c) (.ref l) false := fun prog w E Q h =>
  rc_eq_decline_or (k := false) ⟨_, hc, rfl⟩ ⟨_, hl, rfl⟩ (by decide) F.sub_dict_tuple F.slot_tuple_eq F.slot_dict_eq_refl
    (fun _ hq => call_meets F.slot_tuple_eq ⟨_, hc, rfl⟩ F.entry_tuple_eq (F.args_tuple_eq_2 _ _) (dw_tuple_eq_dict l es n dd sl c items n2 dd2 sl2) ⟨hl, hc, hq⟩)
    (fun _ hq => call_meets F.slot_dict_eq_refl ⟨_, hl, rfl⟩ F.entry_dict_eq (F.args_dict_eq_2 _ _) (dw_dict_eq_tuple l es n dd sl c items n2 dd2 sl2) ⟨hl, hc, hq⟩)
    (fun _ hq => wpAny_isSame_ref_other' hn hc hl (by simp) hq) (.inr hu) h
end
theorem dw_dict_ne_none (l : Addr) (es : Array DictEntry) (n : Nat) (dd : Option Addr) (sl : Array (Option Value)) : Meets (Builtin.«dict.__ne__» ⟨[.ref l, .none], []⟩) (fun _ R s => s.heap.get? l = some { cls := .type "dict", dict := dd, data := .dict es n, slots := sl } ∧ R (.ok (.ret .notImplemented)) s) :=
  .of_wp fun prog w A R s h => dict_ne_declines (T := "NoneType") ⟨_, h.1, rfl⟩ rfl F.sub_NoneType_dict ⟨_, rfl, h.2⟩
theorem dw_dict_ne_bool (l : Addr) (es : Array DictEntry) (n : Nat) (dd : Option Addr) (sl : Array (Option Value)) (b : Bool) : Meets (Builtin.«dict.__ne__» ⟨[.ref l, (.bool b)], []⟩) (fun _ R s => s.heap.get? l = some { cls := .type "dict", dict := dd, data := .dict es n, slots := sl } ∧ R (.ok (.ret .notImplemented)) s) :=
  .of_wp fun prog w A R s h => dict_ne_declines (T := "bool") ⟨_, h.1, rfl⟩ rfl F.sub_bool_dict ⟨_, rfl, h.2⟩
theorem dw_bool_ne_dict (l : Addr) (es : Array DictEntry) (n : Nat) (dd : Option Addr) (sl : Array (Option Value)) (b : Bool) : Meets (Builtin.«int.__ne__» ⟨[(.bool b), .ref l], []⟩) (fun _ R s => s.heap.get? l = some { cls := .type "dict", dict := dd, data := .dict es n, slots := sl } ∧ R (.ok (.ret .notImplemented)) s) :=
  .of_wp fun prog w A R s h => by obtain ⟨hp, g, d, tk, os⟩ := s; obtain ⟨hl, h⟩ := h; wp_walk using wpAny_loadPart' hl, wpAny_load hl; exact ⟨_, rfl, h⟩
theorem dw_dict_ne_int (l : Addr) (es : Array DictEntry) (n : Nat) (dd : Option Addr) (sl : Array (Option Value)) (b : Int) (u : Tok) : Meets (Builtin.«dict.__ne__» ⟨[.ref l, (.int b u)], []⟩) (fun _ R s => s.heap.get? l = some { cls := .type "dict", dict := dd, data := .dict es n, slots := sl } ∧ R (.ok (.ret .notImplemented)) s) :=
  .of_wp fun prog w A R s h => dict_ne_declines (T := "int") ⟨_, h.1, rfl⟩ (typeIs_int s b u) F.sub_int_dict ⟨_, rfl, h.2⟩
theorem dw_int_ne_dict (l : Addr) (es : Array DictEntry) (n : Nat) (dd : Option Addr) (sl : Array (Option Value)) (b : Int) (u : Tok) : Meets (Builtin.«int.__ne__» ⟨[(.int b u), .ref l], []⟩) (fun _ R s => s.heap.get? l = some { cls := .type "dict", dict := dd, data := .dict es n, slots := sl } ∧ R (.ok (.ret .notImplemented)) s) :=
  .of_wp fun prog w A R s h => by obtain ⟨hp, g, d, tk, os⟩ := s; obtain ⟨hl, h⟩ := h; wp_walk using wpAny_loadPart' hl, wpAny_load hl; exact ⟨_, rfl, h⟩
theorem dw_dict_ne_str (l : Addr) (es : Array DictEntry) (n : Nat) (dd : Option Addr) (sl : Array (Option Value)) (b : Str) (u : Tok) : Meets (Builtin.«dict.__ne__» ⟨[.ref l, (.str b u)], []⟩) (fun _ R s => s.heap.get? l = some { cls := .type "dict", dict := dd, data := .dict es n, slots := sl } ∧ R (.ok (.ret .notImplemented)) s) :=
  .of_wp fun prog w A R s h => dict_ne_declines (T := "str") ⟨_, h.1, rfl⟩ (typeIs_str s b u) F.sub_str_dict ⟨_, rfl, h.2⟩
theorem dw_str_ne_dict (l : Addr) (es : Array DictEntry) (n : Nat) (dd : Option Addr) (sl : Array (Option Value)) (b : Str) (u : Tok) : Meets (Builtin.«str.__ne__» ⟨[(.str b u), .ref l], []⟩) (fun _ R s => s.heap.get? l = some { cls := .type "dict", dict := dd, data := .dict es n, slots := sl } ∧ R (.ok (.ret .notImplemented)) s) :=
  .of_wp fun prog w A R s h => by obtain ⟨hp, g, d, tk, os⟩ := s; obtain ⟨hl, h⟩ := h; wp_walk using wpAny_loadPart' hl, wpAny_load hl; exact ⟨_, rfl, h⟩
theorem dw_dict_ne_list (l : Addr) (es : Array DictEntry) (n : Nat) (dd : Option Addr) (sl : Array (Option Value)) (c : Addr) (items : Array Value) (n2 : Nat) (dd2 : Option Addr) (sl2 : Array (Option Value)) : Meets (Builtin.«dict.__ne__» ⟨[.ref l, .ref c], []⟩) (fun _ R s => s.heap.get? l = some { cls := .type "dict", dict := dd, data := .dict es n, slots := sl } ∧ s.heap.get? c = some { cls := .type "list", dict := dd2, data := .seq items n2, slots := sl2 } ∧ R (.ok (.ret .notImplemented)) s) :=
  .of_wp fun prog w A R s h => dict_ne_declines (T := "list") ⟨_, h.1, rfl⟩ ⟨_, h.2.1, rfl⟩ F.sub_list_dict ⟨_, rfl, h.2.2⟩
theorem dw_list_ne_dict (l : Addr) (es : Array DictEntry) (n : Nat) (dd : Option Addr) (sl : Array (Option Value)) (c : Addr) (items : Array Value) (n2 : Nat) (dd2 : Option Addr) (sl2 : Array (Option Value)) : Meets (Builtin.«list.__ne__» ⟨[.ref c, .ref l], []⟩) (fun _ R s => s.heap.get? l = some { cls := .type "dict", dict := dd, data := .dict es n, slots := sl } ∧ s.heap.get? c = some { cls := .type "list", dict := dd2, data := .seq items n2, slots := sl2 } ∧ R (.ok (.ret .notImplemented)) s) :=
  .of_wp fun prog w A R s h => by obtain ⟨hp, g, d, tk, os⟩ := s; obtain ⟨hl, hc, h⟩ := h; have f1 := F.sub_dict_list; wp_walk using wpAny_loadPart' hl, wpAny_load hl, wpAny_loadPart' hc, wpAny_load hc; exact ⟨_, rfl, h⟩
theorem dw_dict_ne_tuple (l : Addr) (es : Array DictEntry) (n : Nat) (dd : Option Addr) (sl : Array (Option Value)) (c : Addr) (items : Array Value) (n2 : Nat) (dd2 : Option Addr) (sl2 : Array (Option Value)) : Meets (Builtin.«dict.__ne__» ⟨[.ref l, .ref c], []⟩) (fun _ R s => s.heap.get? l = some { cls := .type "dict", dict := dd, data := .dict es n, slots := sl } ∧ s.heap.get? c = some { cls := .type "tuple", dict := dd2, data := .seq items n2, slots := sl2 } ∧ R (.ok (.ret .notImplemented)) s) :=
  .of_wp fun prog w A R s h => dict_ne_declines (T := "tuple") ⟨_, h.1, rfl⟩ ⟨_, h.2.1, rfl⟩ F.sub_tuple_dict ⟨_, rfl, h.2.2⟩
theorem dw_tuple_ne_dict (l : Addr) (es : Array DictEntry) (n : Nat) (dd : Option Addr) (sl : Array (Option Value)) (c : Addr) (items : Array Value) (n2 : Nat) (dd2 : Option Addr) (sl2 : Array (Option Value)) : Meets (Builtin.«tuple.__ne__» ⟨[.ref c, .ref l], []⟩) (fun _ R s => s.heap.get? l = some { cls := .type "dict", dict := dd, data := .dict es n, slots := sl } ∧ s.heap.get? c = some { cls := .type "tuple", dict := dd2, data := .seq items n2, slots := sl2 } ∧ R (.ok (.ret .notImplemented)) s) :=
  .of_wp fun prog w A R s h => by obtain ⟨hp, g, d, tk, os⟩ := s; obtain ⟨hl, hc, h⟩ := h; have f1 := F.sub_dict_tuple; wp_walk using wpAny_loadPart' hl, wpAny_load hl, wpAny_loadPart' hc, wpAny_load hc; exact ⟨_, rfl, h⟩
section
variable {A : Around} {s : Shared} {l c : Addr} {es : Array DictEntry} {n n2 : Nat} {dd dd2 : Option Addr} {sl sl2 : Array (Option Value)} {items : Array Value}
theorem RcNeAt.dict_none (hl : s.heap.get? l = some { cls := .type "dict", dict := dd, data := .dict es n, slots := sl }) (hu : A.units < cLine) : RcNeAt A s (.ref l) .none true := fun prog w E Q h =>
  rc_ne_decline_or (k := false) ⟨_, hl, rfl⟩ rfl (by decide) F.sub_NoneType_dict F.slot_dict_ne F.slot_NoneType_ne_refl
    (fun _ hq => call_meets F.slot_dict_ne ⟨_, hl, rfl⟩ F.entry_dict_ne (F.args_dict_ne_2 _ _) (dw_dict_ne_none l es n dd sl ) ⟨hl, hq⟩)
    (fun _ hq => call_gives F.slot_NoneType_ne_refl rfl F.entry_NoneType_ne (F.args_NoneType_ne_2 _ _) (NoneType___ne___none_ref_0 l) hq)
    (fun _ hq => wpAny_of_eq (rfl : isSame (.ref l) .none = pure false) hq) (.inr hu) h
theorem RcNeAt.none_dict (hl : s.heap.get? l = some { cls := .type "dict", dict := dd, data := .dict es n, slots := sl }) (hu : A.units < cLine) : RcNeAt A s .none (.ref l) true := fun prog w E Q h =>
  rc_ne_decline_or (k := false) rfl ⟨_, hl, rfl⟩ (by decide) F.sub_dict_NoneType F.slot_NoneType_ne F.slot_dict_ne_refl
    (fun _ hq => call_gives F.slot_NoneType_ne rfl F.entry_NoneType_ne (F.args_NoneType_ne_2 _ _) (NoneType___ne___none_ref_0 l) hq)
    (fun _ hq => call_meets F.slot_dict_ne_refl ⟨_, hl, rfl⟩ F.entry_dict_ne (F.args_dict_ne_2 _ _) (dw_dict_ne_none l es n dd sl ) ⟨hl, hq⟩)
    (fun _ hq => wpAny_of_eq (rfl : isSame .none (.ref l) = pure false) hq) (.inr hu) h
theorem RcNeAt.dict_bool (b : Bool) (hl : s.heap.get? l = some { cls := .type "dict", dict := dd, data := .dict es n, slots := sl }) (hu : A.units < cLine) : RcNeAt A s (.ref l) (.bool b) true := fun prog w E Q h =>
  rc_ne_decline_or (k := false) ⟨_, hl, rfl⟩ rfl (by decide) F.sub_bool_dict F.slot_dict_ne F.slot_bool_ne_refl
    (fun _ hq => call_meets F.slot_dict_ne ⟨_, hl, rfl⟩ F.entry_dict_ne (F.args_dict_ne_2 _ _) (dw_dict_ne_bool l es n dd sl b) ⟨hl, hq⟩)
    (fun _ hq => call_meets F.slot_bool_ne_refl rfl F.entry_int_ne (F.args_int_ne_2 _ _) (dw_bool_ne_dict l es n dd sl b) ⟨hl, hq⟩)
    (fun _ hq => wpAny_of_eq (rfl : isSame (.ref l) (.bool b) = pure false) hq) (.inr hu) h
theorem RcNeAt.bool_dict (b : Bool) (hl : s.heap.get? l = some { cls := .type "dict", dict := dd, data := .dict es n, slots := sl }) (hu : A.units < cLine) : RcNeAt A s (.bool b) (.ref l) true := fun prog w E Q h =>
  rc_ne_decline_or (k := false) rfl ⟨_, hl, rfl⟩ (by decide) F.sub_dict_bool F.slot_bool_ne F.slot_dict_ne_refl
    (fun _ hq => call_meets F.slot_bool_ne rfl F.entry_int_ne (F.args_int_ne_2 _ _) (dw_bool_ne_dict l es n dd sl b) ⟨hl, hq⟩)
    (fun _ hq => call_meets F.slot_dict_ne_refl ⟨_, hl, rfl⟩ F.entry_dict_ne (F.args_dict_ne_2 _ _) (dw_dict_ne_bool l es n dd sl b) ⟨hl, hq⟩)
    (fun _ hq => wpAny_of_eq (rfl : isSame (.bool b) (.ref l) = pure false) hq) (.inr hu) h
theorem RcNeAt.dict_int (b : Int) (u : Tok) (hl : s.heap.get? l = some { cls := .type "dict", dict := dd, data := .dict es n, slots := sl }) (hu : A.units < cLine) : RcNeAt A s (.ref l) (.int b u) true := fun prog w E Q h =>
  rc_ne_decline_or (k := false) ⟨_, hl, rfl⟩ (typeIs_int s b u) (by decide) F.sub_int_dict F.slot_dict_ne F.slot_int_ne_refl
    (fun _ hq => call_meets F.slot_dict_ne ⟨_, hl, rfl⟩ F.entry_dict_ne (F.args_dict_ne_2 _ _) (dw_dict_ne_int l es n dd sl b u) ⟨hl, hq⟩)
    (fun _ hq => call_meets F.slot_int_ne_refl (typeIs_int s b u) F.entry_int_ne (F.args_int_ne_2 _ _) (dw_int_ne_dict l es n dd sl b u) ⟨hl, hq⟩)
    (fun _ hq => wpAny_of_eq (rfl : isSame (.ref l) (.int b u) = pure false) hq) (.inr hu) h
theorem RcNeAt.int_dict (b : Int) (u : Tok) (hl : s.heap.get? l = some { cls := .type "dict", dict := dd, data := .dict es n, slots := sl }) (hu : A.units < cLine) : RcNeAt A s (.int b u) (.ref l) true := fun prog w E Q h =>
  rc_ne_decline_or (k := false) (typeIs_int s b u) ⟨_, hl, rfl⟩ (by decide) F.sub_dict_int F.slot_int_ne F.slot_dict_ne_refl
    (fun _ hq => call_meets F.slot_int_ne (typeIs_int s b u) F.entry_int_ne (F.args_int_ne_2 _ _) (dw_int_ne_dict l es n dd sl b u) ⟨hl, hq⟩)
    (fun _ hq => call_meets F.slot_dict_ne_refl ⟨_, hl, rfl⟩ F.entry_dict_ne (F.args_dict_ne_2 _ _) (dw_dict_ne_int l es n dd sl b u) ⟨hl, hq⟩)
    (fun _ hq => wpAny_of_eq (rfl : isSame (.int b u) (.ref l) = pure false) hq) (.inr hu) h
theorem RcNeAt.dict_str (b : Str) (u : Tok) (hl : s.heap.get? l = some { cls := .type "dict", dict := dd, data := .dict es n, slots := sl }) (hu : A.units < cLine) : RcNeAt A s (.ref l) (.str b u) true := fun prog w E Q h =>
  rc_ne_decline_or (k := false) ⟨_, hl, rfl⟩ (typeIs_str s b u) (by decide) F.sub_str_dict F.slot_dict_ne F.slot_str_ne_refl
    (fun _ hq => call_meets F.slot_dict_ne ⟨_, hl, rfl⟩ F.entry_dict_ne (F.args_dict_ne_2 _ _) (dw_dict_ne_str l es n dd sl b u) ⟨hl, hq⟩)
    (fun _ hq => call_meets F.slot_str_ne_refl (typeIs_str s b u) F.entry_str_ne (F.args_str_ne_2 _ _) (dw_str_ne_dict l es n dd sl b u) ⟨hl, hq⟩)
    (fun _ hq => wpAny_of_eq (rfl : isSame (.ref l) (.str b u) = pure false) hq) (.inr hu) h
theorem RcNeAt.str_dict (b : Str) (u : Tok) (hl : s.heap.get? l = some { cls := .type "dict", dict := dd, data := .dict es n, slots := sl }) (hu : A.units < cLine) : RcNeAt A s (.str b u) (.ref l) true := fun prog w E Q h =>
  rc_ne_decline_or (k := false) (typeIs_str s b u) ⟨_, hl, rfl⟩ (by decide) F.sub_dict_str F.slot_str_ne F.slot_dict_ne_refl
    (fun _ hq => call_meets F.slot_str_ne (typeIs_str s b u) F.entry_str_ne (F.args_str_ne_2 _ _) (dw_str_ne_dict l es n dd sl b u) ⟨hl, hq⟩)
    (fun _ hq => call_meets F.slot_dict_ne_refl ⟨_, hl, rfl⟩ F.entry_dict_ne (F.args_dict_ne_2 _ _) (dw_dict_ne_str l es n dd sl b u) ⟨hl, hq⟩)
    (fun _ hq => wpAny_of_eq (rfl : isSame (.str b u) (.ref l) = pure false) hq) (.inr hu) h
theorem RcNeAt.dict_list (hl : s.heap.get? l = some { cls := .type "dict", dict := dd, data := .dict es n, slots := sl }) (hc : s.heap.get? c = some { cls := .type "list", dict := dd2, data := .seq items n2, slots := sl2 }) (hn : l ≠ c) (hu : A.units < cLine) : RcNeAt A s (.ref l) (.ref c) true := fun prog w E Q h =>
  rc_ne_decline_or (k := false) ⟨_, hl, rfl⟩ ⟨_, hc, rfl⟩ (by decide) F.sub_list_dict F.slot_dict_ne F.slot_list_ne_refl
    (fun _ hq => call_meets F.slot_dict_ne ⟨_, hl, rfl⟩ F.entry_dict_ne (F.args_dict_ne_2 _ _) (dw_dict_ne_list l es n dd sl c items n2 dd2 sl2) ⟨hl, hc, hq⟩)
    (fun _ hq => call_meets F.slot_list_ne_refl ⟨_, hc, rfl⟩ F.entry_list_ne (F.args_list_ne_2 _ _) (dw_list_ne_dict l es n dd sl c items n2 dd2 sl2) ⟨hl, hc, hq⟩)
    (fun _ hq => wpAny_isSame_ref_other hn hl hc (by simp) hq) (.inr hu) h
theorem RcNeAt.list_dict (hl : s.heap.get? l = some { cls := .type "dict", dict := dd, data := .dict es n, slots := sl }) (hc : s.heap.get? c = some { cls := .type "list", dict := dd2, data := .seq items n2, slots := sl2 }) (hn : c ≠ l) (hu : A.units < cLine) : RcNeAt A s (.ref c) (.ref l) true := fun prog w E Q h =>
  rc_ne_decline_or (k := false) ⟨_, hc, rfl⟩ ⟨_, hl, rfl⟩ (by decide) F.sub_dict_list F.slot_list_ne F.slot_dict_ne_refl
    (fun _ hq => call_meets F.slot_list_ne ⟨_, hc, rfl⟩ F.entry_list_ne (F.args_list_ne_2 _ _) (dw_list_ne_dict l es n dd sl c items n2 dd2 sl2) ⟨hl, hc, hq⟩)
    (fun _ hq => call_meets F.slot_dict_ne_refl ⟨_, hl, rfl⟩ F.entry_dict_ne (F.args_dict_ne_2 _ _) (dw_dict_ne_list l es n dd sl c items n2 dd2 sl2) ⟨hl, hc, hq⟩)
    (fun _ hq => wpAny_isSame_ref_other' hn hc hl (by simp) hq) (.inr hu) h
theorem RcNeAt.dict_tuple (hl : s.heap.get? l = some { cls := .type "dict", dict := dd, data := .dict es n, slots := sl }) (hc : s.heap.get? c = some { cls := .type "tuple", dict := dd2, data := .seq items n2, slots := sl2 }) (hn : l ≠ c) (hu : A.units < cLine) : RcNeAt A s (.ref l) (.ref c) true := fun prog w E Q h =>
  rc_ne_decline_or (k := false) ⟨_, hl, rfl⟩ ⟨_, hc, rfl⟩ (by decide) F.sub_tuple_dict F.slot_dict_ne F.slot_tuple_ne_refl
    (fun _ hq => call_meets F.slot_dict_ne ⟨_, hl, rfl⟩ F.entry_dict_ne (F.args_dict_ne_2 _ _) (dw_dict_ne_tuple l es n dd sl c items n2 dd2 sl2) ⟨hl, hc, hq⟩)
    (fun _ hq => call_meets F.slot_tuple_ne_refl ⟨_, hc, rfl⟩ F.entry_tuple_ne (F.args_tuple_ne_2 _ _) (dw_tuple_ne_dict l es n dd sl c items n2 dd2 sl2) ⟨hl, hc, hq⟩)
    (fun _ hq => wpAny_isSame_ref_other hn hl hc (by simp) hq) (.inr hu) h
theorem RcNeAt.tuple_dict (hl : s.heap.get? l = some { cls := .type "dict", dict := dd, data := .dict es n, slots := sl }) (hc : s.heap.get? c = some { cls := .type "tuple", dict := dd2, data := .seq items n2, slots := sl2 }) (hn : c ≠ l) (hu : A.units < cLine) : RcNeAt A s (.ref c) (.ref l) true := fun prog w E Q h =>
  rc_ne_decline_or (k := false) ⟨_, hc, rfl⟩ ⟨_, hl, rfl⟩ (by decide) F.sub_dict_tuple F.slot_tuple_ne F.slot_dict_ne_refl
    (fun _ hq => call_meets F.slot_tuple_ne ⟨_, hc, rfl⟩ F.entry_tuple_ne (F.args_tuple_ne_2 _ _) (dw_tuple_ne_dict l es n dd sl c items n2 dd2 sl2) ⟨hl, hc, hq⟩)
    (fun _ hq => call_meets F.slot_dict_ne_refl ⟨_, hl, rfl⟩ F.entry_dict_ne (F.args_dict_ne_2 _ _) (dw_dict_ne_tuple l es n dd sl c items n2 dd2 sl2) ⟨hl, hc, hq⟩)
    (fun _ hq => wpAny_isSame_ref_other' hn hc hl (by simp) hq) (.inr hu) h
end
end PySem.SeqAt
namespace Fg
open PySem PySem.Spec PySem.Calls PyProof.Rows L2
def flat4 : V → Bool
  | .non | .bl _ | .int _ | .str _ => true
  | _ => false
theorem flat_rc {A : Around} {s : Shared} {x y : V} {u v : Value} (rx : RelV x u) (ry : RelV y v) (fx : flatV x = true) (fy : flatV y = true) : SeqAt.RcAt A s u v (eqV x y) ∧ SeqAt.RcNeAt A s u v (!eqV x y) := by
  cases x <;> first | (cases fx; done) | skip
  · cases rx
    cases y <;> first | (cases fy; done) | skip
    · cases ry; exact ⟨.none_none, .none_none⟩
    · cases ry; exact ⟨.none_bool _, .none_bool _⟩
    · obtain ⟨t, rfl⟩ := (show ∃ t, v = Value.int _ t from ry); exact ⟨.none_int _ _, .none_int _ _⟩
    · obtain ⟨t, rfl⟩ := (show ∃ t, v = Value.str _ t from ry); exact ⟨.none_str _ _, .none_str _ _⟩
  · cases rx
    cases y <;> first | (cases fy; done) | skip
    · cases ry; exact ⟨.bool_none _, .bool_none _⟩
    · cases ry; exact ⟨.bool_bool _ _, .bool_bool _ _⟩
    · obtain ⟨t, rfl⟩ := (show ∃ t, v = Value.int _ t from ry); exact ⟨.bool_int _ _ _, .bool_int _ _ _⟩
    · obtain ⟨t, rfl⟩ := (show ∃ t, v = Value.str _ t from ry); exact ⟨.bool_str _ _ _, .bool_str _ _ _⟩
  · obtain ⟨t', rfl⟩ := (show ∃ t, u = Value.int _ t from rx)
    cases y <;> first | (cases fy; done) | skip
    · cases ry; exact ⟨.int_none _ _, .int_none _ _⟩
    · cases ry; exact ⟨.int_bool _ _ _, .int_bool _ _ _⟩
    · obtain ⟨t, rfl⟩ := (show ∃ t, v = Value.int _ t from ry); exact ⟨.int_int _ _ _ _, .int_int _ _ _ _⟩
    · obtain ⟨t, rfl⟩ := (show ∃ t, v = Value.str _ t from ry); exact ⟨.int_str _ _ _ _, .int_str _ _ _ _⟩
  · obtain ⟨t', rfl⟩ := (show ∃ t, u = Value.str _ t from rx)
    cases y <;> first | (cases fy; done) | skip
    · cases ry; exact ⟨.str_none _ _, .str_none _ _⟩
    · cases ry; exact ⟨.str_bool _ _ _, .str_bool _ _ _⟩
    · obtain ⟨t, rfl⟩ := (show ∃ t, v = Value.int _ t from ry); exact ⟨.str_int _ _ _ _, .str_int _ _ _ _⟩
    · obtain ⟨t, rfl⟩ := (show ∃ t, v = Value.str _ t from ry); exact ⟨.str_str _ _ _ _, .str_str _ _ _ _⟩
def KindV (K : PySem.W.Frag) (H : Hp) : Nat → V → Prop
  | 0, x => flat4 x = true
  | 1, x => ∃ a xs, x = .ref a ∧ SqL K H a xs
  | 2, x => ∃ a xs, x = .ref a ∧ SqT K H a xs
  | 3, x => ∃ a ks, x = .ref a ∧ H a = some (.dK ks)
  | _, _ => False
section
variable {X : Cx} {pins : List (Addr × Obj)} {σ : L2.St} {H : Hp} {s : Shared}
theorem flat_list {A : Around} {s : Shared} {x : V} {v : Value} {l : Addr} {items : Array Value} (f : flat4 x = true) (rx : RelV x v) (hl : s.heap.IsList l items) (hu : A.units < cLine) : (SeqAt.RcAt A s v (.ref l) false ∧ SeqAt.RcNeAt A s v (.ref l) true) ∧ (SeqAt.RcAt A s (.ref l) v false ∧ SeqAt.RcNeAt A s (.ref l) v true) := by
  cases x <;> first | (cases f; done) | skip
  · cases rx; exact ⟨⟨.none_list hl hu, .none_list hl hu⟩, ⟨.list_none hl hu, .list_none hl hu⟩⟩
  · cases rx; exact ⟨⟨.bool_list _ hl hu, .bool_list _ hl hu⟩, ⟨.list_bool _ hl hu, .list_bool _ hl hu⟩⟩
  · obtain ⟨t, rfl⟩ := (show ∃ t, v = Value.int _ t from rx); exact ⟨⟨.int_list _ _ hl hu, .int_list _ _ hl hu⟩, ⟨.list_int _ _ hl hu, .list_int _ _ hl hu⟩⟩
  · obtain ⟨t, rfl⟩ := (show ∃ t, v = Value.str _ t from rx); exact ⟨⟨.str_list _ _ hl hu, .str_list _ _ hl hu⟩, ⟨.list_str _ _ hl hu, .list_str _ _ hl hu⟩⟩
theorem flat_tuple {A : Around} {s : Shared} {x : V} {v : Value} {l : Addr} {items : Array Value} (f : flat4 x = true) (rx : RelV x v) (hl : s.heap.IsTuple l items) (hu : A.units < cLine) : (SeqAt.RcAt A s v (.ref l) false ∧ SeqAt.RcNeAt A s v (.ref l) true) ∧ (SeqAt.RcAt A s (.ref l) v false ∧ SeqAt.RcNeAt A s (.ref l) v true) := by
  cases x <;> first | (cases f; done) | skip
  · cases rx; exact ⟨⟨.none_tuple hl hu, .none_tuple hl hu⟩, ⟨.tuple_none hl hu, .tuple_none hl hu⟩⟩
  · cases rx; exact ⟨⟨.bool_tuple _ hl hu, .bool_tuple _ hl hu⟩, ⟨.tuple_bool _ hl hu, .tuple_bool _ hl hu⟩⟩
  · obtain ⟨t, rfl⟩ := (show ∃ t, v = Value.int _ t from rx); exact ⟨⟨.int_tuple _ _ hl hu, .int_tuple _ _ hl hu⟩, ⟨.tuple_int _ _ hl hu, .tuple_int _ _ hl hu⟩⟩
  · obtain ⟨t, rfl⟩ := (show ∃ t, v = Value.str _ t from rx); exact ⟨⟨.str_tuple _ _ hl hu, .str_tuple _ _ hl hu⟩, ⟨.tuple_str _ _ hl hu, .tuple_str _ _ hl hu⟩⟩
theorem flat_dict {A : Around} {s : Shared} {x : V} {v : Value} {l : Addr} {es : Array DictEntry} {n : Nat} {dd : Option Addr} {sl : Array (Option Value)} (f : flat4 x = true) (rx : RelV x v) (hl : s.heap.get? l = some { cls := .type "dict", dict := dd, data := .dict es n, slots := sl }) (hu : A.units < cLine) : (SeqAt.RcAt A s v (.ref l) false ∧ SeqAt.RcNeAt A s v (.ref l) true) ∧ (SeqAt.RcAt A s (.ref l) v false ∧ SeqAt.RcNeAt A s (.ref l) v true) := by
  cases x <;> first | (cases f; done) | skip
  · cases rx; exact ⟨⟨.none_dict hl hu, .none_dict hl hu⟩, ⟨.dict_none hl hu, .dict_none hl hu⟩⟩
  · cases rx; exact ⟨⟨.bool_dict _ hl hu, .bool_dict _ hl hu⟩, ⟨.dict_bool _ hl hu, .dict_bool _ hl hu⟩⟩
  · obtain ⟨t, rfl⟩ := (show ∃ t, v = Value.int _ t from rx); exact ⟨⟨.int_dict _ _ hl hu, .int_dict _ _ hl hu⟩, ⟨.dict_int _ _ hl hu, .dict_int _ _ hl hu⟩⟩
  · obtain ⟨t, rfl⟩ := (show ∃ t, v = Value.str _ t from rx); exact ⟨⟨.str_dict _ _ hl hu, .str_dict _ _ hl hu⟩, ⟨.dict_str _ _ hl hu, .dict_str _ _ hl hu⟩⟩
theorem dob_of (J : Inv X pins σ H s) {a : Addr} {ks : List (Key × V)} (h : H a = some (.dK ks)) : ∃ es n dd sl, s.heap.get? a = some { cls := .type "dict", dict := dd, data := .dict es n, slots := sl } := by
  obtain ⟨_, _, _, _, dd⟩ := dk_of J.hok h
  obtain ⟨⟨oc, od, oda, osl⟩, es, n, g, ⟨h1, h2, h3⟩, h4, _⟩ := dd
  simp only at h1 h2 h3 h4
  subst h1 h4
  exact ⟨_, _, _, _, g⟩
theorem seq_dict {A : Around} {s : Shared} {l c : Addr} {items : Array Value} {es : Array DictEntry} {n : Nat} {dd : Option Addr} {sl : Array (Option Value)} (hc : s.heap.IsList c items ∨ s.heap.IsTuple c items) (hl : s.heap.get? l = some { cls := .type "dict", dict := dd, data := .dict es n, slots := sl }) (hu : A.units < cLine) :
    (SeqAt.RcAt A s (.ref c) (.ref l) false ∧ SeqAt.RcNeAt A s (.ref c) (.ref l) true) ∧ (SeqAt.RcAt A s (.ref l) (.ref c) false ∧ SeqAt.RcNeAt A s (.ref l) (.ref c) true) := by
  rcases hc with hc | hc
  · obtain ⟨⟨oc, od, oda, osl⟩, ho, h1, m, h2⟩ := hc
    simp only at h1 h2
    subst h1 h2
    have ne : l ≠ c := fun e => by subst e; rw [ho] at hl; have z := congrArg Obj.cls (Option.some.inj hl); injection z with z; exact absurd z (by decide)
    exact ⟨⟨.list_dict hl ho ne.symm hu, .list_dict hl ho ne.symm hu⟩, ⟨.dict_list hl ho ne hu, .dict_list hl ho ne hu⟩⟩
  · obtain ⟨⟨oc, od, oda, osl⟩, ho, h1, m, h2⟩ := hc
    simp only at h1 h2
    subst h1 h2
    have ne : l ≠ c := fun e => by subst e; rw [ho] at hl; have z := congrArg Obj.cls (Option.some.inj hl); injection z with z; exact absurd z (by decide)
    exact ⟨⟨.tuple_dict hl ho ne.symm hu, .tuple_dict hl ho ne.symm hu⟩, ⟨.dict_tuple hl ho ne hu, .dict_tuple hl ho ne hu⟩⟩
theorem mix_rc (J : Inv X pins σ H s) {A : Around} (hu : A.units < cLine) {i j : Nat} {x y : V} {v u : Value} (hi : KindV X.K H i x) (hj : KindV X.K H j y) (n : i ≠ j) (rx : RelV x v) (ry : RelV y u) : SeqAt.RcAt A s v u false ∧ SeqAt.RcNeAt A s v u true := by
  match i, j, hi, hj with
  | 0, 0, _, _ => exact absurd rfl n
  | 1, 1, _, _ => exact absurd rfl n
  | 2, 2, _, _ => exact absurd rfl n
  | 3, 3, _, _ => exact absurd rfl n
  | 0, 1, h, ⟨a, xs, e, h2⟩ =>
    subst e; cases ry
    obtain ⟨us, r1, p1, _⟩ := J.list h2
    exact (flat_list h rx p1.isList hu).1
  | 0, 2, h, ⟨a, xs, e, h2⟩ =>
    subst e; cases ry
    obtain ⟨us, r1, p1, _⟩ := J.tuple h2
    exact (flat_tuple h rx p1 hu).1
  | 0, 3, h, ⟨a, xs, e, h2⟩ =>
    subst e; cases ry
    obtain ⟨_, _, _, _, g⟩ := dob_of J h2
    exact (flat_dict h rx g hu).1
  | 1, 0, ⟨a, xs, e, h2⟩, h =>
    subst e; cases rx
    obtain ⟨us, r1, p1, _⟩ := J.list h2
    exact (flat_list h ry p1.isList hu).2
  | 2, 0, ⟨a, xs, e, h2⟩, h =>
    subst e; cases rx
    obtain ⟨us, r1, p1, _⟩ := J.tuple h2
    exact (flat_tuple h ry p1 hu).2
  | 3, 0, ⟨a, xs, e, h2⟩, h =>
    subst e; cases rx
    obtain ⟨_, _, _, _, g⟩ := dob_of J h2
    exact (flat_dict h ry g hu).2
  | 1, 2, ⟨_, _, e, h1⟩, ⟨_, _, e2, h2⟩ =>
    subst e e2; cases rx; cases ry
    obtain ⟨us, r1, p1, _⟩ := J.list h1
    obtain ⟨ws, r2, p2, _⟩ := J.tuple h2
    exact ⟨.list_tuple p1.isList p2 hu, .list_tuple p1.isList p2 hu⟩
  | 2, 1, ⟨_, _, e, h1⟩, ⟨_, _, e2, h2⟩ =>
    subst e e2; cases rx; cases ry
    obtain ⟨us, r1, p1, _⟩ := J.tuple h1
    obtain ⟨ws, r2, p2, _⟩ := J.list h2
    exact ⟨.tuple_list p1 p2.isList hu, .tuple_list p1 p2.isList hu⟩
  | 1, 3, ⟨_, _, e, h1⟩, ⟨_, _, e2, h2⟩ =>
    subst e e2; cases rx; cases ry
    obtain ⟨us, r1, p1, _⟩ := J.list h1
    obtain ⟨_, _, _, _, g⟩ := dob_of J h2
    exact (seq_dict (.inl p1.isList) g hu).1
  | 3, 1, ⟨_, _, e, h1⟩, ⟨_, _, e2, h2⟩ =>
    subst e e2; cases rx; cases ry
    obtain ⟨us, r1, p1, _⟩ := J.list h2
    obtain ⟨_, _, _, _, g⟩ := dob_of J h1
    exact (seq_dict (.inl p1.isList) g hu).2
  | 2, 3, ⟨_, _, e, h1⟩, ⟨_, _, e2, h2⟩ =>
    subst e e2; cases rx; cases ry
    obtain ⟨us, r1, p1, _⟩ := J.tuple h1
    obtain ⟨_, _, _, _, g⟩ := dob_of J h2
    exact (seq_dict (.inr p1) g hu).1
  | 3, 2, ⟨_, _, e, h1⟩, ⟨_, _, e2, h2⟩ =>
    subst e e2; cases rx; cases ry
    obtain ⟨us, r1, p1, _⟩ := J.tuple h2
    obtain ⟨_, _, _, _, g⟩ := dob_of J h1
    exact (seq_dict (.inr p1) g hu).2
  | _ + 4, _, h, _ => exact h.elim
  | _, _ + 4, _, h => exact h.elim
end
end Fg
namespace Fg
open PySem PySem.Spec PyProof.Rows L2
variable [TQ]
def kindD : D → Option Nat
  | .non | .bl _ | .int _ | .str _ => some 0
  | .lst _ => some 1
  | .tup _ => some 2
  | .dct _ => some 3
  | _ => none
/-- == of data of any kinds, own objects by E -/
def eqU (E : Str → D → D → Option Bool) : Nat → D → D → Option Bool
  | 0, _, _ => none
  | n + 1, x, y => match x, y with
    | .lst xs, .lst ys => if xs.length = ys.length then (eqNL (eqU E n) xs ys).map (·.all id) else some false
    | .tup xs, .tup ys => (eqNL (eqU E n) xs ys).map fun bs => bs.all id && xs.length == ys.length
    | .dct ks, .dct ls => if (ks.all fun p => scalD p.2) = true ∧ (ls.all fun p => scalD p.2) = true ∧ (ks.map (·.1)).Nodup then some (ks.length == ls.length && ks.all (eqKD ls)) else none
    | .obj c fs, y => if isMt y = true then none else E c (.obj c fs) y
    | .str z, .obj c fs => E c (.obj c fs) (.str z)
    | x, y => match kindD x, kindD y with
      | some i, some j => if i = j then (if scalD x = true ∧ scalD y = true then some (eqF x y) else none) else some false
      | _, _ => none
def cOp : Bool → CmpOp
  | false => .Eq
  | true => .NotEq
def strObj : D → D → Bool
  | .str _, .obj _ _ => true
  | _, _ => false
theorem eqKD_self : ∀ (ks : List (Key × D)), (ks.map (·.1)).Nodup → ∀ p ∈ ks, getKD ks p.1 = some p.2
  | [], _, p, h => nomatch h
  | (k, v) :: r, nd, p, h => by
    obtain ⟨n1, n2⟩ := List.nodup_cons.mp nd
    unfold getKD
    rw [List.find?_cons]
    rcases List.mem_cons.mp h with rfl | h
    · simp
    · have ne : k ≠ p.1 := fun e => n1 (List.mem_map.mpr ⟨p, h, e.symm⟩)
      have ih := eqKD_self r n2 p h
      unfold getKD at ih
      simp only [ne, decide_false]
      exact ih
section
variable {E : Str → D → D → Option Bool}
theorem eqU_self (hE : ∀ c fs b, E c (.obj c fs) (.obj c fs) = some b → b = true) : ∀ (n : Nat) (d : D) (b : Bool), eqU E n d d = some b → b = true
  | 0, _, _, e => by cases e
  | n + 1, d, b, e => by
    have sc : ∀ (x : D), scalD x = true → some (eqF x x) = some b → b = true := fun x z q => by rw [eqF_self z] at q; exact (Option.some.inj q).symm
    cases d with
    | lst xs =>
      have e : (if xs.length = xs.length then (eqNL (eqU E n) xs xs).map (·.all id) else some false) = some b := e
      rw [if_pos rfl] at e
      obtain ⟨bs, e1, e2⟩ := Option.map_eq_some_iff.mp e
      rw [← e2]
      exact eqNL_self (eqU_self hE n) e1
    | tup xs =>
      obtain ⟨bs, e1, e2⟩ := Option.map_eq_some_iff.mp (show (eqNL (eqU E n) xs xs).map (fun bs => bs.all id && xs.length == xs.length) = some b from e)
      rw [← e2, eqNL_self (eqU_self hE n) e1, beq_self_eq_true]
      rfl
    | obj c fs =>
      have e : (if isMt (.obj c fs) = true then none else E c (.obj c fs) (.obj c fs)) = some b := e
      rw [if_neg (by intro z; cases z)] at e
      exact hE _ _ _ e
    | dct ks =>
      have e : (if (ks.all fun p => scalD p.2) = true ∧ (ks.all fun p => scalD p.2) = true ∧ (ks.map (·.1)).Nodup then some (ks.length == ks.length && ks.all (eqKD ks)) else none) = some b := e
      split at e
      · rename_i h
        obtain ⟨h1, _, nd⟩ := h
        rw [← Option.some.inj e, beq_self_eq_true, Bool.true_and, List.all_eq_true]
        intro p hp
        unfold eqKD
        rw [eqKD_self ks nd p hp]
        exact eqF_self (List.all_eq_true.mp h1 p hp)
      · cases e
    | mt k => cases e
    | non => exact sc .non rfl e
    | bl x => exact sc (.bl x) rfl e
    | int x => exact sc (.int x) rfl e
    | str x => exact sc (.str x) rfl e
end
section
variable {X : Cx} {ca ce : Str → Option Addr} {Xs : Addr → Prop} {S : Sto} {k : Nat} {E : Str → D → D → Option Bool}
theorem kind_of {ρ : List Addr} {H : Hp} {x : V} {d : D} {i : Nat} (hx : Rp X.K ca ρ (HidX Xs ρ H) x d) (h : kindD d = some i) : KindV X.K H i x := by
  cases d <;> first | (cases h; done) | skip
  · cases hx; cases h; rfl
  · cases hx; cases h; rfl
  · cases hx; cases h; rfl
  · cases hx; cases h; rfl
  · cases hx with | tup ha pa => ?_
    cases h
    exact ⟨_, _, rfl, SqT.ext (fun b o e _ => (hid_iff.mp e).2) ha⟩
  · cases hx with | lst ha pa => ?_
    cases h
    exact ⟨_, _, rfl, SqL.of (hid_iff.mp ha).2⟩
  · cases hx with | dct ha pa => ?_
    cases h
    exact ⟨_, _, rfl, (hid_iff.mp ha).2⟩
/-- richCompare of data, no two flat ones -/
theorem eqU_step (neg : Bool) (cf : ClF X.K ca) (hE : ∀ c, (∀ x y, E c x y = none) ∨ EqOwn X.prog X.w X.K X.mg X.base ca ce k c (E c))
    (hS : ∀ c C, ca c = some C → (∃ x y b, E c x y = some b) → PySem.W.subIn X.K (.ref C) (.type "str") = some false) (hN : neg = true → ∀ c C, ca c = some C → (∃ x y b, E c x y = some b) → NeAt X.K C) {n : Nat}
    (ih : ∀ {d e : D} {b : Bool}, eqU E n d e = some b → ∀ (A : Around), Sub X (k + n + 2) A → ∀ {x y : V} {u v : Value} {pins : List (Addr × Obj)} {σ : L2.St} {H : Hp} {s : Shared} {ρ : List Addr}, Inv X pins σ H s → Sta X.K ca ρ Xs H S → Rp X.K ca ρ (HidX Xs ρ H) x d → Rp X.K ca ρ (HidX Xs ρ H) y e → RelV x u → RelV y v →
      wpAny (model X.prog X.w) A (eqBool u v) (fun r s' => r = b ∧ LX X ca Xs S pins σ H ρ s') X.xe s)
    {d e : D} {b : Bool} (h : eqU E (n + 1) d e = some b) (hso : neg = true → strObj d e = false) (A : Around) (sb : Sub X (k + n + 3) A) {x y : V} {u v : Value} {pins : List (Addr × Obj)} {σ : L2.St} {H : Hp} {s : Shared} {ρ : List Addr} (I : Inv X pins σ H s) (st : Sta X.K ca ρ Xs H S)
    (hx : Rp X.K ca ρ (HidX Xs ρ H) x d) (hy : Rp X.K ca ρ (HidX Xs ρ H) y e) (rx : RelV x u) (ry : RelV y v) :
    (scalD d = true ∧ scalD e = true ∧ b = eqF d e) ∨ wpAny (model X.prog X.w) A (richCompare (cOp neg) u v) (fun r s' => r = .bool (opp neg b) ∧ LX X ca Xs S pins σ H ρ s') X.xe s := by
  have here : LX X ca Xs S pins σ H ρ s := ⟨H, ρ, I, Gr.refl _ _ _, st⟩
  have hu := sb.room.units0
  have hu2 : A.units + 1 < cLine := by have := sb.room.units; omega
  -- item by item
  have items : ∀ {xs ys : List D} {vs ws : List V} {bs : List Bool} {its its2 : List Value}, RpL X.K ca ρ (HidX Xs ρ H) vs xs → RpL X.K ca ρ (HidX Xs ρ H) ws ys → eqNL (eqU E n) xs ys = some bs → L2.Vals vs its → L2.Vals ws its2 →
      ∀ i (h1 : i < its.toArray.size) (h2 : i < its2.toArray.size) (s1 : Shared), LX X ca Xs S pins σ H ρ s1 → wpAny (model X.prog X.w) A.in1 (eqBool its.toArray[i] its2.toArray[i]) (fun r s' => r = bs.getD i false ∧ LX X ca Xs S pins σ H ρ s') X.xe s1 := by
    intro xs ys vs ws bs its its2 p1 p2 eb r1 r2 i h1 h2 s1 ⟨H1, ρ1, I1, g1, st1⟩
    have l1 : i < its.length := by simpa using h1
    have l2 : i < its2.length := by simpa using h2
    have k1 : i < vs.length := by rw [r1.length]; exact l1
    have k2 : i < ws.length := by rw [r2.length]; exact l2
    have m1 : i < xs.length := by rw [← RpL.length p1]; exact k1
    have m2 : i < ys.length := by rw [← RpL.length p2]; exact k2
    obtain ⟨v1, ev1, q1⟩ := p1.get (List.getElem?_eq_getElem m1)
    obtain ⟨v2, ev2, q2⟩ := p2.get (List.getElem?_eq_getElem m2)
    obtain ⟨u1, eu1, z1⟩ := r1.get ev1
    obtain ⟨u2, eu2, z2⟩ := r2.get ev2
    have a1 : its.toArray[i] = u1 := by
      rw [List.getElem?_eq_getElem l1] at eu1
      simpa using Option.some.inj eu1
    have a2 : its2.toArray[i] = u2 := by
      rw [List.getElem?_eq_getElem l2] at eu2
      simpa using Option.some.inj eu2
    rw [a1, a2]
    refine wpAny_mono (ih ((eqNL_at eb).2 i m1 m2) A.in1 (Sub.in1 sb) I1 st1 (rp_gr g1 q1) (rp_gr g1 q2) z1 z2) (fun r s2 ⟨er, H2, ρ2, I2, g2, st2⟩ => ⟨er, H2, ρ2, I2, g1.tr g2, st2⟩) fun _ _ z => z
  unfold eqU at h
  split at h
  · -- lists
    rename_i xs ys
    refine .inr ?_
    cases hx with | lst ha pa => ?_
    cases hy with | lst hb pb => ?_
    cases rx
    cases ry
    have at_ : ∀ {s1 : Shared} {H1 : Hp} {ρ1 : List Addr} {a : Addr} {vs : List V}, Inv X pins σ H1 s1 → Gr ρ NoZ H ρ1 H1 → HidX Xs ρ H a = some (.lst vs) → ∃ (its : List Value) (m : Nat), L2.Vals vs its ∧ s1.heap.get? a = some { cls := .type "list", data := .seq its.toArray m } := fun {s1 H1 ρ1 a vs} I1 g1 h1 => by
      obtain ⟨_, its, m, r, e⟩ := I1.hok a _ (hid_iff.mp (keep_lst g1 h1)).2
      exact ⟨its, m, r, e⟩
    have z1 := RpL.length pa
    have z2 := RpL.length pb
    split at h
    · rename_i hl
      obtain ⟨bs, eb, e2⟩ := Option.map_eq_some_iff.mp h
      have bl := (eqNL_at eb).1
      have lb : GB.ListB X.prog X.w A X.xe _ _ bs (LX X ca Xs S pins σ H ρ) := fun s1 L1 => by
        obtain ⟨H1, ρ1, I1, g1, st1⟩ := id L1
        obtain ⟨its, m, r1, q1⟩ := at_ I1 g1 ha
        obtain ⟨its2, m2, r2, q2⟩ := at_ I1 g1 hb
        have z3 := r1.length
        have z4 := r2.length
        exact ⟨its.toArray, its2.toArray, m, m2, ⟨q1, q2⟩, ⟨by rw [List.size_toArray]; omega, by rw [List.size_toArray]; omega⟩, fun i h1 h2 => items pa pb eb r1 r2 i h1 h2 s1 L1⟩
      cases neg
      · exact GB.rc_listB (bs := bs) hu (LX X ca Xs S pins σ H ρ) lb (fun s1 L1 => ⟨by rw [← e2]; rfl, L1⟩) here
      · exact GB.rc_listBn (bs := bs) hu (LX X ca Xs S pins σ H ρ) lb (fun s1 L1 => ⟨by rw [← e2]; rfl, L1⟩) here
    · rename_i hl
      cases h
      obtain ⟨its, m, r1, q1⟩ := at_ I (Gr.refl _ _ _) ha
      obtain ⟨its2, m2, r2, q2⟩ := at_ I (Gr.refl _ _ _) hb
      have z3 := r1.length
      have z4 := r2.length
      have ne : its.toArray.size ≠ its2.toArray.size := by rw [List.size_toArray, List.size_toArray]; omega
      cases neg
      · exact GB.rc_listU hu q1 q2 ne ⟨rfl, here⟩
      · exact GB.rc_listUn hu q1 q2 ne ⟨rfl, here⟩
  · -- tuples
    rename_i xs ys
    refine .inr ?_
    cases hx with | tup ha pa => ?_
    cases hy with | tup hb pb => ?_
    cases rx
    cases ry
    obtain ⟨bs, eb, e2⟩ := Option.map_eq_some_iff.mp h
    have bl := (eqNL_at eb).1
    obtain ⟨its, r1, t1, _⟩ := I.tuple (SqT.ext (fun b o e _ => (hid_iff.mp e).2) ha)
    obtain ⟨its2, r2, t2, _⟩ := I.tuple (SqT.ext (fun b o e _ => (hid_iff.mp e).2) hb)
    have z1 := RpL.length pa
    have z2 := RpL.length pb
    have z3 := r1.length
    have z4 := r2.length
    have hs : (its.toArray.size == its2.toArray.size) = (xs.length == ys.length) := by rw [List.size_toArray, List.size_toArray, ← z3, ← z4, z1, z2]
    cases neg
    · exact GB.rc_tupB (bs := bs) (by rw [List.size_toArray, List.size_toArray]; omega) hu (LX X ca Xs S pins σ H ρ) t1 t2 (fun i h1 h2 s1 L1 => items pa pb eb r1 r2 i h1 h2 s1 L1) (fun s1 L1 => ⟨by rw [hs, ← e2]; rfl, L1⟩) here
    · exact GB.rc_tupBn (bs := bs) (by rw [List.size_toArray, List.size_toArray]; omega) hu (LX X ca Xs S pins σ H ρ) t1 t2 (fun i h1 h2 s1 L1 => items pa pb eb r1 r2 i h1 h2 s1 L1) (fun s1 L1 => ⟨by rw [hs, ← e2]; rfl, L1⟩) here
  · -- dicts
    rename_i ks ls
    refine .inr ?_
    cases hx with | dct ha pa => ?_
    cases hy with | dct hb pb => ?_
    cases rx
    cases ry
    split at h
    · rename_i c
      obtain ⟨h1, h3, nd⟩ := c
      have e1 := rk_scal pa h1
      have e2 := rk_scal pb h3
      subst e1 e2
      have fl : ∀ {ds : List (Key × D)}, (ds.all fun p => scalD p.2) = true → ∀ p ∈ ds.map (fun p => (p.1, scV p.2)), flatV p.2 = true := fun {ds} h p hp => by
        obtain ⟨q, hq, rfl⟩ := List.mem_map.mp hp
        exact flat_scal (List.all_eq_true.mp h q hq)
      obtain ⟨_, ya, va, ra, da⟩ := dk_of I.hok (hid_iff.mp ha).2
      obtain ⟨_, yb, vb, rb, db⟩ := dk_of I.hok (hid_iff.mp hb).2
      obtain ⟨r, hits, er⟩ := keq_hits (P := X.prog) (w := X.w) (A := A.in1) (s := s) rb (fl h3) ra (fl h1)
      subst er
      have eb : (va.length == vb.length && (ks.map fun p => (p.1, scV p.2)).all (eqKV (ls.map fun p => (p.1, scV p.2)))) = b := by
        rw [← Option.some.inj h, ← ra.length, ← rb.length, List.length_map, List.length_map, all_scal h3 h1]
      cases neg
      · exact PySem.W.keq_eq (knd := mixKind X.prog X.w) ya yb da db hu (fun _ => hits) ⟨by rw [eb]; rfl, here⟩
      · exact PySem.W.keq_ne (knd := mixKind X.prog X.w) ya yb da db hu (fun _ => hits) ⟨by rw [eb]; rfl, here⟩
    · cases h
  · -- an own object first
    rename_i c fs
    refine .inr ?_
    split at h
    · cases h
    rename_i hm
    rcases hE c with h0 | ⟨C, ps, f, hc, cc, hs, hf, hr⟩
    · rw [h0] at h; cases h
    have hx' : Rin (⟨X.K, ca, ce, H, Xs, ρ, noE, none⟩ : Fr) .tr (fun _ => none) ρ H x (.obj c fs) := hx
    obtain ⟨a, C', dx, vs, e0, e1, ha, _⟩ := Rin.obj hx'
    subst e0
    cases hc.symm.trans e1
    cases rx
    have ty : ∃ t, TyX X.K H y t ∧ FarT X.K C t := by
      have hy' : Rin (⟨X.K, ca, ce, H, Xs, ρ, noE, none⟩ : Fr) .tr (fun _ => none) ρ H y e := hy
      cases e with
      | obj c' fs' =>
        obtain ⟨a', D', dx', vs', e0', e1', h1', h3'⟩ := Rin.obj hy'
        refine ⟨.ref D', tyX_of cf hy' (by show Option.map Value.ref (ca _) = _; rw [show ca c' = some D' from e1']; rfl), ?_⟩
        by_cases z : c' = c
        · subst z; cases hc.symm.trans (show ca c' = some D' from e1'); exact far_self
        · unfold FarT PySem.W.notFirst; rw [hs c' D' e1' z]; simp
      | mt k => exact absurd rfl hm
      | non => exact ⟨_, tyX_of cf hy' rfl, far_ty (by decide)⟩
      | bl _ => exact ⟨_, tyX_of cf hy' rfl, far_ty (by decide)⟩
      | int _ => exact ⟨_, tyX_of cf hy' rfl, far_ty (by decide)⟩
      | str _ => exact ⟨_, tyX_of cf hy' rfl, far_ty (by decide)⟩
      | tup _ => exact ⟨_, tyX_of cf hy' rfl, far_ty (by decide)⟩
      | lst _ => exact ⟨_, tyX_of cf hy' rfl, far_ty (by decide)⟩
      | dct _ => exact ⟨_, tyX_of cf hy' rfl, far_ty (by decide)⟩
    obtain ⟨t, ty, far⟩ := ty
    obtain ⟨g, fd, F, cl, hm2, hb2⟩ := cc.ex
    obtain ⟨mA, J, _⟩ := ins_get I.hok ha
    obtain ⟨od, J, _⟩ := J.look
    obtain ⟨m, hF⟩ := I.fr
    obtain ⟨P, kx, hP, _⟩ := kit_of I ry ty
    have sp : spD X.K ca ce 2 f [.ref a, y] H (fun w H' => w = .bl b ∧ ∃ ρ', Gr ρ NoZ H ρ' H' ∧ Sta X.K ca ρ' Xs H' S) noE := by
      refine ⟨Xs, ρ, [.obj c fs, e], S, rfl, st, .cons hx (.cons hy .nil), ?_⟩
      rw [hf _ _ _ h S]
      intro w H' ρ' en hw
      cases hw
      exact ⟨rfl, ρ', en.gr, en.sta⟩
    cases neg
    · refine PySem.W.cmp_K (op := .Eq) (tb := t) hu hF I.ok.mod.kin J (kx.ty _ _ I.kIn hP) far hm2.at_ hm2.fn ?_
      refine wpAny_mono (run_in (us := [.ref a, v]) F (sb.room.mono (by omega)) sb.fr hb2 I (.cons (show RelV (.ref a) (.ref a) from rfl) (.cons ry .nil)) sp) (fun r s' z => ?_) fun _ _ e => e
      obtain ⟨v', H', I', rz, ew, ρ', g', st'⟩ := z
      subst ew
      cases rz
      exact ⟨rfl, H', ρ', I', g', st'⟩
    · refine ne_ownG hu2 I.kIn J (kx.ty _ _ I.kIn hP) far (hN rfl c C hc ⟨_, _, _, h⟩) hm2.at_ hm2.fn ?_
      refine wpAny_mono (run_in (us := [.ref a, v]) F ((Sub.in1 sb).room.mono (by omega)) (Sub.in1 sb).fr hb2 I (.cons (show RelV (.ref a) (.ref a) from rfl) (.cons ry .nil)) sp) (fun r s' z => ?_) fun _ _ e => e
      obtain ⟨v', H', I', rz, ew, ρ', g', st'⟩ := z
      subst ew
      cases rz
      exact ⟨b, rfl, rfl, H', ρ', I', g', st'⟩
  · -- a text and an own object
    rename_i z c fs
    refine .inr ?_
    cases neg with
    | true => cases hso rfl
    | false => ?_
    rcases hE c with h0 | ⟨C, ps, f, hc, cc, hs, hf, hr⟩
    · rw [h0] at h; cases h
    have hy' : Rin (⟨X.K, ca, ce, H, Xs, ρ, noE, none⟩ : Fr) .tr (fun _ => none) ρ H y (.obj c fs) := hy
    obtain ⟨a, C', dx, vs, e0, e1, ha, _⟩ := Rin.obj hy'
    subst e0
    cases hc.symm.trans e1
    cases ry
    cases hx
    obtain ⟨t, rfl⟩ := (show ∃ t, u = Value.str z t from rx)
    obtain ⟨g, fd, F, cl, hm2, hb2⟩ := cc.ex
    obtain ⟨mA, J, _⟩ := ins_get I.hok ha
    obtain ⟨od, J, _⟩ := J.look
    have sp : spD X.K ca ce 2 f [.ref a, .str z] H (fun w H' => w = .bl b ∧ ∃ ρ', Gr ρ NoZ H ρ' H' ∧ Sta X.K ca ρ' Xs H' S) noE := by
      refine ⟨Xs, ρ, [.obj c fs, .str z], S, rfl, st, .cons hy (.cons .str .nil), ?_⟩
      rw [hf _ _ _ h S]
      intro w H' ρ' en hw
      cases hw
      exact ⟨rfl, ρ', en.gr, en.sta⟩
    refine GB.eq_strOwn hu I.kIn J (hS c C hc ⟨_, _, _, h⟩) hm2.at_ hm2.fn ?_
    refine wpAny_mono (run_in (us := [.ref a, .str z t]) F (sb.room.mono (by omega)) sb.fr hb2 I (.cons (show RelV (.ref a) (.ref a) from rfl) (.cons (show RelV (.str z) (.str z t) from ⟨t, rfl⟩) .nil)) sp) (fun r s' z => ?_) fun _ _ e => e
    obtain ⟨v', H', I', rz, ew, ρ', g', st'⟩ := z
    subst ew
    cases rz
    exact ⟨rfl, H', ρ', I', g', st'⟩
  · -- kinds
    split at h
    · rename_i i j ei ej
      split at h
      · split at h
        · rename_i c
          exact .inl ⟨c.1, c.2, (Option.some.inj h).symm⟩
        · cases h
      · rename_i n
        cases h
        refine .inr ?_
        obtain ⟨z1, z2⟩ := mix_rc I hu (kind_of hx ei) (kind_of hy ej) n rx ry
        cases neg
        · exact z1 _ _ _ _ ⟨rfl, here⟩
        · exact z2 _ _ _ _ ⟨rfl, here⟩
    · cases h
/-- == of data inside a builtin -/
theorem eqU_run (cf : ClF X.K ca) (hE : ∀ c, (∀ x y, E c x y = none) ∨ EqOwn X.prog X.w X.K X.mg X.base ca ce k c (E c))
    (hS : ∀ c C, ca c = some C → (∃ x y b, E c x y = some b) → PySem.W.subIn X.K (.ref C) (.type "str") = some false) : ∀ (n : Nat) {d e : D} {b : Bool}, eqU E n d e = some b →
    ∀ (A : Around), Sub X (k + n + 2) A → ∀ {x y : V} {u v : Value} {pins : List (Addr × Obj)} {σ : L2.St} {H : Hp} {s : Shared} {ρ : List Addr}, Inv X pins σ H s → Sta X.K ca ρ Xs H S → Rp X.K ca ρ (HidX Xs ρ H) x d → Rp X.K ca ρ (HidX Xs ρ H) y e → RelV x u → RelV y v →
    wpAny (model X.prog X.w) A (eqBool u v) (fun r s' => r = b ∧ LX X ca Xs S pins σ H ρ s') X.xe s
  | 0, d, e, b, h => by cases h
  | n + 1, d, e, b, h => by
    intro A sb x y u v pins σ H s ρ I st hx hy rx ry
    have hself : ∀ c fs b, E c (.obj c fs) (.obj c fs) = some b → b = true := fun c fs b h => by
      rcases hE c with h0 | ⟨C, ps, f, _, _, _, _, hr⟩
      · rw [h0] at h; cases h
      · exact hr _ _ h
    have here : LX X ca Xs S pins σ H ρ s := ⟨H, ρ, I, Gr.refl _ _ _, st⟩
    rcases eqU_step (neg := false) cf hE hS (fun z => by cases z) (fun {d e b} h A sb => eqU_run cf hE hS n h A sb) h (fun z => by cases z) A sb I st hx hy rx ry with ⟨h1, h2, h3⟩ | w
    · have e1 : x = scV d := by cases d <;> first | (cases h1; done) | (cases hx; rfl)
      have e2 : y = scV e := by cases e <;> first | (cases h2; done) | (cases hy; rfl)
      subst e1 e2
      have q := eqAt_V (A := A) (s := s) rx ry (flat_scal h1) (flat_scal h2)
      rw [eqF_V h1 h2, ← h3] at q
      exact q X.prog X.w X.xe _ ⟨rfl, here⟩
    · have same : (u == v) = true → b = true := fun z => by
        have z := eq_of_beq z
        subst z
        have xy : x = y ∨ (scalD d = true ∧ scalD e = true) := by
          cases d <;> cases hx <;> cases e <;> cases hy <;> first
            | exact .inr ⟨rfl, rfl⟩
            | (cases rx; cases ry; exact .inl rfl)
            | (obtain ⟨_, z⟩ := rx; cases ry; cases z; done)
            | (obtain ⟨_, z⟩ := ry; cases rx; cases z; done)
            | (cases rx; cases ry; done)
        rcases xy with rfl | ⟨h1, h2⟩
        · have ed := Rp.det (clear_of cf I st) hx hy
          subst ed
          exact eqU_self hself (n + 1) d b h
        · have e1 : x = scV d := by cases d <;> first | (cases h1; done) | (cases hx; rfl)
          have e2 : y = scV e := by cases e <;> first | (cases h2; done) | (cases hy; rfl)
          have ed : d = e := by
            cases d <;> cases e <;> first | (cases h1; done) | (cases h2; done) | rfl | (cases hx; cases hy; cases rx; cases ry; rfl) | (cases hx; cases hy; obtain ⟨_, z⟩ := rx; obtain ⟨_, z2⟩ := ry; cases z.symm.trans z2 <;> rfl) | (cases hx; cases hy; obtain ⟨_, z⟩ := rx; cases ry; cases z; done) | (cases hx; cases hy; obtain ⟨_, z⟩ := ry; cases rx; cases z; done) | (cases hx; cases hy; cases rx; cases ry; done)
          subst ed
          exact eqU_self hself (n + 1) d b h
      unfold eqBool
      refine wpAny_holding (wpAny_ite_split (fun hab => ?_) (fun _ => ?_))
      · rw [same hab]
        exact wpAny_bind (wpAny_rule (wpAny_pure ⟨rfl, here⟩))
      · have nf : ∀ a t, u ≠ Value.float a t := fun a t z => by
          subst z
          cases d <;> cases hx <;> first | (cases rx; done) | (obtain ⟨_, z⟩ := rx; cases z; done)
        split
        · rename_i heq
          exact absurd (congrArg Prod.fst heq) (nf _ _)
        · refine wpAny_bind (wpAny_mono w (fun r s' ⟨er, L⟩ => ?_) fun _ _ z => z)
          subst er
          exact wpAny_truthy_bool ⟨rfl, L⟩
/-- x == y, x != y as operators -/
def eqUD (E : Str → D → D → Option Bool) (n : Nat) (neg : Bool) (x y : D) : M D := if neg = true ∧ strObj x y = true then M.stuck else do
  let b ← M.opt (eqU E n x y)
  pure (.bl (opp neg b))
def fEqU (K : PySem.W.Frag) (ca : Str → Option Addr) (E : Str → D → D → Option Bool) (n : Nat) (neg : Bool) : R2 := fun x y H Q => ∃ (Xs : Addr → Prop) (ρ : List Addr) (S : Sto) (d e : D) (b : Bool), Sta K ca ρ Xs H S ∧ Rp K ca ρ (HidX Xs ρ H) x d ∧ Rp K ca ρ (HidX Xs ρ H) y e ∧ eqU E n d e = some b ∧ (neg = true → strObj d e = false) ∧
  ∀ H' ρ', Gr ρ NoZ H ρ' H' → Sta K ca ρ' Xs H' S → Q (.bl (opp neg b)) H'
theorem f_eqU {K : PySem.W.Frag} {n : Nat} (hK : K = X.K) (neg : Bool) (cf : ClF X.K ca) (hE : ∀ c, (∀ x y, E c x y = none) ∨ EqOwn X.prog X.w X.K X.mg X.base ca ce k c (E c))
    (hS : ∀ c C, ca c = some C → (∃ x y b, E c x y = some b) → PySem.W.subIn X.K (.ref C) (.type "str") = some false) (hN : neg = true → ∀ c C, ca c = some C → (∃ x y b, E c x y = some b) → NeAt X.K C) {j : Nat} (hr : Room j X.A) (hk : k + n + 2 ≤ j) : OpR X (compareOp (cOp neg)) (fEqU K ca E n neg) := by
  subst hK
  intro pins s σ H x y v u Q I rx ry ⟨Xs, ρ, S, d, e, b, st, hx, hy, h, hso, q⟩
  cases n with
  | zero => cases h
  | succ n =>
    have sb : Sub X (k + n + 3) X.A := ⟨hr.mono hk, rfl⟩
    rcases eqU_step neg cf hE hS hN (fun {d e b} h A sb => eqU_run cf hE hS n h A sb) h hso X.A sb I st hx hy rx ry with ⟨h1, h2, h3⟩ | w
    · have e1 : x = scV d := by cases d <;> first | (cases h1; done) | (cases hx; rfl)
      have e2 : y = scV e := by cases e <;> first | (cases h2; done) | (cases hy; rfl)
      subst e1 e2
      have q := q H ρ (Gr.refl _ _ _) st
      rw [h3, ← eqF_V h1 h2] at q
      obtain ⟨z1, z2⟩ := flat_rc (A := X.A) (s := s) rx ry (flat_scal h1) (flat_scal h2)
      cases neg
      · exact z1 _ _ _ _ ⟨.bl _, H, I, rfl, q⟩
      · exact z2 _ _ _ _ ⟨.bl _, H, I, rfl, q⟩
    · have w' : wpAny (model X.prog X.w) X.A (compareOp (cOp neg) v u) (fun r s' => r = .bool (opp neg b) ∧ LX X ca Xs S pins σ H ρ s') X.xe s := by cases neg <;> exact w
      refine wpAny_mono w' (fun r s' ⟨er, H1, ρ1, I1, g1, st1⟩ => ?_) fun _ _ z => z
      subst er
      exact ⟨.bl (opp neg b), H1, I1, rfl, q H1 ρ1 g1 st1⟩
end
theorem o_eqU {F : Fr} {K : PySem.W.Frag} {m : Md} {E : Str → D → D → Option Bool} {n : Nat} {neg : Bool} (hK : F.K = K) (h2 : m ≠ .nw) : OpD F .fz m (fEqU K F.ca E n neg) (eqUD E n neg) := by
  intro O B ρ σ δ H S x y d e Q r hx hy q
  subst hK
  have q : Ok1 F ((if neg = true ∧ strObj d e = true then M.stuck else (M.opt (eqU E n d e) >>= fun b => (pure (.bl (opp neg b)) : M D)) : M D) S) _ := q
  split at q
  · exact q.elim
  · rename_i c
    obtain ⟨b, eb, q⟩ := q.bind.opt
    exact ⟨fun b => F.Xs b ∨ Own B b, ρ, S, d, e, b, r.sta, hx, hy, eb, fun z => by
      cases hso : strObj d e with
      | false => rfl
      | true => exact absurd ⟨z, hso⟩ c, fun H' ρ' g st => (q : ∀ v H' ρ', _) _ H' ρ' (r.step g st) g (scV_res (d := .bl _) rfl h2)⟩
/-- no own objects -/
def noEq : Str → D → D → Option Bool := fun _ _ _ => none
theorem hE_no {P : Program} {w : World} {K : PySem.W.Frag} {mg : Str → Option Value} {base : Heap} {ca ce : Str → Option Addr} : ∀ c, (∀ x y, noEq c x y = none) ∨ EqOwn P w K mg base ca ce 0 c (noEq c) := fun _ => .inl fun _ _ => rfl
end Fg
namespace Fg
open PySem PySem.Spec PyProof.Rows L2
variable [TQ]
def isBlD : D → D → M D
  | .bl a, .bl b => pure (.bl (decide (a = b)))
  | .non, .bl _ => pure (.bl false)
  | .int _, .bl _ => pure (.bl false)
  | .str _, .bl _ => pure (.bl false)
  | _, _ => M.stuck
theorem ev_isbI {i : Int} {b : Bool} {S : Sto} : isBlD (.int i) (.bl b) S = some (.ok (.bl false), S) := id rfl
theorem ev_isbB {a b : Bool} {S : Sto} : isBlD (.bl a) (.bl b) S = some (.ok (.bl (decide (a = b))), S) := id rfl
def ltSD : D → D → M D
  | .str a, .str b => pure (.bl (decide (a.cps.toList < b.cps.toList)))
  | _, _ => M.stuck
def geSD : D → D → M D
  | .str a, .str b => pure (.bl (!decide (a.cps.toList < b.cps.toList)))
  | _, _ => M.stuck
theorem ev_ltS {a b : Str} {S : Sto} : ltSD (.str a) (.str b) S = some (.ok (.bl (decide (a.cps.toList < b.cps.toList))), S) := id rfl
theorem ev_geS {a b : Str} {S : Sto} : geSD (.str a) (.str b) S = some (.ok (.bl (!decide (a.cps.toList < b.cps.toList))), S) := id rfl
end Fg
namespace Fg
open PySem PySem.Spec PyProof.Rows L2
variable [TQ]
section
variable {F : Fr} {O : List Nat} {B : Nat → Option Addr} {ρ ρ' : List Addr} {σ : L2.St} {H H' : Hp} {δ : DEnv} {S S' : Sto} {v : V} {d : D} {a : Addr}
abbrev Fr.hide (F : Fr) (a : Addr) : Fr := { F with Xs := fun b => F.Xs b ∨ b = a }
theorem Rel.hide (r : Rel F O B ρ σ H δ S) (r' : Rel F O B ρ' σ H' δ S') (g : Gr ρ NoZ H ρ' H') (n : Nw H a) (st : Sta F.K F.ca ρ' (fun b => (F.Xs b ∨ Own B b) ∨ b = a) H' S') : Rel (F.hide a) O B ρ' σ H' δ S' := by
  have nb : ¬ Own B a := fun z => r.sta.live a (.inl (.inr z)) n
  have hx : (fun b => (F.hide a).Xs b ∨ Own B b) = fun b => (F.Xs b ∨ Own B b) ∨ b = a := funext fun b => propext (by
    show ((F.Xs b ∨ b = a) ∨ Own B b) ↔ _
    constructor
    · rintro ((h | h) | h)
      · exact .inl (.inl h)
      · exact .inr h
      · exact .inl (.inr h)
    · rintro ((h | h) | h)
      · exact .inl (.inl h)
      · exact .inr h
      · exact .inl (.inr h))
  refine ⟨r'.gr, by rw [hx]; exact st, r'.bnew, fun b h z => ?_, r'.binj, r'.own, r'.ownd, r'.zero, r'.len, fun i x e => ?_⟩
  · rcases z with z | z
    · exact r'.oxs b h z
    · exact nb (z ▸ h)
  · have q := r.slot i x e
    have sees : LamX.ExtN (hid (Zo F B ρ) H) (hid (Zo (F.hide a) B ρ') H') := by
      intro b o eb ht
      obtain ⟨nn, e2⟩ := hid_iff.mp eb
      obtain ⟨nn2, e3⟩ := hid_iff.mp (g.seesO (F := F) (B := B) b o eb ht)
      refine hid_iff.mpr ⟨fun z => ?_, e3⟩
      rcases z with ((z | z) | z) | z
      · exact nn2 (.inl (.inl z))
      · exact n.no (z ▸ e2) ht
      · exact nn2 (.inl (.inr z))
      · exact nn2 (.inr z)
    unfold SlAt at q ⊢
    cases eb : B i with
    | none =>
      rw [eb] at q
      obtain ⟨w, h1, h2⟩ := q
      exact ⟨w, h1, h2.mono g.at sees⟩
    | some c =>
      rw [eb] at q
      exact ⟨q.1, q.2.mono g.at sees fun o ht e => g.keep c o (fun hm => r.sta.xr c hm (.inr ⟨i, eb⟩)) (fun z => z) ht e⟩
theorem sees_hide : LamX.ExtN (hid (Zo (F.hide a) B ρ) H) (hid (Zo F B ρ) H) := fun b o e _ => by
  obtain ⟨n, e⟩ := hid_iff.mp e
  refine hid_iff.mpr ⟨fun z => n ?_, e⟩
  rcases z with (z | z) | z
  · exact .inl (.inl (.inl z))
  · exact .inl (.inr z)
  · exact .inr z
theorem Rel.unhide (r : Rel (F.hide a) O B ρ σ H δ S) : Rel F O B ρ σ H δ S := by
  refine ⟨r.gr, r.sta.wk fun b z => z.imp .inl id, r.bnew, fun b h z => r.oxs b h (.inl z), r.binj, r.own, r.ownd, r.zero, r.len, fun i x e => ?_⟩
  have q := r.slot i x e
  unfold SlAt at q ⊢
  cases eb : B i with
  | none =>
    rw [eb] at q
    obtain ⟨w, h1, h2⟩ := q
    exact ⟨w, h1, h2.mono (fun _ _ e => e) sees_hide⟩
  | some c =>
    rw [eb] at q
    exact ⟨q.1, q.2.mono (fun _ _ e => e) sees_hide fun o ht e => e⟩
end
section
variable {X : Cx} {F : Fr} {O OL : List Nat} {a b : Expr} {pos : Pos}
theorem psd_parNf {x y : Str} {px py pt pt2 : Pos} {kt k2 : Nat} {ta tb : DEnv → M D} (i j : Nat) (hc : X.calm = true) (hN : X.N.Nodup) (hi : X.N[i]? = some x) (hj : X.N[j]? = some y) (hij : i ≠ j)
    (hx : X.env.scope.names.lookup x = some .local) (hy : X.env.scope.names.lookup y = some .local) (ha : PED X F O .nw a ta) (hb : ∀ Xs' : Addr → Prop, PED X { F with Xs := Xs' } O .fz b tb) (hw : swappedStores [.Tuple [.Name x px, .Name y py] kt pt] (.Tuple [a, b] k2 pt2) X.env = pure (some [x, y]) := by rfl)
    (hs : swapsWithSole [.Tuple [.Name x px, .Name y py] kt pt] (.Tuple [a, b] k2 pt2) pos.line X.env = pure false := by rfl)
    (h1 : starEach [a, b] X.env = (false, eval a X.env) :: starEach [b] X.env := by rfl) (h2 : starEach [b] X.env = (false, eval b X.env) :: starEach [] X.env := by rfl) (hio : i ∉ O := by decide) (hjo : j ∉ O := by decide) (hjo2 : j ∉ i :: O := by decide) (hz0 : i ≠ 0 ∨ F.own0 = none := by first | exact Or.inl (by decide) | exact Or.inr rfl) :
    PSD X F O (i :: O) OL (.Assign [.Tuple [.Name x px, .Name y py] kt pt] (.Tuple [a, b] k2 pt2) pos) (parS i j ta tb) :=
  ps_len (ps_imp (ps_par (ta := tCons (dE F O .nw ta) (tCons (fun σ H Q => ∃ Xs' : Addr → Prop, dE { F with Xs := Xs' } O .fz tb σ H Q) tNil)) hc hN hi hj hij hx hy (pa_cons ha (pa_cons (show PE X b (fun σ H Q => ∃ Xs' : Addr → Prop, dE { F with Xs := Xs' } O .fz tb σ H Q) from ⟨fun pins s σ H Q I ⟨Xs', q⟩ => (hb Xs').run pins s σ H Q I q⟩) pa_nil (hs := h2)) (hs := h1)) hw hs) fun Dn σ H ⟨hl, B, ρ, δ, S, r, q⟩ => ⟨B, ρ, δ, S, r, q.bind.imp fun d1 S1 q v1 H1 ρ1 r1 g1 z1 => by
    obtain ⟨p, rfl, n, na, st, t⟩ := (show Res F .nw B ρ1 H H1 S1 v1 d1 from z1)
    refine ⟨fun b => F.Xs b ∨ b = p, B, ρ1, δ, S1, r.hide r1 g1 n st, ?_⟩
    have q := q.bind
    have er : ∀ {e : Ex} {S2 : Sto}, (∀ cls dd H' ρ', End F ρ' H' S2 → ErrAt F ρ' H' cls dd e → F.W cls dd H') → ∀ cls dd H' ρ', End (F.hide p) ρ' H' S2 → ErrAt (F.hide p) ρ' H' cls dd e → F.W cls dd H' := fun {e S2} k cls dd H' ρ' en ea => by
      refine k cls dd H' ρ' ⟨en.gr, en.sta.wk fun b z => .inl z⟩ ?_
      obtain ⟨C, e1, e2, e3⟩ := ea
      refine ⟨C, e1, e2, e3.imp id fun ⟨nf, x, vs, e3, e4, e5⟩ => ⟨nf, x, vs, e3, e4, RpF.mono (fun _ _ e => e) (fun b o eb _ => ?_) e5⟩⟩
      obtain ⟨n, eb⟩ := hid_iff.mp eb
      exact hid_iff.mpr ⟨fun z => n (z.imp .inl id), eb⟩
    cases et : tb δ S1 with
    | none => rw [et] at q; exact q.elim
    | some pr =>
      rw [et] at q
      obtain ⟨res, S2⟩ := pr
      cases res with
      | error e => exact er q
      | ok d2 =>
        intro v2 H2 ρ2 r2 g2 z2
        have r3 : Rel F O B ρ2 σ H2 δ S2 := Rel.unhide (a := p) r2
        have rp2 : Rp F.K F.ca ρ2 (hid (Zo F B ρ2) H2) v2 d2 := Rp.mono (fun _ _ e => e) (sees_hide (F := F) (a := p) (B := B)) (show Rp F.K F.ca ρ2 (hid (Zo (F.hide p) B ρ2) H2) v2 d2 from z2)
        have hpx : (fun b => (F.hide p).Xs b ∨ Own B b) = fun b => (F.Xs b ∨ Own B b) ∨ b = p := funext fun b => propext (by
          show ((F.Xs b ∨ b = p) ∨ Own B b) ↔ _
          constructor
          · rintro ((h | h) | h)
            · exact .inl (.inl h)
            · exact .inr h
            · exact .inl (.inr h)
          · rintro ((h | h) | h)
            · exact .inl (.inl h)
            · exact .inr h
            · exact .inl (.inr h))
        have st2 : Sta F.K F.ca ρ2 (fun b => (F.Xs b ∨ Own B b) ∨ b = p) H2 S2 := by
          have z := r2.sta
          have z : Sta F.K F.ca ρ2 (fun b => (F.hide p).Xs b ∨ Own B b) H2 S2 := z
          rwa [hpx] at z
        have na2 : p ∉ ρ2 := fun hm => st2.xr p hm (.inr rfl)
        have t2 : Top F.K F.ca ρ2 (hid (fun b => Zo F B ρ2 b ∨ b = p) H2) H2 p d1 := by
          refine t.mono g2.at ?_ fun o ht e => g2.keep p o na (fun z => z) ht e
          intro b o e ht
          obtain ⟨nn, e2⟩ := hid_iff.mp e
          refine hid_iff.mpr ⟨fun z => ?_, g2.keep b o (fun z => nn (.inl (.inr z))) (fun z => z) ht e2⟩
          rcases z with ((z | z) | z) | z
          · exact nn (.inl (.inl (.inl z)))
          · exact nn (.inl (.inl (.inr z)))
          · obtain ⟨N, eN, nN⟩ := g2.ext
            rw [eN] at z
            rcases List.mem_append.mp z with z | z
            · exact nn (.inl (.inr z))
            · exact (nN b z).no e2 ht
          · exact nn (.inr z)
        obtain ⟨B', r4, n4⟩ := r.new (m := .nw) r3 (g1.tr g2) hio hz0 (by rw [← r.len, hl]; exact (List.getElem?_eq_some_iff.mp hi).1) (show Res F .nw B ρ2 H H2 S2 (.ref p) d1 from ⟨p, rfl, n, na2, st2, t2⟩)
        have rp4 : Rin F .fz B' ρ2 H2 v2 d2 := by
          refine Rp.mono (fun _ _ e => e) (fun b o e ht => ?_) (show Rp F.K F.ca ρ2 (hid (Zo (F.hide p) B ρ2) H2) v2 d2 from z2)
          obtain ⟨nn, e2⟩ := hid_iff.mp e
          refine hid_iff.mpr ⟨fun z => ?_, e2⟩
          rcases z with (z | z) | z
          · exact nn (.inl (.inl (.inl z)))
          · by_cases hb : Own B b
            · exact nn (.inl (.inr hb))
            · have eb : B' i = some p ∨ True := .inr trivial
              obtain ⟨k, hk⟩ := z
              by_cases ki : k = i
              · subst ki
                have s4 := r4.slot k d1 (List.getElem?_set_self (by rw [← r.len, hl]; exact (List.getElem?_eq_some_iff.mp hi).1))
                unfold SlAt at s4
                rw [hk] at s4
                have e5 := s4.1
                rw [List.getElem?_set_self (by rw [hl]; exact (List.getElem?_eq_some_iff.mp hi).1)] at e5
                cases e5
                exact nn (.inl (.inl (.inr rfl)))
              · have ko : k ∈ O := by
                  have := (r4.own k).mp ⟨b, hk⟩
                  exact (List.mem_cons.mp this).resolve_left ki
                obtain ⟨c, hc'⟩ := (r.own k).mpr ko
                obtain ⟨dk, ek⟩ := r.ownd k c hc'
                have s3 := r3.slot k dk ek
                unfold SlAt at s3
                rw [hc'] at s3
                have s4 := r4.slot k dk (by rw [List.getElem?_set_ne (Ne.symm ki)]; exact ek)
                unfold SlAt at s4
                rw [hk] at s4
                have e5 := s4.1
                rw [List.getElem?_set_ne (Ne.symm ki), s3.1] at e5
                cases e5
                exact hb ⟨k, hc'⟩
          · exact nn (.inr z)
        exact ⟨.ref p, v2, rfl, (q : ∀ σ' H' B' ρ', _) _ H2 B' ρ2 (r4.set hjo2 rp4) (g1.tr g2).wk n4⟩⟩)
end
end Fg
namespace Fg
open PySem PySem.Spec PyProof.Rows L2
def parS3 (i j l : Nat) (ta tb tc : DEnv → M D) : DEnv → M (DEnv × Fl) := fun δ => do let x ← ta δ; let y ← tb δ; let z ← tc δ; pure (((δ.set i (some x)).set j (some y)).set l (some z), Fl.nx)
theorem ev_par3 {i j l : Nat} {t u v : DEnv → M D} {δ : DEnv} {S : Sto} : parS3 i j l t u v δ S = bnd (t δ S) fun x => (do let y ← u δ; let z ← v δ; pure (((δ.set i (some x)).set j (some y)).set l (some z), Fl.nx)) := id rfl
variable [TQ]
end Fg
namespace Fg
open PySem PySem.Spec PyProof.Rows L2
variable [TQ]
def regM (t : DEnv → M D) : DEnv → M D := fun δ => do
  let d ← t δ
  fun S => some (.ok (.mt S.length), S ++ [d])
def asOM (c : Str) : D → M (List (Str × D))
  | .obj c' fs => if c' = c then pure fs else M.stuck
  | .mt k => fun S => match S[k]? with
    | some (.obj c' fs) => if c' = c then some (.ok fs, S) else none
    | _ => none
  | _ => M.stuck
def fldXD (c f : Str) (x : D) : M D := do
  let fs ← asOM c x
  M.opt (fs.lookup f)
def methXD (c mn : Str) (n : Nat) (f : List D → M D) (t : DEnv → M D) (u : DEnv → M (List D)) : DEnv → M D := fun δ => do
  let x ← t δ
  let fs ← asOM c x
  if fs.lookup mn = none then (do let ds ← u δ; if ds.length + 1 = n then f (x :: ds) else M.stuck) else M.stuck
def methXK (c mn : Str) (idx : List Nat) (len n : Nat) (f : List D → M D) (t : DEnv → M D) (u : DEnv → M (List D)) : DEnv → M D := fun δ => do
  let x ← t δ
  let fs ← asOM c x
  if fs.lookup mn = none then (do let ds ← u δ; if ds.length = len ∧ (pick idx (x :: ds)).length = n then f (pick idx (x :: ds)) else M.stuck) else M.stuck
def callXD (c : Str) (n : Nat) (f : List D → M D) (t : DEnv → M D) (u : DEnv → M (List D)) : DEnv → M D := fun δ => do
  let x ← t δ
  let _ ← asOM c x
  let ds ← u δ
  let _ ← asOM c x
  if ds.length + 1 = n then f (x :: ds) else M.stuck
def mtPut (c f : Str) (v : D) : D → M Unit
  | .mt k => fun S => match S[k]? with
    | some (.obj c' fs) => if c' = c ∧ fs.length < 1000 then some (.ok (), S.set k (.obj c (putD f v fs))) else none
    | _ => none
  | _ => M.stuck
def mfldS (i : Nat) (c f : Str) (t : DEnv → M D) : DEnv → M (DEnv × Fl) := fun δ => do
  let v ← t δ
  let x ← rd i δ
  mtPut c f v x
  pure (δ, Fl.nx)
end Fg
namespace Fg
open PySem PySem.Spec PyProof.Rows L2
variable [TQ]
def mtK : D → M (List (Key × D))
  | .mt k => fun S => match S[k]? with
    | some (.dct ds) => some (.ok ds, S)
    | _ => none
  | _ => M.stuck
def mtSetK : D → List (Key × D) → M Unit
  | .mt k, ds => fun S => some (.ok (), S.set k (.dct ds))
  | _, _ => M.stuck
/-- d[k] of a dict in the store -/
def dgetMD (x y : D) : M D := do
  let kvs ← mtK x
  let k ← keyD y
  M.opt (getKD kvs k)
/-- d[k] = e of a dict in the store, as a target -/
def tgMD (i : Nat) (k : DEnv → M D) : D → DEnv → M DEnv := fun v δ => do
  let x ← rd i δ
  let y ← k δ
  let kvs ← mtK x
  let key ← keyD y
  if kvs.length < sizeLine then (do mtSetK x (putKD kvs key v); pure δ) else M.stuck
end Fg
namespace Fg
open PySem PySem.Spec PyProof.Rows L2
section
variable {S S' : Sto} {δ : DEnv} {i k : Nat} {x y : D} {t : DEnv → M D} {c f : Str} {fs : List (Str × D)} {kvs : List (Key × D)}
theorem ev_reg : regM t δ S = bnd (t δ S) fun d S => some (.ok (.mt S.length), S ++ [d]) := id rfl
theorem ev_fldXD : fldXD c f x S = bnd (asOM c x S) fun fs => M.opt (fs.lookup f) := id rfl
theorem ev_methX {mn : Str} {n : Nat} {g : List D → M D} {u : DEnv → M (List D)} : methXD c mn n g t u δ S = bnd (t δ S) fun x => (do
  let fs ← asOM c x
  if fs.lookup mn = none then (do let ds ← u δ; if ds.length + 1 = n then g (x :: ds) else M.stuck) else M.stuck) := id rfl
theorem ev_methXK {mn : Str} {idx : List Nat} {len n : Nat} {g : List D → M D} {u : DEnv → M (List D)} : methXK c mn idx len n g t u δ S = bnd (t δ S) fun x => (do
  let fs ← asOM c x
  if fs.lookup mn = none then (do let ds ← u δ; if ds.length = len ∧ (pick idx (x :: ds)).length = n then g (pick idx (x :: ds)) else M.stuck) else M.stuck) := id rfl
theorem ev_callX {n : Nat} {g : List D → M D} {u : DEnv → M (List D)} : callXD c n g t u δ S = bnd (t δ S) fun x => (do
  let _ ← asOM c x
  let ds ← u δ
  let _ ← asOM c x
  if ds.length + 1 = n then g (x :: ds) else M.stuck) := id rfl
theorem ev_mfld : mfldS i c f t δ S = bnd (t δ S) fun v => (do
  let x ← rd i δ
  mtPut c f v x
  pure (δ, Fl.nx)) := id rfl
theorem ev_dgetM : dgetMD x y S = bnd (mtK x S) fun kvs => (do let k ← keyD y; M.opt (getKD kvs k)) := id rfl
theorem ev_tgMD {v : D} {u : DEnv → M D} : tgMD i u v δ S = bnd (rd i δ S) fun x => (do
  let y ← u δ
  let kvs ← mtK x
  let key ← keyD y
  if kvs.length < sizeLine then (do mtSetK x (putKD kvs key v); pure δ) else M.stuck) := id rfl
end
end Fg
namespace Fg
open PySem PySem.Spec PyProof.Rows L2
variable [TQ]
def inDkD (neg : Bool) (x y : D) : M D := do
  let k ← keyD x
  let kvs ← asDct y
  pure (.bl (opp neg (getKD kvs k).isSome))
end Fg
namespace Fg
open PySem PySem.Spec PyProof.Rows L2
section
variable {S : Sto} {δ : DEnv}
theorem ev_inDk {neg : Bool} {z : Str} {kvs : List (Key × D)} : inDkD neg (.str z) (.dct kvs) S = some (.ok (.bl (opp neg (getKD kvs (.inr z)).isSome)), S) := id rfl
end
end Fg
namespace Fg
open PySem PySem.Spec PyProof.Rows L2
variable [TQ]
/-- how it ends: given and shown, or an error among hs, its field shown -/
def endRR (hs : List (Str × Str)) : Option (Except Ex D × Sto) → Option (Except Ex D × Sto)
  | some (.ok d, S) => (do let z ← reprD [d]; pure (.lst [.str "given", z]) : M D) S
  | some (.error e, S) => match hs.lookup e.c, e.fs with
    | some f, [(g, d)] => if g = f ∧ f ≠ "" then (do let z ← reprD [d]; pure (.lst [.str e.c, z]) : M D) S else none
    | some f, [] => if f = "" then (pure (.lst [.str e.c]) : M D) S else none
    | _, _ => none
  | none => none
def endRM (hs : List (Str × Str)) (O : List Nat) (t : DEnv → M D) : DEnv → M D := fun δ S => endRR hs (t (wipeD δ O) S)
end Fg
namespace Fg
open PySem PySem.Spec PyProof.Rows L2
section
variable {S : Sto} {δ : DEnv}
theorem ev_endRM {hs : List (Str × Str)} {O : List Nat} {t : DEnv → M D} : endRM hs O t δ S = endRR hs (t (wipeD δ O) S) := id rfl
theorem ev_endRo {hs : List (Str × Str)} {d : D} : endRR hs (some (.ok d, S)) = bnd (reprD [d] S) fun z => pure (.lst [.str "given", z]) := id rfl
theorem ev_endRe {hs : List (Str × Str)} {k h : Str} {d : D} (e : hs.lookup k = some h) (n : h ≠ "" := by decide +kernel) : endRR hs (some (.error ⟨k, [(h, d)]⟩, S)) = bnd (reprD [d] S) fun z => pure (.lst [.str k, z]) := by
  show (match hs.lookup k, [(h, d)] with
    | some f, [(g, d)] => if g = f ∧ f ≠ "" then (do let z ← reprD [d]; pure (.lst [.str k, z]) : M D) S else none
    | some f, [] => if f = "" then (pure (.lst [.str k]) : M D) S else none
    | _, _ => none) = _
  rw [e]
  show (if h = h ∧ h ≠ "" then _ else _) = _
  rw [if_pos ⟨rfl, n⟩]
  rfl
theorem ev_endRz {hs : List (Str × Str)} {k : Str} (e : hs.lookup k = some "") : endRR hs (some (.error ⟨k, []⟩, S)) = some (.ok (.lst [.str k]), S) := by
  show (match hs.lookup k, ([] : List (Str × D)) with
    | some f, [(g, d)] => if g = f ∧ f ≠ "" then (do let z ← reprD [d]; pure (.lst [.str k, z]) : M D) S else none
    | some f, [] => if f = "" then (pure (.lst [.str k]) : M D) S else none
    | _, _ => none) = _
  rw [e]
  rfl
end
end Fg
namespace Fg
open PySem PySem.Spec PyProof.Rows L2
variable [TQ]
def tgL (gs : List (D → DEnv → M DEnv)) : D → DEnv → M DEnv := fun d δ => match d with
  | .lst ds => if ds.length = gs.length then tgs gs ds δ else M.stuck
  | _ => M.stuck
end Fg
namespace Fg
open PySem PySem.Spec PyProof.Rows L2
theorem ev_tgL {gs : List (D → DEnv → M DEnv)} {ds : List D} {δ : DEnv} {S : Sto} : tgL gs (.lst ds) δ S = cnd (ds.length = gs.length) (tgs gs ds δ) M.stuck S := id rfl
end Fg
namespace Fg
open PySem PySem.Spec PyProof.Rows L2
variable [TQ]
section
variable {X : Cx} {F : Fr} {O : List Nat} {m mi : Md} {o : Expr} {pos apos : Pos}
def upperD : D → M D
  | .str z => if z.length ≤ 5592405 then pure (.str (Txt.upper z)) else M.stuck
  | _ => M.stuck
theorem pd_upper {t : DEnv → M D} (ho : PED X F O .tr o t) (h2 : m ≠ .nw := by decide) (hbase : attributeBase o "upper" X.env (eval o X.env) = eval o X.env := by rfl) (hline : (apos.endLine == pos.line) = true := by rfl) :
    PED X F O m (.Call (.Attribute o "upper" apos) [] [] pos) (oneM upperD t) := pe_imp (fe_sm0 PySem.F.slot_str_upper PySem.F.type_str_upper mt_upper ho hbase hline) fun σ H Q ⟨B, ρ, δ, S, r0, q⟩ => ⟨B, ρ, δ, S, r0, q.bind.imp fun d S' q v H' ρ' r' g1 z => by
    cases d <;> first | exact (show False from q).elim | skip
    rename_i s
    obtain rfl := Rin.str (Res.rin r0 z)
    obtain ⟨c, q⟩ := Ok1.ite q
    exact ⟨s, rfl, rfl, c, (q : ∀ v H' ρ', _) _ H' ρ' r' g1 (scV_res (d := .str (Txt.upper s)) rfl h2)⟩⟩
end
end Fg
namespace Fg
open PySem PySem.Spec PyProof.Rows L2
theorem ev_upper {z : Str} {S : Sto} : upperD (.str z) S = cnd (z.length ≤ 5592405) (pure (.str (Txt.upper z))) M.stuck S := id rfl
end Fg
namespace Fg
open PySem PySem.Spec PyProof.Rows L2
variable [TQ]
def lenM2 : List D → M D
  | [.mt k] => (do let ds ← mtL (.mt k); pure (.int (ds.length : Nat)))
  | ds => lenD ds
def ixM2 : D → D → M D
  | .mt k, y => ixMD (.mt k) y
  | x, y => ixD x y
/-- xs == [] of a list in the store -/
def nilMD (neg : Bool) : D → D → M D
  | .mt k, .lst [] => (do let ds ← mtL (.mt k); pure (.bl (opp neg ds.isEmpty)))
  | x, y => eqBD neg x y
def mappS (i : Nat) (t : DEnv → M D) : DEnv → M (DEnv × Fl) := fun δ => do
  let x ← rd i δ
  let _ ← mtL x
  let v ← t δ
  let ds ← mtL x
  if ds.length < sizeLine then (do mtSet x (ds ++ [v]); pure (δ, Fl.nx)) else M.stuck
end Fg
namespace Fg
open PySem PySem.Spec PyProof.Rows L2
section
variable {S : Sto} {ds : List D} {k : Nat} {y : D} {δ : DEnv} {i : Nat} {t : DEnv → M D} {neg : Bool}
theorem ev_lenM2L : lenM2 [.lst ds] S = lenD [.lst ds] S := id rfl
theorem ev_lenM2M : lenM2 [.mt k] S = bnd (mtL (.mt k) S) fun ds => pure (.int (ds.length : Nat)) := id rfl
theorem ev_ixM2L : ixM2 (.lst ds) y S = ixD (.lst ds) y S := id rfl
theorem ev_ixM2M : ixM2 (.mt k) y S = ixMD (.mt k) y S := id rfl
theorem ev_nilMM : nilMD neg (.mt k) (.lst []) S = bnd (mtL (.mt k) S) fun ds => pure (.bl (opp neg ds.isEmpty)) := id rfl
theorem ev_mapp : mappS i t δ S = bnd (rd i δ S) fun x => (do
  let _ ← mtL x
  let v ← t δ
  let ds ← mtL x
  if ds.length < sizeLine then (do mtSet x (ds ++ [v]); pure (δ, Fl.nx)) else M.stuck) := id rfl
end
end Fg
namespace Fg
open PySem PySem.Spec PyProof.Rows L2
variable [TQ]
def raise0S (c : Str) : DEnv → M (DEnv × Fl) := fun _ => M.raise ⟨c, []⟩
def tryFinS (b f : DEnv → M (DEnv × Fl)) : DEnv → M (DEnv × Fl) := fun δ => do
  let p ← noErr (b δ)
  match p.2 with
  | .nx => noErr (f p.1)
  | _ => M.stuck
def zfillD : D → D → M D
  | .str z, .int i => if PadOk i = true then pure (.str (Txt.zfill z i)) else M.stuck
  | _, _ => M.stuck
section
variable {S : Sto} {δ : DEnv}
theorem ev_raise0 {c : Str} : raise0S c δ S = some (.error ⟨c, []⟩, S) := id rfl
theorem ev_tryFin {b f : DEnv → M (DEnv × Fl)} : tryFinS b f δ S = bnd (nErr (b δ S)) fun p => (match p.2 with
  | .nx => noErr (f p.1)
  | _ => M.stuck) := id rfl
theorem ev_zfill {z : Str} {i : Int} : zfillD (.str z) (.int i) S = cnd (PadOk i = true) (pure (.str (Txt.zfill z i))) M.stuck S := id rfl
end
end Fg
namespace Fg
open PySem PySem.Spec PyProof.Rows L2
variable [TQ]
def methXS (c mn : Str) (f : List D → M D) (t : DEnv → M D) (u : DEnv → M (List D)) : DEnv → M D := fun δ => do
  let x ← t δ
  let fs ← asOM c x
  if fs.lookup mn = none then (do let ds ← u δ; capL ds; f [x, .non, .tup ds]) else M.stuck
section
variable {S : Sto} {δ : DEnv} {c mn : Str} {f : List D → M D} {t : DEnv → M D} {u : DEnv → M (List D)}
theorem ev_methXS : methXS c mn f t u δ S = bnd (t δ S) fun x => (do
  let fs ← asOM c x
  if fs.lookup mn = none then (do let ds ← u δ; capL ds; f [x, .non, .tup ds]) else M.stuck) := id rfl
end
end Fg
namespace Fg
open PySem PySem.Spec PyProof.Rows L2
def ljustD : D → D → M D
  | .str z, .int i => if PadOk i = true then pure (.str (Txt.ljust z i)) else M.stuck
  | _, _ => M.stuck
def rjustD : D → D → M D
  | .str z, .int i => if PadOk i = true then pure (.str (Txt.rjust z i)) else M.stuck
  | _, _ => M.stuck
/-- try: b, nothing being raised -/
def tryNxS (b : DEnv → M (DEnv × Fl)) : DEnv → M (DEnv × Fl) := fun δ => noErr (b δ)
section
variable {S : Sto} {δ : DEnv}
theorem ev_ljust {z : Str} {i : Int} : ljustD (.str z) (.int i) S = cnd (PadOk i = true) (pure (.str (Txt.ljust z i))) M.stuck S := id rfl
theorem ev_rjust {z : Str} {i : Int} : rjustD (.str z) (.int i) S = cnd (PadOk i = true) (pure (.str (Txt.rjust z i))) M.stuck S := id rfl
theorem ev_tryNx {b : DEnv → M (DEnv × Fl)} : tryNxS b δ S = nErr (b δ S) := id rfl
end
end Fg
namespace Fg
open PySem PySem.Spec PySem.Calls PyProof.Rows L2
def laugS (i : Nat) (k t : DEnv → M D) : DEnv → M (DEnv × Fl) := fun δ => do
  let x ← rd i δ
  let ds ← itL x
  let y ← k δ
  match y with
  | .int n => (do let d ← M.opt (atI ds n); let z ← t δ; let w ← iaddD d z; let j ← M.opt (ixN ds.length n); pure (δ.set i (some (.lst (ds.set j w))), Fl.nx))
  | _ => M.stuck
section
variable {S : Sto}
theorem ev_laug {i : Nat} {k t : DEnv → M D} {δ : DEnv} : laugS i k t δ S = bnd (rd i δ S) fun x => (do
  let ds ← itL x
  let y ← k δ
  match y with
  | .int n => (do let d ← M.opt (atI ds n); let z ← t δ; let w ← iaddD d z; let j ← M.opt (ixN ds.length n); pure (δ.set i (some (.lst (ds.set j w))), Fl.nx))
  | _ => M.stuck) := id rfl
end
end Fg
namespace Fg
open PySem PySem.Spec PySem.Calls PyProof.Rows L2
theorem PrsAt.ext {K : PySem.W.Frag} {G H : Hp} (e : LamX.ExtN G H) : ∀ {vs : List V} {ps : List (Int × Int)}, PrsAt K G vs ps → PrsAt K H vs ps
  | _, _, .nil => .nil
  | _, _, .cons h r => .cons (SqT.ext e h) (PrsAt.ext e r)
end Fg
namespace Fg
open PySem PySem.Spec PySem.Calls PyProof.Rows L2
def mvIfS (i : Nat) (c : DEnv → M Bool) (a : DEnv → M D) : DEnv → M (DEnv × Fl) := fun δ => do
  let b ← c δ
  if b = true then (do let d ← a δ; pure (δ.set i (some d), Fl.nx)) else (do let _ ← rd i δ; pure (δ, Fl.nx))
section
variable {S : Sto} {δ : DEnv} {c : DEnv → M Bool} {a : DEnv → M D} {i : Nat}
theorem ev_mvIf : mvIfS i c a δ S = bnd (c δ S) fun b => if b = true then (do let d ← a δ; pure (δ.set i (some d), Fl.nx)) else (do let _ ← rd i δ; pure (δ, Fl.nx)) := id rfl
end
end Fg
namespace Fg
open PySem PySem.Spec PyProof.Rows L2
variable [TQ]
abbrev LE := Option (Except (Ex × DEnv) DEnv × Sto)
def OkLE (r : LE) (P : DEnv → Sto → Prop) (E : Ex → DEnv → Sto → Prop) : Prop := match r with
  | none => False
  | some (.ok δ, S) => P δ S
  | some (.error (e, δ), S) => E e δ S
theorem OkLE.imp {r : LE} {P P' : DEnv → Sto → Prop} {E E' : Ex → DEnv → Sto → Prop} (h : OkLE r P E) (w : ∀ δ S, P δ S → P' δ S) (v : ∀ e δ S, E e δ S → E' e δ S) : OkLE r P' E' := by
  match r, h with
  | some (.ok δ, S), h => exact w δ S h
  | some (.error (e, δ), S), h => exact v e δ S h
def Fr.here (F : Fr) (h : Hp) (r : List Addr) (w : XK) : Fr := { F with H0 := h, R0 := r, W := w, own0 := none }
section
variable {F : Fr} {B : Nat → Option Addr} {ρ : List Addr} {σ : L2.St} {H : Hp} {δ : DEnv} {S : Sto}
theorem Rel.none (r : Rel F [] B ρ σ H δ S) : ∀ b, ¬ Own B b := fun b ⟨i, e⟩ => absurd ((r.own i).mp ⟨b, e⟩) (by simp)
theorem Rel.here (r : Rel F [] B ρ σ H δ S) (w : XK) : Rel (F.here H ρ w) [] B ρ σ H δ S :=
  ⟨Gr.refl _ _ _, r.sta, fun b h => absurd h (r.none b), r.oxs, r.binj, r.own, r.ownd, fun p e => (nomatch e), r.len, r.slot⟩
theorem Gr.no {ρ' : List Addr} {H' : Hp} {Z Z' : Addr → Prop} (g : Gr ρ Z H ρ' H') (h : ∀ b, ¬ Z b) : Gr ρ Z' H ρ' H' := ⟨g.ext, fun b o h1 _ h3 h4 => g.keep b o h1 (h b) h3 h4, g.alive, g.tabs⟩
theorem Sta.own {Xs : Addr → Prop} {K : PySem.W.Frag} {ca : Str → Option Addr} (s : Sta K ca ρ Xs H S) (h : ∀ b, ¬ Own B b) : Sta K ca ρ (fun b => Xs b ∨ Own B b) H S := s.wk fun b z => z.elim id fun z => absurd z (h b)
end
theorem SrL.notXd {K : PySem.W.Frag} {ca : Str → Option Addr} {ρ : List Addr} {G H : Hp} {x : Addr} {vs : List (Str × V)} (hx : H x = some (.xd vs)) : ∀ {l : List Addr} {S : Sto}, SrL K ca ρ G H l S → x ∉ l
  | [], _, _, h => nomatch h
  | a :: r, [], s, _ => (show False from s).elim
  | a :: r, d :: S, s, h => by
    obtain ⟨s1, s2⟩ := s
    rcases List.mem_cons.mp h with e | h
    · subst e
      cases d <;> first | exact (show False from s1).elim | skip
      · obtain ⟨vs, h1, _⟩ := s1; rw [hx] at h1; cases h1
      · obtain ⟨vs, h1, _⟩ := s1; rw [hx] at h1; cases h1
      · obtain ⟨C, dx, vs, _, h1, _⟩ := s1; rw [hx] at h1; cases h1
    · exact SrL.notXd hx s2 h
/-- an error's object stays while the heap grows -/
theorem ErrAt.gr {F : Fr} {ρ ρ' : List Addr} {H H' : Hp} {cls : Value} {dd : Option Addr} {e : Ex} {S : Sto} (h : ErrAt F ρ H cls dd e) (s : Sta F.K F.ca ρ F.Xs H S) (g : Gr ρ NoZ H ρ' H') : ErrAt F ρ' H' cls dd e := by
  obtain ⟨C, h1, h2, h3⟩ := h
  refine ⟨C, h1, h2, h3.imp id fun ⟨nf, x, vs, h3, h4, h5⟩ => ⟨nf, x, vs, h3, ?_, RpF.mono g.at g.seesF h5⟩⟩
  exact g.keep x _ (SrL.notXd h4 s.sto) (fun z => z) (fun ps z => by cases z) h4
end Fg
namespace Fg
open PySem PySem.Spec PySem.Calls PyProof.Rows L2
def extS (i : Nat) (t : DEnv → M D) : DEnv → M (DEnv × Fl) := fun δ => do
  let x ← rd i δ
  let ds ← itL x
  let d ← t δ
  let es ← itL d
  if ds.length + es.length ≤ sizeLine then pure (δ.set i (some (.lst (ds ++ es))), Fl.nx) else M.stuck
def comp2L (vs1 : List Nat) (g : D → DEnv → M DEnv) (it1 : DEnv → M (List D)) (g1 : D → DEnv → M DEnv) (t1 : DEnv → M Bool) (e : DEnv → M D) (δ : DEnv) : List D → List D → M (List D)
  | acc, [] => pure acc
  | acc, x :: r => do
    let δ1 ← noErr (g x δ)
    let ys ← noErr (it1 δ1)
    let a ← compL g1 t1 e (wipeD δ1 vs1) acc ys
    comp2L vs1 g it1 g1 t1 e δ a r
def lc2D (vs vs1 : List Nat) (it : DEnv → M (List D)) (g : D → DEnv → M DEnv) (it1 : DEnv → M (List D)) (g1 : D → DEnv → M DEnv) (t1 : DEnv → M Bool) (e : DEnv → M D) : DEnv → M D := fun δ => do
  let xs ← it δ
  let ys ← comp2L vs1 g it1 g1 t1 e (wipeD δ vs) [] xs
  pure (.lst ys)
section
variable {δ : DEnv} {S : Sto}
theorem ev_ext {i : Nat} {t : DEnv → M D} : extS i t δ S = bnd (rd i δ S) fun x => (do
  let ds ← itL x
  let d ← t δ
  let es ← itL d
  if ds.length + es.length ≤ sizeLine then pure (δ.set i (some (.lst (ds ++ es))), Fl.nx) else M.stuck) := id rfl
theorem ev_lc2D {vs vs1 : List Nat} {it : DEnv → M (List D)} {g : D → DEnv → M DEnv} {it1 : DEnv → M (List D)} {g1 : D → DEnv → M DEnv} {t1 : DEnv → M Bool} {e : DEnv → M D} : lc2D vs vs1 it g it1 g1 t1 e δ S = bnd (it δ S) fun xs => (do
  let ys ← comp2L vs1 g it1 g1 t1 e (wipeD δ vs) [] xs
  pure (.lst ys)) := id rfl
end
end Fg
namespace Fg
open PySem PySem.Spec PySem.Calls PyProof.Rows L2
variable [TQ]
def Nx (t : DEnv → M (DEnv × Fl)) : Prop := ∀ δ S p S', t δ S = some (.ok p, S') → p.2 = .nx
def Rt (t : DEnv → M (DEnv × Fl)) : Prop := ∀ δ S p S', t δ S = some (.ok p, S') → ∃ d, p.2 = .rt d
theorem M.invN {α β : Type} {m : M α} {f : α → M β} {S S' : Sto} {b : β} (h : (m >>= f) S = some (.ok b, S')) : ∃ a S1, m S = some (.ok a, S1) ∧ f a S1 = some (.ok b, S') := by
  cases e : m S with
  | none => rw [M.bind_none e] at h; cases h
  | some p =>
    obtain ⟨r, S1⟩ := p
    cases r with
    | error x => rw [M.bind_err e] at h; cases h
    | ok a => rw [M.bind_ok e] at h; exact ⟨a, S1, rfl, h⟩
theorem nx_pure {δ : DEnv} {S : Sto} {p : DEnv × Fl} {S' : Sto} (h : (pure (δ, Fl.nx) : M (DEnv × Fl)) S = some (.ok p, S')) : p.2 = .nx := by
  have h : some (Except.ok (δ, Fl.nx), S) = some (.ok p, S') := h
  cases h; rfl
theorem Nx.set {i : Nat} {t : DEnv → M D} : Nx (setS i t) := fun δ S p S' h => by
  obtain ⟨d, S1, _, h⟩ := M.invN h
  exact nx_pure h
theorem Nx.skip : Nx skipS := fun δ S p S' h => nx_pure h
theorem Nx.drop {t : DEnv → M D} : Nx (dropS t) := fun δ S p S' h => by
  obtain ⟨d, S1, _, h⟩ := M.invN h
  exact nx_pure h
theorem Nx.par {i j : Nat} {t u : DEnv → M D} : Nx (parS i j t u) := fun δ S p S' h => by
  obtain ⟨d, S1, _, h⟩ := M.invN h
  obtain ⟨d, S1, _, h⟩ := M.invN h
  exact nx_pure h
theorem Nx.asg {t : DEnv → M D} {g : D → DEnv → M DEnv} : Nx (asgS t g) := fun δ S p S' h => by
  obtain ⟨d, S1, _, h⟩ := M.invN h
  obtain ⟨d, S1, _, h⟩ := M.invN h
  exact nx_pure h
theorem Nx.ifs {t : DEnv → M Bool} {u w : DEnv → M (DEnv × Fl)} (hu : Nx u) (hw : Nx w) : Nx (ifS t u w) := fun δ S p S' h => by
  obtain ⟨b, S1, _, h⟩ := M.invN h
  cases b with
  | true => exact hu _ _ _ _ h
  | false => exact hw _ _ _ _ h
theorem Nx.seq {t u : DEnv → M (DEnv × Fl)} (ht : Nx t) (hu : Nx u) : Nx (seqS t u) := fun δ S p S' h => by
  obtain ⟨q, S1, e, h⟩ := M.invN h
  have := ht _ _ _ _ e
  obtain ⟨δ1, f⟩ := q
  cases this
  exact hu _ _ _ _ h
theorem Rt.ret {t : DEnv → M D} {u : DEnv → M (DEnv × Fl)} : Rt (seqS (retS t) u) := fun δ S p S' h => by
  obtain ⟨q, S1, e, h⟩ := M.invN h
  obtain ⟨d, S2, e1, e2⟩ := M.invN e
  have e2 : some (Except.ok (δ, Fl.rt d), S2) = some (.ok q, S1) := e2
  injection e2 with e2
  injection e2 with e3 e4
  injection e3 with e3
  subst e3
  have h : some (Except.ok (δ, Fl.rt d), S1) = some (.ok p, S') := h
  injection h with h
  injection h with h1 h2
  injection h1 with h1
  exact ⟨d, by rw [← h1]⟩
theorem Rt.seq {t u : DEnv → M (DEnv × Fl)} (ht : Nx t) (hu : Rt u) : Rt (seqS t u) := fun δ S p S' h => by
  obtain ⟨q, S1, e, h⟩ := M.invN h
  have := ht _ _ _ _ e
  obtain ⟨δ1, f⟩ := q
  cases this
  exact hu _ _ _ _ h
end Fg
namespace Fg
open PySem PySem.Spec PyProof.Rows L2 GenW
section
variable [TQ]
def B0 : Nat → Option Addr := fun _ => none
def Yes (F : Fr) (YK : Nat → V → Hp → Prop) (i : Nat) (l : List D) : Prop := ∀ j d, i ≤ j → l[j]? = some d → ∀ x H' ρ', Gr F.R0 NoZ F.H0 ρ' H' → Rp F.K F.ca ρ' (hid (Zf F ρ') H') x d → YK j x H'
def GNx (F : Fr) (YK : Nat → V → Hp → Prop) (D' : GEx) (i : Nat) (ρ : List Addr) (H : Hp) (r : List D × DEnv × Fl) (S' : Sto) : Prop :=
  Yes F YK i r.1 ∧ match r.2.2 with
  | .nx => ∀ σ' H' ρ', Rel F [] B0 ρ' σ' H' r.2.1 S' → Gr ρ NoZ H ρ' H' → D'.nx r.1.length σ' H'
  | .bk => ∀ σ' H' ρ', Rel F [] B0 ρ' σ' H' r.2.1 S' → Gr ρ NoZ H ρ' H' → D'.bk r.1.length σ' H'
  | .ct => ∀ σ' H' ρ', Rel F [] B0 ρ' σ' H' r.2.1 S' → Gr ρ NoZ H ρ' H' → D'.ct r.1.length σ' H'
  | .rt d => ∀ v H' ρ', End F ρ' H' S' → Rp F.K F.ca ρ' (hid (Zf F ρ') H') v d → D'.rt r.1.length v H'
section
variable {X : Cx} {F : Fr} {st : Stmt} {rest : List Stmt}
theorem Yes.up {YK : Nat → V → Hp → Prop} {i k : Nat} {l : List D} (h : Yes F YK i l) (hk : i ≤ k) : Yes F YK k l := fun j d hj e => h j d (Nat.le_trans hk hj) e
/-- what is wanted behind t where u follows: all of u's items are t's at first -/
theorem GNx.gr {YK : Nat → V → Hp → Prop} {D' : GEx} {i : Nat} {ρ ρ1 : List Addr} {H H1 : Hp} {r : List D × DEnv × Fl} {S' : Sto} {k : Nat} (g : Gr ρ NoZ H ρ1 H1) (hk : i ≤ k) (h : GNx F YK D' i ρ H r S') : GNx F YK D' k ρ1 H1 r S' := by
  obtain ⟨a, δ, fl⟩ := r
  obtain ⟨y, q⟩ := h
  refine ⟨y.up hk, ?_⟩
  cases fl with
  | nx => exact fun σ' H' ρ' r' g' => (q : ∀ σ' H' ρ', _) σ' H' ρ' r' (g.tr g')
  | bk => exact fun σ' H' ρ' r' g' => (q : ∀ σ' H' ρ', _) σ' H' ρ' r' (g.tr g')
  | ct => exact fun σ' H' ρ' r' g' => (q : ∀ σ' H' ρ', _) σ' H' ρ' r' (g.tr g')
  | rt d => exact q
end
end
end Fg
namespace Fg
open PySem PySem.Spec PyProof.Rows L2
variable [TQ]
instance (i j : Int) : Decidable (RgOk i j) := by unfold RgOk; infer_instance
end Fg
namespace Fg
open PySem PySem.Spec PyProof.Rows L2
local macro_rules | `(tactic| walk_at "ni") => `(tactic| (intro x y S h; cases x <;> cases y <;> first | rfl | exact absurd ⟨rfl, rfl⟩ (h _ _)))
variable [TQ]
end Fg
namespace Fg
open PySem PySem.Spec PyProof.Rows L2
variable [TQ]
def noDN : Nat → D → Bool
  | 0, _ => false
  | n + 1, .tup ds => ds.all (noDN n)
  | n + 1, .lst ds => ds.all (noDN n)
  | n + 1, .obj _ fs => fs.all fun p => noDN n p.2
  | _ + 1, .dct _ => false
  | _ + 1, _ => true
def partsNo : D → Bool
  | .lst ds => ds.all (noDN 20)
  | .dct ds => ds.all fun p => noDN 20 p.2
  | .obj _ fs => fs.all fun p => noDN 20 p.2
  | _ => true
abbrev RTb := List (Str × (List D → M D))
def scD : D → Option Str
  | .non => some "None"
  | .bl b => some (if b then "True" else "False")
  | .int i => if i.natAbs.log2 < 1920 then some ((toString i : String) : Str) else none
  | .str x => some (reprText x)
  | _ => none
def shD (tb : RTb) (d : D) : M Str := match scD d with
  | some t => pure t
  | none => match d with
    | .obj c fs => match tb.lookup c with
      | some f => do
        let z ← noErr (f [.obj c fs])
        match z with
        | .str t => pure t
        | _ => M.stuck
      | none => M.stuck
    | _ => M.stuck
def shsD (tb : RTb) : Nat → List D → M (List Str)
  | _, [] => pure []
  | b, d :: ds => if b + 1 ≤ sizeLine then (do
      let t ← shD tb d
      if b + 1 + t.length ≤ sizeLine then (do
        let ts ← shsD tb (b + (t.length + 2)) ds
        pure (t :: ts)) else M.stuck) else M.stuck
def shkD (tb : RTb) : Nat → List (Key × D) → M (List Str)
  | _, [] => pure []
  | b, (k, d) :: r => match scD (keyV k) with
    | some kt => if b + 1 + kt.length ≤ sizeLine ∧ b + (kt.length + 3) ≤ sizeLine then (do
        let t ← shD tb d
        if b + (kt.length + 3) + t.length ≤ sizeLine then (do
          let ts ← shkD tb (b + (kt.length + t.length + 4)) r
          pure ((kt ++ ": " ++ t) :: ts)) else M.stuck) else M.stuck
    | none => M.stuck
def ownXD (tb : RTb) : D → M D
  | .obj c fs => do let t ← shD tb (.obj c fs); pure (.str t)
  | .lst (d :: ds) => do
    let ts ← shsD tb 0 (d :: ds)
    if (listText ts).length ≤ sizeLine then pure (.str (listText ts)) else M.stuck
  | .tup ds => do
    let ts ← shsD tb 0 ds
    if (tupleText ts).length ≤ sizeLine ∧ ts.length = ds.length then pure (.str (tupleText ts)) else M.stuck
  | .dct kvs => fun S => if (kvs.all fun p => noDN 20 p.2) = true ∧ S.all partsNo = true then (do
    let ts ← shkD tb 0 kvs
    if (dictText ts).length ≤ sizeLine then pure (.str (dictText ts)) else M.stuck : M D) S else none
  | _ => M.stuck
def reprXD (tb : RTb) : List D → M D
  | [d] => match pyN 20 d with
    | some p => if showOk p = true then pure (.str p.shown) else M.stuck
    | none => ownXD tb d
  | _ => M.stuck
end Fg
namespace Fg
open PySem PySem.Spec PyProof.Rows L2
structure FnZ (P : Program) (w : World) (K : PySem.W.Frag) (mg : Str → Option Value) (base : Heap) (CX : CXT) (k : Nat) (f : Addr) (fd : FuncData) (ps : List Str) (sp : Sp) : Prop where
  len : ∀ vs H Q E, sp vs H Q E → vs.length = ps.length
  run : ∀ (A : Around) (outer : List Env) (s : Shared) (H : Hp) (args : Args) (us : List Value) (vs : List V) (Q : VK) (E : XK) (p : Addr × Obj), L2H.RoomH k A → L2H.PinOk outer H s p → Env0 P w K mg base A outer s H → BindsTo s fd args (ps.zip us) → L2.Vals vs us → sp vs H Q E →
    codeAny (model P w) A (.call (.ref f) args) (CR CX outer P w H s Q E) s
theorem FnZ.mono {P : Program} {w : World} {K : PySem.W.Frag} {mg : Str → Option Value} {base : Heap} {CX : CXT} {j k : Nat} {f : Addr} {fd : FuncData} {ps : List Str} {sp : Sp} (F : FnZ P w K mg base CX j f fd ps sp) (h : j ≤ k) : FnZ P w K mg base CX k f fd ps sp :=
  ⟨F.len, fun A outer s H args us vs Q E p hr => F.run A outer s H args us vs Q E p (hr.mono h)⟩
variable [TQ]
abbrev EHs := List (Str × Str × Int)
def endXR (tb : RTb) (hs : EHs) : Option (Except Ex D × Sto) → Option (Except Ex D × Sto)
  | some (.ok d, S) => (do let z ← reprXD tb [d]; pure (.lst [.str "told", z]) : M D) S
  | some (.error e, S) => match hs.lookup e.c, e.fs with
    | some fn, [(g, d)] => if g = fn.1 then (do let z ← reprXD tb [d]; pure (.lst [.int fn.2, z]) : M D) S else none
    | _, _ => none
  | none => none
def endXM (tb : RTb) (hs : EHs) (O : List Nat) (t : DEnv → M D) : DEnv → M D := fun δ S => endXR tb hs (t (wipeD δ O) S)
end Fg
namespace Fg
open PySem PySem.Spec PyProof.Rows L2
section
variable {S : Sto} {δ : DEnv} {tb : RTb} {hs : EHs}
theorem ev_endXM {O : List Nat} {t : DEnv → M D} : endXM tb hs O t δ S = endXR tb hs (t (wipeD δ O) S) := id rfl
theorem ev_endXo {d : D} : endXR tb hs (some (.ok d, S)) = bnd (reprXD tb [d] S) fun z => pure (.lst [.str "told", z]) := id rfl
theorem ev_endXe {k h : Str} {n : Int} {d : D} (e : hs.lookup k = some (h, n)) : endXR tb hs (some (.error ⟨k, [(h, d)]⟩, S)) = bnd (reprXD tb [d] S) fun z => pure (.lst [.int n, z]) := by
  show (match hs.lookup k, [(h, d)] with
    | some fn, [(g, d)] => if g = fn.1 then (do let z ← reprXD tb [d]; pure (.lst [.int fn.2, z]) : M D) S else none
    | _, _ => none) = _
  rw [e]
  show (if h = h then _ else _) = _
  rw [if_pos rfl]
  rfl
end
end Fg
namespace Fg
open PySem PySem.Spec PyProof.Rows L2
section
variable {K : PySem.W.Frag} {C B D : Addr} {T : String}
abbrev exMro (C B : Addr) (T : String) : List Value := [.ref C, .ref B, .type T, .type "Exception", .type "BaseException", .type "object"]
theorem kit_at {c : Value} {b : Bool} (hm : (PySem.W.clsIn K C).map (·.mro) = some (exMro C B T)) (h0 : (Value.ref C == c) = false) (hs : PySem.W.kitCls K (.ref C) c = PySem.W.subIn K (.ref C) c) (hb : (exMro C B T).contains c = b) : PySem.W.kitOne K (.ref C) c = some b := by
  unfold PySem.W.kitOne
  rw [h0, if_neg (by simp), hs]
  show PySem.W.mroIn K C c = some b
  obtain ⟨cd, e1, e2⟩ := Option.map_eq_some_iff.mp hm
  unfold PySem.W.mroIn
  rw [e1]
  show (if cd.mro.isEmpty then none else some (cd.mro.contains c)) = some b
  have e2 : cd.mro = exMro C B T := e2
  rw [e2, hb]
  rfl
theorem kit_ty {t : String} {b : Bool} (hm : (PySem.W.clsIn K C).map (·.mro) = some (exMro C B T)) (hk : PySem.W.kitMeta t = true := by decide +kernel) (hb : ((t == T) || ((t == "Exception") || ((t == "BaseException") || (t == "object")))) = b := by decide) : PySem.W.kitOne K (.ref C) (.type t) = some b := by
  refine kit_at hm (beq_eq_false_iff_ne.mpr fun e => by cases e) (if_pos hk) ?_
  have c : ∀ a : Addr, (Value.type t == Value.ref a) = false := fun a => beq_eq_false_iff_ne.mpr fun e => by cases e
  have d : ∀ u : String, (Value.type t == Value.type u) = (t == u) := fun u => by
    by_cases h : t = u
    · subst h; simp
    · rw [beq_eq_false_iff_ne.mpr h, beq_eq_false_iff_ne.mpr fun e => h (Value.type.inj e)]
  simp only [exMro, List.contains_cons, List.contains_nil, c, d, Bool.false_or, Bool.or_false]
  exact hb
end
end Fg
namespace Fg
open PySem PySem.Spec PyProof.Rows L2
variable [TQ]
/-- what may not raise -/
def quietD {α : Type} (t : DEnv → M α) : DEnv → M α := fun δ => noErr (t δ)
/-- what comes of a run; an error is wanted with the slots as they stand -/
def OkW {α : Type} (F : Fr) (O : List Nat) (B : Nat → Option Addr) (σ : L2.St) (δ : DEnv) (W : WX) (r : Option (Except Ex α × Sto)) (P : α → Sto → Prop) : Prop := match r with
  | none => False
  | some (.error e, S') => ∀ cls dd H' ρ', Rel F O B ρ' σ H' δ S' → ErrAt F ρ' H' cls dd e → W cls dd σ H'
  | some (.ok a, S') => P a S'
section
variable {F : Fr} {O : List Nat} {B : Nat → Option Addr} {σ : L2.St} {δ : DEnv} {W : WX} {S : Sto}
theorem OkW.bind {α β : Type} {m : M α} {f : α → M β} {P : β → Sto → Prop} (h : OkW F O B σ δ W ((m >>= f) S) P) : OkW F O B σ δ W (m S) (fun a S' => OkW F O B σ δ W (f a S') P) := by
  unfold OkW
  cases e : m S with
  | none => rw [M.bind_none e] at h; exact h
  | some p =>
    obtain ⟨r, S'⟩ := p
    cases r with
    | error x => rw [M.bind_err e] at h; exact h
    | ok a => rw [M.bind_ok e] at h; exact h
theorem OkW.imp {α : Type} {r : Option (Except Ex α × Sto)} {P Q : α → Sto → Prop} (h : OkW F O B σ δ W r P) (w : ∀ a S, P a S → Q a S) : OkW F O B σ δ W r Q := by
  unfold OkW at *
  split
  · exact h
  · exact h
  · exact w _ _ h
theorem OkW.ite {α : Type} {p : Prop} [Decidable p] {m : M α} {P : α → Sto → Prop} (h : OkW F O B σ δ W ((if p then m else M.stuck) S) P) : p ∧ OkW F O B σ δ W (m S) P := by
  by_cases c : p
  · rw [if_pos c] at h; exact ⟨c, h⟩
  · rw [if_neg c] at h; exact (show False from h).elim
theorem OkW.asO {c : Str} {x : D} {P : List (Str × D) → Sto → Prop} (h : OkW F O B σ δ W (Fg.asO c x S) P) : ∃ fs, x = .obj c fs ∧ P fs S := by
  cases x <;> first | exact (show False from h).elim | skip
  obtain ⟨e, h2⟩ := OkW.ite h
  clear h
  subst e
  exact ⟨_, rfl, h2⟩
theorem OkW.itL {x : D} {P : List D → Sto → Prop} (h : OkW F O B σ δ W (Fg.itL x S) P) : ∃ ds, x = .lst ds ∧ P ds S := by
  cases x <;> first | exact (show False from h).elim | exact ⟨_, rfl, h⟩
theorem OkW.opt {α : Type} {o : Option α} {P : α → Sto → Prop} (h : OkW F O B σ δ W (M.opt o S) P) : ∃ a, o = some a ∧ P a S := by
  cases o with
  | none => exact (show False from h).elim
  | some a => exact ⟨a, rfl, h⟩
end
end Fg
namespace Fg
open PySem PySem.Spec PyProof.Rows L2
section
variable {S S' S2 : Sto} {δ : DEnv} {c c2 f2 : Str} {b : DEnv → M (DEnv × Fl)} {t : DEnv → M D}
theorem ev_quiet {α : Type} {t : DEnv → M α} : quietD t δ S = nErr (t δ S) := id rfl
end
end Fg
namespace Fg
open PySem PySem.Spec PyProof.Rows L2
def Spends {α : Type} (m : Sem α) : Prop := ∀ (M : Model) (Γ : PySem.Ctx) (Q : α → Pos → Shared → Prop) (E : Value → Pos → Shared → Prop) (p : Pos) (s : Shared), Sem.wp M Γ m Q E p s → Sem.wp M Γ m (fun a p' s' => 1 ≤ s'.toks ∧ Q a p' s') E p s
theorem Spends.here {α β : Type} {m : Sem α} {f : α → Sem β} (h : Spends m) : Spends (m >>= f) := fun M Γ Q E p s q => by
  rw [Sem.wp_bind'] at q ⊢
  refine Sem.wp_mono M Γ m (fun a p' s' z => ?_) (fun _ _ _ z => z) p s (h M Γ _ E p s q)
  exact Sem.wp_mono M Γ (f a) (fun _ _ _ y => y) (fun _ _ _ y => y.2) p' s' (Sem.wp_toks M Γ 1 (f a) Q E p' s' z.1 z.2)
theorem Spends.next {α β : Type} {m : Sem α} {f : α → Sem β} (h : ∀ a, Spends (f a)) : Spends (m >>= f) := fun M Γ Q E p s q => by
  rw [Sem.wp_bind'] at q ⊢
  exact Sem.wp_mono M Γ m (fun a p' s' z => h a M Γ Q E p' s' z) (fun _ _ _ z => z) p s q
theorem Spends.holding {α : Type} {m : Sem α} {vs : List Value} (h : Spends m) : Spends (PySem.holding vs m) := fun M Γ Q E p s q => by
  rw [Sem.wp_holding] at q ⊢
  exact h M Γ Q E p s q
theorem Spends.any {α : Type} {m : Sem α} (h : Spends m) {M : Model} {A : Around} {Q : α → Shared → Prop} {E : Value → Shared → Prop} {s : Shared} (q : wpAny M A m Q E s) : wpAny M A m (fun a s' => 1 ≤ s'.toks ∧ Q a s') E s := fun Γ p hΓ => h M Γ _ _ p s (q Γ p hΓ)
theorem spends_int {i : Int} {k : Nat} {pos : Pos} {env : Env} : Spends (eval (.Constant (.int i) k pos) env) := by
  intro M Γ Q E p s q
  exact (show 1 ≤ s.toks + 1 ∧ _ from ⟨Nat.le_add_left _ _, q⟩)
/-- x(3) -/
theorem spends_call1 {x : Str} {i : Int} {k : Nat} {p cp pos : Pos} {env : Env} : Spends (eval (.Call (.Name x p) [.Constant (.int i) k cp] [] pos) env) := by
  rw [arm_eval_Call_Name']
  refine Spends.next fun f => ?_
  unfold callWith
  refine Spends.here (Spends.holding ?_)
  unfold evalArgs
  refine Spends.here ?_
  show Spends (spliced [(false, eval (.Constant (.int i) k cp) env)])
  rw [spliced]
  exact Spends.here spends_int
/-- for .. in x(3) -/
theorem spends_for {x : Str} {i : Int} {k : Nat} {p cp pos pos2 : Pos} {env : Env} {tg : Expr} {body : List Stmt} : Spends (exec (.For tg (.Call (.Name x p) [.Constant (.int i) k cp] [] pos) body [] pos2) env) := by
  rw [exec_For]
  exact Spends.next fun _ => Spends.here spends_call1
theorem pet_imp {X : Cx} {e : Expr} {t t' : TE} (h : L2.PET X e t) (k : ∀ σ H Q, t' σ H Q → t σ H Q) : L2.PET X e t' := fun pins s σ H Q h0 I q => h pins s σ H Q h0 I (k σ H Q q)
theorem pst_imp {X : Cx} {st : Stmt} {t t' : TS} (h : L2.PST X st t) (k : ∀ D σ H, t' D σ H → t D σ H) : L2.PST X st t' := fun pins s σ H D h0 I q => h pins s σ H D h0 I (k D σ H q)
theorem psst_imp {X : Cx} {ss : List Stmt} {t t' : TS} (h : L2.PSsT X ss t) (k : ∀ D σ H, t' D σ H → t D σ H) : L2.PSsT X ss t' := fun pins s σ H D h0 I q => h pins s σ H D h0 I (k D σ H q)
theorem pss_spend {X : Cx} {st : Stmt} {rest : List Stmt} {t u : TS} (h : PS X st t) (sp : Spends (exec st X.env)) (h2 : L2.PSsT X rest u) : PSs X (st :: rest) (tSeq t u) := by
  refine ⟨fun pins s σ H D I q => wpAny_execs_cons (wpAny_mono (sp.any (h.run pins s σ H { D with nx := u D } I q)) (fun f s1 z => ?_) fun _ _ z => z)⟩
  obtain ⟨t1, z⟩ := z
  match f, z with
  | .next, ⟨σ', H', I', q'⟩ => exact h2 pins s1 σ' H' D t1 I' q'
  | .ret _, z => exact z
  | .brk, z => exact z
  | .cont, z => exact z
theorem pst_set {X : Cx} {i : Nat} {x : Str} {e : Expr} {te : TE} {pos pos' : Pos} (hN : X.N.Nodup) (hi : X.N[i]? = some x) (hx : Loc X.env.scope x) (he : L2.PET X e te) (hs : swapsWith e (some (.Name x pos')) pos.line X.env = pure false := by rfl)
    (hf : X.fn x = true ∨ X.env.scope.names.lookup x = some .local := by first | exact .inl rfl | exact .inr rfl | assumption) : L2.PST X (.Assign [.Name x pos'] e pos) (tAsg te (gName i)) := fun pins s σ H D h0 I h =>
  wpAny_Assign_Name (thn (he pins s σ H _ h0 I h) fun v s1 ⟨y, H1, I1, r1, q1⟩ => store_ok I1 hN hi hx r1 (fun s2 I2 => ⟨_, H1, I2, q1⟩) hf) hs
theorem thnT {α : Type} {m : Sem α} {M : Model} {A : Around} {Q R : α → Shared → Prop} {E : Value → Shared → Prop} {s : Shared} (n : 1 ≤ s.toks) (h : wpAny M A m Q (fun _ _ => False) s) (k : ∀ a s', 1 ≤ s'.toks → Q a s' → R a s') : wpAny M A m R E s :=
  wpAny_mono (wpAny_toks_of n h) (fun a s' z => k a s' z.1 z.2) fun _ _ z => z.2.elim
section
variable {X : Cx} {elt tg iter : Expr} {ifs : List Expr} {scope : Scope} {own : List (Str × Nat)} {pos : Pos} {wi : TI} {g : TG} {tt : TT} {te : TE}
theorem lcT {pins : List (Addr × Obj)} {s : Shared} {σ : L2.St} {H : Hp} {Q : VK} {at_ : Pos} {use : Option (Value → Sem Unit)} {Qf : Value → Shared → Prop} (out : 1 ≤ s.toks) (calm : X.calm = true) (nod : X.N.Nodup) (I : Inv X pins σ H s) (walk : PI X tg iter wi) (blk : BlkOk X.N X.env.scope scope own)
    (tgt : ∀ (s : Shared) (H : Hp) (C : Addr) (cl : List (Str × Addr)) (fp : List Addr), PG (X.blk s H scope (compEnvC scope cl C X.env) fp) tg g) (tst : ∀ (s : Shared) (H : Hp) (C : Addr) (cl : List (Str × Addr)) (fp : List Addr), PTs (X.blk s H scope (compEnvC scope cl C X.env) fp) ifs tt)
    (el : ∀ (s : Shared) (H : Hp) (C : Addr) (cl : List (Str × Addr)) (fp : List Addr), L2.PET (X.blk s H scope (compEnvC scope cl C X.env) fp) elt te) (pl : ∀ x, foldedSetIterable iter X.env x = pure x) (want : tLc wi g tt te (own.map (·.2)) σ H Q)
    (leave : ∀ L C s' m H', Inv X pins σ H' s' → Q (.ref L) H' → s'.heap.Ns C m → FpOk X pins H' C → compPost (model X.prog X.w) X.A X.xe use Qf (.ref L) C (.ok .next) s') :
    wpAny (model X.prog X.w) X.A (comprehension (.ListComp elt [⟨tg, iter, ifs, 0⟩] scope pos) scope X.env at_ (newList []) false (eval iter X.env) use) Qf X.xe s := by
  have cells : ∀ y ∈ scope.names, y.2 = .free → ∃ c, X.env.cells.lookup y.1 = some c := fun y hy e => (blk.free y hy e).elim (fun k => I.ok.has _ (.inl k)) fun k => I.ok.has _ (.inr k)
  refine wpAny_comprehension_free (use := use) rfl pl (closure_ok cells) blk.kind (fun y hy e => by rw [blk.uniq y hy, e]) ?_
  refine wpAny_mono (wpAny_toks_of out (walk.run pins s σ H _ I want)) (fun seq sa za => ?_) fun _ _ z => z.2
  refine wpAny_mono (wpAny_toks_of za.1 za.2) (fun ir sb zb => ?_) fun _ _ z => z.2
  obtain ⟨outb, it, fp, tn, J, Hb, rfl, Ib, T, ready, apart, q⟩ := zb
  refine wpAny_newObj_type (newEnv_comp ?_) (by show 0 ≤ sizeLine; decide)
  obtain ⟨L, eL⟩ : ∃ L, sb.heap.objs.size = L := ⟨_, rfl⟩
  rw [eL]
  have noL : Hb L = none := Ib.hok.fresh (Nat.le_of_eq eL)
  obtain ⟨W, ⟨m0, w0⟩, turn⟩ := q L noL
  obtain ⟨sc, esc⟩ : ∃ sc : Shared, ({ sb with heap := sb.heap.push { cls := .type "list", data := .seq ([] : List Value).toArray } } : Shared) = sc := ⟨_, rfl⟩
  have hsc : sc.heap = sb.heap.push { cls := .type "list", data := .seq ([] : List Value).toArray } := by rw [← esc]
  have outc : 1 ≤ sc.toks := by rw [← esc]; exact outb
  rw [esc]
  obtain ⟨Hc, eHc⟩ : ∃ Hc, upd Hb L (.lst []) = Hc := ⟨_, rfl⟩
  rw [eHc] at w0
  have Ic : Inv X pins σ Hc sc := by
    rw [← esc, ← eHc]
    exact Ib.laid (t' := sb.toks) (fun b o e => Heap.get?_push_of_some _ e) (Nat.le_of_eq eL) ⟨Nat.zero_le _, [], 0, .nil, by rw [← eL]; exact Heap.get?_push_size _ rfl⟩
  have far : ∀ b ∈ fp, FpOk X pins Hc b ∧ b < sc.heap.objs.size := fun b hb => by
    obtain ⟨o, e, _⟩ := T.obj _ _ ready b hb
    have lt := Heap.lt_size e
    refine ⟨⟨?_, (apart b hb).2⟩, by rw [hsc, Heap.size_push]; exact Nat.lt_succ_of_lt lt⟩
    rw [← eHc, upd_ne (by rw [← eL]; exact Nat.ne_of_lt lt)]
    exact (apart b hb).1
  have readyc : tn 0 sc.heap := T.keep _ _ _ ready fun b _ o e => by rw [hsc]; exact Heap.get?_push_of_some _ e
  obtain ⟨cl, ecl⟩ : ∃ cl, cellsFrom (sc.heap.objs.size + 1) scope.names (cloFrom X.env.cells scope.names []) = cl := ⟨_, rfl⟩
  have I0 := block_start Ic blk nod far
  rw [ecl] at I0
  obtain ⟨ce, ece⟩ : ∃ ce, compEnvC scope cl sc.heap.objs.size X.env = ce := ⟨_, rfl⟩
  have celoc : ce.locals = sc.heap.objs.size := by rw [← ece]; rfl
  have G := tgt sc Hc sc.heap.objs.size cl fp
  have U := tst sc Hc sc.heap.objs.size cl fp
  have Z := el sc Hc sc.heap.objs.size cl fp
  rw [ece] at I0 G U Z
  show codeAny _ _ (.compStart (.ListComp elt [⟨tg, iter, ifs, 0⟩] scope pos) 0 (.ref it) (.ref L) (compEnvC scope (cellsFrom (sc.heap.objs.size + 1) scope.names (cloFrom X.env.cells scope.names [])) sc.heap.objs.size X.env)) (compPost (model X.prog X.w) X.A X.xe use Qf (.ref L) sc.heap.objs.size) { sc with heap := pushCells (sc.heap.push { cls := .type "dict", data := .dict #[] }) scope.names }
  rw [ecl, ece]
  obtain ⟨sd, esd⟩ : ∃ sd : Shared, ({ sc with heap := pushCells (sc.heap.push { cls := .type "dict", data := .dict #[] }) scope.names } : Shared) = sd := ⟨_, rfl⟩
  have outd : 1 ≤ sd.toks := by rw [← esd]; exact outc
  have readyd : tn 0 sd.heap := T.keep _ _ _ readyc fun b _ o e => by rw [← esd]; exact pushCells_keeps _ _ _ _ (Heap.get?_push_of_some _ e)
  rw [esd] at I0 ⊢
  have apartd : ∀ {τ : L2.St} {H' : Hp} {s' : Shared}, Inv (X.blk sc Hc scope ce fp) [] τ H' s' → (∀ b ∈ fp, H' b = none) → ∀ b ∈ fp, FpOk (X.blk sc Hc scope ce fp) [] H' b := fun {τ H' s'} K no b hb =>
    ⟨no b hb, (K.ok.exf b hb).1, K.ok.exfs b hb, .inl hb, fun x c e => (K.ok.exf b hb).2 x c e, fun p hp => nomatch (show p ∈ ([] : List (Addr × Obj)) from hp)⟩
  have whole : codeAny (model X.prog X.w) X.A (.compLoop (.ListComp elt [⟨tg, iter, ifs, 0⟩] scope pos) 0 (.ref it) (.ref L) ce) (compPost (model X.prog X.w) X.A X.xe use Qf (.ref L) sc.heap.objs.size) sd := by
    refine compLoop_any (fun n s' => 1 ≤ s'.toks ∧ ∃ i H', Inv (X.blk sc Hc scope ce fp) [] (wipe σ (own.map (·.2))) H' s' ∧ tn i s'.heap ∧ (∀ b ∈ fp, H' b = none) ∧ W i n H') ?_ m0 ⟨outd, 0, Hc, I0, readyd, fun b hb => (far b hb).1.1, w0⟩
    intro n s5 st5
    obtain ⟨o5, i, H5, I5, r5, n5, w5⟩ := st5
    rcases turn i n H5 w5 with ⟨stop, done⟩ | ⟨go, N, hN, step⟩
    · refine thnT o5 (T.done (X.blk sc Hc scope ce fp) rfl rfl rfl calm i [] s5 _ H5 (fun _ _ => False) I5 (apartd I5 n5) r5 stop) fun r s6 _ z => ?_
      obtain ⟨rfl, I6⟩ := z
      have back : Inv X pins σ H5 s6 := Ic.call' (ch := fp) I6.os I6.base I6.hok I6.bare fun b hb => ⟨(far b hb).1.2.2.2.1, (far b hb).1.2.1, (far b hb).1.2.2.2.2.1, (far b hb).1.2.2.2.2.2⟩
      have gone : H5 sc.heap.objs.size = none := celoc ▸ (show H5 ce.locals = none from I6.free)
      obtain ⟨m, names, _⟩ := I6.loc
      have names : s6.heap.Ns sc.heap.objs.size m := celoc ▸ (show s6.heap.Ns ce.locals m from names)
      exact leave L sc.heap.objs.size s6 m H5 back done names (Ic.fpOk (Nat.le_refl _) gone)
    · refine thnT o5 (T.item (X.blk sc Hc scope ce fp) rfl rfl rfl calm i [] s5 _ H5 (fun _ _ => False) I5 (apartd I5 n5) r5 go) fun r s6 o6 z => ?_
      obtain ⟨u, rfl, z⟩ := z
      refine thnT o6 z fun _ s7 o7 z => ?_
      obtain ⟨x, H7, I7, rv, yl, r7, n7⟩ := z
      refine thnT o7 (G.run _ s7 _ H7 x u _ (I7.pinned (apartd I7 n7) (T.obj _ _ r7)) rv (step x H7 yl)) fun _ s8 o8 z => ?_
      obtain ⟨τ, H8, I8, sameW, q8⟩ := z
      refine thnT o8 (U.run _ s8 τ H8 _ I8 q8) fun b s9 o9 z => ?_
      obtain ⟨H9, I9, q9⟩ := z
      have over : ∀ {s' : Shared} {H' : Hp}, 1 ≤ s'.toks → Inv (X.blk sc Hc scope ce fp) ([] ++ pinsAt fp s7.heap) τ H' s' → N H' → ∃ m, m < n ∧ (1 ≤ s'.toks ∧ ∃ i H', Inv (X.blk sc Hc scope ce fp) [] (wipe σ (own.map (·.2))) H' s' ∧ tn i s'.heap ∧ (∀ b ∈ fp, H' b = none) ∧ W i m H') := fun {s' H'} o' K nx => by
        obtain ⟨m, lt, wm⟩ := hN H' nx
        have held : ∀ b ∈ fp, ∀ o, s7.heap.get? b = some o → s'.heap.get? b = some o ∧ H' b = none := fun b hb o e => (K.pin (b, o) (List.mem_append_right _ (List.mem_append_right _ (mem_pinsAt hb e)))).imp id fun z => z.1
        have wl : (wipe σ (own.map (·.2))).length = τ.length := by rw [← sameW, wipe_length]
        refine ⟨m, lt, o', i + 1, H', (K.unpinned (pins := [])).weak wl (fun j v e => ?_), T.keep _ _ _ r7 fun b hb o e => (held b hb o e).1, fun b hb => ?_, wm⟩
        · exact (wipe_some (sameW ▸ e : (wipe τ (own.map (·.2)))[j]? = _)).1
        · exact (T.obj _ _ r7 b hb).elim fun o e => (held b hb o e.1).2
      cases b with
      | false => exact over o9 I9 q9
      | true =>
        refine thnT o9 (Z _ s9 τ H9 _ o9 I9 q9) fun v s10 o10 z => ?_
        obtain ⟨y, H10, I10, ry, acc, hL, hz, nx⟩ := z
        exact wpAny_with_toks o10 (app_ok (X := X.blk sc Hc scope ce fp) I10 hL hz ry fun s11 I11 o11 => over o11 I11 nx)
  exact codeAny_compStart_list whole (T.self X.A 0 _ _ _ readyd whole)
/-- x = [e for ..] on one line -/
theorem pst_setLc {i : Nat} {y : Str} {py spos : Pos} (calm : X.calm = true) (nod : X.N.Nodup) (hy : X.N[i]? = some y) (hyl : X.env.scope.names.lookup y = some .local) (hsw : swapsWith (.ListComp elt [⟨tg, iter, ifs, 0⟩] scope pos) (some (.Name y py)) spos.line X.env = pure true)
    (walk : PI X tg iter wi) (blk : BlkOk X.N X.env.scope scope own) (tgt : ∀ (s : Shared) (H : Hp) (C : Addr) (cl : List (Str × Addr)) (fp : List Addr), PG (X.blk s H scope (compEnvC scope cl C X.env) fp) tg g) (tst : ∀ (s : Shared) (H : Hp) (C : Addr) (cl : List (Str × Addr)) (fp : List Addr), PTs (X.blk s H scope (compEnvC scope cl C X.env) fp) ifs tt)
    (el : ∀ (s : Shared) (H : Hp) (C : Addr) (cl : List (Str × Addr)) (fp : List Addr), L2.PET (X.blk s H scope (compEnvC scope cl C X.env) fp) elt te) (pl : ∀ x, foldedSetIterable iter X.env x = pure x := by intro _; rfl) :
    L2.PST X (.Assign [.Name y py] (.ListComp elt [⟨tg, iter, ifs, 0⟩] scope pos) spos) (tAsg (tLc wi g tt te (own.map (·.2))) (gName i)) := by
  intro pins s σ H D out I want
  rw [exec_Assign_Name_used _ _ _ _ hsw]
  refine wpAny_bind (wpAny_standAt (wpAny_bind ?_))
  show wpAny _ X.A (comprehension (.ListComp elt [⟨tg, iter, ifs, 0⟩] scope pos) scope X.env (firstIterPos [⟨tg, iter, ifs, 0⟩] pos) (newList []) false (eval iter X.env) (some (assign (.Name y py) X.env)) >>= _) _ _ s
  refine wpAny_bind (thn (lcT (Qf := fun _ s' => SP X pins D .next s') (Q := fun x H1 => gName i x σ H1 D.nx) out calm nod I walk blk tgt tst el pl want fun L C s' m H' J q names f => ?_) fun _ s' z => wpAny_pure (wpAny_pure z))
  show wpAny _ _ (assign (.Name y py) X.env (.ref L)) _ _ _
  obtain ⟨f0, f1, f2, f3, f4, f5⟩ := f
  refine wpAny_assign_Name (store_ok2 (v := V.ref L) J nod hy (.inl hyl) rfl (fun s2 J2 z => ?_) (.inr hyl))
  obtain ⟨a, but, ha⟩ := z
  refine ⟨m, names.sameBut but (ha.elim (fun e => e ▸ f1) fun e z => f4 y a e z.symm), fun h3 but3 => ?_⟩
  exact ⟨_, H', J2.turned (t' := s2.toks) (fun b o hb e => (but3.2 b hb).trans e) f0 f1 f3 f4 f5, q⟩
end
end Fg
namespace Fg
open PySem PySem.Spec PyProof.Rows L2
section
variable {X : Cx} {W : WX} {o e : Expr} {es : List Expr} {to te : TE} {t : TA} {y : Str} {j k i0 : Nat} {c0 apos pos p p2 pos2 : Pos} {C : Addr} {f m x qual : Str} {st : Stmt} {ps : List Str} {sp : Sp}
/-- str(e) of an integer: its text's token is one of those still to come -/
theorem eval_strT (he : PE X e te) (hg : Gl X "str") (hm : X.mg "str" = none) {pins : List (Addr × Obj)} {s : Shared} {σ : L2.St} {H : Hp} {R : Str → Hp → Prop} (I : Inv X pins σ H s) (q : te σ H fun w H2 => ∃ i : Int, w = .int i ∧ i.natAbs.log2 < 1920 ∧ R (toString i : String) H2)
    (hs : starEach [e] X.env = (false, eval e X.env) :: starEach [] X.env := by rfl) (hpl : (backTo pos (starEach [] X.env)).any (·.1) = false := by rfl) :
    wpAny (model X.prog X.w) X.A (eval (.Call (.Name "str" p) [e] [] pos) X.env) (fun u s' => ∃ (z : Str) (v : Tok) (H2 : Hp), u = .str z v ∧ s.toks ≤ v ∧ Inv X pins σ H2 s' ∧ R z H2) X.xe s := by
  refine wpAny_Call_Name_kw (ld_blt I hg hm (u := .type "str") (by rfl) ?_ (by decide) (by decide))
  have q : tCons te tNil σ H (fun vs H2 => match vs with
    | [w] => ∃ i : Int, w = .int i ∧ i.natAbs.log2 < 1920 ∧ R (toString i : String) H2
    | _ => False) := q
  refine PyProof.Rows.callWith_type1 (wpAny_mono (PySem.wpAny_toks ((pa_cons he pa_nil hs).run pos pins s σ H _ I q)) (fun us s1 z => ?_) fun _ _ z => z.2) hs hpl
  obtain ⟨le, vs, H1, I1, rv, q1⟩ := z
  split at q1
  · obtain ⟨i, rfl, hl, q1⟩ := q1
    obtain ⟨u, rfl, tk, rfl⟩ := vals1 rv
    exact PySem.P.str_of_int hl ⟨_, _, H1, rfl, le, I1.tok _, q1⟩
  · exact q1.elim
/-- o.replace("..", str(e)) -/
theorem pet_repI (ho : PE X o to) (he : PE X e te) (hg : Gl X "str") (hm : X.mg "str" = none) (hs : starEach [e] X.env = (false, eval e X.env) :: starEach [] X.env := by rfl) (hpl : (backTo pos2 (starEach [] X.env)).any (·.1) = false := by rfl)
    (hst : starEach [.Constant (.str y) j c0, .Call (.Name "str" p) [e] [] pos2] X.env = [(false, eval (.Constant (.str y) j c0) X.env), (false, eval (.Call (.Name "str" p) [e] [] pos2) X.env)] := by rfl)
    (hbase : attributeBase o "replace" X.env (eval o X.env) = eval o X.env := by rfl) (hline : (apos.endLine == pos.line) = true := by rfl) :
    L2.PET X (.Call (.Attribute o "replace" apos) [.Constant (.str y) j c0, .Call (.Name "str" p) [e] [] pos2] [] pos) (fun σ H Q => to σ H fun v H1 => ∃ x, v = .str x ∧ te σ H1 fun w H2 => ∃ i : Int, w = .int i ∧ i.natAbs.log2 < 1920 ∧ (y == (toString i : String)) = false ∧ x.length + (x.length + 1) * ((toString i : String) : Str).length ≤ 16777216 ∧ Q (.str (Txt.replace x y (toString i : String))) H2) := by
  intro pins s σ H Q out I want
  refine PySem.Call_method2 hbase hst hline (wpAny_mono (wpAny_toks_of out (ho.run pins s σ H _ I want)) (fun v s1 z => ?_) fun _ _ z => z.2)
  obtain ⟨out1, v', H1, I1, rv, txt, rfl, q⟩ := z
  obtain ⟨tx, rfl⟩ := rv
  refine ⟨"str", _, PySem.F.plainAttrs_str, PySem.F.slot_str_replace, PySem.F.type_str_replace, typeIs_str _ _ _, (fun _ e => nomatch e), Calls.callWith_builtin rfl (Calls.evalArgs_plain (Calls.spliced_cons ?_))⟩
  refine Calls.Constant_str (Calls.spliced_cons ?_)
  refine thn (eval_strT (R := fun z H2 => (y == z) = false ∧ txt.length + (txt.length + 1) * z.length ≤ 16777216 ∧ Q (.str (Txt.replace txt y z)) H2) he hg hm (I1.tok (s1.toks + 1)) q hs hpl) fun u s3 z => ?_
  obtain ⟨z, tk, H2, rfl, le, I3, ne, bd, q⟩ := z
  have le : s1.toks + 1 ≤ tk := le
  exact Calls.spliced_nil (PySem.SC.replace (show s1.toks ≠ 0 by omega) (Nat.ne_of_gt (Nat.lt_of_lt_of_le (Nat.succ_pos _) le)) (Nat.ne_of_lt (Nat.lt_of_succ_le le)) ne bd fun t' n => ⟨V.str (Txt.replace txt y z), H2, I3.tok n, ⟨t', rfl⟩, q⟩)
theorem pet_fld (c : Cls X.K C) (n : NoAttr X.K C f) (he : L2.PET X e te) (hb : attributeBase e f X.env (eval e X.env) = eval e X.env := by rfl) : L2.PET X (.Attribute e f pos) (tFldF C f te) := by
  intro pins s σ H Q out I want
  refine attr_of hb (thn (he pins s σ H _ out I want) fun u s1 z => ?_)
  obtain ⟨v, H1, I1, rv, q⟩ := z
  split at q
  · obtain ⟨dx, fs, w, ha, hl, q⟩ := q
    cases rv
    exact getattr_ok I1 ha c n hl fun u' s2 I2 r2 => ⟨w, H1, I2, r2, q⟩
  · exact q.elim
/-- C.m(e, ..), a static method -/
theorem pet_smeth {pl : Sem Bool} (c : SCallee X.prog X.w X.K X.mg X.base k x C m qual st ps sp) (hr : Room j X.A) (hj : k ≤ j) (hg : Gl X x) (tk : Takes X W) (ha : L2.PAT X (e :: es) t)
    (hb : ∀ (kV doc pm : Value) (an : Option Addr) (cdv ct : Value) (us : List Value), us.length = ps.length → bindArgs (PySem.W.fnOf m qual (defArgs st) (defBody st) (defScope st) .none kV doc pm an cdv ct) ⟨us, []⟩ = pure (ps.zip us))
    (hdb : (x == ("__debug__" : Str)) = false := by decide) (hst : starEach (e :: es) X.env = (false, eval e X.env) :: starEach es X.env := by rfl) (hpl : (backTo pos (starEach es X.env)).any (·.1) = false := by rfl)
    (ht : eval (.Call (.Attribute (.Name x p2) m apos) (e :: es) [] pos) X.env = (do
      let ov ← eval (.Name x p2) X.env; standAt apos.atName; let (f, first) ← holding [ov] (getMethod ov m pl)
      callWith pos f first (backTo pos (starEach (e :: es) X.env)) (backToKw pos (keywordEach [] X.env))) := by rfl) :
    L2.PET X (.Call (.Attribute (.Name x p2) m apos) (e :: es) [] pos) (fun σ H Q => t σ H fun vs H2 => sp vs H2 Q (fun cls d H' => W cls d σ H')) := by
  obtain ⟨q0, g, fd, F, S, Fu⟩ := c.ex
  intro pins s σ H Q out I want
  refine PySem.W.methodCall_KW (pl := pl) (wpAny_mono (wpAny_toks_of out ((fe_g hg c.g hdb).run pins s σ H (fun v H1 => v = .ref C ∧ H1 = H) I ⟨rfl, rfl⟩)) (fun u s1 z => ?_) fun _ _ z => z.2) ht
  obtain ⟨out1, v, H1, I1, rv, rfl, rfl⟩ := z
  obtain rfl : u = Value.ref C := rv
  refine wpAny_with_toks out1 (getsm_ok I1 c.rd S fun s2 I2 out2 => ?_)
  refine PySem.W.callWith_K (h₀ := X.base) I2.ok.mod.kin Fu.kp (thn (ha pos pins s2 σ H1 _ out2 I2 want) fun us s3 z => ?_) hst hpl
  obtain ⟨vs, H2, I3, rv, q2⟩ := z
  exact ⟨I3.kIn, run_fnS (E := WE W) F (hr.mono hj) (Fu.binds hb) (passAt tk σ) I3 rv q2⟩
end
theorem pet_ex {X : Cx} {e : Expr} {t : Addr → TE} (h : ∀ D, L2.PET X e (t D)) : L2.PET X e (exE t) := fun pins s σ H Q out I ⟨D, q⟩ => h D pins s σ H Q out I q
theorem pat_imp {X : Cx} {es : List Expr} {t t' : TA} (h : L2.PAT X es t) (k : ∀ σ H Q, t' σ H Q → t σ H Q) : L2.PAT X es t' := fun pos pins s σ H Q out I q => h pos pins s σ H Q out I (k σ H Q q)
variable [TQ]
def rplC (y z : Str) : D → M D
  | .str x => if x.length + (x.length + 1) * z.length ≤ 16777216 then pure (.str (Txt.replace x y z)) else M.stuck
  | _ => M.stuck
def rplI (y x : Str) : D → M D
  | .int i => if i.natAbs.log2 < 1920 ∧ (y == (toString i : String)) = false ∧ x.length + (x.length + 1) * ((toString i : String) : Str).length ≤ 16777216 then pure (.str (Txt.replace x y (toString i : String))) else M.stuck
  | _ => M.stuck
def rplM (y : Str) (t u : DEnv → M D) : DEnv → M D := fun δ => do
  let d ← t δ
  match d with
  | .str x => (do let i ← u δ; rplI y x i)
  | _ => M.stuck
section
variable {X : Cx} {F : Fr} {O O' O1 OL : List Nat} {m mi : Md} {o e : Expr} {es : List Expr} {y z : Str} {j j2 k n : Nat} {c0 c1 apos pos p p2 pos2 : Pos} {c f x qual mn : Str} {C : Addr} {st : Stmt} {ps : List Str}
theorem petd_repC {t : DEnv → M D} (ho : PED X F O .tr o t) (h2 : m ≠ .nw := by decide) (hyz : (y == z) = false := by decide)
    (hst : starEach [.Constant (.str y) j c0, .Constant (.str z) k c1] X.env = [(false, eval (.Constant (.str y) j c0) X.env), (false, eval (.Constant (.str z) k c1) X.env)] := by rfl)
    (hbase : attributeBase o "replace" X.env (eval o X.env) = eval o X.env := by rfl) (hline : (apos.endLine == pos.line) = true := by rfl) :
    L2.PET X (.Call (.Attribute o "replace" apos) [.Constant (.str y) j c0, .Constant (.str z) k c1] [] pos) (dE F O m (fun δ => do let d ← t δ; rplC y z d)) := pet_imp (CwR.pet_replC ho hyz hst hbase hline) fun σ H Q ⟨B, ρ, δ, S, r, q⟩ => ⟨B, ρ, δ, S, r, q.bind.imp fun d S' q v H' ρ' r' g zz => by
  cases d <;> first | exact (show False from q).elim | skip
  obtain rfl := Rin.str (Res.rin r zz)
  obtain ⟨b, q⟩ := Ok1.ite q
  exact ⟨_, rfl, b, (q : ∀ v H' ρ', _) _ H' ρ' r' g (scV_res (d := .str _) rfl h2)⟩⟩
theorem petd_repI {t u : DEnv → M D} (ho : PED X F O .tr o t) (he : PED X F O .tr e u) (hg : Gl X "str") (hm : X.mg "str" = none) (h2 : m ≠ .nw := by decide) (hs : starEach [e] X.env = (false, eval e X.env) :: starEach [] X.env := by rfl) (hpl : (backTo pos2 (starEach [] X.env)).any (·.1) = false := by rfl)
    (hst : starEach [.Constant (.str y) j c0, .Call (.Name "str" p) [e] [] pos2] X.env = [(false, eval (.Constant (.str y) j c0) X.env), (false, eval (.Call (.Name "str" p) [e] [] pos2) X.env)] := by rfl)
    (hbase : attributeBase o "replace" X.env (eval o X.env) = eval o X.env := by rfl) (hline : (apos.endLine == pos.line) = true := by rfl) :
    L2.PET X (.Call (.Attribute o "replace" apos) [.Constant (.str y) j c0, .Call (.Name "str" p) [e] [] pos2] [] pos) (dE F O m (rplM y t u)) := pet_imp (pet_repI ho he hg hm hs hpl hst hbase hline) fun σ H Q ⟨B, ρ, δ, S, r, q⟩ => ⟨B, ρ, δ, S, r, q.bind.imp fun d S' q v H' ρ' r' g zz => by
  cases d <;> first | exact (show False from q).elim | skip
  rename_i x
  obtain rfl := Rin.str (Res.rin r zz)
  refine ⟨x, rfl, B, ρ', δ, S', r', (Ok1.bind q).imp fun w S2 q v2 H2 ρ2 r2 g2 z2 => ?_⟩
  cases w <;> first | exact (show False from q).elim | skip
  obtain rfl := (Res.rin r' z2 : Rin F .tr B ρ2 H2 v2 _).int
  obtain ⟨⟨b1, b2, b3⟩, q⟩ := Ok1.ite q
  exact ⟨_, rfl, b1, b2, b3, (q : ∀ v H' ρ', _) _ H2 ρ2 r2 (g.tr g2) (scV_res (d := .str _) rfl h2)⟩⟩
theorem petd_fld {t : DEnv → M D} (hca : F.ca c = some C) (cl : Cls X.K C) (nf : NoAttr X.K C f) (h : L2.PET X e (dE F O m t)) (hm : m ≠ .nw := by decide) (hb : attributeBase e f X.env (eval e X.env) = eval e X.env := by rfl) : L2.PET X (.Attribute e f pos) (dE F O m (fun δ => do let x ← t δ; fldD c f x)) :=
  pet_imp (pet_fld cl nf h hb) fun σ H Q ⟨B, ρ, δ, S, r, q⟩ => ⟨B, ρ, δ, S, r, q.bind.imp fun d S' q v H' ρ' r' g z => by
    cases d <;> first | exact (show False from q).elim | skip
    obtain ⟨ec, q2⟩ := Ok1.ite q
    clear q
    subst ec
    obtain ⟨y, ey, q⟩ := q2.opt
    obtain ⟨a, C', dx, ws, rfl, e1, h1, h2⟩ := Rin.obj (Res.rin r z)
    cases hca.symm.trans e1
    obtain ⟨w, ew, hw⟩ := RinF.get h2 ey
    refine ⟨dx, ws, w, h1, ew, q w H' ρ' r' g ?_⟩
    cases m
    · exact hw
    · exact hw
    · exact absurd rfl hm⟩
theorem patd1 {t : DEnv → M D} (h : L2.PET X e (dE F O m t)) (hs : starEach [e] X.env = (false, eval e X.env) :: starEach [] X.env := by rfl) : L2.PAT X [e] (dA F O m (consM t nilM)) :=
  pat_imp (L2.pat_cons h L2.pat_nil hs) fun σ H Q ⟨B, ρ, δ, S, r, q⟩ => ⟨B, ρ, δ, S, r, q.bind.imp fun d S' k v H' ρ' r' g z => (show Ok1 F ((nilM δ >>= fun r => pure (d :: r) : M (List D)) S') _ from k) [v] H' ρ' r' g (RinL.cons (Res.rin r z) RinL.nil)⟩
theorem petd_smeth {qual : Str} {st : Stmt} {f : List D → M D} {u : DEnv → M (List D)} {pl : Sem Bool} (cc : SCallee X.prog X.w X.K X.mg X.base k x C mn qual st ps (spD F.K F.ca F.ce n f)) (hr : Room j X.A) (hk : k ≤ j) (hg : Gl X x) (tk : Takes X fun cls d _ H => F.W cls d H) (ha : L2.PAT X (e :: es) (dA F O .fz u))
    (hb : ∀ (kV doc pm : Value) (an : Option Addr) (cdv ct : Value) (us : List Value), us.length = ps.length → bindArgs (PySem.W.fnOf mn qual (defArgs st) (defBody st) (defScope st) .none kV doc pm an cdv ct) ⟨us, []⟩ = pure (ps.zip us))
    (hdb : (x == ("__debug__" : Str)) = false := by decide) (hst : starEach (e :: es) X.env = (false, eval e X.env) :: starEach es X.env := by rfl) (hpl : (backTo pos (starEach es X.env)).any (·.1) = false := by rfl)
    (ht : eval (.Call (.Attribute (.Name x p2) mn apos) (e :: es) [] pos) X.env = (do
      let ov ← eval (.Name x p2) X.env; standAt apos.atName; let (f, first) ← holding [ov] (getMethod ov mn pl)
      callWith pos f first (backTo pos (starEach (e :: es) X.env)) (backToKw pos (keywordEach [] X.env))) := by rfl) : L2.PET X (.Call (.Attribute (.Name x p2) mn apos) (e :: es) [] pos) (dE F O .fz (callD n f u)) :=
  pet_imp (pet_smeth cc hr hk hg tk ha hb hdb hst hpl ht) fun σ H Q ⟨B, ρ, δ, S, r, q⟩ => ⟨B, ρ, δ, S, r, q.bind.imp fun ds S' q vs H' ρ' r' g z => by
    rw [ite_at] at q
    exact spD_at r' z (q.imp fun d S2 k v H2 ρ2 r2 g2 z2 => k v H2 ρ2 r2 (g.tr g2) z2)⟩
theorem seq_imp {t u : DEnv → M (DEnv × Fl)} {Dn : Ends} {σ : L2.St} {H : Hp} (h : dS F O O' OL (seqS t u) Dn σ H) : tSeq (dS F O O1 OL t) (dS F O1 O' OL u) Dn σ H := by
  obtain ⟨B, ρ, δ, S, r, q⟩ := h
  refine ⟨B, ρ, δ, S, r, q.bind.imp fun p S' k => ?_⟩
  obtain ⟨δ', f⟩ := p
  cases f with
  | nx => exact fun σ' H' B' ρ' r' g n => dS_from r' g n k
  | bk => exact k
  | ct => exact k
  | rt d => exact k
theorem pssd_spend {st : Stmt} {r : List Stmt} {t u : DEnv → M (DEnv × Fl)} (h : PSD X F O O1 OL st t) (sp : Spends (exec st X.env)) (k : L2.PSsT X r (dS F O1 O' OL u)) : PSsD X F O O' OL (st :: r) (seqS t u) := pss_imp (pss_spend h sp k) fun Dn σ H q => seq_imp q
theorem psstd_cons {st : Stmt} {r : List Stmt} {t u : DEnv → M (DEnv × Fl)} (h : L2.PST X st (dS F O O1 OL t)) (k : L2.PSsT X r (dS F O1 O' OL u)) : L2.PSsT X (st :: r) (dS F O O' OL (seqS t u)) := psst_imp (L2.psst_cons h k) fun Dn σ H q => seq_imp q
theorem psstd_of {ss : List Stmt} {t : DEnv → M (DEnv × Fl)} (h : PSsD X F O O' OL ss t) : L2.PSsT X ss (dS F O O' OL t) := L2.PSsT.of h
theorem pstd_of {st : Stmt} {t : DEnv → M (DEnv × Fl)} (h : PSD X F O O' OL st t) : L2.PST X st (dS F O O' OL t) := L2.PST.of h
theorem pstd_set {x : Str} {t : DEnv → M D} {pos' : Pos} (i : Nat) (h : L2.PET X e (dE F O .fz t)) (hN : X.N.Nodup) (hi : X.N[i]? = some x := by rfl) (hx : Loc X.env.scope x := by first | exact Or.inl rfl | exact Or.inr rfl) (ho : i ∉ O := by decide)
    (hs : swapsWith e (some (.Name x pos')) pos.line X.env = pure false := by rfl) (hf : X.fn x = true ∨ X.env.scope.names.lookup x = some .local := by first | exact .inl rfl | exact .inr rfl | assumption) :
    L2.PST X (.Assign [.Name x pos'] e pos) (dS F O O OL (setS i t)) := pst_imp (pst_set hN hi hx h hs hf) fun Dn σ H q => asg_fz (fun _ q => q) ho q
end
section
variable {X : Cx} {F : Fr} {O OL : List Nat} {pos pos' : Pos} {elt tg iter : Expr} {ifs : List Expr} {scope : Scope} {own : List (Str × Nat)} {it : DEnv → M (List D)} {g : D → DEnv → M DEnv} {t : DEnv → M Bool} {el : DEnv → M D}
theorem pstd_setLc {i : Nat} {y : Str} {py spos : Pos} (hc : X.calm = true) (hN : X.N.Nodup) (hy : X.N[i]? = some y) (hyl : X.env.scope.names.lookup y = some .local)
    (hsw : swapsWith (.ListComp elt [⟨tg, iter, ifs, 0⟩] scope pos) (some (.Name y py)) spos.line X.env = pure true) (hi : PID X F O tg iter it) (ok : BlkOk X.N X.env.scope scope own) (ho : ∀ v ∈ own.map (·.2), v ∉ O) (hio : i ∉ O)
    (hg : ∀ (s : Shared) (H : Hp) (C : Addr) (cl : List (Str × Addr)) (fp : List Addr) (D : Addr), PG (X.blk s H scope (compEnvC scope cl C X.env) fp) tg (dGC (F.blk D) O (own.map (·.2)) g))
    (ht : ∀ (s : Shared) (H : Hp) (C : Addr) (cl : List (Str × Addr)) (fp : List Addr) (D : Addr), PTs (X.blk s H scope (compEnvC scope cl C X.env) fp) ifs (dT (F.blk D) O t))
    (he : ∀ (s : Shared) (H : Hp) (C : Addr) (cl : List (Str × Addr)) (fp : List Addr) (D : Addr), L2.PET (X.blk s H scope (compEnvC scope cl C X.env) fp) elt (dE (F.blk D) O .fz el)) (hs : ∀ x, foldedSetIterable iter X.env x = pure x := by intro _; rfl) :
    L2.PST X (.Assign [.Name y py] (.ListComp elt [⟨tg, iter, ifs, 0⟩] scope pos) spos) (dS F O O OL (setS i (lcD (own.map (·.2)) it g t el))) :=
  pst_imp (pst_setLc hc hN hy hyl hsw hi ok (fun s H C cl fp => pg_ex (hg s H C cl fp)) (fun s H C cl fp => pts_ex (ht s H C cl fp)) (fun s H C cl fp => pet_ex (he s H C cl fp)) hs) fun Dn σ H q => asg_fz (t := lcD (own.map (·.2)) it g t el) (fun Q q => by
    have q := lc_of ho (dE_nw q)
    exact ⟨_, q, fun xs st H1 ⟨h1, k⟩ => ⟨h1, fun J j Dl n => by
      obtain ⟨h2, c⟩ := k Dl _ n (Same.new n) upd_same
      exact comp_it j.go j.yl j.stp h2 c⟩⟩) hio q
end
end Fg
namespace Fg
open PySem PySem.Spec PyProof.Rows L2
/-- n times z -/
def timS (z : Str) (n : Nat) : Str := if z.length = 0 then z else ⟨(List.replicate n z.cps).foldl (· ++ ·) #[]⟩
theorem fold_size : ∀ (n : Nat) (c acc : Array Nat), ((List.replicate n c).foldl (· ++ ·) acc).size = acc.size + n * c.size
  | 0, c, acc => by simp
  | n + 1, c, acc => by
    rw [List.replicate_succ, List.foldl_cons, fold_size n c, Array.size_append, Nat.succ_mul]
    omega
theorem timS_len (z : Str) (n : Nat) : (timS z n).length ≤ n * z.length := by
  unfold timS
  split
  · rename_i h; omega
  · show ((List.replicate n z.cps).foldl (· ++ ·) #[]).size ≤ n * z.cps.size
    rw [fold_size]
    simp
def fTim : R2 := fun x y H Q => match x, y with
  | .str z, .int n => (2 ≤ n ∧ n ≤ 1000 ∧ z.length ≤ 10000) ∧ Q (.str (timS z n.toNat)) H
  | _, _ => False
section
variable {X : Cx}
theorem f_tim : OpR X (binaryOp .Mult) fTim := by
  intro pins s σ H x y v u Q I rx ry h
  unfold fTim at h
  split at h
  · obtain ⟨⟨hl, hh, hz⟩, q⟩ := h
    obtain ⟨t, rfl⟩ := rx
    obtain ⟨t', rfl⟩ := ry
    rename_i z n
    have n1 : ¬ n < -(2 ^ 63 : Int) := by omega
    have n2 : ¬ n ≥ 2 ^ 63 := by omega
    have sl := sizeLine_eq
    have bound : z.length * n.toNat ≤ 10000000 := Nat.le_trans (Nat.mul_le_mul hz (show n.toNat ≤ 1000 by omega)) (by decide)
    refine PySem.P.mul_str (by rw [decide_eq_false n1, decide_eq_false n2]; rfl) (fun h1 _ => ?_) (fun h1 _ => ?_) ?_
    · intro hc
      have : (2 ^ 63 - 1 : Int) / n ≥ 10000 := (Int.le_ediv_iff_mul_le (by omega)).mpr (by omega)
      omega
    · have hs : ¬ z.length * n.toNat > sizeLine := by omega
      exact decide_eq_false hs
    · split
      · omega
      · rename_i hn
        split
        · rename_i h1
          have e1 : z.length = 0 := by
            rw [Bool.or_eq_true, beq_iff_eq, beq_iff_eq] at h1
            rcases h1 with h1 | h1
            · omega
            · exact h1
          have e2 : timS z n.toNat = z := by unfold timS; rw [if_pos e1]
          rw [e2] at q
          exact ⟨.str z, H, I, ⟨_, rfl⟩, q⟩
        · rename_i h1
          have e1 : ¬ z.length = 0 := fun h => h1 (by rw [Bool.or_eq_true, beq_iff_eq, beq_iff_eq]; exact .inr h)
          have e2 : timS z n.toNat = ⟨(List.replicate n.toNat z.cps).foldl (· ++ ·) #[]⟩ := by unfold timS; rw [if_neg e1]
          rw [← e2]
          have := timS_len z n.toNat
          rw [Nat.mul_comm] at this
          exact ⟨by omega, .str (timS z n.toNat), H, I.tok _, ⟨_, rfl⟩, q⟩
  · exact h.elim
end
def timD : D → D → M D
  | .str z, .int n => if 2 ≤ n ∧ n ≤ 1000 ∧ z.length ≤ 10000 then pure (.str (timS z n.toNat)) else M.stuck
  | _, _ => M.stuck
section
variable {S : Sto}
theorem ev_tim {z : Str} {n : Int} (h : z.length ≤ 10000) (h2 : 2 ≤ n := by decide) (h3 : n ≤ 1000 := by decide) : timD (.str z) (.int n) S = some (.ok (.str (timS z n.toNat)), S) := by
  show (if _ then pure (.str (timS z n.toNat)) else M.stuck : M D) S = _
  rw [if_pos ⟨h2, h3, h⟩]; rfl
end
variable [TQ]
section
variable {F : Fr} {m mi : Md}
theorem o_tim (h2 : m ≠ .nw) : OpD F mi m fTim timD := by
  intro O B ρ σ δ H S x y d e Q r hx hy q
  cases d <;> cases e <;> first | exact (show False from q).elim | skip
  obtain ⟨b, q⟩ := Ok1.ite q
  cases hx.str; cases hy.int
  exact ⟨b, Ok1.scal r (d := .str _) rfl h2 q⟩
end
end Fg
namespace Fg
open PySem PySem.Spec PyProof.Rows L2
variable [TQ]
theorem m_splitN {F : Fr} {mi : Md} : MetD F mi .nw fSplit splitD := by
  intro O B ρ σ δ H S z y e Q r hy q
  cases e <;> first | exact (show False from q).elim | skip
  obtain ⟨c, q⟩ := Ok1.ite q
  cases hy.str
  refine ⟨c.1, c.2, fun p H2 np s2 h2' => (q : ∀ v H' ρ', _) _ H2 ρ (r.same s2) (Gr.same s2) ?_⟩
  exact res_new r (Gr.refl _ _ _) s2 np (Nw.live h2' fun _ z => by cases z) ⟨_, h2', rpL_map (fun c => .str) _⟩
end Fg
namespace GB
open PySem PySem.SeqAt
open AutoSeq1 (wpAny_loadPart')
open MeetsSeq MeetsSeq2 MeetsSeq3 SeqRoads2 GQ
section
variable {prog : Program} {w : World} {A : Around} {E : Value → Shared → Prop} {s : Shared}
theorem notin_listB {l : Addr} {x : Value} {bs : List Bool} {Q : Value → Shared → Prop} (L : Shared → Prop) (hl : ListIn prog w A E l x bs L) (fin : ∀ s, L s → Q (.bool (!bs.any id)) s) (h : L s) : wpAny (model prog w) A (compareOp .NotIn x (.ref l)) Q E s := by
  obtain ⟨items, n, hl1, _⟩ := hl _ h
  have hT : s.TypeIs (.ref l) "list" := ⟨_, hl1, rfl⟩
  show wpAny _ A (do return .bool (!(← contains (.ref l) x))) Q E s
  refine wpAny_bind (wpAny_contains_slot hT F.slot_list_contains (wpAny_mono (call_here (Q := fun v s' => v = .bool (bs.any id) ∧ Q (.bool (!bs.any id)) s') F.slot_list_contains hT F.entry_list_contains (F.args_list_contains_2 _ _) (listIn (R := wants (fun v s' => v = .bool (bs.any id) ∧ Q (.bool (!bs.any id)) s') E) l x bs L hl (fun s hs => ⟨rfl, fin s hs⟩) h)) (fun v s' hv => ?_) fun _ _ z => z))
  obtain ⟨rfl, hq⟩ := hv
  exact wpAny_truthy_bool (wpAny_pure hq)
end
end GB
namespace Fg
open PySem PySem.Spec PyProof.Rows L2
variable [TQ]
def inXND (E : Str → D → D → Option Bool) (n : Nat) (x y : D) : M D := match y with
  | .lst ds => do let bs ← M.opt (eqNL (eqX E n) ds (List.replicate ds.length x)); pure (.bl (!bs.any id))
  | _ => M.stuck
def fInXN (K : PySem.W.Frag) (ca : Str → Option Addr) (E : Str → D → D → Option Bool) (n : Nat) : R2 := fun x y H Q => ∃ (Xs : Addr → Prop) (ρ : List Addr) (S : Sto) (d : D) (ds : List D) (bs : List Bool), Sta K ca ρ Xs H S ∧ Rp K ca ρ (HidX Xs ρ H) x d ∧ Rp K ca ρ (HidX Xs ρ H) y (.lst ds) ∧ eqNL (eqX E n) ds (List.replicate ds.length d) = some bs ∧
  ∀ H' ρ', Gr ρ NoZ H ρ' H' → Sta K ca ρ' Xs H' S → Q (.bl (!bs.any id)) H'
section
variable {X : Cx} {ca ce : Str → Option Addr} {Xs : Addr → Prop} {S : Sto} {k n : Nat} {E : Str → D → D → Option Bool}
theorem f_notInX {K : PySem.W.Frag} (hK : K = X.K) (cf : ClF X.K ca) (hE : ∀ c, (∀ x y, E c x y = none) ∨ EqOwn X.prog X.w X.K X.mg X.base ca ce k c (E c)) {j : Nat} (hr : Room j X.A) (hk : k + n + 2 ≤ j) : OpR X (compareOp .NotIn) (fInXN K ca E n) := by
  subst hK
  intro pins s σ H x y v u Q I rx ry ⟨Xs, ρ, S, d, ds, bs, st, hx, hy, eb, q⟩
  have sb : Sub X (k + n + 2) X.A := ⟨hr.mono hk, rfl⟩
  cases hy with | lst ha pa => ?_
  rename_i a vs
  cases ry
  have at_ : ∀ {s1 : Shared} {H1 : Hp} {ρ1 : List Addr}, Inv X pins σ H1 s1 → Gr ρ NoZ H ρ1 H1 → ∃ (its : List Value) (m : Nat), L2.Vals vs its ∧ s1.heap.get? a = some { cls := .type "list", data := .seq its.toArray m } := fun {s1 H1 ρ1} I1 g1 => by
    obtain ⟨_, its, m, r, e⟩ := I1.hok a _ (hid_iff.mp (keep_lst g1 ha)).2
    exact ⟨its, m, r, e⟩
  have z1 := RpL.length pa
  have bl := (eqNL_at eb).1
  rw [List.length_replicate, Nat.min_self] at bl
  have here : LX X ca Xs S pins σ H ρ s := ⟨H, ρ, I, Gr.refl _ _ _, st⟩
  refine GB.notin_listB (bs := bs) (LX X ca Xs S pins σ H ρ) (fun s1 L1 => ?_) (fun s1 ⟨H1, ρ1, I1, g1, st1⟩ => ⟨.bl (!bs.any id), H1, I1, rfl, q H1 ρ1 g1 st1⟩) here
  obtain ⟨H1, ρ1, I1, g1, st1⟩ := id L1
  obtain ⟨its, m, r1, q1⟩ := at_ I1 g1
  have z3 := r1.length
  refine ⟨its.toArray, m, q1, by rw [List.size_toArray]; omega, fun i h1 => ?_⟩
  have l1 : i < its.length := by simpa using h1
  have k1 : i < vs.length := by rw [z3]; exact l1
  have m1 : i < ds.length := by rw [← z1]; exact k1
  obtain ⟨v1, ev1, p1⟩ := pa.get (List.getElem?_eq_getElem m1)
  obtain ⟨u1, eu1, w1⟩ := r1.get ev1
  have a1 : its.toArray[i] = u1 := by
    rw [List.getElem?_eq_getElem l1] at eu1
    simpa using Option.some.inj eu1
  rw [a1]
  have e1 := (eqNL_at eb).2 i m1 (by rw [List.length_replicate]; exact m1)
  rw [List.getElem_replicate] at e1
  exact wpAny_mono (eqX_run cf hE n e1 X.A.in1 (Sub.in1 sb) I1 st1 (rp_gr g1 p1) (rp_gr g1 hx) w1 rx) (fun r s2 ⟨er, H2, ρ2, I2, g2, st2⟩ => ⟨er, H2, ρ2, I2, g1.tr g2, st2⟩) fun _ _ z => z
end
theorem o_notInX {F : Fr} {K : PySem.W.Frag} {m : Md} {E : Str → D → D → Option Bool} {n : Nat} (hK : F.K = K) (h2 : m ≠ .nw) : OpD F .fz m (fInXN K F.ca E n) (inXND E n) := by
  intro O B ρ σ δ H S x y d e Q r hx hy q
  subst hK
  cases e <;> first | exact (show False from q).elim | skip
  obtain ⟨bs, eb, q⟩ := q.bind.opt
  exact ⟨fun b => F.Xs b ∨ Own B b, ρ, S, d, _, bs, r.sta, hx, hy, eb, fun H' ρ' g st => (q : ∀ v H' ρ', _) _ H' ρ' (r.step g st) g (scV_res (d := .bl _) rfl h2)⟩
end Fg
namespace Fg
open PySem PySem.Spec PyProof.Rows L2
/-- what is tracked at the law's entry: the tables, the script (if it is no constant) -/
def ent (T : List Addr) (sc : Option (Addr × HO)) : Hp := fun b => if b ∈ T then some (.tbl #[]) else match sc with
  | some (a, o) => if b = a then some o else none
  | none => none
theorem entT (T : List Addr) (sc : Option (Addr × HO)) {b : Addr} (h : b ∈ T) : ent T sc b = some (.tbl #[]) := by unfold ent; rw [if_pos h]
section
variable {P : Program} {w : World} {K : PySem.W.Frag} {mg mb : Str → Option Value} {k : Nat} {fa a : Addr} {cs : List (Addr × Addr)} {fd : FuncData} {x : Str} {sp : Sp} {s₁ : Shared} {H : Hp}
/-- the run from a heap in which the tables and the script are tracked -/
theorem ent_run (KX : K.In s₁.heap) (hns : s₁.heap.Ns mainGlobals mg) (hb : s₁.heap.Ns builtinsNs mb) (hbb : ∀ x : Str, x ≠ "__name__" → mb x = bootBuiltins x) (hlim : s₁.heap.NoLimit) (hg : s₁.gens = #[])
    (tab : ∀ b ∈ cs.map (·.2), s₁.heap.get? b = some { cls := .none, data := .fields #[] }) (ntab : ∀ b ∈ cs.map (·.2), K.lookup b = none) (C : ∀ p ∈ cs, PySem.W.CodeHd s₁.heap p.1 p.2)
    (hbm : ∃ (bm : Addr) (ob : Obj), mg "__builtins__" = some (.ref bm) ∧ bm ≠ builtinsNs ∧ s₁.heap.get? bm = some ob ∧ ob.cls = .type "module" ∧ ob.dict = some builtinsNs ∧ ob.data = .plain)
    {l : Obj} (la : s₁.heap.get? a = some l) (ld : ∃ vs n, l.data = .seq vs n)
    (F : ∀ base : Heap, K.In base → base.Ns mainGlobals mg → (∀ p ∈ cs, LamX.TabB base mg p.1 p.2) → FnG P w K mg base k fa fd [x] sp) (hr : Room k callerA) (hbind : BindsTo s₁ fd ⟨[.ref a], []⟩ [(x, .ref a)])
    (hH : ∀ b o, H b = some o → (b ∈ cs.map (·.2) ∧ o = .tbl #[]) ∨ (b = a ∧ K.lookup a = none ∧ ∃ ob xs, o = .frz ob (.lst xs))) (hT : ∀ b ∈ cs.map (·.2), H b = some (.tbl #[])) (hok : HOk P w H s₁.heap)
    (hs : sp [.ref a] H (fun v _ => v = .bl true) fun _ _ _ => False) (hCX : ∀ e s', L2.CX P w [] H s₁ (fun _ _ _ => False) e s' → False) :
    codeAny (model P w) callerA (.call (.ref fa) ⟨[.ref a], []⟩) (fun r s' => r = .ok (.ret (.bool true)) ∧ OldK s₁.heap s'.heap ∧ s'.os = s₁.os ∧ AllBare s'.gens) s₁ := by
  have seen : ∀ {b : Addr} {o : Obj}, s₁.heap.get? b = some o → (∀ vs n, o.data ≠ .seq vs n) → o.data ≠ .fields #[] → H b = none := fun {b o} e n1 n2 => Classical.byContradiction fun z => by
    obtain ⟨u, hu⟩ := Option.ne_none_iff_exists'.mp z
    rcases hH b u hu with ⟨m, _⟩ | ⟨rfl, _, _⟩
    · have q := (tab b m).symm.trans e
      cases q
      exact n2 rfl
    · obtain ⟨vs, n, ed⟩ := ld
      cases la.symm.trans e
      exact n1 _ _ ed
  have dics : ∀ {b : Addr} {o : Obj} {es : Array DictEntry} {ep : Nat}, s₁.heap.get? b = some o → o.data = .dict es ep → H b = none := fun e d => seen e (fun _ _ z => by rw [d] at z; cases z) fun z => by rw [d] at z; cases z
  have nsB : ∀ {b : Addr} {m : Str → Option Value}, s₁.heap.Ns b m → (hidT s₁.heap H).Ns b m := fun h => by
    obtain ⟨o, es, ep, e, d, r⟩ := h
    exact ⟨o, es, ep, hidT_get e (dics e d), d, r⟩
  have kinB : K.In (hidT s₁.heap H) := fun b o e => hidT_get (KX b o e) (Classical.byContradiction fun z => by
    obtain ⟨u, hu⟩ := Option.ne_none_iff_exists'.mp z
    rcases hH b u hu with ⟨m, _⟩ | ⟨rfl, q, _⟩
    · rw [ntab b m] at e; cases e
    · rw [q] at e; cases e)
  have modB : L2.Mod K mg (hidT s₁.heap H) := ⟨kinB, nsB hns, ⟨mb, nsB hb, hbb⟩, hlim.imp fun mc h => ⟨nsB h.1, h.2⟩⟩
  have tabB : ∀ p ∈ cs, LamX.TabB (hidT s₁.heap H) mg p.1 p.2 := fun p hp => by
    have tp := tab p.2 (List.mem_map_of_mem hp)
    obtain ⟨o, us, file, tf, flags, tg, inF, text, tt, e1, r1, r2, r3, r⟩ := C p hp
    obtain ⟨bm, ob, b1, b2, b3, b4, b5, b6⟩ := hbm
    refine ⟨⟨o, us, file, tf, flags, tg, inF, text, tt, hidT_get e1 (seen e1 (fun _ _ z => by rw [r2] at z; cases z) fun z => by rw [r2] at z; cases z; simp at r3), r1, r2, r3, r⟩, ⟨bm, ob, b1, b2, fun q => ?_, fun q => ?_, hidT_get b3 (seen b3 (fun _ _ z => by rw [b6] at z; cases z) fun z => by rw [b6] at z; cases z), b4, b5, b6⟩, fun z => ?_⟩
    · obtain ⟨o', es, ep, e, hd, _⟩ := hns
      rw [q, e] at b3; cases b3; rw [hd] at b6; cases b6
    · rw [q, tp] at b3; cases b3; cases b6
    · obtain ⟨o', es, ep, e, hd, _⟩ := hns
      rw [z, tp] at e; cases e; cases hd
  have env : Env0 P w K mg (hidT s₁.heap H) callerA [] s₁ H := ⟨rfl, modB, fun b o e => of_hidT e, Nat.le_of_eq (hidT_size _ _), trivial, fun b hb => (by cases hb), hok, .of_eq hg⟩
  refine codeAny_mono ((F _ kinB (nsB hns) tabB).go callerA [] s₁ H ⟨[.ref a], []⟩ [.ref a] [.ref a] _ _ rfl hr env hbind (.cons rfl .nil) hs) fun r s' h => ?_
  match r, h with
  | .error e, h => exact (hCX e s' h).elim
  | .ok .next, h => exact False.elim h
  | .ok .brk, h => exact False.elim h
  | .ok .cont, h => exact False.elim h
  | .ok (.ret u), ⟨v, H', os, bare, un, hok', r', (q : v = .bl true)⟩ =>
    subst q
    obtain rfl : u = Value.bool true := r'
    have stays : ∀ b o, b ∉ cs.map (·.2) → s₁.heap.get? b = some o → s'.heap.get? b = some o := fun b o nb e => by
      cases q : H b with
      | none => exact un.keep b o e q (fun z => by cases z) (by simp)
      | some u =>
        rcases hH b u q with ⟨m, _⟩ | ⟨rfl, _, ob, xs, eu⟩
        · exact absurd m nb
        · subst eu
          have e1 := (hok _ _ q).1
          have e2 := (hok' _ _ (un.frzs _ _ _ q)).1
          rw [e] at e1; cases e1
          exact e2
    have grows : ∀ b ∈ cs.map (·.2), ∃ more : Array Value, s'.heap.get? b = some { cls := .none, data := .fields more } := fun b hb => by
      obtain ⟨more, z⟩ := un.tbls b #[] (hT b hb)
      exact ⟨_, hok' b _ z⟩
    refine ⟨rfl, ⟨fun b o e => ?_, fun b o e => ?_⟩, os, bare⟩
    · by_cases m : b ∈ cs.map (·.2)
      · obtain ⟨p, hp, ep⟩ := List.mem_map.mp m
        obtain ⟨more, hm⟩ := grows b m
        have t := tab b m
        cases t.symm.trans e
        subst ep
        refine .inr (.inl ⟨((C p hp).tab t).isCodeTable, rfl, #[], more, rfl, ?_⟩)
        rw [Array.empty_append]; exact hm
      · exact .inl (stays b o m e)
    · by_cases m : b ∈ cs.map (·.2)
      · obtain ⟨more, hm⟩ := grows b m
        exact ⟨_, hm⟩
      · exact ⟨o, stays b o m e⟩
theorem law_callG {vs : List Value} {ns : List Int} (KX : K.In s₁.heap) (hns : s₁.heap.Ns mainGlobals mg) (hb : s₁.heap.Ns builtinsNs mb) (hbb : ∀ x : Str, x ≠ "__name__" → mb x = bootBuiltins x) (hlim : s₁.heap.NoLimit) (hg : s₁.gens = #[])
    (hT : ∀ p ∈ cs, s₁.heap.get? p.2 = some { cls := .none, data := .fields #[] }) (nT : ∀ p ∈ cs, K.lookup p.2 = none) (C : ∀ p ∈ cs, PySem.W.CodeHd s₁.heap p.1 p.2)
    (hbm : ∃ (bm : Addr) (ob : Obj), mg "__builtins__" = some (.ref bm) ∧ bm ≠ builtinsNs ∧ s₁.heap.get? bm = some ob ∧ ob.cls = .type "module" ∧ ob.dict = some builtinsNs ∧ ob.data = .plain)
    (ha : s₁.heap.get? a = some { cls := .type "list", data := .seq vs.toArray }) (hi : IntsAre vs ns) (hl : ns.length ≤ sizeLine) (hr : Room k callerA)
    (F : ∀ base : Heap, K.In base → base.Ns mainGlobals mg → (∀ p ∈ cs, LamX.TabB base mg p.1 p.2) → FnG P w K mg base k fa fd [x] sp) (hbind : ∀ (s : Shared) (u : Value), BindsTo s fd ⟨[u], []⟩ [(x, u)])
    (hsp : ∀ H : Hp, (∀ p ∈ cs, H p.2 = some (.tbl #[])) → SqL K H a (ns.map V.int) → sp [.ref a] H (fun v _ => v = .bl true) fun _ _ _ => False)
    (hCX : ∀ H e s', L2.CX P w [] H s₁ (fun _ _ _ => False) e s' → False) :
    codeAny (model P w) callerA (.call (.ref fa) ⟨[.ref a], []⟩) (fun r s' => r = .ok (.ret (.bool true)) ∧ OldK s₁.heap s'.heap ∧ s'.os = s₁.os ∧ AllBare s'.gens) s₁ := by
  have rv := vals_ints hi
  have tab : ∀ b ∈ cs.map (·.2), s₁.heap.get? b = some { cls := .none, data := .fields #[] } := fun b hb => by
    obtain ⟨p, hp, e⟩ := List.mem_map.mp hb
    exact e ▸ hT p hp
  have ntab : ∀ b ∈ cs.map (·.2), K.lookup b = none := fun b hb => by
    obtain ⟨p, hp, e⟩ := List.mem_map.mp hb
    exact e ▸ nT p hp
  have aT : a ∉ cs.map (·.2) := fun z => by
    have q := (tab a z).symm.trans ha
    cases q
  have goal := fun (sc : Option (Addr × HO)) (h1 : ∀ b o, ent (cs.map (·.2)) sc b = some o → (b ∈ cs.map (·.2) ∧ o = .tbl #[]) ∨ (b = a ∧ K.lookup a = none ∧ ∃ ob xs, o = .frz ob (.lst xs))) (h3 : HOk P w (ent (cs.map (·.2)) sc) s₁.heap) (h4 : SqL K (ent (cs.map (·.2)) sc) a (ns.map V.int)) =>
    ent_run (H := ent (cs.map (·.2)) sc) KX hns hb hbb hlim hg tab ntab C hbm ha ⟨_, _, rfl⟩ F hr (hbind s₁ (.ref a)) h1 (fun b hb => entT _ _ hb) h3 (hsp (ent (cs.map (·.2)) sc) (fun p hp => entT _ _ (List.mem_map_of_mem hp)) h4) fun e s' => hCX _ e s'
  have tblOk : ∀ sc b o, b ∈ cs.map (·.2) → ent (cs.map (·.2)) sc b = some o → o = .tbl #[] := fun sc b o m e => by
    unfold ent at e
    rw [if_pos m] at e
    exact (Option.some.inj e).symm
  cases hk : K.lookup a with
  | some o =>
    cases ha.symm.trans (KX a o hk)
    refine goal none (fun b o e => ?_) (fun b o e => ?_) (.inr ⟨_, vs.toArray, _, hk, rfl, rfl, rfl, by rw [List.size_toArray, hi.length]; exact hl, by simpa using rv⟩)
    · by_cases m : b ∈ cs.map (·.2)
      · exact .inl ⟨m, tblOk _ b o m e⟩
      · unfold ent at e; rw [if_neg m] at e; cases e
    · by_cases m : b ∈ cs.map (·.2)
      · rw [tblOk _ b o m e]; exact tab b m
      · unfold ent at e; rw [if_neg m] at e; cases e
  | none =>
    have at_a : ent (cs.map (·.2)) (some (a, .frz { cls := .type "list", data := .seq vs.toArray } (.lst (ns.map V.int)))) a = some (.frz { cls := .type "list", data := .seq vs.toArray } (.lst (ns.map V.int))) := by
      unfold ent
      rw [if_neg aT]
      exact if_pos rfl
    have only_a : ∀ b o, b ∉ cs.map (·.2) → ent (cs.map (·.2)) (some (a, .frz { cls := .type "list", data := .seq vs.toArray } (.lst (ns.map V.int)))) b = some o → b = a ∧ o = .frz { cls := .type "list", data := .seq vs.toArray } (.lst (ns.map V.int)) := fun b o m e => by
      by_cases z : b = a
      · subst z; exact ⟨rfl, (Option.some.inj (at_a.symm.trans e)).symm⟩
      · unfold ent at e
        rw [if_neg m] at e
        have e : (if b = a then some (HO.frz { cls := .type "list", data := .seq vs.toArray } (.lst (ns.map V.int))) else none) = some o := e
        rw [if_neg z] at e
        cases e
    refine goal (some (a, .frz { cls := .type "list", data := .seq vs.toArray } (.lst (ns.map V.int)))) (fun b o e => ?_) (fun b o e => ?_) (.inl (.inr ⟨_, at_a⟩))
    · by_cases m : b ∈ cs.map (·.2)
      · exact .inl ⟨m, tblOk _ b o m e⟩
      · obtain ⟨e1, e2⟩ := only_a b o m e
        exact .inr ⟨e1, hk, _, _, e2⟩
    · by_cases m : b ∈ cs.map (·.2)
      · rw [tblOk _ b o m e]; exact tab b m
      · obtain ⟨e1, e2⟩ := only_a b o m e
        subst e1 e2
        exact ⟨ha, by rw [List.length_map]; exact hl, vs, _, rv, ha⟩
end
def LawAtG (l : PySem.W.OpenLaw) (w : World) (K : PySem.W.Frag) (k n : Nat) (x : Str) (mg : Str → Option Value) (fa : Addr) (h : Heap) : Prop :=
  ∃ (fd : FuncData) (cs : List (Addr × Addr)) (sp : Sp), (∀ p ∈ cs, h.get? p.2 = some { cls := .none, data := .fields #[] }) ∧ (∀ p ∈ cs, K.lookup p.2 = none) ∧ (∀ p ∈ cs, PySem.W.CodeHd h p.1 p.2) ∧ (∀ (s : Shared) (u : Value), BindsTo s fd ⟨[u], []⟩ [(x, u)]) ∧
    (∀ (H : Hp) (a : Addr) (ns : List Int), ns.length ≤ n → (∀ z ∈ ns, Builtin.Int.intBits z ≤ 1048576) → (∀ p ∈ cs, H p.2 = some (.tbl #[])) → SqL K H a (ns.map V.int) → sp [.ref a] H (fun v _ => v = .bl true) fun _ _ _ => False) ∧
    ∀ base : Heap, K.In base → base.Ns mainGlobals mg → (∀ p ∈ cs, LamX.TabB base mg p.1 p.2) → FnG l.prog w K mg base k fa fd [x] sp
theorem walk_ofG {l : PySem.W.OpenLaw} {n k : Nat} {q : Program} {loose : List Str} {XP : (Str → Option Value) → Heap → Prop} {YP : World → Heap → Prop} {d : DefRec} {x : Str} (hn : l.most = some n) (hn2 : n ≤ sizeLine) (hdf : d.params.defaults = []) (hr : Room k callerA)
    (F : ∀ (w : World) (mg : Str → Option Value) (fa : Addr) (h : Heap), YP w h → h.Ns mainGlobals mg → mg d.name = some (.ref fa) → ∃ K : PySem.W.Frag, K.In h ∧ LawAtG l w K k n x mg fa h)
    (hCX : ∀ (w : World) (H : Hp) (s : Shared) (e : Value) (s' : Shared), L2.CX l.prog w [] H s (fun _ _ _ => False) e s' → False) : PySem.W.WalkO q loose XP YP l.row.toRowW d [] (fun f vs => PySem.call f vs) :=
  Att.attach_callB hn hdf fun w s₀ s₁ mg mb fa o pm cd doc a vs ns G Y ho hd hcd hmg hobj hints hlen hbits hg => by
    obtain ⟨K, KX, fd, cs, sp, hT, nT, C, hb, hsp, hF⟩ := F w mg fa _ Y G.T.g hmg
    exact law_callG KX G.T.g G.T.b G.T.builtins G.T.nolimit hg hT nT C G.T.bmain hobj hints (Nat.le_trans hlen hn2) hr hF hb (fun H hH hS => hsp H a ns hlen hbits hH hS) fun H e s' => hCX w H s₁ e s'
end Fg
namespace Fg
open PySem PySem.Spec PyProof.Rows L2
section
variable {P : Program} {w : World} {K : PySem.W.Frag} {mg : Str → Option Value} {base : Heap} {k : Nat}
theorem FnG.imp {f : Addr} {fd : FuncData} {ps : List Str} {sp sp' : Sp} (F : FnG P w K mg base k f fd ps sp) (h : ∀ vs H Q E, sp' vs H Q E → sp vs H Q E) : FnG P w K mg base k f fd ps sp' :=
  ⟨fun vs H Q E q => F.ln _ _ _ _ (h _ _ _ _ q), fun A out s H args us vs Q E ng hr e b r q => F.go A out s H args us vs Q E ng hr e b r (h _ _ _ _ q)⟩
theorem calleeG_imp {x : Str} {ps : List Str} {sp sp' : Sp} (c : CalleeG P w K mg base k x ps sp) (h : ∀ vs H Q E, sp' vs H Q E → sp vs H Q E) : CalleeG P w K mg base k x ps sp' := by
  obtain ⟨f, fd, F, r⟩ := c.ex
  exact ⟨f, fd, F.imp h, r⟩
theorem CalleeG.g {x : Str} {ps : List Str} {sp : Sp} (c : CalleeG P w K mg base k x ps sp) : CalleeG P w K mg base k x ps sp := c
/-- a def that is known -/
theorem fnG_known {x : Str} {st : Stmt} {f : Addr} {fd : FuncData} {N ps : List Str} {sp : Sp} (F : Fun K x x st f fd) (S : FnScope N ps (defScope st))
    (len : ∀ vs H Q E, sp vs H Q E → vs.length = ps.length)
    (hbody : ∀ (f : Addr) (cdv : Value) (A : Around) (outer : List Env) (s : Shared) (H : Hp) (vs : List V) (Q : VK) (E : XK), NoG (cxOf (L2.CX P w) P w K mg base N x (defScope st) f cdv A outer s H E).A → Room k (cxOf (L2.CX P w) P w K mg base N x (defScope st) f cdv A outer s H E).A →
      Takes (cxOf (L2.CX P w) P w K mg base N x (defScope st) f cdv A outer s H E) (fun cls d _ H => E cls d H) →
      PassesOwn (model P w) (cxOf (L2.CX P w) P w K mg base N x (defScope st) f cdv A outer s H E).A (cxOf (L2.CX P w) P w K mg base N x (defScope st) f cdv A outer s H E).env (cxOf (L2.CX P w) P w K mg base N x (defScope st) f cdv A outer s H E).xe → sp vs H Q E →
      ∃ t, PSs (cxOf (L2.CX P w) P w K mg base N x (defScope st) f cdv A outer s H E) (defBody st) t ∧ t { nx := fun _ H' => Q .non H', rt := Q } (start N vs) H) :
    FnG P w K mg base (k + 1) f fd ps sp := fnG_of F S len fun cdv A outer s H vs Q E ng hr h => hbody f cdv A outer s H vs Q E ng hr (takes_of rfl rfl rfl rfl) (passes_of rfl) h
end
end Fg
namespace Fg
open PySem PySem.Spec PyProof.Rows L2
local macro_rules | `(tactic| walk_at "hp") => `(tactic| first | assumption | (refine Same.get (by assumption) ?_; walk_at "hp"))
local macro_rules | `(tactic| walk_at "sq") => `(tactic| first | assumption | (exact Or.inr (by assumption)) | (exact Or.inl (by assumption)) | (exact Or.inl (SqL.of (by walk_at "hp"))) | (exact Or.inr (SqT.of (by walk_at "hp"))) | (exact SqL.of (by walk_at "hp")) | (exact SqT.of (by walk_at "hp")))
local macro_rules | `(tactic| walk_at "cl") => `(tactic| first | ((first | show (_ : Int) < _ | show (_ : Int) ≤ _); first | omega | decide) | ((first | show (_ : Nat) < _ | show (_ : Nat) ≤ _); first | with_reducible assumption | (refine sz_le ?_; first | decide | omega | (simp <;> omega)) | (refine sz_lt ?_; first | decide | omega | (simp <;> omega)) | omega | decide | ((with_reducible show List.length _ < _); exact Nat.le_of_ble_eq_true rfl)) | rfl | walk_at "hp" | walk_at "sq" | (refine And.intro (by walk_at "cl") (by walk_at "cl")) | (exact Exists.intro _ (by walk_at "hp")) | (exact Exists.intro _ (Exists.intro _ (by walk_at "hp"))) | (exact Exists.intro _ (Exists.intro _ (And.intro (by walk_at "hp") rfl))) | decide | (exact Or.inl (by walk_at "cl")) | (exact Or.inr (by walk_at "cl")) | omega)
local macro_rules | `(tactic| walk_at "s1") => `(tactic| first | refine And.intro (by walk_at "cl") ?_ | apply Exists.intro)
local macro_rules | `(tactic| walk_at "sx") => `(tactic| repeat walk_at "s1")
local macro_rules | `(tactic| walk_at "si") => `(tactic| first | refine iteY rfl ?_ | refine iteN rfl ?_)
local macro_rules | `(tactic| walk_at "sy") => `(tactic| repeat first | walk_at "s1" | walk_at "si")
local macro_rules | `(tactic| simp! only [$xs,*]) => `(tactic| simp (maxSteps := 4000000) only [ev_bind, ev_pure, ev_ok, ev_er, ev_no, ev_ite, ev_t, ev_f, ev_some, ev_raise, ev_noErr, ev_nE, ev_nEo, ev_rd0, ev_rdS, ev_st0, ev_stN, ev_stS, ev_seq, ev_sqn, ev_sqr, ev_sqb, ev_sqc, ev_skip, ev_brk, ev_ctn, ev_set, ev_ret, ev_drop, ev_ifs, ev_ife, ev_run, ev_rnn, ev_rnr, ev_runi, ev_rni, ev_app, ev_aug, ev_par, ev_fld, ev_rai, ev_asO, ev_tgn, ev_tgT, ev_tg0, ev_tgS, ev_fors, ev_for0, ev_forS, ev_forB, ev_ffn, ev_ffc, ev_ffb, ev_ffr, ev_itL, ev_itT, ev_itS, ev_tbd, ev_tv, ev_not, ev_and, ev_or, ev_ande, ev_ore, ev_tee, ev_note, ev_yes, ev_cons, ev_nil, ev_cap, ev_call, ev_ndd, ev_nkd, ev_nsd, ev_star, ev_sqL, ev_sqT, ev_met, ev_lc, ev_str, ev_slc, ev_chain, ev_end, ev_endo, ev_ende, ev_add, ev_addS, ev_cat, ev_sub, ev_mul, ev_mod, ev_fdiv, ev_lt, ev_le, ev_gt, ev_ge, ev_eqI, ev_eqS, ev_eqB, ev_neI, ev_neS, ev_neB, ev_nn, ev_nI, ev_nS, ev_nO, ev_nD, ev_lenL, ev_lenT, ev_lenS, ev_int, ev_ixL, ev_ixT, ev_fldD, ev_isC, ev_neg, ev_tup, ev_fmtS, ev_fmtI, ev_slS, ev_slL, ev_slT, ev_part, ev_wp0, ev_wpS, ev_sg1, ev_inS, ev_index, ev_ixS, ev_jn0, ev_jnS, ev_sz, ev_szl, ev_at0, ev_at1, ev_at2, ev_at3, ev_at4, ev_at5, ev_tri, ev_divmod, ev_tgM, ev_getOr, ev_tryo, ev_tryN, ev_trye, ev_isbI, ev_isbB, ev_ltS, ev_geS, ev_par3, ev_reg, ev_fldXD, ev_methX, ev_methXK, ev_callX, ev_mfld, ev_dgetM, ev_tgMD, ev_inDk, ev_endRM, ev_endRo, ev_endRe, ev_endRz, ev_tgL, ev_upper, ev_lenM2L, ev_lenM2M, ev_ixM2L, ev_ixM2M, ev_nilMM, ev_mapp, ev_raise0, ev_tryFin, ev_zfill, ev_methXS, ev_ljust, ev_rjust, ev_tryNx, ev_laug, ev_mvIf, ev_ext, ev_lc2D, ev_endXM, ev_endXo, ev_endXe, ev_quiet, ev_tim, List.set_cons_zero, List.set_cons_succ, List.length_cons, List.length_nil, eq_self, Bool.not_true, Bool.not_false, Bool.false_eq_true, decide_true, decide_false, List.nil_append, List.cons_append, decide_eq_true_eq, reduceCtorEq, Nat.reduceAdd, Nat.reduceSub, Nat.reduceLT, Nat.reduceLeDiff, Nat.reduceEqDiff, Int.reduceAdd, Int.reduceSub, Int.reduceMul, Int.reduceEq, Int.reduceLT, Int.reduceLE, Int.reduceNeg, Int.reduceToNat, Nat.zero_add, Int.cast_ofNat_Int, List.drop_succ_cons, List.drop_zero, List.append_nil, $xs,*])
section
open PySem PySem.Spec PyProof.Rows L2
theorem sc_InvalidTextdd_initdd : FnScope ["self", "value"] ["self", "value"] (defScope s_InvalidTextdd_initdd) := ⟨rfl, rfl, rfl, by decide +kernel, rfl, by decide +kernel, by decide +kernel⟩
theorem sc_InvalidSettingdd_initdd : FnScope ["self", "setting"] ["self", "setting"] (defScope s_InvalidSettingdd_initdd) := ⟨rfl, rfl, rfl, by decide +kernel, rfl, by decide +kernel, by decide +kernel⟩
theorem sc_is_integer : FnScope ["value"] ["value"] (defScope s_is_integer) := ⟨rfl, rfl, rfl, by decide +kernel, rfl, by decide +kernel, by decide +kernel⟩
theorem sc_is_between : FnScope ["value", "low", "high"] ["value", "low", "high"] (defScope s_is_between) := ⟨rfl, rfl, rfl, by decide +kernel, rfl, by decide +kernel, by decide +kernel⟩
theorem sc_is_sign : FnScope ["value"] ["value"] (defScope s_is_sign) := ⟨rfl, rfl, rfl, by decide +kernel, rfl, by decide +kernel, by decide +kernel⟩
theorem sc_code_of : FnScope ["sign", "place"] ["sign"] (defScope s_code_of) := ⟨rfl, rfl, rfl, by decide +kernel, rfl, by decide +kernel, by decide +kernel⟩
theorem sc_sign_of : FnScope ["code"] ["code"] (defScope s_sign_of) := ⟨rfl, rfl, rfl, by decide +kernel, rfl, by decide +kernel, by decide +kernel⟩
theorem sc_size_of : FnScope ["figures", "base", "size", "figure"] ["figures", "base"] (defScope s_size_of) := ⟨rfl, rfl, rfl, by decide +kernel, rfl, by decide +kernel, by decide +kernel⟩
theorem sc_integer_in : FnScope ["word", "body", "size", "sign"] ["word"] (defScope s_integer_in) := ⟨rfl, rfl, rfl, by decide +kernel, rfl, by decide +kernel, by decide +kernel⟩
theorem sc_is_setting : FnScope ["setting", "value"] ["setting", "value"] (defScope s_is_setting) := ⟨rfl, rfl, rfl, by decide +kernel, rfl, by decide +kernel, by decide +kernel⟩
theorem sc_settings_text : FnScope ["values", "words", "setting", "value"] ["values"] (defScope s_settings_text) := ⟨rfl, rfl, rfl, by decide +kernel, rfl, by decide +kernel, by decide +kernel⟩
theorem sc_format_of : FnScope ["table"] ["table"] (defScope s_format_of) := ⟨rfl, rfl, rfl, by decide +kernel, rfl, by decide +kernel, by decide +kernel⟩
theorem sc_Formatdd_initdd : FnScope ["self", "base", "sign", "least", "group", "mark", "width", "fill", "side", "values", "setting", "value"] ["self", "base", "sign", "least", "group", "mark", "width", "fill", "side"] (defScope s_Formatdd_initdd) := ⟨rfl, rfl, rfl, by decide +kernel, rfl, by decide +kernel, by decide +kernel⟩
theorem sc_Format_read : FnScope ["text", "table"] ["text"] (defScope s_Format_read) := ⟨rfl, rfl, rfl, by decide +kernel, rfl, by decide +kernel, by decide +kernel⟩
theorem sc_Format_settings : FnScope ["self"] ["self"] (defScope s_Format_settings) := ⟨rfl, rfl, rfl, by decide +kernel, rfl, by decide +kernel, by decide +kernel⟩
theorem sc_Formatdd_eqdd : FnScope ["self", "other"] ["self", "other"] (defScope s_Formatdd_eqdd) := ⟨rfl, rfl, rfl, by decide +kernel, rfl, by decide +kernel, by decide +kernel⟩
theorem sc_Formatdd_strdd : FnScope ["self"] ["self"] (defScope s_Formatdd_strdd) := ⟨rfl, rfl, rfl, by decide +kernel, rfl, by decide +kernel, by decide +kernel⟩
theorem sc_setting_in : FnScope ["setting", "word", "value"] ["setting", "word"] (defScope s_setting_in) := ⟨rfl, rfl, rfl, by decide +kernel, rfl, by decide +kernel, by decide +kernel⟩
theorem sc_settings_in : FnScope ["text", "words", "table", "setting", "word"] ["text"] (defScope s_settings_in) := ⟨rfl, rfl, rfl, by decide +kernel, rfl, by decide +kernel, by decide +kernel⟩
theorem sc_l_pot : FnScope ["_law_script", "_law_k", "_law_beaten", "_law_each", "_law_entry"] ["_law_script", "_law_k"] (defScope s_l_pot) := ⟨rfl, rfl, rfl, by decide +kernel, rfl, by decide +kernel, by decide +kernel⟩
theorem sc_l_spoon : FnScope ["_law_pot_here", "_law_wide", "_law_left"] ["_law_pot_here", "_law_wide"] (defScope s_l_spoon) := ⟨rfl, rfl, rfl, by decide +kernel, rfl, by decide +kernel, by decide +kernel⟩
theorem sc_l_of : FnScope ["_law_pot_here", "_law_things"] ["_law_pot_here", "_law_things"] (defScope s_l_of) := ⟨rfl, rfl, rfl, by decide +kernel, rfl, by decide +kernel, by decide +kernel⟩
theorem sc_l_signs : FnScope [] [] (defScope s_l_signs) := ⟨rfl, rfl, rfl, by decide +kernel, rfl, by decide +kernel, by decide +kernel⟩
theorem sc_l_sign : FnScope ["_law_pot_here"] ["_law_pot_here"] (defScope s_l_sign) := ⟨rfl, rfl, rfl, by decide +kernel, rfl, by decide +kernel, by decide +kernel⟩
theorem sc_l_shape : FnScope ["_law_pot_here", "_law_far", "_law_shape_here"] ["_law_pot_here"] (defScope s_l_shape) := ⟨rfl, rfl, rfl, by decide +kernel, rfl, by decide +kernel, by decide +kernel⟩
theorem sc_l_format : FnScope ["_law_shape_here"] ["_law_shape_here"] (defScope s_l_format) := ⟨rfl, rfl, rfl, by decide +kernel, rfl, by decide +kernel, by decide +kernel⟩
theorem sc_l_ended : FnScope ["_law_ask", "_law_given", "e"] ["_law_ask"] (defScope s_l_ended) := ⟨rfl, rfl, rfl, by decide +kernel, rfl, by decide +kernel, by decide +kernel⟩
theorem sc_l_bent : FnScope ["_law_pot_here", "_law_line_here", "_law_words", "_law_way", "_law_at", "_law_spot", "_law_some"] ["_law_pot_here", "_law_line_here"] (defScope s_l_bent) := ⟨rfl, rfl, rfl, by decide +kernel, rfl, by decide +kernel, by decide +kernel⟩
theorem sc_l_right : FnScope ["_law_pot_here", "_law_turn", "_law_made", "_law_line_here", "_law_again", "_law_bent_here", "_law_answer", "_law_odd", "_law_lost", "_law_mark_lost", "_law_answers", "_law_due", "_law_good", "_law_code"] ["_law_pot_here"] (defScope s_l_right) := ⟨rfl, rfl, rfl, by decide +kernel, rfl, by decide +kernel, by decide +kernel⟩
theorem sc_law : FnScope ["_law_script", "_law_k"] ["_law_script"] (defScope s_law) := ⟨rfl, rfl, rfl, by decide +kernel, rfl, by decide +kernel, by decide +kernel⟩
/-- where the text's classes and tables stand -/
structure Ad where
  cFormat : Addr
  cInvalidText : Addr
  cInvalidSetting : Addr
  cC_l_right : Addr
  tP_l_right : Addr
  tHEADS : Addr
  tSIDES : Addr
  tSETTINGS : Addr
  cUnfit : Addr
/-- what the top has written -/
structure Txt (w : World) (K : PySem.W.Frag) (mg : Str → Option Value) (A : Ad) : Prop where
  cl_Format : Cls K A.cFormat
  in_Format : (PySem.W.findIn K (.ref A.cFormat) "__class__" = some (some (.builtin "object.__class__"))) ∧ (PySem.W.specialIn K (.builtin "object.__class__") "__get__" = some (some (.builtin "getset_descriptor.__get__"))) ∧ (PySem.W.takesIn K (.builtin "object.__class__") = some true) ∧ PySem.W.mroIn K A.cFormat (.type "object") = some true
  kn_Format_int : PySem.W.kitOne K (.ref A.cFormat) (.type "int") = some false
  kn_Format_str : PySem.W.kitOne K (.ref A.cFormat) (.type "str") = some false
  kn_Format_tuple : PySem.W.kitOne K (.ref A.cFormat) (.type "tuple") = some false
  kn_Format_bool : PySem.W.kitOne K (.ref A.cFormat) (.type "bool") = some false
  kn_Format_list : PySem.W.kitOne K (.ref A.cFormat) (.type "list") = some false
  kn_Format_dict : PySem.W.kitOne K (.ref A.cFormat) (.type "dict") = some false
  oe_InvalidText : OexC K A.cInvalidText
  g_InvalidText : mg "InvalidText" = some (.ref A.cInvalidText)
  I_InvalidTextdd_initdd : InitAt K A.cInvalidText "InvalidText.__init__" s_InvalidTextdd_initdd
  nf_InvalidText : PySem.W.findIn K (.ref A.cInvalidText) "value" = some none
  oe_InvalidSetting : OexC K A.cInvalidSetting
  g_InvalidSetting : mg "InvalidSetting" = some (.ref A.cInvalidSetting)
  I_InvalidSettingdd_initdd : InitAt K A.cInvalidSetting "InvalidSetting.__init__" s_InvalidSettingdd_initdd
  nf_InvalidSetting : PySem.W.findIn K (.ref A.cInvalidSetting) "setting" = some none
  F_is_sign : FunAt K mg "is_sign" s_is_sign
  b_str : mg "str" = none
  b_isinstance : mg "isinstance" = none
  b_len : mg "len" = none
  g_PRINT : ∃ u, mg "PRINT" = some u ∧ RelV (.str " !\"#$&'()*+,-./0123456789:;<=>?@ABCDEFGHIJKLMNOPQRSTUVWXYZ[\\]^_`abcdefghijklmnopqrstuvwxyz{|}~") u
  F_is_integer : FunAt K mg "is_integer" s_is_integer
  b_int : mg "int" = none
  F_is_between : FunAt K mg "is_between" s_is_between
  F_is_setting : FunAt K mg "is_setting" s_is_setting
  d_HEADS : KTab K w A.tHEADS [("minus", .str ""), ("plus", .str "+"), ("blank", .str " ")]
  g_HEADS : ∃ u, mg "HEADS" = some u ∧ RelV (.ref A.tHEADS) u
  g_SIDES : ∃ u, mg "SIDES" = some u ∧ RelV (.ref A.tSIDES) u
  t_SIDES : ∀ H, SqT K H A.tSIDES [.str "left", .str "right", .str "both", .str "inner"]
  g_FIGURES : ∃ u, mg "FIGURES" = some u ∧ RelV (.str "0123456789abcdef") u
  g_MOST_GROUP : ∃ u, mg "MOST_GROUP" = some u ∧ RelV (.int 4) u
  g_MOST_WIDTH : ∃ u, mg "MOST_WIDTH" = some u ∧ RelV (.int 12) u
  F_code_of : FunAt K mg "code_of" s_code_of
  F_settings_text : FunAt K mg "settings_text" s_settings_text
  b_zip : mg "zip" = none
  g_SETTINGS : ∃ u, mg "SETTINGS" = some u ∧ RelV (.ref A.tSETTINGS) u
  t_SETTINGS : ∀ H, SqT K H A.tSETTINGS [.str "base", .str "sign", .str "least", .str "group", .str "mark", .str "width", .str "fill", .str "side"]
  g_Format : mg "Format" = some (.ref A.cFormat)
  K_Format : InitK K A.cFormat "Format.__init__" s_Formatdd_initdd [("base", .int 10), ("sign", .str "minus"), ("least", .int 1), ("group", .int 0), ("mark", .str ","), ("width", .int 0), ("fill", .str " "), ("side", .str "left")]
  n_Format_base : NoAttr K A.cFormat "base"
  n_Format_sign : NoAttr K A.cFormat "sign"
  n_Format_least : NoAttr K A.cFormat "least"
  n_Format_group : NoAttr K A.cFormat "group"
  n_Format_mark : NoAttr K A.cFormat "mark"
  n_Format_width : NoAttr K A.cFormat "width"
  n_Format_fill : NoAttr K A.cFormat "fill"
  n_Format_side : NoAttr K A.cFormat "side"
  n_Format_words : NoAttr K A.cFormat "words"
  F_l_format : FunAt K mg "_law_format" s_l_format
  F_l_spoon : FunAt K mg "_law_spoon" s_l_spoon
  F_l_of : FunAt K mg "_law_of" s_l_of
  F_l_signs : FunAt K mg "_law_signs" s_l_signs
  F_l_sign : FunAt K mg "_law_sign" s_l_sign
  F_l_shape : FunAt K mg "_law_shape" s_l_shape
  M_Formatdd_strdd : MethAt K A.cFormat "__str__" "Format.__str__" s_Formatdd_strdd
  M_Format_settings : MethAt K A.cFormat "settings" "Format.settings" s_Format_settings
  M_Formatdd_eqdd : MethAt K A.cFormat "__eq__" "Format.__eq__" s_Formatdd_eqdd
  i_Format : InsC K A.cFormat
  v_Format : ∃ u, mg "Format" = some u ∧ RelV (.ref A.cFormat) u
  ss_Format : PySem.W.subIn K (.ref A.cFormat) (.type "str") = some false
  ne_Format : NeAt K A.cFormat
  F_size_of : FunAt K mg "size_of" s_size_of
  F_integer_in : FunAt K mg "integer_in" s_integer_in
  b_any : mg "any" = none
  F_sign_of : FunAt K mg "sign_of" s_sign_of
  F_setting_in : FunAt K mg "setting_in" s_setting_in
  F_settings_in : FunAt K mg "settings_in" s_settings_in
  b_tuple : mg "tuple" = none
  b_list : mg "list" = none
  F_format_of : FunAt K mg "format_of" s_format_of
  S_Format_read : StatAt K A.cFormat "read" "Format.read" s_Format_read
  F_l_bent : FunAt K mg "_law_bent" s_l_bent
  xf_InvalidText : XfC K A.cInvalidText
  xc_InvalidText : ExcC K A.cInvalidText
  v_Unfit : ∃ u, mg "Unfit" = some u ∧ RelV (.ref A.cUnfit) u
  b_ValueError : mg "ValueError" = none
  ex_InvalidText_InvalidText : PySem.W.exmOne K (.ref A.cInvalidText) (.ref A.cInvalidText) = some true
  ki_InvalidText_Unfit : PySem.W.kitOne K (.ref A.cInvalidText) (.ref A.cUnfit) = some true
  ki_InvalidText_ValueError : PySem.W.kitOne K (.ref A.cInvalidText) (.type "ValueError") = some true
  k_l_right : FunC K mg "_law_right" s_l_right A.cC_l_right
  b_range : mg "range" = none
  F_l_ended : FunAt K mg "_law_ended" s_l_ended
  F_l_pot : FunAt K mg "_law_pot" s_l_pot
  b_abs : mg "abs" = none
  F_law : FunAt K mg "law" s_law
  b_all : mg "all" = none
  b_max : mg "max" = none
  b_min : mg "min" = none
end
section
open PySem PySem.Spec PyProof.Rows L2
def adOf (K : PySem.W.Frag) : Ad where
  cFormat := He.ga K "Format"
  cInvalidText := He.ga K "InvalidText"
  cInvalidSetting := He.ga K "InvalidSetting"
  cC_l_right := He.codeOf K ("_law_right", none)
  tP_l_right := He.tabOf K (He.codeOf K ("_law_right", none))
  tHEADS := He.ga K "HEADS"
  tSIDES := He.ga K "SIDES"
  tSETTINGS := He.ga K "SETTINGS"
  cUnfit := He.ga K "Unfit"
theorem txt_of {w : World} {K : PySem.W.Frag} {h : Heap} {mg : Str → Option Value} (X : K.In h) (G : h.Ns mainGlobals mg) (c : SaysY headFa headFn headTs headTf headEx headSm w h K) : Txt w K mg (adOf K) where
  cl_Format := He.cls_ok (c.x.t.d.fact 0 rfl)
  in_Format := inB_ok (exAt c.x.more 0 rfl)
  kn_Format_int := of_decide_eq_true (exAt c.x.more 1 rfl)
  kn_Format_str := of_decide_eq_true (exAt c.x.more 2 rfl)
  kn_Format_tuple := of_decide_eq_true (exAt c.x.more 3 rfl)
  kn_Format_bool := of_decide_eq_true (exAt c.x.more 4 rfl)
  kn_Format_list := of_decide_eq_true (exAt c.x.more 5 rfl)
  kn_Format_dict := of_decide_eq_true (exAt c.x.more 6 rfl)
  oe_InvalidText := oeB_ok (exAt c.x.more 7 rfl)
  g_InvalidText := He.glo_ok X G (c.x.t.d.fact 1 rfl)
  I_InvalidTextdd_initdd := initAt_of (c.x.t.d.def_ 0 rfl) (c.x.t.d.fact 2 rfl)
  nf_InvalidText := He.noat_ok (c.x.t.d.fact 3 rfl)
  oe_InvalidSetting := oeB_ok (exAt c.x.more 8 rfl)
  g_InvalidSetting := He.glo_ok X G (c.x.t.d.fact 4 rfl)
  I_InvalidSettingdd_initdd := initAt_of (c.x.t.d.def_ 1 rfl) (c.x.t.d.fact 5 rfl)
  nf_InvalidSetting := He.noat_ok (c.x.t.d.fact 6 rfl)
  F_is_sign := funAt_of X G (c.x.t.d.def_ 2 rfl) (c.x.t.d.fact 7 rfl)
  b_str := He.free_ok X G (c.x.t.d.fact 8 rfl)
  b_isinstance := He.free_ok X G (c.x.t.d.fact 9 rfl)
  b_len := He.free_ok X G (c.x.t.d.fact 10 rfl)
  g_PRINT := strG_of X G (c.x.t.d.fact 11 rfl)
  F_is_integer := funAt_of X G (c.x.t.d.def_ 3 rfl) (c.x.t.d.fact 12 rfl)
  b_int := He.free_ok X G (c.x.t.d.fact 13 rfl)
  F_is_between := funAt_of X G (c.x.t.d.def_ 4 rfl) (c.x.t.d.fact 14 rfl)
  F_is_setting := funAt_of X G (c.x.t.d.def_ 5 rfl) (c.x.t.d.fact 15 rfl)
  d_HEADS := kTab_of (c.x.t.tab 0 rfl) (exAt c.x.more 9 rfl)
  g_HEADS := refG_of X G (c.x.t.d.fact 16 rfl)
  g_SIDES := refG_of X G (c.x.t.d.fact 17 rfl)
  t_SIDES := fun H => He.tupB_ok (exAt c.x.more 10 rfl) H
  g_FIGURES := strG_of X G (c.x.t.d.fact 18 rfl)
  g_MOST_GROUP := intG_of X G (c.x.t.d.fact 19 rfl)
  g_MOST_WIDTH := intG_of X G (c.x.t.d.fact 20 rfl)
  F_code_of := funAt_of X G (c.x.t.d.def_ 6 rfl) (c.x.t.d.fact 21 rfl)
  F_settings_text := funAt_of X G (c.x.t.d.def_ 7 rfl) (c.x.t.d.fact 22 rfl)
  b_zip := He.free_ok X G (c.x.t.d.fact 23 rfl)
  g_SETTINGS := refG_of X G (c.x.t.d.fact 24 rfl)
  t_SETTINGS := fun H => He.tupB_ok (exAt c.x.more 11 rfl) H
  g_Format := He.glo_ok X G (c.x.t.d.fact 25 rfl)
  K_Format := initK_of (c.x.t.d.def_ 8 rfl) (c.x.t.d.fact 26 rfl)
  n_Format_base := He.noat_ok (c.x.t.d.fact 27 rfl)
  n_Format_sign := He.noat_ok (c.x.t.d.fact 28 rfl)
  n_Format_least := He.noat_ok (c.x.t.d.fact 29 rfl)
  n_Format_group := He.noat_ok (c.x.t.d.fact 30 rfl)
  n_Format_mark := He.noat_ok (c.x.t.d.fact 31 rfl)
  n_Format_width := He.noat_ok (c.x.t.d.fact 32 rfl)
  n_Format_fill := He.noat_ok (c.x.t.d.fact 33 rfl)
  n_Format_side := He.noat_ok (c.x.t.d.fact 34 rfl)
  n_Format_words := He.noat_ok (c.x.t.d.fact 35 rfl)
  F_l_format := funAt_of X G (c.x.t.d.def_ 9 rfl) (c.x.t.d.fact 36 rfl)
  F_l_spoon := funAt_of X G (c.x.t.d.def_ 10 rfl) (c.x.t.d.fact 37 rfl)
  F_l_of := funAt_of X G (c.x.t.d.def_ 11 rfl) (c.x.t.d.fact 38 rfl)
  F_l_signs := funAt_of X G (c.x.t.d.def_ 12 rfl) (c.x.t.d.fact 39 rfl)
  F_l_sign := funAt_of X G (c.x.t.d.def_ 13 rfl) (c.x.t.d.fact 40 rfl)
  F_l_shape := funAt_of X G (c.x.t.d.def_ 14 rfl) (c.x.t.d.fact 41 rfl)
  M_Formatdd_strdd := methAt_of (c.x.t.d.def_ 15 rfl) (c.x.t.d.fact 42 rfl)
  M_Format_settings := methAt_of (c.x.t.d.def_ 16 rfl) (c.x.t.d.fact 43 rfl)
  M_Formatdd_eqdd := methAt_of (c.x.t.d.def_ 17 rfl) (c.x.t.d.fact 44 rfl)
  i_Format := insB_ok (exAt c.x.more 12 rfl)
  v_Format := refG_of X G (c.x.t.d.fact 25 rfl)
  ss_Format := of_decide_eq_true (exAt c.x.more 13 rfl)
  ne_Format := neB_ok (exAt c.x.more 14 rfl)
  F_size_of := funAt_of X G (c.x.t.d.def_ 18 rfl) (c.x.t.d.fact 45 rfl)
  F_integer_in := funAt_of X G (c.x.t.d.def_ 19 rfl) (c.x.t.d.fact 46 rfl)
  b_any := He.free_ok X G (c.x.t.d.fact 47 rfl)
  F_sign_of := funAt_of X G (c.x.t.d.def_ 20 rfl) (c.x.t.d.fact 48 rfl)
  F_setting_in := funAt_of X G (c.x.t.d.def_ 21 rfl) (c.x.t.d.fact 49 rfl)
  F_settings_in := funAt_of X G (c.x.t.d.def_ 22 rfl) (c.x.t.d.fact 50 rfl)
  b_tuple := He.free_ok X G (c.x.t.d.fact 51 rfl)
  b_list := He.free_ok X G (c.x.t.d.fact 52 rfl)
  F_format_of := funAt_of X G (c.x.t.d.def_ 23 rfl) (c.x.t.d.fact 53 rfl)
  S_Format_read := statAt_of (c.sm_ 0 rfl) (exAt c.x.more 15 rfl)
  F_l_bent := funAt_of X G (c.x.t.d.def_ 24 rfl) (c.x.t.d.fact 54 rfl)
  xf_InvalidText := xfB_ok (exAt c.x.more 16 rfl)
  xc_InvalidText := xcB_ok (exAt c.x.more 17 rfl)
  v_Unfit := refG_of X G (c.x.t.d.fact 55 rfl)
  b_ValueError := He.free_ok X G (c.x.t.d.fact 56 rfl)
  ex_InvalidText_InvalidText := He.exm_ok (c.x.t.d.fact 57 rfl)
  ki_InvalidText_Unfit := of_decide_eq_true (exAt c.x.more 18 rfl)
  ki_InvalidText_ValueError := of_decide_eq_true (exAt c.x.more 19 rfl)
  k_l_right := funC_of X G (c.x.t.d.def_ 25 rfl) (c.x.t.d.fact 58 rfl)
  b_range := He.free_ok X G (c.x.t.d.fact 59 rfl)
  F_l_ended := funAt_of X G (c.x.t.d.def_ 26 rfl) (c.x.t.d.fact 60 rfl)
  F_l_pot := funAt_of X G (c.x.t.d.def_ 27 rfl) (c.x.t.d.fact 61 rfl)
  b_abs := He.free_ok X G (c.x.t.d.fact 62 rfl)
  F_law := funAt_of X G (c.x.t.d.def_ 28 rfl) (c.x.t.d.fact 63 rfl)
  b_all := He.free_ok X G (c.x.t.d.fact 64 rfl)
  b_max := He.free_ok X G (c.x.t.d.fact 65 rfl)
  b_min := He.free_ok X G (c.x.t.d.fact 66 rfl)
end
section
open PySem PySem.Spec PyProof.Rows L2
variable [TQ]
theorem kit_self {K : PySem.W.Frag} {C : Addr} {b : Bool} (h : b = true := by exact decide_eq_true rfl) : PySem.W.kitOne K (.ref C) (.ref C) = some b := by
  subst h
  unfold PySem.W.kitOne
  rw [if_pos (by simp)]
def caOf (A : Ad) : Str → Option Addr := fun c => if c = "Format" then some A.cFormat else none
def ceOf (A : Ad) : Str → Option Addr := fun c => if c = "InvalidText" then some A.cInvalidText else if c = "InvalidSetting" then some A.cInvalidSetting else none
theorem caOf_cases {A : Ad} {c : Str} {C : Addr} (h : caOf A c = some C) : (c = "Format" ∧ C = A.cFormat) := by
  unfold caOf at h
  split at h
  · exact ⟨by assumption, (Option.some.inj h).symm⟩
  cases h
section
variable {w : World} {K : PySem.W.Frag} {mg : Str → Option Value} {A : Ad}
theorem cf_of (T : Txt w K mg A) : ClF K (caOf A) where
  cl := fun c C h => by
    rcases caOf_cases h with ⟨rfl, rfl⟩
    · exact T.cl_Format
  ins := fun c C h => by
    rcases caOf_cases h with ⟨rfl, rfl⟩
    · exact T.in_Format
  ty := fun c C n h hn => by
    simp only [List.mem_cons, List.not_mem_nil, or_false] at hn
    rcases caOf_cases h with ⟨rfl, rfl⟩
    · rcases hn with rfl | rfl | rfl | rfl | rfl | rfl
      · exact T.kn_Format_int
      · exact T.kn_Format_str
      · exact T.kn_Format_tuple
      · exact T.kn_Format_bool
      · exact T.kn_Format_list
      · exact T.kn_Format_dict
  own := fun c C c2 C2 h h2 => by
    rcases caOf_cases h with ⟨rfl, rfl⟩
    · rcases caOf_cases h2 with ⟨rfl, rfl⟩
      · exact kit_self
theorem nsub_Format (T : Txt w K mg A) : ∀ c' D, caOf A c' = some D → c' ≠ "Format" → PySem.W.subIn K (.ref D) (.ref A.cFormat) = some false := fun c' D h n => by
  rcases caOf_cases h with ⟨rfl, rfl⟩
  · exact absurd rfl n
end
section
variable {P : Program} {w : World} {K : PySem.W.Frag} {mg : Str → Option Value} {base : Heap} {A : Ad}
theorem r_InvalidText (T : Txt w K mg A) : Raiser P w K mg base "InvalidText" A.cInvalidText "value" :=
  raiser_of T.oe_InvalidText T.g_InvalidText T.I_InvalidTextdd_initdd T.nf_InvalidText sc_InvalidTextdd_initdd (fun _ _ _ _ _ _ us hl => match us, hl with | [_, _], _ => rfl) (fun X hs hN => pss_one (ps_ost (fv 0 (by rw [hN]; rfl) (by rw [hs]; exact Or.inl rfl)) (fv 1 (by rw [hN]; rfl) (by rw [hs]; exact Or.inl rfl))))
theorem r_InvalidSetting (T : Txt w K mg A) : Raiser P w K mg base "InvalidSetting" A.cInvalidSetting "setting" :=
  raiser_of T.oe_InvalidSetting T.g_InvalidSetting T.I_InvalidSettingdd_initdd T.nf_InvalidSetting sc_InvalidSettingdd_initdd (fun _ _ _ _ _ _ us hl => match us, hl with | [_, _], _ => rfl) (fun X hs hN => pss_one (ps_ost (fv 0 (by rw [hN]; rfl) (by rw [hs]; exact Or.inl rfl)) (fv 1 (by rw [hN]; rfl) (by rw [hs]; exact Or.inl rfl))))
end
end
section
open PySem PySem.Spec PyProof.Rows L2
variable [TQ]
section
variable {P : Program} {w : World} {K : PySem.W.Frag} {mg : Str → Option Value} {base : Heap} {A : Ad}
def b_is_sign : DEnv → M (DEnv × Fl) :=
  (seqS (retS (andE (oneM (isTyD "str") (rd 0)) (andE (binM eqD (callM lenD (consM (rd 0) nilM)) (cM (.int 1))) (binM (inSD false) (rd 0) (cM (.str " !\"#$&'()*+,-./0123456789:;<=>?@ABCDEFGHIJKLMNOPQRSTUVWXYZ[\\]^_`abcdefghijklmnopqrstuvwxyz{|}~")))))) skipS)
def f_is_sign : List D → M D := runD 1 b_is_sign
theorem ok_is_sign (T : Txt w K mg A) : Callee P w K mg base 1 "is_sign" ["value"] (spD K (caOf A) (ceOf A) 1 f_is_sign) :=
  have cf := cf_of T
  calleeD_of (b := b_is_sign) T.F_is_sign sc_is_sign rfl rfl (fun _ _ _ _ _ _ us hl => match us, hl with | [_], _ => rfl) (fun f cdv Ar outer s H Xs ρ E hr tk po =>
    (pssd_cons (psd_ret (pd_eand (pd_isTy (n := "str") rfl cf (by decide) (pd_varT 0) (pe_bltn (v := .ty "str") (by rfl) T.b_str (by decide +kernel) rfl) (by rfl) T.b_isinstance) (pd_eand (pd_cmp (mi := .tr) op_eq (o_eq (by decide)) (pd_callB (mi := .tr) f_len (c_len rfl (by decide)) (by rfl) T.b_len (by decide +kernel) (pad_cons (pd_varT 0) pad_nil)) pd_int (nomark _)) (pd_eone (pd_cmp (mi := .tr) f_inS (o_inS (by decide)) (pd_varT 0) (pd_g (d := (.str " !\"#$&'()*+,-./0123456789:;<=>?@ABCDEFGHIJKLMNOPQRSTUVWXYZ[\\]^_`abcdefghijklmnopqrstuvwxyz{|}~")) (by rfl) T.g_PRINT rfl) (by rfl))))))
      (pssd_nil (O := []) (O' := []))))
def b_is_integer : DEnv → M (DEnv × Fl) :=
  (seqS (retS (andE (oneM (isTyD "int") (rd 0)) (andE (binM notBlD (rd 0) (cM (.bl true))) (binM notBlD (rd 0) (cM (.bl false)))))) skipS)
def f_is_integer : List D → M D := runD 1 b_is_integer
theorem ok_is_integer (T : Txt w K mg A) : Callee P w K mg base 1 "is_integer" ["value"] (spD K (caOf A) (ceOf A) 1 f_is_integer) :=
  have cf := cf_of T
  calleeD_of (b := b_is_integer) T.F_is_integer sc_is_integer rfl rfl (fun _ _ _ _ _ _ us hl => match us, hl with | [_], _ => rfl) (fun f cdv Ar outer s H Xs ρ E hr tk po =>
    (pssd_cons (psd_ret (pd_eand (pd_isTy (n := "int") rfl cf (by decide) (pd_varT 0) (pe_bltn (v := .ty "int") (by rfl) T.b_int (by decide +kernel) rfl) (by rfl) T.b_isinstance) (pd_eand (pd_cmp (mi := .tr) op_notBl (o_notBl (by decide)) (pd_varT 0) pd_bl (nomark _)) (pd_eone (pd_cmp (mi := .tr) op_notBl (o_notBl (by decide)) (pd_varT 0) pd_bl (nomark _))))))
      (pssd_nil (O := []) (O' := []))))
def b_is_between : DEnv → M (DEnv × Fl) :=
  (seqS (retS (andE (callD 1 f_is_integer (consM (rd 0) nilM)) (chainD leD leD (rd 1) (rd 0) (rd 2)))) skipS)
def f_is_between : List D → M D := runD 3 b_is_between
theorem ok_is_between (T : Txt w K mg A) : Callee P w K mg base 2 "is_between" ["value", "low", "high"] (spD K (caOf A) (ceOf A) 3 f_is_between) :=
  have cf := cf_of T
  calleeD_of (b := b_is_between) T.F_is_between sc_is_between rfl rfl (fun _ _ _ _ _ _ us hl => match us, hl with | [_, _, _], _ => rfl) (fun f cdv Ar outer s H Xs ρ E hr tk po =>
    (pssd_cons (psd_ret (pd_eand (pd_wk (m := .fz) (pd_call (ok_is_integer T) hr (by decide) (by rfl) tk (pad_cons (pd_var 0) pad_nil))) (pd_eone (pd_chain f_le f_le (o_le (by decide)) (o_le (by decide)) (pd_varT 1) (pd_varT 0) (pd_varT 2)))))
      (pssd_nil (O := []) (O' := []))))
def b_is_setting : DEnv → M (DEnv × Fl) :=
  (seqS (ifS (tvM (binM (inQD false) (rd 0) (tupM (consM (cM (.str "mark")) (consM (cM (.str "fill")) nilM))))) (seqS (retS (callD 1 f_is_sign (consM (rd 1) nilM))) skipS) skipS) (seqS (ifS (tvM (binM eqD (rd 0) (cM (.str "sign")))) (seqS (retS (andE (oneM (isTyD "str") (rd 1)) (oneM (inKD [("minus", (.str "")), ("plus", (.str "+")), ("blank", (.str " "))]) (rd 1)))) skipS) skipS) (seqS (ifS (tvM (binM eqD (rd 0) (cM (.str "side")))) (seqS (retS (andE (oneM (isTyD "str") (rd 1)) (binM (inQD false) (rd 1) (cM (.tup [(.str "left"), (.str "right"), (.str "both"), (.str "inner")]))))) skipS) skipS) (seqS (ifS (tvM (binM eqD (rd 0) (cM (.str "base")))) (seqS (retS (callD 3 f_is_between (consM (rd 1) (consM (cM (.int 2)) (consM (callM lenD (consM (cM (.str "0123456789abcdef")) nilM)) nilM))))) skipS) skipS) (seqS (ifS (tvM (binM eqD (rd 0) (cM (.str "group")))) (seqS (retS (callD 3 f_is_between (consM (rd 1) (consM (cM (.int 0)) (consM (cM (.int 4)) nilM))))) skipS) skipS) (seqS (retS (callD 3 f_is_between (consM (rd 1) (consM (ifE (tvM (binM eqD (rd 0) (cM (.str "least")))) (cM (.int 1)) (cM (.int 0))) (consM (cM (.int 12)) nilM))))) skipS))))))
def f_is_setting : List D → M D := runD 2 b_is_setting
theorem ok_is_setting (T : Txt w K mg A) : Callee P w K mg base 3 "is_setting" ["setting", "value"] (spD K (caOf A) (ceOf A) 2 f_is_setting) :=
  have cf := cf_of T
  calleeD_of (b := b_is_setting) T.F_is_setting sc_is_setting rfl rfl (fun _ _ _ _ _ _ us hl => match us, hl with | [_, _], _ => rfl) (fun f cdv Ar outer s H Xs ρ E hr tk po =>
    (pssd_cons (psd_if (O := []) (O' := []) (pd_tcmp f_inQ (o_inQ rfl (by decide)) (pd_varT 0) (pd_tup (pad_cons pd_str (pad_cons pd_str pad_nil))) (by rfl))
      (pssd_cons (psd_ret (pd_wk (m := .fz) (pd_call (ok_is_sign T) hr (by decide) (by rfl) tk (pad_cons (pd_var 1) pad_nil))))
      (pssd_nil (O := []) (O' := [])))
      (pssd_nil (O := []) (O' := [])))
      (pssd_cons (psd_if (O := []) (O' := []) (pd_tcmp op_eq (o_eq (by decide)) (pd_varT 0) pd_str (nomark _))
      (pssd_cons (psd_ret (pd_eand (pd_isTy (n := "str") rfl cf (by decide) (pd_varT 1) (pe_bltn (v := .ty "str") (by rfl) T.b_str (by decide +kernel) rfl) (by rfl) T.b_isinstance) (pd_eone (pd_inK (kds := [("minus", (.str "")), ("plus", (.str "+")), ("blank", (.str " "))]) T.d_HEADS (by rfl) T.g_HEADS (pd_varT 1) (by rfl)))))
      (pssd_nil (O := []) (O' := [])))
      (pssd_nil (O := []) (O' := [])))
      (pssd_cons (psd_if (O := []) (O' := []) (pd_tcmp op_eq (o_eq (by decide)) (pd_varT 0) pd_str (nomark _))
      (pssd_cons (psd_ret (pd_eand (pd_isTy (n := "str") rfl cf (by decide) (pd_varT 1) (pe_bltn (v := .ty "str") (by rfl) T.b_str (by decide +kernel) rfl) (by rfl) T.b_isinstance) (pd_eone (pd_cmp (mi := .tr) f_inQ (o_inQ rfl (by decide)) (pd_varT 1) (pd_gT (ds := [.str "left", .str "right", .str "both", .str "inner"]) (by rfl) T.g_SIDES T.t_SIDES rfl) (by rfl)))))
      (pssd_nil (O := []) (O' := [])))
      (pssd_nil (O := []) (O' := [])))
      (pssd_cons (psd_if (O := []) (O' := []) (pd_tcmp op_eq (o_eq (by decide)) (pd_varT 0) pd_str (nomark _))
      (pssd_cons (psd_ret (pd_wk (m := .fz) (pd_call (ok_is_between T) hr (by decide) (by rfl) tk (pad_cons (pd_var 1) (pad_cons pd_int (pad_cons (pd_callB (mi := .tr) f_len (c_len rfl (by decide)) (by rfl) T.b_len (by decide +kernel) (pad_cons (pd_g (d := (.str "0123456789abcdef")) (by rfl) T.g_FIGURES rfl) pad_nil)) pad_nil))))))
      (pssd_nil (O := []) (O' := [])))
      (pssd_nil (O := []) (O' := [])))
      (pssd_cons (psd_if (O := []) (O' := []) (pd_tcmp op_eq (o_eq (by decide)) (pd_varT 0) pd_str (nomark _))
      (pssd_cons (psd_ret (pd_wk (m := .fz) (pd_call (ok_is_between T) hr (by decide) (by rfl) tk (pad_cons (pd_var 1) (pad_cons pd_int (pad_cons (pd_g (d := (.int 4)) (by rfl) T.g_MOST_GROUP rfl) pad_nil))))))
      (pssd_nil (O := []) (O' := [])))
      (pssd_nil (O := []) (O' := [])))
      (pssd_cons (psd_ret (pd_wk (m := .fz) (pd_call (ok_is_between T) hr (by decide) (by rfl) tk (pad_cons (pd_var 1) (pad_cons (pd_if (pd_tcmp op_eq (o_eq (by decide)) (pd_varT 0) pd_str (nomark _)) pd_int pd_int) (pad_cons (pd_g (d := (.int 12)) (by rfl) T.g_MOST_WIDTH rfl) pad_nil))))))
      (pssd_nil (O := []) (O' := [])))))))))
def b_code_of : DEnv → M (DEnv × Fl) :=
  (seqS (setS 1 (strM indexD (cM (.str " !\"#$&'()*+,-./0123456789:;<=>?@ABCDEFGHIJKLMNOPQRSTUVWXYZ[\\]^_`abcdefghijklmnopqrstuvwxyz{|}~")) (rd 0))) (seqS (retS (ifE (tvM (binM ltD (rd 1) (cM (.int 5)))) (binM addD (rd 1) (cM (.int 32))) (binM addD (rd 1) (cM (.int 33))))) skipS))
def f_code_of : List D → M D := runD 2 b_code_of
theorem ok_code_of (T : Txt w K mg A) : Callee P w K mg base 1 "code_of" ["sign"] (spD K (caOf A) (ceOf A) 1 f_code_of) :=
  have cf := cf_of T
  calleeD_of (b := b_code_of) T.F_code_of sc_code_of rfl rfl (fun _ _ _ _ _ _ us hl => match us, hl with | [_], _ => rfl) (fun f cdv Ar outer s H Xs ρ E hr tk po =>
    (pssd_cons (psd_set 1 (pd_sm1 (mi := .tr) PySem.F.slot_str_index PySem.F.type_str_index f_sindex (m_index (by decide)) (pd_g (d := (.str " !\"#$&'()*+,-./0123456789:;<=>?@ABCDEFGHIJKLMNOPQRSTUVWXYZ[\\]^_`abcdefghijklmnopqrstuvwxyz{|}~")) (by rfl) T.g_PRINT rfl) (pd_varT 0)) sc_code_of.nd)
      (pssd_cons (psd_ret (pd_if (pd_tcmp f_lt (o_lt (by decide)) (pd_varT 1) pd_int (nomark _)) (pd_op (mi := .tr) f_add (o_add rfl (by decide)) (pd_varT 1) pd_int) (pd_op (mi := .tr) f_add (o_add rfl (by decide)) (pd_varT 1) pd_int)))
      (pssd_nil (O := []) (O' := [])))))
def b_settings_text : DEnv → M (DEnv × Fl) :=
  (seqS (setS 1 (lstM nilM)) (seqS (forS (zipM2 (consM (cM (.tup [(.str "base"), (.str "sign"), (.str "least"), (.str "group"), (.str "mark"), (.str "width"), (.str "fill"), (.str "side")])) (consM (rd 0) nilM))) (tgT ((tgN 2) :: ((tgN 3) :: []))) (seqS (appS 1 (rd 2)) (seqS (appS 1 (ifE (tvM (binM (inQD false) (rd 2) (tupM (consM (cM (.str "mark")) (consM (cM (.str "fill")) nilM))))) (fmtM (callD 1 f_code_of (consM (rd 3) nilM))) (fmtM (rd 3)))) skipS))) (seqS (retS (strM joinD (cM (.str " ")) (rd 1))) skipS)))
def f_settings_text : List D → M D := runD 4 b_settings_text
theorem ok_settings_text (T : Txt w K mg A) : Callee P w K mg base 2 "settings_text" ["values"] (spD K (caOf A) (ceOf A) 1 f_settings_text) :=
  have cf := cf_of T
  calleeD_of (b := b_settings_text) T.F_settings_text sc_settings_text rfl rfl (fun _ _ _ _ _ _ us hl => match us, hl with | [_], _ => rfl) (fun f cdv Ar outer s H Xs ρ E hr tk po =>
    (pssd_cons (psd_new 1 (pd_lst pad_nil) sc_settings_text.nd)
      (pssd_cons (psd_forZ rfl po rfl (by rfl) T.b_zip (pad_cons (pd_gT (ds := [.str "base", .str "sign", .str "least", .str "group", .str "mark", .str "width", .str "fill", .str "side"]) (by rfl) T.g_SETTINGS T.t_SETTINGS rfl) (pad_cons (pd_var 0) pad_nil)) (pgd_tup rfl rfl (pgd_cons (pgd_name 2 sc_settings_text.nd) (pgd_cons (pgd_name 3 sc_settings_text.nd) pgd_nil)) rfl)
      (pssd_cons (psd_app 1 (pd_var 2))
      (pssd_cons (psd_app 1 (pd_if (pd_tcmp f_inQ (o_inQ rfl (by decide)) (pd_varT 2) (pd_tup (pad_cons pd_str (pad_cons pd_str pad_nil))) (by rfl)) (pd_fstr1 (pd_fmt (pd_wk (m := .fz) (pd_call (ok_code_of T) hr (by decide) (by rfl) tk (pad_cons (pd_var 3) pad_nil))))) (pd_fstr1 (pd_fmt (pd_varT 3)))))
      (pssd_nil (O := [1]) (O' := [1])))))
      (pssd_cons (psd_ret (pd_sm1 (mi := .tr) PySem.F.slot_str_join PySem.F.type_str_join f_join (m_join rfl (by decide)) pd_str (pd_varT 1)))
      (pssd_nil (O := []) (O' := []))))))
def b_Formatdd_initdd : DEnv → M (DEnv × Fl) :=
  (seqS (setS 9 (tupM (consM (rd 1) (consM (rd 2) (consM (rd 3) (consM (rd 4) (consM (rd 5) (consM (rd 6) (consM (rd 7) (consM (rd 8) nilM)))))))))) (seqS (forS (zipM2 (consM (cM (.tup [(.str "base"), (.str "sign"), (.str "least"), (.str "group"), (.str "mark"), (.str "width"), (.str "fill"), (.str "side")])) (consM (rd 9) nilM))) (tgT ((tgN 10) :: ((tgN 11) :: []))) (seqS (ifS (notM (tvM (callD 2 f_is_setting (consM (rd 10) (consM (rd 11) nilM))))) (seqS (raiseS "InvalidSetting" "setting" (rd 10)) skipS) skipS) skipS)) (seqS (fldS 0 "Format" "base" (rd 1)) (seqS (fldS 0 "Format" "sign" (rd 2)) (seqS (fldS 0 "Format" "least" (rd 3)) (seqS (fldS 0 "Format" "group" (rd 4)) (seqS (fldS 0 "Format" "mark" (rd 5)) (seqS (fldS 0 "Format" "width" (rd 6)) (seqS (fldS 0 "Format" "fill" (rd 7)) (seqS (fldS 0 "Format" "side" (rd 8)) (seqS (fldS 0 "Format" "words" (callD 1 f_settings_text (consM (rd 9) nilM))) skipS)))))))))))
def f_Formatdd_initdd : List D → M D := runI "Format" 12 b_Formatdd_initdd
theorem mk_Format (T : Txt w K mg A) : KMaker P w K mg base 4 "Format" A.cFormat "Format.__init__" s_Formatdd_initdd [("base", scV (.int 10)), ("sign", scV (.str "minus")), ("least", scV (.int 1)), ("group", scV (.int 0)), ("mark", scV (.str ",")), ("width", scV (.int 0)), ("fill", scV (.str " ")), ("side", scV (.str "left"))] ["self", "base", "sign", "least", "group", "mark", "width", "fill", "side"] (spI K (caOf A) (ceOf A) "Format" A.cFormat 9 f_Formatdd_initdd) :=
  have cf := cf_of T
  kmakerD_of (b := b_Formatdd_initdd) T.g_Format T.K_Format sc_Formatdd_initdd rfl rfl (fun f cdv Ar outer s H Hb Xs ρ E q hr tk po =>
    (pssd_cons (psd_set 9 (pd_tup (pad_cons (pd_var 1) (pad_cons (pd_var 2) (pad_cons (pd_var 3) (pad_cons (pd_var 4) (pad_cons (pd_var 5) (pad_cons (pd_var 6) (pad_cons (pd_var 7) (pad_cons (pd_var 8) pad_nil))))))))) sc_Formatdd_initdd.nd)
      (pssd_cons (psd_forZ rfl po rfl (by rfl) T.b_zip (pad_cons (pd_gT (ds := [.str "base", .str "sign", .str "least", .str "group", .str "mark", .str "width", .str "fill", .str "side"]) (by rfl) T.g_SETTINGS T.t_SETTINGS rfl) (pad_cons (pd_var 9) pad_nil)) (pgd_tup rfl rfl (pgd_cons (pgd_name 10 sc_Formatdd_initdd.nd) (pgd_cons (pgd_name 11 sc_Formatdd_initdd.nd) pgd_nil)) rfl)
      (pssd_cons (psd_if (O := [0]) (O' := [0]) (pd_tnot (pd_tval (pd_wk (m := .fz) (pd_call (ok_is_setting T) hr (by decide) (by rfl) tk (pad_cons (pd_var 10) (pad_cons (pd_var 11) pad_nil))))))
      (pssd_cons (psd_raise rfl (r_InvalidSetting T) rfl hr (by decide) tk (by rfl) (pd_varT 10))
      (pssd_nil (O := [0]) (O' := [0])))
      (pssd_nil (O := [0]) (O' := [0])))
      (pssd_nil (O := [0]) (O' := [0]))))
      (pssd_cons (psd_fld (c := "Format") 0 rfl T.cl_Format T.n_Format_base (pd_var 1))
      (pssd_cons (psd_fld (c := "Format") 0 rfl T.cl_Format T.n_Format_sign (pd_var 2))
      (pssd_cons (psd_fld (c := "Format") 0 rfl T.cl_Format T.n_Format_least (pd_var 3))
      (pssd_cons (psd_fld (c := "Format") 0 rfl T.cl_Format T.n_Format_group (pd_var 4))
      (pssd_cons (psd_fld (c := "Format") 0 rfl T.cl_Format T.n_Format_mark (pd_var 5))
      (pssd_cons (psd_fld (c := "Format") 0 rfl T.cl_Format T.n_Format_width (pd_var 6))
      (pssd_cons (psd_fld (c := "Format") 0 rfl T.cl_Format T.n_Format_fill (pd_var 7))
      (pssd_cons (psd_fld (c := "Format") 0 rfl T.cl_Format T.n_Format_side (pd_var 8))
      (pssd_cons (psd_fld (c := "Format") 0 rfl T.cl_Format T.n_Format_words (pd_call (ok_settings_text T) hr (by decide) (by rfl) tk (pad_cons (pd_var 9) pad_nil)))
      (pssd_nil (O := [0]) (O' := [0]))))))))))))))
def b_l_format : DEnv → M (DEnv × Fl) :=
  (seqS (retS (newKD [0, 1, 2, 3, 4, 5, 6, 7] [] 8 9 f_Formatdd_initdd (consM (binM dgetD (rd 0) (cM (.str "base"))) (consM (binM dgetD (rd 0) (cM (.str "sign"))) (consM (binM dgetD (rd 0) (cM (.str "least"))) (consM (binM dgetD (rd 0) (cM (.str "group"))) (consM (binM dgetD (rd 0) (cM (.str "mark"))) (consM (binM dgetD (rd 0) (cM (.str "width"))) (consM (binM dgetD (rd 0) (cM (.str "fill"))) (consM (binM dgetD (rd 0) (cM (.str "side"))) nilM)))))))))) skipS)
def f_l_format : List D → M D := runD 1 b_l_format
theorem ok_l_format (T : Txt w K mg A) : Callee P w K mg base 6 "_law_format" ["_law_shape_here"] (spD K (caOf A) (ceOf A) 1 f_l_format) :=
  have cf := cf_of T
  calleeD_of (b := b_l_format) T.F_l_format sc_l_format rfl rfl (fun _ _ _ _ _ _ us hl => match us, hl with | [_], _ => rfl) (fun f cdv Ar outer s H Xs ρ E hr tk po =>
    (pssd_cons (psd_ret (pd_wk (m := .nw) (pd_make (ks := ["base", "sign", "least", "group", "mark", "width", "fill", "side"]) (ms := []) [0, 1, 2, 3, 4, 5, 6, 7] [] rfl (mk_Format T) rfl rfl hr (by decide) (by rfl) tk (pkd_cons (pd_dget (hu_of hr) (pd_var 0) pd_str (fun _ _ => rfl)) (pkd_cons (pd_dget (hu_of hr) (pd_var 0) pd_str (fun _ _ => rfl)) (pkd_cons (pd_dget (hu_of hr) (pd_var 0) pd_str (fun _ _ => rfl)) (pkd_cons (pd_dget (hu_of hr) (pd_var 0) pd_str (fun _ _ => rfl)) (pkd_cons (pd_dget (hu_of hr) (pd_var 0) pd_str (fun _ _ => rfl)) (pkd_cons (pd_dget (hu_of hr) (pd_var 0) pd_str (fun _ _ => rfl)) (pkd_cons (pd_dget (hu_of hr) (pd_var 0) pd_str (fun _ _ => rfl)) (pkd_cons (pd_dget (hu_of hr) (pd_var 0) pd_str (fun _ _ => rfl)) pkd_nil)))))))) (by decide) (by decide) (fun _ _ _ _ _ _ us mv ws l1 l2 l3 => match us, mv, ws, l1, l2, l3 with | [_], [], [_, _, _, _, _, _, _, _], _, _, _ => rfl))))
      (pssd_nil (O := []) (O' := []))))
def b_l_spoon : DEnv → M (DEnv × Fl) :=
  (seqS (ifS (tvM (binM gtD (binM ixMD (rd 0) (cM (.int 0))) (cM (.int 0)))) (seqS (setS 2 (binM modD (callM intD (consM (binM ixMD (rd 0) (cM (.int 0))) nilM)) (rd 1))) (seqS (mputS 0 (cM (.int 0)) (binM fdivD (callM intD (consM (binM ixMD (rd 0) (cM (.int 0))) nilM)) (rd 1))) (seqS (retS (rd 2)) skipS))) skipS) (seqS (mputS 0 (cM (.int 1)) (binM modD (callM intD (consM (binM addD (binM addD (binM mulD (binM ixMD (rd 0) (cM (.int 1))) (cM (.int 1597))) (binM mulD (binM fdivD (binM ixMD (rd 0) (cM (.int 1))) (cM (.int 8191))) (cM (.int 29)))) (cM (.int 51749))) nilM)) (cM (.int 2038074743)))) (seqS (retS (binM modD (callM intD (consM (binM fdivD (binM ixMD (rd 0) (cM (.int 1))) (cM (.int 1021))) nilM)) (rd 1))) skipS)))
def f_l_spoon : List D → M D := runD 3 b_l_spoon
theorem ok_l_spoon (T : Txt w K mg A) : Callee P w K mg base 1 "_law_spoon" ["_law_pot_here", "_law_wide"] (spD K (caOf A) (ceOf A) 2 f_l_spoon) :=
  have cf := cf_of T
  calleeD_of (b := b_l_spoon) T.F_l_spoon sc_l_spoon rfl rfl (fun _ _ _ _ _ _ us hl => match us, hl with | [_, _], _ => rfl) (fun f cdv Ar outer s H Xs ρ E hr tk po =>
    (pssd_cons (psd_if (O := []) (O' := []) (pd_tcmp f_gt (o_gt (by decide)) (pd_ixM rfl (pd_varT 0) pd_int (fun _ _ => rfl)) pd_int (nomark _))
      (pssd_cons (psd_set 2 (pd_op (mi := .tr) f_mod (o_mod (by decide)) (pd_callTy (mi := .tr) f_int (c_int (by decide)) (by rfl) T.b_int (by decide +kernel) (pad_cons (pd_ixM rfl (pd_varT 0) pd_int (fun _ _ => rfl)) pad_nil)) (pd_varT 1)) sc_l_spoon.nd)
      (pssd_cons (psd_mput 0 pd_int (pd_op (mi := .tr) f_fdiv (o_fdiv (by decide)) (pd_callTy (mi := .tr) f_int (c_int (by decide)) (by rfl) T.b_int (by decide +kernel) (pad_cons (pd_ixM rfl (pd_varT 0) pd_int (fun _ _ => rfl)) pad_nil)) (pd_varT 1)))
      (pssd_cons (psd_ret (pd_varT 2))
      (pssd_nil (O := []) (O' := [])))))
      (pssd_nil (O := []) (O' := [])))
      (pssd_cons (psd_mput 0 pd_int (pd_op (mi := .tr) f_mod (o_mod (by decide)) (pd_callTy (mi := .tr) f_int (c_int (by decide)) (by rfl) T.b_int (by decide +kernel) (pad_cons (pd_op (mi := .tr) f_add (o_add rfl (by decide)) (pd_op (mi := .tr) f_add (o_add rfl (by decide)) (pd_op (mi := .tr) f_mul (o_mul (by decide)) (pd_ixM rfl (pd_varT 0) pd_int (fun _ _ => rfl)) pd_int) (pd_op (mi := .tr) f_mul (o_mul (by decide)) (pd_op (mi := .tr) f_fdiv (o_fdiv (by decide)) (pd_ixM rfl (pd_varT 0) pd_int (fun _ _ => rfl)) pd_int) pd_int)) pd_int) pad_nil)) pd_int))
      (pssd_cons (psd_ret (pd_op (mi := .tr) f_mod (o_mod (by decide)) (pd_callTy (mi := .tr) f_int (c_int (by decide)) (by rfl) T.b_int (by decide +kernel) (pad_cons (pd_op (mi := .tr) f_fdiv (o_fdiv (by decide)) (pd_ixM rfl (pd_varT 0) pd_int (fun _ _ => rfl)) pd_int) pad_nil)) (pd_varT 1)))
      (pssd_nil (O := []) (O' := []))))))
end
end
section
open PySem PySem.Spec PyProof.Rows L2
variable [TQ]
section
variable {P : Program} {w : World} {K : PySem.W.Frag} {mg : Str → Option Value} {base : Heap} {A : Ad}
def b_l_of : DEnv → M (DEnv × Fl) :=
  (seqS (retS (binM ixD (rd 1) (callD 2 f_l_spoon (consM (rd 0) (consM (callM lenD (consM (rd 1) nilM)) nilM))))) skipS)
def f_l_of : List D → M D := runD 2 b_l_of
theorem ok_l_of (T : Txt w K mg A) : Callee P w K mg base 2 "_law_of" ["_law_pot_here", "_law_things"] (spD K (caOf A) (ceOf A) 2 f_l_of) :=
  have cf := cf_of T
  calleeD_of (b := b_l_of) T.F_l_of sc_l_of rfl rfl (fun _ _ _ _ _ _ us hl => match us, hl with | [_, _], _ => rfl) (fun f cdv Ar outer s H Xs ρ E hr tk po =>
    (pssd_cons (psd_ret (pd_ix (mi := .tr) f_ix (o_ix rfl (by decide)) (pd_varT 1) (pd_wk (m := .fz) (pd_call (ok_l_spoon T) hr (by decide) (by rfl) tk (pad_cons (pd_var 0) (pad_cons (pd_callB (mi := .tr) f_len (c_len rfl (by decide)) (by rfl) T.b_len (by decide +kernel) (pad_cons (pd_varT 1) pad_nil)) pad_nil)))) (fun _ _ => rfl)))
      (pssd_nil (O := []) (O' := []))))
def b_l_signs : DEnv → M (DEnv × Fl) :=
  (seqS (retS (cM (.str " !\"#$&'()*+,-./0123456789:;<=>?@ABCDEFGHIJKLMNOPQRSTUVWXYZ[\\]^_`abcdefghijklmnopqrstuvwxyz{|}~"))) skipS)
def f_l_signs : List D → M D := runD 0 b_l_signs
theorem ok_l_signs (T : Txt w K mg A) : Callee P w K mg base 1 "_law_signs" [] (spD K (caOf A) (ceOf A) 0 f_l_signs) :=
  have cf := cf_of T
  calleeD_of (b := b_l_signs) T.F_l_signs sc_l_signs rfl rfl (fun _ _ _ _ _ _ us hl => match us, hl with | [], _ => rfl) (fun f cdv Ar outer s H Xs ρ E hr tk po =>
    (pssd_cons (psd_ret pd_str)
      (pssd_nil (O := []) (O' := []))))
def b_l_sign : DEnv → M (DEnv × Fl) :=
  (seqS (ifS (tvM (binM eqD (callD 2 f_l_spoon (consM (rd 0) (consM (cM (.int 2)) nilM))) (cM (.int 0)))) (seqS (retS (binM ixD (callD 0 f_l_signs nilM) (callD 2 f_l_spoon (consM (rd 0) (consM (cM (.int 94)) nilM))))) skipS) skipS) (seqS (retS (callD 2 f_l_of (consM (rd 0) (consM (lstM (consM (cM (.str " ")) (consM (cM (.str "0")) (consM (cM (.str "1")) (consM (cM (.str "-")) (consM (cM (.str "+")) (consM (cM (.str ",")) (consM (cM (.str ".")) (consM (cM (.str "9")) (consM (cM (.str "a")) (consM (cM (.str "*")) (consM (cM (.str "/")) (consM (cM (.str "5")) (consM (cM (.str "&")) (consM (cM (.str "~")) nilM))))))))))))))) nilM)))) skipS))
def f_l_sign : List D → M D := runD 1 b_l_sign
theorem ok_l_sign (T : Txt w K mg A) : Callee P w K mg base 3 "_law_sign" ["_law_pot_here"] (spD K (caOf A) (ceOf A) 1 f_l_sign) :=
  have cf := cf_of T
  calleeD_of (b := b_l_sign) T.F_l_sign sc_l_sign rfl rfl (fun _ _ _ _ _ _ us hl => match us, hl with | [_], _ => rfl) (fun f cdv Ar outer s H Xs ρ E hr tk po =>
    (pssd_cons (psd_if (O := []) (O' := []) (pd_tcmp op_eq (o_eq (by decide)) (pd_wk (m := .fz) (pd_call (ok_l_spoon T) hr (by decide) (by rfl) tk (pad_cons (pd_var 0) (pad_cons pd_int pad_nil)))) pd_int (nomark _))
      (pssd_cons (psd_ret (pd_ix (mi := .tr) f_ix (o_ix rfl (by decide)) (pd_wk (m := .fz) (pd_call0 (ok_l_signs T) hr (by decide) (by rfl) tk)) (pd_wk (m := .fz) (pd_call (ok_l_spoon T) hr (by decide) (by rfl) tk (pad_cons (pd_var 0) (pad_cons pd_int pad_nil)))) (fun _ _ => rfl)))
      (pssd_nil (O := []) (O' := [])))
      (pssd_nil (O := []) (O' := [])))
      (pssd_cons (psd_ret (pd_wk (m := .fz) (pd_call (ok_l_of T) hr (by decide) (by rfl) tk (pad_cons (pd_var 0) (pad_cons (pd_fz (pd_lst (pad_cons pd_str (pad_cons pd_str (pad_cons pd_str (pad_cons pd_str (pad_cons pd_str (pad_cons pd_str (pad_cons pd_str (pad_cons pd_str (pad_cons pd_str (pad_cons pd_str (pad_cons pd_str (pad_cons pd_str (pad_cons pd_str (pad_cons pd_str pad_nil)))))))))))))))) pad_nil)))))
      (pssd_nil (O := []) (O' := [])))))
def b_l_shape : DEnv → M (DEnv × Fl) :=
  (seqS (setS 1 (callD 2 f_l_spoon (consM (rd 0) (consM (cM (.int 3)) nilM)))) (seqS (setS 2 (dispM (((cM (.str "base")), (ifE (tvM (binM eqD (rd 1) (cM (.int 0)))) (binM addD (cM (.int 2)) (callD 2 f_l_spoon (consM (rd 0) (consM (cM (.int 15)) nilM)))) (callD 2 f_l_of (consM (rd 0) (consM (lstM (consM (cM (.int 10)) (consM (cM (.int 10)) (consM (cM (.int 10)) (consM (cM (.int 2)) (consM (cM (.int 3)) (consM (cM (.int 16)) nilM))))))) nilM))))) :: []))) (seqS (asgS (callD 2 f_l_of (consM (rd 0) (consM (lstM (consM (cM (.str "minus")) (consM (cM (.str "minus")) (consM (cM (.str "plus")) (consM (cM (.str "blank")) nilM))))) nilM))) (tgD 2 (cM (.str "sign")))) (seqS (asgS (ifE (tvM (binM eqD (rd 1) (cM (.int 1)))) (binM addD (cM (.int 1)) (callD 2 f_l_spoon (consM (rd 0) (consM (cM (.int 12)) nilM)))) (callD 2 f_l_of (consM (rd 0) (consM (lstM (consM (cM (.int 1)) (consM (cM (.int 1)) (consM (cM (.int 2)) (consM (cM (.int 3)) nilM))))) nilM)))) (tgD 2 (cM (.str "least")))) (seqS (asgS (tupM (consM (callD 2 f_l_of (consM (rd 0) (consM (lstM (consM (cM (.int 0)) (consM (cM (.int 0)) (consM (cM (.int 1)) (consM (cM (.int 2)) (consM (cM (.int 3)) (consM (cM (.int 4)) nilM))))))) nilM))) (consM (callD 1 f_l_sign (consM (rd 0) nilM)) nilM))) (tgT ((tgD 2 (cM (.str "group"))) :: ((tgD 2 (cM (.str "mark"))) :: [])))) (seqS (asgS (ifE (tvM (binM eqD (rd 1) (cM (.int 2)))) (callD 2 f_l_spoon (consM (rd 0) (consM (cM (.int 13)) nilM))) (callD 2 f_l_of (consM (rd 0) (consM (lstM (consM (cM (.int 0)) (consM (cM (.int 0)) (consM (cM (.int 2)) (consM (cM (.int 3)) (consM (cM (.int 4)) (consM (cM (.int 6)) nilM))))))) nilM)))) (tgD 2 (cM (.str "width")))) (seqS (asgS (tupM (consM (callD 1 f_l_sign (consM (rd 0) nilM)) (consM (callD 2 f_l_of (consM (rd 0) (consM (lstM (consM (cM (.str "left")) (consM (cM (.str "right")) (consM (cM (.str "both")) (consM (cM (.str "inner")) nilM))))) nilM))) nilM))) (tgT ((tgD 2 (cM (.str "fill"))) :: ((tgD 2 (cM (.str "side"))) :: [])))) (seqS (retS (rd 2)) skipS))))))))
def f_l_shape : List D → M D := runD 3 b_l_shape
theorem ok_l_shape (T : Txt w K mg A) : Callee P w K mg base 4 "_law_shape" ["_law_pot_here"] (spD K (caOf A) (ceOf A) 1 f_l_shape) :=
  have cf := cf_of T
  calleeD_of (b := b_l_shape) T.F_l_shape sc_l_shape rfl rfl (fun _ _ _ _ _ _ us hl => match us, hl with | [_], _ => rfl) (fun f cdv Ar outer s H Xs ρ E hr tk po =>
    (pssd_cons (psd_set 1 (pd_call (ok_l_spoon T) hr (by decide) (by rfl) tk (pad_cons (pd_var 0) (pad_cons pd_int pad_nil))) sc_l_shape.nd)
      (pssd_cons (psd_new 2 (pd_disp (pds_cons (fun _ => pd_str) (fun _ => (pd_if (pd_tcmp op_eq (o_eq (by decide)) (pd_varT 1) pd_int (nomark _)) (pd_op (mi := .fz) f_add (o_add rfl (by decide)) pd_int (pd_call (ok_l_spoon T) hr (by decide) (by rfl) takes0 (pad_cons (pd_var 0) (pad_cons pd_int pad_nil)))) (pd_call (ok_l_of T) hr (by decide) (by rfl) takes0 (pad_cons (pd_var 0) (pad_cons (pd_fz (pd_lst (pad_cons pd_int (pad_cons pd_int (pad_cons pd_int (pad_cons pd_int (pad_cons pd_int (pad_cons pd_int pad_nil)))))))) pad_nil))))) pds_nil) rfl rfl (by decide) (by decide)) sc_l_shape.nd)
      (pssd_cons (psd_asg (pd_call (ok_l_of T) hr (by decide) (by rfl) tk (pad_cons (pd_var 0) (pad_cons (pd_fz (pd_lst (pad_cons pd_str (pad_cons pd_str (pad_cons pd_str (pad_cons pd_str pad_nil)))))) pad_nil))) (pgd_dput 2 (hu_of hr) pd_str))
      (pssd_cons (psd_asg (pd_if (pd_tcmp op_eq (o_eq (by decide)) (pd_varT 1) pd_int (nomark _)) (pd_op (mi := .fz) f_add (o_add rfl (by decide)) pd_int (pd_call (ok_l_spoon T) hr (by decide) (by rfl) tk (pad_cons (pd_var 0) (pad_cons pd_int pad_nil)))) (pd_call (ok_l_of T) hr (by decide) (by rfl) tk (pad_cons (pd_var 0) (pad_cons (pd_fz (pd_lst (pad_cons pd_int (pad_cons pd_int (pad_cons pd_int (pad_cons pd_int pad_nil)))))) pad_nil)))) (pgd_dput 2 (hu_of hr) pd_str))
      (pssd_cons (psd_asg (pd_tup (pad_cons (pd_call (ok_l_of T) hr (by decide) (by rfl) tk (pad_cons (pd_var 0) (pad_cons (pd_fz (pd_lst (pad_cons pd_int (pad_cons pd_int (pad_cons pd_int (pad_cons pd_int (pad_cons pd_int (pad_cons pd_int pad_nil)))))))) pad_nil))) (pad_cons (pd_call (ok_l_sign T) hr (by decide) (by rfl) tk (pad_cons (pd_var 0) pad_nil)) pad_nil))) (pgd_tup rfl rfl (pgd_cons (pgd_dput 2 (hu_of hr) pd_str) (pgd_cons (pgd_dput 2 (hu_of hr) pd_str) pgd_nil)) rfl))
      (pssd_cons (psd_asg (pd_if (pd_tcmp op_eq (o_eq (by decide)) (pd_varT 1) pd_int (nomark _)) (pd_call (ok_l_spoon T) hr (by decide) (by rfl) tk (pad_cons (pd_var 0) (pad_cons pd_int pad_nil))) (pd_call (ok_l_of T) hr (by decide) (by rfl) tk (pad_cons (pd_var 0) (pad_cons (pd_fz (pd_lst (pad_cons pd_int (pad_cons pd_int (pad_cons pd_int (pad_cons pd_int (pad_cons pd_int (pad_cons pd_int pad_nil)))))))) pad_nil)))) (pgd_dput 2 (hu_of hr) pd_str))
      (pssd_cons (psd_asg (pd_tup (pad_cons (pd_call (ok_l_sign T) hr (by decide) (by rfl) tk (pad_cons (pd_var 0) pad_nil)) (pad_cons (pd_call (ok_l_of T) hr (by decide) (by rfl) tk (pad_cons (pd_var 0) (pad_cons (pd_fz (pd_lst (pad_cons pd_str (pad_cons pd_str (pad_cons pd_str (pad_cons pd_str pad_nil)))))) pad_nil))) pad_nil))) (pgd_tup rfl rfl (pgd_cons (pgd_dput 2 (hu_of hr) pd_str) (pgd_cons (pgd_dput 2 (hu_of hr) pd_str) pgd_nil)) rfl))
      (pssd_cons (psd_ret (pd_varT 2))
      (pssd_nil (O := []) (O' := [])))))))))))
def b_Formatdd_strdd : DEnv → M (DEnv × Fl) :=
  (seqS (retS (fmtM (oneM (fldD "Format" "words") (rd 0)))) skipS)
def f_Formatdd_strdd : List D → M D := runD 1 b_Formatdd_strdd
theorem ok_Formatdd_strdd (T : Txt w K mg A) : MCallee P w K mg base 1 A.cFormat "__str__" ["self"] (spD K (caOf A) (ceOf A) 1 f_Formatdd_strdd) :=
  have cf := cf_of T
  mcalleeD_of (b := b_Formatdd_strdd) T.cl_Format T.M_Formatdd_strdd sc_Formatdd_strdd rfl rfl (fun _ _ _ _ _ _ us hl => match us, hl with | [_], _ => rfl) (fun f cdv Ar outer s H Xs ρ E hr tk po =>
    (pssd_cons (psd_ret (pd_fstr1 (pd_fmt (pd_fld (c := "Format") rfl T.cl_Format T.n_Format_words (pd_varT 0)))))
      (pssd_nil (O := []) (O' := []))))
def b_Format_settings : DEnv → M (DEnv × Fl) :=
  (seqS (retS (tupM (consM (oneM (fldD "Format" "base") (rd 0)) (consM (oneM (fldD "Format" "sign") (rd 0)) (consM (oneM (fldD "Format" "least") (rd 0)) (consM (oneM (fldD "Format" "group") (rd 0)) (consM (oneM (fldD "Format" "mark") (rd 0)) (consM (oneM (fldD "Format" "width") (rd 0)) (consM (oneM (fldD "Format" "fill") (rd 0)) (consM (oneM (fldD "Format" "side") (rd 0)) nilM)))))))))) skipS)
def f_Format_settings : List D → M D := runD 1 b_Format_settings
theorem ok_Format_settings (T : Txt w K mg A) : MCallee P w K mg base 1 A.cFormat "settings" ["self"] (spD K (caOf A) (ceOf A) 1 f_Format_settings) :=
  have cf := cf_of T
  mcalleeD_of (b := b_Format_settings) T.cl_Format T.M_Format_settings sc_Format_settings rfl rfl (fun _ _ _ _ _ _ us hl => match us, hl with | [_], _ => rfl) (fun f cdv Ar outer s H Xs ρ E hr tk po =>
    (pssd_cons (psd_ret (pd_tup (pad_cons (pd_fld (c := "Format") rfl T.cl_Format T.n_Format_base (pd_varT 0)) (pad_cons (pd_fld (c := "Format") rfl T.cl_Format T.n_Format_sign (pd_varT 0)) (pad_cons (pd_fld (c := "Format") rfl T.cl_Format T.n_Format_least (pd_varT 0)) (pad_cons (pd_fld (c := "Format") rfl T.cl_Format T.n_Format_group (pd_varT 0)) (pad_cons (pd_fld (c := "Format") rfl T.cl_Format T.n_Format_mark (pd_varT 0)) (pad_cons (pd_fld (c := "Format") rfl T.cl_Format T.n_Format_width (pd_varT 0)) (pad_cons (pd_fld (c := "Format") rfl T.cl_Format T.n_Format_fill (pd_varT 0)) (pad_cons (pd_fld (c := "Format") rfl T.cl_Format T.n_Format_side (pd_varT 0)) pad_nil))))))))))
      (pssd_nil (O := []) (O' := []))))
def b_Formatdd_eqdd : DEnv → M (DEnv × Fl) :=
  (seqS (retS (andE (oneM (isCD "Format") (rd 1)) (binM (eqBD false) (methD "Format" "settings" 1 f_Format_settings (rd 0) nilM) (methD "Format" "settings" 1 f_Format_settings (rd 1) nilM)))) skipS)
def f_Formatdd_eqdd : List D → M D := runD 2 b_Formatdd_eqdd
theorem ok_Formatdd_eqdd (T : Txt w K mg A) : MCallee P w K mg base 2 A.cFormat "__eq__" ["self", "other"] (spD K (caOf A) (ceOf A) 2 f_Formatdd_eqdd) :=
  have cf := cf_of T
  mcalleeD_of (b := b_Formatdd_eqdd) T.cl_Format T.M_Formatdd_eqdd sc_Formatdd_eqdd rfl rfl (fun _ _ _ _ _ _ us hl => match us, hl with | [_, _], _ => rfl) (fun f cdv Ar outer s H Xs ρ E hr tk po =>
    (pssd_cons (psd_ret (pd_eand (pd_isC (n := "Format") rfl cf rfl T.i_Format (pd_varT 1) (fe_g (by rfl) T.v_Format) (by rfl) T.b_isinstance) (pd_eone (pd_cmp (mi := .tr) (f_eqB hr.units) (o_eqB rfl (by decide)) (pd_wk (m := .fz) (pd_meth0 (c := "Format") rfl (ok_Format_settings T) hr (by decide) tk (pd_var 0))) (pd_wk (m := .fz) (pd_meth0 (c := "Format") rfl (ok_Format_settings T) hr (by decide) tk (pd_var 1))) (nomark _)))))
      (pssd_nil (O := []) (O' := []))))
theorem frm_Format (x : D) : Free (f_Format_settings [x]) := Free.run (Free.seq1 (Free.tup (Free.cons (Free.one Free.rd fun _ => Free.fld) (Free.cons (Free.one Free.rd fun _ => Free.fld) (Free.cons (Free.one Free.rd fun _ => Free.fld) (Free.cons (Free.one Free.rd fun _ => Free.fld) (Free.cons (Free.one Free.rd fun _ => Free.fld) (Free.cons (Free.one Free.rd fun _ => Free.fld) (Free.cons (Free.one Free.rd fun _ => Free.fld) (Free.cons (Free.one Free.rd fun _ => Free.fld) Free.nil))))))))))
theorem fre_Format (x y : D) : Free (f_Formatdd_eqdd [x, y]) := Free.run (Free.seq1 (Free.and (Free.one Free.rd fun _ => Free.isC) (Free.bin (Free.meth0 Free.rd frm_Format) (Free.meth0 Free.rd frm_Format) fun _ _ => Free.eqB)))
theorem fes_Format (fs : List (Str × D)) (b : Bool) (e : ev2 f_Formatdd_eqdd (.obj "Format" fs) (.obj "Format" fs) = some b) : b = true := eq_self (c := "Format") (x := .obj "Format" fs) frm_Format (fun _ _ _ _ h => eqB_self h) (show decide (("Format" : Str) = "Format") = true from decide_eq_true rfl) e
theorem eo_Format (T : Txt w K mg A) : EqOwn P w K mg base (caOf A) (ceOf A) 2 "Format" (ev2 f_Formatdd_eqdd) := ⟨A.cFormat, _, _, rfl, ok_Formatdd_eqdd T, nsub_Format T, fun fs y b e S => ev2_at (fre_Format _ _) e S, fes_Format⟩
def eqE_Format : Str → D → D → Option Bool := fun c => if c = "Format" then ev2 f_Formatdd_eqdd else fun _ _ => none
theorem hE_Format (T : Txt w K mg A) : ∀ c, (∀ x y, eqE_Format c x y = none) ∨ EqOwn P w K mg base (caOf A) (ceOf A) 2 c (eqE_Format c) := fun c => by
  unfold eqE_Format
  split
  · rename_i z; subst z; exact .inr ((eo_Format T).up (by decide))
  exact .inl fun _ _ => rfl
theorem subS_Format (T : Txt w K mg A) : ∀ c D, caOf A c = some D → (∃ x y b, eqE_Format c x y = some b) → PySem.W.subIn K (.ref D) (.type "str") = some false := fun c D h hx => by
  obtain ⟨x, y, b, e⟩ := hx
  unfold eqE_Format at e
  split at e
  · rename_i z; subst z; cases (show caOf A "Format" = some A.cFormat from rfl).symm.trans h; exact T.ss_Format
  cases e
def b_size_of : DEnv → M (DEnv × Fl) :=
  (seqS (setS 2 (cM (.int 0))) (seqS (forS (oneM itL (rd 0)) (tgN 3) (seqS (setS 2 (binM addD (binM mulD (rd 2) (rd 1)) (rd 3))) skipS)) (seqS (retS (rd 2)) skipS)))
def f_size_of : List D → M D := runD 4 b_size_of
theorem ok_size_of (T : Txt w K mg A) : Callee P w K mg base 1 "size_of" ["figures", "base"] (spD K (caOf A) (ceOf A) 2 f_size_of) :=
  have cf := cf_of T
  calleeD_of (b := b_size_of) T.F_size_of sc_size_of rfl rfl (fun _ _ _ _ _ _ us hl => match us, hl with | [_, _], _ => rfl) (fun f cdv Ar outer s H Xs ρ E hr tk po =>
    (pssd_cons (psd_set 2 pd_int sc_size_of.nd)
      (pssd_cons (psd_for po rfl (pid_L rfl (pd_var 0)) (pgd_name 3 sc_size_of.nd)
      (pssd_cons (psd_set 2 (pd_op (mi := .fz) f_add (o_add rfl (by decide)) (pd_op (mi := .tr) f_mul (o_mul (by decide)) (pd_varT 2) (pd_varT 1)) (pd_var 3)) sc_size_of.nd)
      (pssd_nil (O := []) (O' := []))))
      (pssd_cons (psd_ret (pd_varT 2))
      (pssd_nil (O := []) (O' := []))))))
def b_integer_in : DEnv → M (DEnv × Fl) :=
  (seqS (setS 1 (ifE (tvM (binM eqD (sliceM slSD (rd 0) noPM (somePM (cM (.int 1)))) (cM (.str "-")))) (sliceM slSD (rd 0) (somePM (cM (.int 1))) noPM) (rd 0))) (seqS (ifS (orM (tvM (binM eqD (rd 1) (cM (.str "")))) (tvM (callM anyD (consM (lcD [3] (oneM itS (rd 1)) (tgN 3) yesM (binM (inSD true) (rd 3) (sliceM slSD (cM (.str "0123456789abcdef")) noPM (somePM (cM (.int 10)))))) nilM)))) (seqS (retS (cM .non)) skipS) skipS) (seqS (ifS (andM (tvM (binM eqD (binM ixD (rd 1) (cM (.int 0))) (cM (.str "0")))) (tvM (binM neD (rd 0) (cM (.str "0"))))) (seqS (retS (cM .non)) skipS) skipS) (seqS (setS 2 (callD 2 f_size_of (consM (lcD [3] (oneM itS (rd 1)) (tgN 3) yesM (strM indexD (cM (.str "0123456789abcdef")) (rd 3))) (consM (cM (.int 10)) nilM)))) (seqS (retS (ifE (tvM (binM eqD (rd 1) (rd 0))) (rd 2) (oneM negD (rd 2)))) skipS)))))
def f_integer_in : List D → M D := runD 4 b_integer_in
theorem ok_integer_in (T : Txt w K mg A) : Callee P w K mg base 2 "integer_in" ["word"] (spD K (caOf A) (ceOf A) 1 f_integer_in) :=
  have cf := cf_of T
  calleeD_of (b := b_integer_in) T.F_integer_in sc_integer_in rfl rfl (fun _ _ _ _ _ _ us hl => match us, hl with | [_], _ => rfl) (fun f cdv Ar outer s H Xs ρ E hr tk po =>
    (pssd_cons (psd_set 1 (pd_if (pd_tcmp op_eq (o_eq (by decide)) (pd_slice (mi := .tr) f_slS (s_slS (by decide)) (pd_varT 0) pod_none (pod_some pd_int)) pd_str (nomark _)) (pd_slice (mi := .tr) f_slS (s_slS (by decide)) (pd_varT 0) (pod_some pd_int) pod_none) (pd_var 0)) sc_integer_in.nd)
      (pssd_cons (psd_if (O := []) (O' := []) (PW.pt (pd_or (pd_tcmp op_eq (o_eq (by decide)) (pd_varT 1) pd_str (nomark _)) (pd_or1 (pd_tval (pd_callB (mi := .tr) (f_any rfl) (c_any rfl (by decide)) (by rfl) T.b_any (by decide +kernel) (pad_cons (pd_wk (m := .nw) (pd_lc (own := [("sign", 3)]) (by rfl) sc_integer_in.nd (pid_S (pd_varT 1)) (blkOk_by (own := [("sign", 3)]) (N := ["word", "body", "size", "sign"]) (sc := defScope s_integer_in) (by decide +kernel)) (by decide) (fun _ _ _ _ _ _ => (pgc_name 3 sc_integer_in.nd)) (fun _ _ _ _ _ _ => ptsd_nil) (fun _ _ _ _ _ _ => (pd_cmp (mi := .tr) f_notInS (o_inS (by decide)) (pd_varT 3) (pd_slice (mi := .tr) f_slS (s_slS (by decide)) (pd_g (d := (.str "0123456789abcdef")) (by rfl) T.g_FIGURES rfl) pod_none (pod_some pd_int)) (by rfl))))) pad_nil))))))
      (pssd_cons (psd_ret pd_non)
      (pssd_nil (O := []) (O' := [])))
      (pssd_nil (O := []) (O' := [])))
      (pssd_cons (psd_if (O := []) (O' := []) (PW.pt (pd_and (pd_tcmp op_eq (o_eq (by decide)) (pd_ix (mi := .tr) f_ix (o_ix rfl (by decide)) (pd_varT 1) pd_int (fun _ _ => rfl)) pd_str (nomark _)) (pd_and1 (pd_tcmp op_ne (o_ne (by decide)) (pd_varT 0) pd_str (nomark _)))))
      (pssd_cons (psd_ret pd_non)
      (pssd_nil (O := []) (O' := [])))
      (pssd_nil (O := []) (O' := [])))
      (pssd_cons (psd_set 2 (pd_call (ok_size_of T) hr (by decide) (by rfl) tk (pad_cons (pd_fz (pd_lc (own := [("sign", 3)]) (by rfl) sc_integer_in.nd (pid_S (pd_varT 1)) (blkOk_by (own := [("sign", 3)]) (N := ["word", "body", "size", "sign"]) (sc := defScope s_integer_in) (by decide +kernel)) (by decide) (fun _ _ _ _ _ _ => (pgc_name 3 sc_integer_in.nd)) (fun _ _ _ _ _ _ => ptsd_nil) (fun _ _ _ _ _ _ => (pd_sm1 (mi := .tr) PySem.F.slot_str_index PySem.F.type_str_index f_sindex (m_index (by decide)) (pd_g (d := (.str "0123456789abcdef")) (by rfl) T.g_FIGURES rfl) (pd_varT 3))))) (pad_cons pd_int pad_nil))) sc_integer_in.nd)
      (pssd_cons (psd_ret (pd_if (pd_tcmp op_eq (o_eq (by decide)) (pd_varT 1) (pd_varT 0) (nomark _)) (pd_varT 2) (pd_neg (pd_varT 2))))
      (pssd_nil (O := []) (O' := []))))))))
end
end
section
open PySem PySem.Spec PyProof.Rows L2
variable [TQ]
section
variable {P : Program} {w : World} {K : PySem.W.Frag} {mg : Str → Option Value} {base : Heap} {A : Ad}
def b_sign_of : DEnv → M (DEnv × Fl) :=
  (seqS (ifS (orM (notM (tvM (chainD leD leD (cM (.int 32)) (rd 0) (cM (.int 126))))) (tvM (binM eqD (rd 0) (cM (.int 37))))) (seqS (retS (cM .non)) skipS) skipS) (seqS (retS (ifE (tvM (binM ltD (rd 0) (cM (.int 37)))) (binM ixD (cM (.str " !\"#$&'()*+,-./0123456789:;<=>?@ABCDEFGHIJKLMNOPQRSTUVWXYZ[\\]^_`abcdefghijklmnopqrstuvwxyz{|}~")) (binM subD (rd 0) (cM (.int 32)))) (binM ixD (cM (.str " !\"#$&'()*+,-./0123456789:;<=>?@ABCDEFGHIJKLMNOPQRSTUVWXYZ[\\]^_`abcdefghijklmnopqrstuvwxyz{|}~")) (binM subD (rd 0) (cM (.int 33)))))) skipS))
def f_sign_of : List D → M D := runD 1 b_sign_of
theorem ok_sign_of (T : Txt w K mg A) : Callee P w K mg base 1 "sign_of" ["code"] (spD K (caOf A) (ceOf A) 1 f_sign_of) :=
  have cf := cf_of T
  calleeD_of (b := b_sign_of) T.F_sign_of sc_sign_of rfl rfl (fun _ _ _ _ _ _ us hl => match us, hl with | [_], _ => rfl) (fun f cdv Ar outer s H Xs ρ E hr tk po =>
    (pssd_cons (psd_if (O := []) (O' := []) (PW.pt (pd_or (pd_tnot (pd_tchain f_le f_le (o_le (by decide)) (o_le (by decide)) pd_int (pd_varT 0) pd_int)) (pd_or1 (pd_tcmp op_eq (o_eq (by decide)) (pd_varT 0) pd_int (nomark _)))))
      (pssd_cons (psd_ret pd_non)
      (pssd_nil (O := []) (O' := [])))
      (pssd_nil (O := []) (O' := [])))
      (pssd_cons (psd_ret (pd_if (pd_tcmp f_lt (o_lt (by decide)) (pd_varT 0) pd_int (nomark _)) (pd_ix (mi := .tr) f_ix (o_ix rfl (by decide)) (pd_g (d := (.str " !\"#$&'()*+,-./0123456789:;<=>?@ABCDEFGHIJKLMNOPQRSTUVWXYZ[\\]^_`abcdefghijklmnopqrstuvwxyz{|}~")) (by rfl) T.g_PRINT rfl) (pd_op (mi := .tr) f_sub (o_sub (by decide)) (pd_varT 0) pd_int) (fun _ _ => rfl)) (pd_ix (mi := .tr) f_ix (o_ix rfl (by decide)) (pd_g (d := (.str " !\"#$&'()*+,-./0123456789:;<=>?@ABCDEFGHIJKLMNOPQRSTUVWXYZ[\\]^_`abcdefghijklmnopqrstuvwxyz{|}~")) (by rfl) T.g_PRINT rfl) (pd_op (mi := .tr) f_sub (o_sub (by decide)) (pd_varT 0) pd_int) (fun _ _ => rfl))))
      (pssd_nil (O := []) (O' := [])))))
def b_setting_in : DEnv → M (DEnv × Fl) :=
  (seqS (ifS (tvM (binM (inQD false) (rd 0) (tupM (consM (cM (.str "sign")) (consM (cM (.str "side")) nilM))))) (seqS (retS (ifE (tvM (callD 2 f_is_setting (consM (rd 0) (consM (rd 1) nilM)))) (rd 1) (cM .non))) skipS) skipS) (seqS (setS 2 (callD 1 f_integer_in (consM (rd 1) nilM))) (seqS (ifS (andM (tvM (binM (isNonD true) (rd 2) (cM .non))) (tvM (binM (inQD false) (rd 0) (tupM (consM (cM (.str "mark")) (consM (cM (.str "fill")) nilM)))))) (seqS (setS 2 (callD 1 f_sign_of (consM (rd 2) nilM))) skipS) skipS) (seqS (retS (ifE (andM (tvM (binM (isNonD true) (rd 2) (cM .non))) (tvM (callD 2 f_is_setting (consM (rd 0) (consM (rd 2) nilM))))) (rd 2) (cM .non))) skipS))))
def f_setting_in : List D → M D := runD 3 b_setting_in
theorem ok_setting_in (T : Txt w K mg A) : Callee P w K mg base 4 "setting_in" ["setting", "word"] (spD K (caOf A) (ceOf A) 2 f_setting_in) :=
  have cf := cf_of T
  calleeD_of (b := b_setting_in) T.F_setting_in sc_setting_in rfl rfl (fun _ _ _ _ _ _ us hl => match us, hl with | [_, _], _ => rfl) (fun f cdv Ar outer s H Xs ρ E hr tk po =>
    (pssd_cons (psd_if (O := []) (O' := []) (pd_tcmp f_inQ (o_inQ rfl (by decide)) (pd_varT 0) (pd_tup (pad_cons pd_str (pad_cons pd_str pad_nil))) (by rfl))
      (pssd_cons (psd_ret (pd_if (pd_tval (pd_wk (m := .fz) (pd_call (ok_is_setting T) hr (by decide) (by rfl) tk (pad_cons (pd_var 0) (pad_cons (pd_var 1) pad_nil))))) (pd_varT 1) pd_non))
      (pssd_nil (O := []) (O' := [])))
      (pssd_nil (O := []) (O' := [])))
      (pssd_cons (psd_set 2 (pd_call (ok_integer_in T) hr (by decide) (by rfl) tk (pad_cons (pd_var 1) pad_nil)) sc_setting_in.nd)
      (pssd_cons (psd_if (O := []) (O' := []) (PW.pt (pd_and (pd_tcmp f_notN (o_isN (by decide)) (pd_varT 2) pd_non (nomark _)) (pd_and1 (pd_tcmp f_inQ (o_inQ rfl (by decide)) (pd_varT 0) (pd_tup (pad_cons pd_str (pad_cons pd_str pad_nil))) (by rfl)))))
      (pssd_cons (psd_set 2 (pd_call (ok_sign_of T) hr (by decide) (by rfl) tk (pad_cons (pd_var 2) pad_nil)) sc_setting_in.nd)
      (pssd_nil (O := []) (O' := [])))
      (pssd_nil (O := []) (O' := [])))
      (pssd_cons (psd_ret (pd_if (PW.pt (pd_and (pd_tcmp f_notN (o_isN (by decide)) (pd_varT 2) pd_non (nomark _)) (pd_and1 (pd_tval (pd_wk (m := .fz) (pd_call (ok_is_setting T) hr (by decide) (by rfl) tk (pad_cons (pd_var 0) (pad_cons (pd_var 2) pad_nil)))))))) (pd_varT 2) pd_non))
      (pssd_nil (O := []) (O' := [])))))))
def b_settings_in : DEnv → M (DEnv × Fl) :=
  (seqS (setS 1 (strM splitD (rd 0) (cM (.str " ")))) (seqS (ifS (orM (tvM (binM neD (callM lenD (consM (rd 1) nilM)) (binM mulD (cM (.int 2)) (callM lenD (consM (cM (.tup [(.str "base"), (.str "sign"), (.str "least"), (.str "group"), (.str "mark"), (.str "width"), (.str "fill"), (.str "side")])) nilM))))) (tvM (binM (eqBD true) (callM tupleD (consM (oneM (stepD evenI) (rd 1)) nilM)) (cM (.tup [(.str "base"), (.str "sign"), (.str "least"), (.str "group"), (.str "mark"), (.str "width"), (.str "fill"), (.str "side")]))))) (seqS (retS (cM .non)) skipS) skipS) (seqS (setS 2 (dcZD [3, 4] (consM (cM (.tup [(.str "base"), (.str "sign"), (.str "least"), (.str "group"), (.str "mark"), (.str "width"), (.str "fill"), (.str "side")])) (consM (oneM (stepD oddI) (rd 1)) nilM)) (tgT ((tgN 3) :: ((tgN 4) :: []))) (rd 3) (callD 2 f_setting_in (consM (rd 3) (consM (rd 4) nilM))))) (seqS (retS (ifE (tvM (binM (inQD false) (cM .non) (oneM valsD (rd 2)))) (cM .non) (rd 2))) skipS))))
def f_settings_in : List D → M D := runD 5 b_settings_in
theorem ok_settings_in (T : Txt w K mg A) : Callee P w K mg base 5 "settings_in" ["text"] (spD K (caOf A) (ceOf A) 1 f_settings_in) :=
  have cf := cf_of T
  calleeD_of (b := b_settings_in) T.F_settings_in sc_settings_in rfl rfl (fun _ _ _ _ _ _ us hl => match us, hl with | [_], _ => rfl) (fun f cdv Ar outer s H Xs ρ E hr tk po =>
    (pssd_cons (psd_set 1 (pd_sm1 (mi := .fz) PySem.F.slot_str_split PySem.F.type_str_split f_split (m_split (by decide)) (pd_var 0) pd_str) sc_settings_in.nd)
      (pssd_cons (psd_if (O := []) (O' := []) (PW.pt (pd_or (pd_tcmp op_ne (o_ne (by decide)) (pd_callB (mi := .tr) f_len (c_len rfl (by decide)) (by rfl) T.b_len (by decide +kernel) (pad_cons (pd_varT 1) pad_nil)) (pd_op (mi := .tr) f_mul (o_mul (by decide)) pd_int (pd_callB (mi := .tr) f_len (c_len rfl (by decide)) (by rfl) T.b_len (by decide +kernel) (pad_cons (pd_gT (ds := [.str "base", .str "sign", .str "least", .str "group", .str "mark", .str "width", .str "fill", .str "side"]) (by rfl) T.g_SETTINGS T.t_SETTINGS rfl) pad_nil))) (nomark _)) (pd_or1 (pd_tcmp (f_neB hr.units) (o_eqB rfl (by decide)) (pd_callTy (mi := .tr) f_tuple (c_tuple rfl (by decide)) (by rfl) T.b_tuple (by decide +kernel) (pad_cons (pd_even (m := .tr) rfl (pd_varT 1)) pad_nil)) (pd_gT (ds := [.str "base", .str "sign", .str "least", .str "group", .str "mark", .str "width", .str "fill", .str "side"]) (by rfl) T.g_SETTINGS T.t_SETTINGS rfl) (nomark _)))))
      (pssd_cons (psd_ret pd_non)
      (pssd_nil (O := []) (O' := [])))
      (pssd_nil (O := []) (O' := [])))
      (pssd_cons (psd_setDcZ (i := 2) (own := [("setting", 3), ("word", 4)]) rfl (by rfl) sc_settings_in.nd rfl rfl (sw_dict rfl rfl rfl (by decide +kernel)) (by rfl) T.b_zip (pad_cons (pd_gT (ds := [.str "base", .str "sign", .str "least", .str "group", .str "mark", .str "width", .str "fill", .str "side"]) (by rfl) T.g_SETTINGS T.t_SETTINGS rfl) (pad_cons (pd_odd (m := .fz) rfl (pd_var 1)) pad_nil)) (blkOk_by (own := [("setting", 3), ("word", 4)]) (N := ["text", "words", "table", "setting", "word"]) (sc := defScope s_settings_in) (by decide +kernel)) (by decide) (by decide) (fun _ _ _ _ _ _ => (pgc_tup rfl (by rfl) (pgc_cons (pgc_name 3 sc_settings_in.nd) (pgc_cons (pgc_name 4 sc_settings_in.nd) pgc_nil)) rfl)) (fun _ _ _ _ _ _ => (pd_var 3)) (fun _ _ _ _ _ _ => (pd_call (ok_setting_in T) hr (by decide) (by rfl) takes0 (pad_cons (pd_var 3) (pad_cons (pd_var 4) pad_nil)))))
      (pssd_cons (psd_ret (pd_if (pd_tcmp f_inQ (o_inQ rfl (by decide)) pd_non (pd_listVals (m := .tr) rfl (pd_varT 2) (by rfl) T.b_list) (by rfl)) pd_non (pd_varT 2)))
      (pssd_nil (O := []) (O' := [])))))))
def b_format_of : DEnv → M (DEnv × Fl) :=
  (seqS (retS (newKD [0, 1, 2, 3, 4, 5, 6, 7] [] 8 9 f_Formatdd_initdd (consM (binM dgetD (rd 0) (cM (.str "base"))) (consM (binM dgetD (rd 0) (cM (.str "sign"))) (consM (binM dgetD (rd 0) (cM (.str "least"))) (consM (binM dgetD (rd 0) (cM (.str "group"))) (consM (binM dgetD (rd 0) (cM (.str "mark"))) (consM (binM dgetD (rd 0) (cM (.str "width"))) (consM (binM dgetD (rd 0) (cM (.str "fill"))) (consM (binM dgetD (rd 0) (cM (.str "side"))) nilM)))))))))) skipS)
def f_format_of : List D → M D := runD 1 b_format_of
theorem ok_format_of (T : Txt w K mg A) : Callee P w K mg base 6 "format_of" ["table"] (spD K (caOf A) (ceOf A) 1 f_format_of) :=
  have cf := cf_of T
  calleeD_of (b := b_format_of) T.F_format_of sc_format_of rfl rfl (fun _ _ _ _ _ _ us hl => match us, hl with | [_], _ => rfl) (fun f cdv Ar outer s H Xs ρ E hr tk po =>
    (pssd_cons (psd_ret (pd_wk (m := .nw) (pd_make (ks := ["base", "sign", "least", "group", "mark", "width", "fill", "side"]) (ms := []) [0, 1, 2, 3, 4, 5, 6, 7] [] rfl (mk_Format T) rfl rfl hr (by decide) (by rfl) tk (pkd_cons (pd_dget (hu_of hr) (pd_var 0) pd_str (fun _ _ => rfl)) (pkd_cons (pd_dget (hu_of hr) (pd_var 0) pd_str (fun _ _ => rfl)) (pkd_cons (pd_dget (hu_of hr) (pd_var 0) pd_str (fun _ _ => rfl)) (pkd_cons (pd_dget (hu_of hr) (pd_var 0) pd_str (fun _ _ => rfl)) (pkd_cons (pd_dget (hu_of hr) (pd_var 0) pd_str (fun _ _ => rfl)) (pkd_cons (pd_dget (hu_of hr) (pd_var 0) pd_str (fun _ _ => rfl)) (pkd_cons (pd_dget (hu_of hr) (pd_var 0) pd_str (fun _ _ => rfl)) (pkd_cons (pd_dget (hu_of hr) (pd_var 0) pd_str (fun _ _ => rfl)) pkd_nil)))))))) (by decide) (by decide) (fun _ _ _ _ _ _ us mv ws l1 l2 l3 => match us, mv, ws, l1, l2, l3 with | [_], [], [_, _, _, _, _, _, _, _], _, _, _ => rfl))))
      (pssd_nil (O := []) (O' := []))))
def b_Format_read : DEnv → M (DEnv × Fl) :=
  (seqS (setS 1 (ifE (tvM (oneM (isTyD "str") (rd 0))) (callD 1 f_settings_in (consM (rd 0) nilM)) (cM .non))) (seqS (ifS (tvM (binM (isNonD false) (rd 1) (cM .non))) (seqS (raiseS "InvalidText" "value" (rd 0)) skipS) skipS) (seqS (retS (callD 1 f_format_of (consM (rd 1) nilM))) skipS)))
def f_Format_read : List D → M D := runD 2 b_Format_read
theorem ok_Format_read (T : Txt w K mg A) : SCallee P w K mg base 7 "Format" A.cFormat "read" "Format.read" s_Format_read ["text"] (spD K (caOf A) (ceOf A) 1 f_Format_read) :=
  have cf := cf_of T
  scalleeD_of (b := b_Format_read) T.v_Format T.S_Format_read sc_Format_read rfl rfl (fun f cdv Ar outer s H Xs ρ E hr tk po =>
    (pssd_cons (psd_set 1 (pd_if (pd_tval (pd_isTy (n := "str") rfl cf (by decide) (pd_varT 0) (pe_bltn (v := .ty "str") (by rfl) T.b_str (by decide +kernel) rfl) (by rfl) T.b_isinstance)) (pd_call (ok_settings_in T) hr (by decide) (by rfl) tk (pad_cons (pd_var 0) pad_nil)) pd_non) sc_Format_read.nd)
      (pssd_cons (psd_if (O := []) (O' := []) (pd_tcmp f_isN (o_isN (by decide)) (pd_varT 1) pd_non (nomark _))
      (pssd_cons (psd_raise rfl (r_InvalidText T) rfl hr (by decide) tk (by rfl) (pd_varT 0))
      (pssd_nil (O := []) (O' := [])))
      (pssd_nil (O := []) (O' := [])))
      (pssd_cons (psd_ret (pd_wk (m := .fz) (pd_call (ok_format_of T) hr (by decide) (by rfl) tk (pad_cons (pd_var 1) pad_nil))))
      (pssd_nil (O := []) (O' := []))))))
def b_l_bent : DEnv → M (DEnv × Fl) :=
  (seqS (parS 2 3 (strM splitD (rd 1) (cM (.str " "))) (callD 2 f_l_spoon (consM (rd 0) (consM (cM (.int 8)) nilM)))) (seqS (parS 4 5 (callD 2 f_l_spoon (consM (rd 0) (consM (callM lenD (consM (rd 2) nilM)) nilM))) (callD 2 f_l_spoon (consM (rd 0) (consM (callM lenD (consM (rd 1) nilM)) nilM)))) (seqS (ifS (tvM (binM eqD (rd 3) (cM (.int 0)))) (seqS (retS (binM addD (sliceM slSD (rd 1) noPM (somePM (rd 5))) (sliceM slSD (rd 1) (somePM (binM addD (rd 5) (cM (.int 1)))) noPM))) skipS) skipS) (seqS (ifS (tvM (binM eqD (rd 3) (cM (.int 1)))) (seqS (retS (binM addD (binM addD (sliceM slSD (rd 1) noPM (somePM (rd 5))) (callD 2 f_l_of (consM (rd 0) (consM (lstM (consM (cM (.str " ")) (consM (cM (.str "0")) (consM (cM (.str "1")) (consM (cM (.str "-")) (consM (cM (.str "a")) (consM (cM (.str "\n")) nilM))))))) nilM)))) (sliceM slSD (rd 1) (somePM (rd 5)) noPM))) skipS) skipS) (seqS (ifS (tvM (binM eqD (rd 3) (cM (.int 2)))) (seqS (retS (strM joinD (cM (.str " ")) (binM catD (sliceM slLD (rd 2) noPM (somePM (rd 4))) (sliceM slLD (rd 2) (somePM (binM addD (rd 4) (cM (.int 1)))) noPM)))) skipS) skipS) (seqS (ifS (tvM (binM eqD (rd 3) (cM (.int 3)))) (seqS (retS (strM joinD (cM (.str " ")) (binM catD (binM catD (sliceM slLD (rd 2) noPM (somePM (rd 4))) (sliceM slLD (rd 2) (somePM (rd 4)) (somePM (binM addD (rd 4) (cM (.int 1)))))) (sliceM slLD (rd 2) (somePM (rd 4)) noPM)))) skipS) skipS) (seqS (ifS (tvM (binM eqD (rd 3) (cM (.int 4)))) (seqS (setS 6 (lstM (consM (cM (.str "")) (consM (cM (.str "0")) (consM (cM (.str "1")) (consM (cM (.str "12")) (consM (cM (.str "16")) (consM (cM (.str "17")) (consM (cM (.str "32")) (consM (cM (.str "37")) (consM (cM (.str "126")) (consM (cM (.str "127")) (consM (cM (.str "plus")) (consM (cM (.str "left")) (consM (cM (.str "010")) (consM (cM (.str "+3")) (consM (cM (.str "x")) nilM))))))))))))))))) (seqS (lputS 2 (rd 4) (callD 2 f_l_of (consM (rd 0) (consM (rd 6) nilM)))) (seqS (retS (strM joinD (cM (.str " ")) (rd 2))) skipS))) skipS) (seqS (ifS (tvM (binM eqD (rd 3) (cM (.int 5)))) (seqS (retS (strM joinD (cM (.str " ")) (binM catD (sliceM slLD (rd 2) (somePM (cM (.int 2))) noPM) (sliceM slLD (rd 2) noPM (somePM (cM (.int 2))))))) skipS) skipS) (seqS (ifS (tvM (binM eqD (rd 3) (cM (.int 6)))) (seqS (retS (callD 2 f_l_of (consM (rd 0) (consM (lstM (consM (binM addD (rd 1) (cM (.str " "))) (consM (binM addD (cM (.str " ")) (rd 1)) (consM (binM addD (rd 1) (cM (.str "\n"))) (consM (oneM upperD (rd 1)) (consM (binM timD (rd 1) (cM (.int 2))) nilM)))))) nilM)))) skipS) skipS) (seqS (retS (strM joinD (cM (.str " ")) (binM catD (binM catD (sliceM slLD (rd 2) noPM (somePM (cM (.int 14)))) (sliceM slLD (rd 2) (somePM (cM (.int 15))) noPM)) (sliceM slLD (rd 2) (somePM (cM (.int 14))) (somePM (cM (.int 15))))))) skipS))))))))))
def f_l_bent : List D → M D := runD 7 b_l_bent
theorem ok_l_bent (T : Txt w K mg A) : Callee P w K mg base 3 "_law_bent" ["_law_pot_here", "_law_line_here"] (spD K (caOf A) (ceOf A) 2 f_l_bent) :=
  have cf := cf_of T
  calleeD_of (b := b_l_bent) T.F_l_bent sc_l_bent rfl rfl (fun _ _ _ _ _ _ us hl => match us, hl with | [_, _], _ => rfl) (fun f cdv Ar outer s H Xs ρ E hr tk po =>
    (pssd_cons (psd_parNf 2 3 rfl sc_l_bent.nd rfl rfl (by decide) rfl rfl (pd_sm1 (mi := .fz) PySem.F.slot_str_split PySem.F.type_str_split f_split m_splitN (pd_var 1) pd_str) (fun _ => (pd_call (ok_l_spoon T) hr (by decide) (by rfl) tk (pad_cons (pd_var 0) (pad_cons pd_int pad_nil)))))
      (pssd_cons (psd_parQ 4 5 rfl sc_l_bent.nd rfl rfl (by decide) rfl rfl (pd_call (ok_l_spoon T) hr (by decide) (by rfl) tk (pad_cons (pd_var 0) (pad_cons (pd_callB (mi := .tr) f_len (c_len rfl (by decide)) (by rfl) T.b_len (by decide +kernel) (pad_cons (pd_varT 2) pad_nil)) pad_nil))) (pd_call (ok_l_spoon T) hr (by decide) (by rfl) tk (pad_cons (pd_var 0) (pad_cons (pd_callB (mi := .tr) f_len (c_len rfl (by decide)) (by rfl) T.b_len (by decide +kernel) (pad_cons (pd_varT 1) pad_nil)) pad_nil))))
      (pssd_cons (psd_if (O := [2]) (O' := [2]) (pd_tcmp op_eq (o_eq (by decide)) (pd_varT 3) pd_int (nomark _))
      (pssd_cons (psd_ret (pd_op (mi := .tr) f_add (o_add rfl (by decide)) (pd_slice (mi := .tr) f_slS (s_slS (by decide)) (pd_varT 1) pod_none (pod_some (pd_varT 5))) (pd_slice (mi := .tr) f_slS (s_slS (by decide)) (pd_varT 1) (pod_some (pd_op (mi := .tr) f_add (o_add rfl (by decide)) (pd_varT 5) pd_int)) pod_none)))
      (pssd_nil (O := [2]) (O' := [2])))
      (pssd_nil (O := [2]) (O' := [2])))
      (pssd_cons (psd_if (O := [2]) (O' := [2]) (pd_tcmp op_eq (o_eq (by decide)) (pd_varT 3) pd_int (nomark _))
      (pssd_cons (psd_ret (pd_op (mi := .tr) f_add (o_add rfl (by decide)) (pd_op (mi := .tr) f_add (o_add rfl (by decide)) (pd_slice (mi := .tr) f_slS (s_slS (by decide)) (pd_varT 1) pod_none (pod_some (pd_varT 5))) (pd_wk (m := .fz) (pd_call (ok_l_of T) hr (by decide) (by rfl) tk (pad_cons (pd_var 0) (pad_cons (pd_fz (pd_lst (pad_cons pd_str (pad_cons pd_str (pad_cons pd_str (pad_cons pd_str (pad_cons pd_str (pad_cons pd_str pad_nil)))))))) pad_nil))))) (pd_slice (mi := .tr) f_slS (s_slS (by decide)) (pd_varT 1) (pod_some (pd_varT 5)) pod_none)))
      (pssd_nil (O := [2]) (O' := [2])))
      (pssd_nil (O := [2]) (O' := [2])))
      (pssd_cons (psd_if (O := [2]) (O' := [2]) (pd_tcmp op_eq (o_eq (by decide)) (pd_varT 3) pd_int (nomark _))
      (pssd_cons (psd_ret (pd_sm1 (mi := .tr) PySem.F.slot_str_join PySem.F.type_str_join f_join (m_join rfl (by decide)) pd_str (pd_op (mi := .tr) f_cat (o_cat rfl (by decide)) (pd_slice (mi := .tr) f_slL (s_slL rfl rfl (by decide)) (pd_varT 2) pod_none (pod_some (pd_varT 4))) (pd_slice (mi := .tr) f_slL (s_slL rfl rfl (by decide)) (pd_varT 2) (pod_some (pd_op (mi := .tr) f_add (o_add rfl (by decide)) (pd_varT 4) pd_int)) pod_none))))
      (pssd_nil (O := [2]) (O' := [2])))
      (pssd_nil (O := [2]) (O' := [2])))
      (pssd_cons (psd_if (O := [2]) (O' := [2]) (pd_tcmp op_eq (o_eq (by decide)) (pd_varT 3) pd_int (nomark _))
      (pssd_cons (psd_ret (pd_sm1 (mi := .tr) PySem.F.slot_str_join PySem.F.type_str_join f_join (m_join rfl (by decide)) pd_str (pd_op (mi := .tr) f_cat (o_cat rfl (by decide)) (pd_op (mi := .tr) f_cat (o_cat rfl (by decide)) (pd_slice (mi := .tr) f_slL (s_slL rfl rfl (by decide)) (pd_varT 2) pod_none (pod_some (pd_varT 4))) (pd_slice (mi := .tr) f_slL (s_slL rfl rfl (by decide)) (pd_varT 2) (pod_some (pd_varT 4)) (pod_some (pd_op (mi := .tr) f_add (o_add rfl (by decide)) (pd_varT 4) pd_int)))) (pd_slice (mi := .tr) f_slL (s_slL rfl rfl (by decide)) (pd_varT 2) (pod_some (pd_varT 4)) pod_none))))
      (pssd_nil (O := [2]) (O' := [2])))
      (pssd_nil (O := [2]) (O' := [2])))
      (pssd_cons (psd_if (O := [2]) (O' := [2]) (pd_tcmp op_eq (o_eq (by decide)) (pd_varT 3) pd_int (nomark _))
      (pssd_cons (psd_set 6 (pd_fz (pd_lst (pad_cons pd_str (pad_cons pd_str (pad_cons pd_str (pad_cons pd_str (pad_cons pd_str (pad_cons pd_str (pad_cons pd_str (pad_cons pd_str (pad_cons pd_str (pad_cons pd_str (pad_cons pd_str (pad_cons pd_str (pad_cons pd_str (pad_cons pd_str (pad_cons pd_str pad_nil))))))))))))))))) sc_l_bent.nd)
      (pssd_cons (psd_lput 2 (pd_varT 4) (pd_call (ok_l_of T) hr (by decide) (by rfl) tk (pad_cons (pd_var 0) (pad_cons (pd_var 6) pad_nil))))
      (pssd_cons (psd_ret (pd_sm1 (mi := .tr) PySem.F.slot_str_join PySem.F.type_str_join f_join (m_join rfl (by decide)) pd_str (pd_varT 2)))
      (pssd_nil (O := [2]) (O' := [2])))))
      (pssd_nil (O := [2]) (O' := [2])))
      (pssd_cons (psd_if (O := [2]) (O' := [2]) (pd_tcmp op_eq (o_eq (by decide)) (pd_varT 3) pd_int (nomark _))
      (pssd_cons (psd_ret (pd_sm1 (mi := .tr) PySem.F.slot_str_join PySem.F.type_str_join f_join (m_join rfl (by decide)) pd_str (pd_op (mi := .tr) f_cat (o_cat rfl (by decide)) (pd_slice (mi := .tr) f_slL (s_slL rfl rfl (by decide)) (pd_varT 2) (pod_some pd_int) pod_none) (pd_slice (mi := .tr) f_slL (s_slL rfl rfl (by decide)) (pd_varT 2) pod_none (pod_some pd_int)))))
      (pssd_nil (O := [2]) (O' := [2])))
      (pssd_nil (O := [2]) (O' := [2])))
      (pssd_cons (psd_if (O := [2]) (O' := [2]) (pd_tcmp op_eq (o_eq (by decide)) (pd_varT 3) pd_int (nomark _))
      (pssd_cons (psd_ret (pd_wk (m := .fz) (pd_call (ok_l_of T) hr (by decide) (by rfl) tk (pad_cons (pd_var 0) (pad_cons (pd_fz (pd_lst (pad_cons (pd_op (mi := .fz) f_add (o_add rfl (by decide)) (pd_var 1) pd_str) (pad_cons (pd_op (mi := .fz) f_add (o_add rfl (by decide)) pd_str (pd_var 1)) (pad_cons (pd_op (mi := .fz) f_add (o_add rfl (by decide)) (pd_var 1) pd_str) (pad_cons (pd_upper (m := .fz) (pd_varT 1)) (pad_cons (pd_op (mi := .fz) f_tim (o_tim (by decide)) (pd_var 1) pd_int) pad_nil))))))) pad_nil)))))
      (pssd_nil (O := [2]) (O' := [2])))
      (pssd_nil (O := [2]) (O' := [2])))
      (pssd_cons (psd_ret (pd_sm1 (mi := .tr) PySem.F.slot_str_join PySem.F.type_str_join f_join (m_join rfl (by decide)) pd_str (pd_op (mi := .tr) f_cat (o_cat rfl (by decide)) (pd_op (mi := .tr) f_cat (o_cat rfl (by decide)) (pd_slice (mi := .tr) f_slL (s_slL rfl rfl (by decide)) (pd_varT 2) pod_none (pod_some pd_int)) (pd_slice (mi := .tr) f_slL (s_slL rfl rfl (by decide)) (pd_varT 2) (pod_some pd_int) pod_none)) (pd_slice (mi := .tr) f_slL (s_slL rfl rfl (by decide)) (pd_varT 2) (pod_some pd_int) (pod_some pd_int)))))
      (pssd_nil (O := []) (O' := [])))))))))))))
end
end
end Fg
namespace PySem.W
open PySem PySem.Spec PySem.Calls PyProof.Rows
section
variable {P : Program} {w : World} {B : Around} {Ex : Value → Shared → Prop} {s : Shared} {K : Frag} {e D : Addr} {oe : Obj} {dct : Obj}
theorem fg_found (hdct : hasDictIn K D = true) (hc : findIn K (.ref D) "__class__" = some (some (.builtin "object.__class__"))) (hg : specialIn K (.builtin "object.__class__") "__get__" = some (some (.builtin "getset_descriptor.__get__")))
    (ht : takesIn K (.builtin "object.__class__") = some true) : findObj K D (some dct) "__class__" = some (.bind (.builtin "getset_descriptor.__get__") (.builtin "object.__class__")) := by
  obtain ⟨cd, hcd, _⟩ := any_some hdct
  unfold findObj
  rw [hcd, Option.bind_some, hc, Option.bind_some]; simp [hg, ht]
theorem fg_class {Q : Option Value → Shared → Prop} (C : L2.ExcC K D) (Kh : K.In s.heap) (J : InstAt s.heap e oe D (some dct)) (q : Q (some (.ref D)) { s with toks := s.toks + 1 }) : wpAny (model P w) B (getAttr? (.ref e) "__class__") Q Ex s := by
  have found := fg_found (dct := dct) C.hd C.ha C.hn C.ht
  obtain ⟨hp, gg, dd, tk, os⟩ := s
  have T0 := J.type (M := model P w); have T1 := looks_findIn (M := model P w) Kh C.hg; have T2 := looks_findIn (M := model P w) Kh C.hk; have T3 := looks_find (M := model P w) Kh J found
  have isB : Looks (model P w) hp (isInstance (.ref e) (.type "BaseException")) true := T0.andThen (looks_subIn Kh C.hs)
  have ne1 : (Value.builtin "BaseException.__getattribute__" == Value.builtin "object.__getattribute__") = false := by decide +kernel
  have ne2 : (onTheHeap (Value.ref D) && Value.builtin "BaseException.__getattribute__" == Value.builtin "object.__getattribute__") = false := by (rw [ne1]; rfl)
  have ne0 : (false && onTheHeap (Value.builtin "BaseException.__getattribute__")) = false := by first | rfl
  (unfold getAttr? getAttrBy? getAttrBy); refine wpAny_bind (wpAny_mkText (wpAny_bind (wpAny_attempt (wpAny_holding (wpAny_bind (T0.at (wpAny_bind (T1.at ?_))))))))
  show wpAny _ _ (if (onTheHeap (Value.ref D) && Value.builtin "BaseException.__getattribute__" == Value.builtin "object.__getattribute__") = true then _ else _) _ _ _; rw [ne2, if_neg Bool.false_ne_true]
  (unfold getAttrByItsOwn hookBefore); refine wpAny_bind ?_; rw [if_pos (show onTheHeap (Value.ref D) = true from rfl)]; refine T2.at (wpAny_bind (wpAny_attempt (wpAny_holding ?_)))
  (unfold callGetattribute); rw [ne0, if_neg Bool.false_ne_true]; (unfold boundAndCalled); rw [PySem.F.excAttr_ValueError.ga.bind (.ref e)]; refine wpAny_bind (wpAny_pure ?_)
  show wpAny _ _ (call (.builtin "BaseException.__getattribute__") [.ref e, .str "__class__" tk]) _ _ _; refine wpAny_call (codeAny_call_builtin PySem.F.excAttr_ValueError.ga.plain PySem.F.entry_bexc_ga ?_)
  refine @check_slot (model P w) _ _ ⟨hp, gg, dd, tk + 1, os⟩ "BaseException.__getattribute__" "BaseException" "__getattribute__" (.ref e) [.str "__class__" tk] [] _ (by decide +kernel) (by decide +kernel) isB (PySem.F.args_bexc_ga (.ref e) (.str "__class__" tk)) ?_
  (unfold Builtin.«object.__getattribute__»); refine wpAny_bind (wpAny_of_eq (a := ((Value.ref e : Value), [Value.str "__class__" tk])) (by first | rfl | (simp only [slotArgs]; rfl)) ?_)
  refine wpAny_bind (wpAny_pure (wpAny_bind (T0.at (wpAny_bind (T3.at ?_))))); show wpAny _ _ (holding [Value.builtin "object.__class__"] (call (.builtin "getset_descriptor.__get__") [.builtin "object.__class__", .ref e, .ref D]) >>= ret) _ _ _
  refine wpAny_bind (wpAny_holding (wpAny_call (class_get (s := ⟨hp, gg, dd, tk + 1, os⟩) (ox := oe) (od := some dct) Kh J C.hm ?_))); refine wpAny_pure ?_
  show wpAny _ _ (handedOut (.ref D)) _ _ _; rw [handedOut_of (v := .ref D) rfl]
  first | exact wpAny_pure (wpAny_pure q) | exact wpAny_pure q | exact wpAny_pure (wpAny_bind (wpAny_pure (wpAny_pure q)))
theorem fg_kit (C : L2.ExcC K D) : KitX K (.ref e) (.ref D) (fun h => ∃ dct, InstAt h e oe D (some dct)) := by
  obtain ⟨cd, hcd, _⟩ := any_some C.hd
  refine ⟨fun _ _ _ ⟨_, J⟩ => J.type, fun _ _ Kh _ => ?_, fun h tp _ _ _ _ Kh at_ => ?_, fun Kh ⟨_, J⟩ k => fg_class C Kh J k⟩
  · unfold clsIn at hcd
    split at hcd
    · rename_i looked
      intro _ _ _ _ keep q
      (unfold isType loadHead); exact wpAny_bind (wpAny_loadPart (keep _ _ (Kh _ _ looked)) (wpAny_pure q))
    · cases hcd
  · refine Bool.eq_false_iff.mpr fun same => ?_
    cases (Value.ref.inj (beq_iff_eq.mp same) : D = tp)
    unfold clsIn at hcd
    split at hcd
    · rename_i looked
      cases (Kh _ _ looked).symm.trans at_
    · cases hcd
end
end PySem.W
namespace Fg
open PySem PySem.Spec PyProof.Rows L2
/-- isinstance(e, c), e the error that the suite holds -/
def fIsE (K : PySem.W.Frag) (D a : Addr) : List V → Hp → VK → Prop := fun xs H Q => match xs with
  | [.ref b, .ref c] => b = a ∧ ∃ r, PySem.W.kitOne K (.ref D) (.ref c) = some r ∧ Q (.bl r) H
  | [.ref b, .ty c] => b = a ∧ ∃ r, PySem.W.kitOne K (.ref D) (.type c) = some r ∧ Q (.bl r) H
  | _ => False
theorem f_isE {X : Cx} {a D dx : Addr} {oe : Obj} {pn : List (Addr × Obj)} (C : ExcC X.K D) (hz : Zc (.ref D) (some dx) oe) (hf : ∃ vs, oe.data = .fields vs) {fs : List (Str × V)} :
    CallR (X.suite a ((a, oe) :: pn)) (.builtin "isinstance") (fun xs H Q => H dx = some (.xd fs) ∧ fIsE X.K D a xs H Q) := by
  intro pins s σ H xs us Q J r ⟨hd, q⟩
  have ans : ∀ (cv : Value) (k : Bool), PySem.W.kitOne X.K (.ref D) cv = some k → Q (.bl k) H → wpAny (model X.prog X.w) (X.suite a ((a, oe) :: pn)).A (call (.builtin "isinstance") [.ref a, cv]) (EP (X.suite a ((a, oe) :: pn)) pins σ Q) (X.suite a ((a, oe) :: pn)).xe s := fun cv k ek qk => by
    obtain ⟨hget, _⟩ := J.pin (a, oe) (List.mem_append.mpr (.inl List.mem_cons_self))
    obtain ⟨vs, hv⟩ := hf
    obtain ⟨mA, hns, _⟩ := (show ObjOk X.prog X.w H s.heap dx (.xd fs) from J.hok dx _ hd)
    obtain ⟨od, ho, _⟩ := lookIn_ns hns
    have I2 : PySem.W.InstAt s.heap a oe D (some od) := ⟨hget, hz.1, by unfold PySem.W.notCls; rw [hv] <;> rfl, by rw [hz.2]; exact ho⟩
    exact PySem.W.kia_one (PySem.W.fg_kit C) J.kIn ⟨od, I2⟩ ek (fun z => nomatch z) fun tk => ⟨.bl k, H, J.kept (t' := tk) fun _ _ z => z, rfl, qk⟩
  unfold fIsE at q
  split at q
  · obtain ⟨rfl, k, ek, qk⟩ := q
    cases r with
    | cons r1 rr =>
      cases rr with
      | cons r2 rr =>
        cases rr
        cases r1
        cases r2
        exact ans _ k ek qk
  · obtain ⟨rfl, k, ek, qk⟩ := q
    cases r with
    | cons r1 rr =>
      cases rr with
      | cons r2 rr =>
        cases rr
        cases r1
        cases r2
        exact ans _ k ek qk
  · exact q.elim
end Fg
namespace Fg
open PySem PySem.Spec PyProof.Rows L2
local macro_rules | `(tactic| walk_at "hp") => `(tactic| first | assumption | (refine Same.get (by assumption) ?_; walk_at "hp"))
local macro_rules | `(tactic| walk_at "sq") => `(tactic| first | assumption | (exact Or.inr (by assumption)) | (exact Or.inl (by assumption)) | (exact Or.inl (SqL.of (by walk_at "hp"))) | (exact Or.inr (SqT.of (by walk_at "hp"))) | (exact SqL.of (by walk_at "hp")) | (exact SqT.of (by walk_at "hp")))
local macro_rules | `(tactic| walk_at "cl") => `(tactic| first | ((first | show (_ : Int) < _ | show (_ : Int) ≤ _); first | omega | decide) | ((first | show (_ : Nat) < _ | show (_ : Nat) ≤ _); first | with_reducible assumption | (refine sz_le ?_; first | decide | omega | (simp <;> omega)) | (refine sz_lt ?_; first | decide | omega | (simp <;> omega)) | omega | decide | ((with_reducible show List.length _ < _); exact Nat.le_of_ble_eq_true rfl)) | rfl | walk_at "hp" | walk_at "sq" | (refine And.intro (by walk_at "cl") (by walk_at "cl")) | (exact Exists.intro _ (by walk_at "hp")) | (exact Exists.intro _ (Exists.intro _ (by walk_at "hp"))) | (exact Exists.intro _ (Exists.intro _ (And.intro (by walk_at "hp") rfl))) | decide | (exact Or.inl (by walk_at "cl")) | (exact Or.inr (by walk_at "cl")) | omega)
local macro_rules | `(tactic| walk_at "s1") => `(tactic| first | refine And.intro (by walk_at "cl") ?_ | apply Exists.intro)
local macro_rules | `(tactic| walk_at "sx") => `(tactic| repeat walk_at "s1")
local macro_rules | `(tactic| walk_at "si") => `(tactic| first | refine iteY rfl ?_ | refine iteN rfl ?_)
local macro_rules | `(tactic| walk_at "sy") => `(tactic| repeat first | walk_at "s1" | walk_at "si")
local macro_rules | `(tactic| simp! only [$xs,*]) => `(tactic| simp (maxSteps := 4000000) only [ev_bind, ev_pure, ev_ok, ev_er, ev_no, ev_ite, ev_t, ev_f, ev_some, ev_raise, ev_noErr, ev_nE, ev_nEo, ev_rd0, ev_rdS, ev_st0, ev_stN, ev_stS, ev_seq, ev_sqn, ev_sqr, ev_sqb, ev_sqc, ev_skip, ev_brk, ev_ctn, ev_set, ev_ret, ev_drop, ev_ifs, ev_ife, ev_run, ev_rnn, ev_rnr, ev_runi, ev_rni, ev_app, ev_aug, ev_par, ev_fld, ev_rai, ev_asO, ev_tgn, ev_tgT, ev_tg0, ev_tgS, ev_fors, ev_for0, ev_forS, ev_forB, ev_ffn, ev_ffc, ev_ffb, ev_ffr, ev_itL, ev_itT, ev_itS, ev_tbd, ev_tv, ev_not, ev_and, ev_or, ev_ande, ev_ore, ev_tee, ev_note, ev_yes, ev_cons, ev_nil, ev_cap, ev_call, ev_ndd, ev_nkd, ev_nsd, ev_star, ev_sqL, ev_sqT, ev_met, ev_lc, ev_str, ev_slc, ev_chain, ev_end, ev_endo, ev_ende, ev_add, ev_addS, ev_cat, ev_sub, ev_mul, ev_mod, ev_fdiv, ev_lt, ev_le, ev_gt, ev_ge, ev_eqI, ev_eqS, ev_eqB, ev_neI, ev_neS, ev_neB, ev_nn, ev_nI, ev_nS, ev_nO, ev_nD, ev_lenL, ev_lenT, ev_lenS, ev_int, ev_ixL, ev_ixT, ev_fldD, ev_isC, ev_neg, ev_tup, ev_fmtS, ev_fmtI, ev_slS, ev_slL, ev_slT, ev_part, ev_wp0, ev_wpS, ev_sg1, ev_inS, ev_index, ev_ixS, ev_jn0, ev_jnS, ev_sz, ev_szl, ev_at0, ev_at1, ev_at2, ev_at3, ev_at4, ev_at5, ev_tri, ev_divmod, ev_tgM, ev_getOr, ev_tryo, ev_tryN, ev_trye, ev_isbI, ev_isbB, ev_ltS, ev_geS, ev_par3, ev_reg, ev_fldXD, ev_methX, ev_methXK, ev_callX, ev_mfld, ev_dgetM, ev_tgMD, ev_inDk, ev_endRM, ev_endRo, ev_endRe, ev_endRz, ev_tgL, ev_upper, ev_lenM2L, ev_lenM2M, ev_ixM2L, ev_ixM2M, ev_nilMM, ev_mapp, ev_raise0, ev_tryFin, ev_zfill, ev_methXS, ev_ljust, ev_rjust, ev_tryNx, ev_laug, ev_mvIf, ev_ext, ev_lc2D, ev_endXM, ev_endXo, ev_endXe, ev_quiet, ev_tim, List.set_cons_zero, List.set_cons_succ, List.length_cons, List.length_nil, eq_self, Bool.not_true, Bool.not_false, Bool.false_eq_true, decide_true, decide_false, List.nil_append, List.cons_append, decide_eq_true_eq, reduceCtorEq, Nat.reduceAdd, Nat.reduceSub, Nat.reduceLT, Nat.reduceLeDiff, Nat.reduceEqDiff, Int.reduceAdd, Int.reduceSub, Int.reduceMul, Int.reduceEq, Int.reduceLT, Int.reduceLE, Int.reduceNeg, Int.reduceToNat, Nat.zero_add, Int.cast_ofNat_Int, List.drop_succ_cons, List.drop_zero, List.append_nil, $xs,*])
section
open PySem PySem.Spec PyProof.Rows L2
variable [TQ]
section
variable {P : Program} {w : World} {K : PySem.W.Frag} {mg : Str → Option Value} {base : Heap} {A : Ad}
/-- isinstance of whatever the suite holds -/
theorem f_isEg {X : Cx} {a D : Addr} {cls : Value} {d : Option Addr} {oe : Obj} {pn : List (Addr × Obj)} (C : ExcC X.K D) (hz : Zc cls d oe) (hf : ∃ vs, oe.data = .fields vs) :
    CallR (X.suite a ((a, oe) :: pn)) (.builtin "isinstance") (fun xs H Q => cls = .ref D ∧ ∃ dx fs, d = some dx ∧ H dx = some (.xd fs) ∧ fIsE X.K D a xs H Q) := by
  intro pins s σ H xs us Q J r ⟨hc, dx, fs, hd, q⟩
  subst hc hd
  exact f_isE C hz hf pins s σ H xs us Q J r q
theorem pss_ex {X : Cx} {b : List Stmt} {α : Sort _} {Pp : α → Prop} {t : α → TS} (h : ∀ a, Pp a → PSs X b (t a)) : PSs X b (fun D σ H => ∃ a, Pp a ∧ t a D σ H) := ⟨fun pins s σ H D I ⟨a, p, q⟩ => (h a p).run pins s σ H D I q⟩
theorem takes_len {X : Cx} {W : WX} (t : Takes X W) : Takes X (fun c d σ H => σ.length = X.N.length → W c d σ H) :=
  fun u s' ⟨a, B, sI, pins, σ, H, cls, d, e, I, nb, up, sky, na, os, ag, w⟩ => t u s' ⟨a, B, sI, pins, σ, H, cls, d, e, I, nb, up, sky, na, os, ag, w I.len⟩
theorem gives_l_ended {X : Cx} (T : Txt X.w X.K X.mg A) {q : Str} : ∀ (g : Addr) (cdv : Value), LamX.GivesTo X ["_law_ask", "_law_given", "e"] "_law_ended" (defScope s_l_ended) g cdv (defBody s_l_ended) "_law_ask" q (TEndD (ceOf A) [("InvalidText", "value")]) := by
  intro g cdv f c' s H Q tl act hc h
  have hgl : Gl (cxOf C8.CX0 X.prog X.w X.K X.mg X.base ["_law_ask", "_law_given", "e"] "_law_ended" (defScope s_l_ended) g cdv X.A X.stack s H C8.E0).nox "InvalidText" := by rfl
  refine ⟨_, pss_cons (ps_try_as (X := (cxOf C8.CX0 X.prog X.w X.K X.mg X.base ["_law_ask", "_law_given", "e"] "_law_ended" (defScope s_l_ended) g cdv X.A X.stack s H C8.E0).nox) (c := .ref A.cInvalidText) (i := 2)
      (tb := fun W D σ H => ∃ Ech : XK, (∀ cls d (σ' : L2.St) H', Ech cls d H' → σ'.length = 3 → W cls d σ' H') ∧ σ[0]? = some (some (.ref f)) ∧ H c' = some (LamX.CodeO c' q) ∧ tl Ech H (fun v H1 => D.nx (σ.set 1 (some v)) H1))
      rfl rfl sc_l_ended.nd rfl rfl ⟨hgl, by decide, .inl T.g_InvalidText⟩ takes0 (fun W pn xe tk _ => ?_)
      (fun a oe cls d pn hz hf => pss_one (ps_ret (fe_lst (pa_cons pe_str (pa_cons (pe_xf T.xf_InvalidText T.nf_InvalidText hz hf (fv 2)) (pa_cons (pe_and
        (pe_callB (f_isEg T.xc_InvalidText hz hf) (by rfl) T.b_isinstance (by decide +kernel) (pa_cons (fv 2) (pa_cons (fe_g (by rfl) T.v_Unfit) pa_nil)))
        (pe_one (pe_callB (f_isEg T.xc_InvalidText hz hf) (by rfl) T.b_isinstance (by decide +kernel) (pa_cons (fv 2) (pa_cons (pe_bltn (v := .ty "ValueError") (by rfl) T.b_ValueError (by decide +kernel) rfl) pa_nil))))) pa_nil)))))))
    (pss_one (ps_ret (fe_lst (pa_cons pe_str (pa_cons (fv 1) pa_nil))))), ?_⟩
  · exact pss_ex fun Ech hW => pss_one (ps_set (i := 1) sc_l_ended.nd rfl (.inl rfl) (act (fun c d σ H => σ.length = 3 → W c d σ H) pn xe Ech _ _ (takes_len tk) hW))
  · unfold TEndD at h
    refine ⟨_, fun cls d σ' H' hE hl => ?_, rfl, hc, h⟩
    obtain ⟨cn, fn, C, dd, v, hlk, hC, rfl, rfl, hd, k⟩ := hE
    rw [List.lookup_cons] at hlk
    split at hlk
    · rename_i ec
      have ec := eq_of_beq ec
      subst ec
      cases hlk
      have hC : some A.cInvalidText = some C := hC
      cases hC
      obtain ⟨x0, x1, x2, rfl⟩ : ∃ x0 x1 x2, σ' = [x0, x1, x2] := by
        match σ', hl with
        | [x0, x1, x2], _ => exact ⟨x0, x1, x2, rfl⟩
      refine ⟨true, T.ex_InvalidText_InvalidText, fun _ a na => ?_, fun z => nomatch z⟩
      have k1 := T.ki_InvalidText_Unfit
      have k2 := T.ki_InvalidText_ValueError
      walk_at "sx"
      exact k
    · cases hlk
end
end
section
open PySem PySem.Spec PyProof.Rows L2
variable [TQ]
section
variable {P : Program} {w : World} {K : PySem.W.Frag} {mg : Str → Option Value} {base : Heap} {A : Ad}
def b_l_right : DEnv → M (DEnv × Fl) :=
  (seqS (forS (callM itR1 (consM (cM (.int 3)) nilM)) (tgN 1) (seqS (setS 2 (callD 1 f_l_format (consM (callD 1 f_l_shape (consM (rd 0) nilM)) nilM))) (seqS (setS 3 (callM (oneL (strOD "Format" f_Formatdd_strdd)) (consM (rd 2) nilM))) (seqS (ifS (orM (tvM (binM (eqOD "Format" f_Formatdd_eqdd true) (callD 1 f_Format_read (consM (rd 3) nilM)) (rd 2))) (tvM (binM (eqOD "Format" f_Formatdd_eqdd true) (callK [0] 1 1 f_Format_read (consM (rd 3) nilM)) (rd 2)))) (seqS (retS (cM (.bl false))) skipS) skipS) (seqS (forS (callM itR1 (consM (cM (.int 8)) nilM)) (tgN 4) (seqS (setS 5 (callD 2 f_l_bent (consM (rd 0) (consM (rd 3) nilM)))) (seqS (setS 6 (endM [("InvalidText", "value")] [] (callM (oneL (strOD "Format" f_Formatdd_strdd)) (consM (callD 1 f_Format_read (consM (rd 5) nilM)) nilM)))) (seqS (ifS (tvM (binM (inXND noEq 3) (rd 6) (lstM (consM (lstM (consM (cM (.str "InvalidText")) (consM (rd 5) (consM (cM (.bl true)) nilM)))) (consM (lstM (consM (cM (.str "given")) (consM (rd 5) nilM))) nilM))))) (seqS (retS (cM (.bl false))) skipS) skipS) skipS)))) skipS))))) (seqS (setS 7 (callD 2 f_l_of (consM (rd 0) (consM (lstM (consM (cM .non) (consM (cM (.int 5)) (consM (tupM nilM) (consM (lstM (consM (rd 3) nilM)) (consM (cM (.str "")) (consM (cM (.str " ")) (consM (rd 2) (consM (cM (.bl true)) (consM (cM (.dct [])) nilM)))))))))) nilM)))) (seqS (setS 8 (oneM (rplC "base " "base 0") (rd 3))) (seqS (setS 9 (cM (.str "base 10 sign minus least 1 group 0 mark 37 width 0 fill 32 side left"))) (seqS (setS 10 (lstM (consM (endM [("InvalidText", "value")] [] (callD 1 f_Format_read (consM (rd 7) nilM))) nilM))) (seqS (appS 10 (endM [("InvalidText", "value")] [10] (callD 1 f_Format_read (consM (rd 8) nilM)))) (seqS (appS 10 (endM [("InvalidText", "value")] [10] (callD 1 f_Format_read (consM (rd 9) nilM)))) (seqS (setS 11 (lstM (consM (lstM (consM (cM (.str "InvalidText")) (consM (rd 7) (consM (cM (.bl true)) nilM)))) (consM (lstM (consM (cM (.str "InvalidText")) (consM (rd 8) (consM (cM (.bl true)) nilM)))) (consM (lstM (consM (cM (.str "InvalidText")) (consM (rd 9) (consM (cM (.bl true)) nilM)))) nilM))))) (seqS (setS 12 (lcD [13] (oneM itL (lstM (consM (cM (.int 32)) (consM (cM (.int 36)) (consM (cM (.int 38)) (consM (cM (.int 126)) nilM)))))) (tgN 13) yesM (oneM (fldD "Format" "mark") (callD 1 f_Format_read (consM (rplM "37" (rd 9) (rd 13)) nilM))))) (seqS (retS (andE (binM (eqUD eqE_Format 4 false) (rd 10) (rd 11)) (binM (eqBD false) (rd 12) (lstM (consM (cM (.str " ")) (consM (cM (.str "$")) (consM (cM (.str "&")) (consM (cM (.str "~")) nilM)))))))) skipS))))))))))
def f_l_right : List D → M D := runD 14 b_l_right
theorem ok_l_right (T : Txt w K mg A) (TB : LamX.TabB base mg A.cC_l_right A.tP_l_right) (hQ : ∀ P' q', TQ.q P' q' ↔ P' = A.tP_l_right ∧ q' = "_law_right.<locals>.<lambda>") : Callee P w K mg base 10 "_law_right" ["_law_pot_here"] (spT K (caOf A) (ceOf A) A.tP_l_right "_law_right.<locals>.<lambda>" 1 f_l_right) :=
  have cf := cf_of T
  calleeT_of (b := b_l_right) T.k_l_right sc_l_right rfl rfl (fun _ _ _ _ _ _ us hl => match us, hl with | [_], _ => rfl) (fun f Ar outer s H Xs ρ E tb0 hr tk po =>
    (pssd_spend (psd_for po rfl (pid_R1 (by rfl) T.b_range (pad_cons pd_int pad_nil)) (pgd_name 1 sc_l_right.nd)
      (pssd_cons (psd_set 2 (pd_call (ok_l_format T) hr (by decide) (by rfl) tk (pad_cons (pd_call (ok_l_shape T) hr (by decide) (by rfl) tk (pad_cons (pd_var 0) pad_nil)) pad_nil)) sc_l_right.nd)
      (pssd_cons (psd_set 3 (pd_callTy (mi := .fz) (f_strO (ok_Formatdd_strdd T) hr (by decide)) (c_strO (c := "Format") rfl (by decide)) (by rfl) T.b_str (by decide +kernel) (pad_cons (pd_var 2) pad_nil)) sc_l_right.nd)
      (pssd_cons (psd_if (O := []) (O' := []) (PW.pt (pd_or (pd_tcmpF (f_neOG rfl (ok_Formatdd_eqdd T) T.ne_Format hr (by decide)) (o_cmpO (c := "Format") cf rfl (nsub_Format T) (by decide)) (pd_smeth (ok_Format_read T) hr (by decide) (by rfl) tk (pad_cons (pd_var 3) pad_nil) (fun _ _ _ _ _ _ us hl => match us, hl with | [_], _ => rfl)) (pd_var 2) (nomark _)) (pd_or1 (pd_tcmpF (f_neOG rfl (ok_Formatdd_eqdd T) T.ne_Format hr (by decide)) (o_cmpO (c := "Format") cf rfl (nsub_Format T) (by decide)) (pd_smethK (ks := ["text"]) [0] (ok_Format_read T) hr (by decide) (by rfl) tk (pkd_cons (pd_var 3) pkd_nil) (fun _ _ _ _ _ _ ws l => match ws, l with | [_], _ => rfl)) (pd_var 2) (nomark _)))))
      (pssd_cons (psd_ret pd_bl)
      (pssd_nil (O := []) (O' := [])))
      (pssd_nil (O := []) (O' := [])))
      (pssd_cons (psd_for po rfl (pid_R1 (by rfl) T.b_range (pad_cons pd_int pad_nil)) (pgd_name 4 sc_l_right.nd)
      (pssd_cons (psd_set 5 (pd_call (ok_l_bent T) hr (by decide) (by rfl) tk (pad_cons (pd_var 0) (pad_cons (pd_var 3) pad_nil))) sc_l_right.nd)
      (pssd_cons (psd_set 6 (pd_lam (Pt := A.tP_l_right) (c := A.cC_l_right) (k := 7) (hs := [("InvalidText", "value")]) (ca := caOf A) (ce := ceOf A) (qn := "_law_right.<locals>.<lambda>") rfl rfl rfl rfl hQ tb0 T.F_l_ended sc_l_ended rfl (fun _ _ _ _ _ _ us hl => match us, hl with | [_], _ => rfl) (gives_l_ended T) TB rfl hr (by decide) (by rfl) (LamX.lamS_by (by show LamX.lamSB (defScope s_l_right) _ = true; decide +kernel)) (Or.inl rfl) rfl (fun _ _ _ _ _ => rfl) (fun _ _ _ _ _ _ _ _ _ _ hrl tkl => (pd_callTy (mi := .fz) (f_strO (ok_Formatdd_strdd T) hrl (by decide)) (c_strO (c := "Format") rfl (by decide)) (by rfl) T.b_str (by decide +kernel) (pad_cons (pd_smeth (ok_Format_read T) hrl (by decide) (by rfl) tkl (pad_cons (pd_var 5) pad_nil) (fun _ _ _ _ _ _ us hl => match us, hl with | [_], _ => rfl)) pad_nil)))) sc_l_right.nd)
      (pssd_cons (psd_if (O := []) (O' := []) (pd_tcmpF (f_notInX (n := 3) rfl cf (hE_no (ce := ceOf A)) hr (by decide)) (o_notInX rfl (by decide)) (pd_var 6) (pd_fz (pd_lst (pad_cons (pd_fz (pd_lst (pad_cons pd_str (pad_cons (pd_var 5) (pad_cons pd_bl pad_nil))))) (pad_cons (pd_fz (pd_lst (pad_cons pd_str (pad_cons (pd_var 5) pad_nil)))) pad_nil)))) (by rfl))
      (pssd_cons (psd_ret pd_bl)
      (pssd_nil (O := []) (O' := [])))
      (pssd_nil (O := []) (O' := [])))
      (pssd_nil (O := []) (O' := []))))))
      (pssd_nil (O := []) (O' := []))))))) spends_for
      (psstd_cons (pstd_of (psd_set 7 (pd_call (ok_l_of T) hr (by decide) (by rfl) tk (pad_cons (pd_var 0) (pad_cons (pd_fz (pd_lst (pad_cons pd_non (pad_cons pd_int (pad_cons (pd_tup pad_nil) (pad_cons (pd_fz (pd_lst (pad_cons (pd_var 3) pad_nil))) (pad_cons pd_str (pad_cons pd_str (pad_cons (pd_var 2) (pad_cons pd_bl (pad_cons (pd_fz pd_d0) pad_nil))))))))))) pad_nil))) sc_l_right.nd))
      (psstd_cons (pstd_set 8 (petd_repC (pd_varT 3)) sc_l_right.nd)
      (psstd_cons (pstd_of (psd_set 9 pd_str sc_l_right.nd))
      (psstd_cons (pstd_of (psd_new 10 (pd_lst (pad_cons (pd_lam (Pt := A.tP_l_right) (c := A.cC_l_right) (k := 7) (hs := [("InvalidText", "value")]) (ca := caOf A) (ce := ceOf A) (qn := "_law_right.<locals>.<lambda>") rfl rfl rfl rfl hQ tb0 T.F_l_ended sc_l_ended rfl (fun _ _ _ _ _ _ us hl => match us, hl with | [_], _ => rfl) (gives_l_ended T) TB rfl hr (by decide) (by rfl) (LamX.lamS_by (by show LamX.lamSB (defScope s_l_right) _ = true; decide +kernel)) (Or.inl rfl) rfl (fun _ _ _ _ _ => rfl) (fun _ _ _ _ _ _ _ _ _ _ hrl tkl => (pd_wk (m := .fz) (pd_smeth (ok_Format_read T) hrl (by decide) (by rfl) tkl (pad_cons (pd_var 7) pad_nil) (fun _ _ _ _ _ _ us hl => match us, hl with | [_], _ => rfl))))) pad_nil)) sc_l_right.nd))
      (psstd_cons (pstd_of (psd_app 10 (pd_lam (Pt := A.tP_l_right) (c := A.cC_l_right) (k := 7) (hs := [("InvalidText", "value")]) (ca := caOf A) (ce := ceOf A) (qn := "_law_right.<locals>.<lambda>") rfl rfl rfl rfl hQ tb0 T.F_l_ended sc_l_ended rfl (fun _ _ _ _ _ _ us hl => match us, hl with | [_], _ => rfl) (gives_l_ended T) TB rfl hr (by decide) (by rfl) (LamX.lamS_by (by show LamX.lamSB (defScope s_l_right) _ = true; decide +kernel)) (Or.inl rfl) rfl (fun _ _ _ _ _ => rfl) (fun _ _ _ _ _ _ _ _ _ _ hrl tkl => (pd_wk (m := .fz) (pd_smeth (ok_Format_read T) hrl (by decide) (by rfl) tkl (pad_cons (pd_var 8) pad_nil) (fun _ _ _ _ _ _ us hl => match us, hl with | [_], _ => rfl)))))))
      (psstd_cons (pstd_of (psd_app 10 (pd_lam (Pt := A.tP_l_right) (c := A.cC_l_right) (k := 7) (hs := [("InvalidText", "value")]) (ca := caOf A) (ce := ceOf A) (qn := "_law_right.<locals>.<lambda>") rfl rfl rfl rfl hQ tb0 T.F_l_ended sc_l_ended rfl (fun _ _ _ _ _ _ us hl => match us, hl with | [_], _ => rfl) (gives_l_ended T) TB rfl hr (by decide) (by rfl) (LamX.lamS_by (by show LamX.lamSB (defScope s_l_right) _ = true; decide +kernel)) (Or.inl rfl) rfl (fun _ _ _ _ _ => rfl) (fun _ _ _ _ _ _ _ _ _ _ hrl tkl => (pd_wk (m := .fz) (pd_smeth (ok_Format_read T) hrl (by decide) (by rfl) tkl (pad_cons (pd_var 9) pad_nil) (fun _ _ _ _ _ _ us hl => match us, hl with | [_], _ => rfl)))))))
      (psstd_cons (pstd_of (psd_set 11 (pd_fz (pd_lst (pad_cons (pd_fz (pd_lst (pad_cons pd_str (pad_cons (pd_var 7) (pad_cons pd_bl pad_nil))))) (pad_cons (pd_fz (pd_lst (pad_cons pd_str (pad_cons (pd_var 8) (pad_cons pd_bl pad_nil))))) (pad_cons (pd_fz (pd_lst (pad_cons pd_str (pad_cons (pd_var 9) (pad_cons pd_bl pad_nil))))) pad_nil))))) sc_l_right.nd))
      (psstd_cons (pstd_setLc (i := 12) (own := [("_law_code", 13)]) (by rfl) sc_l_right.nd rfl rfl (sw_true rfl rfl rfl (by decide +kernel)) (pid_L rfl (pd_fz (pd_lst (pad_cons pd_int (pad_cons pd_int (pad_cons pd_int (pad_cons pd_int pad_nil))))))) (blkOk_by (own := [("_law_code", 13)]) (N := ["_law_pot_here", "_law_turn", "_law_made", "_law_line_here", "_law_again", "_law_bent_here", "_law_answer", "_law_odd", "_law_lost", "_law_mark_lost", "_law_answers", "_law_due", "_law_good", "_law_code"]) (sc := defScope s_l_right) (by decide +kernel)) (by decide) (by decide) (fun _ _ _ _ _ _ => (pgc_name 13 sc_l_right.nd)) (fun _ _ _ _ _ _ => ptsd_nil) (fun _ _ _ _ _ _ => (petd_fld (c := "Format") rfl T.cl_Format T.n_Format_mark (petd_smeth (ok_Format_read T) hr (by decide) (by rfl) takes0 (patd1 (petd_repI (pd_varT 9) (pd_varT 13) (by rfl) T.b_str)) (fun _ _ _ _ _ _ us hl => match us, hl with | [_], _ => rfl)))))
      (psstd_of (pssd_cons (psd_drop (O1 := []) (psd_ret (pd_eand (pd_cmp (mi := .fz) (f_eqU (n := 4) rfl false cf (hE_Format T) (subS_Format T) (fun z => by cases z) hr (by decide)) (o_eqU rfl (by decide)) (pd_var 10) (pd_var 11) (nomark _)) (pd_eone (pd_cmp (mi := .tr) (f_eqB hr.units) (o_eqB rfl (by decide)) (pd_varT 12) (pd_wk (m := .nw) (pd_lst (pad_cons pd_str (pad_cons pd_str (pad_cons pd_str (pad_cons pd_str pad_nil)))))) (nomark _))))))
      (pssd_nil (O := []) (O' := []))))))))))))))
end
end
section
open PySem PySem.Spec PyProof.Rows L2
local macro_rules | `(tactic| walk_at "wg") => `(tactic| repeat' first | with_reducible refine W.run ?_ | with_reducible refine W.runi ?_ | with_reducible refine W.seq ?_ | with_reducible refine W.set ?_ | with_reducible refine W.ret ?_ | with_reducible refine W.ifs ?_ | with_reducible refine W.disp1 ?_ | with_reducible refine W.ife ?_ | with_reducible refine W.skip ?_ | with_reducible refine W.rdd rfl ?_ | with_reducible refine W.lst ?_ | with_reducible refine W.tup ?_ | with_reducible refine W.asg ?_ | with_reducible refine W.fmt ?_ | with_reducible refine W.nkd ?_ | with_reducible refine W.ndd ?_ | with_reducible refine W.tv ?_ | with_reducible refine W.notm ?_ | with_reducible refine W.bin ?_ | with_reducible refine W.one ?_ | with_reducible refine W.callm ?_ | with_reducible refine W.call ?_ | with_reducible refine W.cons ?_ | with_reducible refine W.nil ?_ | with_reducible refine W.cst ?_ | with_reducible refine W.ixm rfl rfl ?_ | with_reducible refine W.gt ?_ | with_reducible refine W.add ?_ | with_reducible refine W.mul (cm_r (by decide) (by decide)) ?_ | with_reducible refine W.mod (by first | assumption | decide) ?_ | with_reducible refine W.fdiv (by first | assumption | exact cdv_r (by decide) (by decide)) ?_ | with_reducible refine W.intd ?_ | with_reducible refine W.eqI ?_ | with_reducible refine W.lenL ?_ | with_reducible refine W.tbd ?_ | with_reducible refine W.mput (k := 0) ?_ | with_reducible refine W.tgt2 ?_ | with_reducible refine W.tgn ?_ | with_reducible refine W.tgd rfl ?_ | with_reducible refine W.app rfl ?_ | with_reducible refine W.fld ?_ | with_reducible refine W.keys ?_ | refine And.intro rfl ?_ | refine And.intro (Nat.le_of_ble_eq_true rfl) ?_ | dsimp only)
local macro_rules | `(tactic| walk_at "wh") => `(tactic| repeat' first | with_reducible refine W.run ?_ | with_reducible refine W.runi ?_ | with_reducible refine W.seq ?_ | with_reducible refine W.set ?_ | with_reducible refine W.ret ?_ | with_reducible refine W.ifs ?_ | with_reducible refine W.disp1 ?_ | with_reducible refine W.skip ?_ | with_reducible refine W.rdd rfl ?_ | with_reducible refine W.lst ?_ | with_reducible refine W.tup ?_ | with_reducible refine W.asg ?_ | with_reducible refine W.fmt ?_ | with_reducible refine W.nkd ?_ | with_reducible refine W.ndd ?_ | with_reducible refine W.tv ?_ | with_reducible refine W.notm ?_ | with_reducible refine W.bin ?_ | with_reducible refine W.one ?_ | with_reducible refine W.callm ?_ | with_reducible refine W.call ?_ | with_reducible refine W.cons ?_ | with_reducible refine W.nil ?_ | with_reducible refine W.cst ?_ | with_reducible refine W.ixm rfl rfl ?_ | with_reducible refine W.gt ?_ | with_reducible refine W.add ?_ | with_reducible refine W.mul (cm_r (by decide) (by decide)) ?_ | with_reducible refine W.mod (by first | assumption | decide) ?_ | with_reducible refine W.fdiv (by first | assumption | exact cdv_r (by decide) (by decide)) ?_ | with_reducible refine W.intd ?_ | with_reducible refine W.eqI ?_ | with_reducible refine W.lenL ?_ | with_reducible refine W.tbd ?_ | with_reducible refine W.mput (k := 0) ?_ | with_reducible refine W.tgt2 ?_ | with_reducible refine W.tgn ?_ | with_reducible refine W.tgd rfl ?_ | with_reducible refine W.app rfl ?_ | with_reducible refine W.fld ?_ | with_reducible refine W.keys ?_ | refine And.intro rfl ?_ | refine And.intro (Nat.le_of_ble_eq_true rfl) ?_ | dsimp only)
local macro_rules | `(tactic| walk_at "wf") => `(tactic| repeat' first | with_reducible refine W.run ?_ | with_reducible refine W.runi ?_ | with_reducible refine W.seq ?_ | with_reducible refine W.set ?_ | with_reducible refine W.ret ?_ | with_reducible refine W.ifs ?_ | with_reducible refine W.disp1 ?_ | with_reducible refine W.fors ?_ | with_reducible refine W.forc ?_ | with_reducible refine W.forn ?_ | with_reducible refine W.zip ?_ | (with_reducible refine W.ife_f (by kernel_rfl) ?_) | (with_reducible refine W.ife_t (by kernel_rfl) ?_) | with_reducible refine W.skip ?_ | with_reducible refine W.rdd rfl ?_ | with_reducible refine W.lst ?_ | with_reducible refine W.tup ?_ | with_reducible refine W.asg ?_ | with_reducible refine W.fmt ?_ | with_reducible refine W.nkd ?_ | with_reducible refine W.ndd ?_ | with_reducible refine W.tv ?_ | with_reducible refine W.notm ?_ | with_reducible refine W.bin ?_ | with_reducible refine W.one ?_ | with_reducible refine W.callm ?_ | with_reducible refine W.call ?_ | with_reducible refine W.cons ?_ | with_reducible refine W.nil ?_ | with_reducible refine W.cst ?_ | with_reducible refine W.ixm rfl rfl ?_ | with_reducible refine W.gt ?_ | with_reducible refine W.add ?_ | with_reducible refine W.mul (cm_r (by decide) (by decide)) ?_ | with_reducible refine W.mod (by first | assumption | decide) ?_ | with_reducible refine W.fdiv (by first | assumption | exact cdv_r (by decide) (by decide)) ?_ | with_reducible refine W.intd ?_ | with_reducible refine W.eqI ?_ | with_reducible refine W.lenL ?_ | with_reducible refine W.tbd ?_ | with_reducible refine W.mput (k := 0) ?_ | with_reducible refine W.tgt2 ?_ | with_reducible refine W.tgn ?_ | with_reducible refine W.tgd rfl ?_ | with_reducible refine W.app rfl ?_ | with_reducible refine W.fld ?_ | with_reducible refine W.keys ?_ | refine And.intro rfl ?_ | refine And.intro (Nat.le_of_ble_eq_true rfl) ?_ | dsimp only)
theorem spoon_ok {S : Sto} {m : Int} (hm : 0 < m) (hs : m < 10 ^ 40) (h : PotS S) : W (f_l_spoon [.mt 0, .int m]) S fun d S' => ∃ r : Int, d = .int r ∧ 0 ≤ r ∧ r < m ∧ PotS S' := by
  obtain ⟨i, j, rfl⟩ := h
  have cd : CDv i m := ⟨hm, by omega⟩
  have fin : ∀ a b r : Int, 0 ≤ r → r < m → (∃ r' : Int, D.int r = .int r' ∧ 0 ≤ r' ∧ r' < m ∧ PotS [.lst [.int a, .int b]]) := fun a b r h1 h2 => ⟨r, rfl, h1, h2, a, b, rfl⟩
  unfold f_l_spoon b_l_spoon
  walk_at "wg"
  refine W.ifd (fun c => ?_) (fun c => ?_)
  · walk_at "wg"
    refine ⟨_, _, _, rfl, rfl, rfl, ?_⟩
    walk_at "wg"
    exact fin _ _ _ (Int.emod_nonneg _ (by omega)) (Int.emod_lt_of_pos _ hm)
  · walk_at "wg"
    refine ⟨_, _, _, rfl, rfl, rfl, ?_⟩
    walk_at "wg"
    exact fin _ _ _ (Int.emod_nonneg _ (by omega)) (Int.emod_lt_of_pos _ hm)
theorem of_ok {S : Sto} {ds : List D} (h0 : 0 < ds.length) (h1 : ds.length < 1000) (h : PotS S) : W (f_l_of [.mt 0, .lst ds]) S fun d S' => d ∈ ds ∧ PotS S' := by
  unfold f_l_of b_l_of
  walk_at "wg"
  refine (spoon_ok (by omega) (by omega) h).imp fun d S' ⟨r, ed, h2, h3, hp⟩ => ?_
  subst ed
  obtain ⟨n, rfl⟩ : ∃ n : Nat, r = n := ⟨r.toNat, by omega⟩
  have nl : n < ds.length := by omega
  exact W.opt (atI_nat (List.getElem?_eq_getElem nl)) ⟨List.getElem_mem nl, hp⟩
/-- the values of a setting -/
def vBase : List D := [.int 10, .int 10, .int 10, .int 2, .int 3, .int 16] ++ (List.range 15).map fun (n : Nat) => .int (2 + (n : Int))
def vSign : List D := [.str "minus", .str "minus", .str "plus", .str "blank"]
def vLeast : List D := [.int 1, .int 1, .int 2, .int 3] ++ (List.range 12).map fun (n : Nat) => .int (1 + (n : Int))
def vGroup : List D := [.int 0, .int 0, .int 1, .int 2, .int 3, .int 4]
def vMark : List D := [.str " ", .str "0", .str "1", .str "-", .str "+", .str ",", .str ".", .str "9", .str "a", .str "*", .str "/", .str "5", .str "&", .str "~"] ++ signsD " !\"#$&'()*+,-./0123456789:;<=>?@ABCDEFGHIJKLMNOPQRSTUVWXYZ[\\]^_`abcdefghijklmnopqrstuvwxyz{|}~"
def vWidth : List D := [.int 0, .int 0, .int 2, .int 3, .int 4, .int 6] ++ (List.range 13).map fun (n : Nat) => .int (n : Int)
def vSide : List D := [.str "left", .str "right", .str "both", .str "inner"]
theorem sign_ok {S : Sto} (h : PotS S) : W (f_l_sign [.mt 0]) S fun d S' => d ∈ vMark ∧ PotS S' := by
  unfold f_l_sign b_l_sign
  walk_at "wg"
  refine (spoon_ok (by decide) (by decide) h).imp fun d S1 ⟨r, ed, h2, h3, hp⟩ => ?_
  subst ed
  walk_at "wg"
  refine W.ifd (fun c => ?_) (fun c => ?_)
  · walk_at "wg"
    unfold f_l_signs b_l_signs
    walk_at "wg"
    refine (spoon_ok (by decide) (by decide) hp).imp fun d S2 ⟨r2, ed, h4, h5, hp2⟩ => ?_
    subst ed
    obtain ⟨n, rfl⟩ : ∃ n : Nat, r2 = n := ⟨r2.toNat, by omega⟩
    have nl : n < (" !\"#$&'()*+,-./0123456789:;<=>?@ABCDEFGHIJKLMNOPQRSTUVWXYZ[\\]^_`abcdefghijklmnopqrstuvwxyz{|}~" : Str).cps.toList.length := by
      have e : (" !\"#$&'()*+,-./0123456789:;<=>?@ABCDEFGHIJKLMNOPQRSTUVWXYZ[\\]^_`abcdefghijklmnopqrstuvwxyz{|}~" : Str).cps.toList.length = 94 := by kernel_rfl
      omega
    refine W.ixs (by decide +kernel) (atI_nat (List.getElem?_eq_getElem nl)) ⟨List.mem_append_right _ ?_, hp2⟩
    exact List.mem_map.mpr ⟨_, List.getElem_mem nl, rfl⟩
  · walk_at "wg"
    refine (of_ok (by decide) (by decide) hp).imp fun d S2 ⟨hm, hp2⟩ => ?_
    exact ⟨List.mem_append_left _ hm, hp2⟩
end
section
open PySem PySem.Spec PyProof.Rows L2
local macro_rules | `(tactic| walk_at "wg") => `(tactic| repeat' first | with_reducible refine W.run ?_ | with_reducible refine W.runi ?_ | with_reducible refine W.seq ?_ | with_reducible refine W.set ?_ | with_reducible refine W.ret ?_ | with_reducible refine W.ifs ?_ | with_reducible refine W.disp1 ?_ | with_reducible refine W.ife ?_ | with_reducible refine W.skip ?_ | with_reducible refine W.rdd rfl ?_ | with_reducible refine W.lst ?_ | with_reducible refine W.tup ?_ | with_reducible refine W.asg ?_ | with_reducible refine W.fmt ?_ | with_reducible refine W.nkd ?_ | with_reducible refine W.ndd ?_ | with_reducible refine W.tv ?_ | with_reducible refine W.notm ?_ | with_reducible refine W.bin ?_ | with_reducible refine W.one ?_ | with_reducible refine W.callm ?_ | with_reducible refine W.call ?_ | with_reducible refine W.cons ?_ | with_reducible refine W.nil ?_ | with_reducible refine W.cst ?_ | with_reducible refine W.ixm rfl rfl ?_ | with_reducible refine W.gt ?_ | with_reducible refine W.add ?_ | with_reducible refine W.mul (cm_r (by decide) (by decide)) ?_ | with_reducible refine W.mod (by first | assumption | decide) ?_ | with_reducible refine W.fdiv (by first | assumption | exact cdv_r (by decide) (by decide)) ?_ | with_reducible refine W.intd ?_ | with_reducible refine W.eqI ?_ | with_reducible refine W.lenL ?_ | with_reducible refine W.tbd ?_ | with_reducible refine W.mput (k := 0) ?_ | with_reducible refine W.tgt2 ?_ | with_reducible refine W.tgn ?_ | with_reducible refine W.tgd rfl ?_ | with_reducible refine W.app rfl ?_ | with_reducible refine W.fld ?_ | with_reducible refine W.keys ?_ | refine And.intro rfl ?_ | refine And.intro (Nat.le_of_ble_eq_true rfl) ?_ | dsimp only)
local macro_rules | `(tactic| walk_at "wh") => `(tactic| repeat' first | with_reducible refine W.run ?_ | with_reducible refine W.runi ?_ | with_reducible refine W.seq ?_ | with_reducible refine W.set ?_ | with_reducible refine W.ret ?_ | with_reducible refine W.ifs ?_ | with_reducible refine W.disp1 ?_ | with_reducible refine W.skip ?_ | with_reducible refine W.rdd rfl ?_ | with_reducible refine W.lst ?_ | with_reducible refine W.tup ?_ | with_reducible refine W.asg ?_ | with_reducible refine W.fmt ?_ | with_reducible refine W.nkd ?_ | with_reducible refine W.ndd ?_ | with_reducible refine W.tv ?_ | with_reducible refine W.notm ?_ | with_reducible refine W.bin ?_ | with_reducible refine W.one ?_ | with_reducible refine W.callm ?_ | with_reducible refine W.call ?_ | with_reducible refine W.cons ?_ | with_reducible refine W.nil ?_ | with_reducible refine W.cst ?_ | with_reducible refine W.ixm rfl rfl ?_ | with_reducible refine W.gt ?_ | with_reducible refine W.add ?_ | with_reducible refine W.mul (cm_r (by decide) (by decide)) ?_ | with_reducible refine W.mod (by first | assumption | decide) ?_ | with_reducible refine W.fdiv (by first | assumption | exact cdv_r (by decide) (by decide)) ?_ | with_reducible refine W.intd ?_ | with_reducible refine W.eqI ?_ | with_reducible refine W.lenL ?_ | with_reducible refine W.tbd ?_ | with_reducible refine W.mput (k := 0) ?_ | with_reducible refine W.tgt2 ?_ | with_reducible refine W.tgn ?_ | with_reducible refine W.tgd rfl ?_ | with_reducible refine W.app rfl ?_ | with_reducible refine W.fld ?_ | with_reducible refine W.keys ?_ | refine And.intro rfl ?_ | refine And.intro (Nat.le_of_ble_eq_true rfl) ?_ | dsimp only)
local macro_rules | `(tactic| walk_at "wf") => `(tactic| repeat' first | with_reducible refine W.run ?_ | with_reducible refine W.runi ?_ | with_reducible refine W.seq ?_ | with_reducible refine W.set ?_ | with_reducible refine W.ret ?_ | with_reducible refine W.ifs ?_ | with_reducible refine W.disp1 ?_ | with_reducible refine W.fors ?_ | with_reducible refine W.forc ?_ | with_reducible refine W.forn ?_ | with_reducible refine W.zip ?_ | (with_reducible refine W.ife_f (by kernel_rfl) ?_) | (with_reducible refine W.ife_t (by kernel_rfl) ?_) | with_reducible refine W.skip ?_ | with_reducible refine W.rdd rfl ?_ | with_reducible refine W.lst ?_ | with_reducible refine W.tup ?_ | with_reducible refine W.asg ?_ | with_reducible refine W.fmt ?_ | with_reducible refine W.nkd ?_ | with_reducible refine W.ndd ?_ | with_reducible refine W.tv ?_ | with_reducible refine W.notm ?_ | with_reducible refine W.bin ?_ | with_reducible refine W.one ?_ | with_reducible refine W.callm ?_ | with_reducible refine W.call ?_ | with_reducible refine W.cons ?_ | with_reducible refine W.nil ?_ | with_reducible refine W.cst ?_ | with_reducible refine W.ixm rfl rfl ?_ | with_reducible refine W.gt ?_ | with_reducible refine W.add ?_ | with_reducible refine W.mul (cm_r (by decide) (by decide)) ?_ | with_reducible refine W.mod (by first | assumption | decide) ?_ | with_reducible refine W.fdiv (by first | assumption | exact cdv_r (by decide) (by decide)) ?_ | with_reducible refine W.intd ?_ | with_reducible refine W.eqI ?_ | with_reducible refine W.lenL ?_ | with_reducible refine W.tbd ?_ | with_reducible refine W.mput (k := 0) ?_ | with_reducible refine W.tgt2 ?_ | with_reducible refine W.tgn ?_ | with_reducible refine W.tgd rfl ?_ | with_reducible refine W.app rfl ?_ | with_reducible refine W.fld ?_ | with_reducible refine W.keys ?_ | refine And.intro rfl ?_ | refine And.intro (Nat.le_of_ble_eq_true rfl) ?_ | dsimp only)
theorem shape_ok {S : Sto} (h : PotS S) : W (f_l_shape [.mt 0]) S fun d S' => (∃ b s l g m w f sd, d = .dct [(.inr "base", b), (.inr "sign", s), (.inr "least", l), (.inr "group", g), (.inr "mark", m), (.inr "width", w), (.inr "fill", f), (.inr "side", sd)] ∧ b ∈ vBase ∧ s ∈ vSign ∧ l ∈ vLeast ∧ g ∈ vGroup ∧ m ∈ vMark ∧ w ∈ vWidth ∧ f ∈ vMark ∧ sd ∈ vSide) ∧ PotS S' := by
  unfold f_l_shape b_l_shape
  walk_at "wh"
  refine (spoon_ok (by decide) (by decide) h).imp fun d S1 ⟨far, ed, h2, h3, hp⟩ => ?_
  subst ed
  clear h
  walk_at "wh"
  refine W.imp (P := fun b S' => b ∈ vBase ∧ PotS S') ?_ fun b S2 ⟨hb, hp2⟩ => ?_
  · walk_at "wg"
    refine W.ifd (fun c => ?_) (fun c => ?_)
    · walk_at "wg"
      refine (spoon_ok (by decide) (by decide) hp).imp fun d S2 ⟨r, ed, h4, h5, hp2⟩ => ?_
      subst ed
      walk_at "wg"
      obtain ⟨n, rfl⟩ : ∃ n : Nat, r = n := ⟨r.toNat, by omega⟩
      exact ⟨List.mem_append_right _ (List.mem_map.mpr ⟨n, List.mem_range.mpr (by omega), rfl⟩), hp2⟩
    · walk_at "wg"
      exact (of_ok (by decide) (by decide) hp).imp fun d S2 ⟨hm, hp2⟩ => ⟨List.mem_append_left _ hm, hp2⟩
  clear hp
  walk_at "wh"
  refine (of_ok (by decide) (by decide) hp2).imp fun s S3 ⟨hs, hp3⟩ => ?_
  clear hp2
  walk_at "wh"
  refine W.imp (P := fun b S' => b ∈ vLeast ∧ PotS S') ?_ fun l S4 ⟨hl, hp4⟩ => ?_
  · walk_at "wg"
    refine W.ifd (fun c => ?_) (fun c => ?_)
    · walk_at "wg"
      refine (spoon_ok (by decide) (by decide) hp3).imp fun d S2 ⟨r, ed, h4, h5, hp2⟩ => ?_
      subst ed
      walk_at "wg"
      obtain ⟨n, rfl⟩ : ∃ n : Nat, r = n := ⟨r.toNat, by omega⟩
      exact ⟨List.mem_append_right _ (List.mem_map.mpr ⟨n, List.mem_range.mpr (by omega), rfl⟩), hp2⟩
    · walk_at "wg"
      exact (of_ok (by decide) (by decide) hp3).imp fun d S2 ⟨hm, hp2⟩ => ⟨List.mem_append_left _ hm, hp2⟩
  clear hp3
  walk_at "wh"
  refine (of_ok (by decide) (by decide) hp4).imp fun g S5 ⟨hg, hp5⟩ => ?_
  clear hp4
  walk_at "wh"
  refine (sign_ok hp5).imp fun m S6 ⟨hm, hp6⟩ => ?_
  clear hp5
  walk_at "wh"
  refine W.imp (P := fun b S' => b ∈ vWidth ∧ PotS S') ?_ fun w S7 ⟨hw, hp7⟩ => ?_
  · walk_at "wg"
    refine W.ifd (fun c => ?_) (fun c => ?_)
    · walk_at "wg"
      refine (spoon_ok (by decide) (by decide) hp6).imp fun d S2 ⟨r, ed, h4, h5, hp2⟩ => ?_
      subst ed
      obtain ⟨n, rfl⟩ : ∃ n : Nat, r = n := ⟨r.toNat, by omega⟩
      exact ⟨List.mem_append_right _ (List.mem_map.mpr ⟨n, List.mem_range.mpr (by omega), rfl⟩), hp2⟩
    · walk_at "wg"
      exact (of_ok (by decide) (by decide) hp6).imp fun d S2 ⟨hm, hp2⟩ => ⟨List.mem_append_left _ hm, hp2⟩
  clear hp6
  walk_at "wh"
  refine (sign_ok hp7).imp fun f S8 ⟨hf, hp8⟩ => ?_
  clear hp7
  walk_at "wh"
  refine (of_ok (by decide) (by decide) hp8).imp fun sd S9 ⟨hsd, hp9⟩ => ?_
  clear hp8
  walk_at "wh"
  exact ⟨⟨b, s, l, g, m, w, f, sd, by kernel_rfl, hb, hs, hl, hg, hm, hw, hf, hsd⟩, hp9⟩
end
section
open PySem PySem.Spec PyProof.Rows L2
local macro_rules | `(tactic| walk_at "wg") => `(tactic| repeat' first | with_reducible refine W.run ?_ | with_reducible refine W.runi ?_ | with_reducible refine W.seq ?_ | with_reducible refine W.set ?_ | with_reducible refine W.ret ?_ | with_reducible refine W.ifs ?_ | with_reducible refine W.disp1 ?_ | with_reducible refine W.ife ?_ | with_reducible refine W.skip ?_ | with_reducible refine W.rdd rfl ?_ | with_reducible refine W.lst ?_ | with_reducible refine W.tup ?_ | with_reducible refine W.asg ?_ | with_reducible refine W.fmt ?_ | with_reducible refine W.nkd ?_ | with_reducible refine W.ndd ?_ | with_reducible refine W.tv ?_ | with_reducible refine W.notm ?_ | with_reducible refine W.bin ?_ | with_reducible refine W.one ?_ | with_reducible refine W.callm ?_ | with_reducible refine W.call ?_ | with_reducible refine W.cons ?_ | with_reducible refine W.nil ?_ | with_reducible refine W.cst ?_ | with_reducible refine W.ixm rfl rfl ?_ | with_reducible refine W.gt ?_ | with_reducible refine W.add ?_ | with_reducible refine W.mul (cm_r (by decide) (by decide)) ?_ | with_reducible refine W.mod (by first | assumption | decide) ?_ | with_reducible refine W.fdiv (by first | assumption | exact cdv_r (by decide) (by decide)) ?_ | with_reducible refine W.intd ?_ | with_reducible refine W.eqI ?_ | with_reducible refine W.lenL ?_ | with_reducible refine W.tbd ?_ | with_reducible refine W.mput (k := 0) ?_ | with_reducible refine W.tgt2 ?_ | with_reducible refine W.tgn ?_ | with_reducible refine W.tgd rfl ?_ | with_reducible refine W.app rfl ?_ | with_reducible refine W.fld ?_ | with_reducible refine W.keys ?_ | refine And.intro rfl ?_ | refine And.intro (Nat.le_of_ble_eq_true rfl) ?_ | dsimp only)
local macro_rules | `(tactic| walk_at "wh") => `(tactic| repeat' first | with_reducible refine W.run ?_ | with_reducible refine W.runi ?_ | with_reducible refine W.seq ?_ | with_reducible refine W.set ?_ | with_reducible refine W.ret ?_ | with_reducible refine W.ifs ?_ | with_reducible refine W.disp1 ?_ | with_reducible refine W.skip ?_ | with_reducible refine W.rdd rfl ?_ | with_reducible refine W.lst ?_ | with_reducible refine W.tup ?_ | with_reducible refine W.asg ?_ | with_reducible refine W.fmt ?_ | with_reducible refine W.nkd ?_ | with_reducible refine W.ndd ?_ | with_reducible refine W.tv ?_ | with_reducible refine W.notm ?_ | with_reducible refine W.bin ?_ | with_reducible refine W.one ?_ | with_reducible refine W.callm ?_ | with_reducible refine W.call ?_ | with_reducible refine W.cons ?_ | with_reducible refine W.nil ?_ | with_reducible refine W.cst ?_ | with_reducible refine W.ixm rfl rfl ?_ | with_reducible refine W.gt ?_ | with_reducible refine W.add ?_ | with_reducible refine W.mul (cm_r (by decide) (by decide)) ?_ | with_reducible refine W.mod (by first | assumption | decide) ?_ | with_reducible refine W.fdiv (by first | assumption | exact cdv_r (by decide) (by decide)) ?_ | with_reducible refine W.intd ?_ | with_reducible refine W.eqI ?_ | with_reducible refine W.lenL ?_ | with_reducible refine W.tbd ?_ | with_reducible refine W.mput (k := 0) ?_ | with_reducible refine W.tgt2 ?_ | with_reducible refine W.tgn ?_ | with_reducible refine W.tgd rfl ?_ | with_reducible refine W.app rfl ?_ | with_reducible refine W.fld ?_ | with_reducible refine W.keys ?_ | refine And.intro rfl ?_ | refine And.intro (Nat.le_of_ble_eq_true rfl) ?_ | dsimp only)
local macro_rules | `(tactic| walk_at "wf") => `(tactic| repeat' first | with_reducible refine W.run ?_ | with_reducible refine W.runi ?_ | with_reducible refine W.seq ?_ | with_reducible refine W.set ?_ | with_reducible refine W.ret ?_ | with_reducible refine W.ifs ?_ | with_reducible refine W.disp1 ?_ | with_reducible refine W.fors ?_ | with_reducible refine W.forc ?_ | with_reducible refine W.forn ?_ | with_reducible refine W.zip ?_ | (with_reducible refine W.ife_f (by kernel_rfl) ?_) | (with_reducible refine W.ife_t (by kernel_rfl) ?_) | with_reducible refine W.skip ?_ | with_reducible refine W.rdd rfl ?_ | with_reducible refine W.lst ?_ | with_reducible refine W.tup ?_ | with_reducible refine W.asg ?_ | with_reducible refine W.fmt ?_ | with_reducible refine W.nkd ?_ | with_reducible refine W.ndd ?_ | with_reducible refine W.tv ?_ | with_reducible refine W.notm ?_ | with_reducible refine W.bin ?_ | with_reducible refine W.one ?_ | with_reducible refine W.callm ?_ | with_reducible refine W.call ?_ | with_reducible refine W.cons ?_ | with_reducible refine W.nil ?_ | with_reducible refine W.cst ?_ | with_reducible refine W.ixm rfl rfl ?_ | with_reducible refine W.gt ?_ | with_reducible refine W.add ?_ | with_reducible refine W.mul (cm_r (by decide) (by decide)) ?_ | with_reducible refine W.mod (by first | assumption | decide) ?_ | with_reducible refine W.fdiv (by first | assumption | exact cdv_r (by decide) (by decide)) ?_ | with_reducible refine W.intd ?_ | with_reducible refine W.eqI ?_ | with_reducible refine W.lenL ?_ | with_reducible refine W.tbd ?_ | with_reducible refine W.mput (k := 0) ?_ | with_reducible refine W.tgt2 ?_ | with_reducible refine W.tgn ?_ | with_reducible refine W.tgd rfl ?_ | with_reducible refine W.app rfl ?_ | with_reducible refine W.fld ?_ | with_reducible refine W.keys ?_ | refine And.intro rfl ?_ | refine And.intro (Nat.le_of_ble_eq_true rfl) ?_ | dsimp only)
/-- its word -/
def wordX (d : D) : Str := match fmtD d [] with
  | some (.ok x, _) => x
  | _ => ""
def codeX (d : D) : Int := match f_code_of [d] [] with
  | some (.ok (.int i), _) => i
  | _ => 0
end
section
open PySem PySem.Spec PyProof.Rows L2
local macro_rules | `(tactic| walk_at "wg") => `(tactic| repeat' first | with_reducible refine W.run ?_ | with_reducible refine W.runi ?_ | with_reducible refine W.seq ?_ | with_reducible refine W.set ?_ | with_reducible refine W.ret ?_ | with_reducible refine W.ifs ?_ | with_reducible refine W.disp1 ?_ | with_reducible refine W.ife ?_ | with_reducible refine W.skip ?_ | with_reducible refine W.rdd rfl ?_ | with_reducible refine W.lst ?_ | with_reducible refine W.tup ?_ | with_reducible refine W.asg ?_ | with_reducible refine W.fmt ?_ | with_reducible refine W.nkd ?_ | with_reducible refine W.ndd ?_ | with_reducible refine W.tv ?_ | with_reducible refine W.notm ?_ | with_reducible refine W.bin ?_ | with_reducible refine W.one ?_ | with_reducible refine W.callm ?_ | with_reducible refine W.call ?_ | with_reducible refine W.cons ?_ | with_reducible refine W.nil ?_ | with_reducible refine W.cst ?_ | with_reducible refine W.ixm rfl rfl ?_ | with_reducible refine W.gt ?_ | with_reducible refine W.add ?_ | with_reducible refine W.mul (cm_r (by decide) (by decide)) ?_ | with_reducible refine W.mod (by first | assumption | decide) ?_ | with_reducible refine W.fdiv (by first | assumption | exact cdv_r (by decide) (by decide)) ?_ | with_reducible refine W.intd ?_ | with_reducible refine W.eqI ?_ | with_reducible refine W.lenL ?_ | with_reducible refine W.tbd ?_ | with_reducible refine W.mput (k := 0) ?_ | with_reducible refine W.tgt2 ?_ | with_reducible refine W.tgn ?_ | with_reducible refine W.tgd rfl ?_ | with_reducible refine W.app rfl ?_ | with_reducible refine W.fld ?_ | with_reducible refine W.keys ?_ | refine And.intro rfl ?_ | refine And.intro (Nat.le_of_ble_eq_true rfl) ?_ | dsimp only)
local macro_rules | `(tactic| walk_at "wh") => `(tactic| repeat' first | with_reducible refine W.run ?_ | with_reducible refine W.runi ?_ | with_reducible refine W.seq ?_ | with_reducible refine W.set ?_ | with_reducible refine W.ret ?_ | with_reducible refine W.ifs ?_ | with_reducible refine W.disp1 ?_ | with_reducible refine W.skip ?_ | with_reducible refine W.rdd rfl ?_ | with_reducible refine W.lst ?_ | with_reducible refine W.tup ?_ | with_reducible refine W.asg ?_ | with_reducible refine W.fmt ?_ | with_reducible refine W.nkd ?_ | with_reducible refine W.ndd ?_ | with_reducible refine W.tv ?_ | with_reducible refine W.notm ?_ | with_reducible refine W.bin ?_ | with_reducible refine W.one ?_ | with_reducible refine W.callm ?_ | with_reducible refine W.call ?_ | with_reducible refine W.cons ?_ | with_reducible refine W.nil ?_ | with_reducible refine W.cst ?_ | with_reducible refine W.ixm rfl rfl ?_ | with_reducible refine W.gt ?_ | with_reducible refine W.add ?_ | with_reducible refine W.mul (cm_r (by decide) (by decide)) ?_ | with_reducible refine W.mod (by first | assumption | decide) ?_ | with_reducible refine W.fdiv (by first | assumption | exact cdv_r (by decide) (by decide)) ?_ | with_reducible refine W.intd ?_ | with_reducible refine W.eqI ?_ | with_reducible refine W.lenL ?_ | with_reducible refine W.tbd ?_ | with_reducible refine W.mput (k := 0) ?_ | with_reducible refine W.tgt2 ?_ | with_reducible refine W.tgn ?_ | with_reducible refine W.tgd rfl ?_ | with_reducible refine W.app rfl ?_ | with_reducible refine W.fld ?_ | with_reducible refine W.keys ?_ | refine And.intro rfl ?_ | refine And.intro (Nat.le_of_ble_eq_true rfl) ?_ | dsimp only)
local macro_rules | `(tactic| walk_at "wf") => `(tactic| repeat' first | with_reducible refine W.run ?_ | with_reducible refine W.runi ?_ | with_reducible refine W.seq ?_ | with_reducible refine W.set ?_ | with_reducible refine W.ret ?_ | with_reducible refine W.ifs ?_ | with_reducible refine W.disp1 ?_ | with_reducible refine W.fors ?_ | with_reducible refine W.forc ?_ | with_reducible refine W.forn ?_ | with_reducible refine W.zip ?_ | (with_reducible refine W.ife_f (by kernel_rfl) ?_) | (with_reducible refine W.ife_t (by kernel_rfl) ?_) | with_reducible refine W.skip ?_ | with_reducible refine W.rdd rfl ?_ | with_reducible refine W.lst ?_ | with_reducible refine W.tup ?_ | with_reducible refine W.asg ?_ | with_reducible refine W.fmt ?_ | with_reducible refine W.nkd ?_ | with_reducible refine W.ndd ?_ | with_reducible refine W.tv ?_ | with_reducible refine W.notm ?_ | with_reducible refine W.bin ?_ | with_reducible refine W.one ?_ | with_reducible refine W.callm ?_ | with_reducible refine W.call ?_ | with_reducible refine W.cons ?_ | with_reducible refine W.nil ?_ | with_reducible refine W.cst ?_ | with_reducible refine W.ixm rfl rfl ?_ | with_reducible refine W.gt ?_ | with_reducible refine W.add ?_ | with_reducible refine W.mul (cm_r (by decide) (by decide)) ?_ | with_reducible refine W.mod (by first | assumption | decide) ?_ | with_reducible refine W.fdiv (by first | assumption | exact cdv_r (by decide) (by decide)) ?_ | with_reducible refine W.intd ?_ | with_reducible refine W.eqI ?_ | with_reducible refine W.lenL ?_ | with_reducible refine W.tbd ?_ | with_reducible refine W.mput (k := 0) ?_ | with_reducible refine W.tgt2 ?_ | with_reducible refine W.tgn ?_ | with_reducible refine W.tgd rfl ?_ | with_reducible refine W.app rfl ?_ | with_reducible refine W.fld ?_ | with_reducible refine W.keys ?_ | refine And.intro rfl ?_ | refine And.intro (Nat.le_of_ble_eq_true rfl) ?_ | dsimp only)
def isMF (nm : Str) : Bool := [D.str "mark", D.str "fill"].any fun y => eqF y (.str nm)
def pieceX (nm : Str) (d : D) : Str := if isMF nm = true then toString (codeX d) else wordX d
abbrev pieceE : DEnv → M D := ifE (tvM (binM (inQD false) (rd 2) (tupM (consM (cM (.str "mark")) (consM (cM (.str "fill")) nilM))))) (fmtM (callD 1 f_code_of (consM (rd 3) nilM))) (fmtM (rd 3))
def pyX (d : D) : PyData := match pyN 19 d with
  | some p => p
  | none => .none
def fitB (nm : Str) (d : D) : Bool := scalD d && (eqF d d && (!eqF d .non && (decide ((pieceX nm d).length ≤ 20) && ((pieceX nm d).cps.toList.all (fun c => decide (c ≠ 32)) && ((pieceX nm d).cps.toList.all (fun c => decide (c < 1000)) && ((pyX d).showable && (decide ((pyX d).shown.length ≤ 20) && decide ((pyX d).depth ≤ 1))))))))
structure Fit (nm : Str) (d : D) : Prop where
  good : ∀ S, f_is_setting [.str nm, d] S = some (.ok (.bl true), S)
  text : ∀ t l S, pieceE [t, l, some (.str nm), some d] S = some (.ok (.str (pieceX nm d)), S)
  read : ∀ S, f_setting_in [.str nm, .str (pieceX nm d)] S = some (.ok d, S)
  py : pyN 19 d = some (pyX d)
  chk : fitB nm d = true
theorem fitA {nm : Str} {l : List D} (h1 : ∀ S, l.map (fun d => f_is_setting [.str nm, d] S) = l.map fun _ => some (.ok (.bl true), S))
    (h2 : ∀ t b S, l.map (fun d => pieceE [t, b, some (.str nm), some d] S) = l.map fun d => some (.ok (.str (pieceX nm d)), S))
    (h5 : ∀ S, l.map (fun d => f_setting_in [.str nm, .str (pieceX nm d)] S) = l.map fun d => some (.ok d, S))
    (h6 : l.map (fun d => pyN 19 d) = l.map fun d => some (pyX d)) (h7 : l.all (fitB nm) = true) : ∀ d ∈ l, Fit nm d := fun d hd =>
  ⟨fun S => all_eq (h1 S) d hd, fun t b S => all_eq (h2 t b S) d hd, fun S => all_eq (h5 S) d hd, all_eq h6 d hd, List.all_eq_true.mp h7 d hd⟩
theorem fit_base : ∀ d ∈ vBase, Fit "base" d := fitA (fun S => by kernel_rfl) (fun t b S => by kernel_rfl) (fun S => by kernel_rfl) (by kernel_rfl) (by kernel_rfl)
theorem fit_sign : ∀ d ∈ vSign, Fit "sign" d := fitA (fun S => by kernel_rfl) (fun t b S => by kernel_rfl) (fun S => by kernel_rfl) (by kernel_rfl) (by kernel_rfl)
theorem fit_least : ∀ d ∈ vLeast, Fit "least" d := fitA (fun S => by kernel_rfl) (fun t b S => by kernel_rfl) (fun S => by kernel_rfl) (by kernel_rfl) (by kernel_rfl)
theorem fit_group : ∀ d ∈ vGroup, Fit "group" d := fitA (fun S => by kernel_rfl) (fun t b S => by kernel_rfl) (fun S => by kernel_rfl) (by kernel_rfl) (by kernel_rfl)
theorem fit_mark : ∀ d ∈ vMark, Fit "mark" d := fitA (fun S => by kernel_rfl) (fun t b S => by kernel_rfl) (fun S => by kernel_rfl) (by kernel_rfl) (by kernel_rfl)
theorem fit_width : ∀ d ∈ vWidth, Fit "width" d := fitA (fun S => by kernel_rfl) (fun t b S => by kernel_rfl) (fun S => by kernel_rfl) (by kernel_rfl) (by kernel_rfl)
theorem fit_fill : ∀ d ∈ vMark, Fit "fill" d := fitA (fun S => by kernel_rfl) (fun t b S => by kernel_rfl) (fun S => by kernel_rfl) (by kernel_rfl) (by kernel_rfl)
theorem fit_side : ∀ d ∈ vSide, Fit "side" d := fitA (fun S => by kernel_rfl) (fun t b S => by kernel_rfl) (fun S => by kernel_rfl) (by kernel_rfl) (by kernel_rfl)
end
section
open PySem PySem.Spec PyProof.Rows L2
local macro_rules | `(tactic| walk_at "wg") => `(tactic| repeat' first | with_reducible refine W.run ?_ | with_reducible refine W.runi ?_ | with_reducible refine W.seq ?_ | with_reducible refine W.set ?_ | with_reducible refine W.ret ?_ | with_reducible refine W.ifs ?_ | with_reducible refine W.disp1 ?_ | with_reducible refine W.ife ?_ | with_reducible refine W.skip ?_ | with_reducible refine W.rdd rfl ?_ | with_reducible refine W.lst ?_ | with_reducible refine W.tup ?_ | with_reducible refine W.asg ?_ | with_reducible refine W.fmt ?_ | with_reducible refine W.nkd ?_ | with_reducible refine W.ndd ?_ | with_reducible refine W.tv ?_ | with_reducible refine W.notm ?_ | with_reducible refine W.bin ?_ | with_reducible refine W.one ?_ | with_reducible refine W.callm ?_ | with_reducible refine W.call ?_ | with_reducible refine W.cons ?_ | with_reducible refine W.nil ?_ | with_reducible refine W.cst ?_ | with_reducible refine W.ixm rfl rfl ?_ | with_reducible refine W.gt ?_ | with_reducible refine W.add ?_ | with_reducible refine W.mul (cm_r (by decide) (by decide)) ?_ | with_reducible refine W.mod (by first | assumption | decide) ?_ | with_reducible refine W.fdiv (by first | assumption | exact cdv_r (by decide) (by decide)) ?_ | with_reducible refine W.intd ?_ | with_reducible refine W.eqI ?_ | with_reducible refine W.lenL ?_ | with_reducible refine W.tbd ?_ | with_reducible refine W.mput (k := 0) ?_ | with_reducible refine W.tgt2 ?_ | with_reducible refine W.tgn ?_ | with_reducible refine W.tgd rfl ?_ | with_reducible refine W.app rfl ?_ | with_reducible refine W.fld ?_ | with_reducible refine W.keys ?_ | refine And.intro rfl ?_ | refine And.intro (Nat.le_of_ble_eq_true rfl) ?_ | dsimp only)
local macro_rules | `(tactic| walk_at "wh") => `(tactic| repeat' first | with_reducible refine W.run ?_ | with_reducible refine W.runi ?_ | with_reducible refine W.seq ?_ | with_reducible refine W.set ?_ | with_reducible refine W.ret ?_ | with_reducible refine W.ifs ?_ | with_reducible refine W.disp1 ?_ | with_reducible refine W.skip ?_ | with_reducible refine W.rdd rfl ?_ | with_reducible refine W.lst ?_ | with_reducible refine W.tup ?_ | with_reducible refine W.asg ?_ | with_reducible refine W.fmt ?_ | with_reducible refine W.nkd ?_ | with_reducible refine W.ndd ?_ | with_reducible refine W.tv ?_ | with_reducible refine W.notm ?_ | with_reducible refine W.bin ?_ | with_reducible refine W.one ?_ | with_reducible refine W.callm ?_ | with_reducible refine W.call ?_ | with_reducible refine W.cons ?_ | with_reducible refine W.nil ?_ | with_reducible refine W.cst ?_ | with_reducible refine W.ixm rfl rfl ?_ | with_reducible refine W.gt ?_ | with_reducible refine W.add ?_ | with_reducible refine W.mul (cm_r (by decide) (by decide)) ?_ | with_reducible refine W.mod (by first | assumption | decide) ?_ | with_reducible refine W.fdiv (by first | assumption | exact cdv_r (by decide) (by decide)) ?_ | with_reducible refine W.intd ?_ | with_reducible refine W.eqI ?_ | with_reducible refine W.lenL ?_ | with_reducible refine W.tbd ?_ | with_reducible refine W.mput (k := 0) ?_ | with_reducible refine W.tgt2 ?_ | with_reducible refine W.tgn ?_ | with_reducible refine W.tgd rfl ?_ | with_reducible refine W.app rfl ?_ | with_reducible refine W.fld ?_ | with_reducible refine W.keys ?_ | refine And.intro rfl ?_ | refine And.intro (Nat.le_of_ble_eq_true rfl) ?_ | dsimp only)
local macro_rules | `(tactic| walk_at "wf") => `(tactic| repeat' first | with_reducible refine W.run ?_ | with_reducible refine W.runi ?_ | with_reducible refine W.seq ?_ | with_reducible refine W.set ?_ | with_reducible refine W.ret ?_ | with_reducible refine W.ifs ?_ | with_reducible refine W.disp1 ?_ | with_reducible refine W.fors ?_ | with_reducible refine W.forc ?_ | with_reducible refine W.forn ?_ | with_reducible refine W.zip ?_ | (with_reducible refine W.ife_f (by kernel_rfl) ?_) | (with_reducible refine W.ife_t (by kernel_rfl) ?_) | with_reducible refine W.skip ?_ | with_reducible refine W.rdd rfl ?_ | with_reducible refine W.lst ?_ | with_reducible refine W.tup ?_ | with_reducible refine W.asg ?_ | with_reducible refine W.fmt ?_ | with_reducible refine W.nkd ?_ | with_reducible refine W.ndd ?_ | with_reducible refine W.tv ?_ | with_reducible refine W.notm ?_ | with_reducible refine W.bin ?_ | with_reducible refine W.one ?_ | with_reducible refine W.callm ?_ | with_reducible refine W.call ?_ | with_reducible refine W.cons ?_ | with_reducible refine W.nil ?_ | with_reducible refine W.cst ?_ | with_reducible refine W.ixm rfl rfl ?_ | with_reducible refine W.gt ?_ | with_reducible refine W.add ?_ | with_reducible refine W.mul (cm_r (by decide) (by decide)) ?_ | with_reducible refine W.mod (by first | assumption | decide) ?_ | with_reducible refine W.fdiv (by first | assumption | exact cdv_r (by decide) (by decide)) ?_ | with_reducible refine W.intd ?_ | with_reducible refine W.eqI ?_ | with_reducible refine W.lenL ?_ | with_reducible refine W.tbd ?_ | with_reducible refine W.mput (k := 0) ?_ | with_reducible refine W.tgt2 ?_ | with_reducible refine W.tgn ?_ | with_reducible refine W.tgd rfl ?_ | with_reducible refine W.app rfl ?_ | with_reducible refine W.fld ?_ | with_reducible refine W.keys ?_ | refine And.intro rfl ?_ | refine And.intro (Nat.le_of_ble_eq_true rfl) ?_ | dsimp only)
theorem W.toEq {α : Type} {m : M α} {S S' : Sto} {a : α} (h : W m S fun x S2 => x = a ∧ S2 = S') : m S = some (.ok a, S') := by
  obtain ⟨x, S2, e, rfl, rfl⟩ := h
  exact e
theorem W.forE {g : D → DEnv → M DEnv} {b : DEnv → M (DEnv × Fl)} {x : D} {r : List D} {δ δ' : DEnv} {S S' : Sto} {PS : DEnv × Fl → Sto → Prop} (h : W (g x δ) S fun δ1 S1 => W (b δ1) S1 fun p S2 => p = (δ', .nx) ∧ S2 = S') (k : W (forL g b r δ') S' PS) : W (forL g b (x :: r) δ) S PS :=
  W.forc (h.imp fun δ1 S1 q => q.imp fun p S2 ⟨e, e2⟩ => by subst e e2; exact k)
section
variable {α β : Type} {m : M α} {f : α → M β} {S S1 S' : Sto} {e : Ex} {a : α}
theorem Er.bind (h : m S = some (.error e, S')) : (m >>= f) S = some (.error e, S') := by
  show M.bind m f S = _
  unfold M.bind
  rw [h]
theorem Er.bindS (h1 : m S = some (.ok a, S1)) (h2 : f a S1 = some (.error e, S')) : (m >>= f) S = some (.error e, S') := by
  show M.bind m f S = _
  unfold M.bind
  rw [h1]
  exact h2
theorem Ok.bindS {r : Option (Except Ex β × Sto)} (h1 : m S = some (.ok a, S1)) (h2 : f a S1 = r) : (m >>= f) S = r := by
  show M.bind m f S = _
  unfold M.bind
  rw [h1]
  exact h2
end
section
variable {S S1 S' : Sto} {e : Ex} {b c : DEnv → M (DEnv × Fl)} {δ δ' : DEnv} {n l : Nat} {ds : List D} {t : DEnv → M D} {tl : DEnv → M (List D)} {f : List D → M D}
theorem Er.run (h : b (startD n ds) S = some (.error e, S')) : runD n b ds S = some (.error e, S') := Er.bind h
theorem Er.runi {cl : Str} (h : b (startD n (.obj cl [] :: ds)) S = some (.error e, S')) : runI cl n b ds S = some (.error e, S') := Er.bind h
theorem Er.ret (h : t δ S = some (.error e, S')) : retS t δ S = some (.error e, S') := Er.bind h
theorem Er.call (h1 : tl δ S = some (.ok ds, S1)) (h2 : ds.length = n) (h3 : f ds S1 = some (.error e, S')) : callD n f tl δ S = some (.error e, S') := Er.bindS h1 (by rw [if_pos h2]; exact h3)
theorem Er.nkd {idx : List Nat} {md : List D} (h1 : tl δ S = some (.ok ds, S1)) (h2 : ds.length = l) (h4 : (pick idx (md ++ ds)).length + 1 = n) (h3 : f (pick idx (md ++ ds)) S1 = some (.error e, S')) : newKD idx md l n f tl δ S = some (.error e, S') := Er.bindS h1 (by rw [if_pos h2, if_pos h4]; exact h3)
theorem W.seqE {PS : DEnv × Fl → Sto → Prop} (h1 : b δ S = some (.ok (δ', .nx), S1)) (h2 : W (c δ') S1 PS) : W (seqS b c δ) S PS := W.seq (W.eq h1 h2)
end
abbrev setB : DEnv → M (DEnv × Fl) := seqS (ifS (notM (tvM (callD 2 f_is_setting (consM (rd 10) (consM (rd 11) nilM))))) (seqS (raiseS "InvalidSetting" "setting" (rd 10)) skipS) skipS) skipS
section
variable {a0 a1 a2 a3 a4 a5 a6 a7 a8 a9 a b : Option D} {nm : Str} {d : D} {S : Sto}
theorem set_cond {x : Bool} (h : f_is_setting [.str nm, d] S = some (.ok (.bl x), S)) : notM (tvM (callD 2 f_is_setting (consM (rd 10) (consM (rd 11) nilM)))) [a0, a1, a2, a3, a4, a5, a6, a7, a8, a9, some (.str nm), some d] S = some (.ok (!x), S) :=
  W.toEq (W.notm (W.tv (W.call (W.cons (W.rdd rfl (W.cons (W.rdd rfl (W.nil ⟨rfl, W.eq h (W.tbd ⟨rfl, rfl⟩)⟩))))))))
theorem set_good (h : f_is_setting [.str nm, d] S = some (.ok (.bl true), S)) : setB [a0, a1, a2, a3, a4, a5, a6, a7, a8, a9, some (.str nm), some d] S = some (.ok ([a0, a1, a2, a3, a4, a5, a6, a7, a8, a9, some (.str nm), some d], .nx), S) :=
  W.toEq (W.seq (W.ifs_f (set_cond h) (W.skip (W.skip ⟨rfl, rfl⟩))))
end
def NM : List Str := ["base", "sign", "least", "group", "mark", "width", "fill", "side"]
def wordsL (b s l g m w f sd : D) : List Str := ["base", pieceX "base" b, "sign", pieceX "sign" s, "least", pieceX "least" l, "group", pieceX "group" g, "mark", pieceX "mark" m, "width", pieceX "width" w, "fill", pieceX "fill" f, "side", pieceX "side" sd]
def wordsX (b s l g m w f sd : D) : Str := Txt.join " " (wordsL b s l g m w f sd)
def fmtO (b s l g m w f sd : D) : D := .obj "Format" [("base", b), ("sign", s), ("least", l), ("group", g), ("mark", m), ("width", w), ("fill", f), ("side", sd), ("words", .str (wordsX b s l g m w f sd))]
def dctO (b s l g m w f sd : D) : D := .dct [(.inr "base", b), (.inr "sign", s), (.inr "least", l), (.inr "group", g), (.inr "mark", m), (.inr "width", w), (.inr "fill", f), (.inr "side", sd)]
structure Fits (b s l g m w f sd : D) : Prop where
  b : Fit "base" b
  s : Fit "sign" s
  l : Fit "least" l
  g : Fit "group" g
  m : Fit "mark" m
  w : Fit "width" w
  f : Fit "fill" f
  sd : Fit "side" sd
structure FitC (nm : Str) (d : D) : Prop where
  scal : scalD d = true
  self : eqF d d = true
  non : eqF d .non = false
  len : (pieceX nm d).length ≤ 20
  free : ∀ c ∈ (pieceX nm d).cps.toList, c ≠ 32
  small : ∀ c ∈ (pieceX nm d).cps.toList, c < 1000
  sh : (pyX d).showable = true
  sl : (pyX d).shown.length ≤ 20
  dp : (pyX d).depth ≤ 1
theorem Fit.c {nm : Str} {d : D} (F : Fit nm d) : FitC nm d := by
  have h := F.chk
  unfold fitB at h
  simp only [Bool.and_eq_true, decide_eq_true_eq, Bool.not_eq_true', List.all_eq_true] at h
  obtain ⟨h1, h2, h3, h4, h5, h9, h6, h7, h8⟩ := h
  exact ⟨h1, h2, h3, h4, h5, h9, h6, h7, h8⟩
end
section
open PySem PySem.Spec PyProof.Rows L2
local macro_rules | `(tactic| walk_at "wg") => `(tactic| repeat' first | with_reducible refine W.run ?_ | with_reducible refine W.runi ?_ | with_reducible refine W.seq ?_ | with_reducible refine W.set ?_ | with_reducible refine W.ret ?_ | with_reducible refine W.ifs ?_ | with_reducible refine W.disp1 ?_ | with_reducible refine W.ife ?_ | with_reducible refine W.skip ?_ | with_reducible refine W.rdd rfl ?_ | with_reducible refine W.lst ?_ | with_reducible refine W.tup ?_ | with_reducible refine W.asg ?_ | with_reducible refine W.fmt ?_ | with_reducible refine W.nkd ?_ | with_reducible refine W.ndd ?_ | with_reducible refine W.tv ?_ | with_reducible refine W.notm ?_ | with_reducible refine W.bin ?_ | with_reducible refine W.one ?_ | with_reducible refine W.callm ?_ | with_reducible refine W.call ?_ | with_reducible refine W.cons ?_ | with_reducible refine W.nil ?_ | with_reducible refine W.cst ?_ | with_reducible refine W.ixm rfl rfl ?_ | with_reducible refine W.gt ?_ | with_reducible refine W.add ?_ | with_reducible refine W.mul (cm_r (by decide) (by decide)) ?_ | with_reducible refine W.mod (by first | assumption | decide) ?_ | with_reducible refine W.fdiv (by first | assumption | exact cdv_r (by decide) (by decide)) ?_ | with_reducible refine W.intd ?_ | with_reducible refine W.eqI ?_ | with_reducible refine W.lenL ?_ | with_reducible refine W.tbd ?_ | with_reducible refine W.mput (k := 0) ?_ | with_reducible refine W.tgt2 ?_ | with_reducible refine W.tgn ?_ | with_reducible refine W.tgd rfl ?_ | with_reducible refine W.app rfl ?_ | with_reducible refine W.fld ?_ | with_reducible refine W.keys ?_ | refine And.intro rfl ?_ | refine And.intro (Nat.le_of_ble_eq_true rfl) ?_ | dsimp only)
local macro_rules | `(tactic| walk_at "wh") => `(tactic| repeat' first | with_reducible refine W.run ?_ | with_reducible refine W.runi ?_ | with_reducible refine W.seq ?_ | with_reducible refine W.set ?_ | with_reducible refine W.ret ?_ | with_reducible refine W.ifs ?_ | with_reducible refine W.disp1 ?_ | with_reducible refine W.skip ?_ | with_reducible refine W.rdd rfl ?_ | with_reducible refine W.lst ?_ | with_reducible refine W.tup ?_ | with_reducible refine W.asg ?_ | with_reducible refine W.fmt ?_ | with_reducible refine W.nkd ?_ | with_reducible refine W.ndd ?_ | with_reducible refine W.tv ?_ | with_reducible refine W.notm ?_ | with_reducible refine W.bin ?_ | with_reducible refine W.one ?_ | with_reducible refine W.callm ?_ | with_reducible refine W.call ?_ | with_reducible refine W.cons ?_ | with_reducible refine W.nil ?_ | with_reducible refine W.cst ?_ | with_reducible refine W.ixm rfl rfl ?_ | with_reducible refine W.gt ?_ | with_reducible refine W.add ?_ | with_reducible refine W.mul (cm_r (by decide) (by decide)) ?_ | with_reducible refine W.mod (by first | assumption | decide) ?_ | with_reducible refine W.fdiv (by first | assumption | exact cdv_r (by decide) (by decide)) ?_ | with_reducible refine W.intd ?_ | with_reducible refine W.eqI ?_ | with_reducible refine W.lenL ?_ | with_reducible refine W.tbd ?_ | with_reducible refine W.mput (k := 0) ?_ | with_reducible refine W.tgt2 ?_ | with_reducible refine W.tgn ?_ | with_reducible refine W.tgd rfl ?_ | with_reducible refine W.app rfl ?_ | with_reducible refine W.fld ?_ | with_reducible refine W.keys ?_ | refine And.intro rfl ?_ | refine And.intro (Nat.le_of_ble_eq_true rfl) ?_ | dsimp only)
local macro_rules | `(tactic| walk_at "wf") => `(tactic| repeat' first | with_reducible refine W.run ?_ | with_reducible refine W.runi ?_ | with_reducible refine W.seq ?_ | with_reducible refine W.set ?_ | with_reducible refine W.ret ?_ | with_reducible refine W.ifs ?_ | with_reducible refine W.disp1 ?_ | with_reducible refine W.fors ?_ | with_reducible refine W.forc ?_ | with_reducible refine W.forn ?_ | with_reducible refine W.zip ?_ | (with_reducible refine W.ife_f (by kernel_rfl) ?_) | (with_reducible refine W.ife_t (by kernel_rfl) ?_) | with_reducible refine W.skip ?_ | with_reducible refine W.rdd rfl ?_ | with_reducible refine W.lst ?_ | with_reducible refine W.tup ?_ | with_reducible refine W.asg ?_ | with_reducible refine W.fmt ?_ | with_reducible refine W.nkd ?_ | with_reducible refine W.ndd ?_ | with_reducible refine W.tv ?_ | with_reducible refine W.notm ?_ | with_reducible refine W.bin ?_ | with_reducible refine W.one ?_ | with_reducible refine W.callm ?_ | with_reducible refine W.call ?_ | with_reducible refine W.cons ?_ | with_reducible refine W.nil ?_ | with_reducible refine W.cst ?_ | with_reducible refine W.ixm rfl rfl ?_ | with_reducible refine W.gt ?_ | with_reducible refine W.add ?_ | with_reducible refine W.mul (cm_r (by decide) (by decide)) ?_ | with_reducible refine W.mod (by first | assumption | decide) ?_ | with_reducible refine W.fdiv (by first | assumption | exact cdv_r (by decide) (by decide)) ?_ | with_reducible refine W.intd ?_ | with_reducible refine W.eqI ?_ | with_reducible refine W.lenL ?_ | with_reducible refine W.tbd ?_ | with_reducible refine W.mput (k := 0) ?_ | with_reducible refine W.tgt2 ?_ | with_reducible refine W.tgn ?_ | with_reducible refine W.tgd rfl ?_ | with_reducible refine W.app rfl ?_ | with_reducible refine W.fld ?_ | with_reducible refine W.keys ?_ | refine And.intro rfl ?_ | refine And.intro (Nat.le_of_ble_eq_true rfl) ?_ | dsimp only)
open TL in
theorem noS {p : Str} (h : ∀ c ∈ p.cps.toList, c ≠ 32) : 32 ∉ tl p := fun z => h 32 z rfl
section
variable {b s l g m w f sd : D} {S : Sto}
theorem wordsL_all {P : Str → Prop} (F : Fits b s l g m w f sd) (hn : ∀ x ∈ NM, P x) (hp : ∀ nm d, FitC nm d → P (pieceX nm d)) : ∀ x ∈ wordsL b s l g m w f sd, P x := by
  intro x hx
  have n : ∀ i, i < 8 → P (NM.getD i "") := fun i hi => hn _ (by
    rw [List.getD_eq_getElem?_getD, List.getElem?_eq_getElem (show i < NM.length from hi)]
    exact List.getElem_mem _)
  simp only [wordsL, List.mem_cons, List.not_mem_nil, or_false] at hx
  rcases hx with rfl | rfl | rfl | rfl | rfl | rfl | rfl | rfl | rfl | rfl | rfl | rfl | rfl | rfl | rfl | rfl
  · exact n 0 (by decide)
  · exact hp _ _ F.b.c
  · exact n 1 (by decide)
  · exact hp _ _ F.s.c
  · exact n 2 (by decide)
  · exact hp _ _ F.l.c
  · exact n 3 (by decide)
  · exact hp _ _ F.g.c
  · exact n 4 (by decide)
  · exact hp _ _ F.m.c
  · exact n 5 (by decide)
  · exact hp _ _ F.w.c
  · exact n 6 (by decide)
  · exact hp _ _ F.f.c
  · exact n 7 (by decide)
  · exact hp _ _ F.sd.c
theorem NM_all {P : Str → Prop} [DecidablePred P] (h : NM.all (fun x => decide (P x)) = true) : ∀ x ∈ NM, P x := fun x hx => of_decide_eq_true (List.all_eq_true.mp h x hx)
theorem words_len (F : Fits b s l g m w f sd) : ∀ x ∈ wordsL b s l g m w f sd, x.length ≤ 20 := wordsL_all F (NM_all (by kernel_rfl)) fun _ _ h => h.len
theorem words_free (F : Fits b s l g m w f sd) : ∀ x ∈ wordsL b s l g m w f sd, 32 ∉ TL.tl x := wordsL_all F (fun x hx => noS (NM_all (P := fun x => ∀ c ∈ x.cps.toList, c ≠ 32) (by kernel_rfl) x hx)) fun _ _ h => noS h.free
theorem sum_le {n : Nat} : ∀ {ys : List Str}, (∀ y ∈ ys, y.length ≤ n) → (ys.map (·.length)).sum ≤ ys.length * n
  | [], _ => by simp
  | y :: r, h => by
    have h1 := h y (List.mem_cons_self ..)
    have h2 := sum_le fun z hz => h z (List.mem_cons_of_mem _ hz)
    rw [List.map_cons, List.sum_cons, List.length_cons, Nat.succ_mul]
    omega
theorem join_ok {ys : List Str} {n : Nat} (h : ∀ y ∈ ys, y.length ≤ n) (hl : ys.length * n + ys.length ≤ 16777216) : joinOk " " ys := by
  unfold joinOk
  have e : (" " : Str).length = 1 := by kernel_rfl
  rw [e]
  have := sum_le h
  omega
theorem joinL_len {y : List Nat} (hy : y.length = 1) : ∀ ys : List (List Nat), (TL.joinL y ys).length ≤ (ys.map (·.length)).sum + ys.length
  | [] => Nat.le_refl _
  | [p] => by show p.length ≤ (p.length + 0) + 1; omega
  | p :: q :: r => by
    show (p ++ (y ++ TL.joinL y (q :: r))).length ≤ _
    have h := joinL_len hy (q :: r)
    rw [List.length_append, List.length_append, hy, List.map_cons, List.sum_cons, List.length_cons]
    omega
theorem join_len {ys : List Str} {n : Nat} (h : ∀ y ∈ ys, y.length ≤ n) : (Txt.join " " ys).length ≤ ys.length * n + ys.length := by
  have h1 := sum_le h
  rw [TL.len_tl, TL.join_eq, TL.tl_join]
  have h2 := joinL_len (y := TL.tl " ") (by kernel_rfl) (ys.map TL.tl)
  have e : ((ys.map TL.tl).map (·.length)).sum = (ys.map (·.length)).sum := by
    rw [List.map_map]
    exact congrArg List.sum (List.map_congr_left fun x _ => (TL.len_tl x).symm)
  rw [e, List.length_map] at h2
  omega
theorem wordsX_len (F : Fits b s l g m w f sd) : (wordsX b s l g m w f sd).length ≤ 336 := join_len (words_len F)
theorem wordsX_split (F : Fits b s l g m w f sd) : Txt.split (wordsX b s l g m w f sd) " " = wordsL b s l g m w f sd :=
  TL.split_join (s := 32) (S := []) (by kernel_rfl) (by kernel_rfl) (by unfold wordsL; simp) (words_free F)
theorem text_step {nm : Str} {d : D} {t : D} {acc : List D} {a2 a3 : Option D} (F : Fit nm d) (hl : acc.length ≤ 100) : W (tgT [tgN 2, tgN 3] (.tup [.str nm, d]) [some t, some (.lst acc), a2, a3]) S fun δ1 S1 => W ((seqS (appS 1 (rd 2)) (seqS (appS 1 pieceE) skipS)) δ1) S1 fun p S2 => p = ([some t, some (.lst (acc ++ [.str nm] ++ [.str (pieceX nm d)])), some (.str nm), some d], .nx) ∧ S2 = S := by
  refine W.tgt2 (W.tgn (W.tgn ?_))
  show W _ _ _
  refine W.seq (W.app rfl (W.rdd rfl ⟨sz_lt (by omega), ?_⟩))
  refine W.seq (W.app (ds := acc ++ [.str nm]) rfl (W.eq (F.text _ _ _) ⟨?_, W.skip ⟨rfl, rfl⟩⟩))
  refine sz_lt ?_
  rw [List.length_append, List.length_singleton]; omega
theorem text_eq (F : Fits b s l g m w f sd) : f_settings_text [.tup [b, s, l, g, m, w, f, sd]] S = some (.ok (.str (wordsX b s l g m w f sd)), S) := by
  refine W.toEq ?_
  unfold f_settings_text b_settings_text
  refine W.run (W.seq (W.set (W.lst (W.nil ⟨Nat.le_of_ble_eq_true rfl, ?_⟩))))
  refine W.seq (W.fors (W.eq (a := [.tup [.str "base", b], .tup [.str "sign", s], .tup [.str "least", l], .tup [.str "group", g], .tup [.str "mark", m], .tup [.str "width", w], .tup [.str "fill", f], .tup [.str "side", sd]]) (S' := S) (by kernel_rfl) ?_))
  refine W.forE (text_step F.b (Nat.le_of_ble_eq_true rfl)) (W.forE (text_step F.s (Nat.le_of_ble_eq_true rfl)) (W.forE (text_step F.l (Nat.le_of_ble_eq_true rfl)) (W.forE (text_step F.g (Nat.le_of_ble_eq_true rfl)) (W.forE (text_step F.m (Nat.le_of_ble_eq_true rfl)) (W.forE (text_step F.w (Nat.le_of_ble_eq_true rfl)) (W.forE (text_step F.f (Nat.le_of_ble_eq_true rfl)) (W.forE (text_step F.sd (Nat.le_of_ble_eq_true rfl)) (W.forn ?_))))))))
  exact W.seq (W.ret (W.strm (W.cst ⟨_, rfl, W.rdd rfl (W.join (ys := wordsL b s l g m w f sd) rfl (join_ok (words_len F) (by show 16 * 20 + 16 ≤ _; decide)) ⟨rfl, rfl⟩)⟩)))
theorem init_eq (F : Fits b s l g m w f sd) : f_Formatdd_initdd [b, s, l, g, m, w, f, sd] S = some (.ok (fmtO b s l g m w f sd), S) := by
  refine W.toEq ?_
  unfold f_Formatdd_initdd b_Formatdd_initdd
  refine W.runi (W.seqE (δ' := [some (.obj "Format" []), some b, some s, some l, some g, some m, some w, some f, some sd, some (.tup [b, s, l, g, m, w, f, sd]), none, none]) (S1 := S) (by kernel_rfl) ?_)
  refine W.seq (W.fors (W.eq (a := [.tup [.str "base", b], .tup [.str "sign", s], .tup [.str "least", l], .tup [.str "group", g], .tup [.str "mark", m], .tup [.str "width", w], .tup [.str "fill", f], .tup [.str "side", sd]]) (S' := S) (by kernel_rfl) ?_))
  have step : ∀ {nm : Str} {d : D} {a0 a1 a2 a3 a4 a5 a6 a7 a8 a9 a b : Option D}, Fit nm d → W (tgT [tgN 10, tgN 11] (.tup [.str nm, d]) [a0, a1, a2, a3, a4, a5, a6, a7, a8, a9, a, b]) S fun δ1 S1 => W (setB δ1) S1 fun p S2 => p = ([a0, a1, a2, a3, a4, a5, a6, a7, a8, a9, some (.str nm), some d], .nx) ∧ S2 = S :=
    fun F => W.tgt2 (W.tgn (W.tgn (W.eq (set_good (F.good _)) ⟨rfl, rfl⟩)))
  refine W.forE (step F.b) (W.forE (step F.s) (W.forE (step F.l) (W.forE (step F.g) (W.forE (step F.m) (W.forE (step F.w) (W.forE (step F.f) (W.forE (step F.sd) (W.forn ?_))))))))
  refine W.seq (W.fld (W.rdd rfl ⟨_, rfl, of_decide_eq_true (by kernel_rfl), ?_⟩))
  refine W.seq (W.fld (W.rdd rfl ⟨_, rfl, of_decide_eq_true (by kernel_rfl), ?_⟩))
  refine W.seq (W.fld (W.rdd rfl ⟨_, rfl, of_decide_eq_true (by kernel_rfl), ?_⟩))
  refine W.seq (W.fld (W.rdd rfl ⟨_, rfl, of_decide_eq_true (by kernel_rfl), ?_⟩))
  refine W.seq (W.fld (W.rdd rfl ⟨_, rfl, of_decide_eq_true (by kernel_rfl), ?_⟩))
  refine W.seq (W.fld (W.rdd rfl ⟨_, rfl, of_decide_eq_true (by kernel_rfl), ?_⟩))
  refine W.seq (W.fld (W.rdd rfl ⟨_, rfl, of_decide_eq_true (by kernel_rfl), ?_⟩))
  refine W.seq (W.fld (W.rdd rfl ⟨_, rfl, of_decide_eq_true (by kernel_rfl), ?_⟩))
  refine W.seq (W.fld (W.call (W.cons (W.rdd (d := .tup [b, s, l, g, m, w, f, sd]) rfl (W.nil ⟨rfl, W.eq (text_eq F) ?_⟩)))))
  exact ⟨_, rfl, of_decide_eq_true (by kernel_rfl), W.skip ⟨rfl, _, rfl, by kernel_rfl, rfl⟩⟩
end
/-- what f answers, the def that hands on answers -/
theorem fo_of {v0 v1 v2 v3 v4 v5 v6 v7 d : D} {S S' : Sto} (h : f_Formatdd_initdd [v0, v1, v2, v3, v4, v5, v6, v7] S = some (.ok d, S')) : f_format_of [dctO v0 v1 v2 v3 v4 v5 v6 v7] S = some (.ok d, S') := by
  refine W.toEq ?_
  unfold f_format_of b_format_of
  exact W.run (W.seq (W.ret (W.nkd (W.eq (a := [v0, v1, v2, v3, v4, v5, v6, v7]) (S' := S) (by kernel_rfl) ⟨rfl, rfl, W.eq h ⟨rfl, rfl⟩⟩))))
theorem pass_ok {v0 v1 v2 v3 v4 v5 v6 v7 d : D} {S S' : Sto} (h : f_Formatdd_initdd [v0, v1, v2, v3, v4, v5, v6, v7] S = some (.ok d, S')) : f_l_format [dctO v0 v1 v2 v3 v4 v5 v6 v7] S = some (.ok d, S') ∧ f_format_of [dctO v0 v1 v2 v3 v4 v5 v6 v7] S = some (.ok d, S') := by
  constructor
  · refine W.toEq ?_
    unfold f_l_format b_l_format
    exact W.run (W.seq (W.ret (W.nkd (W.eq (a := [v0, v1, v2, v3, v4, v5, v6, v7]) (S' := S) (by kernel_rfl) ⟨rfl, rfl, W.eq h ⟨rfl, rfl⟩⟩))))
  · refine W.toEq ?_
    unfold f_format_of b_format_of
    exact W.run (W.seq (W.ret (W.nkd (W.eq (a := [v0, v1, v2, v3, v4, v5, v6, v7]) (S' := S) (by kernel_rfl) ⟨rfl, rfl, W.eq h ⟨rfl, rfl⟩⟩))))
end
section
open PySem PySem.Spec PyProof.Rows L2
local macro_rules | `(tactic| walk_at "wg") => `(tactic| repeat' first | with_reducible refine W.run ?_ | with_reducible refine W.runi ?_ | with_reducible refine W.seq ?_ | with_reducible refine W.set ?_ | with_reducible refine W.ret ?_ | with_reducible refine W.ifs ?_ | with_reducible refine W.disp1 ?_ | with_reducible refine W.ife ?_ | with_reducible refine W.skip ?_ | with_reducible refine W.rdd rfl ?_ | with_reducible refine W.lst ?_ | with_reducible refine W.tup ?_ | with_reducible refine W.asg ?_ | with_reducible refine W.fmt ?_ | with_reducible refine W.nkd ?_ | with_reducible refine W.ndd ?_ | with_reducible refine W.tv ?_ | with_reducible refine W.notm ?_ | with_reducible refine W.bin ?_ | with_reducible refine W.one ?_ | with_reducible refine W.callm ?_ | with_reducible refine W.call ?_ | with_reducible refine W.cons ?_ | with_reducible refine W.nil ?_ | with_reducible refine W.cst ?_ | with_reducible refine W.ixm rfl rfl ?_ | with_reducible refine W.gt ?_ | with_reducible refine W.add ?_ | with_reducible refine W.mul (cm_r (by decide) (by decide)) ?_ | with_reducible refine W.mod (by first | assumption | decide) ?_ | with_reducible refine W.fdiv (by first | assumption | exact cdv_r (by decide) (by decide)) ?_ | with_reducible refine W.intd ?_ | with_reducible refine W.eqI ?_ | with_reducible refine W.lenL ?_ | with_reducible refine W.tbd ?_ | with_reducible refine W.mput (k := 0) ?_ | with_reducible refine W.tgt2 ?_ | with_reducible refine W.tgn ?_ | with_reducible refine W.tgd rfl ?_ | with_reducible refine W.app rfl ?_ | with_reducible refine W.fld ?_ | with_reducible refine W.keys ?_ | refine And.intro rfl ?_ | refine And.intro (Nat.le_of_ble_eq_true rfl) ?_ | dsimp only)
local macro_rules | `(tactic| walk_at "wh") => `(tactic| repeat' first | with_reducible refine W.run ?_ | with_reducible refine W.runi ?_ | with_reducible refine W.seq ?_ | with_reducible refine W.set ?_ | with_reducible refine W.ret ?_ | with_reducible refine W.ifs ?_ | with_reducible refine W.disp1 ?_ | with_reducible refine W.skip ?_ | with_reducible refine W.rdd rfl ?_ | with_reducible refine W.lst ?_ | with_reducible refine W.tup ?_ | with_reducible refine W.asg ?_ | with_reducible refine W.fmt ?_ | with_reducible refine W.nkd ?_ | with_reducible refine W.ndd ?_ | with_reducible refine W.tv ?_ | with_reducible refine W.notm ?_ | with_reducible refine W.bin ?_ | with_reducible refine W.one ?_ | with_reducible refine W.callm ?_ | with_reducible refine W.call ?_ | with_reducible refine W.cons ?_ | with_reducible refine W.nil ?_ | with_reducible refine W.cst ?_ | with_reducible refine W.ixm rfl rfl ?_ | with_reducible refine W.gt ?_ | with_reducible refine W.add ?_ | with_reducible refine W.mul (cm_r (by decide) (by decide)) ?_ | with_reducible refine W.mod (by first | assumption | decide) ?_ | with_reducible refine W.fdiv (by first | assumption | exact cdv_r (by decide) (by decide)) ?_ | with_reducible refine W.intd ?_ | with_reducible refine W.eqI ?_ | with_reducible refine W.lenL ?_ | with_reducible refine W.tbd ?_ | with_reducible refine W.mput (k := 0) ?_ | with_reducible refine W.tgt2 ?_ | with_reducible refine W.tgn ?_ | with_reducible refine W.tgd rfl ?_ | with_reducible refine W.app rfl ?_ | with_reducible refine W.fld ?_ | with_reducible refine W.keys ?_ | refine And.intro rfl ?_ | refine And.intro (Nat.le_of_ble_eq_true rfl) ?_ | dsimp only)
local macro_rules | `(tactic| walk_at "wf") => `(tactic| repeat' first | with_reducible refine W.run ?_ | with_reducible refine W.runi ?_ | with_reducible refine W.seq ?_ | with_reducible refine W.set ?_ | with_reducible refine W.ret ?_ | with_reducible refine W.ifs ?_ | with_reducible refine W.disp1 ?_ | with_reducible refine W.fors ?_ | with_reducible refine W.forc ?_ | with_reducible refine W.forn ?_ | with_reducible refine W.zip ?_ | (with_reducible refine W.ife_f (by kernel_rfl) ?_) | (with_reducible refine W.ife_t (by kernel_rfl) ?_) | with_reducible refine W.skip ?_ | with_reducible refine W.rdd rfl ?_ | with_reducible refine W.lst ?_ | with_reducible refine W.tup ?_ | with_reducible refine W.asg ?_ | with_reducible refine W.fmt ?_ | with_reducible refine W.nkd ?_ | with_reducible refine W.ndd ?_ | with_reducible refine W.tv ?_ | with_reducible refine W.notm ?_ | with_reducible refine W.bin ?_ | with_reducible refine W.one ?_ | with_reducible refine W.callm ?_ | with_reducible refine W.call ?_ | with_reducible refine W.cons ?_ | with_reducible refine W.nil ?_ | with_reducible refine W.cst ?_ | with_reducible refine W.ixm rfl rfl ?_ | with_reducible refine W.gt ?_ | with_reducible refine W.add ?_ | with_reducible refine W.mul (cm_r (by decide) (by decide)) ?_ | with_reducible refine W.mod (by first | assumption | decide) ?_ | with_reducible refine W.fdiv (by first | assumption | exact cdv_r (by decide) (by decide)) ?_ | with_reducible refine W.intd ?_ | with_reducible refine W.eqI ?_ | with_reducible refine W.lenL ?_ | with_reducible refine W.tbd ?_ | with_reducible refine W.mput (k := 0) ?_ | with_reducible refine W.tgt2 ?_ | with_reducible refine W.tgn ?_ | with_reducible refine W.tgd rfl ?_ | with_reducible refine W.app rfl ?_ | with_reducible refine W.fld ?_ | with_reducible refine W.keys ?_ | refine And.intro rfl ?_ | refine And.intro (Nat.le_of_ble_eq_true rfl) ?_ | dsimp only)
section
variable {b s l g m w f sd : D} {S : Sto}
theorem compKL_step {nm p : Str} {d : D} {x0 x1 : Option D} {acc : List (Key × D)} {ds : List D} {P : List (Key × D) → Sto → Prop} (hr : f_setting_in [.str nm, .str p] S = some (.ok d, S)) (hl : acc.length ≤ 100)
    (h : W (compKL (tgT [tgN 3, tgN 4]) (rd 3) (callD 2 f_setting_in (consM (rd 3) (consM (rd 4) nilM))) [x0, x1, none, none, none] (putKD acc (.inr nm) d) ds) S P) :
    W (compKL (tgT [tgN 3, tgN 4]) (rd 3) (callD 2 f_setting_in (consM (rd 3) (consM (rd 4) nilM))) [x0, x1, none, none, none] acc (.tup [.str nm, .str p] :: ds)) S P := by
  unfold compKL
  refine W.bind (W.noErr (W.tgt2 (W.tgn (W.tgn ?_))))
  refine W.bind (W.noErr (W.rdd rfl ?_))
  refine W.bind (W.noErr (W.call (W.cons (W.rdd rfl (W.cons (W.rdd rfl (W.nil ⟨rfl, W.eq hr ?_⟩)))))))
  exact W.bind (W.keys (W.ite (sz_lt (by omega)) h))
theorem settings_in_eq (F : Fits b s l g m w f sd) : f_settings_in [.str (wordsX b s l g m w f sd)] S = some (.ok (dctO b s l g m w f sd), S) := by
  refine W.toEq ?_
  unfold f_settings_in b_settings_in
  refine W.run (W.seqE (δ' := [some (.str (wordsX b s l g m w f sd)), some (.lst ((wordsL b s l g m w f sd).map D.str)), none, none, none]) (S1 := S) (W.toEq (W.set (W.strm (W.rdd rfl ⟨_, rfl, W.cst (W.ite ⟨rfl, sz_le (by have := wordsX_len F; omega)⟩ (W.pure ⟨by rw [wordsX_split F]; rfl, rfl⟩))⟩)))) ?_)
  refine W.seq (W.ifs_f (by kernel_rfl) (W.skip ?_))
  refine W.seq (W.set (W.bind (W.eq (a := [.tup [.str "base", .str (pieceX "base" b)], .tup [.str "sign", .str (pieceX "sign" s)], .tup [.str "least", .str (pieceX "least" l)], .tup [.str "group", .str (pieceX "group" g)], .tup [.str "mark", .str (pieceX "mark" m)], .tup [.str "width", .str (pieceX "width" w)], .tup [.str "fill", .str (pieceX "fill" f)], .tup [.str "side", .str (pieceX "side" sd)]]) (S' := S) (by kernel_rfl) (W.bind ?_))))
  refine compKL_step (F.b.read S) (Nat.le_of_ble_eq_true rfl) (compKL_step (F.s.read S) (Nat.le_of_ble_eq_true rfl) (compKL_step (F.l.read S) (Nat.le_of_ble_eq_true rfl) (compKL_step (F.g.read S) (Nat.le_of_ble_eq_true rfl) (compKL_step (F.m.read S) (Nat.le_of_ble_eq_true rfl) (compKL_step (F.w.read S) (Nat.le_of_ble_eq_true rfl) (compKL_step (F.f.read S) (Nat.le_of_ble_eq_true rfl) (compKL_step (F.sd.read S) (Nat.le_of_ble_eq_true rfl) ?_)))))))
  refine W.pure (W.pure ?_)
  refine W.seq (W.ret (W.ife_f (W.toEq (W.tv (W.bin (W.cst (W.one (W.rdd (d := dctO b s l g m w f sd) (by kernel_rfl) (W.eq (a := .lst [b, s, l, g, m, w, f, sd]) (S' := S) rfl (W.ite ⟨rfl, ?_⟩ (W.pure (W.tbd ⟨?_, rfl⟩)))))))))) (W.rdd (d := dctO b s l g m w f sd) (by kernel_rfl) ⟨rfl, rfl⟩)))
  · simp only [List.all_cons, List.all_nil, F.b.c.scal, F.s.c.scal, F.l.c.scal, F.g.c.scal, F.m.c.scal, F.w.c.scal, F.f.c.scal, F.sd.c.scal, Bool.and_self]
  · simp only [List.any_cons, List.any_nil, F.b.c.non, F.s.c.non, F.l.c.non, F.g.c.non, F.m.c.non, F.w.c.non, F.f.c.non, F.sd.c.non, Bool.or_self]
    rfl
theorem str_eq' (F : Fits b s l g m w f sd) : f_Formatdd_strdd [fmtO b s l g m w f sd] S = some (.ok (.str (wordsX b s l g m w f sd)), S) := by
  refine W.toEq ?_
  unfold f_Formatdd_strdd b_Formatdd_strdd
  exact W.run (W.seq (W.ret (W.fmt (W.eq (a := .str (wordsX b s l g m w f sd)) (S' := S) (by kernel_rfl) (W.ite (sz_le (by have := wordsX_len F; omega)) (W.pure ⟨rfl, rfl⟩))))))
theorem settings_eq : f_Format_settings [fmtO b s l g m w f sd] S = some (.ok (.tup [b, s, l, g, m, w, f, sd]), S) := by kernel_rfl
theorem strO_eq (F : Fits b s l g m w f sd) : strOD "Format" f_Formatdd_strdd (fmtO b s l g m w f sd) S = some (.ok (.str (wordsX b s l g m w f sd)), S) :=
  W.toEq (W.bind (W.pure (W.bind (W.noErr (W.eq (str_eq' F) (W.pure ⟨rfl, rfl⟩))))))
end
end
section
open PySem PySem.Spec PyProof.Rows L2
def printS : Str := " !\"#$&'()*+,-./0123456789:;<=>?@ABCDEFGHIJKLMNOPQRSTUVWXYZ[\\]^_`abcdefghijklmnopqrstuvwxyz{|}~"
def printL : List Nat := (List.range 127).filter fun c => 32 ≤ c && c != 37
theorem printS_eq : printS.cps.toList = printL := by decide +kernel
def figS : Str := "0123456789abcdef"
def figC (n : Nat) : Nat := if n < 10 then 48 + n else 87 + n
def chS (c : Nat) : Str := ⟨#[c]⟩
def rdigs (b : Nat) : Nat → Nat → List Nat
  | 0, n => [n % b]
  | k + 1, n => n % b :: if b ≤ n then rdigs b k (n / b) else []
def digs (b n : Nat) : List Nat := (rdigs b n n).reverse
theorem str_app (a b : Str) : (a ++ b : Str) = ⟨a.cps ++ b.cps⟩ := rfl
def sizeN (b : Nat) (ds : List Nat) : Nat := ds.foldl (fun s d => s * b + d) 0
theorem size_go (b : Nat) : ∀ (ds : List Nat) (a : Nat), ds.foldl (fun s d => s * b + d) a = a * b ^ ds.length + sizeN b ds
  | [], a => by simp [sizeN]
  | d :: r, a => by
    show r.foldl _ (a * b + d) = _
    rw [size_go b r (a * b + d)]
    show _ = a * b ^ (r.length + 1) + r.foldl (fun s d => s * b + d) (0 * b + d)
    rw [size_go b r (0 * b + d), Nat.pow_succ, Nat.add_mul, Nat.add_mul, Nat.zero_mul, Nat.zero_mul, Nat.zero_add, Nat.mul_assoc, Nat.mul_comm b (b ^ r.length), Nat.add_assoc]
theorem size_app (b : Nat) (x y : List Nat) : sizeN b (x ++ y) = sizeN b x * b ^ y.length + sizeN b y := by
  unfold sizeN
  rw [List.foldl_append, size_go]
  rfl
theorem size_one (b d : Nat) : sizeN b [d] = d := by simp [sizeN]
theorem rdigs_eq {b : Nat} (hb : 2 ≤ b) : ∀ (k n : Nat), n ≤ k + 1 → rdigs b k n = if b ≤ n then n % b :: rdigs b (k - 1) (n / b) else [n % b]
  | 0, n, h => by
    have : ¬ b ≤ n := by omega
    rw [if_neg this, rdigs]
  | k + 1, n, h => by
    rw [rdigs]
    split <;> rfl
theorem rdigs_fuel {b : Nat} (hb : 2 ≤ b) : ∀ (n k j : Nat), n ≤ k + 1 → n ≤ j + 1 → rdigs b k n = rdigs b j n := by
  intro n
  induction n using Nat.strongRecOn with
  | _ n ih =>
    intro k j hk hj
    rw [rdigs_eq hb k n hk, rdigs_eq hb j n hj]
    split
    · rename_i hn
      have : n / b ≤ n / 2 := Nat.div_le_div_left hb (by decide)
      rw [ih (n / b) (by omega) (k - 1) (j - 1) (by omega) (by omega)]
    · rfl
theorem digs_rec {b n : Nat} (hb : 2 ≤ b) (h : b ≤ n) : digs b n = digs b (n / b) ++ [n % b] := by
  unfold digs
  have : n / b ≤ n / 2 := Nat.div_le_div_left hb (by decide)
  rw [rdigs_eq hb n n (by omega), if_pos h, List.reverse_cons, rdigs_fuel hb (n / b) (n - 1) (n / b) (by omega) (by omega)]
theorem digs_small {b n : Nat} (hb : 2 ≤ b) (h : n < b) : digs b n = [n] := by
  unfold digs
  rw [rdigs_eq hb n n (by omega), if_neg (by omega), Nat.mod_eq_of_lt h]
  rfl
def bodyW (l : List Nat) : List Nat := if l.take 1 = [45] then l.drop 1 else l
def tenL : List Nat := (List.range 10).map figC
def intW (l : List Nat) : Option Int :=
  if bodyW l = [] ∨ (bodyW l).any (fun c => decide (c ∉ tenL)) = true then none
  else if (bodyW l).head? = some 48 ∧ l ≠ [48] then none
  else if bodyW l = l then some ((sizeN 10 ((bodyW l).map fun c => c - 48) : Nat) : Int) else some (-((sizeN 10 ((bodyW l).map fun c => c - 48) : Nat) : Int))
theorem cut_one (z : Str) : cutS z none (some (1 : Int)) = ⟨(z.cps.toList.take 1).toArray⟩ := by
  have e : z.cps.toList.length = z.length := Array.length_toList ..
  unfold cutS
  rw [HT.sIx_none, show (1 : Int) = ((1 : Nat) : Int) from rfl, HT.sIx_nat, List.drop_zero, Nat.sub_zero]
  congr 2
  by_cases h : 1 ≤ z.length
  · rw [Nat.min_eq_left h]
  · have : z.cps.toList = [] := List.length_eq_zero_iff.mp (by omega)
    rw [this]; simp
theorem cut_rest (z : Str) : cutS z (some (1 : Int)) none = ⟨(z.cps.toList.drop 1).toArray⟩ := by
  have e : z.cps.toList.length = z.length := Array.length_toList ..
  unfold cutS
  rw [HT.sIx_none, show (1 : Int) = ((1 : Nat) : Int) from rfl, HT.sIx_nat]
  congr 2
  by_cases h : 1 ≤ z.length
  · rw [Nat.min_eq_left h, List.take_of_length_le]
    rw [List.length_drop]
    omega
  · have : z.cps.toList = [] := List.length_eq_zero_iff.mp (by omega)
    rw [this]; simp
theorem str_eta (z : Str) : (⟨z.cps.toList.toArray⟩ : Str) = z := by obtain ⟨⟨l⟩⟩ := z; rfl
theorem tens_cut : (cutS figS none (some (10 : Int))).cps.toList = tenL := by decide +kernel
theorem fig_ten : ∀ d : Fin 10, Txt.index0 figS ⟨#[figC d.val]⟩ = some d.val ∧ figC d.val - 48 = d.val := by decide +kernel
theorem ten_ix {c : Nat} (h : c ∈ tenL) : Txt.index0 figS ⟨#[c]⟩ = some (c - 48) := by
  obtain ⟨d, hd, rfl⟩ := List.mem_map.mp h
  have := fig_ten ⟨d, List.mem_range.mp hd⟩
  rw [this.2]
  exact this.1
def glueL (c : Nat) : List (List Nat) → List Nat
  | [] => []
  | [x] => x
  | x :: y :: r => x ++ c :: glueL c (y :: r)
theorem join_codes (c : Nat) : ∀ ws : List Str, (Txt.join ⟨#[c]⟩ ws).cps.toList = glueL c (ws.map fun w => w.cps.toList)
  | [] => rfl
  | [x] => rfl
  | x :: y :: r => by
    have ih := join_codes c (y :: r)
    have e : Txt.join ⟨#[c]⟩ (x :: y :: r) = x ++ ⟨#[c]⟩ ++ Txt.join ⟨#[c]⟩ (y :: r) := by
      unfold Txt.join
      rw [StrLaws.glued_eq_join, StrLaws.glued_eq_join]
      rfl
    rw [e, str_app, str_app, List.map_cons, List.map_cons, glueL]
    simp only [Array.toList_append, List.append_assoc]
    rw [ih]
    rfl
theorem str_eq {a b : Str} (h : a.cps.toList = b.cps.toList) : a = b := by
  obtain ⟨⟨l⟩⟩ := a
  obtain ⟨⟨m⟩⟩ := b
  have : l = m := h
  rw [this]
theorem dig_char : ∀ d : Fin 10, (Nat.digitChar d.val).toNat = figC d.val := by decide
theorem toD_digs (n : Nat) : (Nat.toDigits 10 n).map Char.toNat = (digs 10 n).map figC := by
  induction n using Nat.strongRecOn with
  | ind n ih =>
    rw [Nat.toDigits_eq_if (by decide)]
    split
    · rename_i h
      rw [digs_small (by decide) h]
      simp only [List.map_cons, List.map_nil]
      rw [dig_char ⟨n, h⟩]
    · rename_i h
      rw [digs_rec (b := 10) (by decide) (by omega), List.map_append, List.map_append, ih (n / 10) (by omega)]
      simp only [List.map_cons, List.map_nil]
      rw [dig_char ⟨n % 10, by omega⟩]
theorem tens_all (n : Nat) : ((toString ((n : Nat) : Int) : String) : Str).cps.toList = (digs 10 n).map figC := by
  rw [PySem.W.KIN.signs_num, toD_digs]
theorem tens_neg (n : Nat) : ((toString (Int.negSucc n) : String) : Str).cps.toList = 45 :: (digs 10 (n + 1)).map figC := by
  have e : (toString (Int.negSucc n) : String) = "-" ++ Nat.repr (n + 1) := rfl
  rw [e, ← toD_digs]
  have k := PySem.W.KIN.signs_num (n + 1)
  have e2 : ∀ s : String, (Str.ofString ("-" ++ s)).cps.toList = 45 :: (Str.ofString s).cps.toList := fun s => by
    rw [PyProof.Rows.signs_ofString, PyProof.Rows.signs_ofString, String.toList_append]
    rfl
  rw [e2]
  exact congrArg (45 :: ·) k
end
section
open PySem PySem.Spec PyProof.Rows L2
section
variable {S : Sto}
theorem app_len (x y : Str) : (x ++ y).length = x.length + y.length := by rw [TL.len_tl, TL.tl_append, List.length_append, ← TL.len_tl, ← TL.len_tl]
theorem str_len (z : Str) : z.cps.toList.length = z.length := Array.length_toList ..
theorem mk_len (l : List Nat) : (⟨l.toArray⟩ : Str).length = l.length := by simp [Str.length]
theorem size_loop {b0 : Int} (hb1 : -(2 ^ 64) < b0) (hb2 : b0 < 2 ^ 64) : ∀ (ds : List Nat) (a : Nat) (x y : Option D), ∃ z, forL (tgN 3) (seqS (setS 2 (binM addD (binM mulD (rd 2) (rd 1)) (rd 3))) skipS) (ds.map fun (d : Nat) => D.int (d : Int)) [x, some (.int b0), some (.int (a : Nat)), y] S = some (.ok ([x, some (.int b0), some (.int (ds.foldl (fun (s : Int) (d : Nat) => s * b0 + (d : Int)) ((a : Nat) : Int))), z], .nx), S) := by
  intro ds
  have go : ∀ (ds : List Nat) (a : Int) (x y : Option D), ∃ z, forL (tgN 3) (seqS (setS 2 (binM addD (binM mulD (rd 2) (rd 1)) (rd 3))) skipS) (ds.map fun (d : Nat) => D.int (d : Int)) [x, some (.int b0), some (.int a), y] S = some (.ok ([x, some (.int b0), some (.int (ds.foldl (fun (s : Int) (d : Nat) => s * b0 + (d : Int)) a)), z], .nx), S) := by
    intro ds
    induction ds with
    | nil => intro a x y; exact ⟨y, rfl⟩
    | cons d r ih =>
      intro a x y
      obtain ⟨z, e⟩ := ih (a * b0 + d) x (some (.int d))
      refine ⟨z, ?_⟩
      rw [List.map_cons, List.foldl_cons, ← e]
      have cm : CM a b0 := cm_r hb1 hb2
      simp! only [cnd_t cm]
  intro a x y
  exact go ds a x y
theorem fold_nat {b : Nat} : ∀ (ds : List Nat) (a : Nat), ds.foldl (fun (s : Int) (d : Nat) => s * ((b : Nat) : Int) + (d : Int)) ((a : Nat) : Int) = ((ds.foldl (fun s d => s * b + d) a : Nat) : Int)
  | [], a => rfl
  | d :: r, a => by
    rw [List.foldl_cons, List.foldl_cons, ← fold_nat r]
    rfl
theorem size_of_eq {b : Nat} (hb : b < 1000) (ds : List Nat) : f_size_of [.lst (ds.map fun (d : Nat) => D.int (d : Int)), .int (b : Nat)] S = some (.ok (.int ((sizeN b ds : Nat) : Int)), S) := by
  obtain ⟨z, e⟩ := size_loop (S := S) (b0 := (b : Nat)) (by omega) (by omega) ds 0 (some (.lst (ds.map fun (d : Nat) => D.int (d : Int)))) none
  rw [fold_nat] at e
  have e' : ((0 : Nat) : Int) = 0 := rfl
  rw [e'] at e
  unfold f_size_of b_size_of
  simp! only [↓e]
  rfl
theorem ten_iff {c : Nat} : decide (c ∈ (cutS figS none (some (10 : Int))).cps.toList) = decide (c ∈ tenL) := by rw [tens_cut]
theorem integer_in_eq {w : Str} (hw : w.length ≤ 1000) : f_integer_in [.str w] S = some (.ok (optI (intW w.cps.toList)), S) := by
  obtain ⟨l, hl⟩ : ∃ l, l = w.cps.toList := ⟨_, rfl⟩
  have wl : w.length ≤ sizeLine := sz_le (by omega)
  have ll : l.length = w.length := by rw [hl]; exact str_len w
  obtain ⟨z, ez⟩ : ∃ z : Str, z = ⟨(bodyW l).toArray⟩ := ⟨_, rfl⟩
  have zl : z.cps.toList = bodyW l := by rw [ez]
  have zn : z.length ≤ 1000 := by
    rw [ez, mk_len]
    unfold bodyW
    split
    · rw [List.length_drop]; omega
    · omega
  have zs : z.length ≤ sizeLine := sz_le (by omega)
  have f16 : (figS : Str).length ≤ sizeLine := sz_le (by decide +kernel)
  have q1 : (ifE (tvM (binM eqD (sliceM slSD (rd 0) noPM (somePM (cM (.int 1)))) (cM (.str "-")))) (sliceM slSD (rd 0) (somePM (cM (.int 1))) noPM) (rd 0)) [some (.str w), none, none, none] S = some (.ok (.str z), S) := by
    by_cases c : l.take 1 = [45]
    · have c1 : decide (cutS w none (some (1 : Int)) = "-") = true := decide_eq_true (by rw [cut_one, ← hl, c]; rfl)
      have c2 : cutS w (some (1 : Int)) none = z := by rw [cut_rest, ← hl, ez, bodyW, if_pos c]
      simp! only [cnd_t wl, c1, c2]
    · have c1 : decide (cutS w none (some (1 : Int)) = "-") = false := decide_eq_false fun h => c (by
        rw [cut_one, ← hl] at h
        have h : (⟨(l.take 1).toArray⟩ : Str) = ⟨#[45]⟩ := h
        injection h with h
        simpa using congrArg Array.toList h)
      have c2 : w = z := by rw [ez, bodyW, if_neg c, hl, str_eta]
      simp! only [cnd_t wl, c1]
      rw [c2]
  have q2 : (tvM (callM anyD (consM (lcD [3] (oneM itS (rd 1)) (tgN 3) yesM (binM (inSD true) (rd 3) (sliceM slSD (cM (.str "0123456789abcdef")) noPM (somePM (cM (.int 10)))))) nilM))) [some (.str w), some (.str z), none, none] S = some (.ok ((bodyW l).any fun c => decide (c ∉ tenL)), S) := by
    have e := lc_signs (S := S) (e := binM (inSD true) (rd 3) (sliceM slSD (cM (.str "0123456789abcdef")) noPM (somePM (cM (.int 10))))) (it := oneM itS (rd 1)) (vs := [3]) (i := 3) (δ := [some (.str w), some (.str z), none, none]) (z := z) (fun c => .bl (decide (c ∉ tenL))) rfl zs fun c hc => by
      have t : opp true (decide (c ∈ (cutS ("0123456789abcdef" : Str) none (some (10 : Int))).cps.toList)) = decide (c ∉ tenL) := by
        have t := @ten_iff c
        unfold figS at t
        rw [t]
        simp [opp]
      simp! only [cnd_t f16, t]
      exact congrArg (fun b => some (Except.ok (D.bl b), S)) t
    have e2 := any_map (S := S) (fun c => decide (c ∉ tenL)) (bodyW l)
    rw [zl] at e
    simp! only [↓e, ↓e2]
  have q3 : (tvM (binM eqD (rd 1) (cM (.str "")))) [some (.str w), some (.str z), none, none] S = some (.ok (decide (bodyW l = [])), S) := by
    have e : decide (z = "") = decide (bodyW l = []) := decide_eq_decide.mpr ⟨fun h => by rw [← zl, h]; rfl, fun h => by rw [ez, h]; rfl⟩
    simp! only [↓e]
  have st : ∀ δ, startD 4 [.str w] = δ → δ = [some (.str w), none, none, none] := fun δ h => by rw [← h]; rfl
  have n1 : (seqS (setS 1 (ifE (tvM (binM eqD (sliceM slSD (rd 0) noPM (somePM (cM (.int 1)))) (cM (.str "-")))) (sliceM slSD (rd 0) (somePM (cM (.int 1))) noPM) (rd 0))) skipS) [some (.str w), none, none, none] S = some (.ok ([some (.str w), some (.str z), none, none], .nx), S) := by simp! only [↓q1]
  unfold f_integer_in b_integer_in
  by_cases c : bodyW l = [] ∨ (bodyW l).any (fun c => decide (c ∉ tenL)) = true
  · have e : intW w.cps.toList = none := by rw [← hl]; unfold intW; rw [if_pos c]
    rw [e]
    rcases c with c | c
    · simp! only [↓q1, ↓q2, ↓q3, decide_eq_true c]
      rfl
    · by_cases c0 : bodyW l = []
      · simp! only [↓q1, ↓q2, ↓q3, decide_eq_true c0]
        rfl
      · simp! only [↓q1, ↓q2, ↓q3, decide_eq_false c0, c]
        rfl
  · have c0 : ¬ bodyW l = [] := fun h => c (.inl h)
    have c1 : ((bodyW l).any fun c => decide (c ∉ tenL)) = false := by
      cases h : (bodyW l).any fun c => decide (c ∉ tenL) with
      | true => exact absurd (.inr h) c
      | false => rfl
    have ten : ∀ c ∈ bodyW l, c ∈ tenL := fun x hx => by
      have := List.any_eq_false.mp c1 x hx
      simpa using this
    obtain ⟨a, r, hb⟩ : ∃ a r, bodyW l = a :: r := by
      cases h : bodyW l with
      | nil => exact absurd h c0
      | cons a r => exact ⟨a, r, rfl⟩
    have q4 : (tvM (binM eqD (binM ixD (rd 1) (cM (.int 0))) (cM (.str "0")))) [some (.str w), some (.str z), none, none] S = some (.ok (decide (a = 48)), S) := by
      have at0 : atI z.cps.toList (0 : Int) = some a := by rw [zl, hb]; exact atI_nat (j := 0) rfl
      have e : decide ((⟨#[a]⟩ : Str) = "0") = decide (a = 48) := decide_eq_decide.mpr ⟨fun h => by
        have h : (⟨#[a]⟩ : Str) = ⟨#[48]⟩ := h
        injection h with h
        simpa using congrArg Array.toList h, fun h => by rw [h]; rfl⟩
      simp! only [cnd_t zs, at0, ↓e]
    have q5 : (tvM (binM neD (rd 0) (cM (.str "0")))) [some (.str w), some (.str z), none, none] S = some (.ok (decide (l ≠ [48])), S) := by
      have e : (!decide (w = "0")) = decide (l ≠ [48]) := by
        rw [← decide_not]
        refine decide_eq_decide.mpr ⟨fun h h2 => h ?_, fun h h2 => h ?_⟩
        · rw [← str_eta w, ← hl, h2]; rfl
        · rw [hl, h2]; rfl
      simp! only [↓e]
    by_cases c2 : a = 48 ∧ l ≠ [48]
    · have e : intW w.cps.toList = none := by
        rw [← hl]; unfold intW
        rw [if_neg c, if_pos (by rw [hb]; exact ⟨by rw [c2.1]; rfl, c2.2⟩)]
      rw [e]
      simp! only [↓q1, ↓q2, ↓q3, ↓q4, ↓q5, decide_eq_false c0, c1, decide_eq_true c2.1, decide_eq_true c2.2]
      rfl
    · have q6 : (andM (tvM (binM eqD (binM ixD (rd 1) (cM (.int 0))) (cM (.str "0")))) (tvM (binM neD (rd 0) (cM (.str "0"))))) [some (.str w), some (.str z), none, none] S = some (.ok false, S) := by
        by_cases c3 : a = 48
        · have c4 : ¬ (l ≠ [48]) := fun h => c2 ⟨c3, h⟩
          simp! only [↓q4, ↓q5, decide_eq_true c3, decide_eq_false c4]
        · simp! only [↓q4, decide_eq_false c3]
      have q7 : (lcD [3] (oneM itS (rd 1)) (tgN 3) yesM (strM indexD (cM (.str "0123456789abcdef")) (rd 3))) [some (.str w), some (.str z), none, none] S = some (.ok (.lst (((bodyW l).map fun c => c - 48).map fun (d : Nat) => D.int (d : Int))), S) := by
        have e := lc_signs (S := S) (e := strM indexD (cM (.str "0123456789abcdef")) (rd 3)) (it := oneM itS (rd 1)) (vs := [3]) (i := 3) (δ := [some (.str w), some (.str z), none, none]) (z := z) (fun c => .int ((c - 48 : Nat) : Int)) rfl zs fun c hc => by
          have t := ten_ix (ten c (zl ▸ hc))
          unfold figS at t
          simp! only [t]
        rw [e, zl, List.map_map]
        rfl
      have q8 := size_of_eq (S := S) (b := 10) (by decide) ((bodyW l).map fun c => c - 48)
      have ten' : (((10 : Nat) : Int)) = 10 := rfl
      rw [ten'] at q8
      have q9 : (tvM (binM eqD (rd 1) (rd 0))) [some (.str w), some (.str z), some (.int ((sizeN 10 ((bodyW l).map fun c => c - 48) : Nat) : Int)), none] S = some (.ok (decide (bodyW l = l)), S) := by
        have e : decide (z = w) = decide (bodyW l = l) := decide_eq_decide.mpr ⟨fun h => by rw [← zl, h, hl], fun h => by rw [ez, h, hl, str_eta]⟩
        simp! only [↓e]
      have e : intW w.cps.toList = if bodyW l = l then some ((sizeN 10 ((bodyW l).map fun c => c - 48) : Nat) : Int) else some (-((sizeN 10 ((bodyW l).map fun c => c - 48) : Nat) : Int)) := by
        rw [← hl]; unfold intW
        rw [if_neg c, if_neg]
        rintro ⟨h1, h2⟩
        rw [hb] at h1
        exact c2 ⟨Option.some.inj h1, h2⟩
      rw [e]
      by_cases c5 : bodyW l = l
      · rw [if_pos c5]
        simp! only [↓q1, ↓q2, ↓q3, ↓q6, ↓q7, ↓q8, ↓q9, decide_eq_false c0, c1, decide_eq_true c5]
        rfl
      · rw [if_neg c5]
        simp! only [↓q1, ↓q2, ↓q3, ↓q6, ↓q7, ↓q8, ↓q9, decide_eq_false c0, c1, decide_eq_false c5]
        rfl
end
end
section
open PySem PySem.Spec PyProof.Rows L2
theorem digs_size {b : Nat} (hb : 2 ≤ b) : ∀ (n : Nat) (ds : List Nat), ds.length = n → ds ≠ [] → (∀ d ∈ ds, d < b) → (ds.head? ≠ some 0 ∨ ds.length = 1) → digs b (sizeN b ds) = ds := by
  intro n
  induction n with
  | zero => intro ds h0 h; exact absurd (List.length_eq_zero_iff.mp h0) h
  | succ n ih =>
    intro ds hl hn hd hh
    have e := (List.dropLast_concat_getLast hn).symm
    obtain ⟨r, hr⟩ : ∃ r, r = ds.dropLast := ⟨_, rfl⟩
    obtain ⟨d, hdl⟩ : ∃ d, d = ds.getLast hn := ⟨_, rfl⟩
    rw [← hr, ← hdl] at e
    have db : d < b := hd d (by rw [e]; simp)
    have sz : sizeN b ds = sizeN b r * b + d := by rw [e, size_app, size_one, List.length_singleton, Nat.pow_one]
    by_cases h0 : r = []
    · rw [sz, h0]
      show digs b (0 * b + d) = ds
      rw [Nat.zero_mul, Nat.zero_add, digs_small hb db, e, h0]
      rfl
    · have rl : r.length = n := by
        have := congrArg List.length e
        rw [List.length_append, List.length_singleton, hl] at this
        omega
      have hr0 : r.head? = ds.head? := by
        rw [e]
        cases r with
        | nil => exact absurd rfl h0
        | cons x t => rfl
      have hd1 : ds.head? ≠ some 0 := by
        rcases hh with h | h
        · exact h
        · exfalso
          have : 0 < r.length := List.length_pos_iff.mpr h0
          omega
      have pos : 0 < sizeN b r := by
        cases r with
        | nil => exact absurd rfl h0
        | cons x t =>
          have x0 : x ≠ 0 := fun h => hd1 (by rw [← hr0, h]; rfl)
          have := size_app b [x] t
          rw [size_one] at this
          have e2 : sizeN b (x :: t) = x * b ^ t.length + sizeN b t := this
          have : 0 < x * b ^ t.length := Nat.mul_pos (by omega) (Nat.pow_pos (by omega))
          omega
      have big : b ≤ sizeN b ds := by
        rw [sz]
        have : 1 * b ≤ sizeN b r * b := Nat.mul_le_mul_right b pos
        omega
      rw [digs_rec hb big]
      have q1 : sizeN b ds / b = sizeN b r := by
        rw [sz, Nat.mul_comm, Nat.mul_add_div (by omega), Nat.div_eq_of_lt db, Nat.add_zero]
      have q2 : sizeN b ds % b = d := by
        rw [sz, Nat.mul_comm, Nat.mul_add_mod, Nat.mod_eq_of_lt db]
      rw [q1, q2, ih r rl h0 (fun x hx => hd x (by rw [e]; exact List.mem_append_left _ hx)) (.inl (hr0 ▸ hd1)), ← e]
theorem ten_fig {l : List Nat} (h : ∀ c ∈ l, c ∈ tenL) : (l.map fun c => c - 48).map figC = l ∧ ∀ d ∈ l.map (fun c => c - 48), d < 10 := by
  have one : ∀ c ∈ tenL, figC (c - 48) = c ∧ c - 48 < 10 := by decide
  constructor
  · rw [List.map_map]
    exact (List.map_congr_left fun c hc => (one c (h c hc)).1).trans (List.map_id _)
  · intro d hd
    obtain ⟨c, hc, rfl⟩ := List.mem_map.mp hd
    exact (one c (h c hc)).2
theorem intW_back {l : List Nat} {i : Int} (h : intW l = some i) : ((toString i : String) : Str).cps.toList = l := by
  unfold intW at h
  split at h
  · cases h
  · rename_i c
    split at h
    · cases h
    · rename_i c2
      have c0 : ¬ bodyW l = [] := fun h => c (.inl h)
      have ten : ∀ x ∈ bodyW l, x ∈ tenL := fun x hx => by
        have c1 : ¬ (bodyW l).any (fun c => decide (c ∉ tenL)) = true := fun h => c (.inr h)
        by_cases hx2 : x ∈ tenL
        · exact hx2
        · exact absurd (List.any_eq_true.mpr ⟨x, hx, decide_eq_true hx2⟩) c1
      obtain ⟨f1, f2⟩ := ten_fig ten
      have ne : (bodyW l).map (fun c => c - 48) ≠ [] := fun h => c0 (List.map_eq_nil_iff.mp h)
      have hd0 : (bodyW l).head? ≠ some 48 → ((bodyW l).map fun c => c - 48).head? ≠ some 0 := by
        intro hh
        cases hb : bodyW l with
        | nil => exact absurd hb c0
        | cons a r =>
          rw [hb] at hh
          intro e
          have e : a - 48 = 0 := by simpa using e
          have : a ∈ tenL := ten a (by rw [hb]; exact List.mem_cons_self ..)
          have one : ∀ c ∈ tenL, c - 48 = 0 → c = 48 := by decide
          exact hh (by rw [one a this e]; rfl)
      split at h
      · rename_i hb
        have e : i = ((sizeN 10 ((bodyW l).map fun c => c - 48) : Nat) : Int) := (Option.some.inj h).symm
        rw [e, tens_all, digs_size (by decide) _ _ rfl ne f2, f1, hb]
        by_cases hl : l = [48]
        · right
          rw [hb, hl]; rfl
        · left
          exact hd0 fun h => c2 ⟨h, hl⟩
      · rename_i hb
        have hl : l = 45 :: bodyW l := by
          unfold bodyW at hb ⊢
          split at hb
          · rename_i h1
            rw [if_pos h1]
            cases l with
            | nil => cases h1
            | cons a r =>
              have h1 : [a] = [45] := h1
              injection h1 with h1
              rw [h1]; rfl
          · exact absurd rfl hb
        have nh : (bodyW l).head? ≠ some 48 := fun h => c2 ⟨h, fun e => by
          rw [e] at hl
          injection hl with h1 _
          exact absurd h1 (by decide)⟩
        have ds := digs_size (b := 10) (by decide) _ _ rfl ne f2 (.inl (hd0 nh))
        have e : i = -((sizeN 10 ((bodyW l).map fun c => c - 48) : Nat) : Int) := (Option.some.inj h).symm
        have pos : sizeN 10 ((bodyW l).map fun c => c - 48) ≠ 0 := fun z => by
          rw [z] at ds
          have : digs 10 0 = [0] := by decide
          rw [this] at ds
          exact hd0 nh (by rw [← ds]; rfl)
        obtain ⟨k, hk⟩ : ∃ k, sizeN 10 ((bodyW l).map fun c => c - 48) = k + 1 := ⟨_, (Nat.succ_pred pos).symm⟩
        rw [hk] at e ds
        have e3 : i = Int.negSucc k := by rw [e]; rfl
        rw [e3, tens_neg, ds, f1]
        exact hl.symm
end
section
open PySem PySem.Spec PyProof.Rows L2
section
variable {S : Sto}
theorem is_int {n : Int} : f_is_integer [.int n] S = some (.ok (.bl true), S) := by kernel_rfl
theorem between_eq {n lo hi : Int} : f_is_between [.int n, .int lo, .int hi] S = some (.ok (.bl (decide (lo ≤ n) && decide (n ≤ hi))), S) := by
  unfold f_is_between b_is_between
  by_cases c : lo ≤ n
  · simp! only [is_int, c, Bool.true_and]
  · simp! only [is_int, c, Bool.false_and]
theorem set_none {nm w : Str} (hw : w.length ≤ 1000) (q1 : inQD false (.str nm) (.tup [.str "sign", .str "side"]) S = some (.ok (.bl false), S)) (e : intW w.cps.toList = none) : f_setting_in [.str nm, .str w] S = some (.ok .non, S) := by
  have ei := integer_in_eq (S := S) hw
  rw [e] at ei
  have ei : f_integer_in [.str w] S = some (.ok .non, S) := ei
  unfold f_setting_in b_setting_in
  simp! only [q1, ei]
theorem set_int {nm w : Str} {i : Int} {b : Bool} (hw : w.length ≤ 1000) (q1 : inQD false (.str nm) (.tup [.str "sign", .str "side"]) S = some (.ok (.bl false), S)) (q2 : inQD false (.str nm) (.tup [.str "mark", .str "fill"]) S = some (.ok (.bl false), S)) (e : intW w.cps.toList = some i) (h : f_is_setting [.str nm, .int i] S = some (.ok (.bl b), S)) : f_setting_in [.str nm, .str w] S = some (.ok (if b = true then .int i else .non), S) := by
  have ei := integer_in_eq (S := S) hw
  rw [e] at ei
  have ei : f_integer_in [.str w] S = some (.ok (.int i), S) := ei
  unfold f_setting_in b_setting_in
  cases b
  · simp! only [q1, q2, ei, h]
    rfl
  · simp! only [q1, q2, ei, h]
    rfl
theorem set_mark0 {nm w : Str} {i : Int} (hw : w.length ≤ 1000) (q1 : inQD false (.str nm) (.tup [.str "sign", .str "side"]) S = some (.ok (.bl false), S)) (q2 : inQD false (.str nm) (.tup [.str "mark", .str "fill"]) S = some (.ok (.bl true), S)) (e : intW w.cps.toList = some i) (h : f_sign_of [.int i] S = some (.ok .non, S)) : f_setting_in [.str nm, .str w] S = some (.ok .non, S) := by
  have ei := integer_in_eq (S := S) hw
  rw [e] at ei
  have ei : f_integer_in [.str w] S = some (.ok (.int i), S) := ei
  unfold f_setting_in b_setting_in
  simp! only [q1, q2, ei, h]
theorem sign_out {i : Int} (h : ¬ (32 ≤ i ∧ i ≤ 126 ∧ i ≠ 37)) : f_sign_of [.int i] S = some (.ok .non, S) := by
  unfold f_sign_of b_sign_of
  by_cases c1 : (32 : Int) ≤ i
  · by_cases c2 : i ≤ (126 : Int)
    · have c3 : i = 37 := by omega
      simp! only [c1, c2, c3]
    · simp! only [c1, c2]
  · simp! only [c1]
theorem code_ch : ∀ c ∈ printL, codeX (.str (chS c)) = ((c : Nat) : Int) := fun c hc => all_eq (f := fun (c : Nat) => codeX (.str (chS c))) (g := fun c => ((c : Nat) : Int)) (by kernel_rfl) c hc
theorem ch_mark {c : Nat} (h : c ∈ printL) : D.str (chS c) ∈ vMark := by
  refine List.mem_append_right _ (List.mem_map.mpr ⟨c, ?_, rfl⟩)
  show c ∈ printS.cps.toList
  rw [printS_eq]
  exact h
theorem word_int {i : Int} (h : i.natAbs.log2 < 1920) : wordX (.int i) = ((toString i : String) : Str) := by
  unfold wordX
  rw [ev_fmtI, cnd_t h]
  rfl
theorem log_sm {i : Int} (h1 : -1000 ≤ i) (h2 : i ≤ 1000) : i.natAbs.log2 < 1920 := by
  by_cases h : i.natAbs = 0
  · rw [h]; decide
  · exact (Nat.log2_lt h).mpr (Nat.lt_of_lt_of_le (m := 2 ^ 60) (by omega) (Nat.pow_le_pow_right (by decide) (by decide)))
/-- what a word tells: nothing, or a good value whose word it is -/
def Tells (nm w : Str) (d : D) : Prop := (∀ S, f_setting_in [.str nm, .str w] S = some (.ok d, S)) ∧ (d = .non ∨ (Fit nm d ∧ pieceX nm d = w))
theorem tells_int {nm w : Str} {lo hi : Int} (hw : w.length ≤ 1000) (l0 : -1000 ≤ lo) (l1 : hi ≤ 1000) (q1 : ∀ S, inQD false (.str nm) (.tup [.str "sign", .str "side"]) S = some (.ok (.bl false), S)) (q2 : ∀ S, inQD false (.str nm) (.tup [.str "mark", .str "fill"]) S = some (.ok (.bl false), S)) (q3 : isMF nm = false)
    (hs : ∀ i S, f_is_setting [.str nm, .int i] S = some (.ok (.bl (decide (lo ≤ i) && decide (i ≤ hi))), S)) (hf : ∀ i, lo ≤ i → i ≤ hi → Fit nm (.int i)) : ∃ d, Tells nm w d := by
  cases e : intW w.cps.toList with
  | none => exact ⟨.non, fun S => set_none hw (q1 S) e, .inl rfl⟩
  | some i =>
    by_cases c : lo ≤ i ∧ i ≤ hi
    · refine ⟨.int i, fun S => ?_, .inr ⟨hf i c.1 c.2, ?_⟩⟩
      · have h := set_int (S := S) hw (q1 S) (q2 S) e (hs i S)
        rw [h, decide_eq_true c.1, decide_eq_true c.2]
        rfl
      · unfold pieceX
        rw [q3, if_neg (by decide), word_int (log_sm (by omega) (by omega))]
        exact str_eq (intW_back e)
    · refine ⟨.non, fun S => ?_, .inl rfl⟩
      have h := set_int (S := S) hw (q1 S) (q2 S) e (hs i S)
      rw [h, if_neg]
      simpa using c
theorem tells_mark {nm w : Str} (hw : w.length ≤ 1000) (q1 : ∀ S, inQD false (.str nm) (.tup [.str "sign", .str "side"]) S = some (.ok (.bl false), S)) (q2 : ∀ S, inQD false (.str nm) (.tup [.str "mark", .str "fill"]) S = some (.ok (.bl true), S)) (q3 : isMF nm = true) (hf : ∀ d ∈ vMark, Fit nm d) : ∃ d, Tells nm w d := by
  cases e : intW w.cps.toList with
  | none => exact ⟨.non, fun S => set_none hw (q1 S) e, .inl rfl⟩
  | some i =>
    by_cases c : 32 ≤ i ∧ i ≤ 126 ∧ i ≠ 37
    · obtain ⟨n, rfl⟩ : ∃ n : Nat, i = n := ⟨i.toNat, by omega⟩
      have hn : n ∈ printL := by
        refine List.mem_filter.mpr ⟨List.mem_range.mpr (by omega), ?_⟩
        have h1 : 32 ≤ n := by omega
        have h2 : n ≠ 37 := fun h => c.2.2 (by rw [h]; rfl)
        simp [h1, h2]
      have F := hf _ (ch_mark hn)
      have pw : pieceX nm (.str (chS n)) = w := by
        unfold pieceX
        rw [if_pos q3, code_ch n hn]
        exact str_eq (intW_back e)
      refine ⟨.str (chS n), fun S => ?_, .inr ⟨F, pw⟩⟩
      have h := F.read S
      rw [pw] at h
      exact h
    · exact ⟨.non, fun S => set_mark0 hw (q1 S) (q2 S) e (sign_out c), .inl rfl⟩
theorem tells_word {nm w : Str} {ws : List Str} (q1 : ∀ S, inQD false (.str nm) (.tup [.str "sign", .str "side"]) S = some (.ok (.bl true), S)) (hf : ∀ z ∈ ws, Fit nm (.str z) ∧ pieceX nm (.str z) = z) (hn : w ∉ ws → ∀ S, f_is_setting [.str nm, .str w] S = some (.ok (.bl false), S)) : ∃ d, Tells nm w d := by
  by_cases c : w ∈ ws
  · obtain ⟨F, pw⟩ := hf w c
    refine ⟨.str w, fun S => ?_, .inr ⟨F, pw⟩⟩
    have h := F.read S
    rw [pw] at h
    exact h
  · refine ⟨.non, fun S => ?_, .inl rfl⟩
    have h := hn c S
    have q := q1 S
    unfold f_setting_in b_setting_in
    simp! only [q, h]
theorem dec_str {a b : Str} (h : (a == b) = false) : decide (a = b) = false := decide_eq_false fun e => by rw [e] at h; simp at h
theorem len_fig : ("0123456789abcdef" : Str).length ≤ sizeLine := sz_le (by decide +kernel)
theorem len_fig2 : ((("0123456789abcdef" : Str).length : Nat) : Int) = 16 := by decide +kernel
theorem s_base (i : Int) (S : Sto) : f_is_setting [.str "base", .int i] S = some (.ok (.bl (decide (2 ≤ i) && decide (i ≤ 16))), S) := by
  have q : inQD false (.str "base") (.tup [.str "mark", .str "fill"]) S = some (.ok (.bl false), S) := by kernel_rfl
  have b := between_eq (S := S) (n := i) (lo := 2) (hi := 16)
  have c1 : decide (("base" : Str) = "sign") = false := dec_str (by decide +kernel)
  have c2 : decide (("base" : Str) = "side") = false := dec_str (by decide +kernel)
  unfold f_is_setting b_is_setting
  simp! only [q, c1, c2, len_fig2, cnd_t len_fig, b]
theorem s_group (i : Int) (S : Sto) : f_is_setting [.str "group", .int i] S = some (.ok (.bl (decide (0 ≤ i) && decide (i ≤ 4))), S) := by
  have q : inQD false (.str "group") (.tup [.str "mark", .str "fill"]) S = some (.ok (.bl false), S) := by kernel_rfl
  have b := between_eq (S := S) (n := i) (lo := 0) (hi := 4)
  have c1 : decide (("group" : Str) = "sign") = false := dec_str (by decide +kernel)
  have c2 : decide (("group" : Str) = "side") = false := dec_str (by decide +kernel)
  have c3 : decide (("group" : Str) = "base") = false := dec_str (by decide +kernel)
  unfold f_is_setting b_is_setting
  simp! only [q, c1, c2, c3, b]
theorem s_least (i : Int) (S : Sto) : f_is_setting [.str "least", .int i] S = some (.ok (.bl (decide (1 ≤ i) && decide (i ≤ 12))), S) := by
  have q : inQD false (.str "least") (.tup [.str "mark", .str "fill"]) S = some (.ok (.bl false), S) := by kernel_rfl
  have b := between_eq (S := S) (n := i) (lo := 1) (hi := 12)
  have c1 : decide (("least" : Str) = "sign") = false := dec_str (by decide +kernel)
  have c2 : decide (("least" : Str) = "side") = false := dec_str (by decide +kernel)
  have c3 : decide (("least" : Str) = "base") = false := dec_str (by decide +kernel)
  have c4 : decide (("least" : Str) = "group") = false := dec_str (by decide +kernel)
  unfold f_is_setting b_is_setting
  simp! only [q, c1, c2, c3, c4, b]
theorem s_width (i : Int) (S : Sto) : f_is_setting [.str "width", .int i] S = some (.ok (.bl (decide (0 ≤ i) && decide (i ≤ 12))), S) := by
  have q : inQD false (.str "width") (.tup [.str "mark", .str "fill"]) S = some (.ok (.bl false), S) := by kernel_rfl
  have b := between_eq (S := S) (n := i) (lo := 0) (hi := 12)
  have c1 : decide (("width" : Str) = "sign") = false := dec_str (by decide +kernel)
  have c2 : decide (("width" : Str) = "side") = false := dec_str (by decide +kernel)
  have c3 : decide (("width" : Str) = "base") = false := dec_str (by decide +kernel)
  have c4 : decide (("width" : Str) = "group") = false := dec_str (by decide +kernel)
  have c5 : decide (("width" : Str) = "least") = false := dec_str (by decide +kernel)
  unfold f_is_setting b_is_setting
  simp! only [q, c1, c2, c3, c4, c5, b]
theorem beq_no {a b : Str} (h : a ≠ b) : (a == b) = false := by
  cases e : a == b with
  | false => rfl
  | true => exact absurd (by simpa using e) h
theorem s_sign {w : Str} (h : w ∉ (["minus", "plus", "blank"] : List Str)) (S : Sto) : f_is_setting [.str "sign", .str w] S = some (.ok (.bl false), S) := by
  simp only [List.mem_cons, List.not_mem_nil, or_false, not_or] at h
  have k : inKD [("minus", .str ""), ("plus", .str "+"), ("blank", .str " ")] (.str w) S = some (.ok (.bl false), S) := by
    show some (Except.ok (D.bl (([("minus", D.str ""), ("plus", .str "+"), ("blank", .str " ")] : List (Str × D)).lookup w).isSome), S) = _
    simp only [List.lookup, beq_no h.1, beq_no h.2.1, beq_no h.2.2]
    rfl
  have q : inQD false (.str "sign") (.tup [.str "mark", .str "fill"]) S = some (.ok (.bl false), S) := by kernel_rfl
  have ty : isTyD "str" (.str w) S = some (.ok (.bl true), S) := rfl
  unfold f_is_setting b_is_setting
  simp! only [q, ty, k]
theorem s_side {w : Str} (h : w ∉ (["left", "right", "both", "inner"] : List Str)) (S : Sto) : f_is_setting [.str "side", .str w] S = some (.ok (.bl false), S) := by
  simp only [List.mem_cons, List.not_mem_nil, or_false, not_or] at h
  have k : inQD false (.str w) (.tup [.str "left", .str "right", .str "both", .str "inner"]) S = some (.ok (.bl false), S) := by
    have e : ∀ z : Str, w ≠ z → eqF (.str z) (.str w) = false := fun z hz => beq_no fun e => hz e.symm
    show (if scalD (D.str w) = true ∧ ([D.str "left", .str "right", .str "both", .str "inner"] : List D).all scalD = true then pure (.bl (opp false (([D.str "left", .str "right", .str "both", .str "inner"] : List D).any fun y => eqF y (.str w)))) else M.stuck : M D) S = _
    rw [if_pos ⟨rfl, rfl⟩]
    simp only [List.any_cons, List.any_nil, e _ h.1, e _ h.2.1, e _ h.2.2.1, e _ h.2.2.2]
    rfl
  have q : inQD false (.str "side") (.tup [.str "mark", .str "fill"]) S = some (.ok (.bl false), S) := by kernel_rfl
  have ty : isTyD "str" (.str w) S = some (.ok (.bl true), S) := rfl
  have c1 : decide (("side" : Str) = "sign") = false := dec_str (by decide +kernel)
  unfold f_is_setting b_is_setting
  simp! only [q, ty, k, c1]
theorem tells_any {w : Str} (hw : w.length ≤ 1000) : ∀ nm ∈ NM, ∃ d, Tells nm w d := by
  intro nm hn
  simp only [NM, List.mem_cons, List.not_mem_nil, or_false] at hn
  rcases hn with rfl | rfl | rfl | rfl | rfl | rfl | rfl | rfl
  · refine tells_int hw (lo := 2) (hi := 16) (by decide) (by decide) (fun S => by kernel_rfl) (fun S => by kernel_rfl) (by kernel_rfl) s_base fun i h1 h2 => fit_base _ ?_
    exact List.mem_append_right _ (List.mem_map.mpr ⟨(i - 2).toNat, List.mem_range.mpr (by omega), congrArg D.int (by omega)⟩)
  · refine tells_word (ws := ["minus", "plus", "blank"]) (fun S => by kernel_rfl) (fun z hz => ?_) s_sign
    simp only [List.mem_cons, List.not_mem_nil, or_false] at hz
    rcases hz with rfl | rfl | rfl
    · exact ⟨fit_sign _ (by simp [vSign]), by kernel_rfl⟩
    · exact ⟨fit_sign _ (by simp [vSign]), by kernel_rfl⟩
    · exact ⟨fit_sign _ (by simp [vSign]), by kernel_rfl⟩
  · refine tells_int hw (lo := 1) (hi := 12) (by decide) (by decide) (fun S => by kernel_rfl) (fun S => by kernel_rfl) (by kernel_rfl) s_least fun i h1 h2 => fit_least _ ?_
    exact List.mem_append_right _ (List.mem_map.mpr ⟨(i - 1).toNat, List.mem_range.mpr (by omega), congrArg D.int (by omega)⟩)
  · refine tells_int hw (lo := 0) (hi := 4) (by decide) (by decide) (fun S => by kernel_rfl) (fun S => by kernel_rfl) (by kernel_rfl) s_group fun i h1 h2 => fit_group _ ?_
    rcases (by omega : i = 0 ∨ i = 1 ∨ i = 2 ∨ i = 3 ∨ i = 4) with rfl | rfl | rfl | rfl | rfl <;> simp [vGroup]
  · exact tells_mark hw (fun S => by kernel_rfl) (fun S => by kernel_rfl) (by kernel_rfl) fit_mark
  · refine tells_int hw (lo := 0) (hi := 12) (by decide) (by decide) (fun S => by kernel_rfl) (fun S => by kernel_rfl) (by kernel_rfl) s_width fun i h1 h2 => fit_width _ ?_
    exact List.mem_append_right _ (List.mem_map.mpr ⟨i.toNat, List.mem_range.mpr (by omega), congrArg D.int (by omega)⟩)
  · exact tells_mark hw (fun S => by kernel_rfl) (fun S => by kernel_rfl) (by kernel_rfl) fit_fill
  · refine tells_word (ws := ["left", "right", "both", "inner"]) (fun S => by kernel_rfl) (fun z hz => ?_) s_side
    simp only [List.mem_cons, List.not_mem_nil, or_false] at hz
    rcases hz with rfl | rfl | rfl | rfl
    · exact ⟨fit_side _ (by simp [vSide]), by kernel_rfl⟩
    · exact ⟨fit_side _ (by simp [vSide]), by kernel_rfl⟩
    · exact ⟨fit_side _ (by simp [vSide]), by kernel_rfl⟩
    · exact ⟨fit_side _ (by simp [vSide]), by kernel_rfl⟩
end
end
section
open PySem PySem.Spec PyProof.Rows L2
local macro_rules | `(tactic| walk_at "wg") => `(tactic| repeat' first | with_reducible refine W.run ?_ | with_reducible refine W.runi ?_ | with_reducible refine W.seq ?_ | with_reducible refine W.set ?_ | with_reducible refine W.ret ?_ | with_reducible refine W.ifs ?_ | with_reducible refine W.disp1 ?_ | with_reducible refine W.ife ?_ | with_reducible refine W.skip ?_ | with_reducible refine W.rdd rfl ?_ | with_reducible refine W.lst ?_ | with_reducible refine W.tup ?_ | with_reducible refine W.asg ?_ | with_reducible refine W.fmt ?_ | with_reducible refine W.nkd ?_ | with_reducible refine W.ndd ?_ | with_reducible refine W.tv ?_ | with_reducible refine W.notm ?_ | with_reducible refine W.bin ?_ | with_reducible refine W.one ?_ | with_reducible refine W.callm ?_ | with_reducible refine W.call ?_ | with_reducible refine W.cons ?_ | with_reducible refine W.nil ?_ | with_reducible refine W.cst ?_ | with_reducible refine W.ixm rfl rfl ?_ | with_reducible refine W.gt ?_ | with_reducible refine W.add ?_ | with_reducible refine W.mul (cm_r (by decide) (by decide)) ?_ | with_reducible refine W.mod (by first | assumption | decide) ?_ | with_reducible refine W.fdiv (by first | assumption | exact cdv_r (by decide) (by decide)) ?_ | with_reducible refine W.intd ?_ | with_reducible refine W.eqI ?_ | with_reducible refine W.lenL ?_ | with_reducible refine W.tbd ?_ | with_reducible refine W.mput (k := 0) ?_ | with_reducible refine W.tgt2 ?_ | with_reducible refine W.tgn ?_ | with_reducible refine W.tgd rfl ?_ | with_reducible refine W.app rfl ?_ | with_reducible refine W.fld ?_ | with_reducible refine W.keys ?_ | refine And.intro rfl ?_ | refine And.intro (Nat.le_of_ble_eq_true rfl) ?_ | dsimp only)
local macro_rules | `(tactic| walk_at "wh") => `(tactic| repeat' first | with_reducible refine W.run ?_ | with_reducible refine W.runi ?_ | with_reducible refine W.seq ?_ | with_reducible refine W.set ?_ | with_reducible refine W.ret ?_ | with_reducible refine W.ifs ?_ | with_reducible refine W.disp1 ?_ | with_reducible refine W.skip ?_ | with_reducible refine W.rdd rfl ?_ | with_reducible refine W.lst ?_ | with_reducible refine W.tup ?_ | with_reducible refine W.asg ?_ | with_reducible refine W.fmt ?_ | with_reducible refine W.nkd ?_ | with_reducible refine W.ndd ?_ | with_reducible refine W.tv ?_ | with_reducible refine W.notm ?_ | with_reducible refine W.bin ?_ | with_reducible refine W.one ?_ | with_reducible refine W.callm ?_ | with_reducible refine W.call ?_ | with_reducible refine W.cons ?_ | with_reducible refine W.nil ?_ | with_reducible refine W.cst ?_ | with_reducible refine W.ixm rfl rfl ?_ | with_reducible refine W.gt ?_ | with_reducible refine W.add ?_ | with_reducible refine W.mul (cm_r (by decide) (by decide)) ?_ | with_reducible refine W.mod (by first | assumption | decide) ?_ | with_reducible refine W.fdiv (by first | assumption | exact cdv_r (by decide) (by decide)) ?_ | with_reducible refine W.intd ?_ | with_reducible refine W.eqI ?_ | with_reducible refine W.lenL ?_ | with_reducible refine W.tbd ?_ | with_reducible refine W.mput (k := 0) ?_ | with_reducible refine W.tgt2 ?_ | with_reducible refine W.tgn ?_ | with_reducible refine W.tgd rfl ?_ | with_reducible refine W.app rfl ?_ | with_reducible refine W.fld ?_ | with_reducible refine W.keys ?_ | refine And.intro rfl ?_ | refine And.intro (Nat.le_of_ble_eq_true rfl) ?_ | dsimp only)
local macro_rules | `(tactic| walk_at "wf") => `(tactic| repeat' first | with_reducible refine W.run ?_ | with_reducible refine W.runi ?_ | with_reducible refine W.seq ?_ | with_reducible refine W.set ?_ | with_reducible refine W.ret ?_ | with_reducible refine W.ifs ?_ | with_reducible refine W.disp1 ?_ | with_reducible refine W.fors ?_ | with_reducible refine W.forc ?_ | with_reducible refine W.forn ?_ | with_reducible refine W.zip ?_ | (with_reducible refine W.ife_f (by kernel_rfl) ?_) | (with_reducible refine W.ife_t (by kernel_rfl) ?_) | with_reducible refine W.skip ?_ | with_reducible refine W.rdd rfl ?_ | with_reducible refine W.lst ?_ | with_reducible refine W.tup ?_ | with_reducible refine W.asg ?_ | with_reducible refine W.fmt ?_ | with_reducible refine W.nkd ?_ | with_reducible refine W.ndd ?_ | with_reducible refine W.tv ?_ | with_reducible refine W.notm ?_ | with_reducible refine W.bin ?_ | with_reducible refine W.one ?_ | with_reducible refine W.callm ?_ | with_reducible refine W.call ?_ | with_reducible refine W.cons ?_ | with_reducible refine W.nil ?_ | with_reducible refine W.cst ?_ | with_reducible refine W.ixm rfl rfl ?_ | with_reducible refine W.gt ?_ | with_reducible refine W.add ?_ | with_reducible refine W.mul (cm_r (by decide) (by decide)) ?_ | with_reducible refine W.mod (by first | assumption | decide) ?_ | with_reducible refine W.fdiv (by first | assumption | exact cdv_r (by decide) (by decide)) ?_ | with_reducible refine W.intd ?_ | with_reducible refine W.eqI ?_ | with_reducible refine W.lenL ?_ | with_reducible refine W.tbd ?_ | with_reducible refine W.mput (k := 0) ?_ | with_reducible refine W.tgt2 ?_ | with_reducible refine W.tgn ?_ | with_reducible refine W.tgd rfl ?_ | with_reducible refine W.app rfl ?_ | with_reducible refine W.fld ?_ | with_reducible refine W.keys ?_ | refine And.intro rfl ?_ | refine And.intro (Nat.le_of_ble_eq_true rfl) ?_ | dsimp only)
theorem join_split1 (z : Str) (c : Nat) : Txt.join ⟨#[c]⟩ (Txt.split z ⟨#[c]⟩) = z := by
  unfold Txt.join
  rw [StrLaws.glued_eq_join]
  exact StrLaws.join_split _ _
theorem glue_piece {c : Nat} : ∀ (xs : List (List Nat)) (x : List Nat), x ∈ xs → x.length ≤ (glueL c xs).length := fun xs => by
  induction xs with
  | nil => intro x hx; cases hx
  | cons a r ih =>
    intro x hx
    cases r with
    | nil => rw [List.mem_singleton.mp hx]; exact Nat.le_refl _
    | cons b r =>
      rw [glueL, List.length_append, List.length_cons]
      rcases List.mem_cons.mp hx with rfl | hx
      · omega
      · have := ih x hx
        omega
theorem piece_len {z : Str} {c : Nat} {w : Str} (h : w ∈ Txt.split z ⟨#[c]⟩) : w.length ≤ z.length := by
  have e : (Txt.join ⟨#[c]⟩ (Txt.split z ⟨#[c]⟩)).cps.toList.length = z.cps.toList.length := by rw [join_split1]
  rw [join_codes] at e
  have l1 := glue_piece (c := c) _ w.cps.toList (List.mem_map_of_mem (f := fun w : Str => w.cps.toList) h)
  rw [← str_len, ← str_len]
  omega
theorem len_succ {α : Type} {n : Nat} : ∀ {l : List α}, l.length = n + 1 → ∃ a r, l = a :: r ∧ r.length = n
  | a :: r, h => ⟨a, r, rfl, Nat.succ.inj h⟩
theorem len16 {α : Type} {l : List α} (h : l.length = 16) : ∃ a0 a1 a2 a3 a4 a5 a6 a7 a8 a9 b0 b1 b2 b3 b4 b5, l = [a0, a1, a2, a3, a4, a5, a6, a7, a8, a9, b0, b1, b2, b3, b4, b5] := by
  obtain ⟨a0, l1, e0, h1⟩ := len_succ h
  obtain ⟨a1, l2, e1, h2⟩ := len_succ h1
  obtain ⟨a2, l3, e2, h3⟩ := len_succ h2
  obtain ⟨a3, l4, e3, h4⟩ := len_succ h3
  obtain ⟨a4, l5, e4, h5⟩ := len_succ h4
  obtain ⟨a5, l6, e5, h6⟩ := len_succ h5
  obtain ⟨a6, l7, e6, h7⟩ := len_succ h6
  obtain ⟨a7, l8, e7, h8⟩ := len_succ h7
  obtain ⟨a8, l9, e8, h9⟩ := len_succ h8
  obtain ⟨a9, l10, e9, h10⟩ := len_succ h9
  obtain ⟨b0, l11, e10, h11⟩ := len_succ h10
  obtain ⟨b1, l12, e11, h12⟩ := len_succ h11
  obtain ⟨b2, l13, e12, h13⟩ := len_succ h12
  obtain ⟨b3, l14, e13, h14⟩ := len_succ h13
  obtain ⟨b4, l15, e14, h15⟩ := len_succ h14
  obtain ⟨b5, l16, e15, h16⟩ := len_succ h15
  have e16 := List.length_eq_zero_iff.mp h16
  rw [e16] at e15
  rw [e15] at e14
  rw [e14] at e13
  rw [e13] at e12
  rw [e12] at e11
  rw [e11] at e10
  rw [e10] at e9
  rw [e9] at e8
  rw [e8] at e7
  rw [e7] at e6
  rw [e6] at e5
  rw [e5] at e4
  rw [e4] at e3
  rw [e3] at e2
  rw [e2] at e1
  rw [e1] at e0
  exact ⟨_, _, _, _, _, _, _, _, _, _, _, _, _, _, _, _, e0⟩
section
variable {S : Sto}
theorem strs_eq : ∀ {xs ys : List Str}, xs.length = ys.length → ∃ bs, eqNL (eqN 20) (xs.map D.str) (ys.map D.str) = some bs ∧ bs.all id = decide (xs = ys)
  | [], [], _ => ⟨[], rfl, rfl⟩
  | x :: xs, y :: ys, h => by
    obtain ⟨bs, e, a⟩ := strs_eq (xs := xs) (ys := ys) (Nat.succ.inj h)
    refine ⟨(x == y) :: bs, ?_, ?_⟩
    · rw [List.map_cons, List.map_cons, eqNL, e]
      rfl
    · rw [List.all_cons, a]
      by_cases c : x = y
      · subst c
        by_cases d : xs = ys
        · rw [decide_eq_true d, decide_eq_true (by rw [d])]; simp
        · rw [decide_eq_false d, decide_eq_false (fun h => d (List.cons.inj h).2)]; simp
      · rw [decide_eq_false (fun h => c (List.cons.inj h).1), beq_no c]; rfl
theorem tup_ne {xs ys : List Str} (h : xs.length = ys.length) (ne : xs ≠ ys) : eqBD true (.tup (xs.map D.str)) (.tup (ys.map D.str)) S = some (.ok (.bl true), S) := by
  obtain ⟨bs, e, a⟩ := strs_eq h
  show (M.opt (eqNL (eqN 20) (xs.map D.str) (ys.map D.str)) >>= fun bs => pure (.bl (opp true (bs.all id && (xs.map D.str).length == (ys.map D.str).length))) : M D) S = _
  rw [e, ev_bind, ev_some, ev_ok, ev_pure, a, decide_eq_false ne]
  rfl
theorem split_ok {z : Str} (hz : z.length ≤ 1000) : splitD (.str z) (.str " ") S = some (.ok (.lst ((Txt.split z " ").map D.str)), S) := by
  show (if _ then pure (.lst ((Txt.split z " ").map D.str)) else M.stuck : M D) S = _
  rw [if_pos ⟨rfl, sz_le (by omega)⟩]
  rfl
theorem cm28 : CM 2 8 := cm_r (by decide) (by decide)
theorem settings_short {z : Str} (hz : z.length ≤ 1000) (h : (Txt.split z " ").length ≠ 16) : f_settings_in [.str z] S = some (.ok .non, S) := by
  have sp := split_ok (S := S) hz
  obtain ⟨ws, hw⟩ : ∃ ws, ws = Txt.split z " " := ⟨_, rfl⟩
  rw [← hw] at sp h
  have ln : decide ((((ws.map D.str).length : Nat) : Int) = 16) = false := decide_eq_false (by rw [List.length_map]; omega)
  unfold f_settings_in b_settings_in
  simp! only [sp, cnd_t cm28, ln]
theorem settings_other {z a0 a1 a2 a3 a4 a5 a6 a7 a8 a9 b0 b1 b2 b3 b4 b5 : Str} (hz : z.length ≤ 1000) (h : Txt.split z " " = [a0, a1, a2, a3, a4, a5, a6, a7, a8, a9, b0, b1, b2, b3, b4, b5]) (ne : [a0, a2, a4, a6, a8, b0, b2, b4] ≠ NM) : f_settings_in [.str z] S = some (.ok .non, S) := by
  have sp := split_ok (S := S) hz
  rw [h] at sp
  have sp : splitD (.str z) (.str " ") S = some (.ok (.lst [.str a0, .str a1, .str a2, .str a3, .str a4, .str a5, .str a6, .str a7, .str a8, .str a9, .str b0, .str b1, .str b2, .str b3, .str b4, .str b5]), S) := sp
  have st : stepD evenI (.lst [.str a0, .str a1, .str a2, .str a3, .str a4, .str a5, .str a6, .str a7, .str a8, .str a9, .str b0, .str b1, .str b2, .str b3, .str b4, .str b5]) S = some (.ok (.lst [.str a0, .str a2, .str a4, .str a6, .str a8, .str b0, .str b2, .str b4]), S) := rfl
  have t : eqBD true (.tup [.str a0, .str a2, .str a4, .str a6, .str a8, .str b0, .str b2, .str b4]) (.tup [.str "base", .str "sign", .str "least", .str "group", .str "mark", .str "width", .str "fill", .str "side"]) S = some (.ok (.bl true), S) := tup_ne (S := S) (xs := [a0, a2, a4, a6, a8, b0, b2, b4]) (ys := NM) rfl ne
  unfold f_settings_in b_settings_in
  simp! only [sp, cnd_t cm28, st, t]
theorem settings_gen {z p0 p1 p2 p3 p4 p5 p6 p7 : Str} {d0 d1 d2 d3 d4 d5 d6 d7 : D} (hz : z.length ≤ 1000) (h : Txt.split z " " = (["base", p0, "sign", p1, "least", p2, "group", p3, "mark", p4, "width", p5, "fill", p6, "side", p7] : List Str))
    (h0 : f_setting_in [.str "base", .str p0] S = some (.ok d0, S)) (h1 : f_setting_in [.str "sign", .str p1] S = some (.ok d1, S)) (h2 : f_setting_in [.str "least", .str p2] S = some (.ok d2, S)) (h3 : f_setting_in [.str "group", .str p3] S = some (.ok d3, S))
    (h4 : f_setting_in [.str "mark", .str p4] S = some (.ok d4, S)) (h5 : f_setting_in [.str "width", .str p5] S = some (.ok d5, S)) (h6 : f_setting_in [.str "fill", .str p6] S = some (.ok d6, S)) (h7 : f_setting_in [.str "side", .str p7] S = some (.ok d7, S))
    (sc : [d0, d1, d2, d3, d4, d5, d6, d7].all scalD = true) (no : ([d0, d1, d2, d3, d4, d5, d6, d7].any fun y => eqF y .non) = true) : f_settings_in [.str z] S = some (.ok .non, S) := by
  refine W.toEq ?_
  unfold f_settings_in b_settings_in
  refine W.run (W.seqE (δ' := [some (.str z), some (.lst ((["base", p0, "sign", p1, "least", p2, "group", p3, "mark", p4, "width", p5, "fill", p6, "side", p7] : List Str).map D.str)), none, none, none]) (S1 := S) (W.toEq (W.set (W.strm (W.rdd rfl ⟨_, rfl, W.cst (W.ite ⟨rfl, sz_le (by omega)⟩ (W.pure ⟨by rw [h]; rfl, rfl⟩))⟩)))) ?_)
  refine W.seq (W.ifs_f (by kernel_rfl) (W.skip ?_))
  refine W.seq (W.set (W.bind (W.eq (a := [.tup [.str "base", .str p0], .tup [.str "sign", .str p1], .tup [.str "least", .str p2], .tup [.str "group", .str p3], .tup [.str "mark", .str p4], .tup [.str "width", .str p5], .tup [.str "fill", .str p6], .tup [.str "side", .str p7]]) (S' := S) (by kernel_rfl) (W.bind ?_))))
  refine compKL_step h0 (Nat.le_of_ble_eq_true rfl) (compKL_step h1 (Nat.le_of_ble_eq_true rfl) (compKL_step h2 (Nat.le_of_ble_eq_true rfl) (compKL_step h3 (Nat.le_of_ble_eq_true rfl) (compKL_step h4 (Nat.le_of_ble_eq_true rfl) (compKL_step h5 (Nat.le_of_ble_eq_true rfl) (compKL_step h6 (Nat.le_of_ble_eq_true rfl) (compKL_step h7 (Nat.le_of_ble_eq_true rfl) ?_)))))))
  refine W.pure (W.pure ?_)
  refine W.seq (W.ret (W.ife_t (W.toEq (W.tv (W.bin (W.cst (W.one (W.rdd (d := dctO d0 d1 d2 d3 d4 d5 d6 d7) (by kernel_rfl) (W.eq (a := .lst [d0, d1, d2, d3, d4, d5, d6, d7]) (S' := S) rfl (W.ite ⟨rfl, sc⟩ (W.pure (W.tbd ⟨?_, rfl⟩)))))))))) (W.cst ⟨rfl, rfl⟩)))
  rw [no]
  rfl
theorem Tells.scal {nm w : Str} {d : D} (h : Tells nm w d) : scalD d = true := by
  rcases h.2 with rfl | ⟨F, _⟩
  · rfl
  · exact F.c.scal
theorem settings_any {z : Str} (hz : z.length ≤ 1000) : (∀ S, f_settings_in [.str z] S = some (.ok .non, S)) ∨ ∃ b s l g m w f sd, Fits b s l g m w f sd ∧ wordsX b s l g m w f sd = z ∧ ∀ S, f_settings_in [.str z] S = some (.ok (dctO b s l g m w f sd), S) := by
  by_cases c : (Txt.split z " ").length = 16
  · have pl : ∀ w ∈ Txt.split z " ", w.length ≤ 1000 := fun w hw => Nat.le_trans (piece_len (c := 32) hw) hz
    obtain ⟨a0, p0, a1, p1, a2, p2, a3, p3, a4, p4, a5, p5, a6, p6, a7, p7, hs⟩ := len16 c
    rw [hs] at pl
    by_cases ne : [a0, a1, a2, a3, a4, a5, a6, a7] = NM
    · unfold NM at ne
      simp only [List.cons.injEq, and_true] at ne
      obtain ⟨rfl, rfl, rfl, rfl, rfl, rfl, rfl, rfl⟩ := ne
      have nm : ∀ i (h : i < 8), NM[i]'h ∈ NM := fun i h => List.getElem_mem h
      obtain ⟨d0, t0⟩ := tells_any (w := p0) (pl _ (by simp)) _ (nm 0 (by decide))
      obtain ⟨d1, t1⟩ := tells_any (w := p1) (pl _ (by simp)) _ (nm 1 (by decide))
      obtain ⟨d2, t2⟩ := tells_any (w := p2) (pl _ (by simp)) _ (nm 2 (by decide))
      obtain ⟨d3, t3⟩ := tells_any (w := p3) (pl _ (by simp)) _ (nm 3 (by decide))
      obtain ⟨d4, t4⟩ := tells_any (w := p4) (pl _ (by simp)) _ (nm 4 (by decide))
      obtain ⟨d5, t5⟩ := tells_any (w := p5) (pl _ (by simp)) _ (nm 5 (by decide))
      obtain ⟨d6, t6⟩ := tells_any (w := p6) (pl _ (by simp)) _ (nm 6 (by decide))
      obtain ⟨d7, t7⟩ := tells_any (w := p7) (pl _ (by simp)) _ (nm 7 (by decide))
      have sc : [d0, d1, d2, d3, d4, d5, d6, d7].all scalD = true := by simp only [List.all_cons, List.all_nil, t0.scal, t1.scal, t2.scal, t3.scal, t4.scal, t5.scal, t6.scal, t7.scal, Bool.and_self]
      have no : (∃ d ∈ [d0, d1, d2, d3, d4, d5, d6, d7], d = .non) → ∀ S, f_settings_in [.str z] S = some (.ok .non, S) := fun ⟨d, hd, e⟩ S =>
        settings_gen hz hs (t0.1 S) (t1.1 S) (t2.1 S) (t3.1 S) (t4.1 S) (t5.1 S) (t6.1 S) (t7.1 S) sc (List.any_eq_true.mpr ⟨d, hd, by rw [e]; rfl⟩)
      rcases t0.2 with e | ⟨F0, x0⟩
      · exact .inl (no ⟨d0, by simp, e⟩)
      rcases t1.2 with e | ⟨F1, x1⟩
      · exact .inl (no ⟨d1, by simp, e⟩)
      rcases t2.2 with e | ⟨F2, x2⟩
      · exact .inl (no ⟨d2, by simp, e⟩)
      rcases t3.2 with e | ⟨F3, x3⟩
      · exact .inl (no ⟨d3, by simp, e⟩)
      rcases t4.2 with e | ⟨F4, x4⟩
      · exact .inl (no ⟨d4, by simp, e⟩)
      rcases t5.2 with e | ⟨F5, x5⟩
      · exact .inl (no ⟨d5, by simp, e⟩)
      rcases t6.2 with e | ⟨F6, x6⟩
      · exact .inl (no ⟨d6, by simp, e⟩)
      rcases t7.2 with e | ⟨F7, x7⟩
      · exact .inl (no ⟨d7, by simp, e⟩)
      have F : Fits d0 d1 d2 d3 d4 d5 d6 d7 := ⟨F0, F1, F2, F3, F4, F5, F6, F7⟩
      have e : wordsX d0 d1 d2 d3 d4 d5 d6 d7 = z := by
        have j := join_split1 z 32
        rw [← j]
        show Txt.join " " (wordsL d0 d1 d2 d3 d4 d5 d6 d7) = Txt.join " " (Txt.split z " ")
        rw [hs, ← x0, ← x1, ← x2, ← x3, ← x4, ← x5, ← x6, ← x7]
        rfl
      exact .inr ⟨_, _, _, _, _, _, _, _, F, e, fun S => by rw [← e]; exact settings_in_eq F⟩
    · exact .inl fun S => settings_other hz hs ne
  · exact .inl fun S => settings_short hz c
theorem read_any {z : Str} (hz : z.length ≤ 1000) : (∀ S, f_Format_read [.str z] S = some (.error ⟨"InvalidText", [("value", .str z)]⟩, S)) ∨ ∃ b s l g m w f sd, Fits b s l g m w f sd ∧ wordsX b s l g m w f sd = z ∧ ∀ S, f_Format_read [.str z] S = some (.ok (fmtO b s l g m w f sd), S) := by
  have ty : ∀ S, isTyD "str" (.str z) S = some (.ok (.bl true), S) := fun S => rfl
  rcases settings_any hz with h | ⟨b, s, l, g, m, w, f, sd, F, e, h⟩
  · refine .inl fun S => ?_
    have h := h S
    unfold f_Format_read b_Format_read
    simp! only [ty, h]
  · refine .inr ⟨b, s, l, g, m, w, f, sd, F, e, fun S => ?_⟩
    have h := h S
    have n : isNonD false (dctO b s l g m w f sd) .non S = some (.ok (.bl false), S) := rfl
    have k := fo_of (init_eq (S := S) F)
    unfold f_Format_read b_Format_read
    simp! only [ty, h, n, k]
theorem read_eq {b s l g m w f sd : D} (F : Fits b s l g m w f sd) : f_Format_read [.str (wordsX b s l g m w f sd)] S = some (.ok (fmtO b s l g m w f sd), S) := by
  have h := settings_in_eq (S := S) F
  have ty : ∀ z : Str, isTyD "str" (.str z) S = some (.ok (.bl true), S) := fun z => rfl
  have n : isNonD false (dctO b s l g m w f sd) .non S = some (.ok (.bl false), S) := rfl
  have k := fo_of (init_eq (S := S) F)
  unfold f_Format_read b_Format_read
  simp! only [ty, h, n, k]
end
end
section
open PySem PySem.Spec PyProof.Rows L2
local macro_rules | `(tactic| walk_at "wg") => `(tactic| repeat' first | with_reducible refine W.run ?_ | with_reducible refine W.runi ?_ | with_reducible refine W.seq ?_ | with_reducible refine W.set ?_ | with_reducible refine W.ret ?_ | with_reducible refine W.ifs ?_ | with_reducible refine W.disp1 ?_ | with_reducible refine W.ife ?_ | with_reducible refine W.skip ?_ | with_reducible refine W.rdd rfl ?_ | with_reducible refine W.lst ?_ | with_reducible refine W.tup ?_ | with_reducible refine W.asg ?_ | with_reducible refine W.fmt ?_ | with_reducible refine W.nkd ?_ | with_reducible refine W.ndd ?_ | with_reducible refine W.tv ?_ | with_reducible refine W.notm ?_ | with_reducible refine W.bin ?_ | with_reducible refine W.one ?_ | with_reducible refine W.callm ?_ | with_reducible refine W.call ?_ | with_reducible refine W.cons ?_ | with_reducible refine W.nil ?_ | with_reducible refine W.cst ?_ | with_reducible refine W.ixm rfl rfl ?_ | with_reducible refine W.gt ?_ | with_reducible refine W.add ?_ | with_reducible refine W.mul (cm_r (by decide) (by decide)) ?_ | with_reducible refine W.mod (by first | assumption | decide) ?_ | with_reducible refine W.fdiv (by first | assumption | exact cdv_r (by decide) (by decide)) ?_ | with_reducible refine W.intd ?_ | with_reducible refine W.eqI ?_ | with_reducible refine W.lenL ?_ | with_reducible refine W.tbd ?_ | with_reducible refine W.mput (k := 0) ?_ | with_reducible refine W.tgt2 ?_ | with_reducible refine W.tgn ?_ | with_reducible refine W.tgd rfl ?_ | with_reducible refine W.app rfl ?_ | with_reducible refine W.fld ?_ | with_reducible refine W.keys ?_ | refine And.intro rfl ?_ | refine And.intro (Nat.le_of_ble_eq_true rfl) ?_ | dsimp only)
local macro_rules | `(tactic| walk_at "wh") => `(tactic| repeat' first | with_reducible refine W.run ?_ | with_reducible refine W.runi ?_ | with_reducible refine W.seq ?_ | with_reducible refine W.set ?_ | with_reducible refine W.ret ?_ | with_reducible refine W.ifs ?_ | with_reducible refine W.disp1 ?_ | with_reducible refine W.skip ?_ | with_reducible refine W.rdd rfl ?_ | with_reducible refine W.lst ?_ | with_reducible refine W.tup ?_ | with_reducible refine W.asg ?_ | with_reducible refine W.fmt ?_ | with_reducible refine W.nkd ?_ | with_reducible refine W.ndd ?_ | with_reducible refine W.tv ?_ | with_reducible refine W.notm ?_ | with_reducible refine W.bin ?_ | with_reducible refine W.one ?_ | with_reducible refine W.callm ?_ | with_reducible refine W.call ?_ | with_reducible refine W.cons ?_ | with_reducible refine W.nil ?_ | with_reducible refine W.cst ?_ | with_reducible refine W.ixm rfl rfl ?_ | with_reducible refine W.gt ?_ | with_reducible refine W.add ?_ | with_reducible refine W.mul (cm_r (by decide) (by decide)) ?_ | with_reducible refine W.mod (by first | assumption | decide) ?_ | with_reducible refine W.fdiv (by first | assumption | exact cdv_r (by decide) (by decide)) ?_ | with_reducible refine W.intd ?_ | with_reducible refine W.eqI ?_ | with_reducible refine W.lenL ?_ | with_reducible refine W.tbd ?_ | with_reducible refine W.mput (k := 0) ?_ | with_reducible refine W.tgt2 ?_ | with_reducible refine W.tgn ?_ | with_reducible refine W.tgd rfl ?_ | with_reducible refine W.app rfl ?_ | with_reducible refine W.fld ?_ | with_reducible refine W.keys ?_ | refine And.intro rfl ?_ | refine And.intro (Nat.le_of_ble_eq_true rfl) ?_ | dsimp only)
local macro_rules | `(tactic| walk_at "wf") => `(tactic| repeat' first | with_reducible refine W.run ?_ | with_reducible refine W.runi ?_ | with_reducible refine W.seq ?_ | with_reducible refine W.set ?_ | with_reducible refine W.ret ?_ | with_reducible refine W.ifs ?_ | with_reducible refine W.disp1 ?_ | with_reducible refine W.fors ?_ | with_reducible refine W.forc ?_ | with_reducible refine W.forn ?_ | with_reducible refine W.zip ?_ | (with_reducible refine W.ife_f (by kernel_rfl) ?_) | (with_reducible refine W.ife_t (by kernel_rfl) ?_) | with_reducible refine W.skip ?_ | with_reducible refine W.rdd rfl ?_ | with_reducible refine W.lst ?_ | with_reducible refine W.tup ?_ | with_reducible refine W.asg ?_ | with_reducible refine W.fmt ?_ | with_reducible refine W.nkd ?_ | with_reducible refine W.ndd ?_ | with_reducible refine W.tv ?_ | with_reducible refine W.notm ?_ | with_reducible refine W.bin ?_ | with_reducible refine W.one ?_ | with_reducible refine W.callm ?_ | with_reducible refine W.call ?_ | with_reducible refine W.cons ?_ | with_reducible refine W.nil ?_ | with_reducible refine W.cst ?_ | with_reducible refine W.ixm rfl rfl ?_ | with_reducible refine W.gt ?_ | with_reducible refine W.add ?_ | with_reducible refine W.mul (cm_r (by decide) (by decide)) ?_ | with_reducible refine W.mod (by first | assumption | decide) ?_ | with_reducible refine W.fdiv (by first | assumption | exact cdv_r (by decide) (by decide)) ?_ | with_reducible refine W.intd ?_ | with_reducible refine W.eqI ?_ | with_reducible refine W.lenL ?_ | with_reducible refine W.tbd ?_ | with_reducible refine W.mput (k := 0) ?_ | with_reducible refine W.tgt2 ?_ | with_reducible refine W.tgn ?_ | with_reducible refine W.tgd rfl ?_ | with_reducible refine W.app rfl ?_ | with_reducible refine W.fld ?_ | with_reducible refine W.keys ?_ | refine And.intro rfl ?_ | refine And.intro (Nat.le_of_ble_eq_true rfl) ?_ | dsimp only)
section
variable {S S1 : Sto} {δ : DEnv}
theorem methD_eq {c mn : Str} {n : Nat} {f : List D → M D} {t : DEnv → M D} {u : DEnv → M (List D)} {fs : List (Str × D)} {ds : List D} {r : Option (Except Ex D × Sto)} (h1 : t δ S = some (.ok (.obj c fs), S)) (h2 : fs.lookup mn = none) (h3 : u δ S = some (.ok ds, S1)) (h4 : ds.length + 1 = n) (h5 : f (.obj c fs :: ds) S1 = r) : methD c mn n f t u δ S = r :=
  Ok.bindS h1 (Ok.bindS (a := fs) (S1 := S) (by show (if c = c then pure fs else M.stuck : M (List (Str × D))) S = _; rw [if_pos rfl]; rfl) (by rw [if_pos h2]; exact Ok.bindS h3 (by rw [if_pos h4]; exact h5)))
theorem eqN_scal {n : Nat} {x y : D} (hx : scalD x = true) (hy : scalD y = true) : eqN (n + 1) x y = some (eqF x y) := by
  cases x <;> cases y <;> first | rfl | (cases hx; done) | (cases hy; done)
def eqL (b s l g m w f sd b2 s2 l2 g2 m2 w2 f2 sd2 : D) : Bool := [eqF b b2, eqF s s2, eqF l l2, eqF g g2, eqF m m2, eqF w w2, eqF f f2, eqF sd sd2].all id
variable {b s l g m w f sd b2 s2 l2 g2 m2 w2 f2 sd2 : D}
theorem eqL_self (F : Fits b s l g m w f sd) : eqL b s l g m w f sd b s l g m w f sd = true := by
  unfold eqL
  simp only [List.all_cons, List.all_nil, id, F.b.c.self, F.s.c.self, F.l.c.self, F.g.c.self, F.m.c.self, F.w.c.self, F.f.c.self, F.sd.c.self, Bool.and_self]
theorem eq_tup (F : Fits b s l g m w f sd) (F2 : Fits b2 s2 l2 g2 m2 w2 f2 sd2) : eqBD false (.tup [b, s, l, g, m, w, f, sd]) (.tup [b2, s2, l2, g2, m2, w2, f2, sd2]) S = some (.ok (.bl (eqL b s l g m w f sd b2 s2 l2 g2 m2 w2 f2 sd2)), S) := by
  have e : eqNL (eqN 20) [b, s, l, g, m, w, f, sd] [b2, s2, l2, g2, m2, w2, f2, sd2] = some [eqF b b2, eqF s s2, eqF l l2, eqF g g2, eqF m m2, eqF w w2, eqF f f2, eqF sd sd2] := by
    simp only [eqNL, eqN_scal F.b.c.scal F2.b.c.scal, eqN_scal F.s.c.scal F2.s.c.scal, eqN_scal F.l.c.scal F2.l.c.scal, eqN_scal F.g.c.scal F2.g.c.scal, eqN_scal F.m.c.scal F2.m.c.scal, eqN_scal F.w.c.scal F2.w.c.scal, eqN_scal F.f.c.scal F2.f.c.scal, eqN_scal F.sd.c.scal F2.sd.c.scal, Option.bind_some, Option.map_some]
  show (M.opt (eqNL (eqN 20) [b, s, l, g, m, w, f, sd] [b2, s2, l2, g2, m2, w2, f2, sd2]) >>= fun bs => (pure (.bl (opp false (bs.all id && _))) : M D)) S = _
  rw [e]
  exact congrArg (fun z => some (Except.ok (D.bl z), S)) (Bool.and_true _)
theorem eq_eq (F : Fits b s l g m w f sd) (F2 : Fits b2 s2 l2 g2 m2 w2 f2 sd2) : f_Formatdd_eqdd [fmtO b s l g m w f sd, fmtO b2 s2 l2 g2 m2 w2 f2 sd2] S = some (.ok (.bl (eqL b s l g m w f sd b2 s2 l2 g2 m2 w2 f2 sd2)), S) := by
  refine W.toEq ?_
  unfold f_Formatdd_eqdd b_Formatdd_eqdd
  refine W.run (W.seq (W.ret (W.bind (W.eq (a := .bl true) (S' := S) (by kernel_rfl) (W.bind (W.tbd (W.ite rfl ?_)))))))
  refine W.bin (W.eq (methD_eq (fs := _) rfl (by kernel_rfl) (ds := []) rfl rfl settings_eq) (W.eq (methD_eq (fs := _) rfl (by kernel_rfl) (ds := []) rfl rfl settings_eq) (W.eq (eq_tup F F2) ⟨rfl, rfl⟩)))
theorem eqO {neg : Bool} (F : Fits b s l g m w f sd) (F2 : Fits b2 s2 l2 g2 m2 w2 f2 sd2) : eqOD "Format" f_Formatdd_eqdd neg (fmtO b s l g m w f sd) (fmtO b2 s2 l2 g2 m2 w2 f2 sd2) S = some (.ok (.bl (opp neg (eqL b s l g m w f sd b2 s2 l2 g2 m2 w2 f2 sd2))), S) :=
  W.toEq (W.ite ⟨rfl, rfl⟩ (W.bind (W.noErr (W.eq (eq_eq F F2) (W.pure ⟨rfl, rfl⟩)))))
end
end
section
open PySem PySem.Spec PyProof.Rows L2
local macro_rules | `(tactic| walk_at "wg") => `(tactic| repeat' first | with_reducible refine W.run ?_ | with_reducible refine W.runi ?_ | with_reducible refine W.seq ?_ | with_reducible refine W.set ?_ | with_reducible refine W.ret ?_ | with_reducible refine W.ifs ?_ | with_reducible refine W.disp1 ?_ | with_reducible refine W.ife ?_ | with_reducible refine W.skip ?_ | with_reducible refine W.rdd rfl ?_ | with_reducible refine W.lst ?_ | with_reducible refine W.tup ?_ | with_reducible refine W.asg ?_ | with_reducible refine W.fmt ?_ | with_reducible refine W.nkd ?_ | with_reducible refine W.ndd ?_ | with_reducible refine W.tv ?_ | with_reducible refine W.notm ?_ | with_reducible refine W.bin ?_ | with_reducible refine W.one ?_ | with_reducible refine W.callm ?_ | with_reducible refine W.call ?_ | with_reducible refine W.cons ?_ | with_reducible refine W.nil ?_ | with_reducible refine W.cst ?_ | with_reducible refine W.ixm rfl rfl ?_ | with_reducible refine W.gt ?_ | with_reducible refine W.add ?_ | with_reducible refine W.mul (cm_r (by decide) (by decide)) ?_ | with_reducible refine W.mod (by first | assumption | decide) ?_ | with_reducible refine W.fdiv (by first | assumption | exact cdv_r (by decide) (by decide)) ?_ | with_reducible refine W.intd ?_ | with_reducible refine W.eqI ?_ | with_reducible refine W.lenL ?_ | with_reducible refine W.tbd ?_ | with_reducible refine W.mput (k := 0) ?_ | with_reducible refine W.tgt2 ?_ | with_reducible refine W.tgn ?_ | with_reducible refine W.tgd rfl ?_ | with_reducible refine W.app rfl ?_ | with_reducible refine W.fld ?_ | with_reducible refine W.keys ?_ | refine And.intro rfl ?_ | refine And.intro (Nat.le_of_ble_eq_true rfl) ?_ | dsimp only)
local macro_rules | `(tactic| walk_at "wh") => `(tactic| repeat' first | with_reducible refine W.run ?_ | with_reducible refine W.runi ?_ | with_reducible refine W.seq ?_ | with_reducible refine W.set ?_ | with_reducible refine W.ret ?_ | with_reducible refine W.ifs ?_ | with_reducible refine W.disp1 ?_ | with_reducible refine W.skip ?_ | with_reducible refine W.rdd rfl ?_ | with_reducible refine W.lst ?_ | with_reducible refine W.tup ?_ | with_reducible refine W.asg ?_ | with_reducible refine W.fmt ?_ | with_reducible refine W.nkd ?_ | with_reducible refine W.ndd ?_ | with_reducible refine W.tv ?_ | with_reducible refine W.notm ?_ | with_reducible refine W.bin ?_ | with_reducible refine W.one ?_ | with_reducible refine W.callm ?_ | with_reducible refine W.call ?_ | with_reducible refine W.cons ?_ | with_reducible refine W.nil ?_ | with_reducible refine W.cst ?_ | with_reducible refine W.ixm rfl rfl ?_ | with_reducible refine W.gt ?_ | with_reducible refine W.add ?_ | with_reducible refine W.mul (cm_r (by decide) (by decide)) ?_ | with_reducible refine W.mod (by first | assumption | decide) ?_ | with_reducible refine W.fdiv (by first | assumption | exact cdv_r (by decide) (by decide)) ?_ | with_reducible refine W.intd ?_ | with_reducible refine W.eqI ?_ | with_reducible refine W.lenL ?_ | with_reducible refine W.tbd ?_ | with_reducible refine W.mput (k := 0) ?_ | with_reducible refine W.tgt2 ?_ | with_reducible refine W.tgn ?_ | with_reducible refine W.tgd rfl ?_ | with_reducible refine W.app rfl ?_ | with_reducible refine W.fld ?_ | with_reducible refine W.keys ?_ | refine And.intro rfl ?_ | refine And.intro (Nat.le_of_ble_eq_true rfl) ?_ | dsimp only)
local macro_rules | `(tactic| walk_at "wf") => `(tactic| repeat' first | with_reducible refine W.run ?_ | with_reducible refine W.runi ?_ | with_reducible refine W.seq ?_ | with_reducible refine W.set ?_ | with_reducible refine W.ret ?_ | with_reducible refine W.ifs ?_ | with_reducible refine W.disp1 ?_ | with_reducible refine W.fors ?_ | with_reducible refine W.forc ?_ | with_reducible refine W.forn ?_ | with_reducible refine W.zip ?_ | (with_reducible refine W.ife_f (by kernel_rfl) ?_) | (with_reducible refine W.ife_t (by kernel_rfl) ?_) | with_reducible refine W.skip ?_ | with_reducible refine W.rdd rfl ?_ | with_reducible refine W.lst ?_ | with_reducible refine W.tup ?_ | with_reducible refine W.asg ?_ | with_reducible refine W.fmt ?_ | with_reducible refine W.nkd ?_ | with_reducible refine W.ndd ?_ | with_reducible refine W.tv ?_ | with_reducible refine W.notm ?_ | with_reducible refine W.bin ?_ | with_reducible refine W.one ?_ | with_reducible refine W.callm ?_ | with_reducible refine W.call ?_ | with_reducible refine W.cons ?_ | with_reducible refine W.nil ?_ | with_reducible refine W.cst ?_ | with_reducible refine W.ixm rfl rfl ?_ | with_reducible refine W.gt ?_ | with_reducible refine W.add ?_ | with_reducible refine W.mul (cm_r (by decide) (by decide)) ?_ | with_reducible refine W.mod (by first | assumption | decide) ?_ | with_reducible refine W.fdiv (by first | assumption | exact cdv_r (by decide) (by decide)) ?_ | with_reducible refine W.intd ?_ | with_reducible refine W.eqI ?_ | with_reducible refine W.lenL ?_ | with_reducible refine W.tbd ?_ | with_reducible refine W.mput (k := 0) ?_ | with_reducible refine W.tgt2 ?_ | with_reducible refine W.tgn ?_ | with_reducible refine W.tgd rfl ?_ | with_reducible refine W.app rfl ?_ | with_reducible refine W.fld ?_ | with_reducible refine W.keys ?_ | refine And.intro rfl ?_ | refine And.intro (Nat.le_of_ble_eq_true rfl) ?_ | dsimp only)
section
variable {S : Sto}
theorem strs_all : ∀ l : List Str, strsD (l.map D.str) = some l
  | [] => rfl
  | x :: r => by
    rw [List.map_cons]
    show (strsD (r.map D.str)).map (x :: ·) = _
    rw [strs_all r]
    rfl
def Sh20 (d : D) : Prop := ∃ y : Str, d = .str y ∧ y.length ≤ 20
theorem lst_strs : ∀ {ds : List D}, (∀ d ∈ ds, Sh20 d) → ∃ ys : List Str, ds = ys.map D.str ∧ ∀ y ∈ ys, y.length ≤ 20
  | [], _ => ⟨[], rfl, fun _ h => by cases h⟩
  | d :: r, h => by
    obtain ⟨y, e, hy⟩ := h d (List.mem_cons_self ..)
    obtain ⟨ys, e2, h2⟩ := lst_strs fun x hx => h x (List.mem_cons_of_mem _ hx)
    refine ⟨y :: ys, by rw [e, e2]; rfl, fun z hz => ?_⟩
    rcases List.mem_cons.mp hz with rfl | hz
    · exact hy
    · exact h2 z hz
theorem join_any {ds : List D} (h : ∀ d ∈ ds, Sh20 d) (hl : ds.length ≤ 40) : ∃ x : Str, (∀ S, joinD (.str " ") (.lst ds) S = some (.ok (.str x), S)) ∧ x.length ≤ 1000 := by
  obtain ⟨ys, rfl, hy⟩ := lst_strs h
  rw [List.length_map] at hl
  refine ⟨Txt.join " " ys, fun S => ?_, ?_⟩
  · show (M.opt (strsD (ys.map D.str)) >>= fun ys => if joinOk " " ys then pure (.str (Txt.join " " ys)) else M.stuck : M D) S = _
    rw [strs_all, ev_bind, ev_some, ev_ok, if_pos (join_ok (n := 20) hy (by omega))]
    rfl
  · have := join_len (n := 20) hy
    omega
theorem cut_mem {ds : List D} {lo hi : Option Int} {x : D} (h : x ∈ cutD ds lo hi) : x ∈ ds := List.mem_of_mem_drop (List.mem_of_mem_take h)
theorem cut_len {ds : List D} {lo hi : Option Int} : (cutD ds lo hi).length ≤ ds.length := by
  unfold cutD
  rw [List.length_take, List.length_drop]
  omega
theorem ixN_at {n k : Nat} (h : k < n) : ixN n ((k : Nat) : Int) = some k := by
  show (if (0 : Int) ≤ ((k : Nat) : Int) then (if ((k : Nat) : Int) < ((n : Nat) : Int) then some (((k : Nat) : Int)).toNat else none) else _) = _
  rw [if_pos (by omega), if_pos (by omega)]
  rfl
theorem cut_step {ds : List D} {k : Nat} : (cutD ds (some ((k : Nat) : Int)) (some (((k : Nat) : Int) + 1))).length ≤ 1 := by
  unfold cutD
  rw [List.length_take]
  have x1 : HT.sIx ds.length ds.length (some (((k : Nat) : Int) + 1)) = min (k + 1) ds.length := HT.sIx_nat ds.length ds.length (k + 1)
  have x2 : HT.sIx ds.length 0 (some ((k : Nat) : Int)) = min k ds.length := HT.sIx_nat ds.length 0 k
  rw [x1, x2]
  omega
theorem join_len0 (ys : List Str) : (Txt.join " " ys).length ≤ (ys.map (·.length)).sum + ys.length := by
  rw [TL.len_tl, TL.join_eq, TL.tl_join]
  have h2 := joinL_len (y := TL.tl " ") (by kernel_rfl) (ys.map TL.tl)
  have e : ((ys.map TL.tl).map (·.length)).sum = (ys.map (·.length)).sum := by
    rw [List.map_map]
    exact congrArg List.sum (List.map_congr_left fun x _ => (TL.len_tl x).symm)
  rw [e, List.length_map] at h2
  exact h2
theorem wordsX_300 {b s l g m w f sd : D} (F : Fits b s l g m w f sd) : (wordsX b s l g m w f sd).length ≤ 300 ∧ 1 ≤ (wordsX b s l g m w f sd).length := by
  constructor
  · refine Nat.le_trans (join_len0 _) ?_
    simp only [wordsL, List.map_cons, List.map_nil, List.sum_cons, List.sum_nil, List.length_cons, List.length_nil]
    have := F.b.c.len
    have := F.s.c.len
    have := F.l.c.len
    have := F.g.c.len
    have := F.m.c.len
    have := F.w.c.len
    have := F.f.c.len
    have := F.sd.c.len
    have q0 : ("base" : Str).length = 4 := by kernel_rfl
    have q1 : ("sign" : Str).length = 4 := by kernel_rfl
    have q2 : ("least" : Str).length = 5 := by kernel_rfl
    have q3 : ("group" : Str).length = 5 := by kernel_rfl
    have q4 : ("mark" : Str).length = 4 := by kernel_rfl
    have q5 : ("width" : Str).length = 5 := by kernel_rfl
    have q6 : ("fill" : Str).length = 4 := by kernel_rfl
    have q7 : ("side" : Str).length = 4 := by kernel_rfl
    omega
  · have h := glue_piece (c := 32) ((wordsL b s l g m w f sd).map fun w : Str => w.cps.toList) ("base" : Str).cps.toList (List.mem_map_of_mem (f := fun w : Str => w.cps.toList) (List.mem_cons_self ..))
    rw [← join_codes] at h
    have e : (Txt.join ⟨#[32]⟩ (wordsL b s l g m w f sd)).cps.toList.length = (wordsX b s l g m w f sd).length := str_len _
    rw [e] at h
    exact Nat.le_trans (by decide +kernel) h
theorem lput_eq {i : Nat} {k t : DEnv → M D} {δ : DEnv} {S1 : Sto} {v : D} {ds : List D} {n : Nat} (h1 : t δ S = some (.ok v, S1)) (h2 : rd i δ S1 = some (.ok (.lst ds), S1)) (h3 : k δ S1 = some (.ok (.int (n : Nat)), S1)) (hn : n < ds.length) : lputS i k t δ S = some (.ok (δ.set i (some (.lst (ds.set n v))), .nx), S1) := by
  show (t δ >>= fun v => rd i δ >>= fun x => itL x >>= fun ds => k δ >>= fun y => (match y with
    | .int n => (do let j ← M.opt (ixN ds.length n); pure (δ.set i (some (.lst (ds.set j v))), Fl.nx))
    | _ => M.stuck) : M (DEnv × Fl)) S = _
  rw [ev_bind, h1, ev_ok, ev_bind, h2, ev_ok, ev_bind, ev_itL, ev_ok, ev_bind, h3, ev_ok]
  show (M.opt (ixN ds.length (n : Nat)) >>= fun j => pure (δ.set i (some (.lst (ds.set j v))), Fl.nx) : M (DEnv × Fl)) S1 = _
  rw [ixN_at hn]
  rfl
theorem take8 {m : Int} (hm : 0 < m) (hs : m < 10 ^ 40) (h : PotS S) : ∃ (n : Nat) (S' : Sto), f_l_spoon [.mt 0, .int m] S = some (.ok (.int (n : Nat)), S') ∧ ((n : Nat) : Int) < m ∧ PotS S' := by
  obtain ⟨d, S', e, r, rfl, h1, h2, p⟩ := spoon_ok hm hs h
  exact ⟨r.toNat, S', by rw [Int.toNat_of_nonneg h1]; exact e, by rw [Int.toNat_of_nonneg h1]; exact h2, p⟩
theorem pick_ok {ds : List D} (h0 : 0 < ds.length) (h1 : ds.length < 1000) (h : PotS S) : ∃ (d : D) (S' : Sto), f_l_of [.mt 0, .lst ds] S = some (.ok d, S') ∧ d ∈ ds ∧ PotS S' := by
  obtain ⟨d, S', e, m, p⟩ := of_ok h0 h1 h
  exact ⟨d, S', e, m, p⟩
theorem sl_str {z : Str} (h : z.length ≤ 1000) {lo hi : Option Int} : slSD (.str z) lo hi S = some (.ok (.str (cutS z lo hi)), S) := by
  rw [ev_slS, cnd_t (sz_le (by omega))]; rfl
theorem add_str {a b : Str} (h : a.length ≤ 5000) (h2 : b.length ≤ 5000) : addD (.str a) (.str b) S = some (.ok (.str (a ++ b)), S) := by
  rw [ev_addS, cnd_t (sz_le (by omega))]; rfl
theorem bent_ok {z : Str} (h1 : 1 ≤ z.length) (h2 : z.length ≤ 300) (hw : (Txt.split z " ").length = 16) (hs : ∀ w ∈ Txt.split z " ", w.length ≤ 20) (h : PotS S) : ∃ (x : Str) (S' : Sto), f_l_bent [.mt 0, .str z] S = some (.ok (.str x), S') ∧ x.length ≤ 1000 ∧ PotS S' := by
  obtain ⟨ds, hd⟩ : ∃ ds, ds = (Txt.split z " ").map D.str := ⟨_, rfl⟩
  have sp : splitD (.str z) (.str " ") S = some (.ok (.lst ds), S) := by rw [hd]; exact split_ok (by omega)
  have dl : ds.length = 16 := by rw [hd, List.length_map, hw]
  have d20 : ∀ d ∈ ds, Sh20 d := fun d hx => by
    rw [hd] at hx
    obtain ⟨w, h, rfl⟩ := List.mem_map.mp hx
    exact ⟨w, rfl, hs w h⟩
  clear hd hw hs
  obtain ⟨way, S1, e1, r1, p1⟩ := take8 (m := 8) (by decide) (by decide) h
  obtain ⟨at_, S2, e2, r2, p2⟩ := take8 (m := ((ds.length : Nat) : Int)) (by rw [dl]; decide) (by rw [dl]; decide) p1
  obtain ⟨spot, S3, e3, r3, p3⟩ := take8 (m := ((z.length : Nat) : Int)) (by omega) (by omega) p2
  have cs : ∀ {lo hi : Option Int}, (cutS z lo hi).length ≤ 300 := fun {lo hi} => Nat.le_trans (cutS_length z lo hi) h2
  have sl : ∀ {S : Sto} {lo hi : Option Int}, slSD (.str z) lo hi S = some (.ok (.str (cutS z lo hi)), S) := sl_str (by omega)
  have zl : z.length ≤ sizeLine := sz_le (by omega)
  have cat : ∀ {S : Sto} {a b : List D}, a.length ≤ 40 → b.length ≤ 40 → catD (.lst a) (.lst b) S = some (.ok (.lst (a ++ b)), S) := fun ha hb => by
    rw [ev_cat, cnd_t (sz_le (by omega))]; rfl
  have c20 : ∀ {lo hi : Option Int} {d : D}, d ∈ cutD ds lo hi → Sh20 d := fun h => d20 _ (cut_mem h)
  have cl : ∀ {lo hi : Option Int}, (cutD ds lo hi).length ≤ 16 := fun {lo hi} => dl ▸ cut_len
  unfold f_l_bent b_l_bent
  have w8 : way = 0 ∨ way = 1 ∨ way = 2 ∨ way = 3 ∨ way = 4 ∨ way = 5 ∨ way = 6 ∨ way = 7 := by omega
  rcases w8 with rfl | rfl | rfl | rfl | rfl | rfl | rfl | rfl
  · refine ⟨cutS z none (some ((spot : Nat) : Int)) ++ cutS z (some (((spot : Nat) : Int) + 1)) none, S3, ?_, ?_, p3⟩
    · have a : ∀ {S : Sto}, addD (.str (cutS z none (some ((spot : Nat) : Int)))) (.str (cutS z (some (((spot : Nat) : Int) + 1)) none)) S = some (.ok (.str (cutS z none (some ((spot : Nat) : Int)) ++ cutS z (some (((spot : Nat) : Int) + 1)) none)), S) := add_str (Nat.le_trans cs (by decide)) (Nat.le_trans cs (by decide))
      simp! only [sp, e1, e2, e3, cnd_t zl, sl, a, Int.natCast_zero]
    · rw [app_len]
      have := @cs none (some ((spot : Nat) : Int))
      have := @cs (some (((spot : Nat) : Int) + 1)) none
      omega
  · obtain ⟨d, S4, e4, m4, p4⟩ := pick_ok (ds := [.str " ", .str "0", .str "1", .str "-", .str "a", .str "\n"]) (by decide) (by decide) p3
    obtain ⟨y, rfl, yl⟩ : ∃ y : Str, d = .str y ∧ y.length ≤ 20 := by
      simp only [List.mem_cons, List.not_mem_nil, or_false] at m4
      rcases m4 with rfl | rfl | rfl | rfl | rfl | rfl <;> exact ⟨_, rfl, by decide +kernel⟩
    have l1 := @cs none (some ((spot : Nat) : Int))
    have l2 := @cs (some ((spot : Nat) : Int)) none
    refine ⟨cutS z none (some ((spot : Nat) : Int)) ++ y ++ cutS z (some ((spot : Nat) : Int)) none, S4, ?_, ?_, p4⟩
    · have a : ∀ {S : Sto}, addD (.str (cutS z none (some ((spot : Nat) : Int)))) (.str y) S = some (.ok (.str (cutS z none (some ((spot : Nat) : Int)) ++ y)), S) := add_str (by omega) (by omega)
      have b : ∀ {S : Sto}, addD (.str (cutS z none (some ((spot : Nat) : Int)) ++ y)) (.str (cutS z (some ((spot : Nat) : Int)) none)) S = some (.ok (.str (cutS z none (some ((spot : Nat) : Int)) ++ y ++ cutS z (some ((spot : Nat) : Int)) none)), S) := add_str (by rw [app_len]; omega) (by omega)
      simp! only [sp, e1, e2, e3, e4, cnd_t zl, sl, a, b, Int.natCast_one]
    · rw [app_len, app_len]
      omega
  · obtain ⟨x, jx, xl⟩ := join_any (ds := cutD ds none (some ((at_ : Nat) : Int)) ++ cutD ds (some (((at_ : Nat) : Int) + 1)) none) (fun d hd => (List.mem_append.mp hd).elim c20 c20) (by rw [List.length_append]; have := @cl none (some ((at_ : Nat) : Int)); have := @cl (some (((at_ : Nat) : Int) + 1)) none; omega)
    refine ⟨x, S3, ?_, by omega, p3⟩
    have a : ∀ {S : Sto}, catD (.lst (cutD ds none (some ((at_ : Nat) : Int)))) (.lst (cutD ds (some (((at_ : Nat) : Int) + 1)) none)) S = _ := cat (Nat.le_trans cl (by decide)) (Nat.le_trans cl (by decide))
    simp! only [sp, e1, e2, e3, cnd_t zl, a, jx, Int.cast_ofNat_Int]
  · obtain ⟨x, jx, xl⟩ := join_any (ds := (cutD ds none (some ((at_ : Nat) : Int)) ++ cutD ds (some ((at_ : Nat) : Int)) (some (((at_ : Nat) : Int) + 1))) ++ cutD ds (some ((at_ : Nat) : Int)) none) (fun d hd => (List.mem_append.mp hd).elim (fun h => (List.mem_append.mp h).elim c20 c20) c20) (by rw [List.length_append, List.length_append]; have := @cl none (some ((at_ : Nat) : Int)); have := @cl (some ((at_ : Nat) : Int)) none; have := @cut_step ds at_; omega)
    refine ⟨x, S3, ?_, by omega, p3⟩
    have a : ∀ {S : Sto}, catD (.lst (cutD ds none (some ((at_ : Nat) : Int)))) (.lst (cutD ds (some ((at_ : Nat) : Int)) (some (((at_ : Nat) : Int) + 1)))) S = _ := cat (Nat.le_trans cl (by decide)) (Nat.le_trans cl (by decide))
    have b : ∀ {S : Sto}, catD (.lst (cutD ds none (some ((at_ : Nat) : Int)) ++ cutD ds (some ((at_ : Nat) : Int)) (some (((at_ : Nat) : Int) + 1)))) (.lst (cutD ds (some ((at_ : Nat) : Int)) none)) S = _ := cat (by rw [List.length_append]; have := @cl none (some ((at_ : Nat) : Int)); have := @cl (some ((at_ : Nat) : Int)) (some (((at_ : Nat) : Int) + 1)); omega) (Nat.le_trans cl (by decide))
    simp! only [sp, e1, e2, e3, cnd_t zl, a, b, jx, Int.cast_ofNat_Int]
  · obtain ⟨d, S4, e4, m4, p4⟩ := pick_ok (ds := [.str "", .str "0", .str "1", .str "12", .str "16", .str "17", .str "32", .str "37", .str "126", .str "127", .str "plus", .str "left", .str "010", .str "+3", .str "x"]) (by decide) (by decide) p3
    have y20 : Sh20 d := by
      have all : ([.str "", .str "0", .str "1", .str "12", .str "16", .str "17", .str "32", .str "37", .str "126", .str "127", .str "plus", .str "left", .str "010", .str "+3", .str "x"] : List D).all (fun d => match d with | .str y => decide (y.length ≤ 20) | _ => false) = true := by kernel_rfl
      have q := List.all_eq_true.mp all d m4
      cases d <;> first | exact ⟨_, rfl, of_decide_eq_true q⟩ | cases q
    obtain ⟨x, jx, xl⟩ := join_any (ds := ds.set at_ d) (fun e he => (List.mem_or_eq_of_mem_set he).elim (d20 e) (fun h => h ▸ y20)) (by rw [List.length_set]; omega)
    refine ⟨x, S4, ?_, by omega, p4⟩
    have lp := lput_eq (i := 2) (k := rd 4) (t := callD 2 f_l_of (consM (rd 0) (consM (rd 6) nilM))) (δ := [some (.mt 0), some (.str z), some (.lst ds), some (.int 4), some (.int (at_ : Nat)), some (.int (spot : Nat)), some (.lst [.str "", .str "0", .str "1", .str "12", .str "16", .str "17", .str "32", .str "37", .str "126", .str "127", .str "plus", .str "left", .str "010", .str "+3", .str "x"])]) (S := S3) (S1 := S4) (v := d) (ds := ds) (n := at_) (by simp! only [e4]) rfl rfl (by omega)
    simp! only [sp, e1, e2, e3, cnd_t zl, ↓lp, jx, Int.cast_ofNat_Int]
  · obtain ⟨x, jx, xl⟩ := join_any (ds := cutD ds (some 2) none ++ cutD ds none (some 2)) (fun d hd => (List.mem_append.mp hd).elim c20 c20) (by rw [List.length_append]; have := @cl none (some 2); have := @cl (some 2) none; omega)
    refine ⟨x, S3, ?_, by omega, p3⟩
    have a : ∀ {S : Sto}, catD (.lst (cutD ds (some 2) none)) (.lst (cutD ds none (some 2))) S = _ := cat (Nat.le_trans cl (by decide)) (Nat.le_trans cl (by decide))
    simp! only [sp, e1, e2, e3, cnd_t zl, a, jx, Int.cast_ofNat_Int]
  · have l1 : (" " : Str).length = 1 := by kernel_rfl
    have l2 : ("\n" : Str).length = 1 := by kernel_rfl
    have up : (Txt.upper z).length ≤ 900 := Nat.le_trans (PyProof.Rows.len_upper z) (by omega)
    have tm : (timS z 2).length ≤ 672 := Nat.le_trans (timS_len z _) (by show 2 * _ ≤ _; omega)
    obtain ⟨d, S4, e4, m4, p4⟩ := pick_ok (ds := [.str (z ++ " "), .str (" " ++ z), .str (z ++ "\n"), .str (Txt.upper z), .str (timS z 2)]) (by show 0 < 5; decide) (by show 5 < 1000; decide) p3
    obtain ⟨y, rfl, yl⟩ : ∃ y : Str, d = .str y ∧ y.length ≤ 1000 := by
      simp only [List.mem_cons, List.not_mem_nil, or_false] at m4
      rcases m4 with rfl | rfl | rfl | rfl | rfl
      · exact ⟨_, rfl, by rw [app_len]; omega⟩
      · exact ⟨_, rfl, by rw [app_len]; omega⟩
      · exact ⟨_, rfl, by rw [app_len]; omega⟩
      · exact ⟨_, rfl, by omega⟩
      · exact ⟨_, rfl, by omega⟩
    refine ⟨y, S4, ?_, yl, p4⟩
    have a1 : ∀ {S : Sto}, addD (.str z) (.str " ") S = _ := add_str (by omega) (by omega)
    have a2 : ∀ {S : Sto}, addD (.str " ") (.str z) S = _ := add_str (by omega) (by omega)
    have a3 : ∀ {S : Sto}, addD (.str z) (.str "\n") S = _ := add_str (by omega) (by omega)
    have a4 : ∀ {S : Sto}, timD (.str z) (.int 2) S = _ := ev_tim (by omega)
    have a5 : ∀ {S : Sto}, upperD (.str z) S = some (.ok (.str (Txt.upper z)), S) := by intro S; rw [ev_upper, cnd_t (by omega)]; rfl
    simp! only [sp, e1, e2, e3, cnd_t zl, a1, a2, a3, a4, a5, e4, Int.cast_ofNat_Int]
  · obtain ⟨x, jx, xl⟩ := join_any (ds := (cutD ds none (some 14) ++ cutD ds (some 15) none) ++ cutD ds (some 14) (some 15)) (fun d hd => (List.mem_append.mp hd).elim (fun h => (List.mem_append.mp h).elim c20 c20) c20) (by
      rw [List.length_append, List.length_append]
      have x1 : (cutD ds (some 14) (some 15)).length ≤ 1 := by
        unfold cutD
        rw [List.length_take, dl]
        have x1 : HT.sIx 16 16 (some (15 : Int)) = 15 := by decide
        have x2 : HT.sIx 16 0 (some (14 : Int)) = 14 := by decide
        rw [x1, x2]
        omega
      have := @cl none (some 14)
      have := @cl (some 15) none
      omega)
    refine ⟨x, S3, ?_, by omega, p3⟩
    have a : ∀ {S : Sto}, catD (.lst (cutD ds none (some 14))) (.lst (cutD ds (some 15) none)) S = _ := cat (Nat.le_trans cl (by decide)) (Nat.le_trans cl (by decide))
    have b : ∀ {S : Sto}, catD (.lst (cutD ds none (some 14) ++ cutD ds (some 15) none)) (.lst (cutD ds (some 14) (some 15))) S = _ := cat (by rw [List.length_append]; have := @cl none (some 14); have := @cl (some 15) none; omega) (Nat.le_trans cl (by decide))
    simp! only [sp, e1, e2, e3, cnd_t zl, a, b, jx, Int.cast_ofNat_Int]
end
end
section
open PySem PySem.Spec PyProof.Rows L2
local macro_rules | `(tactic| walk_at "wg") => `(tactic| repeat' first | with_reducible refine W.run ?_ | with_reducible refine W.runi ?_ | with_reducible refine W.seq ?_ | with_reducible refine W.set ?_ | with_reducible refine W.ret ?_ | with_reducible refine W.ifs ?_ | with_reducible refine W.disp1 ?_ | with_reducible refine W.ife ?_ | with_reducible refine W.skip ?_ | with_reducible refine W.rdd rfl ?_ | with_reducible refine W.lst ?_ | with_reducible refine W.tup ?_ | with_reducible refine W.asg ?_ | with_reducible refine W.fmt ?_ | with_reducible refine W.nkd ?_ | with_reducible refine W.ndd ?_ | with_reducible refine W.tv ?_ | with_reducible refine W.notm ?_ | with_reducible refine W.bin ?_ | with_reducible refine W.one ?_ | with_reducible refine W.callm ?_ | with_reducible refine W.call ?_ | with_reducible refine W.cons ?_ | with_reducible refine W.nil ?_ | with_reducible refine W.cst ?_ | with_reducible refine W.ixm rfl rfl ?_ | with_reducible refine W.gt ?_ | with_reducible refine W.add ?_ | with_reducible refine W.mul (cm_r (by decide) (by decide)) ?_ | with_reducible refine W.mod (by first | assumption | decide) ?_ | with_reducible refine W.fdiv (by first | assumption | exact cdv_r (by decide) (by decide)) ?_ | with_reducible refine W.intd ?_ | with_reducible refine W.eqI ?_ | with_reducible refine W.lenL ?_ | with_reducible refine W.tbd ?_ | with_reducible refine W.mput (k := 0) ?_ | with_reducible refine W.tgt2 ?_ | with_reducible refine W.tgn ?_ | with_reducible refine W.tgd rfl ?_ | with_reducible refine W.app rfl ?_ | with_reducible refine W.fld ?_ | with_reducible refine W.keys ?_ | refine And.intro rfl ?_ | refine And.intro (Nat.le_of_ble_eq_true rfl) ?_ | dsimp only)
local macro_rules | `(tactic| walk_at "wh") => `(tactic| repeat' first | with_reducible refine W.run ?_ | with_reducible refine W.runi ?_ | with_reducible refine W.seq ?_ | with_reducible refine W.set ?_ | with_reducible refine W.ret ?_ | with_reducible refine W.ifs ?_ | with_reducible refine W.disp1 ?_ | with_reducible refine W.skip ?_ | with_reducible refine W.rdd rfl ?_ | with_reducible refine W.lst ?_ | with_reducible refine W.tup ?_ | with_reducible refine W.asg ?_ | with_reducible refine W.fmt ?_ | with_reducible refine W.nkd ?_ | with_reducible refine W.ndd ?_ | with_reducible refine W.tv ?_ | with_reducible refine W.notm ?_ | with_reducible refine W.bin ?_ | with_reducible refine W.one ?_ | with_reducible refine W.callm ?_ | with_reducible refine W.call ?_ | with_reducible refine W.cons ?_ | with_reducible refine W.nil ?_ | with_reducible refine W.cst ?_ | with_reducible refine W.ixm rfl rfl ?_ | with_reducible refine W.gt ?_ | with_reducible refine W.add ?_ | with_reducible refine W.mul (cm_r (by decide) (by decide)) ?_ | with_reducible refine W.mod (by first | assumption | decide) ?_ | with_reducible refine W.fdiv (by first | assumption | exact cdv_r (by decide) (by decide)) ?_ | with_reducible refine W.intd ?_ | with_reducible refine W.eqI ?_ | with_reducible refine W.lenL ?_ | with_reducible refine W.tbd ?_ | with_reducible refine W.mput (k := 0) ?_ | with_reducible refine W.tgt2 ?_ | with_reducible refine W.tgn ?_ | with_reducible refine W.tgd rfl ?_ | with_reducible refine W.app rfl ?_ | with_reducible refine W.fld ?_ | with_reducible refine W.keys ?_ | refine And.intro rfl ?_ | refine And.intro (Nat.le_of_ble_eq_true rfl) ?_ | dsimp only)
local macro_rules | `(tactic| walk_at "wf") => `(tactic| repeat' first | with_reducible refine W.run ?_ | with_reducible refine W.runi ?_ | with_reducible refine W.seq ?_ | with_reducible refine W.set ?_ | with_reducible refine W.ret ?_ | with_reducible refine W.ifs ?_ | with_reducible refine W.disp1 ?_ | with_reducible refine W.fors ?_ | with_reducible refine W.forc ?_ | with_reducible refine W.forn ?_ | with_reducible refine W.zip ?_ | (with_reducible refine W.ife_f (by kernel_rfl) ?_) | (with_reducible refine W.ife_t (by kernel_rfl) ?_) | with_reducible refine W.skip ?_ | with_reducible refine W.rdd rfl ?_ | with_reducible refine W.lst ?_ | with_reducible refine W.tup ?_ | with_reducible refine W.asg ?_ | with_reducible refine W.fmt ?_ | with_reducible refine W.nkd ?_ | with_reducible refine W.ndd ?_ | with_reducible refine W.tv ?_ | with_reducible refine W.notm ?_ | with_reducible refine W.bin ?_ | with_reducible refine W.one ?_ | with_reducible refine W.callm ?_ | with_reducible refine W.call ?_ | with_reducible refine W.cons ?_ | with_reducible refine W.nil ?_ | with_reducible refine W.cst ?_ | with_reducible refine W.ixm rfl rfl ?_ | with_reducible refine W.gt ?_ | with_reducible refine W.add ?_ | with_reducible refine W.mul (cm_r (by decide) (by decide)) ?_ | with_reducible refine W.mod (by first | assumption | decide) ?_ | with_reducible refine W.fdiv (by first | assumption | exact cdv_r (by decide) (by decide)) ?_ | with_reducible refine W.intd ?_ | with_reducible refine W.eqI ?_ | with_reducible refine W.lenL ?_ | with_reducible refine W.tbd ?_ | with_reducible refine W.mput (k := 0) ?_ | with_reducible refine W.tgt2 ?_ | with_reducible refine W.tgn ?_ | with_reducible refine W.tgd rfl ?_ | with_reducible refine W.app rfl ?_ | with_reducible refine W.fld ?_ | with_reducible refine W.keys ?_ | refine And.intro rfl ?_ | refine And.intro (Nat.le_of_ble_eq_true rfl) ?_ | dsimp only)
section
open PySem.StrLaws PySem.Builtin PySem.Builtin.Str
theorem len_join : ∀ (y : Str) (l : List Str), (Str.join y l).length = (l.map (·.length)).sum + (l.length - 1) * y.length
  | _, [] => by
    show (0 : Nat) = _
    simp
  | y, [p] => by
    show p.length = _
    simp
  | y, p :: q :: r => by
    have ih := len_join y (q :: r)
    show (p ++ y ++ Str.join y (q :: r)).length = _
    rw [app_len, app_len, ih]
    simp only [List.map_cons, List.sum_cons, List.length_cons, Nat.add_sub_cancel]
    rw [Nat.succ_mul]
    omega
theorem replace_first {x y z : Str} (hy : 1 ≤ y.length) (h0 : At x y x.length 0) : ∃ (p : Str) (q : List Str), Txt.replace x y z = z ++ Str.join z (p :: q) ∧ x = y ++ Str.join y (p :: q) := by
  obtain ⟨f, hG, _⟩ := occ_tight x y hy
  obtain ⟨f2, hC⟩ := occ_chain x y (x.length + 1)
  unfold Txt.replace
  cases ho : occurrences x y 0 x.length (x.length + 1) with
  | nil =>
    rw [ho] at hG
    exfalso
    rename_i hn
    have ef : f = 0 := hG
    exact hn 0 (by omega) h0
  | cons c t =>
    rw [ho] at hG hC
    obtain ⟨_, _, hno, _⟩ := hG
    have e : c = 0 := by
      rcases Nat.eq_zero_or_pos c with h | h
      · exact h
      · exact absurd h0 (hno 0 (Nat.zero_le _) h)
    subst e
    obtain ⟨p, q, epq⟩ := partsFrom_ne x y.length (0 + y.length) t
    have j := join_partsFrom x y (0 :: t) 0 f2 hC
    rw [sub_whole] at j
    have hc : ((0 :: t : List Nat).isEmpty || (y.length == 0 && z.length == 0)) = false := by
      show (false || _) = false
      have : (y.length == 0) = false := by
        rw [beq_eq_false_iff_ne]; omega
      rw [this]; rfl
    rw [hc, if_neg Bool.false_ne_true, glued_eq_join, partsBetween_eq]
    have s0 : strSub x 0 0 = Str.empty := TL.ext_tl (by
      show (strSub x 0 0).cps.toList = _
      rw [strSub_toList]
      rfl)
    have unf : partsFrom x y.length 0 (0 :: t) = Str.empty :: p :: q := by
      show strSub x 0 0 :: partsFrom x y.length (0 + y.length) t = _
      rw [s0, epq]
    rw [unf] at j ⊢
    refine ⟨p, q, ?_, ?_⟩
    · show Str.empty ++ z ++ Str.join z (p :: q) = _
      rw [Str.empty_append]
    · rw [← j]
      show Str.empty ++ y ++ Str.join y (p :: q) = _
      rw [Str.empty_append]
end
section
variable {S : Sto} {b s l g m w f sd : D}
theorem base_no0 {d : D} (F : Fit "base" d) : (pieceX "base" d).cps.toList.head? ≠ some 48 := by
  intro h
  have q1 : ∀ S, inQD false (.str "base") (.tup [.str "sign", .str "side"]) S = some (.ok (.bl false), S) := fun S => by kernel_rfl
  have q2 : ∀ S, inQD false (.str "base") (.tup [.str "mark", .str "fill"]) S = some (.ok (.bl false), S) := fun S => by kernel_rfl
  have hw : (pieceX "base" d).length ≤ 1000 := Nat.le_trans F.c.len (by decide)
  have r := F.read []
  have nn : d ≠ .non := fun e => by
    have := F.c.non
    rw [e] at this
    exact absurd this (by decide)
  cases e : intW (pieceX "base" d).cps.toList with
  | none =>
    rw [set_none hw (q1 _) e] at r
    have r := Option.some.inj r
    injection r with r _
    injection r with r
    exact nn r.symm
  | some i =>
    by_cases c : (2 : Int) ≤ i ∧ i ≤ 16
    · have k := intW_back e
      rw [← k] at h
      have all : ∀ n : Fin 17, 2 ≤ n.val → ((toString ((n.val : Nat) : Int) : String) : Str).cps.toList.head? ≠ some 48 := by decide +kernel
      have := all ⟨i.toNat, by omega⟩ (by show 2 ≤ i.toNat; omega)
      have e2 : ((i.toNat : Nat) : Int) = i := by omega
      simp only [e2] at this
      exact this h
    · have k := set_int (S := []) hw (q1 _) (q2 _) e (s_base i [])
      rw [if_neg (by simpa using c)] at k
      rw [k] at r
      have r := Option.some.inj r
      injection r with r _
      injection r with r
      exact nn r.symm
theorem wordsX_split0 (b s l g m w f sd : D) : ∃ r : List Nat, (wordsX b s l g m w f sd).cps.toList = [98, 97, 115, 101, 32] ++ ((pieceX "base" b).cps.toList ++ 32 :: r) := by
  refine ⟨glueL 32 ((["sign", pieceX "sign" s, "least", pieceX "least" l, "group", pieceX "group" g, "mark", pieceX "mark" m, "width", pieceX "width" w, "fill", pieceX "fill" f, "side", pieceX "side" sd] : List Str).map fun w : Str => w.cps.toList), ?_⟩
  unfold wordsX
  show (Txt.join ⟨#[32]⟩ (wordsL b s l g m w f sd)).cps.toList = _
  rw [join_codes]
  rfl
def lostX (z : Str) : Str := Txt.replace z "base " "base 0"
theorem lost_ok (F : Fits b s l g m w f sd) : (lostX (wordsX b s l g m w f sd)).length ≤ 1000 ∧ ∀ {b' s' l' g' m' w' f' sd' : D}, Fits b' s' l' g' m' w' f' sd' → wordsX b' s' l' g' m' w' f' sd' ≠ lostX (wordsX b s l g m w f sd) := by
  obtain ⟨r, hr⟩ := wordsX_split0 b s l g m w f sd
  have ly : ("base " : Str).length = 5 := by kernel_rfl
  have lz : ("base 0" : Str).length = 6 := by kernel_rfl
  have cy : ("base " : Str).cps.toList = [98, 97, 115, 101, 32] := by kernel_rfl
  have cz : ("base 0" : Str).cps.toList = [98, 97, 115, 101, 32, 48] := by kernel_rfl
  have at0 : PySem.StrLaws.At (wordsX b s l g m w f sd) "base " (wordsX b s l g m w f sd).length 0 := by
    have ln : (wordsX b s l g m w f sd).length = (wordsX b s l g m w f sd).cps.toList.length := (str_len _).symm
    refine ⟨?_, ?_⟩
    · rw [ln, hr, ly, List.length_append]
      show 0 + 5 ≤ 5 + _
      omega
    · rw [PySem.StrLaws.subAt_eq, List.drop_zero, ly, hr, cy]
      rfl
  obtain ⟨p, q, e1, e2⟩ := replace_first (z := "base 0") (by rw [ly]; decide) at0
  have w3 := (wordsX_300 F).1
  constructor
  · unfold lostX
    rw [e1, app_len, lz, len_join, lz]
    rw [e2, app_len, ly, len_join, ly] at w3
    simp only [List.length_cons, Nat.add_sub_cancel] at w3 ⊢
    omega
  · intro b' s' l' g' m' w' f' sd' F' e
    obtain ⟨r', hr'⟩ := wordsX_split0 b' s' l' g' m' w' f' sd'
    have k : (wordsX b' s' l' g' m' w' f' sd').cps.toList = [98, 97, 115, 101, 32, 48] ++ (Str.join "base 0" (p :: q)).cps.toList := by
      rw [e]
      unfold lostX
      rw [e1, Str.cps_append, Array.toList_append, cz]
    rw [hr'] at k
    have k : (pieceX "base" b').cps.toList ++ 32 :: r' = 48 :: (Str.join "base 0" (p :: q)).cps.toList := List.append_cancel_left (as := [98, 97, 115, 101, 32]) k
    cases hp : (pieceX "base" b').cps.toList with
    | nil =>
      rw [hp] at k
      have k : 32 :: r' = 48 :: _ := k
      injection k with k _
      exact absurd k (by decide)
    | cons a t =>
      rw [hp] at k
      have k : a :: (t ++ 32 :: r') = 48 :: _ := k
      injection k with k _
      refine base_no0 F'.b ?_
      rw [hp, k]
      rfl
/-- what is lost is refused -/
theorem read_lost (F : Fits b s l g m w f sd) : ∀ S, f_Format_read [.str (lostX (wordsX b s l g m w f sd))] S = some (.error ⟨"InvalidText", [("value", .str (lostX (wordsX b s l g m w f sd)))]⟩, S) := by
  obtain ⟨h1, h2⟩ := lost_ok F
  rcases read_any h1 with h | ⟨b', s', l', g', m', w', f', sd', F', e, _⟩
  · exact h
  · exact absurd e (h2 F')
abbrev markX : Str := "base 10 sign minus least 1 group 0 mark 37 width 0 fill 32 side left"
theorem read_mark : f_Format_read [.str markX] S = some (.error ⟨"InvalidText", [("value", .str markX)]⟩, S) := by kernel_rfl
end
end
section
open PySem PySem.Spec PyProof.Rows L2
local macro_rules | `(tactic| walk_at "wg") => `(tactic| repeat' first | with_reducible refine W.run ?_ | with_reducible refine W.runi ?_ | with_reducible refine W.seq ?_ | with_reducible refine W.set ?_ | with_reducible refine W.ret ?_ | with_reducible refine W.ifs ?_ | with_reducible refine W.disp1 ?_ | with_reducible refine W.ife ?_ | with_reducible refine W.skip ?_ | with_reducible refine W.rdd rfl ?_ | with_reducible refine W.lst ?_ | with_reducible refine W.tup ?_ | with_reducible refine W.asg ?_ | with_reducible refine W.fmt ?_ | with_reducible refine W.nkd ?_ | with_reducible refine W.ndd ?_ | with_reducible refine W.tv ?_ | with_reducible refine W.notm ?_ | with_reducible refine W.bin ?_ | with_reducible refine W.one ?_ | with_reducible refine W.callm ?_ | with_reducible refine W.call ?_ | with_reducible refine W.cons ?_ | with_reducible refine W.nil ?_ | with_reducible refine W.cst ?_ | with_reducible refine W.ixm rfl rfl ?_ | with_reducible refine W.gt ?_ | with_reducible refine W.add ?_ | with_reducible refine W.mul (cm_r (by decide) (by decide)) ?_ | with_reducible refine W.mod (by first | assumption | decide) ?_ | with_reducible refine W.fdiv (by first | assumption | exact cdv_r (by decide) (by decide)) ?_ | with_reducible refine W.intd ?_ | with_reducible refine W.eqI ?_ | with_reducible refine W.lenL ?_ | with_reducible refine W.tbd ?_ | with_reducible refine W.mput (k := 0) ?_ | with_reducible refine W.tgt2 ?_ | with_reducible refine W.tgn ?_ | with_reducible refine W.tgd rfl ?_ | with_reducible refine W.app rfl ?_ | with_reducible refine W.fld ?_ | with_reducible refine W.keys ?_ | refine And.intro rfl ?_ | refine And.intro (Nat.le_of_ble_eq_true rfl) ?_ | dsimp only)
local macro_rules | `(tactic| walk_at "wh") => `(tactic| repeat' first | with_reducible refine W.run ?_ | with_reducible refine W.runi ?_ | with_reducible refine W.seq ?_ | with_reducible refine W.set ?_ | with_reducible refine W.ret ?_ | with_reducible refine W.ifs ?_ | with_reducible refine W.disp1 ?_ | with_reducible refine W.skip ?_ | with_reducible refine W.rdd rfl ?_ | with_reducible refine W.lst ?_ | with_reducible refine W.tup ?_ | with_reducible refine W.asg ?_ | with_reducible refine W.fmt ?_ | with_reducible refine W.nkd ?_ | with_reducible refine W.ndd ?_ | with_reducible refine W.tv ?_ | with_reducible refine W.notm ?_ | with_reducible refine W.bin ?_ | with_reducible refine W.one ?_ | with_reducible refine W.callm ?_ | with_reducible refine W.call ?_ | with_reducible refine W.cons ?_ | with_reducible refine W.nil ?_ | with_reducible refine W.cst ?_ | with_reducible refine W.ixm rfl rfl ?_ | with_reducible refine W.gt ?_ | with_reducible refine W.add ?_ | with_reducible refine W.mul (cm_r (by decide) (by decide)) ?_ | with_reducible refine W.mod (by first | assumption | decide) ?_ | with_reducible refine W.fdiv (by first | assumption | exact cdv_r (by decide) (by decide)) ?_ | with_reducible refine W.intd ?_ | with_reducible refine W.eqI ?_ | with_reducible refine W.lenL ?_ | with_reducible refine W.tbd ?_ | with_reducible refine W.mput (k := 0) ?_ | with_reducible refine W.tgt2 ?_ | with_reducible refine W.tgn ?_ | with_reducible refine W.tgd rfl ?_ | with_reducible refine W.app rfl ?_ | with_reducible refine W.fld ?_ | with_reducible refine W.keys ?_ | refine And.intro rfl ?_ | refine And.intro (Nat.le_of_ble_eq_true rfl) ?_ | dsimp only)
local macro_rules | `(tactic| walk_at "wf") => `(tactic| repeat' first | with_reducible refine W.run ?_ | with_reducible refine W.runi ?_ | with_reducible refine W.seq ?_ | with_reducible refine W.set ?_ | with_reducible refine W.ret ?_ | with_reducible refine W.ifs ?_ | with_reducible refine W.disp1 ?_ | with_reducible refine W.fors ?_ | with_reducible refine W.forc ?_ | with_reducible refine W.forn ?_ | with_reducible refine W.zip ?_ | (with_reducible refine W.ife_f (by kernel_rfl) ?_) | (with_reducible refine W.ife_t (by kernel_rfl) ?_) | with_reducible refine W.skip ?_ | with_reducible refine W.rdd rfl ?_ | with_reducible refine W.lst ?_ | with_reducible refine W.tup ?_ | with_reducible refine W.asg ?_ | with_reducible refine W.fmt ?_ | with_reducible refine W.nkd ?_ | with_reducible refine W.ndd ?_ | with_reducible refine W.tv ?_ | with_reducible refine W.notm ?_ | with_reducible refine W.bin ?_ | with_reducible refine W.one ?_ | with_reducible refine W.callm ?_ | with_reducible refine W.call ?_ | with_reducible refine W.cons ?_ | with_reducible refine W.nil ?_ | with_reducible refine W.cst ?_ | with_reducible refine W.ixm rfl rfl ?_ | with_reducible refine W.gt ?_ | with_reducible refine W.add ?_ | with_reducible refine W.mul (cm_r (by decide) (by decide)) ?_ | with_reducible refine W.mod (by first | assumption | decide) ?_ | with_reducible refine W.fdiv (by first | assumption | exact cdv_r (by decide) (by decide)) ?_ | with_reducible refine W.intd ?_ | with_reducible refine W.eqI ?_ | with_reducible refine W.lenL ?_ | with_reducible refine W.tbd ?_ | with_reducible refine W.mput (k := 0) ?_ | with_reducible refine W.tgt2 ?_ | with_reducible refine W.tgn ?_ | with_reducible refine W.tgd rfl ?_ | with_reducible refine W.app rfl ?_ | with_reducible refine W.fld ?_ | with_reducible refine W.keys ?_ | refine And.intro rfl ?_ | refine And.intro (Nat.le_of_ble_eq_true rfl) ?_ | dsimp only)
section
variable {S : Sto} {b s l g m w f sd : D}
theorem ev_oneL {g : D → M D} {d : D} : oneL g [d] S = g d S := id rfl
theorem W.evE {α : Type} {m : M α} {S : Sto} {r : Rs α} {P : α → Sto → Prop} (e : m S = r) (h : ∃ a S', r = some (.ok a, S') ∧ P a S') : W m S P := by
  obtain ⟨a, S', e2, p⟩ := h
  exact ⟨a, S', e.trans e2, p⟩
theorem row_self {E : Str → D → D → Option Bool} {n : Nat} {a x : Str} : eqX E (n + 2) (.lst [.str a, .str x, .bl true]) (.lst [.str a, .str x, .bl true]) = some true := by
  show some ([(a == a), (x == x), (true == true)].all id) = _
  rw [beq_self_eq_true, beq_self_eq_true]
  rfl
theorem giv_self {E : Str → D → D → Option Bool} {n : Nat} {a x : Str} : eqX E (n + 2) (.lst [.str a, .str x]) (.lst [.str a, .str x]) = some true := by
  show some ([(a == a), (x == x)].all id) = _
  rw [beq_self_eq_true, beq_self_eq_true]
  rfl
theorem ans_bad {a c x : Str} : inXND noEq 3 (.lst [.str a, .str x, .bl true]) (.lst [.lst [.str a, .str x, .bl true], .lst [.str c, .str x]]) S = some (.ok (.bl false), S) := by
  have e : eqNL (eqX noEq 3) [.lst [.str a, .str x, .bl true], .lst [.str c, .str x]] (List.replicate 2 (.lst [.str a, .str x, .bl true])) = some [true, false] := by
    show (eqX noEq 3 _ _).bind _ = _
    rw [row_self]
    rfl
  exact congrArg (fun o => (M.opt o >>= fun bs => pure (.bl (!bs.any id)) : M D) S) e
theorem ans_good {a c x : Str} : inXND noEq 3 (.lst [.str c, .str x]) (.lst [.lst [.str a, .str x, .bl true], .lst [.str c, .str x]]) S = some (.ok (.bl false), S) := by
  have e : eqNL (eqX noEq 3) [.lst [.str a, .str x, .bl true], .lst [.str c, .str x]] (List.replicate 2 (.lst [.str c, .str x])) = some [false, true] := by
    show (eqX noEq 3 (.lst [.str a, .str x, .bl true]) (.lst [.str c, .str x])).bind (fun b => ((eqX noEq 3 (.lst [.str c, .str x]) (.lst [.str c, .str x])).bind fun b => some [b]).map (b :: ·)) = _
    rw [giv_self]
    rfl
  exact congrArg (fun o => (M.opt o >>= fun bs => pure (.bl (!bs.any id)) : M D) S) e
abbrev hsT : List (Str × Str) := [("InvalidText", "value")]
theorem hsT_at : hsT.lookup ("InvalidText" : Str) = some ("value" : Str) := by kernel_rfl
abbrev agB : DEnv → M (DEnv × Fl) := (seqS (setS 5 (callD 2 f_l_bent (consM (rd 0) (consM (rd 3) nilM)))) (seqS (setS 6 (endM [("InvalidText", "value")] [] (callM (oneL (strOD "Format" f_Formatdd_strdd)) (consM (callD 1 f_Format_read (consM (rd 5) nilM)) nilM)))) (seqS (ifS (tvM (binM (inXND noEq 3) (rd 6) (lstM (consM (lstM (consM (cM (.str "InvalidText")) (consM (rd 5) (consM (cM (.bl true)) nilM)))) (consM (lstM (consM (cM (.str "given")) (consM (rd 5) nilM))) nilM))))) (seqS (retS (cM (.bl false))) skipS) skipS) skipS)))
abbrev tnB : DEnv → M (DEnv × Fl) := (seqS (setS 2 (callD 1 f_l_format (consM (callD 1 f_l_shape (consM (rd 0) nilM)) nilM))) (seqS (setS 3 (callM (oneL (strOD "Format" f_Formatdd_strdd)) (consM (rd 2) nilM))) (seqS (ifS (orM (tvM (binM (eqOD "Format" f_Formatdd_eqdd true) (callD 1 f_Format_read (consM (rd 3) nilM)) (rd 2))) (tvM (binM (eqOD "Format" f_Formatdd_eqdd true) (callK [0] 1 1 f_Format_read (consM (rd 3) nilM)) (rd 2)))) (seqS (retS (cM (.bl false))) skipS) skipS) (seqS (forS (callM itR1 (consM (cM (.int 8)) nilM)) (tgN 4) (seqS (setS 5 (callD 2 f_l_bent (consM (rd 0) (consM (rd 3) nilM)))) (seqS (setS 6 (endM [("InvalidText", "value")] [] (callM (oneL (strOD "Format" f_Formatdd_strdd)) (consM (callD 1 f_Format_read (consM (rd 5) nilM)) nilM)))) (seqS (ifS (tvM (binM (inXND noEq 3) (rd 6) (lstM (consM (lstM (consM (cM (.str "InvalidText")) (consM (rd 5) (consM (cM (.bl true)) nilM)))) (consM (lstM (consM (cM (.str "given")) (consM (rd 5) nilM))) nilM))))) (seqS (retS (cM (.bl false))) skipS) skipS) skipS)))) skipS))))
theorem again_ok {a1 a4 a5 a6 a7 a8 a9 a10 a11 a12 a13 : Option D} (F : Fits b s l g m w f sd) (h : PotS S) : W (agB [some (.mt 0), a1, some (fmtO b s l g m w f sd), some (.str (wordsX b s l g m w f sd)), a4, a5, a6, a7, a8, a9, a10, a11, a12, a13]) S fun p S' => (∃ c5 c6, p = ([some (.mt 0), a1, some (fmtO b s l g m w f sd), some (.str (wordsX b s l g m w f sd)), a4, c5, c6, a7, a8, a9, a10, a11, a12, a13], .nx)) ∧ PotS S' := by
  obtain ⟨w3, w1⟩ := wordsX_300 F
  obtain ⟨x, S1, e1, xl, hp⟩ := bent_ok (z := wordsX b s l g m w f sd) w1 w3 (by rw [wordsX_split F]; rfl) (by rw [wordsX_split F]; exact words_len F) h
  rcases read_any xl with r | ⟨b', s', l', g', m', w', f', sd', F', e', r⟩
  · have r1 := r S1
    have q := ans_bad (S := S1) (a := "InvalidText") (c := "given") (x := x)
    apply W.evE
    · simp! only [e1, r1, q, ev_oneL, ev_ende hsT_at]
      rfl
    · exact ⟨_, _, rfl, ⟨_, _, rfl⟩, hp⟩
  · have r1 := r S1
    have q := ans_good (S := S1) (a := "InvalidText") (c := "given") (x := x)
    have st : strOD "Format" f_Formatdd_strdd (fmtO b' s' l' g' m' w' f' sd') S1 = some (.ok (.str x), S1) := by rw [strO_eq F', e']
    apply W.evE
    · simp! only [e1, r1, q, ev_oneL, st]
      rfl
    · exact ⟨_, _, rfl, ⟨_, _, rfl⟩, hp⟩
theorem again_go {a1 a7 a8 a9 a10 a11 a12 a13 : Option D} (F : Fits b s l g m w f sd) : ∀ (ds : List D) {a4 a5 a6 : Option D} {S : Sto}, PotS S → W (forL (tgN 4) agB ds [some (.mt 0), a1, some (fmtO b s l g m w f sd), some (.str (wordsX b s l g m w f sd)), a4, a5, a6, a7, a8, a9, a10, a11, a12, a13]) S fun p S' => (∃ c4 c5 c6, p = ([some (.mt 0), a1, some (fmtO b s l g m w f sd), some (.str (wordsX b s l g m w f sd)), c4, c5, c6, a7, a8, a9, a10, a11, a12, a13], .nx)) ∧ PotS S'
  | [], a4, a5, a6, S, h => W.forn ⟨⟨a4, a5, a6, rfl⟩, h⟩
  | d :: ds, a4, a5, a6, S, h => W.forc (W.tgn ((again_ok F h).imp fun p S2 ⟨⟨c5, c6, ep⟩, hp⟩ => by
    subst ep
    exact again_go F ds hp))
theorem turn_ok {a1 a2 a3 a4 a5 a6 a7 a8 a9 a10 a11 a12 a13 : Option D} (h : PotS S) : W (tnB [some (.mt 0), a1, a2, a3, a4, a5, a6, a7, a8, a9, a10, a11, a12, a13]) S fun p S' => (∃ b s l g m w f sd c4 c5 c6, Fits b s l g m w f sd ∧ p = ([some (.mt 0), a1, some (fmtO b s l g m w f sd), some (.str (wordsX b s l g m w f sd)), c4, c5, c6, a7, a8, a9, a10, a11, a12, a13], .nx)) ∧ PotS S' := by
  obtain ⟨dd, S1, e1, ⟨b, s, l, g, m, w, f, sd, ed, hb, hs, hl, hg, hm, hw, hf, hsd⟩, hp⟩ := shape_ok h
  subst ed
  have F : Fits b s l g m w f sd := ⟨fit_base _ hb, fit_sign _ hs, fit_least _ hl, fit_group _ hg, fit_mark _ hm, fit_width _ hw, fit_fill _ hf, fit_side _ hsd⟩
  have i1 := (pass_ok (init_eq (S := S1) F)).1
  unfold dctO at i1
  have sW := strO_eq (S := S1) F
  have rq := read_eq (S := S1) F
  have qF : eqOD "Format" f_Formatdd_eqdd true (fmtO b s l g m w f sd) (fmtO b s l g m w f sd) S1 = some (.ok (.bl false), S1) := by rw [eqO F F, eqL_self F]; rfl
  refine W.seqE (δ' := [some (.mt 0), a1, some (fmtO b s l g m w f sd), a3, a4, a5, a6, a7, a8, a9, a10, a11, a12, a13]) (S1 := S1) (by simp! only [↓e1, i1]) ?_
  refine W.seqE (δ' := [some (.mt 0), a1, some (fmtO b s l g m w f sd), some (.str (wordsX b s l g m w f sd)), a4, a5, a6, a7, a8, a9, a10, a11, a12, a13]) (S1 := S1) (by simp! only [ev_oneL, sW]) ?_
  have kq : callK [0] 1 1 f_Format_read (consM (rd 3) nilM) [some (.mt 0), a1, some (fmtO b s l g m w f sd), some (.str (wordsX b s l g m w f sd)), a4, a5, a6, a7, a8, a9, a10, a11, a12, a13] S1 = some (.ok (fmtO b s l g m w f sd), S1) := by
    unfold callK
    simp! only [ev_bind]
    exact rq
  refine W.seqE (δ' := [some (.mt 0), a1, some (fmtO b s l g m w f sd), some (.str (wordsX b s l g m w f sd)), a4, a5, a6, a7, a8, a9, a10, a11, a12, a13]) (S1 := S1) (by simp! only [rq, kq, qF]) ?_
  refine W.seq (W.fors (W.eq (a := [.int 0, .int 1, .int 2, .int 3, .int 4, .int 5, .int 6, .int 7]) (S' := S1) (by kernel_rfl) ?_))
  refine (again_go F _ hp).imp fun p S2 ⟨⟨c4, c5, c6, ep⟩, hp2⟩ => ?_
  subst ep
  exact W.skip ⟨⟨b, s, l, g, m, w, f, sd, c4, c5, c6, F, rfl⟩, hp2⟩
theorem eqU_row {a : Str} {d : D} (h : eqU eqE_Format 2 d d = some true) : eqU eqE_Format 3 (.lst [.str a, d, .bl true]) (.lst [.str a, d, .bl true]) = some true := by
  have s1 : eqU eqE_Format 2 (.str a) (.str a) = some true := by
    show some (a == a) = _
    rw [beq_self_eq_true]
  have e : eqNL (eqU eqE_Format 2) [.str a, d, .bl true] [.str a, d, .bl true] = some [true, true, true] := by
    show (eqU eqE_Format 2 (.str a) (.str a)).bind (fun b => ((eqU eqE_Format 2 d d).bind fun c => some [c, true]).map (b :: ·)) = _
    rw [s1, h]
    rfl
  show (if (3 : Nat) = 3 then (eqNL (eqU eqE_Format 2) [.str a, d, .bl true] [.str a, d, .bl true]).map (·.all id) else some false) = _
  rw [if_pos rfl, e]
  rfl
theorem eqU_three {x y z : D} (hx : eqU eqE_Format 3 x x = some true) (hy : eqU eqE_Format 3 y y = some true) (hz : eqU eqE_Format 3 z z = some true) : eqUD eqE_Format 4 false (.lst [x, y, z]) (.lst [x, y, z]) S = some (.ok (.bl true), S) := by
  have e : eqNL (eqU eqE_Format 3) [x, y, z] [x, y, z] = some [true, true, true] := by
    show (eqU eqE_Format 3 x x).bind (fun b => ((eqU eqE_Format 3 y y).bind fun c => ((eqU eqE_Format 3 z z).bind fun d => some [d]).map (c :: ·)).map (b :: ·)) = _
    rw [hx, hy, hz]
    rfl
  have e2 : eqU eqE_Format 4 (.lst [x, y, z]) (.lst [x, y, z]) = some true := by
    show (if (3 : Nat) = 3 then (eqNL (eqU eqE_Format 3) [x, y, z] [x, y, z]).map (·.all id) else some false) = _
    rw [if_pos rfl, e]
    rfl
  unfold eqUD
  rw [if_neg (fun z => Bool.false_ne_true z.1), e2]
  rfl
theorem odd_ok (F : Fits b s l g m w f sd) {d : D} (h : d ∈ [.non, .int 5, .tup [], .lst [.str (wordsX b s l g m w f sd)], .str "", .str " ", fmtO b s l g m w f sd, .bl true, .dct []]) : f_Format_read [d] S = some (.error ⟨"InvalidText", [("value", d)]⟩, S) ∧ eqU eqE_Format 2 d d = some true := by
  simp only [List.mem_cons, List.not_mem_nil, or_false] at h
  rcases h with rfl | rfl | rfl | rfl | rfl | rfl | rfl | rfl | rfl
  · exact ⟨by kernel_rfl, by kernel_rfl⟩
  · exact ⟨by kernel_rfl, by kernel_rfl⟩
  · exact ⟨by kernel_rfl, by kernel_rfl⟩
  · refine ⟨by kernel_rfl, ?_⟩
    show some ([(wordsX b s l g m w f sd == wordsX b s l g m w f sd)].all id) = _
    rw [beq_self_eq_true]
    rfl
  · exact ⟨by kernel_rfl, by kernel_rfl⟩
  · exact ⟨by kernel_rfl, by kernel_rfl⟩
  · refine ⟨by kernel_rfl, ?_⟩
    show ev2 f_Formatdd_eqdd (fmtO b s l g m w f sd) (fmtO b s l g m w f sd) = _
    unfold ev2
    rw [eq_eq F F, eqL_self F]
  · exact ⟨by kernel_rfl, by kernel_rfl⟩
  · exact ⟨by kernel_rfl, by kernel_rfl⟩
theorem good_eq {a0 a1 a2 a3 a4 a5 a6 a7 a8 a10 a11 a12 a13 : Option D} : (lcD [13] (oneM itL (lstM (consM (cM (.int 32)) (consM (cM (.int 36)) (consM (cM (.int 38)) (consM (cM (.int 126)) nilM)))))) (tgN 13) yesM (oneM (fldD "Format" "mark") (callD 1 f_Format_read (consM (rplM "37" (rd 9) (rd 13)) nilM)))) [a0, a1, a2, a3, a4, a5, a6, a7, a8, some (.str markX), a10, a11, a12, a13] S = some (.ok (.lst [.str " ", .str "$", .str "&", .str "~"]), S) := by kernel_rfl
theorem right_ok (h : PotS S) : W (f_l_right [.mt 0]) S fun d S' => d = .bl true := by
  unfold f_l_right b_l_right
  refine W.run (W.seq (W.fors (W.eq (a := [.int 0, .int 1, .int 2]) (S' := S) (by kernel_rfl) ?_)))
  refine W.forc (W.tgn ((turn_ok h).imp fun p S2 ⟨⟨b, s, l, g, m, w, f, sd, c4, c5, c6, F, ep⟩, hp2⟩ => ?_))
  subst ep
  refine W.forc (W.tgn ((turn_ok hp2).imp fun p S3 ⟨⟨b, s, l, g, m, w, f, sd, c4, c5, c6, F, ep⟩, hp3⟩ => ?_))
  subst ep
  refine W.forc (W.tgn ((turn_ok hp3).imp fun p S4 ⟨⟨b, s, l, g, m, w, f, sd, c4, c5, c6, F, ep⟩, hp4⟩ => ?_))
  subst ep
  refine W.forn ?_
  obtain ⟨odd, S5, e5, ho, hp5⟩ := of_ok (ds := [.non, .int 5, .tup [], .lst [.str (wordsX b s l g m w f sd)], .str "", .str " ", fmtO b s l g m w f sd, .bl true, .dct []]) (Nat.succ_pos _) (Nat.le_of_ble_eq_true rfl) hp4
  obtain ⟨ro, qo⟩ := odd_ok (S := S5) F ho
  have rl := read_lost F S5
  have rm := read_mark (S := S5)
  have w3 := (wordsX_300 F).1
  have rp : rplC "base " "base 0" (.str (wordsX b s l g m w f sd)) S5 = some (.ok (.str (lostX (wordsX b s l g m w f sd))), S5) := by
    have lz : ("base 0" : Str).length = 6 := by kernel_rfl
    show (if _ then pure (.str (Txt.replace (wordsX b s l g m w f sd) "base " "base 0")) else M.stuck : M D) S5 = _
    rw [if_pos (by rw [lz]; omega)]
    rfl
  have st : ∀ x : Str, eqU eqE_Format 2 (.str x) (.str x) = some true := fun x => by
    show some (x == x) = _
    rw [beq_self_eq_true]
  have q := eqU_three (S := S5) (eqU_row (a := "InvalidText") qo) (eqU_row (a := "InvalidText") (st (lostX (wordsX b s l g m w f sd)))) (eqU_row (a := "InvalidText") (st markX))
  have k1 : eqBD false (.lst [.str " ", .str "$", .str "&", .str "~"]) (.lst [.str " ", .str "$", .str "&", .str "~"]) S5 = some (.ok (.bl true), S5) := by kernel_rfl
  apply W.evE
  · simp! only [e5, ro, rl, rm, rp, q, ↓good_eq, k1, ev_ende hsT_at]
    rfl
  · exact ⟨_, _, rfl, rfl⟩
end
end
section
open PySem PySem.Spec PyProof.Rows L2
namespace LawD
section
variable {P : Program} {w : World} {K : PySem.W.Frag} {mg : Str → Option Value} {base : Heap} {A : Ad}
/-- the pot: two integers -/
def Pot (p : Addr) (H : Hp) : Prop := ∃ i j, H p = some (.lst [.int i, .int j])
theorem Pot.same {p : Addr} {H H' : Hp} (s : Same H H') (h : Pot p H) : Pot p H' := h.elim fun i ⟨j, e⟩ => ⟨i, j, s _ _ e⟩
theorem But.none_of {p : Addr} {H H' : Hp} {d : Addr} (s : But p H H') (q : Pot p H') (q0 : Pot p H) (n : H' d = none) : H d = none := by
  cases h : H d with
  | none => rfl
  | some o =>
    by_cases e : d = p
    · obtain ⟨i, j, z⟩ := q
      rw [e, z] at n
      cases n
    · rw [s d o e h] at n
      cases n
def sp_l_pot (K : PySem.W.Frag) : Sp := s2 fun a b H Q _ => ∃ (s : Addr) (ns : List Int) (k : Nat), a = .ref s ∧ SqL K H s (ns.map V.int) ∧ b = .int (k : Nat) ∧ k ≤ 5 ∧ ∀ p H', H p = none → Same H H' → Pot p H' → Q (.ref p) H'
theorem ok_l_pot (T : Txt w K mg A) : Callee P w K mg base 1 "_law_pot" ["_law_script", "_law_k"] (sp_l_pot K) := by
  refine callee_of T.F_l_pot sc_l_pot (fun _ _ _ _ _ _ us hl => match us, hl with | [_, _], _ => rfl) (fun vs H Q E h => ?_) (fun f cdv Ar outer s H vs Q E hr tk po h => ?_)
  · obtain ⟨_, _, rfl, _⟩ := s2_len h
    rfl
  · obtain ⟨a, b, rfl, s, ns, k, rfl, hs, rfl, hk, q⟩ := s2_len h
    refine ⟨_, (pss_cons (ps_set (i := 2) sc_l_pot.nd rfl (Or.inl rfl) (pe_op f_add pe_int (pe_op f_mul pe_int (fv 1))))
      (pss_cons (fs_for po rfl (fi_L (pe_slice f_slL (fv 0) po_none (po_some pe_int))) (pg_name (i := 3) sc_l_pot.nd rfl (Or.inl rfl)) (pss_one (ps_set (i := 2) sc_l_pot.nd rfl (Or.inl rfl) (pe_op f_mod (pe_callTy f_int (by rfl) T.b_int (by decide +kernel) (pa_cons (pe_op f_add (pe_op f_add (pe_op f_mul (fv 2) pe_int) (pe_op f_mod (pe_callTy f_int (by rfl) T.b_int (by decide +kernel) (pa_cons (fv 3) pa_nil)) pe_int)) pe_int) pa_nil)) pe_int))))
      (pss_cons (ps_set (i := 4) sc_l_pot.nd rfl (Or.inl rfl) (pe_ifExp (ft_cmp f_lt (fv 1) (pe_callB f_len (by rfl) T.b_len (by decide +kernel) (pa_cons (fv 0) pa_nil)) (nomark _)) (pe_callTy f_int (by rfl) T.b_int (by decide +kernel) (pa_cons (pe_ix f_ix (fv 0) (fv 1) (fun _ _ => rfl)) pa_nil)) (pe_op f_mul pe_int (fv 1))))
      (pss_one (ps_ret (fe_lst (pa_cons (pe_ifExp (ft_cmp f_ge (pe_callB f_abs (by rfl) T.b_abs (by decide +kernel) (pa_cons (fv 4) pa_nil)) (pe_op f_pow pe_int pe_int) (nomark _)) (pe_callB f_abs (by rfl) T.b_abs (by decide +kernel) (pa_cons (fv 4) pa_nil)) pe_int) (pa_cons (pe_op f_mod (pe_callTy f_int (by rfl) T.b_int (by decide +kernel) (pa_cons (pe_op f_add (fv 2) (pe_op f_mod (fv 4) pe_int)) pa_nil)) pe_int) pa_nil)))))))), ?_⟩
    walk_at "sx"
    intro a1 H1 n1 s1 h1
    have hs1 : SqL K H1 s (ns.map V.int) := s1.seq hs
    have intsOk : ∀ x ∈ cutV (ns.map V.int) none (some 11), ∃ i, x = V.int i := fun x hx => by
      have z := List.mem_of_mem_drop (List.mem_of_mem_take hx)
      obtain ⟨i, _, e⟩ := List.mem_map.mp z
      exact ⟨i, e.symm⟩
    walk_at "sx"
    refine Loop.by (fun rest σ Hc => ∃ z, ∃ a3, σ = [some (.ref s), some (.int (k : Nat)), some (.int z), a3, none] ∧ Same H1 Hc ∧ ∀ x ∈ rest, ∃ i, x = V.int i) ?_ ?_ _ _ _ ?_
    · rintro x r σ Hc ⟨z, a3, rfl, sc, hr⟩ N hN
      obtain ⟨i, rfl⟩ := hr _ (List.mem_cons_self ..)
      walk_at "sx"
      exact hN _ _ (SqL.of (sc _ _ h1)) ⟨_, _, rfl, sc, fun x hx => hr x (List.mem_cons_of_mem _ hx)⟩
    · rintro σ Hc ⟨z, a3, rfl, sc, _⟩
      have hsc : SqL K Hc s (ns.map V.int) := sc.seq hs1
      have fin : ∀ (e : Int) p H', Hc p = none → Same Hc H' → H' p = some (.lst [.int e, .int z]) → True := fun _ _ _ _ _ _ => trivial
      walk_at "sx"
      refine iteD (fun c => ?_) (fun c => ?_)
      · have kl : k < ns.length := by
          have : ((k : Nat) : Int) < ((ns.map V.int).length : Nat) := c
          rw [List.length_map] at this
          omega
        have at1 : atI (ns.map V.int) ((k : Nat) : Int) = some (V.int ns[k]) := atI_nat (by rw [List.getElem?_map, List.getElem?_eq_getElem kl]; rfl)
        walk_at "sx"
        refine iteD (fun d => ?_) (fun d => ?_)
        · walk_at "sx"
          intro p H2 n2 s2 h2
          exact q p H2 (Same.no (s1.trans sc) n2) ((s1.trans sc).trans s2) ⟨_, _, h2⟩
        · walk_at "sx"
          intro p H2 n2 s2 h2
          exact q p H2 (Same.no (s1.trans sc) n2) ((s1.trans sc).trans s2) ⟨_, _, h2⟩
      · walk_at "sx"
        refine iteD (fun d => ?_) (fun d => ?_)
        · walk_at "sx"
          intro p H2 n2 s2 h2
          exact q p H2 (Same.no (s1.trans sc) n2) ((s1.trans sc).trans s2) ⟨_, _, h2⟩
        · walk_at "sx"
          intro p H2 n2 s2 h2
          exact q p H2 (Same.no (s1.trans sc) n2) ((s1.trans sc).trans s2) ⟨_, _, h2⟩
    · exact ⟨_, none, rfl, Same.refl _, intsOk⟩
end
/-- all but the pot at p and the tables stays -/
def ButN (p : Addr) (H H' : Hp) : Prop := ∀ b o, b ≠ p → H b = some o → (∀ ps, o ≠ .tbl ps) → H' b = some o
theorem ButN.refl (p : Addr) (H : Hp) : ButN p H H := fun _ _ _ e _ => e
theorem ButN.trans {p : Addr} {H H1 H2 : Hp} (x : ButN p H H1) (y : ButN p H1 H2) : ButN p H H2 := fun b o n e t => y b o n (x b o n e t) t
theorem ButN.of {p : Addr} {H H' : Hp} (h : But p H H') : ButN p H H' := fun b o n e _ => h b o n e
theorem ButN.ext {p : Addr} {H H' : Hp} (h : LamX.ExtN H H') : ButN p H H' := fun b o _ e t => h b o e t
theorem ButN.same {p : Addr} {H H' : Hp} (h : Same H H') : ButN p H H' := fun b o _ e _ => h b o e
theorem Tabs.same {H H' : Hp} {T : List (Addr × Str)} (b : Same H H') (t : LamX.Tabs T H) : LamX.Tabs T H' := t.ext b
theorem Pot.ext {p : Addr} {H H' : Hp} (s : LamX.ExtN H H') (h : Pot p H) : Pot p H' := h.elim fun i ⟨j, e⟩ => ⟨i, j, s _ _ e fun _ z => by cases z⟩
def tabs_l_right (A : Ad) : List (Addr × Str) := [(A.tP_l_right, "_law_right.<locals>.<lambda>")]
section
variable {P : Program} {w : World} {K : PySem.W.Frag} {mg : Str → Option Value} {base : Heap} {A : Ad}
def sp_l_right (A : Ad) : Sp := s1 fun a H Q _ => ∃ p, a = .ref p ∧ Pot p H ∧ LamX.Tabs (tabs_l_right A) H ∧ ∀ H', ButN p H H' → LamX.Tabs (tabs_l_right A) H' → Q (.bl true) H'
theorem ok_l_right (T : Txt w K mg A) (TB : LamX.TabB base mg A.cC_l_right A.tP_l_right) : CalleeG P w K mg base 10 "_law_right" ["_law_pot_here"] (sp_l_right A) := by
  letI : TQ := ⟨fun P q => P = A.tP_l_right ∧ q = "_law_right.<locals>.<lambda>"⟩
  refine calleeG_imp (Fg.ok_l_right T TB (fun _ _ => Iff.rfl)).g fun vs H Q E h => ?_
  obtain ⟨a, rfl, p, rfl, ⟨i, j, hp⟩, t0, q⟩ := s1_len h
  refine ⟨t0 _ (List.mem_singleton.mpr rfl), fun _ => False, [p], [.mt 0], [.lst [.int i, .int j]], rfl, ⟨fun b hb => ?_, by simp, fun _ _ z => z, ⟨⟨[.int i, .int j], hp, .cons .int (.cons .int .nil)⟩, trivial⟩⟩, .cons (.mt rfl) .nil, ?_⟩
  · rcases hb with hb | hb
    · exact hb.elim
    · rw [List.mem_singleton.mp hb]
      exact Nw.live hp fun _ z => by cases z
  · obtain ⟨d, S', e, ed⟩ := right_ok (S := [.lst [.int i, .int j]]) ⟨i, j, rfl⟩
    rw [e]
    intro v H' ρ' en hr
    subst ed
    cases hr
    refine q H' (fun b o n eb nt => en.gr.keep b o (fun z => n (List.mem_singleton.mp z)) (fun z => z) nt eb) fun x hx => ?_
    rw [List.mem_singleton.mp hx]
    exact en.gr.tabs _ _ ⟨rfl, rfl⟩ (t0 _ (List.mem_singleton.mpr rfl))
end
/-- each item gives y; an invariant beside -/
theorem Comp.inv {st : Hp → Prop} {g : TG} {te : TE} {vs : List Nat} {σ : L2.St} {D : Addr} {Q : Hp → Prop} (Iv : Hp → Prop) (Px : V → Prop) (y : V) (hst : ∀ H, Iv H → st H) (hI : ∀ H acc, Iv H → H D = some (.lst acc) → ∀ acc', Iv (upd H D (.lst acc')))
    (hx : ∀ (x : V) (H : Hp) (acc : List V) (R : VK), Px x → Iv H → H D = some (.lst acc) → (∀ H', Iv H' → H' D = some (.lst acc) → R y H') → g x (wipe σ vs) H fun σ2 H2 => wipe σ2 vs = wipe σ vs ∧ te σ2 H2 R) :
    ∀ (xs : List V) (acc : List V) (H : Hp), (∀ x ∈ xs, Px x) → acc.length + xs.length ≤ sizeLine → Iv H → H D = some (.lst acc) → (∀ H', Iv H' → H' D = some (.lst (acc ++ xs.map fun _ => y)) → Q H') → Comp st g tYes te vs σ D Q xs H
  | [], acc, H, _, _, s, hD, q => q H s (by rw [List.map_nil, List.append_nil]; exact hD)
  | x :: r, acc, H, hp, hl, s, hD, q => by
    rw [List.length_cons] at hl
    have k := hx x H acc (fun y H4 => ∃ acc, H4 D = some (.lst acc) ∧ acc.length < sizeLine ∧ st (upd H4 D (.lst (acc ++ [y]))) ∧ Comp st g tYes te vs σ D Q r (upd H4 D (.lst (acc ++ [y])))) (hp x (List.mem_cons_self ..)) s hD fun H' s' hD' => by
      have s2 := hI H' acc s' hD' (acc ++ [y])
      refine ⟨acc, hD', by omega, hst _ s2, ?_⟩
      refine Comp.inv Iv Px y hst hI hx r (acc ++ [y]) _ (fun z hz => hp z (List.mem_cons_of_mem _ hz)) (by rw [List.length_append, List.length_singleton]; omega) s2 upd_same fun H2 s3 e => q H2 s3 ?_
      rw [e, List.append_assoc]
      rfl
    exact k
theorem sqL_upd {K : PySem.W.Frag} {H Hc : Hp} {a D : Addr} {xs : List V} {o : HO} (h0 : SqL K H a xs) (n : H D = none) (h1 : SqL K Hc a xs) : SqL K (upd Hc D o) a xs := by
  rcases h0 with (h0 | ⟨u, h0⟩) | hk
  · have ne := ne_of_none h0 n
    rcases h1 with (h1 | ⟨u, h1⟩) | hk
    · exact .inl (.inl (by rw [upd_ne ne]; exact h1))
    · exact .inl (.inr ⟨u, by rw [upd_ne ne]; exact h1⟩)
    · exact .inr hk
  · have ne := ne_of_none h0 n
    rcases h1 with (h1 | ⟨u, h1⟩) | hk
    · exact .inl (.inl (by rw [upd_ne ne]; exact h1))
    · exact .inl (.inr ⟨u, by rw [upd_ne ne]; exact h1⟩)
    · exact .inr hk
  · exact .inr hk
theorem sqL_butN {K : PySem.W.Frag} {H0 H H' : Hp} {a p : Addr} {xs : List V} (h1 : SqL K H a xs) (h0 : SqL K H0 a xs) (s : Same H0 H) (n : H0 p = none) (b : ButN p H H') : SqL K H' a xs := by
  rcases h0 with (h0 | ⟨u, h0⟩) | hk
  · exact .inl (.inl (b _ _ (ne_of_none h0 n) (s _ _ h0) fun _ z => by cases z))
  · exact .inl (.inr ⟨u, b _ _ (ne_of_none h0 n) (s _ _ h0) fun _ z => by cases z⟩)
  · exact .inr hk
theorem tabS_upd {H : Hp} {D P : Addr} {q : Str} {acc acc' : List V} (hD : H D = some (.lst acc)) (t : LamX.TabS H P q) : LamX.TabS (upd H D (.lst acc')) P q := by
  obtain ⟨ps, h1, h2, h3⟩ := t
  have ne : ∀ {a : Addr} {o : HO}, H a = some o → (∀ xs, o ≠ .lst xs) → a ≠ D := fun {a o} ea no z => by
    rw [z, hD] at ea
    exact no acc (Option.some.inj ea).symm
  refine ⟨ps, by rw [upd_ne (ne h1 fun _ z => by cases z)]; exact h1, h2, fun pos cv hc => ?_⟩
  obtain ⟨c, e1, e2⟩ := h3 pos cv hc
  exact ⟨c, e1, by rw [upd_ne (ne e2 fun _ z => by unfold LamX.CodeO at z; cases z)]; exact e2⟩
theorem ButN.none_of {p : Addr} {H H' : Hp} {d : Addr} (s : ButN p H H') (n : H' d = none) (hp : d ≠ p) (nt : ∀ ps, H d ≠ some (.tbl ps)) : H d = none := by
  cases h : H d with
  | none => rfl
  | some o =>
    rw [s d o hp h (fun ps z => nt ps (by rw [h, z]))] at n
    cases n
section
variable {P : Program} {w : World} {K : PySem.W.Frag} {mg : Str → Option Value} {base : Heap} {A : Ad}
def sp_law (K : PySem.W.Frag) (A : Ad) : Sp := s1 fun a H Q _ => ∃ (s : Addr) (ns : List Int), a = .ref s ∧ SqL K H s (ns.map V.int) ∧ ns.length ≤ 63 ∧ LamX.Tabs (tabs_l_right A) H ∧ ∀ H', Q (.bl true) H'
theorem law_fun (T : Txt w K mg A) : FunAt K mg "law" s_law := T.F_law
theorem ok_law {f : Addr} {fd : FuncData} (F : Fun K "law" "law" s_law f fd) (T : Txt w K mg A) (TB : LamX.TabB base mg A.cC_l_right A.tP_l_right) : FnG P w K mg base 11 f fd ["_law_script"] (sp_law K A) := by
  refine fnG_known F sc_law (fun vs H Q E h => ?_) (fun f cdv Ar outer s H vs Q E ng hr tk po h => ?_)
  · obtain ⟨_, rfl, _⟩ := s1_len h
    rfl
  · obtain ⟨a, rfl, s0, ns, rfl, h0, hl, t0, q⟩ := s1_len h
    refine ⟨_, (pss_one (ps_ret (pe_callB (f_all rfl) (by rfl) T.b_all (by decide +kernel) (pa_cons (fe_lc (own := [("_law_k", 1)]) (tt := tYes) (by rfl) sc_law.nd (fi_R1 (by rfl) T.b_range (pa_cons (pe_callB (f_max rfl) (by rfl) T.b_max (by decide +kernel) (pa_cons pe_int (pa_cons (pe_callB (f_min rfl) (by rfl) T.b_min (by decide +kernel) (pa_cons (pe_callB f_len (by rfl) T.b_len (by decide +kernel) (pa_cons (fv 0) pa_nil)) (pa_cons pe_int pa_nil))) pa_nil))) pa_nil)) (blkOk_by (own := [("_law_k", 1)]) (N := ["_law_script", "_law_k"]) (sc := defScope s_law) (by decide +kernel)) (fun _ _ _ _ _ => pg_name (i := 1) sc_law.nd rfl (Or.inl rfl)) (fun _ _ _ _ _ => pts_nil) (fun _ _ _ _ _ => (fc_callG (ok_l_right T TB) ng hr (by decide) (by rfl) takes0 (pa_cons (fc_call (ok_l_pot T) hr (by decide) (by rfl) takes0 (pa_cons (fv 0) (pa_cons (fv 1) pa_nil))) pa_nil)))) pa_nil)))), ?_⟩
    walk_at "sx"
    refine And.intro trivial ?_
    intro D H2 n2 s2 h2
    refine And.intro trivial ?_
    refine Comp.inv (fun Hc => SqL K Hc s0 (ns.map V.int) ∧ LamX.Tabs (tabs_l_right A) Hc) (fun x => ∃ k : Nat, x = .int (k : Nat) ∧ k ≤ 5) (.bl true) (fun _ _ => trivial) ?_ ?_ _ [] _ ?_ ?_ ?_ h2 ?_
    · rintro Hc acc ⟨h1, t1⟩ hD acc'
      exact ⟨sqL_upd h0 n2 h1, fun r hr => tabS_upd hD (t1 r hr)⟩
    · rintro x Hc acc R ⟨k, rfl, hk⟩ ⟨h1, t1⟩ hD kk
      walk_at "sx"
      intro p H3 np s3 p3
      have t3 := Tabs.same s3 t1
      walk_at "sx"
      intro H4 b4 t4
      exact kk H4 ⟨sqL_butN (s3.seq h1) h1 s3 np b4, t4⟩ (b4 _ _ (ne_of_none hD np) (s3 _ _ hD) fun _ z => by cases z)
    · intro x hx
      obtain ⟨i, hi, rfl⟩ := List.mem_map.mp hx
      have := List.mem_range.mp hi
      exact ⟨i, by rw [Int.zero_add], by omega⟩
    · rw [rgI_len]
      refine sz_le ?_
      simp only [List.length_nil]
      omega
    · exact ⟨s2.seq h0, Tabs.same s2 t0⟩
    · rintro Hc ⟨h1, t1⟩ hD
      have hD2 : ∀ n : Nat, ([] ++ List.map (fun _ => V.bl true) (rgI 0 n)) = (List.replicate n true).map V.bl := fun n => by
        rw [List.nil_append, List.map_replicate, List.map_const', rgI_len]
      rw [hD2] at hD
      have al : ∀ n : Nat, ((List.replicate n true).all id) = true := fun n => by
        induction n with
        | zero => rfl
        | succ n ih => rw [List.replicate_succ, List.all_cons, ih]; rfl
      have qq := q Hc
      rw [← al (max 2 (min (((List.map V.int ns).length : Nat) : Int) 5)).toNat] at qq
      refine ⟨_, _, SqL.of hD, rfl, qq⟩
end
end LawD
abbrev sp_law := LawD.sp_law
abbrev law_fun := @LawD.law_fun
abbrev ok_law := @LawD.ok_law
end
section
open PySem PySem.Spec PyProof.Rows L2
theorem law_facts {w : World} {mg : Str → Option Value} {fa : Addr} {h : Heap} (Y : headHk.says w h) (G : h.Ns mainGlobals mg) (hmg : mg "law" = some (.ref fa)) :
    ∃ K : PySem.W.Frag, K.In h ∧ LawAtG PySem.Challenge.rw_figurelines_k02_whole_format_texts w K 11 63 "_law_script" mg fa h := by
  obtain ⟨K, X, c⟩ := Y
  have T := txt_of X G c
  obtain ⟨f, fd, F, g⟩ := (law_fun T).ex
  have ef := hmg.symm.trans g
  cases ef
  have F0 := F
  obtain ⟨oc, od, kV, doc, pm, an, cdv, ct, osl, rfl, lk, hcd⟩ := F.ex
  have hm : (("_law_right", none) : He.Defn) ∈ headTf := List.mem_cons_self ..
  have one : ∀ p ∈ [He.cT K ("_law_right", none)], p = He.cT K ("_law_right", none) := fun p hp => List.mem_singleton.mp hp
  refine ⟨K, X, PySem.W.fnOf "law" "law" (defArgs s_law) (defBody s_law) (defScope s_law) .none kV doc pm an cdv ct, [He.cT K ("_law_right", none)], sp_law K (adOf K), fun p hp => ?_, fun p hp => ?_, fun p hp => ?_, fun s u => .of_eq rfl, fun H a ns hl _ hT hS => ?_, fun base KB GB TB => ?_⟩
  · rw [one p hp]; exact c.x.empty _ hm
  · rw [one p hp]; exact c.x.out _ hm
  · rw [one p hp]; exact PySem.W.codeHd_of_K X (c.x.hd _ hm)
  · refine ⟨a, ns, rfl, hS, hl, fun p hp => ?_, fun _ => rfl⟩
    rw [List.mem_singleton.mp hp]
    exact LamX.TabS.nil (hT _ (List.mem_singleton.mpr rfl))
  · exact ok_law F0 T (TB _ (List.mem_singleton.mpr rfl))
end
end Fg
open PySem PySem.W PySem.Calls PyProof.Rows
set_option maxRecDepth 100000 in
set_option maxHeartbeats 0 in
theorem PySem.Challenge.cw_figurelines_k02_whole_format_texts_holds : PySem.Challenge.rw_figurelines_k02_whole_format_texts.Holds := by
  refine Fg.earlyH ?hc
  case hc =>
    refine Fg.walk_ofG (l := PySem.Challenge.rw_figurelines_k02_whole_format_texts) (n := 63) (k := 11) (x := "_law_script") rfl (by decide) (by kernel_rfl) ⟨rfl, by decide, by decide⟩ ?F ?X
    case F =>
      intro w mg fa h Y G hmg0
      have hmg : mg ("law" : PySem.Str) = some (.ref fa) := by
        have e : (HandSHeadRun.topDef (OpenLaw.row PySem.Challenge.rw_figurelines_k02_whole_format_texts).prog 40).name = ("law" : PySem.Str) := by kernel_rfl
        rw [← e]
        exact hmg0
      exact Fg.law_facts Y G hmg
    case X =>
      intro w H s e s' z
      obtain ⟨_, _, _, _, _, _, _, _, _, _, _, _, z⟩ := z
      exact z
#print axioms PySem.Challenge.cw_figurelines_k02_whole_format_texts_holds
