import PyProof.Rows.All
import Wide.All
import OpenK.AllK
import Wide.FinOn
import HandS.ForMost
import HandS.ForExc
import HandS.IsInst
import HandS.FStr
import HandS.TupAny
import HandS.Star
import HandS.Lambda
import HandS.EndTab
import HandS.StrMore
import HandS.Style
import HandS.Zip
import HandS.Small
import HandS.ExcInit
import HandS.ExcIs
import HandS.ExcField
import HandS.TryMany
import HandS.Defaults
import HandS.MakeKwOnly
import HandS.Wide
import PyProof.ListStr
import KE.GoesOver
import KE.GoesMore
import KE.GoesEnum
import KE.GoesNew
import HandS.SortInts
import HandS.SetFor
import HandS.Strs
import PyProof.NeKinds
import HandS.ClsMeth
import HandS.New0
import HandS.HeadNt
import KE.KCallOwn
import KE.KFmtOwn
import KE.KDictList
import HandS.OwnEq
import HandS.Deep
import HandS.DictComp
import HandS.ListItems
import HandS.StrSplit
import HandS.Head0
import HandS.Head1
import HandS.Head2
import HandS.HeadEnd
import HandS.HeadHook1
import HandS.HeadHook2
import HandS.HeadHook3
import HandS.HeadHook4
import HandS.HeadWalk
import PySem.Challenge.RW_figurelines_k06_whole_field_texts

set_option Elab.async false
set_option linter.all false
set_option maxRecDepth 100000
set_option maxHeartbeats 4000000
namespace Fg
open PySem PySem.Spec PyProof.Rows L2
/-! ### heaps -/
theorem alloc {H : Hp} {o : HO} {G : Addr → Hp → Prop} (h : ∀ p H1, H p = none → Same H H1 → H1 p = some o → G p H1) : ∀ p, H p = none → G p (upd H p o) :=
  fun p np => h p _ np (fun b u e => by rw [upd_ne (ne_of_none e np)]; exact e) upd_same
theorem iteD {p : Prop} [Decidable p] {A B : Prop} (h1 : p → A) (h2 : ¬ p → B) : if decide p = true then A else B := by
  by_cases h : p
  · rw [if_pos (decide_eq_true h)]; exact h1 h
  · rw [if_neg (by rw [decide_eq_false h]; decide)]; exact h2 h
theorem iteB {b : Bool} {A B : Prop} (h1 : b = true → A) (h2 : b = false → B) : if b = true then A else B := by
  cases b with
  | true => exact h1 rfl
  | false => exact h2 rfl
theorem iteY {b : Bool} {A B : Prop} (e : b = true) (h : A) : if b = true then A else B := by rw [if_pos e]; exact h
theorem iteN {b : Bool} {A B : Prop} (e : b = false) (h : B) : if b = true then A else B := by rw [if_neg (by rw [e]; decide)]; exact h
/-! ### the rules, told by what the values are -/
section
variable {X : Cx}
theorem pe_imp {e : Expr} {t t' : TE} (h : PE X e t) (w : ∀ σ H Q, t' σ H Q → t σ H Q) : PE X e t' := ⟨fun pins s σ H Q I q => h.run pins s σ H Q I (w σ H Q q)⟩
theorem pt_imp {e : Expr} {t t' : TT} (h : PT X e t) (w : ∀ σ H Q, t' σ H Q → t σ H Q) : PT X e t' := ⟨fun pins s σ H Q I q => h.run pins s σ H Q I (w σ H Q q)⟩
theorem op_imp {f : Value → Value → Sem Value} {r r' : R2} (h : OpR X f r) (w : ∀ x y H Q, r' x y H Q → r x y H Q) : OpR X f r' := fun pins s σ H x y v u Q I rx ry q => h pins s σ H x y v u Q I rx ry (w x y H Q q)
theorem call_imp {f : Value} {r r' : List V → Hp → VK → Prop} (h : CallR X f r) (w : ∀ xs H Q, r' xs H Q → r xs H Q) : CallR X f r' := fun pins s σ H xs us Q I rx q => h pins s σ H xs us Q I rx (w xs H Q q)
def tV (i : Nat) : TE := fun σ H Q => match σ[i]? with
  | some (some v) => Q v H
  | _ => False
theorem fv (i : Nat) {x : Str} {pos : Pos} (hN : X.N[i]? = some x := by rfl) (hv : Vis X.env.scope x := by first | exact Or.inl rfl | exact Or.inr (Or.inl rfl) | exact Or.inr (Or.inr rfl)) (hd : (x == ("__debug__" : Str)) = false := by decide)
    (hcd : (x == ("__classdict__" : Str)) = false := by decide) : PE X (.Name x pos) (tV i) := pe_imp (pe_var hN hv hd hcd) fun σ H Q q => by
  unfold tV at q
  split at q
  · exact ⟨_, by assumption, q⟩
  · exact q.elim
/-- a name of the module -/
theorem fe_g {x : Str} {v : V} {pos : Pos} (hg : Gl X x) (h : ∃ u, X.mg x = some u ∧ RelV v u) (hd : (x == ("__debug__" : Str)) = false := by decide) : PE X (.Name x pos) (tC v) := by
  obtain ⟨u, hm, r⟩ := h
  exact pe_glob hg hm r hd
def fI (g : Int → Int → V) : R2 := fun x y H Q => match x, y with
  | .int i, .int j => Q (g i j) H
  | _, _ => False
def fIc (C : Int → Int → Prop) (g : Int → Int → V) : R2 := fun x y H Q => match x, y with
  | .int i, .int j => C i j ∧ Q (g i j) H
  | _, _ => False
theorem fI_imp {f : Value → Value → Sem Value} {g : Int → Int → V} (h : OpR X f (rI0 g)) : OpR X f (fI g) := op_imp h fun x y H Q q => by
  unfold fI at q
  split at q
  · exact ⟨_, _, rfl, rfl, q⟩
  · exact q.elim
theorem fIc_imp {f : Value → Value → Sem Value} {C : Int → Int → Prop} {g : Int → Int → V} (h : OpR X f (rI C g)) : OpR X f (fIc C g) := op_imp h fun x y H Q q => by
  unfold fIc at q
  split at q
  · exact ⟨_, _, rfl, rfl, q.1, q.2⟩
  · exact q.elim
def fAdd : R2 := fun x y H Q => match x, y with
  | .int i, .int j => Q (.int (i + j)) H
  | .str a, .str b => a.length + b.length ≤ sizeLine ∧ Q (.str (a ++ b)) H
  | _, _ => False
theorem f_add : OpR X (binaryOp .Add) fAdd := op_imp (op_add.or op_add_str) fun x y H Q q => by
  unfold fAdd at q
  split at q
  · exact .inl ⟨_, _, rfl, rfl, q⟩
  · exact .inr ⟨_, _, rfl, rfl, q.1, q.2⟩
  · exact q.elim
theorem f_sub : OpR X (binaryOp .Sub) (fI fun i j => .int (i - j)) := fI_imp op_sub
/-- factors that are not too great -/
def CBig (i j : Int) : Prop := -(10 ^ 60) < i ∧ i < 10 ^ 60 ∧ -(10 ^ 60) < j ∧ j < 10 ^ 60
def CM (i j : Int) : Prop := (-(2 ^ 64) < i ∧ i < 2 ^ 64) ∨ (-(2 ^ 64) < j ∧ j < 2 ^ 64) ∨ CBig i j
theorem log_le {n k : Nat} (h : n < 2 ^ (k + 1)) : n.log2 ≤ k := by
  by_cases z : n = 0
  · rw [z]; exact Nat.zero_le _
  · exact Nat.le_of_lt_succ ((Nat.log2_lt z).mpr h)
theorem CM.ok {i j : Int} (h : CM i j) : IntMulOk i j := by
  rcases h with h | h | h
  · exact CMul.ok (.inl h)
  · exact CMul.ok (.inr h)
  · have z : -(10 ^ 60) < i ∧ i < 10 ^ 60 ∧ -(10 ^ 60) < j ∧ j < 10 ^ 60 := h
    have a1 : i.natAbs.log2 ≤ 199 := log_le (by omega)
    have a2 : j.natAbs.log2 ≤ 199 := log_le (by omega)
    exact CMulW.ok (show i.natAbs.log2 + j.natAbs.log2 < 1000000 by omega)
theorem f_mul : OpR X (binaryOp .Mult) (fIc CM fun i j => .int (i * j)) := fIc_imp (opI fun _ _ _ _ _ _ _ hc q => mul_int q hc.ok)
theorem f_mod : OpR X (binaryOp .Mod) (fIc (fun _ j => 0 < j) fun i j => .int (i % j)) := fIc_imp op_mod
def CDv (_ j : Int) : Prop := 0 < j ∧ j < 10 ^ 60
theorem f_fdiv : OpR X (binaryOp .FloorDiv) (fIc CDv fun i j => .int (i / j)) := op_imp op_fdivW fun x y H Q q => by
  unfold fIc at q
  split at q
  · rename_i i j
    have z : 0 < j ∧ j < 10 ^ 60 := q.1
    have a2 : j.natAbs.log2 ≤ 199 := log_le (by omega)
    exact ⟨i, j, rfl, rfl, ⟨z.1, by omega⟩, q.2⟩
  · exact q.elim
theorem f_pow : OpR X (binaryOp .Pow) (fIc CPow fun i j => .int (i ^ j.toNat)) := fIc_imp op_pow
theorem f_lt : OpR X (compareOp .Lt) (fI fun i j => .bl (decide (i < j))) := fI_imp op_lt
theorem f_le : OpR X (compareOp .LtE) (fI fun i j => .bl (decide (i ≤ j))) := fI_imp op_le
theorem f_gt : OpR X (compareOp .Gt) (fI fun i j => .bl (decide (j < i))) := fI_imp op_gt
theorem f_ge : OpR X (compareOp .GtE) (fI fun i j => .bl (decide (j ≤ i))) := fI_imp op_ge
/-- == of plain values -/
def fEq : R2 := fun x y H Q => match x, y with
  | .int i, .int j => Q (.bl (decide (i = j))) H
  | .str i, .str j => Q (.bl (decide (i = j))) H
  | x, y => scal x y = true ∧ Q (.bl (decide (x = y))) H
def fNe : R2 := fun x y H Q => match x, y with
  | .int i, .int j => Q (.bl (!decide (i = j))) H
  | .str i, .str j => Q (.bl (!decide (i = j))) H
  | x, y => scal x y = true ∧ Q (.bl (!decide (x = y))) H
theorem f_eq : OpR X (compareOp .Eq) fEq := op_imp op_eq fun x y H Q q => by
  unfold fEq at q
  split at q
  · exact ⟨rfl, by rw [dec_int, Bool.beq_eq_decide_eq]; exact q⟩
  · refine ⟨rfl, ?_⟩
    rename_i i j
    have e : decide (V.str i = V.str j) = decide (i = j) := by
      by_cases h : i = j
      · rw [h]; simp
      · simp [h]
    rw [e]; exact q
  · exact q
theorem f_ne : OpR X (compareOp .NotEq) fNe := op_imp op_ne fun x y H Q q => by
  unfold fNe at q
  split at q
  · exact ⟨rfl, by rw [dec_int, Bool.beq_eq_decide_eq]; exact q⟩
  · refine ⟨rfl, ?_⟩
    rename_i i j
    have e : decide (V.str i = V.str j) = decide (i = j) := by
      by_cases h : i = j
      · rw [h]; simp
      · simp [h]
    rw [e]; exact q
  · exact q
/-- x is not True, x is True: whatever is no object -/
def notRef : V → Bool
  | .non => true | .bl _ => true | .int _ => true | .str _ => true | .byt _ => true | .flt _ => true | _ => false
def rNotBl : R2 := fun x y H Q => match y with
  | .bl b => notRef x = true ∧ Q (.bl (!decide (x = .bl b))) H
  | _ => False
theorem op_notBl : OpR X (compareOp .IsNot) rNotBl := by
  intro pins s σ H x y v u Q I rx ry h
  cases y <;> first | exact h.elim | skip
  rename_i b
  obtain ⟨n, q⟩ := h
  cases (show u = Value.bool b from ry)
  cases x with
  | non => cases (show v = Value.none from rx); exact wpAny_isNot_other rfl (fun z => by cases z) ⟨.bl true, H, I, rfl, by simpa using q⟩
  | bl a =>
    cases (show v = Value.bool a from rx)
    by_cases e : a = b
    · subst e
      exact wpAny_isNot_self rfl ⟨.bl false, H, I, rfl, by simpa using q⟩
    · exact wpAny_isNot_other rfl (fun z => e (Value.bool.inj z)) ⟨.bl true, H, I, rfl, by simpa [e] using q⟩
  | int i => obtain ⟨t, rfl⟩ := (show ∃ t, v = Value.int i t from rx); exact wpAny_isNot_other rfl (fun z => by cases z) ⟨.bl true, H, I, rfl, by simpa using q⟩
  | str i => obtain ⟨t, rfl⟩ := (show ∃ t, v = Value.str i t from rx); exact wpAny_isNot_other rfl (fun z => by cases z) ⟨.bl true, H, I, rfl, by simpa using q⟩
  | byt i => obtain ⟨t, rfl⟩ := (show ∃ t, v = Value.bytes i t from rx); exact wpAny_isNot_other rfl (fun z => by cases z) ⟨.bl true, H, I, rfl, by simpa using q⟩
  | flt i => obtain ⟨t, rfl⟩ := (show ∃ t, v = Value.float i t from rx); exact wpAny_isNot_other rfl (fun z => by cases z) ⟨.bl true, H, I, rfl, by simpa using q⟩
  | ref _ => cases n
  | ty _ => cases n
/-- a test that is a bool -/
def tT (t : TE) : TT := fun σ H Q => t σ H fun x H' => match x with
  | .bl k => Q k H'
  | _ => False
variable {a b : Expr} {ta tb : TE} {pos : Pos}
theorem ft_cmp {op : CmpOp} {r : R2} (ho : OpR X (compareOp op) r) (ha : PE X a ta) (hb : PE X b tb) (hm : behindInMarks op b = false) : PT X (.Compare a [op] [b] pos) (tT (tOp r ta tb)) := by
  refine ⟨fun pins s σ H Q I h => ?_⟩
  refine wpAny_isTrue_Compare1 (thn (ha.run pins s σ H _ I h) fun v s1 ⟨x, H1, I1, rx, q⟩ => thn (hb.run pins s1 σ H1 _ I1 q) fun u s2 ⟨y, H2, I2, ry, q⟩ => thn (ho pins s2 σ H2 x y v u _ I2 rx ry q) fun c s3 ⟨z, H3, I3, rz, q3⟩ => ?_) hm
  cases z <;> first | exact q3.elim | skip
  cases rz
  exact wpAny_truthy_bool ⟨H3, I3, q3⟩
theorem ft_val {e : Expr} {t : TE} (h : PE X e t) (he : ∀ whole, isTrue e X.env whole = (do let v ← whole; standAt e.pos; holding [v] (truthy v)) := by intro _; rfl) : PT X e (tT t) := by
  refine ⟨fun pins s σ H Q I hw => ?_⟩
  refine isTrue_plain (thn (h.run pins s σ H _ I hw) fun v s1 ⟨x, H1, I1, r1, q1⟩ => ?_) (he _)
  cases x <;> first | exact q1.elim | skip
  cases r1
  exact wpAny_truthy_bool ⟨H1, I1, q1⟩

theorem ft_chain {op op' : CmpOp} {r r' : R2} {c : Expr} {tc : TE} (ho : OpR X (compareOp op) r) (ho' : OpR X (compareOp op') r') (ha : PE X a ta) (hb : PE X b tb) (hc : PE X c tc)
    (h : PE X (.Compare a [op, op'] [b, c] pos) (tChain r r' ta tb tc) := by exact pe_chain ‹_› ‹_› ‹_› ‹_› ‹_›) (he : ∀ whole, isTrue (.Compare a [op, op'] [b, c] pos) X.env whole = (do let v ← whole; standAt (Expr.pos (.Compare a [op, op'] [b, c] pos)); holding [v] (truthy v)) := by intro _; rfl) : PT X (.Compare a [op, op'] [b, c] pos) (tT (tChain r r' ta tb tc)) := ft_val h he
end
/-! ### promises by the number of arguments -/
def s0 (P : Hp → VK → XK → Prop) : Sp := fun vs H Q E => match vs with
  | [] => P H Q E
  | _ => False
def s1 (P : V → Hp → VK → XK → Prop) : Sp := fun vs H Q E => match vs with
  | [a] => P a H Q E
  | _ => False
def s2 (P : V → V → Hp → VK → XK → Prop) : Sp := fun vs H Q E => match vs with
  | [a, b] => P a b H Q E
  | _ => False
def s3 (P : V → V → V → Hp → VK → XK → Prop) : Sp := fun vs H Q E => match vs with
  | [a, b, c] => P a b c H Q E
  | _ => False
theorem s0_len {P} {vs : List V} {H : Hp} {Q : VK} {E : XK} (h : s0 P vs H Q E) : vs = [] ∧ P H Q E := by
  unfold s0 at h; split at h
  · exact ⟨rfl, h⟩
  · exact h.elim
theorem s1_len {P} {vs : List V} {H : Hp} {Q : VK} {E : XK} (h : s1 P vs H Q E) : ∃ a, vs = [a] ∧ P a H Q E := by
  unfold s1 at h; split at h
  · exact ⟨_, rfl, h⟩
  · exact h.elim
theorem s2_len {P} {vs : List V} {H : Hp} {Q : VK} {E : XK} (h : s2 P vs H Q E) : ∃ a b, vs = [a, b] ∧ P a b H Q E := by
  unfold s2 at h; split at h
  · exact ⟨_, _, rfl, h⟩
  · exact h.elim
theorem s3_len {P} {vs : List V} {H : Hp} {Q : VK} {E : XK} (h : s3 P vs H Q E) : ∃ a b c, vs = [a, b, c] ∧ P a b c H Q E := by
  unfold s3 at h; split at h
  · exact ⟨_, _, _, rfl, h⟩
  · exact h.elim
/-! ### a def of the module, as its callers see it -/
structure FunAt (K : PySem.W.Frag) (mg : Str → Option Value) (x : Str) (st : Stmt) : Prop where
  ex : ∃ f fd, Fun K x x st f fd ∧ mg x = some (.ref f)
structure Callee (P : Program) (w : World) (K : PySem.W.Frag) (mg : Str → Option Value) (base : Heap) (k : Nat) (x : Str) (ps : List Str) (sp : Sp) : Prop where
  ex : ∃ f fd, FnOk P w K mg base (L2.CX P w) k f fd ps sp ∧ mg x = some (.ref f) ∧ PySem.W.keepIn K (.ref f) = true ∧ Binds K fd ps []
section
variable {X : Cx} {W : WX} {j k : Nat} {x : Str} {ps : List Str} {sp : Sp} {p pos : Pos} {e : Expr} {es : List Expr} {t : TA}
theorem fc_call (c : Callee X.prog X.w X.K X.mg X.base k x ps sp) (hr : Room j X.A) (hk : k ≤ j) (hg : Gl X x) (tk : Takes X W) (ha : PA X (e :: es) t) (hdb : (x == ("__debug__" : Str)) = false := by decide) (he : starEach (e :: es) X.env = (false, eval e X.env) :: starEach es X.env := by rfl)
    (hpl : (backTo pos (starEach es X.env)).any (·.1) = false := by rfl) : PE X (.Call (.Name x p) (e :: es) [] pos) (tCallS sp (WE W) t) := by
  obtain ⟨f, fd, F, hm, hkp, hb⟩ := c.ex
  exact pe_callS F (hr.mono hk) hg hm hkp hb (fun σ => passAt tk σ) ha hdb he hpl
theorem fc_call0 (c : Callee X.prog X.w X.K X.mg X.base k x ps sp) (hr : Room j X.A) (hk : k ≤ j) (hg : Gl X x) (tk : Takes X W) (hdb : (x == ("__debug__" : Str)) = false := by decide) :
    PE X (.Call (.Name x p) [] [] pos) (fun σ H Q => sp [] H Q (WE W σ)) := by
  obtain ⟨f, fd, F, hm, hkp, hb⟩ := c.ex
  refine ⟨fun pins s σ H Q I h => ?_⟩
  refine wpAny_Call_Name_kw (ld_glob I hg hm ?_ hdb)
  exact PySem.W.callWith_K0 I.kIn hkp (run_fnS (us := []) F (hr.mono hk) hb (passAt tk σ) I .nil h)
end
section
variable {P : Program} {w : World} {K : PySem.W.Frag} {mg : Str → Option Value} {base : Heap}
/-- the rule of a def: its body as a term, its reading -/
theorem callee_of {x : Str} {st : Stmt} {N ps : List Str} {k : Nat} {sp : Sp} (F : FunAt K mg x st) (S : FnScope N ps (defScope st))
    (hb : ∀ (kV doc pm : Value) (an : Option Addr) (cdv ct : Value) (us : List Value), us.length = ps.length → bindArgs (PySem.W.fnOf x x (defArgs st) (defBody st) (defScope st) .none kV doc pm an cdv ct) ⟨us, []⟩ = pure (ps.zip us))
    (len : ∀ vs H Q E, sp vs H Q E → vs.length = ps.length)
    (hbody : ∀ (f : Addr) (cdv : Value) (A : Around) (outer : List Env) (s : Shared) (H : Hp) (vs : List V) (Q : VK) (E : XK), Room k (cxOf (L2.CX P w) P w K mg base N x (defScope st) f cdv A outer s H E).A →
      Takes (cxOf (L2.CX P w) P w K mg base N x (defScope st) f cdv A outer s H E) (fun cls d _ H => E cls d H) →
      PassesOwn (model P w) (cxOf (L2.CX P w) P w K mg base N x (defScope st) f cdv A outer s H E).A (cxOf (L2.CX P w) P w K mg base N x (defScope st) f cdv A outer s H E).env (cxOf (L2.CX P w) P w K mg base N x (defScope st) f cdv A outer s H E).xe → sp vs H Q E →
      ∃ t, PSs (cxOf (L2.CX P w) P w K mg base N x (defScope st) f cdv A outer s H E) (defBody st) t ∧ t { nx := fun _ H' => Q .non H', rt := Q } (start N vs) H) :
    Callee P w K mg base (k + 1) x ps sp := by
  obtain ⟨f, fd, F, hm⟩ := F.ex
  exact ⟨f, fd, F.okX S len fun cdv A outer s H vs Q E hr h => hbody f cdv A outer s H vs Q E hr (takes_of rfl rfl rfl rfl) (passes_of rfl) h, hm, F.kp, F.binds hb⟩
end
/-! ### calls of built-ins, subscripts, by what the values are -/
/-- the thing at a is of a type that T is none of -/
def RefTy (K : PySem.W.Frag) (H : Hp) (a : Addr) (c : Value) (b : Bool) : Prop := ∃ t, TyX K H (.ref a) t ∧ PySem.W.kitOne K t c = some b
def fIsTy (K : PySem.W.Frag) (n : String) : List V → Hp → VK → Prop := fun xs H Q => match xs with
  | [x, .ty m] => n = m ∧ match x with
    | .non => Q (.bl false) H
    | .bl _ => Q (.bl (n == "int" || n == "bool")) H
    | .int _ => Q (.bl (n == "int")) H
    | .str _ => Q (.bl (n == "str")) H
    | .ref a => ∃ b, RefTy K H a (.type n) b ∧ Q (.bl b) H
    | _ => False
  | _ => False
section
variable {X : Cx}
theorem kit_int1 {K : PySem.W.Frag} {n : String} (h : n = "int" ∨ n = "str" ∨ n = "tuple" ∨ n = "bool" ∨ n = "list" ∨ n = "dict") :
    PySem.W.kitOne K (.type "NoneType") (.type n) = some false ∧ PySem.W.kitOne K (.type "bool") (.type n) = some (n == "int" || n == "bool") ∧ PySem.W.kitOne K (.type "int") (.type n) = some (n == "int") ∧ PySem.W.kitOne K (.type "str") (.type n) = some (n == "str") := by
  rcases h with rfl | rfl | rfl | rfl | rfl | rfl <;> exact ⟨kit_ty (by decide +kernel), kit_ty (by decide +kernel), kit_ty (by decide +kernel), kit_ty (by decide +kernel)⟩
theorem f_isTy {n : String} (h : n = "int" ∨ n = "str" ∨ n = "tuple" ∨ n = "bool" ∨ n = "list" ∨ n = "dict") : CallR X (.builtin "isinstance") (fIsTy X.K n) := call_imp call_isi fun xs H Q q => by
  obtain ⟨k1, k2, k3, k4⟩ := kit_int1 (K := X.K) h
  unfold fIsTy at q
  split at q
  · rename_i x m
    obtain ⟨rfl, q⟩ := q
    cases x with
    | non => exact ⟨_, _, _, _, _, rfl, .ty _, .base .non, k1, q⟩
    | bl b => exact ⟨_, _, _, _, _, rfl, .ty _, .base (.bl _), k2, q⟩
    | int b => exact ⟨_, _, _, _, _, rfl, .ty _, .base (.int _), k3, q⟩
    | str b => exact ⟨_, _, _, _, _, rfl, .ty _, .base (.str _), k4, q⟩
    | ref a =>
      obtain ⟨b, ⟨t, ty, kt⟩, q⟩ := q
      exact ⟨_, _, _, _, _, rfl, .ty _, ty, kt, q⟩
    | byt _ => exact q.elim
    | flt _ => exact q.elim
    | ty _ => exact q.elim
  · exact q.elim
theorem f_isint : CallR X (.builtin "isinstance") (fIsTy X.K "int") := f_isTy (.inl rfl)
theorem f_isstr : CallR X (.builtin "isinstance") (fIsTy X.K "str") := f_isTy (.inr (.inl rfl))
theorem f_istup : CallR X (.builtin "isinstance") (fIsTy X.K "tuple") := f_isTy (.inr (.inr (.inl rfl)))
/-- a list or a tuple that is read -/
def Sq (K : PySem.W.Frag) (H : Hp) (a : Addr) (xs : List V) : Prop := SqL K H a xs ∨ SqT K H a xs
def fLen (K : PySem.W.Frag) : List V → Hp → VK → Prop := fun xs H Q => match xs with
  | [.str z] => z.length ≤ sizeLine ∧ Q (.int z.length) H
  | [.ref a] => ∃ ys, Sq K H a ys ∧ Q (.int ys.length) H
  | _ => False
theorem f_len : CallR X (.builtin "len") (fLen X.K) := fun pins s σ H xs us Q I r q => by
  unfold fLen at q
  split at q
  · exact call_len pins s σ H _ us Q I r ⟨_, _, rfl, ⟨q.1, rfl⟩, q.2⟩
  · obtain ⟨ys, h, q⟩ := q
    rcases h with h | h
    · exact call_len pins s σ H _ us Q I r ⟨_, _, rfl, .inl ⟨_, h, rfl⟩, q⟩
    · exact call_len pins s σ H _ us Q I r ⟨_, _, rfl, .inr ⟨_, h, rfl⟩, q⟩
  · exact q.elim
def fIx (K : PySem.W.Frag) : R2 := fun x y H Q => match x, y with
  | .str z, .int i => z.length ≤ sizeLine ∧ ∃ c, atI z.cps.toList i = some c ∧ Q (.str ⟨#[c]⟩) H
  | .ref a, .int i => ∃ ys v, Sq K H a ys ∧ atI ys i = some v ∧ Q v H
  | _, _ => False
theorem f_ix : IxR X (fIx X.K) := fun value slice pins s σ H x y v u Q I rx ry q hs => by
  unfold fIx at q
  split at q
  · obtain ⟨h, c, hc, q⟩ := q
    exact ix_str value slice pins s σ H _ _ v u Q I rx ry ⟨_, _, _, rfl, rfl, h, hc, q⟩ hs
  · obtain ⟨ys, z, h, hz, q⟩ := q
    rcases h with h | h
    · exact ix_list value slice pins s σ H _ _ v u Q I rx ry ⟨_, _, _, _, rfl, rfl, h, hz, q⟩ hs
    · exact ix_tup value slice pins s σ H _ _ v u Q I rx ry ⟨_, _, _, _, rfl, rfl, h, hz, q⟩ hs
  · exact q.elim
def fInt : List V → Hp → VK → Prop := fun xs H Q => match xs with
  | [.int i] => Q (.int i) H
  | [.bl k] => Q (.int (if k then 1 else 0)) H
  | _ => False
theorem f_int : CallR X (.type "int") fInt := call_imp call_int1 fun xs H Q q => by
  unfold fInt at q
  split at q
  · exact .inl ⟨_, rfl, q⟩
  · exact .inr ⟨_, rfl, q⟩
  · exact q.elim
def fAbs : List V → Hp → VK → Prop := fun xs H Q => match xs with
  | [.int i] => Q (.int ((i.natAbs : Nat) : Int)) H
  | _ => False
theorem f_abs : CallR X (.builtin "abs") fAbs := call_imp call_abs fun xs H Q q => by
  unfold fAbs at q
  split at q
  · rename_i i
    refine ⟨i, rfl, ?_⟩
    rw [show (if i < 0 then -i else i) = ((i.natAbs : Nat) : Int) by split <;> omega]
    exact q
  · exact q.elim
def fMax : List V → Hp → VK → Prop := fun xs H Q => match xs with
  | [.int i, .int j] => Q (.int (max i j)) H
  | _ => False
theorem f_max (hc : X.calm = true) : CallR X (.builtin "max") fMax := call_imp (call_max2 hc) fun xs H Q q => by
  unfold fMax at q
  split at q
  · rename_i i j
    refine ⟨i, j, rfl, ?_⟩
    rw [show (if j > i then j else i) = max i j by split <;> omega]
    exact q
  · exact q.elim
def fMin : List V → Hp → VK → Prop := fun xs H Q => match xs with
  | [.int i, .int j] => Q (.int (min i j)) H
  | _ => False
theorem f_min (hc : X.calm = true) : CallR X (.builtin "min") fMin := call_imp (call_min2 hc) fun xs H Q q => by
  unfold fMin at q
  split at q
  · rename_i i j
    refine ⟨i, j, rfl, ?_⟩
    rw [show (if j < i then j else i) = min i j by split <;> omega]
    exact q
  · exact q.elim
/-- xs[i] = v of a list -/
def fSetL : TSet := fun o i v H Q => match o, i with
  | .ref a, .int i => ∃ xs j, H a = some (.lst xs) ∧ ixN xs.length i = some j ∧ Q (upd H a (.lst (xs.set j v)))
  | _, _ => False
theorem f_setL : PSet X fSetL := fun pins s σ H o i v ov iv u Q I ro ri rv q => by
  unfold fSetL at q
  split at q
  · obtain ⟨xs, j, h, hj, q⟩ := q
    exact set_list pins s σ H _ _ v ov iv u Q I ro ri rv ⟨_, _, _, _, rfl, rfl, h, hj, q⟩
  · exact q.elim
end

/-! ### new objects -/
/-- a new object o, called p in the heap H': all that was stands as it was -/
def Fresh (H : Hp) (o : HO) (Q : VK) : Prop := ∀ p H', H p = none → Same H H' → H' p = some o → Q (.ref p) H'
theorem Fresh.go {H : Hp} {o : HO} {Q : VK} (h : Fresh H o Q) : ∀ p, H p = none → Q (.ref p) (upd H p o) :=
  fun p np => h p _ np (fun b u e => by rw [upd_ne (ne_of_none e np)]; exact e) upd_same
theorem Same.new {H : Hp} {p : Addr} {o : HO} (np : H p = none) : Same H (upd H p o) := fun b u e => by rw [upd_ne (ne_of_none e np)]; exact e
section
variable {X : Cx} {es : List Expr} {t : TA} {pos : Pos}
def tTupF (t : TA) : TE := fun σ H Q => t σ H fun xs H1 => xs.length ≤ sizeLine ∧ Fresh H1 (.tup xs) Q
def tLstF (t : TA) : TE := fun σ H Q => t σ H fun xs H1 => xs.length ≤ sizeLine ∧ Fresh H1 (.lst xs) Q
/-- what is wanted may be handed on weaker -/
def upA (t : TA) : TA := fun σ H Q => ∃ R, t σ H R ∧ ∀ vs H', R vs H' → Q vs H'
def upE (t : TE) : TE := fun σ H Q => ∃ R, t σ H R ∧ ∀ v H', R v H' → Q v H'
theorem pa_up {es : List Expr} {t : TA} (h : PA X es t) : PA X es (upA t) := ⟨fun pos pins s σ H Q I ⟨R, q, w⟩ => thn (h.run pos pins s σ H R I q) fun us s1 ⟨vs, H1, I1, r, q1⟩ => ⟨vs, H1, I1, r, w _ _ q1⟩⟩
theorem pe_up {e : Expr} {t : TE} (h : PE X e t) : PE X e (upE t) := ⟨fun pins s σ H Q I ⟨R, q, w⟩ => thn (h.run pins s σ H R I q) fun u s1 ⟨v, H1, I1, r, q1⟩ => ⟨v, H1, I1, r, w _ _ q1⟩⟩
theorem fe_tup {x1} (h : PA X es t) : PE X (.Tuple es x1 pos) (tTupF t) := pe_imp (pe_tup (pa_up h)) fun σ H Q q => ⟨_, q, fun xs H1 r => ⟨r.1, r.2.go⟩⟩
theorem fe_lst (h : PA X es t) : PE X (.List es pos) (tLstF t) := pe_imp (pe_lst (pa_up h)) fun σ H Q q => ⟨_, q, fun xs H1 r => ⟨r.1, r.2.go⟩⟩
def fCat : R2 := fun x y H Q => match x, y with
  | .ref a, .ref b => ∃ xs ys, H a = some (.lst xs) ∧ H b = some (.lst ys) ∧ xs.length + ys.length ≤ sizeLine ∧ Fresh H (.lst (xs ++ ys)) Q
  | _, _ => False
theorem f_cat : OpR X (binaryOp .Add) fCat := op_imp op_cat fun x y H Q q => by
  unfold fCat at q
  split at q
  · obtain ⟨xs, ys, h1, h2, h3, q⟩ := q
    exact ⟨_, _, _, _, rfl, rfl, h1, h2, h3, q.go⟩
  · exact q.elim
def fRep : R2 := fun x y H Q => match x, y with
  | .ref a, .int k => ∃ xs, H a = some (.lst xs) ∧ k < 2 ^ 63 ∧ -(2 ^ 63) ≤ k ∧ xs.length * k.toNat ≤ sizeLine ∧ Fresh H (.lst (List.replicate k.toNat xs).flatten) Q
  | _, _ => False
theorem f_rep : OpR X (binaryOp .Mult) fRep := op_imp op_rep fun x y H Q q => by
  unfold fRep at q
  split at q
  · obtain ⟨xs, h1, h2, h3, h4, q⟩ := q
    exact ⟨_, _, _, rfl, rfl, h1, h3, h2, h4, q.go⟩
  · exact q.elim
def fList (K : PySem.W.Frag) : List V → Hp → VK → Prop := fun xs H Q => match xs with
  | [.ref a] => ∃ ys, Sq K H a ys ∧ Fresh H (.lst ys) Q
  | _ => False
theorem f_list : CallR X (.type "list") (fList X.K) := call_imp call_list_of fun xs H Q q => by
  unfold fList at q
  split at q
  · obtain ⟨ys, h, q⟩ := q
    exact ⟨_, _, rfl, h, q.go⟩
  · exact q.elim
/-- tuple(a list) -/
def fTuple (K : PySem.W.Frag) : List V → Hp → VK → Prop := fun xs H Q => match xs with
  | [.ref a] => ∃ ys, SqL K H a ys ∧ Fresh H (.tup ys) Q
  | _ => False
theorem f_tuple : CallR X (.type "tuple") (fTuple X.K) := call_imp call_tuple_of fun xs H Q q => by
  unfold fTuple at q
  split at q
  · obtain ⟨ys, h, q⟩ := q
    exact ⟨_, _, rfl, .inl ⟨h, q.go⟩⟩
  · exact q.elim
theorem sl_imp {r r' : V → Option Int → Option Int → Hp → VK → Prop} (h : SlR X r) (w : ∀ x l u H Q, r' x l u H Q → r x l u H Q) : SlR X r' := fun pins s σ H x v vl vu lo hi sl Q I rx hs pl pu q => h pins s σ H x v vl vu lo hi sl Q I rx hs pl pu (w _ _ _ _ _ q)
def fSlL (K : PySem.W.Frag) : V → Option Int → Option Int → Hp → VK → Prop := fun x lo hi H Q => match x with
  | .ref a => ∃ xs, SqL K H a xs ∧ Fresh H (.lst (cutV xs lo hi)) Q
  | _ => False
theorem f_slL : SlR X (fSlL X.K) := sl_imp sl_list fun x l u H Q q => by
  unfold fSlL at q
  split at q
  · obtain ⟨xs, h, q⟩ := q
    exact ⟨_, _, rfl, h, q.go⟩
  · exact q.elim
def fSlS : V → Option Int → Option Int → Hp → VK → Prop := fun x lo hi H Q => match x with
  | .str z => z.length ≤ sizeLine ∧ Q (.str (cutS z lo hi)) H
  | _ => False
theorem f_slS : SlR X fSlS := sl_imp sl_str fun x l u H Q q => by
  unfold fSlS at q
  split at q
  · exact ⟨_, rfl, q.1, q.2⟩
  · exact q.elim
/-- d[k], d a dict that is known, k a text -/
def fDGet (td ty : TE) : TE := fun σ H Q => td σ H fun x H1 => ty σ H1 fun y H2 => match x, y with
  | .ref a, .str k => ∃ kvs v, H2 a = some (.dK kvs) ∧ valV kvs (Sum.inr k : Key) = some v ∧ Q v H2
  | .ref a, .int k => ∃ kvs v, H2 a = some (.dK kvs) ∧ valV kvs (Sum.inl k : Key) = some v ∧ Q v H2
  | _, _ => False
variable {o i : Expr} {td ty tv : TE} {te : TE}
theorem fe_dget (hu : X.A.units + 1 < cLine) (ho : PE X o td) (hi : PE X i ty) (hs : NoSl i) : PE X (.Subscript o i pos) (fDGet td ty) := pe_imp (pe_dget hu (pe_up ho) (pe_up hi) hs) fun σ H Q q => ⟨_, q, fun x H1 q1 => ⟨_, q1, fun y H2 q2 => by
    split at q2
    · obtain ⟨kvs, v, h, hv, q⟩ := q2
      exact ⟨_, _, rfl, hv ▸ DGet.k (k := Sum.inr _) h, q⟩
    · obtain ⟨kvs, v, h, hv, q⟩ := q2
      exact ⟨_, _, rfl, hv ▸ DGet.k (k := Sum.inl _) h, q⟩
    · exact q2.elim⟩⟩
/-- {x}, a text or an int -/
def tFmtF (te : TE) : TE := fun σ H Q => te σ H fun x H1 => match x with
  | .str y => y.length ≤ sizeLine ∧ Q (.str y) H1
  | .int i => i.natAbs.log2 < 1920 ∧ Q (.str (toString i)) H1
  | _ => False
theorem fe_fmt {e : Expr} (he : PE X e te) : PE X (.FormattedValue e (-1) none pos) (tFmtF te) := pe_imp (pe_fmt (pe_up he)) fun σ H Q q => ⟨_, q, fun x H1 q1 => by
    split at q1
    · exact .inl ⟨_, rfl, q1.1, q1.2⟩
    · exact .inr ⟨_, rfl, q1.1, q1.2⟩
    · exact q1.elim⟩
def fStr : List V → Hp → VK → Prop := fun xs H Q => match xs with
  | [.int i] => i.natAbs.log2 < 1920 ∧ Q (.str (toString i)) H
  | _ => False
theorem f_str : CallR X (.type "str") fStr := call_imp call_str_int fun xs H Q q => by
  unfold fStr at q
  split at q
  · exact ⟨_, rfl, q.1, q.2⟩
  · exact q.elim
end

/-! ### loops, turn by turn over what is walked -/
def Loop (st : Hp → Prop) (g : TG) (tb : TS) (D : Ends) : List V → L2.St → Hp → Prop
  | [] => fun σ H => D.nx σ H
  | x :: r => fun σ H => g x σ H fun σ2 H2 => tb { D with nx := fun σ' H' => st H' ∧ Loop st g tb D r σ' H', ct := fun σ' H' => st H' ∧ Loop st g tb D r σ' H', bk := D.nx } σ2 H2
theorem loop_it {J : It} {xs : List V} {st : Hp → Prop} {g : TG} {tb : TS} {D : Ends} {σ : L2.St} {H : Hp} (hgo : ∀ i H, i < xs.length → st H → J.go i H) (hyl : ∀ i H x H', st H → J.yld i H x H' → H' = H ∧ (i < xs.length → xs[i]? = some x))
    (hst : ∀ H, st H → J.stop xs.length H) (h0 : st H) (h : Loop st g tb D xs σ H) : ∃ W : Nat → Nat → L2.St → Hp → Prop, (∃ m, W 0 m σ H) ∧ ∀ i m σ H, W i m σ H →
      (J.stop i H ∧ D.nx σ H) ∨ (J.go i H ∧ ∃ N : L2.St → Hp → Prop, (∀ σ' H', N σ' H' → ∃ m', m' < m ∧ W (i + 1) m' σ' H') ∧ ∀ x H', J.yld i H x H' → g x σ H' fun σ2 H2 => tb { D with nx := N, ct := N, bk := D.nx } σ2 H2) := by
  refine ⟨fun i m σ H => m + i = xs.length ∧ st H ∧ Loop st g tb D (xs.drop i) σ H, ⟨xs.length, rfl, h0, h⟩, ?_⟩
  rintro i m σ H ⟨hm, hs, hl⟩
  by_cases hi : i < xs.length
  · right
    rw [List.drop_eq_getElem_cons hi] at hl
    refine ⟨hgo i H hi hs, fun σ' H' => st H' ∧ Loop st g tb D (xs.drop (i + 1)) σ' H', fun σ' H' ⟨a, b⟩ => ⟨m - 1, by omega, by omega, a, b⟩, fun x H' y => ?_⟩
    obtain ⟨rfl, hx⟩ := hyl i H x H' hs y
    have e : x = xs[i] := by
      have z := hx hi
      rw [List.getElem?_eq_getElem hi] at z
      exact (Option.some.inj z).symm
    subst e
    exact hl
  · left
    have e : i = xs.length := by omega
    subst e
    rw [List.drop_length] at hl
    exact ⟨hst H hs, hl⟩
/-- the same, each turn over a new pair -/
def LoopZ (st : Hp → Prop) (g : TG) (tb : TS) (D : Ends) : List (V × V) → L2.St → Hp → Prop
  | [] => fun σ H => D.nx σ H
  | p :: r => fun σ H => ∀ T H', H T = none → Same H H' → H' T = some (.tup [p.1, p.2]) → g (.ref T) σ H' fun σ2 H2 => tb { D with nx := fun σ' H' => st H' ∧ LoopZ st g tb D r σ' H', ct := fun σ' H' => st H' ∧ LoopZ st g tb D r σ' H', bk := D.nx } σ2 H2
theorem loopZ_it {J : It} {xs : List (V × V)} {st : Hp → Prop} {g : TG} {tb : TS} {D : Ends} {σ : L2.St} {H : Hp} (hgo : ∀ i H, i < xs.length → st H → J.go i H)
    (hyl : ∀ i H x H', st H → J.yld i H x H' → ∃ T, x = .ref T ∧ H T = none ∧ ∀ p, xs[i]? = some p → H' = upd H T (.tup [p.1, p.2]))
    (hst : ∀ H, st H → J.stop xs.length H) (h0 : st H) (h : LoopZ st g tb D xs σ H) : ∃ W : Nat → Nat → L2.St → Hp → Prop, (∃ m, W 0 m σ H) ∧ ∀ i m σ H, W i m σ H →
      (J.stop i H ∧ D.nx σ H) ∨ (J.go i H ∧ ∃ N : L2.St → Hp → Prop, (∀ σ' H', N σ' H' → ∃ m', m' < m ∧ W (i + 1) m' σ' H') ∧ ∀ x H', J.yld i H x H' → g x σ H' fun σ2 H2 => tb { D with nx := N, ct := N, bk := D.nx } σ2 H2) := by
  refine ⟨fun i m σ H => m + i = xs.length ∧ st H ∧ LoopZ st g tb D (xs.drop i) σ H, ⟨xs.length, rfl, h0, h⟩, ?_⟩
  rintro i m σ H ⟨hm, hs, hl⟩
  by_cases hi : i < xs.length
  · right
    rw [List.drop_eq_getElem_cons hi] at hl
    refine ⟨hgo i H hi hs, fun σ' H' => st H' ∧ LoopZ st g tb D (xs.drop (i + 1)) σ' H', fun σ' H' ⟨a, b⟩ => ⟨m - 1, by omega, by omega, a, b⟩, fun x H' y => ?_⟩
    obtain ⟨T, rfl, nT, z⟩ := hyl i H x H' hs y
    have e := z _ (List.getElem?_eq_getElem hi)
    subst e
    exact hl T _ nT (Same.new nT) upd_same
  · left
    have e : i = xs.length := by omega
    subst e
    rw [List.drop_length] at hl
    exact ⟨hst H hs, hl⟩
/-- an invariant of a loop over a row -/
theorem Loop.by {st : Hp → Prop} {g : TG} {tb : TS} {D : Ends} (Pv : List V → L2.St → Hp → Prop)
    (hs : ∀ x r σ H, Pv (x :: r) σ H → ∀ N : L2.St → Hp → Prop, (∀ σ' H', st H' → Pv r σ' H' → N σ' H') → g x σ H fun σ2 H2 => tb { D with nx := N, ct := N, bk := D.nx } σ2 H2)
    (hd : ∀ σ H, Pv [] σ H → D.nx σ H) : ∀ (xs : List V) (σ : L2.St) (H : Hp), Pv xs σ H → Loop st g tb D xs σ H
  | [], σ, H, h => hd σ H h
  | x :: r, σ, H, h => hs x r σ H h _ fun σ' H' a b => ⟨a, Loop.by Pv hs hd r σ' H' b⟩
theorem ps_imp {X : Cx} {st : Stmt} {t t' : TS} (h : PS X st t) (w : ∀ D σ H, t' D σ H → t D σ H) : PS X st t' := ⟨fun pins s σ H D I q => h.run pins s σ H D I (w D σ H q)⟩
section
variable {X : Cx} {tg e : Expr} {body : List Stmt} {tl : TE} {g : TG} {tb : TS} {pos : Pos} {ta : TA}
/-- lo, lo + 1, .. -/
def rgI (lo : Int) (n : Nat) : List V := (List.range n).map fun (i : Nat) => V.int (lo + i)
theorem rgI_get {lo : Int} {n i : Nat} (h : i < n) : (rgI lo n)[i]? = some (.int (lo + i)) := by
  unfold rgI
  rw [List.getElem?_map, List.getElem?_range h]
  rfl
theorem rgI_len (lo : Int) (n : Nat) : (rgI lo n).length = n := by simp [rgI]
def rgC (lo c : Int) (n : Nat) : List V := (List.range n).map fun (i : Nat) => V.int (lo + i * c)
theorem rgC_len (lo c : Int) (n : Nat) : (rgC lo c n).length = n := by simp [rgC]
/-- the signs of a text -/
def signs (z : Str) : List V := z.cps.toList.map fun c => V.str ⟨#[c]⟩
/-- what an iterator yields while st stands -/
structure JOk (J : It) (xs : List V) (st : Hp → Prop) : Prop where
  go : ∀ i H, i < xs.length → st H → J.go i H
  yl : ∀ i H x H', st H → J.yld i H x H' → H' = H ∧ (i < xs.length → xs[i]? = some x)
  stp : ∀ H, st H → J.stop xs.length H
abbrev TW := L2.St → Hp → (List V → (Hp → Prop) → Hp → Prop) → Prop
def wiOf (w : TW) : TI := fun σ H R => w σ H fun xs st H1 => st H1 ∧ ∀ J, JOk J xs st → R J H1
theorem pi_imp {w w' : TI} (h : PI X tg e w) (k : ∀ σ H R, w' σ H R → w σ H R) : PI X tg e w' := ⟨fun pins s σ H R I q => h.run pins s σ H R I (k σ H R q)⟩
def wL (K : PySem.W.Frag) (tl : TE) : TW := fun σ H R => tl σ H fun x H1 => match x with
  | .ref a => ∃ xs, SqL K H1 a xs ∧ R xs (fun H => SqL K H a xs) H1
  | _ => False
def wT (K : PySem.W.Frag) (tl : TE) : TW := fun σ H R => tl σ H fun x H1 => match x with
  | .ref a => ∃ xs, SqT K H1 a xs ∧ R xs (fun H => SqT K H a xs) H1
  | _ => False
def wS (tl : TE) : TW := fun σ H R => tl σ H fun x H1 => match x with
  | .str z => R (signs z) (fun _ => True) H1
  | _ => False
def wR1 (ta : TA) : TW := fun σ H R => ta σ H fun vs H1 => match vs with
  | [.int j] => (j < 2 ^ 62 ∧ -(2 ^ 62) ≤ j) ∧ R (rgI 0 j.toNat) (fun _ => True) H1
  | _ => False
def wR2 (ta : TA) : TW := fun σ H R => ta σ H fun vs H1 => match vs with
  | [.int i, .int j] => (-(2 ^ 62) ≤ i ∧ i < 2 ^ 62 ∧ -(2 ^ 62) ≤ j ∧ j < 2 ^ 62) ∧ R (rgI i (j - i).toNat) (fun _ => True) H1
  | _ => False
def wR3 (ta : TA) : TW := fun σ H R => ta σ H fun vs H1 => match vs with
  | [.int i, .int j, .int k] => ∃ n, RgC i j k n ∧ R (rgC i k n) (fun _ => True) H1
  | _ => False
theorem jok_L {K : PySem.W.Frag} {a : Addr} {xs : List V} : JOk (Itl K a) xs (fun H => SqL K H a xs) := ⟨fun i H hi h => ⟨xs, xs[i], h, List.getElem?_eq_getElem hi⟩, fun i H x H' h y => ⟨y.1, fun _ => y.2 _ h⟩, fun H h => ⟨xs, h, Nat.le_refl _⟩⟩
theorem jok_T {K : PySem.W.Frag} {a : Addr} {xs : List V} : JOk (Itt K a) xs (fun H => SqT K H a xs) := ⟨fun i H hi h => ⟨xs, xs[i], h, List.getElem?_eq_getElem hi⟩, fun i H x H' h y => ⟨y.1, fun _ => y.2 _ h⟩, fun H h => ⟨xs, h, Nat.le_refl _⟩⟩
theorem jok_R {lo : Int} {n : Nat} : JOk (Itr lo n) (rgI lo n) (fun _ => True) := ⟨fun i H hi _ => by rw [rgI_len] at hi; exact hi, fun i H x H' _ y => ⟨y.1, fun hi => by rw [rgI_len] at hi; rw [rgI_get hi, y.2]⟩, fun H _ => by rw [rgI_len]; exact Nat.le_refl _⟩
theorem jok_C {lo c : Int} {n : Nat} : JOk (Itc lo c n) (rgC lo c n) (fun _ => True) := by
  refine ⟨fun i H hi _ => by rw [rgC_len] at hi; exact hi, fun i H x H' _ y => ⟨y.1, fun hi => ?_⟩, fun H _ => by rw [rgC_len]; exact Nat.le_refl _⟩
  rw [rgC_len] at hi
  unfold rgC
  rw [List.getElem?_map, List.getElem?_range hi, y.2]
  rfl
theorem jok_S {z : Str} : JOk (Its z) (signs z) (fun _ => True) := by
  have el : (signs z).length = z.cps.size := by simp [signs]
  refine ⟨fun i H hi _ => by rw [el] at hi; exact hi, fun i H x H' _ y => ⟨y.1, fun hi => ?_⟩, fun H _ => by rw [el]; exact Nat.le_refl _⟩
  obtain ⟨_, c, hc, rfl⟩ := y
  unfold signs
  rw [List.getElem?_map, Array.getElem?_toList, hc]
  rfl
/-- what a row of TW wants may be handed on weaker -/
def upW (w : TW) : TW := fun σ H R => ∃ R0, w σ H R0 ∧ ∀ xs st H', R0 xs st H' → R xs st H'
theorem fi_L (hi : PE X e tl) : PI X tg e (wiOf (upW (wL X.K tl))) := pi_imp (pi_list (pe_up hi)) fun σ H R ⟨R0, q0, k⟩ => ⟨_, q0, fun x H1 q1 => by
  split at q1
  · obtain ⟨xs, h, r⟩ := q1
    obtain ⟨h1, q⟩ := k _ _ _ r
    exact ⟨_, rfl, ⟨_, h⟩, q _ jok_L⟩
  · exact q1.elim⟩
theorem fi_T (hi : PE X e tl) : PI X tg e (wiOf (upW (wT X.K tl))) := pi_imp (pi_tup (pe_up hi)) fun σ H R ⟨R0, q0, k⟩ => ⟨_, q0, fun x H1 q1 => by
  split at q1
  · obtain ⟨xs, h, r⟩ := q1
    obtain ⟨h1, q⟩ := k _ _ _ r
    exact ⟨_, rfl, ⟨_, h⟩, q _ jok_T⟩
  · exact q1.elim⟩
theorem fi_S (hi : PE X e tl) : PI X tg e (wiOf (upW (wS tl))) := pi_imp (pi_str (pe_up hi)) fun σ H R ⟨R0, q0, k⟩ => ⟨_, q0, fun x H1 q1 => by
  split at q1
  · exact ⟨_, rfl, (k _ _ _ q1).2 _ jok_S⟩
  · exact q1.elim⟩
theorem fi_R1 {a : Expr} {p : Pos} (hgl : Gl X "range") (hm : X.mg "range" = none) (ha : PA X [a] ta) (hst : starEach [a] X.env = [(false, eval a X.env)] := by rfl) : PI X tg (.Call (.Name "range" p) [a] [] pos) (wiOf (upW (wR1 ta))) := pi_imp (pi_range1 hgl hm (pa_up ha) hst) fun σ H R ⟨R0, q0, k⟩ => ⟨_, q0, fun vs H1 q1 => by
  split at q1
  · exact ⟨_, rfl, q1.1.2, q1.1.1, (k _ _ _ q1.2).2 _ jok_R⟩
  · exact q1.elim⟩
theorem fi_R2 {a b : Expr} {p : Pos} (hgl : Gl X "range") (hm : X.mg "range" = none) (ha : PA X [a, b] ta) (hst : starEach [a, b] X.env = [(false, eval a X.env), (false, eval b X.env)] := by rfl) (hst2 : starEach [b] X.env = [(false, eval b X.env)] := by rfl) :
    PI X tg (.Call (.Name "range" p) [a, b] [] pos) (wiOf (upW (wR2 ta))) := pi_imp (pi_range2 hgl hm (pa_up ha) hst hst2) fun σ H R ⟨R0, q0, k⟩ => ⟨_, q0, fun vs H1 q1 => by
  split at q1
  · exact ⟨_, _, rfl, q1.1, (k _ _ _ q1.2).2 _ jok_R⟩
  · exact q1.elim⟩
theorem fi_R3 {a b c : Expr} {p : Pos} (hgl : Gl X "range") (hm : X.mg "range" = none) (ha : PA X [a, b, c] ta) (hst : starEach [a, b, c] X.env = (false, eval a X.env) :: starEach [b, c] X.env := by rfl) (hpl : (backTo pos (starEach [b, c] X.env)).any (·.1) = false := by rfl) :
    PI X tg (.Call (.Name "range" p) [a, b, c] [] pos) (wiOf (upW (wR3 ta))) := pi_imp (pi_range3 hgl hm (pa_up ha) hst hpl) fun σ H R ⟨R0, q0, k⟩ => ⟨_, q0, fun vs H1 q1 => by
  split at q1
  · obtain ⟨n, h, r⟩ := q1
    obtain ⟨h1, q⟩ := k _ _ _ r
    exact ⟨_, _, _, n, rfl, h, q _ jok_C⟩
  · exact q1.elim⟩
/-- for -/
def tForW (w : TW) (g : TG) (tb : TS) : TS := fun D σ H => w σ H fun xs st H1 => st H1 ∧ Loop st g tb D xs σ H1
theorem fs_for {w : TW} (hp : PassesOwn (model X.prog X.w) X.A X.env X.xe) (hc : X.calm = true) (h : PI X tg e (wiOf (upW w))) (hg : PG X tg g) (hb : PSs X body tb) (hs : ∀ x, foldedSetIterable e X.env x = pure x := by intro _; rfl) :
    PS X (.For tg e body [] pos) (tForW w g tb) := ps_imp (ps_for hp hc h hg hb hs) fun D σ H q => ⟨_, q, fun xs st H' ⟨h1, l⟩ => ⟨h1, fun J j => loop_it j.go j.yl j.stp h1 l⟩⟩
end
section
variable {X : Cx} {tg e : Expr} {body : List Stmt} {tl : TE} {g : TG} {tb : TS} {pos : Pos} {ta : TA}
/-- zip of two tuples, of two lists -/
theorem fs_forZ {e e2 : Expr} {p tpos : Pos} {elts : List Expr} {kk : Nat} (hp : PassesOwn (model X.prog X.w) X.A X.env X.xe) (hc : X.calm = true) (hgl : Gl X "zip") (hm : X.mg "zip" = none) (ha : PA X [e, e2] ta) (hg : PG X (.Tuple elts kk tpos) g) (hb : PSs X body tb)
    (hst : starEach [e, e2] X.env = (false, eval e X.env) :: starEach [e2] X.env := by rfl) (hpl : (backTo pos (starEach [e2] X.env)).any (·.1) = false := by rfl) (hs : ∀ x, foldedSetIterable (.Call (.Name "zip" p) [e, e2] [] pos) X.env x = pure x := by intro _; rfl) {pos' : Pos} :
    PS X (.For (.Tuple elts kk tpos) (.Call (.Name "zip" p) [e, e2] [] pos) body [] pos') (fun D σ H => ta σ H fun vs H1 => match vs with
      | [.ref a, .ref b] => ∃ xs ys, (SqT X.K H1 a xs ∧ SqT X.K H1 b ys) ∧ xs.length = ys.length ∧ LoopZ (fun H => SqT X.K H a xs ∧ SqT X.K H b ys) g tb D (xs.zip ys) σ H1
      | _ => False) := ps_imp (ps_for hp hc (RZ.pi_zipA hgl hm (pa_up ha) hst hpl) hg hb hs) fun D σ H q => ⟨_, q, fun vs H1 q1 => by
  split at q1
  · rename_i a b
    obtain ⟨xs, ys, hxy, hl, q⟩ := q1
    have hz : (xs.zip ys).length = xs.length := by rw [List.length_zip, hl, Nat.min_self]
    refine ⟨a, b, xs, ys, rfl, .inr ⟨hxy.1, hxy.2, loopZ_it (J := RZ.ItzT X.K a b) (st := fun H => SqT X.K H a xs ∧ SqT X.K H b ys) (fun i H hi h => ?_) (fun i H x H' h y => ?_) (fun H h => ?_) hxy q⟩⟩
    · rw [hz] at hi
      exact ⟨xs, ys, xs[i], ys[i]'(hl ▸ hi), h.1, h.2, List.getElem?_eq_getElem hi, List.getElem?_eq_getElem (hl ▸ hi)⟩
    · obtain ⟨T, x1, x2, rfl, nT, rfl, f1, f2⟩ := y
      refine ⟨T, rfl, nT, fun p hp => ?_⟩
      rw [List.getElem?_zip_eq_some] at hp
      have e1 := (f1 _ h.1).symm.trans hp.1
      have e2 := (f2 _ h.2).symm.trans hp.2
      rw [Option.some.inj e1, Option.some.inj e2]
    · exact ⟨xs, ys, h.1, h.2, .inl (by rw [hz]; exact Nat.le_refl _)⟩
  · exact q1.elim⟩
end

/-! ### changes -/
/-- all but what stands at a is as it was -/
def But (a : Addr) (H H' : Hp) : Prop := ∀ b o, b ≠ a → H b = some o → H' b = some o
theorem But.upd {a : Addr} {H : Hp} {o : HO} : But a H (L2.upd H a o) := fun b u n e => by rw [upd_ne n]; exact e
theorem But.of {a : Addr} {H H' : Hp} (h : Same H H') : But a H H' := fun b o _ e => h b o e
theorem But.trans {a : Addr} {H H1 H2 : Hp} (x : But a H H1) (y : But a H1 H2) : But a H H2 := fun b o n e => y b o n (x b o n e)
/-- what is new to H0 may change -/
theorem Same.but {a : Addr} {H0 H H' : Hp} (s : Same H0 H) (n : H0 a = none) (b : But a H H') : Same H0 H' := fun c o e => b c o (ne_of_none e n) (s c o e)
theorem Same.get {H H' : Hp} {b : Addr} {o : HO} (s : Same H H') (e : H b = some o) : H' b = some o := s b o e
theorem But.get {a : Addr} {H H' : Hp} {b : Addr} {o u : HO} (s : But a H H') (e : H b = some o) (ha : H a = some u) (d : o ≠ u) : H' b = some o := s b o (ne_of e ha d) e
theorem SqT.same {K : PySem.W.Frag} {H H' : Hp} {a : Addr} {xs : List V} (e : Same H H') (h : SqT K H a xs) : SqT K H' a xs := by
  rcases h with (h | ⟨o, h⟩) | h
  · exact .inl (.inl (e _ _ h))
  · exact .inl (.inr ⟨o, e _ _ h⟩)
  · exact .inr h
theorem Sq.same {K : PySem.W.Frag} {H H' : Hp} {a : Addr} {xs : List V} (e : Same H H') (h : Sq K H a xs) : Sq K H' a xs := by
  rcases h with h | h
  · exact .inl (e.seq h)
  · exact .inr (SqT.same e h)
/-- the object at a becomes o -/
def Chg (H : Hp) (a : Addr) (o : HO) (Q : Hp → Prop) : Prop := ∀ H', But a H H' → H' a = some o → Q H'
theorem Chg.go {H : Hp} {a : Addr} {o : HO} {Q : Hp → Prop} (h : Chg H a o Q) : Q (upd H a o) := h _ But.upd upd_same
section
variable {X : Cx} {o e i : Expr} {to te ti : TE} {pos apos cpos pos' : Pos}
/-- xs.append(e) -/
def tApp (to te : TE) : TE := fun σ H Q => to σ H fun x H1 => match x with
  | .ref l => (∃ ys, H1 l = some (.lst ys)) ∧ te σ H1 fun y H2 => ∃ xs, H2 l = some (.lst xs) ∧ xs.length < sizeLine ∧ Chg H2 l (.lst (xs ++ [y])) (Q .non)
  | _ => False
theorem fe_append (ho : PE X o to) (he : PE X e te) (hbase : attributeBase o "append" X.env (eval o X.env) = eval o X.env := by rfl)
    (hfew : ((backTo cpos (starEach [e] X.env)).all (fun x => !x.1) && (backToKw cpos (keywordEach [] X.env)).all (fun x => x.1.isSome)
      && decide ([e].length + ([] : List Keyword).length + (if ([] : List Keyword).isEmpty then 0 else 1) < 30)) = true := by rfl)
    (hline : (apos.endLine == cpos.line) = true := by rfl) (hs : starEach [e] X.env = (false, eval e X.env) :: starEach [] X.env := by rfl) (hplain : (backTo cpos (starEach [] X.env)).any (·.1) = false := by rfl) :
    PE X (.Call (.Attribute o "append" apos) [e] [] cpos) (tApp to te) :=
  pe_imp (pe_bm PySem.F.plainAttrs_list PySem.F.slot_list_append PySem.F.type_list_append mt_append (pe_up ho) (pa_cons (pe_up he) pa_nil hs) hbase hfew hline hs hplain) fun σ H Q q => ⟨_, q, fun x H1 q1 => by
    split at q1
    · rename_i l
      obtain ⟨⟨ys, hy⟩, q1⟩ := q1
      refine ⟨.inl ⟨rfl, ys, .of hy⟩, ?_⟩
      exact ⟨_, q1, fun y H2 ⟨xs, h1, h2, q2⟩ => ⟨l, xs, y, rfl, rfl, h1, h2, q2.go⟩⟩
    · exact q1.elim⟩
/-- d[k] = e -/
def tDPut (td ty tv : TE) : TS := fun D σ H => tv σ H fun v H1 => td σ H1 fun x H2 => ty σ H2 fun y H3 => match x, y with
  | .ref a, .str k => ∃ kvs, H3 a = some (.dK kvs) ∧ kvs.length < sizeLine ∧ Chg H3 a (.dK (putK kvs (Sum.inr k : Key) v)) (D.nx σ)
  | .ref a, .int k => ∃ kvs, H3 a = some (.dK kvs) ∧ kvs.length < sizeLine ∧ Chg H3 a (.dK (putK kvs (Sum.inl k : Key) v)) (D.nx σ)
  | _, _ => False
theorem fs_dput {value : Expr} {td ty tv : TE} (hu : X.A.units + 1 < cLine) (ho : PE X o td) (hi : PE X i ty) (hv : PE X value tv) (hs : swapsWith value (some (.Subscript o i pos')) pos.line X.env = pure false := by rfl) :
    PS X (.Assign [.Subscript o i pos'] value pos) (tDPut td ty tv) := ps_imp (ps_dput hu (pe_up ho) (pe_up hi) (pe_up hv) hs) fun D σ H q => ⟨_, q, fun v H1 q1 => ⟨_, q1, fun x H2 q2 => ⟨_, q2, fun y H3 q3 => by
    split at q3
    · obtain ⟨kvs, h, hl, q⟩ := q3
      exact ⟨_, _, rfl, DPut.k (k := Sum.inr _) h hl, q.go⟩
    · obtain ⟨kvs, h, hl, q⟩ := q3
      exact ⟨_, _, rfl, DPut.k (k := Sum.inl _) h hl, q.go⟩
    · exact q3.elim⟩⟩⟩
/-- xs[i] = v of a list; d[k] = v (as targets) -/
def gSetL : TSet := fun o i v H Q => match o, i with
  | .ref a, .int i => ∃ xs j, H a = some (.lst xs) ∧ ixN xs.length i = some j ∧ Chg H a (.lst (xs.set j v)) Q
  | _, _ => False
theorem g_setL : PSet X gSetL := fun pins s σ H o i v ov iv u Q I ro ri rv q => by
  unfold gSetL at q
  split at q
  · obtain ⟨xs, j, h, hj, q⟩ := q
    exact set_list pins s σ H _ _ v ov iv u Q I ro ri rv ⟨_, _, _, _, rfl, rfl, h, hj, q.go⟩
  · exact q.elim
def gSetD : TSet := fun o i v H Q => match o, i with
  | .ref a, .str k => ∃ kvs, H a = some (.dK kvs) ∧ kvs.length < sizeLine ∧ Chg H a (.dK (putK kvs (Sum.inr k : Key) v)) Q
  | .ref a, .int k => ∃ kvs, H a = some (.dK kvs) ∧ kvs.length < sizeLine ∧ Chg H a (.dK (putK kvs (Sum.inl k : Key) v)) Q
  | _, _ => False
theorem g_setD (hu : X.A.units + 1 < cLine) : PSet X gSetD := fun pins s σ H o i v ov iv u Q I ro ri rv q => by
  unfold gSetD at q
  split at q
  · obtain ⟨kvs, h, hl, q⟩ := q
    exact set_dict hu pins s σ H _ _ v ov iv u Q I ro ri rv ⟨_, _, rfl, DPut.k (k := Sum.inr _) h hl, q.go⟩
  · obtain ⟨kvs, h, hl, q⟩ := q
    exact set_dict hu pins s σ H _ _ v ov iv u Q I ro ri rv ⟨_, _, rfl, DPut.k (k := Sum.inl _) h hl, q.go⟩
  · exact q.elim
/-! ### fields of instances -/
/-- a class of the text: where it stands, its name in the module -/
structure ClsAt (K : PySem.W.Frag) (mg : Str → Option Value) (x : Str) (C : Addr) : Prop where
  cl : Cls K C
  g : mg x = some (.ref C)
def tFldF (C : Addr) (f : Str) (te : TE) : TE := fun σ H Q => te σ H fun x H1 => match x with
  | .ref a => ∃ dx fs v, H1 a = some (.ins C dx fs) ∧ fs.lookup f = some v ∧ Q v H1
  | _ => False
theorem fe_fld {C : Addr} {f : Str} (c : Cls X.K C) (n : NoAttr X.K C f) (he : PE X e te) (hb : attributeBase e f X.env (eval e X.env) = eval e X.env := by rfl) : PE X (.Attribute e f pos) (tFldF C f te) :=
  pe_imp (pe_fld (pe_up he) hb) fun σ H Q q => ⟨_, q, fun x H1 q1 => by
    split at q1
    · obtain ⟨dx, fs, v, h, hl, q⟩ := q1
      exact ⟨_, _, _, _, _, rfl, h, c, n, hl, q⟩
    · exact q1.elim⟩
def tSetF (C : Addr) (f : Str) (to te : TE) : TS := fun D σ H => te σ H fun y H1 => to σ H1 fun x H2 => match x with
  | .ref a => ∃ dx fs, H2 a = some (.ins C dx fs) ∧ fs.length < 1000 ∧ Chg H2 a (.ins C dx (putF f y fs)) (D.nx σ)
  | _ => False
theorem fs_fld {C : Addr} {f : Str} {value : Expr} {tv : TE} (c : Cls X.K C) (n : NoAttr X.K C f) (ho : PE X o to) (hv : PE X value tv) (hs : swapsWith value (some (.Attribute o f pos')) pos.line X.env = pure false := by rfl) :
    PS X (.Assign [.Attribute o f pos'] value pos) (tSetF C f to tv) := ps_imp (ps_fld (pe_up ho) (pe_up hv) hs) fun D σ H q => ⟨_, q, fun y H1 q1 => ⟨_, q1, fun x H2 q2 => by
    split at q2
    · obtain ⟨dx, fs, h, hl, q⟩ := q2
      exact ⟨_, _, _, _, rfl, h, c, n, hl, q.go⟩
    · exact q2.elim⟩⟩
end
/-! ### comprehensions, item by item -/
/-- the items are told by f, objects may be made on the way -/
def Comp (st : Hp → Prop) (g : TG) (tt : TT) (te : TE) (vs : List Nat) (σ : L2.St) (D : Addr) (Q : Hp → Prop) : List V → Hp → Prop
  | [] => fun H => Q H
  | x :: r => fun H => g x (wipe σ vs) H fun σ2 H2 => wipe σ2 vs = wipe σ vs ∧ tt σ2 H2 fun b H3 =>
    if b = true then te σ2 H3 fun y H4 => ∃ acc, H4 D = some (.lst acc) ∧ acc.length < sizeLine ∧ st (upd H4 D (.lst (acc ++ [y]))) ∧ Comp st g tt te vs σ D Q r (upd H4 D (.lst (acc ++ [y]))) else st H3 ∧ Comp st g tt te vs σ D Q r H3
theorem comp_it {J : It} {xs : List V} {st : Hp → Prop} {g : TG} {tt : TT} {te : TE} {vs : List Nat} {σ : L2.St} {D : Addr} {H1 : Hp} {Q : Hp → Prop} (hgo : ∀ i H, i < xs.length → st H → J.go i H) (hyl : ∀ i H x H', st H → J.yld i H x H' → H' = H ∧ (i < xs.length → xs[i]? = some x))
    (hst : ∀ H, st H → J.stop xs.length H) (h0 : st (upd H1 D (.lst []))) (h : Comp st g tt te vs σ D Q xs (upd H1 D (.lst []))) : ∃ W : Nat → Nat → Hp → Prop, (∃ m, W 0 m (upd H1 D (.lst []))) ∧ ∀ i m H, W i m H →
      (J.stop i H ∧ Q H) ∨ (J.go i H ∧ ∃ Nx : Hp → Prop, (∀ H', Nx H' → ∃ m', m' < m ∧ W (i + 1) m' H') ∧ ∀ x H', J.yld i H x H' → g x (wipe σ vs) H' fun σ2 H2 => wipe σ2 vs = wipe σ vs ∧ tt σ2 H2 fun b H3 =>
        if b = true then te σ2 H3 fun y H4 => ∃ acc, H4 D = some (.lst acc) ∧ acc.length < sizeLine ∧ Nx (upd H4 D (.lst (acc ++ [y]))) else Nx H3) := by
  refine ⟨fun i m H => m + i = xs.length ∧ st H ∧ Comp st g tt te vs σ D Q (xs.drop i) H, ⟨xs.length, rfl, h0, h⟩, ?_⟩
  rintro i m H ⟨hm, hs, hl⟩
  by_cases hi : i < xs.length
  · right
    rw [List.drop_eq_getElem_cons hi] at hl
    refine ⟨hgo i H hi hs, fun H' => st H' ∧ Comp st g tt te vs σ D Q (xs.drop (i + 1)) H', fun H' ⟨a, b⟩ => ⟨m - 1, by omega, by omega, a, b⟩, fun x H' y => ?_⟩
    obtain ⟨rfl, hx⟩ := hyl i H x H' hs y
    have e : x = xs[i] := by
      have z := hx hi
      rw [List.getElem?_eq_getElem hi] at z
      exact (Option.some.inj z).symm
    subst e
    exact hl
  · left
    have e : i = xs.length := by omega
    subst e
    rw [List.drop_length] at hl
    exact ⟨hst H hs, hl⟩
/-- each item by a function; what is made on the way stands beside -/
theorem Comp.map {st : Hp → Prop} {g : TG} {te : TE} {vs : List Nat} {σ : L2.St} {D : Addr} {Q : Hp → Prop} {H0 : Hp} (f : V → V) (n0 : H0 D = none) (hst : ∀ H, Same H0 H → st H)
    (hx : ∀ (x : V) (H : Hp) (R : VK), Same H0 H → (∀ H', Same H H' → R (f x) H') → g x (wipe σ vs) H fun σ2 H2 => wipe σ2 vs = wipe σ vs ∧ te σ2 H2 R) :
    ∀ (xs : List V) (acc : List V) (H : Hp), acc.length + xs.length ≤ sizeLine → Same H0 H → H D = some (.lst acc) → (∀ H', Same H0 H' → H' D = some (.lst (acc ++ xs.map f)) → Q H') → Comp st g tYes te vs σ D Q xs H
  | [], acc, H, _, s, hD, q => q H s (by rw [List.map_nil, List.append_nil]; exact hD)
  | x :: r, acc, H, hl, s, hD, q => by
    rw [List.length_cons] at hl
    have k := hx x H (fun y H4 => ∃ acc, H4 D = some (.lst acc) ∧ acc.length < sizeLine ∧ st (upd H4 D (.lst (acc ++ [y]))) ∧ Comp st g tYes te vs σ D Q r (upd H4 D (.lst (acc ++ [y])))) s fun H' s' => by
      have s2 : Same H0 (upd H' D (.lst (acc ++ [f x]))) := Same.but (s.trans s') n0 But.upd
      refine ⟨acc, s' _ _ hD, by omega, hst _ s2, ?_⟩
      refine Comp.map f n0 hst hx r (acc ++ [f x]) _ (by rw [List.length_append, List.length_singleton]; omega) s2 upd_same fun H2 s3 e => q H2 s3 ?_
      rw [e, List.append_assoc]
      rfl
    exact k

section
variable {X : Cx} {elt tg iter : Expr} {ifs : List Expr} {scope : Scope} {own : List (Str × Nat)} {pos : Pos} {g : TG} {tt : TT} {te : TE} {w : TW}
def tLcW (w : TW) (g : TG) (tt : TT) (te : TE) (vs : List Nat) : TE := fun σ H Q => w σ H fun xs st H1 => st H1 ∧ ∀ D H2, H1 D = none → Same H1 H2 → H2 D = some (.lst []) → st H2 ∧ Comp st g tt te vs σ D (Q (.ref D)) xs H2
theorem fe_lc (hc : X.calm = true) (hN : X.N.Nodup) (hi : PI X tg iter (wiOf (upW w))) (ok : BlkOk X.N X.env.scope scope own)
    (hg : ∀ (s : Shared) (H : Hp) (C : Addr) (cl : List (Str × Addr)) (fp : List Addr), PG (X.blk s H scope (compEnvC scope cl C X.env) fp) tg g) (ht : ∀ (s : Shared) (H : Hp) (C : Addr) (cl : List (Str × Addr)) (fp : List Addr), PTs (X.blk s H scope (compEnvC scope cl C X.env) fp) ifs tt)
    (he : ∀ (s : Shared) (H : Hp) (C : Addr) (cl : List (Str × Addr)) (fp : List Addr), PE (X.blk s H scope (compEnvC scope cl C X.env) fp) elt te) (hs : ∀ x, foldedSetIterable iter X.env x = pure x := by intro _; rfl) :
    PE X (.ListComp elt [⟨tg, iter, ifs, 0⟩] scope pos) (tLcW w g tt te (own.map (·.2))) := pe_imp (pe_lc hc hN hi ok hg ht he hs) fun σ H Q q => ⟨_, q, fun xs st H1 ⟨h1, k⟩ => ⟨h1, fun J j D n => by
    obtain ⟨h2, c⟩ := k D _ n (Same.new n) upd_same
    exact comp_it j.go j.yl j.stp h2 c⟩⟩
theorem fs_setLc {i : Nat} {y : Str} {py spos : Pos} (hc : X.calm = true) (hN : X.N.Nodup) (hy : X.N[i]? = some y) (hyl : X.env.scope.names.lookup y = some .local)
    (hsw : swapsWith (.ListComp elt [⟨tg, iter, ifs, 0⟩] scope pos) (some (.Name y py)) spos.line X.env = pure true) (hi : PI X tg iter (wiOf (upW w))) (ok : BlkOk X.N X.env.scope scope own)
    (hg : ∀ (s : Shared) (H : Hp) (C : Addr) (cl : List (Str × Addr)) (fp : List Addr), PG (X.blk s H scope (compEnvC scope cl C X.env) fp) tg g) (ht : ∀ (s : Shared) (H : Hp) (C : Addr) (cl : List (Str × Addr)) (fp : List Addr), PTs (X.blk s H scope (compEnvC scope cl C X.env) fp) ifs tt)
    (he : ∀ (s : Shared) (H : Hp) (C : Addr) (cl : List (Str × Addr)) (fp : List Addr), PE (X.blk s H scope (compEnvC scope cl C X.env) fp) elt te) (hs : ∀ x, foldedSetIterable iter X.env x = pure x := by intro _; rfl) :
    PS X (.Assign [.Name y py] (.ListComp elt [⟨tg, iter, ifs, 0⟩] scope pos) spos) (tAsg (tLcW w g tt te (own.map (·.2))) (gName i)) := ps_imp (ps_setLc hc hN hy hyl hsw hi ok hg ht he hs) fun D σ H q => ⟨_, q, fun xs st H1 ⟨h1, k⟩ => ⟨h1, fun J j Dl n => by
    obtain ⟨h2, c⟩ := k Dl _ n (Same.new n) upd_same
    exact comp_it j.go j.yl j.stp h2 c⟩⟩
end

/-! ### methods -/
structure MethAt (K : PySem.W.Frag) (C : Addr) (m qual : Str) (st : Stmt) : Prop where
  ex : ∃ f fd, Fun K m qual st f fd ∧ Meth K C m f
structure MCallee (P : Program) (w : World) (K : PySem.W.Frag) (mg : Str → Option Value) (base : Heap) (k : Nat) (C : Addr) (m : Str) (ps : List Str) (sp : Sp) : Prop where
  ex : ∃ f fd, FnOk P w K mg base (L2.CX P w) k f fd ps sp ∧ Cls K C ∧ Meth K C m f ∧ Binds K fd ps []
section
variable {P : Program} {w : World} {K : PySem.W.Frag} {mg : Str → Option Value} {base : Heap}
theorem mcallee_of {C : Addr} {m qual : Str} {st : Stmt} {N ps : List Str} {k : Nat} {sp : Sp} (cl : Cls K C) (F : MethAt K C m qual st) (S : FnScope N ps (defScope st))
    (hb : ∀ (kV doc pm : Value) (an : Option Addr) (cdv ct : Value) (us : List Value), us.length = ps.length → bindArgs (PySem.W.fnOf m qual (defArgs st) (defBody st) (defScope st) .none kV doc pm an cdv ct) ⟨us, []⟩ = pure (ps.zip us))
    (len : ∀ vs H Q E, sp vs H Q E → vs.length = ps.length)
    (hbody : ∀ (f : Addr) (cdv : Value) (A : Around) (outer : List Env) (s : Shared) (H : Hp) (vs : List V) (Q : VK) (E : XK), Room k (cxOf (L2.CX P w) P w K mg base N qual (defScope st) f cdv A outer s H E).A →
      Takes (cxOf (L2.CX P w) P w K mg base N qual (defScope st) f cdv A outer s H E) (fun cls d _ H => E cls d H) →
      PassesOwn (model P w) (cxOf (L2.CX P w) P w K mg base N qual (defScope st) f cdv A outer s H E).A (cxOf (L2.CX P w) P w K mg base N qual (defScope st) f cdv A outer s H E).env (cxOf (L2.CX P w) P w K mg base N qual (defScope st) f cdv A outer s H E).xe → sp vs H Q E →
      ∃ t, PSs (cxOf (L2.CX P w) P w K mg base N qual (defScope st) f cdv A outer s H E) (defBody st) t ∧ t { nx := fun _ H' => Q .non H', rt := Q } (start N vs) H) :
    MCallee P w K mg base (k + 1) C m ps sp := by
  obtain ⟨f, fd, F, hm⟩ := F.ex
  exact ⟨f, fd, F.okX S len fun cdv A outer s H vs Q E hr h => hbody f cdv A outer s H vs Q E hr (takes_of rfl rfl rfl rfl) (passes_of rfl) h, cl, hm, F.binds hb⟩
end
section
variable {X : Cx} {W : WX} {j k : Nat} {C : Addr} {m x : Str} {ps : List Str} {sp : Sp} {p pos apos pos2 : Pos} {o e : Expr} {es : List Expr} {t : TA} {ta te : TE}
/-- o.m(e, ..) of an instance of the class at C -/
def tMethF (C : Addr) (m : Str) (sp : Sp) (W : WX) (ta : TE) (t : TA) : TE := fun σ H Q => ta σ H fun x H1 => match x with
  | .ref a => (∃ dx fs, H1 a = some (.ins C dx fs) ∧ fs.lookup m = none) ∧ t σ H1 fun vs H2 => sp (.ref a :: vs) H2 Q (fun cls d H' => W cls d σ H')
  | _ => False
theorem fc_meth {pl : Sem Bool} (c : MCallee X.prog X.w X.K X.mg X.base k C m ps sp) (hr : Room j X.A) (hk : k ≤ j) (tk : Takes X W) (ho : PE X o ta) (ha : PA X (e :: es) t)
    (hst : starEach (e :: es) X.env = (false, eval e X.env) :: starEach es X.env := by rfl) (hpl : (backTo pos (starEach es X.env)).any (·.1) = false := by rfl)
    (ht : eval (.Call (.Attribute o m apos) (e :: es) [] pos) X.env = (do
      let ov ← eval o X.env; standAt apos.atName; let (f, first) ← holding [ov] (getMethod ov m pl)
      callWith pos f first (backTo pos (starEach (e :: es) X.env)) (backToKw pos (keywordEach [] X.env))) := by rfl) :
    PE X (.Call (.Attribute o m apos) (e :: es) [] pos) (tMethF C m sp W ta t) := by
  obtain ⟨g, fd, F, cl, hm, hb⟩ := c.ex
  refine ⟨fun pins s σ H Q I h => PySem.W.methodCall_KW (pl := pl) (thn (ho.run pins s σ H _ I h) fun u s1 ⟨x, H1, J, rx, q⟩ => ?_) ht⟩
  cases x <;> first | exact q.elim | skip
  rename_i a
  cases rx
  obtain ⟨⟨dx, fs, ea, l⟩, q⟩ := q
  refine getmeth_ok J ea cl hm l (PySem.W.callWith_K (first := [.ref a]) (h₀ := X.base) J.ok.mod.kin hm.kp (thn (ha.run pos pins s1 σ H1 _ J q) fun us s2 ⟨vs, H2, J2, rv, q2⟩ => ⟨J2.kIn, ?_⟩) hst hpl)
  exact run_fnS (us := .ref a :: us) (vs := .ref a :: vs) (E := WE W) F (hr.mono hk) hb (passAt tk σ) J2 (.cons rfl rv) q2
theorem fc_meth0 {pl : Sem Bool} (c : MCallee X.prog X.w X.K X.mg X.base k C m ps sp) (hr : Room j X.A) (hk : k ≤ j) (tk : Takes X W) (ho : PE X o ta)
    (ht : eval (.Call (.Attribute o m apos) [] [] pos) X.env = (do
      let ov ← eval o X.env; standAt apos.atName; let (f, first) ← holding [ov] (getMethod ov m pl)
      callWith pos f first (backTo pos (starEach [] X.env)) (backToKw pos (keywordEach [] X.env))) := by rfl) :
    PE X (.Call (.Attribute o m apos) [] [] pos) (tMethF C m sp W ta tNil) := by
  obtain ⟨g, fd, F, cl, hm, hb⟩ := c.ex
  refine ⟨fun pins s σ H Q I h => PySem.W.methodCall_KW (pl := pl) (thn (ho.run pins s σ H _ I h) fun u s1 ⟨x, H1, J, rx, q⟩ => ?_) ht⟩
  cases x <;> first | exact q.elim | skip
  rename_i a
  cases rx
  obtain ⟨⟨dx, fs, ea, l⟩, q⟩ := q
  refine getmeth_ok J ea cl hm l (PySem.W.callWith_K0 (first := [.ref a]) J.kIn hm.kp ?_)
  exact run_fnS (us := [.ref a]) (vs := [.ref a]) (E := WE W) F (hr.mono hk) hb (passAt tk σ) J (.cons rfl .nil) q
end
/-! ### errors of the text's own, with one field -/
structure InitAt (K : PySem.W.Frag) (C : Addr) (qual : Str) (st : Stmt) : Prop where
  ex : ∃ f fd, Fun K "__init__" qual st f fd ∧ PySem.W.findIn K (.ref C) "__init__" = some (some (.ref f)) ∧ PySem.W.typeIn K (.ref f) = some (.type "function")
structure Raiser (P : Program) (w : World) (K : PySem.W.Frag) (mg : Str → Option Value) (base : Heap) (x : Str) (C : Addr) (f : Str) : Prop where
  T : OexC K C
  g : mg x = some (.ref C)
  ex : ∃ fI fd, PySem.W.findIn K (.ref C) "__init__" = some (some (.ref fI)) ∧ PySem.W.typeIn K (.ref fI) = some (.type "function") ∧
    FnOk P w K mg base (L2.CX P w) 1 fI fd (["self", f] : List Str) (s2 fun a v H Q _ => ∃ p, a = .ref p ∧ H p = some (exo p C none) ∧ ∀ dx, H dx = none → dx ≠ p → Q .non (upd (upd H dx (exd dx [(f, v)])) p (exo p C (some dx)))) ∧ Binds K fd (["self", f] : List Str) []
theorem raiser_of {P : Program} {w : World} {K : PySem.W.Frag} {mg : Str → Option Value} {base : Heap} {x : Str} {C : Addr} {f qual : Str} {st : Stmt} (T : OexC K C) (g : mg x = some (.ref C)) (F : InitAt K C qual st) (no : PySem.W.findIn K (.ref C) f = some none)
    (S : FnScope (["self", f] : List Str) (["self", f] : List Str) (defScope st))
    (hb : ∀ (kV doc pm : Value) (an : Option Addr) (cdv ct : Value) (us : List Value), us.length = 2 → bindArgs (PySem.W.fnOf "__init__" qual (defArgs st) (defBody st) (defScope st) .none kV doc pm an cdv ct) ⟨us, []⟩ = pure ((["self", f] : List Str).zip us))
    (hbody : ∀ X : Cx, X.env.scope = defScope st → X.N = (["self", f] : List Str) → PSs X (defBody st) (tOst X.K f (tV 0) (tV 1))) : Raiser P w K mg base x C f := by
  obtain ⟨fI, fd, F, hi, ht⟩ := F.ex
  refine ⟨T, g, fI, fd, hi, ht, F.okX S (fun vs H Q E h => ?_) (fun cdv A outer s H vs Q E hr h => ⟨_, hbody _ rfl rfl, ?_⟩), F.binds (ps := (["self", f] : List Str)) hb⟩
  · obtain ⟨_, _, rfl, _⟩ := s2_len h
    rfl
  · obtain ⟨a, v, rfl, p, rfl, h0, q⟩ := s2_len h
    exact ⟨p, C, rfl, T, no, .inl ⟨h0, q⟩⟩
section
variable {X : Cx} {W : WX} {j : Nat} {C : Addr} {x f : Str} {p pos pos2 : Pos} {e : Expr} {te : TE}
/-- raise x(e) -/
theorem fr_raise (hc : X.calm = true) (R : Raiser X.prog X.w X.K X.mg X.base x C f) (hr : Room j X.A) (hk : 2 ≤ j) (tk : Takes X W) (hg : Gl X x) (he : PE X e te) (hdb : (x == ("__debug__" : Str)) = false := by decide)
    (hst : starEach (e :: []) X.env = (false, eval e X.env) :: starEach [] X.env := by rfl) (hpl : (backTo pos (starEach [] X.env)).any (·.1) = false := by rfl) :
    PS X (.Raise (some (.Call (.Name x p) [e] [] pos)) none pos2) (fun _ σ H => te σ H fun v H1 => ∀ d H', H1 d = none → Same H1 H' → H' d = some (.xd [(f, v)]) → W (.ref C) (some d) σ H') := by
  obtain ⟨fI, fd, hi, ht, F, hb⟩ := R.ex
  refine ps_imp (ps_raise hc tk (pmk_oex R.T hi ht F (hr.mono hk) hb .nil (fun pins σ H s e' s' I c => passL (X := X) pins σ H s e' s' I c) hg R.g (pa_cons (pe_up he) pa_nil hst) hdb hst hpl)) fun D σ H q => ⟨_, q, fun v H1 q1 => ⟨by show 1 ≤ 1000; decide, fun a na => ?_⟩⟩
  refine ⟨a, rfl, upd_same, fun dx nx ne => ⟨rfl, dx, [(f, v)], upd_same, by rw [upd_ne ne, upd_same], ?_, ?_⟩⟩
  · rw [upd_ne ne] at nx
    exact nx
  · have nx1 : H1 dx = none := by
      rw [upd_ne ne] at nx
      exact nx
    refine q1 dx _ nx1 (fun b u z => ?_) upd_same
    have n1 := ne_of_none z na
    have n2 := ne_of_none z nx1
    rw [upd_ne n2, del_ne n1, upd_ne n1, upd_ne n2, upd_ne n1]
    exact z
end

/-! ### texts -/
theorem mt_imp {X : Cx} {id : String} {r r' : V → List V → Hp → VK → Prop} (h : MtR X id r) (k : ∀ x xs H Q, r' x xs H Q → r x xs H Q) : MtR X id r' := fun pins s σ H x xs v us Q I rx rs q => h pins s σ H x xs v us Q I rx rs (k _ _ _ _ q)
section
variable {X : Cx} {o e : Expr} {to te : TE} {apos cpos pos : Pos}
/-- text.index(sign), the sign there -/
def fIndex : V → List V → Hp → VK → Prop := fun x xs H Q => match x, xs with
  | .str a, [.str b] => ∃ k, Txt.index0 a b = some k ∧ Q (.int (k : Nat)) H
  | _, _ => False
theorem f_sindex : MtR X "str.index" fIndex := by
  intro pins s σ H x xs v us Q I rx rs h
  unfold fIndex at h
  split at h
  · obtain ⟨k, hk, q⟩ := h
    obtain ⟨t, rfl⟩ := rx
    cases rs with
    | cons r1 rs =>
      cases rs
      obtain ⟨u, rfl⟩ := r1
      rename_i a b
      unfold Txt.index0 at hk
      cases z : Builtin.Str.occurrences a b 0 a.length 1 with
      | nil => rw [z] at hk; cases hk
      | cons m rest =>
        rw [z] at hk
        cases hk
        exact PySem.SC.index z ⟨.int (k : Nat), H, I.tok _, ⟨_, rfl⟩, q⟩
  · exact h.elim
/-- a built-in type's method by what the values are: texts -/
def tSM1 (r : V → List V → Hp → VK → Prop) (to te : TE) : TE := fun σ H Q => to σ H fun x H1 => match x with
  | .str a => te σ H1 fun y H2 => r (.str a) [y] H2 Q
  | _ => False
def tSM0 (r : V → List V → Hp → VK → Prop) (to : TE) : TE := fun σ H Q => to σ H fun x H1 => match x with
  | .str a => r (.str a) [] H1 Q
  | _ => False
theorem fe_sm1 {id : String} {name : Str} {r : V → List V → Hp → VK → Prop} (slot : Slot "str" name id) (ty : typeOf (.builtin id) = pure (.type "method_descriptor")) (rule : MtR X id r) (ho : PE X o to) (he : PE X e te)
    (hs : starEach [e] X.env = [(false, eval e X.env)] := by rfl) (hbase : attributeBase o name X.env (eval o X.env) = eval o X.env := by rfl) (hline : (apos.endLine == pos.line) = true := by rfl) :
    PE X (.Call (.Attribute o name apos) [e] [] pos) (tSM1 r to te) := pe_imp (pe_m1 slot ty rule (pe_up ho) (pe_up he) hs hbase hline) fun σ H Q q => ⟨_, q, fun x H1 q1 => by
  split at q1
  · exact ⟨⟨_, rfl⟩, _, q1, fun y H2 q2 => q2⟩
  · exact q1.elim⟩
theorem fe_sm0 {id : String} {name : Str} {r : V → List V → Hp → VK → Prop} (slot : Slot "str" name id) (ty : typeOf (.builtin id) = pure (.type "method_descriptor")) (rule : MtR X id r) (ho : PE X o to)
    (hbase : attributeBase o name X.env (eval o X.env) = eval o X.env := by rfl) (hline : (apos.endLine == pos.line) = true := by rfl) :
    PE X (.Call (.Attribute o name apos) [] [] pos) (tSM0 r to) := pe_imp (pe_m0 slot ty rule (pe_up ho) hbase hline) fun σ H Q q => ⟨_, q, fun x H1 q1 => by
  split at q1
  · exact ⟨⟨_, rfl⟩, q1⟩
  · exact q1.elim⟩
/-- text.join(texts) -/
def fJoin (K : PySem.W.Frag) : V → List V → Hp → VK → Prop := fun x xs H Q => match x, xs with
  | .str a, [.ref p] => ∃ ys : List Str, Sq K H p (ys.map V.str) ∧ (ys.map (·.length)).sum + ys.length * a.length ≤ 16777216 ∧ Q (.str (Txt.join a ys)) H
  | _, _ => False
theorem f_join : MtR X "str.join" (fJoin X.K) := mt_imp mt_join fun x xs H Q q => by
  unfold fJoin at q
  split at q
  · obtain ⟨ys, h, hz, q⟩ := q
    exact ⟨_, _, ys, rfl, rfl, h, hz, q⟩
  · exact q.elim
/-- text.split(sep) -/
def fSplit : V → List V → Hp → VK → Prop := fun x xs H Q => match x, xs with
  | .str a, [.str b] => (b.length == 0) = false ∧ a.length + 2 ≤ sizeLine ∧ Fresh H (.lst ((Txt.split a b).map V.str)) Q
  | _, _ => False
theorem f_split : MtR X "str.split" fSplit := mt_imp mt_split fun x xs H Q q => by
  unfold fSplit at q
  split at q
  · exact ⟨_, _, rfl, rfl, q.1, q.2.1, q.2.2.go⟩
  · exact q.elim
/-- b, or its opposite -/
def opp (neg b : Bool) : Bool := match neg with
  | true => !b
  | false => b
/-- sign in text, sign not in text -/
def fInS (neg : Bool) : R2 := fun x y H Q => match x, y with
  | .str a, .str z => ∃ c, a = ⟨#[c]⟩ ∧ Q (.bl (opp neg (decide (c ∈ z.cps.toList)))) H
  | _, _ => False
theorem f_inS : OpR X (compareOp .In) (fInS false) := op_imp op_in_sign fun x y H Q q => by
  unfold fInS at q
  split at q
  · obtain ⟨c, rfl, q⟩ := q
    exact ⟨c, _, rfl, rfl, q⟩
  · exact q.elim
theorem f_notInS : OpR X (compareOp .NotIn) (fInS true) := op_imp op_notIn_sign fun x y H Q q => by
  unfold fInS at q
  split at q
  · obtain ⟨c, rfl, q⟩ := q
    exact ⟨c, _, rfl, rfl, q⟩
  · exact q.elim
/-- x in a row of plain things -/
def fInQ (K : PySem.W.Frag) (neg : Bool) : R2 := fun x y H Q => match y with
  | .ref p => ∃ xs, Sq K H p xs ∧ flatV x = true ∧ xs.all flatV = true ∧ Q (.bl (opp neg (inV x xs))) H
  | _ => False
theorem f_inQ : OpR X (compareOp .In) (fInQ X.K false) := op_imp op_in_seq fun x y H Q q => by
  unfold fInQ at q
  split at q
  · obtain ⟨xs, h, h1, h2, q⟩ := q
    exact ⟨_, xs, rfl, h, h1, h2, q⟩
  · exact q.elim
theorem f_notInQ : OpR X (compareOp .NotIn) (fInQ X.K true) := op_imp op_notIn_seq fun x y H Q q => by
  unfold fInQ at q
  split at q
  · obtain ⟨xs, h, h1, h2, q⟩ := q
    exact ⟨_, xs, rfl, h, h1, h2, q⟩
  · exact q.elim
/-- x is None, x is not None -/
def fIsN (neg : Bool) : R2 := fun x y H Q => match y with
  | .non => match x with
    | .non => Q (.bl (!neg)) H
    | _ => Q (.bl neg) H
  | _ => False
theorem f_isN : OpR X (compareOp .Is) (fIsN false) := op_imp op_isN fun x y H Q q => by
  unfold fIsN at q
  cases y <;> first | exact q.elim | skip
  refine ⟨rfl, ?_⟩
  cases x <;> exact q
theorem f_notN : OpR X (compareOp .IsNot) (fIsN true) := op_imp op_notN fun x y H Q q => by
  unfold fIsN at q
  cases y <;> first | exact q.elim | skip
  refine ⟨rfl, ?_⟩
  cases x <;> exact q
theorem vals_at : ∀ {xs : List V} {us : List Value}, xs.length = us.length → (∀ (i : Nat) x u, xs[i]? = some x → us[i]? = some u → RelV x u) → Vals xs us
  | [], [], _, _ => .nil
  | [], _ :: _, h, _ => by cases h
  | _ :: _, [], h, _ => by cases h
  | x :: xs, u :: us, h, k => .cons (k 0 x u rfl rfl) (vals_at (Nat.succ.inj h) fun i y z e1 e2 => k (i + 1) y z e1 e2)
/-- list(a text): its signs -/
theorem sign_at {x : Str} {its : Array Value} (h : ItemsOf (SignAt x) its x.cps.size) : Vals (signs x) its.toList := by
  refine vals_at (by simp [signs, h.1]) fun i y u e1 e2 => ?_
  rw [Array.getElem?_toList] at e2
  obtain ⟨c, t, hc, rfl⟩ := h.2 i u e2
  unfold signs at e1
  rw [List.getElem?_map, Array.getElem?_toList, hc] at e1
  cases e1
  exact ⟨t, rfl⟩
def fListS : List V → Hp → VK → Prop := fun xs H Q => match xs with
  | [.str z] => z.length ≤ sizeLine ∧ Fresh H (.lst (signs z)) Q
  | _ => False
theorem f_listS (hc : X.calm = true) : CallR X (.type "list") fListS := by
  intro pins s σ H xs us Q I r q
  unfold fListS at q
  split at q
  · obtain ⟨hz, q⟩ := q
    rename_i z
    obtain ⟨u, rfl, t, rfl⟩ := vals1 r
    refine call_list_str (I.ok.hd hc) z t (fun h' tk acc c' k e its => ?_) hz
    have rv := sign_at its
    have el : (signs z).length = z.cps.size := by simp [signs]
    refine ⟨.ref s.heap.objs.size, _, I.laid (t' := tk) k (Nat.le_refl _) (show ObjOk X.prog X.w _ h' _ (.lst (signs z)) from ⟨by rw [el]; exact hz, acc.toList, c', rv, e⟩), rfl, q.go _ (I.hok.fresh (Nat.le_refl _))⟩
  · exact q.elim
/-! ### dicts of the module with text keys -/
structure KTab (K : PySem.W.Frag) (w : World) (d : Addr) (kvs : List (Str × V)) : Prop where
  ex : ∃ es n, KDict K w d es n ∧ ∀ z : Str, ∃ r, PySem.W.nsIn K d z = some r ∧ RelO (kvs.lookup z) r
def fInK (d : Addr) (kvs : List (Str × V)) : R2 := fun x y H Q => y = .ref d ∧ match x with
  | .str z => Q (.bl (kvs.lookup z).isSome) H
  | _ => False
theorem f_inK {d : Addr} {kvs : List (Str × V)} (T : KTab X.K X.w d kvs) : OpR X (compareOp .In) (fInK d kvs) := by
  obtain ⟨es, n, D, f⟩ := T.ex
  refine op_imp (op_in_kd D) fun x y H Q q => ?_
  obtain ⟨rfl, q⟩ := q
  cases x <;> first | exact q.elim | skip
  rename_i z
  obtain ⟨r, e, rel⟩ := f z
  refine ⟨z, r, rfl, rfl, e, ?_⟩
  have : r.isSome = (kvs.lookup z).isSome := by
    cases h : kvs.lookup z with
    | none => rw [h] at rel; cases r with
      | none => rfl
      | some u => exact rel.elim
    | some v => rw [h] at rel; cases r with
      | none => exact rel.elim
      | some u => rfl
  rw [this]
  exact q
def fItK (d : Addr) (kvs : List (Str × V)) : R2 := fun x y H Q => x = .ref d ∧ match y with
  | .str z => ∃ v, kvs.lookup z = some v ∧ Q v H
  | _ => False
theorem f_itK {d : Addr} {kvs : List (Str × V)} (T : KTab X.K X.w d kvs) : OpR X getItem (fItK d kvs) := by
  obtain ⟨es, n, D, f⟩ := T.ex
  refine op_imp (op_item_kd D) fun x y H Q q => ?_
  obtain ⟨rfl, q⟩ := q
  cases y <;> first | exact q.elim | skip
  rename_i z
  obtain ⟨v, e, q⟩ := q
  obtain ⟨r, e2, rel⟩ := f z
  rw [e] at rel
  cases r with
  | none => exact rel.elim
  | some u => exact ⟨z, u, v, rfl, rfl, e2, rel, q⟩
end
/-- rows of values that are no two integers (a pot is one) -/
def notPot : List V → Bool
  | [.int _, .int _] => false
  | _ => true
/-! ### more rules -/
section
variable {X : Cx} {e : Expr} {te : TE} {pos : Pos}
def tRevF (K : PySem.W.Frag) (te : TE) : TE := fun σ H Q => te σ H fun x H1 => match x with
  | .ref a => ∃ xs, SqL K H1 a xs ∧ Fresh H1 (.lst xs.reverse) Q
  | _ => False
theorem fe_revL {k : Nat} {p1 p2 p3 : Pos} (he : PE X e te) : PE X (.Subscript e (.Slice none none (some (.UnaryOp .USub (.Constant (.int 1) k p1) p2)) p3) pos) (tRevF X.K te) := pe_imp (pe_revL (pe_up he)) fun σ H Q q => ⟨_, q, fun x H1 q1 => by
  split at q1
  · obtain ⟨xs, h, q⟩ := q1
    exact ⟨_, xs, rfl, h, q.go⟩
  · exact q1.elim⟩
def upT (t : TT) : TT := fun σ H Q => ∃ R, t σ H R ∧ ∀ b H', R b H' → Q b H'
theorem pt_up {t : TT} (h : PT X e t) : PT X e (upT t) := ⟨fun pins s σ H Q I ⟨R, q, w⟩ => thn (h.run pins s σ H R I q) fun b s1 ⟨H1, I1, q1⟩ => ⟨H1, I1, w _ _ q1⟩⟩
/-- the word W holds with a lesser measure -/
inductive Low (W : Nat → L2.St → Hp → Prop) (m : Nat) (σ : L2.St) (H : Hp) : Prop
  | mk (m' : Nat) (lt : m' < m) (w : W m' σ H)
/-- while, by a word W of a measure and the state -/
inductive Wh (c : TT) (tb : TS) (D : Ends) (σ : L2.St) (H : Hp) : Prop
  | by (W : Nat → L2.St → Hp → Prop) (m : Nat) (h0 : W m σ H) (hs : ∀ m σ H, W m σ H →
    c σ H fun b H1 => if b = true then tb { D with nx := Low W m, ct := Low W m, bk := D.nx } σ H1 else D.nx σ H1)
theorem fs_while {body : List Stmt} {tc : TT} {tb : TS} (hp : PassesOwn (model X.prog X.w) X.A X.env X.xe) (hc : PT X e tc) (hb : PSs X body tb) : PS X (.While e body [] pos) (Wh tc tb) :=
  ps_imp (ps_while hp (pt_up hc) hb) fun D σ H q => by
    obtain ⟨W, m, h0, hs⟩ := q
    exact ⟨W, ⟨m, h0⟩, fun m σ H w => ⟨_, hs m σ H w, fun b H1 q => by
    cases b with
    | true => exact ⟨_, fun _ _ ⟨m', lt, w⟩ => ⟨m', lt, w⟩, q⟩
    | false => exact q⟩⟩
/-- *e in a display -/
def tStarF (K : PySem.W.Frag) (te : TE) (t : TA) : TA := fun σ H Q => te σ H fun x H1 => match x with
  | .ref p => ∃ xs, Sq K H1 p xs ∧ t σ H1 fun ys H2 => Q (xs ++ ys) H2
  | _ => False
theorem pa_imp {es : List Expr} {t t' : TA} (h : PA X es t) (w : ∀ σ H Q, t' σ H Q → t σ H Q) : PA X es t' := ⟨fun pos pins s σ H Q I q => h.run pos pins s σ H Q I (w σ H Q q)⟩
theorem fa_star {es : List Expr} {t : TA} {p : Pos} (he : PE X e te) (hr : PA X es t) (hs : starEach (.Starred e p :: es) X.env = (true, eval e X.env) :: starEach es X.env := by rfl) : PA X (.Starred e p :: es) (tStarF X.K te t) :=
  pa_imp (StX.pa_star (pe_up he) hr hs) fun σ H Q q => ⟨_, q, fun x H1 q1 => by
    split at q1
    · obtain ⟨xs, h, q⟩ := q1
      exact ⟨_, xs, rfl, h.symm, q⟩
    · exact q1.elim⟩
/-- n signs c -/
def repC (c n : Nat) : Str := ⟨(List.replicate n c).toArray⟩
theorem foldl_one : ∀ (n c : Nat) (acc : Array Nat), (List.replicate n #[c]).foldl (· ++ ·) acc = acc ++ (List.replicate n c).toArray
  | 0, c, acc => by simp
  | n + 1, c, acc => by
    rw [List.replicate_succ, List.foldl_cons, foldl_one n c, List.replicate_succ]
    apply Array.toList_inj.mp
    simp
def fMulS : R2 := fun x y H Q => match x, y with
  | .str z, .int n => ∃ c, z = ⟨#[c]⟩ ∧ (-1000000 ≤ n ∧ n ≤ 1000000) ∧ Q (.str (repC c n.toNat)) H
  | _, _ => False
theorem f_mulS : OpR X (binaryOp .Mult) fMulS := by
  intro pins s σ H x y v u Q I rx ry h
  unfold fMulS at h
  split at h
  · obtain ⟨c, rfl, ⟨hl, hh⟩, q⟩ := h
    obtain ⟨t, rfl⟩ := rx
    obtain ⟨t', rfl⟩ := ry
    rename_i n
    have n1 : ¬ n < -(2 ^ 63 : Int) := by omega
    have n2 : ¬ n ≥ 2 ^ 63 := by omega
    have out : ∀ (z : Str) (tk : Nat), z = repC c n.toNat → EP X pins σ Q (.str z tk) { s with toks := s.toks + 1 } := fun z tk e => ⟨.str z, H, I.tok _, ⟨_, rfl⟩, by rw [e]; exact q⟩
    refine PySem.P.mul_str (by rw [decide_eq_false n1, decide_eq_false n2]; rfl) (fun h1 _ => ?_) (fun h1 _ => ?_) ?_
    · have h3 : (⟨#[c]⟩ : Str).length = 1 := rfl
      rw [h3]
      intro z
      have : (2 ^ 63 - 1 : Int) / n ≥ 1 := (Int.le_ediv_iff_mul_le (by omega)).mpr (by omega)
      omega
    · have h3 : (⟨#[c]⟩ : Str).length = 1 := rfl
      rw [h3]
      have hs : ¬ 1 * n.toNat > sizeLine := by
        have := sizeLine_eq
        omega
      exact decide_eq_false hs
    · split
      · refine ⟨by decide, out _ _ ?_⟩
        have : n.toNat = 0 := by omega
        unfold repC; rw [this]; rfl
      · rename_i hn
        split
        · rename_i h1
          have e1 : n = 1 := by simpa [Str.length] using h1
          refine ⟨.str ⟨#[c]⟩, H, I, ⟨_, rfl⟩, ?_⟩
          rw [e1] at q; exact q
        · rw [foldl_one]
          have e2 : (⟨#[] ++ (List.replicate n.toNat c).toArray⟩ : Str) = repC c n.toNat := by
            unfold repC
            simp
          have e3 : (⟨#[] ++ (List.replicate n.toNat c).toArray⟩ : Str).length ≤ sizeLine := by
            rw [e2, show (repC c n.toNat).length = n.toNat by simp [repC, Str.length]]
            have := sizeLine_eq
            omega
          exact ⟨e3, out _ _ e2⟩
  · exact h.elim
end
/-! ### classes that are made by keywords -/
/-- what stands at the places idx -/
def pick {α : Type} (idx : List Nat) (xs : List α) : List α := idx.filterMap fun i => xs[i]?
theorem vals_nth : ∀ {xs : List V} {us : List Value}, Vals xs us → ∀ i : Nat, (xs[i]? = none ∧ us[i]? = none) ∨ ∃ x u, xs[i]? = some x ∧ us[i]? = some u ∧ RelV x u
  | [], [], .nil, i => .inl ⟨rfl, rfl⟩
  | x :: xs, u :: us, .cons a r, 0 => .inr ⟨x, u, rfl, rfl, a⟩
  | x :: xs, u :: us, .cons a r, i + 1 => vals_nth r i
theorem vals_pick : ∀ (idx : List Nat) {xs : List V} {us : List Value}, Vals xs us → Vals (pick idx xs) (pick idx us)
  | [], _, _, _ => .nil
  | i :: idx, xs, us, r => by
    have ih := vals_pick idx r
    unfold pick at ih ⊢
    rcases vals_nth r i with ⟨a, b⟩ | ⟨x, u, a, b, c⟩
    · rw [List.filterMap_cons_none a, List.filterMap_cons_none b]
      exact ih
    · rw [List.filterMap_cons_some a, List.filterMap_cons_some b]
      exact .cons c ih
structure InitK (K : PySem.W.Frag) (C : Addr) (qual : Str) (st : Stmt) (kws : List (Str × V)) : Prop where
  ex : ∃ f fd, FunD K "__init__" qual (defArgs st) (defBody st) (defScope st) [] kws f fd ∧ Mk K C f
structure KMaker (P : Program) (w : World) (K : PySem.W.Frag) (mg : Str → Option Value) (base : Heap) (k : Nat) (x : Str) (C : Addr) (qual : Str) (st : Stmt) (kws : List (Str × V)) (ps : List Str) (sp : Sp) : Prop where
  ex : ∃ f fd, FunD K "__init__" qual (defArgs st) (defBody st) (defScope st) [] kws f fd ∧ Mk K C f ∧ FnOk P w K mg base (L2.CX P w) k f fd ps sp
  g : mg x = some (.ref C)
theorem kmaker_of {P : Program} {w : World} {K : PySem.W.Frag} {mg : Str → Option Value} {base : Heap} {x qual : Str} {C : Addr} {st : Stmt} {kws : List (Str × V)} {N ps : List Str} {k : Nat} {sp : Sp} (g : mg x = some (.ref C)) (F : InitK K C qual st kws) (S : FnScope N ps (defScope st))
    (len : ∀ vs H Q E, sp vs H Q E → vs.length = ps.length)
    (hbody : ∀ (f : Addr) (cdv : Value) (A : Around) (outer : List Env) (s : Shared) (H : Hp) (vs : List V) (Q : VK) (E : XK), Room k (cxOf (L2.CX P w) P w K mg base N qual (defScope st) f cdv A outer s H E).A →
      Takes (cxOf (L2.CX P w) P w K mg base N qual (defScope st) f cdv A outer s H E) (fun cls d _ H => E cls d H) →
      PassesOwn (model P w) (cxOf (L2.CX P w) P w K mg base N qual (defScope st) f cdv A outer s H E).A (cxOf (L2.CX P w) P w K mg base N qual (defScope st) f cdv A outer s H E).env (cxOf (L2.CX P w) P w K mg base N qual (defScope st) f cdv A outer s H E).xe → sp vs H Q E →
      ∃ t, PSs (cxOf (L2.CX P w) P w K mg base N qual (defScope st) f cdv A outer s H E) (defBody st) t ∧ t { nx := fun _ H' => Q .non H', rt := Q } (start N vs) H) :
    KMaker P w K mg base (k + 1) x C qual st kws ps sp := by
  obtain ⟨f, fd, F, M⟩ := F.ex
  exact ⟨⟨f, fd, F, M, F.ok S len fun cdv A outer s H vs Q E hr h => hbody f cdv A outer s H vs Q E hr (takes_of rfl rfl rfl rfl) (passes_of rfl) h⟩, g⟩
section
variable {X : Cx} {W : WX} {j k : Nat} {C : Addr} {x qual : Str} {st : Stmt} {kws : List (Str × V)} {ps ks : List Str} {sp : Sp} {p pos : Pos} {kwe : List Keyword} {t : TA}
/-- what a class does that is called: a new object, then its __init__ (promise sp) -/
def MadeBy (C : Addr) (sp : Sp) (gV : List V → List V) (W : WX) (σ : L2.St) (zs : List V) (H : Hp) (Q : VK) : Prop :=
  ∀ p dx H3, H p = none → Same H H3 → H3 p = some (.ins C dx []) → sp (gV (.ref p :: zs)) H3 (fun v H4 => v = .non ∧ Q (.ref p) H4) (fun cls d H' => W cls d σ H')
theorem run_made {pins : List (Addr × Obj)} {σ : L2.St} {H : Hp} {s : Shared} {Q : VK} {f : Addr} {fd : FuncData} {us ws : List Value} {gV : List V → List V} {zs : List V} {E : XK} {all : List Value} (M : Mk X.K C f) (F : FnOk X.prog X.w X.K X.mg X.base (L2.CX X.prog X.w) k f fd ps sp) (hr : Room (k + 1) X.A)
    (hb : ∀ s' : Shared, X.K.In s'.heap → BindsTo s' fd ⟨.ref (s.heap.objs.size + 1) :: us, ks.zip ws⟩ (ps.zip all)) (hall : L2.Vals (gV (.ref (s.heap.objs.size + 1) :: zs)) all) (tk : PassesAt (L2.CX X.prog X.w) X σ E) (J : Inv X pins σ H s)
    (h : ∀ a b, H a = none → H b = none → b ≠ a → sp (gV (.ref a :: zs)) (upd (upd H b (.own a)) a (.ins C b [])) (fun v H2 => v = .non ∧ Q (.ref a) H2) E) :
    wpAny (model X.prog X.w) X.A (call (.ref C) us (ks.zip ws)) (EP X pins σ Q) X.xe s := by
  have said := h (s.heap.objs.size + 1) s.heap.objs.size (J.hok.fresh (Nat.le_succ _)) (J.hok.fresh (Nat.le_refl _)) (Nat.ne_of_lt (Nat.lt_succ_self _))
  have J2 := Inv.made (C := C) J
  have ran := F.run _ X.stack _ _ ⟨Value.ref (s.heap.objs.size + 1) :: us, ks.zip ws⟩ all _ _ E (hr.make C us (ks.zip ws)) (J2.env0.make C us (ks.zip ws)) (hb _ J2.kIn) hall said
  refine wpAny_call (make_map (f := f) J.kIn M.makes M.init (beq_iff_eq.mp M.fn) (codeAny_mono ran fun out s' got => ?_))
  match out, got with
  | .error e, got => exact tk pins _ _ e s' J2 got
  | .ok (.ret u), got =>
    obtain ⟨v, H', J3, rv, ev, q3⟩ := J2.after got
    subst ev
    exact ⟨rv, V.ref (s.heap.objs.size + 1), H', J3, rfl, q3⟩
  | .ok .next, got => exact False.elim got
  | .ok .brk, got => exact False.elim got
  | .ok .cont, got => exact False.elim got
theorem MadeBy.go {C : Addr} {sp : Sp} {gV : List V → List V} {W : WX} {σ : L2.St} {zs : List V} {H : Hp} {Q : VK} (h : MadeBy C sp gV W σ zs H Q) : ∀ a b, H a = none → H b = none → b ≠ a → sp (gV (.ref a :: zs)) (upd (upd H b (.own a)) a (.ins C b [])) (fun v H2 => v = .non ∧ Q (.ref a) H2) (WE W σ) :=
  fun a b na nb ne => h a b _ na (Same.but (Same.new nb) na But.upd) upd_same
/-- x(k = v, ..): ks the written names, ms the lacking ones; idx: where each parameter's value stands in self, the lacking ones, the written ones -/
theorem fc_make {idx : List Nat} {ms : List (Str × V)} (c : KMaker X.prog X.w X.K X.mg X.base k x C qual st kws ps sp) (hr : Room j X.A) (hj : k + 1 ≤ j) (hg : Gl X x) (tk : Takes X W) (hkw : PK X kwe t) (hk : kws ≠ []) (hms : ∀ q ∈ ms, q ∈ kws)
    (h : ∀ (D : Addr) (doc pm : Value) (an : Option Addr) (cdv ct : Value) (us mv ws : List Value), us.length = 1 → mv.length = ms.length → ws.length = ks.length →
      KwChain D ((ms.map (·.1)).zip mv) (bindArgs (PySem.W.fnOf "__init__" qual (defArgs st) (defBody st) (defScope st) .none (.ref D) doc pm an cdv ct) ⟨us, ks.zip ws⟩) (ps.zip (pick idx (us ++ (mv ++ ws)))))
    (hall : (backToKw pos (keywordEach kwe X.env)).all (·.1.isSome) = true := by rfl) (hks : (backToKw pos (keywordEach kwe X.env)).filterMap (·.1) = ks := by rfl) (hdb : (x == ("__debug__" : Str)) = false := by decide)
    (hpl : ((backTo pos (starEach [] X.env)).any (·.1) || (backToKw pos (keywordEach kwe X.env)).any (·.1.isNone)) = false := by rfl) :
    PE X (.Call (.Name x p) [] kwe pos) (fun σ H Q => t σ H fun zs H2 => zs.length = ks.length ∧ MadeBy C sp (fun l => match l with
      | a :: zs => pick idx ([a] ++ (ms.map (·.2) ++ zs))
      | [] => []) W σ zs H2 Q) := by
  obtain ⟨f, fd, F, M, O⟩ := c.ex
  obtain ⟨mv, B⟩ := F.kbinds0 (ps := ps) 1 ks ms (fun us mv ws => pick idx (us ++ (mv ++ ws))) hk hms (fun r1 r2 r3 => vals_pick idx (r1.append (r2.append r3))) h
  refine ⟨fun pins s σ H Q J q => ?_⟩
  refine wpAny_Call_Name_kw (ld_glob J hg c.g ?_ hdb)
  refine PySem.W.callWith_KW0 (h₀ := X.base) J.ok.mod.kin M.kp hall ?_ hpl
  refine thn (hkw.run pos pins s σ H _ J q) fun ws s2 ⟨zs, H2, J2, rz, l, q2⟩ => ⟨J2.kIn, ?_⟩
  rw [hks]
  have lw : ws.length = ks.length := by rw [← rz.length, l]
  exact run_made (us := []) (gV := fun l => match l with
      | a :: zs => pick idx ([a] ++ (ms.map (·.2) ++ zs))
      | [] => []) M O (hr.mono hj) (fun s' K => B.to s' [_] ws K rfl lw) (B.rel (.cons rfl .nil) rz) (passAt tk σ) J2 q2.go
end
theorem code_fnS {X : Cx} {CX : CXT} {k : Nat} {f : Addr} {fd : FuncData} {ps : List Str} {sp : Sp} {E : L2.St → XK} {pins : List (Addr × Obj)} {σ : L2.St} {H : Hp} {s : Shared} {Q : VK} {us : List Value} {vs : List V} (F : FnOk X.prog X.w X.K X.mg X.base CX k f fd ps sp) (hr : Room k X.A) (hb : Binds X.K fd ps []) (hx : PassesAt CX X σ (E σ))
    (J : Inv X pins σ H s) (r : L2.Vals vs us) (h : sp vs H Q (E σ)) : codeAny (model X.prog X.w) X.A (.call (.ref f) ⟨us, []⟩) (fun r s' => match r with
      | .ok (.ret v) => EP X pins σ Q v s'
      | .ok _ => False
      | .error e => X.xe e s') s := by
  have n : us.length = ps.length := by rw [← r.length]; exact F.len _ _ _ _ h
  have b := hb s us J.kIn (by rw [List.append_nil]; exact n)
  rw [List.append_nil] at b
  refine codeAny_mono (F.run X.A X.stack s H ⟨us, []⟩ us vs Q (E σ) hr J.env0 b r h) fun out s' got => ?_
  match out, got with
  | .error e, got => exact hx pins H s e s' J got
  | .ok (.ret u), got => exact J.after got
  | .ok .next, got => exact False.elim got
  | .ok .brk, got => exact False.elim got
  | .ok .cont, got => exact False.elim got
/-! ### instances that are called -/
structure CallAt (K : PySem.W.Frag) (C : Addr) (qual : Str) (st : Stmt) : Prop where
  ex : ∃ f fd, Fun K "__call__" qual st f fd ∧ StX.CallO K C f
structure OCallee (P : Program) (w : World) (K : PySem.W.Frag) (mg : Str → Option Value) (base : Heap) (k : Nat) (C : Addr) (ps : List Str) (sp : Sp) : Prop where
  ex : ∃ f fd, FnOk P w K mg base (L2.CX P w) k f fd ps sp ∧ StX.CallO K C f ∧ Binds K fd ps []
theorem ocallee_of {P : Program} {w : World} {K : PySem.W.Frag} {mg : Str → Option Value} {base : Heap} {C : Addr} {qual : Str} {st : Stmt} {N ps : List Str} {k : Nat} {sp : Sp} (F : CallAt K C qual st) (S : FnScope N ps (defScope st))
    (hb : ∀ (kV doc pm : Value) (an : Option Addr) (cdv ct : Value) (us : List Value), us.length = ps.length → bindArgs (PySem.W.fnOf "__call__" qual (defArgs st) (defBody st) (defScope st) .none kV doc pm an cdv ct) ⟨us, []⟩ = pure (ps.zip us))
    (len : ∀ vs H Q E, sp vs H Q E → vs.length = ps.length)
    (hbody : ∀ (f : Addr) (cdv : Value) (A : Around) (outer : List Env) (s : Shared) (H : Hp) (vs : List V) (Q : VK) (E : XK), Room k (cxOf (L2.CX P w) P w K mg base N qual (defScope st) f cdv A outer s H E).A →
      Takes (cxOf (L2.CX P w) P w K mg base N qual (defScope st) f cdv A outer s H E) (fun cls d _ H => E cls d H) →
      PassesOwn (model P w) (cxOf (L2.CX P w) P w K mg base N qual (defScope st) f cdv A outer s H E).A (cxOf (L2.CX P w) P w K mg base N qual (defScope st) f cdv A outer s H E).env (cxOf (L2.CX P w) P w K mg base N qual (defScope st) f cdv A outer s H E).xe → sp vs H Q E →
      ∃ t, PSs (cxOf (L2.CX P w) P w K mg base N qual (defScope st) f cdv A outer s H E) (defBody st) t ∧ t { nx := fun _ H' => Q .non H', rt := Q } (start N vs) H) :
    OCallee P w K mg base (k + 1) C ps sp := by
  obtain ⟨f, fd, F, hm⟩ := F.ex
  exact ⟨f, fd, F.okX S len fun cdv A outer s H vs Q E hr h => hbody f cdv A outer s H vs Q E hr (takes_of rfl rfl rfl rfl) (passes_of rfl) h, hm, F.binds hb⟩
section
variable {X : Cx} {W : WX} {j k : Nat} {C : Addr} {ps : List Str} {sp : Sp} {pos : Pos} {fe e : Expr} {es : List Expr} {t : TA} {tf : TE}
/-- o(e, ..), o an instance -/
def tCallF (C : Addr) (sp : Sp) (W : WX) (tf : TE) (t : TA) : TE := fun σ H Q => tf σ H fun y H1 => match y with
  | .ref a => t σ H1 fun vs H2 => (∃ dx fs, H2 a = some (.ins C dx fs)) ∧ sp (.ref a :: vs) H2 Q (fun cls d H' => W cls d σ H')
  | _ => False
theorem fc_callO (c : OCallee X.prog X.w X.K X.mg X.base k C ps sp) (hr : Room j X.A) (hj : k ≤ j) (tk : Takes X W) (hf : PE X fe tf) (ha : PA X (e :: es) t)
    (ht : eval (.Call fe (e :: es) [] pos) X.env = (do callWith pos (← eval fe X.env) [] (backTo pos (starEach (e :: es) X.env)) (backToKw pos (keywordEach [] X.env))) := by rfl)
    (he : starEach (e :: es) X.env = (false, eval e X.env) :: starEach es X.env := by rfl) (hpl : (backTo pos (starEach es X.env)).any (·.1) = false := by rfl) : PE X (.Call fe (e :: es) [] pos) (tCallF C sp W tf t) := by
  obtain ⟨g, fd, F, co, hb⟩ := c.ex
  refine ⟨fun pins s σ H Q J h => Call_ (thn (hf.run pins s σ H _ J h) fun u s1 ⟨y, H1, J1, ry, q⟩ => ?_) ht⟩
  cases y <;> first | exact q.elim | skip
  rename_i a
  cases ry
  refine StX.callO_with (thn (ha.run pos pins s1 σ H1 _ J1 q) fun us s2 ⟨vs, H2, J2, r, hi, q2⟩ => ?_) he hpl
  obtain ⟨ox, od, O, hd⟩ := StX.insC_at J2 (.inr hi)
  exact ⟨⟨C, ox, od, O, hd⟩, wpAny_call (PySem.W.kco_code J2.kIn O hd co.at_ co.fn co.fi (code_fnS (us := .ref a :: us) (vs := .ref a :: vs) (E := WE W) F (hr.mono hj) hb (passAt tk σ) J2 (.cons rfl r) q2))⟩
end
/-! ### methods, functions called by keywords -/
section
variable {X : Cx} {W : WX} {j k : Nat} {C : Addr} {m x : Str} {ps : List Str} {sp : Sp} {pos apos p : Pos} {o : Expr} {kwe : List Keyword} {t : TA} {ta : TE}
/-- a method without defaults, as it stands -/
structure MKCallee (P : Program) (w : World) (K : PySem.W.Frag) (mg : Str → Option Value) (base : Heap) (k : Nat) (C : Addr) (m qual : Str) (st : Stmt) (ps : List Str) (sp : Sp) : Prop where
  ex : ∃ f fd, FnOk P w K mg base (L2.CX P w) k f fd ps sp ∧ Cls K C ∧ Meth K C m f ∧ Fun K m qual st f fd
theorem mkcallee_of {P : Program} {w : World} {K : PySem.W.Frag} {mg : Str → Option Value} {base : Heap} {C : Addr} {m qual : Str} {st : Stmt} {N ps : List Str} {k : Nat} {sp : Sp} (cl : Cls K C) (F : MethAt K C m qual st) (S : FnScope N ps (defScope st))
    (len : ∀ vs H Q E, sp vs H Q E → vs.length = ps.length)
    (hbody : ∀ (f : Addr) (cdv : Value) (A : Around) (outer : List Env) (s : Shared) (H : Hp) (vs : List V) (Q : VK) (E : XK), Room k (cxOf (L2.CX P w) P w K mg base N qual (defScope st) f cdv A outer s H E).A →
      Takes (cxOf (L2.CX P w) P w K mg base N qual (defScope st) f cdv A outer s H E) (fun cls d _ H => E cls d H) →
      PassesOwn (model P w) (cxOf (L2.CX P w) P w K mg base N qual (defScope st) f cdv A outer s H E).A (cxOf (L2.CX P w) P w K mg base N qual (defScope st) f cdv A outer s H E).env (cxOf (L2.CX P w) P w K mg base N qual (defScope st) f cdv A outer s H E).xe → sp vs H Q E →
      ∃ t, PSs (cxOf (L2.CX P w) P w K mg base N qual (defScope st) f cdv A outer s H E) (defBody st) t ∧ t { nx := fun _ H' => Q .non H', rt := Q } (start N vs) H) :
    MKCallee P w K mg base (k + 1) C m qual st ps sp := by
  obtain ⟨f, fd, F, hm⟩ := F.ex
  exact ⟨f, fd, F.okX S len fun cdv A outer s H vs Q E hr h => hbody f cdv A outer s H vs Q E hr (takes_of rfl rfl rfl rfl) (passes_of rfl) h, cl, hm, F⟩
theorem MKCallee.plain {P : Program} {w : World} {K : PySem.W.Frag} {mg : Str → Option Value} {base : Heap} {C : Addr} {m qual : Str} {st : Stmt} {ps : List Str} {k : Nat} {sp : Sp} (c : MKCallee P w K mg base k C m qual st ps sp)
    (hb : ∀ (kV doc pm : Value) (an : Option Addr) (cdv ct : Value) (us : List Value), us.length = ps.length → bindArgs (PySem.W.fnOf m qual (defArgs st) (defBody st) (defScope st) .none kV doc pm an cdv ct) ⟨us, []⟩ = pure (ps.zip us)) : MCallee P w K mg base k C m ps sp := by
  obtain ⟨f, fd, O, cl, hm, F⟩ := c.ex
  exact ⟨f, fd, O, cl, hm, F.binds hb⟩
theorem code_fnK {CX : CXT} {f : Addr} {fd : FuncData} {E : L2.St → XK} {pins : List (Addr × Obj)} {σ : L2.St} {H : Hp} {s : Shared} {Q : VK} {us : List Value} {vs : List V} {args : Args} (F : FnOk X.prog X.w X.K X.mg X.base CX k f fd ps sp) (hr : Room k X.A) (hb : BindsTo s fd args (ps.zip us)) (hx : PassesAt CX X σ (E σ))
    (J : Inv X pins σ H s) (r : L2.Vals vs us) (h : sp vs H Q (E σ)) : wpAny (model X.prog X.w) X.A (call (.ref f) args.pos args.kw) (EP X pins σ Q) X.xe s := by
  refine wpAny_call (codeAny_mono (F.run X.A X.stack s H args us vs Q (E σ) hr J.env0 hb r h) fun out s' got => ?_)
  match out, got with
  | .error e, got => exact hx pins H s e s' J got
  | .ok (.ret u), got => exact J.after got
  | .ok .next, got => exact False.elim got
  | .ok .brk, got => exact False.elim got
  | .ok .cont, got => exact False.elim got
/-- o.m(k = v, ..) -/
theorem fc_methK {qual : Str} {st : Stmt} {idx : List Nat} {ks : List Str} {pl : Sem Bool} (c : MKCallee X.prog X.w X.K X.mg X.base k C m qual st ps sp) (hr : Room j X.A) (hj : k ≤ j) (tk : Takes X W) (ho : PE X o ta) (hkw : PK X kwe t)
    (hb : ∀ (kV doc pm : Value) (an : Option Addr) (cdv ct : Value) (us ws : List Value), us.length = 1 → ws.length = ks.length → bindArgs (PySem.W.fnOf m qual (defArgs st) (defBody st) (defScope st) .none kV doc pm an cdv ct) ⟨us, ks.zip ws⟩ = pure (ps.zip (pick idx (us ++ ws))))
    (hall : (backToKw pos (keywordEach kwe X.env)).all (·.1.isSome) = true := by rfl) (hks : (backToKw pos (keywordEach kwe X.env)).filterMap (·.1) = ks := by rfl)
    (hpl : ((backTo pos (starEach [] X.env)).any (·.1) || (backToKw pos (keywordEach kwe X.env)).any (·.1.isNone)) = false := by rfl)
    (ht : eval (.Call (.Attribute o m apos) [] kwe pos) X.env = (do
      let ov ← eval o X.env; standAt apos.atName; let (f, first) ← holding [ov] (getMethod ov m pl)
      callWith pos f first (backTo pos (starEach [] X.env)) (backToKw pos (keywordEach kwe X.env))) := by rfl) :
    PE X (.Call (.Attribute o m apos) [] kwe pos) (fun σ H Q => ta σ H fun x H1 => match x with
      | .ref a => (∃ dx fs, H1 a = some (.ins C dx fs) ∧ fs.lookup m = none) ∧ t σ H1 fun zs H2 => zs.length = ks.length ∧ sp (pick idx (.ref a :: zs)) H2 Q (fun cls d H' => W cls d σ H')
      | _ => False) := by
  obtain ⟨g, fd, F, cl, hm, Fu⟩ := c.ex
  refine ⟨fun pins s σ H Q J h => PySem.W.methodCall_KW (pl := pl) (thn (ho.run pins s σ H _ J h) fun u s1 ⟨x, H1, J1, rx, q⟩ => ?_) ht⟩
  cases x <;> first | exact q.elim | skip
  rename_i a
  cases rx
  obtain ⟨⟨dx, fs, ea, l⟩, q⟩ := q
  refine getmeth_ok J1 ea cl hm l ?_
  refine PySem.W.callWith_KW0 (first := [.ref a]) (h₀ := X.base) J1.ok.mod.kin hm.kp hall ?_ hpl
  refine thn (hkw.run pos pins s1 σ H1 _ J1 q) fun ws s2 ⟨zs, H2, J2, rz, ln, q2⟩ => ⟨J2.kIn, ?_⟩
  rw [hks]
  have lw : ws.length = ks.length := by rw [← rz.length, ln]
  obtain ⟨oc, od, kV, doc, pm, an, cdv, ct, osl, rfl, _, _⟩ := Fu.ex
  exact code_fnK (E := WE W) (args := ⟨[.ref a], ks.zip ws⟩) F (hr.mono hj) (.of_eq (hb kV doc pm an cdv ct [.ref a] ws rfl lw)) (passAt tk σ) J2 (vals_pick idx (show L2.Vals (.ref a :: zs) (.ref a :: ws) from .cons rfl rz)) q2
end
/-! ### displays of dicts, all -/
section
variable {X : Cx} {pos : Pos}
def upTT (p : TE × TE) : TE × TE := (upE p.1, upE p.2)
theorem tPairs_up : ∀ (trs : List (TE × TE)) {σ : L2.St} {H : Hp} {R Q : List (V × V) → Hp → Prop}, tPairs trs σ H R → (∀ ps H', R ps H' → Q ps H') → tPairs (trs.map upTT) σ H Q
  | [], σ, H, R, Q, h, w => w _ _ h
  | (tk, tv) :: r, σ, H, R, Q, h, w => ⟨_, h, fun x H1 h1 => ⟨_, h1, fun y H2 h2 => tPairs_up r h2 fun ps H' h3 => w _ _ h3⟩⟩
theorem fps_cons {k v : Expr} {ks : List (Option Expr)} {vs : List Expr} {tk tv : TE} {trs : List (TE × TE)} (hk : PE X k tk) (hv : PE X v tv) (hr : PPs X pos ks vs (trs.map upTT)) :
    PPs X pos (some k :: ks) (v :: vs) (((tk, tv) :: trs).map upTT) := pps_cons (pe_up hk) (pe_up hv) hr
theorem fps_nil : PPs X pos [] [] (([] : List (TE × TE)).map upTT) := pps_nil
def toKs : List (V × V) → Option (List (Key × V))
  | [] => some []
  | (.str k, v) :: r => match toKs r with
    | some kvs => some ((.inr k, v) :: kvs)
    | none => none
  | (.int k, v) :: r => match toKs r with
    | some kvs => some ((.inl k, v) :: kvs)
    | none => none
  | _ :: _ => none
theorem toKs_ok : ∀ {ps : List (V × V)} {kvs : List (Key × V)}, toKs ps = some kvs → ps = kvs.map fun kv => (kV kv.1, kv.2)
  | [], kvs, h => by cases h; rfl
  | (k, v) :: r, kvs, h => by
    cases k <;> unfold toKs at h <;> try cases h
    all_goals
      cases z : toKs r with
      | none => rw [z] at h; cases h
      | some k2 =>
        rw [z] at h
        cases h
        rw [List.map_cons, ← toKs_ok z]
        rfl
/-- {k: v, ..} -/
def fDisp (trs : List (TE × TE)) : TE := fun σ H Q => ∀ p H1, H p = none → Same H H1 → H1 p = some (.dK []) → tPairs trs σ H1 fun ps H2 => H2 p = some (.dK []) ∧ match toKs ps with
  | some kvs => kvs.length ≤ 15 ∧ ∀ H3, But p H2 H3 → H3 p = some (.dK (mergeK [] kvs)) → Q (.ref p) H3
  | none => False
theorem fe_disp {keys : List (Option Expr)} {values : List Expr} {trs : List (TE × TE)} (h : PPs X pos keys values (trs.map upTT)) (hall : keys.all (·.isSome) = true) (hl : keys.length = values.length) (h0 : keys ≠ [])
    (h15 : keys.length ≤ 15) : PE X (.Dict keys values pos) (fDisp trs) := pe_imp (pe_disp h hall hl h0 h15) fun σ H Q q p np => tPairs_up trs (q p _ np (Same.new np) upd_same) fun ps H2 ⟨e, r⟩ => by
  refine ⟨e, ?_⟩
  split at r
  · rename_i kvs ek
    exact ⟨kvs, toKs_ok ek, r.1, r.2 _ But.upd upd_same⟩
  · exact r.elim
theorem fe_d0 : PE X (.Dict [] [] pos) (fun _ H Q => Fresh H (.dK []) Q) := pe_imp pe_dnewK fun σ H Q q => q.go
end
theorem TyX.same {K : PySem.W.Frag} {H H' : Hp} {v : V} {t : Value} (s : Same H H') (h : TyX K H v t) : TyX K H' v t := by
  cases h with
  | base b =>
    cases b with
    | non => exact .base .non
    | bl b => exact .base (.bl b)
    | int b => exact .base (.int b)
    | str b => exact .base (.str b)
    | flt b => exact .base (.flt b)
    | lst e => exact .base (.lst (s _ _ e))
    | frz e => exact .base (.frz (s _ _ e))
    | tup e => exact .base (.tup (s _ _ e))
    | dK e => exact .base (.dK (s _ _ e))
    | dT e => exact .base (.dT (s _ _ e))
    | ins e cl ha hn htk => exact .base (.ins (s _ _ e) cl ha hn htk (by assumption))
  | byt b => exact .byt b
  | set e => exact .set (s _ _ e)
  | kList e c => exact .kList e c
  | kTuple e c => exact .kTuple e c
  | kDict e c => exact .kDict e c
  | fTuple e => exact .fTuple (s _ _ e)
  | fDict e => exact .fDict (s _ _ e)
theorem RefTy.same {K : PySem.W.Frag} {H H' : Hp} {a : Addr} {c : Value} {b : Bool} (s : Same H H') (h : RefTy K H a c b) : RefTy K H' a c b := by
  obtain ⟨t, x, k⟩ := h
  exact ⟨t, TyX.same s x, k⟩
/-- a thing of any kind that is handed in: no int, no text if it is an object -/
def AnyV (K : PySem.W.Frag) (H : Hp) : V → Prop
  | .non => True
  | .bl _ => True
  | .int _ => True
  | .str z => z.length ≤ 100000
  | .ref a => RefTy K H a (.type "int") false ∧ RefTy K H a (.type "str") false
  | _ => False
theorem AnyV.same {K : PySem.W.Frag} {H H' : Hp} {v : V} (s : Same H H') (h : AnyV K H v) : AnyV K H' v := by
  cases v with
  | ref a => exact ⟨RefTy.same s h.1, RefTy.same s h.2⟩
  | _ => exact h
/-- an invariant of a loop over pairs -/
theorem LoopZ.by {st : Hp → Prop} {g : TG} {tb : TS} {D : Ends} (Pv : List (V × V) → L2.St → Hp → Prop)
    (hs : ∀ x r σ H, Pv (x :: r) σ H → ∀ N : L2.St → Hp → Prop, (∀ σ' H', st H' → Pv r σ' H' → N σ' H') → ∀ T H', H T = none → Same H H' → H' T = some (.tup [x.1, x.2]) → g (.ref T) σ H' fun σ2 H2 => tb { D with nx := N, ct := N, bk := D.nx } σ2 H2)
    (hd : ∀ σ H, Pv [] σ H → D.nx σ H) : ∀ (xs : List (V × V)) (σ : L2.St) (H : Hp), Pv xs σ H → LoopZ st g tb D xs σ H
  | [], σ, H, h => hd σ H h
  | x :: r, σ, H, h => hs x r σ H h _ fun σ' H' a b => ⟨a, LoopZ.by Pv hs hd r σ' H' b⟩
theorem sz_le {n : Nat} (h : n ≤ 16000000) : n ≤ sizeLine := Nat.le_trans h (by rw [sizeLine_eq]; decide)
theorem sz_lt {n : Nat} (h : n ≤ 16000000) : n < sizeLine := Nat.lt_of_le_of_lt h (by rw [sizeLine_eq]; decide)
theorem ix_imp {X : Cx} {r r' : R2} (h : IxR X r) (w : ∀ x y H Q, r' x y H Q → r x y H Q) : IxR X r' := fun value slice pins s σ H x y v u Q I rx ry q hs => h value slice pins s σ H x y v u Q I rx ry (w _ _ _ _ q) hs
/-- d[k], d a dict of the module -/
theorem f_ixK {X : Cx} {d : Addr} {kvs : List (Str × V)} (T : KTab X.K X.w d kvs) : IxR X (fItK d kvs) := ix_imp ix_kdict fun x y H Q q => by
  obtain ⟨es, n, D, f⟩ := T.ex
  obtain ⟨rfl, q⟩ := q
  cases y <;> first | exact q.elim | skip
  rename_i z
  obtain ⟨v, e, q⟩ := q
  obtain ⟨r, e2, rel⟩ := f z
  rw [e] at rel
  cases r with
  | none => exact rel.elim
  | some u => exact ⟨_, z, v, rfl, rfl, ⟨es, n, u, D.at_, D.lit, e2, rel⟩, q⟩
/-- all(a list of bools), any -/
def blOf : List V → Option (List Bool)
  | [] => some []
  | .bl b :: r => (blOf r).map (b :: ·)
  | _ :: _ => none
theorem blOf_ok : ∀ {xs : List V} {bs : List Bool}, blOf xs = some bs → xs = bs.map V.bl
  | [], bs, h => by cases h; rfl
  | x :: r, bs, h => by
    cases x <;> unfold blOf at h <;> try cases h
    cases z : blOf r with
    | none => rw [z] at h; cases h
    | some b2 =>
      rw [z] at h
      cases h
      rw [List.map_cons, ← blOf_ok z]
def fAll (K : PySem.W.Frag) (f : List Bool → Bool) : List V → Hp → VK → Prop := fun xs H Q => match xs with
  | [.ref a] => ∃ ys bs, SqL K H a ys ∧ ys = bs.map V.bl ∧ Q (.bl (f bs)) H
  | _ => False
theorem f_all {X : Cx} (hc : X.calm = true) : CallR X (.builtin "all") (fAll X.K fun bs => bs.all id) := call_imp (cr_all hc) fun xs H Q q => by
  unfold fAll at q
  split at q
  · obtain ⟨ys, bs, h, rfl, q⟩ := q
    exact ⟨_, bs, rfl, h, q⟩
  · exact q.elim
theorem f_any {X : Cx} (hc : X.calm = true) : CallR X (.builtin "any") (fAll X.K fun bs => bs.any id) := call_imp (cr_any hc) fun xs H Q q => by
  unfold fAll at q
  split at q
  · obtain ⟨ys, bs, h, rfl, q⟩ := q
    exact ⟨_, bs, rfl, h, q⟩
  · exact q.elim
theorem Same.no {H H' : Hp} {p : Addr} (s : Same H H') (n : H' p = none) : H p = none := by
  cases h : H p with
  | none => rfl
  | some o =>
    rw [s _ _ h] at n
    cases n
/-- what follows is shown once, behind several roads -/
theorem meet {A : Prop} {G : Addr → Hp → Prop} (Pc : Addr → Hp → Prop) (h1 : (∀ a H, Pc a H → G a H) → A) (h2 : ∀ a H, Pc a H → G a H) : A := h1 h2
/-- each item by a function, of items that do -/
theorem Comp.mapP {st : Hp → Prop} {g : TG} {te : TE} {vs : List Nat} {σ : L2.St} {D : Addr} {Q : Hp → Prop} {H0 : Hp} (Px : V → Prop) (f : V → V) (n0 : H0 D = none) (hst : ∀ H, Same H0 H → st H)
    (hx : ∀ (x : V) (H : Hp) (R : VK), Px x → Same H0 H → (∀ H', Same H H' → R (f x) H') → g x (wipe σ vs) H fun σ2 H2 => wipe σ2 vs = wipe σ vs ∧ te σ2 H2 R) :
    ∀ (xs : List V) (acc : List V) (H : Hp), (∀ x ∈ xs, Px x) → acc.length + xs.length ≤ sizeLine → Same H0 H → H D = some (.lst acc) → (∀ H', Same H0 H' → H' D = some (.lst (acc ++ xs.map f)) → Q H') → Comp st g tYes te vs σ D Q xs H
  | [], acc, H, _, _, s, hD, q => q H s (by rw [List.map_nil, List.append_nil]; exact hD)
  | x :: r, acc, H, hp, hl, s, hD, q => by
    rw [List.length_cons] at hl
    have k := hx x H (fun y H4 => ∃ acc, H4 D = some (.lst acc) ∧ acc.length < sizeLine ∧ st (upd H4 D (.lst (acc ++ [y]))) ∧ Comp st g tYes te vs σ D Q r (upd H4 D (.lst (acc ++ [y])))) (hp x (List.mem_cons_self ..)) s fun H' s' => by
      have s2 : Same H0 (upd H' D (.lst (acc ++ [f x]))) := Same.but (s.trans s') n0 But.upd
      refine ⟨acc, s' _ _ hD, by omega, hst _ s2, ?_⟩
      refine Comp.mapP Px f n0 hst hx r (acc ++ [f x]) _ (fun y hy => hp y (List.mem_cons_of_mem _ hy)) (by rw [List.length_append, List.length_singleton]; omega) s2 upd_same fun H2 s3 e => q H2 s3 ?_
      rw [e, List.append_assoc]
      rfl
    exact k
/-! ### the same in a comprehension's own block: K written -/
section
variable {X : Cx} (K : PySem.W.Frag) (hK : X.K = K := by rfl)
include hK
theorem f_ixB : IxR X (fIx K) := hK ▸ f_ix
theorem f_lenB : CallR X (.builtin "len") (fLen K) := hK ▸ f_len
theorem f_isintB : CallR X (.builtin "isinstance") (fIsTy K "int") := hK ▸ f_isint
theorem f_isstrB : CallR X (.builtin "isinstance") (fIsTy K "str") := hK ▸ f_isstr
theorem f_istupB : CallR X (.builtin "isinstance") (fIsTy K "tuple") := hK ▸ f_istup
theorem f_listB : CallR X (.type "list") (fList K) := hK ▸ f_list
theorem f_tupleB : CallR X (.type "tuple") (fTuple K) := hK ▸ f_tuple
theorem f_slLB : SlR X (fSlL K) := hK ▸ f_slL
theorem f_inQB : OpR X (compareOp .In) (fInQ K false) := hK ▸ f_inQ
theorem f_notInQB : OpR X (compareOp .NotIn) (fInQ K true) := hK ▸ f_notInQ
theorem f_joinB : MtR X "str.join" (fJoin K) := hK ▸ f_join
end
/-- a def of the module whose code object is known -/
structure FunC (K : PySem.W.Frag) (mg : Str → Option Value) (x : Str) (st : Stmt) (c : Addr) : Prop where
  ex : ∃ (f : Addr) (oc : Value) (od : Option Addr) (kV doc pm : Value) (an : Option Addr) (ct : Value) (osl : Array (Option Value)),
    K.lookup f = some ⟨oc, od, .func (PySem.W.fnOf x x (defArgs st) (defBody st) (defScope st) .none kV doc pm an (.ref c) ct), osl⟩ ∧ PySem.W.codeIn K (.ref c) x = true ∧ PySem.W.keepIn K (.ref f) = true ∧ mg x = some (.ref f)
end Fg

set_option Elab.async false
set_option linter.all false
set_option maxRecDepth 100000
set_option maxHeartbeats 4000000
namespace Fg
open PySem PySem.Spec PyProof.Rows L2
/-! ### zip of any two: lists, tuples, texts -/
inductive Sd where
  | L (a : Addr)
  | T (a : Addr)
  | S (z : Str)
def Sd.has (K : PySem.W.Frag) (H : Hp) : Sd → List V → Prop
  | .L a => SqL K H a
  | .T a => SqT K H a
  | .S z => fun xs => xs = signs z
def Sd.v : Sd → V
  | .L a => .ref a
  | .T a => .ref a
  | .S z => .str z
def Sd.src : Sd → List Addr
  | .L a => [a]
  | .T a => [a]
  | .S _ => []
/-- its iterator at i1, behind i turns -/
def Sd.itr (i1 : Addr) (t : Tok) (i : Nat) (h : Heap) : Sd → Prop
  | .L a => h.IsListIter i1 a i
  | .T a => h.IsTupleIter i1 a i
  | .S z => h.IsStrIter i1 (strIterType z) z t i
theorem Sd.itr_at {d : Sd} {i1 : Addr} {t : Tok} {i : Nat} {h h' : Heap} (s : d.itr i1 t i h) (k : ∀ o, h.get? i1 = some o → h'.get? i1 = some o) : d.itr i1 t i h' := by
  cases d with
  | L a => exact Heap.IsListIter.at s k
  | T a => exact Heap.IsTupleIter.at s k
  | S z => obtain ⟨o, e, q⟩ := s; exact ⟨o, k o e, q⟩
theorem Sd.itr_ob {d : Sd} {i1 : Addr} {t : Tok} {i : Nat} {h : Heap} (s : d.itr i1 t i h) : ∃ o, h.get? i1 = some o ∧ ∀ v, o.data ≠ .cell v := by
  cases d with
  | L a => obtain ⟨o, e, _, q⟩ := s; exact ⟨o, e, fun v z => by rw [q] at z; cases z⟩
  | T a => obtain ⟨o, e, _, q⟩ := s; exact ⟨o, e, fun v z => by rw [q] at z; cases z⟩
  | S z => obtain ⟨o, e, _, q⟩ := s; exact ⟨o, e, fun v z => by rw [q] at z; cases z⟩
section
variable {X : Cx} {pins : List (Addr × Obj)} {σ : L2.St} {H : Hp} {s : Shared}
theorem Sd.inj {d : Sd} (I : Inv X pins σ H s) {xs ys : List V} (h : d.has X.K H xs) (h' : d.has X.K H ys) : xs = ys := by
  cases d with
  | L a => exact I.list_inj h h'
  | T a => exact I.tuple_inj h h'
  | S z => exact (show xs = signs z from h).trans (show ys = signs z from h').symm
/-- what such an iterator draws, from here on -/
theorem Sd.draws {d : Sd} (I : Inv X pins σ H s) (hc : X.calm = true) {xs : List V} (h : d.has X.K H xs) (i1 : Addr) (t : Tok) (ne : ∀ a ∈ d.src, a ≠ i1) :
    ∃ (Pv : Nat → Value → Prop) (St : Nat → Heap → Prop), Draws X.prog X.w X.A.in1 i1 (i1 :: d.src) xs.length Pv St ∧ (∀ i h, St i h → d.itr i1 t i h) ∧ (∀ i, d.itr i1 t i s.heap → St i s.heap) ∧
      ∀ i u, Pv i u → ∃ x, xs[i]? = some x ∧ RelV x u := by
  have hh : X.A.in1.handled = none := I.ok.hd hc
  have fwd : ∀ {its : List Value} (r : Vals xs its) (i : Nat) (u : Value), its.toArray[i]? = some u → ∃ x, xs[i]? = some x ∧ RelV x u := fun {its} r i u e => by
    rcases vals_nth r i with ⟨_, b⟩ | ⟨x, w, a, b, c⟩
    · rw [List.getElem?_toArray, b] at e; cases e
    · rw [List.getElem?_toArray, b] at e
      cases e
      exact ⟨x, a, c⟩
  cases d with
  | L a =>
    obtain ⟨its, r, p, _⟩ := I.list h
    have D := Draws.list (prog := X.prog) (w := X.w) hh i1 a (ne a (List.mem_singleton.mpr rfl)) its.toArray
    rw [show its.toArray.size = xs.length by rw [List.size_toArray, r.length]] at D
    exact ⟨_, _, D, fun i h q => q.1, fun i q => ⟨q, p.isList⟩, fun i u e => fwd r i u e⟩
  | T a =>
    obtain ⟨its, r, p, _⟩ := I.tuple h
    have D := Draws.tuple (prog := X.prog) (w := X.w) hh i1 a (ne a (List.mem_singleton.mpr rfl)) its.toArray
    rw [show its.toArray.size = xs.length by rw [List.size_toArray, r.length]] at D
    exact ⟨_, _, D, fun i h q => q.1, fun i q => ⟨q, p⟩, fun i u e => fwd r i u e⟩
  | S z =>
    have D := Draws.text (prog := X.prog) (w := X.w) hh i1 z t
    have ex : xs = signs z := h
    rw [show z.cps.size = xs.length by rw [ex]; simp [signs]] at D
    refine ⟨_, _, D, fun i h q => q, fun i q => q, fun i u e => ?_⟩
    obtain ⟨c, tk, ec, rfl⟩ := e
    refine ⟨.str ⟨#[c]⟩, ?_, tk, rfl⟩
    rw [ex]
    unfold signs
    rw [List.getElem?_map, Array.getElem?_toList, ec]
    rfl
end
/-- both as they stand at each turn, the items in new pairs -/
def ItM (K : PySem.W.Frag) (d1 d2 : Sd) : It :=
  ⟨fun i H => ∃ xs ys : List V, d1.has K H xs ∧ d2.has K H ys ∧ i < xs.length ∧ xs.length = ys.length,
    fun i H v H' => ∃ T x y, v = .ref T ∧ H T = none ∧ H' = upd H T (.tup [x, y]) ∧ (∀ xs, d1.has K H xs → xs[i]? = some x) ∧ ∀ ys, d2.has K H ys → ys[i]? = some y,
    fun i H => ∃ xs ys : List V, d1.has K H xs ∧ d2.has K H ys ∧ i = xs.length ∧ xs.length = ys.length⟩
structure Apt (z TI TO i1 i2 : Addr) (d1 d2 : Sd) : Prop where
  TIz : TI ≠ z
  TOz : TO ≠ z
  TITO : TI ≠ TO
  TIi1 : TI ≠ i1
  TIi2 : TI ≠ i2
  zi1 : z ≠ i1
  zi2 : z ≠ i2
  TOi1 : TO ≠ i1
  TOi2 : TO ≠ i2
  i12 : i1 ≠ i2
  s1 : ∀ a ∈ d1.src, a ≠ z ∧ a ≠ TO ∧ a ≠ i1 ∧ a ≠ i2
  s2 : ∀ a ∈ d2.src, a ≠ z ∧ a ≠ TO ∧ a ≠ i1 ∧ a ≠ i2
theorem Apt.sep {z TI TO i1 i2 : Addr} {d1 d2 : Sd} (D : Apt z TI TO i1 i2 d1 d2) : ZipSep2 z TI TO i1 i2 (i1 :: d1.src) (i2 :: d2.src) where
  TIz := D.TIz
  TOz := D.TOz
  TITO := D.TITO
  TIi1 := D.TIi1
  mem1 := List.mem_cons_self ..
  zf1 := fun h => (List.mem_cons.mp h).elim D.zi1 fun h => (D.s1 z h).1 rfl
  Tf1 := fun h => (List.mem_cons.mp h).elim D.TOi1 fun h => (D.s1 TO h).2.1 rfl
  TIi2 := D.TIi2
  mem2 := List.mem_cons_self ..
  zf2 := fun h => (List.mem_cons.mp h).elim D.zi2 fun h => (D.s2 z h).1 rfl
  Tf2 := fun h => (List.mem_cons.mp h).elim D.TOi2 fun h => (D.s2 TO h).2.1 rfl
  sep1_2 := fun h => (List.mem_cons.mp h).elim D.i12 fun h => (D.s2 i1 h).2.2.1 rfl
  sep2_1 := fun h => (List.mem_cons.mp h).elim (fun e => D.i12 e.symm) fun h => (D.s1 i2 h).2.2.2 rfl
theorem turn_zipM {P : Program} {w : World} {K : PySem.W.Frag} {elts : List Expr} {kk : Nat} {tpos : Pos} {d1 d2 : Sd} {z TI TO i1 i2 : Addr} {t1 t2 : Tok} (D : Apt z TI TO i1 i2 d1 d2) :
    Turn P w K (.Tuple elts kk tpos) (ItM K d1 d2) [z, TI, TO, i1, i2] z (fun i h => IsZip h z TI TO .none ∧ IsTupOf2 h TI (.ref i1) (.ref i2) ∧ (∃ a1 a2, IsTupOf2 h TO a1 a2) ∧ d1.itr i1 t1 i h ∧ d2.itr i2 t2 i h) where
  mem := by simp
  obj := fun i h st c hc => by
    obtain ⟨hz, hTI, ⟨x, y, hTO⟩, h1, h2⟩ := st
    simp only [List.mem_cons, List.not_mem_nil, or_false] at hc
    rcases hc with rfl | rfl | rfl | rfl | rfl
    · exact ⟨_, hz, fun v q => nomatch q⟩
    · exact ⟨_, hTI, fun v q => nomatch q⟩
    · exact ⟨_, hTO, fun v q => nomatch q⟩
    · exact Sd.itr_ob h1
    · exact Sd.itr_ob h2
  keep := fun i h h' st k => by
    obtain ⟨hz, hTI, ⟨x, y, hTO⟩, h1, h2⟩ := st
    exact ⟨k z (by simp) _ hz, k TI (by simp) _ hTI, ⟨x, y, k TO (by simp) _ hTO⟩, Sd.itr_at h1 fun o q => k i1 (by simp) o q, Sd.itr_at h2 fun o q => k i2 (by simp) o q⟩
  item := by
    intro X hP hw hK hc i pins s σ H E I hf st hg
    subst hP hw hK
    obtain ⟨hz, hTI, hTO, h1, h2⟩ := st
    obtain ⟨xs, ys, q1, q2, hi, hl⟩ := hg
    obtain ⟨P1, S1, D1, f1, g1, r1⟩ := Sd.draws I hc q1 i1 t1 fun a ha => (D.s1 a ha).2.2.1
    obtain ⟨P2, S2, D2, f2, g2, r2⟩ := Sd.draws I hc q2 i2 t2 fun a ha => (D.s2 a ha).2.2.2
    have G := GoesN.zip2 (elts := elts) (x1 := kk) (pos := tpos) D.sep D1 D2
    refine G.goes i s _ E (by rw [← hl, Nat.min_self]; exact hi) ⟨hz, hTI, hTO, g1 i h1, g2 i h2⟩ fun v h' tk hY st' hk htk => ?_
    obtain ⟨T, x, y, rfl, hT, p1, p2, tup⟩ := hY
    obtain ⟨x', ex, rx⟩ := r1 i x p1
    obtain ⟨y', ey, ry⟩ := r2 i y p2
    have nT : H T = none := I.hok.fresh hT
    have new : ObjOk X.prog X.w (upd H T (.tup [x', y'])) h' T (.tup [x', y']) := ⟨by show 2 ≤ sizeLine; decide, [x, y], .cons rx (.cons ry .nil), tup⟩
    have sub : ∀ b ∈ [z, TO, i1, i2], b ∈ [z, TI, TO, i1, i2] := fun b hb => by
      simp only [List.mem_cons, List.not_mem_nil, or_false] at hb ⊢
      rcases hb with rfl | rfl | rfl | rfl
      · exact .inl rfl
      · exact .inr (.inr (.inl rfl))
      · exact .inr (.inr (.inr (.inl rfl)))
      · exact .inr (.inr (.inr (.inr rfl)))
    refine ⟨.ref T, upd H T (.tup [x', y']), I.turnedNew (t' := tk) (ch := [z, TO, i1, i2]) (fun b o hb e => hk b o hb e) (fun b hb => hf b (sub b hb)) hT new, rfl, ⟨T, x', y', rfl, nT, rfl, fun l hl => by rw [Sd.inj I hl q1]; exact ex, fun l hl => by rw [Sd.inj I hl q2]; exact ey⟩, ?_, fun b hb => ?_⟩
    · obtain ⟨a1, a2, a3, a4, a5⟩ := st'
      exact ⟨a1, a2, a3, f1 _ _ a4, f2 _ _ a5⟩
    · rw [upd_ne fun e => ?_]
      · exact (hf b hb).1
      · obtain ⟨o, ho, _⟩ : ∃ o, s.heap.get? b = some o ∧ True := by
          simp only [List.mem_cons, List.not_mem_nil, or_false] at hb
          rcases hb with rfl | rfl | rfl | rfl | rfl
          · exact ⟨_, hz, trivial⟩
          · exact ⟨_, hTI, trivial⟩
          · obtain ⟨_, _, q⟩ := hTO; exact ⟨_, q, trivial⟩
          · obtain ⟨o, q, _⟩ := Sd.itr_ob h1; exact ⟨o, q, trivial⟩
          · obtain ⟨o, q, _⟩ := Sd.itr_ob h2; exact ⟨o, q, trivial⟩
        rw [e] at ho
        exact Nat.lt_irrefl _ (Nat.lt_of_lt_of_le (Heap.lt_size ho) hT)
  done := by
    intro X hP hw hK hc i pins s σ H E I hf st hg
    subst hP hw hK
    obtain ⟨hz, hTI, hTO, h1, h2⟩ := st
    obtain ⟨xs, ys, q1, q2, rfl, hl⟩ := hg
    obtain ⟨P1, S1, D1, f1, g1, r1⟩ := Sd.draws I hc q1 i1 t1 fun a ha => (D.s1 a ha).2.2.1
    obtain ⟨P2, S2, D2, f2, g2, r2⟩ := Sd.draws I hc q2 i2 t2 fun a ha => (D.s2 a ha).2.2.2
    have G := GoesN.zip2 (elts := elts) (x1 := kk) (pos := tpos) D.sep D1 D2
    rw [← hl, Nat.min_self] at G
    refine G.stops s _ E ⟨hz, hTI, hTO, g1 _ h1, g2 _ h2⟩ fun h' tk hk htk => I.turnedL (t' := tk) (ch := [z, TO, i1, i2]) (fun b o hb e => hk b o hb e) fun b hb => hf b (by
      simp only [List.mem_cons, List.not_mem_nil, or_false] at hb ⊢
      rcases hb with rfl | rfl | rfl | rfl
      · exact .inl rfl
      · exact .inr (.inr (.inl rfl))
      · exact .inr (.inr (.inr (.inl rfl)))
      · exact .inr (.inr (.inr (.inr rfl))))
  self := fun A i s Q E st h => wpAny_pyIter_zip st.1 h
theorem apt_new (N : Nat) (d1 d2 : Sd) (h1 : ∀ a ∈ d1.src, a < N) (h2 : ∀ a ∈ d2.src, a < N) : Apt (N + 4) (N + 2) (N + 3) N (N + 1) d1 d2 where
  TIz := show (N + 2 : Nat) ≠ N + 4 by omega
  TOz := show (N + 3 : Nat) ≠ N + 4 by omega
  TITO := show (N + 2 : Nat) ≠ N + 3 by omega
  TIi1 := show (N + 2 : Nat) ≠ N by omega
  TIi2 := show (N + 2 : Nat) ≠ N + 1 by omega
  zi1 := show (N + 4 : Nat) ≠ N by omega
  zi2 := show (N + 4 : Nat) ≠ N + 1 by omega
  TOi1 := show (N + 3 : Nat) ≠ N by omega
  TOi2 := show (N + 3 : Nat) ≠ N + 1 by omega
  i12 := show (N : Nat) ≠ N + 1 by omega
  s1 := fun a ha => by
    have q : (show Nat from a) < N := h1 a ha
    exact ⟨fun e => by rw [show (show Nat from a) = N + 4 from e] at q; omega, fun e => by rw [show (show Nat from a) = N + 3 from e] at q; omega, fun e => by rw [show (show Nat from a) = N from e] at q; omega, fun e => by rw [show (show Nat from a) = N + 1 from e] at q; omega⟩
  s2 := fun a ha => by
    have q : (show Nat from a) < N := h2 a ha
    exact ⟨fun e => by rw [show (show Nat from a) = N + 4 from e] at q; omega, fun e => by rw [show (show Nat from a) = N + 3 from e] at q; omega, fun e => by rw [show (show Nat from a) = N from e] at q; omega, fun e => by rw [show (show Nat from a) = N + 1 from e] at q; omega⟩
section
variable {X : Cx} {pins : List (Addr × Obj)} {σ : L2.St} {H : Hp} {s : Shared}
/-- how iter of such a side begins -/
theorem Sd.begins {d : Sd} (I : Inv X pins σ H s) {xs : List V} (h : d.has X.K H xs) {u : Value} (r : RelV d.v u) : ∃ (t : Tok) (o : Obj) (Hq : Heap → Prop), Begins u o Hq ∧ Hq s.heap ∧ (∀ a ∈ d.src, a < s.heap.objs.size) ∧ ∀ h' i1, h'.get? i1 = some o → d.itr i1 t 0 h' := by
  cases d with
  | L a =>
    obtain ⟨its, rv, p, _⟩ := I.list h
    cases r
    refine ⟨0, _, _, begins_list a its.toArray, p.isList, fun b hb => ?_, fun h' i1 e => ⟨_, e, rfl, rfl⟩⟩
    rw [List.mem_singleton.mp hb]
    exact p.lt
  | T a =>
    obtain ⟨its, rv, p, _⟩ := I.tuple h
    cases r
    refine ⟨0, _, _, begins_tuple a its.toArray, p, fun b hb => ?_, fun h' i1 e => ⟨_, e, rfl, rfl⟩⟩
    rw [List.mem_singleton.mp hb]
    obtain ⟨o, ho, _⟩ := p
    exact Heap.lt_size ho
  | S z =>
    obtain ⟨t, rfl⟩ := r
    exact ⟨t, _, _, begins_text z t, trivial, fun b hb => absurd hb List.not_mem_nil, fun h' i1 e => ⟨_, e, rfl, rfl⟩⟩
end
def iZipM (K : PySem.W.Frag) (ta : TA) : TI := fun σ H R => ta σ H fun vs H1 => ∃ (d1 d2 : Sd) (xs ys : List V), vs = [d1.v, d2.v] ∧ d1.has K H1 xs ∧ d2.has K H1 ys ∧ xs.length = ys.length ∧ R (ItM K d1 d2) H1
theorem pi_zipM {X : Cx} {e e2 : Expr} {ta : TA} {p pos tpos : Pos} {elts : List Expr} {kk : Nat} (hg : Gl X "zip") (hm : X.mg "zip" = none) (ha : PA X [e, e2] ta)
    (hs : starEach [e, e2] X.env = (false, eval e X.env) :: starEach [e2] X.env := by rfl) (hpl : (backTo pos (starEach [e2] X.env)).any (·.1) = false := by rfl) :
    PI X (.Tuple elts kk tpos) (.Call (.Name "zip" p) [e, e2] [] pos) (iZipM X.K ta) := by
  refine ⟨fun pins s σ H R I h => Call_ (ld_blt I hg hm PyProof.Rows.boot_zip (PyProof.Rows.callWith_type1 (thn (ha.run pos pins s σ H _ I h) fun us s1 ⟨vs, H1, I1, r1, q1⟩ => ?_) hs hpl))⟩
  obtain ⟨d1, d2, xs, ys, rfl, h1, h2, hl, q⟩ := q1
  cases r1 with
  | cons r rr =>
    cases rr with
    | cons r' rr =>
      cases rr
      obtain ⟨t1, o1, Q1, B1, b1, l1, i1⟩ := Sd.begins I1 h1 r
      obtain ⟨t2, o2, Q2, B2, b2, l2, i2⟩ := Sd.begins I1 h2 r'
      refine zip_begins2 B1 B2 b1 b2 fun h' hz hTI hTO g1 g2 hsz hk => wpAny_pyIter_zip hz ?_
      have I2 : Inv X pins σ H1 { s1 with heap := h' } := I1.kept (t' := s1.toks) hk
      refine ⟨s1.heap.objs.size + 4, [s1.heap.objs.size + 4, s1.heap.objs.size + 2, s1.heap.objs.size + 3, s1.heap.objs.size, s1.heap.objs.size + 1], _, ItM X.K d1 d2, H1, rfl, I2, turn_zipM (t1 := t1) (t2 := t2) (apt_new _ d1 d2 l1 l2), ⟨hz, hTI, ⟨_, _, hTO⟩, i1 _ _ g1, i2 _ _ g2⟩, fun c hc => ?_, q⟩
      have hle : s1.heap.objs.size ≤ c := by
        simp only [List.mem_cons, List.not_mem_nil, or_false] at hc
        rcases hc with e | e | e | e | e <;> rw [e]
        · exact Nat.le_add_right _ _
        · exact Nat.le_add_right _ _
        · exact Nat.le_add_right _ _
        · exact Nat.le_refl _
        · exact Nat.le_add_right _ _
      exact I1.fpOk hle (I1.hok.fresh hle)
section
variable {X : Cx} {g : TG} {tb : TS} {body : List Stmt} {ta : TA}
/-- for a, b in zip(t, s): a tuple and a text of one length -/
theorem fs_forZTS {e e2 : Expr} {p pos tpos : Pos} {elts : List Expr} {kk : Nat} (hp : PassesOwn (model X.prog X.w) X.A X.env X.xe) (hc : X.calm = true) (hgl : Gl X "zip") (hm : X.mg "zip" = none) (ha : PA X [e, e2] ta) (hg : PG X (.Tuple elts kk tpos) g) (hb : PSs X body tb)
    (hst : starEach [e, e2] X.env = (false, eval e X.env) :: starEach [e2] X.env := by rfl) (hpl : (backTo pos (starEach [e2] X.env)).any (·.1) = false := by rfl) (hs : ∀ x, foldedSetIterable (.Call (.Name "zip" p) [e, e2] [] pos) X.env x = pure x := by intro _; rfl) {pos' : Pos} :
    PS X (.For (.Tuple elts kk tpos) (.Call (.Name "zip" p) [e, e2] [] pos) body [] pos') (fun D σ H => ta σ H fun vs H1 => match vs with
      | [.ref a, .str z] => ∃ xs, SqT X.K H1 a xs ∧ xs.length = (signs z).length ∧ LoopZ (fun H => SqT X.K H a xs) g tb D (xs.zip (signs z)) σ H1
      | _ => False) := ps_imp (ps_for hp hc (pi_zipM hgl hm (pa_up ha) hst hpl) hg hb hs) fun D σ H q => ⟨_, q, fun vs H1 q1 => by
  split at q1
  · rename_i a z
    obtain ⟨xs, hx, hl, q⟩ := q1
    have hz : (xs.zip (signs z)).length = xs.length := by rw [List.length_zip, hl, Nat.min_self]
    refine ⟨.T a, .S z, xs, signs z, rfl, hx, rfl, hl, loopZ_it (J := ItM X.K (.T a) (.S z)) (st := fun H => SqT X.K H a xs) (fun i H hi h => ?_) (fun i H x H' h y => ?_) (fun H h => ?_) hx q⟩
    · rw [hz] at hi
      exact ⟨xs, signs z, h, rfl, hi, hl⟩
    · obtain ⟨T, x1, x2, rfl, nT, rfl, f1, f2⟩ := y
      refine ⟨T, rfl, nT, fun p hp => ?_⟩
      rw [List.getElem?_zip_eq_some] at hp
      have e1 := (f1 _ h).symm.trans hp.1
      have e2 := (f2 (signs z) rfl).symm.trans hp.2
      rw [Option.some.inj e1, Option.some.inj e2]
    · exact ⟨xs, signs z, h, rfl, hz, hl⟩
  · exact q1.elim⟩
end
/-! ### set(a list of ints), sorted of it -/
end Fg
namespace L2
open PySem PySem.Spec PyProof.Rows
abbrev nSet (w : World) : Obj := { cls := .type "set", dict := none, data := .set #[] 0 (.fresh 0 0 (!w.params.followText "set-order")) }
set_option maxHeartbeats 6400000 in
theorem fset_list {P : Program} {w : World} {A : Around} {E : Value → Shared → Prop} {s : Shared} {l : Addr} {items : Array Value} (ns : List Int) {Q : Value → Shared → Prop} (hh : A.handled = none) (hl : s.heap.IsList l items) (hi : IntsAre items.toList ns) (hb : ns.length + 1 < scanBound)
    (h : ∀ (h' : Heap) (tk c : Nat), SetR w h' s.heap.objs.size (fun j => decide (j ∈ ns)) c → c ≤ ns.length → (∀ b o, s.heap.get? b = some o → h'.get? b = some o) → Q (.ref s.heap.objs.size) { s with heap := h', toks := tk }) :
    wpAny (model P w) A (call (.type "set") [.ref l]) Q E s := by
  have sz : items.size = ns.length := by simpa using hi.length
  have lt : l < s.heap.objs.size := hl.elim fun _ z => Heap.lt_size z.1
  have new : (s.heap.push (nSet w)).get? s.heap.objs.size = some (nSet w) := Heap.get?_push_size _ rfl
  have ty : Shared.TypeIs { s with heap := s.heap.push (nSet w) } (.ref s.heap.objs.size) "set" := ⟨_, new, rfl⟩
  obtain ⟨c0, tl0, mro⟩ := F.called_set.mro
  have made := F.called_set.made
  have sub := F.called_set.sub
  have ht := F.called_set.notType
  have cc := F.called_set.canCreate
  have tc := F.typeCall_set_1 (.ref l)
  have il := F.called_set.init.lookup
  have ib := F.called_set.init.bind (.ref s.heap.objs.size)
  refine wpAny_call (codeAny_of_tree ?_)
  show wpAny _ _ (callAny (.type "set") _) _ _ _
  refine wpAny_pure ⟨Code.quiet_builtin _ (by decide +kernel), codeAny_builtin F.entry_type_call ?_⟩
  rw [Around.under_plain (weight_type_call_type "set" [.ref l] []) rfl]
  repeat (any_goals (first | assumption | wp_step))
  refine codeAny_mono (code_set_led1 (.ref l) (E := E) (Q₁ := fun obj s₁ => obj = .ref s.heap.objs.size ∧ s₁ = { s with heap := s.heap.push (nSet w) }) ⟨rfl, rfl⟩) fun r s₁ hr => ?_
  match r, hr with
  | .error e, hr => exact hr
  | .ok .next, hr => exact hr.elim
  | .ok .brk, hr => exact hr.elim
  | .ok .cont, hr => exact hr.elim
  | .ok (.ret obj), hr =>
    obtain ⟨rfl, rfl⟩ := hr
    repeat (any_goals (first | assumption | wp_step))
    refine codeAny_mono (codeAny_call_builtin (R := wants (fun r s₂ => r = .none ∧ ∃ h' tk c, s₂ = { s with heap := h', toks := tk } ∧ SetR w h' s.heap.objs.size (fun j => decide (j ∈ ns)) c ∧ c ≤ ns.length ∧ ∀ b o, s.heap.get? b = some o → h'.get? b = some o) E)
      F.called_set.init.plain F.entry_set_init (check_set_init_1 ty ?_)) fun r₂ s₂ hr₂ => ?_
    · obtain ⟨⟨oc, od, odt, osl⟩, ol, hc, nl, hd⟩ := hl
      simp only at hc hd
      subst hc hd
      have ol2 : (s.heap.push (nSet w)).get? l = some { cls := .type "list", dict := od, data := .seq items nl, slots := osl } := Heap.get?_push_of_some _ ol
      have sl := F.sub_list_set
      have sf := F.sub_list_frozenset
      have nd : (Value.type "list" == Value.type "dict") = false := by decide
      have il2 : (s.heap.push (nSet w)).IsList l items := ⟨_, ol2, rfl, nl, rfl⟩
      have h3 : A.in1.in1.in1.handled = none := hh
      have s1 : (s.heap.push (nSet w)).objs.size = s.heap.objs.size + 1 := Heap.size_push ..
      have nI : l ≠ (s.heap.push (nSet w)).objs.size := by rw [s1]; exact Nat.ne_of_lt (Nat.lt_succ_of_lt lt)
      have nS : s.heap.objs.size ∉ [(s.heap.push (nSet w)).objs.size, l] := by
        rw [s1]
        simp only [List.mem_cons, List.not_mem_nil, or_false, not_or]
        exact ⟨Nat.ne_of_lt (Nat.lt_succ_self _), Nat.ne_of_gt lt⟩
      have val : ∀ (i : Nat) (v : Value), items[i]? = some v → ∃ k t, ns[i]? = some k ∧ v = .int k t := fun i v hv => by
        have q : i < ns.length := sz ▸ (Array.getElem?_eq_some_iff.mp hv).1
        obtain ⟨t, e⟩ := PyProof.Rows.IntsAre.int_at hi i v (by rw [Array.getElem?_toList]; exact hv)
        exact ⟨ns[i], t, List.getElem?_eq_getElem q, by rw [e, List.getD_eq_getElem?_getD, List.getElem?_eq_getElem q]; rfl⟩
      unfold Builtin.«set.__init__» noKeywords Builtin.Frozenset.updateFrom
      generalize hp : pyIter = PI
      wp_walk
      subst hp
      refine wpAny_pyIter_list il2 (wpAny_bind (wpAny_runValue ?_))
      refine set_update_ints (Walks.toS (Walks.list h3 _ l nI items)) s.heap.objs.size nS ns sz hb val (items.size - 0) 0 _ (by omega) (Nat.zero_le _) ⟨⟨_, Heap.get?_push_size _ rfl, rfl, rfl⟩, il2.push _⟩ ⟨0, Nat.le_refl 0, setR_new_at (Heap.get?_push_of_some _ new)⟩ ?_
      rintro ⟨h', g', d', tk', os'⟩ c' hm hc' hS'
      obtain rfl : g' = s.gens := hm.gens
      obtain rfl : d' = s.drawn := hm.drawn
      obtain rfl : os' = s.os := hm.os
      refine wpAny_pure (show wpAny _ _ (ret Value.none) _ _ _ from wpAny_pure ⟨rfl, h', tk', c', rfl, hS', sz ▸ hc', fun b o e => ?_⟩)
      have b0 := Heap.lt_size e
      refine hm.heap b o ?_ (Heap.get?_push_of_some _ (Heap.get?_push_of_some _ e))
      rw [s1]
      simp only [List.mem_cons, List.not_mem_nil, or_false, not_or]
      exact ⟨Nat.ne_of_lt b0, Nat.ne_of_lt (Nat.lt_succ_of_lt b0)⟩
    · match r₂, hr₂ with
      | .error e, hr₂ => exact hr₂
      | .ok .next, hr₂ => exact hr₂.elim
      | .ok .brk, hr₂ => exact hr₂.elim
      | .ok .cont, hr₂ => exact hr₂.elim
      | .ok (.ret r), hr₂ =>
        obtain ⟨rfl, h', tk, c, rfl, hS', hc', hk'⟩ := hr₂
        repeat (any_goals (first | assumption | wp_step))
        exact h _ _ _ hS' hc' hk'
end L2
namespace Fg
open PySem PySem.Spec PyProof.Rows L2
section
variable {X : Cx}
def fSetI (K : PySem.W.Frag) (w : World) : List V → Hp → VK → Prop := fun xs H Q => match xs with
  | [.ref l] => ∃ ns : List Int, SqL K H l (ns.map V.int) ∧ ns.length ≤ 60 ∧ ∀ p H', H p = none → Same H H' → (∃ n, n ≤ ns.length ∧ H' p = some (SetO w p (fun j => decide (j ∈ ns)) n)) → Q (.ref p) H'
  | _ => False
theorem f_setI (hc : X.calm = true) : CallR X (.type "set") (fSetI X.K X.w) := by
  intro pins s σ H xs us Q I r q
  unfold fSetI at q
  split at q
  · obtain ⟨ns, hs, hl, q⟩ := q
    obtain ⟨its, rv, p, _⟩ := I.list hs
    rw [Vals.ref1 r]
    have hb : ns.length + 1 < scanBound := by unfold scanBound; omega
    refine fset_list ns (I.ok.hd hc) p.isList (ints_of_vals rv) hb fun h' tk c R hcn k => ?_
    have np := I.hok.fresh (Nat.le_refl s.heap.objs.size)
    exact ⟨.ref s.heap.objs.size, _, I.laid (t' := tk) k (Nat.le_refl _) (setO_new R), rfl, q _ _ np (Same.new np) ⟨c, hcn, upd_same⟩⟩
  · exact q.elim
def fSortedSet (w : World) : List V → Hp → VK → Prop := fun xs H Q => match xs with
  | [.ref a] => ∃ S n, H a = some (SetO w a S n) ∧ n < 64 ∧ ∀ ns : List Int, ns.Pairwise (· < ·) → (∀ k : Int, k ∈ ns ↔ S k = true) → Fresh H (.lst (ns.map V.int)) Q
  | _ => False
theorem f_sortedSet (hc : X.calm = true) : CallR X (.builtin "sorted") (fSortedSet X.w) := call_imp (cr_sortedSet hc) fun xs H Q q => by
  unfold fSortedSet at q
  split at q
  · obtain ⟨S, n, h, hn, q⟩ := q
    exact ⟨_, S, n, rfl, h, hn, fun ns p h1 h2 _ np => (q ns h1 h2).go p np⟩
  · exact q.elim
def fSortedI (K : PySem.W.Frag) : List V → Hp → VK → Prop := fun xs H Q => match xs with
  | [.ref a] => ∃ ns : List Int, SqL K H a (ns.map V.int) ∧ ∀ ns' : List Int, ns'.Perm ns → ns'.Pairwise (· ≤ ·) → Fresh H (.lst (ns'.map V.int)) Q
  | _ => False
theorem f_sortedI : CallR X (.builtin "sorted") (fSortedI X.K) := call_imp cr_sortedI fun xs H Q q => by
  unfold fSortedI at q
  split at q
  · obtain ⟨ns, h, q⟩ := q
    exact ⟨_, ns, rfl, h, fun ns' p h1 h2 np => (q ns' h1 h2).go p np⟩
  · exact q.elim
def fIntS : List V → Hp → VK → Prop := fun xs H Q => match xs with
  | [.str a] => ∃ n, PySem.intText? a = some n ∧ a.length ≤ 640 ∧ Q (.int n) H
  | _ => False
theorem f_intS : CallR X (.type "int") fIntS := call_imp call_int_str fun xs H Q q => by
  unfold fIntS at q
  split at q
  · obtain ⟨n, h, hl, q⟩ := q
    exact ⟨_, n, rfl, h, hl, q⟩
  · exact q.elim
/-- d.get(k, x), k a text -/
def fDGetOr (td ty tx : TE) : TE := fun σ H Q => td σ H fun x H1 => match x with
  | .ref a => (∃ kvs, H1 a = some (.dK kvs)) ∧ ty σ H1 fun y H2 => tx σ H2 fun z H3 => match y with
    | .str k => ∃ kvs, H3 a = some (.dK kvs) ∧ Q ((valV kvs (Sum.inr k : Key)).getD z) H3
    | _ => False
  | _ => False
theorem fe_dgetOr {o e f : Expr} {td ty tx : TE} {apos cpos : Pos} (hu : X.A.units + 1 < cLine) (ho : PE X o td) (he : PE X e ty) (hf : PE X f tx) (m : M2 X o "get" apos e f cpos := by exact ⟨rfl, rfl, rfl, rfl⟩) :
    PE X (.Call (.Attribute o "get" apos) [e, f] [] cpos) (fDGetOr td ty tx) := pe_imp (pe_dget2 hu (pe_up ho) (pe_up he) (pe_up hf) m) fun σ H Q q => ⟨_, q, fun x H1 q1 => by
  split at q1
  · obtain ⟨⟨kvs, h⟩, q1⟩ := q1
    refine ⟨_, rfl, .inl ⟨kvs, .inl h⟩, _, q1, fun y H2 q2 => ⟨_, q2, fun z H3 q3 => ?_⟩⟩
    split at q3
    · obtain ⟨kvs, h3, q3⟩ := q3
      exact ⟨_, DGet.k (k := Sum.inr _) h3, q3⟩
    · exact q3.elim
  · exact q1.elim⟩
end
end Fg

set_option Elab.async false
set_option linter.all false
set_option maxRecDepth 100000
set_option maxHeartbeats 4000000
namespace Fg
open PySem PySem.Spec PyProof.Rows L2
/-! ### C.m(..), m a staticmethod of the class C -/
/-- C.m is a staticmethod: its record at p, its def at g -/
structure SMet (K : PySem.W.Frag) (C : Addr) (m : Str) (p g : Addr) : Prop where
  at_ : PySem.W.findCls K (.ref C) (.type "type") m = some (.get (.builtin "staticmethod.__get__") (.ref p) .none (.ref C))
  rc : ∃ rest, PySem.W.recIn K p "staticmethod" = some (.ref g :: rest)
def tSMeth (C : Addr) (sp : Sp) (E : L2.St → XK) (ta : TE) (t : TA) : TE := fun σ H Q => ta σ H fun x H1 => x = .ref C ∧ t σ H1 fun vs H2 => sp vs H2 Q (E σ)
section
variable {X : Cx} {CX : CXT} {k : Nat} {C p g : Addr} {sp : Sp} {E : L2.St → XK} {o e : Expr} {es : List Expr} {m : Str} {pos apos : Pos} {ta : TE} {t : TA} {pl : Sem Bool} {fd : FuncData} {ps : List Str}
theorem getsm_ok {pins : List (Addr × Obj)} {σ : L2.St} {H : Hp} {s : Shared} {A : Around} {Ev : Value → Shared → Prop} {Q : Value × List Value → Shared → Prop} (I : Inv X pins σ H s) (r : ClX.CRead X.K C (.type "type")) (c : SMet X.K C m p g)
    (h : ∀ s', Inv X pins σ H s' → Q (.ref g, []) s') : wpAny (model X.prog X.w) A (getMethod (.ref C) m pl) Q Ev s := by
  obtain ⟨rest, hp⟩ := c.rc
  refine PySem.W.method_cls I.kIn r.ga (PySem.W.cls_bind I.kIn r.rd c.at_ ?_)
  refine wpAny_call (PySem.W.sm_get (s := { s with toks := s.toks + 1 }) I.kIn hp (PySem.W.handed_on rfl ?_))
  exact h _ (I.tok _)
theorem pe_smeth (he : PE X o ta) (r : ClX.CRead X.K C (.type "type")) (c : SMet X.K C m p g) (F : FnOk X.prog X.w X.K X.mg X.base CX k g fd ps sp) (hr : Room k X.A) (hk : PySem.W.keepIn X.K (.ref g) = true) (hb : Binds X.K fd ps []) (hx : ∀ σ, PassesAt CX X σ (E σ)) (ha : PA X (e :: es) t)
    (hst : starEach (e :: es) X.env = (false, eval e X.env) :: starEach es X.env := by rfl) (hpl : (backTo pos (starEach es X.env)).any (·.1) = false := by rfl)
    (ht : eval (.Call (.Attribute o m apos) (e :: es) [] pos) X.env = (do
      let ov ← eval o X.env
      standAt apos.atName
      let (f, first) ← holding [ov] (getMethod ov m pl)
      callWith pos f first (backTo pos (starEach (e :: es) X.env)) (backToKw pos (keywordEach [] X.env))) := by rfl) :
    PE X (.Call (.Attribute o m apos) (e :: es) [] pos) (tSMeth C sp E ta t) := by
  refine ⟨fun pins s σ H Q I h => ?_⟩
  refine PySem.W.methodCall_KW (pl := pl) (thn (he.run pins s σ H _ I h) fun u s1 ⟨x, H1, I1, rx, ex, q⟩ => ?_) ht
  subst ex
  obtain rfl : u = Value.ref C := rx
  refine getsm_ok I1 r c fun s2 I2 => ?_
  refine PySem.W.callWith_K (h₀ := X.base) I2.ok.mod.kin hk (thn (ha.run pos pins s2 σ H1 _ I2 q) fun us s3 ⟨vs, H2, I3, rv, q2⟩ => ⟨I3.kIn, ?_⟩) hst hpl
  exact run_fnS F hr hb (hx σ) I3 rv q2
end
end Fg

set_option Elab.async false
set_option linter.all false
set_option maxRecDepth 100000
set_option maxHeartbeats 4000000
namespace Fg
open PySem PySem.Spec PySem.Calls PyProof.Rows L2
/-! ### own special methods -/
section
variable {X : Cx} {k n : Nat} {C f : Addr} {fd : FuncData} {ps : List Str} {sp : Sp} {pins : List (Addr × Obj)} {σ : L2.St} {H : Hp} {s : Shared} {A : Around}
abbrev noE : XK := fun _ _ _ => False
/-- a def called further in, that raises nothing here -/
theorem run_in {Q : VK} {us : List Value} {vs : List V} (F : FnOk X.prog X.w X.K X.mg X.base (L2.CX X.prog X.w) k f fd ps sp) (hr : Room k A) (fr : A.frames = X.A.frames) (hb : Binds X.K fd ps []) (I : Inv X pins σ H s) (r : L2.Vals vs us) (h : sp vs H Q noE) :
    wpAny (model X.prog X.w) A (call (.ref f) us) (EP X pins σ Q) X.xe s := by
  have e0 : Env0 X.prog X.w X.K X.mg X.base A X.stack s H := by
    have e := I.env0
    exact ⟨by rw [fr]; exact e.frames, e.mod, e.bs, e.bsz, e.funs, e.frf, e.hok, e.bare⟩
  have hl := F.len _ _ _ _ h
  refine wpAny_call (codeAny_mono (F.run A X.stack s H ⟨us, []⟩ us vs Q noE hr e0 (by
    have := hb s us I.kIn (by rw [List.append_nil, ← r.length]; exact hl)
    simpa using this) r h) fun out s' got => ?_)
  match out, got with
  | .error e, got =>
    obtain ⟨_, _, _, _, _, _, _, _, _, _, _, _, z⟩ := got
    exact z.elim
  | .ok (.ret u), got => exact I.after got
  | .ok .next, got => exact False.elim got
  | .ok .brk, got => exact False.elim got
  | .ok .cont, got => exact False.elim got
/-- a == b: instances of one class with an own == -/
def fEqO (C : Addr) (sp : Sp) : R2 := fun x y H Q => match x, y with
  | .ref a, .ref b => (∃ dx fs, H a = some (.ins C dx fs)) ∧ (∃ dx fs, H b = some (.ins C dx fs)) ∧ sp [.ref a, .ref b] H Q noE
  | _, _ => False
theorem relV_cmp {v : V} {u : Value} {Q : Value → Shared → Prop} {s : Shared} (r : RelV v u) (q : Q u s) : PySem.W.CmpBack Q u s := by
  cases v <;> first | (cases r; exact q) | (obtain ⟨t, rfl⟩ := r; exact q) | skip
theorem f_eqO (c : MCallee X.prog X.w X.K X.mg X.base k C "__eq__" ps sp) (hr : Room n X.A) (hk : k ≤ n) : OpR X (compareOp .Eq) (fEqO C sp) := by
  obtain ⟨g, fd, F, cl, hm, hb⟩ := c.ex
  intro pins s σ H x y v u Q I rx ry hq
  unfold fEqO at hq
  split at hq
  · rename_i a b
    obtain ⟨⟨dx, fs, ha⟩, ⟨dy, gs, hb'⟩, q⟩ := hq
    cases rx
    cases ry
    obtain ⟨mA, J, _⟩ := ins_get I.hok ha
    obtain ⟨mB, J', _⟩ := ins_get I.hok hb'
    obtain ⟨od, J, _⟩ := J.look
    obtain ⟨od', J', _⟩ := J'.look
    obtain ⟨m, hF⟩ := I.fr
    show wpAny (model X.prog X.w) X.A (richCompare .Eq (.ref a) (.ref b)) _ _ s
    refine PySem.W.cmp_K (op := .Eq) (tb := .ref C) hr.units0 hF I.ok.mod.kin J J'.type (by simp [PySem.W.notFirst]) hm.at_ hm.fn ?_
    refine wpAny_mono (run_in (us := [.ref a, .ref b]) F (hr.mono hk) rfl hb I (.cons (show RelV (.ref a) (.ref a) from rfl) (.cons (show RelV (.ref b) (.ref b) from rfl) .nil)) q) (fun r s' z => ?_) fun _ _ e => e
    obtain ⟨v, H', I', rz, q'⟩ := z
    exact relV_cmp (Q := EP X pins σ Q) rz ⟨v, H', I', rz, q'⟩
  · exact hq.elim
/-- a != b by the == of the class -/
structure NeAt (K : PySem.W.Frag) (C : Addr) : Prop where
  ne : PySem.W.findIn K (.ref C) "__ne__" = some (some (.builtin "object.__ne__"))
  ob : PySem.W.mroIn K C (.type "object") = some true
def fNeO (C : Addr) (sp : Sp) : R2 := fun x y H Q => match x, y with
  | .ref a, .ref b => (∃ dx fs, H a = some (.ins C dx fs)) ∧ (∃ dx fs, H b = some (.ins C dx fs)) ∧ sp [.ref a, .ref b] H (fun v H' => match v with | .bl r => Q (.bl (!r)) H' | _ => False) noE
  | _, _ => False
theorem ifBound_B {M : Model} {E : Value → Shared → Prop} {K : PySem.W.Frag} {x : Addr} {ox : Obj} {od : Option Obj} {name : Str} {id : String} {args : List Value} {Q : Option Value → Shared → Prop} (X : K.In s.heap) (I : PySem.W.InstAt s.heap x ox C od) (hs : PySem.W.findIn K (.ref C) name = some (some (.builtin id)))
    (hb : ∀ self, bindSpecial (.builtin id) self = pure (.builtin id, [self])) (h : wpAny M A (call (.builtin id) (.ref x :: args)) (fun v => Q (some v)) E s) : wpAny M A (callSpecialIfBound? (.ref x) name args) Q E s := by
  simp only [callSpecialIfBound?, bindSpecialIfBound?]
  refine wpAny_holding (wpAny_bind (wpAny_bind (wpAny_bind (I.type.here ((PySem.W.looks_findIn X hs).here ?_)))))
  refine wpAny_bind (wpAny_askSetting (wpAny_ite ?_))
  have fin : wpAny M A (call (.builtin id) ([.ref x] ++ args) >>= fun v => pure (some v)) Q E s := wpAny_bind (wpAny_mono h (fun v s' h' => wpAny_pure h') fun _ _ h' => h')
  split
  · exact wpAny_bind ((PySem.W.Looks.of_pure (hb _)).here (wpAny_pure (by exact fin)))
  · exact wpAny_tryCatch (wpAny_bind ((PySem.W.Looks.of_pure (hb _)).here (wpAny_pure (by exact fin))))
theorem ne_own {prog : Program} {w : World} {E : Value → Shared → Prop} {K : PySem.W.Frag} {x y : Addr} {ox : Obj} {od : Option Obj} {Q : Value → Shared → Prop} (hu : A.units + 1 < cLine) (X : K.In s.heap) (I : PySem.W.InstAt s.heap x ox C od) (hy : PySem.W.Looks (model prog w) s.heap (typeOf (.ref y)) (.ref C)) (N : NeAt K C)
    (he : PySem.W.findIn K (.ref C) "__eq__" = some (some (.ref f))) (hf : PySem.W.isFn K (.ref f) = true)
    (hcall : wpAny (model prog w) A.in1 (call (.ref f) [.ref x, .ref y]) (fun v s' => ∃ b, v = .bool b ∧ Q (.bool (!b)) s') E s) :
    wpAny (model prog w) A (richCompare .NotEq (.ref x) (.ref y)) Q E s := by
  have body : ∀ {Q : Fin → Shared → Prop}, wpAny (model prog w) A.in1 (call (.ref f) [.ref x, .ref y]) (fun v s' => ∃ b, v = .bool b ∧ Q (.done (.ret (.bool (!b)))) s') E s → wpAny (model prog w) A.in1 (Builtin.«object.__ne__» ⟨[.ref x, .ref y], []⟩) Q E s := fun {Q} hcall => by
    unfold Builtin.«object.__ne__»
    refine wpAny_bind (m := slotArgs "__ne__" 1 _) (wpAny_pure ?_)
    refine wpAny_bind (m := cRoomFor _ _) (wpAny_cRoomFor hu ?_)
    refine wpAny_bind (m := callSpecialIfBound? (.ref x) (Str.ofString "__eq__") _) (PySem.W.ifBound_K X I he hf (wpAny_mono hcall (fun r s' hr => ?_) fun _ _ e => e))
    obtain ⟨b, rfl, hq⟩ := hr
    refine wpAny_bind (m := truthy (.bool _)) (wpAny_truthy_bool ?_)
    exact wpAny_pure hq
  have one : wpAny (model prog w) A (tryCompare (.ref x) "__ne__" (.ref y)) (fun r s' => ∃ v, r = some v ∧ Q v s') E s := by
    unfold tryCompare
    refine wpAny_bind (ifBound_B X I N.ne PySem.F.slot_object_ne.bind ?_)
    refine wpAny_call (codeAny_call_builtin PySem.F.slot_object_ne.plain PySem.F.entry_object_ne (PySem.W.check_slot (i := "object.__ne__") (owner := "object") (n := "__ne__") (by decide +kernel) (by decide +kernel) (I.type.andThen (PySem.W.looks_mroIn X N.ob)) (PySem.F.args_object_ne_2 _ _) ?_))
    refine body (wpAny_mono hcall (fun v s' hv => ?_) fun _ _ e => e)
    obtain ⟨b, rfl, hq⟩ := hv
    exact ⟨b, rfl, wpAny_pure ⟨_, rfl, hq⟩⟩
  unfold richCompare
  simp only [oneThing_ref]
  refine wpAny_holding (wpAny_bind (wpAny_cRoomFor (Nat.lt_of_succ_lt hu) ?_))
  refine wpAny_bind (I.type.here (wpAny_bind (hy.here ?_)))
  rw [show (Value.ref C != Value.ref C) = false from by simp]
  simp only [Bool.false_eq_true, if_false]
  refine wpAny_bind (wpAny_pure ?_)
  simp only [Bool.false_eq_true, if_false]
  refine wpAny_bind (wpAny_mono one (fun r s' z => ?_) fun _ _ e => e)
  obtain ⟨v, rfl, hq⟩ := z
  exact wpAny_pure hq
theorem f_neO (c : MCallee X.prog X.w X.K X.mg X.base k C "__eq__" ps sp) (N : NeAt X.K C) (hr : Room n X.A) (hk : k + 1 ≤ n) : OpR X (compareOp .NotEq) (fNeO C sp) := by
  obtain ⟨g, fd, F, cl, hm, hb⟩ := c.ex
  intro pins s σ H x y v u Q I rx ry hq
  unfold fNeO at hq
  split at hq
  · rename_i a b
    obtain ⟨⟨dx, fs, ha⟩, ⟨dy, gs, hb'⟩, q⟩ := hq
    cases rx
    cases ry
    obtain ⟨mA, J, _⟩ := ins_get I.hok ha
    obtain ⟨mB, J', _⟩ := ins_get I.hok hb'
    obtain ⟨od, J, _⟩ := J.look
    obtain ⟨od', J', _⟩ := J'.look
    show wpAny (model X.prog X.w) X.A (richCompare .NotEq (.ref a) (.ref b)) _ _ s
    have r1 := hr.mono hk
    refine ne_own (by have := hr.units; omega) I.kIn J J'.type N hm.at_ hm.fn ?_
    refine wpAny_mono (run_in (us := [.ref a, .ref b]) F r1.in1 rfl hb I (.cons (show RelV (.ref a) (.ref a) from rfl) (.cons (show RelV (.ref b) (.ref b) from rfl) .nil)) q) (fun r s' z => ?_) fun _ _ e => e
    obtain ⟨v, H', I', rz, q'⟩ := z
    split at q'
    · rename_i b
      cases rz
      exact ⟨b, rfl, .bl (!b), H', I', rfl, q'⟩
    · exact q'.elim
  · exact hq.elim
/-- str(o) by an own __str__ -/
def fStrO (C : Addr) (sp : Sp) : List V → Hp → VK → Prop := fun xs H Q => match xs with
  | [.ref a] => (∃ dx fs, H a = some (.ins C dx fs)) ∧ sp [.ref a] H (fun v H' => match v with | .str z => Q (.str z) H' | _ => False) noE
  | _ => False
theorem f_strO (c : MCallee X.prog X.w X.K X.mg X.base k C "__str__" ps sp) (hr : Room n X.A) (hk : k + 2 ≤ n) : CallR X (.type "str") (fStrO C sp) := by
  obtain ⟨g, fd, F, cl, hm, hb⟩ := c.ex
  intro pins s σ H xs us Q I r hq
  unfold fStrO at hq
  split at hq
  · rename_i a
    obtain ⟨⟨dx, fs, ha⟩, q⟩ := hq
    rw [Vals.ref1 r]
    obtain ⟨mA, J, _⟩ := ins_get I.hok ha
    obtain ⟨od, J, _⟩ := J.look
    have r1 := hr.mono hk
    refine PySem.W.kso_call r1.in1.in1.units0 I.kIn J hm.at_ hm.fn ?_
    refine wpAny_mono (run_in (us := [.ref a]) F r1.in1.in1 rfl hb I (.cons (show RelV (.ref a) (.ref a) from rfl) .nil) q) (fun r s' z => ?_) fun _ _ e => e
    obtain ⟨v, H', I', rz, q'⟩ := z
    split at q'
    · rename_i z
      obtain ⟨t, rfl⟩ := rz
      exact ⟨.str z, H', I', ⟨t, rfl⟩, q'⟩
    · exact q'.elim
  · exact hq.elim
end

/-! ### xs[::2], xs[1::2] of sixteen; list(d.values()) -/
section
variable {X : Cx} {e : Expr} {te : TE} {p apos cpos pos p2 p3 p4 : Pos} {k k2 : Nat}
def evenI : List Nat := [0, 2, 4, 6, 8, 10, 12, 14]
def oddI : List Nat := [1, 3, 5, 7, 9, 11, 13, 15]
def tStep (K : PySem.W.Frag) (idx : List Nat) (te : TE) : TE := fun σ H Q => te σ H fun x H1 => match x with
  | .ref a => ∃ xs, SqL K H1 a xs ∧ xs.length = 16 ∧ Fresh H1 (.lst (pick idx xs)) Q
  | _ => False
theorem pick16 {α : Type} {xs : List α} (h : xs.length = 16) : ∃ a0 a1 a2 a3 a4 a5 a6 a7 a8 a9 a10 a11 a12 a13 a14 a15, xs = [a0, a1, a2, a3, a4, a5, a6, a7, a8, a9, a10, a11, a12, a13, a14, a15] := by
  match xs, h with
  | [a0, a1, a2, a3, a4, a5, a6, a7, a8, a9, a10, a11, a12, a13, a14, a15], _ => exact ⟨_, _, _, _, _, _, _, _, _, _, _, _, _, _, _, _, rfl⟩
theorem step_pick {its : List Value} (h : its.length = 16) : (slicePick its.toArray none none (some 2)).toList = pick evenI its ∧ (slicePick its.toArray (some 1) none (some 2)).toList = pick oddI its := by
  obtain ⟨a0, a1, a2, a3, a4, a5, a6, a7, a8, a9, a10, a11, a12, a13, a14, a15, rfl⟩ := pick16 h
  exact ⟨by kernel_rfl, by kernel_rfl⟩
theorem pe_step {lo : Option Expr} {wl : Option Int} {idx : List Nat} {tl : TO} (hlo : PO X lo tl) (ql : ∀ σ H, tl σ H (fun o H2 => o = wl ∧ H2 = H)) (hix : idx.length ≤ 100) (hidx : ∀ its : List Value, its.length = 16 → (slicePick its.toArray wl none (some 2)).toList = pick idx its) (he : PE X e te) :
    PE X (.Subscript e (.Slice lo none (some (.Constant (.int 2) k p2)) p3) pos) (tStep X.K idx te) := by
  refine ⟨fun pins s σ H Q I h => ?_⟩
  refine Subscript_ (thn (he.run pins s σ H _ I h) fun v s1 ⟨x, H1, I1, r1, q1⟩ => ?_)
  dsimp only at q1
  split at q1
  · rename_i a
    obtain ⟨xs, hx, hl, q⟩ := q1
    cases r1
    have hst : PO X (some (.Constant (.int 2) k p2)) (tPart (tC (.int 2))) := po_some pe_int
    refine wpAny_Slice (thn (hlo.run pins s1 σ H1 (fun o H2 => o = wl ∧ H2 = H1) I1 (ql σ H1)) fun vl s2 ⟨l, H2, I2, pl, el, e2⟩ => ?_)
    subst el e2
    refine thn (po_none.run pins s2 σ H2 (fun o H3 => o = none ∧ H3 = H2) I2 ⟨rfl, rfl⟩) fun vu s3 ⟨u, H3, I3, pu, eu, e3⟩ => ?_
    subst eu e3
    refine thn (hst.run pins s3 σ H3 (fun o H4 => o = some 2 ∧ H4 = H3) I3 ⟨2, rfl, rfl, rfl⟩) fun vs s4 ⟨o, H4, I4, ps, eo, e4⟩ => ?_
    subst eo e4
    have I5 : Inv X pins σ H4 { s4 with heap := s4.heap.push { cls := .type "slice", data := .fields #[vl, vu, vs] } } := I4.kept (t' := s4.toks) fun b ob q => Heap.get?_push_of_some _ q
    obtain ⟨its, r, ht, hz⟩ := I5.list hx
    have hlen := r.length
    have hl16 : its.length = 16 := by omega
    show wpAny (model X.prog X.w) X.A (subscriptTail e (.Slice lo none (some (.Constant (.int 2) k p2)) p3) (.ref a) (.ref s4.heap.objs.size)) (EP X pins σ Q) X.xe { s4 with heap := s4.heap.push { cls := .type "slice", data := .fields #[vl, vu, vs] } }
    refine tail_any (ops := [.ref a, .ref s4.heap.objs.size]) ht.isList.typeIs (PySem.slot_list_getitem.lookup) ?_ (by with_unfolding_all rfl)
    refine wpAny_getItem_list_slice ht.isList (Heap.IsSliceOf.new _ vl vu vs) pl pu ps (by decide) ?_ (by rw [List.size_toArray]; omega)
    have hp := hidx its hl16
    refine ⟨.ref _, _, I5.laid (t' := s4.toks) (o := .lst (pick idx xs)) (fun b ob q => Heap.get?_push_of_some _ q) (Nat.le_refl _) ?_, rfl, q.go _ (I5.hok.fresh (Nat.le_refl _))⟩
    refine ⟨?_, (slicePick its.toArray l none (some 2)).toList, 0, ?_, ?_⟩
    · exact Nat.le_trans (List.length_filterMap_le ..) (Nat.le_trans hix (by show 100 ≤ sizeLine; decide))
    · rw [hp]; exact vals_pick idx r
    · rw [Array.toArray_toList]
      exact Heap.get?_push_size _ rfl
  · exact q1.elim
theorem pe_even (he : PE X e te) : PE X (.Subscript e (.Slice none none (some (.Constant (.int 2) k p2)) p3) pos) (tStep X.K evenI te) := pe_step po_none (fun σ H => ⟨rfl, rfl⟩) (by decide) (fun its h => (step_pick h).1) he
theorem pe_odd (he : PE X e te) : PE X (.Subscript e (.Slice (some (.Constant (.int 1) k2 p4)) none (some (.Constant (.int 2) k p2)) p3) pos) (tStep X.K oddI te) := pe_step (po_some pe_int) (fun σ H => ⟨1, rfl, rfl, rfl⟩) (by decide) (fun its h => (step_pick h).2) he
def tListVals (te : TE) : TE := fun σ H Q => te σ H fun x H1 => match x with
  | .ref d => ∃ kvs : List (Key × V), H1 d = some (.dK kvs) ∧ Fresh H1 (.lst (kvs.map (·.2))) Q
  | _ => False
/-- list(e.values()) -/
theorem pe_listVals (hc : X.calm = true) (he : PE X e te) (hg : Gl X "list") (hm : X.mg "list" = none) (hv : bootBuiltins "list" = some (.type "list")) (hbase : attributeBase e "values" X.env (eval e X.env) = eval e X.env := by rfl) (hline : (apos.endLine == cpos.line) = true := by rfl)
    (hs : starEach [.Call (.Attribute e "values" apos) [] [] cpos] X.env = (false, eval (.Call (.Attribute e "values" apos) [] [] cpos) X.env) :: starEach [] X.env := by rfl) :
    PE X (.Call (.Name "list" p) [.Call (.Attribute e "values" apos) [] [] cpos] [] pos) (tListVals te) := by
  refine ⟨fun pins s σ H Q I hq => ?_⟩
  refine wpAny_Call_Name_kw (ld_blt I hg hm hv ?_)
  refine PyProof.Rows.callWith_type1 ?_ hs rfl
  rw [hs]
  show wpAny _ _ (spliced ((false, eval (.Call (.Attribute e "values" apos) [] [] cpos) X.env) :: backTo pos (starEach [] X.env))) _ _ s
  refine Calls.spliced_cons ?_
  refine wpAny_Call_method (T := "dict") (id := "dict.values") hbase rfl hline F.plainAttrs_dict F.slot_dict_values F.type_dict_values (thn (he.run pins s σ H _ I hq) fun u s1 ⟨x, H1, I1, rx, hq1⟩ => ?_)
  dsimp only at hq1
  split at hq1
  · rename_i d
    obtain ⟨kvs, hd, q⟩ := hq1
    obtain rfl : u = Value.ref d := rx
    obtain ⟨hz, hs0, vs, kv, hdo⟩ := I1.hok d _ hd
    obtain ⟨ep, hat⟩ := hdo.dictAt
    have lk : kvs.length = vs.length := Paired.length kv
    have I2 : Inv X pins σ H1 { s1 with heap := s1.heap.push { cls := .type "dict_values", data := .fields #[.ref d] } } := I1.kept (t' := s1.toks) fun b ob q => Heap.get?_push_of_some _ q
    refine ⟨hdo.typeIs, hdo.mapOf.noDict, ?_⟩
    show wpAny _ _ (callWith cpos (.builtin "dict.values") [.ref d] [] []) _ X.xe s1
    refine method_meetsIn F.slot_dict_values F.entry_dict_values rfl (PySem.evalArgs_none ⟨rfl, hdo.typeIs, F.args_dict_values_1 _, _, meets_dict_values (mixKind X.prog X.w) d hs0, ⟨vs, hdo⟩, ?_⟩)
    refine Calls.spliced_nil ?_
    refine PySem.W.kdl_call (PySem.W.kdl_values (knd := mixKind X.prog X.w) (kvs := vs) (ep := ep)) (I1.ok.hd hc) ⟨⟨_, Heap.get?_push_size _ rfl, rfl, rfl⟩, hat.push _⟩ (by omega) fun h' tk acc c hk hS hacc => ?_
    have rv : Vals (kvs.map (·.2)) acc.toList := by
      refine vals_at ?_ fun i x u hx hu => ?_
      · have e : acc.toList.length = acc.size := Array.length_toList ..
        rw [List.length_map, lk, e]
        exact hacc.1.symm
      · rw [Array.getElem?_toList] at hu
        obtain ⟨k, ek⟩ := hacc.2 i u hu
        rw [List.getElem?_map] at hx
        obtain ⟨kx, e1, e2⟩ := Option.map_eq_some_iff.mp hx
        obtain ⟨y, e3, r⟩ := LiI.paired_get kv e1
        rw [ek] at e3
        cases e3
        rw [← e2]
        exact r.2
    refine ⟨.ref _, _, I2.laid (t' := tk) (o := .lst (kvs.map (·.2))) hk (Nat.le_refl _) ⟨by rw [List.length_map]; omega, acc.toList, c, rv, ?_⟩, rfl, q.go _ (I2.hok.fresh (Nat.le_refl _))⟩
    rw [Array.toArray_toList]
    exact hS
  · exact hq1.elim
end
end Fg

set_option Elab.async false
set_option linter.all false
set_option maxRecDepth 100000
set_option maxHeartbeats 4000000
namespace Fg
open PySem PySem.Spec PySem.Calls PyProof.Rows L2
/-! ### == of data, both answers -/
inductive Pr3 (F : V → V → Bool → Prop) : List V → List V → List Bool → Prop
  | nl {ys : List V} : Pr3 F [] ys []
  | nr {xs : List V} : Pr3 F xs [] []
  | cons {x y : V} {b : Bool} {xs ys : List V} {bs : List Bool} : F x y b → Pr3 F xs ys bs → Pr3 F (x :: xs) (y :: ys) (b :: bs)
/-- x == y answers b -/
def EqB (K : PySem.W.Frag) (H : Hp) : Nat → V → V → Bool → Prop
  | 0 => fun x y b => flatV x = true ∧ flatV y = true ∧ b = eqV x y
  | n + 1 => fun x y b => (flatV x = true ∧ flatV y = true ∧ b = eqV x y) ∨ (∃ a, x = .ref a ∧ y = .ref a ∧ b = true) ∨
    (∃ a c xs ys, x = .ref a ∧ y = .ref c ∧ SqL K H a xs ∧ SqL K H c ys ∧ xs.length ≠ ys.length ∧ b = false) ∨
    (∃ a c xs ys bs, x = .ref a ∧ y = .ref c ∧ SqL K H a xs ∧ SqL K H c ys ∧ xs.length = ys.length ∧ Pr3 (EqB K H n) xs ys bs ∧ b = bs.all id) ∨
    (∃ a c xs ys bs, x = .ref a ∧ y = .ref c ∧ SqT K H a xs ∧ SqT K H c ys ∧ Pr3 (EqB K H n) xs ys bs ∧ b = (bs.all id && xs.length == ys.length))
theorem eqV_self {x : V} (h : flatV x = true) : eqV x x = true := by
  cases x <;> first | (cases h; done) | simp [eqV]
theorem pr3_at {F : V → V → Bool → Prop} {A : Around} {s : Shared} (ih : ∀ x y b v u, F x y b → RelV x v → RelV y u → SeqAt.EqAt A s v u b) {xs ys : List V} {bs : List Bool} (hp : Pr3 F xs ys bs) :
    ∀ {us ws : List Value}, L2.Vals xs us → L2.Vals ys ws → bs.length = min us.length ws.length ∧ ∀ j (h1 : j < us.length) (h2 : j < ws.length), SeqAt.EqAt A s us[j] ws[j] (bs.getD j false) := by
  induction hp with
  | nl =>
    intro us ws r1 _
    cases r1
    exact ⟨by simp, fun j h1 => absurd h1 (Nat.not_lt_zero j)⟩
  | nr =>
    intro us ws _ r2
    cases r2
    exact ⟨by simp, fun j _ h2 => absurd h2 (Nat.not_lt_zero j)⟩
  | cons f _ rest =>
    intro us ws r1 r2
    cases r1 with
    | cons p1 q1 =>
      cases r2 with
      | cons p2 q2 =>
        obtain ⟨hl, hr⟩ := rest q1 q2
        refine ⟨by simp only [List.length_cons]; omega, fun j h1 h2 => ?_⟩
        match j with
        | 0 => exact ih _ _ _ _ _ f p1 p2
        | j + 1 => exact hr j (Nat.lt_of_succ_lt_succ h1) (Nat.lt_of_succ_lt_succ h2)
theorem all_getD (bs : List Bool) : (List.range bs.length).all (fun j => bs.getD j false) = bs.all id := by
  induction bs with
  | nil => rfl
  | cons b r ih =>
    rw [List.length_cons, List.range_succ_eq_map, List.all_cons, List.all_map, List.all_cons]
    exact congrArg (b && ·) ih
section
variable {X : Cx} {pins : List (Addr × Obj)} {σ : L2.St} {H : Hp} {s : Shared}
theorem pr3_true {K : PySem.W.Frag} {n : Nat} (ih : ∀ x b, EqB K H n x x b → b = true) : ∀ {xs : List V} {bs : List Bool}, Pr3 (EqB K H n) xs xs bs → bs.all id = true
  | [], _, .nl => rfl
  | [], _, .nr => rfl
  | x :: xs, _, .cons f r => by
    rw [List.all_cons, pr3_true ih r, ih _ _ f]
    rfl
theorem eqB_true (J : Inv X pins σ H s) : ∀ (n : Nat) (x : V) (b : Bool), EqB X.K H n x x b → b = true
  | 0, x, b, h => by
    obtain ⟨f, _, rfl⟩ := h
    exact eqV_self f
  | n + 1, x, b, h => by
    rcases h with ⟨f, _, rfl⟩ | ⟨a, _, _, rfl⟩ | ⟨a, c, xs, ys, e1, e2, h1, h2, hl, rfl⟩ | ⟨a, c, xs, ys, bs, e1, e2, h1, h2, hl, hp, rfl⟩ | ⟨a, c, xs, ys, bs, e1, e2, h1, h2, hp, rfl⟩
    · exact eqV_self f
    · rfl
    · rw [e1] at e2
      cases e2
      exact absurd (congrArg List.length (J.list_inj h1 h2)) hl
    · rw [e1] at e2
      cases e2
      cases J.list_inj h1 h2
      exact pr3_true (eqB_true J n) hp
    · rw [e1] at e2
      cases e2
      cases J.tuple_inj h1 h2
      rw [pr3_true (eqB_true J n) hp]
      simp
theorem eqB_at (J : Inv X pins σ H s) : ∀ (n : Nat) (A : Around), A.units + n < cLine → ∀ (x y : V) (b : Bool) (v u : Value), EqB X.K H n x y b → RelV x v → RelV y u → SeqAt.EqAt A s v u b
  | 0, A, hu, x, y, b, v, u, h, rx, ry => by
    obtain ⟨f1, f2, rfl⟩ := h
    exact eqAt_V rx ry f1 f2
  | n + 1, A, hu, x, y, b, v, u, h, rx, ry => by
    have h0 := h
    rcases h with ⟨f1, f2, rfl⟩ | ⟨a, rfl, rfl, rfl⟩ | ⟨a, c, xs, ys, rfl, rfl, ha, hb, hl, rfl⟩ | ⟨a, c, xs, ys, bs, rfl, rfl, ha, hb, hl, hp, rfl⟩ | ⟨a, c, xs, ys, bs, rfl, rfl, ha, hb, hp, rfl⟩
    · exact eqAt_V rx ry f1 f2
    · cases rx
      cases ry
      exact SeqAt.EqAt.same _
    · cases rx
      cases ry
      have e : a ≠ c := fun e => by
        subst e
        exact hl (congrArg List.length (J.list_inj ha hb))
      obtain ⟨us, r1, p1, _⟩ := J.list ha
      obtain ⟨ws, r2, p2, _⟩ := J.list hb
      refine SeqAt.EqAt.of_refs e (SeqAt.RcAt.lists_lengths p1.isList p2.isList ?_ (by omega))
      rw [List.size_toArray, List.size_toArray, ← r1.length, ← r2.length]
      simpa using hl
    · cases rx
      cases ry
      by_cases e : a = c
      · subst e
        rw [eqB_true J (n + 1) _ _ h0]
        exact SeqAt.EqAt.same _
      obtain ⟨us, r1, p1, _⟩ := J.list ha
      obtain ⟨ws, r2, p2, _⟩ := J.list hb
      have hsz : us.toArray.size = ws.toArray.size := by rw [List.size_toArray, List.size_toArray, ← r1.length, ← r2.length]; exact hl
      obtain ⟨hbl, k⟩ := pr3_at (eqB_at J n A.in1 (by show A.units + 1 + n < cLine; omega)) hp r1 r2
      have z := SeqAt.RcAt.lists (A := A) (e := fun j => bs.getD j false) p1.isList p2.isList hsz (by omega) fun j h1 h2 => by
        have k := k j (by simpa using h1) (by simpa using h2)
        simpa using k
      have es : us.toArray.size = bs.length := by
        rw [hbl]
        simp only [List.size_toArray] at hsz ⊢
        omega
      rw [es, all_getD] at z
      exact SeqAt.EqAt.of_refs e z
    · cases rx
      cases ry
      by_cases e : a = c
      · subst e
        rw [eqB_true J (n + 1) _ _ h0]
        exact SeqAt.EqAt.same _
      obtain ⟨us, r1, p1, _⟩ := J.tuple ha
      obtain ⟨ws, r2, p2, _⟩ := J.tuple hb
      obtain ⟨hbl, k⟩ := pr3_at (eqB_at J n A.in1 (by show A.units + 1 + n < cLine; omega)) hp r1 r2
      have z := SeqAt.RcAt.tuples (A := A) (e := fun j => bs.getD j false) p1 p2 (by omega) fun j h1 h2 => by
        have k := k j (by simpa using h1) (by simpa using h2)
        simpa using k
      have es : min us.toArray.size ws.toArray.size = bs.length := by
        rw [hbl]
        simp only [List.size_toArray]
      rw [es, all_getD, List.size_toArray, List.size_toArray, ← r1.length, ← r2.length] at z
      exact SeqAt.EqAt.of_refs e z
/-- == and != of two lists, two tuples -/
def fEqB (K : PySem.W.Frag) (neg : Bool) : R2 := fun x y H Q => match x, y with
  | .ref a, .ref c => (∃ xs ys, SqL K H a xs ∧ SqL K H c ys ∧ xs.length ≠ ys.length ∧ Q (.bl neg) H) ∨
    (∃ xs ys bs, SqL K H a xs ∧ SqL K H c ys ∧ xs.length = ys.length ∧ Pr3 (EqB K H 20) xs ys bs ∧ Q (.bl (opp neg (bs.all id))) H) ∨
    (∃ xs ys bs, SqT K H a xs ∧ SqT K H c ys ∧ Pr3 (EqB K H 20) xs ys bs ∧ Q (.bl (opp neg (bs.all id && xs.length == ys.length))) H)
  | _, _ => False
theorem f_eqB (hu : X.A.units + 64 < cLine) : OpR X (compareOp .Eq) (fEqB X.K false) := by
  intro pins s σ H x y v u Q J rx ry h
  unfold fEqB at h
  split at h
  · rename_i a c
    cases rx
    cases ry
    rcases h with ⟨xs, ys, ha, hb, hl, q⟩ | ⟨xs, ys, bs, ha, hb, hl, hp, q⟩ | ⟨xs, ys, bs, ha, hb, hp, q⟩
    · obtain ⟨us, r1, p1, _⟩ := J.list ha
      obtain ⟨ws, r2, p2, _⟩ := J.list hb
      refine SeqAt.eq_list_lengthsAt p1.isList p2.isList ?_ (by omega) ⟨.bl false, H, J, rfl, q⟩
      rw [List.size_toArray, List.size_toArray, ← r1.length, ← r2.length]
      simpa using hl
    · obtain ⟨us, r1, p1, _⟩ := J.list ha
      obtain ⟨ws, r2, p2, _⟩ := J.list hb
      have hsz : us.toArray.size = ws.toArray.size := by rw [List.size_toArray, List.size_toArray, ← r1.length, ← r2.length]; exact hl
      obtain ⟨hbl, k⟩ := pr3_at (eqB_at J 20 X.A.in1 (by show X.A.units + 1 + 20 < cLine; omega)) hp r1 r2
      have es : us.toArray.size = bs.length := by
        rw [hbl]
        simp only [List.size_toArray] at hsz ⊢
        omega
      refine SeqAt.eq_listAt (e := fun j => bs.getD j false) p1.isList p2.isList hsz (by omega) (fun j h1 h2 => ?_) ?_
      · have k := k j (by simpa using h1) (by simpa using h2)
        simpa using k
      · rw [es, all_getD]
        exact ⟨.bl _, H, J, rfl, q⟩
    · obtain ⟨us, r1, p1, _⟩ := J.tuple ha
      obtain ⟨ws, r2, p2, _⟩ := J.tuple hb
      obtain ⟨hbl, k⟩ := pr3_at (eqB_at J 20 X.A.in1 (by show X.A.units + 1 + 20 < cLine; omega)) hp r1 r2
      have es : min us.toArray.size ws.toArray.size = bs.length := by
        rw [hbl]
        simp only [List.size_toArray]
      refine SeqAt.eq_tupleAt (e := fun j => bs.getD j false) p1 p2 (by omega) (fun j h1 h2 => ?_) ?_
      · have k := k j (by simpa using h1) (by simpa using h2)
        simpa using k
      · rw [es, all_getD, List.size_toArray, List.size_toArray, ← r1.length, ← r2.length]
        exact ⟨.bl _, H, J, rfl, q⟩
  · exact h.elim
theorem f_neB (hu : X.A.units + 64 < cLine) : OpR X (compareOp .NotEq) (fEqB X.K true) := by
  intro pins s σ H x y v u Q J rx ry h
  unfold fEqB at h
  split at h
  · rename_i a c
    cases rx
    cases ry
    rcases h with ⟨xs, ys, ha, hb, hl, q⟩ | ⟨xs, ys, bs, ha, hb, hl, hp, q⟩ | ⟨xs, ys, bs, ha, hb, hp, q⟩
    · obtain ⟨us, r1, p1, _⟩ := J.list ha
      obtain ⟨ws, r2, p2, _⟩ := J.list hb
      refine SeqAt.RcNeAt.lists_lengths p1.isList p2.isList ?_ (by omega) _ _ _ _ ⟨.bl true, H, J, rfl, q⟩
      rw [List.size_toArray, List.size_toArray, ← r1.length, ← r2.length]
      simpa using hl
    · obtain ⟨us, r1, p1, _⟩ := J.list ha
      obtain ⟨ws, r2, p2, _⟩ := J.list hb
      have hsz : us.toArray.size = ws.toArray.size := by rw [List.size_toArray, List.size_toArray, ← r1.length, ← r2.length]; exact hl
      obtain ⟨hbl, k⟩ := pr3_at (eqB_at J 20 X.A.in1 (by show X.A.units + 1 + 20 < cLine; omega)) hp r1 r2
      have es : us.toArray.size = bs.length := by
        rw [hbl]
        simp only [List.size_toArray] at hsz ⊢
        omega
      refine SeqAt.RcNeAt.lists (e := fun j => bs.getD j false) p1.isList p2.isList hsz (by omega) (fun j h1 h2 => ?_) _ _ _ _ ?_
      · have k := k j (by simpa using h1) (by simpa using h2)
        simpa using k
      · rw [es, all_getD]
        exact ⟨.bl _, H, J, rfl, q⟩
    · obtain ⟨us, r1, p1, _⟩ := J.tuple ha
      obtain ⟨ws, r2, p2, _⟩ := J.tuple hb
      obtain ⟨hbl, k⟩ := pr3_at (eqB_at J 20 X.A.in1 (by show X.A.units + 1 + 20 < cLine; omega)) hp r1 r2
      have es : min us.toArray.size ws.toArray.size = bs.length := by
        rw [hbl]
        simp only [List.size_toArray]
      refine SeqAt.RcNeAt.tuples (e := fun j => bs.getD j false) p1 p2 (by omega) (fun j h1 h2 => ?_) _ _ _ _ ?_
      · have k := k j (by simpa using h1) (by simpa using h2)
        simpa using k
      · rw [es, all_getD, List.size_toArray, List.size_toArray, ← r1.length, ← r2.length]
        exact ⟨.bl _, H, J, rfl, q⟩
  · exact h.elim
/-- x in [..], x not in [..], the items' answers bs -/
inductive Pr1 (F : V → Bool → Prop) : List V → List Bool → Prop
  | nil : Pr1 F [] []
  | cons {y : V} {b : Bool} {ys : List V} {bs : List Bool} : F y b → Pr1 F ys bs → Pr1 F (y :: ys) (b :: bs)
theorem pr1_at {F : V → Bool → Prop} {A : Around} {s : Shared} {v : Value} (ih : ∀ y b u, F y b → RelV y u → SeqAt.EqAt A s u v b) {ys : List V} {bs : List Bool} (hp : Pr1 F ys bs) :
    ∀ {us : List Value}, L2.Vals ys us → bs.length = us.length ∧ ∀ j (h1 : j < us.length), SeqAt.EqAt A s us[j] v (bs.getD j false) := by
  induction hp with
  | nil =>
    intro us r1
    cases r1
    exact ⟨rfl, fun j h1 => absurd h1 (Nat.not_lt_zero j)⟩
  | cons f _ rest =>
    intro us r1
    cases r1 with
    | cons p1 q1 =>
      obtain ⟨hl, hr⟩ := rest q1
      refine ⟨by simp only [List.length_cons]; omega, fun j h1 => ?_⟩
      match j with
      | 0 => exact ih _ _ _ f p1
      | j + 1 => exact hr j (Nat.lt_of_succ_lt_succ h1)
open Classical in
theorem pick_e {A : Around} {s : Shared} {v : Value} {us : List Value} {bs : List Bool} (hl : bs.length = us.length) (h : ∀ j (h1 : j < us.length), SeqAt.EqAt A s us[j] v (bs.getD j false)) :
    ∃ e : Value → Bool, (∀ y, y ∈ us.toArray → SeqAt.EqAt A s y v (e y)) ∧ us.toArray.any e = bs.any id := by
  refine ⟨fun u => decide (∃ j : Nat, us[j]? = some u ∧ bs[j]? = some true), fun y hy => ?_, ?_⟩
  · have hy : y ∈ us := by simpa using hy
    dsimp only
    by_cases c : ∃ j : Nat, us[j]? = some y ∧ bs[j]? = some true
    · obtain ⟨j, e1, e2⟩ := c
      obtain ⟨hj, e1⟩ := List.getElem?_eq_some_iff.mp e1
      have k := h j hj
      rw [e1, List.getD_eq_getElem?_getD, e2] at k
      rw [decide_eq_true ⟨j, by rw [List.getElem?_eq_getElem hj, e1], e2⟩]
      exact k
    · obtain ⟨j, hj, e1⟩ := List.getElem_of_mem hy
      have k := h j hj
      rw [decide_eq_false c]
      have hb : j < bs.length := by omega
      have : bs.getD j false = false := by
        rw [List.getD_eq_getElem?_getD, List.getElem?_eq_getElem hb]
        cases eb : bs[j] with
        | false => rfl
        | true => exact absurd ⟨j, by rw [List.getElem?_eq_getElem hj, e1], by rw [List.getElem?_eq_getElem hb, eb]⟩ c
      rw [this, e1] at k
      exact k
  · rw [List.any_toArray, Bool.eq_iff_iff, List.any_eq_true, List.any_eq_true]
    constructor
    · rintro ⟨u, _, hu⟩
      obtain ⟨j, _, e2⟩ := of_decide_eq_true hu
      exact ⟨true, List.mem_of_getElem? e2, rfl⟩
    · rintro ⟨b, hb, e⟩
      cases (show b = true from e)
      obtain ⟨j, hj, ej⟩ := List.getElem_of_mem hb
      have hj' : j < us.length := by omega
      exact ⟨us[j], List.getElem_mem hj', decide_eq_true ⟨j, List.getElem?_eq_getElem hj', by rw [List.getElem?_eq_getElem hj, ej]⟩⟩
def fInB (K : PySem.W.Frag) (neg : Bool) : R2 := fun x y H Q => match y with
  | .ref c => ∃ ys bs, SqL K H c ys ∧ Pr1 (fun y b => EqB K H 20 y x b) ys bs ∧ Q (.bl (opp neg (bs.any id))) H
  | _ => False
theorem f_inB (hu : X.A.units + 64 < cLine) : OpR X (compareOp .In) (fInB X.K false) := by
  intro pins s σ H x y v u Q J rx ry h
  unfold fInB at h
  split at h
  · obtain ⟨ys, bs, hb, hp, q⟩ := h
    cases ry
    obtain ⟨us, r1, p1, _⟩ := J.list hb
    obtain ⟨hl, k⟩ := pr1_at (fun y b u f r => eqB_at J 20 X.A.in1 (by show X.A.units + 1 + 20 < cLine; omega) y x b u v f r rx) hp r1
    obtain ⟨e, he, ea⟩ := pick_e hl k
    refine SeqAt.in_listAt e p1.isList he ⟨.bl _, H, J, rfl, ?_⟩
    rw [ea]
    exact q
  · exact h.elim
theorem f_notInB (hu : X.A.units + 64 < cLine) : OpR X (compareOp .NotIn) (fInB X.K true) := by
  intro pins s σ H x y v u Q J rx ry h
  unfold fInB at h
  split at h
  · obtain ⟨ys, bs, hb, hp, q⟩ := h
    cases ry
    obtain ⟨us, r1, p1, _⟩ := J.list hb
    obtain ⟨hl, k⟩ := pr1_at (fun y b u f r => eqB_at J 20 X.A.in1 (by show X.A.units + 1 + 20 < cLine; omega) y x b u v f r rx) hp r1
    obtain ⟨e, he, ea⟩ := pick_e hl k
    refine SeqAt.notIn_listAt e p1.isList he ⟨.bl _, H, J, rfl, ?_⟩
    rw [ea]
    exact q
  · exact h.elim
end
end Fg

set_option Elab.async false
set_option linter.all false
set_option maxRecDepth 100000
set_option maxHeartbeats 4000000
namespace Fg
open PySem PySem.Spec PySem.Calls PyProof.Rows L2
/-! ### C.m(..), C.m(k = v, ..) of a staticmethod -/
structure StatAt (K : PySem.W.Frag) (C : Addr) (m qual : Str) (st : Stmt) : Prop where
  ex : ∃ p g fd, Fun K m qual st g fd ∧ SMet K C m p g
  rd : ClX.CRead K C (.type "type")
structure SCallee (P : Program) (w : World) (K : PySem.W.Frag) (mg : Str → Option Value) (base : Heap) (k : Nat) (x : Str) (C : Addr) (m qual : Str) (st : Stmt) (ps : List Str) (sp : Sp) : Prop where
  ex : ∃ p g fd, FnOk P w K mg base (L2.CX P w) k g fd ps sp ∧ SMet K C m p g ∧ Fun K m qual st g fd
  rd : ClX.CRead K C (.type "type")
  g : ∃ u, mg x = some u ∧ RelV (.ref C) u
theorem scallee_of {P : Program} {w : World} {K : PySem.W.Frag} {mg : Str → Option Value} {base : Heap} {x : Str} {C : Addr} {m qual : Str} {st : Stmt} {N ps : List Str} {k : Nat} {sp : Sp} (g : ∃ u, mg x = some u ∧ RelV (.ref C) u) (F : StatAt K C m qual st) (S : FnScope N ps (defScope st))
    (len : ∀ vs H Q E, sp vs H Q E → vs.length = ps.length)
    (hbody : ∀ (f : Addr) (cdv : Value) (A : Around) (outer : List Env) (s : Shared) (H : Hp) (vs : List V) (Q : VK) (E : XK), Room k (cxOf (L2.CX P w) P w K mg base N qual (defScope st) f cdv A outer s H E).A →
      Takes (cxOf (L2.CX P w) P w K mg base N qual (defScope st) f cdv A outer s H E) (fun cls d _ H => E cls d H) →
      PassesOwn (model P w) (cxOf (L2.CX P w) P w K mg base N qual (defScope st) f cdv A outer s H E).A (cxOf (L2.CX P w) P w K mg base N qual (defScope st) f cdv A outer s H E).env (cxOf (L2.CX P w) P w K mg base N qual (defScope st) f cdv A outer s H E).xe → sp vs H Q E →
      ∃ t, PSs (cxOf (L2.CX P w) P w K mg base N qual (defScope st) f cdv A outer s H E) (defBody st) t ∧ t { nx := fun _ H' => Q .non H', rt := Q } (start N vs) H) :
    SCallee P w K mg base (k + 1) x C m qual st ps sp := by
  obtain ⟨p, f, fd, F', hm⟩ := F.ex
  exact ⟨⟨p, f, fd, F'.okX S len fun cdv A outer s H vs Q E hr h => hbody f cdv A outer s H vs Q E hr (takes_of rfl rfl rfl rfl) (passes_of rfl) h, hm, F'⟩, F.rd, g⟩
section
variable {X : Cx} {W : WX} {j k : Nat} {C : Addr} {m x qual : Str} {st : Stmt} {ps ks : List Str} {sp : Sp} {pos apos p2 : Pos} {e : Expr} {es : List Expr} {kwe : List Keyword} {t : TA} {pl : Sem Bool} {idx : List Nat}
theorem fc_smeth (c : SCallee X.prog X.w X.K X.mg X.base k x C m qual st ps sp) (hr : Room j X.A) (hj : k ≤ j) (hg : Gl X x) (tk : Takes X W) (ha : PA X (e :: es) t)
    (hb : ∀ (kV doc pm : Value) (an : Option Addr) (cdv ct : Value) (us : List Value), us.length = ps.length → bindArgs (PySem.W.fnOf m qual (defArgs st) (defBody st) (defScope st) .none kV doc pm an cdv ct) ⟨us, []⟩ = pure (ps.zip us))
    (hdb : (x == ("__debug__" : Str)) = false := by decide) (hst : starEach (e :: es) X.env = (false, eval e X.env) :: starEach es X.env := by rfl) (hpl : (backTo pos (starEach es X.env)).any (·.1) = false := by rfl)
    (ht : eval (.Call (.Attribute (.Name x p2) m apos) (e :: es) [] pos) X.env = (do
      let ov ← eval (.Name x p2) X.env
      standAt apos.atName
      let (f, first) ← holding [ov] (getMethod ov m pl)
      callWith pos f first (backTo pos (starEach (e :: es) X.env)) (backToKw pos (keywordEach [] X.env))) := by rfl) :
    PE X (.Call (.Attribute (.Name x p2) m apos) (e :: es) [] pos) (fun σ H Q => t σ H fun vs H2 => sp vs H2 Q (fun cls d H' => W cls d σ H')) := by
  obtain ⟨p, g, fd, F, S, Fu⟩ := c.ex
  exact pe_imp (pe_smeth (E := WE W) (fe_g hg c.g hdb) c.rd S F (hr.mono hj) Fu.kp (Fu.binds hb) (passAt tk) ha hst hpl ht) fun σ H Q q => ⟨rfl, q⟩
theorem fc_smethK (c : SCallee X.prog X.w X.K X.mg X.base k x C m qual st ps sp) (hr : Room j X.A) (hj : k ≤ j) (hg : Gl X x) (tk : Takes X W) (hkw : PK X kwe t)
    (hb : ∀ (kV doc pm : Value) (an : Option Addr) (cdv ct : Value) (ws : List Value), ws.length = ks.length → bindArgs (PySem.W.fnOf m qual (defArgs st) (defBody st) (defScope st) .none kV doc pm an cdv ct) ⟨[], ks.zip ws⟩ = pure (ps.zip (pick idx ws)))
    (hdb : (x == ("__debug__" : Str)) = false := by decide) (hall : (backToKw pos (keywordEach kwe X.env)).all (·.1.isSome) = true := by rfl) (hks : (backToKw pos (keywordEach kwe X.env)).filterMap (·.1) = ks := by rfl)
    (hpl : ((backTo pos (starEach [] X.env)).any (·.1) || (backToKw pos (keywordEach kwe X.env)).any (·.1.isNone)) = false := by rfl)
    (ht : eval (.Call (.Attribute (.Name x p2) m apos) [] kwe pos) X.env = (do
      let ov ← eval (.Name x p2) X.env
      standAt apos.atName
      let (f, first) ← holding [ov] (getMethod ov m pl)
      callWith pos f first (backTo pos (starEach [] X.env)) (backToKw pos (keywordEach kwe X.env))) := by rfl) :
    PE X (.Call (.Attribute (.Name x p2) m apos) [] kwe pos) (fun σ H Q => t σ H fun zs H2 => zs.length = ks.length ∧ sp (pick idx zs) H2 Q (fun cls d H' => W cls d σ H')) := by
  obtain ⟨p, g, fd, F, S, Fu⟩ := c.ex
  refine ⟨fun pins s σ H Q I h => ?_⟩
  refine PySem.W.methodCall_KW (pl := pl) (thn ((fe_g hg c.g hdb).run pins s σ H (fun v H' => v = .ref C ∧ t σ H' fun zs H2 => zs.length = ks.length ∧ sp (pick idx zs) H2 Q (fun cls d H' => W cls d σ H')) I ⟨rfl, h⟩) fun u s1 ⟨v, H1, I1, rx, ev, q⟩ => ?_) ht
  subst ev
  obtain rfl : u = Value.ref C := rx
  refine getsm_ok I1 c.rd S fun s2 I2 => ?_
  refine PySem.W.callWith_KW0 (first := []) (h₀ := X.base) I2.ok.mod.kin Fu.kp hall ?_ hpl
  refine thn (hkw.run pos pins s2 σ H1 _ I2 q) fun ws s3 ⟨zs, H2, J2, rz, ln, q2⟩ => ⟨J2.kIn, ?_⟩
  rw [hks]
  have lw : ws.length = ks.length := by rw [← rz.length, ln]
  obtain ⟨oc, od, kV, doc, pm, an, cdv, ct, osl, rfl, _, _⟩ := Fu.ex
  exact code_fnK (E := WE W) (args := ⟨[], ks.zip ws⟩) F (hr.mono hj) (.of_eq (hb kV doc pm an cdv ct ws lw)) (passAt tk σ) J2 (vals_pick idx rz) q2
end
/-! ### tuples, lists of texts -/
section
variable {K : PySem.W.Frag} {H : Hp}
theorem eqB_flat {n : Nat} {x y : V} (f1 : flatV x = true) (f2 : flatV y = true) : EqB K H n x y (eqV x y) := by
  cases n with
  | zero => exact ⟨f1, f2, rfl⟩
  | succ n => exact .inl ⟨f1, f2, rfl⟩
theorem pr3_strs : ∀ (xs ys : List Str), ∃ bs, Pr3 (EqB K H 20) (xs.map V.str) (ys.map V.str) bs ∧ (bs.all id && (xs.map V.str).length == (ys.map V.str).length) = decide (xs = ys) ∧ (xs.length = ys.length → bs.all id = decide (xs = ys))
  | [], ys => ⟨[], .nl, by cases ys <;> simp, fun h => by cases ys with
    | nil => rfl
    | cons a b => cases h⟩
  | x :: xs, [] => ⟨[], .nr, by simp, fun h => by cases h⟩
  | x :: xs, y :: ys => by
    obtain ⟨bs, h1, h2, h3⟩ := pr3_strs xs ys
    refine ⟨eqV (.str x) (.str y) :: bs, .cons (eqB_flat rfl rfl) h1, ?_, fun h => ?_⟩
    · simp only [List.length_map] at h2
      have e : eqV (.str x) (.str y) = decide (x = y) := by
        show (x == y) = decide (x = y)
        rw [Bool.eq_iff_iff, beq_iff_eq, decide_eq_true_iff]
      simp only [List.all_cons, List.map_cons, List.length_cons, List.length_map, id, e]
      rw [Bool.eq_iff_iff] at h2 ⊢
      simp only [Bool.and_eq_true, decide_eq_true_iff, beq_iff_eq, List.cons.injEq] at h2 ⊢
      constructor
      · rintro ⟨⟨a, b⟩, c⟩
        exact ⟨a, h2.mp ⟨b, by omega⟩⟩
      · rintro ⟨a, b⟩
        have := h2.mpr b
        exact ⟨⟨a, this.1⟩, by omega⟩
    · have e : eqV (.str x) (.str y) = decide (x = y) := by
        show (x == y) = decide (x = y)
        rw [Bool.eq_iff_iff, beq_iff_eq, decide_eq_true_iff]
      simp only [List.all_cons, id, e, h3 (by simpa using h)]
      rw [Bool.eq_iff_iff]
      simp only [Bool.and_eq_true, decide_eq_true_iff, List.cons.injEq]
end
section
variable {X : Cx}
def fEqTS (K : PySem.W.Frag) (neg : Bool) : R2 := fun x y H Q => match x, y with
  | .ref a, .ref c => ∃ xs ys : List Str, SqT K H a (xs.map V.str) ∧ SqT K H c (ys.map V.str) ∧ Q (.bl (opp neg (decide (xs = ys)))) H
  | _, _ => False
theorem f_neTS (hu : X.A.units + 64 < cLine) : OpR X (compareOp .NotEq) (fEqTS X.K true) := op_imp (f_neB hu) fun x y H Q q => by
  unfold fEqTS at q
  split at q
  · obtain ⟨xs, ys, h1, h2, q⟩ := q
    obtain ⟨bs, p, e, _⟩ := pr3_strs (K := X.K) (H := H) xs ys
    exact .inr (.inr ⟨_, _, bs, h1, h2, p, by rw [e]; exact q⟩)
  · exact q.elim
end
end Fg

set_option Elab.async false
set_option linter.all false
set_option maxRecDepth 100000
set_option maxHeartbeats 4000000
namespace Fg
open PySem PySem.Spec PySem.Calls PyProof.Rows L2
/-! ### {k: v for a, b in zip(x, y)} -/
def DCompZ (st : Hp → Prop) (g : TG) (tk tv : TE) (vs : List Nat) (σ : L2.St) (D : Addr) (Q : Hp → Prop) : List (V × V) → Hp → Prop
  | [] => fun H => Q H
  | p :: r => fun H => ∀ T H', H T = none → Same H H' → H' T = some (.tup [p.1, p.2]) → g (.ref T) (wipe σ vs) H' fun σ2 H2 => wipe σ2 vs = wipe σ vs ∧ tk σ2 H2 fun y H3 => tv σ2 H3 fun z H4 =>
      ∃ kvs k, y = kV k ∧ H4 D = some (.dK kvs) ∧ kvs.length < sizeLine ∧ st (upd H4 D (.dK (putK kvs k z))) ∧ DCompZ st g tk tv vs σ D Q r (upd H4 D (.dK (putK kvs k z)))
section
variable {X : Cx} {kx vx e e2 : Expr} {scope : Scope} {own : List (Str × Nat)} {pos p pos2 tpos : Pos} {elts : List Expr} {kk : Nat} {g : TG} {tk tv : TE} {ta : TA}
def tDcZ (K : PySem.W.Frag) (g : TG) (tk tv : TE) (ta : TA) (vs : List Nat) : TE := fun σ H Q => ta σ H fun zs H1 => ∃ (d1 d2 : Sd) (xs ys : List V), zs = [d1.v, d2.v] ∧ d1.has K H1 xs ∧ d2.has K H1 ys ∧ xs.length = ys.length ∧
  ∀ D H2, H1 D = none → Same H1 H2 → H2 D = some (.dK []) → (d1.has K H2 xs ∧ d2.has K H2 ys) ∧ DCompZ (fun H => d1.has K H xs ∧ d2.has K H ys) g tk tv vs σ D (Q (.ref D)) (xs.zip ys) H2
theorem fe_dcZ (hc : X.calm = true) (hN : X.N.Nodup) (hgl : Gl X "zip") (hm : X.mg "zip" = none) (ha : PA X [e, e2] ta) (ok : BlkOk X.N X.env.scope scope own)
    (hg : ∀ (s : Shared) (H : Hp) (C : Addr) (cl : List (Str × Addr)) (fp : List Addr), PG (X.blk s H scope (compEnvC scope cl C X.env) fp) (.Tuple elts kk tpos) g)
    (hk : ∀ (s : Shared) (H : Hp) (C : Addr) (cl : List (Str × Addr)) (fp : List Addr), PE (X.blk s H scope (compEnvC scope cl C X.env) fp) kx tk)
    (he : ∀ (s : Shared) (H : Hp) (C : Addr) (cl : List (Str × Addr)) (fp : List Addr), PE (X.blk s H scope (compEnvC scope cl C X.env) fp) vx tv)
    (hst : starEach [e, e2] X.env = (false, eval e X.env) :: starEach [e2] X.env := by rfl) (hpl : (backTo pos2 (starEach [e2] X.env)).any (·.1) = false := by rfl) (hs : ∀ x, foldedSetIterable (.Call (.Name "zip" p) [e, e2] [] pos2) X.env x = pure x := by intro _; rfl) :
    PE X (.DictComp kx vx [⟨.Tuple elts kk tpos, .Call (.Name "zip" p) [e, e2] [] pos2, [], 0⟩] scope pos) (tDcZ X.K g tk tv ta (own.map (·.2))) :=
  pe_imp (pe_dc (tt := tYes) hc hN (pi_zipM hgl hm (pa_up ha) hst hpl) ok hg (fun _ _ _ _ _ => pts_nil) hk he hs) fun σ H Q q => ⟨_, q, fun zs H1 ⟨d1, d2, xs, ys, ez, h1, h2, hl, k⟩ => ⟨d1, d2, xs, ys, ez, h1, h2, hl, fun D nD => by
    obtain ⟨hst, c⟩ := k D _ nD (Same.new nD) upd_same
    refine ⟨fun i m H => m + i = (xs.zip ys).length ∧ (d1.has X.K H xs ∧ d2.has X.K H ys) ∧ DCompZ (fun H => d1.has X.K H xs ∧ d2.has X.K H ys) g tk tv (own.map (·.2)) σ D (Q (.ref D)) ((xs.zip ys).drop i) H, ⟨_, rfl, hst, c⟩, ?_⟩
    rintro i m H ⟨hm, hs, hc⟩
    have hz : (xs.zip ys).length = xs.length := by rw [List.length_zip, hl, Nat.min_self]
    by_cases hi : i < (xs.zip ys).length
    · right
      rw [List.drop_eq_getElem_cons hi] at hc
      refine ⟨⟨xs, ys, hs.1, hs.2, by omega, hl⟩, fun H' => (d1.has X.K H' xs ∧ d2.has X.K H' ys) ∧ DCompZ (fun H => d1.has X.K H xs ∧ d2.has X.K H ys) g tk tv (own.map (·.2)) σ D (Q (.ref D)) ((xs.zip ys).drop (i + 1)) H', fun H' ⟨a, b⟩ => ⟨m - 1, by omega, by omega, a, b⟩, fun x H' y => ?_⟩
      obtain ⟨T, x1, x2, rfl, nT, rfl, f1, f2⟩ := y
      have ep : (xs.zip ys)[i] = (x1, x2) := by
        have e1 := f1 xs hs.1
        have e2 := f2 ys hs.2
        have hi1 : i < xs.length := by omega
        have hi2 : i < ys.length := by omega
        rw [List.getElem?_eq_getElem hi1] at e1
        rw [List.getElem?_eq_getElem hi2] at e2
        rw [List.getElem_zip, Option.some.inj e1, Option.some.inj e2]
      rw [ep] at hc
      exact hc T _ nT (Same.new nT) upd_same
    · left
      have ei : i = (xs.zip ys).length := by omega
      subst ei
      rw [List.drop_length] at hc
      exact ⟨⟨xs, ys, hs.1, hs.2, hz, hl⟩, hc⟩⟩⟩
end
theorem putK_new {kvs : List (Key × V)} {k : Key} {v : V} (h : ∀ p ∈ kvs, p.1 ≠ k) : putK kvs k v = kvs ++ [(k, v)] := by
  unfold putK
  split
  · rename_i c
    exfalso
    obtain ⟨p, hp, e⟩ := List.any_eq_true.mp c
    exact h p hp (by simpa using e)
  · rfl
/-- each value by a function of the pair; the keys are different texts -/
theorem DCompZ.by {st : Hp → Prop} {g : TG} {tk tv : TE} {vs : List Nat} {σ : L2.St} {D : Addr} {Q : Hp → Prop} {H0 : Hp} (f : Str → V → V) (n0 : H0 D = none) (hst : ∀ H, Same H0 H → st H) (Px : Str → V → Prop)
    (hx : ∀ (s : Str) (x : V) (T : Addr) (H : Hp) (N : L2.St → Hp → Prop → Prop) (R : V → V → Hp → Prop), Px s x → Same H0 H → H T = some (.tup [.str s, x]) → (∀ H', Same H H' → R (.str s) (f s x) H') →
      g (.ref T) (wipe σ vs) H fun σ2 H2 => wipe σ2 vs = wipe σ vs ∧ tk σ2 H2 fun y H3 => tv σ2 H3 fun z H4 => R y z H4) :
    ∀ (ps : List (Str × V)) (acc : List (Key × V)) (H : Hp), (∀ p ∈ ps, Px p.1 p.2) → (acc.map (·.1) ++ ps.map fun p => (Sum.inr p.1 : Key)).Nodup → acc.length + ps.length ≤ sizeLine → Same H0 H → H D = some (.dK acc) →
      (∀ H', Same H0 H' → H' D = some (.dK (acc ++ ps.map fun p => ((Sum.inr p.1 : Key), f p.1 p.2))) → Q H') → DCompZ st g tk tv vs σ D Q (ps.map fun p => (V.str p.1, p.2)) H
  | [], acc, H, _, _, _, s, hD, q => q H s (by rw [List.map_nil, List.append_nil]; exact hD)
  | p :: r, acc, H, hp, nd, hl, s, hD, q => by
    intro T H' nT s' hT
    rw [List.length_cons] at hl
    have nTD : T ≠ D := fun e => by rw [e, hD] at nT; cases nT
    refine hx p.1 p.2 T H' (fun _ _ _ => True) (fun y z H4 => ∃ kvs k, y = kV k ∧ H4 D = some (.dK kvs) ∧ kvs.length < sizeLine ∧ st (upd H4 D (.dK (putK kvs k z))) ∧ DCompZ st g tk tv vs σ D Q (r.map fun p => (V.str p.1, p.2)) (upd H4 D (.dK (putK kvs k z)))) (hp p (List.mem_cons_self ..)) (s.trans s') hT fun H4 s4 => ?_
    have sD : Same H0 (upd H4 D (.dK (putK acc (Sum.inr p.1 : Key) (f p.1 p.2)))) := Same.but ((s.trans s').trans s4) n0 But.upd
    have fresh : ∀ q ∈ acc, q.1 ≠ (Sum.inr p.1 : Key) := fun q hq e => by
      rw [List.nodup_append] at nd
      exact nd.2.2 _ (List.mem_map.mpr ⟨q, hq, rfl⟩) _ (List.mem_cons_self ..) e
    refine ⟨acc, Sum.inr p.1, rfl, s4 _ _ (s' _ _ hD), by omega, hst _ sD, ?_⟩
    refine DCompZ.by f n0 hst Px hx r (putK acc (Sum.inr p.1 : Key) (f p.1 p.2)) _ (fun q hq => hp q (List.mem_cons_of_mem _ hq)) ?_ ?_ sD upd_same fun H' s5 e => q H' s5 ?_
    · rw [putK_new fresh, List.map_append, List.append_assoc]
      exact nd
    · rw [putK_new fresh, List.length_append, List.length_singleton]
      omega
    · rw [e, putK_new fresh, List.append_assoc]
      rfl
end Fg

set_option Elab.async false
set_option linter.all false
set_option maxRecDepth 100000
set_option maxHeartbeats 4000000
namespace Fg
open PySem PySem.Spec PySem.Calls PyProof.Rows L2
/-! ### isinstance with a class of the text -/
/-- no thing of a built-in type is of the class at C -/
structure InsC (K : PySem.W.Frag) (C : Addr) : Prop where
  no : ∀ n ∈ ["NoneType", "bool", "int", "str", "list", "tuple", "dict"], PySem.W.kitOne K (.type n) (.ref C) = some false
def fIsC (K : PySem.W.Frag) (C : Addr) : List V → Hp → VK → Prop := fun xs H Q => match xs with
  | [x, .ref c] => c = C ∧ match x with
    | .non => Q (.bl false) H
    | .bl _ => Q (.bl false) H
    | .int _ => Q (.bl false) H
    | .str _ => Q (.bl false) H
    | .ref a => ∃ b, RefTy K H a (.ref C) b ∧ Q (.bl b) H
    | _ => False
  | _ => False
theorem f_isC {X : Cx} {C : Addr} (i : InsC X.K C) : CallR X (.builtin "isinstance") (fIsC X.K C) := call_imp call_isi fun xs H Q q => by
  unfold fIsC at q
  split at q
  · rename_i x m
    obtain ⟨rfl, q⟩ := q
    cases x with
    | non => exact ⟨_, _, _, _, _, rfl, .own _, .base .non, i.no "NoneType" (by decide), q⟩
    | bl b => exact ⟨_, _, _, _, _, rfl, .own _, .base (.bl _), i.no "bool" (by decide), q⟩
    | int b => exact ⟨_, _, _, _, _, rfl, .own _, .base (.int _), i.no "int" (by decide), q⟩
    | str b => exact ⟨_, _, _, _, _, rfl, .own _, .base (.str _), i.no "str" (by decide), q⟩
    | ref a =>
      obtain ⟨b, ⟨t, ty, kt⟩, q⟩ := q
      exact ⟨_, _, _, _, _, rfl, .own _, ty, kt, q⟩
    | byt _ => exact q.elim
    | flt _ => exact q.elim
    | ty _ => exact q.elim
  · exact q.elim
theorem f_isCB {X : Cx} {K : PySem.W.Frag} (hK : X.K = K) {C : Addr} (i : InsC K C) : CallR X (.builtin "isinstance") (fIsC K C) := by
  subst hK
  exact f_isC i
/-- an instance is one of its class -/
theorem refTy_self {K : PySem.W.Frag} {H : Hp} {a C dx : Addr} {fs : List (Str × V)} (e : H a = some (.ins C dx fs)) (cl : Cls K C) (i : (PySem.W.findIn K (.ref C) "__class__" = some (some (.builtin "object.__class__"))) ∧ (PySem.W.specialIn K (.builtin "object.__class__") "__get__" = some (some (.builtin "getset_descriptor.__get__"))) ∧ (PySem.W.takesIn K (.builtin "object.__class__") = some true) ∧ PySem.W.mroIn K C (.type "object") = some true) :
    RefTy K H a (.ref C) true := by
  obtain ⟨i1, i2, i3, i4⟩ := i
  refine ⟨.ref C, .base (.ins e cl i1 i2 i3 i4), ?_⟩
  unfold PySem.W.kitOne
  rw [if_pos (by simp)]
/-! ### == of tuples of flat things and instances with an own == -/
section
variable {X : Cx} {n k : Nat} {C : Addr} {ps : List Str} {sp : Sp}
/-- the same flat thing, or two instances that their == finds equal -/
def FlatOr (C : Addr) (R : Addr → Addr → Hp → Prop) : Eqv := fun x y H => (x = y ∧ flatB x = true) ∨ DIns C R x y H
theorem eqG_flatOr {R : Addr → Addr → Hp → Prop} (h : EqG X n (DIns C R)) : EqG X n (FlatOr C R) := by
  intro A pins s σ H x y u v sb I rx ry d
  rcases d with ⟨rfl, f⟩ | d
  · exact eqAt_same rx ry f X.prog X.w X.xe _ ⟨rfl, H, I, Ext.rfl'⟩
  · exact h A pins s σ H x y u v sb I rx ry d
theorem mon_flatOr {R : Addr → Addr → Hp → Prop} (hR : ∀ a b H H', Ext H H' → R a b H → R a b H') : Mon (FlatOr C R) := fun x y H H' e d => by
  rcases d with d | d
  · exact .inl d
  · exact .inr (mon_ins hR x y H H' e d)
/-- (.., o, ..) == (.., p, ..), all equal -/
def fEqTO (K : PySem.W.Frag) (C : Addr) (R : Addr → Addr → Hp → Prop) : R2 := fun x y H Q => match x, y with
  | .ref a, .ref b => ∃ xs ys, SqT K H a xs ∧ SqT K H b ys ∧ Prs (FlatOr C R) xs ys H ∧ ∀ H', Same H H' → Q (.bl true) H'
  | _, _ => False
theorem f_eqTO (c : MCallee X.prog X.w X.K X.mg X.base k C "__eq__" ps sp) (R : Addr → Addr → Hp → Prop) (hR : ∀ a b H H', Same H H' → R a b H → R a b H') (hs : ∀ a b H Q E, R a b H → (∀ H', Same H H' → Q (.bl true) H') → sp [.ref a, .ref b] H Q E) (hr : Room n X.A) (hk : k + 1 ≤ n) :
    OpR X (compareOp .Eq) (fEqTO X.K C R) := by
  obtain ⟨g, fd, F, cl, hm, hb⟩ := c.ex
  have F2 : FnOk X.prog X.w X.K X.mg X.base (L2.CX X.prog X.w) k g fd ps (spEq R) := F.imp fun vs H Q E q => by
    obtain ⟨a, b, rfl, r, q⟩ := q
    exact hs a b H Q E r fun H' s => q H' s
  have G := eqG_flatOr (eqG_ins (E := noE) F2 hm.at_ hm.fn hb fun pins σ H s e s' _ got => by
    obtain ⟨_, _, _, _, _, _, _, _, _, _, _, _, z⟩ := got
    exact z.elim)
  have T := rcG_tup (mon_flatOr fun a b H H' e r => hR a b H H' e r) G
  refine op_imp (op_eqG T (hr.mono hk)) fun x y H Q q => ?_
  unfold fEqTO at q
  split at q
  · obtain ⟨xs, ys, h1, h2, p, q⟩ := q
    exact ⟨⟨_, _, xs, ys, rfl, rfl, h1, h2, p⟩, fun H' e => q H' e⟩
  · exact q.elim
end
end Fg

set_option Elab.async false
set_option linter.all false
set_option maxRecDepth 100000
set_option maxHeartbeats 4000000
namespace Fg
open PySem PySem.Spec PySem.Calls PyProof.Rows L2
/-! ### y = {k: v for a, b in zip(x, y)} -/
section
variable {X : Cx} {kx vx tg iter : Expr} {ifs : List Expr} {scope : Scope} {own : List (Str × Nat)} {pos spos py : Pos} {i : Nat} {y : Str}
theorem ps_setDc {wi : TI} {g : TG} {tt : TT} {tk tv : TE} (hc : X.calm = true) (hN : X.N.Nodup) (hy : X.N[i]? = some y) (hyl : X.env.scope.names.lookup y = some .local)
    (hsw : swapsWith (.DictComp kx vx [⟨tg, iter, ifs, 0⟩] scope pos) (some (.Name y py)) spos.line X.env = pure true) (hi : PI X tg iter wi) (ok : BlkOk X.N X.env.scope scope own)
    (hg : ∀ (s : Shared) (H : Hp) (C : Addr) (cl : List (Str × Addr)) (fp : List Addr), PG (X.blk s H scope (compEnvC scope cl C X.env) fp) tg g) (ht : ∀ (s : Shared) (H : Hp) (C : Addr) (cl : List (Str × Addr)) (fp : List Addr), PTs (X.blk s H scope (compEnvC scope cl C X.env) fp) ifs tt)
    (hk : ∀ (s : Shared) (H : Hp) (C : Addr) (cl : List (Str × Addr)) (fp : List Addr), PE (X.blk s H scope (compEnvC scope cl C X.env) fp) kx tk)
    (he : ∀ (s : Shared) (H : Hp) (C : Addr) (cl : List (Str × Addr)) (fp : List Addr), PE (X.blk s H scope (compEnvC scope cl C X.env) fp) vx tv) (hs : ∀ x, foldedSetIterable iter X.env x = pure x := by intro _; rfl) :
    PS X (.Assign [.Name y py] (.DictComp kx vx [⟨tg, iter, ifs, 0⟩] scope pos) spos) (tAsg (tDc wi g tt tk tv (own.map (·.2))) (gName i)) := by
  refine ⟨fun pins s σ H D I h => ?_⟩
  rw [exec_Assign_Name_used _ _ _ _ hsw]
  refine wpAny_bind (wpAny_standAt (wpAny_bind ?_))
  show wpAny _ X.A (do let _ ← comprehension (.DictComp kx vx [⟨tg, iter, ifs, 0⟩] scope pos) scope X.env (firstIterPos [⟨tg, iter, ifs, 0⟩] pos) newDict false (eval iter X.env) (some (assign (.Name y py) X.env))) _ _ s
  have h' : tDc wi g tt tk tv (own.map (·.2)) σ H (fun x H1 => gName i x σ H1 D.nx) := h
  refine wpAny_bind (thn (dc_core (Qf := fun _ s' => SP X pins D .next s') hc hN I hi ok hg ht hk he hs h' fun L C s' m H' I' q hn f => ?_) fun _ s' hq => wpAny_pure (wpAny_pure hq))
  show wpAny _ _ (assign (.Name y py) X.env (.ref L)) _ _ _
  refine wpAny_assign_Name (store_ok2 (v := V.ref L) I' hN hy (.inl hyl) rfl (fun s2 I2 ⟨a, sb, ha⟩ => ?_) (.inr hyl))
  obtain ⟨f0, f1, f2, f3, f4, f5⟩ := f
  have hCa : C ≠ a := by
    rcases ha with z | z
    · rw [z]; exact f1
    · exact fun e => f4 y a z e.symm
  exact ⟨m, hn.sameBut sb hCa, fun h3 sb3 => ⟨_, H', I2.turned (t' := s2.toks) (fun b o hb e => (sb3.2 b hb).trans e) f0 f1 f3 f4 f5, q⟩⟩
theorem sw_dict {gs : List Comprehension} {l : Nat} {env : Env} (hk : env.scope.kind = .function) (hy : env.scope.names.lookup y = some .local) (hl : (py.line == pos.line) = true)
    (ha : (scope.names.any fun (n, k) => n == y && (k == .local || k == .cell)) = false) : swapsWith (.DictComp kx vx gs scope pos) (some (.Name y py)) l env = pure true := by
  have ky : env.kindOf y = some .local := hy
  have hb : env.blockKind = .function := by unfold Env.blockKind; rw [hk]; rfl
  unfold swapsWith
  simp only [hb, ky, ha, Expr.pos, hl]
  rfl
end
section
variable {X : Cx} {kx vx e e2 : Expr} {scope : Scope} {own : List (Str × Nat)} {pos p pos2 tpos spos py : Pos} {elts : List Expr} {kk i : Nat} {y : Str} {g : TG} {tk tv : TE} {ta : TA}
theorem dcz_imp {σ : L2.St} {H : Hp} {Q : VK} (q : tDcZ X.K g tk tv ta (own.map (·.2)) σ H Q) : tDc (iZipM X.K (upA ta)) g tYes tk tv (own.map (·.2)) σ H Q := ⟨_, q, fun zs H1 ⟨d1, d2, xs, ys, ez, h1, h2, hl, k⟩ => ⟨d1, d2, xs, ys, ez, h1, h2, hl, fun D nD => by
    obtain ⟨hst, c⟩ := k D _ nD (Same.new nD) upd_same
    refine ⟨fun i m H => m + i = (xs.zip ys).length ∧ (d1.has X.K H xs ∧ d2.has X.K H ys) ∧ DCompZ (fun H => d1.has X.K H xs ∧ d2.has X.K H ys) g tk tv (own.map (·.2)) σ D (Q (.ref D)) ((xs.zip ys).drop i) H, ⟨_, rfl, hst, c⟩, ?_⟩
    rintro i m H ⟨hm, hs, hc⟩
    have hz : (xs.zip ys).length = xs.length := by rw [List.length_zip, hl, Nat.min_self]
    by_cases hi : i < (xs.zip ys).length
    · right
      rw [List.drop_eq_getElem_cons hi] at hc
      refine ⟨⟨xs, ys, hs.1, hs.2, by omega, hl⟩, fun H' => (d1.has X.K H' xs ∧ d2.has X.K H' ys) ∧ DCompZ (fun H => d1.has X.K H xs ∧ d2.has X.K H ys) g tk tv (own.map (·.2)) σ D (Q (.ref D)) ((xs.zip ys).drop (i + 1)) H', fun H' ⟨a, b⟩ => ⟨m - 1, by omega, by omega, a, b⟩, fun x H' y => ?_⟩
      obtain ⟨T, x1, x2, rfl, nT, rfl, f1, f2⟩ := y
      have ep : (xs.zip ys)[i] = (x1, x2) := by
        have e1 := f1 xs hs.1
        have e2 := f2 ys hs.2
        have hi1 : i < xs.length := by omega
        have hi2 : i < ys.length := by omega
        rw [List.getElem?_eq_getElem hi1] at e1
        rw [List.getElem?_eq_getElem hi2] at e2
        rw [List.getElem_zip, Option.some.inj e1, Option.some.inj e2]
      rw [ep] at hc
      exact hc T _ nT (Same.new nT) upd_same
    · left
      have ei : i = (xs.zip ys).length := by omega
      subst ei
      rw [List.drop_length] at hc
      exact ⟨⟨xs, ys, hs.1, hs.2, hz, hl⟩, hc⟩⟩⟩
theorem fs_setDcZ (hc : X.calm = true) (hN : X.N.Nodup) (hy : X.N[i]? = some y) (hyl : X.env.scope.names.lookup y = some .local)
    (hsw : swapsWith (.DictComp kx vx [⟨.Tuple elts kk tpos, .Call (.Name "zip" p) [e, e2] [] pos2, [], 0⟩] scope pos) (some (.Name y py)) spos.line X.env = pure true) (hgl : Gl X "zip") (hm : X.mg "zip" = none) (ha : PA X [e, e2] ta) (ok : BlkOk X.N X.env.scope scope own)
    (hg : ∀ (s : Shared) (H : Hp) (C : Addr) (cl : List (Str × Addr)) (fp : List Addr), PG (X.blk s H scope (compEnvC scope cl C X.env) fp) (.Tuple elts kk tpos) g)
    (hk : ∀ (s : Shared) (H : Hp) (C : Addr) (cl : List (Str × Addr)) (fp : List Addr), PE (X.blk s H scope (compEnvC scope cl C X.env) fp) kx tk)
    (he : ∀ (s : Shared) (H : Hp) (C : Addr) (cl : List (Str × Addr)) (fp : List Addr), PE (X.blk s H scope (compEnvC scope cl C X.env) fp) vx tv)
    (hst : starEach [e, e2] X.env = (false, eval e X.env) :: starEach [e2] X.env := by rfl) (hpl : (backTo pos2 (starEach [e2] X.env)).any (·.1) = false := by rfl) (hs : ∀ x, foldedSetIterable (.Call (.Name "zip" p) [e, e2] [] pos2) X.env x = pure x := by intro _; rfl) :
    PS X (.Assign [.Name y py] (.DictComp kx vx [⟨.Tuple elts kk tpos, .Call (.Name "zip" p) [e, e2] [] pos2, [], 0⟩] scope pos) spos) (tAsg (tDcZ X.K g tk tv ta (own.map (·.2))) (gName i)) :=
  ps_imp (ps_setDc (tt := tYes) hc hN hy hyl hsw (pi_zipM hgl hm (pa_up ha) hst hpl) ok hg (fun _ _ _ _ _ => pts_nil) hk he hs) fun D σ H q => dcz_imp q
end
end Fg

set_option Elab.async false
set_option linter.all false
set_option maxRecDepth 100000
set_option maxHeartbeats 4000000
namespace Fg
open PySem PySem.Spec PySem.Calls PyProof.Rows L2
/-! ### s.m(a, b) -/
section
variable {X : Cx} {o e1 e2 : Expr} {to t1 t2 : TE} {apos pos : Pos}
def tSM2 (r : V → List V → Hp → VK → Prop) (to t1 t2 : TE) : TE := fun σ H Q => to σ H fun x H1 => match x with
  | .str z => t1 σ H1 fun y H2 => t2 σ H2 fun w H3 => r (.str z) [y, w] H3 Q
  | _ => False
theorem fe_sm2 {id : String} {name : Str} {r : V → List V → Hp → VK → Prop} (slot : Slot "str" name id) (ty : typeOf (.builtin id) = pure (.type "method_descriptor")) (rule : MtR X id r) (ho : PE X o to) (h1 : PE X e1 t1) (h2 : PE X e2 t2)
    (hs : starEach [e1, e2] X.env = [(false, eval e1 X.env), (false, eval e2 X.env)] := by rfl) (hbase : attributeBase o name X.env (eval o X.env) = eval o X.env := by rfl) (hline : (apos.endLine == pos.line) = true := by rfl) :
    PE X (.Call (.Attribute o name apos) [e1, e2] [] pos) (tSM2 r to t1 t2) := by
  refine ⟨fun pins s σ H Q I h => ?_⟩
  refine PySem.Call_method2 hbase hs hline (thn (ho.run pins s σ H _ I h) fun v s1 ⟨x, H1, I1, r1, q1⟩ => ?_)
  dsimp only at q1
  split at q1
  · rename_i z
    obtain ⟨t, rfl⟩ := _root_.id r1
    refine ⟨"str", _, F.plainAttrs_str, slot, ty, typeIs_str _ _ _, (fun _ e => nomatch e), Calls.callWith_builtin rfl (Calls.evalArgs_plain (Calls.spliced_cons ?_))⟩
    refine thn (h1.run pins s1 σ H1 _ I1 q1) fun u s2 ⟨y, H2, I2, r2, q2⟩ => Calls.spliced_cons ?_
    exact thn (h2.run pins s2 σ H2 _ I2 q2) fun u s3 ⟨w, H3, I3, r3, q3⟩ => Calls.spliced_nil (rule pins s3 σ H3 _ [y, w] _ [_, u] Q I3 r1 (.cons r2 (.cons r3 .nil)) q3)
  · exact q1.elim
def fSplit2 : V → List V → Hp → VK → Prop := fun x xs H Q => match x, xs with
  | .str a, [.str b, .int k] => (b.length == 0) = false ∧ (-(2 ^ 63) ≤ k ∧ k < 2 ^ 63) ∧ a.length + 2 ≤ sizeLine ∧ Fresh H (.lst ((Txt.splitMax a b k).map V.str)) Q
  | _, _ => False
theorem f_split2 : MtR X "str.split" fSplit2 := mt_imp mt_splitMax fun x xs H Q q => by
  unfold fSplit2 at q
  split at q
  · exact ⟨_, _, _, rfl, rfl, q.1, q.2.1.1, q.2.1.2, q.2.2.1, q.2.2.2.go⟩
  · exact q.elim
end
/-! ### C(a, b, ..): every parameter written -/
structure InitD (K : PySem.W.Frag) (C : Addr) (qual : Str) (st : Stmt) (dvs : List V) : Prop where
  ex : ∃ f fd, FunD K "__init__" qual (defArgs st) (defBody st) (defScope st) dvs [] f fd ∧ Mk K C f
structure PMaker (P : Program) (w : World) (K : PySem.W.Frag) (mg : Str → Option Value) (base : Heap) (k : Nat) (x : Str) (C : Addr) (ps : List Str) (sp : Sp) : Prop where
  ex : ∃ f fd, Mk K C f ∧ FnOk P w K mg base (L2.CX P w) k f fd ps sp ∧ Binds K fd ps []
  g : mg x = some (.ref C)
theorem pmaker_of {P : Program} {w : World} {K : PySem.W.Frag} {mg : Str → Option Value} {base : Heap} {x qual : Str} {C : Addr} {st : Stmt} {dvs : List V} {N ps : List Str} {k : Nat} {sp : Sp} (g : mg x = some (.ref C)) (F : InitD K C qual st dvs) (S : FnScope N ps (defScope st)) (hd : dvs ≠ [])
    (hb : ∀ (T : Addr) (kV doc pm : Value) (an : Option Addr) (cdv ct : Value) (us its : List Value), us.length = ps.length → its.length = dvs.length →
      ∃ k, bindArgs (PySem.W.fnOf "__init__" qual (defArgs st) (defBody st) (defScope st) (.ref T) kV doc pm an cdv ct) ⟨us, []⟩ = seqItems? (.ref T) >>= k ∧ k (some its.toArray) = pure (ps.zip (us ++ its.drop dvs.length)))
    (len : ∀ vs H Q E, sp vs H Q E → vs.length = ps.length)
    (hbody : ∀ (f : Addr) (cdv : Value) (A : Around) (outer : List Env) (s : Shared) (H : Hp) (vs : List V) (Q : VK) (E : XK), Room k (cxOf (L2.CX P w) P w K mg base N qual (defScope st) f cdv A outer s H E).A →
      Takes (cxOf (L2.CX P w) P w K mg base N qual (defScope st) f cdv A outer s H E) (fun cls d _ H => E cls d H) →
      PassesOwn (model P w) (cxOf (L2.CX P w) P w K mg base N qual (defScope st) f cdv A outer s H E).A (cxOf (L2.CX P w) P w K mg base N qual (defScope st) f cdv A outer s H E).env (cxOf (L2.CX P w) P w K mg base N qual (defScope st) f cdv A outer s H E).xe → sp vs H Q E →
      ∃ t, PSs (cxOf (L2.CX P w) P w K mg base N qual (defScope st) f cdv A outer s H E) (defBody st) t ∧ t { nx := fun _ H' => Q .non H', rt := Q } (start N vs) H) :
    PMaker P w K mg base (k + 1) x C ps sp := by
  obtain ⟨f, fd, F, M⟩ := F.ex
  obtain ⟨ds, v, B⟩ := F.binds1 ps.length dvs.length hd (by omega) hb
  have e : ds = [] := by
    rw [List.drop_length] at v
    cases v
    rfl
  subst e
  exact ⟨⟨f, fd, M, F.ok S len fun cdv A outer s H vs Q E hr h => hbody f cdv A outer s H vs Q E hr (takes_of rfl rfl rfl rfl) (passes_of rfl) h, B⟩, g⟩
section
variable {X : Cx} {W : WX} {j k : Nat} {C : Addr} {x : Str} {ps : List Str} {sp : Sp} {p pos : Pos} {e : Expr} {es : List Expr} {t : TA}
theorem fc_new (c : PMaker X.prog X.w X.K X.mg X.base k x C ps sp) (hr : Room j X.A) (hj : k + 1 ≤ j) (hg : Gl X x) (tk : Takes X W) (ha : PA X (e :: es) t) (hdb : (x == ("__debug__" : Str)) = false := by decide)
    (he : starEach (e :: es) X.env = (false, eval e X.env) :: starEach es X.env := by rfl) (hpl : (backTo pos (starEach es X.env)).any (·.1) = false := by rfl) :
    PE X (.Call (.Name x p) (e :: es) [] pos) (fun σ H Q => t σ H fun zs H2 => zs.length + 1 = ps.length ∧ MadeBy C sp (fun l => l) W σ zs H2 Q) := by
  obtain ⟨f, fd, M, O, B⟩ := c.ex
  refine ⟨fun pins s σ H Q J q => ?_⟩
  refine wpAny_Call_Name_kw (ld_glob J hg c.g ?_ hdb)
  refine PySem.W.callWith_K (h₀ := X.base) J.ok.mod.kin M.kp (thn (ha.run pos pins s σ H _ J q) fun us s2 ⟨zs, H2, J2, rz, l, q2⟩ => ⟨J2.kIn, ?_⟩) he hpl
  have r := run_made (k := k) (us := us) (ws := []) (ks := []) (gV := fun l => l) (zs := zs) (all := .ref (s2.heap.objs.size + 1) :: us) M O (hr.mono hj) (fun s' K => ?_) (.cons rfl rz) (passAt tk σ) J2 q2.go
  · exact r
  · have := B s' (.ref (s2.heap.objs.size + 1) :: us) K (by rw [List.append_nil, List.length_cons, ← rz.length]; exact l)
    rw [List.append_nil] at this
    exact this
end
/-! ### {o} in an f-string, o with an own __str__ -/
structure FmtAt (K : PySem.W.Frag) (C : Addr) : Prop where
  fm : PySem.W.findIn K (.ref C) "__format__" = some (some (.builtin "object.__format__"))
  ob : PySem.W.mroIn K C (.type "object") = some true
section
variable {X : Cx} {n k : Nat} {C : Addr} {ps : List Str} {sp : Sp} {e : Expr} {te : TE} {pos : Pos}
def tFmtO (C : Addr) (sp : Sp) (te : TE) : TE := fun σ H Q => te σ H fun x H1 => match x with
  | .ref a => (∃ dx fs, H1 a = some (.ins C dx fs)) ∧ sp [.ref a] H1 (fun v H' => match v with | .str z => Q (.str z) H' | _ => False) noE
  | _ => False
theorem fe_fmtO (c : MCallee X.prog X.w X.K X.mg X.base k C "__str__" ps sp) (N : FmtAt X.K C) (hr : Room n X.A) (hk : k + 1 ≤ n) (he : PE X e te) : PE X (.FormattedValue e (-1) none pos) (tFmtO C sp te) := by
  obtain ⟨g, fd, F, cl, hm, hb⟩ := c.ex
  refine ⟨fun pins s σ H Q I h => ?_⟩
  refine wpAny_FormattedValue_plain (thn (he.run pins s σ H _ I h) fun v s1 ⟨x, H1, I1, r1, q⟩ => ?_)
  dsimp only at q
  split at q
  · rename_i a
    obtain ⟨⟨dx, fs, ha⟩, q⟩ := q
    cases r1
    obtain ⟨mA, J, _⟩ := ins_get I1.hok ha
    obtain ⟨od, J, _⟩ := J.look
    have r1 := hr.mono hk
    refine PySem.W.kfo_fieldS r1.in1.units0 I1.kIn J N.fm N.ob hm.at_ hm.fn ?_
    refine wpAny_mono (run_in (us := [.ref a]) F r1.in1 rfl hb (I1.tok (s1.toks + 1)) (.cons (show RelV (.ref a) (.ref a) from rfl) .nil) q) (fun r s' z => ?_) fun _ _ e => e
    obtain ⟨v, H', I', rz, q'⟩ := z
    split at q'
    · rename_i z
      obtain ⟨t, rfl⟩ := rz
      exact ⟨.str z, H', I', ⟨t, rfl⟩, q'⟩
    · exact q'.elim
  · exact q.elim
end
end Fg

set_option Elab.async false
set_option linter.all false
set_option maxRecDepth 100000
set_option maxHeartbeats 4000000
namespace Fg
open PySem PySem.Spec PyProof.Rows L2
local macro_rules | `(tactic| walk_at "hp") => `(tactic| first | assumption | (refine Same.get (by assumption) ?_; walk_at "hp"))
local macro_rules | `(tactic| walk_at "sq") => `(tactic| first | assumption | (exact Or.inr (by assumption)) | (exact Or.inl (by assumption)) | (exact Or.inl (SqL.of (by walk_at "hp"))) | (exact Or.inr (SqT.of (by walk_at "hp"))) | (exact SqL.of (by walk_at "hp")) | (exact SqT.of (by walk_at "hp")))
local macro_rules | `(tactic| walk_at "cl") => `(tactic| first | ((first | show (_ : Int) < _ | show (_ : Int) ≤ _); first | omega | decide) | ((first | show (_ : Nat) < _ | show (_ : Nat) ≤ _); first | with_reducible assumption | (refine sz_le ?_; first | decide | omega | (simp <;> omega)) | (refine sz_lt ?_; first | decide | omega | (simp <;> omega)) | omega | decide | ((with_reducible show List.length _ < _); exact Nat.le_of_ble_eq_true rfl)) | rfl | walk_at "hp" | walk_at "sq" | (refine And.intro (by walk_at "cl") (by walk_at "cl")) | (exact Exists.intro _ (by walk_at "hp")) | (exact Exists.intro _ (Exists.intro _ (by walk_at "hp"))) | (exact Exists.intro _ (Exists.intro _ (And.intro (by walk_at "hp") rfl))) | decide | (exact Or.inl (by walk_at "cl")) | (exact Or.inr (by walk_at "cl")) | omega)
local macro_rules | `(tactic| walk_at "s1") => `(tactic| first | refine And.intro (by walk_at "cl") ?_ | apply Exists.intro)
local macro_rules | `(tactic| walk_at "sx") => `(tactic| repeat walk_at "s1")
local macro_rules | `(tactic| walk_at "si") => `(tactic| first | refine iteY rfl ?_ | refine iteN rfl ?_)
local macro_rules | `(tactic| walk_at "sy") => `(tactic| repeat first | walk_at "s1" | walk_at "si")
/-! ### the text by places -/
def top (i : Nat) : Stmt := PySem.Challenge.pw_figurelines_k06_whole_field_texts.main.body.getD i (.Pass ⟨0, 0, 0, 0⟩)
abbrev s_NotAFormatdd_initdd : Stmt := inClass (top 3) 0
theorem sc_NotAFormatdd_initdd : FnScope ["self", "value"] ["self", "value"] (defScope s_NotAFormatdd_initdd) := ⟨rfl, rfl, rfl, by decide +kernel, rfl, by decide +kernel, by decide +kernel⟩
abbrev s_InvalidNumberdd_initdd : Stmt := inClass (top 4) 0
theorem sc_InvalidNumberdd_initdd : FnScope ["self", "value"] ["self", "value"] (defScope s_InvalidNumberdd_initdd) := ⟨rfl, rfl, rfl, by decide +kernel, rfl, by decide +kernel, by decide +kernel⟩
abbrev s_InvalidTextdd_initdd : Stmt := inClass (top 5) 0
theorem sc_InvalidTextdd_initdd : FnScope ["self", "value"] ["self", "value"] (defScope s_InvalidTextdd_initdd) := ⟨rfl, rfl, rfl, by decide +kernel, rfl, by decide +kernel, by decide +kernel⟩
abbrev s_InvalidNamedd_initdd : Stmt := inClass (top 6) 0
theorem sc_InvalidNamedd_initdd : FnScope ["self", "value"] ["self", "value"] (defScope s_InvalidNamedd_initdd) := ⟨rfl, rfl, rfl, by decide +kernel, rfl, by decide +kernel, by decide +kernel⟩
abbrev s_InvalidSettingdd_initdd : Stmt := inClass (top 7) 0
theorem sc_InvalidSettingdd_initdd : FnScope ["self", "setting"] ["self", "setting"] (defScope s_InvalidSettingdd_initdd) := ⟨rfl, rfl, rfl, by decide +kernel, rfl, by decide +kernel, by decide +kernel⟩
abbrev s_InvalidRangedd_initdd : Stmt := inClass (top 8) 0
theorem sc_InvalidRangedd_initdd : FnScope ["self", "end"] ["self", "end"] (defScope s_InvalidRangedd_initdd) := ⟨rfl, rfl, rfl, by decide +kernel, rfl, by decide +kernel, by decide +kernel⟩
abbrev s_is_name : Stmt := top 17
theorem sc_is_name : FnScope ["value", "sign"] ["value"] (defScope s_is_name) := ⟨rfl, rfl, rfl, by decide +kernel, rfl, by decide +kernel, by decide +kernel⟩
abbrev s_is_integer : Stmt := top 18
theorem sc_is_integer : FnScope ["value"] ["value"] (defScope s_is_integer) := ⟨rfl, rfl, rfl, by decide +kernel, rfl, by decide +kernel, by decide +kernel⟩
abbrev s_is_between : Stmt := top 19
theorem sc_is_between : FnScope ["value", "low", "high"] ["value", "low", "high"] (defScope s_is_between) := ⟨rfl, rfl, rfl, by decide +kernel, rfl, by decide +kernel, by decide +kernel⟩
abbrev s_is_sign : Stmt := top 20
theorem sc_is_sign : FnScope ["value"] ["value"] (defScope s_is_sign) := ⟨rfl, rfl, rfl, by decide +kernel, rfl, by decide +kernel, by decide +kernel⟩
abbrev s_code_of : Stmt := top 21
theorem sc_code_of : FnScope ["sign", "place"] ["sign"] (defScope s_code_of) := ⟨rfl, rfl, rfl, by decide +kernel, rfl, by decide +kernel, by decide +kernel⟩
abbrev s_sign_of : Stmt := top 22
theorem sc_sign_of : FnScope ["code"] ["code"] (defScope s_sign_of) := ⟨rfl, rfl, rfl, by decide +kernel, rfl, by decide +kernel, by decide +kernel⟩
abbrev s_figures_of : Stmt := top 23
theorem sc_figures_of : FnScope ["size", "base", "figures"] ["size", "base"] (defScope s_figures_of) := ⟨rfl, rfl, rfl, by decide +kernel, rfl, by decide +kernel, by decide +kernel⟩
abbrev s_size_of : Stmt := top 24
theorem sc_size_of : FnScope ["figures", "base", "size", "figure"] ["figures", "base"] (defScope s_size_of) := ⟨rfl, rfl, rfl, by decide +kernel, rfl, by decide +kernel, by decide +kernel⟩
abbrev s_integer_in : Stmt := top 25
theorem sc_integer_in : FnScope ["word", "body", "size", "sign"] ["word"] (defScope s_integer_in) := ⟨rfl, rfl, rfl, by decide +kernel, rfl, by decide +kernel, by decide +kernel⟩
abbrev s_is_setting : Stmt := top 30
theorem sc_is_setting : FnScope ["setting", "value"] ["setting", "value"] (defScope s_is_setting) := ⟨rfl, rfl, rfl, by decide +kernel, rfl, by decide +kernel, by decide +kernel⟩
abbrev s_settings_text : Stmt := top 31
theorem sc_settings_text : FnScope ["values", "words", "setting", "value"] ["values"] (defScope s_settings_text) := ⟨rfl, rfl, rfl, by decide +kernel, rfl, by decide +kernel, by decide +kernel⟩
abbrev s_format_of : Stmt := top 32
theorem sc_format_of : FnScope ["table"] ["table"] (defScope s_format_of) := ⟨rfl, rfl, rfl, by decide +kernel, rfl, by decide +kernel, by decide +kernel⟩
abbrev s_Formatdd_initdd : Stmt := inClass (top 33) 0
theorem sc_Formatdd_initdd : FnScope ["self", "base", "sign", "least", "group", "mark", "width", "fill", "side", "values", "setting", "value"] ["self", "base", "sign", "least", "group", "mark", "width", "fill", "side"] (defScope s_Formatdd_initdd) := ⟨rfl, rfl, rfl, by decide +kernel, rfl, by decide +kernel, by decide +kernel⟩
abbrev s_Format_settings : Stmt := inClass (top 33) 2
theorem sc_Format_settings : FnScope ["self"] ["self"] (defScope s_Format_settings) := ⟨rfl, rfl, rfl, by decide +kernel, rfl, by decide +kernel, by decide +kernel⟩
abbrev s_Formatdd_eqdd : Stmt := inClass (top 33) 11
theorem sc_Formatdd_eqdd : FnScope ["self", "other"] ["self", "other"] (defScope s_Formatdd_eqdd) := ⟨rfl, rfl, rfl, by decide +kernel, rfl, by decide +kernel, by decide +kernel⟩
abbrev s_Formatdd_strdd : Stmt := inClass (top 33) 12
theorem sc_Formatdd_strdd : FnScope ["self"] ["self"] (defScope s_Formatdd_strdd) := ⟨rfl, rfl, rfl, by decide +kernel, rfl, by decide +kernel, by decide +kernel⟩
abbrev s_setting_in : Stmt := top 34
theorem sc_setting_in : FnScope ["setting", "word", "value"] ["setting", "word"] (defScope s_setting_in) := ⟨rfl, rfl, rfl, by decide +kernel, rfl, by decide +kernel, by decide +kernel⟩
abbrev s_settings_in : Stmt := top 35
theorem sc_settings_in : FnScope ["text", "words", "table", "setting", "word"] ["text"] (defScope s_settings_in) := ⟨rfl, rfl, rfl, by decide +kernel, rfl, by decide +kernel, by decide +kernel⟩
abbrev s_check_format : Stmt := top 36
theorem sc_check_format : FnScope ["value"] ["value"] (defScope s_check_format) := ⟨rfl, rfl, rfl, by decide +kernel, rfl, by decide +kernel, by decide +kernel⟩
abbrev s_check_range : Stmt := top 38
theorem sc_check_range : FnScope ["low", "high", "end", "value"] ["low", "high"] (defScope s_check_range) := ⟨rfl, rfl, rfl, by decide +kernel, rfl, by decide +kernel, by decide +kernel⟩
abbrev s_Fielddd_initdd : Stmt := inClass (top 39) 0
theorem sc_Fielddd_initdd : FnScope ["self", "name", "pattern", "low", "high"] ["self", "name", "pattern", "low", "high"] (defScope s_Fielddd_initdd) := ⟨rfl, rfl, rfl, by decide +kernel, rfl, by decide +kernel, by decide +kernel⟩
abbrev s_Field_read : Stmt := inClass (top 39) 1
theorem sc_Field_read : FnScope ["text", "field"] ["text"] (defScope s_Field_read) := ⟨rfl, rfl, rfl, by decide +kernel, rfl, by decide +kernel, by decide +kernel⟩
abbrev s_Field_parts_of : Stmt := inClass (top 39) 4
theorem sc_Field_parts_of : FnScope ["self"] ["self"] (defScope s_Field_parts_of) := ⟨rfl, rfl, rfl, by decide +kernel, rfl, by decide +kernel, by decide +kernel⟩
abbrev s_Fielddd_eqdd : Stmt := inClass (top 39) 5
theorem sc_Fielddd_eqdd : FnScope ["self", "other"] ["self", "other"] (defScope s_Fielddd_eqdd) := ⟨rfl, rfl, rfl, by decide +kernel, rfl, by decide +kernel, by decide +kernel⟩
abbrev s_Fielddd_strdd : Stmt := inClass (top 39) 6
theorem sc_Fielddd_strdd : FnScope ["self"] ["self"] (defScope s_Fielddd_strdd) := ⟨rfl, rfl, rfl, by decide +kernel, rfl, by decide +kernel, by decide +kernel⟩
abbrev s_end_text : Stmt := top 40
theorem sc_end_text : FnScope ["end"] ["end"] (defScope s_end_text) := ⟨rfl, rfl, rfl, by decide +kernel, rfl, by decide +kernel, by decide +kernel⟩
abbrev s_is_end : Stmt := top 41
theorem sc_is_end : FnScope ["word", "number"] ["word"] (defScope s_is_end) := ⟨rfl, rfl, rfl, by decide +kernel, rfl, by decide +kernel, by decide +kernel⟩
abbrev s_field_in : Stmt := top 42
theorem sc_field_in : FnScope ["text", "words", "low", "high", "table"] ["text"] (defScope s_field_in) := ⟨rfl, rfl, rfl, by decide +kernel, rfl, by decide +kernel, by decide +kernel⟩
abbrev s_l_pot : Stmt := top 44
theorem sc_l_pot : FnScope ["_law_script", "_law_k", "_law_beaten", "_law_each", "_law_entry"] ["_law_script", "_law_k"] (defScope s_l_pot) := ⟨rfl, rfl, rfl, by decide +kernel, rfl, by decide +kernel, by decide +kernel⟩
abbrev s_l_spoon : Stmt := top 45
theorem sc_l_spoon : FnScope ["_law_pot_here", "_law_wide", "_law_left"] ["_law_pot_here", "_law_wide"] (defScope s_l_spoon) := ⟨rfl, rfl, rfl, by decide +kernel, rfl, by decide +kernel, by decide +kernel⟩
abbrev s_l_of : Stmt := top 46
theorem sc_l_of : FnScope ["_law_pot_here", "_law_things"] ["_law_pot_here", "_law_things"] (defScope s_l_of) := ⟨rfl, rfl, rfl, by decide +kernel, rfl, by decide +kernel, by decide +kernel⟩
abbrev s_l_signs : Stmt := top 47
theorem sc_l_signs : FnScope [] [] (defScope s_l_signs) := ⟨rfl, rfl, rfl, by decide +kernel, rfl, by decide +kernel, by decide +kernel⟩
abbrev s_l_sign : Stmt := top 48
theorem sc_l_sign : FnScope ["_law_pot_here"] ["_law_pot_here"] (defScope s_l_sign) := ⟨rfl, rfl, rfl, by decide +kernel, rfl, by decide +kernel, by decide +kernel⟩
abbrev s_l_shape : Stmt := top 49
theorem sc_l_shape : FnScope ["_law_pot_here", "_law_far", "_law_shape_here"] ["_law_pot_here"] (defScope s_l_shape) := ⟨rfl, rfl, rfl, by decide +kernel, rfl, by decide +kernel, by decide +kernel⟩
abbrev s_l_format : Stmt := top 50
theorem sc_l_format : FnScope ["_law_shape_here"] ["_law_shape_here"] (defScope s_l_format) := ⟨rfl, rfl, rfl, by decide +kernel, rfl, by decide +kernel, by decide +kernel⟩
abbrev s_l_ended : Stmt := top 51
theorem sc_l_ended : FnScope ["_law_ask", "_law_given", "e"] ["_law_ask"] (defScope s_l_ended) := ⟨rfl, rfl, rfl, by decide +kernel, rfl, by decide +kernel, by decide +kernel⟩
abbrev s_l_bent : Stmt := top 52
theorem sc_l_bent : FnScope ["_law_pot_here", "_law_line_here", "_law_words", "_law_way", "_law_at", "_law_spot", "_law_some"] ["_law_pot_here", "_law_line_here"] (defScope s_l_bent) := ⟨rfl, rfl, rfl, by decide +kernel, rfl, by decide +kernel, by decide +kernel⟩
abbrev s_l_right : Stmt := top 53
theorem sc_l_right : FnScope ["_law_pot_here", "_law_turn", "_law_low", "_law_high", "_law_name_here", "_law_field", "_law_line_here", "_law_again", "_law_bent_here", "_law_answer", "_law_odd", "_law_lost", "_law_answers"] ["_law_pot_here"] (defScope s_l_right) := ⟨rfl, rfl, rfl, by decide +kernel, rfl, by decide +kernel, by decide +kernel⟩
abbrev s_law : Stmt := top 54
theorem sc_law : FnScope ["_law_script", "_law_k"] ["_law_script"] (defScope s_law) := ⟨rfl, rfl, rfl, by decide +kernel, rfl, by decide +kernel, by decide +kernel⟩
/-- where the text's classes and tables stand -/
structure Ad where
  tSETTINGS : Addr
  cInvalidSetting : Addr
  cInvalidNumber : Addr
  cFormat : Addr
  cInvalidName : Addr
  cNotAFormat : Addr
  cInvalidRange : Addr
  cField : Addr
  cInvalidText : Addr
  tP_l_right : Addr
  cC_l_right : Addr
  tHEADS : Addr
  tSIDES : Addr
  cUnfit : Addr
/-- what the top has written -/
structure Txt (w : World) (K : PySem.W.Frag) (mg : Str → Option Value) (A : Ad) : Prop where
  F_is_integer : FunAt K mg "is_integer" s_is_integer
  b_isinstance : mg "isinstance" = none
  b_int : mg "int" = none
  F_is_between : FunAt K mg "is_between" s_is_between
  F_is_sign : FunAt K mg "is_sign" s_is_sign
  b_str : mg "str" = none
  b_len : mg "len" = none
  g_PRINT : ∃ u, mg "PRINT" = some u ∧ RelV (.str " !\"#$&'()*+,-./0123456789:;<=>?@ABCDEFGHIJKLMNOPQRSTUVWXYZ[\\]^_`abcdefghijklmnopqrstuvwxyz{|}~") u
  F_code_of : FunAt K mg "code_of" s_code_of
  F_figures_of : FunAt K mg "figures_of" s_figures_of
  F_is_setting : FunAt K mg "is_setting" s_is_setting
  d_HEADS : KTab K w A.tHEADS [("minus", .str ""), ("plus", .str "+"), ("blank", .str " ")]
  g_HEADS : ∃ u, mg "HEADS" = some u ∧ RelV (.ref A.tHEADS) u
  g_SIDES : ∃ u, mg "SIDES" = some u ∧ RelV (.ref A.tSIDES) u
  g_FIGURES : ∃ u, mg "FIGURES" = some u ∧ RelV (.str "0123456789abcdef") u
  g_MOST_GROUP : ∃ u, mg "MOST_GROUP" = some u ∧ RelV (.int 4) u
  g_MOST_WIDTH : ∃ u, mg "MOST_WIDTH" = some u ∧ RelV (.int 12) u
  t_SIDES : ∀ H, SqT K H A.tSIDES [.str "left", .str "right", .str "both", .str "inner"]
  F_settings_text : FunAt K mg "settings_text" s_settings_text
  b_zip : mg "zip" = none
  g_SETTINGS : ∃ u, mg "SETTINGS" = some u ∧ RelV (.ref A.tSETTINGS) u
  t_SETTINGS : ∀ H, SqT K H A.tSETTINGS [.str "base", .str "sign", .str "least", .str "group", .str "mark", .str "width", .str "fill", .str "side"]
  F_size_of : FunAt K mg "size_of" s_size_of
  F_integer_in : FunAt K mg "integer_in" s_integer_in
  b_any : mg "any" = none
  F_sign_of : FunAt K mg "sign_of" s_sign_of
  F_setting_in : FunAt K mg "setting_in" s_setting_in
  F_settings_in : FunAt K mg "settings_in" s_settings_in
  b_tuple : mg "tuple" = none
  b_list : mg "list" = none
  oe_InvalidSetting : OexC K A.cInvalidSetting
  g_InvalidSetting : mg "InvalidSetting" = some (.ref A.cInvalidSetting)
  I_InvalidSettingdd_initdd : InitAt K A.cInvalidSetting "InvalidSetting.__init__" s_InvalidSettingdd_initdd
  nf_InvalidSetting : PySem.W.findIn K (.ref A.cInvalidSetting) "setting" = some none
  oe_InvalidNumber : OexC K A.cInvalidNumber
  g_InvalidNumber : mg "InvalidNumber" = some (.ref A.cInvalidNumber)
  I_InvalidNumberdd_initdd : InitAt K A.cInvalidNumber "InvalidNumber.__init__" s_InvalidNumberdd_initdd
  nf_InvalidNumber : PySem.W.findIn K (.ref A.cInvalidNumber) "value" = some none
  g_Format : mg "Format" = some (.ref A.cFormat)
  K_Format : InitK K A.cFormat "Format.__init__" s_Formatdd_initdd [("base", .int 10), ("sign", .str "minus"), ("least", .int 1), ("group", .int 0), ("mark", .str ","), ("width", .int 0), ("fill", .str " "), ("side", .str "left")]
  cl_Format : Cls K A.cFormat
  n_Format_base : NoAttr K A.cFormat "base"
  n_Format_sign : NoAttr K A.cFormat "sign"
  n_Format_least : NoAttr K A.cFormat "least"
  n_Format_group : NoAttr K A.cFormat "group"
  n_Format_mark : NoAttr K A.cFormat "mark"
  n_Format_width : NoAttr K A.cFormat "width"
  n_Format_fill : NoAttr K A.cFormat "fill"
  n_Format_side : NoAttr K A.cFormat "side"
  n_Format_words : NoAttr K A.cFormat "words"
  F_l_format : FunAt K mg "_law_format" s_l_format
  F_format_of : FunAt K mg "format_of" s_format_of
  M_Format_settings : MethAt K A.cFormat "settings" "Format.settings" s_Format_settings
  M_Formatdd_eqdd : MethAt K A.cFormat "__eq__" "Format.__eq__" s_Formatdd_eqdd
  i_Format : InsC K A.cFormat
  v_Format : ∃ u, mg "Format" = some u ∧ RelV (.ref A.cFormat) u
  in_Format : (PySem.W.findIn K (.ref A.cFormat) "__class__" = some (some (.builtin "object.__class__"))) ∧ (PySem.W.specialIn K (.builtin "object.__class__") "__get__" = some (some (.builtin "getset_descriptor.__get__"))) ∧ (PySem.W.takesIn K (.builtin "object.__class__") = some true) ∧ PySem.W.mroIn K A.cFormat (.type "object") = some true
  M_Formatdd_strdd : MethAt K A.cFormat "__str__" "Format.__str__" s_Formatdd_strdd
  F_is_name : FunAt K mg "is_name" s_is_name
  g_LONGEST_NAME : ∃ u, mg "LONGEST_NAME" = some u ∧ RelV (.int 10) u
  b_all : mg "all" = none
  g_SMALL_LETTERS : ∃ u, mg "SMALL_LETTERS" = some u ∧ RelV (.str "abcdefghijklmnopqrstuvwxyz") u
  oe_InvalidName : OexC K A.cInvalidName
  g_InvalidName : mg "InvalidName" = some (.ref A.cInvalidName)
  I_InvalidNamedd_initdd : InitAt K A.cInvalidName "InvalidName.__init__" s_InvalidNamedd_initdd
  nf_InvalidName : PySem.W.findIn K (.ref A.cInvalidName) "value" = some none
  oe_NotAFormat : OexC K A.cNotAFormat
  g_NotAFormat : mg "NotAFormat" = some (.ref A.cNotAFormat)
  I_NotAFormatdd_initdd : InitAt K A.cNotAFormat "NotAFormat.__init__" s_NotAFormatdd_initdd
  nf_NotAFormat : PySem.W.findIn K (.ref A.cNotAFormat) "value" = some none
  oe_InvalidRange : OexC K A.cInvalidRange
  g_InvalidRange : mg "InvalidRange" = some (.ref A.cInvalidRange)
  I_InvalidRangedd_initdd : InitAt K A.cInvalidRange "InvalidRange.__init__" s_InvalidRangedd_initdd
  nf_InvalidRange : PySem.W.findIn K (.ref A.cInvalidRange) "end" = some none
  F_end_text : FunAt K mg "end_text" s_end_text
  F_is_end : FunAt K mg "is_end" s_is_end
  g_MOST_BOUND : ∃ u, mg "MOST_BOUND" = some u ∧ RelV (.int 1000000000000) u
  F_check_format : FunAt K mg "check_format" s_check_format
  F_check_range : FunAt K mg "check_range" s_check_range
  g_Field : mg "Field" = some (.ref A.cField)
  D_Field : InitD K A.cField "Field.__init__" s_Fielddd_initdd [.non, .non]
  cl_Field : Cls K A.cField
  n_Field_name : NoAttr K A.cField "name"
  n_Field_pattern : NoAttr K A.cField "pattern"
  n_Field_low : NoAttr K A.cField "low"
  n_Field_high : NoAttr K A.cField "high"
  M_Field_parts_of : MethAt K A.cField "parts_of" "Field.parts_of" s_Field_parts_of
  M_Fielddd_eqdd : MethAt K A.cField "__eq__" "Field.__eq__" s_Fielddd_eqdd
  i_Field : InsC K A.cField
  v_Field : ∃ u, mg "Field" = some u ∧ RelV (.ref A.cField) u
  in_Field : (PySem.W.findIn K (.ref A.cField) "__class__" = some (some (.builtin "object.__class__"))) ∧ (PySem.W.specialIn K (.builtin "object.__class__") "__get__" = some (some (.builtin "getset_descriptor.__get__"))) ∧ (PySem.W.takesIn K (.builtin "object.__class__") = some true) ∧ PySem.W.mroIn K A.cField (.type "object") = some true
  M_Fielddd_strdd : MethAt K A.cField "__str__" "Field.__str__" s_Fielddd_strdd
  fm_Format : FmtAt K A.cFormat
  oe_InvalidText : OexC K A.cInvalidText
  g_InvalidText : mg "InvalidText" = some (.ref A.cInvalidText)
  I_InvalidTextdd_initdd : InitAt K A.cInvalidText "InvalidText.__init__" s_InvalidTextdd_initdd
  nf_InvalidText : PySem.W.findIn K (.ref A.cInvalidText) "value" = some none
  F_field_in : FunAt K mg "field_in" s_field_in
  S_Field_read : StatAt K A.cField "read" "Field.read" s_Field_read
  F_l_spoon : FunAt K mg "_law_spoon" s_l_spoon
  F_l_of : FunAt K mg "_law_of" s_l_of
  F_l_pot : FunAt K mg "_law_pot" s_l_pot
  b_abs : mg "abs" = none
  F_l_signs : FunAt K mg "_law_signs" s_l_signs
  F_l_sign : FunAt K mg "_law_sign" s_l_sign
  xf_InvalidText : XfC K A.cInvalidText
  xc_InvalidText : ExcC K A.cInvalidText
  v_Unfit : ∃ u, mg "Unfit" = some u ∧ RelV (.ref A.cUnfit) u
  b_ValueError : mg "ValueError" = none
  ex_InvalidText_InvalidText : PySem.W.exmOne K (.ref A.cInvalidText) (.ref A.cInvalidText) = some true
  ki_InvalidText_Unfit : PySem.W.kitOne K (.ref A.cInvalidText) (.ref A.cUnfit) = some true
  ki_InvalidText_ValueError : PySem.W.kitOne K (.ref A.cInvalidText) (.type "ValueError") = some true
  F_l_bent : FunAt K mg "_law_bent" s_l_bent
  F_l_shape : FunAt K mg "_law_shape" s_l_shape
  k_l_right : FunC K mg "_law_right" s_l_right A.cC_l_right
  b_range : mg "range" = none
  ne_Field : NeAt K A.cField
  F_l_ended : FunAt K mg "_law_ended" s_l_ended
  kn_Field_int : PySem.W.kitOne K (.ref A.cField) (.type "int") = some false
  kn_Field_str : PySem.W.kitOne K (.ref A.cField) (.type "str") = some false
  F_law : FunAt K mg "law" s_law
  b_max : mg "max" = none
  b_min : mg "min" = none

end Fg
set_option Elab.async false
set_option linter.all false
set_option maxRecDepth 100000
set_option maxHeartbeats 4000000
namespace Fg
open PySem PySem.Spec PyProof.Rows L2
/-! ### the head's facts -/
def dG (x : Str) (st : Stmt) : He.DefD := ⟨(x, none), x, x, defArgs st, defBody st, defScope st, [], []⟩
def dM (C m q : Str) (st : Stmt) : He.DefD := ⟨(C, some m), m, q, defArgs st, defBody st, defScope st, [], []⟩
def dMK (C m q : Str) (st : Stmt) (kws : List (Str × He.Dv)) : He.DefD := ⟨(C, some m), m, q, defArgs st, defBody st, defScope st, [], kws⟩
abbrev DefAt (K : PySem.W.Frag) (d : He.DefD) : Prop := ∃ fd, FunD K d.name d.qual d.params d.body d.scope (d.dvs K) (d.kws K) (He.fAd K d.at_) fd
section
variable {K : PySem.W.Frag} {h : Heap} {mg : Str → Option Value} {w : World}
theorem fun_of {x q : Str} {st : Stmt} {f : Addr} {fd : FuncData} (F : FunD K x q (defArgs st) (defBody st) (defScope st) [] [] f fd) : Fun K x q st f fd := by
  obtain ⟨⟨oc, od, dV, kV, doc, pm, an, cdv, ct, osl, rfl, lk, hcd, hd, _⟩, kp⟩ := F
  rcases hd with ⟨_, rfl⟩ | ⟨z, _⟩
  · exact ⟨⟨oc, od, kV, doc, pm, an, cdv, ct, osl, rfl, lk, hcd⟩, kp⟩
  · exact absurd rfl z
theorem funAt_of (X : K.In h) (G : h.Ns mainGlobals mg) {x : Str} {st : Stmt} (F : DefAt K (dG x st)) (g : (He.Fa.glo x).ok K = true) : FunAt K mg x st := by
  obtain ⟨fd, F⟩ := F
  exact ⟨⟨He.ga K x, fd, fun_of F, He.glo_ok X G g⟩⟩
theorem methAt_of {C m q : Str} {st : Stmt} (F : DefAt K (dM C m q st)) (g : (He.Fa.meth C m).ok K = true) : MethAt K (He.ga K C) m q st := by
  obtain ⟨fd, F⟩ := F
  exact ⟨⟨_, fd, fun_of F, He.meth_ok g⟩⟩
theorem initAt_of {C q : Str} {st : Stmt} (F : DefAt K (dM C "__init__" q st)) (g : (He.Fa.meth C "__init__").ok K = true) : InitAt K (He.ga K C) q st := by
  obtain ⟨fd, F⟩ := F
  have M := He.meth_ok g
  exact ⟨⟨_, fd, fun_of F, M.at_, beq_iff_eq.mp M.fn⟩⟩
theorem initK_of {C q : Str} {st : Stmt} {kws : List (Str × He.Dv)} (F : DefAt K (dMK C "__init__" q st kws)) (g : (He.Fa.mkr C).ok K = true) : InitK K (He.ga K C) q st (kws.map fun p => (p.1, p.2.v K)) := by
  obtain ⟨fd, F⟩ := F
  exact ⟨⟨_, fd, F, He.mkr_ok g⟩⟩
theorem callAt_of {C q : Str} {st : Stmt} (F : DefAt K (dM C "__call__" q st)) (g : (He.Fa.meth C "__call__").ok K = true) : CallAt K (He.ga K C) q st := by
  obtain ⟨fd, F⟩ := F
  have M := He.meth_ok g
  have F2 := fun_of F
  refine ⟨⟨_, fd, F2, M.at_, M.fn, ?_⟩⟩
  obtain ⟨oc, od, kV, doc, pm, an, cdv, ct, osl, rfl, lk, _⟩ := F2.ex
  unfold PySem.W.fnIn
  rw [lk]
theorem funC_of (X : K.In h) (G : h.Ns mainGlobals mg) {x : Str} {st : Stmt} (F : DefAt K (dG x st)) (g : (He.Fa.glo x).ok K = true) : FunC K mg x st (He.codeOf K (x, none)) := by
  obtain ⟨fd, F⟩ := F
  have F2 := fun_of F
  obtain ⟨oc, od, kV, doc, pm, an, cdv, ct, osl, rfl, lk, hcd⟩ := F2.ex
  obtain ⟨c, rfl⟩ := He.codeIn_ref hcd
  have e : He.codeOf K (x, none) = c := He.codeOf_eq (p := (x, none)) lk rfl
  rw [e]
  exact ⟨⟨_, oc, od, kV, doc, pm, an, ct, osl, lk, hcd, F2.kp, He.glo_ok X G g⟩⟩
/-- a text, an int of the module -/
theorem strG_of (X : K.In h) (G : h.Ns mainGlobals mg) {x z : Str} (g : (He.Fa.str x z).ok K = true) : ∃ u, mg x = some u ∧ RelV (.str z) u := by
  obtain ⟨t, e⟩ := He.str_ok X G g
  exact ⟨_, e, t, rfl⟩
theorem intG_of (X : K.In h) (G : h.Ns mainGlobals mg) {x : Str} {i : Int} (g : (He.Fa.int x i).ok K = true) : ∃ u, mg x = some u ∧ RelV (.int i) u := by
  obtain ⟨t, e⟩ := He.int_ok X G g
  exact ⟨_, e, t, rfl⟩
theorem refG_of (X : K.In h) (G : h.Ns mainGlobals mg) {x : Str} (g : (He.Fa.glo x).ok K = true) : ∃ u, mg x = some u ∧ RelV (.ref (He.ga K x)) u := ⟨_, He.glo_ok X G g, rfl⟩
/-- an own error class -/
def oeB (K : PySem.W.Frag) (C : Addr) : Bool := (match K.lookup C with
  | some ⟨.type t, _, .cls cd, sl⟩ => decide (t = "type") && ((match cd.mro with
    | .ref c :: bm => decide (c = C) && PySem.HandSPX.refsVE bm
    | _ => false) && ((cd.hasDict && !cd.hasDel) && (match sl.toList with
    | [_, _, _, _, some (.builtin n), _] => decide (n = "ValueError.__new__")
    | _ => false)))
  | _ => false) && (decide (PySem.W.findIn K (.ref C) "__setattr__" = some (some (.builtin "object.__setattr__"))) && (decide (PySem.W.subIn K (.ref C) (.type "BaseException") = some true) && (decide (PySem.W.typeIn K (.ref C) = some (.type "type")) && PySem.W.keepIn K (.ref C))))
theorem oeB_ok {C : Addr} (g : oeB K C = true) : OexC K C := by
  obtain ⟨g1, g⟩ := He.ba g
  obtain ⟨g2, g⟩ := He.ba g
  obtain ⟨g3, g⟩ := He.ba g
  obtain ⟨g4, g5⟩ := He.ba g
  refine ⟨?_, of_decide_eq_true g2, of_decide_eq_true g3, of_decide_eq_true g4, g5⟩
  split at g1
  · rename_i t dd cd sl lk
    obtain ⟨a1, g1⟩ := He.ba g1
    obtain ⟨a2, g1⟩ := He.ba g1
    obtain ⟨a3, a4⟩ := He.ba g1
    obtain ⟨a5, a6⟩ := He.ba a3
    obtain ⟨nm, bs, mro, ns, qn, hdct, sn, sub, ab, col, hdel⟩ := cd
    dsimp only at a2 a5 a6
    subst a5
    have e6 : hdel = false := by
      cases hdel with
      | false => rfl
      | true => cases a6
    subst e6
    split at a2
    · rename_i c bm
      obtain ⟨b1, b2⟩ := He.ba a2
      have b1 := of_decide_eq_true b1
      have e1 := of_decide_eq_true a1
      subst e1
      obtain ⟨sl⟩ := sl
      dsimp only at a4
      split at a4
      · have e4 := of_decide_eq_true a4
        subst b1
        subst e4
        exact ⟨_, _, _, _, _, _, _, _, _, _, _, _, _, _, _, lk, b2⟩
      · cases a4
    · cases a2
  · cases g1
def xcB (K : PySem.W.Frag) (D : Addr) : Bool := decide (PySem.W.findIn K (.ref D) "__getattribute__" = some (some (.builtin "BaseException.__getattribute__"))) && (decide (PySem.W.findIn K (.ref D) "__getattr__" = some none) && (decide (PySem.W.subIn K (.ref D) (.type "BaseException") = some true) &&
  (PySem.W.hasDictIn K D && (decide (PySem.W.findIn K (.ref D) "__class__" = some (some (.builtin "object.__class__"))) && (decide (PySem.W.specialIn K (.builtin "object.__class__") "__get__" = some (some (.builtin "getset_descriptor.__get__"))) &&
  (decide (PySem.W.takesIn K (.builtin "object.__class__") = some true) && decide (PySem.W.mroIn K D (.type "object") = some true)))))))
theorem xcB_ok {D : Addr} (g : xcB K D = true) : ExcC K D := by
  obtain ⟨g1, g⟩ := He.ba g
  obtain ⟨g2, g⟩ := He.ba g
  obtain ⟨g3, g⟩ := He.ba g
  obtain ⟨g4, g⟩ := He.ba g
  obtain ⟨g5, g⟩ := He.ba g
  obtain ⟨g6, g⟩ := He.ba g
  obtain ⟨g7, g8⟩ := He.ba g
  exact ⟨of_decide_eq_true g1, of_decide_eq_true g2, of_decide_eq_true g3, g4, of_decide_eq_true g5, of_decide_eq_true g6, of_decide_eq_true g7, of_decide_eq_true g8⟩
/-- what isinstance asks of the instances' class -/
def inB (K : PySem.W.Frag) (C : Addr) : Bool := decide (PySem.W.findIn K (.ref C) "__class__" = some (some (.builtin "object.__class__"))) && (decide (PySem.W.specialIn K (.builtin "object.__class__") "__get__" = some (some (.builtin "getset_descriptor.__get__"))) &&
  (decide (PySem.W.takesIn K (.builtin "object.__class__") = some true) && decide (PySem.W.mroIn K C (.type "object") = some true)))
theorem inB_ok {C : Addr} (g : inB K C = true) : (PySem.W.findIn K (.ref C) "__class__" = some (some (.builtin "object.__class__"))) ∧ (PySem.W.specialIn K (.builtin "object.__class__") "__get__" = some (some (.builtin "getset_descriptor.__get__"))) ∧ (PySem.W.takesIn K (.builtin "object.__class__") = some true) ∧ PySem.W.mroIn K C (.type "object") = some true := by
  obtain ⟨g1, g⟩ := He.ba g
  obtain ⟨g2, g⟩ := He.ba g
  obtain ⟨g3, g4⟩ := He.ba g
  exact ⟨of_decide_eq_true g1, of_decide_eq_true g2, of_decide_eq_true g3, of_decide_eq_true g4⟩
/-! ### tables -/
def entB (K : PySem.W.Frag) : List DictEntry → List (Str × He.Dv) → Bool
  | [], [] => true
  | e :: r, q :: qs => (match e.key with
    | .str x _ => decide (x = q.1)
    | _ => false) && (He.relB (q.2.v K) e.val && entB K r qs)
  | _, _ => false
def tabB (K : PySem.W.Frag) (d : Addr) (kvs : List (Str × He.Dv)) : Bool := match K.lookup d with
  | some ⟨_, _, .dict es _, _⟩ => entB K es.toList kvs
  | _ => false
theorem entB_ref : ∀ {es : List DictEntry} {kvs : List (Str × He.Dv)}, entB K es kvs = true → es.any (·.refKey) = false
  | [], _, _ => rfl
  | e :: r, [], g => by cases g
  | e :: r, q :: qs, g => by
    obtain ⟨g1, g⟩ := He.ba g
    obtain ⟨g2, g3⟩ := He.ba g
    rw [List.any_cons, entB_ref g3, Bool.or_false]
    split at g1
    · rename_i x t ek
      unfold DictEntry.refKey
      rw [ek]
    · cases g1
theorem entB_find (z : Str) : ∀ {es : List DictEntry} {kvs : List (Str × He.Dv)}, entB K es kvs = true → RelO ((kvs.map fun p => (p.1, p.2.v K)).lookup z) ((es.find? (·.key.isStr z)).map (·.val))
  | [], [], _ => trivial
  | [], _ :: _, g => by cases g
  | e :: r, [], g => by cases g
  | e :: r, q :: qs, g => by
    obtain ⟨g1, g⟩ := He.ba g
    obtain ⟨g2, g3⟩ := He.ba g
    have ih := entB_find z g3
    split at g1
    · rename_i x t ek
      have ex := of_decide_eq_true g1
      have es : e.key.isStr z = decide (q.1 = z) := by
        rw [ek, ← ex]
        rfl
      rw [List.map_cons, List.find?_cons, es]
      by_cases c : q.1 = z
      · rw [decide_eq_true c]
        subst c
        simp only [List.lookup, beq_self_eq_true, Option.map]
        exact He.relB_ok g2
      · rw [decide_eq_false c]
        have c2 : (z == q.1) = false := beq_eq_false_iff_ne.mpr fun y => c y.symm
        simp only [List.lookup, c2]
        exact ih
    · cases g1
theorem kTab_of {d : Addr} {kvs : List (Str × He.Dv)} (D : ∃ es n, KDict K w d es n) (g : tabB K d kvs = true) : KTab K w d (kvs.map fun p => (p.1, p.2.v K)) := by
  obtain ⟨es, n, D⟩ := D
  refine ⟨⟨es, n, D, fun z => ?_⟩⟩
  unfold tabB at g
  rw [D.at_] at g
  have r := entB_find z g
  have nr := entB_ref g
  refine ⟨_, ?_, r⟩
  unfold PySem.W.nsIn
  rw [D.at_]
  dsimp only
  cases e : es.toList.find? (·.key.isStr z) with
  | some e => rfl
  | none =>
    dsimp only
    rw [nr]
    rfl
/-- the i-th check -/
theorem exAt {l : List Bool} (g : l.all id = true) (i : Nat) {b : Bool} (h : l[i]? = some b := by rfl) : b = true := List.all_eq_true.mp g b (List.mem_of_getElem? h)
end
end Fg

set_option Elab.async false
set_option linter.all false
set_option maxRecDepth 100000
set_option maxHeartbeats 4000000
namespace Fg
open PySem PySem.Spec PyProof.Rows L2
/-! ### the head's facts, with staticmethods -/
def dD (C q : Str) (st : Stmt) (dfl : List He.Dv) : He.DefD := ⟨(C, some "__init__"), "__init__", q, defArgs st, defBody st, defScope st, dfl, []⟩
def smAt (C m : Str) : PySem.W.Frag → Addr := fun K => He5.wf K (He.ga K C) "staticmethod" m
def dS (C m q : Str) (st : Stmt) : He5.DefA := ⟨smAt C m, m, q, defArgs st, defBody st, defScope st, [], []⟩
section
variable {K : PySem.W.Frag} {h : Heap} {w : World}
theorem initD_of {C q : Str} {st : Stmt} {dfl : List He.Dv} (F : DefAt K (dD C q st dfl)) (g : (He.Fa.mkr C).ok K = true) : InitD K (He.ga K C) q st (dfl.map fun v => v.v K) := by
  obtain ⟨fd, F⟩ := F
  exact ⟨⟨_, fd, F, He.mkr_ok g⟩⟩
def insB (K : PySem.W.Frag) (C : Addr) : Bool := ["NoneType", "bool", "int", "str", "list", "tuple", "dict"].all fun n => decide (PySem.W.kitOne K (.type n) (.ref C) = some false)
theorem insB_ok {C : Addr} (g : insB K C = true) : InsC K C := ⟨fun n hn => of_decide_eq_true (List.all_eq_true.mp g n hn)⟩
def neB (K : PySem.W.Frag) (C : Addr) : Bool := decide (PySem.W.findIn K (.ref C) "__ne__" = some (some (.builtin "object.__ne__"))) && decide (PySem.W.mroIn K C (.type "object") = some true)
theorem neB_ok {C : Addr} (g : neB K C = true) : NeAt K C := by
  obtain ⟨g1, g2⟩ := He.ba g
  exact ⟨of_decide_eq_true g1, of_decide_eq_true g2⟩
def fmB (K : PySem.W.Frag) (C : Addr) : Bool := decide (PySem.W.findIn K (.ref C) "__format__" = some (some (.builtin "object.__format__"))) && decide (PySem.W.mroIn K C (.type "object") = some true)
theorem fmB_ok {C : Addr} (g : fmB K C = true) : FmtAt K C := by
  obtain ⟨g1, g2⟩ := He.ba g
  exact ⟨of_decide_eq_true g1, of_decide_eq_true g2⟩
def stB (K : PySem.W.Frag) (C m : Str) : Bool := He5.wrapB K (He.ga K C) "staticmethod" "staticmethod.__get__" m && PySem.W.readsIn K (He.ga K C) (.type "type")
theorem statAt_of {C m q : Str} {st : Stmt} (F : ∃ fd, FunD K m q (defArgs st) (defBody st) (defScope st) [] [] (smAt C m K) fd) (g : stB K C m = true) : StatAt K (He.ga K C) m q st := by
  obtain ⟨g1, g2⟩ := He.ba g
  obtain ⟨fd, F⟩ := F
  obtain ⟨k1, k2⟩ := He5.wrapB_ok g1
  refine ⟨⟨_, _, fd, fun_of F, ⟨k1, k2⟩⟩, g2, ?_⟩
  unfold PySem.W.readsIn at g2
  simp only [Bool.and_eq_true, beq_iff_eq] at g2
  obtain ⟨⟨⟨⟨_, a⟩, b⟩, _⟩, _⟩ := g2
  unfold PySem.W.specialIn
  rw [a, Option.bind_some]
  exact b
end
/-! ### the Hook -/
abbrev AlY : Type := He.AlT × (Bool × List He5.FnW)
structure SaysY (fa : List He.Fa) (fn : List He.DefD) (ts : List He.Tab) (tf : List He.Defn) (ex : PySem.W.Frag → Bool) (sm : List He5.DefA) (w : World) (h : Heap) (K : PySem.W.Frag) : Prop where
  x : He.SaysX fa fn ts tf ex w h K
  smo : (sm.all fun d => d.ok K) = true
  sme : (sm.map fun d => He5.fnA K (d.at_ K)) = sm.map He5.DefA.val
def obsYK (fa : List He.Fa) (fn : List He.DefD) (ts : List He.Tab) (tf : List He.Defn) (ex : PySem.W.Frag → Bool) (sm : List He5.DefA) (g : Addr → Option Obj) (K : PySem.W.Frag) : AlY :=
  (He.obsT fa fn ts K, (ex K && (He.tabsB g tf K && sm.all fun d => d.ok K), sm.map fun d => He5.fnA K (d.at_ K)))
def obsY (n : Nat) (fa : List He.Fa) (fn : List He.DefD) (ts : List He.Tab) (tf : List He.Defn) (ex : PySem.W.Frag → Bool) (sm : List He5.DefA) (g : Addr → Option Obj) : AlY :=
  obsYK fa fn ts tf ex sm g (He.frT g (He5.asA g n))
def valY (fn : List He.DefD) (ts : List He.Tab) (sm : List He5.DefA) (w : World) : AlY := (He.valT fn ts w, (true, sm.map He5.DefA.val))
theorem saysY_at {fa : List He.Fa} {fn : List He.DefD} {ts : List He.Tab} {tf : List He.Defn} {ex : PySem.W.Frag → Bool} {sm : List He5.DefA} {w : World} {h : Heap} {as : List Addr} {K : PySem.W.Frag} (eK : K = He.frT h.get? as) (e : obsYK fa fn ts tf ex sm h.get? K = valY fn ts sm w) : SaysY fa fn ts tf ex sm w h K := by
  unfold obsYK valY at e
  simp only [Prod.mk.injEq] at e
  obtain ⟨e1, e2, e3⟩ := e
  obtain ⟨e2, e4⟩ := He.ba e2
  obtain ⟨e5, e6⟩ := He.ba e4
  have key : ∀ p ∈ tf, PySem.W.codeHdIn K (He.cT K p).1 (He.cT K p).2 = true ∧ ∃ o, h.get? (He.cT K p).2 = some o ∧ He.emptyTab o = true := fun p hp => by
    obtain ⟨k1, k2⟩ := He.ba (List.all_eq_true.mp e5 p hp)
    refine ⟨k1, ?_⟩
    cases q : h.get? (He.cT K p).2 with
    | some o => exact ⟨o, rfl, by rw [q] at k2; exact k2⟩
    | none => rw [q] at k2; cases k2
  refine ⟨⟨e1, e2, fun p hp => (key p hp).1, fun p hp => ?_, fun p hp => ?_⟩, e6, e3⟩
  · obtain ⟨_, o, q, z⟩ := key p hp
    have := He.frT_none (as := as) q z
    rw [← eK] at this
    exact this
  · obtain ⟨_, o, q, z⟩ := key p hp
    rw [q, He.emptyTab_eq z]
def hookY (n : Nat) (fa : List He.Fa) (fn : List He.DefD) (ts : List He.Tab) (tf : List He.Defn) (ex : PySem.W.Frag → Bool) (sm : List He5.DefA) : PySem.W.Hook where
  α := AlY
  obs := fun s => obsY n fa fn ts tf ex sm s.heap.get?
  val := fun w => valY fn ts sm w
  says := fun w h => ∃ K : PySem.W.Frag, K.In h ∧ SaysY fa fn ts tf ex sm w h K
  of := fun _ _ e => ⟨_, He.frT_in, saysY_at rfl e⟩
  keeps := fun _ _ _ ⟨K, hK, c⟩ k => ⟨K, PySem.W.Frag.In.keeps hK k, ⟨⟨c.x.t, c.x.more, c.x.hd, c.x.out, fun p hp => k _ _ (c.x.empty p hp)⟩, c.smo, c.sme⟩⟩
theorem obsY_eq {n : Nat} {fa : List He.Fa} {fn : List He.DefD} {ts : List He.Tab} {tf : List He.Defn} {ex : PySem.W.Frag → Bool} {sm : List He5.DefA} {g : Addr → Option Obj} {s : Shared} (h : ∀ a, g a = s.heap.get? a) : obsY n fa fn ts tf ex sm g = (hookY n fa fn ts tf ex sm).obs s := by
  have e : g = s.heap.get? := funext h
  rw [e] <;> rfl
theorem SaysY.sm_ {fa : List He.Fa} {fn : List He.DefD} {ts : List He.Tab} {tf : List He.Defn} {ex : PySem.W.Frag → Bool} {sm : List He5.DefA} {w : World} {h : Heap} {K : PySem.W.Frag} (c : SaysY fa fn ts tf ex sm w h K) (i : Nat) {d : He5.DefA} (e : sm[i]? = some d := by rfl) : ∃ fd, FunD K d.name d.qual d.params d.body d.scope (d.dvs K) (d.kws K) (d.at_ K) fd := by
  have z : (sm.map fun d => He5.fnA K (d.at_ K))[i]? = (sm.map He5.DefA.val)[i]? := by rw [c.sme]
  rw [List.getElem?_map, List.getElem?_map, e] at z
  exact He5.DefA.funD (Option.some.inj z) (List.all_eq_true.mp c.smo d (List.mem_of_getElem? e))
end Fg

set_option Elab.async false
set_option linter.all false
set_option maxRecDepth 100000
set_option maxHeartbeats 4000000
namespace Fg
open PySem PySem.Spec PyProof.Rows L2
local macro_rules | `(tactic| walk_at "hp") => `(tactic| first | assumption | (refine Same.get (by assumption) ?_; walk_at "hp"))
local macro_rules | `(tactic| walk_at "sq") => `(tactic| first | assumption | (exact Or.inr (by assumption)) | (exact Or.inl (by assumption)) | (exact Or.inl (SqL.of (by walk_at "hp"))) | (exact Or.inr (SqT.of (by walk_at "hp"))) | (exact SqL.of (by walk_at "hp")) | (exact SqT.of (by walk_at "hp")))
local macro_rules | `(tactic| walk_at "cl") => `(tactic| first | ((first | show (_ : Int) < _ | show (_ : Int) ≤ _); first | omega | decide) | ((first | show (_ : Nat) < _ | show (_ : Nat) ≤ _); first | with_reducible assumption | (refine sz_le ?_; first | decide | omega | (simp <;> omega)) | (refine sz_lt ?_; first | decide | omega | (simp <;> omega)) | omega | decide | ((with_reducible show List.length _ < _); exact Nat.le_of_ble_eq_true rfl)) | rfl | walk_at "hp" | walk_at "sq" | (refine And.intro (by walk_at "cl") (by walk_at "cl")) | (exact Exists.intro _ (by walk_at "hp")) | (exact Exists.intro _ (Exists.intro _ (by walk_at "hp"))) | (exact Exists.intro _ (Exists.intro _ (And.intro (by walk_at "hp") rfl))) | decide | (exact Or.inl (by walk_at "cl")) | (exact Or.inr (by walk_at "cl")) | omega)
local macro_rules | `(tactic| walk_at "s1") => `(tactic| first | refine And.intro (by walk_at "cl") ?_ | apply Exists.intro)
local macro_rules | `(tactic| walk_at "sx") => `(tactic| repeat walk_at "s1")
local macro_rules | `(tactic| walk_at "si") => `(tactic| first | refine iteY rfl ?_ | refine iteN rfl ?_)
local macro_rules | `(tactic| walk_at "sy") => `(tactic| repeat first | walk_at "s1" | walk_at "si")
/-! ### the head: facts by names, the run -/
def headFa : List He.Fa := [.glo "is_integer", .free "isinstance", .free "int", .glo "is_between", .glo "is_sign", .free "str", .free "len", .str "PRINT" " !\"#$&'()*+,-./0123456789:;<=>?@ABCDEFGHIJKLMNOPQRSTUVWXYZ[\\]^_`abcdefghijklmnopqrstuvwxyz{|}~", .glo "code_of", .glo "figures_of", .glo "is_setting", .glo "HEADS", .glo "SIDES", .str "FIGURES" "0123456789abcdef", .int "MOST_GROUP" 4, .int "MOST_WIDTH" 12, .glo "settings_text", .free "zip", .glo "SETTINGS", .glo "size_of", .glo "integer_in", .free "any", .glo "sign_of", .glo "setting_in", .glo "settings_in", .free "tuple", .free "list", .glo "InvalidSetting", .meth "InvalidSetting" "__init__", .noat "InvalidSetting" "setting", .glo "InvalidNumber", .meth "InvalidNumber" "__init__", .noat "InvalidNumber" "value", .glo "Format", .mkr "Format", .cls "Format", .noat "Format" "base", .noat "Format" "sign", .noat "Format" "least", .noat "Format" "group", .noat "Format" "mark", .noat "Format" "width", .noat "Format" "fill", .noat "Format" "side", .noat "Format" "words", .glo "_law_format", .glo "format_of", .meth "Format" "settings", .meth "Format" "__eq__", .meth "Format" "__str__", .glo "is_name", .int "LONGEST_NAME" 10, .free "all", .str "SMALL_LETTERS" "abcdefghijklmnopqrstuvwxyz", .glo "InvalidName", .meth "InvalidName" "__init__", .noat "InvalidName" "value", .glo "NotAFormat", .meth "NotAFormat" "__init__", .noat "NotAFormat" "value", .glo "InvalidRange", .meth "InvalidRange" "__init__", .noat "InvalidRange" "end", .glo "end_text", .glo "is_end", .int "MOST_BOUND" 1000000000000, .glo "check_format", .glo "check_range", .glo "Field", .mkr "Field", .cls "Field", .noat "Field" "name", .noat "Field" "pattern", .noat "Field" "low", .noat "Field" "high", .meth "Field" "parts_of", .meth "Field" "__eq__", .meth "Field" "__str__", .glo "InvalidText", .meth "InvalidText" "__init__", .noat "InvalidText" "value", .glo "field_in", .glo "_law_spoon", .glo "_law_of", .glo "_law_pot", .free "abs", .glo "_law_signs", .glo "_law_sign", .glo "Unfit", .free "ValueError", .exm "InvalidText" "InvalidText" true, .glo "_law_bent", .glo "_law_shape", .glo "_law_right", .free "range", .glo "_law_ended", .glo "law", .free "max", .free "min"]
def headFn : List He.DefD := [dG "is_integer" s_is_integer, dG "is_between" s_is_between, dG "is_sign" s_is_sign, dG "code_of" s_code_of, dG "figures_of" s_figures_of, dG "is_setting" s_is_setting, dG "settings_text" s_settings_text, dG "size_of" s_size_of, dG "integer_in" s_integer_in, dG "sign_of" s_sign_of, dG "setting_in" s_setting_in, dG "settings_in" s_settings_in, dM "InvalidSetting" "__init__" "InvalidSetting.__init__" s_InvalidSettingdd_initdd, dM "InvalidNumber" "__init__" "InvalidNumber.__init__" s_InvalidNumberdd_initdd, dMK "Format" "__init__" "Format.__init__" s_Formatdd_initdd [("base", .int 10), ("sign", .str "minus"), ("least", .int 1), ("group", .int 0), ("mark", .str ","), ("width", .int 0), ("fill", .str " "), ("side", .str "left")], dG "_law_format" s_l_format, dG "format_of" s_format_of, dM "Format" "settings" "Format.settings" s_Format_settings, dM "Format" "__eq__" "Format.__eq__" s_Formatdd_eqdd, dM "Format" "__str__" "Format.__str__" s_Formatdd_strdd, dG "is_name" s_is_name, dM "InvalidName" "__init__" "InvalidName.__init__" s_InvalidNamedd_initdd, dM "NotAFormat" "__init__" "NotAFormat.__init__" s_NotAFormatdd_initdd, dM "InvalidRange" "__init__" "InvalidRange.__init__" s_InvalidRangedd_initdd, dG "end_text" s_end_text, dG "is_end" s_is_end, dG "check_format" s_check_format, dG "check_range" s_check_range, dD "Field" "Field.__init__" s_Fielddd_initdd [.non, .non], dM "Field" "parts_of" "Field.parts_of" s_Field_parts_of, dM "Field" "__eq__" "Field.__eq__" s_Fielddd_eqdd, dM "Field" "__str__" "Field.__str__" s_Fielddd_strdd, dM "InvalidText" "__init__" "InvalidText.__init__" s_InvalidTextdd_initdd, dG "field_in" s_field_in, dG "_law_spoon" s_l_spoon, dG "_law_of" s_l_of, dG "_law_pot" s_l_pot, dG "_law_signs" s_l_signs, dG "_law_sign" s_l_sign, dG "_law_bent" s_l_bent, dG "_law_shape" s_l_shape, dG "_law_right" s_l_right, dG "_law_ended" s_l_ended, dG "law" s_law]
def headTs : List He.Tab := [(fun K => He.ga K "HEADS", ["minus", "plus", "blank"])]
def headTf : List He.Defn := [("_law_right", none)]
def headEx (K : PySem.W.Frag) : Bool := ([tabB K (He.ga K "HEADS") [("minus", .str ""), ("plus", .str "+"), ("blank", .str " ")], He.tupB K "SIDES" [.str "left", .str "right", .str "both", .str "inner"], He.tupB K "SETTINGS" [.str "base", .str "sign", .str "least", .str "group", .str "mark", .str "width", .str "fill", .str "side"], oeB K (He.ga K "InvalidSetting"), oeB K (He.ga K "InvalidNumber"), insB K (He.ga K "Format"), inB K (He.ga K "Format"), oeB K (He.ga K "InvalidName"), oeB K (He.ga K "NotAFormat"), oeB K (He.ga K "InvalidRange"), insB K (He.ga K "Field"), inB K (He.ga K "Field"), fmB K (He.ga K "Format"), oeB K (He.ga K "InvalidText"), stB K "Field" "read", xfB K (He.ga K "InvalidText"), xcB K (He.ga K "InvalidText"), decide (PySem.W.kitOne K (.ref (He.ga K "InvalidText")) (.ref (He.ga K "Unfit")) = some true), decide (PySem.W.kitOne K (.ref (He.ga K "InvalidText")) (.type "ValueError") = some true), neB K (He.ga K "Field"), decide (PySem.W.kitOne K (.ref (He.ga K "Field")) (.type "int") = some false), decide (PySem.W.kitOne K (.ref (He.ga K "Field")) (.type "str") = some false)] : List Bool).all id
def adOf (K : PySem.W.Frag) : Ad where
  tSETTINGS := He.ga K "SETTINGS"
  cInvalidSetting := He.ga K "InvalidSetting"
  cInvalidNumber := He.ga K "InvalidNumber"
  cFormat := He.ga K "Format"
  cInvalidName := He.ga K "InvalidName"
  cNotAFormat := He.ga K "NotAFormat"
  cInvalidRange := He.ga K "InvalidRange"
  cField := He.ga K "Field"
  cInvalidText := He.ga K "InvalidText"
  tP_l_right := He.tabOf K (He.codeOf K ("_law_right", none))
  cC_l_right := He.codeOf K ("_law_right", none)
  tHEADS := He.ga K "HEADS"
  tSIDES := He.ga K "SIDES"
  cUnfit := He.ga K "Unfit"
def headSm : List He5.DefA := [dS "Field" "read" "Field.read" s_Field_read]
theorem txt_of {w : World} {K : PySem.W.Frag} {h : Heap} {mg : Str → Option Value} (X : K.In h) (G : h.Ns mainGlobals mg) (c : SaysY headFa headFn headTs headTf headEx headSm w h K) : Txt w K mg (adOf K) where
  F_is_integer := funAt_of X G (c.x.t.d.def_ 0 rfl) (c.x.t.d.fact 0 rfl)
  b_isinstance := He.free_ok X G (c.x.t.d.fact 1 rfl)
  b_int := He.free_ok X G (c.x.t.d.fact 2 rfl)
  F_is_between := funAt_of X G (c.x.t.d.def_ 1 rfl) (c.x.t.d.fact 3 rfl)
  F_is_sign := funAt_of X G (c.x.t.d.def_ 2 rfl) (c.x.t.d.fact 4 rfl)
  b_str := He.free_ok X G (c.x.t.d.fact 5 rfl)
  b_len := He.free_ok X G (c.x.t.d.fact 6 rfl)
  g_PRINT := strG_of X G (c.x.t.d.fact 7 rfl)
  F_code_of := funAt_of X G (c.x.t.d.def_ 3 rfl) (c.x.t.d.fact 8 rfl)
  F_figures_of := funAt_of X G (c.x.t.d.def_ 4 rfl) (c.x.t.d.fact 9 rfl)
  F_is_setting := funAt_of X G (c.x.t.d.def_ 5 rfl) (c.x.t.d.fact 10 rfl)
  d_HEADS := kTab_of (c.x.t.tab 0 rfl) (exAt c.x.more 0 rfl)
  g_HEADS := refG_of X G (c.x.t.d.fact 11 rfl)
  g_SIDES := refG_of X G (c.x.t.d.fact 12 rfl)
  g_FIGURES := strG_of X G (c.x.t.d.fact 13 rfl)
  g_MOST_GROUP := intG_of X G (c.x.t.d.fact 14 rfl)
  g_MOST_WIDTH := intG_of X G (c.x.t.d.fact 15 rfl)
  t_SIDES := fun H => He.tupB_ok (exAt c.x.more 1 rfl) H
  F_settings_text := funAt_of X G (c.x.t.d.def_ 6 rfl) (c.x.t.d.fact 16 rfl)
  b_zip := He.free_ok X G (c.x.t.d.fact 17 rfl)
  g_SETTINGS := refG_of X G (c.x.t.d.fact 18 rfl)
  t_SETTINGS := fun H => He.tupB_ok (exAt c.x.more 2 rfl) H
  F_size_of := funAt_of X G (c.x.t.d.def_ 7 rfl) (c.x.t.d.fact 19 rfl)
  F_integer_in := funAt_of X G (c.x.t.d.def_ 8 rfl) (c.x.t.d.fact 20 rfl)
  b_any := He.free_ok X G (c.x.t.d.fact 21 rfl)
  F_sign_of := funAt_of X G (c.x.t.d.def_ 9 rfl) (c.x.t.d.fact 22 rfl)
  F_setting_in := funAt_of X G (c.x.t.d.def_ 10 rfl) (c.x.t.d.fact 23 rfl)
  F_settings_in := funAt_of X G (c.x.t.d.def_ 11 rfl) (c.x.t.d.fact 24 rfl)
  b_tuple := He.free_ok X G (c.x.t.d.fact 25 rfl)
  b_list := He.free_ok X G (c.x.t.d.fact 26 rfl)
  oe_InvalidSetting := oeB_ok (exAt c.x.more 3 rfl)
  g_InvalidSetting := He.glo_ok X G (c.x.t.d.fact 27 rfl)
  I_InvalidSettingdd_initdd := initAt_of (c.x.t.d.def_ 12 rfl) (c.x.t.d.fact 28 rfl)
  nf_InvalidSetting := He.noat_ok (c.x.t.d.fact 29 rfl)
  oe_InvalidNumber := oeB_ok (exAt c.x.more 4 rfl)
  g_InvalidNumber := He.glo_ok X G (c.x.t.d.fact 30 rfl)
  I_InvalidNumberdd_initdd := initAt_of (c.x.t.d.def_ 13 rfl) (c.x.t.d.fact 31 rfl)
  nf_InvalidNumber := He.noat_ok (c.x.t.d.fact 32 rfl)
  g_Format := He.glo_ok X G (c.x.t.d.fact 33 rfl)
  K_Format := initK_of (c.x.t.d.def_ 14 rfl) (c.x.t.d.fact 34 rfl)
  cl_Format := He.cls_ok (c.x.t.d.fact 35 rfl)
  n_Format_base := He.noat_ok (c.x.t.d.fact 36 rfl)
  n_Format_sign := He.noat_ok (c.x.t.d.fact 37 rfl)
  n_Format_least := He.noat_ok (c.x.t.d.fact 38 rfl)
  n_Format_group := He.noat_ok (c.x.t.d.fact 39 rfl)
  n_Format_mark := He.noat_ok (c.x.t.d.fact 40 rfl)
  n_Format_width := He.noat_ok (c.x.t.d.fact 41 rfl)
  n_Format_fill := He.noat_ok (c.x.t.d.fact 42 rfl)
  n_Format_side := He.noat_ok (c.x.t.d.fact 43 rfl)
  n_Format_words := He.noat_ok (c.x.t.d.fact 44 rfl)
  F_l_format := funAt_of X G (c.x.t.d.def_ 15 rfl) (c.x.t.d.fact 45 rfl)
  F_format_of := funAt_of X G (c.x.t.d.def_ 16 rfl) (c.x.t.d.fact 46 rfl)
  M_Format_settings := methAt_of (c.x.t.d.def_ 17 rfl) (c.x.t.d.fact 47 rfl)
  M_Formatdd_eqdd := methAt_of (c.x.t.d.def_ 18 rfl) (c.x.t.d.fact 48 rfl)
  i_Format := insB_ok (exAt c.x.more 5 rfl)
  v_Format := refG_of X G (c.x.t.d.fact 33 rfl)
  in_Format := inB_ok (exAt c.x.more 6 rfl)
  M_Formatdd_strdd := methAt_of (c.x.t.d.def_ 19 rfl) (c.x.t.d.fact 49 rfl)
  F_is_name := funAt_of X G (c.x.t.d.def_ 20 rfl) (c.x.t.d.fact 50 rfl)
  g_LONGEST_NAME := intG_of X G (c.x.t.d.fact 51 rfl)
  b_all := He.free_ok X G (c.x.t.d.fact 52 rfl)
  g_SMALL_LETTERS := strG_of X G (c.x.t.d.fact 53 rfl)
  oe_InvalidName := oeB_ok (exAt c.x.more 7 rfl)
  g_InvalidName := He.glo_ok X G (c.x.t.d.fact 54 rfl)
  I_InvalidNamedd_initdd := initAt_of (c.x.t.d.def_ 21 rfl) (c.x.t.d.fact 55 rfl)
  nf_InvalidName := He.noat_ok (c.x.t.d.fact 56 rfl)
  oe_NotAFormat := oeB_ok (exAt c.x.more 8 rfl)
  g_NotAFormat := He.glo_ok X G (c.x.t.d.fact 57 rfl)
  I_NotAFormatdd_initdd := initAt_of (c.x.t.d.def_ 22 rfl) (c.x.t.d.fact 58 rfl)
  nf_NotAFormat := He.noat_ok (c.x.t.d.fact 59 rfl)
  oe_InvalidRange := oeB_ok (exAt c.x.more 9 rfl)
  g_InvalidRange := He.glo_ok X G (c.x.t.d.fact 60 rfl)
  I_InvalidRangedd_initdd := initAt_of (c.x.t.d.def_ 23 rfl) (c.x.t.d.fact 61 rfl)
  nf_InvalidRange := He.noat_ok (c.x.t.d.fact 62 rfl)
  F_end_text := funAt_of X G (c.x.t.d.def_ 24 rfl) (c.x.t.d.fact 63 rfl)
  F_is_end := funAt_of X G (c.x.t.d.def_ 25 rfl) (c.x.t.d.fact 64 rfl)
  g_MOST_BOUND := intG_of X G (c.x.t.d.fact 65 rfl)
  F_check_format := funAt_of X G (c.x.t.d.def_ 26 rfl) (c.x.t.d.fact 66 rfl)
  F_check_range := funAt_of X G (c.x.t.d.def_ 27 rfl) (c.x.t.d.fact 67 rfl)
  g_Field := He.glo_ok X G (c.x.t.d.fact 68 rfl)
  D_Field := initD_of (c.x.t.d.def_ 28 rfl) (c.x.t.d.fact 69 rfl)
  cl_Field := He.cls_ok (c.x.t.d.fact 70 rfl)
  n_Field_name := He.noat_ok (c.x.t.d.fact 71 rfl)
  n_Field_pattern := He.noat_ok (c.x.t.d.fact 72 rfl)
  n_Field_low := He.noat_ok (c.x.t.d.fact 73 rfl)
  n_Field_high := He.noat_ok (c.x.t.d.fact 74 rfl)
  M_Field_parts_of := methAt_of (c.x.t.d.def_ 29 rfl) (c.x.t.d.fact 75 rfl)
  M_Fielddd_eqdd := methAt_of (c.x.t.d.def_ 30 rfl) (c.x.t.d.fact 76 rfl)
  i_Field := insB_ok (exAt c.x.more 10 rfl)
  v_Field := refG_of X G (c.x.t.d.fact 68 rfl)
  in_Field := inB_ok (exAt c.x.more 11 rfl)
  M_Fielddd_strdd := methAt_of (c.x.t.d.def_ 31 rfl) (c.x.t.d.fact 77 rfl)
  fm_Format := fmB_ok (exAt c.x.more 12 rfl)
  oe_InvalidText := oeB_ok (exAt c.x.more 13 rfl)
  g_InvalidText := He.glo_ok X G (c.x.t.d.fact 78 rfl)
  I_InvalidTextdd_initdd := initAt_of (c.x.t.d.def_ 32 rfl) (c.x.t.d.fact 79 rfl)
  nf_InvalidText := He.noat_ok (c.x.t.d.fact 80 rfl)
  F_field_in := funAt_of X G (c.x.t.d.def_ 33 rfl) (c.x.t.d.fact 81 rfl)
  S_Field_read := statAt_of (c.sm_ 0 rfl) (exAt c.x.more 14 rfl)
  F_l_spoon := funAt_of X G (c.x.t.d.def_ 34 rfl) (c.x.t.d.fact 82 rfl)
  F_l_of := funAt_of X G (c.x.t.d.def_ 35 rfl) (c.x.t.d.fact 83 rfl)
  F_l_pot := funAt_of X G (c.x.t.d.def_ 36 rfl) (c.x.t.d.fact 84 rfl)
  b_abs := He.free_ok X G (c.x.t.d.fact 85 rfl)
  F_l_signs := funAt_of X G (c.x.t.d.def_ 37 rfl) (c.x.t.d.fact 86 rfl)
  F_l_sign := funAt_of X G (c.x.t.d.def_ 38 rfl) (c.x.t.d.fact 87 rfl)
  xf_InvalidText := xfB_ok (exAt c.x.more 15 rfl)
  xc_InvalidText := xcB_ok (exAt c.x.more 16 rfl)
  v_Unfit := refG_of X G (c.x.t.d.fact 88 rfl)
  b_ValueError := He.free_ok X G (c.x.t.d.fact 89 rfl)
  ex_InvalidText_InvalidText := He.exm_ok (c.x.t.d.fact 90 rfl)
  ki_InvalidText_Unfit := of_decide_eq_true (exAt c.x.more 17 rfl)
  ki_InvalidText_ValueError := of_decide_eq_true (exAt c.x.more 18 rfl)
  F_l_bent := funAt_of X G (c.x.t.d.def_ 39 rfl) (c.x.t.d.fact 91 rfl)
  F_l_shape := funAt_of X G (c.x.t.d.def_ 40 rfl) (c.x.t.d.fact 92 rfl)
  k_l_right := funC_of X G (c.x.t.d.def_ 41 rfl) (c.x.t.d.fact 93 rfl)
  b_range := He.free_ok X G (c.x.t.d.fact 94 rfl)
  ne_Field := neB_ok (exAt c.x.more 19 rfl)
  F_l_ended := funAt_of X G (c.x.t.d.def_ 42 rfl) (c.x.t.d.fact 95 rfl)
  kn_Field_int := of_decide_eq_true (exAt c.x.more 20 rfl)
  kn_Field_str := of_decide_eq_true (exAt c.x.more 21 rfl)
  F_law := funAt_of X G (c.x.t.d.def_ 43 rfl) (c.x.t.d.fact 96 rfl)
  b_max := He.free_ok X G (c.x.t.d.fact 97 rfl)
  b_min := He.free_ok X G (c.x.t.d.fact 98 rfl)
def headNames : List Str := (["_wall", "__name__", "Unfit", "NotAFormat", "InvalidNumber", "InvalidText", "InvalidName", "InvalidSetting", "InvalidRange", "MOST_WIDTH", "MOST_GROUP", "MOST_BOUND", "FIGURES", "SMALL_LETTERS", "LONGEST_NAME", "PRINT", "is_name", "is_integer", "is_between", "is_sign", "code_of", "sign_of", "figures_of", "size_of", "integer_in", "SETTINGS", "HEADS", "SIDES", "is_setting", "settings_text"] : List Str) ++ (["format_of", "Format", "setting_in", "settings_in", "check_format", "check_range", "Field", "end_text", "is_end", "field_in", "_law_pot", "_law_spoon", "_law_of", "_law_signs", "_law_sign", "_law_shape", "_law_format", "_law_ended", "_law_bent", "_law_right"] : List Str)
abbrev headR : PySem.W.OpenRow := PySem.W.OpenLaw.row PySem.Challenge.rw_figurelines_k06_whole_field_texts
abbrev headHk : PySem.W.Hook := hookY 6 headFa headFn headTs headTf headEx headSm
def headOb (s : PySem.W.SharedT) : AlY := obsY 6 headFa headFn headTs headTf headEx headSm (HandSHeadRun.getT s)
theorem headOb_eq (s : PySem.W.SharedT) : headOb s = headHk.obs s.abs := obsY_eq (HandSHeadRun.getT_eq s)
abbrev headP (w : World) : Prop := HandSHeadRun.RunEq headR (PySem.W.view headR.prog [54]) headHk headOb 12000 headNames w
set_option maxHeartbeats 0 in
theorem headRunF (w : World) : headP (w.withFollow "special-get-raises" false) := by
  intro os
  kernel_rfl
set_option maxHeartbeats 0 in
theorem headRunT (w : World) : headP (w.withFollow "special-get-raises" true) := by
  intro os
  kernel_rfl
theorem headRun (w : World) : headP w := PySem.W.byRow2 "special-get-raises" headRunF headRunT w

end Fg
set_option Elab.async false
set_option linter.all false
set_option maxRecDepth 100000
set_option maxHeartbeats 4000000
namespace Fg
open PySem PySem.Spec PyProof.Rows L2
local macro_rules | `(tactic| walk_at "hp") => `(tactic| first | assumption | (refine Same.get (by assumption) ?_; walk_at "hp"))
local macro_rules | `(tactic| walk_at "sq") => `(tactic| first | assumption | (exact Or.inr (by assumption)) | (exact Or.inl (by assumption)) | (exact Or.inl (SqL.of (by walk_at "hp"))) | (exact Or.inr (SqT.of (by walk_at "hp"))) | (exact SqL.of (by walk_at "hp")) | (exact SqT.of (by walk_at "hp")))
local macro_rules | `(tactic| walk_at "cl") => `(tactic| first | ((first | show (_ : Int) < _ | show (_ : Int) ≤ _); first | omega | decide) | ((first | show (_ : Nat) < _ | show (_ : Nat) ≤ _); first | with_reducible assumption | (refine sz_le ?_; first | decide | omega | (simp <;> omega)) | (refine sz_lt ?_; first | decide | omega | (simp <;> omega)) | omega | decide | ((with_reducible show List.length _ < _); exact Nat.le_of_ble_eq_true rfl)) | rfl | walk_at "hp" | walk_at "sq" | (refine And.intro (by walk_at "cl") (by walk_at "cl")) | (exact Exists.intro _ (by walk_at "hp")) | (exact Exists.intro _ (Exists.intro _ (by walk_at "hp"))) | (exact Exists.intro _ (Exists.intro _ (And.intro (by walk_at "hp") rfl))) | decide | (exact Or.inl (by walk_at "cl")) | (exact Or.inr (by walk_at "cl")) | omega)
local macro_rules | `(tactic| walk_at "s1") => `(tactic| first | refine And.intro (by walk_at "cl") ?_ | apply Exists.intro)
local macro_rules | `(tactic| walk_at "sx") => `(tactic| repeat walk_at "s1")
local macro_rules | `(tactic| walk_at "si") => `(tactic| first | refine iteY rfl ?_ | refine iteN rfl ?_)
local macro_rules | `(tactic| walk_at "sy") => `(tactic| repeat first | walk_at "s1" | walk_at "si")
/-! ### signs of print, figures -/
def printS : Str := " !\"#$&'()*+,-./0123456789:;<=>?@ABCDEFGHIJKLMNOPQRSTUVWXYZ[\\]^_`abcdefghijklmnopqrstuvwxyz{|}~"
def printL : List Nat := (List.range 127).filter fun c => 32 ≤ c && c != 37
theorem printS_eq : printS.cps.toList = printL := by decide +kernel
def figS : Str := "0123456789abcdef"
/-- the code of a figure -/
def figC (n : Nat) : Nat := if n < 10 then 48 + n else 87 + n
/-- one sign -/
def chS (c : Nat) : Str := ⟨#[c]⟩
def isInt : V → Bool
  | .int _ => true
  | _ => false
def isBetw (lo hi : Int) : V → Bool
  | .int i => decide (lo ≤ i) && decide (i ≤ hi)
  | _ => false
def isSignV : V → Bool
  | .str z => match z.cps.toList with
    | [c] => decide (c ∈ printL)
    | _ => false
  | _ => false
theorem code_ix : ∀ c ∈ printL, Txt.index0 printS ⟨#[c]⟩ = some (if c < 37 then c - 32 else c - 33) := by decide +kernel
theorem one_sign {z : Str} (h : z.length = 1) : ∃ c, z = chS c := by
  obtain ⟨⟨l⟩⟩ := z
  match l, h with
  | [c], _ => exact ⟨c, rfl⟩
/-- figures from the last one on -/
def rdigs (b : Nat) : Nat → Nat → List Nat
  | 0, n => [n % b]
  | k + 1, n => n % b :: if b ≤ n then rdigs b k (n / b) else []
def digs (b n : Nat) : List Nat := (rdigs b n n).reverse

end Fg
set_option Elab.async false
set_option linter.all false
set_option maxRecDepth 100000
set_option maxHeartbeats 4000000
namespace Fg
open PySem PySem.Spec PyProof.Rows L2
local macro_rules | `(tactic| walk_at "hp") => `(tactic| first | assumption | (refine Same.get (by assumption) ?_; walk_at "hp"))
local macro_rules | `(tactic| walk_at "sq") => `(tactic| first | assumption | (exact Or.inr (by assumption)) | (exact Or.inl (by assumption)) | (exact Or.inl (SqL.of (by walk_at "hp"))) | (exact Or.inr (SqT.of (by walk_at "hp"))) | (exact SqL.of (by walk_at "hp")) | (exact SqT.of (by walk_at "hp")))
local macro_rules | `(tactic| walk_at "cl") => `(tactic| first | ((first | show (_ : Int) < _ | show (_ : Int) ≤ _); first | omega | decide) | ((first | show (_ : Nat) < _ | show (_ : Nat) ≤ _); first | with_reducible assumption | (refine sz_le ?_; first | decide | omega | (simp <;> omega)) | (refine sz_lt ?_; first | decide | omega | (simp <;> omega)) | omega | decide | ((with_reducible show List.length _ < _); exact Nat.le_of_ble_eq_true rfl)) | rfl | walk_at "hp" | walk_at "sq" | (refine And.intro (by walk_at "cl") (by walk_at "cl")) | (exact Exists.intro _ (by walk_at "hp")) | (exact Exists.intro _ (Exists.intro _ (by walk_at "hp"))) | (exact Exists.intro _ (Exists.intro _ (And.intro (by walk_at "hp") rfl))) | decide | (exact Or.inl (by walk_at "cl")) | (exact Or.inr (by walk_at "cl")) | omega)
local macro_rules | `(tactic| walk_at "s1") => `(tactic| first | refine And.intro (by walk_at "cl") ?_ | apply Exists.intro)
local macro_rules | `(tactic| walk_at "sx") => `(tactic| repeat walk_at "s1")
local macro_rules | `(tactic| walk_at "si") => `(tactic| first | refine iteY rfl ?_ | refine iteN rfl ?_)
local macro_rules | `(tactic| walk_at "sy") => `(tactic| repeat first | walk_at "s1" | walk_at "si")
section
variable {P : Program} {w : World} {K : PySem.W.Frag} {mg : Str → Option Value} {base : Heap} {A : Ad}
def sp_is_integer (K : PySem.W.Frag) : Sp := s1 fun a H Q _ => AnyV K H a ∧ Q (.bl (isInt a)) H
theorem ok_is_integer (T : Txt w K mg A) : Callee P w K mg base 1 "is_integer" ["value"] (sp_is_integer K) := by
  refine callee_of T.F_is_integer sc_is_integer (fun _ _ _ _ _ _ us hl => match us, hl with | [_], _ => rfl) (fun vs H Q E h => ?_) (fun f cdv Ar outer s H vs Q E hr tk po h => ?_)
  · obtain ⟨_, rfl, _⟩ := s1_len h
    rfl
  · obtain ⟨a, rfl, h0, q⟩ := s1_len h
    refine ⟨_, (pss_one (ps_ret (pe_and (pe_callB f_isint (by rfl) T.b_isinstance (by decide +kernel) (pa_cons (fv 0) (pa_cons (pe_bltn (v := .ty "int") (by rfl) T.b_int (by decide +kernel) rfl) pa_nil))) (pe_and (pe_cmpR op_notBl (fv 0) pe_bl (nomark _)) (pe_one (pe_cmpR op_notBl (fv 0) pe_bl (nomark _))))))), ?_⟩
    cases a with
    | non => walk_at "sx"; exact q
    | bl b => cases b <;> (walk_at "sx"; exact q)
    | int i => walk_at "sx"; exact q
    | str x => walk_at "sx"; exact q
    | ref p =>
      have r := h0.1
      walk_at "sx"; exact q
    | byt b => exact h0.elim
    | flt b => exact h0.elim
    | ty b => exact h0.elim
def sp_is_between (K : PySem.W.Frag) : Sp := s3 fun a b c H Q _ => ∃ lo hi, b = .int lo ∧ c = .int hi ∧ AnyV K H a ∧ Q (.bl (isBetw lo hi a)) H
theorem ok_is_between (T : Txt w K mg A) : Callee P w K mg base 2 "is_between" ["value", "low", "high"] (sp_is_between K) := by
  refine callee_of T.F_is_between sc_is_between (fun _ _ _ _ _ _ us hl => match us, hl with | [_, _, _], _ => rfl) (fun vs H Q E h => ?_) (fun f cdv Ar outer s H vs Q E hr tk po h => ?_)
  · obtain ⟨_, _, _, rfl, _⟩ := s3_len h
    rfl
  · obtain ⟨a, b, c, rfl, lo, hi, rfl, rfl, h0, q⟩ := s3_len h
    refine ⟨_, (pss_one (ps_ret (pe_and (fc_call (ok_is_integer T) hr (by decide) (by rfl) tk (pa_cons (fv 0) pa_nil)) (pe_one (pe_chain f_le f_le (fv 1) (fv 0) (fv 2)))))), ?_⟩
    cases a <;> first | exact h0.elim | skip
    all_goals walk_at "sx"
    all_goals first | exact q | skip
    rename_i i
    refine iteD (fun c => ?_) (fun c => ?_)
    · walk_at "sx"
      rw [isBetw, decide_eq_true c, Bool.true_and] at q
      exact q
    · rw [isBetw, decide_eq_false c, Bool.false_and] at q
      exact q
def sp_is_sign (K : PySem.W.Frag) : Sp := s1 fun a H Q _ => AnyV K H a ∧ Q (.bl (isSignV a)) H
theorem ok_is_sign (T : Txt w K mg A) : Callee P w K mg base 1 "is_sign" ["value"] (sp_is_sign K) := by
  refine callee_of T.F_is_sign sc_is_sign (fun _ _ _ _ _ _ us hl => match us, hl with | [_], _ => rfl) (fun vs H Q E h => ?_) (fun f cdv Ar outer s H vs Q E hr tk po h => ?_)
  · obtain ⟨_, rfl, _⟩ := s1_len h
    rfl
  · obtain ⟨a, rfl, h0, q⟩ := s1_len h
    refine ⟨_, (pss_one (ps_ret (pe_and (pe_callB f_isstr (by rfl) T.b_isinstance (by decide +kernel) (pa_cons (fv 0) (pa_cons (pe_bltn (v := .ty "str") (by rfl) T.b_str (by decide +kernel) rfl) pa_nil))) (pe_and (pe_cmpR f_eq (pe_callB f_len (by rfl) T.b_len (by decide +kernel) (pa_cons (fv 0) pa_nil)) pe_int (nomark _)) (pe_one (pe_cmpR f_inS (fv 0) (fe_g (by rfl) T.g_PRINT) (by rfl))))))), ?_⟩
    cases a with
    | non => walk_at "sx"; exact q
    | bl b => walk_at "sx"; exact q
    | int i => walk_at "sx"; exact q
    | str z =>
      have hz : z.length ≤ sizeLine := Nat.le_trans h0 (sz_le (by decide))
      by_cases e : z.length = 1
      · obtain ⟨c, rfl⟩ := one_sign e
        walk_at "sx"
        rw [show isSignV (.str (chS c)) = decide (c ∈ printL) from rfl, ← printS_eq] at q
        exact q
      · walk_at "sx"
        refine iteD (fun c => absurd (by omega) e) (fun c => ?_)
        have : isSignV (.str z) = false := by
          obtain ⟨⟨l⟩⟩ := z
          match l, e with
          | [], _ => rfl
          | [c], e => exact absurd rfl e
          | _ :: _ :: _, _ => rfl
        rw [this] at q
        exact q
    | ref p =>
      have r := h0.2
      walk_at "sx"; exact q
    | byt b => exact h0.elim
    | flt b => exact h0.elim
    | ty b => exact h0.elim
def sp_code_of : Sp := s1 fun a H Q _ => ∃ c, a = .str (chS c) ∧ c ∈ printL ∧ Q (.int (c : Nat)) H
theorem ok_code_of (T : Txt w K mg A) : Callee P w K mg base 1 "code_of" ["sign"] sp_code_of := by
  refine callee_of T.F_code_of sc_code_of (fun _ _ _ _ _ _ us hl => match us, hl with | [_], _ => rfl) (fun vs H Q E h => ?_) (fun f cdv Ar outer s H vs Q E hr tk po h => ?_)
  · obtain ⟨_, rfl, _⟩ := s1_len h
    rfl
  · obtain ⟨a, rfl, c, rfl, hc, q⟩ := s1_len h
    refine ⟨_, (pss_cons (ps_set (i := 1) sc_code_of.nd rfl (Or.inl rfl) (fe_sm1 PySem.F.slot_str_index PySem.F.type_str_index f_sindex (fe_g (by rfl) T.g_PRINT) (fv 0)))
      (pss_one (ps_ret (pe_ifExp (ft_cmp f_lt (fv 1) pe_int (nomark _)) (pe_op f_add (fv 1) pe_int) (pe_op f_add (fv 1) pe_int))))), ?_⟩
    have e := code_ix c hc
    have hb : 32 ≤ c ∧ c ≠ 37 := by
      have z := (List.mem_filter.mp hc).2
      simp at z
      exact z
    by_cases h37 : c < 37
    · rw [if_pos h37] at e
      refine ⟨_, e, ?_⟩
      refine iteD (fun _ => ?_) (fun z => absurd (by omega) z)
      walk_at "sx"
      rw [show ((c : Nat) : Int) = ((c - 32 : Nat) : Int) + 32 by omega] at q
      exact q
    · rw [if_neg h37] at e
      refine ⟨_, e, ?_⟩
      refine iteD (fun z => absurd z (by omega)) (fun _ => ?_)
      walk_at "sx"
      rw [show ((c : Nat) : Int) = ((c - 33 : Nat) : Int) + 33 by omega] at q
      exact q
end

end Fg
set_option Elab.async false
set_option linter.all false
set_option maxRecDepth 100000
set_option maxHeartbeats 4000000
namespace Fg
open PySem PySem.Spec PyProof.Rows L2
local macro_rules | `(tactic| walk_at "hp") => `(tactic| first | assumption | (refine Same.get (by assumption) ?_; walk_at "hp"))
local macro_rules | `(tactic| walk_at "sq") => `(tactic| first | assumption | (exact Or.inr (by assumption)) | (exact Or.inl (by assumption)) | (exact Or.inl (SqL.of (by walk_at "hp"))) | (exact Or.inr (SqT.of (by walk_at "hp"))) | (exact SqL.of (by walk_at "hp")) | (exact SqT.of (by walk_at "hp")))
local macro_rules | `(tactic| walk_at "cl") => `(tactic| first | ((first | show (_ : Int) < _ | show (_ : Int) ≤ _); first | omega | decide) | ((first | show (_ : Nat) < _ | show (_ : Nat) ≤ _); first | with_reducible assumption | (refine sz_le ?_; first | decide | omega | (simp <;> omega)) | (refine sz_lt ?_; first | decide | omega | (simp <;> omega)) | omega | decide | ((with_reducible show List.length _ < _); exact Nat.le_of_ble_eq_true rfl)) | rfl | walk_at "hp" | walk_at "sq" | (refine And.intro (by walk_at "cl") (by walk_at "cl")) | (exact Exists.intro _ (by walk_at "hp")) | (exact Exists.intro _ (Exists.intro _ (by walk_at "hp"))) | (exact Exists.intro _ (Exists.intro _ (And.intro (by walk_at "hp") rfl))) | decide | (exact Or.inl (by walk_at "cl")) | (exact Or.inr (by walk_at "cl")) | omega)
local macro_rules | `(tactic| walk_at "s1") => `(tactic| first | refine And.intro (by walk_at "cl") ?_ | apply Exists.intro)
local macro_rules | `(tactic| walk_at "sx") => `(tactic| repeat walk_at "s1")
local macro_rules | `(tactic| walk_at "si") => `(tactic| first | refine iteY rfl ?_ | refine iteN rfl ?_)
local macro_rules | `(tactic| walk_at "sy") => `(tactic| repeat first | walk_at "s1" | walk_at "si")
/-! ### formats -/
/-- the settings of a format -/
structure Fm where
  base : Nat
  sign : Str
  least : Nat
  group : Nat
  mark : Nat
  width : Nat
  fill : Nat
  side : Str
structure Fm.Ok (F : Fm) : Prop where
  b1 : 2 ≤ F.base
  b2 : F.base ≤ 16
  si : F.sign = "minus" ∨ F.sign = "plus" ∨ F.sign = "blank"
  l1 : 1 ≤ F.least
  l2 : F.least ≤ 12
  gr : F.group ≤ 4
  ma : F.mark ∈ printL
  wi : F.width ≤ 12
  fi : F.fill ∈ printL
  sd : F.side = "left" ∨ F.side = "right" ∨ F.side = "both" ∨ F.side = "inner"
def Fm.vals (F : Fm) : List V := [.int F.base, .str F.sign, .int F.least, .int F.group, .str (chS F.mark), .int F.width, .str (chS F.fill), .str F.side]
def Fm.said (F : Fm) : List Str := ["base", toString (F.base : Int), "sign", F.sign, "least", toString (F.least : Int), "group", toString (F.group : Int), "mark", toString (F.mark : Int), "width", toString (F.width : Int), "fill", toString (F.fill : Int), "side", F.side]
def Fm.words (F : Fm) : Str := Txt.join " " F.said
def setNames : List Str := ["base", "sign", "least", "group", "mark", "width", "fill", "side"]
/-- whether a value does for a setting -/
def okS (s : Str) (v : V) : Bool :=
  if s = "mark" ∨ s = "fill" then isSignV v
  else if s = "sign" then (match v with | .str z => decide (z = "minus" ∨ z = "plus" ∨ z = "blank") | _ => false)
  else if s = "side" then (match v with | .str z => decide (z = "left" ∨ z = "right" ∨ z = "both" ∨ z = "inner") | _ => false)
  else if s = "base" then isBetw 2 16 v
  else if s = "group" then isBetw 0 4 v
  else isBetw (if s = "least" then 1 else 0) 12 v
/-- the first setting that does not do -/
def badS : List (Str × V) → Option Str
  | [] => none
  | (s, v) :: r => if okS s v then badS r else some s
theorem betw_nat {lo hi : Nat} {v : V} (h : isBetw lo hi v = true) : ∃ n : Nat, v = .int (n : Nat) ∧ lo ≤ n ∧ n ≤ hi := by
  cases v <;> first | (cases h; done) | skip
  rename_i i
  have z := Bool.and_eq_true_iff.mp h
  have z1 := of_decide_eq_true z.1
  have z2 := of_decide_eq_true z.2
  exact ⟨i.toNat, by rw [Int.toNat_of_nonneg (by omega)], by omega, by omega⟩
theorem sign_nat {v : V} (h : isSignV v = true) : ∃ c, v = .str (chS c) ∧ c ∈ printL := by
  cases v <;> first | (cases h; done) | skip
  rename_i z
  obtain ⟨⟨l⟩⟩ := z
  match l, h with
  | [c], h => exact ⟨c, rfl, of_decide_eq_true h⟩
theorem ok_fm {v : List V} (hl : v.length = 8) (h : badS (setNames.zip v) = none) : ∃ F : Fm, F.Ok ∧ v = F.vals := by
  match v, hl with
  | [v1, v2, v3, v4, v5, v6, v7, v8], _ =>
    have e : ∀ {b : Bool} {x : Option Str} {s : Str}, (if b = true then x else some s) = none → b = true ∧ x = none := fun {b x s} z => by
      cases b
      · cases z
      · exact ⟨rfl, z⟩
    obtain ⟨h1, h⟩ := e h
    obtain ⟨h2, h⟩ := e h
    obtain ⟨h3, h⟩ := e h
    obtain ⟨h4, h⟩ := e h
    obtain ⟨h5, h⟩ := e h
    obtain ⟨h6, h⟩ := e h
    obtain ⟨h7, h⟩ := e h
    obtain ⟨h8, h⟩ := e h
    obtain ⟨n1, rfl, a1, b1⟩ := betw_nat (lo := 2) (hi := 16) h1
    obtain ⟨n3, rfl, a3, b3⟩ := betw_nat (lo := 1) (hi := 12) h3
    obtain ⟨n4, rfl, a4, b4⟩ := betw_nat (lo := 0) (hi := 4) h4
    obtain ⟨n6, rfl, a6, b6⟩ := betw_nat (lo := 0) (hi := 12) h6
    obtain ⟨c5, rfl, a5⟩ := sign_nat h5
    obtain ⟨c7, rfl, a7⟩ := sign_nat h7
    have h2' : ∃ z, v2 = .str z ∧ (z = "minus" ∨ z = "plus" ∨ z = "blank") := by
      cases v2 <;> first | (cases h2; done) | skip
      exact ⟨_, rfl, of_decide_eq_true h2⟩
    have h8' : ∃ z, v8 = .str z ∧ (z = "left" ∨ z = "right" ∨ z = "both" ∨ z = "inner") := by
      cases v8 <;> first | (cases h8; done) | skip
      exact ⟨_, rfl, of_decide_eq_true h8⟩
    obtain ⟨z2, rfl, a2⟩ := h2'
    obtain ⟨z8, rfl, a8⟩ := h8'
    exact ⟨⟨n1, z2, n3, n4, c5, n6, c7, z8⟩, ⟨a1, b1, a2, a3, b3, b4, a5, b6, a7, a8⟩, rfl⟩
theorem fm_ok {F : Fm} (h : F.Ok) : badS (setNames.zip F.vals) = none := by
  obtain ⟨b1, b2, si, l1, l2, gr, ma, wi, fi, sd⟩ := h
  have bt : ∀ {lo hi n : Nat}, lo ≤ n → n ≤ hi → isBetw lo hi (.int (n : Nat)) = true := fun {lo hi n} a b => by
    show (decide _ && decide _) = true
    rw [decide_eq_true (by omega), decide_eq_true (by omega)]
    rfl
  have e : ∀ {b : Bool} {x : Option Str} {s : Str}, b = true → x = none → (if b = true then x else some s) = none := fun {b x s} z y => by rw [if_pos z, y]
  exact e (bt b1 b2) (e (decide_eq_true si) (e (bt l1 l2) (e (bt (Nat.zero_le _) gr) (e (decide_eq_true ma) (e (bt (Nat.zero_le _) wi) (e (decide_eq_true fi) (e (decide_eq_true sd) rfl)))))))
theorem digs_nil {b n : Nat} : digs b n ≠ [] := by
  unfold digs
  cases n <;> simp [rdigs]
theorem heads_in (z : Str) : (List.lookup z ([("minus", V.str ""), ("plus", V.str "+"), ("blank", V.str " ")] : List (Str × V))).isSome = decide (z = "minus" ∨ z = "plus" ∨ z = "blank") := by
  by_cases h1 : z = "minus"
  · subst h1; decide
  by_cases h2 : z = "plus"
  · subst h2; decide
  by_cases h3 : z = "blank"
  · subst h3; decide
  rw [decide_eq_false (by simp [h1, h2, h3])]
  simp [List.lookup, beq_eq_false_iff_ne.mpr h1, beq_eq_false_iff_ne.mpr h2, beq_eq_false_iff_ne.mpr h3]
theorem sides_in (z : Str) : inV (.str z) [.str "left", .str "right", .str "both", .str "inner"] = decide (z = "left" ∨ z = "right" ∨ z = "both" ∨ z = "inner") := by
  by_cases h1 : z = "left"
  · subst h1; decide
  by_cases h2 : z = "right"
  · subst h2; decide
  by_cases h3 : z = "both"
  · subst h3; decide
  by_cases h4 : z = "inner"
  · subst h4; decide
  rw [decide_eq_false (by simp [h1, h2, h3, h4])]
  have e : ∀ y : Str, ¬ z = y → eqV (.str y) (.str z) = false := fun y n => beq_eq_false_iff_ne.mpr fun e => n e.symm
  simp [inV, e _ h1, e _ h2, e _ h3, e _ h4]

end Fg
set_option Elab.async false
set_option linter.all false
set_option maxRecDepth 100000
set_option maxHeartbeats 4000000
namespace Fg
open PySem PySem.Spec PyProof.Rows L2
local macro_rules | `(tactic| walk_at "hp") => `(tactic| first | assumption | (refine Same.get (by assumption) ?_; walk_at "hp"))
local macro_rules | `(tactic| walk_at "sq") => `(tactic| first | assumption | (exact Or.inr (by assumption)) | (exact Or.inl (by assumption)) | (exact Or.inl (SqL.of (by walk_at "hp"))) | (exact Or.inr (SqT.of (by walk_at "hp"))) | (exact SqL.of (by walk_at "hp")) | (exact SqT.of (by walk_at "hp")))
local macro_rules | `(tactic| walk_at "cl") => `(tactic| first | ((first | show (_ : Int) < _ | show (_ : Int) ≤ _); first | omega | decide) | ((first | show (_ : Nat) < _ | show (_ : Nat) ≤ _); first | with_reducible assumption | (refine sz_le ?_; first | decide | omega | (simp <;> omega)) | (refine sz_lt ?_; first | decide | omega | (simp <;> omega)) | omega | decide | ((with_reducible show List.length _ < _); exact Nat.le_of_ble_eq_true rfl)) | rfl | walk_at "hp" | walk_at "sq" | (refine And.intro (by walk_at "cl") (by walk_at "cl")) | (exact Exists.intro _ (by walk_at "hp")) | (exact Exists.intro _ (Exists.intro _ (by walk_at "hp"))) | (exact Exists.intro _ (Exists.intro _ (And.intro (by walk_at "hp") rfl))) | decide | (exact Or.inl (by walk_at "cl")) | (exact Or.inr (by walk_at "cl")) | omega)
local macro_rules | `(tactic| walk_at "s1") => `(tactic| first | refine And.intro (by walk_at "cl") ?_ | apply Exists.intro)
local macro_rules | `(tactic| walk_at "sx") => `(tactic| repeat walk_at "s1")
local macro_rules | `(tactic| walk_at "si") => `(tactic| first | refine iteY rfl ?_ | refine iteN rfl ?_)
local macro_rules | `(tactic| walk_at "sy") => `(tactic| repeat first | walk_at "s1" | walk_at "si")
/-! ### the text of an integer -/
def toVO : Option Nat → V
  | none => .non
  | some c => .str (chS c)
/-- behind the first figure: k figures are left, marks between -/
def lays (g m : Nat) : Nat → List (Option Nat)
  | 0 => []
  | k + 1 => (if 0 < g ∧ (k + 1) % g = 0 then [some m] else []) ++ none :: lays g m k
def bodyL (F : Fm) (n : Nat) : List (Option Nat) := none :: lays F.group F.mark (n - 1)
def headC (s : Str) (neg : Bool) : List Nat := if neg = true then [45] else if s = "minus" then [] else if s = "plus" then [43] else [32]
def lackL (F : Fm) (neg : Bool) (n : Nat) : Nat := F.width - (headC F.sign neg).length - (bodyL F n).length
def fillL (F : Fm) (k : Nat) : List (Option Nat) := List.replicate k (some F.fill)
def layL (F : Fm) (neg : Bool) (n : Nat) : List (Option Nat) :=
  let h := (headC F.sign neg).map some
  let b := bodyL F n
  let k := lackL F neg n
  if F.side = "left" then fillL F k ++ (h ++ b)
  else if F.side = "right" then h ++ (b ++ fillL F k)
  else if F.side = "inner" then h ++ (fillL F k ++ b)
  else fillL F (k / 2) ++ (h ++ (b ++ fillL F (k - k / 2)))
def fillIn : List (Option Nat) → List Nat → List Nat
  | none :: r, d :: ds => d :: fillIn r ds
  | none :: _, [] => []
  | some c :: r, ds => c :: fillIn r ds
  | [], _ => []
/-- the figures with zeros ahead -/
def rowN (F : Fm) (n : Nat) : List Nat := List.replicate (F.least - (digs F.base n).length) 48 ++ (digs F.base n).map figC
def codesI (F : Fm) (i : Int) : List Nat := fillIn (layL F (decide (i < 0)) (rowN F i.natAbs).length) (rowN F i.natAbs)
def textI (F : Fm) (i : Int) : Str := ⟨(codesI F i).toArray⟩
def dn : Nat → List V
  | 0 => []
  | k + 1 => .int ((k + 1 : Nat) : Int) :: dn k
theorem rgC_dn : ∀ k : Nat, rgC (k : Int) (-1) k = dn k
  | 0 => rfl
  | k + 1 => by
    rw [dn, ← rgC_dn k]
    unfold rgC
    rw [List.range_succ_eq_map, List.map_cons, List.map_map]
    refine congr (congrArg _ (by simp)) (List.map_congr_left fun i _ => ?_)
    simp only [Function.comp]
    congr 1
    push_cast
    omega
theorem lays_len (g m : Nat) : ∀ k, (lays g m k).length ≤ 2 * k
  | 0 => Nat.le_refl _
  | k + 1 => by
    have := lays_len g m k
    rw [lays]
    split <;> simp <;> omega
theorem head_len (s : Str) (neg : Bool) : (headC s neg).length ≤ 1 := by
  unfold headC
  split
  · decide
  · split
    · decide
    · split <;> decide
theorem rep_flat {k : Int} {m : Nat} (v : V) (e : k.toNat = m) : (List.replicate k.toNat [v]).flatten = List.replicate m v := by
  rw [e]
  induction m generalizing k with
  | zero => rfl
  | succ m ih => rw [List.replicate_succ, List.flatten_cons, ih (k := (m : Int)) (by simp), List.replicate_succ]; rfl
theorem cut_take {xs : List V} {k : Int} {m : Nat} (h0 : k = (m : Nat)) : cutV xs none (some k) = xs.take m := by
  subst h0
  unfold cutV
  rw [HT.sIx_none, HT.sIx_nat, List.drop_zero, Nat.sub_zero]
  rcases Nat.le_total m xs.length with h | h
  · rw [Nat.min_eq_left h]
  · rw [Nat.min_eq_right h, List.take_of_length_le (Nat.le_refl _), List.take_of_length_le h]
theorem cut_drop {xs : List V} {k : Int} {m : Nat} (h0 : k = (m : Nat)) : cutV xs (some k) none = xs.drop m := by
  subst h0
  unfold cutV
  rw [HT.sIx_none, HT.sIx_nat]
  rcases Nat.le_total m xs.length with h | h
  · rw [Nat.min_eq_left h, List.take_of_length_le (by rw [List.length_drop]; exact Nat.le_refl _)]
  · rw [Nat.min_eq_right h, List.drop_of_length_le (Nat.le_refl _), List.drop_of_length_le h, List.take_nil]
theorem body_len (F : Fm) {n : Nat} (h : 1 ≤ n) : (bodyL F n).length ≤ 2 * n := by
  have := lays_len F.group F.mark (n - 1)
  unfold bodyL
  rw [List.length_cons]
  omega
abbrev headT : List (Str × V) := [("minus", V.str ""), ("plus", V.str "+"), ("blank", V.str " ")]
theorem log_dig {b k n : Nat} (hb : 2 ≤ b) (h : n < 2 ^ (k + 1)) : ∀ f, (rdigs b f n).length ≤ k + 1 := by
  induction k generalizing n with
  | zero =>
    intro f
    have : ¬ b ≤ n := by omega
    cases f <;> simp [rdigs, this]
  | succ k ih =>
    intro f
    cases f with
    | zero => simp [rdigs]
    | succ f =>
      rw [rdigs]
      split
      · have h2 : n / b < 2 ^ (k + 1) := by
          have : n / b ≤ n / 2 := Nat.div_le_div_left hb (by decide)
          have e : 2 ^ (k + 1 + 1) = 2 ^ (k + 1) * 2 := Nat.pow_succ ..
          omega
        have := ih h2 f
        rw [List.length_cons]
        omega
      · simp
theorem digs_len {b n : Nat} (hb : 2 ≤ b) (h : n < 10 ^ 100) : (digs b n).length ≤ 400 := by
  unfold digs
  rw [List.length_reverse]
  exact Nat.le_trans (log_dig hb (k := 399) (Nat.lt_trans h (by decide)) n) (Nat.le_refl _)

end Fg
set_option Elab.async false
set_option linter.all false
set_option maxRecDepth 100000
set_option maxHeartbeats 4000000
namespace Fg
open PySem PySem.Spec PyProof.Rows L2
local macro_rules | `(tactic| walk_at "hp") => `(tactic| first | assumption | (refine Same.get (by assumption) ?_; walk_at "hp"))
local macro_rules | `(tactic| walk_at "sq") => `(tactic| first | assumption | (exact Or.inr (by assumption)) | (exact Or.inl (by assumption)) | (exact Or.inl (SqL.of (by walk_at "hp"))) | (exact Or.inr (SqT.of (by walk_at "hp"))) | (exact SqL.of (by walk_at "hp")) | (exact SqT.of (by walk_at "hp")))
local macro_rules | `(tactic| walk_at "cl") => `(tactic| first | ((first | show (_ : Int) < _ | show (_ : Int) ≤ _); first | omega | decide) | ((first | show (_ : Nat) < _ | show (_ : Nat) ≤ _); first | with_reducible assumption | (refine sz_le ?_; first | decide | omega | (simp <;> omega)) | (refine sz_lt ?_; first | decide | omega | (simp <;> omega)) | omega | decide | ((with_reducible show List.length _ < _); exact Nat.le_of_ble_eq_true rfl)) | rfl | walk_at "hp" | walk_at "sq" | (refine And.intro (by walk_at "cl") (by walk_at "cl")) | (exact Exists.intro _ (by walk_at "hp")) | (exact Exists.intro _ (Exists.intro _ (by walk_at "hp"))) | (exact Exists.intro _ (Exists.intro _ (And.intro (by walk_at "hp") rfl))) | decide | (exact Or.inl (by walk_at "cl")) | (exact Or.inr (by walk_at "cl")) | omega)
local macro_rules | `(tactic| walk_at "s1") => `(tactic| first | refine And.intro (by walk_at "cl") ?_ | apply Exists.intro)
local macro_rules | `(tactic| walk_at "sx") => `(tactic| repeat walk_at "s1")
local macro_rules | `(tactic| walk_at "si") => `(tactic| first | refine iteY rfl ?_ | refine iteN rfl ?_)
local macro_rules | `(tactic| walk_at "sy") => `(tactic| repeat first | walk_at "s1" | walk_at "si")
section
variable {P : Program} {w : World} {K : PySem.W.Frag} {mg : Str → Option Value} {base : Heap} {A : Ad}
def sp_figures_of : Sp := s2 fun a b H Q _ => ∃ n m : Nat, a = .int (n : Nat) ∧ b = .int (m : Nat) ∧ 2 ≤ m ∧ m ≤ 16 ∧ n < 10 ^ 100 ∧ ∀ p H', H p = none → Same H H' → H' p = some (.lst ((digs m n).map fun (d : Nat) => .int d)) → Q (.ref p) H'
theorem ok_figures_of (T : Txt w K mg A) : Callee P w K mg base 1 "figures_of" ["size", "base"] sp_figures_of := by
  refine callee_of T.F_figures_of sc_figures_of (fun _ _ _ _ _ _ us hl => match us, hl with | [_, _], _ => rfl) (fun vs H Q E h => ?_) (fun f cdv Ar outer s H vs Q E hr tk po h => ?_)
  · obtain ⟨_, _, rfl, _⟩ := s2_len h
    rfl
  · obtain ⟨a, b, rfl, n, m, rfl, rfl, h1, h2, h3, q⟩ := s2_len h
    refine ⟨_, (pss_cons (ps_set (i := 2) sc_figures_of.nd rfl (Or.inl rfl) (fe_lst (pa_cons (pe_op f_mod (fv 0) (fv 1)) pa_nil)))
      (pss_cons (fs_while po (ft_cmp f_ge (fv 0) (fv 1) (nomark _)) (pss_cons (ps_set (i := 0) sc_figures_of.nd rfl (Or.inl rfl) (pe_op f_fdiv (fv 0) (fv 1)))
      (pss_one (ps_expr (fe_append (fv 2) (pe_op f_mod (fv 0) (fv 1)))))))
      (pss_one (ps_ret (fe_revL (fv 2)))))), ?_⟩
    walk_at "sx"
    intro p H1 np e1 h1'
    walk_at "sx"
    have hlen : (rdigs m n n).length ≤ 400 := by
      have := digs_len h1 h3
      unfold digs at this
      rwa [List.length_reverse] at this
    refine Wh.by (fun z σ H2 => ∃ (acc : List Nat) (k : Nat), z ≤ k + 1 ∧ σ = [some (.int (z : Nat)), some (.int m), some (.ref p)] ∧ H2 p = some (.lst (acc.map fun (d : Nat) => .int d)) ∧ Same H H2 ∧ acc ++ (if m ≤ z then rdigs m k (z / m) else []) = rdigs m n n) n ?_ ?_
    · refine ⟨[n % m], n - 1, by omega, rfl, h1', e1, ?_⟩
      cases n with
      | zero =>
        have : ¬ m ≤ 0 := by omega
        simp [rdigs, this]
      | succ n => rfl
    · rintro z σ H2 ⟨acc, k, hk, rfl, hp, e2, ha⟩
      walk_at "sx"
      refine iteD (fun c => ?_) (fun c => ?_)
      · have c' : m ≤ z := by omega
        rw [if_pos c'] at ha
        have hz : z / m ≤ z / 2 := Nat.div_le_div_left h1 (by decide)
        have hlt : z / m < z := by omega
        obtain ⟨k', rfl⟩ : ∃ k', k = k' + 1 := ⟨k - 1, by omega⟩
        rw [rdigs] at ha
        have hl2 : acc.length ≤ 400 := by
          rw [← ha, List.length_append] at hlen
          omega
        have m0 : CDv z m := ⟨by omega, by omega⟩
        walk_at "sx"
        intro H3 b3 h3'
        refine ⟨z / m, hlt, acc ++ [(z / m) % m], k', by omega, rfl, ?_, Same.but e2 np b3, ?_⟩
        · rw [h3', List.map_append]
          rfl
        · rw [List.append_assoc]
          exact ha
      · have c' : ¬ m ≤ z := by omega
        rw [if_neg c', List.append_nil] at ha
        walk_at "sx"
        intro p2 H3 np2 e3 h3'
        refine q p2 H3 ?_ (e2.trans e3) ?_
        · cases hh : H p2 with
          | none => rfl
          | some o => rw [e2 _ _ hh] at np2; cases np2
        · rw [h3', ← List.map_reverse, ha]
          rfl
def sp_is_setting (K : PySem.W.Frag) : Sp := s2 fun a b H Q _ => ∃ s, a = .str s ∧ s ∈ setNames ∧ AnyV K H b ∧ ∀ H', Same H H' → Q (.bl (okS s b)) H'
theorem ok_is_setting (T : Txt w K mg A) : Callee P w K mg base 3 "is_setting" ["setting", "value"] (sp_is_setting K) := by
  refine callee_of T.F_is_setting sc_is_setting (fun _ _ _ _ _ _ us hl => match us, hl with | [_, _], _ => rfl) (fun vs H Q E h => ?_) (fun f cdv Ar outer s H vs Q E hr tk po h => ?_)
  · obtain ⟨_, _, rfl, _⟩ := s2_len h
    rfl
  · obtain ⟨a, b, rfl, s, rfl, h1, h2, q⟩ := s2_len h
    refine ⟨_, (pss_cons (ps_if (ft_cmp f_inQ (fv 0) (fe_tup (pa_cons pe_str (pa_cons pe_str pa_nil))) (by rfl)) (pss_one (ps_ret (fc_call (ok_is_sign T) hr (by decide) (by rfl) tk (pa_cons (fv 1) pa_nil)))) pss_nil)
      (pss_cons (ps_if (ft_cmp f_eq (fv 0) pe_str (nomark _)) (pss_one (ps_ret (pe_and (pe_callB f_isstr (by rfl) T.b_isinstance (by decide +kernel) (pa_cons (fv 1) (pa_cons (pe_bltn (v := .ty "str") (by rfl) T.b_str (by decide +kernel) rfl) pa_nil))) (pe_one (pe_cmpR (f_inK T.d_HEADS) (fv 1) (fe_g (by rfl) T.g_HEADS) (by rfl)))))) pss_nil)
      (pss_cons (ps_if (ft_cmp f_eq (fv 0) pe_str (nomark _)) (pss_one (ps_ret (pe_and (pe_callB f_isstr (by rfl) T.b_isinstance (by decide +kernel) (pa_cons (fv 1) (pa_cons (pe_bltn (v := .ty "str") (by rfl) T.b_str (by decide +kernel) rfl) pa_nil))) (pe_one (pe_cmpR f_inQ (fv 1) (fe_g (by rfl) T.g_SIDES) (by rfl)))))) pss_nil)
      (pss_cons (ps_if (ft_cmp f_eq (fv 0) pe_str (nomark _)) (pss_one (ps_ret (fc_call (ok_is_between T) hr (by decide) (by rfl) tk (pa_cons (fv 1) (pa_cons pe_int (pa_cons (pe_callB f_len (by rfl) T.b_len (by decide +kernel) (pa_cons (fe_g (by rfl) T.g_FIGURES) pa_nil)) pa_nil)))))) pss_nil)
      (pss_cons (ps_if (ft_cmp f_eq (fv 0) pe_str (nomark _)) (pss_one (ps_ret (fc_call (ok_is_between T) hr (by decide) (by rfl) tk (pa_cons (fv 1) (pa_cons pe_int (pa_cons (fe_g (by rfl) T.g_MOST_GROUP) pa_nil)))))) pss_nil)
      (pss_one (ps_ret (fc_call (ok_is_between T) hr (by decide) (by rfl) tk (pa_cons (fv 1) (pa_cons (pe_ifExp (ft_cmp f_eq (fv 0) pe_str (nomark _)) pe_int pe_int) (pa_cons (fe_g (by rfl) T.g_MOST_WIDTH) pa_nil))))))))))), ?_⟩
    have same : ∀ {H1}, Same H H1 → AnyV K H1 b := fun s => AnyV.same s h2
    simp only [setNames, List.mem_cons, List.not_mem_nil, or_false] at h1
    rcases h1 with rfl | rfl | rfl | rfl | rfl | rfl | rfl | rfl
    all_goals
      walk_at "sx"
      intro p H1 np e1 h1'
      have a1 := same e1
      walk_at "sy"
    · exact q _ e1
    · cases b <;> first | exact h2.elim | skip
      case str z =>
        walk_at "sy"
        have q' := q _ e1
        rw [show okS "sign" (.str z) = decide (z = "minus" ∨ z = "plus" ∨ z = "blank") from rfl, ← heads_in] at q'
        exact q'
      case ref r =>
        have a2 := a1.2
        walk_at "sy"
        exact q _ e1
      all_goals
        walk_at "sy"
        exact q _ e1
    · exact q _ e1
    · exact q _ e1
    · exact q _ e1
    · exact q _ e1
    · exact q _ e1
    · cases b <;> first | exact h2.elim | skip
      case str z =>
        have ts := T.t_SIDES H1
        walk_at "sy"
        have q' := q _ e1
        rw [show okS "side" (.str z) = decide (z = "left" ∨ z = "right" ∨ z = "both" ∨ z = "inner") from rfl, ← sides_in] at q'
        exact q'
      case ref r =>
        have a2 := a1.2
        walk_at "sy"
        exact q _ e1
      all_goals
        walk_at "sy"
        exact q _ e1
end
section
variable {P : Program} {w : World} {K : PySem.W.Frag} {mg : Str → Option Value} {base : Heap} {A : Ad}
def sp_settings_text (K : PySem.W.Frag) : Sp := s1 fun a H Q _ => ∃ t F, a = .ref t ∧ SqT K H t (Fm.vals F) ∧ F.Ok ∧ ∀ H', Same H H' → Q (.str F.words) H'
/-- a pair of a setting and its value, told as words l -/
def PairS (p : V × V) (l : List Str) : Prop := ∃ s, p.1 = .str s ∧ s.length ≤ 10 ∧ ((inV (.str s) [.str "mark", .str "fill"] = true ∧ ∃ c, c ∈ printL ∧ p.2 = .str (chS c) ∧ l = [s, toString (c : Int)]) ∨
  (inV (.str s) [.str "mark", .str "fill"] = false ∧ ((∃ z, p.2 = .str z ∧ z.length ≤ 10 ∧ l = [s, z]) ∨ ∃ n : Nat, p.2 = .int (n : Nat) ∧ n ≤ 100 ∧ l = [s, toString (n : Int)])))
def PairsS : List (V × V) → List Str → Prop
  | [], l => l = []
  | p :: r, l => ∃ l1 l2, l = l1 ++ l2 ∧ PairS p l1 ∧ PairsS r l2
theorem pairs_fm {F : Fm} (h : F.Ok) : PairsS ((setNames.map V.str).zip F.vals) F.said := by
  obtain ⟨b1, b2, si, l1, l2, gr, ma, wi, fi, sd⟩ := h
  have n1 : F.sign.length ≤ 10 := by rcases si with e | e | e <;> rw [e] <;> decide
  have n2 : F.side.length ≤ 10 := by rcases sd with e | e | e | e <;> rw [e] <;> decide
  have mk : ∀ (s : Str) (c : Nat), inV (.str s) [.str "mark", .str "fill"] = true → s.length ≤ 10 → c ∈ printL → PairS (.str s, .str (chS c)) [s, toString (c : Int)] := fun s c a b d => ⟨s, rfl, b, .inl ⟨a, c, d, rfl, rfl⟩⟩
  have mi : ∀ (s : Str) (n : Nat), inV (.str s) [.str "mark", .str "fill"] = false → s.length ≤ 10 → n ≤ 100 → PairS (.str s, .int (n : Nat)) [s, toString (n : Int)] := fun s n a b d => ⟨s, rfl, b, .inr ⟨a, .inr ⟨n, rfl, d, rfl⟩⟩⟩
  have ms : ∀ (s z : Str), inV (.str s) [.str "mark", .str "fill"] = false → s.length ≤ 10 → z.length ≤ 10 → PairS (.str s, .str z) [s, z] := fun s z a b d => ⟨s, rfl, b, .inr ⟨a, .inl ⟨z, rfl, d, rfl⟩⟩⟩
  exact ⟨_, _, rfl, mi _ _ (by decide) (by decide) (by omega), _, _, rfl, ms _ _ (by decide) (by decide) n1, _, _, rfl, mi _ _ (by decide) (by decide) (by omega), _, _, rfl, mi _ _ (by decide) (by decide) (by omega),
    _, _, rfl, mk _ _ (by decide) (by decide) ma, _, _, rfl, mi _ _ (by decide) (by decide) (by omega), _, _, rfl, mk _ _ (by decide) (by decide) fi, _, _, rfl, ms _ _ (by decide) (by decide) n2, rfl⟩
theorem print_lt {c : Nat} (h : c ∈ printL) : c < 127 := List.mem_range.mp (List.mem_filter.mp h).1
theorem toS_len (n : Nat) (h : n < 1000) : ((toString (n : Int) : String) : Str).length ≤ 10 := by
  have : ∀ n : Fin 1000, ((toString ((n : Nat) : Int) : String) : Str).length ≤ 10 := by decide +kernel
  exact this ⟨n, h⟩
theorem sum_short : ∀ (l : List Str), (∀ z ∈ l, z.length ≤ 10) → (l.map (·.length)).sum ≤ 10 * l.length
  | [], _ => Nat.le_refl _
  | a :: r, h => by
    have h1 := h a (List.mem_cons_self ..)
    have h2 := sum_short r fun z hz => h z (List.mem_cons_of_mem _ hz)
    simp only [List.map_cons, List.sum_cons, List.length_cons]
    omega
theorem ok_settings_text (T : Txt w K mg A) : Callee P w K mg base 2 "settings_text" ["values"] (sp_settings_text K) := by
  refine callee_of T.F_settings_text sc_settings_text (fun _ _ _ _ _ _ us hl => match us, hl with | [_], _ => rfl) (fun vs H Q E h => ?_) (fun f cdv Ar outer s H vs Q E hr tk po h => ?_)
  · obtain ⟨_, rfl, _⟩ := s1_len h
    rfl
  · obtain ⟨a, rfl, t, F, rfl, ht, ok, q⟩ := s1_len h
    refine ⟨_, (pss_cons (ps_set (i := 1) sc_settings_text.nd rfl (Or.inl rfl) (fe_lst pa_nil))
      (pss_cons (fs_forZ po rfl (by rfl) T.b_zip (pa_cons (fe_g (by rfl) T.g_SETTINGS) (pa_cons (fv 0) pa_nil)) (pg_tup rfl (pgs_cons (pg_name (i := 2) sc_settings_text.nd rfl (Or.inl rfl)) (pgs_cons (pg_name (i := 3) sc_settings_text.nd rfl (Or.inl rfl)) pgs_nil))) (pss_cons (ps_expr (fe_append (fv 1) (fv 2)))
      (pss_one (ps_expr (fe_append (fv 1) (pe_ifExp (ft_cmp f_inQ (fv 2) (fe_tup (pa_cons pe_str (pa_cons pe_str pa_nil))) (by rfl)) (pe_joined1 (fe_fmt (fc_call (ok_code_of T) hr (by decide) (by rfl) tk (pa_cons (fv 3) pa_nil)))) (pe_joined1 (fe_fmt (fv 3)))))))))
      (pss_one (ps_ret (fe_sm1 PySem.F.slot_str_join PySem.F.type_str_join f_join pe_str (fv 1)))))), ?_⟩
    walk_at "sx"
    intro p H1 np e1 h1'
    have ts := T.t_SETTINGS H1
    have t1 := SqT.same e1 ht
    walk_at "sx"
    refine LoopZ.by (fun rest σ H2 => ∃ (acc l : List Str), ∃ a1 a2, σ = [some (.ref t), some (.ref p), a1, a2] ∧ H2 p = some (.lst (acc.map V.str)) ∧ Same H H2 ∧ (acc.length + 2 * rest.length ≤ 16 ∧ (∀ z ∈ acc, z.length ≤ 10)) ∧ PairsS rest l ∧
      acc ++ l = F.said) ?_ ?_ _ _ _ ?_
    · rintro ⟨x, y⟩ r σ H2 ⟨acc, l, a1, a2, rfl, hp, s2, ⟨len, short⟩, ⟨l1, l2, rfl, ⟨s, rfl, sl, hc⟩, hr⟩, hl⟩ N hN TT H3 nT s3 hT
      rw [List.length_cons] at len
      have hp3 := s3 _ _ hp
      have nTp : TT ≠ p := (ne_of_none hp nT).symm
      have sT := s2.trans s3
      walk_at "sx"
      intro H4 b4 h4
      have s4 : Same H H4 := Same.but sT np b4
      walk_at "sx"
      intro p2 H5 n5 s5 h5
      have s45 : Same H H5 := s4.trans s5
      have h5p := s5 _ _ h4
      walk_at "sx"
      have fin : ∀ (x : Str) H6, x.length ≤ 10 → But p H5 H6 → H6 p = some (.lst (acc.map V.str ++ [.str s] ++ [.str x])) → l1 = [s, x] → N [some (.ref t), some (.ref p), some (.str s), some y] H6 := fun x H6 lx b6 h6 el => by
        have s6 : Same H H6 := Same.but s45 np b6
        refine hN _ _ ⟨T.t_SETTINGS H6, SqT.same s6 ht⟩ ⟨acc ++ [s] ++ [x], l2, _, _, rfl, ?_, s6, ⟨?_, ?_⟩, hr, ?_⟩
        · rw [h6]; simp
        · simp only [List.length_append, List.length_singleton]; omega
        · intro z hz
          simp only [List.mem_append, List.mem_singleton] at hz
          rcases hz with (hz | rfl) | rfl
          · exact short z hz
          · exact sl
          · exact lx
        · rw [← hl, el]; simp
      rcases hc with ⟨em, c, cp, ey, el⟩ | ⟨em, hc⟩
      · cases ey
        refine iteY em ?_
        have lt := print_lt cp
        have lg : (c : Int).natAbs.log2 < 1920 := Nat.lt_of_le_of_lt (log_le (k := 8) (by omega)) (by decide)
        walk_at "sx"
        intro H6 b6 h6
        exact fin _ H6 (toS_len c (by omega)) b6 h6 el
      · refine iteN em ?_
        rcases hc with ⟨z, ey, lz, el⟩ | ⟨n, ey, ln, el⟩
        · cases ey
          have lz' : z.length ≤ sizeLine := Nat.le_trans lz (sz_le (by decide))
          walk_at "sx"
          intro H6 b6 h6
          exact fin _ H6 lz b6 h6 el
        · cases ey
          have lg : (n : Int).natAbs.log2 < 1920 := Nat.lt_of_le_of_lt (log_le (k := 8) (by omega)) (by decide)
          walk_at "sx"
          intro H6 b6 h6
          exact fin _ H6 (toS_len n (by omega)) b6 h6 el
    · rintro σ H2 ⟨acc, l, a1, a2, rfl, hp, s2, ⟨len, short⟩, rfl, hl⟩
      rw [List.append_nil] at hl
      have bound : (acc.map (·.length)).sum + acc.length * (" " : Str).length ≤ 16777216 := by
        rw [show (" " : Str).length = 1 by decide]
        have := sum_short acc short
        have : acc.length ≤ 16 := len
        omega
      have q' := q H2 s2
      rw [Fm.words, ← hl] at q'
      clear hl short len
      walk_at "sx"
      exact q'
    · exact ⟨[], F.said, none, none, rfl, h1', e1, ⟨by simp [setNames, Fm.vals], by simp⟩, pairs_fm ok, rfl⟩
end

end Fg
set_option Elab.async false
set_option linter.all false
set_option maxRecDepth 100000
set_option maxHeartbeats 4000000
namespace Fg
open PySem PySem.Spec PyProof.Rows L2
local macro_rules | `(tactic| walk_at "hp") => `(tactic| first | assumption | (refine Same.get (by assumption) ?_; walk_at "hp"))
local macro_rules | `(tactic| walk_at "sq") => `(tactic| first | assumption | (exact Or.inr (by assumption)) | (exact Or.inl (by assumption)) | (exact Or.inl (SqL.of (by walk_at "hp"))) | (exact Or.inr (SqT.of (by walk_at "hp"))) | (exact SqL.of (by walk_at "hp")) | (exact SqT.of (by walk_at "hp")))
local macro_rules | `(tactic| walk_at "cl") => `(tactic| first | ((first | show (_ : Int) < _ | show (_ : Int) ≤ _); first | omega | decide) | ((first | show (_ : Nat) < _ | show (_ : Nat) ≤ _); first | with_reducible assumption | (refine sz_le ?_; first | decide | omega | (simp <;> omega)) | (refine sz_lt ?_; first | decide | omega | (simp <;> omega)) | omega | decide | ((with_reducible show List.length _ < _); exact Nat.le_of_ble_eq_true rfl)) | rfl | walk_at "hp" | walk_at "sq" | (refine And.intro (by walk_at "cl") (by walk_at "cl")) | (exact Exists.intro _ (by walk_at "hp")) | (exact Exists.intro _ (Exists.intro _ (by walk_at "hp"))) | (exact Exists.intro _ (Exists.intro _ (And.intro (by walk_at "hp") rfl))) | decide | (exact Or.inl (by walk_at "cl")) | (exact Or.inr (by walk_at "cl")) | omega)
local macro_rules | `(tactic| walk_at "s1") => `(tactic| first | refine And.intro (by walk_at "cl") ?_ | apply Exists.intro)
local macro_rules | `(tactic| walk_at "sx") => `(tactic| repeat walk_at "s1")
local macro_rules | `(tactic| walk_at "si") => `(tactic| first | refine iteY rfl ?_ | refine iteN rfl ?_)
local macro_rules | `(tactic| walk_at "sy") => `(tactic| repeat first | walk_at "s1" | walk_at "si")
theorem figS_at : ∀ d : Fin 16, figS.cps.toList[d.val]? = some (figC d.val) := by decide +kernel
theorem figS_ix {d : Nat} (h : d < 16) : atI figS.cps.toList ((d : Nat) : Int) = some (figC d) := by
  have e : ∀ d : Fin 16, atI figS.cps.toList ((d.val : Nat) : Int) = some (figC d.val) := by decide +kernel
  exact e ⟨d, h⟩
theorem rdigs_lt {b : Nat} (hb : 0 < b) : ∀ (k n : Nat), ∀ d ∈ rdigs b k n, d < b
  | 0, n, d, h => by
    rw [rdigs, List.mem_singleton] at h
    rw [h]; exact Nat.mod_lt _ hb
  | k + 1, n, d, h => by
    rw [rdigs] at h
    rcases List.mem_cons.mp h with h | h
    · rw [h]; exact Nat.mod_lt _ hb
    · split at h
      · exact rdigs_lt hb k _ d h
      · cases h
theorem digs_lt {b n : Nat} (hb : 0 < b) {d : Nat} (h : d ∈ digs b n) : d < b := rdigs_lt hb n n d (List.mem_reverse.mp h)
def need : List (Option Nat) → Nat
  | [] => 0
  | none :: r => need r + 1
  | some _ :: r => need r
theorem need_app : ∀ x y : List (Option Nat), need (x ++ y) = need x + need y
  | [], y => by simp [need]
  | none :: r, y => by
    have := need_app r y
    simp only [List.cons_append, need]
    omega
  | some _ :: r, y => need_app r y
theorem need_lays (g m : Nat) : ∀ k, need (lays g m k) = k
  | 0 => rfl
  | k + 1 => by
    have := need_lays g m k
    rw [lays, need_app]
    have e : need (if 0 < g ∧ (k + 1) % g = 0 then [some m] else []) = 0 := by split <;> rfl
    rw [e]
    show 0 + (need (lays g m k) + 1) = k + 1
    omega
theorem need_some : ∀ l : List Nat, need (l.map some) = 0
  | [] => rfl
  | _ :: r => need_some r
theorem need_fill (F : Fm) : ∀ k, need (fillL F k) = 0 := fun k => by
  unfold fillL
  induction k with
  | zero => rfl
  | succ k ih => rw [List.replicate_succ]; exact ih
theorem need_body (F : Fm) {n : Nat} (h : 1 ≤ n) : need (bodyL F n) = n := by
  show need (lays _ _ _) + 1 = n
  rw [need_lays]; omega
theorem need_lay (F : Fm) (neg : Bool) {n : Nat} (h : 1 ≤ n) : need (layL F neg n) = n := by
  unfold layL
  dsimp only
  split
  · simp [need_app, need_fill, need_some, need_body F h]
  · split
    · simp [need_app, need_fill, need_some, need_body F h]
    · split <;> simp [need_app, need_fill, need_some, need_body F h]
theorem lay_len (F : Fm) (ok : F.Ok) (neg : Bool) {n : Nat} (h : 1 ≤ n) : (layL F neg n).length ≤ 2 * n + 13 := by
  have h1 := body_len F h
  have h2 := head_len F.sign neg
  have h3 : lackL F neg n ≤ 12 := by have := ok.wi; unfold lackL; omega
  have h4 : ∀ k, (fillL F k).length = k := fun k => by simp [fillL]
  unfold layL
  dsimp only
  split
  · simp only [List.length_append, h4, List.length_map]; omega
  · split
    · simp only [List.length_append, h4, List.length_map]; omega
    · split
      · simp only [List.length_append, h4, List.length_map]; omega
      · simp only [List.length_append, h4, List.length_map]; omega
theorem fillIn_len : ∀ (l : List (Option Nat)) (ds : List Nat), (fillIn l ds).length ≤ l.length
  | [], ds => by simp [fillIn]
  | none :: r, [] => by simp [fillIn]
  | none :: r, d :: ds => by
    have := fillIn_len r ds
    simp only [fillIn, List.length_cons]; omega
  | some c :: r, ds => by
    have := fillIn_len r ds
    simp only [fillIn, List.length_cons]; omega
/-- an integer that is not too great -/
def SmI (i : Int) : Prop := i.natAbs < 10 ^ 100
theorem row_len (F : Fm) (ok : F.Ok) {n : Nat} (h : n < 10 ^ 100) : (rowN F n).length ≤ 412 ∧ 1 ≤ (rowN F n).length := by
  have h1 := digs_len ok.b1 h
  have h2 : 1 ≤ (digs F.base n).length := List.length_pos_iff.mpr digs_nil
  have := ok.l2
  unfold rowN
  rw [List.length_append, List.length_replicate, List.length_map]
  omega
theorem str_app (a b : Str) : (a ++ b : Str) = ⟨a.cps ++ b.cps⟩ := rfl
theorem join_chS (l : List Nat) : Txt.join "" (l.map chS) = ⟨l.toArray⟩ := by
  unfold Txt.join
  rw [StrLaws.glued_eq_join]
  induction l with
  | nil => rfl
  | cons a r ih =>
    cases r with
    | nil => rfl
    | cons b r =>
      show chS a ++ "" ++ Str.join "" ((b :: r).map chS) = _
      rw [ih, str_app, str_app]
      congr 1
      apply Array.toList_inj.mp
      simp [chS, show ("" : Str).cps = #[] from rfl]
/-- the settings as a dict -/
def Fm.kvs (F : Fm) : List (Key × V) := [(Sum.inr "base", .int F.base), (Sum.inr "sign", .str F.sign), (Sum.inr "least", .int F.least), (Sum.inr "group", .int F.group), (Sum.inr "mark", .str (chS F.mark)), (Sum.inr "width", .int F.width), (Sum.inr "fill", .str (chS F.fill)), (Sum.inr "side", .str F.side)]

end Fg
set_option Elab.async false
set_option linter.all false
set_option maxRecDepth 100000
set_option maxHeartbeats 4000000
namespace Fg
open PySem PySem.Spec PyProof.Rows L2
local macro_rules | `(tactic| walk_at "hp") => `(tactic| first | assumption | (refine Same.get (by assumption) ?_; walk_at "hp"))
local macro_rules | `(tactic| walk_at "sq") => `(tactic| first | assumption | (exact Or.inr (by assumption)) | (exact Or.inl (by assumption)) | (exact Or.inl (SqL.of (by walk_at "hp"))) | (exact Or.inr (SqT.of (by walk_at "hp"))) | (exact SqL.of (by walk_at "hp")) | (exact SqT.of (by walk_at "hp")))
local macro_rules | `(tactic| walk_at "cl") => `(tactic| first | ((first | show (_ : Int) < _ | show (_ : Int) ≤ _); first | omega | decide) | ((first | show (_ : Nat) < _ | show (_ : Nat) ≤ _); first | with_reducible assumption | (refine sz_le ?_; first | decide | omega | (simp <;> omega)) | (refine sz_lt ?_; first | decide | omega | (simp <;> omega)) | omega | decide | ((with_reducible show List.length _ < _); exact Nat.le_of_ble_eq_true rfl)) | rfl | walk_at "hp" | walk_at "sq" | (refine And.intro (by walk_at "cl") (by walk_at "cl")) | (exact Exists.intro _ (by walk_at "hp")) | (exact Exists.intro _ (Exists.intro _ (by walk_at "hp"))) | (exact Exists.intro _ (Exists.intro _ (And.intro (by walk_at "hp") rfl))) | decide | (exact Or.inl (by walk_at "cl")) | (exact Or.inr (by walk_at "cl")) | omega)
local macro_rules | `(tactic| walk_at "s1") => `(tactic| first | refine And.intro (by walk_at "cl") ?_ | apply Exists.intro)
local macro_rules | `(tactic| walk_at "sx") => `(tactic| repeat walk_at "s1")
local macro_rules | `(tactic| walk_at "si") => `(tactic| first | refine iteY rfl ?_ | refine iteN rfl ?_)
local macro_rules | `(tactic| walk_at "sy") => `(tactic| repeat first | walk_at "s1" | walk_at "si")
/-! ### == and != of lists whose items are equal or identical -/
def EqW (K : PySem.W.Frag) (H : Hp) : Nat → V → V → Prop
  | 0 => fun _ _ => False
  | n + 1 => fun x y => (x = y ∧ flatB x = true) ∨ (∃ a, x = .ref a ∧ y = .ref a) ∨ (∃ a b xs ys, x = .ref a ∧ y = .ref b ∧ SqL K H a xs ∧ SqL K H b ys ∧ Paired (EqW K H n) xs ys) ∨
    (∃ a b xs ys, x = .ref a ∧ y = .ref b ∧ SqT K H a xs ∧ SqT K H b ys ∧ Paired (EqW K H n) xs ys)
theorem paired_at {A : Around} {s : Shared} {F : V → V → Prop} (ih : ∀ x y v u, F x y → RelV x v → RelV y u → SeqAt.EqAt A s v u true) {xs ys : List V} (hp : Paired F xs ys) :
    ∀ {us ws : List Value}, L2.Vals xs us → L2.Vals ys ws → ∀ j (h1 : j < us.length) (h2 : j < ws.length), SeqAt.EqAt A s us[j] ws[j] true := by
  induction hp with
  | nil =>
    intro us ws r1 _ j h1
    cases r1
    exact absurd h1 (Nat.not_lt_zero j)
  | cons f _ rest =>
    intro us ws r1 r2 j h1 h2
    cases r1 with
    | cons p1 q1 =>
      cases r2 with
      | cons p2 q2 =>
        match j with
        | 0 => exact ih _ _ _ _ f p1 p2
        | j + 1 => exact rest q1 q2 j (Nat.lt_of_succ_lt_succ h1) (Nat.lt_of_succ_lt_succ h2)
theorem all_true (n : Nat) : ((List.range n).all fun _ => true) = true := List.all_eq_true.mpr fun _ _ => rfl
section
variable {X : Cx} {pins : List (Addr × Obj)} {σ : L2.St} {H : Hp} {s : Shared}
theorem eqW_at (J : Inv X pins σ H s) : ∀ (n : Nat) (A : Around), A.units + n < cLine → ∀ (x y : V) (v u : Value), EqW X.K H n x y → RelV x v → RelV y u → SeqAt.EqAt A s v u true
  | 0, _, _, _, _, _, _, h, _, _ => h.elim
  | n + 1, A, hu, x, y, v, u, h, rx, ry => by
    rcases h with ⟨rfl, f⟩ | ⟨a, rfl, rfl⟩ | ⟨a, b, xs, ys, rfl, rfl, ha, hb, hp⟩ | ⟨a, b, xs, ys, rfl, rfl, ha, hb, hp⟩
    · exact eqAt_same rx ry f
    · cases rx
      cases ry
      exact SeqAt.EqAt.same _
    · cases rx
      cases ry
      by_cases e : a = b
      · subst e
        exact SeqAt.EqAt.same _
      obtain ⟨us, r1, p1, _⟩ := J.list ha
      obtain ⟨ws, r2, p2, _⟩ := J.list hb
      have hsz : us.toArray.size = ws.toArray.size := by rw [List.size_toArray, List.size_toArray, ← r1.length, ← r2.length]; exact Paired.length hp
      have z := SeqAt.RcAt.lists (A := A) (e := fun _ => true) p1.isList p2.isList hsz (by omega) fun j h1 h2 => by
        have k := paired_at (eqW_at J n A.in1 (by show A.units + 1 + n < cLine; omega)) hp r1 r2 j (by simpa using h1) (by simpa using h2)
        simpa using k
      rw [all_true] at z
      exact SeqAt.EqAt.of_refs e z
    · cases rx
      cases ry
      by_cases e : a = b
      · subst e
        exact SeqAt.EqAt.same _
      obtain ⟨us, r1, p1, _⟩ := J.tuple ha
      obtain ⟨ws, r2, p2, _⟩ := J.tuple hb
      have hsz : us.toArray.size = ws.toArray.size := by rw [List.size_toArray, List.size_toArray, ← r1.length, ← r2.length]; exact Paired.length hp
      have z := SeqAt.RcAt.tuples (A := A) (e := fun _ => true) p1 p2 (by omega) fun j h1 h2 => by
        have k := paired_at (eqW_at J n A.in1 (by show A.units + 1 + n < cLine; omega)) hp r1 r2 j (by simpa using h1) (by simpa using h2)
        simpa using k
      rw [all_true, hsz] at z
      simp only [beq_self_eq_true, Bool.and_self] at z
      exact SeqAt.EqAt.of_refs e z
/-- a == b, a != b: two lists of equal items -/
def fEqL (K : PySem.W.Frag) (r : Bool) : R2 := fun x y H Q => match x, y with
  | .ref a, .ref b => ∃ xs ys, SqL K H a xs ∧ SqL K H b ys ∧ Paired (EqW K H 20) xs ys ∧ Q (.bl r) H
  | _, _ => False
theorem f_eqL (hu : X.A.units + 64 < cLine) : OpR X (compareOp .Eq) (fEqL X.K true) := by
  intro pins s σ H x y v u Q J rx ry h
  unfold fEqL at h
  split at h
  · obtain ⟨xs, ys, ha, hb, hp, q⟩ := h
    cases rx
    cases ry
    obtain ⟨us, r1, p1, _⟩ := J.list ha
    obtain ⟨ws, r2, p2, _⟩ := J.list hb
    have hsz : us.toArray.size = ws.toArray.size := by rw [List.size_toArray, List.size_toArray, ← r1.length, ← r2.length]; exact Paired.length hp
    refine SeqAt.eq_listAt (e := fun _ => true) p1.isList p2.isList hsz (by omega) (fun j h1 h2 => ?_) ?_
    · have k := paired_at (eqW_at J 20 X.A.in1 (by show X.A.units + 1 + 20 < cLine; omega)) hp r1 r2 j (by simpa using h1) (by simpa using h2)
      simpa using k
    · rw [all_true]
      exact ⟨.bl true, H, J, rfl, q⟩
  · exact h.elim
theorem f_neL (hu : X.A.units + 64 < cLine) : OpR X (compareOp .NotEq) (fEqL X.K false) := by
  intro pins s σ H x y v u Q J rx ry h
  unfold fEqL at h
  split at h
  · obtain ⟨xs, ys, ha, hb, hp, q⟩ := h
    cases rx
    cases ry
    obtain ⟨us, r1, p1, _⟩ := J.list ha
    obtain ⟨ws, r2, p2, _⟩ := J.list hb
    have hsz : us.toArray.size = ws.toArray.size := by rw [List.size_toArray, List.size_toArray, ← r1.length, ← r2.length]; exact Paired.length hp
    refine SeqAt.RcNeAt.lists (e := fun _ => true) p1.isList p2.isList hsz (by omega) (fun j h1 h2 => ?_) _ _ _ _ ?_
    · have k := paired_at (eqW_at J 20 X.A.in1 (by show X.A.units + 1 + 20 < cLine; omega)) hp r1 r2 j (by simpa using h1) (by simpa using h2)
      simpa using k
    · rw [all_true]
      exact ⟨.bl false, H, J, rfl, q⟩
  · exact h.elim
end
/-- the same items -/
theorem EqW.same {K : PySem.W.Frag} {H : Hp} {n : Nat} : ∀ {xs : List V}, (∀ x ∈ xs, flatB x = true ∨ ∃ a, x = .ref a) → Paired (EqW K H (n + 1)) xs xs
  | [], _ => .nil
  | x :: xs, h => .cons ((h x (List.mem_cons_self ..)).elim (fun f => .inl ⟨rfl, f⟩) fun ⟨a, e⟩ => .inr (.inl ⟨a, e, e⟩)) (EqW.same fun y hy => h y (List.mem_cons_of_mem _ hy))
/-! ### a lambda handed to a def -/
section
variable {P : Program} {w : World} {K : PySem.W.Frag} {mg : Str → Option Value} {base : Heap}
theorem calleeC_of {x : Str} {st : Stmt} {N ps : List Str} {k : Nat} {sp : Sp} {c : Addr} (F : FunC K mg x st c) (S : FnScope N ps (defScope st))
    (hb : ∀ (kV doc pm : Value) (an : Option Addr) (cdv ct : Value) (us : List Value), us.length = ps.length → bindArgs (PySem.W.fnOf x x (defArgs st) (defBody st) (defScope st) .none kV doc pm an cdv ct) ⟨us, []⟩ = pure (ps.zip us))
    (len : ∀ vs H Q E, sp vs H Q E → vs.length = ps.length)
    (hbody : ∀ (f : Addr) (A : Around) (outer : List Env) (s : Shared) (H : Hp) (vs : List V) (Q : VK) (E : XK), Room k (cxOf (L2.CX P w) P w K mg base N x (defScope st) f (.ref c) A outer s H E).A →
      Takes (cxOf (L2.CX P w) P w K mg base N x (defScope st) f (.ref c) A outer s H E) (fun cls d _ H => E cls d H) →
      PassesOwn (model P w) (cxOf (L2.CX P w) P w K mg base N x (defScope st) f (.ref c) A outer s H E).A (cxOf (L2.CX P w) P w K mg base N x (defScope st) f (.ref c) A outer s H E).env (cxOf (L2.CX P w) P w K mg base N x (defScope st) f (.ref c) A outer s H E).xe → sp vs H Q E →
      ∃ t, PSs (cxOf (L2.CX P w) P w K mg base N x (defScope st) f (.ref c) A outer s H E) (defBody st) t ∧ t { nx := fun _ H' => Q .non H', rt := Q } (start N vs) H) :
    Callee P w K mg base (k + 1) x ps sp := by
  obtain ⟨f, oc, od, kV, doc, pm, an, ct, osl, lk, hcd, kp, hm⟩ := F.ex
  have F' : Fun K x x st f (PySem.W.fnOf x x (defArgs st) (defBody st) (defScope st) .none kV doc pm an (.ref c) ct) := fun_mk lk hcd kp
  exact ⟨f, _, fn_of lk hcd S len fun A outer s H vs Q E hr h => hbody f A outer s H vs Q E hr (takes_of rfl rfl rfl rfl) (passes_of rfl) h, hm, kp, F'.binds hb⟩
end

end Fg
set_option Elab.async false
set_option linter.all false
set_option maxRecDepth 100000
set_option maxHeartbeats 4000000
namespace Fg
open PySem PySem.Spec PyProof.Rows L2
local macro_rules | `(tactic| walk_at "hp") => `(tactic| first | assumption | (refine Same.get (by assumption) ?_; walk_at "hp"))
local macro_rules | `(tactic| walk_at "sq") => `(tactic| first | assumption | (exact Or.inr (by assumption)) | (exact Or.inl (by assumption)) | (exact Or.inl (SqL.of (by walk_at "hp"))) | (exact Or.inr (SqT.of (by walk_at "hp"))) | (exact SqL.of (by walk_at "hp")) | (exact SqT.of (by walk_at "hp")))
local macro_rules | `(tactic| walk_at "cl") => `(tactic| first | ((first | show (_ : Int) < _ | show (_ : Int) ≤ _); first | omega | decide) | ((first | show (_ : Nat) < _ | show (_ : Nat) ≤ _); first | with_reducible assumption | (refine sz_le ?_; first | decide | omega | (simp <;> omega)) | (refine sz_lt ?_; first | decide | omega | (simp <;> omega)) | omega | decide | ((with_reducible show List.length _ < _); exact Nat.le_of_ble_eq_true rfl)) | rfl | walk_at "hp" | walk_at "sq" | (refine And.intro (by walk_at "cl") (by walk_at "cl")) | (exact Exists.intro _ (by walk_at "hp")) | (exact Exists.intro _ (Exists.intro _ (by walk_at "hp"))) | (exact Exists.intro _ (Exists.intro _ (And.intro (by walk_at "hp") rfl))) | decide | (exact Or.inl (by walk_at "cl")) | (exact Or.inr (by walk_at "cl")) | omega)
local macro_rules | `(tactic| walk_at "s1") => `(tactic| first | refine And.intro (by walk_at "cl") ?_ | apply Exists.intro)
local macro_rules | `(tactic| walk_at "sx") => `(tactic| repeat walk_at "s1")
local macro_rules | `(tactic| walk_at "si") => `(tactic| first | refine iteY rfl ?_ | refine iteN rfl ?_)
local macro_rules | `(tactic| walk_at "sy") => `(tactic| repeat first | walk_at "s1" | walk_at "si")
/-! ### isinstance of a caught error that has fields -/
end Fg
namespace PySem.W
open PySem PySem.Spec PySem.Calls PyProof.Rows
section
variable {P : Program} {w : World} {B : Around} {Ex : Value → Shared → Prop} {s : Shared} {K : Frag} {e D : Addr} {oe : Obj} {dct : Obj}
theorem fg_found (hdct : hasDictIn K D = true) (hc : findIn K (.ref D) "__class__" = some (some (.builtin "object.__class__"))) (hg : specialIn K (.builtin "object.__class__") "__get__" = some (some (.builtin "getset_descriptor.__get__")))
    (ht : takesIn K (.builtin "object.__class__") = some true) : findObj K D (some dct) "__class__" = some (.bind (.builtin "getset_descriptor.__get__") (.builtin "object.__class__")) := by
  obtain ⟨cd, hcd, _⟩ := any_some hdct
  unfold findObj
  rw [hcd, Option.bind_some, hc, Option.bind_some]; simp [hg, ht]
theorem fg_class {Q : Option Value → Shared → Prop} (C : L2.ExcC K D) (Kh : K.In s.heap) (J : InstAt s.heap e oe D (some dct)) (q : Q (some (.ref D)) { s with toks := s.toks + 1 }) : wpAny (model P w) B (getAttr? (.ref e) "__class__") Q Ex s := by
  have found := fg_found (dct := dct) C.hd C.ha C.hn C.ht
  obtain ⟨hp, gg, dd, tk, os⟩ := s
  have T0 := J.type (M := model P w); have T1 := looks_findIn (M := model P w) Kh C.hg; have T2 := looks_findIn (M := model P w) Kh C.hk; have T3 := looks_find (M := model P w) Kh J found
  have isB : Looks (model P w) hp (isInstance (.ref e) (.type "BaseException")) true := T0.andThen (looks_subIn Kh C.hs)
  have ne1 : (Value.builtin "BaseException.__getattribute__" == Value.builtin "object.__getattribute__") = false := by decide +kernel
  have ne2 : (onTheHeap (Value.ref D) && Value.builtin "BaseException.__getattribute__" == Value.builtin "object.__getattribute__") = false := by (rw [ne1]; rfl)
  have ne0 : (false && onTheHeap (Value.builtin "BaseException.__getattribute__")) = false := by first | rfl
  (unfold getAttr? getAttrBy? getAttrBy); refine wpAny_bind (wpAny_mkText (wpAny_bind (wpAny_attempt (wpAny_holding (wpAny_bind (T0.at (wpAny_bind (T1.at ?_))))))))
  show wpAny _ _ (if (onTheHeap (Value.ref D) && Value.builtin "BaseException.__getattribute__" == Value.builtin "object.__getattribute__") = true then _ else _) _ _ _; rw [ne2, if_neg Bool.false_ne_true]
  (unfold getAttrByItsOwn hookBefore); refine wpAny_bind ?_; rw [if_pos (show onTheHeap (Value.ref D) = true from rfl)]; refine T2.at (wpAny_bind (wpAny_attempt (wpAny_holding ?_)))
  (unfold callGetattribute); rw [ne0, if_neg Bool.false_ne_true]; (unfold boundAndCalled); rw [PySem.F.excAttr_ValueError.ga.bind (.ref e)]; refine wpAny_bind (wpAny_pure ?_)
  show wpAny _ _ (call (.builtin "BaseException.__getattribute__") [.ref e, .str "__class__" tk]) _ _ _; refine wpAny_call (codeAny_call_builtin PySem.F.excAttr_ValueError.ga.plain PySem.F.entry_bexc_ga ?_)
  refine @check_slot (model P w) _ _ ⟨hp, gg, dd, tk + 1, os⟩ "BaseException.__getattribute__" "BaseException" "__getattribute__" (.ref e) [.str "__class__" tk] [] _ (by decide +kernel) (by decide +kernel) isB (PySem.F.args_bexc_ga (.ref e) (.str "__class__" tk)) ?_
  (unfold Builtin.«object.__getattribute__»); refine wpAny_bind (wpAny_of_eq (a := ((Value.ref e : Value), [Value.str "__class__" tk])) (by first | rfl | (simp only [slotArgs]; rfl)) ?_)
  refine wpAny_bind (wpAny_pure (wpAny_bind (T0.at (wpAny_bind (T3.at ?_))))); show wpAny _ _ (holding [Value.builtin "object.__class__"] (call (.builtin "getset_descriptor.__get__") [.builtin "object.__class__", .ref e, .ref D]) >>= ret) _ _ _
  refine wpAny_bind (wpAny_holding (wpAny_call (class_get (s := ⟨hp, gg, dd, tk + 1, os⟩) (ox := oe) (od := some dct) Kh J C.hm ?_))); refine wpAny_pure ?_
  show wpAny _ _ (handedOut (.ref D)) _ _ _; rw [handedOut_of (v := .ref D) rfl]
  first | exact wpAny_pure (wpAny_pure q) | exact wpAny_pure q | exact wpAny_pure (wpAny_bind (wpAny_pure (wpAny_pure q)))
theorem fg_kit (C : L2.ExcC K D) : KitX K (.ref e) (.ref D) (fun h => ∃ dct, InstAt h e oe D (some dct)) := by
  obtain ⟨cd, hcd, _⟩ := any_some C.hd
  refine ⟨fun _ _ _ ⟨_, J⟩ => J.type, fun _ _ Kh _ => ?_, fun h tp _ _ _ _ Kh at_ => ?_, fun Kh ⟨_, J⟩ k => fg_class C Kh J k⟩
  · unfold clsIn at hcd
    split at hcd
    · rename_i looked
      intro _ _ _ _ keep q
      (unfold isType loadHead); exact wpAny_bind (wpAny_loadPart (keep _ _ (Kh _ _ looked)) (wpAny_pure q))
    · cases hcd
  · refine Bool.eq_false_iff.mpr fun same => ?_
    cases (Value.ref.inj (beq_iff_eq.mp same) : D = tp)
    unfold clsIn at hcd
    split at hcd
    · rename_i looked
      cases (Kh _ _ looked).symm.trans at_
    · cases hcd
end
end PySem.W
namespace Fg
open PySem PySem.Spec PyProof.Rows L2
/-- isinstance(e, c), e the error that the suite holds -/
def fIsE (K : PySem.W.Frag) (D a : Addr) : List V → Hp → VK → Prop := fun xs H Q => match xs with
  | [.ref b, .ref c] => b = a ∧ ∃ r, PySem.W.kitOne K (.ref D) (.ref c) = some r ∧ Q (.bl r) H
  | [.ref b, .ty c] => b = a ∧ ∃ r, PySem.W.kitOne K (.ref D) (.type c) = some r ∧ Q (.bl r) H
  | _ => False
theorem f_isE {X : Cx} {a D dx : Addr} {oe : Obj} {pn : List (Addr × Obj)} (C : ExcC X.K D) (hz : Zc (.ref D) (some dx) oe) (hf : ∃ vs, oe.data = .fields vs) {fs : List (Str × V)} :
    CallR (X.suite a ((a, oe) :: pn)) (.builtin "isinstance") (fun xs H Q => H dx = some (.xd fs) ∧ fIsE X.K D a xs H Q) := by
  intro pins s σ H xs us Q J r ⟨hd, q⟩
  have ans : ∀ (cv : Value) (k : Bool), PySem.W.kitOne X.K (.ref D) cv = some k → Q (.bl k) H → wpAny (model X.prog X.w) (X.suite a ((a, oe) :: pn)).A (call (.builtin "isinstance") [.ref a, cv]) (EP (X.suite a ((a, oe) :: pn)) pins σ Q) (X.suite a ((a, oe) :: pn)).xe s := fun cv k ek qk => by
    obtain ⟨hget, _⟩ := J.pin (a, oe) (List.mem_append.mpr (.inl List.mem_cons_self))
    obtain ⟨vs, hv⟩ := hf
    obtain ⟨mA, hns, _⟩ := (show ObjOk X.prog X.w H s.heap dx (.xd fs) from J.hok dx _ hd)
    obtain ⟨od, ho, _⟩ := lookIn_ns hns
    have I2 : PySem.W.InstAt s.heap a oe D (some od) := ⟨hget, hz.1, by unfold PySem.W.notCls; rw [hv] <;> rfl, by rw [hz.2]; exact ho⟩
    exact PySem.W.kia_one (PySem.W.fg_kit C) J.kIn ⟨od, I2⟩ ek (fun z => nomatch z) fun tk => ⟨.bl k, H, J.kept (t' := tk) fun _ _ z => z, rfl, qk⟩
  unfold fIsE at q
  split at q
  · obtain ⟨rfl, k, ek, qk⟩ := q
    cases r with
    | cons r1 rr =>
      cases rr with
      | cons r2 rr =>
        cases rr
        cases r1
        cases r2
        exact ans _ k ek qk
  · obtain ⟨rfl, k, ek, qk⟩ := q
    cases r with
    | cons r1 rr =>
      cases rr with
      | cons r2 rr =>
        cases rr
        cases r1
        cases r2
        exact ans _ k ek qk
  · exact q.elim
/-- x(lambda: body): the def x calls what it got; TT: what it makes of the lambda's reading -/
theorem fe_lam {X : Cx} {Tb : List (Addr × Str)} {TT : (XK → Hp → VK → Prop) → Hp → VK → Prop} {x a : Str} {st : Stmt} {c Pt : Addr} {k j : Nat} {Ng : List Str} {params : Arguments} {body : Expr} {scope : Scope} {t : XK → TE} {p lpos pos : Pos}
    (F : FunAt X.K X.mg x st) (Sg : FnScope Ng [a] (defScope st)) (hNg : Ng[0]? = some a)
    (hb : ∀ (kV doc pm : Value) (an : Option Addr) (cdv ct : Value) (us : List Value), us.length = ([a] : List Str).length → bindArgs (PySem.W.fnOf x x (defArgs st) (defBody st) (defScope st) .none kV doc pm an cdv ct) ⟨us, []⟩ = pure (([a] : List Str).zip us))
    (hG : ∀ g cdv, LamX.GivesTo X Ng x (defScope st) g cdv (defBody st) a (X.env.qual ++ "<lambda>") TT) (TB : LamX.TabB X.base X.mg c Pt) (hcode : X.env.code = .ref c) (hmT : Tb = [(Pt, X.env.qual ++ "<lambda>")])
    (hr : Room j X.A) (hj : k + 2 ≤ j) (hg : Gl X x) (L : LamX.LamS X.env.scope scope) (hva : Vis (defScope st) a) (hdef : defaultsOf params X.env = ([], []))
    (hbind : ∀ (q : Str) (cl : List (Str × Addr)) (pm cv ctv : Value), bindArgs (PySem.W.kla_fn "<lambda>" q params body scope cl pm cv ctv) ⟨[], []⟩ = pure [])
    (hbody : ∀ (A : Around) (outer : List Env) (s : Shared) (H : Hp) (E : XK) (f c' : Addr), Room k (LamX.lamCx X A outer s H E scope f c').A → Takes (LamX.lamCx X A outer s H E scope f c') (fun cls d _ H => E cls d H) → PE (LamX.lamCx X A outer s H E scope f c') body (t E))
    (hdb : (x == ("__debug__" : Str)) = false := by decide) (hd : (a == ("__debug__" : Str)) = false := by decide) (hcd : (a == ("__classdict__" : Str)) = false := by decide) :
    PE X (.Call (.Name x p) [.Lambda params body scope lpos] [] pos) (LamX.tLam Tb TT t) := by
  obtain ⟨f, fd, Fu, hm⟩ := F.ex
  have hbd := Fu.binds hb
  obtain ⟨oc, od, kV, doc, pm, an, cdv, ct, osl, rfl, lk, hcode2⟩ := Fu.ex
  exact LamX.pe_lamcall (k := k) hg hm Fu.kp lk hcode2 hbd Sg hNg hva (hG f cdv) TB hcode (by rw [hmT]; exact List.mem_singleton.mpr rfl) (fun q hq _ => by rw [hmT] at hq; rw [List.mem_singleton.mp hq]) (hr.mono hj) L hdef hbind
    (fun A outer s H E f' c' r => hbody A outer s H E f' c' r (takes_of rfl rfl rfl rfl)) hdb hd hcd

end Fg
set_option Elab.async false
set_option linter.all false
set_option maxRecDepth 100000
set_option maxHeartbeats 4000000
namespace Fg
open PySem PySem.Spec PyProof.Rows L2
local macro_rules | `(tactic| walk_at "hp") => `(tactic| first | assumption | (refine Same.get (by assumption) ?_; walk_at "hp"))
local macro_rules | `(tactic| walk_at "sq") => `(tactic| first | assumption | (exact Or.inr (by assumption)) | (exact Or.inl (by assumption)) | (exact Or.inl (SqL.of (by walk_at "hp"))) | (exact Or.inr (SqT.of (by walk_at "hp"))) | (exact SqL.of (by walk_at "hp")) | (exact SqT.of (by walk_at "hp")))
local macro_rules | `(tactic| walk_at "cl") => `(tactic| first | ((first | show (_ : Int) < _ | show (_ : Int) ≤ _); first | omega | decide) | ((first | show (_ : Nat) < _ | show (_ : Nat) ≤ _); first | with_reducible assumption | (refine sz_le ?_; first | decide | omega | (simp <;> omega)) | (refine sz_lt ?_; first | decide | omega | (simp <;> omega)) | omega | decide | ((with_reducible show List.length _ < _); exact Nat.le_of_ble_eq_true rfl)) | rfl | walk_at "hp" | walk_at "sq" | (refine And.intro (by walk_at "cl") (by walk_at "cl")) | (exact Exists.intro _ (by walk_at "hp")) | (exact Exists.intro _ (Exists.intro _ (by walk_at "hp"))) | (exact Exists.intro _ (Exists.intro _ (And.intro (by walk_at "hp") rfl))) | decide | (exact Or.inl (by walk_at "cl")) | (exact Or.inr (by walk_at "cl")) | omega)
local macro_rules | `(tactic| walk_at "s1") => `(tactic| first | refine And.intro (by walk_at "cl") ?_ | apply Exists.intro)
local macro_rules | `(tactic| walk_at "sx") => `(tactic| repeat walk_at "s1")
local macro_rules | `(tactic| walk_at "si") => `(tactic| first | refine iteY rfl ?_ | refine iteN rfl ?_)
local macro_rules | `(tactic| walk_at "sy") => `(tactic| repeat first | walk_at "s1" | walk_at "si")
/-! ### the law's own text of an integer -/
def SL (l : List Nat) : Str := ⟨l.toArray⟩
theorem SL_app (a b : List Nat) : (SL a ++ SL b : Str) = SL (a ++ b) := by
  rw [str_app]
  unfold SL
  simp
theorem SL_len (l : List Nat) : (SL l).length = l.length := by simp [SL, Str.length]
theorem SL_cps (l : List Nat) : (SL l).cps.toList = l := by simp [SL]
theorem SL_nil {l : List Nat} : (SL l = "") ↔ l = [] := by
  constructor
  · intro h
    have := congrArg (fun z : Str => z.cps.toList) h
    rw [SL_cps] at this
    exact this
  · intro h
    rw [h]; rfl
theorem SL_cut (l : List Nat) : cutS (SL l) none (some 1) = SL (l.take 1) := by
  unfold cutS
  rw [SL_cps, SL_len, HT.sIx_none]
  have : HT.sIx l.length l.length (some (1 : Int)) = min 1 l.length := HT.sIx_nat l.length l.length 1
  rw [this, List.drop_zero, Nat.sub_zero]
  unfold SL
  congr 1
  congr 1
  cases l with
  | nil => rfl
  | cons a r => rfl
theorem repC_SL (c n : Nat) : repC c n = SL (List.replicate n c) := rfl
theorem fillIn_some : ∀ (x : List Nat) (y : List (Option Nat)) (ds : List Nat), fillIn (x.map some ++ y) ds = x ++ fillIn y ds
  | [], _, _ => rfl
  | a :: x, y, ds => by
    show a :: fillIn (x.map some ++ y) ds = _
    rw [fillIn_some x y ds]
    rfl
theorem fillIn_nil (ds : List Nat) : fillIn [] ds = [] := by cases ds <;> rfl
theorem fillIn_tail : ∀ (b : List (Option Nat)) (x : List Nat) (ds : List Nat), need b = ds.length → fillIn (b ++ x.map some) ds = fillIn b ds ++ x
  | [], x, ds, h => by
    have z := fillIn_some x [] ds
    rw [List.append_nil] at z
    rw [List.nil_append, z, fillIn_nil, List.append_nil, List.nil_append]
  | none :: r, x, [], h => by cases h
  | none :: r, x, d :: ds, h => by
    show d :: fillIn (r ++ x.map some) ds = _
    rw [fillIn_tail r x ds (Nat.succ.inj h)]
    rfl
  | some c :: r, x, ds, h => by
    show c :: fillIn (r ++ x.map some) ds = _
    rw [fillIn_tail r x ds h]
    rfl
theorem fillIn_full : ∀ (b : List (Option Nat)) (ds : List Nat), need b = ds.length → (fillIn b ds).length = b.length
  | [], ds, _ => by rw [fillIn_nil]; rfl
  | none :: r, [], h => by cases h
  | none :: r, d :: ds, h => by
    show (fillIn r ds).length + 1 = _
    rw [fillIn_full r ds (Nat.succ.inj h)]
    rfl
  | some c :: r, ds, h => by
    show (fillIn r ds).length + 1 = _
    rw [fillIn_full r ds h]
    rfl
theorem fillL_some (F : Fm) (k : Nat) : fillL F k = (List.replicate k F.fill).map some := by unfold fillL; rw [List.map_replicate]
/-- head, figures with marks -/
def bodyN (F : Fm) (row : List Nat) : List Nat := fillIn (bodyL F row.length) row
theorem bodyN_len (F : Fm) {row : List Nat} (h : 1 ≤ row.length) : (bodyN F row).length = (bodyL F row.length).length := fillIn_full _ _ (need_body F h)
theorem codes_at (F : Fm) (i : Int) (row : List Nat) (hr : row = rowN F i.natAbs) (h : 1 ≤ row.length) (L : Nat) (hL : L = F.width - (headC F.sign (decide (i < 0))).length - (bodyN F row).length) :
    codesI F i = (if F.side = "left" then List.replicate L F.fill ++ (headC F.sign (decide (i < 0)) ++ bodyN F row)
      else if F.side = "right" then headC F.sign (decide (i < 0)) ++ (bodyN F row ++ List.replicate L F.fill)
      else if F.side = "inner" then headC F.sign (decide (i < 0)) ++ (List.replicate L F.fill ++ bodyN F row)
      else List.replicate (L / 2) F.fill ++ (headC F.sign (decide (i < 0)) ++ (bodyN F row ++ List.replicate (L - L / 2) F.fill))) := by
  have nb := need_body F h
  have hL2 : lackL F (decide (i < 0)) row.length = L := by rw [hL, bodyN_len F h]; rfl
  unfold codesI layL
  rw [← hr]
  simp only [hL2, fillL_some]
  split
  · rw [fillIn_some, fillIn_some]; rfl
  · split
    · rw [fillIn_some, fillIn_tail _ _ _ nb]; rfl
    · split
      · rw [fillIn_some, fillIn_some]; rfl
      · rw [fillIn_some, fillIn_some, fillIn_tail _ _ _ nb]; rfl
theorem codes_no (F : Fm) (i : Int) (row : List Nat) (hr : row = rowN F i.natAbs) (h : 1 ≤ row.length) (hL : F.width - (headC F.sign (decide (i < 0))).length - (bodyN F row).length = 0) :
    codesI F i = headC F.sign (decide (i < 0)) ++ bodyN F row := by
  rw [codes_at F i row hr h 0 hL.symm]
  split
  · rfl
  · split
    · rw [List.replicate_zero, List.append_nil]
    · split
      · rfl
      · rw [show 0 - 0 / 2 = 0 from rfl, List.replicate_zero, List.append_nil]; rfl
def up : Nat → Nat → List V
  | _, 0 => []
  | k, n + 1 => .int ((k : Nat) : Int) :: up (k + 1) n
theorem rgI_up : ∀ (n k : Nat), rgI ((k : Nat) : Int) n = up k n
  | 0, _ => rfl
  | n + 1, k => by
    rw [up, ← rgI_up n (k + 1)]
    unfold rgI
    rw [List.range_succ_eq_map, List.map_cons, List.map_map]
    refine congr (congrArg _ (by simp)) (List.map_congr_left fun i _ => ?_)
    simp only [Function.comp]
    congr 1
    push_cast
    omega
theorem meetS {A : Prop} {G : Str → Hp → Prop} (Pc : Str → Hp → Prop) (h1 : (∀ a H, Pc a H → G a H) → A) (h2 : ∀ a H, Pc a H → G a H) : A := h1 h2
theorem heads_val (F : Fm) (ok : F.Ok) : valV (mergeK [] [((Sum.inr "minus" : Key), V.str ""), (Sum.inr "plus", V.str "+"), (Sum.inr "blank", V.str " ")]) (Sum.inr F.sign) = some (.str (SL (headC F.sign false))) := by
  rcases ok.si with e | e | e <;> rw [e] <;> decide +kernel
theorem sides_val (F : Fm) (ok : F.Ok) (n : F.side ≠ "inner") (a b c : V) : valV (mergeK [] [((Sum.inr "left" : Key), a), (Sum.inr "right", b), (Sum.inr "both", c)]) (Sum.inr F.side) = some (if F.side = "left" then a else if F.side = "right" then b else c) := by
  rcases ok.sd with e | e | e | e
  · rw [e]; rfl
  · rw [e]; rfl
  · rw [e]; rfl
  · exact absurd e n

end Fg
set_option Elab.async false
set_option linter.all false
set_option maxRecDepth 100000
set_option maxHeartbeats 4000000
namespace Fg
open PySem PySem.Spec PyProof.Rows L2
local macro_rules | `(tactic| walk_at "hp") => `(tactic| first | assumption | (refine Same.get (by assumption) ?_; walk_at "hp"))
local macro_rules | `(tactic| walk_at "sq") => `(tactic| first | assumption | (exact Or.inr (by assumption)) | (exact Or.inl (by assumption)) | (exact Or.inl (SqL.of (by walk_at "hp"))) | (exact Or.inr (SqT.of (by walk_at "hp"))) | (exact SqL.of (by walk_at "hp")) | (exact SqT.of (by walk_at "hp")))
local macro_rules | `(tactic| walk_at "cl") => `(tactic| first | ((first | show (_ : Int) < _ | show (_ : Int) ≤ _); first | omega | decide) | ((first | show (_ : Nat) < _ | show (_ : Nat) ≤ _); first | with_reducible assumption | (refine sz_le ?_; first | decide | omega | (simp <;> omega)) | (refine sz_lt ?_; first | decide | omega | (simp <;> omega)) | omega | decide | ((with_reducible show List.length _ < _); exact Nat.le_of_ble_eq_true rfl)) | rfl | walk_at "hp" | walk_at "sq" | (refine And.intro (by walk_at "cl") (by walk_at "cl")) | (exact Exists.intro _ (by walk_at "hp")) | (exact Exists.intro _ (Exists.intro _ (by walk_at "hp"))) | (exact Exists.intro _ (Exists.intro _ (And.intro (by walk_at "hp") rfl))) | decide | (exact Or.inl (by walk_at "cl")) | (exact Or.inr (by walk_at "cl")) | omega)
local macro_rules | `(tactic| walk_at "s1") => `(tactic| first | refine And.intro (by walk_at "cl") ?_ | apply Exists.intro)
local macro_rules | `(tactic| walk_at "sx") => `(tactic| repeat walk_at "s1")
local macro_rules | `(tactic| walk_at "si") => `(tactic| first | refine iteY rfl ?_ | refine iteN rfl ?_)
local macro_rules | `(tactic| walk_at "sy") => `(tactic| repeat first | walk_at "s1" | walk_at "si")
/-! ### reading integers -/
def sizeN (b : Nat) (ds : List Nat) : Nat := ds.foldl (fun s d => s * b + d) 0
theorem size_go (b : Nat) : ∀ (ds : List Nat) (a : Nat), ds.foldl (fun s d => s * b + d) a = a * b ^ ds.length + sizeN b ds
  | [], a => by simp [sizeN]
  | d :: r, a => by
    show r.foldl _ (a * b + d) = _
    rw [size_go b r (a * b + d)]
    show _ = a * b ^ (r.length + 1) + r.foldl (fun s d => s * b + d) (0 * b + d)
    rw [size_go b r (0 * b + d), Nat.pow_succ, Nat.add_mul, Nat.add_mul, Nat.zero_mul, Nat.zero_mul, Nat.zero_add, Nat.mul_assoc, Nat.mul_comm b (b ^ r.length), Nat.add_assoc]
theorem size_app (b : Nat) (x y : List Nat) : sizeN b (x ++ y) = sizeN b x * b ^ y.length + sizeN b y := by
  unfold sizeN
  rw [List.foldl_append, size_go]
  rfl
theorem size_one (b d : Nat) : sizeN b [d] = d := by simp [sizeN]
theorem size_zeros (b : Nat) : ∀ k, sizeN b (List.replicate k 0) = 0
  | 0 => rfl
  | k + 1 => by
    rw [List.replicate_succ]
    show (List.replicate k 0).foldl _ (0 * b + 0) = 0
    rw [Nat.zero_mul]
    exact size_zeros b k
theorem size_lt {b : Nat} (hb : 1 ≤ b) : ∀ (ds : List Nat), (∀ d ∈ ds, d < b) → sizeN b ds < b ^ ds.length
  | [], _ => by simp [sizeN]
  | d :: r, h => by
    have ih := size_lt hb r fun x hx => h x (List.mem_cons_of_mem _ hx)
    have hd := h d (List.mem_cons_self ..)
    have e : sizeN b (d :: r) = d * b ^ r.length + sizeN b r := by
      have := size_app b [d] r
      rwa [size_one] at this
    rw [e, List.length_cons, Nat.pow_succ]
    have h2 : (d + 1) * b ^ r.length ≤ b * b ^ r.length := Nat.mul_le_mul_right _ hd
    rw [Nat.add_mul, Nat.one_mul] at h2
    rw [Nat.mul_comm (b ^ r.length) b]
    omega
/-- the figures of n, the last one first -/
theorem rdigs_eq {b : Nat} (hb : 2 ≤ b) : ∀ (k n : Nat), n ≤ k + 1 → rdigs b k n = if b ≤ n then n % b :: rdigs b (k - 1) (n / b) else [n % b]
  | 0, n, h => by
    have : ¬ b ≤ n := by omega
    rw [if_neg this, rdigs]
  | k + 1, n, h => by
    rw [rdigs]
    split <;> rfl
theorem rdigs_fuel {b : Nat} (hb : 2 ≤ b) : ∀ (n k j : Nat), n ≤ k + 1 → n ≤ j + 1 → rdigs b k n = rdigs b j n := by
  intro n
  induction n using Nat.strongRecOn with
  | _ n ih =>
    intro k j hk hj
    rw [rdigs_eq hb k n hk, rdigs_eq hb j n hj]
    split
    · rename_i hn
      have : n / b ≤ n / 2 := Nat.div_le_div_left hb (by decide)
      rw [ih (n / b) (by omega) (k - 1) (j - 1) (by omega) (by omega)]
    · rfl
theorem digs_rec {b n : Nat} (hb : 2 ≤ b) (h : b ≤ n) : digs b n = digs b (n / b) ++ [n % b] := by
  unfold digs
  have : n / b ≤ n / 2 := Nat.div_le_div_left hb (by decide)
  rw [rdigs_eq hb n n (by omega), if_pos h, List.reverse_cons, rdigs_fuel hb (n / b) (n - 1) (n / b) (by omega) (by omega)]
theorem digs_small {b n : Nat} (hb : 2 ≤ b) (h : n < b) : digs b n = [n] := by
  unfold digs
  rw [rdigs_eq hb n n (by omega), if_neg (by omega), Nat.mod_eq_of_lt h]
  rfl
theorem size_digs {b : Nat} (hb : 2 ≤ b) (n : Nat) : sizeN b (digs b n) = n := by
  induction n using Nat.strongRecOn with
  | _ n ih =>
    by_cases h : b ≤ n
    · rw [digs_rec hb h, size_app, size_one, List.length_singleton, Nat.pow_one, ih (n / b) (Nat.div_lt_self (by omega) (by omega)), Nat.mul_comm]
      exact Nat.div_add_mod n b
    · rw [digs_small hb (by omega), size_one]
/-- figures are zeros, then those of their size -/
theorem size_strip {b : Nat} (hb : 2 ≤ b) : ∀ (m : Nat) (ds : List Nat), ds.length = m → ds ≠ [] → (∀ d ∈ ds, d < b) → ∃ k, ds = List.replicate k 0 ++ digs b (sizeN b ds)
  | 0, ds, hl, hn, _ => absurd (List.length_eq_zero_iff.mp hl) hn
  | m + 1, ds, hl, hn, hd => by
    obtain ⟨r, x, rfl⟩ : ∃ r x, ds = r ++ [x] := ⟨ds.dropLast, ds.getLast hn, (List.dropLast_concat_getLast hn).symm⟩
    have hx : x < b := hd x (by simp)
    have es : sizeN b (r ++ [x]) = sizeN b r * b + x := by rw [size_app, size_one, List.length_singleton, Nat.pow_one]
    by_cases hr : r = []
    · subst hr
      refine ⟨0, ?_⟩
      rw [List.nil_append, size_one, digs_small hb hx]
      rfl
    · obtain ⟨k, hk⟩ := size_strip hb m r (by simp at hl; omega) hr fun d h => hd d (by simp [h])
      by_cases z : sizeN b r = 0
      · refine ⟨k + 1, ?_⟩
        rw [es, z, Nat.zero_mul, Nat.zero_add, digs_small hb hx, List.replicate_succ', List.append_assoc]
        rw [z, digs_small hb (by omega)] at hk
        rw [hk]
        simp
      · refine ⟨k, ?_⟩
        have hge : b ≤ sizeN b r * b + x := by
          have : 1 * b ≤ sizeN b r * b := Nat.mul_le_mul_right _ (by omega)
          omega
        have e1 : (sizeN b r * b + x) / b = sizeN b r := by
          rw [Nat.mul_comm, Nat.mul_add_div (by omega), Nat.div_eq_of_lt hx, Nat.add_zero]
        have e2 : (sizeN b r * b + x) % b = x := by rw [Nat.mul_comm, Nat.mul_add_mod, Nat.mod_eq_of_lt hx]
        rw [es, digs_rec hb hge, e1, e2, ← List.append_assoc, ← hk]
theorem figC_inj : ∀ d e : Fin 16, figC d.val = figC e.val → d = e := by decide +kernel
theorem figC_eq {d e : Nat} (h1 : d < 16) (h2 : e < 16) (h : figC d = figC e) : d = e := congrArg Fin.val (figC_inj ⟨d, h1⟩ ⟨e, h2⟩ h)
/-- the figure of a sign -/
def figIx (b s : Nat) : Option Nat := (List.range b).find? fun d => figC d == s
theorem figIx_some {b s d : Nat} (h : figIx b s = some d) : d < b ∧ figC d = s := by
  have h1 := List.find?_some h
  have h2 := List.mem_of_find?_eq_some h
  exact ⟨List.mem_range.mp h2, by simpa using h1⟩
theorem figIx_of {b d : Nat} (hb : b ≤ 16) (h : d < b) : figIx b (figC d) = some d := by
  cases e : figIx b (figC d) with
  | none =>
    have := List.find?_eq_none.mp e d (List.mem_range.mpr h)
    simp at this
  | some x =>
    obtain ⟨h1, h2⟩ := figIx_some e
    rw [figC_eq (by omega) (by omega) h2]
def takeF (b : Nat) : List (Option Nat) → List Nat → Option (List Nat)
  | [], [] => some []
  | some c :: r, s :: l => if c = s then takeF b r l else none
  | none :: r, s :: l => match figIx b s with
    | some d => (takeF b r l).map (d :: ·)
    | none => none
  | [], _ :: _ => none
  | _ :: _, [] => none
theorem takeF_iff {b : Nat} (hb : b ≤ 16) : ∀ (lay : List (Option Nat)) (l ds : List Nat), takeF b lay l = some ds ↔ ds.length = need lay ∧ (∀ d ∈ ds, d < b) ∧ fillIn lay (ds.map figC) = l ∧ l.length = lay.length
  | [], [], ds => by
    constructor
    · intro h
      cases h
      exact ⟨rfl, (fun _ z => by cases z), rfl, rfl⟩
    · rintro ⟨h, _⟩
      rw [List.length_eq_zero_iff.mp h]
      rfl
  | [], _ :: _, ds => by
    constructor
    · intro h; cases h
    · rintro ⟨_, _, _, h⟩; cases h
  | _ :: _, [], ds => by
    constructor
    · intro h; simp [takeF] at h
    · rintro ⟨_, _, _, h⟩; cases h
  | some c :: r, s :: l, ds => by
    rw [takeF]
    by_cases e : c = s
    · subst e
      rw [if_pos rfl, takeF_iff hb r l ds]
      constructor
      · rintro ⟨h1, h2, h3, h4⟩
        exact ⟨h1, h2, by show c :: fillIn r _ = _; rw [h3], by simp [h4]⟩
      · rintro ⟨h1, h2, h3, h4⟩
        exact ⟨h1, h2, (List.cons.inj h3).2, by simpa using h4⟩
    · rw [if_neg e]
      constructor
      · intro h; cases h
      · rintro ⟨_, _, h3, _⟩
        exact absurd (List.cons.inj h3).1 e
  | none :: r, s :: l, ds => by
    rw [takeF]
    constructor
    · intro h
      split at h
      · rename_i d hd
        obtain ⟨d1, d2⟩ := figIx_some hd
        cases e : takeF b r l with
        | none => rw [e] at h; cases h
        | some ds' =>
          rw [e] at h
          cases h
          obtain ⟨h1, h2, h3, h4⟩ := (takeF_iff hb r l ds').mp e
          refine ⟨by simp [need, h1], fun x hx => ?_, ?_, by simp [h4]⟩
          · rcases List.mem_cons.mp hx with rfl | hx
            · exact d1
            · exact h2 x hx
          · show figC d :: fillIn r _ = _
            rw [d2, h3]
      · cases h
    · rintro ⟨h1, h2, h3, h4⟩
      cases ds with
      | nil => cases h1
      | cons d ds =>
        have h3' : figC d :: fillIn r (ds.map figC) = s :: l := h3
        obtain ⟨e1, e2⟩ := List.cons.inj h3'
        have hd := h2 d (List.mem_cons_self ..)
        rw [← e1, figIx_of hb hd]
        have := (takeF_iff hb r l ds).mpr ⟨by simpa [need] using h1, fun x hx => h2 x (List.mem_cons_of_mem _ hx), e2, by simpa using h4⟩
        rw [this]
        rfl
/-- the integer of a sign and a number of figures with these codes -/
def readN (F : Fm) (l : List Nat) (neg : Bool) (n : Nat) : Option Int := match takeF F.base (layL F neg n) l with
  | none => none
  | some ds => if F.least < n ∧ ds.head? = some 0 then none else if neg = true then (if 0 < sizeN F.base ds then some (-((sizeN F.base ds : Nat) : Int)) else none) else some ((sizeN F.base ds : Nat) : Int)
/-- the figures that are written -/
def rowD (F : Fm) (n : Nat) : List Nat := List.replicate (F.least - (digs F.base n).length) 0 ++ digs F.base n
theorem rowD_map (F : Fm) (n : Nat) : (rowD F n).map figC = rowN F n := by
  unfold rowD rowN
  rw [List.map_append, List.map_replicate]
  rfl
theorem rowD_len (F : Fm) (n : Nat) : (rowD F n).length = (rowN F n).length := by rw [← rowD_map, List.length_map]
theorem rowD_lt (F : Fm) (ok : F.Ok) (n : Nat) : ∀ d ∈ rowD F n, d < F.base := fun d hd => by
  have := ok.b1
  rcases List.mem_append.mp hd with h | h
  · rw [(List.mem_replicate.mp h).2]; omega
  · exact digs_lt (by omega) h
theorem size_rowD (F : Fm) (ok : F.Ok) (n : Nat) : sizeN F.base (rowD F n) = n := by
  unfold rowD
  rw [size_app, size_zeros, Nat.zero_mul, Nat.zero_add, size_digs ok.b1]
theorem digs_head {b : Nat} (hb : 2 ≤ b) (n : Nat) : (digs b n).head? = some 0 → n = 0 := by
  induction n using Nat.strongRecOn with
  | _ n ih =>
    intro h
    by_cases c : b ≤ n
    · rw [digs_rec hb c] at h
      have h' : (digs b (n / b)).head? = some 0 := by
        cases e : digs b (n / b) with
        | nil => exact absurd e digs_nil
        | cons x r => rw [e] at h; exact h
      have z := ih (n / b) (Nat.div_lt_self (by omega) (by omega)) h'
      have := Nat.div_pos c (by omega)
      omega
    · rw [digs_small hb (by omega)] at h
      simpa using h
/-- which figures are a row -/
theorem row_iff (F : Fm) (ok : F.Ok) (ds : List Nat) (hd : ∀ d ∈ ds, d < F.base) (hl : F.least ≤ ds.length) : (¬ (F.least < ds.length ∧ ds.head? = some 0)) ↔ ds = rowD F (sizeN F.base ds) := by
  have l1 := ok.l1
  have hn : ds ≠ [] := fun z => by rw [z] at hl; simp at hl; omega
  obtain ⟨k, hk⟩ := size_strip ok.b1 _ ds rfl hn hd
  have len : ds.length = k + (digs F.base (sizeN F.base ds)).length := by
    have := congrArg List.length hk
    rwa [List.length_append, List.length_replicate] at this
  constructor
  · intro h
    unfold rowD
    by_cases c : F.least < ds.length
    · have h0 : ds.head? ≠ some 0 := fun z => h ⟨c, z⟩
      have k0 : k = 0 := by
        cases k with
        | zero => rfl
        | succ k => exact absurd (by rw [hk]; rfl) h0
      rw [k0] at hk len
      rw [show F.least - (digs F.base (sizeN F.base ds)).length = 0 by omega]
      exact hk
    · rw [show F.least - (digs F.base (sizeN F.base ds)).length = k by omega]
      exact hk
  · rintro h ⟨c, h0⟩
    have len2 : ds.length = (F.least - (digs F.base (sizeN F.base ds)).length) + (digs F.base (sizeN F.base ds)).length := by
      have := congrArg List.length h
      unfold rowD at this
      rwa [List.length_append, List.length_replicate] at this
    have k0 : k = 0 := by omega
    rw [k0, List.replicate_zero, List.nil_append] at hk
    have z := digs_head ok.b1 (sizeN F.base ds) (by rw [← hk]; exact h0)
    rw [z, digs_small ok.b1 (by have := ok.b1; omega)] at len2
    simp at len2
    omega
theorem read_iff (F : Fm) (ok : F.Ok) (l : List Nat) (neg : Bool) (n : Nat) (hn : F.least ≤ n) (i : Int) :
    readN F l neg n = some i ↔ decide (i < 0) = neg ∧ (rowN F i.natAbs).length = n ∧ codesI F i = l := by
  have l1 := ok.l1
  have nl := need_lay F neg (show 1 ≤ n by omega)
  unfold readN
  constructor
  · intro h
    cases e : takeF F.base (layL F neg n) l with
    | none => rw [e] at h; cases h
    | some ds =>
      rw [e] at h
      obtain ⟨h1, h2, h3, h4⟩ := (takeF_iff ok.b2 _ _ _).mp e
      rw [nl] at h1
      dsimp only at h
      split at h
      · cases h
      · rename_i hh
        rw [← h1] at hh
        have hr := (row_iff F ok ds h2 (by omega)).mp hh
        have key : ∀ j : Int, j.natAbs = sizeN F.base ds → decide (j < 0) = neg → decide (j < 0) = neg ∧ (rowN F j.natAbs).length = n ∧ codesI F j = l := fun j e1 e2 => by
          refine ⟨e2, ?_, ?_⟩
          · rw [e1, ← rowD_len, ← hr, h1]
          · unfold codesI
            rw [e1, e2, ← rowD_map, ← hr, List.length_map, h1]
            exact h3
        split at h
        · rename_i hneg
          split at h
          · rename_i hz
            cases h
            exact key _ (by rw [Int.natAbs_neg, Int.natAbs_natCast]) (by rw [hneg]; exact decide_eq_true (by omega))
          · cases h
        · rename_i hneg
          cases h
          refine key _ (Int.natAbs_natCast _) ?_
          cases neg with
          | true => exact absurd rfl hneg
          | false => exact decide_eq_false (by omega)
  · rintro ⟨h1, h2, h3⟩
    have e : takeF F.base (layL F neg n) l = some (rowD F i.natAbs) := by
      refine (takeF_iff ok.b2 _ _ _).mpr ⟨by rw [rowD_len, h2, nl], rowD_lt F ok _, ?_, ?_⟩
      · rw [rowD_map]
        unfold codesI at h3
        rw [h1, h2] at h3
        exact h3
      · rw [← h3]
        unfold codesI
        rw [h1, h2]
        have fl : ∀ (b : List (Option Nat)) (ds : List Nat), need b = ds.length → (fillIn b ds).length = b.length := fun b ds => fillIn_full b ds
        exact fl _ _ (by rw [nl, h2])
    rw [e]
    dsimp only
    have hr := (row_iff F ok (rowD F i.natAbs) (rowD_lt F ok _) (by rw [rowD_len, h2]; exact hn)).mpr (by rw [size_rowD F ok])
    rw [rowD_len, h2] at hr
    rw [if_neg hr, size_rowD F ok]
    cases neg with
    | true =>
      have := of_decide_eq_true h1
      rw [if_pos rfl, if_pos (by omega)]
      congr 1
      omega
    | false =>
      have := of_decide_eq_false h1
      rw [if_neg (by decide)]
      congr 1
      omega
/-- all integers with these codes -/
def allN (F : Fm) (l : List Nat) : List Int := (List.range' F.least (l.length + 1 - F.least)).flatMap fun n => (readN F l true n).toList ++ (readN F l false n).toList
theorem codes_ge (F : Fm) (ok : F.Ok) (i : Int) : (rowN F i.natAbs).length ≤ (codesI F i).length ∧ F.least ≤ (rowN F i.natAbs).length := by
  have l1 := ok.l1
  have h2 : F.least ≤ (rowN F i.natAbs).length := by unfold rowN; simp; omega
  refine ⟨?_, h2⟩
  have nl := need_lay F (decide (i < 0)) (show 1 ≤ (rowN F i.natAbs).length by omega)
  unfold codesI
  rw [fillIn_full _ _ nl]
  have : ∀ b : List (Option Nat), need b ≤ b.length := fun b => by
    induction b with
    | nil => exact Nat.le_refl _
    | cons o r ih => cases o <;> simp [need] <;> omega
  have z := this (layL F (decide (i < 0)) (rowN F i.natAbs).length)
  omega
theorem all_iff (F : Fm) (ok : F.Ok) (l : List Nat) (i : Int) : i ∈ allN F l ↔ codesI F i = l := by
  unfold allN
  rw [List.mem_flatMap]
  constructor
  · rintro ⟨n, hn, h⟩
    have hn2 := (List.mem_range'.mp hn)
    obtain ⟨j, _, rfl⟩ := hn2
    rcases List.mem_append.mp h with h | h
    · exact ((read_iff F ok l true _ (by omega) i).mp (Option.mem_toList.mp h)).2.2
    · exact ((read_iff F ok l false _ (by omega) i).mp (Option.mem_toList.mp h)).2.2
  · intro h
    obtain ⟨g1, g2⟩ := codes_ge F ok i
    rw [h] at g1
    refine ⟨(rowN F i.natAbs).length, List.mem_range'.mpr ⟨(rowN F i.natAbs).length - F.least, by omega, by omega⟩, List.mem_append.mpr ?_⟩
    by_cases c : i < 0
    · exact .inl (Option.mem_toList.mpr ((read_iff F ok l true _ g2 i).mpr ⟨decide_eq_true c, rfl, h⟩))
    · exact .inr (Option.mem_toList.mpr ((read_iff F ok l false _ g2 i).mpr ⟨decide_eq_false c, rfl, h⟩))
/-- two rising lists of the same integers are one -/
theorem rise_eq : ∀ {x y : List Int}, x.Pairwise (· < ·) → y.Pairwise (· < ·) → (∀ i, i ∈ x ↔ i ∈ y) → x = y
  | [], [], _, _, _ => rfl
  | [], b :: y, _, _, h => absurd ((h b).mpr (List.mem_cons_self ..)) List.not_mem_nil
  | a :: x, [], _, _, h => absurd ((h a).mp (List.mem_cons_self ..)) List.not_mem_nil
  | a :: x, b :: y, hx, hy, h => by
    obtain ⟨hx1, hx2⟩ := List.pairwise_cons.mp hx
    obtain ⟨hy1, hy2⟩ := List.pairwise_cons.mp hy
    have e : a = b := by
      rcases List.mem_cons.mp ((h a).mp (List.mem_cons_self ..)) with e | m
      · exact e
      · rcases List.mem_cons.mp ((h b).mpr (List.mem_cons_self ..)) with e | m2
        · exact e.symm
        · have := hy1 a m
          have := hx1 b m2
          omega
    subst e
    refine congrArg _ (rise_eq hx2 hy2 fun i => ?_)
    constructor
    · intro hi
      rcases List.mem_cons.mp ((h i).mp (List.mem_cons_of_mem _ hi)) with e | m
      · have := hx1 i hi
        omega
      · exact m
    · intro hi
      rcases List.mem_cons.mp ((h i).mpr (List.mem_cons_of_mem _ hi)) with e | m
      · have := hy1 i hi
        omega
      · exact m
theorem codes_small (F : Fm) (ok : F.Ok) (i : Int) (h : (codesI F i).length ≤ 80) : SmI i := by
  obtain ⟨g1, _⟩ := codes_ge F ok i
  have e : (digs F.base i.natAbs).length ≤ 80 := by
    have : (digs F.base i.natAbs).length ≤ (rowN F i.natAbs).length := by unfold rowN; simp
    omega
  have b1 := ok.b1
  have s := size_lt (b := F.base) (by omega) (digs F.base i.natAbs) fun d hd => digs_lt (by omega) hd
  rw [size_digs ok.b1] at s
  have p1 : F.base ^ (digs F.base i.natAbs).length ≤ 16 ^ 80 := Nat.le_trans (Nat.pow_le_pow_left ok.b2 _) (Nat.pow_le_pow_right (by decide) e)
  have p2 : (16 : Nat) ^ 80 < 10 ^ 100 := by decide +kernel
  unfold SmI
  omega

end Fg
set_option Elab.async false
set_option linter.all false
set_option maxRecDepth 100000
set_option maxHeartbeats 4000000
namespace Fg
open PySem PySem.Spec PyProof.Rows L2
local macro_rules | `(tactic| walk_at "hp") => `(tactic| first | assumption | (refine Same.get (by assumption) ?_; walk_at "hp"))
local macro_rules | `(tactic| walk_at "sq") => `(tactic| first | assumption | (exact Or.inr (by assumption)) | (exact Or.inl (by assumption)) | (exact Or.inl (SqL.of (by walk_at "hp"))) | (exact Or.inr (SqT.of (by walk_at "hp"))) | (exact SqL.of (by walk_at "hp")) | (exact SqT.of (by walk_at "hp")))
local macro_rules | `(tactic| walk_at "cl") => `(tactic| first | ((first | show (_ : Int) < _ | show (_ : Int) ≤ _); first | omega | decide) | ((first | show (_ : Nat) < _ | show (_ : Nat) ≤ _); first | with_reducible assumption | (refine sz_le ?_; first | decide | omega | (simp <;> omega)) | (refine sz_lt ?_; first | decide | omega | (simp <;> omega)) | omega | decide | ((with_reducible show List.length _ < _); exact Nat.le_of_ble_eq_true rfl)) | rfl | walk_at "hp" | walk_at "sq" | (refine And.intro (by walk_at "cl") (by walk_at "cl")) | (exact Exists.intro _ (by walk_at "hp")) | (exact Exists.intro _ (Exists.intro _ (by walk_at "hp"))) | (exact Exists.intro _ (Exists.intro _ (And.intro (by walk_at "hp") rfl))) | decide | (exact Or.inl (by walk_at "cl")) | (exact Or.inr (by walk_at "cl")) | omega)
local macro_rules | `(tactic| walk_at "s1") => `(tactic| first | refine And.intro (by walk_at "cl") ?_ | apply Exists.intro)
local macro_rules | `(tactic| walk_at "sx") => `(tactic| repeat walk_at "s1")
local macro_rules | `(tactic| walk_at "si") => `(tactic| first | refine iteY rfl ?_ | refine iteN rfl ?_)
local macro_rules | `(tactic| walk_at "sy") => `(tactic| repeat first | walk_at "s1" | walk_at "si")
/-- an invariant of a loop whose turns leave nothing -/
theorem Loop.byAny {st : Hp → Prop} {g : TG} {tb : TS} {D : Ends} (Pv : List V → L2.St → Hp → Prop)
    (hs : ∀ (D : Ends) x r σ H, Pv (x :: r) σ H → ∀ N : L2.St → Hp → Prop, (∀ σ' H', st H' → Pv r σ' H' → N σ' H') → g x σ H fun σ2 H2 => tb { D with nx := N, ct := N, bk := D.nx } σ2 H2)
    (hd : ∀ σ H, Pv [] σ H → D.nx σ H) (xs : List V) (σ : L2.St) (H : Hp) (h : Pv xs σ H) : Loop st g tb D xs σ H := Loop.by Pv (hs D) hd xs σ H h
theorem TyX.ext {K : PySem.W.Frag} {H H' : Hp} {v : V} {t : Value} (s : LamX.ExtN H H') (h : TyX K H v t) : TyX K H' v t := by
  cases h with
  | base b =>
    cases b with
    | non => exact .base .non
    | bl b => exact .base (.bl b)
    | int b => exact .base (.int b)
    | str b => exact .base (.str b)
    | flt b => exact .base (.flt b)
    | lst e => exact .base (.lst (s _ _ e fun _ z => by cases z))
    | frz e => exact .base (.frz (s _ _ e fun _ z => by cases z))
    | tup e => exact .base (.tup (s _ _ e fun _ z => by cases z))
    | dK e => exact .base (.dK (s _ _ e fun _ z => by cases z))
    | dT e => exact .base (.dT (s _ _ e fun _ z => by cases z))
    | ins e cl ha hn htk => exact .base (.ins (s _ _ e fun _ z => by cases z) cl ha hn htk (by assumption))
  | byt b => exact .byt b
  | set e => exact .set (s _ _ e fun _ z => by cases z)
  | kList e c => exact .kList e c
  | kTuple e c => exact .kTuple e c
  | kDict e c => exact .kDict e c
  | fTuple e => exact .fTuple (s _ _ e fun _ z => by cases z)
  | fDict e => exact .fDict (s _ _ e fun _ z => by cases z)
theorem RefTy.ext {K : PySem.W.Frag} {H H' : Hp} {a : Addr} {c : Value} {b : Bool} (s : LamX.ExtN H H') (h : RefTy K H a c b) : RefTy K H' a c b := by
  obtain ⟨t, x, k⟩ := h
  exact ⟨t, TyX.ext s x, k⟩
theorem AnyV.ext {K : PySem.W.Frag} {H H' : Hp} {v : V} (s : LamX.ExtN H H') (h : AnyV K H v) : AnyV K H' v := by
  cases v with
  | ref a => exact ⟨RefTy.ext s h.1, RefTy.ext s h.2⟩
  | _ => exact h
theorem any_of {K : PySem.W.Frag} {H : Hp} {a : Addr} {n : String} (t : TyX K H (.ref a) (.type n)) (h : n = "tuple" ∨ n = "list" ∨ n = "dict") : AnyV K H (.ref a) := by
  rcases h with rfl | rfl | rfl <;> exact ⟨⟨_, t, kit_ty (by decide +kernel)⟩, ⟨_, t, kit_ty (by decide +kernel)⟩⟩
/-- an invariant of a walk over pairs whose turns leave nothing but by the return's end -/
theorem LoopZ.byAny {st : Hp → Prop} {g : TG} {tb : TS} {D : Ends} (Pv : List (V × V) → L2.St → Hp → Prop)
    (hs : ∀ x r σ H, Pv (x :: r) σ H → ∀ N : L2.St → Hp → Prop, (∀ σ' H', st H' → Pv r σ' H' → N σ' H') → ∀ T H', H T = none → Same H H' → H' T = some (.tup [x.1, x.2]) → g (.ref T) σ H' fun σ2 H2 => tb { nx := N, ct := N, bk := D.nx, rt := D.rt } σ2 H2)
    (hd : ∀ σ H, Pv [] σ H → D.nx σ H) (xs : List (V × V)) (σ : L2.St) (H : Hp) (h : Pv xs σ H) : LoopZ st g tb D xs σ H := LoopZ.by Pv hs hd xs σ H h
/-- the same of a walk over a row, the return's end told -/
theorem Loop.byR {st : Hp → Prop} {g : TG} {tb : TS} {D : Ends} (R : VK) (hR : D.rt = R) (Pv : List V → L2.St → Hp → Prop)
    (hs : ∀ (Dn Db : L2.St → Hp → Prop) x r σ H, Pv (x :: r) σ H → ∀ N : L2.St → Hp → Prop, (∀ σ' H', st H' → Pv r σ' H' → N σ' H') → g x σ H fun σ2 H2 => tb { nx := N, ct := N, bk := Dn, rt := R } σ2 H2)
    (hd : ∀ σ H, Pv [] σ H → D.nx σ H) (xs : List V) (σ : L2.St) (H : Hp) (h : Pv xs σ H) : Loop st g tb D xs σ H := Loop.by Pv (fun x r σ H hp N hN => by
      have z := hs D.nx D.nx x r σ H hp N hN
      rw [← hR] at z
      exact z) hd xs σ H h

end Fg
set_option Elab.async false
set_option linter.all false
set_option maxRecDepth 100000
set_option maxHeartbeats 4000000
namespace Fg
open PySem PySem.Spec PyProof.Rows L2
local macro_rules | `(tactic| walk_at "hp") => `(tactic| first | assumption | (refine Same.get (by assumption) ?_; walk_at "hp"))
local macro_rules | `(tactic| walk_at "sq") => `(tactic| first | assumption | (exact Or.inr (by assumption)) | (exact Or.inl (by assumption)) | (exact Or.inl (SqL.of (by walk_at "hp"))) | (exact Or.inr (SqT.of (by walk_at "hp"))) | (exact SqL.of (by walk_at "hp")) | (exact SqT.of (by walk_at "hp")))
local macro_rules | `(tactic| walk_at "cl") => `(tactic| first | ((first | show (_ : Int) < _ | show (_ : Int) ≤ _); first | omega | decide) | ((first | show (_ : Nat) < _ | show (_ : Nat) ≤ _); first | with_reducible assumption | (refine sz_le ?_; first | decide | omega | (simp <;> omega)) | (refine sz_lt ?_; first | decide | omega | (simp <;> omega)) | omega | decide | ((with_reducible show List.length _ < _); exact Nat.le_of_ble_eq_true rfl)) | rfl | walk_at "hp" | walk_at "sq" | (refine And.intro (by walk_at "cl") (by walk_at "cl")) | (exact Exists.intro _ (by walk_at "hp")) | (exact Exists.intro _ (Exists.intro _ (by walk_at "hp"))) | (exact Exists.intro _ (Exists.intro _ (And.intro (by walk_at "hp") rfl))) | decide | (exact Or.inl (by walk_at "cl")) | (exact Or.inr (by walk_at "cl")) | omega)
local macro_rules | `(tactic| walk_at "s1") => `(tactic| first | refine And.intro (by walk_at "cl") ?_ | apply Exists.intro)
local macro_rules | `(tactic| walk_at "sx") => `(tactic| repeat walk_at "s1")
local macro_rules | `(tactic| walk_at "si") => `(tactic| first | refine iteY rfl ?_ | refine iteN rfl ?_)
local macro_rules | `(tactic| walk_at "sy") => `(tactic| repeat first | walk_at "s1" | walk_at "si")
/-- a != b: two tuples of equal items -/
def fEqT (K : PySem.W.Frag) (r : Bool) : R2 := fun x y H Q => match x, y with
  | .ref a, .ref b => ∃ xs ys, SqT K H a xs ∧ SqT K H b ys ∧ Paired (EqW K H 20) xs ys ∧ Q (.bl r) H
  | _, _ => False
theorem f_neT {X : Cx} (hu : X.A.units + 64 < cLine) : OpR X (compareOp .NotEq) (fEqT X.K false) := by
  intro pins s σ H x y v u Q J rx ry h
  unfold fEqT at h
  split at h
  · obtain ⟨xs, ys, ha, hb, hp, q⟩ := h
    cases rx
    cases ry
    obtain ⟨us, r1, p1, _⟩ := J.tuple ha
    obtain ⟨ws, r2, p2, _⟩ := J.tuple hb
    have hsz : us.toArray.size = ws.toArray.size := by rw [List.size_toArray, List.size_toArray, ← r1.length, ← r2.length]; exact Paired.length hp
    refine SeqAt.RcNeAt.tuples (e := fun _ => true) p1 p2 (by omega) (fun j h1 h2 => ?_) _ _ _ _ ?_
    · have k := paired_at (eqW_at J 20 X.A.in1 (by show X.A.units + 1 + 20 < cLine; omega)) hp r1 r2 j (by simpa using h1) (by simpa using h2)
      simpa using k
    · rw [all_true, hsz]
      simp only [beq_self_eq_true, Bool.and_self, Bool.not_true]
      exact ⟨.bl false, H, J, rfl, q⟩
  · exact h.elim
section
variable {P : Program} {w : World} {K : PySem.W.Frag} {mg : Str → Option Value} {base : Heap} {A : Ad}
def sp_size_of (K : PySem.W.Frag) : Sp := s2 fun a c H Q _ => ∃ p b, ∃ ds : List Nat, a = .ref p ∧ c = .int ((b : Nat) : Int) ∧ SqL K H p (ds.map fun (d : Nat) => V.int d) ∧ b ≤ 16 ∧ Q (.int ((sizeN b ds : Nat) : Int)) H
theorem ok_size_of (T : Txt w K mg A) : Callee P w K mg base 1 "size_of" ["figures", "base"] (sp_size_of K) := by
  refine callee_of T.F_size_of sc_size_of (fun _ _ _ _ _ _ us hl => match us, hl with | [_, _], _ => rfl) (fun vs H Q E h => ?_) (fun f cdv Ar outer s H vs Q E hr tk po h => ?_)
  · obtain ⟨_, _, rfl, _⟩ := s2_len h
    rfl
  · obtain ⟨a, c, rfl, p, b, ds, rfl, rfl, h0, hb, q⟩ := s2_len h
    refine ⟨_, (pss_cons (ps_set (i := 2) sc_size_of.nd rfl (Or.inl rfl) pe_int)
      (pss_cons (fs_for po rfl (fi_L (fv 0)) (pg_name (i := 3) sc_size_of.nd rfl (Or.inl rfl)) (pss_one (ps_set (i := 2) sc_size_of.nd rfl (Or.inl rfl) (pe_op f_add (pe_op f_mul (fv 2) (fv 1)) (fv 3)))))
      (pss_one (ps_ret (fv 2))))), ?_⟩
    walk_at "sx"
    refine Loop.byAny (fun rest σ Hc => ∃ (l : List Nat) (z : Nat) (a3 : Option V), rest = (l.map fun (d : Nat) => V.int d) ∧ σ = [some (.ref p), some (.int ((b : Nat) : Int)), some (.int ((z : Nat) : Int)), a3] ∧ l.foldl (fun s d => s * b + d) z = sizeN b ds ∧ Hc = H) ?_ ?_ _ _ _ ?_
    · rintro D x r σ Hc ⟨l, z, a3, hl, rfl, hz, rfl⟩ N hN
      cases l with
      | nil => cases hl
      | cons d l =>
        cases hl
        have cm : CM ((z : Nat) : Int) ((b : Nat) : Int) := .inr (.inl (by omega))
        walk_at "sx"
        exact hN _ _ h0 ⟨l, z * b + d, _, rfl, rfl, hz, rfl⟩
    · rintro σ Hc ⟨l, z, a3, hl, rfl, hz, rfl⟩
      have el : l = [] := by
        cases l with
        | nil => rfl
        | cons a b => cases hl
      subst el
      have ez : z = sizeN b ds := hz
      subst ez
      walk_at "sx"
      exact q
    · exact ⟨ds, 0, none, rfl, rfl, rfl, rfl⟩
end

end Fg
set_option Elab.async false
set_option linter.all false
set_option maxRecDepth 100000
set_option maxHeartbeats 4000000
namespace Fg
open PySem PySem.Spec PyProof.Rows L2
local macro_rules | `(tactic| walk_at "hp") => `(tactic| first | assumption | (refine Same.get (by assumption) ?_; walk_at "hp"))
local macro_rules | `(tactic| walk_at "sq") => `(tactic| first | assumption | (exact Or.inr (by assumption)) | (exact Or.inl (by assumption)) | (exact Or.inl (SqL.of (by walk_at "hp"))) | (exact Or.inr (SqT.of (by walk_at "hp"))) | (exact SqL.of (by walk_at "hp")) | (exact SqT.of (by walk_at "hp")))
local macro_rules | `(tactic| walk_at "cl") => `(tactic| first | ((first | show (_ : Int) < _ | show (_ : Int) ≤ _); first | omega | decide) | ((first | show (_ : Nat) < _ | show (_ : Nat) ≤ _); first | with_reducible assumption | (refine sz_le ?_; first | decide | omega | (simp <;> omega)) | (refine sz_lt ?_; first | decide | omega | (simp <;> omega)) | omega | decide | ((with_reducible show List.length _ < _); exact Nat.le_of_ble_eq_true rfl)) | rfl | walk_at "hp" | walk_at "sq" | (refine And.intro (by walk_at "cl") (by walk_at "cl")) | (exact Exists.intro _ (by walk_at "hp")) | (exact Exists.intro _ (Exists.intro _ (by walk_at "hp"))) | (exact Exists.intro _ (Exists.intro _ (And.intro (by walk_at "hp") rfl))) | decide | (exact Or.inl (by walk_at "cl")) | (exact Or.inr (by walk_at "cl")) | omega)
local macro_rules | `(tactic| walk_at "s1") => `(tactic| first | refine And.intro (by walk_at "cl") ?_ | apply Exists.intro)
local macro_rules | `(tactic| walk_at "sx") => `(tactic| repeat walk_at "s1")
local macro_rules | `(tactic| walk_at "si") => `(tactic| first | refine iteY rfl ?_ | refine iteN rfl ?_)
local macro_rules | `(tactic| walk_at "sy") => `(tactic| repeat first | walk_at "s1" | walk_at "si")
section
variable {P : Program} {w : World} {K : PySem.W.Frag} {mg : Str → Option Value} {base : Heap} {A : Ad}
/-- an integer written in tens -/
def bodyW (l : List Nat) : List Nat := if l.take 1 = [45] then l.drop 1 else l
def optV : Option Int → V
  | some i => .int i
  | none => .non
def tenL : List Nat := (List.range 10).map figC
def intW (l : List Nat) : Option Int :=
  if bodyW l = [] ∨ (bodyW l).any (fun c => decide (c ∉ tenL)) = true then none
  else if (bodyW l).head? = some 48 ∧ l ≠ [48] then none
  else if bodyW l = l then some ((sizeN 10 ((bodyW l).map fun c => c - 48) : Nat) : Int) else some (-((sizeN 10 ((bodyW l).map fun c => c - 48) : Nat) : Int))
theorem cut_one (z : Str) : cutS z none (some (1 : Int)) = ⟨(z.cps.toList.take 1).toArray⟩ := by
  have e : z.cps.toList.length = z.length := Array.length_toList ..
  unfold cutS
  rw [HT.sIx_none, show (1 : Int) = ((1 : Nat) : Int) from rfl, HT.sIx_nat, List.drop_zero, Nat.sub_zero]
  congr 2
  by_cases h : 1 ≤ z.length
  · rw [Nat.min_eq_left h]
  · have : z.cps.toList = [] := List.length_eq_zero_iff.mp (by omega)
    rw [this]; simp
theorem cut_rest (z : Str) : cutS z (some (1 : Int)) none = ⟨(z.cps.toList.drop 1).toArray⟩ := by
  have e : z.cps.toList.length = z.length := Array.length_toList ..
  unfold cutS
  rw [HT.sIx_none, show (1 : Int) = ((1 : Nat) : Int) from rfl, HT.sIx_nat]
  congr 2
  by_cases h : 1 ≤ z.length
  · rw [Nat.min_eq_left h, List.take_of_length_le]
    rw [List.length_drop]
    omega
  · have : z.cps.toList = [] := List.length_eq_zero_iff.mp (by omega)
    rw [this]; simp
theorem str_eta (z : Str) : (⟨z.cps.toList.toArray⟩ : Str) = z := by obtain ⟨⟨l⟩⟩ := z; rfl
theorem tens_cut : (cutS figS none (some (10 : Int))).cps.toList = tenL := by decide +kernel
theorem fig_ten : ∀ d : Fin 10, Txt.index0 figS ⟨#[figC d.val]⟩ = some d.val ∧ figC d.val - 48 = d.val := by decide +kernel
theorem ten_ix {c : Nat} (h : c ∈ tenL) : Txt.index0 figS ⟨#[c]⟩ = some (c - 48) := by
  obtain ⟨d, hd, rfl⟩ := List.mem_map.mp h
  have := fig_ten ⟨d, List.mem_range.mp hd⟩
  rw [this.2]
  exact this.1
/-- a cut between two statements -/
theorem seqCut {t1 t2 : TS} {D : Ends} {σ : L2.St} {H : Hp} (Pc : L2.St → Hp → Prop) (h1 : ∀ N : L2.St → Hp → Prop, (∀ σ' H', Pc σ' H' → N σ' H') → t1 { D with nx := N } σ H) (h2 : ∀ σ' H', Pc σ' H' → t2 D σ' H') : tSeq t1 t2 D σ H := h1 _ h2
def sp_integer_in : Sp := s1 fun a H Q _ => ∃ z, a = .str z ∧ z.length ≤ 1000 ∧ ∀ H', Same H H' → Q (optV (intW z.cps.toList)) H'
theorem ok_integer_in (T : Txt w K mg A) : Callee P w K mg base 2 "integer_in" ["word"] sp_integer_in := by
  refine callee_of T.F_integer_in sc_integer_in (fun _ _ _ _ _ _ us hl => match us, hl with | [_], _ => rfl) (fun vs H Q E h => ?_) (fun f cdv Ar outer s H vs Q E hr tk po h => ?_)
  · obtain ⟨_, rfl, _⟩ := s1_len h
    rfl
  · obtain ⟨a, rfl, z, rfl, hz, q⟩ := s1_len h
    refine ⟨_, (pss_cons (ps_set (i := 1) sc_integer_in.nd rfl (Or.inl rfl) (pe_ifExp (ft_cmp f_eq (pe_slice f_slS (fv 0) po_none (po_some pe_int)) pe_str (nomark _)) (pe_slice f_slS (fv 0) (po_some pe_int) po_none) (fv 0)))
      (pss_cons (ps_if (PW.pt (pw_or (ft_cmp f_eq (fv 1) pe_str (nomark _)) (pw_or1 (ft_val (pe_callB (f_any rfl) (by rfl) T.b_any (by decide +kernel) (pa_cons (fe_lc (own := [("sign", 3)]) (tt := tYes) (by rfl) sc_integer_in.nd (fi_S (fv 1)) (blkOk_by (own := [("sign", 3)]) (N := ["word", "body", "size", "sign"]) (sc := defScope s_integer_in) (by decide +kernel)) (fun _ _ _ _ _ => pg_name (i := 3) sc_integer_in.nd rfl (Or.inl rfl)) (fun _ _ _ _ _ => pts_nil) (fun _ _ _ _ _ => (pe_cmpR f_notInS (fv 3) (pe_slice f_slS (fe_g (by rfl) T.g_FIGURES) po_none (po_some pe_int)) (by rfl)))) pa_nil)))))) (pss_one (ps_ret pe_non)) pss_nil)
      (pss_cons (ps_if (PW.pt (pw_and (ft_cmp f_eq (pe_ix f_ix (fv 1) pe_int (fun _ _ => rfl)) pe_str (nomark _)) (pw_and1 (ft_cmp f_ne (fv 0) pe_str (nomark _))))) (pss_one (ps_ret pe_non)) pss_nil)
      (pss_cons (ps_set (i := 2) sc_integer_in.nd rfl (Or.inl rfl) (fc_call (ok_size_of T) hr (by decide) (by rfl) tk (pa_cons (fe_lc (own := [("sign", 3)]) (tt := tYes) (by rfl) sc_integer_in.nd (fi_S (fv 1)) (blkOk_by (own := [("sign", 3)]) (N := ["word", "body", "size", "sign"]) (sc := defScope s_integer_in) (by decide +kernel)) (fun _ _ _ _ _ => pg_name (i := 3) sc_integer_in.nd rfl (Or.inl rfl)) (fun _ _ _ _ _ => pts_nil) (fun _ _ _ _ _ => (fe_sm1 PySem.F.slot_str_index PySem.F.type_str_index f_sindex (fe_g (by rfl) T.g_FIGURES) (fv 3)))) (pa_cons pe_int pa_nil))))
      (pss_one (ps_ret (pe_ifExp (ft_cmp f_eq (fv 1) (fv 0) (nomark _)) (fv 2) (pe_un un_neg (fv 2))))))))), ?_⟩
    obtain ⟨l, hl⟩ : ∃ l, l = z.cps.toList := ⟨_, rfl⟩
    have zl : z.length ≤ sizeLine := sz_le (by omega)
    refine seqCut (fun σ H' => σ = [some (.str z), some (.str ⟨(bodyW l).toArray⟩), none, none] ∧ H' = H) (fun N hN => ?_) ?_
    · walk_at "sx"
      refine iteD (fun c => ?_) (fun c => ?_)
      · walk_at "sx"
        refine hN _ _ ⟨?_, rfl⟩
        rw [cut_one] at c
        have c1 : l.take 1 = [45] := by
          have c' : (⟨(z.cps.toList.take 1).toArray⟩ : Str) = ⟨#[45]⟩ := c
          injection c' with c'
          rw [hl]
          simpa using congrArg Array.toList c'
        rw [bodyW, if_pos c1, hl, ← cut_rest]
        rfl
      · walk_at "sx"
        refine hN _ _ ⟨?_, rfl⟩
        rw [cut_one] at c
        have c1 : ¬ l.take 1 = [45] := fun c' => c (by
          rw [hl] at c'
          rw [c']
          rfl)
        rw [bodyW, if_neg c1, hl, str_eta]
        rfl
    rintro σ H1 ⟨rfl, rfl⟩
    have bl : (bodyW l).length ≤ 1000 := by
      have e : l.length = z.length := by rw [hl]; exact Array.length_toList ..
      unfold bodyW
      split
      · rw [List.length_drop]; omega
      · omega
    have bz : (⟨(bodyW l).toArray⟩ : Str).length ≤ sizeLine := sz_le (by
      have : (⟨(bodyW l).toArray⟩ : Str).length = (bodyW l).length := by simp [Str.length]
      omega)
    rw [← hl] at q
    unfold intW at q
    refine seqCut (fun σ H' => σ = [some (.str z), some (.str ⟨(bodyW l).toArray⟩), none, none] ∧ Same H1 H' ∧ ¬ (bodyW l = [] ∨ (bodyW l).any (fun c => decide (c ∉ tenL)) = true)) (fun N hN => ?_) ?_
    · refine iteD (fun c => ?_) (fun c => ?_)
      · have b0 : bodyW l = [] := by
          have : (bodyW l) = ("" : Str).cps.toList := congrArg (fun z : Str => z.cps.toList) c
          exact this
        have q' := q H1 (Same.refl _)
        rw [if_pos (.inl b0)] at q'
        exact q'
      · have b0 : ¬ bodyW l = [] := fun b0 => c (by rw [b0]; rfl)
        walk_at "sx"
        refine And.intro trivial ?_
        intro D5 H5 n5 s5 h5
        refine And.intro trivial ?_
        refine Comp.mapP (H0 := H1) (fun y => ∃ c, y = .str ⟨#[c]⟩) (fun v => match v with | .str z => .bl (decide (z.cps.toList.headD 0 ∉ tenL)) | v => v) n5 (fun _ _ => trivial) ?_ _ [] _ ?_ ?_ s5 h5 ?_
        · rintro y Hz R ⟨c, rfl⟩ sz kk
          walk_at "sx"
          have k := kk Hz (Same.refl _)
          have e : opp true (decide (c ∈ tenL)) = decide (c ∉ tenL) := by simp [opp]
          show R (.bl (opp true (decide (c ∈ (cutS figS none (some (10 : Int))).cps.toList)))) Hz
          rw [tens_cut, e]
          exact k
        · intro y hy
          obtain ⟨c, _, rfl⟩ := List.mem_map.mp hy
          exact ⟨c, rfl⟩
        · refine sz_le ?_
          unfold signs
          rw [List.length_map]
          simp only [List.length_nil]
          omega
        intro H6 s6 h6
        have hx : ∃ bs : List Bool, H6 D5 = some (.lst (bs.map V.bl)) ∧ bs.any id = (bodyW l).any (fun c => decide (c ∉ tenL)) := by
          refine ⟨(bodyW l).map fun c => decide (c ∉ tenL), ?_, by rw [List.any_map]; rfl⟩
          rw [h6, List.nil_append]
          unfold signs
          rw [List.map_map, List.map_map]
          rfl
        obtain ⟨bs, h6b, eb⟩ := hx
        have q6 : SqL K H6 D5 (bs.map V.bl) := SqL.of h6b
        walk_at "sx"
        refine iteB (fun g => ?_) (fun g => ?_)
        · have q' := q H6 s6
          rw [if_pos (.inr (eb.symm.trans g))] at q'
          exact q'
        · exact hN _ _ ⟨rfl, s6, fun z => z.elim b0 fun z2 => by
            have g2 : bs.any id = false := g
            rw [eb, z2] at g2
            cases g2⟩
    rintro σ H2 ⟨rfl, s2, hb⟩
    simp only [if_neg hb] at q
    refine seqCut (fun σ H' => σ = [some (.str z), some (.str ⟨(bodyW l).toArray⟩), none, none] ∧ Same H1 H' ∧ ¬ ((bodyW l).head? = some 48 ∧ l ≠ [48])) (fun N hN => ?_) ?_
    · obtain ⟨d0, r0, eb⟩ : ∃ d r, bodyW l = d :: r := by
        cases e : bodyW l with
        | nil => exact absurd (.inl e) hb
        | cons d r => exact ⟨d, r, rfl⟩
      have a0 : atI (⟨(bodyW l).toArray⟩ : Str).cps.toList ((0 : Nat) : Int) = some d0 := atI_nat (by rw [eb]; rfl)
      have a1 : atI (⟨(bodyW l).toArray⟩ : Str).cps.toList (0 : Int) = some d0 := a0
      walk_at "sx"
      refine iteD (fun c1 => ?_) (fun c1 => ?_)
      · have ed : d0 = 48 := by
          have c2 : (⟨#[d0]⟩ : Str) = ⟨#[48]⟩ := c1
          injection c2 with c2
          simpa using c2
        refine iteB (fun g => ?_) (fun g => ?_)
        · have g2 : (!decide (z = ("0" : Str))) = true := g
          have hne : l ≠ [48] := fun z2 => by
            have : z = ("0" : Str) := by
              rw [← str_eta z, ← hl, z2]
              rfl
            rw [decide_eq_true this] at g2
            cases g2
          have q' := q H2 s2
          rw [if_pos ⟨by rw [eb, ed]; rfl, hne⟩] at q'
          exact q'
        · refine hN _ _ ⟨rfl, s2, fun z2 => z2.2 ?_⟩
          have g2 : (!decide (z = ("0" : Str))) = false := g
          have g3 : z = ("0" : Str) := by simpa using g2
          rw [hl, g3]
          rfl
      · refine iteN rfl ?_
        refine hN _ _ ⟨rfl, s2, fun z2 => c1 ?_⟩
        rw [eb] at z2
        have : d0 = 48 := by simpa using z2.1
        rw [this]
        rfl
    rintro σ H3 ⟨rfl, s3, h0⟩
    simp only [if_neg h0] at q
    have tn : ∀ c ∈ bodyW l, c ∈ tenL := fun c hc => Classical.byContradiction fun n => hb (.inr (List.any_eq_true.mpr ⟨c, hc, decide_eq_true n⟩))
    walk_at "sx"
    refine And.intro trivial ?_
    intro D5 H5 n5 s5 h5
    refine And.intro trivial ?_
    refine Comp.mapP (H0 := H3) (fun y => ∃ c, y = .str ⟨#[c]⟩ ∧ c ∈ tenL) (fun v => match v with | .str z => .int ((z.cps.toList.headD 0 - 48 : Nat) : Int) | v => v) n5 (fun _ _ => trivial) ?_ _ [] _ ?_ ?_ s5 h5 ?_
    · rintro y Hz R ⟨c, rfl, hc⟩ sz kk
      have ix := ten_ix hc
      walk_at "sx"
      exact kk Hz (Same.refl _)
    · intro y hy
      obtain ⟨c, hc, rfl⟩ := List.mem_map.mp hy
      exact ⟨c, rfl, tn c hc⟩
    · refine sz_le ?_
      unfold signs
      rw [List.length_map]
      simp only [List.length_nil]
      omega
    intro H6 s6 h6
    have h6b : H6 D5 = some (.lst (((bodyW l).map fun c => c - 48).map fun (d : Nat) => V.int d)) := by
      rw [h6, List.nil_append]
      unfold signs
      rw [List.map_map, List.map_map]
      rfl
    have q6 : SqL K H6 D5 (((bodyW l).map fun c => c - 48).map fun (d : Nat) => V.int d) := SqL.of h6b
    have q' := q H6 (s3.trans s6)
    walk_at "sx"
    refine iteD (fun g => ?_) (fun g => ?_)
    · have g2 : bodyW l = l := by
        rw [hl]
        rw [hl] at g
        exact congrArg (fun z : Str => z.cps.toList) g
      rw [if_pos g2] at q'
      exact q'
    · have g2 : ¬ bodyW l = l := fun g2 => g (by rw [g2, hl])
      rw [if_neg g2] at q'
      walk_at "sx"
      exact q'
/-- the sign with a code -/
def signW (n : Int) : Option Nat := if 32 ≤ n ∧ n ≤ 126 ∧ n ≠ 37 then some n.toNat else none
theorem sgn_at : ∀ k : Fin 127, 32 ≤ k.val → k.val ≠ 37 → atI printS.cps.toList (if k.val < 37 then ((k.val : Nat) : Int) - 32 else ((k.val : Nat) : Int) - 33) = some k.val := by decide +kernel
def sp_sign_of : Sp := s1 fun a H Q _ => ∃ n, a = .int n ∧ Q (match signW n with | some c => .str (chS c) | none => .non) H
theorem ok_sign_of (T : Txt w K mg A) : Callee P w K mg base 1 "sign_of" ["code"] sp_sign_of := by
  refine callee_of T.F_sign_of sc_sign_of (fun _ _ _ _ _ _ us hl => match us, hl with | [_], _ => rfl) (fun vs H Q E h => ?_) (fun f cdv Ar outer s H vs Q E hr tk po h => ?_)
  · obtain ⟨_, rfl, _⟩ := s1_len h
    rfl
  · obtain ⟨a, rfl, n, rfl, q⟩ := s1_len h
    refine ⟨_, (pss_cons (ps_if (PW.pt (pw_or (pt_not (pt_chain f_le f_le pe_int (fv 0) pe_int)) (pw_or1 (ft_cmp f_eq (fv 0) pe_int (nomark _))))) (pss_one (ps_ret pe_non)) pss_nil)
      (pss_one (ps_ret (pe_ifExp (ft_cmp f_lt (fv 0) pe_int (nomark _)) (pe_ix f_ix (fe_g (by rfl) T.g_PRINT) (pe_op f_sub (fv 0) pe_int) (fun _ _ => rfl)) (pe_ix f_ix (fe_g (by rfl) T.g_PRINT) (pe_op f_sub (fv 0) pe_int) (fun _ _ => rfl)))))), ?_⟩
    have no : ¬ (32 ≤ n ∧ n ≤ 126 ∧ n ≠ 37) → Q .non H := fun h => by
      unfold signW at q
      rw [if_neg h] at q
      exact q
    walk_at "sx"
    refine iteD (fun c1 => ?_) (fun c1 => ?_)
    · walk_at "sx"
      refine iteB (fun c2 => ?_) (fun c2 => ?_)
      · have c2' : ¬ n ≤ 126 := by simpa using c2
        refine iteY rfl ?_
        exact no fun z => c2' z.2.1
      · have c2' : n ≤ 126 := by simpa using c2
        refine iteD (fun c3 => ?_) (fun c3 => ?_)
        · exact no fun z => z.2.2 c3
        · have yes : Q (.str (chS n.toNat)) H := by
            unfold signW at q
            rw [if_pos ⟨c1, c2', c3⟩] at q
            exact q
          have at1 := sgn_at ⟨n.toNat, by omega⟩ (by show 32 ≤ n.toNat; omega) (by show n.toNat ≠ 37; omega)
          have pz : printS.length ≤ sizeLine := sz_le (by decide +kernel)
          refine iteD (fun c4 => ?_) (fun c4 => ?_)
          · rw [if_pos (show n.toNat < 37 by omega)] at at1
            rw [show ((n.toNat : Nat) : Int) = n by omega] at at1
            exact And.intro pz (Exists.intro _ (And.intro at1 yes))
          · rw [if_neg (show ¬ n.toNat < 37 by omega)] at at1
            rw [show ((n.toNat : Nat) : Int) = n by omega] at at1
            exact And.intro pz (Exists.intro _ (And.intro at1 yes))
    · walk_at "sx"
      refine iteY rfl ?_
      refine iteY rfl ?_
      exact no fun z => c1 z.1
end

end Fg
set_option Elab.async false
set_option linter.all false
set_option maxRecDepth 100000
set_option maxHeartbeats 4000000
namespace Fg
open PySem PySem.Spec PyProof.Rows L2
local macro_rules | `(tactic| walk_at "hp") => `(tactic| first | assumption | (refine Same.get (by assumption) ?_; walk_at "hp"))
local macro_rules | `(tactic| walk_at "sq") => `(tactic| first | assumption | (exact Or.inr (by assumption)) | (exact Or.inl (by assumption)) | (exact Or.inl (SqL.of (by walk_at "hp"))) | (exact Or.inr (SqT.of (by walk_at "hp"))) | (exact SqL.of (by walk_at "hp")) | (exact SqT.of (by walk_at "hp")))
local macro_rules | `(tactic| walk_at "cl") => `(tactic| first | ((first | show (_ : Int) < _ | show (_ : Int) ≤ _); first | omega | decide) | ((first | show (_ : Nat) < _ | show (_ : Nat) ≤ _); first | with_reducible assumption | (refine sz_le ?_; first | decide | omega | (simp <;> omega)) | (refine sz_lt ?_; first | decide | omega | (simp <;> omega)) | omega | decide | ((with_reducible show List.length _ < _); exact Nat.le_of_ble_eq_true rfl)) | rfl | walk_at "hp" | walk_at "sq" | (refine And.intro (by walk_at "cl") (by walk_at "cl")) | (exact Exists.intro _ (by walk_at "hp")) | (exact Exists.intro _ (Exists.intro _ (by walk_at "hp"))) | (exact Exists.intro _ (Exists.intro _ (And.intro (by walk_at "hp") rfl))) | decide | (exact Or.inl (by walk_at "cl")) | (exact Or.inr (by walk_at "cl")) | omega)
local macro_rules | `(tactic| walk_at "s1") => `(tactic| first | refine And.intro (by walk_at "cl") ?_ | apply Exists.intro)
local macro_rules | `(tactic| walk_at "sx") => `(tactic| repeat walk_at "s1")
local macro_rules | `(tactic| walk_at "si") => `(tactic| first | refine iteY rfl ?_ | refine iteN rfl ?_)
local macro_rules | `(tactic| walk_at "sy") => `(tactic| repeat first | walk_at "s1" | walk_at "si")
/-! ### a setting's word -/
theorem ten_sub : ∀ d : Fin 10, figC d.val - 48 = d.val := by decide +kernel
theorem ten_back {c : Nat} (h : c ∈ tenL) : c - 48 < 10 ∧ figC (c - 48) = c := by
  obtain ⟨d, hd, rfl⟩ := List.mem_map.mp h
  have := ten_sub ⟨d, List.mem_range.mp hd⟩
  rw [this]
  exact ⟨List.mem_range.mp hd, rfl⟩
theorem tens_said : ∀ n : Fin 127, ((toString ((n.val : Nat) : Int) : String) : Str).cps.toList = (digs 10 n.val).map figC := by decide +kernel
theorem head_zero {ds : List Nat} (h : ∀ d ∈ ds, d < 10) (hn : ds ≠ []) (h0 : ds.head? ≠ some 0 ∨ ds = [0]) : ds = digs 10 (sizeN 10 ds) := by
  obtain ⟨k, hk⟩ := size_strip (b := 10) (by decide) _ ds rfl hn h
  rcases h0 with h0 | h0
  · cases k with
    | zero => exact hk
    | succ k => exact absurd (by rw [hk]; rfl) h0
  · subst h0
    decide
/-- an integer from 0 to 126 has one word -/
theorem int_word {l : List Nat} {n : Int} (h : intW l = some n) (h0 : 0 ≤ n) (h1 : n ≤ 126) : l = ((toString n : String) : Str).cps.toList := by
  unfold intW at h
  split at h
  · cases h
  · rename_i hb
    split at h
    · cases h
    · rename_i hz
      have bn : bodyW l ≠ [] := fun z => hb (.inl z)
      have tn : ∀ c ∈ bodyW l, c ∈ tenL := fun c hc => Classical.byContradiction fun n => hb (.inr (List.any_eq_true.mpr ⟨c, hc, decide_eq_true n⟩))
      have back : ((bodyW l).map fun c => c - 48).map figC = bodyW l := by
        rw [List.map_map]
        exact (List.map_congr_left fun c hc => (ten_back (tn c hc)).2).trans (List.map_id _)
      have lt : ∀ d ∈ (bodyW l).map fun c => c - 48, d < 10 := fun d hd => by
        obtain ⟨c, hc, rfl⟩ := List.mem_map.mp hd
        exact (ten_back (tn c hc)).1
      have nn : ((bodyW l).map fun c => c - 48) ≠ [] := fun z => bn (by simpa using z)
      have hd : ((bodyW l).map fun c => c - 48).head? = some 0 → (bodyW l).head? = some 48 := fun z => by
        cases e : bodyW l with
        | nil => exact absurd e bn
        | cons c r =>
          rw [e] at z
          have z1 : c - 48 = 0 := by simpa using z
          have z2 := (ten_back (tn c (by rw [e]; exact List.mem_cons_self ..))).2
          rw [z1] at z2
          rw [← z2]
          rfl
      split at h
      · rename_i e
        cases h
        have key : ((bodyW l).map fun c => c - 48) = digs 10 (sizeN 10 ((bodyW l).map fun c => c - 48)) := by
          refine head_zero lt nn ?_
          by_cases z : ((bodyW l).map fun c => c - 48).head? = some 0
          · right
            have l48 : l = [48] := Classical.byContradiction fun q => hz ⟨hd z, q⟩
            rw [e, l48]
            rfl
          · exact .inl z
        have t := tens_said ⟨sizeN 10 ((bodyW l).map fun c => c - 48), by omega⟩
        have t' : ((toString ((sizeN 10 ((bodyW l).map fun c => c - 48) : Nat) : Int) : String) : Str).cps.toList = (digs 10 (sizeN 10 ((bodyW l).map fun c => c - 48))).map figC := t
        rw [t', ← key, back, e]
      · rename_i e
        cases h
        have s0 : sizeN 10 ((bodyW l).map fun c => c - 48) = 0 := by omega
        exfalso
        obtain ⟨k, hk⟩ := size_strip (b := 10) (by decide) _ _ rfl nn lt
        rw [s0] at hk
        have z : ((bodyW l).map fun c => c - 48).head? = some 0 := by
          rw [hk]
          cases k with
          | zero => rfl
          | succ k => rfl
        exact hz ⟨hd z, fun q => e (by rw [q]; rfl)⟩
/-- what a setting's word tells -/
def valW (s w : Str) : V :=
  if s = "sign" ∨ s = "side" then (if okS s (.str w) = true then .str w else .non)
  else match intW w.cps.toList with
    | none => .non
    | some n => if s = "mark" ∨ s = "fill" then (match signW n with | some c => if okS s (.str (chS c)) = true then .str (chS c) else .non | none => .non) else if okS s (.int n) = true then .int n else .non

end Fg
set_option Elab.async false
set_option linter.all false
set_option maxRecDepth 100000
set_option maxHeartbeats 4000000
namespace Fg
open PySem PySem.Spec PyProof.Rows L2
local macro_rules | `(tactic| walk_at "hp") => `(tactic| first | assumption | (refine Same.get (by assumption) ?_; walk_at "hp"))
local macro_rules | `(tactic| walk_at "sq") => `(tactic| first | assumption | (exact Or.inr (by assumption)) | (exact Or.inl (by assumption)) | (exact Or.inl (SqL.of (by walk_at "hp"))) | (exact Or.inr (SqT.of (by walk_at "hp"))) | (exact SqL.of (by walk_at "hp")) | (exact SqT.of (by walk_at "hp")))
local macro_rules | `(tactic| walk_at "cl") => `(tactic| first | ((first | show (_ : Int) < _ | show (_ : Int) ≤ _); first | omega | decide) | ((first | show (_ : Nat) < _ | show (_ : Nat) ≤ _); first | with_reducible assumption | (refine sz_le ?_; first | decide | omega | (simp <;> omega)) | (refine sz_lt ?_; first | decide | omega | (simp <;> omega)) | omega | decide | ((with_reducible show List.length _ < _); exact Nat.le_of_ble_eq_true rfl)) | rfl | walk_at "hp" | walk_at "sq" | (refine And.intro (by walk_at "cl") (by walk_at "cl")) | (exact Exists.intro _ (by walk_at "hp")) | (exact Exists.intro _ (Exists.intro _ (by walk_at "hp"))) | (exact Exists.intro _ (Exists.intro _ (And.intro (by walk_at "hp") rfl))) | decide | (exact Or.inl (by walk_at "cl")) | (exact Or.inr (by walk_at "cl")) | omega)
local macro_rules | `(tactic| walk_at "s1") => `(tactic| first | refine And.intro (by walk_at "cl") ?_ | apply Exists.intro)
local macro_rules | `(tactic| walk_at "sx") => `(tactic| repeat walk_at "s1")
local macro_rules | `(tactic| walk_at "si") => `(tactic| first | refine iteY rfl ?_ | refine iteN rfl ?_)
local macro_rules | `(tactic| walk_at "sy") => `(tactic| repeat first | walk_at "s1" | walk_at "si")
/-! ### words put together and apart -/
def glueL (c : Nat) : List (List Nat) → List Nat
  | [] => []
  | [x] => x
  | x :: y :: r => x ++ c :: glueL c (y :: r)
theorem app_free {c : Nat} : ∀ {a b : List Nat} {r s : List Nat}, c ∉ a → c ∉ b → a ++ c :: r = b ++ c :: s → a = b ∧ r = s
  | [], [], r, s, _, _, h => ⟨rfl, by simpa using h⟩
  | [], y :: b, r, s, _, hb, h => by
    rw [List.nil_append, List.cons_append] at h
    injection h with e _
    exact absurd (e ▸ List.mem_cons_self ..) hb
  | x :: a, [], r, s, ha, _, h => by
    rw [List.nil_append, List.cons_append] at h
    injection h with e _
    exact absurd (e ▸ List.mem_cons_self ..) ha
  | x :: a, y :: b, r, s, ha, hb, h => by
    rw [List.cons_append, List.cons_append] at h
    injection h with e h
    obtain ⟨e1, e2⟩ := app_free (fun z => ha (List.mem_cons_of_mem _ z)) (fun z => hb (List.mem_cons_of_mem _ z)) h
    exact ⟨by rw [e, e1], e2⟩
theorem glueL_has {c : Nat} {x y : List Nat} {r : List (List Nat)} : c ∈ glueL c (x :: y :: r) := by
  unfold glueL
  simp
theorem glueL_inj {c : Nat} : ∀ {xs ys : List (List Nat)}, xs ≠ [] → ys ≠ [] → (∀ x ∈ xs, c ∉ x) → (∀ y ∈ ys, c ∉ y) → glueL c xs = glueL c ys → xs = ys
  | [], _, h, _, _, _, _ => absurd rfl h
  | _, [], _, h, _, _, _ => absurd rfl h
  | [x], [y], _, _, _, _, h => by rw [show x = y from h]
  | [x], y :: z :: r, _, _, hx, _, h => by
    refine absurd ?_ (hx x (List.mem_singleton.mpr rfl))
    rw [show x = glueL c (y :: z :: r) from h]
    exact glueL_has
  | x :: z :: r, [y], _, _, _, hy, h => by
    refine absurd ?_ (hy y (List.mem_singleton.mpr rfl))
    rw [show y = glueL c (x :: z :: r) from h.symm]
    exact glueL_has
  | x :: x2 :: r, y :: y2 :: s, _, _, hx, hy, h => by
    rw [glueL, glueL] at h
    obtain ⟨e1, e2⟩ := app_free (hx x (List.mem_cons_self ..)) (hy y (List.mem_cons_self ..)) h
    have := glueL_inj (xs := x2 :: r) (ys := y2 :: s) (by simp) (by simp) (fun z hz => hx z (List.mem_cons_of_mem _ hz)) (fun z hz => hy z (List.mem_cons_of_mem _ hz)) e2
    rw [e1, this]
theorem join_codes (c : Nat) : ∀ ws : List Str, (Txt.join ⟨#[c]⟩ ws).cps.toList = glueL c (ws.map fun w => w.cps.toList)
  | [] => rfl
  | [x] => rfl
  | x :: y :: r => by
    have ih := join_codes c (y :: r)
    have e : Txt.join ⟨#[c]⟩ (x :: y :: r) = x ++ ⟨#[c]⟩ ++ Txt.join ⟨#[c]⟩ (y :: r) := by
      unfold Txt.join
      rw [StrLaws.glued_eq_join, StrLaws.glued_eq_join]
      rfl
    rw [e, str_app, str_app, List.map_cons, List.map_cons, glueL]
    simp only [Array.toList_append, List.append_assoc]
    rw [ih]
    rfl
theorem str_eq {a b : Str} (h : a.cps.toList = b.cps.toList) : a = b := by
  obtain ⟨⟨l⟩⟩ := a
  obtain ⟨⟨m⟩⟩ := b
  have : l = m := h
  rw [this]
theorem map_cps_inj : ∀ {a b : List Str}, a.map (fun w : Str => w.cps.toList) = b.map (fun w : Str => w.cps.toList) → a = b
  | [], [], _ => rfl
  | [], _ :: _, h => by cases h
  | _ :: _, [], h => by cases h
  | x :: a, y :: b, h => by
    rw [List.map_cons, List.map_cons] at h
    injection h with h1 h2
    rw [str_eq h1, map_cps_inj h2]
theorem join_split1 (z : Str) (c : Nat) : Txt.join ⟨#[c]⟩ (Txt.split z ⟨#[c]⟩) = z := by
  unfold Txt.join
  rw [StrLaws.glued_eq_join]
  exact StrLaws.join_split _ _
theorem split_join {c : Nat} {ws : List Str} (hn : ws ≠ []) (hf : ∀ w ∈ ws, c ∉ w.cps.toList) : Txt.split (Txt.join ⟨#[c]⟩ ws) ⟨#[c]⟩ = ws := by
  have h1 : Txt.join ⟨#[c]⟩ (Txt.split (Txt.join ⟨#[c]⟩ ws) ⟨#[c]⟩) = Txt.join ⟨#[c]⟩ ws := join_split1 _ _
  have h2 : (Txt.join ⟨#[c]⟩ (Txt.split (Txt.join ⟨#[c]⟩ ws) ⟨#[c]⟩)).cps.toList = (Txt.join ⟨#[c]⟩ ws).cps.toList := by rw [h1]
  rw [join_codes, join_codes] at h2
  have hp : (Txt.split (Txt.join ⟨#[c]⟩ ws) ⟨#[c]⟩) ≠ [] := fun e => by
    have := split_pos (Txt.join ⟨#[c]⟩ ws) ⟨#[c]⟩
    rw [e] at this
    exact absurd this (by decide)
  refine map_cps_inj (glueL_inj (c := c) (by simpa using hp) (by simpa using hn) ?_ ?_ h2)
  · intro x hx
    obtain ⟨w, hw, rfl⟩ := List.mem_map.mp hx
    exact StrLaws.split_free _ c w hw
  · intro x hx
    obtain ⟨w, hw, rfl⟩ := List.mem_map.mp hx
    exact hf w hw
theorem split_one (z : Str) (c : Nat) : 1 ≤ (Txt.split z ⟨#[c]⟩).length := split_pos z ⟨#[c]⟩
theorem piece_len {z : Str} {c : Nat} {w : Str} (h : w ∈ Txt.split z ⟨#[c]⟩) : w.length ≤ z.length := by
  have e : (Txt.join ⟨#[c]⟩ (Txt.split z ⟨#[c]⟩)).cps.toList.length = z.cps.toList.length := by rw [join_split1]
  rw [join_codes] at e
  have lem : ∀ (xs : List (List Nat)) (x : List Nat), x ∈ xs → x.length ≤ (glueL c xs).length := fun xs => by
    induction xs with
    | nil => intro x hx; cases hx
    | cons a r ih =>
      intro x hx
      cases r with
      | nil => rw [List.mem_singleton.mp hx]; exact Nat.le_refl _
      | cons b r =>
        rw [glueL, List.length_append, List.length_cons]
        rcases List.mem_cons.mp hx with rfl | hx
        · omega
        · have := ih x hx
          omega
  have l1 := lem _ w.cps.toList (List.mem_map_of_mem (f := fun w : Str => w.cps.toList) h)
  have e2 : z.cps.toList.length = z.length := Array.length_toList ..
  have e3 : w.cps.toList.length = w.length := Array.length_toList ..
  omega

end Fg
set_option Elab.async false
set_option linter.all false
set_option maxRecDepth 100000
set_option maxHeartbeats 4000000
namespace Fg
open PySem PySem.Spec PyProof.Rows L2
local macro_rules | `(tactic| walk_at "hp") => `(tactic| first | assumption | (refine Same.get (by assumption) ?_; walk_at "hp"))
local macro_rules | `(tactic| walk_at "sq") => `(tactic| first | assumption | (exact Or.inr (by assumption)) | (exact Or.inl (by assumption)) | (exact Or.inl (SqL.of (by walk_at "hp"))) | (exact Or.inr (SqT.of (by walk_at "hp"))) | (exact SqL.of (by walk_at "hp")) | (exact SqT.of (by walk_at "hp")))
local macro_rules | `(tactic| walk_at "cl") => `(tactic| first | ((first | show (_ : Int) < _ | show (_ : Int) ≤ _); first | omega | decide) | ((first | show (_ : Nat) < _ | show (_ : Nat) ≤ _); first | with_reducible assumption | (refine sz_le ?_; first | decide | omega | (simp <;> omega)) | (refine sz_lt ?_; first | decide | omega | (simp <;> omega)) | omega | decide | ((with_reducible show List.length _ < _); exact Nat.le_of_ble_eq_true rfl)) | rfl | walk_at "hp" | walk_at "sq" | (refine And.intro (by walk_at "cl") (by walk_at "cl")) | (exact Exists.intro _ (by walk_at "hp")) | (exact Exists.intro _ (Exists.intro _ (by walk_at "hp"))) | (exact Exists.intro _ (Exists.intro _ (And.intro (by walk_at "hp") rfl))) | decide | (exact Or.inl (by walk_at "cl")) | (exact Or.inr (by walk_at "cl")) | omega)
local macro_rules | `(tactic| walk_at "s1") => `(tactic| first | refine And.intro (by walk_at "cl") ?_ | apply Exists.intro)
local macro_rules | `(tactic| walk_at "sx") => `(tactic| repeat walk_at "s1")
local macro_rules | `(tactic| walk_at "si") => `(tactic| first | refine iteY rfl ?_ | refine iteN rfl ?_)
local macro_rules | `(tactic| walk_at "sy") => `(tactic| repeat first | walk_at "s1" | walk_at "si")
/-! ### the settings that a text tells -/
theorem V_str_ne {z : Str} : V.str z ≠ .non := fun e => by cases e
theorem int_said : ∀ n : Fin 127, intW ((toString ((n.val : Nat) : Int) : String) : Str).cps.toList = some ((n.val : Nat) : Int) ∧ 32 ∉ ((toString ((n.val : Nat) : Int) : String) : Str).cps.toList := by decide +kernel
theorem int_read {n : Nat} (h : n ≤ 126) : intW ((toString (n : Int) : String) : Str).cps.toList = some (n : Int) := (int_said ⟨n, by omega⟩).1
theorem int_free {n : Nat} (h : n ≤ 126) : 32 ∉ ((toString (n : Int) : String) : Str).cps.toList := (int_said ⟨n, by omega⟩).2
theorem sp_str : (" " : Str) = ⟨#[32]⟩ := rfl
theorem said_free {F : Fm} (ok : F.Ok) : ∀ w ∈ F.said, 32 ∉ w.cps.toList := by
  obtain ⟨b1, b2, si, l1, l2, gr, ma, wi, fi, sd⟩ := ok
  have m1 := print_lt ma
  have m2 := print_lt fi
  have lit : ∀ w ∈ setNames, 32 ∉ w.cps.toList := by decide +kernel
  have s1 : 32 ∉ F.sign.cps.toList := by rcases si with e | e | e <;> rw [e] <;> decide +kernel
  have s2 : 32 ∉ F.side.cps.toList := by rcases sd with e | e | e | e <;> rw [e] <;> decide +kernel
  intro w hw
  unfold Fm.said at hw
  simp only [List.mem_cons, List.not_mem_nil, or_false] at hw
  rcases hw with rfl | rfl | rfl | rfl | rfl | rfl | rfl | rfl | rfl | rfl | rfl | rfl | rfl | rfl | rfl | rfl
  · exact lit _ (by decide +kernel)
  · exact int_free (by omega)
  · exact lit _ (by decide +kernel)
  · exact s1
  · exact lit _ (by decide +kernel)
  · exact int_free (by omega)
  · exact lit _ (by decide +kernel)
  · exact int_free (by omega)
  · exact lit _ (by decide +kernel)
  · exact int_free (by omega)
  · exact lit _ (by decide +kernel)
  · exact int_free (by omega)
  · exact lit _ (by decide +kernel)
  · exact int_free (by omega)
  · exact lit _ (by decide +kernel)
  · exact s2
theorem words_split {F : Fm} (ok : F.Ok) : Txt.split F.words " " = F.said := split_join (c := 32) (by unfold Fm.said; simp) (said_free ok)
/-- the values' words -/
def Fm.odd (F : Fm) : List Str := [toString (F.base : Int), F.sign, toString (F.least : Int), toString (F.group : Int), toString (F.mark : Int), toString (F.width : Int), toString (F.fill : Int), F.side]
/-- the values that the words tell -/
def tellW (ws : List Str) : List V := List.zipWith valW setNames ws
theorem okS_all {F : Fm} (ok : F.Ok) : okS "base" (.int F.base) = true ∧ okS "sign" (.str F.sign) = true ∧ okS "least" (.int F.least) = true ∧ okS "group" (.int F.group) = true ∧ okS "mark" (.str (chS F.mark)) = true ∧ okS "width" (.int F.width) = true ∧ okS "fill" (.str (chS F.fill)) = true ∧ okS "side" (.str F.side) = true := by
  obtain ⟨b1, b2, si, l1, l2, gr, ma, wi, fi, sd⟩ := ok
  have bt : ∀ {lo hi : Int} {n : Nat}, lo ≤ n → (n : Int) ≤ hi → isBetw lo hi (.int (n : Nat)) = true := fun {lo hi n} a b => by
    show (decide _ && decide _) = true
    rw [decide_eq_true a, decide_eq_true b]
    rfl
  exact ⟨bt (lo := 2) (hi := 16) (by omega) (by omega), decide_eq_true si, bt (lo := 1) (hi := 12) (by omega) (by omega), bt (lo := 0) (hi := 4) (by omega) (by omega), decide_eq_true ma, bt (lo := 0) (hi := 12) (by omega) (by omega), decide_eq_true fi, decide_eq_true sd⟩
theorem sign_code {c : Nat} (h : c ∈ printL) : signW (c : Int) = some c := by
  have z := (List.mem_filter.mp h).2
  have lt := print_lt h
  simp at z
  unfold signW
  rw [if_pos ⟨by omega, by omega, by omega⟩]
  rfl
theorem tell_odd {F : Fm} (ok : F.Ok) : tellW F.odd = F.vals := by
  obtain ⟨k1, k2, k3, k4, k5, k6, k7, k8⟩ := okS_all ok
  obtain ⟨b1, b2, si, l1, l2, gr, ma, wi, fi, sd⟩ := ok
  have m1 := print_lt ma
  have m2 := print_lt fi
  have vi : ∀ {s : Str} {n : Nat}, n ≤ 126 → ¬ (s = "sign" ∨ s = "side") → ¬ (s = "mark" ∨ s = "fill") → okS s (.int n) = true → valW s (toString (n : Int) : String) = .int n := fun {s n} h1 h2 h3 h4 => by
    unfold valW
    rw [if_neg h2, int_read h1]
    dsimp only
    rw [if_neg h3, if_pos h4]
  have vs : ∀ {s w : Str}, (s = "sign" ∨ s = "side") → okS s (.str w) = true → valW s w = .str w := fun {s w} h2 h4 => by
    unfold valW
    rw [if_pos h2, if_pos h4]
  have vm : ∀ {s : Str} {c : Nat}, c ∈ printL → ¬ (s = "sign" ∨ s = "side") → (s = "mark" ∨ s = "fill") → okS s (.str (chS c)) = true → valW s (toString (c : Int) : String) = .str (chS c) := fun {s c} h1 h2 h3 h4 => by
    have := print_lt h1
    unfold valW
    rw [if_neg h2, int_read (by omega)]
    dsimp only
    rw [if_pos h3, sign_code h1]
    dsimp only
    rw [if_pos h4]
  show [valW "base" _, valW "sign" _, valW "least" _, valW "group" _, valW "mark" _, valW "width" _, valW "fill" _, valW "side" _] = F.vals
  rw [vi (by omega) (by decide) (by decide) k1, vs (.inl rfl) k2, vi (by omega) (by decide) (by decide) k3, vi (by omega) (by decide) (by decide) k4, vm ma (by decide) (.inl rfl) k5, vi (by omega) (by decide) (by decide) k6, vm fi (by decide) (.inr rfl) k7, vs (.inr rfl) k8]
  rfl
/-- what is told has this word alone -/
theorem told_int {s w : Str} (h1 : ¬ (s = "sign" ∨ s = "side")) (h2 : ¬ (s = "mark" ∨ s = "fill")) (h3 : ∀ n : Int, okS s (.int n) = true → 0 ≤ n ∧ n ≤ 16) (h : valW s w ≠ .non) : ∃ n : Nat, valW s w = .int n ∧ okS s (.int n) = true ∧ w = (toString (n : Int) : String) := by
  unfold valW at h ⊢
  rw [if_neg h1] at h ⊢
  cases e : intW w.cps.toList with
  | none =>
    rw [e] at h
    exact absurd rfl h
  | some n =>
    rw [e] at h
    dsimp only at h ⊢
    rw [if_neg h2] at h ⊢
    by_cases k : okS s (.int n) = true
    · rw [if_pos k]
      obtain ⟨n0, n1⟩ := h3 n k
      have ew := int_word e n0 (by omega)
      have en : ((n.toNat : Nat) : Int) = n := by omega
      refine ⟨n.toNat, by rw [en], by rw [en]; exact k, ?_⟩
      rw [en]
      exact str_eq ew
    · rw [if_neg k] at h
      exact absurd rfl h
theorem told_mark {s w : Str} (h1 : ¬ (s = "sign" ∨ s = "side")) (h2 : s = "mark" ∨ s = "fill") (h : valW s w ≠ .non) : ∃ c : Nat, valW s w = .str (chS c) ∧ okS s (.str (chS c)) = true ∧ w = (toString (c : Int) : String) := by
  unfold valW at h ⊢
  rw [if_neg h1] at h ⊢
  cases e : intW w.cps.toList with
  | none =>
    rw [e] at h
    exact absurd rfl h
  | some n =>
    rw [e] at h
    dsimp only at h ⊢
    rw [if_pos h2] at h ⊢
    cases e2 : signW n with
    | none =>
      rw [e2] at h
      exact absurd rfl h
    | some c =>
      rw [e2] at h
      dsimp only at h ⊢
      by_cases k : okS s (.str (chS c)) = true
      · rw [if_pos k]
        unfold signW at e2
        by_cases hn : 32 ≤ n ∧ n ≤ 126 ∧ n ≠ 37
        · rw [if_pos hn] at e2
          cases e2
          have ew := int_word e (by omega) (by omega)
          have en : ((n.toNat : Nat) : Int) = n := by omega
          refine ⟨n.toNat, rfl, k, ?_⟩
          rw [en]
          exact str_eq ew
        · rw [if_neg hn] at e2
          cases e2
      · rw [if_neg k] at h
        exact absurd rfl h
theorem told_str {s w : Str} (h1 : s = "sign" ∨ s = "side") (h : valW s w ≠ .non) : valW s w = .str w ∧ okS s (.str w) = true := by
  unfold valW at h ⊢
  rw [if_pos h1] at h ⊢
  by_cases k : okS s (.str w) = true
  · rw [if_pos k]
    exact ⟨rfl, k⟩
  · rw [if_neg k] at h
    exact absurd rfl h
theorem betw_of {lo hi n : Int} (h : isBetw lo hi (.int n) = true) : lo ≤ n ∧ n ≤ hi := by
  have z := Bool.and_eq_true_iff.mp h
  exact ⟨of_decide_eq_true z.1, of_decide_eq_true z.2⟩
/-- sixteen words whose values are all told are those of one format -/
theorem read_words {z : Str} (hl : (Txt.split z " ").length = 16) (he : pick evenI (Txt.split z " ") = setNames) (hn : ∀ v ∈ tellW (pick oddI (Txt.split z " ")), v ≠ .non) :
    ∃ F : Fm, F.Ok ∧ F.vals = tellW (pick oddI (Txt.split z " ")) ∧ F.words = z := by
  have hj := join_split1 z 32
  rw [← sp_str] at hj
  generalize Txt.split z " " = ws at hl he hn hj ⊢
  obtain ⟨a0, a1, a2, a3, a4, a5, a6, a7, a8, a9, a10, a11, a12, a13, a14, a15, rfl⟩ := pick16 hl
  have he : [a0, a2, a4, a6, a8, a10, a12, a14] = setNames := he
  have ho : pick oddI [a0, a1, a2, a3, a4, a5, a6, a7, a8, a9, a10, a11, a12, a13, a14, a15] = [a1, a3, a5, a7, a9, a11, a13, a15] := rfl
  rw [ho] at hn ⊢
  unfold setNames at he
  simp only [List.cons.injEq, and_true] at he
  obtain ⟨rfl, rfl, rfl, rfl, rfl, rfl, rfl, rfl⟩ := he
  have ht : tellW [a1, a3, a5, a7, a9, a11, a13, a15] = [valW "base" a1, valW "sign" a3, valW "least" a5, valW "group" a7, valW "mark" a9, valW "width" a11, valW "fill" a13, valW "side" a15] := rfl
  rw [ht] at hn ⊢
  have n1 := hn (valW "base" a1) (by simp)
  have n2 := hn (valW "sign" a3) (by simp)
  have n3 := hn (valW "least" a5) (by simp)
  have n4 := hn (valW "group" a7) (by simp)
  have n5 := hn (valW "mark" a9) (by simp)
  have n6 := hn (valW "width" a11) (by simp)
  have n7 := hn (valW "fill" a13) (by simp)
  have n8 := hn (valW "side" a15) (by simp)
  obtain ⟨x1, e1, k1, rfl⟩ := told_int (s := "base") (by decide) (by decide) (fun n h => by have := betw_of (lo := 2) (hi := 16) h; omega) n1
  obtain ⟨e2, k2⟩ := told_str (s := "sign") (.inl rfl) n2
  obtain ⟨x3, e3, k3, rfl⟩ := told_int (s := "least") (by decide) (by decide) (fun n h => by have := betw_of (lo := 1) (hi := 12) h; omega) n3
  obtain ⟨x4, e4, k4, rfl⟩ := told_int (s := "group") (by decide) (by decide) (fun n h => by have := betw_of (lo := 0) (hi := 4) h; omega) n4
  obtain ⟨x5, e5, k5, rfl⟩ := told_mark (s := "mark") (by decide) (.inl rfl) n5
  obtain ⟨x6, e6, k6, rfl⟩ := told_int (s := "width") (by decide) (by decide) (fun n h => by have := betw_of (lo := 0) (hi := 12) h; omega) n6
  obtain ⟨x7, e7, k7, rfl⟩ := told_mark (s := "fill") (by decide) (.inr rfl) n7
  obtain ⟨e8, k8⟩ := told_str (s := "side") (.inr rfl) n8
  have b1 := betw_of (lo := 2) (hi := 16) (n := (x1 : Int)) k1
  have b3 := betw_of (lo := 1) (hi := 12) (n := (x3 : Int)) k3
  have b4 := betw_of (lo := 0) (hi := 4) (n := (x4 : Int)) k4
  have b6 := betw_of (lo := 0) (hi := 12) (n := (x6 : Int)) k6
  refine ⟨⟨x1, a3, x3, x4, x5, x6, x7, a15⟩, ⟨by show 2 ≤ x1; omega, by show x1 ≤ 16; omega, of_decide_eq_true k2, by show 1 ≤ x3; omega, by show x3 ≤ 12; omega, by show x4 ≤ 4; omega, of_decide_eq_true k5, by show x6 ≤ 12; omega, of_decide_eq_true k7, of_decide_eq_true k8⟩, ?_, ?_⟩
  · rw [e1, e2, e3, e4, e5, e6, e7, e8]
    rfl
  · exact hj
/-- the words of a format -/
theorem said_words {F : Fm} (ok : F.Ok) : (Txt.split F.words " ").length = 16 ∧ pick evenI (Txt.split F.words " ") = setNames ∧ tellW (pick oddI (Txt.split F.words " ")) = F.vals := by
  rw [words_split ok]
  exact ⟨rfl, rfl, tell_odd ok⟩
theorem vals_some {F : Fm} : ∀ v ∈ F.vals, v ≠ .non := by
  intro v hv
  unfold Fm.vals at hv
  simp only [List.mem_cons, List.not_mem_nil, or_false] at hv
  rcases hv with rfl | rfl | rfl | rfl | rfl | rfl | rfl | rfl <;> exact fun e => by cases e
/-- a format is known by its text -/
theorem words_inj {F G : Fm} (h : F.Ok) (g : G.Ok) (e : F.words = G.words) : F = G := by
  have a := (said_words h).2.2
  rw [e, (said_words g).2.2] at a
  obtain ⟨f1, f2, f3, f4, f5, f6, f7, f8⟩ := F
  obtain ⟨g1, g2, g3, g4, g5, g6, g7, g8⟩ := G
  unfold Fm.vals at a
  simp only [List.cons.injEq, V.int.injEq, V.str.injEq, and_true] at a
  obtain ⟨a1, a2, a3, a4, a5, a6, a7, a8⟩ := a
  have ch : ∀ {a b : Nat}, chS a = chS b → a = b := fun {a b} e => by
    unfold chS at e
    injection e with e
    simpa using congrArg Array.toList e
  have := ch a5
  have := ch a7
  subst a2 a8
  congr 1 <;> omega

end Fg
set_option Elab.async false
set_option linter.all false
set_option maxRecDepth 100000
set_option maxHeartbeats 4000000
namespace Fg
open PySem PySem.Spec PyProof.Rows L2
local macro_rules | `(tactic| walk_at "hp") => `(tactic| first | assumption | (refine Same.get (by assumption) ?_; walk_at "hp"))
local macro_rules | `(tactic| walk_at "sq") => `(tactic| first | assumption | (exact Or.inr (by assumption)) | (exact Or.inl (by assumption)) | (exact Or.inl (SqL.of (by walk_at "hp"))) | (exact Or.inr (SqT.of (by walk_at "hp"))) | (exact SqL.of (by walk_at "hp")) | (exact SqT.of (by walk_at "hp")))
local macro_rules | `(tactic| walk_at "cl") => `(tactic| first | ((first | show (_ : Int) < _ | show (_ : Int) ≤ _); first | omega | decide) | ((first | show (_ : Nat) < _ | show (_ : Nat) ≤ _); first | with_reducible assumption | (refine sz_le ?_; first | decide | omega | (simp <;> omega)) | (refine sz_lt ?_; first | decide | omega | (simp <;> omega)) | omega | decide | ((with_reducible show List.length _ < _); exact Nat.le_of_ble_eq_true rfl)) | rfl | walk_at "hp" | walk_at "sq" | (refine And.intro (by walk_at "cl") (by walk_at "cl")) | (exact Exists.intro _ (by walk_at "hp")) | (exact Exists.intro _ (Exists.intro _ (by walk_at "hp"))) | (exact Exists.intro _ (Exists.intro _ (And.intro (by walk_at "hp") rfl))) | decide | (exact Or.inl (by walk_at "cl")) | (exact Or.inr (by walk_at "cl")) | omega)
local macro_rules | `(tactic| walk_at "s1") => `(tactic| first | refine And.intro (by walk_at "cl") ?_ | apply Exists.intro)
local macro_rules | `(tactic| walk_at "sx") => `(tactic| repeat walk_at "s1")
local macro_rules | `(tactic| walk_at "si") => `(tactic| first | refine iteY rfl ?_ | refine iteN rfl ?_)
local macro_rules | `(tactic| walk_at "sy") => `(tactic| repeat first | walk_at "s1" | walk_at "si")
section
variable {P : Program} {w : World} {K : PySem.W.Frag} {mg : Str → Option Value} {base : Heap} {A : Ad}
def sp_setting_in : Sp := s2 fun a b H Q _ => ∃ s w, a = .str s ∧ b = .str w ∧ s ∈ setNames ∧ w.length ≤ 1000 ∧ ∀ H', Same H H' → Q (valW s w) H'
theorem ok_setting_in (T : Txt w K mg A) : Callee P w K mg base 4 "setting_in" ["setting", "word"] sp_setting_in := by
  refine callee_of T.F_setting_in sc_setting_in (fun _ _ _ _ _ _ us hl => match us, hl with | [_, _], _ => rfl) (fun vs H Q E h => ?_) (fun f cdv Ar outer s H vs Q E hr tk po h => ?_)
  · obtain ⟨_, _, rfl, _⟩ := s2_len h
    rfl
  · obtain ⟨a, b, rfl, s, w, rfl, rfl, hs, hw, q⟩ := s2_len h
    refine ⟨_, (pss_cons (ps_if (ft_cmp f_inQ (fv 0) (fe_tup (pa_cons pe_str (pa_cons pe_str pa_nil))) (by rfl)) (pss_one (ps_ret (pe_ifExp (ft_val (fc_call (ok_is_setting T) hr (by decide) (by rfl) tk (pa_cons (fv 0) (pa_cons (fv 1) pa_nil)))) (fv 1) pe_non))) pss_nil)
      (pss_cons (ps_set (i := 2) sc_setting_in.nd rfl (Or.inl rfl) (fc_call (ok_integer_in T) hr (by decide) (by rfl) tk (pa_cons (fv 1) pa_nil)))
      (pss_cons (ps_if (PW.pt (pw_and (ft_cmp f_notN (fv 2) pe_non (nomark _)) (pw_and1 (ft_cmp f_inQ (fv 0) (fe_tup (pa_cons pe_str (pa_cons pe_str pa_nil))) (by rfl))))) (pss_one (ps_set (i := 2) sc_setting_in.nd rfl (Or.inl rfl) (fc_call (ok_sign_of T) hr (by decide) (by rfl) tk (pa_cons (fv 2) pa_nil)))) pss_nil)
      (pss_one (ps_ret (pe_ifExp (PW.pt (pw_and (ft_cmp f_notN (fv 2) pe_non (nomark _)) (pw_and1 (ft_val (fc_call (ok_is_setting T) hr (by decide) (by rfl) tk (pa_cons (fv 0) (pa_cons (fv 2) pa_nil))))))) (fv 2) pe_non)))))), ?_⟩
    clear hr tk po h
    have zw : w.length ≤ sizeLine := sz_le (by omega)
    unfold valW at q
    simp only [setNames, List.mem_cons, List.not_mem_nil, or_false] at hs
    rcases hs with rfl | rfl | rfl | rfl | rfl | rfl | rfl | rfl
    all_goals
      walk_at "sx"
      intro p H1 np e1 h1'
      walk_at "sy"
    all_goals intro H2 e2
    all_goals have e12 := e1.trans e2
    case refine_2.inr.inl.h.h =>
      rw [if_pos (by decide)] at q
      refine iteB (fun e => ?_) (fun e => ?_)
      · rw [if_pos e] at q
        walk_at "sy"
        exact q _ e12
      · rw [if_neg (by rw [e]; decide)] at q
        walk_at "sy"
        exact q _ e12
    case refine_2.inr.inr.inr.inr.inr.inr.inr.h.h =>
      rw [if_pos (by decide)] at q
      refine iteB (fun e => ?_) (fun e => ?_)
      · rw [if_pos e] at q
        walk_at "sy"
        exact q _ e12
      · rw [if_neg (by rw [e]; decide)] at q
        walk_at "sy"
        exact q _ e12
    all_goals
      rw [if_neg (by decide)] at q
      cases hn : intW w.cps.toList with
      | none =>
        rw [hn] at q
        walk_at "sy"
        exact q _ e12
      | some n =>
        rw [hn] at q
        dsimp only at q
        walk_at "sy"
        intro p3 H3 n3 e3 h3
        have e13 := e12.trans e3
        first
          | (rw [if_neg (by decide)] at q
             walk_at "sy"
             refine And.intro True.intro ?_
             intro H4 e4
             have q' := q H4 (e13.trans e4)
             refine iteB (fun e => ?_) (fun e => ?_)
             · rw [if_pos (show okS _ (.int n) = true from e)] at q'
               walk_at "sy"
               exact q'
             · rw [if_neg (by rw [show okS _ (.int n) = false from e]; decide)] at q'
               walk_at "sy"
               exact q')
          | (rw [if_pos (by decide)] at q
             cases e2 : signW n with
             | none =>
               rw [e2] at q
               walk_at "sy"
               rw [e2]
               walk_at "sy"
               exact q _ e13
             | some c =>
               rw [e2] at q
               dsimp only at q
               walk_at "sy"
               rw [e2]
               walk_at "sy"
               intro H4 e4
               have q' := q H4 (e13.trans e4)
               refine iteB (fun e => ?_) (fun e => ?_)
               · rw [if_pos e] at q'
                 walk_at "sy"
                 exact q'
               · rw [if_neg (by rw [e]; decide)] at q'
                 walk_at "sy"
                 exact q')
end

end Fg
set_option Elab.async false
set_option linter.all false
set_option maxRecDepth 100000
set_option maxHeartbeats 4000000
namespace Fg
open PySem PySem.Spec PyProof.Rows L2
local macro_rules | `(tactic| walk_at "hp") => `(tactic| first | assumption | (refine Same.get (by assumption) ?_; walk_at "hp"))
local macro_rules | `(tactic| walk_at "sq") => `(tactic| first | assumption | (exact Or.inr (by assumption)) | (exact Or.inl (by assumption)) | (exact Or.inl (SqL.of (by walk_at "hp"))) | (exact Or.inr (SqT.of (by walk_at "hp"))) | (exact SqL.of (by walk_at "hp")) | (exact SqT.of (by walk_at "hp")))
local macro_rules | `(tactic| walk_at "cl") => `(tactic| first | ((first | show (_ : Int) < _ | show (_ : Int) ≤ _); first | omega | decide) | ((first | show (_ : Nat) < _ | show (_ : Nat) ≤ _); first | with_reducible assumption | (refine sz_le ?_; first | decide | omega | (simp <;> omega)) | (refine sz_lt ?_; first | decide | omega | (simp <;> omega)) | omega | decide | ((with_reducible show List.length _ < _); exact Nat.le_of_ble_eq_true rfl)) | rfl | walk_at "hp" | walk_at "sq" | (refine And.intro (by walk_at "cl") (by walk_at "cl")) | (exact Exists.intro _ (by walk_at "hp")) | (exact Exists.intro _ (Exists.intro _ (by walk_at "hp"))) | (exact Exists.intro _ (Exists.intro _ (And.intro (by walk_at "hp") rfl))) | decide | (exact Or.inl (by walk_at "cl")) | (exact Or.inr (by walk_at "cl")) | omega)
local macro_rules | `(tactic| walk_at "s1") => `(tactic| first | refine And.intro (by walk_at "cl") ?_ | apply Exists.intro)
local macro_rules | `(tactic| walk_at "sx") => `(tactic| repeat walk_at "s1")
local macro_rules | `(tactic| walk_at "si") => `(tactic| first | refine iteY rfl ?_ | refine iteN rfl ?_)
local macro_rules | `(tactic| walk_at "sy") => `(tactic| repeat first | walk_at "s1" | walk_at "si")
theorem pick_map {α β : Type} (f : α → β) (idx : List Nat) (xs : List α) : pick idx (xs.map f) = (pick idx xs).map f := by
  unfold pick
  rw [List.map_filterMap]
  congr 1
  funext i
  rw [List.getElem?_map]
/-- the value that a word tells, of values -/
def valV2 (s : Str) (v : V) : V := match v with
  | .str w => valW s w
  | v => v
theorem tell_zip : ∀ (ns ws : List Str), ((ns.zip (ws.map V.str)).map fun p => ((Sum.inr p.1 : Key), valV2 p.1 p.2)) = (ns.zip (List.zipWith valW ns ws)).map fun q => ((Sum.inr q.1 : Key), q.2)
  | [], _ => rfl
  | _ :: _, [] => rfl
  | n :: ns, w :: ws => by
    rw [List.map_cons, List.zip_cons_cons, List.map_cons, tell_zip ns ws, List.zipWith_cons_cons, List.zip_cons_cons, List.map_cons]
    rfl
theorem tell_snd : ∀ (ns : List Str) (vs : List V), vs.length ≤ ns.length → ((ns.zip vs).map fun q => ((Sum.inr q.1 : Key), q.2)).map (·.2) = vs
  | _, [], _ => by simp
  | [], _ :: _, h => by simp at h
  | n :: ns, v :: vs, h => by
    rw [List.zip_cons_cons, List.map_cons, List.map_cons, tell_snd ns vs (by simpa using h)]
theorem kvs_vals (F : Fm) : F.kvs = (setNames.zip F.vals).map fun q => ((Sum.inr q.1 : Key), q.2) := rfl
theorem zip_str (ns : List Str) (ys : List V) : (ns.map V.str).zip ys = (ns.zip ys).map fun p => (V.str p.1, p.2) := by
  rw [List.zip_map_left]
  rfl
theorem flat_tell (ws : List Str) : (tellW ws).all flatV = true := by
  rw [List.all_eq_true]
  intro v hv
  unfold tellW at hv
  obtain ⟨i, hi, rfl⟩ := List.getElem_of_mem hv
  rw [List.getElem_zipWith]
  unfold valW
  repeat' split
  all_goals rfl
theorem inV_non {xs : List V} : inV .non xs = false ↔ ∀ v ∈ xs, v ≠ .non := by
  unfold inV
  rw [List.any_eq_false]
  constructor
  · intro h v hv e
    exact h v hv (by rw [e]; rfl)
  · intro h v hv e
    cases v <;> first | exact h _ hv rfl | cases e
section
variable {P : Program} {w : World} {K : PySem.W.Frag} {mg : Str → Option Value} {base : Heap} {A : Ad}
def sp_settings_in : Sp := s1 fun a H Q _ => ∃ z, a = .str z ∧ z.length ≤ 1000 ∧ (∀ F : Fm, F.Ok → F.words = z → ∀ d H', H d = none → Same H H' → H' d = some (.dK F.kvs) → Q (.ref d) H') ∧ ((∀ F : Fm, F.Ok → F.words ≠ z) → ∀ H', Same H H' → Q .non H')
theorem ok_settings_in (T : Txt w K mg A) : Callee P w K mg base 5 "settings_in" ["text"] sp_settings_in := by
  refine callee_of T.F_settings_in sc_settings_in (fun _ _ _ _ _ _ us hl => match us, hl with | [_], _ => rfl) (fun vs H Q E h => ?_) (fun f cdv Ar outer s H vs Q E hr tk po h => ?_)
  · obtain ⟨_, rfl, _⟩ := s1_len h
    rfl
  · obtain ⟨a, rfl, z, rfl, hz, qy, qn⟩ := s1_len h
    refine ⟨_, (pss_cons (ps_set (i := 1) sc_settings_in.nd rfl (Or.inl rfl) (fe_sm1 PySem.F.slot_str_split PySem.F.type_str_split f_split (fv 0) pe_str))
      (pss_cons (ps_if (PW.pt (pw_or (ft_cmp f_ne (pe_callB f_len (by rfl) T.b_len (by decide +kernel) (pa_cons (fv 1) pa_nil)) (pe_op f_mul pe_int (pe_callB f_len (by rfl) T.b_len (by decide +kernel) (pa_cons (fe_g (by rfl) T.g_SETTINGS) pa_nil))) (nomark _)) (pw_or1 (ft_cmp (f_neTS hr.units) (pe_callTy f_tuple (by rfl) T.b_tuple (by decide +kernel) (pa_cons (pe_even (fv 1)) pa_nil)) (fe_g (by rfl) T.g_SETTINGS) (nomark _))))) (pss_one (ps_ret pe_non)) pss_nil)
      (pss_cons (fs_setDcZ (i := 2) (own := [("setting", 3), ("word", 4)]) (g := gTup K 2 (gCons (gName 3) (gCons (gName 4) (gNil)))) (by rfl) sc_settings_in.nd rfl rfl (sw_dict rfl rfl rfl (by decide +kernel)) (by rfl) T.b_zip (pa_cons (fe_g (by rfl) T.g_SETTINGS) (pa_cons (pe_odd (fv 1)) pa_nil)) (blkOk_by (own := [("setting", 3), ("word", 4)]) (N := ["text", "words", "table", "setting", "word"]) (sc := defScope s_settings_in) (by decide +kernel)) (fun _ _ _ _ _ => pg_tup rfl (pgs_cons (pg_name (i := 3) sc_settings_in.nd rfl (Or.inl rfl) (hf := by first | exact Or.inl rfl | exact Or.inr rfl)) (pgs_cons (pg_name (i := 4) sc_settings_in.nd rfl (Or.inl rfl) (hf := by first | exact Or.inl rfl | exact Or.inr rfl)) pgs_nil))) (fun _ _ _ _ _ => (fv 3)) (fun _ _ _ _ _ => (fc_call (ok_setting_in T) hr (by decide) (by rfl) takes0 (pa_cons (fv 3) (pa_cons (fv 4) pa_nil)))))
      (pss_one (ps_ret (pe_ifExp (ft_cmp f_inQ pe_non (pe_listVals rfl (fv 2) (by rfl) T.b_list (by decide +kernel)) (by rfl)) pe_non (fv 2))))))), ?_⟩
    have zl : z.length ≤ sizeLine := sz_le (by omega)
    have zl2 : z.length + 2 ≤ sizeLine := sz_le (by omega)
    walk_at "sx"
    intro p H1 np e1 h1
    have ts := T.t_SETTINGS H1
    walk_at "sx"
    by_cases hl : (Txt.split z " ").length = 16
    · refine iteN (by simp [hl]) ?_
      refine Exists.intro ((Txt.split z " ").map V.str) (And.intro (SqL.of h1) (And.intro (by rw [List.length_map]; exact hl) ?_))
      intro p2 H2 n2 e2 h2
      rw [pick_map] at h2
      walk_at "sx"
      intro p3 H3 n3 e3 h3
      have s123 := e2.trans e3
      have ts3 : SqT K H3 A.tSETTINGS (setNames.map V.str) := T.t_SETTINGS H3
      refine Exists.intro (pick evenI (Txt.split z " ")) (Exists.intro setNames (And.intro (SqT.of h3) (And.intro ts3 ?_)))
      by_cases he : pick evenI (Txt.split z " ") = setNames
      · refine iteN (by simp [he, opp]) ?_
        walk_at "sx"
        refine And.intro (by rw [List.length_map]; exact hl) ?_
        intro p4 H4 n4 e4 h4
        rw [pick_map] at h4
        have lo : (pick oddI (Txt.split z " ")).length = 8 := by
          obtain ⟨a0, a1, a2, a3, a4, a5, a6, a7, a8, a9, a10, a11, a12, a13, a14, a15, e⟩ := pick16 hl
          rw [e]
          rfl
        refine ⟨.T A.tSETTINGS, .L p4, setNames.map V.str, (pick oddI (Txt.split z " ")).map V.str, rfl, T.t_SETTINGS H4, SqL.of h4, by rw [List.length_map, List.length_map, lo]; rfl, ?_⟩
        intro D H5 nD s5 hD
        refine ⟨⟨T.t_SETTINGS H5, s5.seq (SqL.of h4)⟩, ?_⟩
        rw [zip_str]
        refine DCompZ.by (H0 := H4) valV2 nD (fun H s => ⟨T.t_SETTINGS H, s.seq (SqL.of h4)⟩) (fun s v => s ∈ setNames ∧ ∃ w : Str, v = .str w ∧ w.length ≤ 1000) ?_ _ [] _ ?_ ?_ ?_ s5 hD ?_
        · rintro s x TT Hc N R ⟨hs, w, rfl, hw⟩ sc hT k
          walk_at "sx"
          exact k
        · intro p hp
          obtain ⟨h1, h2⟩ := List.of_mem_zip hp
          obtain ⟨w, hw, e⟩ := List.mem_map.mp h2
          refine ⟨h1, w, e.symm, ?_⟩
          have hm : w ∈ Txt.split z " " := by
            unfold pick at hw
            obtain ⟨i, _, e⟩ := List.mem_filterMap.mp hw
            exact List.mem_of_getElem? e
          exact Nat.le_trans (piece_len (c := 32) hm) hz
        · have e : ((setNames.zip ((pick oddI (Txt.split z " ")).map V.str)).map fun p => (Sum.inr p.1 : Key)) = setNames.map Sum.inr := by
            have e2 : (setNames.zip ((pick oddI (Txt.split z " ")).map V.str)).map (fun p => (Sum.inr p.1 : Key)) = ((setNames.zip ((pick oddI (Txt.split z " ")).map V.str)).map Prod.fst).map Sum.inr := by rw [List.map_map]; rfl
            rw [e2, List.map_fst_zip (by rw [List.length_map, lo]; exact Nat.le_refl _)]
          rw [List.map_nil, List.nil_append, e]
          decide +kernel
        · refine sz_le ?_
          rw [List.length_zip, List.length_map, lo]
          decide
        intro H6 s6 h6
        rw [List.nil_append, tell_zip] at h6
        have h6 : H6 D = some (.dK ((setNames.zip (tellW (pick oddI (Txt.split z " ")))).map fun q => ((Sum.inr q.1 : Key), q.2))) := h6
        have lt : (tellW (pick oddI (Txt.split z " "))).length ≤ setNames.length := by
          unfold tellW
          rw [List.length_zipWith]
          omega
        have ts' := tell_snd setNames _ lt
        have s16 := s123.trans (e4.trans s6)
        walk_at "sx"
        rw [ts']
        intro p7 H7 n7 e7 h7
        have fl := flat_tell (pick oddI (Txt.split z " "))
        walk_at "sx"
        refine iteB (fun hv => ?_) (fun hv => ?_)
        · have s17 := (e1.trans s16).trans e7
          refine qn (fun F ok e => ?_) _ s17
          have : inV .non (tellW (pick oddI (Txt.split z " "))) = false := inV_non.mpr (by
            rw [← e, (said_words ok).2.2]
            exact vals_some)
          rw [this] at hv
          cases hv
        · obtain ⟨F, ok, e1', e2'⟩ := read_words hl he (inV_non.mp hv)
          have s17 := (e1.trans s16).trans e7
          refine qy F ok e2' D H7 ?_ s17 ?_
          · exact Same.no (((e1.trans e2).trans e3).trans e4) nD
          · rw [kvs_vals, e1']
            exact e7 _ _ h6
      · refine iteY (by simp [he, opp]) ?_
        exact qn (fun F ok e => he (by rw [← e]; exact (said_words ok).2.1)) _ ((e1.trans e2).trans e3)
    · refine iteY (by simp; omega) ?_
      exact qn (fun F ok e => hl (by rw [← e]; exact (said_words ok).1)) _ e1
end

end Fg
set_option Elab.async false
set_option linter.all false
set_option maxRecDepth 100000
set_option maxHeartbeats 4000000
namespace Fg
open PySem PySem.Spec PyProof.Rows L2
local macro_rules | `(tactic| walk_at "hp") => `(tactic| first | assumption | (refine Same.get (by assumption) ?_; walk_at "hp"))
local macro_rules | `(tactic| walk_at "sq") => `(tactic| first | assumption | (exact Or.inr (by assumption)) | (exact Or.inl (by assumption)) | (exact Or.inl (SqL.of (by walk_at "hp"))) | (exact Or.inr (SqT.of (by walk_at "hp"))) | (exact SqL.of (by walk_at "hp")) | (exact SqT.of (by walk_at "hp")))
local macro_rules | `(tactic| walk_at "cl") => `(tactic| first | ((first | show (_ : Int) < _ | show (_ : Int) ≤ _); first | omega | decide) | ((first | show (_ : Nat) < _ | show (_ : Nat) ≤ _); first | with_reducible assumption | (refine sz_le ?_; first | decide | omega | (simp <;> omega)) | (refine sz_lt ?_; first | decide | omega | (simp <;> omega)) | omega | decide | ((with_reducible show List.length _ < _); exact Nat.le_of_ble_eq_true rfl)) | rfl | walk_at "hp" | walk_at "sq" | (refine And.intro (by walk_at "cl") (by walk_at "cl")) | (exact Exists.intro _ (by walk_at "hp")) | (exact Exists.intro _ (Exists.intro _ (by walk_at "hp"))) | (exact Exists.intro _ (Exists.intro _ (And.intro (by walk_at "hp") rfl))) | decide | (exact Or.inl (by walk_at "cl")) | (exact Or.inr (by walk_at "cl")) | omega)
local macro_rules | `(tactic| walk_at "s1") => `(tactic| first | refine And.intro (by walk_at "cl") ?_ | apply Exists.intro)
local macro_rules | `(tactic| walk_at "sx") => `(tactic| repeat walk_at "s1")
local macro_rules | `(tactic| walk_at "si") => `(tactic| first | refine iteY rfl ?_ | refine iteN rfl ?_)
local macro_rules | `(tactic| walk_at "sy") => `(tactic| repeat first | walk_at "s1" | walk_at "si")
section
variable {P : Program} {w : World} {K : PySem.W.Frag} {mg : Str → Option Value} {base : Heap} {A : Ad}
theorem r_InvalidSetting (T : Txt w K mg A) : Raiser P w K mg base "InvalidSetting" A.cInvalidSetting "setting" :=
  raiser_of T.oe_InvalidSetting T.g_InvalidSetting T.I_InvalidSettingdd_initdd T.nf_InvalidSetting sc_InvalidSettingdd_initdd (fun _ _ _ _ _ _ us hl => match us, hl with | [_, _], _ => rfl) (fun X hs hN => pss_one (ps_ost (fv 0 (by rw [hN]; rfl) (by rw [hs]; exact Or.inl rfl)) (fv 1 (by rw [hN]; rfl) (by rw [hs]; exact Or.inl rfl))))
theorem r_InvalidNumber (T : Txt w K mg A) : Raiser P w K mg base "InvalidNumber" A.cInvalidNumber "value" :=
  raiser_of T.oe_InvalidNumber T.g_InvalidNumber T.I_InvalidNumberdd_initdd T.nf_InvalidNumber sc_InvalidNumberdd_initdd (fun _ _ _ _ _ _ us hl => match us, hl with | [_, _], _ => rfl) (fun X hs hN => pss_one (ps_ost (fv 0 (by rw [hN]; rfl) (by rw [hs]; exact Or.inl rfl)) (fv 1 (by rw [hN]; rfl) (by rw [hs]; exact Or.inl rfl))))
def Fm.fields (F : Fm) : List (Str × V) := [("base", .int F.base), ("sign", .str F.sign), ("least", .int F.least), ("group", .int F.group), ("mark", .str (chS F.mark)), ("width", .int F.width), ("fill", .str (chS F.fill)), ("side", .str F.side), ("words", .str F.words)]
/-- a format with these settings stands at p -/
def IsFmt (A : Ad) (H : Hp) (p : Addr) (F : Fm) : Prop := ∃ dx, H p = some (.ins A.cFormat dx F.fields)
def sp_init (K : PySem.W.Frag) (A : Ad) : Sp := fun vs H Q E => match vs with
  | .ref p :: l => l.length = 8 ∧ (∃ dx, H p = some (.ins A.cFormat dx [])) ∧ (∀ v ∈ l, AnyV K H v) ∧ match badS (setNames.zip l) with
    | none => ∀ F : Fm, l = F.vals → F.Ok → ∀ H', But p H H' → IsFmt A H' p F → Q .non H'
    | some s => ∀ d H', Same H H' → H' d = some (.xd [("setting", .str s)]) → E (.ref A.cInvalidSetting) (some d) H'
  | _ => False
theorem sp_init_len {K : PySem.W.Frag} {A : Ad} {vs : List V} {H : Hp} {Q : VK} {E : XK} (h : sp_init K A vs H Q E) : ∃ p v1 v2 v3 v4 v5 v6 v7 v8, vs = [.ref p, v1, v2, v3, v4, v5, v6, v7, v8] := by
  unfold sp_init at h
  split at h
  · rename_i p l
    match l, h.1 with
    | [v1, v2, v3, v4, v5, v6, v7, v8], _ => exact ⟨p, v1, v2, v3, v4, v5, v6, v7, v8, rfl⟩
  · exact h.elim
theorem mk_Format (T : Txt w K mg A) : KMaker P w K mg base 4 "Format" A.cFormat "Format.__init__" s_Formatdd_initdd [("base", .int 10), ("sign", .str "minus"), ("least", .int 1), ("group", .int 0), ("mark", .str ","), ("width", .int 0), ("fill", .str " "), ("side", .str "left")]
    ["self", "base", "sign", "least", "group", "mark", "width", "fill", "side"] (sp_init K A) := by
  refine kmaker_of T.g_Format T.K_Format sc_Formatdd_initdd (fun vs H Q E h => ?_) (fun f cdv Ar outer s H vs Q E hr tk po h => ?_)
  · obtain ⟨_, _, _, _, _, _, _, _, _, rfl⟩ := sp_init_len h
    rfl
  · obtain ⟨p, v1, v2, v3, v4, v5, v6, v7, v8, rfl⟩ := sp_init_len h
    obtain ⟨_, ⟨dx, h0⟩, hv, q⟩ := h
    refine ⟨_, (pss_cons (ps_set (i := 9) sc_Formatdd_initdd.nd rfl (Or.inl rfl) (fe_tup (pa_cons (fv 1) (pa_cons (fv 2) (pa_cons (fv 3) (pa_cons (fv 4) (pa_cons (fv 5) (pa_cons (fv 6) (pa_cons (fv 7) (pa_cons (fv 8) pa_nil))))))))))
      (pss_cons (fs_forZ po rfl (by rfl) T.b_zip (pa_cons (fe_g (by rfl) T.g_SETTINGS) (pa_cons (fv 9) pa_nil)) (pg_tup rfl (pgs_cons (pg_name (i := 10) sc_Formatdd_initdd.nd rfl (Or.inl rfl)) (pgs_cons (pg_name (i := 11) sc_Formatdd_initdd.nd rfl (Or.inl rfl)) pgs_nil))) (pss_one (ps_if (pt_not (ft_val (fc_call (ok_is_setting T) hr (by decide) (by rfl) tk (pa_cons (fv 10) (pa_cons (fv 11) pa_nil))))) (pss_one (fr_raise rfl (r_InvalidSetting T) hr (by decide) tk (by rfl) (fv 10))) pss_nil)))
      (pss_cons (fs_fld T.cl_Format T.n_Format_base (fv 0) (fv 1))
      (pss_cons (fs_fld T.cl_Format T.n_Format_sign (fv 0) (fv 2))
      (pss_cons (fs_fld T.cl_Format T.n_Format_least (fv 0) (fv 3))
      (pss_cons (fs_fld T.cl_Format T.n_Format_group (fv 0) (fv 4))
      (pss_cons (fs_fld T.cl_Format T.n_Format_mark (fv 0) (fv 5))
      (pss_cons (fs_fld T.cl_Format T.n_Format_width (fv 0) (fv 6))
      (pss_cons (fs_fld T.cl_Format T.n_Format_fill (fv 0) (fv 7))
      (pss_cons (fs_fld T.cl_Format T.n_Format_side (fv 0) (fv 8))
      (pss_one (fs_fld T.cl_Format T.n_Format_words (fv 0) (fc_call (ok_settings_text T) hr (by decide) (by rfl) tk (pa_cons (fv 9) pa_nil)))))))))))))), ?_⟩
    walk_at "sx"
    intro t H1 nt e1 h1
    have ts := T.t_SETTINGS H1
    walk_at "sx"
    have fresh_d : ∀ {H2 : Hp} {d : Addr}, Same H H2 → H2 d = none → H d = none := fun {H2 d} s n => by
      cases hh : H d with
      | none => rfl
      | some o => rw [s _ _ hh] at n; cases n
    refine LoopZ.by (fun rest σ H2 => ∃ l : List (Str × V), ∃ a1 a2, σ = [some (.ref p), some v1, some v2, some v3, some v4, some v5, some v6, some v7, some v8, some (.ref t), a1, a2] ∧ Same H1 H2 ∧ (∀ x ∈ l, x.1 ∈ setNames ∧ AnyV K H x.2) ∧
      rest = l.map (fun x => (V.str x.1, x.2)) ∧ badS l = badS (setNames.zip [v1, v2, v3, v4, v5, v6, v7, v8])) ?_ ?_ _ _ _ ?_
    · rintro x r σ H2 ⟨l, a1, a2, rfl, s2, ha, hl, hb⟩ N hN TT H3 nT s3 hT
      match l, hl with
      | (s, v) :: l, hl =>
        cases hl
        have s13 := s2.trans s3
        have s03 := e1.trans s13
        have a3 : AnyV K H3 v := AnyV.same s03 (ha _ (List.mem_cons_self ..)).2
        have hs : s ∈ setNames := (ha _ (List.mem_cons_self ..)).1
        walk_at "sx"
        intro H4 s4
        walk_at "sx"
        cases hk : okS s v with
        | false =>
          refine iteY rfl ?_
          have hq : badS (setNames.zip [v1, v2, v3, v4, v5, v6, v7, v8]) = some s := by
            rw [← hb, badS, hk]
            rfl
          rw [hq] at q
          walk_at "sx"
          intro d H5 nd s5 h5
          exact q d H5 ((s03.trans s4).trans s5) h5
        | true =>
          refine iteN rfl ?_
          have s14 := s13.trans s4
          refine hN _ _ ⟨T.t_SETTINGS H4, SqT.of (s14 _ _ h1)⟩ ⟨l, _, _, rfl, s14, fun x hx => ha x (List.mem_cons_of_mem _ hx), rfl, ?_⟩
          rw [← hb, badS, hk]
          rfl
    · rintro σ H2 ⟨l, a1, a2, rfl, s2, ha, hl, hb⟩
      have el : l = [] := by
        cases l with
        | nil => rfl
        | cons a r => cases hl
      subst el
      rw [← hb] at q
      obtain ⟨F, ok, eF⟩ := ok_fm (v := [v1, v2, v3, v4, v5, v6, v7, v8]) rfl hb.symm
      have s02 := e1.trans s2
      have hp2 := s02 _ _ h0
      have ht2 := s2 _ _ h1
      have q' := q F eF ok
      clear q ha hb
      cases eF
      walk_at "sx"
      intro H3 b3 h3
      walk_at "sx"
      intro H4 b4 h4
      walk_at "sx"
      intro H5 b5 h5
      walk_at "sx"
      intro H6 b6 h6
      walk_at "sx"
      intro H7 b7 h7
      walk_at "sx"
      intro H8 b8 h8
      walk_at "sx"
      intro H9 b9 h9
      walk_at "sx"
      intro H10 b10 h10
      have bb : But p H2 H10 := ((((((b3.trans b4).trans b5).trans b6).trans b7).trans b8).trans b9).trans b10
      have nt2 : t ≠ p := fun e => by
        rw [e] at ht2
        rw [ht2] at hp2
        cases hp2
      have t10 : SqT K H10 t F.vals := SqT.of (bb _ _ nt2 ht2)
      walk_at "sx"
      intro H11 s11
      have h11 := s11 _ _ h10
      walk_at "sx"
      intro H12 b12 h12
      refine q' H12 ?_ ⟨dx, h12⟩
      exact ((But.of s02).trans (bb.trans (But.of s11))).trans b12
    · refine ⟨setNames.zip [v1, v2, v3, v4, v5, v6, v7, v8], none, none, rfl, Same.refl _, ?_, rfl, rfl⟩
      have hn : ∀ {x : V}, x ∈ [v1, v2, v3, v4, v5, v6, v7, v8] → AnyV K H x := fun {x} m => hv x m
      intro x hx
      exact ⟨(List.of_mem_zip hx).1, hn (List.of_mem_zip hx).2⟩
end

end Fg
set_option Elab.async false
set_option linter.all false
set_option maxRecDepth 100000
set_option maxHeartbeats 4000000
namespace Fg
open PySem PySem.Spec PyProof.Rows L2
local macro_rules | `(tactic| walk_at "hp") => `(tactic| first | assumption | (refine Same.get (by assumption) ?_; walk_at "hp"))
local macro_rules | `(tactic| walk_at "sq") => `(tactic| first | assumption | (exact Or.inr (by assumption)) | (exact Or.inl (by assumption)) | (exact Or.inl (SqL.of (by walk_at "hp"))) | (exact Or.inr (SqT.of (by walk_at "hp"))) | (exact SqL.of (by walk_at "hp")) | (exact SqT.of (by walk_at "hp")))
local macro_rules | `(tactic| walk_at "cl") => `(tactic| first | ((first | show (_ : Int) < _ | show (_ : Int) ≤ _); first | omega | decide) | ((first | show (_ : Nat) < _ | show (_ : Nat) ≤ _); first | with_reducible assumption | (refine sz_le ?_; first | decide | omega | (simp <;> omega)) | (refine sz_lt ?_; first | decide | omega | (simp <;> omega)) | omega | decide | ((with_reducible show List.length _ < _); exact Nat.le_of_ble_eq_true rfl)) | rfl | walk_at "hp" | walk_at "sq" | (refine And.intro (by walk_at "cl") (by walk_at "cl")) | (exact Exists.intro _ (by walk_at "hp")) | (exact Exists.intro _ (Exists.intro _ (by walk_at "hp"))) | (exact Exists.intro _ (Exists.intro _ (And.intro (by walk_at "hp") rfl))) | decide | (exact Or.inl (by walk_at "cl")) | (exact Or.inr (by walk_at "cl")) | omega)
local macro_rules | `(tactic| walk_at "s1") => `(tactic| first | refine And.intro (by walk_at "cl") ?_ | apply Exists.intro)
local macro_rules | `(tactic| walk_at "sx") => `(tactic| repeat walk_at "s1")
local macro_rules | `(tactic| walk_at "si") => `(tactic| first | refine iteY rfl ?_ | refine iteN rfl ?_)
local macro_rules | `(tactic| walk_at "sy") => `(tactic| repeat first | walk_at "s1" | walk_at "si")
section
variable {P : Program} {w : World} {K : PySem.W.Frag} {mg : Str → Option Value} {base : Heap} {A : Ad}
theorem any_vals {H : Hp} {F : Fm} (ok : F.Ok) : ∀ v ∈ F.vals, AnyV K H v := by
  have n1 : F.sign.length ≤ 100000 := by rcases ok.si with e | e | e <;> rw [e] <;> decide
  have n2 : F.side.length ≤ 100000 := by rcases ok.sd with e | e | e | e <;> rw [e] <;> decide
  have n3 : ∀ c, (chS c).length ≤ 100000 := fun c => by show 1 ≤ 100000; decide
  intro v hv
  simp only [Fm.vals, List.mem_cons, List.not_mem_nil, or_false] at hv
  rcases hv with rfl | rfl | rfl | rfl | rfl | rfl | rfl | rfl
  · trivial
  · exact n1
  · trivial
  · trivial
  · exact n3 _
  · trivial
  · exact n3 _
  · exact n2
theorem sp_init_ok {p dx : Addr} {F : Fm} {H : Hp} {Q : VK} {E : XK} (ok : F.Ok) (h : H p = some (.ins A.cFormat dx [])) (q : ∀ H', But p H H' → IsFmt A H' p F → Q .non H') : sp_init K A (.ref p :: F.vals) H Q E := by
  refine ⟨rfl, ⟨dx, h⟩, any_vals ok, ?_⟩
  rw [fm_ok ok]
  intro F' e _ H' b f
  have : F' = F := by
    obtain ⟨a1, a2, a3, a4, a5, a6, a7, a8⟩ := F
    obtain ⟨b1, b2, b3, b4, b5, b6, b7, b8⟩ := F'
    simp only [Fm.vals, chS, List.cons.injEq, V.int.injEq, V.str.injEq, Int.natCast_inj, Str.mk.injEq, Array.mk.injEq, and_true] at e
    obtain ⟨rfl, rfl, rfl, rfl, rfl, rfl, rfl, rfl⟩ := e
    rfl
  subst this
  exact q H' b f
/-- the program's format, with these settings -/
def sp_l_format (A : Ad) : Sp := s1 fun a H Q _ => ∃ d F, a = .ref d ∧ H d = some (.dK (Fm.kvs F)) ∧ F.Ok ∧ ∀ p H', H p = none → Same H H' → IsFmt A H' p F → Q (.ref p) H'
theorem ok_l_format (T : Txt w K mg A) : Callee P w K mg base 6 "_law_format" ["_law_shape_here"] (sp_l_format A) := by
  refine callee_of T.F_l_format sc_l_format (fun _ _ _ _ _ _ us hl => match us, hl with | [_], _ => rfl) (fun vs H Q E h => ?_) (fun f cdv Ar outer s H vs Q E hr tk po h => ?_)
  · obtain ⟨_, rfl, _⟩ := s1_len h
    rfl
  · obtain ⟨a, rfl, d, F, rfl, h0, ok, q⟩ := s1_len h
    refine ⟨_, (pss_one (ps_ret (fc_make (ks := ["base", "sign", "least", "group", "mark", "width", "fill", "side"]) (ms := []) (idx := [0, 1, 2, 3, 4, 5, 6, 7, 8]) (mk_Format T) hr (by decide) (by rfl) tk (pk_cons (fe_dget (hu_of hr) (fv 0) pe_str (fun _ _ => rfl)) (pk_cons (fe_dget (hu_of hr) (fv 0) pe_str (fun _ _ => rfl)) (pk_cons (fe_dget (hu_of hr) (fv 0) pe_str (fun _ _ => rfl)) (pk_cons (fe_dget (hu_of hr) (fv 0) pe_str (fun _ _ => rfl)) (pk_cons (fe_dget (hu_of hr) (fv 0) pe_str (fun _ _ => rfl)) (pk_cons (fe_dget (hu_of hr) (fv 0) pe_str (fun _ _ => rfl)) (pk_cons (fe_dget (hu_of hr) (fv 0) pe_str (fun _ _ => rfl)) (pk_cons (fe_dget (hu_of hr) (fv 0) pe_str (fun _ _ => rfl)) pk_nil)))))))) (by decide) (by decide) (fun _ _ _ _ _ _ us mv ws l1 l2 l3 => match us, mv, ws, l1, l2, l3 with | [_], [], [_, _, _, _, _, _, _, _], _, _, _ => rfl)))), ?_⟩
    walk_at "sx"
    intro p dx H3 np s3 h3
    exact sp_init_ok ok h3 fun H' b f => ⟨rfl, q p H' np (Same.but s3 np b) f⟩
end

end Fg
set_option Elab.async false
set_option linter.all false
set_option maxRecDepth 100000
set_option maxHeartbeats 4000000
namespace Fg
open PySem PySem.Spec PyProof.Rows L2
local macro_rules | `(tactic| walk_at "hp") => `(tactic| first | assumption | (refine Same.get (by assumption) ?_; walk_at "hp"))
local macro_rules | `(tactic| walk_at "sq") => `(tactic| first | assumption | (exact Or.inr (by assumption)) | (exact Or.inl (by assumption)) | (exact Or.inl (SqL.of (by walk_at "hp"))) | (exact Or.inr (SqT.of (by walk_at "hp"))) | (exact SqL.of (by walk_at "hp")) | (exact SqT.of (by walk_at "hp")))
local macro_rules | `(tactic| walk_at "cl") => `(tactic| first | ((first | show (_ : Int) < _ | show (_ : Int) ≤ _); first | omega | decide) | ((first | show (_ : Nat) < _ | show (_ : Nat) ≤ _); first | with_reducible assumption | (refine sz_le ?_; first | decide | omega | (simp <;> omega)) | (refine sz_lt ?_; first | decide | omega | (simp <;> omega)) | omega | decide | ((with_reducible show List.length _ < _); exact Nat.le_of_ble_eq_true rfl)) | rfl | walk_at "hp" | walk_at "sq" | (refine And.intro (by walk_at "cl") (by walk_at "cl")) | (exact Exists.intro _ (by walk_at "hp")) | (exact Exists.intro _ (Exists.intro _ (by walk_at "hp"))) | (exact Exists.intro _ (Exists.intro _ (And.intro (by walk_at "hp") rfl))) | decide | (exact Or.inl (by walk_at "cl")) | (exact Or.inr (by walk_at "cl")) | omega)
local macro_rules | `(tactic| walk_at "s1") => `(tactic| first | refine And.intro (by walk_at "cl") ?_ | apply Exists.intro)
local macro_rules | `(tactic| walk_at "sx") => `(tactic| repeat walk_at "s1")
local macro_rules | `(tactic| walk_at "si") => `(tactic| first | refine iteY rfl ?_ | refine iteN rfl ?_)
local macro_rules | `(tactic| walk_at "sy") => `(tactic| repeat first | walk_at "s1" | walk_at "si")
def eqF (F G : Fm) : Bool := (List.zipWith eqV F.vals G.vals).all id
theorem eqF_iff {F G : Fm} : eqF F G = true ↔ F = G := by
  have ch : ∀ {a b : Nat}, chS a = chS b → a = b := fun {a b} e => by
    unfold chS at e
    injection e with e
    simpa using congrArg Array.toList e
  constructor
  · intro h
    obtain ⟨f1, f2, f3, f4, f5, f6, f7, f8⟩ := F
    obtain ⟨g1, g2, g3, g4, g5, g6, g7, g8⟩ := G
    unfold eqF Fm.vals at h
    simp only [List.zipWith_cons_cons, List.zipWith_nil_left, List.all_cons, List.all_nil, eqV, id, Bool.and_eq_true, beq_iff_eq, and_true] at h
    obtain ⟨a1, a2, a3, a4, a5, a6, a7, a8⟩ := h
    have := ch a5
    have := ch a7
    subst a2 a8
    congr 1 <;> omega
  · rintro rfl
    unfold eqF Fm.vals
    simp [eqV]
theorem said_short {F : Fm} (ok : F.Ok) : ∀ w ∈ F.said, w.length ≤ 10 := by
  obtain ⟨b1, b2, si, l1, l2, gr, ma, wi, fi, sd⟩ := ok
  have m1 := print_lt ma
  have m2 := print_lt fi
  have s1 : F.sign.length ≤ 10 := by rcases si with e | e | e <;> rw [e] <;> decide
  have s2 : F.side.length ≤ 10 := by rcases sd with e | e | e | e <;> rw [e] <;> decide
  intro w hw
  unfold Fm.said at hw
  simp only [List.mem_cons, List.not_mem_nil, or_false] at hw
  rcases hw with rfl | rfl | rfl | rfl | rfl | rfl | rfl | rfl | rfl | rfl | rfl | rfl | rfl | rfl | rfl | rfl
  · decide
  · exact toS_len _ (by omega)
  · decide
  · exact s1
  · decide
  · exact toS_len _ (by omega)
  · decide
  · exact toS_len _ (by omega)
  · decide
  · exact toS_len _ (by omega)
  · decide
  · exact toS_len _ (by omega)
  · decide
  · exact toS_len _ (by omega)
  · decide
  · exact s2
theorem words_len {F : Fm} (ok : F.Ok) : F.words.length ≤ 180 := by
  have h1 := sum_short F.said (said_short ok)
  have h2 : F.words.length ≤ (F.said.map (·.length)).sum + F.said.length * (" " : Str).length := by
    unfold Fm.words Txt.join
    rw [StrLaws.glued_eq_join]
    exact StrLaws.join_length_le _ _
  have e1 : F.said.length = 16 := rfl
  have e2 : (" " : Str).length = 1 := rfl
  rw [e1] at h1 h2
  rw [e2] at h2
  omega
section
variable {P : Program} {w : World} {K : PySem.W.Frag} {mg : Str → Option Value} {base : Heap} {A : Ad}
theorem ok_format_of (T : Txt w K mg A) : Callee P w K mg base 6 "format_of" ["table"] (sp_l_format A) := by
  refine callee_of T.F_format_of sc_format_of (fun _ _ _ _ _ _ us hl => match us, hl with | [_], _ => rfl) (fun vs H Q E h => ?_) (fun f cdv Ar outer s H vs Q E hr tk po h => ?_)
  · obtain ⟨_, rfl, _⟩ := s1_len h
    rfl
  · obtain ⟨a, rfl, d, F, rfl, h0, ok, q⟩ := s1_len h
    refine ⟨_, (pss_one (ps_ret (fc_make (ks := ["base", "sign", "least", "group", "mark", "width", "fill", "side"]) (ms := []) (idx := [0, 1, 2, 3, 4, 5, 6, 7, 8]) (mk_Format T) hr (by decide) (by rfl) tk (pk_cons (fe_dget (hu_of hr) (fv 0) pe_str (fun _ _ => rfl)) (pk_cons (fe_dget (hu_of hr) (fv 0) pe_str (fun _ _ => rfl)) (pk_cons (fe_dget (hu_of hr) (fv 0) pe_str (fun _ _ => rfl)) (pk_cons (fe_dget (hu_of hr) (fv 0) pe_str (fun _ _ => rfl)) (pk_cons (fe_dget (hu_of hr) (fv 0) pe_str (fun _ _ => rfl)) (pk_cons (fe_dget (hu_of hr) (fv 0) pe_str (fun _ _ => rfl)) (pk_cons (fe_dget (hu_of hr) (fv 0) pe_str (fun _ _ => rfl)) (pk_cons (fe_dget (hu_of hr) (fv 0) pe_str (fun _ _ => rfl)) pk_nil)))))))) (by decide) (by decide) (fun _ _ _ _ _ _ us mv ws l1 l2 l3 => match us, mv, ws, l1, l2, l3 with | [_], [], [_, _, _, _, _, _, _, _], _, _, _ => rfl)))), ?_⟩
    walk_at "sx"
    intro p dx H3 np s3 h3
    exact sp_init_ok ok h3 fun H' b f => ⟨rfl, q p H' np (Same.but s3 np b) f⟩
def sp_settings (A : Ad) : Sp := s1 fun a H Q _ => ∃ p F, a = .ref p ∧ IsFmt A H p F ∧ ∀ t H', H t = none → Same H H' → H' t = some (.tup F.vals) → Q (.ref t) H'
theorem ok_Format_settings (T : Txt w K mg A) : MCallee P w K mg base 1 A.cFormat "settings" ["self"] (sp_settings A) := by
  refine mcallee_of T.cl_Format T.M_Format_settings sc_Format_settings (fun _ _ _ _ _ _ us hl => match us, hl with | [_], _ => rfl) (fun vs H Q E h => ?_) (fun f cdv Ar outer s H vs Q E hr tk po h => ?_)
  · obtain ⟨_, rfl, _⟩ := s1_len h
    rfl
  · obtain ⟨a, rfl, p, F, rfl, ⟨dx, h0⟩, q⟩ := s1_len h
    refine ⟨_, (pss_one (ps_ret (fe_tup (pa_cons (fe_fld T.cl_Format T.n_Format_base (fv 0)) (pa_cons (fe_fld T.cl_Format T.n_Format_sign (fv 0)) (pa_cons (fe_fld T.cl_Format T.n_Format_least (fv 0)) (pa_cons (fe_fld T.cl_Format T.n_Format_group (fv 0)) (pa_cons (fe_fld T.cl_Format T.n_Format_mark (fv 0)) (pa_cons (fe_fld T.cl_Format T.n_Format_width (fv 0)) (pa_cons (fe_fld T.cl_Format T.n_Format_fill (fv 0)) (pa_cons (fe_fld T.cl_Format T.n_Format_side (fv 0)) pa_nil))))))))))), ?_⟩
    walk_at "sx"
    intro t H1 nt e1 h1
    exact q t H1 nt e1 h1
def sp_fmt_eq (A : Ad) : Sp := s2 fun a b H Q _ => ∃ p r F G, a = .ref p ∧ b = .ref r ∧ IsFmt A H p F ∧ IsFmt A H r G ∧ ∀ H', Same H H' → Q (.bl (eqF F G)) H'
theorem ok_Formatdd_eqdd (T : Txt w K mg A) : MCallee P w K mg base 2 A.cFormat "__eq__" ["self", "other"] (sp_fmt_eq A) := by
  refine mcallee_of T.cl_Format T.M_Formatdd_eqdd sc_Formatdd_eqdd (fun _ _ _ _ _ _ us hl => match us, hl with | [_, _], _ => rfl) (fun vs H Q E h => ?_) (fun f cdv Ar outer s H vs Q E hr tk po h => ?_)
  · obtain ⟨_, _, rfl, _⟩ := s2_len h
    rfl
  · obtain ⟨a, b, rfl, p, r, F, G, rfl, rfl, ⟨dx, h0⟩, ⟨dy, h1⟩, q⟩ := s2_len h
    refine ⟨_, (pss_one (ps_ret (pe_and (pe_callB (f_isC T.i_Format) (by rfl) T.b_isinstance (by decide +kernel) (pa_cons (fv 1) (pa_cons (fe_g (by rfl) T.v_Format) pa_nil))) (pe_one (pe_cmpR (f_eqB hr.units) (fc_meth0 (ok_Format_settings T) hr (by decide) tk (fv 0)) (fc_meth0 (ok_Format_settings T) hr (by decide) tk (fv 1)) (nomark _)))))), ?_⟩
    have ri := refTy_self h1 T.cl_Format T.in_Format
    walk_at "sx"
    intro t1 H1 n1 e1 h1'
    have h11 := e1 _ _ h1
    walk_at "sx"
    intro t2 H2 n2 e2 h2
    have h12 := e2 _ _ h1'
    refine Or.inr (Or.inr ⟨F.vals, G.vals, List.zipWith eqV F.vals G.vals, SqT.of h12, SqT.of h2, ?_, ?_⟩)
    · exact .cons (eqB_flat rfl rfl) (.cons (eqB_flat rfl rfl) (.cons (eqB_flat rfl rfl) (.cons (eqB_flat rfl rfl) (.cons (eqB_flat rfl rfl) (.cons (eqB_flat rfl rfl) (.cons (eqB_flat rfl rfl) (.cons (eqB_flat rfl rfl) .nl)))))))
    · have q' := q H2 (e1.trans e2)
      have e : opp false ((List.zipWith eqV F.vals G.vals).all id && F.vals.length == G.vals.length) = eqF F G := by
        show ((List.zipWith eqV F.vals G.vals).all id && (8 : Nat) == 8) = eqF F G
        rw [show ((8 : Nat) == 8) = true from rfl, Bool.and_true]
        rfl
      rw [e]
      exact q'
def sp_fmt_str (A : Ad) : Sp := s1 fun a H Q _ => ∃ p F, a = .ref p ∧ IsFmt A H p F ∧ F.Ok ∧ Q (.str F.words) H
theorem ok_Formatdd_strdd (T : Txt w K mg A) : MCallee P w K mg base 1 A.cFormat "__str__" ["self"] (sp_fmt_str A) := by
  refine mcallee_of T.cl_Format T.M_Formatdd_strdd sc_Formatdd_strdd (fun _ _ _ _ _ _ us hl => match us, hl with | [_], _ => rfl) (fun vs H Q E h => ?_) (fun f cdv Ar outer s H vs Q E hr tk po h => ?_)
  · obtain ⟨_, rfl, _⟩ := s1_len h
    rfl
  · obtain ⟨a, rfl, p, F, rfl, ⟨dx, h0⟩, ok, q⟩ := s1_len h
    refine ⟨_, (pss_one (ps_ret (pe_joined1 (fe_fmt (fe_fld T.cl_Format T.n_Format_words (fv 0)))))), ?_⟩
    walk_at "sx"
    exact And.intro (sz_le (by have := words_len ok; omega)) q
end

end Fg
set_option Elab.async false
set_option linter.all false
set_option maxRecDepth 100000
set_option maxHeartbeats 4000000
namespace Fg
open PySem PySem.Spec PyProof.Rows L2
local macro_rules | `(tactic| walk_at "hp") => `(tactic| first | assumption | (refine Same.get (by assumption) ?_; walk_at "hp"))
local macro_rules | `(tactic| walk_at "sq") => `(tactic| first | assumption | (exact Or.inr (by assumption)) | (exact Or.inl (by assumption)) | (exact Or.inl (SqL.of (by walk_at "hp"))) | (exact Or.inr (SqT.of (by walk_at "hp"))) | (exact SqL.of (by walk_at "hp")) | (exact SqT.of (by walk_at "hp")))
local macro_rules | `(tactic| walk_at "cl") => `(tactic| first | ((first | show (_ : Int) < _ | show (_ : Int) ≤ _); first | omega | decide) | ((first | show (_ : Nat) < _ | show (_ : Nat) ≤ _); first | with_reducible assumption | (refine sz_le ?_; first | decide | omega | (simp <;> omega)) | (refine sz_lt ?_; first | decide | omega | (simp <;> omega)) | omega | decide | ((with_reducible show List.length _ < _); exact Nat.le_of_ble_eq_true rfl)) | rfl | walk_at "hp" | walk_at "sq" | (refine And.intro (by walk_at "cl") (by walk_at "cl")) | (exact Exists.intro _ (by walk_at "hp")) | (exact Exists.intro _ (Exists.intro _ (by walk_at "hp"))) | (exact Exists.intro _ (Exists.intro _ (And.intro (by walk_at "hp") rfl))) | decide | (exact Or.inl (by walk_at "cl")) | (exact Or.inr (by walk_at "cl")) | omega)
local macro_rules | `(tactic| walk_at "s1") => `(tactic| first | refine And.intro (by walk_at "cl") ?_ | apply Exists.intro)
local macro_rules | `(tactic| walk_at "sx") => `(tactic| repeat walk_at "s1")
local macro_rules | `(tactic| walk_at "si") => `(tactic| first | refine iteY rfl ?_ | refine iteN rfl ?_)
local macro_rules | `(tactic| walk_at "sy") => `(tactic| repeat first | walk_at "s1" | walk_at "si")
/-! ### z.split(" ", 3) -/
section
open PySem.StrLaws PySem.Builtin PySem.Builtin.Str
theorem tight_lim (s sub : Str) (hi limit lo : Nat) (hw : 1 ≤ sub.length) : ∀ (m cur : Nat) (st : Array Nat × Nat), ChainG s sub hi lo st.fst.toList st.snd → (st.fst.size < limit → ∀ k, st.snd ≤ k → k < cur → ¬ At s sub hi k) →
    ChainG s sub hi lo (forIn (List.range' cur m) st (occBody s sub hi limit)).run.fst.toList (forIn (List.range' cur m) st (occBody s sub hi limit)).run.snd ∧
    ((forIn (List.range' cur m) st (occBody s sub hi limit)).run.fst.size < limit → ∀ k, (forIn (List.range' cur m) st (occBody s sub hi limit)).run.snd ≤ k → k < cur + m → ¬ At s sub hi k)
  | 0, cur, st, h, hn => ⟨h, hn⟩
  | m + 1, cur, st, h, hn => by
    rw [List.range'_succ, List.forIn_cons]
    unfold occBody
    have e : cur + (m + 1) = (cur + 1) + m := by omega
    rw [e]
    split
    · rename_i hc
      refine tight_lim s sub hi limit lo hw m (cur + 1) _ ?_ ?_
      · show ChainG s sub hi lo (st.fst.push cur).toList (cur + sub.length)
        rw [Array.toList_push]
        exact chainG_snoc h hc.1.1.2 ⟨hc.1.2, hc.2⟩ (hn hc.1.1.1)
      · intro _ k h1 h2
        have h1' : cur + sub.length ≤ k := h1
        omega
    · rename_i hc
      refine tight_lim s sub hi limit lo hw m (cur + 1) _ h fun hs k h1 h2 hA => ?_
      by_cases hk : k < cur
      · exact hn hs k h1 hk hA
      · have ek : k = cur := by omega
        subst ek
        exact hc ⟨⟨⟨hs, h1⟩, hA.1⟩, hA.2⟩
theorem parts_lim (x : Str) (c : Nat) : ∀ (cuts : List Nat) (a f : Nat), ChainG x ⟨#[c]⟩ x.length a cuts f → (∀ p ∈ (partsFrom x (⟨#[c]⟩ : Str).length a cuts).dropLast, c ∉ p.cps.toList) ∧ ((∀ k, f ≤ k → ¬ At x ⟨#[c]⟩ x.length k) → ∀ p ∈ partsFrom x (⟨#[c]⟩ : Str).length a cuts, c ∉ p.cps.toList) ∧ (partsFrom x (⟨#[c]⟩ : Str).length a cuts).length = cuts.length + 1
  | [], a, f, h => ⟨fun p hp => (by cases hp), fun hn => parts_free x c [] a f h hn, rfl⟩
  | d :: r, a, f, h => by
    obtain ⟨i1, i2, i3⟩ := parts_lim x c r _ f h.2.2.2
    obtain ⟨q, s, e⟩ := partsFrom_ne x (⟨#[c]⟩ : Str).length (d + (⟨#[c]⟩ : Str).length) r
    refine ⟨fun p hp => ?_, fun hn => parts_free x c (d :: r) a f h hn, by show (_ :: partsFrom x _ _ r).length = _; rw [List.length_cons, i3]; rfl⟩
    have e2 : partsFrom x (⟨#[c]⟩ : Str).length a (d :: r) = strSub x a d :: partsFrom x (⟨#[c]⟩ : Str).length (d + (⟨#[c]⟩ : Str).length) r := rfl
    rw [e2, e, List.dropLast_cons_of_ne_nil (by simp), ← e] at hp
    rcases List.mem_cons.mp hp with rfl | hp
    · exact part_free x c a d (by have := h.2.1.1; omega) h.2.2.1
    · exact i1 p hp
/-- the pieces of at most three cuts -/
theorem cut3 (z : Str) (c : Nat) : Txt.join ⟨#[c]⟩ (Txt.splitMax z ⟨#[c]⟩ 3) = z ∧ (Txt.splitMax z ⟨#[c]⟩ 3).length ≤ 4 ∧ 1 ≤ (Txt.splitMax z ⟨#[c]⟩ 3).length ∧ (∀ p ∈ (Txt.splitMax z ⟨#[c]⟩ 3).dropLast, c ∉ p.cps.toList) ∧ ((Txt.splitMax z ⟨#[c]⟩ 3).length < 4 → ∀ p ∈ Txt.splitMax z ⟨#[c]⟩ 3, c ∉ p.cps.toList) := by
  have one : ∀ (h : c ∉ z.cps.toList), (Txt.join ⟨#[c]⟩ [z] = z ∧ [z].length ≤ 4 ∧ 1 ≤ [z].length ∧ (∀ p ∈ [z].dropLast, c ∉ p.cps.toList) ∧ ([z].length < 4 → ∀ p ∈ [z], c ∉ p.cps.toList)) := fun h => by
    refine ⟨?_, by simp, by simp, fun p hp => ?_, fun _ p hp => ?_⟩
    · unfold Txt.join
      rw [StrLaws.glued_eq_join]
      rfl
    · cases hp
    · rw [List.mem_singleton.mp hp]
      exact h
  have key := tight_lim z ⟨#[c]⟩ z.length 3 0 (Nat.le_refl 1) (z.length + 1 - 0) 0 ((#[] : Array Nat), 0) rfl (fun _ k _ h => by omega)
  have ln := occ_length_le z ⟨#[c]⟩ 0 z.length 3
  obtain ⟨fc, chn⟩ := occ_chain z ⟨#[c]⟩ 3
  have el : limitOf z 3 = 3 := rfl
  have eo := occ_eq z ⟨#[c]⟩ 0 z.length 3
  generalize (forIn (List.range' 0 (z.length + 1 - 0)) ((#[] : Array Nat), 0) (occBody z ⟨#[c]⟩ z.length 3)).run = r at key eo
  rw [← eo] at key
  obtain ⟨hG, hn⟩ := key
  have hs : r.fst.size = (occurrences z ⟨#[c]⟩ 0 z.length 3).length := by rw [eo]; exact Array.length_toList.symm
  have hn' : (occurrences z ⟨#[c]⟩ 0 z.length 3).length < 3 → ∀ k, r.snd ≤ k → ¬ At z ⟨#[c]⟩ z.length k := fun h k h1 hA => hn (by rw [hs]; exact h) k h1 (by have := hA.1; omega) hA
  have none : (occurrences z ⟨#[c]⟩ 0 z.length 3) = [] → c ∉ z.cps.toList := fun e hm => by
    rw [e] at hG
    have ef : r.snd = 0 := hG
    obtain ⟨j, hj⟩ := List.getElem?_of_mem hm
    exact hn' (by rw [e]; decide) j (by omega) ((subAt_one z c j).mpr hj)
  unfold Txt.splitMax
  split
  · rename_i hc
    refine one fun hm => ?_
    obtain ⟨j, hj⟩ := List.getElem?_of_mem hm
    have hA := (subAt_one z c j).mpr hj
    rw [Bool.or_eq_true, decide_eq_true_eq, decide_eq_true_eq] at hc
    rcases hc with h | h
    · have := hA.1; omega
    · exact absurd hm (kind_free z c h)
  · rw [el]
    split
    · rename_i he
      exact one (none (List.isEmpty_iff.mp he))
    · rw [partsBetween_eq]
      obtain ⟨p1, p2, p3⟩ := parts_lim z c _ 0 _ hG
      refine ⟨?_, by omega, by omega, p1, fun h => p2 (hn' (by omega))⟩
      unfold Txt.join
      rw [StrLaws.glued_eq_join, join_partsFrom z ⟨#[c]⟩ _ 0 fc chn, sub_whole]
end
theorem cut3_len {z : Str} {c : Nat} {w : Str} (h : w ∈ Txt.splitMax z ⟨#[c]⟩ 3) : w.length ≤ z.length := partMax_short h
/-- three words without the sign, then anything -/
theorem cut3_eq {a b d r : Str} {c : Nat} (ha : c ∉ a.cps.toList) (hb : c ∉ b.cps.toList) (hd : c ∉ d.cps.toList) : Txt.splitMax (Txt.join ⟨#[c]⟩ [a, b, d, r]) ⟨#[c]⟩ 3 = [a, b, d, r] := by
  obtain ⟨h1, h2, h3, h4, h5⟩ := cut3 (Txt.join ⟨#[c]⟩ [a, b, d, r]) c
  generalize Txt.splitMax (Txt.join ⟨#[c]⟩ [a, b, d, r]) ⟨#[c]⟩ 3 = ps at h1 h2 h3 h4 h5
  have e : glueL c (ps.map fun w : Str => w.cps.toList) = glueL c ([a, b, d, r].map fun w : Str => w.cps.toList) := by rw [← join_codes, h1, join_codes]
  have hr : glueL c ([a, b, d, r].map fun w : Str => w.cps.toList) = a.cps.toList ++ c :: (b.cps.toList ++ c :: (d.cps.toList ++ c :: r.cps.toList)) := rfl
  have stop : ∀ {x y : List Nat} {s : List Nat}, c ∉ x → x = y ++ c :: s → False := fun {x y s} hx e => hx (by rw [e]; simp)
  rw [hr] at e
  match ps, h2, h3, h4, h5, e with
  | [p], _, _, _, h5, e => exact (stop (h5 (by simp) p (by simp)) e).elim
  | [p, q], _, _, _, h5, e =>
    have f1 := h5 (by simp) p (by simp)
    have f2 := h5 (by simp) q (by simp)
    obtain ⟨_, e⟩ := app_free f1 ha (show p.cps.toList ++ c :: q.cps.toList = _ from e)
    exact (stop f2 e).elim
  | [p, q, s], _, _, _, h5, e =>
    have f1 := h5 (by simp) p (by simp)
    have f2 := h5 (by simp) q (by simp)
    have f3 := h5 (by simp) s (by simp)
    obtain ⟨_, e⟩ := app_free f1 ha (show p.cps.toList ++ c :: (q.cps.toList ++ c :: s.cps.toList) = _ from e)
    obtain ⟨_, e⟩ := app_free f2 hb e
    exact (stop f3 e).elim
  | [p, q, s, t], _, _, h4, _, e =>
    have f1 := h4 p (by simp)
    have f2 := h4 q (by simp)
    have f3 := h4 s (by simp)
    obtain ⟨e1, e⟩ := app_free f1 ha (show p.cps.toList ++ c :: (q.cps.toList ++ c :: (s.cps.toList ++ c :: t.cps.toList)) = _ from e)
    obtain ⟨e2, e⟩ := app_free f2 hb e
    obtain ⟨e3, e4⟩ := app_free f3 hd e
    rw [str_eq e1, str_eq e2, str_eq e3, str_eq e4]
  | _ :: _ :: _ :: _ :: _ :: _, h2, _, _, _, _ => simp at h2

end Fg
set_option Elab.async false
set_option linter.all false
set_option maxRecDepth 100000
set_option maxHeartbeats 4000000
namespace Fg
open PySem PySem.Spec PyProof.Rows L2
local macro_rules | `(tactic| walk_at "hp") => `(tactic| first | assumption | (refine Same.get (by assumption) ?_; walk_at "hp"))
local macro_rules | `(tactic| walk_at "sq") => `(tactic| first | assumption | (exact Or.inr (by assumption)) | (exact Or.inl (by assumption)) | (exact Or.inl (SqL.of (by walk_at "hp"))) | (exact Or.inr (SqT.of (by walk_at "hp"))) | (exact SqL.of (by walk_at "hp")) | (exact SqT.of (by walk_at "hp")))
local macro_rules | `(tactic| walk_at "cl") => `(tactic| first | ((first | show (_ : Int) < _ | show (_ : Int) ≤ _); first | omega | decide) | ((first | show (_ : Nat) < _ | show (_ : Nat) ≤ _); first | with_reducible assumption | (refine sz_le ?_; first | decide | omega | (simp <;> omega)) | (refine sz_lt ?_; first | decide | omega | (simp <;> omega)) | omega | decide | ((with_reducible show List.length _ < _); exact Nat.le_of_ble_eq_true rfl)) | rfl | walk_at "hp" | walk_at "sq" | (refine And.intro (by walk_at "cl") (by walk_at "cl")) | (exact Exists.intro _ (by walk_at "hp")) | (exact Exists.intro _ (Exists.intro _ (by walk_at "hp"))) | (exact Exists.intro _ (Exists.intro _ (And.intro (by walk_at "hp") rfl))) | decide | (exact Or.inl (by walk_at "cl")) | (exact Or.inr (by walk_at "cl")) | omega)
local macro_rules | `(tactic| walk_at "s1") => `(tactic| first | refine And.intro (by walk_at "cl") ?_ | apply Exists.intro)
local macro_rules | `(tactic| walk_at "sx") => `(tactic| repeat walk_at "s1")
local macro_rules | `(tactic| walk_at "si") => `(tactic| first | refine iteY rfl ?_ | refine iteN rfl ?_)
local macro_rules | `(tactic| walk_at "sy") => `(tactic| repeat first | walk_at "s1" | walk_at "si")
/-! ### names, ends of ranges, fields -/
def smallS : Str := "abcdefghijklmnopqrstuvwxyz"
def smallL : List Nat := (List.range 26).map fun i => 97 + i
theorem smallS_eq : smallS.cps.toList = smallL := by decide +kernel
def nameB (z : Str) : Bool := decide (z ≠ ("" : Str)) && (decide (z.length ≤ 10) && z.cps.toList.all fun c => decide (c ∈ smallL))
def nameV : V → Bool
  | .str z => nameB z
  | _ => false
/-- the ends of a range -/
def BND : Int := 10 ^ 12
structure Fd where
  name : Str
  fmt : Fm
  low : Option Int
  high : Option Int
def endOk : Option Int → Prop
  | none => True
  | some i => -1000000000000 ≤ i ∧ i ≤ 1000000000000
structure Fd.Ok (D : Fd) : Prop where
  nm : nameB D.name = true
  fm : D.fmt.Ok
  lo : endOk D.low
  hi : endOk D.high
  le : ∀ i j, D.low = some i → D.high = some j → i ≤ j
def endS : Option Int → Str
  | none => "none"
  | some i => (toString i : String)
def Fd.text (D : Fd) : Str := Txt.join " " [D.name, endS D.low, endS D.high, D.fmt.words]
section
variable {P : Program} {w : World} {K : PySem.W.Frag} {mg : Str → Option Value} {base : Heap} {A : Ad}
def sp_is_name (K : PySem.W.Frag) : Sp := s1 fun a H Q _ => AnyV K H a ∧ ∀ H', Same H H' → Q (.bl (nameV a)) H'
theorem ok_is_name (T : Txt w K mg A) : Callee P w K mg base 1 "is_name" ["value"] (sp_is_name K) := by
  refine callee_of T.F_is_name sc_is_name (fun _ _ _ _ _ _ us hl => match us, hl with | [_], _ => rfl) (fun vs H Q E h => ?_) (fun f cdv Ar outer s H vs Q E hr tk po h => ?_)
  · obtain ⟨_, rfl, _⟩ := s1_len h
    rfl
  · obtain ⟨a, rfl, h0, q⟩ := s1_len h
    refine ⟨_, (pss_cons (ps_if (PW.pt (pw_or (pt_not (ft_val (pe_callB f_isstr (by rfl) T.b_isinstance (by decide +kernel) (pa_cons (fv 0) (pa_cons (pe_bltn (v := .ty "str") (by rfl) T.b_str (by decide +kernel) rfl) pa_nil))))) (pw_or (ft_cmp f_eq (fv 0) pe_str (nomark _)) (pw_or1 (ft_cmp f_gt (pe_callB f_len (by rfl) T.b_len (by decide +kernel) (pa_cons (fv 0) pa_nil)) (fe_g (by rfl) T.g_LONGEST_NAME) (nomark _)))))) (pss_one (ps_ret pe_bl)) pss_nil)
      (pss_one (ps_ret (pe_callB (f_all rfl) (by rfl) T.b_all (by decide +kernel) (pa_cons (fe_lc (own := [("sign", 1)]) (tt := tYes) (by rfl) sc_is_name.nd (fi_S (fv 0)) (blkOk_by (own := [("sign", 1)]) (N := ["value", "sign"]) (sc := defScope s_is_name) (by decide +kernel)) (fun _ _ _ _ _ => pg_name (i := 1) sc_is_name.nd rfl (Or.inl rfl)) (fun _ _ _ _ _ => pts_nil) (fun _ _ _ _ _ => (pe_cmpR f_inS (fv 1) (fe_g (by rfl) T.g_SMALL_LETTERS) (by rfl)))) pa_nil))))), ?_⟩
    clear hr tk po h
    cases a <;> first | exact h0.elim | skip
    case str z =>
      have zl : z.length ≤ sizeLine := Nat.le_trans h0 (sz_le (by decide))
      walk_at "sy"
      refine iteD (fun c => ?_) (fun c => ?_)
      · have e : nameB z = false := by rw [c]; rfl
        have q' := q _ (Same.refl _)
        rw [show nameV (.str z) = false from e] at q'
        walk_at "sx"
        exact q'
      · walk_at "sx"
        refine iteD (fun c2 => ?_) (fun c2 => ?_)
        · have e : nameB z = false := by
            unfold nameB
            rw [decide_eq_false (show ¬ z.length ≤ 10 by omega), Bool.false_and, Bool.and_false]
          have q' := q _ (Same.refl _)
          rw [show nameV (.str z) = false from e] at q'
          exact q'
        · walk_at "sx"
          refine And.intro trivial ?_
          intro D5 H5 n5 s5 h5
          refine And.intro trivial ?_
          refine Comp.mapP (H0 := H) (fun y => ∃ c, y = .str ⟨#[c]⟩) (fun v => match v with | .str z => .bl (decide (z.cps.toList.headD 0 ∈ smallL)) | v => v) n5 (fun _ _ => trivial) ?_ _ [] _ ?_ ?_ s5 h5 ?_
          · rintro y Hz R ⟨c, rfl⟩ sz kk
            walk_at "sx"
            have k := kk Hz (Same.refl _)
            show R (.bl (opp false (decide (c ∈ smallS.cps.toList)))) Hz
            rw [smallS_eq]
            exact k
          · intro y hy
            obtain ⟨c, _, rfl⟩ := List.mem_map.mp hy
            exact ⟨c, rfl⟩
          · refine sz_le ?_
            unfold signs
            rw [List.length_map]
            have e : z.cps.toList.length = z.length := Array.length_toList ..
            simp only [List.length_nil]
            omega
          intro H6 s6 h6
          have hx : ∃ bs : List Bool, H6 D5 = some (.lst (bs.map V.bl)) ∧ bs.all id = z.cps.toList.all (fun c => decide (c ∈ smallL)) := by
            refine ⟨z.cps.toList.map fun c => decide (c ∈ smallL), ?_, by rw [List.all_map]; rfl⟩
            rw [h6, List.nil_append]
            unfold signs
            rw [List.map_map, List.map_map]
            rfl
          obtain ⟨bs, h6b, eb⟩ := hx
          have q6 : SqL K H6 D5 (bs.map V.bl) := SqL.of h6b
          have q' := q H6 s6
          have e : nameB z = bs.all id := by
            unfold nameB
            rw [decide_eq_true (show z ≠ "" from c), decide_eq_true (show z.length ≤ 10 by omega), Bool.true_and, Bool.true_and, eb]
          rw [show nameV (.str z) = bs.all id from e] at q'
          walk_at "sx"
          exact q'
    case ref p =>
      have r := h0.2
      walk_at "sy"
      exact q _ (Same.refl _)
    all_goals
      walk_at "sy"
      exact q _ (Same.refl _)
end

end Fg
set_option Elab.async false
set_option linter.all false
set_option maxRecDepth 100000
set_option maxHeartbeats 4000000
namespace Fg
open PySem PySem.Spec PyProof.Rows L2
local macro_rules | `(tactic| walk_at "hp") => `(tactic| first | assumption | (refine Same.get (by assumption) ?_; walk_at "hp"))
local macro_rules | `(tactic| walk_at "sq") => `(tactic| first | assumption | (exact Or.inr (by assumption)) | (exact Or.inl (by assumption)) | (exact Or.inl (SqL.of (by walk_at "hp"))) | (exact Or.inr (SqT.of (by walk_at "hp"))) | (exact SqL.of (by walk_at "hp")) | (exact SqT.of (by walk_at "hp")))
local macro_rules | `(tactic| walk_at "cl") => `(tactic| first | ((first | show (_ : Int) < _ | show (_ : Int) ≤ _); first | omega | decide) | ((first | show (_ : Nat) < _ | show (_ : Nat) ≤ _); first | with_reducible assumption | (refine sz_le ?_; first | decide | omega | (simp <;> omega)) | (refine sz_lt ?_; first | decide | omega | (simp <;> omega)) | omega | decide | ((with_reducible show List.length _ < _); exact Nat.le_of_ble_eq_true rfl)) | rfl | walk_at "hp" | walk_at "sq" | (refine And.intro (by walk_at "cl") (by walk_at "cl")) | (exact Exists.intro _ (by walk_at "hp")) | (exact Exists.intro _ (Exists.intro _ (by walk_at "hp"))) | (exact Exists.intro _ (Exists.intro _ (And.intro (by walk_at "hp") rfl))) | decide | (exact Or.inl (by walk_at "cl")) | (exact Or.inr (by walk_at "cl")) | omega)
local macro_rules | `(tactic| walk_at "s1") => `(tactic| first | refine And.intro (by walk_at "cl") ?_ | apply Exists.intro)
local macro_rules | `(tactic| walk_at "sx") => `(tactic| repeat walk_at "s1")
local macro_rules | `(tactic| walk_at "si") => `(tactic| first | refine iteY rfl ?_ | refine iteN rfl ?_)
local macro_rules | `(tactic| walk_at "sy") => `(tactic| repeat first | walk_at "s1" | walk_at "si")
section
variable {P : Program} {w : World} {K : PySem.W.Frag} {mg : Str → Option Value} {base : Heap} {A : Ad}
theorem r_InvalidName (T : Txt w K mg A) : Raiser P w K mg base "InvalidName" A.cInvalidName "value" :=
  raiser_of T.oe_InvalidName T.g_InvalidName T.I_InvalidNamedd_initdd T.nf_InvalidName sc_InvalidNamedd_initdd (fun _ _ _ _ _ _ us hl => match us, hl with | [_, _], _ => rfl) (fun X hs hN => pss_one (ps_ost (fv 0 (by rw [hN]; rfl) (by rw [hs]; exact Or.inl rfl)) (fv 1 (by rw [hN]; rfl) (by rw [hs]; exact Or.inl rfl))))
theorem r_NotAFormat (T : Txt w K mg A) : Raiser P w K mg base "NotAFormat" A.cNotAFormat "value" :=
  raiser_of T.oe_NotAFormat T.g_NotAFormat T.I_NotAFormatdd_initdd T.nf_NotAFormat sc_NotAFormatdd_initdd (fun _ _ _ _ _ _ us hl => match us, hl with | [_, _], _ => rfl) (fun X hs hN => pss_one (ps_ost (fv 0 (by rw [hN]; rfl) (by rw [hs]; exact Or.inl rfl)) (fv 1 (by rw [hN]; rfl) (by rw [hs]; exact Or.inl rfl))))
theorem r_InvalidRange (T : Txt w K mg A) : Raiser P w K mg base "InvalidRange" A.cInvalidRange "end" :=
  raiser_of T.oe_InvalidRange T.g_InvalidRange T.I_InvalidRangedd_initdd T.nf_InvalidRange sc_InvalidRangedd_initdd (fun _ _ _ _ _ _ us hl => match us, hl with | [_, _], _ => rfl) (fun X hs hN => pss_one (ps_ost (fv 0 (by rw [hN]; rfl) (by rw [hs]; exact Or.inl rfl)) (fv 1 (by rw [hN]; rfl) (by rw [hs]; exact Or.inl rfl))))
theorem endOk_log {i : Int} (h : endOk (some i)) : i.natAbs.log2 < 1920 := by
  obtain ⟨h1, h2⟩ := h
  exact Nat.lt_of_le_of_lt (log_le (k := 40) (by omega)) (by decide)
def sp_end_text : Sp := s1 fun a H Q _ => ∃ o : Option Int, a = optV o ∧ endOk o ∧ Q (.str (endS o)) H
theorem ok_end_text (T : Txt w K mg A) : Callee P w K mg base 1 "end_text" ["end"] sp_end_text := by
  refine callee_of T.F_end_text sc_end_text (fun _ _ _ _ _ _ us hl => match us, hl with | [_], _ => rfl) (fun vs H Q E h => ?_) (fun f cdv Ar outer s H vs Q E hr tk po h => ?_)
  · obtain ⟨_, rfl, _⟩ := s1_len h
    rfl
  · obtain ⟨a, rfl, o, rfl, ho, q⟩ := s1_len h
    refine ⟨_, (pss_one (ps_ret (pe_ifExp (ft_cmp f_isN (fv 0) pe_non (nomark _)) pe_str (pe_joined1 (fe_fmt (fv 0)))))), ?_⟩
    cases o with
    | none =>
      walk_at "sy"
      exact q
    | some i =>
      have lg := endOk_log ho
      walk_at "sy"
      exact q
def endB (z : Str) : Bool := decide (z = ("none" : Str)) || (match intW z.cps.toList with
  | some i => isBetw (-1000000000000) 1000000000000 (.int i)
  | none => false)
def sp_is_end : Sp := s1 fun a H Q _ => ∃ z, a = .str z ∧ z.length ≤ 1000 ∧ ∀ H', Same H H' → Q (.bl (endB z)) H'
theorem ok_is_end (T : Txt w K mg A) : Callee P w K mg base 3 "is_end" ["word"] sp_is_end := by
  refine callee_of T.F_is_end sc_is_end (fun _ _ _ _ _ _ us hl => match us, hl with | [_], _ => rfl) (fun vs H Q E h => ?_) (fun f cdv Ar outer s H vs Q E hr tk po h => ?_)
  · obtain ⟨_, rfl, _⟩ := s1_len h
    rfl
  · obtain ⟨a, rfl, z, rfl, hz, q⟩ := s1_len h
    refine ⟨_, (pss_cons (ps_set (i := 1) sc_is_end.nd rfl (Or.inl rfl) (fc_call (ok_integer_in T) hr (by decide) (by rfl) tk (pa_cons (fv 0) pa_nil)))
      (pss_one (ps_ret (pe_or (pe_cmpR f_eq (fv 0) pe_str (nomark _)) (pe_one (pe_and (pe_cmpR f_notN (fv 1) pe_non (nomark _)) (pe_one (fc_call (ok_is_between T) hr (by decide) (by rfl) tk (pa_cons (fv 1) (pa_cons (pe_un un_neg (fe_g (by rfl) T.g_MOST_BOUND)) (pa_cons (fe_g (by rfl) T.g_MOST_BOUND) pa_nil))))))))))), ?_⟩
    walk_at "sx"
    intro H1 e1
    have q' := q H1 e1
    unfold endB at q'
    cases hn : intW z.cps.toList with
    | none =>
      rw [hn, Bool.or_false] at q'
      walk_at "sx"
      refine iteB (fun c => ?_) (fun c => ?_)
      · rw [c] at q'
        exact q'
      · rw [c] at q'
        walk_at "sx"
        exact q'
    | some i =>
      rw [hn] at q'
      walk_at "sx"
      refine iteB (fun c => ?_) (fun c => ?_)
      · rw [c] at q'
        exact q'
      · rw [c] at q'
        walk_at "sx"
        exact And.intro True.intro q'
/-- whether a value is an instance of the class at C -/
def InsOf (K : PySem.W.Frag) (H : Hp) (C : Addr) : V → Bool → Prop
  | .ref a, b => RefTy K H a (.ref C) b
  | .non, b => b = false
  | .bl _, b => b = false
  | .int _, b => b = false
  | .str _, b => b = false
  | _, _ => False
def sp_check_format (K : PySem.W.Frag) (A : Ad) : Sp := s1 fun v H Q E => ∃ b, InsOf K H A.cFormat v b ∧ (b = true → Q .non H) ∧ (b = false → ∀ d H', Same H H' → H' d = some (.xd [("value", v)]) → E (.ref A.cNotAFormat) (some d) H')
theorem ok_check_format (T : Txt w K mg A) : Callee P w K mg base 3 "check_format" ["value"] (sp_check_format K A) := by
  refine callee_of T.F_check_format sc_check_format (fun _ _ _ _ _ _ us hl => match us, hl with | [_], _ => rfl) (fun vs H Q E h => ?_) (fun f cdv Ar outer s H vs Q E hr tk po h => ?_)
  · obtain ⟨_, rfl, _⟩ := s1_len h
    rfl
  · obtain ⟨v, rfl, b, hb, q1, q2⟩ := s1_len h
    refine ⟨_, (pss_one (ps_if (pt_not (ft_val (pe_callB (f_isC T.i_Format) (by rfl) T.b_isinstance (by decide +kernel) (pa_cons (fv 0) (pa_cons (fe_g (by rfl) T.v_Format) pa_nil))))) (pss_one (fr_raise rfl (r_NotAFormat T) hr (by decide) tk (by rfl) (fv 0))) pss_nil)), ?_⟩
    cases v <;> first | exact hb.elim | skip
    case ref a =>
      have hb : RefTy K H a (.ref A.cFormat) b := hb
      cases b with
      | true =>
        have q1 := q1 rfl
        walk_at "sy"
        exact q1
      | false =>
        have q2 := q2 rfl
        walk_at "sy"
        exact fun d H' _ s' h' => q2 d H' s' h'
    all_goals
      have hb : b = false := hb
      have q2 := q2 hb
      walk_at "sy"
      exact fun d H' _ s' h' => q2 d H' s' h'
def rangeCmp : V → V → Option Str
  | .int i, .int j => if j < i then some "high" else none
  | _, _ => none
def rangeBad (a b : V) : Option Str :=
  if a ≠ .non ∧ isBetw (-1000000000000) 1000000000000 a = false then some "low" else if b ≠ .non ∧ isBetw (-1000000000000) 1000000000000 b = false then some "high" else rangeCmp a b
theorem fIsN_ne {neg : Bool} {a : V} {H : Hp} {Q : VK} (h : a ≠ .non) (q : Q (.bl neg) H) : fIsN neg a .non H Q := by
  cases a <;> first | exact absurd rfl h | exact q
theorem betw_int {lo hi : Int} {v : V} (h : isBetw lo hi v = true) : ∃ i, v = .int i ∧ lo ≤ i ∧ i ≤ hi := by
  cases v <;> first | (cases h; done) | exact ⟨_, rfl, betw_of h⟩
/-- an end that does, as a value -/
def EndV (v : V) : Prop := v = .non ∨ isBetw (-1000000000000) 1000000000000 v = true
theorem endV_cases (a : V) : a = .non ∨ (a ≠ .non ∧ isBetw (-1000000000000) 1000000000000 a = true) ∨ (a ≠ .non ∧ isBetw (-1000000000000) 1000000000000 a = false) := by
  cases a <;> first | exact .inl rfl | (refine .inr ?_; cases isBetw (-1000000000000) 1000000000000 _ <;> simp)
theorem rangeBad_ok {a b : V} (ha : EndV a) (hb : EndV b) : rangeBad a b = rangeCmp a b := by
  unfold rangeBad
  have h1 : ∀ {v : V}, EndV v → ¬ (v ≠ .non ∧ isBetw (-1000000000000) 1000000000000 v = false) := fun {v} h z => by
    rcases h with h | h
    · exact z.1 h
    · rw [h] at z
      cases z.2
  rw [if_neg (h1 ha), if_neg (h1 hb)]
def sp_check_range (K : PySem.W.Frag) (A : Ad) : Sp := s2 fun a b H Q E => AnyV K H a ∧ AnyV K H b ∧ (rangeBad a b = none → ∀ H', Same H H' → Q .non H') ∧ ∀ s, rangeBad a b = some s → ∀ d H', Same H H' → H' d = some (.xd [("end", .str s)]) → E (.ref A.cInvalidRange) (some d) H'
theorem ok_check_range (T : Txt w K mg A) : Callee P w K mg base 3 "check_range" ["low", "high"] (sp_check_range K A) := by
  refine callee_of T.F_check_range sc_check_range (fun _ _ _ _ _ _ us hl => match us, hl with | [_, _], _ => rfl) (fun vs H Q E h => ?_) (fun f cdv Ar outer s H vs Q E hr tk po h => ?_)
  · obtain ⟨_, _, rfl, _⟩ := s2_len h
    rfl
  · obtain ⟨a, b, rfl, ha, hb, q1, q2⟩ := s2_len h
    refine ⟨_, (pss_cons (fs_for po rfl (fi_T (fe_tup (pa_cons (fe_tup (pa_cons pe_str (pa_cons (fv 0) pa_nil))) (pa_cons (fe_tup (pa_cons pe_str (pa_cons (fv 1) pa_nil))) pa_nil)))) (pg_tup rfl (pgs_cons (pg_name (i := 2) sc_check_range.nd rfl (Or.inl rfl)) (pgs_cons (pg_name (i := 3) sc_check_range.nd rfl (Or.inl rfl)) pgs_nil))) (pss_one (ps_if (PW.pt (pw_and (ft_cmp f_notN (fv 3) pe_non (nomark _)) (pw_and1 (pt_not (ft_val (fc_call (ok_is_between T) hr (by decide) (by rfl) tk (pa_cons (fv 3) (pa_cons (pe_un un_neg (fe_g (by rfl) T.g_MOST_BOUND)) (pa_cons (fe_g (by rfl) T.g_MOST_BOUND) pa_nil))))))))) (pss_one (fr_raise rfl (r_InvalidRange T) hr (by decide) tk (by rfl) (fv 2))) pss_nil)))
      (pss_one (ps_if (PW.pt (pw_and (ft_cmp f_notN (fv 0) pe_non (nomark _)) (pw_and (ft_cmp f_notN (fv 1) pe_non (nomark _)) (pw_and1 (ft_cmp f_lt (fv 1) (fv 0) (nomark _)))))) (pss_one (fr_raise rfl (r_InvalidRange T) hr (by decide) tk (by rfl) pe_str)) pss_nil))), ?_⟩
    clear hr tk po h
    refine seqCut (fun σ H' => ∃ x y, σ = [some a, some b, x, y] ∧ Same H H' ∧ EndV a ∧ EndV b) (fun N hN => ?_) ?_
    · walk_at "sx"
      intro t1 H1 n1 e1 h1
      walk_at "sx"
      intro t2 H2 n2 e2 h2
      have h12 := e2 _ _ h1
      walk_at "sx"
      intro t3 H3 n3 e3 h3
      have h13 := e3 _ _ h12
      have h23 := e3 _ _ h2
      have a3 : AnyV K H3 a := AnyV.same (e1.trans (e2.trans e3)) ha
      have b3 : AnyV K H3 b := AnyV.same (e1.trans (e2.trans e3)) hb
      have e13 := e1.trans (e2.trans e3)
      have low : a ≠ .non ∧ isBetw (-1000000000000) 1000000000000 a = false → rangeBad a b = some ("low" : Str) := fun h => by
        unfold rangeBad
        rw [if_pos h]
      walk_at "sx"
      have no : ∀ {v : V}, v ≠ .non → isBetw (-1000000000000) 1000000000000 v = false → a = v → ∀ (d : Addr) (H' : Hp), Same H H' → H' d = some (.xd [("end", .str "low")]) → E (.ref A.cInvalidRange) (some d) H' := fun {v} n z e => q2 "low" (low ⟨by rw [e]; exact n, by rw [e]; exact z⟩)
      have high : EndV a → b ≠ .non → isBetw (-1000000000000) 1000000000000 b = false → ∀ (d : Addr) (H' : Hp), Same H H' → H' d = some (.xd [("end", .str "high")]) → E (.ref A.cInvalidRange) (some d) H' := fun ea n1 n2 => q2 "high" (by
        unfold rangeBad
        rw [if_neg, if_pos ⟨n1, n2⟩]
        rintro ⟨z1, z2⟩
        rcases ea with ea | ea
        · exact z1 ea
        · rw [ea] at z2
          cases z2)
      clear q1 q2 low
      cases a <;> first | exact ha.elim | skip
      case bl v =>
        have q := no (v := .bl v) (fun e => by cases e) rfl rfl
        walk_at "sy"
        exact fun d H' _ s' h' => q d H' (e13.trans s') h'
      case str v =>
        have q := no (v := .str v) (fun e => by cases e) rfl rfl
        walk_at "sy"
        exact fun d H' _ s' h' => q d H' (e13.trans s') h'
      case ref v =>
        have q := no (v := .ref v) (fun e => by cases e) rfl rfl
        walk_at "sy"
        exact fun d H' _ s' h' => q d H' (e13.trans s') h'
      case' non =>
        have ea : EndV .non := .inl rfl
        walk_at "sy"
      case' int i =>
        walk_at "sx"
        refine iteB (fun z => ?_) (fun z => ?_)
        · have z' : isBetw (-1000000000000) 1000000000000 (.int i) = false := by simpa using z
          have q := no (v := .int i) (fun e => by cases e) z' rfl
          walk_at "sx"
          exact fun d H' _ s' h' => q d H' (e13.trans s') h'
        have ea : EndV (.int i) := .inr (by simpa using z)
      all_goals
        have hi := high ea
        walk_at "sx"
        cases b <;> first | exact hb.elim | skip
        case bl v =>
          have q := hi (fun e => by cases e) rfl
          walk_at "sy"
          exact fun d H' _ s' h' => q d H' (e13.trans s') h'
        case str v =>
          have q := hi (fun e => by cases e) rfl
          walk_at "sy"
          exact fun d H' _ s' h' => q d H' (e13.trans s') h'
        case ref v =>
          have q := hi (fun e => by cases e) rfl
          walk_at "sy"
          exact fun d H' _ s' h' => q d H' (e13.trans s') h'
        case non =>
          walk_at "sy"
          exact hN _ _ ⟨_, _, rfl, e13, ea, .inl rfl⟩
        case int j =>
          walk_at "sx"
          refine iteB (fun z => ?_) (fun z => ?_)
          · have z' : isBetw (-1000000000000) 1000000000000 (.int j) = false := by simpa using z
            have q := hi (fun e => by cases e) z'
            walk_at "sx"
            exact fun d H' _ s' h' => q d H' (e13.trans s') h'
          · have eb : EndV (.int j) := .inr (by simpa using z)
            walk_at "sx"
            exact hN _ _ ⟨_, _, rfl, e13, ea, eb⟩
    rintro σ H1 ⟨x, y, rfl, s1, ea, eb⟩
    rw [rangeBad_ok ea eb] at q1 q2
    rcases ea with rfl | ea
    · have q := q1 rfl H1 s1
      walk_at "sy"
      exact q
    · obtain ⟨i, rfl, _, _⟩ := betw_int ea
      rcases eb with rfl | eb
      · have q := q1 rfl H1 s1
        walk_at "sy"
        exact q
      · obtain ⟨j, rfl, _, _⟩ := betw_int eb
        walk_at "sx"
        refine iteD (fun c => ?_) (fun c => ?_)
        · have q := q2 "high" (if_pos c)
          walk_at "sx"
          exact fun d H' _ s' h' => q d H' (s1.trans s') h'
        · have q := q1 (if_neg c) H1 s1
          walk_at "sx"
          exact q
end

end Fg
set_option Elab.async false
set_option linter.all false
set_option maxRecDepth 100000
set_option maxHeartbeats 4000000
namespace Fg
open PySem PySem.Spec PyProof.Rows L2
local macro_rules | `(tactic| walk_at "hp") => `(tactic| first | assumption | (refine Same.get (by assumption) ?_; walk_at "hp"))
local macro_rules | `(tactic| walk_at "sq") => `(tactic| first | assumption | (exact Or.inr (by assumption)) | (exact Or.inl (by assumption)) | (exact Or.inl (SqL.of (by walk_at "hp"))) | (exact Or.inr (SqT.of (by walk_at "hp"))) | (exact SqL.of (by walk_at "hp")) | (exact SqT.of (by walk_at "hp")))
local macro_rules | `(tactic| walk_at "cl") => `(tactic| first | ((first | show (_ : Int) < _ | show (_ : Int) ≤ _); first | omega | decide) | ((first | show (_ : Nat) < _ | show (_ : Nat) ≤ _); first | with_reducible assumption | (refine sz_le ?_; first | decide | omega | (simp <;> omega)) | (refine sz_lt ?_; first | decide | omega | (simp <;> omega)) | omega | decide | ((with_reducible show List.length _ < _); exact Nat.le_of_ble_eq_true rfl)) | rfl | walk_at "hp" | walk_at "sq" | (refine And.intro (by walk_at "cl") (by walk_at "cl")) | (exact Exists.intro _ (by walk_at "hp")) | (exact Exists.intro _ (Exists.intro _ (by walk_at "hp"))) | (exact Exists.intro _ (Exists.intro _ (And.intro (by walk_at "hp") rfl))) | decide | (exact Or.inl (by walk_at "cl")) | (exact Or.inr (by walk_at "cl")) | omega)
local macro_rules | `(tactic| walk_at "s1") => `(tactic| first | refine And.intro (by walk_at "cl") ?_ | apply Exists.intro)
local macro_rules | `(tactic| walk_at "sx") => `(tactic| repeat walk_at "s1")
local macro_rules | `(tactic| walk_at "si") => `(tactic| first | refine iteY rfl ?_ | refine iteN rfl ?_)
local macro_rules | `(tactic| walk_at "sy") => `(tactic| repeat first | walk_at "s1" | walk_at "si")
section
variable {P : Program} {w : World} {K : PySem.W.Frag} {mg : Str → Option Value} {base : Heap} {A : Ad}
theorem InsOf.same {H H' : Hp} {C : Addr} {v : V} {b : Bool} (s : Same H H') (h : InsOf K H C v b) : InsOf K H' C v b := by
  cases v <;> first | exact h | exact RefTy.same s h
def sp_fld_init (K : PySem.W.Frag) (A : Ad) : Sp := fun vs H Q E => match vs with
  | [.ref p, a, b, c, d] => (∃ dx, H p = some (.ins A.cField dx [])) ∧ AnyV K H a ∧ AnyV K H c ∧ AnyV K H d ∧ ∃ bf, InsOf K H A.cFormat b bf ∧
    (nameV a = false → ∀ x H', Same H H' → H' x = some (.xd [("value", a)]) → E (.ref A.cInvalidName) (some x) H') ∧
    (nameV a = true → bf = false → ∀ x H', Same H H' → H' x = some (.xd [("value", b)]) → E (.ref A.cNotAFormat) (some x) H') ∧
    (nameV a = true → bf = true → ∀ s, rangeBad c d = some s → ∀ x H', Same H H' → H' x = some (.xd [("end", .str s)]) → E (.ref A.cInvalidRange) (some x) H') ∧
    (nameV a = true → bf = true → rangeBad c d = none → ∀ dx H', But p H H' → H' p = some (.ins A.cField dx [("name", a), ("pattern", b), ("low", c), ("high", d)]) → Q .non H')
  | _ => False
theorem sp_fld_init_len {vs : List V} {H : Hp} {Q : VK} {E : XK} (h : sp_fld_init K A vs H Q E) : ∃ p a b c d, vs = [.ref p, a, b, c, d] := by
  unfold sp_fld_init at h
  split at h
  · exact ⟨_, _, _, _, _, rfl⟩
  · exact h.elim
theorem nw_Field (T : Txt w K mg A) : PMaker P w K mg base 4 "Field" A.cField ["self", "name", "pattern", "low", "high"] (sp_fld_init K A) := by
  refine pmaker_of T.g_Field T.D_Field sc_Fielddd_initdd (fun e => by cases e) (fun _ _ _ _ _ _ _ us its h1 h2 => match us, its, h1, h2 with | [_, _, _, _, _], [_, _], _, _ => ⟨_, rfl, rfl⟩) (fun vs H Q E h => ?_) (fun f cdv Ar outer s H vs Q E hr tk po h => ?_)
  · obtain ⟨_, _, _, _, _, rfl⟩ := sp_fld_init_len h
    rfl
  · obtain ⟨p, a, b, c, d, rfl⟩ := sp_fld_init_len h
    obtain ⟨⟨dx, h0⟩, ha, hc, hd, bf, hb, q1, q2, q3, q4⟩ := h
    refine ⟨_, (pss_cons (ps_if (pt_not (ft_val (fc_call (ok_is_name T) hr (by decide) (by rfl) tk (pa_cons (fv 1) pa_nil)))) (pss_one (fr_raise rfl (r_InvalidName T) hr (by decide) tk (by rfl) (fv 1))) pss_nil)
      (pss_cons (ps_expr (fc_call (ok_check_format T) hr (by decide) (by rfl) tk (pa_cons (fv 2) pa_nil)))
      (pss_cons (ps_expr (fc_call (ok_check_range T) hr (by decide) (by rfl) tk (pa_cons (fv 3) (pa_cons (fv 4) pa_nil))))
      (pss_cons (fs_fld T.cl_Field T.n_Field_name (fv 0) (fv 1))
      (pss_cons (fs_fld T.cl_Field T.n_Field_pattern (fv 0) (fv 2))
      (pss_cons (fs_fld T.cl_Field T.n_Field_low (fv 0) (fv 3))
      (pss_one (fs_fld T.cl_Field T.n_Field_high (fv 0) (fv 4))))))))), ?_⟩
    walk_at "sx"
    intro H1 s1
    have h1 := s1 _ _ h0
    have hb1 := InsOf.same s1 hb
    have hc1 := AnyV.same s1 hc
    have hd1 := AnyV.same s1 hd
    cases en : nameV a with
    | false =>
      have q := q1 en
      refine iteY rfl ?_
      walk_at "sx"
      exact fun x H' _ s' h' => q x H' (s1.trans s') h'
    | true =>
      have q2 := q2 en
      have q3 := q3 en
      have q4 := q4 en
      refine iteN rfl ?_
      walk_at "sx"
      refine And.intro (fun e => ?_) (fun e x H' s' h' => q2 e x H' (s1.trans s') h')
      have q3 := q3 e
      have q4 := q4 e
      walk_at "sx"
      refine And.intro (fun er H2 s2 => ?_) (fun s er x H' s' h' => q3 s er x H' (s1.trans s') h')
      have q4 := q4 er
      have h2 := s2 _ _ h1
      walk_at "sx"
      intro H3 b3 h3
      walk_at "sx"
      intro H4 b4 h4
      walk_at "sx"
      intro H5 b5 h5
      walk_at "sx"
      intro H6 b6 h6
      exact q4 dx H6 ((But.of (s1.trans s2)).trans (((b3.trans b4).trans b5).trans b6)) h6
theorem IsFmt.sm {A : Ad} {H H' : Hp} {p : Addr} {F : Fm} (s : Same H H') (h : IsFmt A H p F) : IsFmt A H' p F := h.elim fun dx e => ⟨dx, s _ _ e⟩
def IsFld (A : Ad) (H : Hp) (p : Addr) (D : Fd) : Prop := ∃ dx q, H p = some (.ins A.cField dx [("name", .str D.name), ("pattern", .ref q), ("low", optV D.low), ("high", optV D.high)]) ∧ IsFmt A H q D.fmt
theorem IsFld.same {H H' : Hp} {p : Addr} {D : Fd} (s : Same H H') (h : IsFld A H p D) : IsFld A H' p D := by
  obtain ⟨dx, q, h, f⟩ := h
  exact ⟨dx, q, s _ _ h, IsFmt.sm s f⟩
theorem endV_of {o : Option Int} (h : endOk o) : EndV (optV o) := by
  cases o with
  | none => exact .inl rfl
  | some i =>
    refine .inr ?_
    show (decide _ && decide _) = true
    rw [decide_eq_true h.1, decide_eq_true h.2]
    rfl
theorem range_ok {D : Fd} (ok : D.Ok) : rangeBad (optV D.low) (optV D.high) = none := by
  rw [rangeBad_ok (endV_of ok.lo) (endV_of ok.hi)]
  have le := ok.le
  cases e1 : D.low with
  | none => rfl
  | some i =>
    cases e2 : D.high with
    | none => rfl
    | some j => exact if_neg (by have := le i j e1 e2; omega)
theorem any_opt {H : Hp} {o : Option Int} : AnyV K H (optV o) := by cases o <;> trivial
theorem name_len {z : Str} (h : nameB z = true) : 1 ≤ z.length ∧ z.length ≤ 10 := by
  unfold nameB at h
  rw [Bool.and_eq_true, Bool.and_eq_true, decide_eq_true_iff, decide_eq_true_iff] at h
  refine ⟨?_, h.2.1⟩
  refine Nat.one_le_iff_ne_zero.mpr fun e => h.1 ?_
  refine str_eq ?_
  have : z.cps.toList.length = z.length := Array.length_toList ..
  rw [List.length_eq_zero_iff.mp (by omega : z.cps.toList.length = 0)]
  rfl
/-- a good field is made -/
theorem fld_init_ok (T : Txt w K mg A) {p q dx : Addr} {D : Fd} {H : Hp} {Q : VK} {E : XK} (ok : D.Ok) (h : H p = some (.ins A.cField dx [])) (f : IsFmt A H q D.fmt) (k : ∀ H', But p H H' → IsFld A H' p D → Q .non H') : sp_fld_init K A [.ref p, .str D.name, .ref q, optV D.low, optV D.high] H Q E := by
  have nm : nameV (.str D.name) = true := ok.nm
  obtain ⟨dy, f⟩ := f
  have ty := refTy_self f T.cl_Format T.in_Format
  refine ⟨⟨dx, h⟩, by show D.name.length ≤ 100000; have := name_len ok.nm; omega, any_opt, any_opt, true, ty, fun e => ?_, fun _ e => (by cases e), fun _ _ s e => ?_, fun _ _ _ dx H' b h' => ?_⟩
  · rw [nm] at e; cases e
  · rw [range_ok ok] at e; cases e
  · refine k H' b ⟨dx, q, h', dy, ?_⟩
    exact b _ _ (ne_of f h fun z => by
      injection z with z1 z2 z3
      cases z3) f
end

end Fg
set_option Elab.async false
set_option linter.all false
set_option maxRecDepth 100000
set_option maxHeartbeats 4000000
namespace Fg
open PySem PySem.Spec PyProof.Rows L2
local macro_rules | `(tactic| walk_at "hp") => `(tactic| first | assumption | (refine Same.get (by assumption) ?_; walk_at "hp"))
local macro_rules | `(tactic| walk_at "sq") => `(tactic| first | assumption | (exact Or.inr (by assumption)) | (exact Or.inl (by assumption)) | (exact Or.inl (SqL.of (by walk_at "hp"))) | (exact Or.inr (SqT.of (by walk_at "hp"))) | (exact SqL.of (by walk_at "hp")) | (exact SqT.of (by walk_at "hp")))
local macro_rules | `(tactic| walk_at "cl") => `(tactic| first | ((first | show (_ : Int) < _ | show (_ : Int) ≤ _); first | omega | decide) | ((first | show (_ : Nat) < _ | show (_ : Nat) ≤ _); first | with_reducible assumption | (refine sz_le ?_; first | decide | omega | (simp <;> omega)) | (refine sz_lt ?_; first | decide | omega | (simp <;> omega)) | omega | decide | ((with_reducible show List.length _ < _); exact Nat.le_of_ble_eq_true rfl)) | rfl | walk_at "hp" | walk_at "sq" | (refine And.intro (by walk_at "cl") (by walk_at "cl")) | (exact Exists.intro _ (by walk_at "hp")) | (exact Exists.intro _ (Exists.intro _ (by walk_at "hp"))) | (exact Exists.intro _ (Exists.intro _ (And.intro (by walk_at "hp") rfl))) | decide | (exact Or.inl (by walk_at "cl")) | (exact Or.inr (by walk_at "cl")) | omega)
local macro_rules | `(tactic| walk_at "s1") => `(tactic| first | refine And.intro (by walk_at "cl") ?_ | apply Exists.intro)
local macro_rules | `(tactic| walk_at "sx") => `(tactic| repeat walk_at "s1")
local macro_rules | `(tactic| walk_at "si") => `(tactic| first | refine iteY rfl ?_ | refine iteN rfl ?_)
local macro_rules | `(tactic| walk_at "sy") => `(tactic| repeat first | walk_at "s1" | walk_at "si")
/-! ### integers written in tens -/
theorem dig_char : ∀ d : Fin 10, (Nat.digitChar d.val).toNat = figC d.val := by decide
theorem toD_digs (n : Nat) : (Nat.toDigits 10 n).map Char.toNat = (digs 10 n).map figC := by
  induction n using Nat.strongRecOn with
  | ind n ih =>
    rw [Nat.toDigits_eq_if (by decide)]
    split
    · rename_i h
      rw [digs_small (by decide) h]
      simp only [List.map_cons, List.map_nil]
      rw [dig_char ⟨n, h⟩]
    · rename_i h
      rw [digs_rec (b := 10) (by decide) (by omega), List.map_append, List.map_append, ih (n / 10) (by omega)]
      simp only [List.map_cons, List.map_nil]
      rw [dig_char ⟨n % 10, by omega⟩]
theorem tens_all (n : Nat) : ((toString ((n : Nat) : Int) : String) : Str).cps.toList = (digs 10 n).map figC := by
  rw [PySem.W.KIN.signs_num, toD_digs]
theorem tens_neg (n : Nat) : ((toString (Int.negSucc n) : String) : Str).cps.toList = 45 :: (digs 10 (n + 1)).map figC := by
  have e : (toString (Int.negSucc n) : String) = "-" ++ Nat.repr (n + 1) := rfl
  rw [e, ← toD_digs]
  have k := PySem.W.KIN.signs_num (n + 1)
  have e2 : ∀ s : String, (Str.ofString ("-" ++ s)).cps.toList = 45 :: (Str.ofString s).cps.toList := fun s => by
    rw [PyProof.Rows.signs_ofString, PyProof.Rows.signs_ofString, String.toList_append]
    rfl
  rw [e2]
  exact congrArg (45 :: ·) k
theorem fig_sub {ds : List Nat} (h : ∀ d ∈ ds, d < 10) : (ds.map figC).map (fun c => c - 48) = ds := by
  rw [List.map_map]
  refine (List.map_congr_left fun d hd => ?_).trans (List.map_id _)
  exact ten_sub ⟨d, h d hd⟩
theorem dig_in {ds : List Nat} (h : ∀ d ∈ ds, d < 10) : ((ds.map figC).any fun c => decide (c ∉ tenL)) = false := by
  rw [List.any_eq_false]
  intro c hc
  obtain ⟨d, hd, rfl⟩ := List.mem_map.mp hc
  have : figC d ∈ tenL := List.mem_map.mpr ⟨d, List.mem_range.mpr (h d hd), rfl⟩
  simpa using this
theorem fig_big {d : Nat} (h : d < 10) : 48 ≤ figC d := by unfold figC; split <;> omega
theorem digs_ten {n : Nat} : ∀ d ∈ digs 10 n, d < 10 := fun d hd => digs_lt (by decide) hd
theorem body_digs {n : Nat} : bodyW ((digs 10 n).map figC) = (digs 10 n).map figC := by
  unfold bodyW
  rw [if_neg]
  intro e
  cases h : digs 10 n with
  | nil => exact digs_nil h
  | cons d r =>
    rw [h] at e
    have e : [figC d] = [45] := e
    have := fig_big (digs_ten (n := n) d (by rw [h]; exact List.mem_cons_self ..))
    injection e with e
    omega
/-- the text of an integer is read as it -/
theorem intW_said (i : Int) : intW ((toString i : String) : Str).cps.toList = some i := by
  cases i with
  | ofNat n =>
    have t := tens_all n
    have t : ((toString (Int.ofNat n) : String) : Str).cps.toList = (digs 10 n).map figC := t
    rw [t]
    unfold intW
    rw [body_digs, if_neg, if_neg, if_pos rfl, fig_sub digs_ten, size_digs (by decide)]
    · rfl
    · rintro ⟨h1, h2⟩
      cases h : digs 10 n with
      | nil => exact digs_nil h
      | cons d r =>
        rw [h] at h1
        have h1 : figC d = 48 := by simpa using h1
        have hd := digs_ten (n := n) d (by rw [h]; exact List.mem_cons_self ..)
        have d0 : d = 0 := by
          have := ten_sub ⟨d, hd⟩
          have this : figC d - 48 = d := this
          omega
        have n0 : n = 0 := digs_head (b := 10) (by decide) n (by rw [h, d0]; rfl)
        exact h2 (by rw [n0]; decide)
    · rintro (h | h)
      · rw [List.map_eq_nil_iff] at h
        exact digs_nil h
      · rw [dig_in digs_ten] at h
        cases h
  | negSucc n =>
    rw [tens_neg]
    have hb : bodyW (45 :: (digs 10 (n + 1)).map figC) = (digs 10 (n + 1)).map figC := rfl
    unfold intW
    rw [hb, if_neg, if_neg, if_neg, fig_sub digs_ten, size_digs (by decide)]
    · rfl
    · intro e
      have := congrArg List.length e
      simp at this
    · rintro ⟨h1, _⟩
      cases h : digs 10 (n + 1) with
      | nil => exact digs_nil h
      | cons d r =>
        rw [h] at h1
        have h1 : figC d = 48 := by simpa using h1
        have hd := digs_ten (n := n + 1) d (by rw [h]; exact List.mem_cons_self ..)
        have d0 : d = 0 := by
          have := ten_sub ⟨d, hd⟩
          have this : figC d - 48 = d := this
          omega
        have n0 := digs_head (b := 10) (by decide) (n + 1) (by rw [h, d0]; rfl)
        omega
    · rintro (h | h)
      · rw [List.map_eq_nil_iff] at h
        exact digs_nil h
      · rw [dig_in digs_ten] at h
        cases h
/-- each integer has one such text -/
theorem intW_uniq {l : List Nat} {n : Int} (h : intW l = some n) : l = ((toString n : String) : Str).cps.toList := by
  unfold intW at h
  split at h
  · cases h
  · rename_i hb
    split at h
    · cases h
    · rename_i hz
      have bn : bodyW l ≠ [] := fun z => hb (.inl z)
      have tn : ∀ c ∈ bodyW l, c ∈ tenL := fun c hc => Classical.byContradiction fun n => hb (.inr (List.any_eq_true.mpr ⟨c, hc, decide_eq_true n⟩))
      have back : ((bodyW l).map fun c => c - 48).map figC = bodyW l := by
        rw [List.map_map]
        exact (List.map_congr_left fun c hc => (ten_back (tn c hc)).2).trans (List.map_id _)
      have lt : ∀ d ∈ (bodyW l).map fun c => c - 48, d < 10 := fun d hd => by
        obtain ⟨c, hc, rfl⟩ := List.mem_map.mp hd
        exact (ten_back (tn c hc)).1
      have nn : ((bodyW l).map fun c => c - 48) ≠ [] := fun z => bn (by simpa using z)
      have hd : ((bodyW l).map fun c => c - 48).head? = some 0 → (bodyW l).head? = some 48 := fun z => by
        cases e : bodyW l with
        | nil => exact absurd e bn
        | cons c r =>
          rw [e] at z
          have z1 : c - 48 = 0 := by simpa using z
          have z2 := (ten_back (tn c (by rw [e]; exact List.mem_cons_self ..))).2
          rw [z1] at z2
          rw [← z2]
          rfl
      generalize hds : ((bodyW l).map fun c => c - 48) = ds at h back lt nn hd
      split at h
      · rename_i e
        cases h
        have key : ds = digs 10 (sizeN 10 ds) := by
          refine head_zero lt nn ?_
          by_cases z : ds.head? = some 0
          · right
            have l48 : l = [48] := Classical.byContradiction fun q => hz ⟨hd z, q⟩
            rw [← hds, e, l48]
            rfl
          · exact .inl z
        rw [tens_all, ← key, back, e]
      · rename_i e
        cases h
        have nz : ds.head? ≠ some 0 := fun z => by
          refine hz ⟨hd z, fun q => e ?_⟩
          rw [q]
          rfl
        have key : ds = digs 10 (sizeN 10 ds) := head_zero lt nn (.inl nz)
        have s0 : sizeN 10 ds ≠ 0 := fun z => by
          rw [z] at key
          rw [key] at nz
          exact nz rfl
        obtain ⟨k, hk⟩ : ∃ k, sizeN 10 ds = k + 1 := ⟨sizeN 10 ds - 1, by omega⟩
        rw [hk] at key ⊢
        have en : -(((k + 1 : Nat)) : Int) = Int.negSucc k := rfl
        rw [en, tens_neg, ← key, back]
        have eb : bodyW l = if l.take 1 = [45] then l.drop 1 else l := rfl
        by_cases t : l.take 1 = [45]
        · rw [if_pos t] at eb
          rw [eb]
          have := (List.take_append_drop 1 l).symm
          rw [t] at this
          exact this
        · rw [if_neg t] at eb
          exact absurd eb e

end Fg
set_option Elab.async false
set_option linter.all false
set_option maxRecDepth 100000
set_option maxHeartbeats 4000000
namespace Fg
open PySem PySem.Spec PyProof.Rows L2
local macro_rules | `(tactic| walk_at "hp") => `(tactic| first | assumption | (refine Same.get (by assumption) ?_; walk_at "hp"))
local macro_rules | `(tactic| walk_at "sq") => `(tactic| first | assumption | (exact Or.inr (by assumption)) | (exact Or.inl (by assumption)) | (exact Or.inl (SqL.of (by walk_at "hp"))) | (exact Or.inr (SqT.of (by walk_at "hp"))) | (exact SqL.of (by walk_at "hp")) | (exact SqT.of (by walk_at "hp")))
local macro_rules | `(tactic| walk_at "cl") => `(tactic| first | ((first | show (_ : Int) < _ | show (_ : Int) ≤ _); first | omega | decide) | ((first | show (_ : Nat) < _ | show (_ : Nat) ≤ _); first | with_reducible assumption | (refine sz_le ?_; first | decide | omega | (simp <;> omega)) | (refine sz_lt ?_; first | decide | omega | (simp <;> omega)) | omega | decide | ((with_reducible show List.length _ < _); exact Nat.le_of_ble_eq_true rfl)) | rfl | walk_at "hp" | walk_at "sq" | (refine And.intro (by walk_at "cl") (by walk_at "cl")) | (exact Exists.intro _ (by walk_at "hp")) | (exact Exists.intro _ (Exists.intro _ (by walk_at "hp"))) | (exact Exists.intro _ (Exists.intro _ (And.intro (by walk_at "hp") rfl))) | decide | (exact Or.inl (by walk_at "cl")) | (exact Or.inr (by walk_at "cl")) | omega)
local macro_rules | `(tactic| walk_at "s1") => `(tactic| first | refine And.intro (by walk_at "cl") ?_ | apply Exists.intro)
local macro_rules | `(tactic| walk_at "sx") => `(tactic| repeat walk_at "s1")
local macro_rules | `(tactic| walk_at "si") => `(tactic| first | refine iteY rfl ?_ | refine iteN rfl ?_)
local macro_rules | `(tactic| walk_at "sy") => `(tactic| repeat first | walk_at "s1" | walk_at "si")
/-! ### the text of a field -/
theorem none_w : intW ("none" : Str).cps.toList = none := by decide +kernel
theorem endS_free (o : Option Int) : 32 ∉ (endS o).cps.toList := by
  cases o with
  | none => decide +kernel
  | some i => exact PyProof.Rows.int_text_free' 32 ⟨by decide, .inl (by decide)⟩ i
theorem name_free {z : Str} (h : nameB z = true) : 32 ∉ z.cps.toList := by
  unfold nameB at h
  rw [Bool.and_eq_true, Bool.and_eq_true, List.all_eq_true] at h
  intro hm
  have := of_decide_eq_true (h.2.2 32 hm)
  revert this
  decide
theorem text_cut {D : Fd} (ok : D.Ok) : Txt.splitMax D.text " " 3 = [D.name, endS D.low, endS D.high, D.fmt.words] := cut3_eq (name_free ok.nm) (endS_free _) (endS_free _)
theorem end_read {o : Option Int} : intW (endS o).cps.toList = o := by
  cases o with
  | none => exact none_w
  | some i => exact intW_said i
theorem end_said {w : Str} (h : endB w = true) : endS (intW w.cps.toList) = w ∧ endOk (intW w.cps.toList) := by
  unfold endB at h
  rw [Bool.or_eq_true] at h
  rcases h with h | h
  · have e := of_decide_eq_true h
    rw [e, none_w]
    exact ⟨rfl, trivial⟩
  · cases hn : intW w.cps.toList with
    | none =>
      rw [hn] at h
      cases h
    | some i =>
      rw [hn] at h
      exact ⟨(str_eq (intW_uniq hn)).symm, betw_of h⟩
theorem end_ok {o : Option Int} (h : endOk o) : endB (endS o) = true := by
  unfold endB
  rw [end_read]
  cases o with
  | none => rfl
  | some i =>
    rw [Bool.or_eq_true]
    refine .inr ?_
    show (decide _ && decide _) = true
    rw [decide_eq_true h.1, decide_eq_true h.2]
    rfl
theorem endS_len {o : Option Int} (h : endOk o) : (endS o).length ≤ 50 := by
  have e : (endS o).cps.toList.length = (endS o).length := Array.length_toList ..
  rw [← e]
  cases o with
  | none => decide +kernel
  | some i =>
    obtain ⟨h1, h2⟩ := h
    have dl : ∀ n : Nat, n ≤ 1000000000000 → (digs 10 n).length ≤ 41 := fun n hn => by
      unfold digs
      rw [List.length_reverse]
      exact log_dig (b := 10) (k := 40) (by decide) (by omega) n
    cases i with
    | ofNat n =>
      have t : (endS (some (Int.ofNat n))).cps.toList = (digs 10 n).map figC := tens_all n
      have := dl n (by have : ((n : Nat) : Int) ≤ 1000000000000 := h2; omega)
      rw [t, List.length_map]
      omega
    | negSucc n =>
      have t : (endS (some (Int.negSucc n))).cps.toList = 45 :: (digs 10 (n + 1)).map figC := tens_neg n
      have := dl (n + 1) (by omega)
      rw [t, List.length_cons, List.length_map]
      omega
theorem text_glue (n a b w : Str) : (((((((Str.empty ++ n) ++ " ") ++ a) ++ " ") ++ b) ++ " ") ++ w : Str) = Txt.join " " [n, a, b, w] := by
  refine str_eq ?_
  rw [sp_str, join_codes]
  have e0 : Str.empty.cps.toList = [] := rfl
  simp only [str_app, Array.toList_append, e0, List.nil_append, List.map_cons, List.map_nil, glueL, List.append_assoc, List.singleton_append, List.cons_append]
section
variable {P : Program} {w : World} {K : PySem.W.Frag} {mg : Str → Option Value} {base : Heap} {A : Ad}
def sp_parts_of (A : Ad) : Sp := s1 fun a H Q _ => ∃ p dx n q l h, a = .ref p ∧ H p = some (.ins A.cField dx [("name", n), ("pattern", q), ("low", l), ("high", h)]) ∧ ∀ t H', H t = none → Same H H' → H' t = some (.tup [n, q, l, h]) → Q (.ref t) H'
theorem ok_Field_parts_of (T : Txt w K mg A) : MCallee P w K mg base 1 A.cField "parts_of" ["self"] (sp_parts_of A) := by
  refine mcallee_of T.cl_Field T.M_Field_parts_of sc_Field_parts_of (fun _ _ _ _ _ _ us hl => match us, hl with | [_], _ => rfl) (fun vs H Q E h => ?_) (fun f cdv Ar outer s H vs Q E hr tk po h => ?_)
  · obtain ⟨_, rfl, _⟩ := s1_len h
    rfl
  · obtain ⟨a, rfl, p, dx, n, q, l, hh, rfl, h0, k⟩ := s1_len h
    refine ⟨_, (pss_one (ps_ret (fe_tup (pa_cons (fe_fld T.cl_Field T.n_Field_name (fv 0)) (pa_cons (fe_fld T.cl_Field T.n_Field_pattern (fv 0)) (pa_cons (fe_fld T.cl_Field T.n_Field_low (fv 0)) (pa_cons (fe_fld T.cl_Field T.n_Field_high (fv 0)) pa_nil))))))), ?_⟩
    walk_at "sx"
    intro t H1 nt e1 h1
    exact k t H1 nt e1 h1
def fmtR (A : Ad) : Addr → Addr → Hp → Prop := fun a b H => ∃ F, IsFmt A H a F ∧ IsFmt A H b F
theorem fmtR_same (a b : Addr) (H H' : Hp) (s : Same H H') (r : fmtR A a b H) : fmtR A a b H' := by
  obtain ⟨F, f, g⟩ := r
  exact ⟨F, IsFmt.sm s f, IsFmt.sm s g⟩
theorem fmtR_eq (a b : Addr) (H : Hp) (Q : VK) (E : XK) (r : fmtR A a b H) (q : ∀ H', Same H H' → Q (.bl true) H') : sp_fmt_eq A [.ref a, .ref b] H Q E := by
  obtain ⟨F, f, g⟩ := r
  refine ⟨a, b, F, F, rfl, rfl, f, g, fun H' s => ?_⟩
  rw [eqF_iff.mpr rfl]
  exact q H' s
/-- two equal fields -/
def sp_fld_eq (A : Ad) : Sp := s2 fun a b H Q _ => ∃ p r D, a = .ref p ∧ b = .ref r ∧ IsFld A H p D ∧ IsFld A H r D ∧ ∀ H', Same H H' → Q (.bl true) H'
theorem ok_Fielddd_eqdd (T : Txt w K mg A) : MCallee P w K mg base 4 A.cField "__eq__" ["self", "other"] (sp_fld_eq A) := by
  refine mcallee_of T.cl_Field T.M_Fielddd_eqdd sc_Fielddd_eqdd (fun _ _ _ _ _ _ us hl => match us, hl with | [_, _], _ => rfl) (fun vs H Q E h => ?_) (fun f cdv Ar outer s H vs Q E hr tk po h => ?_)
  · obtain ⟨_, _, rfl, _⟩ := s2_len h
    rfl
  · obtain ⟨a, b, rfl, p, r, D, rfl, rfl, ⟨dx, f1, h1, k1⟩, ⟨dy, f2, h2, k2⟩, q⟩ := s2_len h
    refine ⟨_, (pss_one (ps_ret (pe_and (pe_callB (f_isC T.i_Field) (by rfl) T.b_isinstance (by decide +kernel) (pa_cons (fv 1) (pa_cons (fe_g (by rfl) T.v_Field) pa_nil))) (pe_one (pe_cmpR (f_eqTO (ok_Formatdd_eqdd T) (fmtR A) fmtR_same fmtR_eq hr (by decide)) (fc_meth0 (ok_Field_parts_of T) hr (by decide) tk (fv 0)) (fc_meth0 (ok_Field_parts_of T) hr (by decide) tk (fv 1)) (nomark _)))))), ?_⟩
    have ri := refTy_self h2 T.cl_Field T.in_Field
    walk_at "sx"
    intro t1 H1 n1 e1 h1'
    have h21 := e1 _ _ h2
    walk_at "sx"
    intro t2 H2 n2 e2 h2'
    have h12 := e2 _ _ h1'
    have fl : ∀ (o : Option Int), flatB (optV o) = true := fun o => by cases o <;> rfl
    have s02 := e1.trans e2
    refine ⟨_, _, SqT.of h12, SqT.of h2', ?_, fun H' s => q H' (s02.trans s)⟩
    refine .cons (.inl ⟨rfl, rfl⟩) (.cons (.inr ?_) (.cons (.inl ⟨rfl, fl _⟩) (.cons (.inl ⟨rfl, fl _⟩) .nil)))
    obtain ⟨d1, k1⟩ := IsFmt.sm s02 k1
    obtain ⟨d2, k2⟩ := IsFmt.sm s02 k2
    exact ⟨f1, f2, d1, d2, _, _, rfl, rfl, k1, k2, D.fmt, ⟨d1, k1⟩, ⟨d2, k2⟩⟩
def sp_fld_str (A : Ad) : Sp := s1 fun a H Q _ => ∃ p D, a = .ref p ∧ IsFld A H p D ∧ D.Ok ∧ Q (.str D.text) H
theorem ok_Fielddd_strdd (T : Txt w K mg A) : MCallee P w K mg base 3 A.cField "__str__" ["self"] (sp_fld_str A) := by
  refine mcallee_of T.cl_Field T.M_Fielddd_strdd sc_Fielddd_strdd (fun _ _ _ _ _ _ us hl => match us, hl with | [_], _ => rfl) (fun vs H Q E h => ?_) (fun f cdv Ar outer s H vs Q E hr tk po h => ?_)
  · obtain ⟨_, rfl, _⟩ := s1_len h
    rfl
  · obtain ⟨a, rfl, p, D, rfl, ⟨dx, f1, h1, k1⟩, ok, q⟩ := s1_len h
    refine ⟨_, (pss_one (ps_ret (pe_joined (.cons (fe_fmt (fe_fld T.cl_Field T.n_Field_name (fv 0))) (.cons pe_str (.cons (fe_fmt (fc_call (ok_end_text T) hr (by decide) (by rfl) tk (pa_cons (fe_fld T.cl_Field T.n_Field_low (fv 0)) pa_nil))) (.cons pe_str (.cons (fe_fmt (fc_call (ok_end_text T) hr (by decide) (by rfl) tk (pa_cons (fe_fld T.cl_Field T.n_Field_high (fv 0)) pa_nil))) (.cons pe_str (.cons (fe_fmtO (ok_Formatdd_strdd T) T.fm_Format hr (by decide) (fe_fld T.cl_Field T.n_Field_pattern (fv 0))) PJ.nil)))))))))), ?_⟩
    have nl := name_len ok.nm
    have nz : D.name.length ≤ sizeLine := sz_le (by omega)
    obtain ⟨dq, k1⟩ := k1
    have lo := ok.lo
    have hi := ok.hi
    have fo := ok.fm
    have l1 := endS_len lo
    have l2 := endS_len hi
    have l3 := words_len fo
    have sl : (" " : Str).length = 1 := rfl
    have el : Str.empty.length = 0 := rfl
    have z1 : (endS D.low).length ≤ sizeLine := sz_le (by omega)
    have z2 : (endS D.high).length ≤ sizeLine := sz_le (by omega)
    have e : Txt.join " " [D.name, endS D.low, endS D.high, D.fmt.words] = D.text := rfl
    rw [← e, ← text_glue] at q
    have k1' : IsFmt A H f1 D.fmt := ⟨dq, k1⟩
    have b1 : (Str.empty ++ D.name).length ≤ sizeLine := sz_le (by rw [Str.length_append]; omega)
    have b2 : (Str.empty ++ D.name ++ " ").length ≤ sizeLine := sz_le (by simp only [Str.length_append]; omega)
    have b3 : (Str.empty ++ D.name ++ " " ++ endS D.low).length ≤ sizeLine := sz_le (by simp only [Str.length_append]; omega)
    have b4 : (Str.empty ++ D.name ++ " " ++ endS D.low ++ " ").length ≤ sizeLine := sz_le (by simp only [Str.length_append]; omega)
    have b5 : (Str.empty ++ D.name ++ " " ++ endS D.low ++ " " ++ endS D.high).length ≤ sizeLine := sz_le (by simp only [Str.length_append]; omega)
    have b6 : (Str.empty ++ D.name ++ " " ++ endS D.low ++ " " ++ endS D.high ++ " ").length ≤ sizeLine := sz_le (by simp only [Str.length_append]; omega)
    have b7 : (Str.empty ++ D.name ++ " " ++ endS D.low ++ " " ++ endS D.high ++ " " ++ D.fmt.words).length ≤ sizeLine := sz_le (by simp only [Str.length_append]; omega)
    walk_at "sx"
    exact q
end

end Fg
set_option Elab.async false
set_option linter.all false
set_option maxRecDepth 100000
set_option maxHeartbeats 4000000
namespace Fg
open PySem PySem.Spec PyProof.Rows L2
local macro_rules | `(tactic| walk_at "hp") => `(tactic| first | assumption | (refine Same.get (by assumption) ?_; walk_at "hp"))
local macro_rules | `(tactic| walk_at "sq") => `(tactic| first | assumption | (exact Or.inr (by assumption)) | (exact Or.inl (by assumption)) | (exact Or.inl (SqL.of (by walk_at "hp"))) | (exact Or.inr (SqT.of (by walk_at "hp"))) | (exact SqL.of (by walk_at "hp")) | (exact SqT.of (by walk_at "hp")))
local macro_rules | `(tactic| walk_at "cl") => `(tactic| first | ((first | show (_ : Int) < _ | show (_ : Int) ≤ _); first | omega | decide) | ((first | show (_ : Nat) < _ | show (_ : Nat) ≤ _); first | with_reducible assumption | (refine sz_le ?_; first | decide | omega | (simp <;> omega)) | (refine sz_lt ?_; first | decide | omega | (simp <;> omega)) | omega | decide | ((with_reducible show List.length _ < _); exact Nat.le_of_ble_eq_true rfl)) | rfl | walk_at "hp" | walk_at "sq" | (refine And.intro (by walk_at "cl") (by walk_at "cl")) | (exact Exists.intro _ (by walk_at "hp")) | (exact Exists.intro _ (Exists.intro _ (by walk_at "hp"))) | (exact Exists.intro _ (Exists.intro _ (And.intro (by walk_at "hp") rfl))) | decide | (exact Or.inl (by walk_at "cl")) | (exact Or.inr (by walk_at "cl")) | omega)
local macro_rules | `(tactic| walk_at "s1") => `(tactic| first | refine And.intro (by walk_at "cl") ?_ | apply Exists.intro)
local macro_rules | `(tactic| walk_at "sx") => `(tactic| repeat walk_at "s1")
local macro_rules | `(tactic| walk_at "si") => `(tactic| first | refine iteY rfl ?_ | refine iteN rfl ?_)
local macro_rules | `(tactic| walk_at "sy") => `(tactic| repeat first | walk_at "s1" | walk_at "si")
section
variable {P : Program} {w : World} {K : PySem.W.Frag} {mg : Str → Option Value} {base : Heap} {A : Ad}
theorem r_InvalidText (T : Txt w K mg A) : Raiser P w K mg base "InvalidText" A.cInvalidText "value" :=
  raiser_of T.oe_InvalidText T.g_InvalidText T.I_InvalidTextdd_initdd T.nf_InvalidText sc_InvalidTextdd_initdd (fun _ _ _ _ _ _ us hl => match us, hl with | [_, _], _ => rfl) (fun X hs hN => pss_one (ps_ost (fv 0 (by rw [hN]; rfl) (by rw [hs]; exact Or.inl rfl)) (fv 1 (by rw [hN]; rfl) (by rw [hs]; exact Or.inl rfl))))
theorem optV_non {o : Option Int} : optV o = .non ↔ o = none := by
  cases o with
  | none => exact ⟨fun _ => rfl, fun _ => rfl⟩
  | some i =>
    constructor
    · intro e; cases e
    · intro e; cases e
def sp_field_in (A : Ad) : Sp := s1 fun a H Q _ => ∃ z, a = .str z ∧ z.length ≤ 1000 ∧ (∀ D : Fd, D.Ok → D.text = z → ∀ p H', H p = none → Same H H' → IsFld A H' p D → Q (.ref p) H') ∧ ((∀ D : Fd, D.Ok → D.text ≠ z) → ∀ H', Same H H' → Q .non H')
theorem ok_field_in (T : Txt w K mg A) : Callee P w K mg base 7 "field_in" ["text"] (sp_field_in A) := by
  refine callee_of T.F_field_in sc_field_in (fun _ _ _ _ _ _ us hl => match us, hl with | [_], _ => rfl) (fun vs H Q E h => ?_) (fun f cdv Ar outer s H vs Q E hr tk po h => ?_)
  · obtain ⟨_, rfl, _⟩ := s1_len h
    rfl
  · obtain ⟨a, rfl, z, rfl, hz, qy, qn⟩ := s1_len h
    refine ⟨_, (pss_cons (ps_set (i := 1) sc_field_in.nd rfl (Or.inl rfl) (fe_sm2 PySem.F.slot_str_split PySem.F.type_str_split f_split2 (fv 0) pe_str pe_int))
      (pss_cons (ps_if (PW.pt (pw_or (ft_cmp f_ne (pe_callB f_len (by rfl) T.b_len (by decide +kernel) (pa_cons (fv 1) pa_nil)) pe_int (nomark _)) (pw_or (pt_not (ft_val (fc_call (ok_is_name T) hr (by decide) (by rfl) tk (pa_cons (pe_ix f_ix (fv 1) pe_int (fun _ _ => rfl)) pa_nil)))) (pw_or (pt_not (ft_val (fc_call (ok_is_end T) hr (by decide) (by rfl) tk (pa_cons (pe_ix f_ix (fv 1) pe_int (fun _ _ => rfl)) pa_nil)))) (pw_or1 (pt_not (ft_val (fc_call (ok_is_end T) hr (by decide) (by rfl) tk (pa_cons (pe_ix f_ix (fv 1) pe_int (fun _ _ => rfl)) pa_nil))))))))) (pss_one (ps_ret pe_non)) pss_nil)
      (pss_cons (ps_par (i := 2) (j := 3) (by rfl) sc_field_in.nd rfl rfl (by decide) rfl rfl (pa_cons (fc_call (ok_integer_in T) hr (by decide) (by rfl) tk (pa_cons (pe_ix f_ix (fv 1) pe_int (fun _ _ => rfl)) pa_nil)) (pa_cons (fc_call (ok_integer_in T) hr (by decide) (by rfl) tk (pa_cons (pe_ix f_ix (fv 1) pe_int (fun _ _ => rfl)) pa_nil)) pa_nil)) (by rfl))
      (pss_cons (ps_set (i := 4) sc_field_in.nd rfl (Or.inl rfl) (fc_call (ok_settings_in T) hr (by decide) (by rfl) tk (pa_cons (pe_ix f_ix (fv 1) pe_int (fun _ _ => rfl)) pa_nil)))
      (pss_cons (ps_if (PW.pt (pw_or (ft_cmp f_isN (fv 4) pe_non (nomark _)) (pw_or1 (PW.pt (pw_and (ft_cmp f_notN (fv 2) pe_non (nomark _)) (pw_and (ft_cmp f_notN (fv 3) pe_non (nomark _)) (pw_and1 (ft_cmp f_lt (fv 3) (fv 2) (nomark _))))))))) (pss_one (ps_ret pe_non)) pss_nil)
      (pss_one (ps_ret (fc_new (nw_Field T) hr (by decide) (by rfl) tk (pa_cons (pe_ix f_ix (fv 1) pe_int (fun _ _ => rfl)) (pa_cons (fc_call (ok_format_of T) hr (by decide) (by rfl) tk (pa_cons (fv 4) pa_nil)) (pa_cons (fv 2) (pa_cons (fv 3) pa_nil)))))))))))), ?_⟩
    clear hr tk po h
    have zl2 : z.length + 2 ≤ sizeLine := sz_le (by omega)
    have key : ∀ D : Fd, D.Ok → D.text = z → Txt.splitMax z " " 3 = [D.name, endS D.low, endS D.high, D.fmt.words] := fun D ok e => by rw [← e]; exact text_cut ok
    have k3 : (-(2 ^ 63) ≤ (3 : Int) ∧ (3 : Int) < 2 ^ 63) := ⟨by decide, by decide⟩
    walk_at "sx"
    intro p H1 np e1 h1
    by_cases hl : (Txt.splitMax z " " 3).length = 4
    rotate_left 1
    · walk_at "sx"
      refine iteY (by simp; omega) ?_
      walk_at "sx"
      exact qn (fun D ok e => hl (by rw [key D ok e]; rfl)) _ e1
    obtain ⟨w0, w1, w2, w3, ew⟩ : ∃ w0 w1 w2 w3, Txt.splitMax z " " 3 = [w0, w1, w2, w3] := by
      match Txt.splitMax z " " 3, hl with
      | [w0, w1, w2, w3], _ => exact ⟨_, _, _, _, rfl⟩
    have len : ∀ v ∈ [w0, w1, w2, w3], v.length ≤ 1000 := fun v hv => Nat.le_trans (cut3_len (z := z) (c := 32) (by rw [← sp_str, ew]; exact hv)) hz
    have n0 := len w0 (by simp)
    have n1 := len w1 (by simp)
    have n2 := len w2 (by simp)
    have n3 := len w3 (by simp)
    have a0 : AnyV K H1 (.str w0) := by show w0.length ≤ 100000; omega
    have ej : Txt.join " " [w0, w1, w2, w3] = z := by rw [← ew]; exact (cut3 z 32).1
    rw [ew] at h1 key
    have key2 : ∀ D : Fd, D.Ok → D.text = z → w0 = D.name ∧ w1 = endS D.low ∧ w2 = endS D.high ∧ w3 = D.fmt.words := fun D ok e => by
      have := key D ok e
      simp only [List.cons.injEq, and_true] at this
      exact this
    clear key hl ew len
    walk_at "sx"
    intro H2 e2
    have h2 := e2 _ _ h1
    have e02 := e1.trans e2
    cases en : nameB w0 with
    | false =>
      refine iteY (by show (!nameV (.str w0)) = true; rw [show nameV (.str w0) = false from en]; rfl) ?_
      walk_at "sy"
      refine qn (fun D ok e => ?_) _ e02
      rw [(key2 D ok e).1, ok.nm] at en
      cases en
    | true =>
    refine iteN (by show (!nameV (.str w0)) = false; rw [show nameV (.str w0) = true from en]; rfl) ?_
    walk_at "sx"
    intro H3 e3
    have h3 := e3 _ _ h2
    have e03 := e02.trans e3
    cases el : endB w1 with
    | false =>
      refine iteY rfl ?_
      walk_at "sy"
      refine qn (fun D ok e => ?_) _ e03
      rw [(key2 D ok e).2.1, end_ok ok.lo] at el
      cases el
    | true =>
    refine iteN rfl ?_
    walk_at "sx"
    intro H4 e4
    have h4 := e4 _ _ h3
    have e04 := e03.trans e4
    cases eh : endB w2 with
    | false =>
      refine iteY rfl ?_
      walk_at "sy"
      refine qn (fun D ok e => ?_) _ e04
      rw [(key2 D ok e).2.2.1, end_ok ok.hi] at eh
      cases eh
    | true =>
    refine iteN rfl ?_
    walk_at "sx"
    intro H5 e5
    have h5 := e5 _ _ h4
    walk_at "sx"
    intro H6 e6
    have h6 := e6 _ _ h5
    have e06 := (e04.trans e5).trans e6
    obtain ⟨s1, o1⟩ := end_said el
    obtain ⟨s2, o2⟩ := end_said eh
    generalize intW w1.cps.toList = lo at s1 o1 ⊢
    generalize intW w2.cps.toList = hi at s2 o2 ⊢
    walk_at "sx"
    refine And.intro (fun F fo ef d H7 nd s7 h7 => ?_) (fun no H7 s7 => ?_)
    rotate_left 1
    · walk_at "sy"
      exact qn (fun D ok e => no D.fmt ok.fm (key2 D ok e).2.2.2.symm) _ (e06.trans s7)
    have e07 := e06.trans s7
    have hp7 := s7 _ _ h6
    have lo_eq : ∀ D : Fd, D.Ok → D.text = z → D.low = lo ∧ D.high = hi := fun D ok e => by
      obtain ⟨_, a1, a2, _⟩ := key2 D ok e
      have b1 : endS D.low = endS lo := by rw [s1, ← a1]
      have b2 : endS D.high = endS hi := by rw [s2, ← a2]
      have c1 : intW (endS D.low).cps.toList = intW (endS lo).cps.toList := by rw [b1]
      have c2 : intW (endS D.high).cps.toList = intW (endS hi).cps.toList := by rw [b2]
      rw [end_read, end_read] at c1 c2
      exact ⟨c1, c2⟩
    have fin : (∀ i j, lo = some i → hi = some j → i ≤ j) → (⟨w0, F, lo, hi⟩ : Fd).Ok ∧ (⟨w0, F, lo, hi⟩ : Fd).text = z := fun le => by
      refine ⟨⟨en, fo, o1, o2, le⟩, ?_⟩
      show Txt.join " " [w0, endS lo, endS hi, F.words] = z
      rw [s1, s2, ef]
      exact ej
    clear key2
    have good : (∀ i j, lo = some i → hi = some j → i ≤ j) → ∀ (p1 : Addr) (H8 : Hp), Same H7 H8 → IsFmt A H8 p1 F → ∀ (pf dx : Addr) (H9 : Hp) (E' : XK), H8 pf = none → Same H8 H9 → H9 pf = some (.ins A.cField dx []) → sp_fld_init K A [.ref pf, .str w0, .ref p1, optV lo, optV hi] H9 (fun v H4 => v = .non ∧ Q (.ref pf) H4) E' := fun le p1 H8 s8 f8 pf dx H9 E' npf s9 h9 => by
      obtain ⟨ok, te⟩ := fin le
      exact fld_init_ok T (D := ⟨w0, F, lo, hi⟩) ok h9 (IsFmt.sm s9 f8) fun H' b f => ⟨rfl, qy _ ok te pf H' (Same.no (e07.trans s8) npf) (Same.but ((e07.trans s8).trans s9) (Same.no (e07.trans s8) npf) b) f⟩
    cases lo with
    | none =>
      have good := good (fun i j e => by cases e)
      walk_at "sy"
      intro p1 H8 np1 s8 f8
      walk_at "sy"
      intro pf dx H9 npf s9 h9
      exact good p1 H8 s8 f8 pf dx H9 _ npf s9 h9
    | some i =>
      cases hi with
      | none =>
        have good := good (fun i j _ e => by cases e)
        walk_at "sy"
        intro p1 H8 np1 s8 f8
        walk_at "sy"
        intro pf dx H9 npf s9 h9
        exact good p1 H8 s8 f8 pf dx H9 _ npf s9 h9
      | some j =>
        refine iteD (fun c => ?_) (fun c => ?_)
        · walk_at "sy"
          refine qn (fun D ok e => ?_) _ e07
          obtain ⟨b1, b2⟩ := lo_eq D ok e
          have := ok.le i j b1 b2
          omega
        · have good := good (fun i' j' e1 e2 => by cases e1; cases e2; omega)
          walk_at "sy"
          intro p1 H8 np1 s8 f8
          walk_at "sy"
          intro pf dx H9 npf s9 h9
          exact good p1 H8 s8 f8 pf dx H9 _ npf s9 h9
/-- Field.read(x) of anything -/
def sp_fld_read (K : PySem.W.Frag) (A : Ad) : Sp := s1 fun v H Q E => AnyV K H v ∧ (∀ z, v = .str z → z.length ≤ 1000) ∧ (∀ D : Fd, D.Ok → v = .str D.text → ∀ p H', H p = none → Same H H' → IsFld A H' p D → Q (.ref p) H') ∧
  ((∀ D : Fd, D.Ok → v ≠ .str D.text) → ∀ d H', Same H H' → H' d = some (.xd [("value", v)]) → E (.ref A.cInvalidText) (some d) H')
theorem ok_Field_read (T : Txt w K mg A) : SCallee P w K mg base 8 "Field" A.cField "read" "Field.read" s_Field_read ["text"] (sp_fld_read K A) := by
  refine scallee_of T.v_Field T.S_Field_read sc_Field_read (fun vs H Q E h => ?_) (fun f cdv Ar outer s H vs Q E hr tk po h => ?_)
  · obtain ⟨_, rfl, _⟩ := s1_len h
    rfl
  · obtain ⟨v, rfl, hv, hz, qy, qn⟩ := s1_len h
    refine ⟨_, (pss_cons (ps_set (i := 1) sc_Field_read.nd rfl (Or.inl rfl) (pe_ifExp (ft_val (pe_callB f_isstr (by rfl) T.b_isinstance (by decide +kernel) (pa_cons (fv 0) (pa_cons (pe_bltn (v := .ty "str") (by rfl) T.b_str (by decide +kernel) rfl) pa_nil)))) (fc_call (ok_field_in T) hr (by decide) (by rfl) tk (pa_cons (fv 0) pa_nil)) pe_non))
      (pss_cons (ps_if (ft_cmp f_isN (fv 1) pe_non (nomark _)) (pss_one (fr_raise rfl (r_InvalidText T) hr (by decide) tk (by rfl) (fv 0))) pss_nil)
      (pss_one (ps_ret (fv 1))))), ?_⟩
    clear hr tk po h
    cases v <;> first | exact hv.elim | skip
    case str z =>
      have hz := hz z rfl
      walk_at "sy"
      refine And.intro (fun D ok e p H' np s f => ?_) (fun no H1 s => ?_)
      · walk_at "sy"
        exact qy D ok (by rw [e]) p H' np s f
      · have q := qn (fun D ok e => no D ok (by injection e with e; exact e.symm))
        walk_at "sy"
        exact fun d H' _ s' h' => q d H' (s.trans s') h'
    case ref p =>
      have r := hv.2
      have q := qn (fun D ok e => by cases e)
      walk_at "sy"
      walk_at "sy"
      exact fun d H' _ s' h' => q d H' s' h'
    all_goals
      have q := qn (fun D ok e => by cases e)
      walk_at "sy"
      exact fun d H' _ s' h' => q d H' s' h'
end

end Fg
set_option Elab.async false
set_option linter.all false
set_option maxRecDepth 100000
set_option maxHeartbeats 4000000
namespace Fg
open PySem PySem.Spec PyProof.Rows L2
local macro_rules | `(tactic| walk_at "hp") => `(tactic| first | assumption | (refine Same.get (by assumption) ?_; walk_at "hp"))
local macro_rules | `(tactic| walk_at "sq") => `(tactic| first | assumption | (exact Or.inr (by assumption)) | (exact Or.inl (by assumption)) | (exact Or.inl (SqL.of (by walk_at "hp"))) | (exact Or.inr (SqT.of (by walk_at "hp"))) | (exact SqL.of (by walk_at "hp")) | (exact SqT.of (by walk_at "hp")))
local macro_rules | `(tactic| walk_at "cl") => `(tactic| first | ((first | show (_ : Int) < _ | show (_ : Int) ≤ _); first | omega | decide) | ((first | show (_ : Nat) < _ | show (_ : Nat) ≤ _); first | with_reducible assumption | (refine sz_le ?_; first | decide | omega | (simp <;> omega)) | (refine sz_lt ?_; first | decide | omega | (simp <;> omega)) | omega | decide | ((with_reducible show List.length _ < _); exact Nat.le_of_ble_eq_true rfl)) | rfl | walk_at "hp" | walk_at "sq" | (refine And.intro (by walk_at "cl") (by walk_at "cl")) | (exact Exists.intro _ (by walk_at "hp")) | (exact Exists.intro _ (Exists.intro _ (by walk_at "hp"))) | (exact Exists.intro _ (Exists.intro _ (And.intro (by walk_at "hp") rfl))) | decide | (exact Or.inl (by walk_at "cl")) | (exact Or.inr (by walk_at "cl")) | omega)
local macro_rules | `(tactic| walk_at "s1") => `(tactic| first | refine And.intro (by walk_at "cl") ?_ | apply Exists.intro)
local macro_rules | `(tactic| walk_at "sx") => `(tactic| repeat walk_at "s1")
local macro_rules | `(tactic| walk_at "si") => `(tactic| first | refine iteY rfl ?_ | refine iteN rfl ?_)
local macro_rules | `(tactic| walk_at "sy") => `(tactic| repeat first | walk_at "s1" | walk_at "si")
section
variable {P : Program} {w : World} {K : PySem.W.Frag} {mg : Str → Option Value} {base : Heap} {A : Ad}
/-- the pot: two integers -/
def Pot (p : Addr) (H : Hp) : Prop := ∃ i j, H p = some (.lst [.int i, .int j])
theorem Pot.same {p : Addr} {H H' : Hp} (s : Same H H') (h : Pot p H) : Pot p H' := h.elim fun i ⟨j, e⟩ => ⟨i, j, s _ _ e⟩
/-- what stands beside a pot stays -/
theorem But.pot {p : Addr} {H H' : Hp} {b : Addr} {o : HO} (s : But p H H') (hp : Pot p H) (e : H b = some o) (n : ∀ i j, o ≠ .lst [.int i, .int j]) : H' b = some o := by
  obtain ⟨i, j, e2⟩ := hp
  exact But.get s e e2 (n i j)
theorem But.none_of {p : Addr} {H H' : Hp} {d : Addr} (s : But p H H') (q : Pot p H') (q0 : Pot p H) (n : H' d = none) : H d = none := by
  cases h : H d with
  | none => rfl
  | some o =>
    by_cases e : d = p
    · obtain ⟨i, j, z⟩ := q
      rw [e, z] at n
      cases n
    · rw [s d o e h] at n
      cases n
def Small (i : Int) : Prop := 0 < i ∧ i < 10 ^ 40
def sp_l_spoon : Sp := s2 fun a b H Q _ => ∃ p m, a = .ref p ∧ b = .int m ∧ Pot p H ∧ Small m ∧ ∀ r H', 0 ≤ r → r < m → But p H H' → Pot p H' → Q (.int r) H'
theorem ok_l_spoon (T : Txt w K mg A) : Callee P w K mg base 1 "_law_spoon" ["_law_pot_here", "_law_wide"] sp_l_spoon := by
  refine callee_of T.F_l_spoon sc_l_spoon (fun _ _ _ _ _ _ us hl => match us, hl with | [_, _], _ => rfl) (fun vs H Q E h => ?_) (fun f cdv Ar outer s H vs Q E hr tk po h => ?_)
  · obtain ⟨_, _, rfl, _⟩ := s2_len h
    rfl
  · obtain ⟨a, b, rfl, p, m, rfl, rfl, ⟨i, j, h0⟩, ⟨h1, h2⟩, q⟩ := s2_len h
    refine ⟨_, (pss_cons (ps_if (ft_cmp f_gt (pe_ix f_ix (fv 0) pe_int (fun _ _ => rfl)) pe_int (nomark _)) (pss_cons (ps_set (i := 2) sc_l_spoon.nd rfl (Or.inl rfl) (pe_op f_mod (pe_callTy f_int (by rfl) T.b_int (by decide +kernel) (pa_cons (pe_ix f_ix (fv 0) pe_int (fun _ _ => rfl)) pa_nil)) (fv 1)))
      (pss_cons (ps_asg (pe_op f_fdiv (pe_callTy f_int (by rfl) T.b_int (by decide +kernel) (pa_cons (pe_ix f_ix (fv 0) pe_int (fun _ _ => rfl)) pa_nil)) (fv 1)) (pg_sub (fv 0) pe_int g_setL))
      (pss_one (ps_ret (fv 2))))) pss_nil)
      (pss_cons (ps_asg (pe_op f_mod (pe_callTy f_int (by rfl) T.b_int (by decide +kernel) (pa_cons (pe_op f_add (pe_op f_add (pe_op f_mul (pe_ix f_ix (fv 0) pe_int (fun _ _ => rfl)) pe_int) (pe_op f_mul (pe_op f_fdiv (pe_ix f_ix (fv 0) pe_int (fun _ _ => rfl)) pe_int) pe_int)) pe_int) pa_nil)) pe_int) (pg_sub (fv 0) pe_int g_setL))
      (pss_one (ps_ret (pe_op f_mod (pe_callTy f_int (by rfl) T.b_int (by decide +kernel) (pa_cons (pe_op f_fdiv (pe_ix f_ix (fv 0) pe_int (fun _ _ => rfl)) pe_int) pa_nil)) (fv 1)))))), ?_⟩
    have d1 : CDv i m := ⟨h1, by omega⟩
    clear h2
    walk_at "sx"
    refine iteD (fun c => ?_) (fun c => ?_)
    · walk_at "sx"
      intro H1 b1 e1
      walk_at "sx"
      refine q _ H1 (Int.emod_nonneg _ (by omega)) (Int.emod_lt_of_pos _ h1) b1 ⟨_, _, e1⟩
    · walk_at "sx"
      intro H1 b1 e1
      walk_at "sx"
      refine q _ H1 (Int.emod_nonneg _ (by omega)) (Int.emod_lt_of_pos _ h1) b1 ⟨_, _, e1⟩
/-- one of some things -/
def sp_l_of : Sp := s2 fun a b H Q _ => ∃ p t xs, a = .ref p ∧ b = .ref t ∧ Pot p H ∧ H t = some (.lst xs) ∧ (notPot xs = true ∨ t ≠ p) ∧ 0 < xs.length ∧ xs.length < 1000 ∧ ∀ v H', v ∈ xs → But p H H' → Pot p H' → Q v H'
theorem ok_l_of (T : Txt w K mg A) : Callee P w K mg base 2 "_law_of" ["_law_pot_here", "_law_things"] sp_l_of := by
  refine callee_of T.F_l_of sc_l_of (fun _ _ _ _ _ _ us hl => match us, hl with | [_, _], _ => rfl) (fun vs H Q E h => ?_) (fun f cdv Ar outer s H vs Q E hr tk po h => ?_)
  · obtain ⟨_, _, rfl, _⟩ := s2_len h
    rfl
  · obtain ⟨a, b, rfl, p, t, xs, rfl, rfl, h0, h1, h2, h3, h4, q⟩ := s2_len h
    refine ⟨_, (pss_one (ps_ret (pe_ix f_ix (fv 1) (fc_call (ok_l_spoon T) hr (by decide) (by rfl) tk (pa_cons (fv 0) (pa_cons (pe_callB f_len (by rfl) T.b_len (by decide +kernel) (pa_cons (fv 1) pa_nil)) pa_nil))) (fun _ _ => rfl)))), ?_⟩
    have sm : Small (xs.length : Int) := ⟨by omega, by omega⟩
    walk_at "sx"
    intro r H1 r0 r1 b1 p1
    have h11 : H1 t = some (.lst xs) := by
      rcases h2 with h2 | h2
      · exact But.pot b1 h0 h1 fun i j e => by
          cases e
          cases h2
      · exact b1 _ _ h2 h1
    obtain ⟨n, rfl⟩ : ∃ n : Nat, r = n := ⟨r.toNat, by omega⟩
    have nl : n < xs.length := by omega
    have at1 : atI xs ((n : Nat) : Int) = some xs[n] := atI_nat (List.getElem?_eq_getElem nl)
    walk_at "sx"
    exact q _ H1 (List.getElem_mem nl) b1 p1
def sp_l_pot (K : PySem.W.Frag) : Sp := s2 fun a b H Q _ => ∃ (s : Addr) (ns : List Int) (k : Nat), a = .ref s ∧ SqL K H s (ns.map V.int) ∧ b = .int (k : Nat) ∧ k ≤ 5 ∧ ∀ p H', H p = none → Same H H' → Pot p H' → Q (.ref p) H'
theorem ok_l_pot (T : Txt w K mg A) : Callee P w K mg base 1 "_law_pot" ["_law_script", "_law_k"] (sp_l_pot K) := by
  refine callee_of T.F_l_pot sc_l_pot (fun _ _ _ _ _ _ us hl => match us, hl with | [_, _], _ => rfl) (fun vs H Q E h => ?_) (fun f cdv Ar outer s H vs Q E hr tk po h => ?_)
  · obtain ⟨_, _, rfl, _⟩ := s2_len h
    rfl
  · obtain ⟨a, b, rfl, s, ns, k, rfl, hs, rfl, hk, q⟩ := s2_len h
    refine ⟨_, (pss_cons (ps_set (i := 2) sc_l_pot.nd rfl (Or.inl rfl) (pe_op f_add pe_int (pe_op f_mul pe_int (fv 1))))
      (pss_cons (fs_for po rfl (fi_L (pe_slice f_slL (fv 0) po_none (po_some pe_int))) (pg_name (i := 3) sc_l_pot.nd rfl (Or.inl rfl)) (pss_one (ps_set (i := 2) sc_l_pot.nd rfl (Or.inl rfl) (pe_op f_mod (pe_callTy f_int (by rfl) T.b_int (by decide +kernel) (pa_cons (pe_op f_add (pe_op f_add (pe_op f_mul (fv 2) pe_int) (pe_op f_mod (pe_callTy f_int (by rfl) T.b_int (by decide +kernel) (pa_cons (fv 3) pa_nil)) pe_int)) pe_int) pa_nil)) pe_int))))
      (pss_cons (ps_set (i := 4) sc_l_pot.nd rfl (Or.inl rfl) (pe_ifExp (ft_cmp f_lt (fv 1) (pe_callB f_len (by rfl) T.b_len (by decide +kernel) (pa_cons (fv 0) pa_nil)) (nomark _)) (pe_callTy f_int (by rfl) T.b_int (by decide +kernel) (pa_cons (pe_ix f_ix (fv 0) (fv 1) (fun _ _ => rfl)) pa_nil)) (pe_op f_mul pe_int (fv 1))))
      (pss_one (ps_ret (fe_lst (pa_cons (pe_ifExp (ft_cmp f_ge (pe_callB f_abs (by rfl) T.b_abs (by decide +kernel) (pa_cons (fv 4) pa_nil)) (pe_op f_pow pe_int pe_int) (nomark _)) (pe_callB f_abs (by rfl) T.b_abs (by decide +kernel) (pa_cons (fv 4) pa_nil)) pe_int) (pa_cons (pe_op f_mod (pe_callTy f_int (by rfl) T.b_int (by decide +kernel) (pa_cons (pe_op f_add (fv 2) (pe_op f_mod (fv 4) pe_int)) pa_nil)) pe_int) pa_nil)))))))), ?_⟩
    walk_at "sx"
    intro a1 H1 n1 s1 h1
    have hs1 : SqL K H1 s (ns.map V.int) := s1.seq hs
    have intsOk : ∀ x ∈ cutV (ns.map V.int) none (some 11), ∃ i, x = V.int i := fun x hx => by
      have z := List.mem_of_mem_drop (List.mem_of_mem_take hx)
      obtain ⟨i, _, e⟩ := List.mem_map.mp z
      exact ⟨i, e.symm⟩
    walk_at "sx"
    refine Loop.by (fun rest σ Hc => ∃ z, ∃ a3, σ = [some (.ref s), some (.int (k : Nat)), some (.int z), a3, none] ∧ Same H1 Hc ∧ ∀ x ∈ rest, ∃ i, x = V.int i) ?_ ?_ _ _ _ ?_
    · rintro x r σ Hc ⟨z, a3, rfl, sc, hr⟩ N hN
      obtain ⟨i, rfl⟩ := hr _ (List.mem_cons_self ..)
      walk_at "sx"
      exact hN _ _ (SqL.of (sc _ _ h1)) ⟨_, _, rfl, sc, fun x hx => hr x (List.mem_cons_of_mem _ hx)⟩
    · rintro σ Hc ⟨z, a3, rfl, sc, _⟩
      have hsc : SqL K Hc s (ns.map V.int) := sc.seq hs1
      have fin : ∀ (e : Int) p H', Hc p = none → Same Hc H' → H' p = some (.lst [.int e, .int z]) → True := fun _ _ _ _ _ _ => trivial
      walk_at "sx"
      refine iteD (fun c => ?_) (fun c => ?_)
      · have kl : k < ns.length := by
          have : ((k : Nat) : Int) < ((ns.map V.int).length : Nat) := c
          rw [List.length_map] at this
          omega
        have at1 : atI (ns.map V.int) ((k : Nat) : Int) = some (V.int ns[k]) := atI_nat (by rw [List.getElem?_map, List.getElem?_eq_getElem kl]; rfl)
        walk_at "sx"
        refine iteD (fun d => ?_) (fun d => ?_)
        · walk_at "sx"
          intro p H2 n2 s2 h2
          exact q p H2 (Same.no (s1.trans sc) n2) ((s1.trans sc).trans s2) ⟨_, _, h2⟩
        · walk_at "sx"
          intro p H2 n2 s2 h2
          exact q p H2 (Same.no (s1.trans sc) n2) ((s1.trans sc).trans s2) ⟨_, _, h2⟩
      · walk_at "sx"
        refine iteD (fun d => ?_) (fun d => ?_)
        · walk_at "sx"
          intro p H2 n2 s2 h2
          exact q p H2 (Same.no (s1.trans sc) n2) ((s1.trans sc).trans s2) ⟨_, _, h2⟩
        · walk_at "sx"
          intro p H2 n2 s2 h2
          exact q p H2 (Same.no (s1.trans sc) n2) ((s1.trans sc).trans s2) ⟨_, _, h2⟩
    · exact ⟨_, none, rfl, Same.refl _, intsOk⟩
def sp_l_signs : Sp := s0 fun H Q _ => Q (.str printS) H
theorem ok_l_signs (T : Txt w K mg A) : Callee P w K mg base 1 "_law_signs" [] sp_l_signs := by
  refine callee_of T.F_l_signs sc_l_signs (fun _ _ _ _ _ _ us hl => match us, hl with | [], _ => rfl) (fun vs H Q E h => ?_) (fun f cdv Ar outer s H vs Q E hr tk po h => ?_)
  · obtain ⟨rfl, _⟩ := s0_len h
    rfl
  · obtain ⟨rfl, q⟩ := s0_len h
    refine ⟨_, (pss_one (ps_ret pe_str)), ?_⟩
    exact q
def sp_l_sign : Sp := s1 fun a H Q _ => ∃ p, a = .ref p ∧ Pot p H ∧ ∀ c H', c ∈ printL → But p H H' → Pot p H' → Q (.str (chS c)) H'
theorem ok_l_sign (T : Txt w K mg A) : Callee P w K mg base 3 "_law_sign" ["_law_pot_here"] sp_l_sign := by
  refine callee_of T.F_l_sign sc_l_sign (fun _ _ _ _ _ _ us hl => match us, hl with | [_], _ => rfl) (fun vs H Q E h => ?_) (fun f cdv Ar outer s H vs Q E hr tk po h => ?_)
  · obtain ⟨_, rfl, _⟩ := s1_len h
    rfl
  · obtain ⟨a, rfl, p, rfl, h0, q⟩ := s1_len h
    refine ⟨_, (pss_cons (ps_if (ft_cmp f_eq (fc_call (ok_l_spoon T) hr (by decide) (by rfl) tk (pa_cons (fv 0) (pa_cons pe_int pa_nil))) pe_int (nomark _)) (pss_one (ps_ret (pe_ix f_ix (fc_call0 (ok_l_signs T) hr (by decide) (by rfl) tk) (fc_call (ok_l_spoon T) hr (by decide) (by rfl) tk (pa_cons (fv 0) (pa_cons pe_int pa_nil))) (fun _ _ => rfl)))) pss_nil)
      (pss_one (ps_ret (fc_call (ok_l_of T) hr (by decide) (by rfl) tk (pa_cons (fv 0) (pa_cons (fe_lst (pa_cons pe_str (pa_cons pe_str (pa_cons pe_str (pa_cons pe_str (pa_cons pe_str (pa_cons pe_str (pa_cons pe_str (pa_cons pe_str (pa_cons pe_str (pa_cons pe_str (pa_cons pe_str (pa_cons pe_str (pa_cons pe_str (pa_cons pe_str pa_nil))))))))))))))) pa_nil)))))), ?_⟩
    have m2 : Small 2 := ⟨by decide, by decide⟩
    have m94 : Small 94 := ⟨by decide, by decide⟩
    walk_at "sx"
    intro r H1 r0 r1 b1 p1
    walk_at "sx"
    refine iteD (fun c => ?_) (fun c => ?_)
    · walk_at "sx"
      intro r2 H2 r20 r21 b2 p2
      obtain ⟨n, rfl⟩ : ∃ n : Nat, r2 = n := ⟨r2.toNat, by omega⟩
      have nl : n < printS.cps.toList.length := by
        have : printS.cps.toList.length = 94 := by decide
        omega
      have at1 : atI printS.cps.toList ((n : Nat) : Int) = some printS.cps.toList[n] := atI_nat (List.getElem?_eq_getElem nl)
      have mem : printS.cps.toList[n] ∈ printL := printS_eq ▸ List.getElem_mem nl
      walk_at "sx"
      exact q _ H2 mem (b1.trans b2) p2
    · walk_at "sx"
      intro t H2 nt s2 h2
      have p2 := Pot.same s2 p1
      walk_at "sx"
      intro v H3 mv b3 p3
      have fin : ∀ c ∈ [32, 48, 49, 45, 43, 44, 46, 57, 97, 42, 47, 53, 38, 126], c ∈ printL := by decide
      have ev : ∃ c, c ∈ printL ∧ v = .str (chS c) := by
        simp only [List.mem_cons, List.not_mem_nil, or_false] at mv
        rcases mv with rfl | rfl | rfl | rfl | rfl | rfl | rfl | rfl | rfl | rfl | rfl | rfl | rfl | rfl
        · exact ⟨32, fin _ (by decide), rfl⟩
        · exact ⟨48, fin _ (by decide), rfl⟩
        · exact ⟨49, fin _ (by decide), rfl⟩
        · exact ⟨45, fin _ (by decide), rfl⟩
        · exact ⟨43, fin _ (by decide), rfl⟩
        · exact ⟨44, fin _ (by decide), rfl⟩
        · exact ⟨46, fin _ (by decide), rfl⟩
        · exact ⟨57, fin _ (by decide), rfl⟩
        · exact ⟨97, fin _ (by decide), rfl⟩
        · exact ⟨42, fin _ (by decide), rfl⟩
        · exact ⟨47, fin _ (by decide), rfl⟩
        · exact ⟨53, fin _ (by decide), rfl⟩
        · exact ⟨38, fin _ (by decide), rfl⟩
        · exact ⟨126, fin _ (by decide), rfl⟩
      obtain ⟨c, hc, rfl⟩ := ev
      exact q c H3 hc ((b1.trans (But.of s2)).trans b3) p3
end

end Fg
set_option Elab.async false
set_option linter.all false
set_option maxRecDepth 100000
set_option maxHeartbeats 4000000
namespace Fg
open PySem PySem.Spec PyProof.Rows L2
local macro_rules | `(tactic| walk_at "hp") => `(tactic| first | assumption | (refine Same.get (by assumption) ?_; walk_at "hp"))
local macro_rules | `(tactic| walk_at "sq") => `(tactic| first | assumption | (exact Or.inr (by assumption)) | (exact Or.inl (by assumption)) | (exact Or.inl (SqL.of (by walk_at "hp"))) | (exact Or.inr (SqT.of (by walk_at "hp"))) | (exact SqL.of (by walk_at "hp")) | (exact SqT.of (by walk_at "hp")))
local macro_rules | `(tactic| walk_at "cl") => `(tactic| first | ((first | show (_ : Int) < _ | show (_ : Int) ≤ _); first | omega | decide) | ((first | show (_ : Nat) < _ | show (_ : Nat) ≤ _); first | with_reducible assumption | (refine sz_le ?_; first | decide | omega | (simp <;> omega)) | (refine sz_lt ?_; first | decide | omega | (simp <;> omega)) | omega | decide | ((with_reducible show List.length _ < _); exact Nat.le_of_ble_eq_true rfl)) | rfl | walk_at "hp" | walk_at "sq" | (refine And.intro (by walk_at "cl") (by walk_at "cl")) | (exact Exists.intro _ (by walk_at "hp")) | (exact Exists.intro _ (Exists.intro _ (by walk_at "hp"))) | (exact Exists.intro _ (Exists.intro _ (And.intro (by walk_at "hp") rfl))) | decide | (exact Or.inl (by walk_at "cl")) | (exact Or.inr (by walk_at "cl")) | omega)
local macro_rules | `(tactic| walk_at "s1") => `(tactic| first | refine And.intro (by walk_at "cl") ?_ | apply Exists.intro)
local macro_rules | `(tactic| walk_at "sx") => `(tactic| repeat walk_at "s1")
local macro_rules | `(tactic| walk_at "si") => `(tactic| first | refine iteY rfl ?_ | refine iteN rfl ?_)
local macro_rules | `(tactic| walk_at "sy") => `(tactic| repeat first | walk_at "s1" | walk_at "si")
/-! ### counted walks, walks with new tables -/
/-- all but the pot at p and the tables stays -/
def ButN (p : Addr) (H H' : Hp) : Prop := ∀ b o, b ≠ p → H b = some o → (∀ ps, o ≠ .tbl ps) → H' b = some o
theorem ButN.refl (p : Addr) (H : Hp) : ButN p H H := fun _ _ _ e _ => e
theorem ButN.trans {p : Addr} {H H1 H2 : Hp} (x : ButN p H H1) (y : ButN p H1 H2) : ButN p H H2 := fun b o n e t => y b o n (x b o n e t) t
theorem ButN.of {p : Addr} {H H' : Hp} (h : But p H H') : ButN p H H' := fun b o n e _ => h b o n e
theorem ButN.ext {p : Addr} {H H' : Hp} (h : LamX.ExtN H H') : ButN p H H' := fun b o _ e t => h b o e t
theorem ButN.same {p : Addr} {H H' : Hp} (h : Same H H') : ButN p H H' := fun b o _ e _ => h b o e
theorem TabS.but {p : Addr} {H H' : Hp} {P : Addr} {q : Str} (b : But p H H') (hp : Pot p H) (t : LamX.TabS H P q) : LamX.TabS H' P q := by
  obtain ⟨i, j, e⟩ := hp
  obtain ⟨ps, h1, h2, h3⟩ := t
  have ne : ∀ {a : Addr} {o : HO}, H a = some o → (∀ i j, o ≠ .lst [.int i, .int j]) → a ≠ p := fun {a o} ea no z => by
    rw [z, e] at ea
    exact no i j (Option.some.inj ea).symm
  refine ⟨ps, b _ _ (ne h1 fun _ _ z => by cases z) h1, h2, fun pos cv hc => ?_⟩
  obtain ⟨c, e1, e2⟩ := h3 pos cv hc
  exact ⟨c, e1, b _ _ (ne e2 fun _ _ z => by unfold LamX.CodeO at z; cases z) e2⟩
theorem Tabs.but {p : Addr} {H H' : Hp} {T : List (Addr × Str)} (b : But p H H') (hp : Pot p H) (t : LamX.Tabs T H) : LamX.Tabs T H' := fun q hq => TabS.but b hp (t q hq)
theorem Tabs.same {H H' : Hp} {T : List (Addr × Str)} (b : Same H H') (t : LamX.Tabs T H) : LamX.Tabs T H' := t.ext b
theorem Pot.ext {p : Addr} {H H' : Hp} (s : LamX.ExtN H H') (h : Pot p H) : Pot p H' := h.elim fun i ⟨j, e⟩ => ⟨i, j, s _ _ e fun _ z => by cases z⟩
/-- isinstance of whatever the suite holds -/
theorem f_isEg {X : Cx} {a D : Addr} {cls : Value} {d : Option Addr} {oe : Obj} {pn : List (Addr × Obj)} (C : ExcC X.K D) (hz : Zc cls d oe) (hf : ∃ vs, oe.data = .fields vs) :
    CallR (X.suite a ((a, oe) :: pn)) (.builtin "isinstance") (fun xs H Q => cls = .ref D ∧ ∃ dx fs, d = some dx ∧ H dx = some (.xd fs) ∧ fIsE X.K D a xs H Q) := by
  intro pins s σ H xs us Q J r ⟨hc, dx, fs, hd, q⟩
  subst hc hd
  exact f_isE C hz hf pins s σ H xs us Q J r q
section
variable {P : Program} {w : World} {K : PySem.W.Frag} {mg : Str → Option Value} {base : Heap} {A : Ad}
/-- how a call ends -/
def TEnd (C : Addr) : (XK → Hp → VK → Prop) → Hp → VK → Prop := fun tl H Q =>
  tl (fun cls d H' => cls = .ref C ∧ ∃ dd v, d = some dd ∧ H' dd = some (.xd [("value", v)]) ∧ ∀ p H2, H' p = none → Same H' H2 → H2 p = some (.lst [.str "InvalidText", v, .bl true]) → Q (.ref p) H2) H
    (fun v H1 => ([.str "given", v] : List V).length ≤ sizeLine ∧ ∀ p H2, H1 p = none → Same H1 H2 → H2 p = some (.lst [.str "given", v]) → Q (.ref p) H2)
theorem pss_ex {X : Cx} {b : List Stmt} {α : Sort _} {Pp : α → Prop} {t : α → TS} (h : ∀ a, Pp a → PSs X b (t a)) : PSs X b (fun D σ H => ∃ a, Pp a ∧ t a D σ H) := ⟨fun pins s σ H D I ⟨a, p, q⟩ => (h a p).run pins s σ H D I q⟩
theorem takes_len {X : Cx} {W : WX} (t : Takes X W) : Takes X (fun c d σ H => σ.length = X.N.length → W c d σ H) :=
  fun u s' ⟨a, B, sI, pins, σ, H, cls, d, e, I, nb, up, sky, na, os, ag, w⟩ => t u s' ⟨a, B, sI, pins, σ, H, cls, d, e, I, nb, up, sky, na, os, ag, w I.len⟩
theorem gives_l_ended {X : Cx} (T : Txt X.w X.K X.mg A) {q : Str} : ∀ (g : Addr) (cdv : Value), LamX.GivesTo X ["_law_ask", "_law_given", "e"] "_law_ended" (defScope s_l_ended) g cdv (defBody s_l_ended) "_law_ask" q (TEnd A.cInvalidText) := by
  intro g cdv f c' s H Q tl act hc h
  have hgl : Gl (cxOf C8.CX0 X.prog X.w X.K X.mg X.base ["_law_ask", "_law_given", "e"] "_law_ended" (defScope s_l_ended) g cdv X.A X.stack s H C8.E0).nox "InvalidText" := by rfl
  refine ⟨_, pss_cons (ps_try_as (X := (cxOf C8.CX0 X.prog X.w X.K X.mg X.base ["_law_ask", "_law_given", "e"] "_law_ended" (defScope s_l_ended) g cdv X.A X.stack s H C8.E0).nox) (c := .ref A.cInvalidText) (i := 2)
      (tb := fun W D σ H => ∃ Ech : XK, (∀ cls d (σ' : L2.St) H', Ech cls d H' → σ'.length = 3 → W cls d σ' H') ∧ σ[0]? = some (some (.ref f)) ∧ H c' = some (LamX.CodeO c' q) ∧ tl Ech H (fun v H1 => D.nx (σ.set 1 (some v)) H1))
      rfl rfl sc_l_ended.nd rfl rfl ⟨hgl, by decide, .inl T.g_InvalidText⟩ takes0 (fun W pn xe tk _ => ?_)
      (fun a oe cls d pn hz hf => pss_one (ps_ret (fe_lst (pa_cons pe_str (pa_cons (pe_xf T.xf_InvalidText T.nf_InvalidText hz hf (fv 2)) (pa_cons (pe_and
        (pe_callB (f_isEg T.xc_InvalidText hz hf) (by rfl) T.b_isinstance (by decide +kernel) (pa_cons (fv 2) (pa_cons (fe_g (by rfl) T.v_Unfit) pa_nil)))
        (pe_one (pe_callB (f_isEg T.xc_InvalidText hz hf) (by rfl) T.b_isinstance (by decide +kernel) (pa_cons (fv 2) (pa_cons (pe_bltn (v := .ty "ValueError") (by rfl) T.b_ValueError (by decide +kernel) rfl) pa_nil))))) pa_nil)))))))
    (pss_one (ps_ret (fe_lst (pa_cons pe_str (pa_cons (fv 1) pa_nil))))), ?_⟩
  · exact pss_ex fun Ech hW => pss_one (ps_set (i := 1) sc_l_ended.nd rfl (.inl rfl) (act (fun c d σ H => σ.length = 3 → W c d σ H) pn xe Ech _ _ (takes_len tk) hW))
  · unfold TEnd at h
    refine ⟨_, fun cls d σ' H' hE hl => ?_, rfl, hc, h⟩
    obtain ⟨rfl, dd, v, rfl, hd, k⟩ := hE
    obtain ⟨x0, x1, x2, rfl⟩ : ∃ x0 x1 x2, σ' = [x0, x1, x2] := by
      match σ', hl with
      | [x0, x1, x2], _ => exact ⟨x0, x1, x2, rfl⟩
    refine ⟨true, T.ex_InvalidText_InvalidText, fun _ a na => ?_, fun z => nomatch z⟩
    have k1 := T.ki_InvalidText_Unfit
    have k2 := T.ki_InvalidText_ValueError
    walk_at "sx"
    exact k
end

end Fg
set_option Elab.async false
set_option linter.all false
set_option maxRecDepth 100000
set_option maxHeartbeats 4000000
namespace Fg
open PySem PySem.Spec PyProof.Rows L2
local macro_rules | `(tactic| walk_at "hp") => `(tactic| first | assumption | (refine Same.get (by assumption) ?_; walk_at "hp"))
local macro_rules | `(tactic| walk_at "sq") => `(tactic| first | assumption | (exact Or.inr (by assumption)) | (exact Or.inl (by assumption)) | (exact Or.inl (SqL.of (by walk_at "hp"))) | (exact Or.inr (SqT.of (by walk_at "hp"))) | (exact SqL.of (by walk_at "hp")) | (exact SqT.of (by walk_at "hp")))
local macro_rules | `(tactic| walk_at "cl") => `(tactic| first | ((first | show (_ : Int) < _ | show (_ : Int) ≤ _); first | omega | decide) | ((first | show (_ : Nat) < _ | show (_ : Nat) ≤ _); first | with_reducible assumption | (refine sz_le ?_; first | decide | omega | (simp <;> omega)) | (refine sz_lt ?_; first | decide | omega | (simp <;> omega)) | omega | decide | ((with_reducible show List.length _ < _); exact Nat.le_of_ble_eq_true rfl)) | rfl | walk_at "hp" | walk_at "sq" | (refine And.intro (by walk_at "cl") (by walk_at "cl")) | (exact Exists.intro _ (by walk_at "hp")) | (exact Exists.intro _ (Exists.intro _ (by walk_at "hp"))) | (exact Exists.intro _ (Exists.intro _ (And.intro (by walk_at "hp") rfl))) | decide | (exact Or.inl (by walk_at "cl")) | (exact Or.inr (by walk_at "cl")) | omega)
local macro_rules | `(tactic| walk_at "s1") => `(tactic| first | refine And.intro (by walk_at "cl") ?_ | apply Exists.intro)
local macro_rules | `(tactic| walk_at "sx") => `(tactic| repeat walk_at "s1")
local macro_rules | `(tactic| walk_at "si") => `(tactic| first | refine iteY rfl ?_ | refine iteN rfl ?_)
local macro_rules | `(tactic| walk_at "sy") => `(tactic| repeat first | walk_at "s1" | walk_at "si")
/-! ### lengths of cuts -/
theorem cut_lo_len {z : Str} {k : Nat} (h : k ≤ z.length) : (cutS z none (some ((k : Nat) : Int))).length = k := by
  have e : z.cps.toList.length = z.length := Array.length_toList ..
  unfold cutS
  rw [HT.sIx_none, HT.sIx_nat]
  show (List.toArray _).size = k
  rw [List.size_toArray, List.drop_zero, List.length_take, e]
  omega
theorem cut_hi_len {z : Str} {k : Nat} : (cutS z (some ((k : Nat) : Int)) none).length = z.length - k := by
  have e : z.cps.toList.length = z.length := Array.length_toList ..
  unfold cutS
  rw [HT.sIx_none, HT.sIx_nat]
  show (List.toArray _).size = _
  rw [List.size_toArray, List.length_take, List.length_drop, e]
  omega
theorem add_len (a b : Str) : (a ++ b).length = a.length + b.length := by
  rw [str_app]
  exact Array.size_append

end Fg
set_option Elab.async false
set_option linter.all false
set_option maxRecDepth 100000
set_option maxHeartbeats 4000000
namespace Fg
open PySem PySem.Spec PyProof.Rows L2
local macro_rules | `(tactic| walk_at "hp") => `(tactic| first | assumption | (refine Same.get (by assumption) ?_; walk_at "hp"))
local macro_rules | `(tactic| walk_at "sq") => `(tactic| first | assumption | (exact Or.inr (by assumption)) | (exact Or.inl (by assumption)) | (exact Or.inl (SqL.of (by walk_at "hp"))) | (exact Or.inr (SqT.of (by walk_at "hp"))) | (exact SqL.of (by walk_at "hp")) | (exact SqT.of (by walk_at "hp")))
local macro_rules | `(tactic| walk_at "cl") => `(tactic| first | ((first | show (_ : Int) < _ | show (_ : Int) ≤ _); first | omega | decide) | ((first | show (_ : Nat) < _ | show (_ : Nat) ≤ _); first | with_reducible assumption | (refine sz_le ?_; first | decide | omega | (simp <;> omega)) | (refine sz_lt ?_; first | decide | omega | (simp <;> omega)) | omega | decide | ((with_reducible show List.length _ < _); exact Nat.le_of_ble_eq_true rfl)) | rfl | walk_at "hp" | walk_at "sq" | (refine And.intro (by walk_at "cl") (by walk_at "cl")) | (exact Exists.intro _ (by walk_at "hp")) | (exact Exists.intro _ (Exists.intro _ (by walk_at "hp"))) | (exact Exists.intro _ (Exists.intro _ (And.intro (by walk_at "hp") rfl))) | decide | (exact Or.inl (by walk_at "cl")) | (exact Or.inr (by walk_at "cl")) | omega)
local macro_rules | `(tactic| walk_at "s1") => `(tactic| first | refine And.intro (by walk_at "cl") ?_ | apply Exists.intro)
local macro_rules | `(tactic| walk_at "sx") => `(tactic| repeat walk_at "s1")
local macro_rules | `(tactic| walk_at "si") => `(tactic| first | refine iteY rfl ?_ | refine iteN rfl ?_)
local macro_rules | `(tactic| walk_at "sy") => `(tactic| repeat first | walk_at "s1" | walk_at "si")
/-! ### a bent text -/
def wgt (ws : List Str) : Nat := (ws.map (·.length)).sum + ws.length
theorem wgt_app (a b : List Str) : wgt (a ++ b) = wgt a + wgt b := by
  unfold wgt
  simp only [List.map_append, List.sum_append, List.length_append]
  omega
theorem wgt_sub {a b : List Str} (h : a.Sublist b) : wgt a ≤ wgt b := by
  induction h with
  | slnil => exact Nat.le_refl _
  | cons x _ ih =>
    unfold wgt at ih ⊢
    simp only [List.map_cons, List.sum_cons, List.length_cons]
    omega
  | cons_cons x _ ih =>
    unfold wgt at ih ⊢
    simp only [List.map_cons, List.sum_cons, List.length_cons]
    omega
theorem wgt_glue (c : Nat) : ∀ ws : List Str, wgt ws ≤ (glueL c (ws.map fun w => w.cps.toList)).length + 1
  | [] => by simp [wgt]
  | [x] => by
    have : x.cps.toList.length = x.length := Array.length_toList ..
    show x.length + 0 + 1 ≤ _
    show x.length + 0 + 1 ≤ x.cps.toList.length + 1
    omega
  | x :: y :: r => by
    have ih := wgt_glue c (y :: r)
    have : x.cps.toList.length = x.length := Array.length_toList ..
    rw [show x :: y :: r = [x] ++ (y :: r) from rfl, wgt_app]
    show x.length + 0 + 1 + wgt (y :: r) ≤ (x.cps.toList ++ c :: glueL c ((y :: r).map fun w => w.cps.toList)).length + 1
    rw [List.length_append, List.length_cons]
    omega
theorem wgt_split (z : Str) : wgt (Txt.split z " ") ≤ z.length + 1 := by
  have h := wgt_glue 32 (Txt.split z " ")
  rw [← join_codes, ← sp_str, sp_str, join_split1] at h
  have : z.cps.toList.length = z.length := Array.length_toList ..
  rw [← sp_str] at h
  omega
theorem join_wgt (ws : List Str) : (Txt.join " " ws).length ≤ wgt ws := by
  unfold Txt.join
  rw [StrLaws.glued_eq_join]
  refine Nat.le_trans (StrLaws.join_length_le _ _) ?_
  unfold wgt
  rw [show (" " : Str).length = 1 from rfl, Nat.mul_one]
  exact Nat.le_refl _
theorem wgt_set : ∀ (ws : List Str) (i : Nat) (s : Str), wgt (ws.set i s) ≤ wgt ws + s.length
  | [], _, _ => by simp [wgt]
  | x :: r, 0, s => by
    rw [List.set_cons_zero]
    unfold wgt
    simp only [List.map_cons, List.sum_cons, List.length_cons]
    omega
  | x :: r, i + 1, s => by
    have ih := wgt_set r i s
    rw [List.set_cons_succ]
    unfold wgt at ih ⊢
    simp only [List.map_cons, List.sum_cons, List.length_cons]
    omega
theorem cut_words (ws : List Str) (lo hi : Option Int) : ∃ us : List Str, cutV (ws.map V.str) lo hi = us.map V.str ∧ us.Sublist ws := by
  unfold cutV
  refine ⟨_, by rw [← List.map_drop, ← List.map_take], (List.take_sublist _ _).trans (List.drop_sublist _ _)⟩
theorem ixN_nat {n k : Nat} (h : k < n) : ixN n ((k : Nat) : Int) = some k := by
  unfold ixN
  rw [if_pos (by omega), if_pos (by omega)]
  rfl
theorem wgt_sum {ws : List Str} (h : wgt ws ≤ 2000) : (ws.map (·.length)).sum + ws.length * (" " : Str).length ≤ 16777216 := by
  unfold wgt at h
  rw [show (" " : Str).length = 1 from rfl, Nat.mul_one]
  omega
section
variable {P : Program} {w : World} {K : PySem.W.Frag} {mg : Str → Option Value} {base : Heap} {A : Ad}
def sp_l_bent : Sp := s2 fun a b H Q _ => ∃ p z, a = .ref p ∧ b = .str z ∧ Pot p H ∧ 0 < z.length ∧ z.length ≤ 300 ∧ 4 ≤ (Txt.split z " ").length ∧ ∀ z' H', z'.length ≤ 1000 → But p H H' → Pot p H' → Q (.str z') H'
theorem ok_l_bent (T : Txt w K mg A) : Callee P w K mg base 3 "_law_bent" ["_law_pot_here", "_law_line_here"] sp_l_bent := by
  refine callee_of T.F_l_bent sc_l_bent (fun _ _ _ _ _ _ us hl => match us, hl with | [_, _], _ => rfl) (fun vs H Q E h => ?_) (fun f cdv Ar outer s H vs Q E hr tk po h => ?_)
  · obtain ⟨_, _, rfl, _⟩ := s2_len h
    rfl
  · obtain ⟨a, b, rfl, p, z, rfl, rfl, h0, h1, h2, h4, q⟩ := s2_len h
    refine ⟨_, (pss_cons (ps_par (i := 2) (j := 3) (by rfl) sc_l_bent.nd rfl rfl (by decide) rfl rfl (pa_cons (fe_sm1 PySem.F.slot_str_split PySem.F.type_str_split f_split (fv 1) pe_str) (pa_cons (fc_call (ok_l_spoon T) hr (by decide) (by rfl) tk (pa_cons (fv 0) (pa_cons pe_int pa_nil))) pa_nil)) (by rfl))
      (pss_cons (ps_par (i := 4) (j := 5) (by rfl) sc_l_bent.nd rfl rfl (by decide) rfl rfl (pa_cons (fc_call (ok_l_spoon T) hr (by decide) (by rfl) tk (pa_cons (fv 0) (pa_cons pe_int pa_nil))) (pa_cons (fc_call (ok_l_spoon T) hr (by decide) (by rfl) tk (pa_cons (fv 0) (pa_cons (pe_callB f_len (by rfl) T.b_len (by decide +kernel) (pa_cons (fv 1) pa_nil)) pa_nil))) pa_nil)) (by rfl))
      (pss_cons (ps_if (ft_cmp f_eq (fv 3) pe_int (nomark _)) (pss_one (ps_ret (pe_op f_add (pe_slice f_slS (fv 1) po_none (po_some (fv 5))) (pe_slice f_slS (fv 1) (po_some (pe_op f_add (fv 5) pe_int)) po_none)))) pss_nil)
      (pss_cons (ps_if (ft_cmp f_eq (fv 3) pe_int (nomark _)) (pss_one (ps_ret (pe_op f_add (pe_op f_add (pe_slice f_slS (fv 1) po_none (po_some (fv 5))) (fc_call (ok_l_of T) hr (by decide) (by rfl) tk (pa_cons (fv 0) (pa_cons (fe_lst (pa_cons pe_str (pa_cons pe_str (pa_cons pe_str (pa_cons pe_str (pa_cons pe_str (pa_cons pe_str pa_nil))))))) pa_nil)))) (pe_slice f_slS (fv 1) (po_some (fv 5)) po_none)))) pss_nil)
      (pss_cons (ps_if (ft_cmp f_eq (fv 3) pe_int (nomark _)) (pss_one (ps_ret (fe_sm1 PySem.F.slot_str_join PySem.F.type_str_join f_join pe_str (pe_op f_cat (pe_slice f_slL (fv 2) po_none (po_some (fv 4))) (pe_slice f_slL (fv 2) (po_some (pe_op f_add (fv 4) pe_int)) po_none))))) pss_nil)
      (pss_cons (ps_if (ft_cmp f_eq (fv 3) pe_int (nomark _)) (pss_one (ps_ret (fe_sm1 PySem.F.slot_str_join PySem.F.type_str_join f_join pe_str (pe_op f_cat (pe_op f_cat (pe_slice f_slL (fv 2) po_none (po_some (fv 4))) (pe_slice f_slL (fv 2) (po_some (fv 4)) (po_some (pe_op f_add (fv 4) pe_int)))) (pe_slice f_slL (fv 2) (po_some (fv 4)) po_none))))) pss_nil)
      (pss_cons (ps_if (ft_cmp f_eq (fv 3) pe_int (nomark _)) (pss_cons (ps_set (i := 6) sc_l_bent.nd rfl (Or.inl rfl) (fe_lst (pa_cons pe_str (pa_cons pe_str (pa_cons pe_str (pa_cons pe_str (pa_cons pe_str (pa_cons pe_str (pa_cons pe_str (pa_cons pe_str (pa_cons pe_str (pa_cons pe_str (pa_cons pe_str (pa_cons pe_str pa_nil))))))))))))))
      (pss_cons (ps_asg (fc_call (ok_l_of T) hr (by decide) (by rfl) tk (pa_cons (fv 0) (pa_cons (fv 6) pa_nil))) (pg_sub (fv 2) (fv 4) g_setL))
      (pss_one (ps_ret (fe_sm1 PySem.F.slot_str_join PySem.F.type_str_join f_join pe_str (fv 2)))))) pss_nil)
      (pss_one (ps_ret (fc_call (ok_l_of T) hr (by decide) (by rfl) tk (pa_cons (fv 0) (pa_cons (fe_lst (pa_cons (pe_op f_add (fv 1) pe_str) (pa_cons (pe_op f_add pe_str (fv 1)) (pa_cons (pe_op f_add (fv 1) pe_str) (pa_cons (fe_sm0 PySem.F.slot_str_upper PySem.F.type_str_upper mt_upper (fv 1)) (pa_cons (pe_op f_add pe_str (fv 1)) pa_nil)))))) pa_nil)))))))))))), ?_⟩
    clear hr tk po h
    have zl : z.length ≤ sizeLine := sz_le (by omega)
    have zl2 : z.length + 2 ≤ sizeLine := sz_le (by omega)
    have m1 : Small ((z.length : Nat) : Int) := ⟨by omega, by omega⟩
    have m4 : Small 4 := ⟨by decide, by decide⟩
    have m6 : Small 6 := ⟨by decide, by decide⟩
    have wz := wgt_split z
    have nd2 : ∀ i j : Int, HO.lst ((Txt.split z " ").map V.str) ≠ .lst [.int i, .int j] := fun i j e => by
      injection e with e
      have e := congrArg List.length e
      rw [List.length_map] at e
      have e : (Txt.split z " ").length = 2 := e
      omega
    walk_at "sx"
    intro d H1 nd s1 hd1
    have p1 := Pot.same s1 h0
    walk_at "sx"
    intro way H2 w0 w1 b2 p2
    have hd2 := But.pot b2 p1 hd1 nd2
    walk_at "sx"
    intro r H3 r0 r1 b3 p3
    obtain ⟨k, rfl⟩ : ∃ k : Nat, r = (k : Nat) := ⟨r.toNat, by omega⟩
    have hd3 := But.pot b3 p2 hd2 nd2
    walk_at "sx"
    intro r H4 j0 j1 b4 p4
    obtain ⟨j, rfl⟩ : ∃ k : Nat, r = (k : Nat) := ⟨r.toNat, by omega⟩
    have hd4 := But.pot b4 p3 hd3 nd2
    have bn : But p H H4 := ((But.of s1).trans b2).trans (b3.trans b4)
    have le := cut_lo_len (z := z) (k := j) (by omega)
    have l1 := cut_hi_len (z := z) (k := j)
    have l2 := cut_hi_len (z := z) (k := j + 1)
    have ek : (((j + 1 : Nat)) : Int) = ((j : Nat) : Int) + 1 := by omega
    rw [ek] at l2
    walk_at "sx"
    refine iteD (fun c => ?_) (fun c => ?_)
    · walk_at "sx"
      refine q _ H4 ?_ bn p4
      rw [add_len, le, l2]
      omega
    walk_at "sx"
    refine iteD (fun c => ?_) (fun c => ?_)
    · walk_at "sx"
      intro t H5 nt s5 h5
      have p5 := Pot.same s5 p4
      walk_at "sx"
      intro v H6 hv b6 p6
      obtain ⟨c, rfl, cl⟩ : ∃ c : Str, v = .str c ∧ c.length = 1 := by
        simp only [List.mem_cons, List.not_mem_nil, or_false] at hv
        rcases hv with rfl | rfl | rfl | rfl | rfl | rfl <;> exact ⟨_, rfl, rfl⟩
      have la := add_len (cutS z none (some ((j : Nat) : Int))) c
      walk_at "sx"
      refine q _ H6 ?_ ((bn.trans (But.of s5)).trans b6) p6
      rw [add_len, add_len, le, l1, cl]
      omega
    walk_at "sx"
    refine iteD (fun c => ?_) (fun c => ?_)
    · walk_at "sx"
      intro a1 H5 n5 s5 h5
      obtain ⟨u1, e1, t1⟩ := cut_words (Txt.split z " ") none (some ((k : Nat) : Int))
      rw [e1] at h5
      have hd5 := s5 _ _ hd4
      walk_at "sx"
      intro a2 H6 n6 s6 h6
      obtain ⟨u2, e2, t2⟩ := cut_words (Txt.split z " ") (some (((k : Nat) : Int) + 1)) none
      rw [e2] at h6
      have h56 := s6 _ _ h5
      have g1 := wgt_sub t1
      have g2 := wgt_sub t2
      have gl1 : u1.length ≤ wgt u1 := by unfold wgt; omega
      have gl2 : u2.length ≤ wgt u2 := by unfold wgt; omega
      have lz : (u1.map V.str).length + (u2.map V.str).length ≤ sizeLine := sz_le (by rw [List.length_map, List.length_map]; omega)
      walk_at "sx"
      intro a3 H7 n7 s7 h7
      rw [← List.map_append] at h7
      have gz : wgt (u1 ++ u2) ≤ 2000 := by rw [wgt_app]; omega
      have gs := wgt_sum gz
      walk_at "sx"
      refine q _ H7 ?_ (bn.trans (But.of ((s5.trans s6).trans s7))) (Pot.same s7 (Pot.same s6 (Pot.same s5 p4)))
      have := join_wgt (u1 ++ u2)
      rw [wgt_app] at this
      omega
    walk_at "sx"
    refine iteD (fun c => ?_) (fun c => ?_)
    · walk_at "sx"
      intro a1 H5 n5 s5 h5
      obtain ⟨u1, e1, t1⟩ := cut_words (Txt.split z " ") none (some ((k : Nat) : Int))
      rw [e1] at h5
      have hd5 := s5 _ _ hd4
      walk_at "sx"
      intro a2 H6 n6 s6 h6
      obtain ⟨u2, e2, t2⟩ := cut_words (Txt.split z " ") (some ((k : Nat) : Int)) (some (((k : Nat) : Int) + 1))
      rw [e2] at h6
      have h56 := s6 _ _ h5
      have hd6 := s6 _ _ hd5
      have g1 := wgt_sub t1
      have g2 := wgt_sub t2
      have gl1 : u1.length ≤ wgt u1 := by unfold wgt; omega
      have gl2 : u2.length ≤ wgt u2 := by unfold wgt; omega
      have lz : (u1.map V.str).length + (u2.map V.str).length ≤ sizeLine := sz_le (by rw [List.length_map, List.length_map]; omega)
      walk_at "sx"
      intro a3 H7 n7 s7 h7
      rw [← List.map_append] at h7
      have hd7 := s7 _ _ hd6
      walk_at "sx"
      intro a4 H8 n8 s8 h8
      obtain ⟨u3, e3, t3⟩ := cut_words (Txt.split z " ") (some ((k : Nat) : Int)) none
      rw [e3] at h8
      have h78 := s8 _ _ h7
      have g3 := wgt_sub t3
      have gl3 : u3.length ≤ wgt u3 := by unfold wgt; omega
      have lz2 : ((u1 ++ u2).map V.str).length + (u3.map V.str).length ≤ sizeLine := sz_le (by rw [List.length_map, List.length_map, List.length_append]; omega)
      walk_at "sx"
      intro a5 H9 n9 s9 h9
      rw [← List.map_append] at h9
      have gz : wgt (u1 ++ u2 ++ u3) ≤ 2000 := by rw [wgt_app, wgt_app]; omega
      have gs := wgt_sum gz
      walk_at "sx"
      refine q _ H9 ?_ (bn.trans (But.of ((((s5.trans s6).trans s7).trans s8).trans s9))) (Pot.same ((((s5.trans s6).trans s7).trans s8).trans s9) p4)
      have := join_wgt (u1 ++ u2 ++ u3)
      rw [wgt_app, wgt_app] at this
      omega
    walk_at "sx"
    refine iteD (fun c => ?_) (fun c => ?_)
    · walk_at "sx"
      intro t H5 nt s5 h5
      have p5 := Pot.same s5 p4
      have hd5 := s5 _ _ hd4
      walk_at "sx"
      intro v H6 hv b6 p6
      obtain ⟨c, rfl, cl⟩ : ∃ c : Str, v = .str c ∧ c.length ≤ 14 := by
        simp only [List.mem_cons, List.not_mem_nil, or_false] at hv
        rcases hv with rfl | rfl | rfl | rfl | rfl | rfl | rfl | rfl | rfl | rfl | rfl | rfl <;> exact ⟨_, rfl, by decide⟩
      have hd6 := But.pot b6 p5 hd5 nd2
      have ix : ixN ((Txt.split z " ").map V.str).length ((k : Nat) : Int) = some k := by
        rw [List.length_map]
        exact ixN_nat (by omega)
      walk_at "sx"
      intro H7 b7 h7
      rw [← List.map_set] at h7
      have g := wgt_set (Txt.split z " ") k c
      have gz : wgt ((Txt.split z " ").set k c) ≤ 2000 := by omega
      have gs := wgt_sum gz
      walk_at "sx"
      refine q _ H7 ?_ (fun b o nb e => b7 b o (fun z => by rw [z, nd] at e; cases e) (((bn.trans (But.of s5)).trans b6) b o nb e)) ?_
      · have := join_wgt ((Txt.split z " ").set k c)
        omega
      · obtain ⟨i1, i2, e⟩ := p6
        obtain ⟨i3, i4, e0⟩ := h0
        exact ⟨i1, i2, b7 _ _ (ne_of_none e0 nd) e⟩
    · have u := PyProof.Rows.len_upper z
      have l24 : z.length ≤ 5592405 := by omega
      have e1 : (" " : Str).length = 1 := rfl
      have e2 : ("\n" : Str).length = 1 := rfl
      have e3 : ("field " : Str).length = 6 := rfl
      have a1 : z.length + (" " : Str).length ≤ sizeLine := sz_le (by omega)
      have a2 : (" " : Str).length + z.length ≤ sizeLine := sz_le (by omega)
      have a3 : z.length + ("\n" : Str).length ≤ sizeLine := sz_le (by omega)
      have a4 : ("field " : Str).length + z.length ≤ sizeLine := sz_le (by omega)
      walk_at "sx"
      intro t H5 nt s5 h5
      have p5 := Pot.same s5 p4
      walk_at "sx"
      refine And.intro (Nat.zero_lt_succ _) (And.intro (show 5 < 1000 by decide) ?_)
      intro v H6 hv b6 p6
      have hv : ∃ y : Str, v = .str y ∧ y.length ≤ 1000 := by
        simp only [List.mem_cons, List.not_mem_nil, or_false] at hv
        rcases hv with rfl | rfl | rfl | rfl | rfl
        · exact ⟨_, rfl, by rw [add_len]; omega⟩
        · exact ⟨_, rfl, by rw [add_len]; omega⟩
        · exact ⟨_, rfl, by rw [add_len]; omega⟩
        · exact ⟨_, rfl, by omega⟩
        · exact ⟨_, rfl, by rw [add_len]; omega⟩
      obtain ⟨y, rfl, hy⟩ := hv
      walk_at "sx"
      exact q _ H6 hy ((bn.trans (But.of s5)).trans b6) p6
end

end Fg
set_option Elab.async false
set_option linter.all false
set_option maxRecDepth 100000
set_option maxHeartbeats 4000000
namespace Fg
open PySem PySem.Spec PyProof.Rows L2
local macro_rules | `(tactic| walk_at "hp") => `(tactic| first | assumption | (refine Same.get (by assumption) ?_; walk_at "hp"))
local macro_rules | `(tactic| walk_at "sq") => `(tactic| first | assumption | (exact Or.inr (by assumption)) | (exact Or.inl (by assumption)) | (exact Or.inl (SqL.of (by walk_at "hp"))) | (exact Or.inr (SqT.of (by walk_at "hp"))) | (exact SqL.of (by walk_at "hp")) | (exact SqT.of (by walk_at "hp")))
local macro_rules | `(tactic| walk_at "cl") => `(tactic| first | ((first | show (_ : Int) < _ | show (_ : Int) ≤ _); first | omega | decide) | ((first | show (_ : Nat) < _ | show (_ : Nat) ≤ _); first | with_reducible assumption | (refine sz_le ?_; first | decide | omega | (simp <;> omega)) | (refine sz_lt ?_; first | decide | omega | (simp <;> omega)) | omega | decide | ((with_reducible show List.length _ < _); exact Nat.le_of_ble_eq_true rfl)) | rfl | walk_at "hp" | walk_at "sq" | (refine And.intro (by walk_at "cl") (by walk_at "cl")) | (exact Exists.intro _ (by walk_at "hp")) | (exact Exists.intro _ (Exists.intro _ (by walk_at "hp"))) | (exact Exists.intro _ (Exists.intro _ (And.intro (by walk_at "hp") rfl))) | decide | (exact Or.inl (by walk_at "cl")) | (exact Or.inr (by walk_at "cl")) | omega)
local macro_rules | `(tactic| walk_at "s1") => `(tactic| first | refine And.intro (by walk_at "cl") ?_ | apply Exists.intro)
local macro_rules | `(tactic| walk_at "sx") => `(tactic| repeat walk_at "s1")
local macro_rules | `(tactic| walk_at "si") => `(tactic| first | refine iteY rfl ?_ | refine iteN rfl ?_)
local macro_rules | `(tactic| walk_at "sy") => `(tactic| repeat first | walk_at "s1" | walk_at "si")
theorem meetI {A : Prop} {G : Int → Hp → Prop} (Pc : Int → Hp → Prop) (h1 : (∀ a H, Pc a H → G a H) → A) (h2 : ∀ a H, Pc a H → G a H) : A := h1 h2
section
variable {P : Program} {w : World} {K : PySem.W.Frag} {mg : Str → Option Value} {base : Heap} {A : Ad}
def sp_l_shape : Sp := s1 fun a H Q _ => ∃ p, a = .ref p ∧ Pot p H ∧ ∀ d F H', Fm.Ok F → But p H H' → Pot p H' → H d = none → H' d = some (.dK F.kvs) → Q (.ref d) H'
/-- what a step with the pot leaves, beside a dict at d -/
structure Lft (p d : Addr) (H0 : Hp) (kvs : List (Key × V)) (H : Hp) : Prop where
  pot : Pot p H
  but : But p H0 H
  nd : H0 d = none
  dct : H d = some (.dK kvs)
theorem Lft.go {p d : Addr} {H0 H H' : Hp} {kvs : List (Key × V)} (l : Lft p d H0 kvs H) (b : But p H H') (q : Pot p H') : Lft p d H0 kvs H' := ⟨q, l.but.trans b, l.nd, But.pot b l.pot l.dct fun _ _ e => by cases e⟩
theorem Lft.new {p d : Addr} {H0 H H' : Hp} {kvs : List (Key × V)} (l : Lft p d H0 kvs H) (s : Same H H') : Lft p d H0 kvs H' := ⟨l.pot.same s, l.but.trans (But.of s), l.nd, s _ _ l.dct⟩
theorem Lft.put {p d : Addr} {H0 H H' : Hp} {kvs k2 : List (Key × V)} (l : Lft p d H0 kvs H) (b : But d H H') (e : H' d = some (.dK k2)) : Lft p d H0 k2 H' := by
  obtain ⟨i, j, hp⟩ := l.pot
  have n : p ≠ d := ne_of hp l.dct (fun z => by cases z)
  refine ⟨⟨i, j, b _ _ n hp⟩, fun c o h1 h2 => b c o ?_ (l.but c o h1 h2), l.nd, e⟩
  exact ne_of_none h2 l.nd
theorem ok_l_shape (T : Txt w K mg A) : Callee P w K mg base 4 "_law_shape" ["_law_pot_here"] sp_l_shape := by
  refine callee_of T.F_l_shape sc_l_shape (fun _ _ _ _ _ _ us hl => match us, hl with | [_], _ => rfl) (fun vs H Q E h => ?_) (fun f cdv Ar outer s H vs Q E hr tk po h => ?_)
  · obtain ⟨_, rfl, _⟩ := s1_len h
    rfl
  · obtain ⟨a, rfl, p, rfl, h0, q⟩ := s1_len h
    refine ⟨_, (pss_cons (ps_set (i := 1) sc_l_shape.nd rfl (Or.inl rfl) (fc_call (ok_l_spoon T) hr (by decide) (by rfl) tk (pa_cons (fv 0) (pa_cons pe_int pa_nil))))
      (pss_cons (ps_set (i := 2) sc_l_shape.nd rfl (Or.inl rfl) (fe_disp (fps_cons pe_str (pe_ifExp (ft_cmp f_eq (fv 1) pe_int (nomark _)) (pe_op f_add pe_int (fc_call (ok_l_spoon T) hr (by decide) (by rfl) tk (pa_cons (fv 0) (pa_cons pe_int pa_nil)))) (fc_call (ok_l_of T) hr (by decide) (by rfl) tk (pa_cons (fv 0) (pa_cons (fe_lst (pa_cons pe_int (pa_cons pe_int (pa_cons pe_int (pa_cons pe_int (pa_cons pe_int (pa_cons pe_int pa_nil))))))) pa_nil)))) fps_nil) rfl rfl (by decide) (by decide)))
      (pss_cons (fs_dput (hu_of hr) (fv 2) pe_str (fc_call (ok_l_of T) hr (by decide) (by rfl) tk (pa_cons (fv 0) (pa_cons (fe_lst (pa_cons pe_str (pa_cons pe_str (pa_cons pe_str (pa_cons pe_str pa_nil))))) pa_nil))))
      (pss_cons (fs_dput (hu_of hr) (fv 2) pe_str (pe_ifExp (ft_cmp f_eq (fv 1) pe_int (nomark _)) (pe_op f_add pe_int (fc_call (ok_l_spoon T) hr (by decide) (by rfl) tk (pa_cons (fv 0) (pa_cons pe_int pa_nil)))) (fc_call (ok_l_of T) hr (by decide) (by rfl) tk (pa_cons (fv 0) (pa_cons (fe_lst (pa_cons pe_int (pa_cons pe_int (pa_cons pe_int (pa_cons pe_int pa_nil))))) pa_nil)))))
      (pss_cons (ps_asg (fe_tup (pa_cons (fc_call (ok_l_of T) hr (by decide) (by rfl) tk (pa_cons (fv 0) (pa_cons (fe_lst (pa_cons pe_int (pa_cons pe_int (pa_cons pe_int (pa_cons pe_int (pa_cons pe_int (pa_cons pe_int pa_nil))))))) pa_nil))) (pa_cons (fc_call (ok_l_sign T) hr (by decide) (by rfl) tk (pa_cons (fv 0) pa_nil)) pa_nil))) (pg_tup rfl (pgs_cons (pg_sub (fv 2) pe_str (g_setD (hu_of hr))) (pgs_cons (pg_sub (fv 2) pe_str (g_setD (hu_of hr))) pgs_nil))))
      (pss_cons (fs_dput (hu_of hr) (fv 2) pe_str (pe_ifExp (ft_cmp f_eq (fv 1) pe_int (nomark _)) (fc_call (ok_l_spoon T) hr (by decide) (by rfl) tk (pa_cons (fv 0) (pa_cons pe_int pa_nil))) (fc_call (ok_l_of T) hr (by decide) (by rfl) tk (pa_cons (fv 0) (pa_cons (fe_lst (pa_cons pe_int (pa_cons pe_int (pa_cons pe_int (pa_cons pe_int (pa_cons pe_int (pa_cons pe_int pa_nil))))))) pa_nil)))))
      (pss_cons (ps_asg (fe_tup (pa_cons (fc_call (ok_l_sign T) hr (by decide) (by rfl) tk (pa_cons (fv 0) pa_nil)) (pa_cons (fc_call (ok_l_of T) hr (by decide) (by rfl) tk (pa_cons (fv 0) (pa_cons (fe_lst (pa_cons pe_str (pa_cons pe_str (pa_cons pe_str (pa_cons pe_str pa_nil))))) pa_nil))) pa_nil))) (pg_tup rfl (pgs_cons (pg_sub (fv 2) pe_str (g_setD (hu_of hr))) (pgs_cons (pg_sub (fv 2) pe_str (g_setD (hu_of hr))) pgs_nil))))
      (pss_one (ps_ret (fv 2)))))))))), ?_⟩
    have m3 : Small 3 := ⟨by decide, by decide⟩
    have m15 : Small 15 := ⟨by decide, by decide⟩
    have m12 : Small 12 := ⟨by decide, by decide⟩
    have m13 : Small 13 := ⟨by decide, by decide⟩
    walk_at "sx"
    intro far H1 r0 r1 b1 p1
    walk_at "sx"
    intro d H2 nd s2 h2
    have l2 : Lft p d H [] H2 := ⟨p1.same s2, b1.trans (But.of s2), b1.none_of p1 h0 nd, h2⟩
    apply meetI (fun n H3 => ∃ m : Nat, n = m ∧ 2 ≤ m ∧ m ≤ 16 ∧ Lft p d H [] H3)
    · intro key
      walk_at "sx"
      refine iteD (fun c => ?_) (fun c => ?_)
      rotate_left 1
      · walk_at "sx"
        intro t H3 nt s3 h3
        have p3 := (l2.new s3).pot
        walk_at "sx"
        intro v H4 mv b4 p4
        have l4 := (l2.new s3).go b4 p4
        obtain ⟨m, rfl, m1, m2⟩ : ∃ m : Int, v = .int m ∧ 2 ≤ m ∧ m ≤ 16 := by
          simp only [List.mem_cons, List.not_mem_nil, or_false] at mv
          rcases mv with rfl | rfl | rfl | rfl | rfl | rfl <;> exact ⟨_, rfl, by decide, by decide⟩
        exact key m H4 ⟨m.toNat, by omega, by omega, by omega, l4⟩
      · have p2 := l2.pot
        walk_at "sx"
        intro r H3 r0 r1 b3 p3
        exact key (2 + r) H3 ⟨(2 + r).toNat, by omega, by omega, by omega, l2.go b3 p3⟩
    · rintro n H3 ⟨base, rfl, b2, b16, l3⟩
      have h3 := l3.dct
      walk_at "sx"
      intro H4 b4 h4
      have l4 : Lft p d H [(Sum.inr "base", .int base)] H4 := l3.put b4 h4
      walk_at "sx"
      intro t5 H5 n5 s5 h5
      have l5 := l4.new s5
      have p5 := l5.pot
      walk_at "sx"
      intro v6 H6 m6 b6 p6
      obtain ⟨si, rfl, si2⟩ : ∃ z : Str, v6 = .str z ∧ (z = "minus" ∨ z = "plus" ∨ z = "blank") := by
        simp only [List.mem_cons, List.not_mem_nil, or_false] at m6
        rcases m6 with rfl | rfl | rfl | rfl
        · exact ⟨_, rfl, .inl rfl⟩
        · exact ⟨_, rfl, .inl rfl⟩
        · exact ⟨_, rfl, .inr (.inl rfl)⟩
        · exact ⟨_, rfl, .inr (.inr rfl)⟩
      have l6 := l5.go b6 p6
      have d6 := l6.dct
      walk_at "sx"
      intro H7 b7 h7
      have l7 : Lft p d H [(Sum.inr "base", .int base), (Sum.inr "sign", .str si)] H7 := l6.put b7 h7
      apply meetI (fun n H8 => ∃ m : Nat, n = m ∧ 1 ≤ m ∧ m ≤ 12 ∧ Lft p d H [(Sum.inr "base", .int base), (Sum.inr "sign", .str si)] H8)
      · intro key
        walk_at "sx"
        refine iteD (fun c => ?_) (fun c => ?_)
        rotate_left 1
        · walk_at "sx"
          intro t H8 nt s8 h8
          have p8 := (l7.new s8).pot
          walk_at "sx"
          intro v H9 mv b9 p9
          have l9 := (l7.new s8).go b9 p9
          obtain ⟨m, rfl, m1, m2⟩ : ∃ m : Int, v = .int m ∧ 1 ≤ m ∧ m ≤ 12 := by
            simp only [List.mem_cons, List.not_mem_nil, or_false] at mv
            rcases mv with rfl | rfl | rfl | rfl <;> exact ⟨_, rfl, by decide, by decide⟩
          exact key m H9 ⟨m.toNat, by omega, by omega, by omega, l9⟩
        · have p7 := l7.pot
          walk_at "sx"
          intro r H8 r0 r1 b8 p8
          exact key (1 + r) H8 ⟨(1 + r).toNat, by omega, by omega, by omega, l7.go b8 p8⟩
      · rintro n H8 ⟨least, rfl, lb1, lb2, l8⟩
        have d8 := l8.dct
        walk_at "sx"
        intro H9 b9 h9
        have l9 : Lft p d H [(Sum.inr "base", .int base), (Sum.inr "sign", .str si), (Sum.inr "least", .int least)] H9 := l8.put b9 h9
        walk_at "sx"
        intro t10 H10 n10 s10 h10
        have l10 := l9.new s10
        have p10 := l10.pot
        walk_at "sx"
        intro v11 H11 m11 b11 p11
        obtain ⟨group, rfl, g4⟩ : ∃ m : Nat, v11 = .int (m : Nat) ∧ m ≤ 4 := by
          simp only [List.mem_cons, List.not_mem_nil, or_false] at m11
          rcases m11 with rfl | rfl | rfl | rfl | rfl | rfl
          · exact ⟨0, rfl, by decide⟩
          · exact ⟨0, rfl, by decide⟩
          · exact ⟨1, rfl, by decide⟩
          · exact ⟨2, rfl, by decide⟩
          · exact ⟨3, rfl, by decide⟩
          · exact ⟨4, rfl, by decide⟩
        have l11 := l10.go b11 p11
        walk_at "sx"
        intro mark H12 mm b12 p12
        have l12 := l11.go b12 p12
        walk_at "sx"
        intro t13 H13 n13 s13 h13
        have l13 := l12.new s13
        have d13 := l13.dct
        walk_at "sx"
        intro H14 b14 h14
        have l14 : Lft p d H [(Sum.inr "base", .int base), (Sum.inr "sign", .str si), (Sum.inr "least", .int least), (Sum.inr "group", .int group)] H14 := l13.put b14 h14
        have d14 := l14.dct
        walk_at "sx"
        intro H15 b15 h15
        have l15 : Lft p d H [(Sum.inr "base", .int base), (Sum.inr "sign", .str si), (Sum.inr "least", .int least), (Sum.inr "group", .int group), (Sum.inr "mark", .str (chS mark))] H15 := l14.put b15 h15
        apply meetI (fun n H8 => ∃ m : Nat, n = m ∧ m ≤ 12 ∧ Lft p d H [(Sum.inr "base", .int base), (Sum.inr "sign", .str si), (Sum.inr "least", .int least), (Sum.inr "group", .int group), (Sum.inr "mark", .str (chS mark))] H8)
        · intro key
          walk_at "sx"
          refine iteD (fun c => ?_) (fun c => ?_)
          rotate_left 1
          · walk_at "sx"
            intro t H8 nt s8 h8
            have p8 := (l15.new s8).pot
            walk_at "sx"
            intro v H9 mv b9 p9
            have l9 := (l15.new s8).go b9 p9
            obtain ⟨m, rfl, m1, m2⟩ : ∃ m : Int, v = .int m ∧ 0 ≤ m ∧ m ≤ 12 := by
              simp only [List.mem_cons, List.not_mem_nil, or_false] at mv
              rcases mv with rfl | rfl | rfl | rfl | rfl | rfl <;> exact ⟨_, rfl, by decide, by decide⟩
            exact key m H9 ⟨m.toNat, by omega, by omega, l9⟩
          · have p7 := l15.pot
            walk_at "sx"
            intro r H8 r0 r1 b8 p8
            exact key r H8 ⟨r.toNat, by omega, by omega, l15.go b8 p8⟩
        · rintro n H16 ⟨width, rfl, w12, l16⟩
          have d16 := l16.dct
          walk_at "sx"
          intro H17 b17 h17
          have l17 : Lft p d H [(Sum.inr "base", .int base), (Sum.inr "sign", .str si), (Sum.inr "least", .int least), (Sum.inr "group", .int group), (Sum.inr "mark", .str (chS mark)), (Sum.inr "width", .int width)] H17 := l16.put b17 h17
          have p17 := l17.pot
          walk_at "sx"
          intro fill H18 mf b18 p18
          have l18 := l17.go b18 p18
          walk_at "sx"
          intro t19 H19 n19 s19 h19
          have l19 := l18.new s19
          have p19 := l19.pot
          walk_at "sx"
          intro v20 H20 m20 b20 p20
          obtain ⟨sd, rfl, sd2⟩ : ∃ z : Str, v20 = .str z ∧ (z = "left" ∨ z = "right" ∨ z = "both" ∨ z = "inner") := by
            simp only [List.mem_cons, List.not_mem_nil, or_false] at m20
            rcases m20 with rfl | rfl | rfl | rfl
            · exact ⟨_, rfl, .inl rfl⟩
            · exact ⟨_, rfl, .inr (.inl rfl)⟩
            · exact ⟨_, rfl, .inr (.inr (.inl rfl))⟩
            · exact ⟨_, rfl, .inr (.inr (.inr rfl))⟩
          have l20 := l19.go b20 p20
          walk_at "sx"
          intro t21 H21 n21 s21 h21
          have l21 := l20.new s21
          have d21 := l21.dct
          walk_at "sx"
          intro H22 b22 h22
          have l22 : Lft p d H [(Sum.inr "base", .int base), (Sum.inr "sign", .str si), (Sum.inr "least", .int least), (Sum.inr "group", .int group), (Sum.inr "mark", .str (chS mark)), (Sum.inr "width", .int width), (Sum.inr "fill", .str (chS fill))] H22 := l21.put b22 h22
          have d22 := l22.dct
          walk_at "sx"
          intro H23 b23 h23
          have l23 : Lft p d H [(Sum.inr "base", .int base), (Sum.inr "sign", .str si), (Sum.inr "least", .int least), (Sum.inr "group", .int group), (Sum.inr "mark", .str (chS mark)), (Sum.inr "width", .int width), (Sum.inr "fill", .str (chS fill)), (Sum.inr "side", .str sd)] H23 := l22.put b23 h23
          have e23 : H23 d = some (.dK (Fm.kvs ⟨base, si, least, group, mark, width, fill, sd⟩)) := l23.dct
          have q' := q d ⟨base, si, least, group, mark, width, fill, sd⟩ H23 ⟨b2, b16, si2, lb1, lb2, g4, mm, w12, mf, sd2⟩ l23.but l23.pot l23.nd e23
          walk_at "sx"
          exact q'
end

end Fg
set_option Elab.async false
set_option linter.all false
set_option maxRecDepth 100000
set_option maxHeartbeats 4000000
namespace Fg
open PySem PySem.Spec PyProof.Rows L2
local macro_rules | `(tactic| walk_at "hp") => `(tactic| first | assumption | (refine Same.get (by assumption) ?_; walk_at "hp"))
local macro_rules | `(tactic| walk_at "sq") => `(tactic| first | assumption | (exact Or.inr (by assumption)) | (exact Or.inl (by assumption)) | (exact Or.inl (SqL.of (by walk_at "hp"))) | (exact Or.inr (SqT.of (by walk_at "hp"))) | (exact SqL.of (by walk_at "hp")) | (exact SqT.of (by walk_at "hp")))
local macro_rules | `(tactic| walk_at "cl") => `(tactic| first | ((first | show (_ : Int) < _ | show (_ : Int) ≤ _); first | omega | decide) | ((first | show (_ : Nat) < _ | show (_ : Nat) ≤ _); first | with_reducible assumption | (refine sz_le ?_; first | decide | omega | (simp <;> omega)) | (refine sz_lt ?_; first | decide | omega | (simp <;> omega)) | omega | decide | ((with_reducible show List.length _ < _); exact Nat.le_of_ble_eq_true rfl)) | rfl | walk_at "hp" | walk_at "sq" | (refine And.intro (by walk_at "cl") (by walk_at "cl")) | (exact Exists.intro _ (by walk_at "hp")) | (exact Exists.intro _ (Exists.intro _ (by walk_at "hp"))) | (exact Exists.intro _ (Exists.intro _ (And.intro (by walk_at "hp") rfl))) | decide | (exact Or.inl (by walk_at "cl")) | (exact Or.inr (by walk_at "cl")) | omega)
local macro_rules | `(tactic| walk_at "s1") => `(tactic| first | refine And.intro (by walk_at "cl") ?_ | apply Exists.intro)
local macro_rules | `(tactic| walk_at "sx") => `(tactic| repeat walk_at "s1")
local macro_rules | `(tactic| walk_at "si") => `(tactic| first | refine iteY rfl ?_ | refine iteN rfl ?_)
local macro_rules | `(tactic| walk_at "sy") => `(tactic| repeat first | walk_at "s1" | walk_at "si")
section
variable {P : Program} {w : World} {K : PySem.W.Frag} {mg : Str → Option Value} {base : Heap} {A : Ad}
def tabs_l_right (A : Ad) : List (Addr × Str) := [(A.tP_l_right, "_law_right.<locals>.<lambda>")]
/-- what stands while a turn goes on -/
structure Sh6 (A : Ad) (p pf : Addr) (D : Fd) (H0 H : Hp) : Prop where
  bn : ButN p H0 H
  pt : Pot p H
  tbs : LamX.Tabs (tabs_l_right A) H
  fd : IsFld A H pf D
section
variable {p pf : Addr} {D : Fd} {H0 H H' : Hp}
theorem IsFld.kept {p : Addr} (e : IsFld A H pf D) (k : ∀ b C dx fs, H b = some (.ins C dx fs) → H' b = some (.ins C dx fs)) : IsFld A H' pf D := by
  obtain ⟨dx, q, h, dy, f⟩ := e
  exact ⟨dx, q, k _ _ _ _ h, dy, k _ _ _ _ f⟩
theorem Sh6.same (e : Sh6 A p pf D H0 H) (s : Same H H') : Sh6 A p pf D H0 H' := ⟨e.bn.trans (ButN.same s), Pot.same s e.pt, Tabs.same s e.tbs, IsFld.same s e.fd⟩
theorem Sh6.but (e : Sh6 A p pf D H0 H) (b : But p H H') (pt : Pot p H') : Sh6 A p pf D H0 H' :=
  ⟨e.bn.trans (ButN.of b), pt, Tabs.but b e.pt e.tbs, e.fd.kept (p := p) fun c C dx fs h => But.pot b e.pt h fun _ _ z => by cases z⟩
theorem Sh6.ext (e : Sh6 A p pf D H0 H) (s : LamX.ExtN H H') (t : LamX.Tabs (tabs_l_right A) H') : Sh6 A p pf D H0 H' :=
  ⟨e.bn.trans (ButN.ext s), Pot.ext s e.pt, t, e.fd.kept (p := p) fun c C dx fs h => s _ _ h fun _ z => by cases z⟩
end
theorem text_len {D : Fd} (ok : D.Ok) : 0 < D.text.length ∧ D.text.length ≤ 300 := by
  have l1 := endS_len ok.lo
  have l2 := endS_len ok.hi
  have l3 := words_len ok.fm
  have nl := name_len ok.nm
  have e : D.text.length = (((((((Str.empty ++ D.name) ++ " ") ++ endS D.low) ++ " ") ++ endS D.high) ++ " ") ++ D.fmt.words : Str).length := by rw [text_glue]; rfl
  have sl : (" " : Str).length = 1 := rfl
  have el : Str.empty.length = 0 := rfl
  rw [e]
  simp only [Str.length_append]
  omega
theorem text_words {D : Fd} (ok : D.Ok) : 4 ≤ (Txt.split D.text " ").length := by
  have h1 := join_split1 D.text 32
  have h5 := StrLaws.split_free D.text 32
  have h3 := split_one D.text 32
  rw [← sp_str] at h1 h5 h3
  generalize Txt.split D.text " " = ps at h1 h5 h3
  have e : glueL 32 (ps.map fun w : Str => w.cps.toList) = D.text.cps.toList := by rw [← join_codes, ← sp_str, h1]
  have hr : D.text.cps.toList = D.name.cps.toList ++ 32 :: ((endS D.low).cps.toList ++ 32 :: ((endS D.high).cps.toList ++ 32 :: D.fmt.words.cps.toList)) := by
    have : D.text = Txt.join ⟨#[32]⟩ [D.name, endS D.low, endS D.high, D.fmt.words] := rfl
    rw [this, join_codes]
    rfl
  rw [hr] at e
  have ha := name_free ok.nm
  have hb := endS_free D.low
  have stop : ∀ {x y : List Nat} {s : List Nat}, 32 ∉ x → x = y ++ 32 :: s → False := fun {x y s} hx e => hx (by rw [e]; simp)
  match ps, h3, h5, e with
  | [p], _, h5, e => exact (stop (h5 p (by simp)) e).elim
  | [p, q], _, h5, e =>
    obtain ⟨_, e⟩ := app_free (h5 p (by simp)) ha (show p.cps.toList ++ 32 :: q.cps.toList = _ from e)
    exact (stop (h5 q (by simp)) e).elim
  | [p, q, s], _, h5, e =>
    obtain ⟨_, e⟩ := app_free (h5 p (by simp)) ha (show p.cps.toList ++ 32 :: (q.cps.toList ++ 32 :: s.cps.toList) = _ from e)
    obtain ⟨_, e⟩ := app_free (h5 q (by simp)) hb e
    exact (stop (h5 s (by simp)) e).elim
  | _ :: _ :: _ :: _ :: _, _, _, _ => simp
/-- something odd: no text of a field -/
structure OddT (K : PySem.W.Frag) (H : Hp) (v : V) : Prop where
  fl : flatV v = true ∨ ∃ a, v = .ref a
  ns : ∀ z, v = .str z → z.length ≤ 1
  an : AnyV K H v
theorem text_long {D : Fd} (ok : D.Ok) : 3 ≤ D.text.length := by
  have e : D.text.length = (((((((Str.empty ++ D.name) ++ " ") ++ endS D.low) ++ " ") ++ endS D.high) ++ " ") ++ D.fmt.words : Str).length := by rw [text_glue]; rfl
  have sl : (" " : Str).length = 1 := rfl
  rw [e]
  simp only [Str.length_append]
  omega
theorem text_inj {D E : Fd} (h : D.Ok) (g : E.Ok) (e : D.text = E.text) : D = E := by
  have c1 := text_cut h
  rw [e, text_cut g] at c1
  simp only [List.cons.injEq, and_true] at c1
  obtain ⟨e1, e2, e3, e4⟩ := c1
  have e5 : E.low = D.low := by rw [← end_read (o := E.low), e2, end_read]
  have e6 : E.high = D.high := by rw [← end_read (o := E.high), e3, end_read]
  have e7 := words_inj g.fm h.fm e4
  cases D
  cases E
  simp only at e1 e5 e6 e7
  subst e1 e5 e6 e7
  rfl
theorem lost_none (w : Str) {D : Fd} (ok : D.Ok) (e : ("a 5 4 " : Str) ++ w = D.text) : False := by
  have j : ("a 5 4 " : Str) ++ w = Txt.join " " [("a" : Str), "5", "4", w] := by
    refine str_eq ?_
    rw [sp_str, join_codes]
    simp only [str_app, Array.toList_append, List.map_cons, List.map_nil, glueL]
    rfl
  have c := text_cut ok
  rw [← e, j] at c
  have c2 : Txt.splitMax (Txt.join " " [("a" : Str), "5", "4", w]) " " 3 = [("a" : Str), "5", "4", w] := cut3_eq (by decide +kernel) (by decide +kernel) (by decide +kernel)
  rw [c2] at c
  simp only [List.cons.injEq, and_true] at c
  obtain ⟨_, e1, e2, _⟩ := c
  have l1 : D.low = some 5 := by rw [← end_read (o := D.low), ← e1]; decide +kernel
  have l2 : D.high = some 4 := by rw [← end_read (o := D.high), ← e2]; decide +kernel
  exact absurd (ok.le 5 4 l1 l2) (by decide)
theorem Tabs.butL {p : Addr} {H H' : Hp} {T : List (Addr × Str)} {xs : List V} (b : But p H H') (e : H p = some (.lst xs)) (t : LamX.Tabs T H) : LamX.Tabs T H' := fun q hq => by
  obtain ⟨ps, h1, h2, h3⟩ := t q hq
  have ne : ∀ {a : Addr} {o : HO}, H a = some o → o ≠ .lst xs → a ≠ p := fun {a o} ea no z => by
    rw [z, e] at ea
    exact no (Option.some.inj ea).symm
  refine ⟨ps, b _ _ (ne h1 fun z => by cases z) h1, h2, fun pos cv hc => ?_⟩
  obtain ⟨c, e1, e2⟩ := h3 pos cv hc
  exact ⟨c, e1, b _ _ (ne e2 fun z => by unfold LamX.CodeO at z; cases z) e2⟩
def sp_l_right (A : Ad) : Sp := s1 fun a H Q _ => ∃ p, a = .ref p ∧ Pot p H ∧ LamX.Tabs (tabs_l_right A) H ∧ ∀ H', ButN p H H' → LamX.Tabs (tabs_l_right A) H' → Q (.bl true) H'
theorem ok_l_right (T : Txt w K mg A) (TB : LamX.TabB base mg A.cC_l_right A.tP_l_right) : Callee P w K mg base 14 "_law_right" ["_law_pot_here"] (sp_l_right A) := by
  refine calleeC_of T.k_l_right sc_l_right (fun _ _ _ _ _ _ us hl => match us, hl with | [_], _ => rfl) (fun vs H Q E h => ?_) (fun f Ar outer s H vs Q E hr tk po h => ?_)
  · obtain ⟨_, rfl, _⟩ := s1_len h
    rfl
  · obtain ⟨a, rfl, p, rfl, h0, t0, q⟩ := s1_len h
    refine ⟨_, (pss_cons (fs_for po rfl (fi_R1 (by rfl) T.b_range (pa_cons pe_int pa_nil)) (pg_name (i := 1) sc_l_right.nd rfl (Or.inl rfl)) (pss_cons (ps_set (i := 2) sc_l_right.nd rfl (Or.inl rfl) (fc_call (ok_l_of T) hr (by decide) (by rfl) tk (pa_cons (fv 0) (pa_cons (fe_lst (pa_cons pe_non (pa_cons pe_int (pa_cons (pe_un un_neg pe_int) (pa_cons (pe_un un_neg (pe_op f_pow pe_int pe_int)) (pa_cons (fc_call (ok_l_spoon T) hr (by decide) (by rfl) tk (pa_cons (fv 0) (pa_cons (pe_op f_pow pe_int pe_int) pa_nil))) pa_nil)))))) pa_nil))))
      (pss_cons (ps_set (i := 3) sc_l_right.nd rfl (Or.inl rfl) (fc_call (ok_l_of T) hr (by decide) (by rfl) tk (pa_cons (fv 0) (pa_cons (fe_lst (pa_cons pe_non (pa_cons (pe_op f_pow pe_int pe_int) (pa_cons (pe_op f_add (pe_op f_pow pe_int pe_int) (fc_call (ok_l_spoon T) hr (by decide) (by rfl) tk (pa_cons (fv 0) (pa_cons (pe_op f_pow pe_int pe_int) pa_nil)))) pa_nil)))) pa_nil))))
      (pss_cons (ps_set (i := 4) sc_l_right.nd rfl (Or.inl rfl) (fc_call (ok_l_of T) hr (by decide) (by rfl) tk (pa_cons (fv 0) (pa_cons (fe_lst (pa_cons pe_str (pa_cons pe_str (pa_cons pe_str (pa_cons pe_str pa_nil))))) pa_nil))))
      (pss_cons (ps_set (i := 5) sc_l_right.nd rfl (Or.inl rfl) (fc_new (nw_Field T) hr (by decide) (by rfl) tk (pa_cons (fv 4) (pa_cons (fc_call (ok_l_format T) hr (by decide) (by rfl) tk (pa_cons (fc_call (ok_l_shape T) hr (by decide) (by rfl) tk (pa_cons (fv 0) pa_nil)) pa_nil)) (pa_cons (fv 2) (pa_cons (fv 3) pa_nil))))))
      (pss_cons (ps_set (i := 6) sc_l_right.nd rfl (Or.inl rfl) (pe_callTy (f_strO (ok_Fielddd_strdd T) hr (by decide)) (by rfl) T.b_str (by decide +kernel) (pa_cons (fv 5) pa_nil)))
      (pss_cons (ps_if (PW.pt (pw_or (ft_cmp (f_neO (ok_Fielddd_eqdd T) T.ne_Field hr (by decide)) (fc_smeth (ok_Field_read T) hr (by decide) (by rfl) tk (pa_cons (fv 6) pa_nil) (fun _ _ _ _ _ _ us hl => match us, hl with | [_], _ => rfl)) (fv 5) (nomark _)) (pw_or1 (ft_cmp (f_neO (ok_Fielddd_eqdd T) T.ne_Field hr (by decide)) (fc_smethK (ks := ["text"]) (idx := [0]) (ok_Field_read T) hr (by decide) (by rfl) tk (pk_cons (fv 6) pk_nil) (fun _ _ _ _ _ _ ws l => match ws, l with | [_], _ => rfl)) (fv 5) (nomark _))))) (pss_one (ps_ret pe_bl)) pss_nil)
      (pss_one (fs_for po rfl (fi_R1 (by rfl) T.b_range (pa_cons pe_int pa_nil)) (pg_name (i := 7) sc_l_right.nd rfl (Or.inl rfl)) (pss_cons (ps_set (i := 8) sc_l_right.nd rfl (Or.inr rfl) (fc_call (ok_l_bent T) hr (by decide) (by rfl) tk (pa_cons (fv 0) (pa_cons (fv 6) pa_nil))))
      (pss_cons (ps_set (i := 9) sc_l_right.nd rfl (Or.inl rfl) (fe_lam (c := A.cC_l_right) (Pt := A.tP_l_right) (Tb := tabs_l_right A) (k := 10) T.F_l_ended sc_l_ended rfl (fun _ _ _ _ _ _ us hl => match us, hl with | [_], _ => rfl) (gives_l_ended T) TB rfl rfl hr (by decide) (by rfl) (LamX.lamS_by (by show LamX.lamSB (defScope s_l_right) _ = true; decide +kernel)) (Or.inl rfl) rfl (fun _ _ _ _ _ => rfl) (fun _ _ _ _ _ _ _ hrl tkl => (pe_callTy (f_strO (ok_Fielddd_strdd T) hrl (by decide)) (by rfl) T.b_str (by decide +kernel) (pa_cons (fc_smeth (ok_Field_read T) hrl (by decide) (by rfl) tkl (pa_cons (fv 8) pa_nil) (fun _ _ _ _ _ _ us hl => match us, hl with | [_], _ => rfl)) pa_nil)))))
      (pss_one (ps_if (ft_cmp (f_notInB hr.units) (fv 9) (fe_lst (pa_cons (fe_lst (pa_cons pe_str (pa_cons (fv 8) (pa_cons pe_bl pa_nil)))) (pa_cons (fe_lst (pa_cons pe_str (pa_cons (fv 8) pa_nil))) pa_nil))) (by rfl)) (pss_one (ps_ret pe_bl)) pss_nil)))))))))))))
      (pss_cons (ps_set (i := 10) sc_l_right.nd rfl (Or.inr rfl) (fc_call (ok_l_of T) hr (by decide) (by rfl) tk (pa_cons (fv 0) (pa_cons (fe_lst (pa_cons pe_non (pa_cons pe_int (pa_cons (fe_tup pa_nil) (pa_cons (fe_lst (pa_cons (fv 6) pa_nil)) (pa_cons pe_str (pa_cons pe_str (pa_cons (fv 5) (pa_cons pe_bl (pa_cons fe_d0 pa_nil)))))))))) pa_nil))))
      (pss_cons (ps_set (i := 11) sc_l_right.nd rfl (Or.inr rfl) (pe_op f_add pe_str (pe_callTy (f_strO (ok_Formatdd_strdd T) hr (by decide)) (by rfl) T.b_str (by decide +kernel) (pa_cons (fe_fld T.cl_Field T.n_Field_pattern (fv 5)) pa_nil))))
      (pss_cons (ps_set (i := 12) sc_l_right.nd rfl (Or.inl rfl) (fe_lst (pa_cons (fe_lam (c := A.cC_l_right) (Pt := A.tP_l_right) (Tb := tabs_l_right A) (k := 10) T.F_l_ended sc_l_ended rfl (fun _ _ _ _ _ _ us hl => match us, hl with | [_], _ => rfl) (gives_l_ended T) TB rfl rfl hr (by decide) (by rfl) (LamX.lamS_by (by show LamX.lamSB (defScope s_l_right) _ = true; decide +kernel)) (Or.inl rfl) rfl (fun _ _ _ _ _ => rfl) (fun _ _ _ _ _ _ _ hrl tkl => (fc_smeth (ok_Field_read T) hrl (by decide) (by rfl) tkl (pa_cons (fv 10) pa_nil) (fun _ _ _ _ _ _ us hl => match us, hl with | [_], _ => rfl)))) pa_nil)))
      (pss_cons (ps_expr (fe_append (fv 12) (fe_lam (c := A.cC_l_right) (Pt := A.tP_l_right) (Tb := tabs_l_right A) (k := 10) T.F_l_ended sc_l_ended rfl (fun _ _ _ _ _ _ us hl => match us, hl with | [_], _ => rfl) (gives_l_ended T) TB rfl rfl hr (by decide) (by rfl) (LamX.lamS_by (by show LamX.lamSB (defScope s_l_right) _ = true; decide +kernel)) (Or.inl rfl) rfl (fun _ _ _ _ _ => rfl) (fun _ _ _ _ _ _ _ hrl tkl => (fc_smeth (ok_Field_read T) hrl (by decide) (by rfl) tkl (pa_cons (fv 11) pa_nil) (fun _ _ _ _ _ _ us hl => match us, hl with | [_], _ => rfl))))))
      (pss_one (ps_ret (pe_cmpR (f_eqB hr.units) (fv 12) (fe_lst (pa_cons (fe_lst (pa_cons pe_str (pa_cons (fv 10) (pa_cons pe_bl pa_nil)))) (pa_cons (fe_lst (pa_cons pe_str (pa_cons (fv 11) (pa_cons pe_bl pa_nil)))) pa_nil))) (nomark _))))))))), ?_⟩
    clear hr tk po h
    have m9 : Small (1000000000 : Int) := ⟨by decide, by decide⟩
    refine seqCut (fun σ H' => ∃ pf D a1 a2 a3 a4 a7 a8 a9, Fd.Ok D ∧ σ = [some (.ref p), a1, a2, a3, a4, some (.ref pf), some (.str D.text), a7, a8, a9, none, none, none] ∧ Sh6 A p pf D H H') (fun N hN => ?_) ?_
    · walk_at "sx"
      refine And.intro trivial ?_
      refine Loop.byAny (fun rest σ Hc => ∃ a1 a2 a3 a4 a5 a6 a7 a8 a9, σ = [some (.ref p), a1, a2, a3, a4, a5, a6, a7, a8, a9, none, none, none] ∧ (ButN p H Hc ∧ Pot p Hc ∧ LamX.Tabs (tabs_l_right A) Hc) ∧ (rest.length = 3 ∨ ∃ pf D, Fd.Ok D ∧ a5 = some (.ref pf) ∧ a6 = some (.str D.text) ∧ Sh6 A p pf D H Hc)) ?_ ?_ _ _ _ ?_
      · rintro D0 x rr σ Hc ⟨a1, a2, a3, a4, a5, a6, a7, a8, a9, rfl, ⟨bn1, p1, t1⟩, _⟩ N hN
        have st1 : ButN p H Hc ∧ Pot p Hc ∧ LamX.Tabs (tabs_l_right A) Hc := ⟨bn1, p1, t1⟩
        clear bn1 p1 t1
        refine seqCut (fun σ H' => ∃ ol, σ = [some (.ref p), some x, some (optV ol), a3, a4, a5, a6, a7, a8, a9, none, none, none] ∧ endOk ol ∧ (∀ i, ol = some i → i < 1000000000) ∧ ButN p H H' ∧ Pot p H' ∧ LamX.Tabs (tabs_l_right A) H') (fun N1 hN1 => ?_) ?_
        · obtain ⟨bn1, p1, t1⟩ := st1
          clear hN
          walk_at "sx"
          intro r1 H1 r10 r11 b1 p2
          walk_at "sx"
          intro t2 H2 n2 s2 h2
          have p3 := Pot.same s2 p2
          walk_at "sx"
          refine And.intro (Nat.zero_lt_succ _) (And.intro (show 5 < 1000 by decide) ?_)
          intro lo H3 m3 b3 p4
          obtain ⟨ol, rfl, ol1, ol2⟩ : ∃ o : Option Int, lo = optV o ∧ endOk o ∧ ∀ i, o = some i → i < 1000000000 := by
            have r12 : r1 < 1000000000 := r11
            simp only [List.mem_cons, List.not_mem_nil, or_false] at m3
            rcases m3 with rfl | rfl | rfl | rfl | rfl
            · exact ⟨none, rfl, trivial, fun _ z => by cases z⟩
            · exact ⟨some 0, rfl, ⟨by decide, by decide⟩, fun i z => by cases z; decide⟩
            · exact ⟨some (-8), rfl, ⟨by decide, by decide⟩, fun i z => by cases z; decide⟩
            · exact ⟨some (-1000000000000), rfl, ⟨by decide, by decide⟩, fun i z => by cases z; decide⟩
            · exact ⟨some r1, rfl, ⟨by omega, by omega⟩, fun i z => by cases z; exact r12⟩
          exact hN1 _ _ ⟨ol, rfl, ol1, ol2, ((bn1.trans (ButN.of b1)).trans (ButN.same s2)).trans (ButN.of b3), p4, Tabs.but b3 p3 (Tabs.same s2 (Tabs.but b1 p1 t1))⟩
        clear st1
        rintro σ H3 ⟨ol, rfl, ol1, ol2, st3⟩
        refine seqCut (fun σ H' => ∃ oh, σ = [some (.ref p), some x, some (optV ol), some (optV oh), a4, a5, a6, a7, a8, a9, none, none, none] ∧ endOk oh ∧ (∀ i, oh = some i → 1000000000 ≤ i) ∧ ButN p H H' ∧ Pot p H' ∧ LamX.Tabs (tabs_l_right A) H') (fun N1 hN1 => ?_) ?_
        · obtain ⟨bn4, p4, t4⟩ := st3
          clear hN
          walk_at "sx"
          intro r5 H5 r50 r51 b5 p5
          walk_at "sx"
          intro t6 H6 n6 s6 h6
          have p6 := Pot.same s6 p5
          walk_at "sx"
          refine And.intro (Nat.zero_lt_succ _) (And.intro (show 3 < 1000 by decide) ?_)
          intro hi H7 m7 b7 p7
          obtain ⟨oh, rfl, oh1, oh2⟩ : ∃ o : Option Int, hi = optV o ∧ endOk o ∧ ∀ i, o = some i → 1000000000 ≤ i := by
            have e9 : (10 : Int) ^ Int.toNat 9 = 1000000000 := by decide
            rw [e9] at m7 r51
            simp only [List.mem_cons, List.not_mem_nil, or_false] at m7
            rcases m7 with rfl | rfl | rfl
            · exact ⟨none, rfl, trivial, fun _ z => by cases z⟩
            · exact ⟨some 1000000000000, rfl, ⟨by decide, by decide⟩, fun i z => by cases z; decide⟩
            · exact ⟨some (1000000000 + r5), rfl, ⟨by omega, by omega⟩, fun i z => by cases z; omega⟩
          exact hN1 _ _ ⟨oh, rfl, oh1, oh2, ((bn4.trans (ButN.of b5)).trans (ButN.same s6)).trans (ButN.of b7), p7, Tabs.but b7 p6 (Tabs.same s6 (Tabs.but b5 p4 t4))⟩
        clear st3
        rintro σ H7 ⟨oh, rfl, oh1, oh2, st7⟩
        refine seqCut (fun σ H' => ∃ nm, σ = [some (.ref p), some x, some (optV ol), some (optV oh), some (.str nm), a5, a6, a7, a8, a9, none, none, none] ∧ nameB nm = true ∧ ButN p H H' ∧ Pot p H' ∧ LamX.Tabs (tabs_l_right A) H') (fun N1 hN1 => ?_) ?_
        · obtain ⟨bn7, p7, t7⟩ := st7
          clear hN
          walk_at "sx"
          intro t8 H8 n8 s8 h8
          have p8 := Pot.same s8 p7
          walk_at "sx"
          intro na H9 m9n b9 p9
          obtain ⟨nm, rfl, nmo⟩ : ∃ z : Str, na = .str z ∧ nameB z = true := by
            simp only [List.mem_cons, List.not_mem_nil, or_false] at m9n
            rcases m9n with rfl | rfl | rfl | rfl <;> exact ⟨_, rfl, by decide +kernel⟩
          exact hN1 _ _ ⟨nm, rfl, nmo, (bn7.trans (ButN.same s8)).trans (ButN.of b9), p9, Tabs.but b9 p8 (Tabs.same s8 t7)⟩
        clear st7
        rintro σ H9 ⟨nm, rfl, nmo, st9⟩
        refine seqCut (fun σ H' => ∃ pf D, D.Ok ∧ σ = [some (.ref p), some x, some (optV ol), some (optV oh), some (.str nm), some (.ref pf), a6, a7, a8, a9, none, none, none] ∧ Sh6 A p pf D H H') (fun N1 hN1 => ?_) ?_
        · obtain ⟨bn9, p9, t9⟩ := st9
          clear hN
          walk_at "sx"
          intro d F H10 okF b10 p10 nd hd
          have bn10 := bn9.trans (ButN.of b10)
          have t10 := Tabs.but b10 p9 t9
          walk_at "sx"
          intro qf H11 nqf s11 f11
          walk_at "sx"
          intro pf dx H12 npf s12 h12
          obtain ⟨D, eD⟩ : ∃ D : Fd, D = ⟨nm, F, ol, oh⟩ := ⟨_, rfl⟩
          have ok : D.Ok := by
            subst eD
            exact ⟨nmo, okF, ol1, oh1, fun i j ei ej => by have := ol2 i ei; have := oh2 j ej; omega⟩
          have hin : sp_fld_init K A [.ref pf, .str nm, .ref qf, optV ol, optV oh] H12 = sp_fld_init K A [.ref pf, .str D.name, .ref qf, optV D.low, optV D.high] H12 := by rw [eD]
          refine (congrFun (congrFun hin _) _).mpr ?_
          refine fld_init_ok T ok h12 (by rw [eD]; exact IsFmt.sm s12 f11) fun H13 b13 fd13 => ⟨rfl, ?_⟩
          clear hin eD nmo okF ol1 oh1 ol2 oh2
          have s11b := Same.but s12 npf b13
          exact hN1 _ _ ⟨pf, D, ok, rfl, bn10.trans (ButN.same (s11.trans s11b)), Pot.same (s11.trans s11b) p10, Tabs.same (s11.trans s11b) t10, fd13⟩
        clear st9 nmo ol1 oh1 ol2 oh2
        rintro σ H13 ⟨pf, D, ok, rfl, E13⟩
        refine seqCut (fun σ H' => σ = [some (.ref p), some x, some (optV ol), some (optV oh), some (.str nm), some (.ref pf), some (.str D.text), a7, a8, a9, none, none, none] ∧ Sh6 A p pf D H H') (fun N1 hN1 => ?_) ?_
        · obtain ⟨dx3, q3, h13, fm13⟩ := E13.fd
          have fd13 := E13.fd
          clear hN
          walk_at "sx"
          dsimp only
          walk_at "sx"
          exact hN1 _ _ ⟨rfl, E13⟩
        clear E13
        rintro σ H13 ⟨rfl, E13⟩
        obtain ⟨dx3, q3, h13, fm13⟩ := E13.fd
        have fd13 := E13.fd
        refine seqCut (fun σ H' => σ = [some (.ref p), some x, some (optV ol), some (optV oh), some (.str nm), some (.ref pf), some (.str D.text), a7, a8, a9, none, none, none] ∧ Sh6 A p pf D H H') (fun N2 hN2 => ?_) ?_
        · have tl := text_len ok
          have av : ∀ Hz, AnyV K Hz (.str D.text) := fun Hz => by show D.text.length ≤ 100000; omega
          have zl : ∀ z, V.str D.text = .str z → z.length ≤ 1000 := fun z ez => by cases ez; omega
          clear hN
          walk_at "sy"
          refine And.intro (fun D2 ok2 e2 p14 H14 n14 s14 f14 => ?_) (fun no => absurd rfl (no D ok))
          cases text_inj ok ok2 (V.str.inj e2)
          have E14 := E13.same s14
          have h14 := s14 _ _ h13
          have fd14 := E14.fd
          obtain ⟨dx4, q4, i14, fm14⟩ := f14
          have f14 : IsFld A H14 p14 D := ⟨dx4, q4, i14, fm14⟩
          clear e2 n14
          walk_at "sx"
          intro H15 s15
          dsimp only
          walk_at "sy"
          refine And.intro (fun D3 ok3 e3 p16 H16 n16 s16 f16 => ?_) (fun no => absurd rfl (no D ok))
          cases text_inj ok ok3 (V.str.inj e3)
          have s1416 := s15.trans s16
          have h16 := s1416 _ _ h14
          have E16 := E14.same s1416
          have fd16 := E16.fd
          obtain ⟨dx5, q5, i16, fm16⟩ := f16
          have f16 : IsFld A H16 p16 D := ⟨dx5, q5, i16, fm16⟩
          clear e3 n16
          walk_at "sx"
          intro H17 s17
          dsimp only
          walk_at "sy"
          exact hN2 _ _ ⟨rfl, E16.same s17⟩
        rintro σ H14 ⟨rfl, E14⟩
        walk_at "sx"
        refine And.intro trivial ?_
        refine Loop.byAny (fun rest σ Hc => ∃ a7 a8 a9, σ = [some (.ref p), some x, some (optV ol), some (optV oh), some (.str nm), some (.ref pf), some (.str D.text), a7, a8, a9, none, none, none] ∧ Sh6 A p pf D H Hc) ?_ ?_ _ _ _ ?_
        · rintro D1 y r2 σ Hd ⟨a7, a8, a9, rfl, Ed⟩ N4 hN4
          have pd := Ed.pt
          obtain ⟨tl1, tl2⟩ := text_len ok
          have tw := text_words ok
          walk_at "sx"
          intro zb H15 lb b15 p15
          have E15 := Ed.but b15 p15
          dsimp only [gName]
          refine seqCut (fun σ H' => ∃ a L, σ = [some (.ref p), some x, some (optV ol), some (optV oh), some (.str nm), some (.ref pf), some (.str D.text), some y, some (.str zb), some (.ref a), none, none, none] ∧ H' a = some (.lst L) ∧ (L = [.str "InvalidText", .str zb, .bl true] ∨ L = [.str "given", .str zb]) ∧ Sh6 A p pf D H H') (fun N3 hN3 => ?_) ?_
          · have av : ∀ Hz, AnyV K Hz (.str zb) := fun Hz => by show zb.length ≤ 100000; omega
            have zl : ∀ z, V.str zb = .str z → z.length ≤ 1000 := fun z ez => by cases ez; exact lb
            clear hN4 tl1 tl2 tw
            walk_at "sx"
            refine And.intro E15.tbs ?_
            intro H16 x16 t16
            have E16 := E15.ext x16 t16
            unfold TEnd
            walk_at "sx"
            refine And.intro (fun D2 ok2 e2 p17 H17 n17 s17 f17 => ?_) (fun no dd H17 s17 h17 => ?_)
            · have E17 := E16.same s17
              cases V.str.inj e2
              obtain ⟨dx5, q5, i17, fm17⟩ := f17
              have f17 : IsFld A H17 p17 D2 := ⟨dx5, q5, i17, fm17⟩
              clear e2
              walk_at "sx"
              dsimp only
              walk_at "sx"
              intro a18 H18 n18 s18 h18
              walk_at "sx"
              exact hN3 _ _ ⟨a18, _, rfl, h18, .inr rfl, E17.same s18⟩
            · have E17 := E16.same s17
              refine ⟨rfl, dd, .str zb, rfl, h17, fun p18 H18 n18 s18 h18 => ?_⟩
              walk_at "sx"
              exact hN3 _ _ ⟨p18, _, rfl, h18, .inl rfl, E17.same s18⟩
          · rintro σ H16 ⟨a, L, rfl, ha, hL, E16⟩
            walk_at "sx"
            intro b1 H17 n17 s17 h17
            walk_at "sx"
            intro b2 H18 n18 s18 h18
            walk_at "sx"
            intro b3 H19 n19 s19 h19
            have s1619 := (s17.trans s18).trans s19
            have ha := s1619 _ _ ha
            have h17 := s19 _ _ (s18 _ _ h17)
            have h18 := s19 _ _ h18
            have E19 := E16.same s1619
            have pr : ∃ bs, Pr1 (fun y b => EqB K H19 20 y (.ref a) b) [.ref b1, .ref b2] bs ∧ bs.any id = true := by
              rcases hL with rfl | rfl
              · refine ⟨[_, _], .cons (.inr (.inr (.inr (.inl ⟨_, _, _, _, _, rfl, rfl, SqL.of h17, SqL.of ha, rfl, .cons (eqB_flat rfl rfl) (.cons (eqB_flat rfl rfl) (.cons (eqB_flat rfl rfl) .nl)), rfl⟩)))) (.cons (.inr (.inr (.inl ⟨_, _, _, _, rfl, rfl, SqL.of h18, SqL.of ha, Nat.ne_of_beq_eq_false rfl, rfl⟩))) .nil), ?_⟩
                simp [eqV]
              · refine ⟨[_, _], .cons (.inr (.inr (.inl ⟨_, _, _, _, rfl, rfl, SqL.of h17, SqL.of ha, Nat.ne_of_beq_eq_false rfl, rfl⟩))) (.cons (.inr (.inr (.inr (.inl ⟨_, _, _, _, _, rfl, rfl, SqL.of h18, SqL.of ha, rfl, .cons (eqB_flat rfl rfl) (.cons (eqB_flat rfl rfl) .nl), rfl⟩)))) .nil), ?_⟩
                simp [eqV]
            obtain ⟨bs, pr1, pr2⟩ := pr
            refine ⟨_, bs, SqL.of h19, pr1, ?_⟩
            rw [pr2]
            walk_at "sy"
            exact hN4 _ _ trivial ⟨_, _, _, rfl, E19⟩
        · rintro σ Hd ⟨a7, a8, a9, rfl, Ed⟩
          exact hN _ _ trivial ⟨_, _, _, _, _, _, _, _, _, rfl, ⟨Ed.bn, Ed.pt, Ed.tbs⟩, .inr ⟨pf, D, ok, rfl, rfl, Ed⟩⟩
        · exact ⟨_, _, _, rfl, E14⟩
      · rintro σ Hc ⟨a1, a2, a3, a4, a5, a6, a7, a8, a9, rfl, _, h3 | ⟨pf, D, ok, rfl, rfl, E⟩⟩
        · cases h3
        · exact hN _ _ ⟨pf, D, _, _, _, _, _, _, _, ok, rfl, E⟩
      · exact ⟨none, none, none, none, none, none, none, none, none, rfl, ⟨ButN.refl _ _, h0, t0⟩, .inl (by rw [rgI_len]; rfl)⟩
    rintro σ H1 ⟨pf, D, a1, a2, a3, a4, a7, a8, a9, ok, rfl, E⟩
    refine seqCut (fun σ H' => ∃ v, σ = [some (.ref p), a1, a2, a3, a4, some (.ref pf), some (.str D.text), a7, a8, a9, some v, none, none] ∧ OddT K H' v ∧ Sh6 A p pf D H H') (fun N1 hN1 => ?_) ?_
    · have tl := text_len ok
      have pt1 := E.pt
      clear q
      walk_at "sx"
      intro e1 H2 n2 s2 h2
      walk_at "sx"
      intro e2 H3 n3 s3 h3
      walk_at "sx"
      intro e3 H4 n4 s4 h4
      walk_at "sx"
      intro e4 H5 n5 s5 h5
      have E5 := E.same (((s2.trans s3).trans s4).trans s5)
      have pt5 := E5.pt
      walk_at "sx"
      refine And.intro (Nat.zero_lt_succ _) (And.intro (show 9 < 1000 by decide) ?_)
      intro v H6 hv b6 p6
      have E6 := E5.but b6 p6
      have odd : OddT K H6 v := by
        have k1 : H6 e1 = some (.tup []) := But.pot b6 pt5 (s5 _ _ (s4 _ _ (s3 _ _ h2))) fun _ _ z => by cases z
        have k2 : H6 e2 = some (.lst [.str D.text]) := But.pot b6 pt5 (s5 _ _ (s4 _ _ h3)) fun _ _ z => by cases z
        have k4 : H6 e3 = some (.dK []) := But.pot b6 pt5 (s5 _ _ h4) fun _ _ z => by cases z
        obtain ⟨i1, i2, i3, i4⟩ := T.in_Field
        obtain ⟨dxf, qf, hf6, _⟩ := E6.fd
        have k5 : TyX K H6 (.ref pf) (.ref A.cField) := .base (.ins hf6 T.cl_Field i1 i2 i3 i4)
        simp only [List.mem_cons, List.not_mem_nil, or_false] at hv
        rcases hv with rfl | rfl | rfl | rfl | rfl | rfl | rfl | rfl | rfl
        · exact ⟨.inl rfl, (fun _ z => by cases z), trivial⟩
        · exact ⟨.inl rfl, (fun _ z => by cases z), trivial⟩
        · exact ⟨.inr ⟨_, rfl⟩, (fun _ z => by cases z), any_of (.base (.tup k1)) (.inl rfl)⟩
        · exact ⟨.inr ⟨_, rfl⟩, (fun _ z => by cases z), any_of (.base (.lst k2)) (.inr (.inl rfl))⟩
        · exact ⟨.inl rfl, (fun _ z => by cases z; decide), by show 0 ≤ 100000; decide⟩
        · exact ⟨.inl rfl, (fun _ z => by cases z; decide), by show 1 ≤ 100000; decide⟩
        · exact ⟨.inr ⟨_, rfl⟩, (fun _ z => by cases z), ⟨⟨_, k5, T.kn_Field_int⟩, ⟨_, k5, T.kn_Field_str⟩⟩⟩
        · exact ⟨.inl rfl, (fun _ z => by cases z), trivial⟩
        · exact ⟨.inr ⟨_, rfl⟩, (fun _ z => by cases z), any_of (.base (.dK k4)) (.inr (.inr rfl))⟩
      exact hN1 _ _ ⟨v, rfl, odd, E6⟩
    clear E
    rintro σ H6 ⟨v, rfl, odd, E6⟩
    refine seqCut (fun σ H' => σ = [some (.ref p), a1, a2, a3, a4, some (.ref pf), some (.str D.text), a7, a8, a9, some v, some (.str ("a 5 4 " ++ D.fmt.words)), none] ∧ H' = H6) (fun N1 hN1 => ?_) ?_
    · have E6f := E6.fd
      obtain ⟨dxf, qf, hf6, dxq, hq6⟩ := E6f
      have okf := ok.fm
      have wl := words_len ok.fm
      have l6 : ("a 5 4 " : Str).length = 6 := rfl
      have al : ("a 5 4 " : Str).length + D.fmt.words.length ≤ sizeLine := sz_le (by omega)
      clear q
      walk_at "sx"
      dsimp only
      walk_at "sx"
      exact hN1 _ _ ⟨rfl, rfl⟩
    rintro σ H6 ⟨rfl, rfl⟩
    refine seqCut (fun σ H' => ∃ a l1, σ = [some (.ref p), a1, a2, a3, a4, some (.ref pf), some (.str D.text), a7, a8, a9, some v, some (.str ("a 5 4 " ++ D.fmt.words)), some (.ref a)] ∧ H' a = some (.lst [.ref l1]) ∧ H' l1 = some (.lst [.str "InvalidText", v, .bl true]) ∧ (∀ b o, b ≠ p → H b = some o → (∀ ps, o ≠ .tbl ps) → b ≠ a) ∧ Sh6 A p pf D H H') (fun N1 hN1 => ?_) ?_
    · clear q
      walk_at "sx"
      refine And.intro E6.tbs ?_
      intro H7 x7 t7
      have E7 := E6.ext x7 t7
      have an7 := AnyV.ext x7 odd.an
      have zl7 : ∀ z, v = .str z → z.length ≤ 1000 := fun z ez => by have := odd.ns z ez; omega
      unfold TEnd
      walk_at "sx"
      refine And.intro (fun D2 ok2 e2 => absurd (odd.ns _ e2) (by have := text_long ok2; omega)) (fun _ dd H8 s8 h8 => ?_)
      refine ⟨rfl, dd, v, rfl, h8, fun l1 H9 n9 s9 h9 => ?_⟩
      walk_at "sx"
      intro a H10 n10 s10 h10
      have E9 := E7.same (s8.trans s9)
      have nba : ∀ b o, b ≠ p → H b = some o → (∀ ps, o ≠ .tbl ps) → b ≠ a := fun b o nb e nt z => by
        have := E9.bn b o nb e nt
        rw [z, n10] at this
        cases this
      exact hN1 _ _ ⟨a, l1, rfl, h10, s10 _ _ h9, nba, E9.same s10⟩
    rintro σ H10 ⟨a, l1, rfl, h10, h9, nb, E10⟩
    have anp : a ≠ p := fun z => by
      obtain ⟨i, j, e⟩ := E10.pt
      rw [← z, h10] at e
      cases e
    refine seqCut (fun σ H' => ∃ l2, σ = [some (.ref p), a1, a2, a3, a4, some (.ref pf), some (.str D.text), a7, a8, a9, some v, some (.str ("a 5 4 " ++ D.fmt.words)), some (.ref a)] ∧ H' a = some (.lst [.ref l1, .ref l2]) ∧ H' l1 = some (.lst [.str "InvalidText", v, .bl true]) ∧ H' l2 = some (.lst [.str "InvalidText", .str ("a 5 4 " ++ D.fmt.words), .bl true]) ∧ ButN p H H' ∧ LamX.Tabs (tabs_l_right A) H') (fun N1 hN1 => ?_) ?_
    · have wl := words_len ok.fm
      have l6 : ("a 5 4 " : Str).length = 6 := rfl
      have ln := add_len ("a 5 4 " : Str) D.fmt.words
      have av : ∀ Hz, AnyV K Hz (.str ("a 5 4 " ++ D.fmt.words)) := fun Hz => by show ("a 5 4 " ++ D.fmt.words : Str).length ≤ 100000; omega
      have zl : ∀ z, V.str ("a 5 4 " ++ D.fmt.words) = .str z → z.length ≤ 1000 := fun z ez => by cases ez; omega
      clear q
      walk_at "sx"
      refine And.intro E10.tbs ?_
      intro H11 x11 t11
      have E11 := E10.ext x11 t11
      have h11 := x11 _ _ h10 fun _ z => by cases z
      have h91 := x11 _ _ h9 fun _ z => by cases z
      unfold TEnd
      walk_at "sx"
      refine And.intro (fun D2 ok2 e2 => (lost_none _ ok2 (V.str.inj e2)).elim) (fun _ dd H12 s12 h12 => ?_)
      refine ⟨rfl, dd, _, rfl, h12, fun l2 H13 n13 s13 h13 => ?_⟩
      have E13 := E11.same (s12.trans s13)
      have h131 := (s12.trans s13) _ _ h11
      have h132 := (s12.trans s13) _ _ h91
      walk_at "sx"
      intro H14 b14 h14
      exact hN1 _ _ ⟨l2, rfl, h14, b14 _ _ (ne_of h132 h131 fun z => by cases z) h132, b14 _ _ (ne_of h13 h131 fun z => by cases z) h13, fun b o n e nt => b14 _ _ (nb b o n e nt) (E13.bn b o n e nt), Tabs.butL b14 h131 E13.tbs⟩
    rintro σ H14 ⟨l2, rfl, h14, h1, h2, bn, tb⟩
    clear E10 h10 h9
    walk_at "sx"
    intro c1 H15 n15 s15 h15
    walk_at "sx"
    intro c2 H16 n16 s16 h16
    walk_at "sx"
    intro c3 H17 n17 s17 h17
    have sa := (s15.trans s16).trans s17
    have g1 := sa _ _ h1
    have g2 := sa _ _ h2
    have g14 := sa _ _ h14
    have g15 := (s16.trans s17) _ _ h15
    have g16 := s17 _ _ h16
    have hv : ∀ n, EqB K H17 n v v true ∨ n = 0 := fun n => by
      cases n with
      | zero => exact .inr rfl
      | succ n =>
        refine .inl ?_
        rcases odd.fl with hf | ⟨r, rfl⟩
        · exact .inl ⟨hf, hf, (eqV_self hf).symm⟩
        · exact .inr (.inl ⟨r, rfl, rfl, rfl⟩)
    have hv := (hv 19).resolve_right (by decide)
    have pr : ∃ bs, Pr3 (EqB K H17 20) [.ref l1, .ref l2] [.ref c1, .ref c2] bs ∧ bs.all id = true := by
      refine ⟨[_, _], .cons (.inr (.inr (.inr (.inl ⟨_, _, _, _, _, rfl, rfl, SqL.of g1, SqL.of g15, rfl, .cons (eqB_flat rfl rfl) (.cons hv (.cons (eqB_flat rfl rfl) .nl)), rfl⟩)))) (.cons (.inr (.inr (.inr (.inl ⟨_, _, _, _, _, rfl, rfl, SqL.of g2, SqL.of g16, rfl, .cons (eqB_flat rfl rfl) (.cons (eqB_flat rfl rfl) (.cons (eqB_flat rfl rfl) .nl)), rfl⟩)))) .nl), ?_⟩
      simp [eqV]
    obtain ⟨bs, pr1, pr2⟩ := pr
    walk_at "sx"
    refine .inr (.inl ⟨_, _, bs, SqL.of g14, SqL.of h17, rfl, pr1, ?_⟩)
    rw [pr2]
    exact q H17 (bn.trans (ButN.same sa)) (Tabs.same sa tb)
end

end Fg
set_option Elab.async false
set_option linter.all false
set_option maxRecDepth 100000
set_option maxHeartbeats 4000000
namespace Fg
open PySem PySem.Spec PyProof.Rows L2
local macro_rules | `(tactic| walk_at "hp") => `(tactic| first | assumption | (refine Same.get (by assumption) ?_; walk_at "hp"))
local macro_rules | `(tactic| walk_at "sq") => `(tactic| first | assumption | (exact Or.inr (by assumption)) | (exact Or.inl (by assumption)) | (exact Or.inl (SqL.of (by walk_at "hp"))) | (exact Or.inr (SqT.of (by walk_at "hp"))) | (exact SqL.of (by walk_at "hp")) | (exact SqT.of (by walk_at "hp")))
local macro_rules | `(tactic| walk_at "cl") => `(tactic| first | ((first | show (_ : Int) < _ | show (_ : Int) ≤ _); first | omega | decide) | ((first | show (_ : Nat) < _ | show (_ : Nat) ≤ _); first | with_reducible assumption | (refine sz_le ?_; first | decide | omega | (simp <;> omega)) | (refine sz_lt ?_; first | decide | omega | (simp <;> omega)) | omega | decide | ((with_reducible show List.length _ < _); exact Nat.le_of_ble_eq_true rfl)) | rfl | walk_at "hp" | walk_at "sq" | (refine And.intro (by walk_at "cl") (by walk_at "cl")) | (exact Exists.intro _ (by walk_at "hp")) | (exact Exists.intro _ (Exists.intro _ (by walk_at "hp"))) | (exact Exists.intro _ (Exists.intro _ (And.intro (by walk_at "hp") rfl))) | decide | (exact Or.inl (by walk_at "cl")) | (exact Or.inr (by walk_at "cl")) | omega)
local macro_rules | `(tactic| walk_at "s1") => `(tactic| first | refine And.intro (by walk_at "cl") ?_ | apply Exists.intro)
local macro_rules | `(tactic| walk_at "sx") => `(tactic| repeat walk_at "s1")
local macro_rules | `(tactic| walk_at "si") => `(tactic| first | refine iteY rfl ?_ | refine iteN rfl ?_)
local macro_rules | `(tactic| walk_at "sy") => `(tactic| repeat first | walk_at "s1" | walk_at "si")
/-- a def that is known -/
theorem fnok_of {P : Program} {w : World} {K : PySem.W.Frag} {mg : Str → Option Value} {base : Heap} {x : Str} {st : Stmt} {f : Addr} {fd : FuncData} {N ps : List Str} {k : Nat} {sp : Sp} (F : Fun K x x st f fd) (S : FnScope N ps (defScope st))
    (len : ∀ vs H Q E, sp vs H Q E → vs.length = ps.length)
    (hbody : ∀ (f : Addr) (cdv : Value) (A : Around) (outer : List Env) (s : Shared) (H : Hp) (vs : List V) (Q : VK) (E : XK), Room k (cxOf (L2.CX P w) P w K mg base N x (defScope st) f cdv A outer s H E).A →
      Takes (cxOf (L2.CX P w) P w K mg base N x (defScope st) f cdv A outer s H E) (fun cls d _ H => E cls d H) →
      PassesOwn (model P w) (cxOf (L2.CX P w) P w K mg base N x (defScope st) f cdv A outer s H E).A (cxOf (L2.CX P w) P w K mg base N x (defScope st) f cdv A outer s H E).env (cxOf (L2.CX P w) P w K mg base N x (defScope st) f cdv A outer s H E).xe → sp vs H Q E →
      ∃ t, PSs (cxOf (L2.CX P w) P w K mg base N x (defScope st) f cdv A outer s H E) (defBody st) t ∧ t { nx := fun _ H' => Q .non H', rt := Q } (start N vs) H) :
    FnOk P w K mg base (L2.CX P w) (k + 1) f fd ps sp := F.okX S len fun cdv A outer s H vs Q E hr h => hbody f cdv A outer s H vs Q E hr (takes_of rfl rfl rfl rfl) (passes_of rfl) h
/-- each item gives y; an invariant beside -/
theorem Comp.inv {st : Hp → Prop} {g : TG} {te : TE} {vs : List Nat} {σ : L2.St} {D : Addr} {Q : Hp → Prop} (Iv : Hp → Prop) (Px : V → Prop) (y : V) (hst : ∀ H, Iv H → st H) (hI : ∀ H acc, Iv H → H D = some (.lst acc) → ∀ acc', Iv (upd H D (.lst acc')))
    (hx : ∀ (x : V) (H : Hp) (acc : List V) (R : VK), Px x → Iv H → H D = some (.lst acc) → (∀ H', Iv H' → H' D = some (.lst acc) → R y H') → g x (wipe σ vs) H fun σ2 H2 => wipe σ2 vs = wipe σ vs ∧ te σ2 H2 R) :
    ∀ (xs : List V) (acc : List V) (H : Hp), (∀ x ∈ xs, Px x) → acc.length + xs.length ≤ sizeLine → Iv H → H D = some (.lst acc) → (∀ H', Iv H' → H' D = some (.lst (acc ++ xs.map fun _ => y)) → Q H') → Comp st g tYes te vs σ D Q xs H
  | [], acc, H, _, _, s, hD, q => q H s (by rw [List.map_nil, List.append_nil]; exact hD)
  | x :: r, acc, H, hp, hl, s, hD, q => by
    rw [List.length_cons] at hl
    have k := hx x H acc (fun y H4 => ∃ acc, H4 D = some (.lst acc) ∧ acc.length < sizeLine ∧ st (upd H4 D (.lst (acc ++ [y]))) ∧ Comp st g tYes te vs σ D Q r (upd H4 D (.lst (acc ++ [y])))) (hp x (List.mem_cons_self ..)) s hD fun H' s' hD' => by
      have s2 := hI H' acc s' hD' (acc ++ [y])
      refine ⟨acc, hD', by omega, hst _ s2, ?_⟩
      refine Comp.inv Iv Px y hst hI hx r (acc ++ [y]) _ (fun z hz => hp z (List.mem_cons_of_mem _ hz)) (by rw [List.length_append, List.length_singleton]; omega) s2 upd_same fun H2 s3 e => q H2 s3 ?_
      rw [e, List.append_assoc]
      rfl
    exact k
theorem sqL_upd {K : PySem.W.Frag} {H Hc : Hp} {a D : Addr} {xs : List V} {o : HO} (h0 : SqL K H a xs) (n : H D = none) (h1 : SqL K Hc a xs) : SqL K (upd Hc D o) a xs := by
  rcases h0 with (h0 | ⟨u, h0⟩) | hk
  · have ne := ne_of_none h0 n
    rcases h1 with (h1 | ⟨u, h1⟩) | hk
    · exact .inl (.inl (by rw [upd_ne ne]; exact h1))
    · exact .inl (.inr ⟨u, by rw [upd_ne ne]; exact h1⟩)
    · exact .inr hk
  · have ne := ne_of_none h0 n
    rcases h1 with (h1 | ⟨u, h1⟩) | hk
    · exact .inl (.inl (by rw [upd_ne ne]; exact h1))
    · exact .inl (.inr ⟨u, by rw [upd_ne ne]; exact h1⟩)
    · exact .inr hk
  · exact .inr hk
theorem sqL_butN {K : PySem.W.Frag} {H0 H H' : Hp} {a p : Addr} {xs : List V} (h1 : SqL K H a xs) (h0 : SqL K H0 a xs) (s : Same H0 H) (n : H0 p = none) (b : ButN p H H') : SqL K H' a xs := by
  rcases h0 with (h0 | ⟨u, h0⟩) | hk
  · exact .inl (.inl (b _ _ (ne_of_none h0 n) (s _ _ h0) fun _ z => by cases z))
  · exact .inl (.inr ⟨u, b _ _ (ne_of_none h0 n) (s _ _ h0) fun _ z => by cases z⟩)
  · exact .inr hk
theorem tabS_upd {H : Hp} {D P : Addr} {q : Str} {acc acc' : List V} (hD : H D = some (.lst acc)) (t : LamX.TabS H P q) : LamX.TabS (upd H D (.lst acc')) P q := by
  obtain ⟨ps, h1, h2, h3⟩ := t
  have ne : ∀ {a : Addr} {o : HO}, H a = some o → (∀ xs, o ≠ .lst xs) → a ≠ D := fun {a o} ea no z => by
    rw [z, hD] at ea
    exact no acc (Option.some.inj ea).symm
  refine ⟨ps, by rw [upd_ne (ne h1 fun _ z => by cases z)]; exact h1, h2, fun pos cv hc => ?_⟩
  obtain ⟨c, e1, e2⟩ := h3 pos cv hc
  exact ⟨c, e1, by rw [upd_ne (ne e2 fun _ z => by unfold LamX.CodeO at z; cases z)]; exact e2⟩
theorem ButN.none_of {p : Addr} {H H' : Hp} {d : Addr} (s : ButN p H H') (n : H' d = none) (hp : d ≠ p) (nt : ∀ ps, H d ≠ some (.tbl ps)) : H d = none := by
  cases h : H d with
  | none => rfl
  | some o =>
    rw [s d o hp h (fun ps z => nt ps (by rw [h, z]))] at n
    cases n
section
variable {P : Program} {w : World} {K : PySem.W.Frag} {mg : Str → Option Value} {base : Heap} {A : Ad}
def sp_law (K : PySem.W.Frag) (A : Ad) : Sp := s1 fun a H Q _ => ∃ (s : Addr) (ns : List Int), a = .ref s ∧ SqL K H s (ns.map V.int) ∧ ns.length ≤ 63 ∧ LamX.Tabs (tabs_l_right A) H ∧ ∀ H', Q (.bl true) H'
theorem law_fun (T : Txt w K mg A) : FunAt K mg "law" s_law := T.F_law
theorem ok_law {f : Addr} {fd : FuncData} (F : Fun K "law" "law" s_law f fd) (T : Txt w K mg A) (TB : LamX.TabB base mg A.cC_l_right A.tP_l_right) : FnOk P w K mg base (L2.CX P w) 15 f fd ["_law_script"] (sp_law K A) := by
  refine fnok_of F sc_law (fun vs H Q E h => ?_) (fun f cdv Ar outer s H vs Q E hr tk po h => ?_)
  · obtain ⟨_, rfl, _⟩ := s1_len h
    rfl
  · obtain ⟨a, rfl, s0, ns, rfl, h0, hl, t0, q⟩ := s1_len h
    refine ⟨_, (pss_one (ps_ret (pe_callB (f_all rfl) (by rfl) T.b_all (by decide +kernel) (pa_cons (fe_lc (own := [("_law_k", 1)]) (tt := tYes) (by rfl) sc_law.nd (fi_R1 (by rfl) T.b_range (pa_cons (pe_callB (f_max rfl) (by rfl) T.b_max (by decide +kernel) (pa_cons pe_int (pa_cons (pe_callB (f_min rfl) (by rfl) T.b_min (by decide +kernel) (pa_cons (pe_callB f_len (by rfl) T.b_len (by decide +kernel) (pa_cons (fv 0) pa_nil)) (pa_cons pe_int pa_nil))) pa_nil))) pa_nil)) (blkOk_by (own := [("_law_k", 1)]) (N := ["_law_script", "_law_k"]) (sc := defScope s_law) (by decide +kernel)) (fun _ _ _ _ _ => pg_name (i := 1) sc_law.nd rfl (Or.inl rfl)) (fun _ _ _ _ _ => pts_nil) (fun _ _ _ _ _ => (fc_call (ok_l_right T TB) hr (by decide) (by rfl) takes0 (pa_cons (fc_call (ok_l_pot T) hr (by decide) (by rfl) takes0 (pa_cons (fv 0) (pa_cons (fv 1) pa_nil))) pa_nil)))) pa_nil)))), ?_⟩
    walk_at "sx"
    refine And.intro trivial ?_
    intro D H2 n2 s2 h2
    refine And.intro trivial ?_
    refine Comp.inv (fun Hc => SqL K Hc s0 (ns.map V.int) ∧ LamX.Tabs (tabs_l_right A) Hc) (fun x => ∃ k : Nat, x = .int (k : Nat) ∧ k ≤ 5) (.bl true) (fun _ _ => trivial) ?_ ?_ _ [] _ ?_ ?_ ?_ h2 ?_
    · rintro Hc acc ⟨h1, t1⟩ hD acc'
      exact ⟨sqL_upd h0 n2 h1, fun r hr => tabS_upd hD (t1 r hr)⟩
    · rintro x Hc acc R ⟨k, rfl, hk⟩ ⟨h1, t1⟩ hD kk
      walk_at "sx"
      intro p H3 np s3 p3
      have t3 := Tabs.same s3 t1
      walk_at "sx"
      intro H4 b4 t4
      exact kk H4 ⟨sqL_butN (s3.seq h1) h1 s3 np b4, t4⟩ (b4 _ _ (ne_of_none hD np) (s3 _ _ hD) fun _ z => by cases z)
    · intro x hx
      obtain ⟨i, hi, rfl⟩ := List.mem_map.mp hx
      have := List.mem_range.mp hi
      exact ⟨i, by rw [Int.zero_add], by omega⟩
    · rw [rgI_len]
      refine sz_le ?_
      simp only [List.length_nil]
      omega
    · exact ⟨s2.seq h0, Tabs.same s2 t0⟩
    · rintro Hc ⟨h1, t1⟩ hD
      have hD2 : ∀ n : Nat, ([] ++ List.map (fun _ => V.bl true) (rgI 0 n)) = (List.replicate n true).map V.bl := fun n => by
        rw [List.nil_append, List.map_replicate, List.map_const', rgI_len]
      rw [hD2] at hD
      have al : ∀ n : Nat, ((List.replicate n true).all id) = true := fun n => by
        induction n with
        | zero => rfl
        | succ n ih => rw [List.replicate_succ, List.all_cons, ih]; rfl
      have qq := q Hc
      rw [← al (max 2 (min (((List.map V.int ns).length : Nat) : Int) 5)).toNat] at qq
      refine ⟨_, _, SqL.of hD, rfl, qq⟩
end

end Fg
set_option Elab.async false
set_option linter.all false
set_option maxRecDepth 100000
set_option maxHeartbeats 4000000
namespace Fg
open PySem PySem.Spec PyProof.Rows L2
local macro_rules | `(tactic| walk_at "hp") => `(tactic| first | assumption | (refine Same.get (by assumption) ?_; walk_at "hp"))
local macro_rules | `(tactic| walk_at "sq") => `(tactic| first | assumption | (exact Or.inr (by assumption)) | (exact Or.inl (by assumption)) | (exact Or.inl (SqL.of (by walk_at "hp"))) | (exact Or.inr (SqT.of (by walk_at "hp"))) | (exact SqL.of (by walk_at "hp")) | (exact SqT.of (by walk_at "hp")))
local macro_rules | `(tactic| walk_at "cl") => `(tactic| first | ((first | show (_ : Int) < _ | show (_ : Int) ≤ _); first | omega | decide) | ((first | show (_ : Nat) < _ | show (_ : Nat) ≤ _); first | with_reducible assumption | (refine sz_le ?_; first | decide | omega | (simp <;> omega)) | (refine sz_lt ?_; first | decide | omega | (simp <;> omega)) | omega | decide | ((with_reducible show List.length _ < _); exact Nat.le_of_ble_eq_true rfl)) | rfl | walk_at "hp" | walk_at "sq" | (refine And.intro (by walk_at "cl") (by walk_at "cl")) | (exact Exists.intro _ (by walk_at "hp")) | (exact Exists.intro _ (Exists.intro _ (by walk_at "hp"))) | (exact Exists.intro _ (Exists.intro _ (And.intro (by walk_at "hp") rfl))) | decide | (exact Or.inl (by walk_at "cl")) | (exact Or.inr (by walk_at "cl")) | omega)
local macro_rules | `(tactic| walk_at "s1") => `(tactic| first | refine And.intro (by walk_at "cl") ?_ | apply Exists.intro)
local macro_rules | `(tactic| walk_at "sx") => `(tactic| repeat walk_at "s1")
local macro_rules | `(tactic| walk_at "si") => `(tactic| first | refine iteY rfl ?_ | refine iteN rfl ?_)
local macro_rules | `(tactic| walk_at "sy") => `(tactic| repeat first | walk_at "s1" | walk_at "si")
theorem law_facts {w : World} {mg : Str → Option Value} {fa : Addr} {h : Heap} (Y : headHk.says w h) (G : h.Ns mainGlobals mg) (hmg : mg "law" = some (.ref fa)) :
    ∃ K : PySem.W.Frag, K.In h ∧ LamX.LawAtS PySem.Challenge.rw_figurelines_k06_whole_field_texts w K (L2.CX (PySem.Challenge.rw_figurelines_k06_whole_field_texts).prog w) 15 63 "_law_script" mg fa h := by
  obtain ⟨K, X, c⟩ := Y
  have T := txt_of X G c
  obtain ⟨f, fd, F, g⟩ := (law_fun T).ex
  have ef := hmg.symm.trans g
  cases ef
  have F0 := F
  obtain ⟨oc, od, kV, doc, pm, an, cdv, ct, osl, rfl, lk, hcd⟩ := F.ex
  have hm : (("_law_right", none) : He.Defn) ∈ headTf := List.mem_cons_self ..
  have one : ∀ p ∈ [He.cT K ("_law_right", none)], p = He.cT K ("_law_right", none) := fun p hp => List.mem_singleton.mp hp
  refine ⟨K, X, PySem.W.fnOf "law" "law" (defArgs s_law) (defBody s_law) (defScope s_law) .none kV doc pm an cdv ct, [He.cT K ("_law_right", none)], sp_law K (adOf K), fun p hp => ?_, fun p hp => ?_, fun p hp => ?_, fun s u => .of_eq rfl, fun H a ns hl _ hT hS => ?_, fun base KB GB TB => ?_⟩
  · rw [one p hp]; exact c.x.empty _ hm
  · rw [one p hp]; exact c.x.out _ hm
  · rw [one p hp]; exact PySem.W.codeHd_of_K X (c.x.hd _ hm)
  · refine ⟨a, ns, rfl, hS, hl, fun p hp => ?_, fun _ => rfl⟩
    rw [List.mem_singleton.mp hp]
    exact LamX.TabS.nil (hT _ (List.mem_singleton.mpr rfl))
  · exact ok_law F0 T (TB _ (List.mem_singleton.mpr rfl))
end Fg
open PySem PySem.W PySem.Calls PyProof.Rows
set_option maxRecDepth 100000 in
set_option maxHeartbeats 0 in
theorem PySem.Challenge.cw_figurelines_k06_whole_field_texts_holds : PySem.Challenge.rw_figurelines_k06_whole_field_texts.Holds := by
  w_on; o_law
  refine HandSHeadRun.head_any (r := OpenLaw.row PySem.Challenge.rw_figurelines_k06_whole_field_texts) (q := view (OpenLaw.row PySem.Challenge.rw_figurelines_k06_whole_field_texts).prog [54]) (H := Fg.headHk) (ob := Fg.headOb) (M := 12000) (loose := Fg.headNames) (d := HandSHeadRun.topDef (OpenLaw.row PySem.Challenge.rw_figurelines_k06_whole_field_texts).prog 54) (kwd := []) Fg.headOb_eq
    (by kernel_rfl) (fun s => by kernel_rfl) Fg.headRun (by kernel_rfl) (by kernel_rfl) (by kernel_rfl) (by rfl) (by first | assumption | decide +kernel) (by decide +kernel) ⟨rfl, rfl, rfl, rfl, rfl, by decide +kernel⟩ ?hw ?hc
  case hw => w_witness2
  case hc =>
    refine LamX.walk_ofTsE (l := PySem.Challenge.rw_figurelines_k06_whole_field_texts) (n := 63) (k := 15) (x := "_law_script") (CX := fun w => L2.CX (PySem.Challenge.rw_figurelines_k06_whole_field_texts).prog w) rfl (by decide) (by kernel_rfl) ⟨rfl, by decide, by decide⟩ ?F ?X
    case F =>
      intro w mg fa h Y G hmg0
      have hmg : mg ("law" : PySem.Str) = some (.ref fa) := by
        have e : (HandSHeadRun.topDef (OpenLaw.row PySem.Challenge.rw_figurelines_k06_whole_field_texts).prog 54).name = ("law" : PySem.Str) := by kernel_rfl
        rw [← e]
        exact hmg0
      exact Fg.law_facts Y G hmg
    case X =>
      intro w H s e s' z
      obtain ⟨_, _, _, _, _, _, _, _, _, _, _, _, z⟩ := z
      exact z
#print axioms PySem.Challenge.cw_figurelines_k06_whole_field_texts_holds
