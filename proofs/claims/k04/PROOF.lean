import PyProof.Rows.All
import Wide.All
import OpenK.AllK
import Wide.FinOn
import HandS.ForMost
import HandS.ForExc
import HandS.IsInst
import HandS.FStr
import HandS.TupAny
import HandS.Star
import HandS.Lambda
import HandS.EndTab
import HandS.StrMore
import HandS.Style
import HandS.Zip
import HandS.Small
import HandS.ExcInit
import HandS.ExcIs
import HandS.ExcField
import HandS.TryMany
import HandS.Defaults
import HandS.MakeKwOnly
import HandS.Wide
import PyProof.ListStr
import KE.GoesOver
import KE.GoesMore
import KE.GoesEnum
import KE.GoesNew
import HandS.SortInts
import HandS.SetFor
import HandS.Strs
import PyProof.NeKinds
import HandS.Head0
import HandS.Head1
import HandS.Head2
import HandS.HeadEnd
import HandS.HeadHook1
import HandS.HeadHook2
import HandS.HeadHook3
import HandS.HeadHook4
import HandS.HeadWalk
import PySem.Challenge.RW_figurelines_k04_whole_integers_of_a_text
set_option Elab.async false
set_option linter.all false
set_option maxRecDepth 100000
set_option maxHeartbeats 4000000
namespace Fg
open PySem PySem.Spec PyProof.Rows L2
/-! ### heaps -/
theorem alloc {H : Hp} {o : HO} {G : Addr → Hp → Prop} (h : ∀ p H1, H p = none → Same H H1 → H1 p = some o → G p H1) : ∀ p, H p = none → G p (upd H p o) :=
  fun p np => h p _ np (fun b u e => by rw [upd_ne (ne_of_none e np)]; exact e) upd_same
theorem iteD {p : Prop} [Decidable p] {A B : Prop} (h1 : p → A) (h2 : ¬ p → B) : if decide p = true then A else B := by
  by_cases h : p
  · rw [if_pos (decide_eq_true h)]; exact h1 h
  · rw [if_neg (by rw [decide_eq_false h]; decide)]; exact h2 h
theorem iteB {b : Bool} {A B : Prop} (h1 : b = true → A) (h2 : b = false → B) : if b = true then A else B := by
  cases b with
  | true => exact h1 rfl
  | false => exact h2 rfl
theorem iteY {b : Bool} {A B : Prop} (e : b = true) (h : A) : if b = true then A else B := by rw [if_pos e]; exact h
theorem iteN {b : Bool} {A B : Prop} (e : b = false) (h : B) : if b = true then A else B := by rw [if_neg (by rw [e]; decide)]; exact h
/-! ### the rules, told by what the values are -/
section
variable {X : Cx}
theorem pe_imp {e : Expr} {t t' : TE} (h : PE X e t) (w : ∀ σ H Q, t' σ H Q → t σ H Q) : PE X e t' := ⟨fun pins s σ H Q I q => h.run pins s σ H Q I (w σ H Q q)⟩
theorem pt_imp {e : Expr} {t t' : TT} (h : PT X e t) (w : ∀ σ H Q, t' σ H Q → t σ H Q) : PT X e t' := ⟨fun pins s σ H Q I q => h.run pins s σ H Q I (w σ H Q q)⟩
theorem op_imp {f : Value → Value → Sem Value} {r r' : R2} (h : OpR X f r) (w : ∀ x y H Q, r' x y H Q → r x y H Q) : OpR X f r' := fun pins s σ H x y v u Q I rx ry q => h pins s σ H x y v u Q I rx ry (w x y H Q q)
theorem call_imp {f : Value} {r r' : List V → Hp → VK → Prop} (h : CallR X f r) (w : ∀ xs H Q, r' xs H Q → r xs H Q) : CallR X f r' := fun pins s σ H xs us Q I rx q => h pins s σ H xs us Q I rx (w xs H Q q)
def tV (i : Nat) : TE := fun σ H Q => match σ[i]? with
  | some (some v) => Q v H
  | _ => False
theorem fv (i : Nat) {x : Str} {pos : Pos} (hN : X.N[i]? = some x := by rfl) (hv : Vis X.env.scope x := by first | exact Or.inl rfl | exact Or.inr (Or.inl rfl) | exact Or.inr (Or.inr rfl)) (hd : (x == ("__debug__" : Str)) = false := by decide)
    (hcd : (x == ("__classdict__" : Str)) = false := by decide) : PE X (.Name x pos) (tV i) := pe_imp (pe_var hN hv hd hcd) fun σ H Q q => by
  unfold tV at q
  split at q
  · exact ⟨_, by assumption, q⟩
  · exact q.elim
/-- a name of the module -/
theorem fe_g {x : Str} {v : V} {pos : Pos} (hg : Gl X x) (h : ∃ u, X.mg x = some u ∧ RelV v u) (hd : (x == ("__debug__" : Str)) = false := by decide) : PE X (.Name x pos) (tC v) := by
  obtain ⟨u, hm, r⟩ := h
  exact pe_glob hg hm r hd
def fI (g : Int → Int → V) : R2 := fun x y H Q => match x, y with
  | .int i, .int j => Q (g i j) H
  | _, _ => False
def fIc (C : Int → Int → Prop) (g : Int → Int → V) : R2 := fun x y H Q => match x, y with
  | .int i, .int j => C i j ∧ Q (g i j) H
  | _, _ => False
theorem fI_imp {f : Value → Value → Sem Value} {g : Int → Int → V} (h : OpR X f (rI0 g)) : OpR X f (fI g) := op_imp h fun x y H Q q => by
  unfold fI at q
  split at q
  · exact ⟨_, _, rfl, rfl, q⟩
  · exact q.elim
theorem fIc_imp {f : Value → Value → Sem Value} {C : Int → Int → Prop} {g : Int → Int → V} (h : OpR X f (rI C g)) : OpR X f (fIc C g) := op_imp h fun x y H Q q => by
  unfold fIc at q
  split at q
  · exact ⟨_, _, rfl, rfl, q.1, q.2⟩
  · exact q.elim
def fAdd : R2 := fun x y H Q => match x, y with
  | .int i, .int j => Q (.int (i + j)) H
  | .str a, .str b => a.length + b.length ≤ sizeLine ∧ Q (.str (a ++ b)) H
  | _, _ => False
theorem f_add : OpR X (binaryOp .Add) fAdd := op_imp (op_add.or op_add_str) fun x y H Q q => by
  unfold fAdd at q
  split at q
  · exact .inl ⟨_, _, rfl, rfl, q⟩
  · exact .inr ⟨_, _, rfl, rfl, q.1, q.2⟩
  · exact q.elim
theorem f_sub : OpR X (binaryOp .Sub) (fI fun i j => .int (i - j)) := fI_imp op_sub
/-- factors that are not too great -/
def CBig (i j : Int) : Prop := -(10 ^ 60) < i ∧ i < 10 ^ 60 ∧ -(10 ^ 60) < j ∧ j < 10 ^ 60
def CM (i j : Int) : Prop := (-(2 ^ 64) < i ∧ i < 2 ^ 64) ∨ (-(2 ^ 64) < j ∧ j < 2 ^ 64) ∨ CBig i j
theorem log_le {n k : Nat} (h : n < 2 ^ (k + 1)) : n.log2 ≤ k := by
  by_cases z : n = 0
  · rw [z]; exact Nat.zero_le _
  · exact Nat.le_of_lt_succ ((Nat.log2_lt z).mpr h)
theorem CM.ok {i j : Int} (h : CM i j) : IntMulOk i j := by
  rcases h with h | h | h
  · exact CMul.ok (.inl h)
  · exact CMul.ok (.inr h)
  · have z : -(10 ^ 60) < i ∧ i < 10 ^ 60 ∧ -(10 ^ 60) < j ∧ j < 10 ^ 60 := h
    have a1 : i.natAbs.log2 ≤ 199 := log_le (by omega)
    have a2 : j.natAbs.log2 ≤ 199 := log_le (by omega)
    exact CMulW.ok (show i.natAbs.log2 + j.natAbs.log2 < 1000000 by omega)
theorem f_mul : OpR X (binaryOp .Mult) (fIc CM fun i j => .int (i * j)) := fIc_imp (opI fun _ _ _ _ _ _ _ hc q => mul_int q hc.ok)
theorem f_mod : OpR X (binaryOp .Mod) (fIc (fun _ j => 0 < j) fun i j => .int (i % j)) := fIc_imp op_mod
def CDv (_ j : Int) : Prop := 0 < j ∧ j < 10 ^ 60
theorem f_fdiv : OpR X (binaryOp .FloorDiv) (fIc CDv fun i j => .int (i / j)) := op_imp op_fdivW fun x y H Q q => by
  unfold fIc at q
  split at q
  · rename_i i j
    have z : 0 < j ∧ j < 10 ^ 60 := q.1
    have a2 : j.natAbs.log2 ≤ 199 := log_le (by omega)
    exact ⟨i, j, rfl, rfl, ⟨z.1, by omega⟩, q.2⟩
  · exact q.elim
theorem f_pow : OpR X (binaryOp .Pow) (fIc CPow fun i j => .int (i ^ j.toNat)) := fIc_imp op_pow
theorem f_lt : OpR X (compareOp .Lt) (fI fun i j => .bl (decide (i < j))) := fI_imp op_lt
theorem f_le : OpR X (compareOp .LtE) (fI fun i j => .bl (decide (i ≤ j))) := fI_imp op_le
theorem f_gt : OpR X (compareOp .Gt) (fI fun i j => .bl (decide (j < i))) := fI_imp op_gt
theorem f_ge : OpR X (compareOp .GtE) (fI fun i j => .bl (decide (j ≤ i))) := fI_imp op_ge
/-- == of plain values -/
def fEq : R2 := fun x y H Q => match x, y with
  | .int i, .int j => Q (.bl (decide (i = j))) H
  | .str i, .str j => Q (.bl (decide (i = j))) H
  | x, y => scal x y = true ∧ Q (.bl (decide (x = y))) H
def fNe : R2 := fun x y H Q => match x, y with
  | .int i, .int j => Q (.bl (!decide (i = j))) H
  | .str i, .str j => Q (.bl (!decide (i = j))) H
  | x, y => scal x y = true ∧ Q (.bl (!decide (x = y))) H
theorem f_eq : OpR X (compareOp .Eq) fEq := op_imp op_eq fun x y H Q q => by
  unfold fEq at q
  split at q
  · exact ⟨rfl, by rw [dec_int, Bool.beq_eq_decide_eq]; exact q⟩
  · refine ⟨rfl, ?_⟩
    rename_i i j
    have e : decide (V.str i = V.str j) = decide (i = j) := by
      by_cases h : i = j
      · rw [h]; simp
      · simp [h]
    rw [e]; exact q
  · exact q
theorem f_ne : OpR X (compareOp .NotEq) fNe := op_imp op_ne fun x y H Q q => by
  unfold fNe at q
  split at q
  · exact ⟨rfl, by rw [dec_int, Bool.beq_eq_decide_eq]; exact q⟩
  · refine ⟨rfl, ?_⟩
    rename_i i j
    have e : decide (V.str i = V.str j) = decide (i = j) := by
      by_cases h : i = j
      · rw [h]; simp
      · simp [h]
    rw [e]; exact q
  · exact q
/-- x is not True, x is True: whatever is no object -/
def notRef : V → Bool
  | .non => true | .bl _ => true | .int _ => true | .str _ => true | .byt _ => true | .flt _ => true | _ => false
def rNotBl : R2 := fun x y H Q => match y with
  | .bl b => notRef x = true ∧ Q (.bl (!decide (x = .bl b))) H
  | _ => False
theorem op_notBl : OpR X (compareOp .IsNot) rNotBl := by
  intro pins s σ H x y v u Q I rx ry h
  cases y <;> first | exact h.elim | skip
  rename_i b
  obtain ⟨n, q⟩ := h
  cases (show u = Value.bool b from ry)
  cases x with
  | non => cases (show v = Value.none from rx); exact wpAny_isNot_other rfl (fun z => by cases z) ⟨.bl true, H, I, rfl, by simpa using q⟩
  | bl a =>
    cases (show v = Value.bool a from rx)
    by_cases e : a = b
    · subst e
      exact wpAny_isNot_self rfl ⟨.bl false, H, I, rfl, by simpa using q⟩
    · exact wpAny_isNot_other rfl (fun z => e (Value.bool.inj z)) ⟨.bl true, H, I, rfl, by simpa [e] using q⟩
  | int i => obtain ⟨t, rfl⟩ := (show ∃ t, v = Value.int i t from rx); exact wpAny_isNot_other rfl (fun z => by cases z) ⟨.bl true, H, I, rfl, by simpa using q⟩
  | str i => obtain ⟨t, rfl⟩ := (show ∃ t, v = Value.str i t from rx); exact wpAny_isNot_other rfl (fun z => by cases z) ⟨.bl true, H, I, rfl, by simpa using q⟩
  | byt i => obtain ⟨t, rfl⟩ := (show ∃ t, v = Value.bytes i t from rx); exact wpAny_isNot_other rfl (fun z => by cases z) ⟨.bl true, H, I, rfl, by simpa using q⟩
  | flt i => obtain ⟨t, rfl⟩ := (show ∃ t, v = Value.float i t from rx); exact wpAny_isNot_other rfl (fun z => by cases z) ⟨.bl true, H, I, rfl, by simpa using q⟩
  | ref _ => cases n
  | ty _ => cases n
/-- a test that is a bool -/
def tT (t : TE) : TT := fun σ H Q => t σ H fun x H' => match x with
  | .bl k => Q k H'
  | _ => False
variable {a b : Expr} {ta tb : TE} {pos : Pos}
theorem ft_cmp {op : CmpOp} {r : R2} (ho : OpR X (compareOp op) r) (ha : PE X a ta) (hb : PE X b tb) (hm : behindInMarks op b = false) : PT X (.Compare a [op] [b] pos) (tT (tOp r ta tb)) := by
  refine ⟨fun pins s σ H Q I h => ?_⟩
  refine wpAny_isTrue_Compare1 (thn (ha.run pins s σ H _ I h) fun v s1 ⟨x, H1, I1, rx, q⟩ => thn (hb.run pins s1 σ H1 _ I1 q) fun u s2 ⟨y, H2, I2, ry, q⟩ => thn (ho pins s2 σ H2 x y v u _ I2 rx ry q) fun c s3 ⟨z, H3, I3, rz, q3⟩ => ?_) hm
  cases z <;> first | exact q3.elim | skip
  cases rz
  exact wpAny_truthy_bool ⟨H3, I3, q3⟩
theorem ft_val {e : Expr} {t : TE} (h : PE X e t) (he : ∀ whole, isTrue e X.env whole = (do let v ← whole; standAt e.pos; holding [v] (truthy v)) := by intro _; rfl) : PT X e (tT t) := by
  refine ⟨fun pins s σ H Q I hw => ?_⟩
  refine isTrue_plain (thn (h.run pins s σ H _ I hw) fun v s1 ⟨x, H1, I1, r1, q1⟩ => ?_) (he _)
  cases x <;> first | exact q1.elim | skip
  cases r1
  exact wpAny_truthy_bool ⟨H1, I1, q1⟩

theorem ft_chain {op op' : CmpOp} {r r' : R2} {c : Expr} {tc : TE} (ho : OpR X (compareOp op) r) (ho' : OpR X (compareOp op') r') (ha : PE X a ta) (hb : PE X b tb) (hc : PE X c tc)
    (h : PE X (.Compare a [op, op'] [b, c] pos) (tChain r r' ta tb tc) := by exact pe_chain ‹_› ‹_› ‹_› ‹_› ‹_›) (he : ∀ whole, isTrue (.Compare a [op, op'] [b, c] pos) X.env whole = (do let v ← whole; standAt (Expr.pos (.Compare a [op, op'] [b, c] pos)); holding [v] (truthy v)) := by intro _; rfl) : PT X (.Compare a [op, op'] [b, c] pos) (tT (tChain r r' ta tb tc)) := ft_val h he
end
/-! ### promises by the number of arguments -/
def s0 (P : Hp → VK → XK → Prop) : Sp := fun vs H Q E => match vs with
  | [] => P H Q E
  | _ => False
def s1 (P : V → Hp → VK → XK → Prop) : Sp := fun vs H Q E => match vs with
  | [a] => P a H Q E
  | _ => False
def s2 (P : V → V → Hp → VK → XK → Prop) : Sp := fun vs H Q E => match vs with
  | [a, b] => P a b H Q E
  | _ => False
def s3 (P : V → V → V → Hp → VK → XK → Prop) : Sp := fun vs H Q E => match vs with
  | [a, b, c] => P a b c H Q E
  | _ => False
theorem s0_len {P} {vs : List V} {H : Hp} {Q : VK} {E : XK} (h : s0 P vs H Q E) : vs = [] ∧ P H Q E := by
  unfold s0 at h; split at h
  · exact ⟨rfl, h⟩
  · exact h.elim
theorem s1_len {P} {vs : List V} {H : Hp} {Q : VK} {E : XK} (h : s1 P vs H Q E) : ∃ a, vs = [a] ∧ P a H Q E := by
  unfold s1 at h; split at h
  · exact ⟨_, rfl, h⟩
  · exact h.elim
theorem s2_len {P} {vs : List V} {H : Hp} {Q : VK} {E : XK} (h : s2 P vs H Q E) : ∃ a b, vs = [a, b] ∧ P a b H Q E := by
  unfold s2 at h; split at h
  · exact ⟨_, _, rfl, h⟩
  · exact h.elim
theorem s3_len {P} {vs : List V} {H : Hp} {Q : VK} {E : XK} (h : s3 P vs H Q E) : ∃ a b c, vs = [a, b, c] ∧ P a b c H Q E := by
  unfold s3 at h; split at h
  · exact ⟨_, _, _, rfl, h⟩
  · exact h.elim
/-! ### a def of the module, as its callers see it -/
structure FunAt (K : PySem.W.Frag) (mg : Str → Option Value) (x : Str) (st : Stmt) : Prop where
  ex : ∃ f fd, Fun K x x st f fd ∧ mg x = some (.ref f)
structure Callee (P : Program) (w : World) (K : PySem.W.Frag) (mg : Str → Option Value) (base : Heap) (k : Nat) (x : Str) (ps : List Str) (sp : Sp) : Prop where
  ex : ∃ f fd, FnOk P w K mg base (L2.CX P w) k f fd ps sp ∧ mg x = some (.ref f) ∧ PySem.W.keepIn K (.ref f) = true ∧ Binds K fd ps []
section
variable {X : Cx} {W : WX} {j k : Nat} {x : Str} {ps : List Str} {sp : Sp} {p pos : Pos} {e : Expr} {es : List Expr} {t : TA}
theorem fc_call (c : Callee X.prog X.w X.K X.mg X.base k x ps sp) (hr : Room j X.A) (hk : k ≤ j) (hg : Gl X x) (tk : Takes X W) (ha : PA X (e :: es) t) (hdb : (x == ("__debug__" : Str)) = false := by decide) (he : starEach (e :: es) X.env = (false, eval e X.env) :: starEach es X.env := by rfl)
    (hpl : (backTo pos (starEach es X.env)).any (·.1) = false := by rfl) : PE X (.Call (.Name x p) (e :: es) [] pos) (tCallS sp (WE W) t) := by
  obtain ⟨f, fd, F, hm, hkp, hb⟩ := c.ex
  exact pe_callS F (hr.mono hk) hg hm hkp hb (fun σ => passAt tk σ) ha hdb he hpl
theorem fc_call0 (c : Callee X.prog X.w X.K X.mg X.base k x ps sp) (hr : Room j X.A) (hk : k ≤ j) (hg : Gl X x) (tk : Takes X W) (hdb : (x == ("__debug__" : Str)) = false := by decide) :
    PE X (.Call (.Name x p) [] [] pos) (fun σ H Q => sp [] H Q (WE W σ)) := by
  obtain ⟨f, fd, F, hm, hkp, hb⟩ := c.ex
  refine ⟨fun pins s σ H Q I h => ?_⟩
  refine wpAny_Call_Name_kw (ld_glob I hg hm ?_ hdb)
  exact PySem.W.callWith_K0 I.kIn hkp (run_fnS (us := []) F (hr.mono hk) hb (passAt tk σ) I .nil h)
end
section
variable {P : Program} {w : World} {K : PySem.W.Frag} {mg : Str → Option Value} {base : Heap}
/-- the rule of a def: its body as a term, its reading -/
theorem callee_of {x : Str} {st : Stmt} {N ps : List Str} {k : Nat} {sp : Sp} (F : FunAt K mg x st) (S : FnScope N ps (defScope st))
    (hb : ∀ (kV doc pm : Value) (an : Option Addr) (cdv ct : Value) (us : List Value), us.length = ps.length → bindArgs (PySem.W.fnOf x x (defArgs st) (defBody st) (defScope st) .none kV doc pm an cdv ct) ⟨us, []⟩ = pure (ps.zip us))
    (len : ∀ vs H Q E, sp vs H Q E → vs.length = ps.length)
    (hbody : ∀ (f : Addr) (cdv : Value) (A : Around) (outer : List Env) (s : Shared) (H : Hp) (vs : List V) (Q : VK) (E : XK), Room k (cxOf (L2.CX P w) P w K mg base N x (defScope st) f cdv A outer s H E).A →
      Takes (cxOf (L2.CX P w) P w K mg base N x (defScope st) f cdv A outer s H E) (fun cls d _ H => E cls d H) →
      PassesOwn (model P w) (cxOf (L2.CX P w) P w K mg base N x (defScope st) f cdv A outer s H E).A (cxOf (L2.CX P w) P w K mg base N x (defScope st) f cdv A outer s H E).env (cxOf (L2.CX P w) P w K mg base N x (defScope st) f cdv A outer s H E).xe → sp vs H Q E →
      ∃ t, PSs (cxOf (L2.CX P w) P w K mg base N x (defScope st) f cdv A outer s H E) (defBody st) t ∧ t { nx := fun _ H' => Q .non H', rt := Q } (start N vs) H) :
    Callee P w K mg base (k + 1) x ps sp := by
  obtain ⟨f, fd, F, hm⟩ := F.ex
  exact ⟨f, fd, F.okX S len fun cdv A outer s H vs Q E hr h => hbody f cdv A outer s H vs Q E hr (takes_of rfl rfl rfl rfl) (passes_of rfl) h, hm, F.kp, F.binds hb⟩
end
/-! ### calls of built-ins, subscripts, by what the values are -/
/-- the thing at a is of a type that T is none of -/
def RefTy (K : PySem.W.Frag) (H : Hp) (a : Addr) (c : Value) (b : Bool) : Prop := ∃ t, TyX K H (.ref a) t ∧ PySem.W.kitOne K t c = some b
def fIsTy (K : PySem.W.Frag) (n : String) : List V → Hp → VK → Prop := fun xs H Q => match xs with
  | [x, .ty m] => n = m ∧ match x with
    | .non => Q (.bl false) H
    | .bl _ => Q (.bl (n == "int" || n == "bool")) H
    | .int _ => Q (.bl (n == "int")) H
    | .str _ => Q (.bl (n == "str")) H
    | .ref a => ∃ b, RefTy K H a (.type n) b ∧ Q (.bl b) H
    | _ => False
  | _ => False
section
variable {X : Cx}
theorem kit_int1 {K : PySem.W.Frag} {n : String} (h : n = "int" ∨ n = "str" ∨ n = "tuple" ∨ n = "bool" ∨ n = "list" ∨ n = "dict") :
    PySem.W.kitOne K (.type "NoneType") (.type n) = some false ∧ PySem.W.kitOne K (.type "bool") (.type n) = some (n == "int" || n == "bool") ∧ PySem.W.kitOne K (.type "int") (.type n) = some (n == "int") ∧ PySem.W.kitOne K (.type "str") (.type n) = some (n == "str") := by
  rcases h with rfl | rfl | rfl | rfl | rfl | rfl <;> exact ⟨kit_ty (by decide +kernel), kit_ty (by decide +kernel), kit_ty (by decide +kernel), kit_ty (by decide +kernel)⟩
theorem f_isTy {n : String} (h : n = "int" ∨ n = "str" ∨ n = "tuple" ∨ n = "bool" ∨ n = "list" ∨ n = "dict") : CallR X (.builtin "isinstance") (fIsTy X.K n) := call_imp call_isi fun xs H Q q => by
  obtain ⟨k1, k2, k3, k4⟩ := kit_int1 (K := X.K) h
  unfold fIsTy at q
  split at q
  · rename_i x m
    obtain ⟨rfl, q⟩ := q
    cases x with
    | non => exact ⟨_, _, _, _, _, rfl, .ty _, .base .non, k1, q⟩
    | bl b => exact ⟨_, _, _, _, _, rfl, .ty _, .base (.bl _), k2, q⟩
    | int b => exact ⟨_, _, _, _, _, rfl, .ty _, .base (.int _), k3, q⟩
    | str b => exact ⟨_, _, _, _, _, rfl, .ty _, .base (.str _), k4, q⟩
    | ref a =>
      obtain ⟨b, ⟨t, ty, kt⟩, q⟩ := q
      exact ⟨_, _, _, _, _, rfl, .ty _, ty, kt, q⟩
    | byt _ => exact q.elim
    | flt _ => exact q.elim
    | ty _ => exact q.elim
  · exact q.elim
theorem f_isint : CallR X (.builtin "isinstance") (fIsTy X.K "int") := f_isTy (.inl rfl)
theorem f_isstr : CallR X (.builtin "isinstance") (fIsTy X.K "str") := f_isTy (.inr (.inl rfl))
theorem f_istup : CallR X (.builtin "isinstance") (fIsTy X.K "tuple") := f_isTy (.inr (.inr (.inl rfl)))
/-- a list or a tuple that is read -/
def Sq (K : PySem.W.Frag) (H : Hp) (a : Addr) (xs : List V) : Prop := SqL K H a xs ∨ SqT K H a xs
def fLen (K : PySem.W.Frag) : List V → Hp → VK → Prop := fun xs H Q => match xs with
  | [.str z] => z.length ≤ sizeLine ∧ Q (.int z.length) H
  | [.ref a] => ∃ ys, Sq K H a ys ∧ Q (.int ys.length) H
  | _ => False
theorem f_len : CallR X (.builtin "len") (fLen X.K) := fun pins s σ H xs us Q I r q => by
  unfold fLen at q
  split at q
  · exact call_len pins s σ H _ us Q I r ⟨_, _, rfl, ⟨q.1, rfl⟩, q.2⟩
  · obtain ⟨ys, h, q⟩ := q
    rcases h with h | h
    · exact call_len pins s σ H _ us Q I r ⟨_, _, rfl, .inl ⟨_, h, rfl⟩, q⟩
    · exact call_len pins s σ H _ us Q I r ⟨_, _, rfl, .inr ⟨_, h, rfl⟩, q⟩
  · exact q.elim
def fIx (K : PySem.W.Frag) : R2 := fun x y H Q => match x, y with
  | .str z, .int i => z.length ≤ sizeLine ∧ ∃ c, atI z.cps.toList i = some c ∧ Q (.str ⟨#[c]⟩) H
  | .ref a, .int i => ∃ ys v, Sq K H a ys ∧ atI ys i = some v ∧ Q v H
  | _, _ => False
theorem f_ix : IxR X (fIx X.K) := fun value slice pins s σ H x y v u Q I rx ry q hs => by
  unfold fIx at q
  split at q
  · obtain ⟨h, c, hc, q⟩ := q
    exact ix_str value slice pins s σ H _ _ v u Q I rx ry ⟨_, _, _, rfl, rfl, h, hc, q⟩ hs
  · obtain ⟨ys, z, h, hz, q⟩ := q
    rcases h with h | h
    · exact ix_list value slice pins s σ H _ _ v u Q I rx ry ⟨_, _, _, _, rfl, rfl, h, hz, q⟩ hs
    · exact ix_tup value slice pins s σ H _ _ v u Q I rx ry ⟨_, _, _, _, rfl, rfl, h, hz, q⟩ hs
  · exact q.elim
def fInt : List V → Hp → VK → Prop := fun xs H Q => match xs with
  | [.int i] => Q (.int i) H
  | [.bl k] => Q (.int (if k then 1 else 0)) H
  | _ => False
theorem f_int : CallR X (.type "int") fInt := call_imp call_int1 fun xs H Q q => by
  unfold fInt at q
  split at q
  · exact .inl ⟨_, rfl, q⟩
  · exact .inr ⟨_, rfl, q⟩
  · exact q.elim
def fAbs : List V → Hp → VK → Prop := fun xs H Q => match xs with
  | [.int i] => Q (.int ((i.natAbs : Nat) : Int)) H
  | _ => False
theorem f_abs : CallR X (.builtin "abs") fAbs := call_imp call_abs fun xs H Q q => by
  unfold fAbs at q
  split at q
  · rename_i i
    refine ⟨i, rfl, ?_⟩
    rw [show (if i < 0 then -i else i) = ((i.natAbs : Nat) : Int) by split <;> omega]
    exact q
  · exact q.elim
def fMax : List V → Hp → VK → Prop := fun xs H Q => match xs with
  | [.int i, .int j] => Q (.int (max i j)) H
  | _ => False
theorem f_max (hc : X.calm = true) : CallR X (.builtin "max") fMax := call_imp (call_max2 hc) fun xs H Q q => by
  unfold fMax at q
  split at q
  · rename_i i j
    refine ⟨i, j, rfl, ?_⟩
    rw [show (if j > i then j else i) = max i j by split <;> omega]
    exact q
  · exact q.elim
def fMin : List V → Hp → VK → Prop := fun xs H Q => match xs with
  | [.int i, .int j] => Q (.int (min i j)) H
  | _ => False
theorem f_min (hc : X.calm = true) : CallR X (.builtin "min") fMin := call_imp (call_min2 hc) fun xs H Q q => by
  unfold fMin at q
  split at q
  · rename_i i j
    refine ⟨i, j, rfl, ?_⟩
    rw [show (if j < i then j else i) = min i j by split <;> omega]
    exact q
  · exact q.elim
/-- xs[i] = v of a list -/
def fSetL : TSet := fun o i v H Q => match o, i with
  | .ref a, .int i => ∃ xs j, H a = some (.lst xs) ∧ ixN xs.length i = some j ∧ Q (upd H a (.lst (xs.set j v)))
  | _, _ => False
theorem f_setL : PSet X fSetL := fun pins s σ H o i v ov iv u Q I ro ri rv q => by
  unfold fSetL at q
  split at q
  · obtain ⟨xs, j, h, hj, q⟩ := q
    exact set_list pins s σ H _ _ v ov iv u Q I ro ri rv ⟨_, _, _, _, rfl, rfl, h, hj, q⟩
  · exact q.elim
end

/-! ### new objects -/
/-- a new object o, called p in the heap H': all that was stands as it was -/
def Fresh (H : Hp) (o : HO) (Q : VK) : Prop := ∀ p H', H p = none → Same H H' → H' p = some o → Q (.ref p) H'
theorem Fresh.go {H : Hp} {o : HO} {Q : VK} (h : Fresh H o Q) : ∀ p, H p = none → Q (.ref p) (upd H p o) :=
  fun p np => h p _ np (fun b u e => by rw [upd_ne (ne_of_none e np)]; exact e) upd_same
theorem Same.new {H : Hp} {p : Addr} {o : HO} (np : H p = none) : Same H (upd H p o) := fun b u e => by rw [upd_ne (ne_of_none e np)]; exact e
section
variable {X : Cx} {es : List Expr} {t : TA} {pos : Pos}
def tTupF (t : TA) : TE := fun σ H Q => t σ H fun xs H1 => xs.length ≤ sizeLine ∧ Fresh H1 (.tup xs) Q
def tLstF (t : TA) : TE := fun σ H Q => t σ H fun xs H1 => xs.length ≤ sizeLine ∧ Fresh H1 (.lst xs) Q
/-- what is wanted may be handed on weaker -/
def upA (t : TA) : TA := fun σ H Q => ∃ R, t σ H R ∧ ∀ vs H', R vs H' → Q vs H'
def upE (t : TE) : TE := fun σ H Q => ∃ R, t σ H R ∧ ∀ v H', R v H' → Q v H'
theorem pa_up {es : List Expr} {t : TA} (h : PA X es t) : PA X es (upA t) := ⟨fun pos pins s σ H Q I ⟨R, q, w⟩ => thn (h.run pos pins s σ H R I q) fun us s1 ⟨vs, H1, I1, r, q1⟩ => ⟨vs, H1, I1, r, w _ _ q1⟩⟩
theorem pe_up {e : Expr} {t : TE} (h : PE X e t) : PE X e (upE t) := ⟨fun pins s σ H Q I ⟨R, q, w⟩ => thn (h.run pins s σ H R I q) fun u s1 ⟨v, H1, I1, r, q1⟩ => ⟨v, H1, I1, r, w _ _ q1⟩⟩
theorem fe_tup {x1} (h : PA X es t) : PE X (.Tuple es x1 pos) (tTupF t) := pe_imp (pe_tup (pa_up h)) fun σ H Q q => ⟨_, q, fun xs H1 r => ⟨r.1, r.2.go⟩⟩
theorem fe_lst (h : PA X es t) : PE X (.List es pos) (tLstF t) := pe_imp (pe_lst (pa_up h)) fun σ H Q q => ⟨_, q, fun xs H1 r => ⟨r.1, r.2.go⟩⟩
def fCat : R2 := fun x y H Q => match x, y with
  | .ref a, .ref b => ∃ xs ys, H a = some (.lst xs) ∧ H b = some (.lst ys) ∧ xs.length + ys.length ≤ sizeLine ∧ Fresh H (.lst (xs ++ ys)) Q
  | _, _ => False
theorem f_cat : OpR X (binaryOp .Add) fCat := op_imp op_cat fun x y H Q q => by
  unfold fCat at q
  split at q
  · obtain ⟨xs, ys, h1, h2, h3, q⟩ := q
    exact ⟨_, _, _, _, rfl, rfl, h1, h2, h3, q.go⟩
  · exact q.elim
def fRep : R2 := fun x y H Q => match x, y with
  | .ref a, .int k => ∃ xs, H a = some (.lst xs) ∧ k < 2 ^ 63 ∧ -(2 ^ 63) ≤ k ∧ xs.length * k.toNat ≤ sizeLine ∧ Fresh H (.lst (List.replicate k.toNat xs).flatten) Q
  | _, _ => False
theorem f_rep : OpR X (binaryOp .Mult) fRep := op_imp op_rep fun x y H Q q => by
  unfold fRep at q
  split at q
  · obtain ⟨xs, h1, h2, h3, h4, q⟩ := q
    exact ⟨_, _, _, rfl, rfl, h1, h3, h2, h4, q.go⟩
  · exact q.elim
def fList (K : PySem.W.Frag) : List V → Hp → VK → Prop := fun xs H Q => match xs with
  | [.ref a] => ∃ ys, Sq K H a ys ∧ Fresh H (.lst ys) Q
  | _ => False
theorem f_list : CallR X (.type "list") (fList X.K) := call_imp call_list_of fun xs H Q q => by
  unfold fList at q
  split at q
  · obtain ⟨ys, h, q⟩ := q
    exact ⟨_, _, rfl, h, q.go⟩
  · exact q.elim
/-- tuple(a list) -/
def fTuple (K : PySem.W.Frag) : List V → Hp → VK → Prop := fun xs H Q => match xs with
  | [.ref a] => ∃ ys, SqL K H a ys ∧ Fresh H (.tup ys) Q
  | _ => False
theorem f_tuple : CallR X (.type "tuple") (fTuple X.K) := call_imp call_tuple_of fun xs H Q q => by
  unfold fTuple at q
  split at q
  · obtain ⟨ys, h, q⟩ := q
    exact ⟨_, _, rfl, .inl ⟨h, q.go⟩⟩
  · exact q.elim
theorem sl_imp {r r' : V → Option Int → Option Int → Hp → VK → Prop} (h : SlR X r) (w : ∀ x l u H Q, r' x l u H Q → r x l u H Q) : SlR X r' := fun pins s σ H x v vl vu lo hi sl Q I rx hs pl pu q => h pins s σ H x v vl vu lo hi sl Q I rx hs pl pu (w _ _ _ _ _ q)
def fSlL (K : PySem.W.Frag) : V → Option Int → Option Int → Hp → VK → Prop := fun x lo hi H Q => match x with
  | .ref a => ∃ xs, SqL K H a xs ∧ Fresh H (.lst (cutV xs lo hi)) Q
  | _ => False
theorem f_slL : SlR X (fSlL X.K) := sl_imp sl_list fun x l u H Q q => by
  unfold fSlL at q
  split at q
  · obtain ⟨xs, h, q⟩ := q
    exact ⟨_, _, rfl, h, q.go⟩
  · exact q.elim
def fSlS : V → Option Int → Option Int → Hp → VK → Prop := fun x lo hi H Q => match x with
  | .str z => z.length ≤ sizeLine ∧ Q (.str (cutS z lo hi)) H
  | _ => False
theorem f_slS : SlR X fSlS := sl_imp sl_str fun x l u H Q q => by
  unfold fSlS at q
  split at q
  · exact ⟨_, rfl, q.1, q.2⟩
  · exact q.elim
/-- d[k], d a dict that is known, k a text -/
def fDGet (td ty : TE) : TE := fun σ H Q => td σ H fun x H1 => ty σ H1 fun y H2 => match x, y with
  | .ref a, .str k => ∃ kvs v, H2 a = some (.dK kvs) ∧ valV kvs (Sum.inr k : Key) = some v ∧ Q v H2
  | .ref a, .int k => ∃ kvs v, H2 a = some (.dK kvs) ∧ valV kvs (Sum.inl k : Key) = some v ∧ Q v H2
  | _, _ => False
variable {o i : Expr} {td ty tv : TE} {te : TE}
theorem fe_dget (hu : X.A.units + 1 < cLine) (ho : PE X o td) (hi : PE X i ty) (hs : NoSl i) : PE X (.Subscript o i pos) (fDGet td ty) := pe_imp (pe_dget hu (pe_up ho) (pe_up hi) hs) fun σ H Q q => ⟨_, q, fun x H1 q1 => ⟨_, q1, fun y H2 q2 => by
    split at q2
    · obtain ⟨kvs, v, h, hv, q⟩ := q2
      exact ⟨_, _, rfl, hv ▸ DGet.k (k := Sum.inr _) h, q⟩
    · obtain ⟨kvs, v, h, hv, q⟩ := q2
      exact ⟨_, _, rfl, hv ▸ DGet.k (k := Sum.inl _) h, q⟩
    · exact q2.elim⟩⟩
/-- {x}, a text or an int -/
def tFmtF (te : TE) : TE := fun σ H Q => te σ H fun x H1 => match x with
  | .str y => y.length ≤ sizeLine ∧ Q (.str y) H1
  | .int i => i.natAbs.log2 < 1920 ∧ Q (.str (toString i)) H1
  | _ => False
theorem fe_fmt {e : Expr} (he : PE X e te) : PE X (.FormattedValue e (-1) none pos) (tFmtF te) := pe_imp (pe_fmt (pe_up he)) fun σ H Q q => ⟨_, q, fun x H1 q1 => by
    split at q1
    · exact .inl ⟨_, rfl, q1.1, q1.2⟩
    · exact .inr ⟨_, rfl, q1.1, q1.2⟩
    · exact q1.elim⟩
def fStr : List V → Hp → VK → Prop := fun xs H Q => match xs with
  | [.int i] => i.natAbs.log2 < 1920 ∧ Q (.str (toString i)) H
  | _ => False
theorem f_str : CallR X (.type "str") fStr := call_imp call_str_int fun xs H Q q => by
  unfold fStr at q
  split at q
  · exact ⟨_, rfl, q.1, q.2⟩
  · exact q.elim
end

/-! ### loops, turn by turn over what is walked -/
def Loop (st : Hp → Prop) (g : TG) (tb : TS) (D : Ends) : List V → L2.St → Hp → Prop
  | [] => fun σ H => D.nx σ H
  | x :: r => fun σ H => g x σ H fun σ2 H2 => tb { D with nx := fun σ' H' => st H' ∧ Loop st g tb D r σ' H', ct := fun σ' H' => st H' ∧ Loop st g tb D r σ' H', bk := D.nx } σ2 H2
theorem loop_it {J : It} {xs : List V} {st : Hp → Prop} {g : TG} {tb : TS} {D : Ends} {σ : L2.St} {H : Hp} (hgo : ∀ i H, i < xs.length → st H → J.go i H) (hyl : ∀ i H x H', st H → J.yld i H x H' → H' = H ∧ (i < xs.length → xs[i]? = some x))
    (hst : ∀ H, st H → J.stop xs.length H) (h0 : st H) (h : Loop st g tb D xs σ H) : ∃ W : Nat → Nat → L2.St → Hp → Prop, (∃ m, W 0 m σ H) ∧ ∀ i m σ H, W i m σ H →
      (J.stop i H ∧ D.nx σ H) ∨ (J.go i H ∧ ∃ N : L2.St → Hp → Prop, (∀ σ' H', N σ' H' → ∃ m', m' < m ∧ W (i + 1) m' σ' H') ∧ ∀ x H', J.yld i H x H' → g x σ H' fun σ2 H2 => tb { D with nx := N, ct := N, bk := D.nx } σ2 H2) := by
  refine ⟨fun i m σ H => m + i = xs.length ∧ st H ∧ Loop st g tb D (xs.drop i) σ H, ⟨xs.length, rfl, h0, h⟩, ?_⟩
  rintro i m σ H ⟨hm, hs, hl⟩
  by_cases hi : i < xs.length
  · right
    rw [List.drop_eq_getElem_cons hi] at hl
    refine ⟨hgo i H hi hs, fun σ' H' => st H' ∧ Loop st g tb D (xs.drop (i + 1)) σ' H', fun σ' H' ⟨a, b⟩ => ⟨m - 1, by omega, by omega, a, b⟩, fun x H' y => ?_⟩
    obtain ⟨rfl, hx⟩ := hyl i H x H' hs y
    have e : x = xs[i] := by
      have z := hx hi
      rw [List.getElem?_eq_getElem hi] at z
      exact (Option.some.inj z).symm
    subst e
    exact hl
  · left
    have e : i = xs.length := by omega
    subst e
    rw [List.drop_length] at hl
    exact ⟨hst H hs, hl⟩
/-- the same, each turn over a new pair -/
def LoopZ (st : Hp → Prop) (g : TG) (tb : TS) (D : Ends) : List (V × V) → L2.St → Hp → Prop
  | [] => fun σ H => D.nx σ H
  | p :: r => fun σ H => ∀ T H', H T = none → Same H H' → H' T = some (.tup [p.1, p.2]) → g (.ref T) σ H' fun σ2 H2 => tb { D with nx := fun σ' H' => st H' ∧ LoopZ st g tb D r σ' H', ct := fun σ' H' => st H' ∧ LoopZ st g tb D r σ' H', bk := D.nx } σ2 H2
theorem loopZ_it {J : It} {xs : List (V × V)} {st : Hp → Prop} {g : TG} {tb : TS} {D : Ends} {σ : L2.St} {H : Hp} (hgo : ∀ i H, i < xs.length → st H → J.go i H)
    (hyl : ∀ i H x H', st H → J.yld i H x H' → ∃ T, x = .ref T ∧ H T = none ∧ ∀ p, xs[i]? = some p → H' = upd H T (.tup [p.1, p.2]))
    (hst : ∀ H, st H → J.stop xs.length H) (h0 : st H) (h : LoopZ st g tb D xs σ H) : ∃ W : Nat → Nat → L2.St → Hp → Prop, (∃ m, W 0 m σ H) ∧ ∀ i m σ H, W i m σ H →
      (J.stop i H ∧ D.nx σ H) ∨ (J.go i H ∧ ∃ N : L2.St → Hp → Prop, (∀ σ' H', N σ' H' → ∃ m', m' < m ∧ W (i + 1) m' σ' H') ∧ ∀ x H', J.yld i H x H' → g x σ H' fun σ2 H2 => tb { D with nx := N, ct := N, bk := D.nx } σ2 H2) := by
  refine ⟨fun i m σ H => m + i = xs.length ∧ st H ∧ LoopZ st g tb D (xs.drop i) σ H, ⟨xs.length, rfl, h0, h⟩, ?_⟩
  rintro i m σ H ⟨hm, hs, hl⟩
  by_cases hi : i < xs.length
  · right
    rw [List.drop_eq_getElem_cons hi] at hl
    refine ⟨hgo i H hi hs, fun σ' H' => st H' ∧ LoopZ st g tb D (xs.drop (i + 1)) σ' H', fun σ' H' ⟨a, b⟩ => ⟨m - 1, by omega, by omega, a, b⟩, fun x H' y => ?_⟩
    obtain ⟨T, rfl, nT, z⟩ := hyl i H x H' hs y
    have e := z _ (List.getElem?_eq_getElem hi)
    subst e
    exact hl T _ nT (Same.new nT) upd_same
  · left
    have e : i = xs.length := by omega
    subst e
    rw [List.drop_length] at hl
    exact ⟨hst H hs, hl⟩
/-- an invariant of a loop over a row -/
theorem Loop.by {st : Hp → Prop} {g : TG} {tb : TS} {D : Ends} (Pv : List V → L2.St → Hp → Prop)
    (hs : ∀ x r σ H, Pv (x :: r) σ H → ∀ N : L2.St → Hp → Prop, (∀ σ' H', st H' → Pv r σ' H' → N σ' H') → g x σ H fun σ2 H2 => tb { D with nx := N, ct := N, bk := D.nx } σ2 H2)
    (hd : ∀ σ H, Pv [] σ H → D.nx σ H) : ∀ (xs : List V) (σ : L2.St) (H : Hp), Pv xs σ H → Loop st g tb D xs σ H
  | [], σ, H, h => hd σ H h
  | x :: r, σ, H, h => hs x r σ H h _ fun σ' H' a b => ⟨a, Loop.by Pv hs hd r σ' H' b⟩
theorem ps_imp {X : Cx} {st : Stmt} {t t' : TS} (h : PS X st t) (w : ∀ D σ H, t' D σ H → t D σ H) : PS X st t' := ⟨fun pins s σ H D I q => h.run pins s σ H D I (w D σ H q)⟩
section
variable {X : Cx} {tg e : Expr} {body : List Stmt} {tl : TE} {g : TG} {tb : TS} {pos : Pos} {ta : TA}
/-- lo, lo + 1, .. -/
def rgI (lo : Int) (n : Nat) : List V := (List.range n).map fun (i : Nat) => V.int (lo + i)
theorem rgI_get {lo : Int} {n i : Nat} (h : i < n) : (rgI lo n)[i]? = some (.int (lo + i)) := by
  unfold rgI
  rw [List.getElem?_map, List.getElem?_range h]
  rfl
theorem rgI_len (lo : Int) (n : Nat) : (rgI lo n).length = n := by simp [rgI]
def rgC (lo c : Int) (n : Nat) : List V := (List.range n).map fun (i : Nat) => V.int (lo + i * c)
theorem rgC_len (lo c : Int) (n : Nat) : (rgC lo c n).length = n := by simp [rgC]
/-- the signs of a text -/
def signs (z : Str) : List V := z.cps.toList.map fun c => V.str ⟨#[c]⟩
/-- what an iterator yields while st stands -/
structure JOk (J : It) (xs : List V) (st : Hp → Prop) : Prop where
  go : ∀ i H, i < xs.length → st H → J.go i H
  yl : ∀ i H x H', st H → J.yld i H x H' → H' = H ∧ (i < xs.length → xs[i]? = some x)
  stp : ∀ H, st H → J.stop xs.length H
abbrev TW := L2.St → Hp → (List V → (Hp → Prop) → Hp → Prop) → Prop
def wiOf (w : TW) : TI := fun σ H R => w σ H fun xs st H1 => st H1 ∧ ∀ J, JOk J xs st → R J H1
theorem pi_imp {w w' : TI} (h : PI X tg e w) (k : ∀ σ H R, w' σ H R → w σ H R) : PI X tg e w' := ⟨fun pins s σ H R I q => h.run pins s σ H R I (k σ H R q)⟩
def wL (K : PySem.W.Frag) (tl : TE) : TW := fun σ H R => tl σ H fun x H1 => match x with
  | .ref a => ∃ xs, SqL K H1 a xs ∧ R xs (fun H => SqL K H a xs) H1
  | _ => False
def wT (K : PySem.W.Frag) (tl : TE) : TW := fun σ H R => tl σ H fun x H1 => match x with
  | .ref a => ∃ xs, SqT K H1 a xs ∧ R xs (fun H => SqT K H a xs) H1
  | _ => False
def wS (tl : TE) : TW := fun σ H R => tl σ H fun x H1 => match x with
  | .str z => R (signs z) (fun _ => True) H1
  | _ => False
def wR1 (ta : TA) : TW := fun σ H R => ta σ H fun vs H1 => match vs with
  | [.int j] => (j < 2 ^ 62 ∧ -(2 ^ 62) ≤ j) ∧ R (rgI 0 j.toNat) (fun _ => True) H1
  | _ => False
def wR2 (ta : TA) : TW := fun σ H R => ta σ H fun vs H1 => match vs with
  | [.int i, .int j] => (-(2 ^ 62) ≤ i ∧ i < 2 ^ 62 ∧ -(2 ^ 62) ≤ j ∧ j < 2 ^ 62) ∧ R (rgI i (j - i).toNat) (fun _ => True) H1
  | _ => False
def wR3 (ta : TA) : TW := fun σ H R => ta σ H fun vs H1 => match vs with
  | [.int i, .int j, .int k] => ∃ n, RgC i j k n ∧ R (rgC i k n) (fun _ => True) H1
  | _ => False
theorem jok_L {K : PySem.W.Frag} {a : Addr} {xs : List V} : JOk (Itl K a) xs (fun H => SqL K H a xs) := ⟨fun i H hi h => ⟨xs, xs[i], h, List.getElem?_eq_getElem hi⟩, fun i H x H' h y => ⟨y.1, fun _ => y.2 _ h⟩, fun H h => ⟨xs, h, Nat.le_refl _⟩⟩
theorem jok_T {K : PySem.W.Frag} {a : Addr} {xs : List V} : JOk (Itt K a) xs (fun H => SqT K H a xs) := ⟨fun i H hi h => ⟨xs, xs[i], h, List.getElem?_eq_getElem hi⟩, fun i H x H' h y => ⟨y.1, fun _ => y.2 _ h⟩, fun H h => ⟨xs, h, Nat.le_refl _⟩⟩
theorem jok_R {lo : Int} {n : Nat} : JOk (Itr lo n) (rgI lo n) (fun _ => True) := ⟨fun i H hi _ => by rw [rgI_len] at hi; exact hi, fun i H x H' _ y => ⟨y.1, fun hi => by rw [rgI_len] at hi; rw [rgI_get hi, y.2]⟩, fun H _ => by rw [rgI_len]; exact Nat.le_refl _⟩
theorem jok_C {lo c : Int} {n : Nat} : JOk (Itc lo c n) (rgC lo c n) (fun _ => True) := by
  refine ⟨fun i H hi _ => by rw [rgC_len] at hi; exact hi, fun i H x H' _ y => ⟨y.1, fun hi => ?_⟩, fun H _ => by rw [rgC_len]; exact Nat.le_refl _⟩
  rw [rgC_len] at hi
  unfold rgC
  rw [List.getElem?_map, List.getElem?_range hi, y.2]
  rfl
theorem jok_S {z : Str} : JOk (Its z) (signs z) (fun _ => True) := by
  have el : (signs z).length = z.cps.size := by simp [signs]
  refine ⟨fun i H hi _ => by rw [el] at hi; exact hi, fun i H x H' _ y => ⟨y.1, fun hi => ?_⟩, fun H _ => by rw [el]; exact Nat.le_refl _⟩
  obtain ⟨_, c, hc, rfl⟩ := y
  unfold signs
  rw [List.getElem?_map, Array.getElem?_toList, hc]
  rfl
/-- what a row of TW wants may be handed on weaker -/
def upW (w : TW) : TW := fun σ H R => ∃ R0, w σ H R0 ∧ ∀ xs st H', R0 xs st H' → R xs st H'
theorem fi_L (hi : PE X e tl) : PI X tg e (wiOf (upW (wL X.K tl))) := pi_imp (pi_list (pe_up hi)) fun σ H R ⟨R0, q0, k⟩ => ⟨_, q0, fun x H1 q1 => by
  split at q1
  · obtain ⟨xs, h, r⟩ := q1
    obtain ⟨h1, q⟩ := k _ _ _ r
    exact ⟨_, rfl, ⟨_, h⟩, q _ jok_L⟩
  · exact q1.elim⟩
theorem fi_T (hi : PE X e tl) : PI X tg e (wiOf (upW (wT X.K tl))) := pi_imp (pi_tup (pe_up hi)) fun σ H R ⟨R0, q0, k⟩ => ⟨_, q0, fun x H1 q1 => by
  split at q1
  · obtain ⟨xs, h, r⟩ := q1
    obtain ⟨h1, q⟩ := k _ _ _ r
    exact ⟨_, rfl, ⟨_, h⟩, q _ jok_T⟩
  · exact q1.elim⟩
theorem fi_S (hi : PE X e tl) : PI X tg e (wiOf (upW (wS tl))) := pi_imp (pi_str (pe_up hi)) fun σ H R ⟨R0, q0, k⟩ => ⟨_, q0, fun x H1 q1 => by
  split at q1
  · exact ⟨_, rfl, (k _ _ _ q1).2 _ jok_S⟩
  · exact q1.elim⟩
theorem fi_R1 {a : Expr} {p : Pos} (hgl : Gl X "range") (hm : X.mg "range" = none) (ha : PA X [a] ta) (hst : starEach [a] X.env = [(false, eval a X.env)] := by rfl) : PI X tg (.Call (.Name "range" p) [a] [] pos) (wiOf (upW (wR1 ta))) := pi_imp (pi_range1 hgl hm (pa_up ha) hst) fun σ H R ⟨R0, q0, k⟩ => ⟨_, q0, fun vs H1 q1 => by
  split at q1
  · exact ⟨_, rfl, q1.1.2, q1.1.1, (k _ _ _ q1.2).2 _ jok_R⟩
  · exact q1.elim⟩
theorem fi_R2 {a b : Expr} {p : Pos} (hgl : Gl X "range") (hm : X.mg "range" = none) (ha : PA X [a, b] ta) (hst : starEach [a, b] X.env = [(false, eval a X.env), (false, eval b X.env)] := by rfl) (hst2 : starEach [b] X.env = [(false, eval b X.env)] := by rfl) :
    PI X tg (.Call (.Name "range" p) [a, b] [] pos) (wiOf (upW (wR2 ta))) := pi_imp (pi_range2 hgl hm (pa_up ha) hst hst2) fun σ H R ⟨R0, q0, k⟩ => ⟨_, q0, fun vs H1 q1 => by
  split at q1
  · exact ⟨_, _, rfl, q1.1, (k _ _ _ q1.2).2 _ jok_R⟩
  · exact q1.elim⟩
theorem fi_R3 {a b c : Expr} {p : Pos} (hgl : Gl X "range") (hm : X.mg "range" = none) (ha : PA X [a, b, c] ta) (hst : starEach [a, b, c] X.env = (false, eval a X.env) :: starEach [b, c] X.env := by rfl) (hpl : (backTo pos (starEach [b, c] X.env)).any (·.1) = false := by rfl) :
    PI X tg (.Call (.Name "range" p) [a, b, c] [] pos) (wiOf (upW (wR3 ta))) := pi_imp (pi_range3 hgl hm (pa_up ha) hst hpl) fun σ H R ⟨R0, q0, k⟩ => ⟨_, q0, fun vs H1 q1 => by
  split at q1
  · obtain ⟨n, h, r⟩ := q1
    obtain ⟨h1, q⟩ := k _ _ _ r
    exact ⟨_, _, _, n, rfl, h, q _ jok_C⟩
  · exact q1.elim⟩
/-- for -/
def tForW (w : TW) (g : TG) (tb : TS) : TS := fun D σ H => w σ H fun xs st H1 => st H1 ∧ Loop st g tb D xs σ H1
theorem fs_for {w : TW} (hp : PassesOwn (model X.prog X.w) X.A X.env X.xe) (hc : X.calm = true) (h : PI X tg e (wiOf (upW w))) (hg : PG X tg g) (hb : PSs X body tb) (hs : ∀ x, foldedSetIterable e X.env x = pure x := by intro _; rfl) :
    PS X (.For tg e body [] pos) (tForW w g tb) := ps_imp (ps_for hp hc h hg hb hs) fun D σ H q => ⟨_, q, fun xs st H' ⟨h1, l⟩ => ⟨h1, fun J j => loop_it j.go j.yl j.stp h1 l⟩⟩
end
section
variable {X : Cx} {tg e : Expr} {body : List Stmt} {tl : TE} {g : TG} {tb : TS} {pos : Pos} {ta : TA}
/-- zip of two tuples, of two lists -/
theorem fs_forZ {e e2 : Expr} {p tpos : Pos} {elts : List Expr} {kk : Nat} (hp : PassesOwn (model X.prog X.w) X.A X.env X.xe) (hc : X.calm = true) (hgl : Gl X "zip") (hm : X.mg "zip" = none) (ha : PA X [e, e2] ta) (hg : PG X (.Tuple elts kk tpos) g) (hb : PSs X body tb)
    (hst : starEach [e, e2] X.env = (false, eval e X.env) :: starEach [e2] X.env := by rfl) (hpl : (backTo pos (starEach [e2] X.env)).any (·.1) = false := by rfl) (hs : ∀ x, foldedSetIterable (.Call (.Name "zip" p) [e, e2] [] pos) X.env x = pure x := by intro _; rfl) {pos' : Pos} :
    PS X (.For (.Tuple elts kk tpos) (.Call (.Name "zip" p) [e, e2] [] pos) body [] pos') (fun D σ H => ta σ H fun vs H1 => match vs with
      | [.ref a, .ref b] => ∃ xs ys, (SqT X.K H1 a xs ∧ SqT X.K H1 b ys) ∧ xs.length = ys.length ∧ LoopZ (fun H => SqT X.K H a xs ∧ SqT X.K H b ys) g tb D (xs.zip ys) σ H1
      | _ => False) := ps_imp (ps_for hp hc (RZ.pi_zipA hgl hm (pa_up ha) hst hpl) hg hb hs) fun D σ H q => ⟨_, q, fun vs H1 q1 => by
  split at q1
  · rename_i a b
    obtain ⟨xs, ys, hxy, hl, q⟩ := q1
    have hz : (xs.zip ys).length = xs.length := by rw [List.length_zip, hl, Nat.min_self]
    refine ⟨a, b, xs, ys, rfl, .inr ⟨hxy.1, hxy.2, loopZ_it (J := RZ.ItzT X.K a b) (st := fun H => SqT X.K H a xs ∧ SqT X.K H b ys) (fun i H hi h => ?_) (fun i H x H' h y => ?_) (fun H h => ?_) hxy q⟩⟩
    · rw [hz] at hi
      exact ⟨xs, ys, xs[i], ys[i]'(hl ▸ hi), h.1, h.2, List.getElem?_eq_getElem hi, List.getElem?_eq_getElem (hl ▸ hi)⟩
    · obtain ⟨T, x1, x2, rfl, nT, rfl, f1, f2⟩ := y
      refine ⟨T, rfl, nT, fun p hp => ?_⟩
      rw [List.getElem?_zip_eq_some] at hp
      have e1 := (f1 _ h.1).symm.trans hp.1
      have e2 := (f2 _ h.2).symm.trans hp.2
      rw [Option.some.inj e1, Option.some.inj e2]
    · exact ⟨xs, ys, h.1, h.2, .inl (by rw [hz]; exact Nat.le_refl _)⟩
  · exact q1.elim⟩
end

/-! ### changes -/
/-- all but what stands at a is as it was -/
def But (a : Addr) (H H' : Hp) : Prop := ∀ b o, b ≠ a → H b = some o → H' b = some o
theorem But.upd {a : Addr} {H : Hp} {o : HO} : But a H (L2.upd H a o) := fun b u n e => by rw [upd_ne n]; exact e
theorem But.of {a : Addr} {H H' : Hp} (h : Same H H') : But a H H' := fun b o _ e => h b o e
theorem But.trans {a : Addr} {H H1 H2 : Hp} (x : But a H H1) (y : But a H1 H2) : But a H H2 := fun b o n e => y b o n (x b o n e)
/-- what is new to H0 may change -/
theorem Same.but {a : Addr} {H0 H H' : Hp} (s : Same H0 H) (n : H0 a = none) (b : But a H H') : Same H0 H' := fun c o e => b c o (ne_of_none e n) (s c o e)
theorem Same.get {H H' : Hp} {b : Addr} {o : HO} (s : Same H H') (e : H b = some o) : H' b = some o := s b o e
theorem But.get {a : Addr} {H H' : Hp} {b : Addr} {o u : HO} (s : But a H H') (e : H b = some o) (ha : H a = some u) (d : o ≠ u) : H' b = some o := s b o (ne_of e ha d) e
theorem SqT.same {K : PySem.W.Frag} {H H' : Hp} {a : Addr} {xs : List V} (e : Same H H') (h : SqT K H a xs) : SqT K H' a xs := by
  rcases h with (h | ⟨o, h⟩) | h
  · exact .inl (.inl (e _ _ h))
  · exact .inl (.inr ⟨o, e _ _ h⟩)
  · exact .inr h
theorem Sq.same {K : PySem.W.Frag} {H H' : Hp} {a : Addr} {xs : List V} (e : Same H H') (h : Sq K H a xs) : Sq K H' a xs := by
  rcases h with h | h
  · exact .inl (e.seq h)
  · exact .inr (SqT.same e h)
/-- the object at a becomes o -/
def Chg (H : Hp) (a : Addr) (o : HO) (Q : Hp → Prop) : Prop := ∀ H', But a H H' → H' a = some o → Q H'
theorem Chg.go {H : Hp} {a : Addr} {o : HO} {Q : Hp → Prop} (h : Chg H a o Q) : Q (upd H a o) := h _ But.upd upd_same
section
variable {X : Cx} {o e i : Expr} {to te ti : TE} {pos apos cpos pos' : Pos}
/-- xs.append(e) -/
def tApp (to te : TE) : TE := fun σ H Q => to σ H fun x H1 => match x with
  | .ref l => (∃ ys, H1 l = some (.lst ys)) ∧ te σ H1 fun y H2 => ∃ xs, H2 l = some (.lst xs) ∧ xs.length < sizeLine ∧ Chg H2 l (.lst (xs ++ [y])) (Q .non)
  | _ => False
theorem fe_append (ho : PE X o to) (he : PE X e te) (hbase : attributeBase o "append" X.env (eval o X.env) = eval o X.env := by rfl)
    (hfew : ((backTo cpos (starEach [e] X.env)).all (fun x => !x.1) && (backToKw cpos (keywordEach [] X.env)).all (fun x => x.1.isSome)
      && decide ([e].length + ([] : List Keyword).length + (if ([] : List Keyword).isEmpty then 0 else 1) < 30)) = true := by rfl)
    (hline : (apos.endLine == cpos.line) = true := by rfl) (hs : starEach [e] X.env = (false, eval e X.env) :: starEach [] X.env := by rfl) (hplain : (backTo cpos (starEach [] X.env)).any (·.1) = false := by rfl) :
    PE X (.Call (.Attribute o "append" apos) [e] [] cpos) (tApp to te) :=
  pe_imp (pe_bm PySem.F.plainAttrs_list PySem.F.slot_list_append PySem.F.type_list_append mt_append (pe_up ho) (pa_cons (pe_up he) pa_nil hs) hbase hfew hline hs hplain) fun σ H Q q => ⟨_, q, fun x H1 q1 => by
    split at q1
    · rename_i l
      obtain ⟨⟨ys, hy⟩, q1⟩ := q1
      refine ⟨.inl ⟨rfl, ys, .of hy⟩, ?_⟩
      exact ⟨_, q1, fun y H2 ⟨xs, h1, h2, q2⟩ => ⟨l, xs, y, rfl, rfl, h1, h2, q2.go⟩⟩
    · exact q1.elim⟩
/-- d[k] = e -/
def tDPut (td ty tv : TE) : TS := fun D σ H => tv σ H fun v H1 => td σ H1 fun x H2 => ty σ H2 fun y H3 => match x, y with
  | .ref a, .str k => ∃ kvs, H3 a = some (.dK kvs) ∧ kvs.length < sizeLine ∧ Chg H3 a (.dK (putK kvs (Sum.inr k : Key) v)) (D.nx σ)
  | .ref a, .int k => ∃ kvs, H3 a = some (.dK kvs) ∧ kvs.length < sizeLine ∧ Chg H3 a (.dK (putK kvs (Sum.inl k : Key) v)) (D.nx σ)
  | _, _ => False
theorem fs_dput {value : Expr} {td ty tv : TE} (hu : X.A.units + 1 < cLine) (ho : PE X o td) (hi : PE X i ty) (hv : PE X value tv) (hs : swapsWith value (some (.Subscript o i pos')) pos.line X.env = pure false := by rfl) :
    PS X (.Assign [.Subscript o i pos'] value pos) (tDPut td ty tv) := ps_imp (ps_dput hu (pe_up ho) (pe_up hi) (pe_up hv) hs) fun D σ H q => ⟨_, q, fun v H1 q1 => ⟨_, q1, fun x H2 q2 => ⟨_, q2, fun y H3 q3 => by
    split at q3
    · obtain ⟨kvs, h, hl, q⟩ := q3
      exact ⟨_, _, rfl, DPut.k (k := Sum.inr _) h hl, q.go⟩
    · obtain ⟨kvs, h, hl, q⟩ := q3
      exact ⟨_, _, rfl, DPut.k (k := Sum.inl _) h hl, q.go⟩
    · exact q3.elim⟩⟩⟩
/-- xs[i] = v of a list; d[k] = v (as targets) -/
def gSetL : TSet := fun o i v H Q => match o, i with
  | .ref a, .int i => ∃ xs j, H a = some (.lst xs) ∧ ixN xs.length i = some j ∧ Chg H a (.lst (xs.set j v)) Q
  | _, _ => False
theorem g_setL : PSet X gSetL := fun pins s σ H o i v ov iv u Q I ro ri rv q => by
  unfold gSetL at q
  split at q
  · obtain ⟨xs, j, h, hj, q⟩ := q
    exact set_list pins s σ H _ _ v ov iv u Q I ro ri rv ⟨_, _, _, _, rfl, rfl, h, hj, q.go⟩
  · exact q.elim
def gSetD : TSet := fun o i v H Q => match o, i with
  | .ref a, .str k => ∃ kvs, H a = some (.dK kvs) ∧ kvs.length < sizeLine ∧ Chg H a (.dK (putK kvs (Sum.inr k : Key) v)) Q
  | .ref a, .int k => ∃ kvs, H a = some (.dK kvs) ∧ kvs.length < sizeLine ∧ Chg H a (.dK (putK kvs (Sum.inl k : Key) v)) Q
  | _, _ => False
theorem g_setD (hu : X.A.units + 1 < cLine) : PSet X gSetD := fun pins s σ H o i v ov iv u Q I ro ri rv q => by
  unfold gSetD at q
  split at q
  · obtain ⟨kvs, h, hl, q⟩ := q
    exact set_dict hu pins s σ H _ _ v ov iv u Q I ro ri rv ⟨_, _, rfl, DPut.k (k := Sum.inr _) h hl, q.go⟩
  · obtain ⟨kvs, h, hl, q⟩ := q
    exact set_dict hu pins s σ H _ _ v ov iv u Q I ro ri rv ⟨_, _, rfl, DPut.k (k := Sum.inl _) h hl, q.go⟩
  · exact q.elim
/-! ### fields of instances -/
/-- a class of the text: where it stands, its name in the module -/
structure ClsAt (K : PySem.W.Frag) (mg : Str → Option Value) (x : Str) (C : Addr) : Prop where
  cl : Cls K C
  g : mg x = some (.ref C)
def tFldF (C : Addr) (f : Str) (te : TE) : TE := fun σ H Q => te σ H fun x H1 => match x with
  | .ref a => ∃ dx fs v, H1 a = some (.ins C dx fs) ∧ fs.lookup f = some v ∧ Q v H1
  | _ => False
theorem fe_fld {C : Addr} {f : Str} (c : Cls X.K C) (n : NoAttr X.K C f) (he : PE X e te) (hb : attributeBase e f X.env (eval e X.env) = eval e X.env := by rfl) : PE X (.Attribute e f pos) (tFldF C f te) :=
  pe_imp (pe_fld (pe_up he) hb) fun σ H Q q => ⟨_, q, fun x H1 q1 => by
    split at q1
    · obtain ⟨dx, fs, v, h, hl, q⟩ := q1
      exact ⟨_, _, _, _, _, rfl, h, c, n, hl, q⟩
    · exact q1.elim⟩
def tSetF (C : Addr) (f : Str) (to te : TE) : TS := fun D σ H => te σ H fun y H1 => to σ H1 fun x H2 => match x with
  | .ref a => ∃ dx fs, H2 a = some (.ins C dx fs) ∧ fs.length < 1000 ∧ Chg H2 a (.ins C dx (putF f y fs)) (D.nx σ)
  | _ => False
theorem fs_fld {C : Addr} {f : Str} {value : Expr} {tv : TE} (c : Cls X.K C) (n : NoAttr X.K C f) (ho : PE X o to) (hv : PE X value tv) (hs : swapsWith value (some (.Attribute o f pos')) pos.line X.env = pure false := by rfl) :
    PS X (.Assign [.Attribute o f pos'] value pos) (tSetF C f to tv) := ps_imp (ps_fld (pe_up ho) (pe_up hv) hs) fun D σ H q => ⟨_, q, fun y H1 q1 => ⟨_, q1, fun x H2 q2 => by
    split at q2
    · obtain ⟨dx, fs, h, hl, q⟩ := q2
      exact ⟨_, _, _, _, rfl, h, c, n, hl, q.go⟩
    · exact q2.elim⟩⟩
end
/-! ### comprehensions, item by item -/
/-- the items are told by f, objects may be made on the way -/
def Comp (st : Hp → Prop) (g : TG) (tt : TT) (te : TE) (vs : List Nat) (σ : L2.St) (D : Addr) (Q : Hp → Prop) : List V → Hp → Prop
  | [] => fun H => Q H
  | x :: r => fun H => g x (wipe σ vs) H fun σ2 H2 => wipe σ2 vs = wipe σ vs ∧ tt σ2 H2 fun b H3 =>
    if b = true then te σ2 H3 fun y H4 => ∃ acc, H4 D = some (.lst acc) ∧ acc.length < sizeLine ∧ st (upd H4 D (.lst (acc ++ [y]))) ∧ Comp st g tt te vs σ D Q r (upd H4 D (.lst (acc ++ [y]))) else st H3 ∧ Comp st g tt te vs σ D Q r H3
theorem comp_it {J : It} {xs : List V} {st : Hp → Prop} {g : TG} {tt : TT} {te : TE} {vs : List Nat} {σ : L2.St} {D : Addr} {H1 : Hp} {Q : Hp → Prop} (hgo : ∀ i H, i < xs.length → st H → J.go i H) (hyl : ∀ i H x H', st H → J.yld i H x H' → H' = H ∧ (i < xs.length → xs[i]? = some x))
    (hst : ∀ H, st H → J.stop xs.length H) (h0 : st (upd H1 D (.lst []))) (h : Comp st g tt te vs σ D Q xs (upd H1 D (.lst []))) : ∃ W : Nat → Nat → Hp → Prop, (∃ m, W 0 m (upd H1 D (.lst []))) ∧ ∀ i m H, W i m H →
      (J.stop i H ∧ Q H) ∨ (J.go i H ∧ ∃ Nx : Hp → Prop, (∀ H', Nx H' → ∃ m', m' < m ∧ W (i + 1) m' H') ∧ ∀ x H', J.yld i H x H' → g x (wipe σ vs) H' fun σ2 H2 => wipe σ2 vs = wipe σ vs ∧ tt σ2 H2 fun b H3 =>
        if b = true then te σ2 H3 fun y H4 => ∃ acc, H4 D = some (.lst acc) ∧ acc.length < sizeLine ∧ Nx (upd H4 D (.lst (acc ++ [y]))) else Nx H3) := by
  refine ⟨fun i m H => m + i = xs.length ∧ st H ∧ Comp st g tt te vs σ D Q (xs.drop i) H, ⟨xs.length, rfl, h0, h⟩, ?_⟩
  rintro i m H ⟨hm, hs, hl⟩
  by_cases hi : i < xs.length
  · right
    rw [List.drop_eq_getElem_cons hi] at hl
    refine ⟨hgo i H hi hs, fun H' => st H' ∧ Comp st g tt te vs σ D Q (xs.drop (i + 1)) H', fun H' ⟨a, b⟩ => ⟨m - 1, by omega, by omega, a, b⟩, fun x H' y => ?_⟩
    obtain ⟨rfl, hx⟩ := hyl i H x H' hs y
    have e : x = xs[i] := by
      have z := hx hi
      rw [List.getElem?_eq_getElem hi] at z
      exact (Option.some.inj z).symm
    subst e
    exact hl
  · left
    have e : i = xs.length := by omega
    subst e
    rw [List.drop_length] at hl
    exact ⟨hst H hs, hl⟩
/-- each item by a function; what is made on the way stands beside -/
theorem Comp.map {st : Hp → Prop} {g : TG} {te : TE} {vs : List Nat} {σ : L2.St} {D : Addr} {Q : Hp → Prop} {H0 : Hp} (f : V → V) (n0 : H0 D = none) (hst : ∀ H, Same H0 H → st H)
    (hx : ∀ (x : V) (H : Hp) (R : VK), Same H0 H → (∀ H', Same H H' → R (f x) H') → g x (wipe σ vs) H fun σ2 H2 => wipe σ2 vs = wipe σ vs ∧ te σ2 H2 R) :
    ∀ (xs : List V) (acc : List V) (H : Hp), acc.length + xs.length ≤ sizeLine → Same H0 H → H D = some (.lst acc) → (∀ H', Same H0 H' → H' D = some (.lst (acc ++ xs.map f)) → Q H') → Comp st g tYes te vs σ D Q xs H
  | [], acc, H, _, s, hD, q => q H s (by rw [List.map_nil, List.append_nil]; exact hD)
  | x :: r, acc, H, hl, s, hD, q => by
    rw [List.length_cons] at hl
    have k := hx x H (fun y H4 => ∃ acc, H4 D = some (.lst acc) ∧ acc.length < sizeLine ∧ st (upd H4 D (.lst (acc ++ [y]))) ∧ Comp st g tYes te vs σ D Q r (upd H4 D (.lst (acc ++ [y])))) s fun H' s' => by
      have s2 : Same H0 (upd H' D (.lst (acc ++ [f x]))) := Same.but (s.trans s') n0 But.upd
      refine ⟨acc, s' _ _ hD, by omega, hst _ s2, ?_⟩
      refine Comp.map f n0 hst hx r (acc ++ [f x]) _ (by rw [List.length_append, List.length_singleton]; omega) s2 upd_same fun H2 s3 e => q H2 s3 ?_
      rw [e, List.append_assoc]
      rfl
    exact k

section
variable {X : Cx} {elt tg iter : Expr} {ifs : List Expr} {scope : Scope} {own : List (Str × Nat)} {pos : Pos} {g : TG} {tt : TT} {te : TE} {w : TW}
def tLcW (w : TW) (g : TG) (tt : TT) (te : TE) (vs : List Nat) : TE := fun σ H Q => w σ H fun xs st H1 => st H1 ∧ ∀ D H2, H1 D = none → Same H1 H2 → H2 D = some (.lst []) → st H2 ∧ Comp st g tt te vs σ D (Q (.ref D)) xs H2
theorem fe_lc (hc : X.calm = true) (hN : X.N.Nodup) (hi : PI X tg iter (wiOf (upW w))) (ok : BlkOk X.N X.env.scope scope own)
    (hg : ∀ (s : Shared) (H : Hp) (C : Addr) (cl : List (Str × Addr)) (fp : List Addr), PG (X.blk s H scope (compEnvC scope cl C X.env) fp) tg g) (ht : ∀ (s : Shared) (H : Hp) (C : Addr) (cl : List (Str × Addr)) (fp : List Addr), PTs (X.blk s H scope (compEnvC scope cl C X.env) fp) ifs tt)
    (he : ∀ (s : Shared) (H : Hp) (C : Addr) (cl : List (Str × Addr)) (fp : List Addr), PE (X.blk s H scope (compEnvC scope cl C X.env) fp) elt te) (hs : ∀ x, foldedSetIterable iter X.env x = pure x := by intro _; rfl) :
    PE X (.ListComp elt [⟨tg, iter, ifs, 0⟩] scope pos) (tLcW w g tt te (own.map (·.2))) := pe_imp (pe_lc hc hN hi ok hg ht he hs) fun σ H Q q => ⟨_, q, fun xs st H1 ⟨h1, k⟩ => ⟨h1, fun J j D n => by
    obtain ⟨h2, c⟩ := k D _ n (Same.new n) upd_same
    exact comp_it j.go j.yl j.stp h2 c⟩⟩
theorem fs_setLc {i : Nat} {y : Str} {py spos : Pos} (hc : X.calm = true) (hN : X.N.Nodup) (hy : X.N[i]? = some y) (hyl : X.env.scope.names.lookup y = some .local)
    (hsw : swapsWith (.ListComp elt [⟨tg, iter, ifs, 0⟩] scope pos) (some (.Name y py)) spos.line X.env = pure true) (hi : PI X tg iter (wiOf (upW w))) (ok : BlkOk X.N X.env.scope scope own)
    (hg : ∀ (s : Shared) (H : Hp) (C : Addr) (cl : List (Str × Addr)) (fp : List Addr), PG (X.blk s H scope (compEnvC scope cl C X.env) fp) tg g) (ht : ∀ (s : Shared) (H : Hp) (C : Addr) (cl : List (Str × Addr)) (fp : List Addr), PTs (X.blk s H scope (compEnvC scope cl C X.env) fp) ifs tt)
    (he : ∀ (s : Shared) (H : Hp) (C : Addr) (cl : List (Str × Addr)) (fp : List Addr), PE (X.blk s H scope (compEnvC scope cl C X.env) fp) elt te) (hs : ∀ x, foldedSetIterable iter X.env x = pure x := by intro _; rfl) :
    PS X (.Assign [.Name y py] (.ListComp elt [⟨tg, iter, ifs, 0⟩] scope pos) spos) (tAsg (tLcW w g tt te (own.map (·.2))) (gName i)) := ps_imp (ps_setLc hc hN hy hyl hsw hi ok hg ht he hs) fun D σ H q => ⟨_, q, fun xs st H1 ⟨h1, k⟩ => ⟨h1, fun J j Dl n => by
    obtain ⟨h2, c⟩ := k Dl _ n (Same.new n) upd_same
    exact comp_it j.go j.yl j.stp h2 c⟩⟩
end

/-! ### methods -/
structure MethAt (K : PySem.W.Frag) (C : Addr) (m qual : Str) (st : Stmt) : Prop where
  ex : ∃ f fd, Fun K m qual st f fd ∧ Meth K C m f
structure MCallee (P : Program) (w : World) (K : PySem.W.Frag) (mg : Str → Option Value) (base : Heap) (k : Nat) (C : Addr) (m : Str) (ps : List Str) (sp : Sp) : Prop where
  ex : ∃ f fd, FnOk P w K mg base (L2.CX P w) k f fd ps sp ∧ Cls K C ∧ Meth K C m f ∧ Binds K fd ps []
section
variable {P : Program} {w : World} {K : PySem.W.Frag} {mg : Str → Option Value} {base : Heap}
theorem mcallee_of {C : Addr} {m qual : Str} {st : Stmt} {N ps : List Str} {k : Nat} {sp : Sp} (cl : Cls K C) (F : MethAt K C m qual st) (S : FnScope N ps (defScope st))
    (hb : ∀ (kV doc pm : Value) (an : Option Addr) (cdv ct : Value) (us : List Value), us.length = ps.length → bindArgs (PySem.W.fnOf m qual (defArgs st) (defBody st) (defScope st) .none kV doc pm an cdv ct) ⟨us, []⟩ = pure (ps.zip us))
    (len : ∀ vs H Q E, sp vs H Q E → vs.length = ps.length)
    (hbody : ∀ (f : Addr) (cdv : Value) (A : Around) (outer : List Env) (s : Shared) (H : Hp) (vs : List V) (Q : VK) (E : XK), Room k (cxOf (L2.CX P w) P w K mg base N qual (defScope st) f cdv A outer s H E).A →
      Takes (cxOf (L2.CX P w) P w K mg base N qual (defScope st) f cdv A outer s H E) (fun cls d _ H => E cls d H) →
      PassesOwn (model P w) (cxOf (L2.CX P w) P w K mg base N qual (defScope st) f cdv A outer s H E).A (cxOf (L2.CX P w) P w K mg base N qual (defScope st) f cdv A outer s H E).env (cxOf (L2.CX P w) P w K mg base N qual (defScope st) f cdv A outer s H E).xe → sp vs H Q E →
      ∃ t, PSs (cxOf (L2.CX P w) P w K mg base N qual (defScope st) f cdv A outer s H E) (defBody st) t ∧ t { nx := fun _ H' => Q .non H', rt := Q } (start N vs) H) :
    MCallee P w K mg base (k + 1) C m ps sp := by
  obtain ⟨f, fd, F, hm⟩ := F.ex
  exact ⟨f, fd, F.okX S len fun cdv A outer s H vs Q E hr h => hbody f cdv A outer s H vs Q E hr (takes_of rfl rfl rfl rfl) (passes_of rfl) h, cl, hm, F.binds hb⟩
end
section
variable {X : Cx} {W : WX} {j k : Nat} {C : Addr} {m x : Str} {ps : List Str} {sp : Sp} {p pos apos pos2 : Pos} {o e : Expr} {es : List Expr} {t : TA} {ta te : TE}
/-- o.m(e, ..) of an instance of the class at C -/
def tMethF (C : Addr) (m : Str) (sp : Sp) (W : WX) (ta : TE) (t : TA) : TE := fun σ H Q => ta σ H fun x H1 => match x with
  | .ref a => (∃ dx fs, H1 a = some (.ins C dx fs) ∧ fs.lookup m = none) ∧ t σ H1 fun vs H2 => sp (.ref a :: vs) H2 Q (fun cls d H' => W cls d σ H')
  | _ => False
theorem fc_meth {pl : Sem Bool} (c : MCallee X.prog X.w X.K X.mg X.base k C m ps sp) (hr : Room j X.A) (hk : k ≤ j) (tk : Takes X W) (ho : PE X o ta) (ha : PA X (e :: es) t)
    (hst : starEach (e :: es) X.env = (false, eval e X.env) :: starEach es X.env := by rfl) (hpl : (backTo pos (starEach es X.env)).any (·.1) = false := by rfl)
    (ht : eval (.Call (.Attribute o m apos) (e :: es) [] pos) X.env = (do
      let ov ← eval o X.env; standAt apos.atName; let (f, first) ← holding [ov] (getMethod ov m pl)
      callWith pos f first (backTo pos (starEach (e :: es) X.env)) (backToKw pos (keywordEach [] X.env))) := by rfl) :
    PE X (.Call (.Attribute o m apos) (e :: es) [] pos) (tMethF C m sp W ta t) := by
  obtain ⟨g, fd, F, cl, hm, hb⟩ := c.ex
  refine ⟨fun pins s σ H Q I h => PySem.W.methodCall_KW (pl := pl) (thn (ho.run pins s σ H _ I h) fun u s1 ⟨x, H1, J, rx, q⟩ => ?_) ht⟩
  cases x <;> first | exact q.elim | skip
  rename_i a
  cases rx
  obtain ⟨⟨dx, fs, ea, l⟩, q⟩ := q
  refine getmeth_ok J ea cl hm l (PySem.W.callWith_K (first := [.ref a]) (h₀ := X.base) J.ok.mod.kin hm.kp (thn (ha.run pos pins s1 σ H1 _ J q) fun us s2 ⟨vs, H2, J2, rv, q2⟩ => ⟨J2.kIn, ?_⟩) hst hpl)
  exact run_fnS (us := .ref a :: us) (vs := .ref a :: vs) (E := WE W) F (hr.mono hk) hb (passAt tk σ) J2 (.cons rfl rv) q2
theorem fc_meth0 {pl : Sem Bool} (c : MCallee X.prog X.w X.K X.mg X.base k C m ps sp) (hr : Room j X.A) (hk : k ≤ j) (tk : Takes X W) (ho : PE X o ta)
    (ht : eval (.Call (.Attribute o m apos) [] [] pos) X.env = (do
      let ov ← eval o X.env; standAt apos.atName; let (f, first) ← holding [ov] (getMethod ov m pl)
      callWith pos f first (backTo pos (starEach [] X.env)) (backToKw pos (keywordEach [] X.env))) := by rfl) :
    PE X (.Call (.Attribute o m apos) [] [] pos) (tMethF C m sp W ta tNil) := by
  obtain ⟨g, fd, F, cl, hm, hb⟩ := c.ex
  refine ⟨fun pins s σ H Q I h => PySem.W.methodCall_KW (pl := pl) (thn (ho.run pins s σ H _ I h) fun u s1 ⟨x, H1, J, rx, q⟩ => ?_) ht⟩
  cases x <;> first | exact q.elim | skip
  rename_i a
  cases rx
  obtain ⟨⟨dx, fs, ea, l⟩, q⟩ := q
  refine getmeth_ok J ea cl hm l (PySem.W.callWith_K0 (first := [.ref a]) J.kIn hm.kp ?_)
  exact run_fnS (us := [.ref a]) (vs := [.ref a]) (E := WE W) F (hr.mono hk) hb (passAt tk σ) J (.cons rfl .nil) q
end
/-! ### errors of the text's own, with one field -/
structure InitAt (K : PySem.W.Frag) (C : Addr) (qual : Str) (st : Stmt) : Prop where
  ex : ∃ f fd, Fun K "__init__" qual st f fd ∧ PySem.W.findIn K (.ref C) "__init__" = some (some (.ref f)) ∧ PySem.W.typeIn K (.ref f) = some (.type "function")
structure Raiser (P : Program) (w : World) (K : PySem.W.Frag) (mg : Str → Option Value) (base : Heap) (x : Str) (C : Addr) (f : Str) : Prop where
  T : OexC K C
  g : mg x = some (.ref C)
  ex : ∃ fI fd, PySem.W.findIn K (.ref C) "__init__" = some (some (.ref fI)) ∧ PySem.W.typeIn K (.ref fI) = some (.type "function") ∧
    FnOk P w K mg base (L2.CX P w) 1 fI fd (["self", f] : List Str) (s2 fun a v H Q _ => ∃ p, a = .ref p ∧ H p = some (exo p C none) ∧ ∀ dx, H dx = none → dx ≠ p → Q .non (upd (upd H dx (exd dx [(f, v)])) p (exo p C (some dx)))) ∧ Binds K fd (["self", f] : List Str) []
theorem raiser_of {P : Program} {w : World} {K : PySem.W.Frag} {mg : Str → Option Value} {base : Heap} {x : Str} {C : Addr} {f qual : Str} {st : Stmt} (T : OexC K C) (g : mg x = some (.ref C)) (F : InitAt K C qual st) (no : PySem.W.findIn K (.ref C) f = some none)
    (S : FnScope (["self", f] : List Str) (["self", f] : List Str) (defScope st))
    (hb : ∀ (kV doc pm : Value) (an : Option Addr) (cdv ct : Value) (us : List Value), us.length = 2 → bindArgs (PySem.W.fnOf "__init__" qual (defArgs st) (defBody st) (defScope st) .none kV doc pm an cdv ct) ⟨us, []⟩ = pure ((["self", f] : List Str).zip us))
    (hbody : ∀ X : Cx, X.env.scope = defScope st → X.N = (["self", f] : List Str) → PSs X (defBody st) (tOst X.K f (tV 0) (tV 1))) : Raiser P w K mg base x C f := by
  obtain ⟨fI, fd, F, hi, ht⟩ := F.ex
  refine ⟨T, g, fI, fd, hi, ht, F.okX S (fun vs H Q E h => ?_) (fun cdv A outer s H vs Q E hr h => ⟨_, hbody _ rfl rfl, ?_⟩), F.binds (ps := (["self", f] : List Str)) hb⟩
  · obtain ⟨_, _, rfl, _⟩ := s2_len h
    rfl
  · obtain ⟨a, v, rfl, p, rfl, h0, q⟩ := s2_len h
    exact ⟨p, C, rfl, T, no, .inl ⟨h0, q⟩⟩
section
variable {X : Cx} {W : WX} {j : Nat} {C : Addr} {x f : Str} {p pos pos2 : Pos} {e : Expr} {te : TE}
/-- raise x(e) -/
theorem fr_raise (hc : X.calm = true) (R : Raiser X.prog X.w X.K X.mg X.base x C f) (hr : Room j X.A) (hk : 2 ≤ j) (tk : Takes X W) (hg : Gl X x) (he : PE X e te) (hdb : (x == ("__debug__" : Str)) = false := by decide)
    (hst : starEach (e :: []) X.env = (false, eval e X.env) :: starEach [] X.env := by rfl) (hpl : (backTo pos (starEach [] X.env)).any (·.1) = false := by rfl) :
    PS X (.Raise (some (.Call (.Name x p) [e] [] pos)) none pos2) (fun _ σ H => te σ H fun v H1 => ∀ d H', H1 d = none → Same H1 H' → H' d = some (.xd [(f, v)]) → W (.ref C) (some d) σ H') := by
  obtain ⟨fI, fd, hi, ht, F, hb⟩ := R.ex
  refine ps_imp (ps_raise hc tk (pmk_oex R.T hi ht F (hr.mono hk) hb .nil (fun pins σ H s e' s' I c => passL (X := X) pins σ H s e' s' I c) hg R.g (pa_cons (pe_up he) pa_nil hst) hdb hst hpl)) fun D σ H q => ⟨_, q, fun v H1 q1 => ⟨by show 1 ≤ 1000; decide, fun a na => ?_⟩⟩
  refine ⟨a, rfl, upd_same, fun dx nx ne => ⟨rfl, dx, [(f, v)], upd_same, by rw [upd_ne ne, upd_same], ?_, ?_⟩⟩
  · rw [upd_ne ne] at nx
    exact nx
  · have nx1 : H1 dx = none := by
      rw [upd_ne ne] at nx
      exact nx
    refine q1 dx _ nx1 (fun b u z => ?_) upd_same
    have n1 := ne_of_none z na
    have n2 := ne_of_none z nx1
    rw [upd_ne n2, del_ne n1, upd_ne n1, upd_ne n2, upd_ne n1]
    exact z
end

/-! ### texts -/
theorem mt_imp {X : Cx} {id : String} {r r' : V → List V → Hp → VK → Prop} (h : MtR X id r) (k : ∀ x xs H Q, r' x xs H Q → r x xs H Q) : MtR X id r' := fun pins s σ H x xs v us Q I rx rs q => h pins s σ H x xs v us Q I rx rs (k _ _ _ _ q)
section
variable {X : Cx} {o e : Expr} {to te : TE} {apos cpos pos : Pos}
/-- text.index(sign), the sign there -/
def fIndex : V → List V → Hp → VK → Prop := fun x xs H Q => match x, xs with
  | .str a, [.str b] => ∃ k, Txt.index0 a b = some k ∧ Q (.int (k : Nat)) H
  | _, _ => False
theorem f_sindex : MtR X "str.index" fIndex := by
  intro pins s σ H x xs v us Q I rx rs h
  unfold fIndex at h
  split at h
  · obtain ⟨k, hk, q⟩ := h
    obtain ⟨t, rfl⟩ := rx
    cases rs with
    | cons r1 rs =>
      cases rs
      obtain ⟨u, rfl⟩ := r1
      rename_i a b
      unfold Txt.index0 at hk
      cases z : Builtin.Str.occurrences a b 0 a.length 1 with
      | nil => rw [z] at hk; cases hk
      | cons m rest =>
        rw [z] at hk
        cases hk
        exact PySem.SC.index z ⟨.int (k : Nat), H, I.tok _, ⟨_, rfl⟩, q⟩
  · exact h.elim
/-- a built-in type's method by what the values are: texts -/
def tSM1 (r : V → List V → Hp → VK → Prop) (to te : TE) : TE := fun σ H Q => to σ H fun x H1 => match x with
  | .str a => te σ H1 fun y H2 => r (.str a) [y] H2 Q
  | _ => False
def tSM0 (r : V → List V → Hp → VK → Prop) (to : TE) : TE := fun σ H Q => to σ H fun x H1 => match x with
  | .str a => r (.str a) [] H1 Q
  | _ => False
theorem fe_sm1 {id : String} {name : Str} {r : V → List V → Hp → VK → Prop} (slot : Slot "str" name id) (ty : typeOf (.builtin id) = pure (.type "method_descriptor")) (rule : MtR X id r) (ho : PE X o to) (he : PE X e te)
    (hs : starEach [e] X.env = [(false, eval e X.env)] := by rfl) (hbase : attributeBase o name X.env (eval o X.env) = eval o X.env := by rfl) (hline : (apos.endLine == pos.line) = true := by rfl) :
    PE X (.Call (.Attribute o name apos) [e] [] pos) (tSM1 r to te) := pe_imp (pe_m1 slot ty rule (pe_up ho) (pe_up he) hs hbase hline) fun σ H Q q => ⟨_, q, fun x H1 q1 => by
  split at q1
  · exact ⟨⟨_, rfl⟩, _, q1, fun y H2 q2 => q2⟩
  · exact q1.elim⟩
theorem fe_sm0 {id : String} {name : Str} {r : V → List V → Hp → VK → Prop} (slot : Slot "str" name id) (ty : typeOf (.builtin id) = pure (.type "method_descriptor")) (rule : MtR X id r) (ho : PE X o to)
    (hbase : attributeBase o name X.env (eval o X.env) = eval o X.env := by rfl) (hline : (apos.endLine == pos.line) = true := by rfl) :
    PE X (.Call (.Attribute o name apos) [] [] pos) (tSM0 r to) := pe_imp (pe_m0 slot ty rule (pe_up ho) hbase hline) fun σ H Q q => ⟨_, q, fun x H1 q1 => by
  split at q1
  · exact ⟨⟨_, rfl⟩, q1⟩
  · exact q1.elim⟩
/-- text.join(texts) -/
def fJoin (K : PySem.W.Frag) : V → List V → Hp → VK → Prop := fun x xs H Q => match x, xs with
  | .str a, [.ref p] => ∃ ys : List Str, Sq K H p (ys.map V.str) ∧ (ys.map (·.length)).sum + ys.length * a.length ≤ 16777216 ∧ Q (.str (Txt.join a ys)) H
  | _, _ => False
theorem f_join : MtR X "str.join" (fJoin X.K) := mt_imp mt_join fun x xs H Q q => by
  unfold fJoin at q
  split at q
  · obtain ⟨ys, h, hz, q⟩ := q
    exact ⟨_, _, ys, rfl, rfl, h, hz, q⟩
  · exact q.elim
/-- text.split(sep) -/
def fSplit : V → List V → Hp → VK → Prop := fun x xs H Q => match x, xs with
  | .str a, [.str b] => (b.length == 0) = false ∧ a.length + 2 ≤ sizeLine ∧ Fresh H (.lst ((Txt.split a b).map V.str)) Q
  | _, _ => False
theorem f_split : MtR X "str.split" fSplit := mt_imp mt_split fun x xs H Q q => by
  unfold fSplit at q
  split at q
  · exact ⟨_, _, rfl, rfl, q.1, q.2.1, q.2.2.go⟩
  · exact q.elim
/-- b, or its opposite -/
def opp (neg b : Bool) : Bool := match neg with
  | true => !b
  | false => b
/-- sign in text, sign not in text -/
def fInS (neg : Bool) : R2 := fun x y H Q => match x, y with
  | .str a, .str z => ∃ c, a = ⟨#[c]⟩ ∧ Q (.bl (opp neg (decide (c ∈ z.cps.toList)))) H
  | _, _ => False
theorem f_inS : OpR X (compareOp .In) (fInS false) := op_imp op_in_sign fun x y H Q q => by
  unfold fInS at q
  split at q
  · obtain ⟨c, rfl, q⟩ := q
    exact ⟨c, _, rfl, rfl, q⟩
  · exact q.elim
theorem f_notInS : OpR X (compareOp .NotIn) (fInS true) := op_imp op_notIn_sign fun x y H Q q => by
  unfold fInS at q
  split at q
  · obtain ⟨c, rfl, q⟩ := q
    exact ⟨c, _, rfl, rfl, q⟩
  · exact q.elim
/-- x in a row of plain things -/
def fInQ (K : PySem.W.Frag) (neg : Bool) : R2 := fun x y H Q => match y with
  | .ref p => ∃ xs, Sq K H p xs ∧ flatV x = true ∧ xs.all flatV = true ∧ Q (.bl (opp neg (inV x xs))) H
  | _ => False
theorem f_inQ : OpR X (compareOp .In) (fInQ X.K false) := op_imp op_in_seq fun x y H Q q => by
  unfold fInQ at q
  split at q
  · obtain ⟨xs, h, h1, h2, q⟩ := q
    exact ⟨_, xs, rfl, h, h1, h2, q⟩
  · exact q.elim
theorem f_notInQ : OpR X (compareOp .NotIn) (fInQ X.K true) := op_imp op_notIn_seq fun x y H Q q => by
  unfold fInQ at q
  split at q
  · obtain ⟨xs, h, h1, h2, q⟩ := q
    exact ⟨_, xs, rfl, h, h1, h2, q⟩
  · exact q.elim
/-- x is None, x is not None -/
def fIsN (neg : Bool) : R2 := fun x y H Q => match y with
  | .non => match x with
    | .non => Q (.bl (!neg)) H
    | _ => Q (.bl neg) H
  | _ => False
theorem f_isN : OpR X (compareOp .Is) (fIsN false) := op_imp op_isN fun x y H Q q => by
  unfold fIsN at q
  cases y <;> first | exact q.elim | skip
  refine ⟨rfl, ?_⟩
  cases x <;> exact q
theorem f_notN : OpR X (compareOp .IsNot) (fIsN true) := op_imp op_notN fun x y H Q q => by
  unfold fIsN at q
  cases y <;> first | exact q.elim | skip
  refine ⟨rfl, ?_⟩
  cases x <;> exact q
theorem vals_at : ∀ {xs : List V} {us : List Value}, xs.length = us.length → (∀ (i : Nat) x u, xs[i]? = some x → us[i]? = some u → RelV x u) → Vals xs us
  | [], [], _, _ => .nil
  | [], _ :: _, h, _ => by cases h
  | _ :: _, [], h, _ => by cases h
  | x :: xs, u :: us, h, k => .cons (k 0 x u rfl rfl) (vals_at (Nat.succ.inj h) fun i y z e1 e2 => k (i + 1) y z e1 e2)
/-- list(a text): its signs -/
theorem sign_at {x : Str} {its : Array Value} (h : ItemsOf (SignAt x) its x.cps.size) : Vals (signs x) its.toList := by
  refine vals_at (by simp [signs, h.1]) fun i y u e1 e2 => ?_
  rw [Array.getElem?_toList] at e2
  obtain ⟨c, t, hc, rfl⟩ := h.2 i u e2
  unfold signs at e1
  rw [List.getElem?_map, Array.getElem?_toList, hc] at e1
  cases e1
  exact ⟨t, rfl⟩
def fListS : List V → Hp → VK → Prop := fun xs H Q => match xs with
  | [.str z] => z.length ≤ sizeLine ∧ Fresh H (.lst (signs z)) Q
  | _ => False
theorem f_listS (hc : X.calm = true) : CallR X (.type "list") fListS := by
  intro pins s σ H xs us Q I r q
  unfold fListS at q
  split at q
  · obtain ⟨hz, q⟩ := q
    rename_i z
    obtain ⟨u, rfl, t, rfl⟩ := vals1 r
    refine call_list_str (I.ok.hd hc) z t (fun h' tk acc c' k e its => ?_) hz
    have rv := sign_at its
    have el : (signs z).length = z.cps.size := by simp [signs]
    refine ⟨.ref s.heap.objs.size, _, I.laid (t' := tk) k (Nat.le_refl _) (show ObjOk X.prog X.w _ h' _ (.lst (signs z)) from ⟨by rw [el]; exact hz, acc.toList, c', rv, e⟩), rfl, q.go _ (I.hok.fresh (Nat.le_refl _))⟩
  · exact q.elim
/-! ### dicts of the module with text keys -/
structure KTab (K : PySem.W.Frag) (w : World) (d : Addr) (kvs : List (Str × V)) : Prop where
  ex : ∃ es n, KDict K w d es n ∧ ∀ z : Str, ∃ r, PySem.W.nsIn K d z = some r ∧ RelO (kvs.lookup z) r
def fInK (d : Addr) (kvs : List (Str × V)) : R2 := fun x y H Q => y = .ref d ∧ match x with
  | .str z => Q (.bl (kvs.lookup z).isSome) H
  | _ => False
theorem f_inK {d : Addr} {kvs : List (Str × V)} (T : KTab X.K X.w d kvs) : OpR X (compareOp .In) (fInK d kvs) := by
  obtain ⟨es, n, D, f⟩ := T.ex
  refine op_imp (op_in_kd D) fun x y H Q q => ?_
  obtain ⟨rfl, q⟩ := q
  cases x <;> first | exact q.elim | skip
  rename_i z
  obtain ⟨r, e, rel⟩ := f z
  refine ⟨z, r, rfl, rfl, e, ?_⟩
  have : r.isSome = (kvs.lookup z).isSome := by
    cases h : kvs.lookup z with
    | none => rw [h] at rel; cases r with
      | none => rfl
      | some u => exact rel.elim
    | some v => rw [h] at rel; cases r with
      | none => exact rel.elim
      | some u => rfl
  rw [this]
  exact q
def fItK (d : Addr) (kvs : List (Str × V)) : R2 := fun x y H Q => x = .ref d ∧ match y with
  | .str z => ∃ v, kvs.lookup z = some v ∧ Q v H
  | _ => False
theorem f_itK {d : Addr} {kvs : List (Str × V)} (T : KTab X.K X.w d kvs) : OpR X getItem (fItK d kvs) := by
  obtain ⟨es, n, D, f⟩ := T.ex
  refine op_imp (op_item_kd D) fun x y H Q q => ?_
  obtain ⟨rfl, q⟩ := q
  cases y <;> first | exact q.elim | skip
  rename_i z
  obtain ⟨v, e, q⟩ := q
  obtain ⟨r, e2, rel⟩ := f z
  rw [e] at rel
  cases r with
  | none => exact rel.elim
  | some u => exact ⟨z, u, v, rfl, rfl, e2, rel, q⟩
end
/-- rows of values that are no two integers (a pot is one) -/
def notPot : List V → Bool
  | [.int _, .int _] => false
  | _ => true
/-! ### more rules -/
section
variable {X : Cx} {e : Expr} {te : TE} {pos : Pos}
def tRevF (K : PySem.W.Frag) (te : TE) : TE := fun σ H Q => te σ H fun x H1 => match x with
  | .ref a => ∃ xs, SqL K H1 a xs ∧ Fresh H1 (.lst xs.reverse) Q
  | _ => False
theorem fe_revL {k : Nat} {p1 p2 p3 : Pos} (he : PE X e te) : PE X (.Subscript e (.Slice none none (some (.UnaryOp .USub (.Constant (.int 1) k p1) p2)) p3) pos) (tRevF X.K te) := pe_imp (pe_revL (pe_up he)) fun σ H Q q => ⟨_, q, fun x H1 q1 => by
  split at q1
  · obtain ⟨xs, h, q⟩ := q1
    exact ⟨_, xs, rfl, h, q.go⟩
  · exact q1.elim⟩
def upT (t : TT) : TT := fun σ H Q => ∃ R, t σ H R ∧ ∀ b H', R b H' → Q b H'
theorem pt_up {t : TT} (h : PT X e t) : PT X e (upT t) := ⟨fun pins s σ H Q I ⟨R, q, w⟩ => thn (h.run pins s σ H R I q) fun b s1 ⟨H1, I1, q1⟩ => ⟨H1, I1, w _ _ q1⟩⟩
/-- the word W holds with a lesser measure -/
inductive Low (W : Nat → L2.St → Hp → Prop) (m : Nat) (σ : L2.St) (H : Hp) : Prop
  | mk (m' : Nat) (lt : m' < m) (w : W m' σ H)
/-- while, by a word W of a measure and the state -/
inductive Wh (c : TT) (tb : TS) (D : Ends) (σ : L2.St) (H : Hp) : Prop
  | by (W : Nat → L2.St → Hp → Prop) (m : Nat) (h0 : W m σ H) (hs : ∀ m σ H, W m σ H →
    c σ H fun b H1 => if b = true then tb { D with nx := Low W m, ct := Low W m, bk := D.nx } σ H1 else D.nx σ H1)
theorem fs_while {body : List Stmt} {tc : TT} {tb : TS} (hp : PassesOwn (model X.prog X.w) X.A X.env X.xe) (hc : PT X e tc) (hb : PSs X body tb) : PS X (.While e body [] pos) (Wh tc tb) :=
  ps_imp (ps_while hp (pt_up hc) hb) fun D σ H q => by
    obtain ⟨W, m, h0, hs⟩ := q
    exact ⟨W, ⟨m, h0⟩, fun m σ H w => ⟨_, hs m σ H w, fun b H1 q => by
    cases b with
    | true => exact ⟨_, fun _ _ ⟨m', lt, w⟩ => ⟨m', lt, w⟩, q⟩
    | false => exact q⟩⟩
/-- *e in a display -/
def tStarF (K : PySem.W.Frag) (te : TE) (t : TA) : TA := fun σ H Q => te σ H fun x H1 => match x with
  | .ref p => ∃ xs, Sq K H1 p xs ∧ t σ H1 fun ys H2 => Q (xs ++ ys) H2
  | _ => False
theorem pa_imp {es : List Expr} {t t' : TA} (h : PA X es t) (w : ∀ σ H Q, t' σ H Q → t σ H Q) : PA X es t' := ⟨fun pos pins s σ H Q I q => h.run pos pins s σ H Q I (w σ H Q q)⟩
theorem fa_star {es : List Expr} {t : TA} {p : Pos} (he : PE X e te) (hr : PA X es t) (hs : starEach (.Starred e p :: es) X.env = (true, eval e X.env) :: starEach es X.env := by rfl) : PA X (.Starred e p :: es) (tStarF X.K te t) :=
  pa_imp (StX.pa_star (pe_up he) hr hs) fun σ H Q q => ⟨_, q, fun x H1 q1 => by
    split at q1
    · obtain ⟨xs, h, q⟩ := q1
      exact ⟨_, xs, rfl, h.symm, q⟩
    · exact q1.elim⟩
/-- n signs c -/
def repC (c n : Nat) : Str := ⟨(List.replicate n c).toArray⟩
theorem foldl_one : ∀ (n c : Nat) (acc : Array Nat), (List.replicate n #[c]).foldl (· ++ ·) acc = acc ++ (List.replicate n c).toArray
  | 0, c, acc => by simp
  | n + 1, c, acc => by
    rw [List.replicate_succ, List.foldl_cons, foldl_one n c, List.replicate_succ]
    apply Array.toList_inj.mp
    simp
def fMulS : R2 := fun x y H Q => match x, y with
  | .str z, .int n => ∃ c, z = ⟨#[c]⟩ ∧ (-1000000 ≤ n ∧ n ≤ 1000000) ∧ Q (.str (repC c n.toNat)) H
  | _, _ => False
theorem f_mulS : OpR X (binaryOp .Mult) fMulS := by
  intro pins s σ H x y v u Q I rx ry h
  unfold fMulS at h
  split at h
  · obtain ⟨c, rfl, ⟨hl, hh⟩, q⟩ := h
    obtain ⟨t, rfl⟩ := rx
    obtain ⟨t', rfl⟩ := ry
    rename_i n
    have n1 : ¬ n < -(2 ^ 63 : Int) := by omega
    have n2 : ¬ n ≥ 2 ^ 63 := by omega
    have out : ∀ (z : Str) (tk : Nat), z = repC c n.toNat → EP X pins σ Q (.str z tk) { s with toks := s.toks + 1 } := fun z tk e => ⟨.str z, H, I.tok _, ⟨_, rfl⟩, by rw [e]; exact q⟩
    refine PySem.P.mul_str (by rw [decide_eq_false n1, decide_eq_false n2]; rfl) (fun h1 _ => ?_) (fun h1 _ => ?_) ?_
    · have h3 : (⟨#[c]⟩ : Str).length = 1 := rfl
      rw [h3]
      intro z
      have : (2 ^ 63 - 1 : Int) / n ≥ 1 := (Int.le_ediv_iff_mul_le (by omega)).mpr (by omega)
      omega
    · have h3 : (⟨#[c]⟩ : Str).length = 1 := rfl
      rw [h3]
      have hs : ¬ 1 * n.toNat > sizeLine := by
        have := sizeLine_eq
        omega
      exact decide_eq_false hs
    · split
      · refine ⟨by decide, out _ _ ?_⟩
        have : n.toNat = 0 := by omega
        unfold repC; rw [this]; rfl
      · rename_i hn
        split
        · rename_i h1
          have e1 : n = 1 := by simpa [Str.length] using h1
          refine ⟨.str ⟨#[c]⟩, H, I, ⟨_, rfl⟩, ?_⟩
          rw [e1] at q; exact q
        · rw [foldl_one]
          have e2 : (⟨#[] ++ (List.replicate n.toNat c).toArray⟩ : Str) = repC c n.toNat := by
            unfold repC
            simp
          have e3 : (⟨#[] ++ (List.replicate n.toNat c).toArray⟩ : Str).length ≤ sizeLine := by
            rw [e2, show (repC c n.toNat).length = n.toNat by simp [repC, Str.length]]
            have := sizeLine_eq
            omega
          exact ⟨e3, out _ _ e2⟩
  · exact h.elim
end
/-! ### classes that are made by keywords -/
/-- what stands at the places idx -/
def pick {α : Type} (idx : List Nat) (xs : List α) : List α := idx.filterMap fun i => xs[i]?
theorem vals_nth : ∀ {xs : List V} {us : List Value}, Vals xs us → ∀ i : Nat, (xs[i]? = none ∧ us[i]? = none) ∨ ∃ x u, xs[i]? = some x ∧ us[i]? = some u ∧ RelV x u
  | [], [], .nil, i => .inl ⟨rfl, rfl⟩
  | x :: xs, u :: us, .cons a r, 0 => .inr ⟨x, u, rfl, rfl, a⟩
  | x :: xs, u :: us, .cons a r, i + 1 => vals_nth r i
theorem vals_pick : ∀ (idx : List Nat) {xs : List V} {us : List Value}, Vals xs us → Vals (pick idx xs) (pick idx us)
  | [], _, _, _ => .nil
  | i :: idx, xs, us, r => by
    have ih := vals_pick idx r
    unfold pick at ih ⊢
    rcases vals_nth r i with ⟨a, b⟩ | ⟨x, u, a, b, c⟩
    · rw [List.filterMap_cons_none a, List.filterMap_cons_none b]
      exact ih
    · rw [List.filterMap_cons_some a, List.filterMap_cons_some b]
      exact .cons c ih
structure InitK (K : PySem.W.Frag) (C : Addr) (qual : Str) (st : Stmt) (kws : List (Str × V)) : Prop where
  ex : ∃ f fd, FunD K "__init__" qual (defArgs st) (defBody st) (defScope st) [] kws f fd ∧ Mk K C f
structure KMaker (P : Program) (w : World) (K : PySem.W.Frag) (mg : Str → Option Value) (base : Heap) (k : Nat) (x : Str) (C : Addr) (qual : Str) (st : Stmt) (kws : List (Str × V)) (ps : List Str) (sp : Sp) : Prop where
  ex : ∃ f fd, FunD K "__init__" qual (defArgs st) (defBody st) (defScope st) [] kws f fd ∧ Mk K C f ∧ FnOk P w K mg base (L2.CX P w) k f fd ps sp
  g : mg x = some (.ref C)
theorem kmaker_of {P : Program} {w : World} {K : PySem.W.Frag} {mg : Str → Option Value} {base : Heap} {x qual : Str} {C : Addr} {st : Stmt} {kws : List (Str × V)} {N ps : List Str} {k : Nat} {sp : Sp} (g : mg x = some (.ref C)) (F : InitK K C qual st kws) (S : FnScope N ps (defScope st))
    (len : ∀ vs H Q E, sp vs H Q E → vs.length = ps.length)
    (hbody : ∀ (f : Addr) (cdv : Value) (A : Around) (outer : List Env) (s : Shared) (H : Hp) (vs : List V) (Q : VK) (E : XK), Room k (cxOf (L2.CX P w) P w K mg base N qual (defScope st) f cdv A outer s H E).A →
      Takes (cxOf (L2.CX P w) P w K mg base N qual (defScope st) f cdv A outer s H E) (fun cls d _ H => E cls d H) →
      PassesOwn (model P w) (cxOf (L2.CX P w) P w K mg base N qual (defScope st) f cdv A outer s H E).A (cxOf (L2.CX P w) P w K mg base N qual (defScope st) f cdv A outer s H E).env (cxOf (L2.CX P w) P w K mg base N qual (defScope st) f cdv A outer s H E).xe → sp vs H Q E →
      ∃ t, PSs (cxOf (L2.CX P w) P w K mg base N qual (defScope st) f cdv A outer s H E) (defBody st) t ∧ t { nx := fun _ H' => Q .non H', rt := Q } (start N vs) H) :
    KMaker P w K mg base (k + 1) x C qual st kws ps sp := by
  obtain ⟨f, fd, F, M⟩ := F.ex
  exact ⟨⟨f, fd, F, M, F.ok S len fun cdv A outer s H vs Q E hr h => hbody f cdv A outer s H vs Q E hr (takes_of rfl rfl rfl rfl) (passes_of rfl) h⟩, g⟩
section
variable {X : Cx} {W : WX} {j k : Nat} {C : Addr} {x qual : Str} {st : Stmt} {kws : List (Str × V)} {ps ks : List Str} {sp : Sp} {p pos : Pos} {kwe : List Keyword} {t : TA}
/-- what a class does that is called: a new object, then its __init__ (promise sp) -/
def MadeBy (C : Addr) (sp : Sp) (gV : List V → List V) (W : WX) (σ : L2.St) (zs : List V) (H : Hp) (Q : VK) : Prop :=
  ∀ p dx H3, H p = none → Same H H3 → H3 p = some (.ins C dx []) → sp (gV (.ref p :: zs)) H3 (fun v H4 => v = .non ∧ Q (.ref p) H4) (fun cls d H' => W cls d σ H')
theorem run_made {pins : List (Addr × Obj)} {σ : L2.St} {H : Hp} {s : Shared} {Q : VK} {f : Addr} {fd : FuncData} {us ws : List Value} {gV : List V → List V} {zs : List V} {E : XK} {all : List Value} (M : Mk X.K C f) (F : FnOk X.prog X.w X.K X.mg X.base (L2.CX X.prog X.w) k f fd ps sp) (hr : Room (k + 1) X.A)
    (hb : ∀ s' : Shared, X.K.In s'.heap → BindsTo s' fd ⟨.ref (s.heap.objs.size + 1) :: us, ks.zip ws⟩ (ps.zip all)) (hall : L2.Vals (gV (.ref (s.heap.objs.size + 1) :: zs)) all) (tk : PassesAt (L2.CX X.prog X.w) X σ E) (J : Inv X pins σ H s)
    (h : ∀ a b, H a = none → H b = none → b ≠ a → sp (gV (.ref a :: zs)) (upd (upd H b (.own a)) a (.ins C b [])) (fun v H2 => v = .non ∧ Q (.ref a) H2) E) :
    wpAny (model X.prog X.w) X.A (call (.ref C) us (ks.zip ws)) (EP X pins σ Q) X.xe s := by
  have said := h (s.heap.objs.size + 1) s.heap.objs.size (J.hok.fresh (Nat.le_succ _)) (J.hok.fresh (Nat.le_refl _)) (Nat.ne_of_lt (Nat.lt_succ_self _))
  have J2 := Inv.made (C := C) J
  have ran := F.run _ X.stack _ _ ⟨Value.ref (s.heap.objs.size + 1) :: us, ks.zip ws⟩ all _ _ E (hr.make C us (ks.zip ws)) (J2.env0.make C us (ks.zip ws)) (hb _ J2.kIn) hall said
  refine wpAny_call (make_map (f := f) J.kIn M.makes M.init (beq_iff_eq.mp M.fn) (codeAny_mono ran fun out s' got => ?_))
  match out, got with
  | .error e, got => exact tk pins _ _ e s' J2 got
  | .ok (.ret u), got =>
    obtain ⟨v, H', J3, rv, ev, q3⟩ := J2.after got
    subst ev
    exact ⟨rv, V.ref (s.heap.objs.size + 1), H', J3, rfl, q3⟩
  | .ok .next, got => exact False.elim got
  | .ok .brk, got => exact False.elim got
  | .ok .cont, got => exact False.elim got
theorem MadeBy.go {C : Addr} {sp : Sp} {gV : List V → List V} {W : WX} {σ : L2.St} {zs : List V} {H : Hp} {Q : VK} (h : MadeBy C sp gV W σ zs H Q) : ∀ a b, H a = none → H b = none → b ≠ a → sp (gV (.ref a :: zs)) (upd (upd H b (.own a)) a (.ins C b [])) (fun v H2 => v = .non ∧ Q (.ref a) H2) (WE W σ) :=
  fun a b na nb ne => h a b _ na (Same.but (Same.new nb) na But.upd) upd_same
/-- x(k = v, ..): ks the written names, ms the lacking ones; idx: where each parameter's value stands in self, the lacking ones, the written ones -/
theorem fc_make {idx : List Nat} {ms : List (Str × V)} (c : KMaker X.prog X.w X.K X.mg X.base k x C qual st kws ps sp) (hr : Room j X.A) (hj : k + 1 ≤ j) (hg : Gl X x) (tk : Takes X W) (hkw : PK X kwe t) (hk : kws ≠ []) (hms : ∀ q ∈ ms, q ∈ kws)
    (h : ∀ (D : Addr) (doc pm : Value) (an : Option Addr) (cdv ct : Value) (us mv ws : List Value), us.length = 1 → mv.length = ms.length → ws.length = ks.length →
      KwChain D ((ms.map (·.1)).zip mv) (bindArgs (PySem.W.fnOf "__init__" qual (defArgs st) (defBody st) (defScope st) .none (.ref D) doc pm an cdv ct) ⟨us, ks.zip ws⟩) (ps.zip (pick idx (us ++ (mv ++ ws)))))
    (hall : (backToKw pos (keywordEach kwe X.env)).all (·.1.isSome) = true := by rfl) (hks : (backToKw pos (keywordEach kwe X.env)).filterMap (·.1) = ks := by rfl) (hdb : (x == ("__debug__" : Str)) = false := by decide)
    (hpl : ((backTo pos (starEach [] X.env)).any (·.1) || (backToKw pos (keywordEach kwe X.env)).any (·.1.isNone)) = false := by rfl) :
    PE X (.Call (.Name x p) [] kwe pos) (fun σ H Q => t σ H fun zs H2 => zs.length = ks.length ∧ MadeBy C sp (fun l => match l with
      | a :: zs => pick idx ([a] ++ (ms.map (·.2) ++ zs))
      | [] => []) W σ zs H2 Q) := by
  obtain ⟨f, fd, F, M, O⟩ := c.ex
  obtain ⟨mv, B⟩ := F.kbinds0 (ps := ps) 1 ks ms (fun us mv ws => pick idx (us ++ (mv ++ ws))) hk hms (fun r1 r2 r3 => vals_pick idx (r1.append (r2.append r3))) h
  refine ⟨fun pins s σ H Q J q => ?_⟩
  refine wpAny_Call_Name_kw (ld_glob J hg c.g ?_ hdb)
  refine PySem.W.callWith_KW0 (h₀ := X.base) J.ok.mod.kin M.kp hall ?_ hpl
  refine thn (hkw.run pos pins s σ H _ J q) fun ws s2 ⟨zs, H2, J2, rz, l, q2⟩ => ⟨J2.kIn, ?_⟩
  rw [hks]
  have lw : ws.length = ks.length := by rw [← rz.length, l]
  exact run_made (us := []) (gV := fun l => match l with
      | a :: zs => pick idx ([a] ++ (ms.map (·.2) ++ zs))
      | [] => []) M O (hr.mono hj) (fun s' K => B.to s' [_] ws K rfl lw) (B.rel (.cons rfl .nil) rz) (passAt tk σ) J2 q2.go
end
theorem code_fnS {X : Cx} {CX : CXT} {k : Nat} {f : Addr} {fd : FuncData} {ps : List Str} {sp : Sp} {E : L2.St → XK} {pins : List (Addr × Obj)} {σ : L2.St} {H : Hp} {s : Shared} {Q : VK} {us : List Value} {vs : List V} (F : FnOk X.prog X.w X.K X.mg X.base CX k f fd ps sp) (hr : Room k X.A) (hb : Binds X.K fd ps []) (hx : PassesAt CX X σ (E σ))
    (J : Inv X pins σ H s) (r : L2.Vals vs us) (h : sp vs H Q (E σ)) : codeAny (model X.prog X.w) X.A (.call (.ref f) ⟨us, []⟩) (fun r s' => match r with
      | .ok (.ret v) => EP X pins σ Q v s'
      | .ok _ => False
      | .error e => X.xe e s') s := by
  have n : us.length = ps.length := by rw [← r.length]; exact F.len _ _ _ _ h
  have b := hb s us J.kIn (by rw [List.append_nil]; exact n)
  rw [List.append_nil] at b
  refine codeAny_mono (F.run X.A X.stack s H ⟨us, []⟩ us vs Q (E σ) hr J.env0 b r h) fun out s' got => ?_
  match out, got with
  | .error e, got => exact hx pins H s e s' J got
  | .ok (.ret u), got => exact J.after got
  | .ok .next, got => exact False.elim got
  | .ok .brk, got => exact False.elim got
  | .ok .cont, got => exact False.elim got
/-! ### instances that are called -/
structure CallAt (K : PySem.W.Frag) (C : Addr) (qual : Str) (st : Stmt) : Prop where
  ex : ∃ f fd, Fun K "__call__" qual st f fd ∧ StX.CallO K C f
structure OCallee (P : Program) (w : World) (K : PySem.W.Frag) (mg : Str → Option Value) (base : Heap) (k : Nat) (C : Addr) (ps : List Str) (sp : Sp) : Prop where
  ex : ∃ f fd, FnOk P w K mg base (L2.CX P w) k f fd ps sp ∧ StX.CallO K C f ∧ Binds K fd ps []
theorem ocallee_of {P : Program} {w : World} {K : PySem.W.Frag} {mg : Str → Option Value} {base : Heap} {C : Addr} {qual : Str} {st : Stmt} {N ps : List Str} {k : Nat} {sp : Sp} (F : CallAt K C qual st) (S : FnScope N ps (defScope st))
    (hb : ∀ (kV doc pm : Value) (an : Option Addr) (cdv ct : Value) (us : List Value), us.length = ps.length → bindArgs (PySem.W.fnOf "__call__" qual (defArgs st) (defBody st) (defScope st) .none kV doc pm an cdv ct) ⟨us, []⟩ = pure (ps.zip us))
    (len : ∀ vs H Q E, sp vs H Q E → vs.length = ps.length)
    (hbody : ∀ (f : Addr) (cdv : Value) (A : Around) (outer : List Env) (s : Shared) (H : Hp) (vs : List V) (Q : VK) (E : XK), Room k (cxOf (L2.CX P w) P w K mg base N qual (defScope st) f cdv A outer s H E).A →
      Takes (cxOf (L2.CX P w) P w K mg base N qual (defScope st) f cdv A outer s H E) (fun cls d _ H => E cls d H) →
      PassesOwn (model P w) (cxOf (L2.CX P w) P w K mg base N qual (defScope st) f cdv A outer s H E).A (cxOf (L2.CX P w) P w K mg base N qual (defScope st) f cdv A outer s H E).env (cxOf (L2.CX P w) P w K mg base N qual (defScope st) f cdv A outer s H E).xe → sp vs H Q E →
      ∃ t, PSs (cxOf (L2.CX P w) P w K mg base N qual (defScope st) f cdv A outer s H E) (defBody st) t ∧ t { nx := fun _ H' => Q .non H', rt := Q } (start N vs) H) :
    OCallee P w K mg base (k + 1) C ps sp := by
  obtain ⟨f, fd, F, hm⟩ := F.ex
  exact ⟨f, fd, F.okX S len fun cdv A outer s H vs Q E hr h => hbody f cdv A outer s H vs Q E hr (takes_of rfl rfl rfl rfl) (passes_of rfl) h, hm, F.binds hb⟩
section
variable {X : Cx} {W : WX} {j k : Nat} {C : Addr} {ps : List Str} {sp : Sp} {pos : Pos} {fe e : Expr} {es : List Expr} {t : TA} {tf : TE}
/-- o(e, ..), o an instance -/
def tCallF (C : Addr) (sp : Sp) (W : WX) (tf : TE) (t : TA) : TE := fun σ H Q => tf σ H fun y H1 => match y with
  | .ref a => t σ H1 fun vs H2 => (∃ dx fs, H2 a = some (.ins C dx fs)) ∧ sp (.ref a :: vs) H2 Q (fun cls d H' => W cls d σ H')
  | _ => False
theorem fc_callO (c : OCallee X.prog X.w X.K X.mg X.base k C ps sp) (hr : Room j X.A) (hj : k ≤ j) (tk : Takes X W) (hf : PE X fe tf) (ha : PA X (e :: es) t)
    (ht : eval (.Call fe (e :: es) [] pos) X.env = (do callWith pos (← eval fe X.env) [] (backTo pos (starEach (e :: es) X.env)) (backToKw pos (keywordEach [] X.env))) := by rfl)
    (he : starEach (e :: es) X.env = (false, eval e X.env) :: starEach es X.env := by rfl) (hpl : (backTo pos (starEach es X.env)).any (·.1) = false := by rfl) : PE X (.Call fe (e :: es) [] pos) (tCallF C sp W tf t) := by
  obtain ⟨g, fd, F, co, hb⟩ := c.ex
  refine ⟨fun pins s σ H Q J h => Call_ (thn (hf.run pins s σ H _ J h) fun u s1 ⟨y, H1, J1, ry, q⟩ => ?_) ht⟩
  cases y <;> first | exact q.elim | skip
  rename_i a
  cases ry
  refine StX.callO_with (thn (ha.run pos pins s1 σ H1 _ J1 q) fun us s2 ⟨vs, H2, J2, r, hi, q2⟩ => ?_) he hpl
  obtain ⟨ox, od, O, hd⟩ := StX.insC_at J2 (.inr hi)
  exact ⟨⟨C, ox, od, O, hd⟩, wpAny_call (PySem.W.kco_code J2.kIn O hd co.at_ co.fn co.fi (code_fnS (us := .ref a :: us) (vs := .ref a :: vs) (E := WE W) F (hr.mono hj) hb (passAt tk σ) J2 (.cons rfl r) q2))⟩
end
/-! ### methods, functions called by keywords -/
section
variable {X : Cx} {W : WX} {j k : Nat} {C : Addr} {m x : Str} {ps : List Str} {sp : Sp} {pos apos p : Pos} {o : Expr} {kwe : List Keyword} {t : TA} {ta : TE}
/-- a method without defaults, as it stands -/
structure MKCallee (P : Program) (w : World) (K : PySem.W.Frag) (mg : Str → Option Value) (base : Heap) (k : Nat) (C : Addr) (m qual : Str) (st : Stmt) (ps : List Str) (sp : Sp) : Prop where
  ex : ∃ f fd, FnOk P w K mg base (L2.CX P w) k f fd ps sp ∧ Cls K C ∧ Meth K C m f ∧ Fun K m qual st f fd
theorem mkcallee_of {P : Program} {w : World} {K : PySem.W.Frag} {mg : Str → Option Value} {base : Heap} {C : Addr} {m qual : Str} {st : Stmt} {N ps : List Str} {k : Nat} {sp : Sp} (cl : Cls K C) (F : MethAt K C m qual st) (S : FnScope N ps (defScope st))
    (len : ∀ vs H Q E, sp vs H Q E → vs.length = ps.length)
    (hbody : ∀ (f : Addr) (cdv : Value) (A : Around) (outer : List Env) (s : Shared) (H : Hp) (vs : List V) (Q : VK) (E : XK), Room k (cxOf (L2.CX P w) P w K mg base N qual (defScope st) f cdv A outer s H E).A →
      Takes (cxOf (L2.CX P w) P w K mg base N qual (defScope st) f cdv A outer s H E) (fun cls d _ H => E cls d H) →
      PassesOwn (model P w) (cxOf (L2.CX P w) P w K mg base N qual (defScope st) f cdv A outer s H E).A (cxOf (L2.CX P w) P w K mg base N qual (defScope st) f cdv A outer s H E).env (cxOf (L2.CX P w) P w K mg base N qual (defScope st) f cdv A outer s H E).xe → sp vs H Q E →
      ∃ t, PSs (cxOf (L2.CX P w) P w K mg base N qual (defScope st) f cdv A outer s H E) (defBody st) t ∧ t { nx := fun _ H' => Q .non H', rt := Q } (start N vs) H) :
    MKCallee P w K mg base (k + 1) C m qual st ps sp := by
  obtain ⟨f, fd, F, hm⟩ := F.ex
  exact ⟨f, fd, F.okX S len fun cdv A outer s H vs Q E hr h => hbody f cdv A outer s H vs Q E hr (takes_of rfl rfl rfl rfl) (passes_of rfl) h, cl, hm, F⟩
theorem MKCallee.plain {P : Program} {w : World} {K : PySem.W.Frag} {mg : Str → Option Value} {base : Heap} {C : Addr} {m qual : Str} {st : Stmt} {ps : List Str} {k : Nat} {sp : Sp} (c : MKCallee P w K mg base k C m qual st ps sp)
    (hb : ∀ (kV doc pm : Value) (an : Option Addr) (cdv ct : Value) (us : List Value), us.length = ps.length → bindArgs (PySem.W.fnOf m qual (defArgs st) (defBody st) (defScope st) .none kV doc pm an cdv ct) ⟨us, []⟩ = pure (ps.zip us)) : MCallee P w K mg base k C m ps sp := by
  obtain ⟨f, fd, O, cl, hm, F⟩ := c.ex
  exact ⟨f, fd, O, cl, hm, F.binds hb⟩
theorem code_fnK {CX : CXT} {f : Addr} {fd : FuncData} {E : L2.St → XK} {pins : List (Addr × Obj)} {σ : L2.St} {H : Hp} {s : Shared} {Q : VK} {us : List Value} {vs : List V} {args : Args} (F : FnOk X.prog X.w X.K X.mg X.base CX k f fd ps sp) (hr : Room k X.A) (hb : BindsTo s fd args (ps.zip us)) (hx : PassesAt CX X σ (E σ))
    (J : Inv X pins σ H s) (r : L2.Vals vs us) (h : sp vs H Q (E σ)) : wpAny (model X.prog X.w) X.A (call (.ref f) args.pos args.kw) (EP X pins σ Q) X.xe s := by
  refine wpAny_call (codeAny_mono (F.run X.A X.stack s H args us vs Q (E σ) hr J.env0 hb r h) fun out s' got => ?_)
  match out, got with
  | .error e, got => exact hx pins H s e s' J got
  | .ok (.ret u), got => exact J.after got
  | .ok .next, got => exact False.elim got
  | .ok .brk, got => exact False.elim got
  | .ok .cont, got => exact False.elim got
/-- o.m(k = v, ..) -/
theorem fc_methK {qual : Str} {st : Stmt} {idx : List Nat} {ks : List Str} {pl : Sem Bool} (c : MKCallee X.prog X.w X.K X.mg X.base k C m qual st ps sp) (hr : Room j X.A) (hj : k ≤ j) (tk : Takes X W) (ho : PE X o ta) (hkw : PK X kwe t)
    (hb : ∀ (kV doc pm : Value) (an : Option Addr) (cdv ct : Value) (us ws : List Value), us.length = 1 → ws.length = ks.length → bindArgs (PySem.W.fnOf m qual (defArgs st) (defBody st) (defScope st) .none kV doc pm an cdv ct) ⟨us, ks.zip ws⟩ = pure (ps.zip (pick idx (us ++ ws))))
    (hall : (backToKw pos (keywordEach kwe X.env)).all (·.1.isSome) = true := by rfl) (hks : (backToKw pos (keywordEach kwe X.env)).filterMap (·.1) = ks := by rfl)
    (hpl : ((backTo pos (starEach [] X.env)).any (·.1) || (backToKw pos (keywordEach kwe X.env)).any (·.1.isNone)) = false := by rfl)
    (ht : eval (.Call (.Attribute o m apos) [] kwe pos) X.env = (do
      let ov ← eval o X.env; standAt apos.atName; let (f, first) ← holding [ov] (getMethod ov m pl)
      callWith pos f first (backTo pos (starEach [] X.env)) (backToKw pos (keywordEach kwe X.env))) := by rfl) :
    PE X (.Call (.Attribute o m apos) [] kwe pos) (fun σ H Q => ta σ H fun x H1 => match x with
      | .ref a => (∃ dx fs, H1 a = some (.ins C dx fs) ∧ fs.lookup m = none) ∧ t σ H1 fun zs H2 => zs.length = ks.length ∧ sp (pick idx (.ref a :: zs)) H2 Q (fun cls d H' => W cls d σ H')
      | _ => False) := by
  obtain ⟨g, fd, F, cl, hm, Fu⟩ := c.ex
  refine ⟨fun pins s σ H Q J h => PySem.W.methodCall_KW (pl := pl) (thn (ho.run pins s σ H _ J h) fun u s1 ⟨x, H1, J1, rx, q⟩ => ?_) ht⟩
  cases x <;> first | exact q.elim | skip
  rename_i a
  cases rx
  obtain ⟨⟨dx, fs, ea, l⟩, q⟩ := q
  refine getmeth_ok J1 ea cl hm l ?_
  refine PySem.W.callWith_KW0 (first := [.ref a]) (h₀ := X.base) J1.ok.mod.kin hm.kp hall ?_ hpl
  refine thn (hkw.run pos pins s1 σ H1 _ J1 q) fun ws s2 ⟨zs, H2, J2, rz, ln, q2⟩ => ⟨J2.kIn, ?_⟩
  rw [hks]
  have lw : ws.length = ks.length := by rw [← rz.length, ln]
  obtain ⟨oc, od, kV, doc, pm, an, cdv, ct, osl, rfl, _, _⟩ := Fu.ex
  exact code_fnK (E := WE W) (args := ⟨[.ref a], ks.zip ws⟩) F (hr.mono hj) (.of_eq (hb kV doc pm an cdv ct [.ref a] ws rfl lw)) (passAt tk σ) J2 (vals_pick idx (show L2.Vals (.ref a :: zs) (.ref a :: ws) from .cons rfl rz)) q2
end
/-! ### displays of dicts, all -/
section
variable {X : Cx} {pos : Pos}
def upTT (p : TE × TE) : TE × TE := (upE p.1, upE p.2)
theorem tPairs_up : ∀ (trs : List (TE × TE)) {σ : L2.St} {H : Hp} {R Q : List (V × V) → Hp → Prop}, tPairs trs σ H R → (∀ ps H', R ps H' → Q ps H') → tPairs (trs.map upTT) σ H Q
  | [], σ, H, R, Q, h, w => w _ _ h
  | (tk, tv) :: r, σ, H, R, Q, h, w => ⟨_, h, fun x H1 h1 => ⟨_, h1, fun y H2 h2 => tPairs_up r h2 fun ps H' h3 => w _ _ h3⟩⟩
theorem fps_cons {k v : Expr} {ks : List (Option Expr)} {vs : List Expr} {tk tv : TE} {trs : List (TE × TE)} (hk : PE X k tk) (hv : PE X v tv) (hr : PPs X pos ks vs (trs.map upTT)) :
    PPs X pos (some k :: ks) (v :: vs) (((tk, tv) :: trs).map upTT) := pps_cons (pe_up hk) (pe_up hv) hr
theorem fps_nil : PPs X pos [] [] (([] : List (TE × TE)).map upTT) := pps_nil
def toKs : List (V × V) → Option (List (Key × V))
  | [] => some []
  | (.str k, v) :: r => match toKs r with
    | some kvs => some ((.inr k, v) :: kvs)
    | none => none
  | (.int k, v) :: r => match toKs r with
    | some kvs => some ((.inl k, v) :: kvs)
    | none => none
  | _ :: _ => none
theorem toKs_ok : ∀ {ps : List (V × V)} {kvs : List (Key × V)}, toKs ps = some kvs → ps = kvs.map fun kv => (kV kv.1, kv.2)
  | [], kvs, h => by cases h; rfl
  | (k, v) :: r, kvs, h => by
    cases k <;> unfold toKs at h <;> try cases h
    all_goals
      cases z : toKs r with
      | none => rw [z] at h; cases h
      | some k2 =>
        rw [z] at h
        cases h
        rw [List.map_cons, ← toKs_ok z]
        rfl
/-- {k: v, ..} -/
def fDisp (trs : List (TE × TE)) : TE := fun σ H Q => ∀ p H1, H p = none → Same H H1 → H1 p = some (.dK []) → tPairs trs σ H1 fun ps H2 => H2 p = some (.dK []) ∧ match toKs ps with
  | some kvs => kvs.length ≤ 15 ∧ ∀ H3, But p H2 H3 → H3 p = some (.dK (mergeK [] kvs)) → Q (.ref p) H3
  | none => False
theorem fe_disp {keys : List (Option Expr)} {values : List Expr} {trs : List (TE × TE)} (h : PPs X pos keys values (trs.map upTT)) (hall : keys.all (·.isSome) = true) (hl : keys.length = values.length) (h0 : keys ≠ [])
    (h15 : keys.length ≤ 15) : PE X (.Dict keys values pos) (fDisp trs) := pe_imp (pe_disp h hall hl h0 h15) fun σ H Q q p np => tPairs_up trs (q p _ np (Same.new np) upd_same) fun ps H2 ⟨e, r⟩ => by
  refine ⟨e, ?_⟩
  split at r
  · rename_i kvs ek
    exact ⟨kvs, toKs_ok ek, r.1, r.2 _ But.upd upd_same⟩
  · exact r.elim
theorem fe_d0 : PE X (.Dict [] [] pos) (fun _ H Q => Fresh H (.dK []) Q) := pe_imp pe_dnewK fun σ H Q q => q.go
end
theorem TyX.same {K : PySem.W.Frag} {H H' : Hp} {v : V} {t : Value} (s : Same H H') (h : TyX K H v t) : TyX K H' v t := by
  cases h with
  | base b =>
    cases b with
    | non => exact .base .non
    | bl b => exact .base (.bl b)
    | int b => exact .base (.int b)
    | str b => exact .base (.str b)
    | flt b => exact .base (.flt b)
    | lst e => exact .base (.lst (s _ _ e))
    | frz e => exact .base (.frz (s _ _ e))
    | tup e => exact .base (.tup (s _ _ e))
    | dK e => exact .base (.dK (s _ _ e))
    | dT e => exact .base (.dT (s _ _ e))
    | ins e cl ha hn htk => exact .base (.ins (s _ _ e) cl ha hn htk (by assumption))
  | byt b => exact .byt b
  | set e => exact .set (s _ _ e)
  | kList e c => exact .kList e c
  | kTuple e c => exact .kTuple e c
  | kDict e c => exact .kDict e c
  | fTuple e => exact .fTuple (s _ _ e)
  | fDict e => exact .fDict (s _ _ e)
theorem RefTy.same {K : PySem.W.Frag} {H H' : Hp} {a : Addr} {c : Value} {b : Bool} (s : Same H H') (h : RefTy K H a c b) : RefTy K H' a c b := by
  obtain ⟨t, x, k⟩ := h
  exact ⟨t, TyX.same s x, k⟩
/-- a thing of any kind that is handed in: no int, no text if it is an object -/
def AnyV (K : PySem.W.Frag) (H : Hp) : V → Prop
  | .non => True
  | .bl _ => True
  | .int _ => True
  | .str z => z.length ≤ 100000
  | .ref a => RefTy K H a (.type "int") false ∧ RefTy K H a (.type "str") false
  | _ => False
theorem AnyV.same {K : PySem.W.Frag} {H H' : Hp} {v : V} (s : Same H H') (h : AnyV K H v) : AnyV K H' v := by
  cases v with
  | ref a => exact ⟨RefTy.same s h.1, RefTy.same s h.2⟩
  | _ => exact h
/-- an invariant of a loop over pairs -/
theorem LoopZ.by {st : Hp → Prop} {g : TG} {tb : TS} {D : Ends} (Pv : List (V × V) → L2.St → Hp → Prop)
    (hs : ∀ x r σ H, Pv (x :: r) σ H → ∀ N : L2.St → Hp → Prop, (∀ σ' H', st H' → Pv r σ' H' → N σ' H') → ∀ T H', H T = none → Same H H' → H' T = some (.tup [x.1, x.2]) → g (.ref T) σ H' fun σ2 H2 => tb { D with nx := N, ct := N, bk := D.nx } σ2 H2)
    (hd : ∀ σ H, Pv [] σ H → D.nx σ H) : ∀ (xs : List (V × V)) (σ : L2.St) (H : Hp), Pv xs σ H → LoopZ st g tb D xs σ H
  | [], σ, H, h => hd σ H h
  | x :: r, σ, H, h => hs x r σ H h _ fun σ' H' a b => ⟨a, LoopZ.by Pv hs hd r σ' H' b⟩
theorem sz_le {n : Nat} (h : n ≤ 16000000) : n ≤ sizeLine := Nat.le_trans h (by rw [sizeLine_eq]; decide)
theorem sz_lt {n : Nat} (h : n ≤ 16000000) : n < sizeLine := Nat.lt_of_le_of_lt h (by rw [sizeLine_eq]; decide)
theorem ix_imp {X : Cx} {r r' : R2} (h : IxR X r) (w : ∀ x y H Q, r' x y H Q → r x y H Q) : IxR X r' := fun value slice pins s σ H x y v u Q I rx ry q hs => h value slice pins s σ H x y v u Q I rx ry (w _ _ _ _ q) hs
/-- d[k], d a dict of the module -/
theorem f_ixK {X : Cx} {d : Addr} {kvs : List (Str × V)} (T : KTab X.K X.w d kvs) : IxR X (fItK d kvs) := ix_imp ix_kdict fun x y H Q q => by
  obtain ⟨es, n, D, f⟩ := T.ex
  obtain ⟨rfl, q⟩ := q
  cases y <;> first | exact q.elim | skip
  rename_i z
  obtain ⟨v, e, q⟩ := q
  obtain ⟨r, e2, rel⟩ := f z
  rw [e] at rel
  cases r with
  | none => exact rel.elim
  | some u => exact ⟨_, z, v, rfl, rfl, ⟨es, n, u, D.at_, D.lit, e2, rel⟩, q⟩
/-- all(a list of bools), any -/
def blOf : List V → Option (List Bool)
  | [] => some []
  | .bl b :: r => (blOf r).map (b :: ·)
  | _ :: _ => none
theorem blOf_ok : ∀ {xs : List V} {bs : List Bool}, blOf xs = some bs → xs = bs.map V.bl
  | [], bs, h => by cases h; rfl
  | x :: r, bs, h => by
    cases x <;> unfold blOf at h <;> try cases h
    cases z : blOf r with
    | none => rw [z] at h; cases h
    | some b2 =>
      rw [z] at h
      cases h
      rw [List.map_cons, ← blOf_ok z]
def fAll (K : PySem.W.Frag) (f : List Bool → Bool) : List V → Hp → VK → Prop := fun xs H Q => match xs with
  | [.ref a] => ∃ ys bs, SqL K H a ys ∧ ys = bs.map V.bl ∧ Q (.bl (f bs)) H
  | _ => False
theorem f_all {X : Cx} (hc : X.calm = true) : CallR X (.builtin "all") (fAll X.K fun bs => bs.all id) := call_imp (cr_all hc) fun xs H Q q => by
  unfold fAll at q
  split at q
  · obtain ⟨ys, bs, h, rfl, q⟩ := q
    exact ⟨_, bs, rfl, h, q⟩
  · exact q.elim
theorem f_any {X : Cx} (hc : X.calm = true) : CallR X (.builtin "any") (fAll X.K fun bs => bs.any id) := call_imp (cr_any hc) fun xs H Q q => by
  unfold fAll at q
  split at q
  · obtain ⟨ys, bs, h, rfl, q⟩ := q
    exact ⟨_, bs, rfl, h, q⟩
  · exact q.elim
theorem Same.no {H H' : Hp} {p : Addr} (s : Same H H') (n : H' p = none) : H p = none := by
  cases h : H p with
  | none => rfl
  | some o =>
    rw [s _ _ h] at n
    cases n
/-- what follows is shown once, behind several roads -/
theorem meet {A : Prop} {G : Addr → Hp → Prop} (Pc : Addr → Hp → Prop) (h1 : (∀ a H, Pc a H → G a H) → A) (h2 : ∀ a H, Pc a H → G a H) : A := h1 h2
/-- each item by a function, of items that do -/
theorem Comp.mapP {st : Hp → Prop} {g : TG} {te : TE} {vs : List Nat} {σ : L2.St} {D : Addr} {Q : Hp → Prop} {H0 : Hp} (Px : V → Prop) (f : V → V) (n0 : H0 D = none) (hst : ∀ H, Same H0 H → st H)
    (hx : ∀ (x : V) (H : Hp) (R : VK), Px x → Same H0 H → (∀ H', Same H H' → R (f x) H') → g x (wipe σ vs) H fun σ2 H2 => wipe σ2 vs = wipe σ vs ∧ te σ2 H2 R) :
    ∀ (xs : List V) (acc : List V) (H : Hp), (∀ x ∈ xs, Px x) → acc.length + xs.length ≤ sizeLine → Same H0 H → H D = some (.lst acc) → (∀ H', Same H0 H' → H' D = some (.lst (acc ++ xs.map f)) → Q H') → Comp st g tYes te vs σ D Q xs H
  | [], acc, H, _, _, s, hD, q => q H s (by rw [List.map_nil, List.append_nil]; exact hD)
  | x :: r, acc, H, hp, hl, s, hD, q => by
    rw [List.length_cons] at hl
    have k := hx x H (fun y H4 => ∃ acc, H4 D = some (.lst acc) ∧ acc.length < sizeLine ∧ st (upd H4 D (.lst (acc ++ [y]))) ∧ Comp st g tYes te vs σ D Q r (upd H4 D (.lst (acc ++ [y])))) (hp x (List.mem_cons_self ..)) s fun H' s' => by
      have s2 : Same H0 (upd H' D (.lst (acc ++ [f x]))) := Same.but (s.trans s') n0 But.upd
      refine ⟨acc, s' _ _ hD, by omega, hst _ s2, ?_⟩
      refine Comp.mapP Px f n0 hst hx r (acc ++ [f x]) _ (fun y hy => hp y (List.mem_cons_of_mem _ hy)) (by rw [List.length_append, List.length_singleton]; omega) s2 upd_same fun H2 s3 e => q H2 s3 ?_
      rw [e, List.append_assoc]
      rfl
    exact k
/-! ### the same in a comprehension's own block: K written -/
section
variable {X : Cx} (K : PySem.W.Frag) (hK : X.K = K := by rfl)
include hK
theorem f_ixB : IxR X (fIx K) := hK ▸ f_ix
theorem f_lenB : CallR X (.builtin "len") (fLen K) := hK ▸ f_len
theorem f_isintB : CallR X (.builtin "isinstance") (fIsTy K "int") := hK ▸ f_isint
theorem f_isstrB : CallR X (.builtin "isinstance") (fIsTy K "str") := hK ▸ f_isstr
theorem f_istupB : CallR X (.builtin "isinstance") (fIsTy K "tuple") := hK ▸ f_istup
theorem f_listB : CallR X (.type "list") (fList K) := hK ▸ f_list
theorem f_tupleB : CallR X (.type "tuple") (fTuple K) := hK ▸ f_tuple
theorem f_slLB : SlR X (fSlL K) := hK ▸ f_slL
theorem f_inQB : OpR X (compareOp .In) (fInQ K false) := hK ▸ f_inQ
theorem f_notInQB : OpR X (compareOp .NotIn) (fInQ K true) := hK ▸ f_notInQ
theorem f_joinB : MtR X "str.join" (fJoin K) := hK ▸ f_join
end
/-- a def of the module whose code object is known -/
structure FunC (K : PySem.W.Frag) (mg : Str → Option Value) (x : Str) (st : Stmt) (c : Addr) : Prop where
  ex : ∃ (f : Addr) (oc : Value) (od : Option Addr) (kV doc pm : Value) (an : Option Addr) (ct : Value) (osl : Array (Option Value)),
    K.lookup f = some ⟨oc, od, .func (PySem.W.fnOf x x (defArgs st) (defBody st) (defScope st) .none kV doc pm an (.ref c) ct), osl⟩ ∧ PySem.W.codeIn K (.ref c) x = true ∧ PySem.W.keepIn K (.ref f) = true ∧ mg x = some (.ref f)
end Fg

set_option Elab.async false
set_option linter.all false
set_option maxRecDepth 100000
set_option maxHeartbeats 4000000
namespace Fg
open PySem PySem.Spec PyProof.Rows L2
/-! ### zip of any two: lists, tuples, texts -/
inductive Sd where
  | L (a : Addr)
  | T (a : Addr)
  | S (z : Str)
def Sd.has (K : PySem.W.Frag) (H : Hp) : Sd → List V → Prop
  | .L a => SqL K H a
  | .T a => SqT K H a
  | .S z => fun xs => xs = signs z
def Sd.v : Sd → V
  | .L a => .ref a
  | .T a => .ref a
  | .S z => .str z
def Sd.src : Sd → List Addr
  | .L a => [a]
  | .T a => [a]
  | .S _ => []
/-- its iterator at i1, behind i turns -/
def Sd.itr (i1 : Addr) (t : Tok) (i : Nat) (h : Heap) : Sd → Prop
  | .L a => h.IsListIter i1 a i
  | .T a => h.IsTupleIter i1 a i
  | .S z => h.IsStrIter i1 (strIterType z) z t i
theorem Sd.itr_at {d : Sd} {i1 : Addr} {t : Tok} {i : Nat} {h h' : Heap} (s : d.itr i1 t i h) (k : ∀ o, h.get? i1 = some o → h'.get? i1 = some o) : d.itr i1 t i h' := by
  cases d with
  | L a => exact Heap.IsListIter.at s k
  | T a => exact Heap.IsTupleIter.at s k
  | S z => obtain ⟨o, e, q⟩ := s; exact ⟨o, k o e, q⟩
theorem Sd.itr_ob {d : Sd} {i1 : Addr} {t : Tok} {i : Nat} {h : Heap} (s : d.itr i1 t i h) : ∃ o, h.get? i1 = some o ∧ ∀ v, o.data ≠ .cell v := by
  cases d with
  | L a => obtain ⟨o, e, _, q⟩ := s; exact ⟨o, e, fun v z => by rw [q] at z; cases z⟩
  | T a => obtain ⟨o, e, _, q⟩ := s; exact ⟨o, e, fun v z => by rw [q] at z; cases z⟩
  | S z => obtain ⟨o, e, _, q⟩ := s; exact ⟨o, e, fun v z => by rw [q] at z; cases z⟩
section
variable {X : Cx} {pins : List (Addr × Obj)} {σ : L2.St} {H : Hp} {s : Shared}
theorem Sd.inj {d : Sd} (I : Inv X pins σ H s) {xs ys : List V} (h : d.has X.K H xs) (h' : d.has X.K H ys) : xs = ys := by
  cases d with
  | L a => exact I.list_inj h h'
  | T a => exact I.tuple_inj h h'
  | S z => exact (show xs = signs z from h).trans (show ys = signs z from h').symm
/-- what such an iterator draws, from here on -/
theorem Sd.draws {d : Sd} (I : Inv X pins σ H s) (hc : X.calm = true) {xs : List V} (h : d.has X.K H xs) (i1 : Addr) (t : Tok) (ne : ∀ a ∈ d.src, a ≠ i1) :
    ∃ (Pv : Nat → Value → Prop) (St : Nat → Heap → Prop), Draws X.prog X.w X.A.in1 i1 (i1 :: d.src) xs.length Pv St ∧ (∀ i h, St i h → d.itr i1 t i h) ∧ (∀ i, d.itr i1 t i s.heap → St i s.heap) ∧
      ∀ i u, Pv i u → ∃ x, xs[i]? = some x ∧ RelV x u := by
  have hh : X.A.in1.handled = none := I.ok.hd hc
  have fwd : ∀ {its : List Value} (r : Vals xs its) (i : Nat) (u : Value), its.toArray[i]? = some u → ∃ x, xs[i]? = some x ∧ RelV x u := fun {its} r i u e => by
    rcases vals_nth r i with ⟨_, b⟩ | ⟨x, w, a, b, c⟩
    · rw [List.getElem?_toArray, b] at e; cases e
    · rw [List.getElem?_toArray, b] at e
      cases e
      exact ⟨x, a, c⟩
  cases d with
  | L a =>
    obtain ⟨its, r, p, _⟩ := I.list h
    have D := Draws.list (prog := X.prog) (w := X.w) hh i1 a (ne a (List.mem_singleton.mpr rfl)) its.toArray
    rw [show its.toArray.size = xs.length by rw [List.size_toArray, r.length]] at D
    exact ⟨_, _, D, fun i h q => q.1, fun i q => ⟨q, p.isList⟩, fun i u e => fwd r i u e⟩
  | T a =>
    obtain ⟨its, r, p, _⟩ := I.tuple h
    have D := Draws.tuple (prog := X.prog) (w := X.w) hh i1 a (ne a (List.mem_singleton.mpr rfl)) its.toArray
    rw [show its.toArray.size = xs.length by rw [List.size_toArray, r.length]] at D
    exact ⟨_, _, D, fun i h q => q.1, fun i q => ⟨q, p⟩, fun i u e => fwd r i u e⟩
  | S z =>
    have D := Draws.text (prog := X.prog) (w := X.w) hh i1 z t
    have ex : xs = signs z := h
    rw [show z.cps.size = xs.length by rw [ex]; simp [signs]] at D
    refine ⟨_, _, D, fun i h q => q, fun i q => q, fun i u e => ?_⟩
    obtain ⟨c, tk, ec, rfl⟩ := e
    refine ⟨.str ⟨#[c]⟩, ?_, tk, rfl⟩
    rw [ex]
    unfold signs
    rw [List.getElem?_map, Array.getElem?_toList, ec]
    rfl
end
/-- both as they stand at each turn, the items in new pairs -/
def ItM (K : PySem.W.Frag) (d1 d2 : Sd) : It :=
  ⟨fun i H => ∃ xs ys : List V, d1.has K H xs ∧ d2.has K H ys ∧ i < xs.length ∧ xs.length = ys.length,
    fun i H v H' => ∃ T x y, v = .ref T ∧ H T = none ∧ H' = upd H T (.tup [x, y]) ∧ (∀ xs, d1.has K H xs → xs[i]? = some x) ∧ ∀ ys, d2.has K H ys → ys[i]? = some y,
    fun i H => ∃ xs ys : List V, d1.has K H xs ∧ d2.has K H ys ∧ i = xs.length ∧ xs.length = ys.length⟩
structure Apt (z TI TO i1 i2 : Addr) (d1 d2 : Sd) : Prop where
  TIz : TI ≠ z
  TOz : TO ≠ z
  TITO : TI ≠ TO
  TIi1 : TI ≠ i1
  TIi2 : TI ≠ i2
  zi1 : z ≠ i1
  zi2 : z ≠ i2
  TOi1 : TO ≠ i1
  TOi2 : TO ≠ i2
  i12 : i1 ≠ i2
  s1 : ∀ a ∈ d1.src, a ≠ z ∧ a ≠ TO ∧ a ≠ i1 ∧ a ≠ i2
  s2 : ∀ a ∈ d2.src, a ≠ z ∧ a ≠ TO ∧ a ≠ i1 ∧ a ≠ i2
theorem Apt.sep {z TI TO i1 i2 : Addr} {d1 d2 : Sd} (D : Apt z TI TO i1 i2 d1 d2) : ZipSep2 z TI TO i1 i2 (i1 :: d1.src) (i2 :: d2.src) where
  TIz := D.TIz
  TOz := D.TOz
  TITO := D.TITO
  TIi1 := D.TIi1
  mem1 := List.mem_cons_self ..
  zf1 := fun h => (List.mem_cons.mp h).elim D.zi1 fun h => (D.s1 z h).1 rfl
  Tf1 := fun h => (List.mem_cons.mp h).elim D.TOi1 fun h => (D.s1 TO h).2.1 rfl
  TIi2 := D.TIi2
  mem2 := List.mem_cons_self ..
  zf2 := fun h => (List.mem_cons.mp h).elim D.zi2 fun h => (D.s2 z h).1 rfl
  Tf2 := fun h => (List.mem_cons.mp h).elim D.TOi2 fun h => (D.s2 TO h).2.1 rfl
  sep1_2 := fun h => (List.mem_cons.mp h).elim D.i12 fun h => (D.s2 i1 h).2.2.1 rfl
  sep2_1 := fun h => (List.mem_cons.mp h).elim (fun e => D.i12 e.symm) fun h => (D.s1 i2 h).2.2.2 rfl
theorem turn_zipM {P : Program} {w : World} {K : PySem.W.Frag} {elts : List Expr} {kk : Nat} {tpos : Pos} {d1 d2 : Sd} {z TI TO i1 i2 : Addr} {t1 t2 : Tok} (D : Apt z TI TO i1 i2 d1 d2) :
    Turn P w K (.Tuple elts kk tpos) (ItM K d1 d2) [z, TI, TO, i1, i2] z (fun i h => IsZip h z TI TO .none ∧ IsTupOf2 h TI (.ref i1) (.ref i2) ∧ (∃ a1 a2, IsTupOf2 h TO a1 a2) ∧ d1.itr i1 t1 i h ∧ d2.itr i2 t2 i h) where
  mem := by simp
  obj := fun i h st c hc => by
    obtain ⟨hz, hTI, ⟨x, y, hTO⟩, h1, h2⟩ := st
    simp only [List.mem_cons, List.not_mem_nil, or_false] at hc
    rcases hc with rfl | rfl | rfl | rfl | rfl
    · exact ⟨_, hz, fun v q => nomatch q⟩
    · exact ⟨_, hTI, fun v q => nomatch q⟩
    · exact ⟨_, hTO, fun v q => nomatch q⟩
    · exact Sd.itr_ob h1
    · exact Sd.itr_ob h2
  keep := fun i h h' st k => by
    obtain ⟨hz, hTI, ⟨x, y, hTO⟩, h1, h2⟩ := st
    exact ⟨k z (by simp) _ hz, k TI (by simp) _ hTI, ⟨x, y, k TO (by simp) _ hTO⟩, Sd.itr_at h1 fun o q => k i1 (by simp) o q, Sd.itr_at h2 fun o q => k i2 (by simp) o q⟩
  item := by
    intro X hP hw hK hc i pins s σ H E I hf st hg
    subst hP hw hK
    obtain ⟨hz, hTI, hTO, h1, h2⟩ := st
    obtain ⟨xs, ys, q1, q2, hi, hl⟩ := hg
    obtain ⟨P1, S1, D1, f1, g1, r1⟩ := Sd.draws I hc q1 i1 t1 fun a ha => (D.s1 a ha).2.2.1
    obtain ⟨P2, S2, D2, f2, g2, r2⟩ := Sd.draws I hc q2 i2 t2 fun a ha => (D.s2 a ha).2.2.2
    have G := GoesN.zip2 (elts := elts) (x1 := kk) (pos := tpos) D.sep D1 D2
    refine G.goes i s _ E (by rw [← hl, Nat.min_self]; exact hi) ⟨hz, hTI, hTO, g1 i h1, g2 i h2⟩ fun v h' tk hY st' hk htk => ?_
    obtain ⟨T, x, y, rfl, hT, p1, p2, tup⟩ := hY
    obtain ⟨x', ex, rx⟩ := r1 i x p1
    obtain ⟨y', ey, ry⟩ := r2 i y p2
    have nT : H T = none := I.hok.fresh hT
    have new : ObjOk X.prog X.w (upd H T (.tup [x', y'])) h' T (.tup [x', y']) := ⟨by show 2 ≤ sizeLine; decide, [x, y], .cons rx (.cons ry .nil), tup⟩
    have sub : ∀ b ∈ [z, TO, i1, i2], b ∈ [z, TI, TO, i1, i2] := fun b hb => by
      simp only [List.mem_cons, List.not_mem_nil, or_false] at hb ⊢
      rcases hb with rfl | rfl | rfl | rfl
      · exact .inl rfl
      · exact .inr (.inr (.inl rfl))
      · exact .inr (.inr (.inr (.inl rfl)))
      · exact .inr (.inr (.inr (.inr rfl)))
    refine ⟨.ref T, upd H T (.tup [x', y']), I.turnedNew (t' := tk) (ch := [z, TO, i1, i2]) (fun b o hb e => hk b o hb e) (fun b hb => hf b (sub b hb)) hT new, rfl, ⟨T, x', y', rfl, nT, rfl, fun l hl => by rw [Sd.inj I hl q1]; exact ex, fun l hl => by rw [Sd.inj I hl q2]; exact ey⟩, ?_, fun b hb => ?_⟩
    · obtain ⟨a1, a2, a3, a4, a5⟩ := st'
      exact ⟨a1, a2, a3, f1 _ _ a4, f2 _ _ a5⟩
    · rw [upd_ne fun e => ?_]
      · exact (hf b hb).1
      · obtain ⟨o, ho, _⟩ : ∃ o, s.heap.get? b = some o ∧ True := by
          simp only [List.mem_cons, List.not_mem_nil, or_false] at hb
          rcases hb with rfl | rfl | rfl | rfl | rfl
          · exact ⟨_, hz, trivial⟩
          · exact ⟨_, hTI, trivial⟩
          · obtain ⟨_, _, q⟩ := hTO; exact ⟨_, q, trivial⟩
          · obtain ⟨o, q, _⟩ := Sd.itr_ob h1; exact ⟨o, q, trivial⟩
          · obtain ⟨o, q, _⟩ := Sd.itr_ob h2; exact ⟨o, q, trivial⟩
        rw [e] at ho
        exact Nat.lt_irrefl _ (Nat.lt_of_lt_of_le (Heap.lt_size ho) hT)
  done := by
    intro X hP hw hK hc i pins s σ H E I hf st hg
    subst hP hw hK
    obtain ⟨hz, hTI, hTO, h1, h2⟩ := st
    obtain ⟨xs, ys, q1, q2, rfl, hl⟩ := hg
    obtain ⟨P1, S1, D1, f1, g1, r1⟩ := Sd.draws I hc q1 i1 t1 fun a ha => (D.s1 a ha).2.2.1
    obtain ⟨P2, S2, D2, f2, g2, r2⟩ := Sd.draws I hc q2 i2 t2 fun a ha => (D.s2 a ha).2.2.2
    have G := GoesN.zip2 (elts := elts) (x1 := kk) (pos := tpos) D.sep D1 D2
    rw [← hl, Nat.min_self] at G
    refine G.stops s _ E ⟨hz, hTI, hTO, g1 _ h1, g2 _ h2⟩ fun h' tk hk htk => I.turnedL (t' := tk) (ch := [z, TO, i1, i2]) (fun b o hb e => hk b o hb e) fun b hb => hf b (by
      simp only [List.mem_cons, List.not_mem_nil, or_false] at hb ⊢
      rcases hb with rfl | rfl | rfl | rfl
      · exact .inl rfl
      · exact .inr (.inr (.inl rfl))
      · exact .inr (.inr (.inr (.inl rfl)))
      · exact .inr (.inr (.inr (.inr rfl))))
  self := fun A i s Q E st h => wpAny_pyIter_zip st.1 h
theorem apt_new (N : Nat) (d1 d2 : Sd) (h1 : ∀ a ∈ d1.src, a < N) (h2 : ∀ a ∈ d2.src, a < N) : Apt (N + 4) (N + 2) (N + 3) N (N + 1) d1 d2 where
  TIz := show (N + 2 : Nat) ≠ N + 4 by omega
  TOz := show (N + 3 : Nat) ≠ N + 4 by omega
  TITO := show (N + 2 : Nat) ≠ N + 3 by omega
  TIi1 := show (N + 2 : Nat) ≠ N by omega
  TIi2 := show (N + 2 : Nat) ≠ N + 1 by omega
  zi1 := show (N + 4 : Nat) ≠ N by omega
  zi2 := show (N + 4 : Nat) ≠ N + 1 by omega
  TOi1 := show (N + 3 : Nat) ≠ N by omega
  TOi2 := show (N + 3 : Nat) ≠ N + 1 by omega
  i12 := show (N : Nat) ≠ N + 1 by omega
  s1 := fun a ha => by
    have q : (show Nat from a) < N := h1 a ha
    exact ⟨fun e => by rw [show (show Nat from a) = N + 4 from e] at q; omega, fun e => by rw [show (show Nat from a) = N + 3 from e] at q; omega, fun e => by rw [show (show Nat from a) = N from e] at q; omega, fun e => by rw [show (show Nat from a) = N + 1 from e] at q; omega⟩
  s2 := fun a ha => by
    have q : (show Nat from a) < N := h2 a ha
    exact ⟨fun e => by rw [show (show Nat from a) = N + 4 from e] at q; omega, fun e => by rw [show (show Nat from a) = N + 3 from e] at q; omega, fun e => by rw [show (show Nat from a) = N from e] at q; omega, fun e => by rw [show (show Nat from a) = N + 1 from e] at q; omega⟩
section
variable {X : Cx} {pins : List (Addr × Obj)} {σ : L2.St} {H : Hp} {s : Shared}
/-- how iter of such a side begins -/
theorem Sd.begins {d : Sd} (I : Inv X pins σ H s) {xs : List V} (h : d.has X.K H xs) {u : Value} (r : RelV d.v u) : ∃ (t : Tok) (o : Obj) (Hq : Heap → Prop), Begins u o Hq ∧ Hq s.heap ∧ (∀ a ∈ d.src, a < s.heap.objs.size) ∧ ∀ h' i1, h'.get? i1 = some o → d.itr i1 t 0 h' := by
  cases d with
  | L a =>
    obtain ⟨its, rv, p, _⟩ := I.list h
    cases r
    refine ⟨0, _, _, begins_list a its.toArray, p.isList, fun b hb => ?_, fun h' i1 e => ⟨_, e, rfl, rfl⟩⟩
    rw [List.mem_singleton.mp hb]
    exact p.lt
  | T a =>
    obtain ⟨its, rv, p, _⟩ := I.tuple h
    cases r
    refine ⟨0, _, _, begins_tuple a its.toArray, p, fun b hb => ?_, fun h' i1 e => ⟨_, e, rfl, rfl⟩⟩
    rw [List.mem_singleton.mp hb]
    obtain ⟨o, ho, _⟩ := p
    exact Heap.lt_size ho
  | S z =>
    obtain ⟨t, rfl⟩ := r
    exact ⟨t, _, _, begins_text z t, trivial, fun b hb => absurd hb List.not_mem_nil, fun h' i1 e => ⟨_, e, rfl, rfl⟩⟩
end
def iZipM (K : PySem.W.Frag) (ta : TA) : TI := fun σ H R => ta σ H fun vs H1 => ∃ (d1 d2 : Sd) (xs ys : List V), vs = [d1.v, d2.v] ∧ d1.has K H1 xs ∧ d2.has K H1 ys ∧ xs.length = ys.length ∧ R (ItM K d1 d2) H1
theorem pi_zipM {X : Cx} {e e2 : Expr} {ta : TA} {p pos tpos : Pos} {elts : List Expr} {kk : Nat} (hg : Gl X "zip") (hm : X.mg "zip" = none) (ha : PA X [e, e2] ta)
    (hs : starEach [e, e2] X.env = (false, eval e X.env) :: starEach [e2] X.env := by rfl) (hpl : (backTo pos (starEach [e2] X.env)).any (·.1) = false := by rfl) :
    PI X (.Tuple elts kk tpos) (.Call (.Name "zip" p) [e, e2] [] pos) (iZipM X.K ta) := by
  refine ⟨fun pins s σ H R I h => Call_ (ld_blt I hg hm PyProof.Rows.boot_zip (PyProof.Rows.callWith_type1 (thn (ha.run pos pins s σ H _ I h) fun us s1 ⟨vs, H1, I1, r1, q1⟩ => ?_) hs hpl))⟩
  obtain ⟨d1, d2, xs, ys, rfl, h1, h2, hl, q⟩ := q1
  cases r1 with
  | cons r rr =>
    cases rr with
    | cons r' rr =>
      cases rr
      obtain ⟨t1, o1, Q1, B1, b1, l1, i1⟩ := Sd.begins I1 h1 r
      obtain ⟨t2, o2, Q2, B2, b2, l2, i2⟩ := Sd.begins I1 h2 r'
      refine zip_begins2 B1 B2 b1 b2 fun h' hz hTI hTO g1 g2 hsz hk => wpAny_pyIter_zip hz ?_
      have I2 : Inv X pins σ H1 { s1 with heap := h' } := I1.kept (t' := s1.toks) hk
      refine ⟨s1.heap.objs.size + 4, [s1.heap.objs.size + 4, s1.heap.objs.size + 2, s1.heap.objs.size + 3, s1.heap.objs.size, s1.heap.objs.size + 1], _, ItM X.K d1 d2, H1, rfl, I2, turn_zipM (t1 := t1) (t2 := t2) (apt_new _ d1 d2 l1 l2), ⟨hz, hTI, ⟨_, _, hTO⟩, i1 _ _ g1, i2 _ _ g2⟩, fun c hc => ?_, q⟩
      have hle : s1.heap.objs.size ≤ c := by
        simp only [List.mem_cons, List.not_mem_nil, or_false] at hc
        rcases hc with e | e | e | e | e <;> rw [e]
        · exact Nat.le_add_right _ _
        · exact Nat.le_add_right _ _
        · exact Nat.le_add_right _ _
        · exact Nat.le_refl _
        · exact Nat.le_add_right _ _
      exact I1.fpOk hle (I1.hok.fresh hle)
section
variable {X : Cx} {g : TG} {tb : TS} {body : List Stmt} {ta : TA}
/-- for a, b in zip(t, s): a tuple and a text of one length -/
theorem fs_forZTS {e e2 : Expr} {p pos tpos : Pos} {elts : List Expr} {kk : Nat} (hp : PassesOwn (model X.prog X.w) X.A X.env X.xe) (hc : X.calm = true) (hgl : Gl X "zip") (hm : X.mg "zip" = none) (ha : PA X [e, e2] ta) (hg : PG X (.Tuple elts kk tpos) g) (hb : PSs X body tb)
    (hst : starEach [e, e2] X.env = (false, eval e X.env) :: starEach [e2] X.env := by rfl) (hpl : (backTo pos (starEach [e2] X.env)).any (·.1) = false := by rfl) (hs : ∀ x, foldedSetIterable (.Call (.Name "zip" p) [e, e2] [] pos) X.env x = pure x := by intro _; rfl) {pos' : Pos} :
    PS X (.For (.Tuple elts kk tpos) (.Call (.Name "zip" p) [e, e2] [] pos) body [] pos') (fun D σ H => ta σ H fun vs H1 => match vs with
      | [.ref a, .str z] => ∃ xs, SqT X.K H1 a xs ∧ xs.length = (signs z).length ∧ LoopZ (fun H => SqT X.K H a xs) g tb D (xs.zip (signs z)) σ H1
      | _ => False) := ps_imp (ps_for hp hc (pi_zipM hgl hm (pa_up ha) hst hpl) hg hb hs) fun D σ H q => ⟨_, q, fun vs H1 q1 => by
  split at q1
  · rename_i a z
    obtain ⟨xs, hx, hl, q⟩ := q1
    have hz : (xs.zip (signs z)).length = xs.length := by rw [List.length_zip, hl, Nat.min_self]
    refine ⟨.T a, .S z, xs, signs z, rfl, hx, rfl, hl, loopZ_it (J := ItM X.K (.T a) (.S z)) (st := fun H => SqT X.K H a xs) (fun i H hi h => ?_) (fun i H x H' h y => ?_) (fun H h => ?_) hx q⟩
    · rw [hz] at hi
      exact ⟨xs, signs z, h, rfl, hi, hl⟩
    · obtain ⟨T, x1, x2, rfl, nT, rfl, f1, f2⟩ := y
      refine ⟨T, rfl, nT, fun p hp => ?_⟩
      rw [List.getElem?_zip_eq_some] at hp
      have e1 := (f1 _ h).symm.trans hp.1
      have e2 := (f2 (signs z) rfl).symm.trans hp.2
      rw [Option.some.inj e1, Option.some.inj e2]
    · exact ⟨xs, signs z, h, rfl, hz, hl⟩
  · exact q1.elim⟩
end
/-! ### set(a list of ints), sorted of it -/
end Fg
namespace L2
open PySem PySem.Spec PyProof.Rows
abbrev nSet (w : World) : Obj := { cls := .type "set", dict := none, data := .set #[] 0 (.fresh 0 0 (!w.params.followText "set-order")) }
set_option maxHeartbeats 6400000 in
theorem fset_list {P : Program} {w : World} {A : Around} {E : Value → Shared → Prop} {s : Shared} {l : Addr} {items : Array Value} (ns : List Int) {Q : Value → Shared → Prop} (hh : A.handled = none) (hl : s.heap.IsList l items) (hi : IntsAre items.toList ns) (hb : ns.length + 1 < scanBound)
    (h : ∀ (h' : Heap) (tk c : Nat), SetR w h' s.heap.objs.size (fun j => decide (j ∈ ns)) c → c ≤ ns.length → (∀ b o, s.heap.get? b = some o → h'.get? b = some o) → Q (.ref s.heap.objs.size) { s with heap := h', toks := tk }) :
    wpAny (model P w) A (call (.type "set") [.ref l]) Q E s := by
  have sz : items.size = ns.length := by simpa using hi.length
  have lt : l < s.heap.objs.size := hl.elim fun _ z => Heap.lt_size z.1
  have new : (s.heap.push (nSet w)).get? s.heap.objs.size = some (nSet w) := Heap.get?_push_size _ rfl
  have ty : Shared.TypeIs { s with heap := s.heap.push (nSet w) } (.ref s.heap.objs.size) "set" := ⟨_, new, rfl⟩
  obtain ⟨c0, tl0, mro⟩ := F.called_set.mro
  have made := F.called_set.made
  have sub := F.called_set.sub
  have ht := F.called_set.notType
  have cc := F.called_set.canCreate
  have tc := F.typeCall_set_1 (.ref l)
  have il := F.called_set.init.lookup
  have ib := F.called_set.init.bind (.ref s.heap.objs.size)
  refine wpAny_call (codeAny_of_tree ?_)
  show wpAny _ _ (callAny (.type "set") _) _ _ _
  refine wpAny_pure ⟨Code.quiet_builtin _ (by decide +kernel), codeAny_builtin F.entry_type_call ?_⟩
  rw [Around.under_plain (weight_type_call_type "set" [.ref l] []) rfl]
  repeat (any_goals (first | assumption | wp_step))
  refine codeAny_mono (code_set_led1 (.ref l) (E := E) (Q₁ := fun obj s₁ => obj = .ref s.heap.objs.size ∧ s₁ = { s with heap := s.heap.push (nSet w) }) ⟨rfl, rfl⟩) fun r s₁ hr => ?_
  match r, hr with
  | .error e, hr => exact hr
  | .ok .next, hr => exact hr.elim
  | .ok .brk, hr => exact hr.elim
  | .ok .cont, hr => exact hr.elim
  | .ok (.ret obj), hr =>
    obtain ⟨rfl, rfl⟩ := hr
    repeat (any_goals (first | assumption | wp_step))
    refine codeAny_mono (codeAny_call_builtin (R := wants (fun r s₂ => r = .none ∧ ∃ h' tk c, s₂ = { s with heap := h', toks := tk } ∧ SetR w h' s.heap.objs.size (fun j => decide (j ∈ ns)) c ∧ c ≤ ns.length ∧ ∀ b o, s.heap.get? b = some o → h'.get? b = some o) E)
      F.called_set.init.plain F.entry_set_init (check_set_init_1 ty ?_)) fun r₂ s₂ hr₂ => ?_
    · obtain ⟨⟨oc, od, odt, osl⟩, ol, hc, nl, hd⟩ := hl
      simp only at hc hd
      subst hc hd
      have ol2 : (s.heap.push (nSet w)).get? l = some { cls := .type "list", dict := od, data := .seq items nl, slots := osl } := Heap.get?_push_of_some _ ol
      have sl := F.sub_list_set
      have sf := F.sub_list_frozenset
      have nd : (Value.type "list" == Value.type "dict") = false := by decide
      have il2 : (s.heap.push (nSet w)).IsList l items := ⟨_, ol2, rfl, nl, rfl⟩
      have h3 : A.in1.in1.in1.handled = none := hh
      have s1 : (s.heap.push (nSet w)).objs.size = s.heap.objs.size + 1 := Heap.size_push ..
      have nI : l ≠ (s.heap.push (nSet w)).objs.size := by rw [s1]; exact Nat.ne_of_lt (Nat.lt_succ_of_lt lt)
      have nS : s.heap.objs.size ∉ [(s.heap.push (nSet w)).objs.size, l] := by
        rw [s1]
        simp only [List.mem_cons, List.not_mem_nil, or_false, not_or]
        exact ⟨Nat.ne_of_lt (Nat.lt_succ_self _), Nat.ne_of_gt lt⟩
      have val : ∀ (i : Nat) (v : Value), items[i]? = some v → ∃ k t, ns[i]? = some k ∧ v = .int k t := fun i v hv => by
        have q : i < ns.length := sz ▸ (Array.getElem?_eq_some_iff.mp hv).1
        obtain ⟨t, e⟩ := PyProof.Rows.IntsAre.int_at hi i v (by rw [Array.getElem?_toList]; exact hv)
        exact ⟨ns[i], t, List.getElem?_eq_getElem q, by rw [e, List.getD_eq_getElem?_getD, List.getElem?_eq_getElem q]; rfl⟩
      unfold Builtin.«set.__init__» noKeywords Builtin.Frozenset.updateFrom
      generalize hp : pyIter = PI
      wp_walk
      subst hp
      refine wpAny_pyIter_list il2 (wpAny_bind (wpAny_runValue ?_))
      refine set_update_ints (Walks.toS (Walks.list h3 _ l nI items)) s.heap.objs.size nS ns sz hb val (items.size - 0) 0 _ (by omega) (Nat.zero_le _) ⟨⟨_, Heap.get?_push_size _ rfl, rfl, rfl⟩, il2.push _⟩ ⟨0, Nat.le_refl 0, setR_new_at (Heap.get?_push_of_some _ new)⟩ ?_
      rintro ⟨h', g', d', tk', os'⟩ c' hm hc' hS'
      obtain rfl : g' = s.gens := hm.gens
      obtain rfl : d' = s.drawn := hm.drawn
      obtain rfl : os' = s.os := hm.os
      refine wpAny_pure (show wpAny _ _ (ret Value.none) _ _ _ from wpAny_pure ⟨rfl, h', tk', c', rfl, hS', sz ▸ hc', fun b o e => ?_⟩)
      have b0 := Heap.lt_size e
      refine hm.heap b o ?_ (Heap.get?_push_of_some _ (Heap.get?_push_of_some _ e))
      rw [s1]
      simp only [List.mem_cons, List.not_mem_nil, or_false, not_or]
      exact ⟨Nat.ne_of_lt b0, Nat.ne_of_lt (Nat.lt_succ_of_lt b0)⟩
    · match r₂, hr₂ with
      | .error e, hr₂ => exact hr₂
      | .ok .next, hr₂ => exact hr₂.elim
      | .ok .brk, hr₂ => exact hr₂.elim
      | .ok .cont, hr₂ => exact hr₂.elim
      | .ok (.ret r), hr₂ =>
        obtain ⟨rfl, h', tk, c, rfl, hS', hc', hk'⟩ := hr₂
        repeat (any_goals (first | assumption | wp_step))
        exact h _ _ _ hS' hc' hk'
end L2
namespace Fg
open PySem PySem.Spec PyProof.Rows L2
section
variable {X : Cx}
def fSetI (K : PySem.W.Frag) (w : World) : List V → Hp → VK → Prop := fun xs H Q => match xs with
  | [.ref l] => ∃ ns : List Int, SqL K H l (ns.map V.int) ∧ ns.length ≤ 60 ∧ ∀ p H', H p = none → Same H H' → (∃ n, n ≤ ns.length ∧ H' p = some (SetO w p (fun j => decide (j ∈ ns)) n)) → Q (.ref p) H'
  | _ => False
theorem f_setI (hc : X.calm = true) : CallR X (.type "set") (fSetI X.K X.w) := by
  intro pins s σ H xs us Q I r q
  unfold fSetI at q
  split at q
  · obtain ⟨ns, hs, hl, q⟩ := q
    obtain ⟨its, rv, p, _⟩ := I.list hs
    rw [Vals.ref1 r]
    have hb : ns.length + 1 < scanBound := by unfold scanBound; omega
    refine fset_list ns (I.ok.hd hc) p.isList (ints_of_vals rv) hb fun h' tk c R hcn k => ?_
    have np := I.hok.fresh (Nat.le_refl s.heap.objs.size)
    exact ⟨.ref s.heap.objs.size, _, I.laid (t' := tk) k (Nat.le_refl _) (setO_new R), rfl, q _ _ np (Same.new np) ⟨c, hcn, upd_same⟩⟩
  · exact q.elim
def fSortedSet (w : World) : List V → Hp → VK → Prop := fun xs H Q => match xs with
  | [.ref a] => ∃ S n, H a = some (SetO w a S n) ∧ n < 64 ∧ ∀ ns : List Int, ns.Pairwise (· < ·) → (∀ k : Int, k ∈ ns ↔ S k = true) → Fresh H (.lst (ns.map V.int)) Q
  | _ => False
theorem f_sortedSet (hc : X.calm = true) : CallR X (.builtin "sorted") (fSortedSet X.w) := call_imp (cr_sortedSet hc) fun xs H Q q => by
  unfold fSortedSet at q
  split at q
  · obtain ⟨S, n, h, hn, q⟩ := q
    exact ⟨_, S, n, rfl, h, hn, fun ns p h1 h2 _ np => (q ns h1 h2).go p np⟩
  · exact q.elim
def fSortedI (K : PySem.W.Frag) : List V → Hp → VK → Prop := fun xs H Q => match xs with
  | [.ref a] => ∃ ns : List Int, SqL K H a (ns.map V.int) ∧ ∀ ns' : List Int, ns'.Perm ns → ns'.Pairwise (· ≤ ·) → Fresh H (.lst (ns'.map V.int)) Q
  | _ => False
theorem f_sortedI : CallR X (.builtin "sorted") (fSortedI X.K) := call_imp cr_sortedI fun xs H Q q => by
  unfold fSortedI at q
  split at q
  · obtain ⟨ns, h, q⟩ := q
    exact ⟨_, ns, rfl, h, fun ns' p h1 h2 np => (q ns' h1 h2).go p np⟩
  · exact q.elim
def fIntS : List V → Hp → VK → Prop := fun xs H Q => match xs with
  | [.str a] => ∃ n, PySem.intText? a = some n ∧ a.length ≤ 640 ∧ Q (.int n) H
  | _ => False
theorem f_intS : CallR X (.type "int") fIntS := call_imp call_int_str fun xs H Q q => by
  unfold fIntS at q
  split at q
  · obtain ⟨n, h, hl, q⟩ := q
    exact ⟨_, n, rfl, h, hl, q⟩
  · exact q.elim
/-- d.get(k, x), k a text -/
def fDGetOr (td ty tx : TE) : TE := fun σ H Q => td σ H fun x H1 => match x with
  | .ref a => (∃ kvs, H1 a = some (.dK kvs)) ∧ ty σ H1 fun y H2 => tx σ H2 fun z H3 => match y with
    | .str k => ∃ kvs, H3 a = some (.dK kvs) ∧ Q ((valV kvs (Sum.inr k : Key)).getD z) H3
    | _ => False
  | _ => False
theorem fe_dgetOr {o e f : Expr} {td ty tx : TE} {apos cpos : Pos} (hu : X.A.units + 1 < cLine) (ho : PE X o td) (he : PE X e ty) (hf : PE X f tx) (m : M2 X o "get" apos e f cpos := by exact ⟨rfl, rfl, rfl, rfl⟩) :
    PE X (.Call (.Attribute o "get" apos) [e, f] [] cpos) (fDGetOr td ty tx) := pe_imp (pe_dget2 hu (pe_up ho) (pe_up he) (pe_up hf) m) fun σ H Q q => ⟨_, q, fun x H1 q1 => by
  split at q1
  · obtain ⟨⟨kvs, h⟩, q1⟩ := q1
    refine ⟨_, rfl, .inl ⟨kvs, .inl h⟩, _, q1, fun y H2 q2 => ⟨_, q2, fun z H3 q3 => ?_⟩⟩
    split at q3
    · obtain ⟨kvs, h3, q3⟩ := q3
      exact ⟨_, DGet.k (k := Sum.inr _) h3, q3⟩
    · exact q3.elim
  · exact q1.elim⟩
end
end Fg

set_option Elab.async false
set_option linter.all false
set_option maxRecDepth 100000
set_option maxHeartbeats 4000000
namespace Fg
open PySem PySem.Spec PyProof.Rows L2
local macro_rules | `(tactic| walk_at "hp") => `(tactic| first | assumption | (refine Same.get (by assumption) ?_; walk_at "hp"))
local macro_rules | `(tactic| walk_at "sq") => `(tactic| first | assumption | (exact Or.inr (by assumption)) | (exact Or.inl (by assumption)) | (exact Or.inl (SqL.of (by walk_at "hp"))) | (exact Or.inr (SqT.of (by walk_at "hp"))) | (exact SqL.of (by walk_at "hp")) | (exact SqT.of (by walk_at "hp")))
local macro_rules | `(tactic| walk_at "cl") => `(tactic| first | ((first | show (_ : Int) < _ | show (_ : Int) ≤ _); first | omega | decide) | ((first | show (_ : Nat) < _ | show (_ : Nat) ≤ _); first | with_reducible assumption | (refine sz_le ?_; first | decide | omega | (simp <;> omega)) | (refine sz_lt ?_; first | decide | omega | (simp <;> omega)) | omega | decide | ((with_reducible show List.length _ < _); exact Nat.le_of_ble_eq_true rfl)) | rfl | walk_at "hp" | walk_at "sq" | (refine And.intro (by walk_at "cl") (by walk_at "cl")) | (exact Exists.intro _ (by walk_at "hp")) | (exact Exists.intro _ (Exists.intro _ (by walk_at "hp"))) | (exact Exists.intro _ (Exists.intro _ (And.intro (by walk_at "hp") rfl))) | decide | (exact Or.inl (by walk_at "cl")) | (exact Or.inr (by walk_at "cl")) | omega)
local macro_rules | `(tactic| walk_at "s1") => `(tactic| first | refine And.intro (by walk_at "cl") ?_ | apply Exists.intro)
local macro_rules | `(tactic| walk_at "sx") => `(tactic| repeat walk_at "s1")
local macro_rules | `(tactic| walk_at "si") => `(tactic| first | refine iteY rfl ?_ | refine iteN rfl ?_)
local macro_rules | `(tactic| walk_at "sy") => `(tactic| repeat first | walk_at "s1" | walk_at "si")
/-! ### the text by places -/
def top (i : Nat) : Stmt := PySem.Challenge.pw_figurelines_k04_whole_integers_of_a_text.main.body.getD i (.Pass ⟨0, 0, 0, 0⟩)
abbrev s_InvalidNumberdd_initdd : Stmt := inClass (top 3) 0
theorem sc_InvalidNumberdd_initdd : FnScope ["self", "value"] ["self", "value"] (defScope s_InvalidNumberdd_initdd) := ⟨rfl, rfl, rfl, by decide +kernel, rfl, by decide +kernel, by decide +kernel⟩
abbrev s_InvalidTextdd_initdd : Stmt := inClass (top 4) 0
theorem sc_InvalidTextdd_initdd : FnScope ["self", "value"] ["self", "value"] (defScope s_InvalidTextdd_initdd) := ⟨rfl, rfl, rfl, by decide +kernel, rfl, by decide +kernel, by decide +kernel⟩
abbrev s_InvalidSettingdd_initdd : Stmt := inClass (top 5) 0
theorem sc_InvalidSettingdd_initdd : FnScope ["self", "setting"] ["self", "setting"] (defScope s_InvalidSettingdd_initdd) := ⟨rfl, rfl, rfl, by decide +kernel, rfl, by decide +kernel, by decide +kernel⟩
abbrev s_is_integer : Stmt := top 11
theorem sc_is_integer : FnScope ["value"] ["value"] (defScope s_is_integer) := ⟨rfl, rfl, rfl, by decide +kernel, rfl, by decide +kernel, by decide +kernel⟩
abbrev s_is_between : Stmt := top 12
theorem sc_is_between : FnScope ["value", "low", "high"] ["value", "low", "high"] (defScope s_is_between) := ⟨rfl, rfl, rfl, by decide +kernel, rfl, by decide +kernel, by decide +kernel⟩
abbrev s_is_sign : Stmt := top 13
theorem sc_is_sign : FnScope ["value"] ["value"] (defScope s_is_sign) := ⟨rfl, rfl, rfl, by decide +kernel, rfl, by decide +kernel, by decide +kernel⟩
abbrev s_code_of : Stmt := top 14
theorem sc_code_of : FnScope ["sign", "place"] ["sign"] (defScope s_code_of) := ⟨rfl, rfl, rfl, by decide +kernel, rfl, by decide +kernel, by decide +kernel⟩
abbrev s_figures_of : Stmt := top 16
theorem sc_figures_of : FnScope ["size", "base", "figures"] ["size", "base"] (defScope s_figures_of) := ⟨rfl, rfl, rfl, by decide +kernel, rfl, by decide +kernel, by decide +kernel⟩
abbrev s_size_of : Stmt := top 17
theorem sc_size_of : FnScope ["figures", "base", "size", "figure"] ["figures", "base"] (defScope s_size_of) := ⟨rfl, rfl, rfl, by decide +kernel, rfl, by decide +kernel, by decide +kernel⟩
abbrev s_is_setting : Stmt := top 23
theorem sc_is_setting : FnScope ["setting", "value"] ["setting", "value"] (defScope s_is_setting) := ⟨rfl, rfl, rfl, by decide +kernel, rfl, by decide +kernel, by decide +kernel⟩
abbrev s_settings_text : Stmt := top 24
theorem sc_settings_text : FnScope ["values", "words", "setting", "value"] ["values"] (defScope s_settings_text) := ⟨rfl, rfl, rfl, by decide +kernel, rfl, by decide +kernel, by decide +kernel⟩
abbrev s_Formatdd_initdd : Stmt := inClass (top 26) 0
theorem sc_Formatdd_initdd : FnScope ["self", "base", "sign", "least", "group", "mark", "width", "fill", "side", "values", "setting", "value"] ["self", "base", "sign", "least", "group", "mark", "width", "fill", "side"] (defScope s_Formatdd_initdd) := ⟨rfl, rfl, rfl, by decide +kernel, rfl, by decide +kernel, by decide +kernel⟩
abbrev s_Format_layout : Stmt := inClass (top 26) 4
theorem sc_Format_layout : FnScope ["self", "negative", "count", "body", "left", "head", "lack", "fills"] ["self", "negative", "count"] (defScope s_Format_layout) := ⟨rfl, rfl, rfl, by decide +kernel, rfl, by decide +kernel, by decide +kernel⟩
abbrev s_Format_written : Stmt := inClass (top 26) 5
theorem sc_Format_written : FnScope ["self", "number", "figures", "signs", "found", "at", "spot", "figure"] ["self", "number"] (defScope s_Format_written) := ⟨rfl, rfl, rfl, by decide +kernel, rfl, by decide +kernel, by decide +kernel⟩
abbrev s_Format_text : Stmt := inClass (top 26) 6
theorem sc_Format_text : FnScope ["self", "number"] ["self", "number"] (defScope s_Format_text) := ⟨rfl, rfl, rfl, by decide +kernel, rfl, by decide +kernel, by decide +kernel⟩
abbrev s_Formatdd_calldd : Stmt := inClass (top 26) 7
theorem sc_Formatdd_calldd : FnScope ["self", "number"] ["self", "number"] (defScope s_Formatdd_calldd) := ⟨rfl, rfl, rfl, by decide +kernel, rfl, by decide +kernel, by decide +kernel⟩
abbrev s_Format_read_as : Stmt := inClass (top 26) 8
theorem sc_Format_read_as : FnScope ["self", "text", "negative", "count", "layout", "figures", "spot", "sign", "size"] ["self", "text", "negative", "count"] (defScope s_Format_read_as) := ⟨rfl, rfl, rfl, by decide +kernel, rfl, by decide +kernel, by decide +kernel⟩
abbrev s_Format_all_numbers : Stmt := inClass (top 26) 9
theorem sc_Format_all_numbers : FnScope ["self", "text", "found", "count", "negative", "number"] ["self", "text"] (defScope s_Format_all_numbers) := ⟨rfl, rfl, rfl, by decide +kernel, rfl, by decide +kernel, by decide +kernel⟩
abbrev s_Format_numbers : Stmt := inClass (top 26) 10
theorem sc_Format_numbers : FnScope ["self", "text"] ["self", "text"] (defScope s_Format_numbers) := ⟨rfl, rfl, rfl, by decide +kernel, rfl, by decide +kernel, by decide +kernel⟩
abbrev s_l_pot : Stmt := top 30
theorem sc_l_pot : FnScope ["_law_script", "_law_k", "_law_beaten", "_law_each", "_law_entry"] ["_law_script", "_law_k"] (defScope s_l_pot) := ⟨rfl, rfl, rfl, by decide +kernel, rfl, by decide +kernel, by decide +kernel⟩
abbrev s_l_spoon : Stmt := top 31
theorem sc_l_spoon : FnScope ["_law_pot_here", "_law_wide", "_law_left"] ["_law_pot_here", "_law_wide"] (defScope s_l_spoon) := ⟨rfl, rfl, rfl, by decide +kernel, rfl, by decide +kernel, by decide +kernel⟩
abbrev s_l_of : Stmt := top 32
theorem sc_l_of : FnScope ["_law_pot_here", "_law_things"] ["_law_pot_here", "_law_things"] (defScope s_l_of) := ⟨rfl, rfl, rfl, by decide +kernel, rfl, by decide +kernel, by decide +kernel⟩
abbrev s_l_signs : Stmt := top 33
theorem sc_l_signs : FnScope [] [] (defScope s_l_signs) := ⟨rfl, rfl, rfl, by decide +kernel, rfl, by decide +kernel, by decide +kernel⟩
abbrev s_l_sign : Stmt := top 34
theorem sc_l_sign : FnScope ["_law_pot_here"] ["_law_pot_here"] (defScope s_l_sign) := ⟨rfl, rfl, rfl, by decide +kernel, rfl, by decide +kernel, by decide +kernel⟩
abbrev s_l_shape : Stmt := top 35
theorem sc_l_shape : FnScope ["_law_pot_here", "_law_far", "_law_shape_here"] ["_law_pot_here"] (defScope s_l_shape) := ⟨rfl, rfl, rfl, by decide +kernel, rfl, by decide +kernel, by decide +kernel⟩
abbrev s_l_format : Stmt := top 36
theorem sc_l_format : FnScope ["_law_shape_here"] ["_law_shape_here"] (defScope s_l_format) := ⟨rfl, rfl, rfl, by decide +kernel, rfl, by decide +kernel, by decide +kernel⟩
abbrev s_l_said : Stmt := top 37
theorem sc_l_said : FnScope ["_law_shape_here", "_law_n", "_law_size", "_law_row", "_law_body", "_law_k", "_law_head", "_law_lack", "_law_ahead_of"] ["_law_shape_here", "_law_n"] (defScope s_l_said) := ⟨rfl, rfl, rfl, by decide +kernel, rfl, by decide +kernel, by decide +kernel⟩
abbrev s_l_ended : Stmt := top 38
theorem sc_l_ended : FnScope ["_law_ask", "_law_given", "e"] ["_law_ask"] (defScope s_l_ended) := ⟨rfl, rfl, rfl, by decide +kernel, rfl, by decide +kernel, by decide +kernel⟩
abbrev s_l_changed : Stmt := top 39
theorem sc_l_changed : FnScope ["_law_pot_here", "_law_row", "_law_at", "_law_sign_here", "_law_way"] ["_law_pot_here", "_law_row"] (defScope s_l_changed) := ⟨rfl, rfl, rfl, by decide +kernel, rfl, by decide +kernel, by decide +kernel⟩
abbrev s_l_right : Stmt := top 40
theorem sc_l_right : FnScope ["_law_pot_here", "_law_shape_here", "_law_made", "_law_table", "_law_n", "_law_row", "_law_rows", "_law_given", "_law_turn", "_law_far", "_law_odd", "_law_ones", "_law_star", "_law_k"] ["_law_pot_here"] (defScope s_l_right) := ⟨rfl, rfl, rfl, by decide +kernel, rfl, by decide +kernel, by decide +kernel⟩
abbrev s_law : Stmt := top 41
theorem sc_law : FnScope ["_law_script", "_law_k"] ["_law_script"] (defScope s_law) := ⟨rfl, rfl, rfl, by decide +kernel, rfl, by decide +kernel, by decide +kernel⟩
/-- where the text's classes and tables stand -/
structure Ad where
  cInvalidSetting : Addr
  cInvalidNumber : Addr
  cFormat : Addr
  cInvalidText : Addr
  tP_l_right : Addr
  cC_l_right : Addr
  tHEADS : Addr
  tSIDES : Addr
  tSETTINGS : Addr
  cUnfit : Addr
/-- what the top has written -/
structure Txt (w : World) (K : PySem.W.Frag) (mg : Str → Option Value) (A : Ad) : Prop where
  F_is_integer : FunAt K mg "is_integer" s_is_integer
  b_isinstance : mg "isinstance" = none
  b_int : mg "int" = none
  F_is_between : FunAt K mg "is_between" s_is_between
  F_is_sign : FunAt K mg "is_sign" s_is_sign
  b_str : mg "str" = none
  b_len : mg "len" = none
  g_PRINT : ∃ u, mg "PRINT" = some u ∧ RelV (.str " !\"#$&'()*+,-./0123456789:;<=>?@ABCDEFGHIJKLMNOPQRSTUVWXYZ[\\]^_`abcdefghijklmnopqrstuvwxyz{|}~") u
  F_code_of : FunAt K mg "code_of" s_code_of
  F_figures_of : FunAt K mg "figures_of" s_figures_of
  F_is_setting : FunAt K mg "is_setting" s_is_setting
  d_HEADS : KTab K w A.tHEADS [("minus", .str ""), ("plus", .str "+"), ("blank", .str " ")]
  g_HEADS : ∃ u, mg "HEADS" = some u ∧ RelV (.ref A.tHEADS) u
  g_SIDES : ∃ u, mg "SIDES" = some u ∧ RelV (.ref A.tSIDES) u
  g_FIGURES : ∃ u, mg "FIGURES" = some u ∧ RelV (.str "0123456789abcdef") u
  g_MOST_GROUP : ∃ u, mg "MOST_GROUP" = some u ∧ RelV (.int 4) u
  g_MOST_WIDTH : ∃ u, mg "MOST_WIDTH" = some u ∧ RelV (.int 12) u
  t_SIDES : ∀ H, SqT K H A.tSIDES [.str "left", .str "right", .str "both", .str "inner"]
  F_settings_text : FunAt K mg "settings_text" s_settings_text
  b_zip : mg "zip" = none
  g_SETTINGS : ∃ u, mg "SETTINGS" = some u ∧ RelV (.ref A.tSETTINGS) u
  t_SETTINGS : ∀ H, SqT K H A.tSETTINGS [.str "base", .str "sign", .str "least", .str "group", .str "mark", .str "width", .str "fill", .str "side"]
  oe_InvalidSetting : OexC K A.cInvalidSetting
  g_InvalidSetting : mg "InvalidSetting" = some (.ref A.cInvalidSetting)
  I_InvalidSettingdd_initdd : InitAt K A.cInvalidSetting "InvalidSetting.__init__" s_InvalidSettingdd_initdd
  nf_InvalidSetting : PySem.W.findIn K (.ref A.cInvalidSetting) "setting" = some none
  oe_InvalidNumber : OexC K A.cInvalidNumber
  g_InvalidNumber : mg "InvalidNumber" = some (.ref A.cInvalidNumber)
  I_InvalidNumberdd_initdd : InitAt K A.cInvalidNumber "InvalidNumber.__init__" s_InvalidNumberdd_initdd
  nf_InvalidNumber : PySem.W.findIn K (.ref A.cInvalidNumber) "value" = some none
  g_Format : mg "Format" = some (.ref A.cFormat)
  K_Format : InitK K A.cFormat "Format.__init__" s_Formatdd_initdd [("base", .int 10), ("sign", .str "minus"), ("least", .int 1), ("group", .int 0), ("mark", .str ","), ("width", .int 0), ("fill", .str " "), ("side", .str "left")]
  cl_Format : Cls K A.cFormat
  n_Format_base : NoAttr K A.cFormat "base"
  n_Format_sign : NoAttr K A.cFormat "sign"
  n_Format_least : NoAttr K A.cFormat "least"
  n_Format_group : NoAttr K A.cFormat "group"
  n_Format_mark : NoAttr K A.cFormat "mark"
  n_Format_width : NoAttr K A.cFormat "width"
  n_Format_fill : NoAttr K A.cFormat "fill"
  n_Format_side : NoAttr K A.cFormat "side"
  n_Format_words : NoAttr K A.cFormat "words"
  M_Format_layout : MethAt K A.cFormat "layout" "Format.layout" s_Format_layout
  b_range : mg "range" = none
  b_list : mg "list" = none
  b_max : mg "max" = none
  M_Format_written : MethAt K A.cFormat "written" "Format.written" s_Format_written
  b_abs : mg "abs" = none
  M_Format_text : MethAt K A.cFormat "text" "Format.text" s_Format_text
  C_Format : CallAt K A.cFormat "Format.__call__" s_Formatdd_calldd
  F_l_spoon : FunAt K mg "_law_spoon" s_l_spoon
  F_l_of : FunAt K mg "_law_of" s_l_of
  F_l_pot : FunAt K mg "_law_pot" s_l_pot
  F_l_signs : FunAt K mg "_law_signs" s_l_signs
  F_l_sign : FunAt K mg "_law_sign" s_l_sign
  F_l_shape : FunAt K mg "_law_shape" s_l_shape
  F_l_format : FunAt K mg "_law_format" s_l_format
  F_l_said : FunAt K mg "_law_said" s_l_said
  F_size_of : FunAt K mg "size_of" s_size_of
  M_Format_read_as : MethAt K A.cFormat "read_as" "Format.read_as" s_Format_read_as
  M_Format_all_numbers : MethAt K A.cFormat "all_numbers" "Format.all_numbers" s_Format_all_numbers
  b_tuple : mg "tuple" = none
  b_sorted : mg "sorted" = none
  oe_InvalidText : OexC K A.cInvalidText
  g_InvalidText : mg "InvalidText" = some (.ref A.cInvalidText)
  I_InvalidTextdd_initdd : InitAt K A.cInvalidText "InvalidText.__init__" s_InvalidTextdd_initdd
  nf_InvalidText : PySem.W.findIn K (.ref A.cInvalidText) "value" = some none
  M_Format_numbers : MethAt K A.cFormat "numbers" "Format.numbers" s_Format_numbers
  xf_InvalidText : XfC K A.cInvalidText
  xc_InvalidText : ExcC K A.cInvalidText
  v_Unfit : ∃ u, mg "Unfit" = some u ∧ RelV (.ref A.cUnfit) u
  b_ValueError : mg "ValueError" = none
  ex_InvalidText_InvalidText : PySem.W.exmOne K (.ref A.cInvalidText) (.ref A.cInvalidText) = some true
  ki_InvalidText_Unfit : PySem.W.kitOne K (.ref A.cInvalidText) (.ref A.cUnfit) = some true
  ki_InvalidText_ValueError : PySem.W.kitOne K (.ref A.cInvalidText) (.type "ValueError") = some true
  in_Format : (PySem.W.findIn K (.ref A.cFormat) "__class__" = some (some (.builtin "object.__class__"))) ∧ (PySem.W.specialIn K (.builtin "object.__class__") "__get__" = some (some (.builtin "getset_descriptor.__get__"))) ∧ (PySem.W.takesIn K (.builtin "object.__class__") = some true) ∧ PySem.W.mroIn K A.cFormat (.type "object") = some true
  kn_Format_int : PySem.W.kitOne K (.ref A.cFormat) (.type "int") = some false
  kn_Format_str : PySem.W.kitOne K (.ref A.cFormat) (.type "str") = some false
  b_set : mg "set" = none
  F_l_changed : FunAt K mg "_law_changed" s_l_changed
  k_l_right : FunC K mg "_law_right" s_l_right A.cC_l_right
  b_any : mg "any" = none
  F_l_ended : FunAt K mg "_law_ended" s_l_ended
  F_law : FunAt K mg "law" s_law
  b_all : mg "all" = none
  b_min : mg "min" = none

end Fg
set_option Elab.async false
set_option linter.all false
set_option maxRecDepth 100000
set_option maxHeartbeats 4000000
namespace Fg
open PySem PySem.Spec PyProof.Rows L2
/-! ### the head's facts -/
def dG (x : Str) (st : Stmt) : He.DefD := ⟨(x, none), x, x, defArgs st, defBody st, defScope st, [], []⟩
def dM (C m q : Str) (st : Stmt) : He.DefD := ⟨(C, some m), m, q, defArgs st, defBody st, defScope st, [], []⟩
def dMK (C m q : Str) (st : Stmt) (kws : List (Str × He.Dv)) : He.DefD := ⟨(C, some m), m, q, defArgs st, defBody st, defScope st, [], kws⟩
abbrev DefAt (K : PySem.W.Frag) (d : He.DefD) : Prop := ∃ fd, FunD K d.name d.qual d.params d.body d.scope (d.dvs K) (d.kws K) (He.fAd K d.at_) fd
section
variable {K : PySem.W.Frag} {h : Heap} {mg : Str → Option Value} {w : World}
theorem fun_of {x q : Str} {st : Stmt} {f : Addr} {fd : FuncData} (F : FunD K x q (defArgs st) (defBody st) (defScope st) [] [] f fd) : Fun K x q st f fd := by
  obtain ⟨⟨oc, od, dV, kV, doc, pm, an, cdv, ct, osl, rfl, lk, hcd, hd, _⟩, kp⟩ := F
  rcases hd with ⟨_, rfl⟩ | ⟨z, _⟩
  · exact ⟨⟨oc, od, kV, doc, pm, an, cdv, ct, osl, rfl, lk, hcd⟩, kp⟩
  · exact absurd rfl z
theorem funAt_of (X : K.In h) (G : h.Ns mainGlobals mg) {x : Str} {st : Stmt} (F : DefAt K (dG x st)) (g : (He.Fa.glo x).ok K = true) : FunAt K mg x st := by
  obtain ⟨fd, F⟩ := F
  exact ⟨⟨He.ga K x, fd, fun_of F, He.glo_ok X G g⟩⟩
theorem methAt_of {C m q : Str} {st : Stmt} (F : DefAt K (dM C m q st)) (g : (He.Fa.meth C m).ok K = true) : MethAt K (He.ga K C) m q st := by
  obtain ⟨fd, F⟩ := F
  exact ⟨⟨_, fd, fun_of F, He.meth_ok g⟩⟩
theorem initAt_of {C q : Str} {st : Stmt} (F : DefAt K (dM C "__init__" q st)) (g : (He.Fa.meth C "__init__").ok K = true) : InitAt K (He.ga K C) q st := by
  obtain ⟨fd, F⟩ := F
  have M := He.meth_ok g
  exact ⟨⟨_, fd, fun_of F, M.at_, beq_iff_eq.mp M.fn⟩⟩
theorem initK_of {C q : Str} {st : Stmt} {kws : List (Str × He.Dv)} (F : DefAt K (dMK C "__init__" q st kws)) (g : (He.Fa.mkr C).ok K = true) : InitK K (He.ga K C) q st (kws.map fun p => (p.1, p.2.v K)) := by
  obtain ⟨fd, F⟩ := F
  exact ⟨⟨_, fd, F, He.mkr_ok g⟩⟩
theorem callAt_of {C q : Str} {st : Stmt} (F : DefAt K (dM C "__call__" q st)) (g : (He.Fa.meth C "__call__").ok K = true) : CallAt K (He.ga K C) q st := by
  obtain ⟨fd, F⟩ := F
  have M := He.meth_ok g
  have F2 := fun_of F
  refine ⟨⟨_, fd, F2, M.at_, M.fn, ?_⟩⟩
  obtain ⟨oc, od, kV, doc, pm, an, cdv, ct, osl, rfl, lk, _⟩ := F2.ex
  unfold PySem.W.fnIn
  rw [lk]
theorem funC_of (X : K.In h) (G : h.Ns mainGlobals mg) {x : Str} {st : Stmt} (F : DefAt K (dG x st)) (g : (He.Fa.glo x).ok K = true) : FunC K mg x st (He.codeOf K (x, none)) := by
  obtain ⟨fd, F⟩ := F
  have F2 := fun_of F
  obtain ⟨oc, od, kV, doc, pm, an, cdv, ct, osl, rfl, lk, hcd⟩ := F2.ex
  obtain ⟨c, rfl⟩ := He.codeIn_ref hcd
  have e : He.codeOf K (x, none) = c := He.codeOf_eq (p := (x, none)) lk rfl
  rw [e]
  exact ⟨⟨_, oc, od, kV, doc, pm, an, ct, osl, lk, hcd, F2.kp, He.glo_ok X G g⟩⟩
/-- a text, an int of the module -/
theorem strG_of (X : K.In h) (G : h.Ns mainGlobals mg) {x z : Str} (g : (He.Fa.str x z).ok K = true) : ∃ u, mg x = some u ∧ RelV (.str z) u := by
  obtain ⟨t, e⟩ := He.str_ok X G g
  exact ⟨_, e, t, rfl⟩
theorem intG_of (X : K.In h) (G : h.Ns mainGlobals mg) {x : Str} {i : Int} (g : (He.Fa.int x i).ok K = true) : ∃ u, mg x = some u ∧ RelV (.int i) u := by
  obtain ⟨t, e⟩ := He.int_ok X G g
  exact ⟨_, e, t, rfl⟩
theorem refG_of (X : K.In h) (G : h.Ns mainGlobals mg) {x : Str} (g : (He.Fa.glo x).ok K = true) : ∃ u, mg x = some u ∧ RelV (.ref (He.ga K x)) u := ⟨_, He.glo_ok X G g, rfl⟩
/-- an own error class -/
def oeB (K : PySem.W.Frag) (C : Addr) : Bool := (match K.lookup C with
  | some ⟨.type t, _, .cls cd, sl⟩ => decide (t = "type") && ((match cd.mro with
    | .ref c :: bm => decide (c = C) && PySem.HandSPX.refsVE bm
    | _ => false) && ((cd.hasDict && !cd.hasDel) && (match sl.toList with
    | [_, _, _, _, some (.builtin n), _] => decide (n = "ValueError.__new__")
    | _ => false)))
  | _ => false) && (decide (PySem.W.findIn K (.ref C) "__setattr__" = some (some (.builtin "object.__setattr__"))) && (decide (PySem.W.subIn K (.ref C) (.type "BaseException") = some true) && (decide (PySem.W.typeIn K (.ref C) = some (.type "type")) && PySem.W.keepIn K (.ref C))))
theorem oeB_ok {C : Addr} (g : oeB K C = true) : OexC K C := by
  obtain ⟨g1, g⟩ := He.ba g
  obtain ⟨g2, g⟩ := He.ba g
  obtain ⟨g3, g⟩ := He.ba g
  obtain ⟨g4, g5⟩ := He.ba g
  refine ⟨?_, of_decide_eq_true g2, of_decide_eq_true g3, of_decide_eq_true g4, g5⟩
  split at g1
  · rename_i t dd cd sl lk
    obtain ⟨a1, g1⟩ := He.ba g1
    obtain ⟨a2, g1⟩ := He.ba g1
    obtain ⟨a3, a4⟩ := He.ba g1
    obtain ⟨a5, a6⟩ := He.ba a3
    obtain ⟨nm, bs, mro, ns, qn, hdct, sn, sub, ab, col, hdel⟩ := cd
    dsimp only at a2 a5 a6
    subst a5
    have e6 : hdel = false := by
      cases hdel with
      | false => rfl
      | true => cases a6
    subst e6
    split at a2
    · rename_i c bm
      obtain ⟨b1, b2⟩ := He.ba a2
      have b1 := of_decide_eq_true b1
      have e1 := of_decide_eq_true a1
      subst e1
      obtain ⟨sl⟩ := sl
      dsimp only at a4
      split at a4
      · have e4 := of_decide_eq_true a4
        subst b1
        subst e4
        exact ⟨_, _, _, _, _, _, _, _, _, _, _, _, _, _, _, lk, b2⟩
      · cases a4
    · cases a2
  · cases g1
def xcB (K : PySem.W.Frag) (D : Addr) : Bool := decide (PySem.W.findIn K (.ref D) "__getattribute__" = some (some (.builtin "BaseException.__getattribute__"))) && (decide (PySem.W.findIn K (.ref D) "__getattr__" = some none) && (decide (PySem.W.subIn K (.ref D) (.type "BaseException") = some true) &&
  (PySem.W.hasDictIn K D && (decide (PySem.W.findIn K (.ref D) "__class__" = some (some (.builtin "object.__class__"))) && (decide (PySem.W.specialIn K (.builtin "object.__class__") "__get__" = some (some (.builtin "getset_descriptor.__get__"))) &&
  (decide (PySem.W.takesIn K (.builtin "object.__class__") = some true) && decide (PySem.W.mroIn K D (.type "object") = some true)))))))
theorem xcB_ok {D : Addr} (g : xcB K D = true) : ExcC K D := by
  obtain ⟨g1, g⟩ := He.ba g
  obtain ⟨g2, g⟩ := He.ba g
  obtain ⟨g3, g⟩ := He.ba g
  obtain ⟨g4, g⟩ := He.ba g
  obtain ⟨g5, g⟩ := He.ba g
  obtain ⟨g6, g⟩ := He.ba g
  obtain ⟨g7, g8⟩ := He.ba g
  exact ⟨of_decide_eq_true g1, of_decide_eq_true g2, of_decide_eq_true g3, g4, of_decide_eq_true g5, of_decide_eq_true g6, of_decide_eq_true g7, of_decide_eq_true g8⟩
/-- what isinstance asks of the instances' class -/
def inB (K : PySem.W.Frag) (C : Addr) : Bool := decide (PySem.W.findIn K (.ref C) "__class__" = some (some (.builtin "object.__class__"))) && (decide (PySem.W.specialIn K (.builtin "object.__class__") "__get__" = some (some (.builtin "getset_descriptor.__get__"))) &&
  (decide (PySem.W.takesIn K (.builtin "object.__class__") = some true) && decide (PySem.W.mroIn K C (.type "object") = some true)))
theorem inB_ok {C : Addr} (g : inB K C = true) : (PySem.W.findIn K (.ref C) "__class__" = some (some (.builtin "object.__class__"))) ∧ (PySem.W.specialIn K (.builtin "object.__class__") "__get__" = some (some (.builtin "getset_descriptor.__get__"))) ∧ (PySem.W.takesIn K (.builtin "object.__class__") = some true) ∧ PySem.W.mroIn K C (.type "object") = some true := by
  obtain ⟨g1, g⟩ := He.ba g
  obtain ⟨g2, g⟩ := He.ba g
  obtain ⟨g3, g4⟩ := He.ba g
  exact ⟨of_decide_eq_true g1, of_decide_eq_true g2, of_decide_eq_true g3, of_decide_eq_true g4⟩
/-! ### tables -/
def entB (K : PySem.W.Frag) : List DictEntry → List (Str × He.Dv) → Bool
  | [], [] => true
  | e :: r, q :: qs => (match e.key with
    | .str x _ => decide (x = q.1)
    | _ => false) && (He.relB (q.2.v K) e.val && entB K r qs)
  | _, _ => false
def tabB (K : PySem.W.Frag) (d : Addr) (kvs : List (Str × He.Dv)) : Bool := match K.lookup d with
  | some ⟨_, _, .dict es _, _⟩ => entB K es.toList kvs
  | _ => false
theorem entB_ref : ∀ {es : List DictEntry} {kvs : List (Str × He.Dv)}, entB K es kvs = true → es.any (·.refKey) = false
  | [], _, _ => rfl
  | e :: r, [], g => by cases g
  | e :: r, q :: qs, g => by
    obtain ⟨g1, g⟩ := He.ba g
    obtain ⟨g2, g3⟩ := He.ba g
    rw [List.any_cons, entB_ref g3, Bool.or_false]
    split at g1
    · rename_i x t ek
      unfold DictEntry.refKey
      rw [ek]
    · cases g1
theorem entB_find (z : Str) : ∀ {es : List DictEntry} {kvs : List (Str × He.Dv)}, entB K es kvs = true → RelO ((kvs.map fun p => (p.1, p.2.v K)).lookup z) ((es.find? (·.key.isStr z)).map (·.val))
  | [], [], _ => trivial
  | [], _ :: _, g => by cases g
  | e :: r, [], g => by cases g
  | e :: r, q :: qs, g => by
    obtain ⟨g1, g⟩ := He.ba g
    obtain ⟨g2, g3⟩ := He.ba g
    have ih := entB_find z g3
    split at g1
    · rename_i x t ek
      have ex := of_decide_eq_true g1
      have es : e.key.isStr z = decide (q.1 = z) := by
        rw [ek, ← ex]
        rfl
      rw [List.map_cons, List.find?_cons, es]
      by_cases c : q.1 = z
      · rw [decide_eq_true c]
        subst c
        simp only [List.lookup, beq_self_eq_true, Option.map]
        exact He.relB_ok g2
      · rw [decide_eq_false c]
        have c2 : (z == q.1) = false := beq_eq_false_iff_ne.mpr fun y => c y.symm
        simp only [List.lookup, c2]
        exact ih
    · cases g1
theorem kTab_of {d : Addr} {kvs : List (Str × He.Dv)} (D : ∃ es n, KDict K w d es n) (g : tabB K d kvs = true) : KTab K w d (kvs.map fun p => (p.1, p.2.v K)) := by
  obtain ⟨es, n, D⟩ := D
  refine ⟨⟨es, n, D, fun z => ?_⟩⟩
  unfold tabB at g
  rw [D.at_] at g
  have r := entB_find z g
  have nr := entB_ref g
  refine ⟨_, ?_, r⟩
  unfold PySem.W.nsIn
  rw [D.at_]
  dsimp only
  cases e : es.toList.find? (·.key.isStr z) with
  | some e => rfl
  | none =>
    dsimp only
    rw [nr]
    rfl
/-- the i-th check -/
theorem exAt {l : List Bool} (g : l.all id = true) (i : Nat) {b : Bool} (h : l[i]? = some b := by rfl) : b = true := List.all_eq_true.mp g b (List.mem_of_getElem? h)
end
end Fg

set_option Elab.async false
set_option linter.all false
set_option maxRecDepth 100000
set_option maxHeartbeats 4000000
namespace Fg
open PySem PySem.Spec PyProof.Rows L2
local macro_rules | `(tactic| walk_at "hp") => `(tactic| first | assumption | (refine Same.get (by assumption) ?_; walk_at "hp"))
local macro_rules | `(tactic| walk_at "sq") => `(tactic| first | assumption | (exact Or.inr (by assumption)) | (exact Or.inl (by assumption)) | (exact Or.inl (SqL.of (by walk_at "hp"))) | (exact Or.inr (SqT.of (by walk_at "hp"))) | (exact SqL.of (by walk_at "hp")) | (exact SqT.of (by walk_at "hp")))
local macro_rules | `(tactic| walk_at "cl") => `(tactic| first | ((first | show (_ : Int) < _ | show (_ : Int) ≤ _); first | omega | decide) | ((first | show (_ : Nat) < _ | show (_ : Nat) ≤ _); first | with_reducible assumption | (refine sz_le ?_; first | decide | omega | (simp <;> omega)) | (refine sz_lt ?_; first | decide | omega | (simp <;> omega)) | omega | decide | ((with_reducible show List.length _ < _); exact Nat.le_of_ble_eq_true rfl)) | rfl | walk_at "hp" | walk_at "sq" | (refine And.intro (by walk_at "cl") (by walk_at "cl")) | (exact Exists.intro _ (by walk_at "hp")) | (exact Exists.intro _ (Exists.intro _ (by walk_at "hp"))) | (exact Exists.intro _ (Exists.intro _ (And.intro (by walk_at "hp") rfl))) | decide | (exact Or.inl (by walk_at "cl")) | (exact Or.inr (by walk_at "cl")) | omega)
local macro_rules | `(tactic| walk_at "s1") => `(tactic| first | refine And.intro (by walk_at "cl") ?_ | apply Exists.intro)
local macro_rules | `(tactic| walk_at "sx") => `(tactic| repeat walk_at "s1")
local macro_rules | `(tactic| walk_at "si") => `(tactic| first | refine iteY rfl ?_ | refine iteN rfl ?_)
local macro_rules | `(tactic| walk_at "sy") => `(tactic| repeat first | walk_at "s1" | walk_at "si")
/-! ### the head: facts by names, the run -/
def headFa : List He.Fa := [.glo "is_integer", .free "isinstance", .free "int", .glo "is_between", .glo "is_sign", .free "str", .free "len", .str "PRINT" " !\"#$&'()*+,-./0123456789:;<=>?@ABCDEFGHIJKLMNOPQRSTUVWXYZ[\\]^_`abcdefghijklmnopqrstuvwxyz{|}~", .glo "code_of", .glo "figures_of", .glo "is_setting", .glo "HEADS", .glo "SIDES", .str "FIGURES" "0123456789abcdef", .int "MOST_GROUP" 4, .int "MOST_WIDTH" 12, .glo "settings_text", .free "zip", .glo "SETTINGS", .glo "InvalidSetting", .meth "InvalidSetting" "__init__", .noat "InvalidSetting" "setting", .glo "InvalidNumber", .meth "InvalidNumber" "__init__", .noat "InvalidNumber" "value", .glo "Format", .mkr "Format", .cls "Format", .noat "Format" "base", .noat "Format" "sign", .noat "Format" "least", .noat "Format" "group", .noat "Format" "mark", .noat "Format" "width", .noat "Format" "fill", .noat "Format" "side", .noat "Format" "words", .meth "Format" "layout", .free "range", .free "list", .free "max", .meth "Format" "written", .free "abs", .meth "Format" "text", .meth "Format" "__call__", .glo "_law_spoon", .glo "_law_of", .glo "_law_pot", .glo "_law_signs", .glo "_law_sign", .glo "_law_shape", .glo "_law_format", .glo "_law_said", .glo "size_of", .meth "Format" "read_as", .meth "Format" "all_numbers", .free "tuple", .free "sorted", .glo "InvalidText", .meth "InvalidText" "__init__", .noat "InvalidText" "value", .meth "Format" "numbers", .glo "Unfit", .free "ValueError", .exm "InvalidText" "InvalidText" true, .free "set", .glo "_law_changed", .glo "_law_right", .free "any", .glo "_law_ended", .glo "law", .free "all", .free "min"]
def headFn : List He.DefD := [dG "is_integer" s_is_integer, dG "is_between" s_is_between, dG "is_sign" s_is_sign, dG "code_of" s_code_of, dG "figures_of" s_figures_of, dG "is_setting" s_is_setting, dG "settings_text" s_settings_text, dM "InvalidSetting" "__init__" "InvalidSetting.__init__" s_InvalidSettingdd_initdd, dM "InvalidNumber" "__init__" "InvalidNumber.__init__" s_InvalidNumberdd_initdd, dMK "Format" "__init__" "Format.__init__" s_Formatdd_initdd [("base", .int 10), ("sign", .str "minus"), ("least", .int 1), ("group", .int 0), ("mark", .str ","), ("width", .int 0), ("fill", .str " "), ("side", .str "left")], dM "Format" "layout" "Format.layout" s_Format_layout, dM "Format" "written" "Format.written" s_Format_written, dM "Format" "text" "Format.text" s_Format_text, dM "Format" "__call__" "Format.__call__" s_Formatdd_calldd, dG "_law_spoon" s_l_spoon, dG "_law_of" s_l_of, dG "_law_pot" s_l_pot, dG "_law_signs" s_l_signs, dG "_law_sign" s_l_sign, dG "_law_shape" s_l_shape, dG "_law_format" s_l_format, dG "_law_said" s_l_said, dG "size_of" s_size_of, dM "Format" "read_as" "Format.read_as" s_Format_read_as, dM "Format" "all_numbers" "Format.all_numbers" s_Format_all_numbers, dM "InvalidText" "__init__" "InvalidText.__init__" s_InvalidTextdd_initdd, dM "Format" "numbers" "Format.numbers" s_Format_numbers, dG "_law_changed" s_l_changed, dG "_law_right" s_l_right, dG "_law_ended" s_l_ended, dG "law" s_law]
def headTs : List He.Tab := [(fun K => He.ga K "HEADS", ["minus", "plus", "blank"])]
def headTf : List He.Defn := [("_law_right", none)]
def headEx (K : PySem.W.Frag) : Bool := ([tabB K (He.ga K "HEADS") [("minus", .str ""), ("plus", .str "+"), ("blank", .str " ")], He.tupB K "SIDES" [.str "left", .str "right", .str "both", .str "inner"], He.tupB K "SETTINGS" [.str "base", .str "sign", .str "least", .str "group", .str "mark", .str "width", .str "fill", .str "side"], oeB K (He.ga K "InvalidSetting"), oeB K (He.ga K "InvalidNumber"), oeB K (He.ga K "InvalidText"), xfB K (He.ga K "InvalidText"), xcB K (He.ga K "InvalidText"), decide (PySem.W.kitOne K (.ref (He.ga K "InvalidText")) (.ref (He.ga K "Unfit")) = some true), decide (PySem.W.kitOne K (.ref (He.ga K "InvalidText")) (.type "ValueError") = some true), inB K (He.ga K "Format"), decide (PySem.W.kitOne K (.ref (He.ga K "Format")) (.type "int") = some false), decide (PySem.W.kitOne K (.ref (He.ga K "Format")) (.type "str") = some false)] : List Bool).all id
def adOf (K : PySem.W.Frag) : Ad where
  cInvalidSetting := He.ga K "InvalidSetting"
  cInvalidNumber := He.ga K "InvalidNumber"
  cFormat := He.ga K "Format"
  cInvalidText := He.ga K "InvalidText"
  tP_l_right := He.tabOf K (He.codeOf K ("_law_right", none))
  cC_l_right := He.codeOf K ("_law_right", none)
  tHEADS := He.ga K "HEADS"
  tSIDES := He.ga K "SIDES"
  tSETTINGS := He.ga K "SETTINGS"
  cUnfit := He.ga K "Unfit"
theorem txt_of {w : World} {K : PySem.W.Frag} {h : Heap} {mg : Str → Option Value} (X : K.In h) (G : h.Ns mainGlobals mg) (c : He.SaysX headFa headFn headTs headTf headEx w h K) : Txt w K mg (adOf K) where
  F_is_integer := funAt_of X G (c.t.d.def_ 0 rfl) (c.t.d.fact 0 rfl)
  b_isinstance := He.free_ok X G (c.t.d.fact 1 rfl)
  b_int := He.free_ok X G (c.t.d.fact 2 rfl)
  F_is_between := funAt_of X G (c.t.d.def_ 1 rfl) (c.t.d.fact 3 rfl)
  F_is_sign := funAt_of X G (c.t.d.def_ 2 rfl) (c.t.d.fact 4 rfl)
  b_str := He.free_ok X G (c.t.d.fact 5 rfl)
  b_len := He.free_ok X G (c.t.d.fact 6 rfl)
  g_PRINT := strG_of X G (c.t.d.fact 7 rfl)
  F_code_of := funAt_of X G (c.t.d.def_ 3 rfl) (c.t.d.fact 8 rfl)
  F_figures_of := funAt_of X G (c.t.d.def_ 4 rfl) (c.t.d.fact 9 rfl)
  F_is_setting := funAt_of X G (c.t.d.def_ 5 rfl) (c.t.d.fact 10 rfl)
  d_HEADS := kTab_of (c.t.tab 0 rfl) (exAt c.more 0 rfl)
  g_HEADS := refG_of X G (c.t.d.fact 11 rfl)
  g_SIDES := refG_of X G (c.t.d.fact 12 rfl)
  g_FIGURES := strG_of X G (c.t.d.fact 13 rfl)
  g_MOST_GROUP := intG_of X G (c.t.d.fact 14 rfl)
  g_MOST_WIDTH := intG_of X G (c.t.d.fact 15 rfl)
  t_SIDES := fun H => He.tupB_ok (exAt c.more 1 rfl) H
  F_settings_text := funAt_of X G (c.t.d.def_ 6 rfl) (c.t.d.fact 16 rfl)
  b_zip := He.free_ok X G (c.t.d.fact 17 rfl)
  g_SETTINGS := refG_of X G (c.t.d.fact 18 rfl)
  t_SETTINGS := fun H => He.tupB_ok (exAt c.more 2 rfl) H
  oe_InvalidSetting := oeB_ok (exAt c.more 3 rfl)
  g_InvalidSetting := He.glo_ok X G (c.t.d.fact 19 rfl)
  I_InvalidSettingdd_initdd := initAt_of (c.t.d.def_ 7 rfl) (c.t.d.fact 20 rfl)
  nf_InvalidSetting := He.noat_ok (c.t.d.fact 21 rfl)
  oe_InvalidNumber := oeB_ok (exAt c.more 4 rfl)
  g_InvalidNumber := He.glo_ok X G (c.t.d.fact 22 rfl)
  I_InvalidNumberdd_initdd := initAt_of (c.t.d.def_ 8 rfl) (c.t.d.fact 23 rfl)
  nf_InvalidNumber := He.noat_ok (c.t.d.fact 24 rfl)
  g_Format := He.glo_ok X G (c.t.d.fact 25 rfl)
  K_Format := initK_of (c.t.d.def_ 9 rfl) (c.t.d.fact 26 rfl)
  cl_Format := He.cls_ok (c.t.d.fact 27 rfl)
  n_Format_base := He.noat_ok (c.t.d.fact 28 rfl)
  n_Format_sign := He.noat_ok (c.t.d.fact 29 rfl)
  n_Format_least := He.noat_ok (c.t.d.fact 30 rfl)
  n_Format_group := He.noat_ok (c.t.d.fact 31 rfl)
  n_Format_mark := He.noat_ok (c.t.d.fact 32 rfl)
  n_Format_width := He.noat_ok (c.t.d.fact 33 rfl)
  n_Format_fill := He.noat_ok (c.t.d.fact 34 rfl)
  n_Format_side := He.noat_ok (c.t.d.fact 35 rfl)
  n_Format_words := He.noat_ok (c.t.d.fact 36 rfl)
  M_Format_layout := methAt_of (c.t.d.def_ 10 rfl) (c.t.d.fact 37 rfl)
  b_range := He.free_ok X G (c.t.d.fact 38 rfl)
  b_list := He.free_ok X G (c.t.d.fact 39 rfl)
  b_max := He.free_ok X G (c.t.d.fact 40 rfl)
  M_Format_written := methAt_of (c.t.d.def_ 11 rfl) (c.t.d.fact 41 rfl)
  b_abs := He.free_ok X G (c.t.d.fact 42 rfl)
  M_Format_text := methAt_of (c.t.d.def_ 12 rfl) (c.t.d.fact 43 rfl)
  C_Format := callAt_of (c.t.d.def_ 13 rfl) (c.t.d.fact 44 rfl)
  F_l_spoon := funAt_of X G (c.t.d.def_ 14 rfl) (c.t.d.fact 45 rfl)
  F_l_of := funAt_of X G (c.t.d.def_ 15 rfl) (c.t.d.fact 46 rfl)
  F_l_pot := funAt_of X G (c.t.d.def_ 16 rfl) (c.t.d.fact 47 rfl)
  F_l_signs := funAt_of X G (c.t.d.def_ 17 rfl) (c.t.d.fact 48 rfl)
  F_l_sign := funAt_of X G (c.t.d.def_ 18 rfl) (c.t.d.fact 49 rfl)
  F_l_shape := funAt_of X G (c.t.d.def_ 19 rfl) (c.t.d.fact 50 rfl)
  F_l_format := funAt_of X G (c.t.d.def_ 20 rfl) (c.t.d.fact 51 rfl)
  F_l_said := funAt_of X G (c.t.d.def_ 21 rfl) (c.t.d.fact 52 rfl)
  F_size_of := funAt_of X G (c.t.d.def_ 22 rfl) (c.t.d.fact 53 rfl)
  M_Format_read_as := methAt_of (c.t.d.def_ 23 rfl) (c.t.d.fact 54 rfl)
  M_Format_all_numbers := methAt_of (c.t.d.def_ 24 rfl) (c.t.d.fact 55 rfl)
  b_tuple := He.free_ok X G (c.t.d.fact 56 rfl)
  b_sorted := He.free_ok X G (c.t.d.fact 57 rfl)
  oe_InvalidText := oeB_ok (exAt c.more 5 rfl)
  g_InvalidText := He.glo_ok X G (c.t.d.fact 58 rfl)
  I_InvalidTextdd_initdd := initAt_of (c.t.d.def_ 25 rfl) (c.t.d.fact 59 rfl)
  nf_InvalidText := He.noat_ok (c.t.d.fact 60 rfl)
  M_Format_numbers := methAt_of (c.t.d.def_ 26 rfl) (c.t.d.fact 61 rfl)
  xf_InvalidText := xfB_ok (exAt c.more 6 rfl)
  xc_InvalidText := xcB_ok (exAt c.more 7 rfl)
  v_Unfit := refG_of X G (c.t.d.fact 62 rfl)
  b_ValueError := He.free_ok X G (c.t.d.fact 63 rfl)
  ex_InvalidText_InvalidText := He.exm_ok (c.t.d.fact 64 rfl)
  ki_InvalidText_Unfit := of_decide_eq_true (exAt c.more 8 rfl)
  ki_InvalidText_ValueError := of_decide_eq_true (exAt c.more 9 rfl)
  in_Format := inB_ok (exAt c.more 10 rfl)
  kn_Format_int := of_decide_eq_true (exAt c.more 11 rfl)
  kn_Format_str := of_decide_eq_true (exAt c.more 12 rfl)
  b_set := He.free_ok X G (c.t.d.fact 65 rfl)
  F_l_changed := funAt_of X G (c.t.d.def_ 27 rfl) (c.t.d.fact 66 rfl)
  k_l_right := funC_of X G (c.t.d.def_ 28 rfl) (c.t.d.fact 67 rfl)
  b_any := He.free_ok X G (c.t.d.fact 68 rfl)
  F_l_ended := funAt_of X G (c.t.d.def_ 29 rfl) (c.t.d.fact 69 rfl)
  F_law := funAt_of X G (c.t.d.def_ 30 rfl) (c.t.d.fact 70 rfl)
  b_all := He.free_ok X G (c.t.d.fact 71 rfl)
  b_min := He.free_ok X G (c.t.d.fact 72 rfl)
def headNames : List Str := (["_wall", "__name__", "Unfit", "InvalidNumber", "InvalidText", "InvalidSetting", "MOST_WIDTH", "MOST_GROUP", "FIGURES", "PRINT", "is_integer", "is_between", "is_sign", "code_of", "sign_of", "figures_of", "size_of", "integer_in", "SETTINGS", "HEADS", "SIDES", "is_setting", "settings_text", "format_of", "Format", "setting_in", "settings_in", "_law_pot", "_law_spoon", "_law_of"] : List Str) ++ (["_law_signs", "_law_sign", "_law_shape", "_law_format", "_law_said", "_law_ended", "_law_changed", "_law_right"] : List Str)
abbrev headR : PySem.W.OpenRow := PySem.W.OpenLaw.row PySem.Challenge.rw_figurelines_k04_whole_integers_of_a_text
abbrev headHk : PySem.W.Hook := He.hookX 5 headFa headFn headTs headTf headEx
def headOb (s : PySem.W.SharedT) : He.AlX := He.obsX 5 headFa headFn headTs headTf headEx (HandSHeadRun.getT s)
theorem headOb_eq (s : PySem.W.SharedT) : headOb s = headHk.obs s.abs := He.obsX_eq (HandSHeadRun.getT_eq s)
abbrev headP (w : World) : Prop := HandSHeadRun.RunEq headR (PySem.W.view headR.prog [41]) headHk headOb 12000 headNames w
set_option maxHeartbeats 0 in
theorem headRunF (w : World) : headP (w.withFollow "special-get-raises" false) := by
  intro os
  kernel_rfl
set_option maxHeartbeats 0 in
theorem headRunT (w : World) : headP (w.withFollow "special-get-raises" true) := by
  intro os
  kernel_rfl
theorem headRun (w : World) : headP w := PySem.W.byRow2 "special-get-raises" headRunF headRunT w

end Fg
set_option Elab.async false
set_option linter.all false
set_option maxRecDepth 100000
set_option maxHeartbeats 4000000
namespace Fg
open PySem PySem.Spec PyProof.Rows L2
local macro_rules | `(tactic| walk_at "hp") => `(tactic| first | assumption | (refine Same.get (by assumption) ?_; walk_at "hp"))
local macro_rules | `(tactic| walk_at "sq") => `(tactic| first | assumption | (exact Or.inr (by assumption)) | (exact Or.inl (by assumption)) | (exact Or.inl (SqL.of (by walk_at "hp"))) | (exact Or.inr (SqT.of (by walk_at "hp"))) | (exact SqL.of (by walk_at "hp")) | (exact SqT.of (by walk_at "hp")))
local macro_rules | `(tactic| walk_at "cl") => `(tactic| first | ((first | show (_ : Int) < _ | show (_ : Int) ≤ _); first | omega | decide) | ((first | show (_ : Nat) < _ | show (_ : Nat) ≤ _); first | with_reducible assumption | (refine sz_le ?_; first | decide | omega | (simp <;> omega)) | (refine sz_lt ?_; first | decide | omega | (simp <;> omega)) | omega | decide | ((with_reducible show List.length _ < _); exact Nat.le_of_ble_eq_true rfl)) | rfl | walk_at "hp" | walk_at "sq" | (refine And.intro (by walk_at "cl") (by walk_at "cl")) | (exact Exists.intro _ (by walk_at "hp")) | (exact Exists.intro _ (Exists.intro _ (by walk_at "hp"))) | (exact Exists.intro _ (Exists.intro _ (And.intro (by walk_at "hp") rfl))) | decide | (exact Or.inl (by walk_at "cl")) | (exact Or.inr (by walk_at "cl")) | omega)
local macro_rules | `(tactic| walk_at "s1") => `(tactic| first | refine And.intro (by walk_at "cl") ?_ | apply Exists.intro)
local macro_rules | `(tactic| walk_at "sx") => `(tactic| repeat walk_at "s1")
local macro_rules | `(tactic| walk_at "si") => `(tactic| first | refine iteY rfl ?_ | refine iteN rfl ?_)
local macro_rules | `(tactic| walk_at "sy") => `(tactic| repeat first | walk_at "s1" | walk_at "si")
/-! ### signs of print, figures -/
def printS : Str := " !\"#$&'()*+,-./0123456789:;<=>?@ABCDEFGHIJKLMNOPQRSTUVWXYZ[\\]^_`abcdefghijklmnopqrstuvwxyz{|}~"
def printL : List Nat := (List.range 127).filter fun c => 32 ≤ c && c != 37
theorem printS_eq : printS.cps.toList = printL := by decide +kernel
def figS : Str := "0123456789abcdef"
/-- the code of a figure -/
def figC (n : Nat) : Nat := if n < 10 then 48 + n else 87 + n
/-- one sign -/
def chS (c : Nat) : Str := ⟨#[c]⟩
def isInt : V → Bool
  | .int _ => true
  | _ => false
def isBetw (lo hi : Int) : V → Bool
  | .int i => decide (lo ≤ i) && decide (i ≤ hi)
  | _ => false
def isSignV : V → Bool
  | .str z => match z.cps.toList with
    | [c] => decide (c ∈ printL)
    | _ => false
  | _ => false
theorem code_ix : ∀ c ∈ printL, Txt.index0 printS ⟨#[c]⟩ = some (if c < 37 then c - 32 else c - 33) := by decide +kernel
theorem one_sign {z : Str} (h : z.length = 1) : ∃ c, z = chS c := by
  obtain ⟨⟨l⟩⟩ := z
  match l, h with
  | [c], _ => exact ⟨c, rfl⟩
/-- figures from the last one on -/
def rdigs (b : Nat) : Nat → Nat → List Nat
  | 0, n => [n % b]
  | k + 1, n => n % b :: if b ≤ n then rdigs b k (n / b) else []
def digs (b n : Nat) : List Nat := (rdigs b n n).reverse

end Fg
set_option Elab.async false
set_option linter.all false
set_option maxRecDepth 100000
set_option maxHeartbeats 4000000
namespace Fg
open PySem PySem.Spec PyProof.Rows L2
local macro_rules | `(tactic| walk_at "hp") => `(tactic| first | assumption | (refine Same.get (by assumption) ?_; walk_at "hp"))
local macro_rules | `(tactic| walk_at "sq") => `(tactic| first | assumption | (exact Or.inr (by assumption)) | (exact Or.inl (by assumption)) | (exact Or.inl (SqL.of (by walk_at "hp"))) | (exact Or.inr (SqT.of (by walk_at "hp"))) | (exact SqL.of (by walk_at "hp")) | (exact SqT.of (by walk_at "hp")))
local macro_rules | `(tactic| walk_at "cl") => `(tactic| first | ((first | show (_ : Int) < _ | show (_ : Int) ≤ _); first | omega | decide) | ((first | show (_ : Nat) < _ | show (_ : Nat) ≤ _); first | with_reducible assumption | (refine sz_le ?_; first | decide | omega | (simp <;> omega)) | (refine sz_lt ?_; first | decide | omega | (simp <;> omega)) | omega | decide | ((with_reducible show List.length _ < _); exact Nat.le_of_ble_eq_true rfl)) | rfl | walk_at "hp" | walk_at "sq" | (refine And.intro (by walk_at "cl") (by walk_at "cl")) | (exact Exists.intro _ (by walk_at "hp")) | (exact Exists.intro _ (Exists.intro _ (by walk_at "hp"))) | (exact Exists.intro _ (Exists.intro _ (And.intro (by walk_at "hp") rfl))) | decide | (exact Or.inl (by walk_at "cl")) | (exact Or.inr (by walk_at "cl")) | omega)
local macro_rules | `(tactic| walk_at "s1") => `(tactic| first | refine And.intro (by walk_at "cl") ?_ | apply Exists.intro)
local macro_rules | `(tactic| walk_at "sx") => `(tactic| repeat walk_at "s1")
local macro_rules | `(tactic| walk_at "si") => `(tactic| first | refine iteY rfl ?_ | refine iteN rfl ?_)
local macro_rules | `(tactic| walk_at "sy") => `(tactic| repeat first | walk_at "s1" | walk_at "si")
section
variable {P : Program} {w : World} {K : PySem.W.Frag} {mg : Str → Option Value} {base : Heap} {A : Ad}
def sp_is_integer (K : PySem.W.Frag) : Sp := s1 fun a H Q _ => AnyV K H a ∧ Q (.bl (isInt a)) H
theorem ok_is_integer (T : Txt w K mg A) : Callee P w K mg base 1 "is_integer" ["value"] (sp_is_integer K) := by
  refine callee_of T.F_is_integer sc_is_integer (fun _ _ _ _ _ _ us hl => match us, hl with | [_], _ => rfl) (fun vs H Q E h => ?_) (fun f cdv Ar outer s H vs Q E hr tk po h => ?_)
  · obtain ⟨_, rfl, _⟩ := s1_len h
    rfl
  · obtain ⟨a, rfl, h0, q⟩ := s1_len h
    refine ⟨_, (pss_one (ps_ret (pe_and (pe_callB f_isint (by rfl) T.b_isinstance (by decide +kernel) (pa_cons (fv 0) (pa_cons (pe_bltn (v := .ty "int") (by rfl) T.b_int (by decide +kernel) rfl) pa_nil))) (pe_and (pe_cmpR op_notBl (fv 0) pe_bl (nomark _)) (pe_one (pe_cmpR op_notBl (fv 0) pe_bl (nomark _))))))), ?_⟩
    cases a with
    | non => walk_at "sx"; exact q
    | bl b => cases b <;> (walk_at "sx"; exact q)
    | int i => walk_at "sx"; exact q
    | str x => walk_at "sx"; exact q
    | ref p =>
      have r := h0.1
      walk_at "sx"; exact q
    | byt b => exact h0.elim
    | flt b => exact h0.elim
    | ty b => exact h0.elim
def sp_is_between (K : PySem.W.Frag) : Sp := s3 fun a b c H Q _ => ∃ lo hi, b = .int lo ∧ c = .int hi ∧ AnyV K H a ∧ Q (.bl (isBetw lo hi a)) H
theorem ok_is_between (T : Txt w K mg A) : Callee P w K mg base 2 "is_between" ["value", "low", "high"] (sp_is_between K) := by
  refine callee_of T.F_is_between sc_is_between (fun _ _ _ _ _ _ us hl => match us, hl with | [_, _, _], _ => rfl) (fun vs H Q E h => ?_) (fun f cdv Ar outer s H vs Q E hr tk po h => ?_)
  · obtain ⟨_, _, _, rfl, _⟩ := s3_len h
    rfl
  · obtain ⟨a, b, c, rfl, lo, hi, rfl, rfl, h0, q⟩ := s3_len h
    refine ⟨_, (pss_one (ps_ret (pe_and (fc_call (ok_is_integer T) hr (by decide) (by rfl) tk (pa_cons (fv 0) pa_nil)) (pe_one (pe_chain f_le f_le (fv 1) (fv 0) (fv 2)))))), ?_⟩
    cases a <;> first | exact h0.elim | skip
    all_goals walk_at "sx"
    all_goals first | exact q | skip
    rename_i i
    refine iteD (fun c => ?_) (fun c => ?_)
    · walk_at "sx"
      rw [isBetw, decide_eq_true c, Bool.true_and] at q
      exact q
    · rw [isBetw, decide_eq_false c, Bool.false_and] at q
      exact q
def sp_is_sign (K : PySem.W.Frag) : Sp := s1 fun a H Q _ => AnyV K H a ∧ Q (.bl (isSignV a)) H
theorem ok_is_sign (T : Txt w K mg A) : Callee P w K mg base 1 "is_sign" ["value"] (sp_is_sign K) := by
  refine callee_of T.F_is_sign sc_is_sign (fun _ _ _ _ _ _ us hl => match us, hl with | [_], _ => rfl) (fun vs H Q E h => ?_) (fun f cdv Ar outer s H vs Q E hr tk po h => ?_)
  · obtain ⟨_, rfl, _⟩ := s1_len h
    rfl
  · obtain ⟨a, rfl, h0, q⟩ := s1_len h
    refine ⟨_, (pss_one (ps_ret (pe_and (pe_callB f_isstr (by rfl) T.b_isinstance (by decide +kernel) (pa_cons (fv 0) (pa_cons (pe_bltn (v := .ty "str") (by rfl) T.b_str (by decide +kernel) rfl) pa_nil))) (pe_and (pe_cmpR f_eq (pe_callB f_len (by rfl) T.b_len (by decide +kernel) (pa_cons (fv 0) pa_nil)) pe_int (nomark _)) (pe_one (pe_cmpR f_inS (fv 0) (fe_g (by rfl) T.g_PRINT) (by rfl))))))), ?_⟩
    cases a with
    | non => walk_at "sx"; exact q
    | bl b => walk_at "sx"; exact q
    | int i => walk_at "sx"; exact q
    | str z =>
      have hz : z.length ≤ sizeLine := Nat.le_trans h0 (sz_le (by decide))
      by_cases e : z.length = 1
      · obtain ⟨c, rfl⟩ := one_sign e
        walk_at "sx"
        rw [show isSignV (.str (chS c)) = decide (c ∈ printL) from rfl, ← printS_eq] at q
        exact q
      · walk_at "sx"
        refine iteD (fun c => absurd (by omega) e) (fun c => ?_)
        have : isSignV (.str z) = false := by
          obtain ⟨⟨l⟩⟩ := z
          match l, e with
          | [], _ => rfl
          | [c], e => exact absurd rfl e
          | _ :: _ :: _, _ => rfl
        rw [this] at q
        exact q
    | ref p =>
      have r := h0.2
      walk_at "sx"; exact q
    | byt b => exact h0.elim
    | flt b => exact h0.elim
    | ty b => exact h0.elim
def sp_code_of : Sp := s1 fun a H Q _ => ∃ c, a = .str (chS c) ∧ c ∈ printL ∧ Q (.int (c : Nat)) H
theorem ok_code_of (T : Txt w K mg A) : Callee P w K mg base 1 "code_of" ["sign"] sp_code_of := by
  refine callee_of T.F_code_of sc_code_of (fun _ _ _ _ _ _ us hl => match us, hl with | [_], _ => rfl) (fun vs H Q E h => ?_) (fun f cdv Ar outer s H vs Q E hr tk po h => ?_)
  · obtain ⟨_, rfl, _⟩ := s1_len h
    rfl
  · obtain ⟨a, rfl, c, rfl, hc, q⟩ := s1_len h
    refine ⟨_, (pss_cons (ps_set (i := 1) sc_code_of.nd rfl (Or.inl rfl) (fe_sm1 PySem.F.slot_str_index PySem.F.type_str_index f_sindex (fe_g (by rfl) T.g_PRINT) (fv 0)))
      (pss_one (ps_ret (pe_ifExp (ft_cmp f_lt (fv 1) pe_int (nomark _)) (pe_op f_add (fv 1) pe_int) (pe_op f_add (fv 1) pe_int))))), ?_⟩
    have e := code_ix c hc
    have hb : 32 ≤ c ∧ c ≠ 37 := by
      have z := (List.mem_filter.mp hc).2
      simp at z
      exact z
    by_cases h37 : c < 37
    · rw [if_pos h37] at e
      refine ⟨_, e, ?_⟩
      refine iteD (fun _ => ?_) (fun z => absurd (by omega) z)
      walk_at "sx"
      rw [show ((c : Nat) : Int) = ((c - 32 : Nat) : Int) + 32 by omega] at q
      exact q
    · rw [if_neg h37] at e
      refine ⟨_, e, ?_⟩
      refine iteD (fun z => absurd z (by omega)) (fun _ => ?_)
      walk_at "sx"
      rw [show ((c : Nat) : Int) = ((c - 33 : Nat) : Int) + 33 by omega] at q
      exact q
end

end Fg
set_option Elab.async false
set_option linter.all false
set_option maxRecDepth 100000
set_option maxHeartbeats 4000000
namespace Fg
open PySem PySem.Spec PyProof.Rows L2
local macro_rules | `(tactic| walk_at "hp") => `(tactic| first | assumption | (refine Same.get (by assumption) ?_; walk_at "hp"))
local macro_rules | `(tactic| walk_at "sq") => `(tactic| first | assumption | (exact Or.inr (by assumption)) | (exact Or.inl (by assumption)) | (exact Or.inl (SqL.of (by walk_at "hp"))) | (exact Or.inr (SqT.of (by walk_at "hp"))) | (exact SqL.of (by walk_at "hp")) | (exact SqT.of (by walk_at "hp")))
local macro_rules | `(tactic| walk_at "cl") => `(tactic| first | ((first | show (_ : Int) < _ | show (_ : Int) ≤ _); first | omega | decide) | ((first | show (_ : Nat) < _ | show (_ : Nat) ≤ _); first | with_reducible assumption | (refine sz_le ?_; first | decide | omega | (simp <;> omega)) | (refine sz_lt ?_; first | decide | omega | (simp <;> omega)) | omega | decide | ((with_reducible show List.length _ < _); exact Nat.le_of_ble_eq_true rfl)) | rfl | walk_at "hp" | walk_at "sq" | (refine And.intro (by walk_at "cl") (by walk_at "cl")) | (exact Exists.intro _ (by walk_at "hp")) | (exact Exists.intro _ (Exists.intro _ (by walk_at "hp"))) | (exact Exists.intro _ (Exists.intro _ (And.intro (by walk_at "hp") rfl))) | decide | (exact Or.inl (by walk_at "cl")) | (exact Or.inr (by walk_at "cl")) | omega)
local macro_rules | `(tactic| walk_at "s1") => `(tactic| first | refine And.intro (by walk_at "cl") ?_ | apply Exists.intro)
local macro_rules | `(tactic| walk_at "sx") => `(tactic| repeat walk_at "s1")
local macro_rules | `(tactic| walk_at "si") => `(tactic| first | refine iteY rfl ?_ | refine iteN rfl ?_)
local macro_rules | `(tactic| walk_at "sy") => `(tactic| repeat first | walk_at "s1" | walk_at "si")
/-! ### formats -/
/-- the settings of a format -/
structure Fm where
  base : Nat
  sign : Str
  least : Nat
  group : Nat
  mark : Nat
  width : Nat
  fill : Nat
  side : Str
structure Fm.Ok (F : Fm) : Prop where
  b1 : 2 ≤ F.base
  b2 : F.base ≤ 16
  si : F.sign = "minus" ∨ F.sign = "plus" ∨ F.sign = "blank"
  l1 : 1 ≤ F.least
  l2 : F.least ≤ 12
  gr : F.group ≤ 4
  ma : F.mark ∈ printL
  wi : F.width ≤ 12
  fi : F.fill ∈ printL
  sd : F.side = "left" ∨ F.side = "right" ∨ F.side = "both" ∨ F.side = "inner"
def Fm.vals (F : Fm) : List V := [.int F.base, .str F.sign, .int F.least, .int F.group, .str (chS F.mark), .int F.width, .str (chS F.fill), .str F.side]
def Fm.said (F : Fm) : List Str := ["base", toString (F.base : Int), "sign", F.sign, "least", toString (F.least : Int), "group", toString (F.group : Int), "mark", toString (F.mark : Int), "width", toString (F.width : Int), "fill", toString (F.fill : Int), "side", F.side]
def Fm.words (F : Fm) : Str := Txt.join " " F.said
def setNames : List Str := ["base", "sign", "least", "group", "mark", "width", "fill", "side"]
/-- whether a value does for a setting -/
def okS (s : Str) (v : V) : Bool :=
  if s = "mark" ∨ s = "fill" then isSignV v
  else if s = "sign" then (match v with | .str z => decide (z = "minus" ∨ z = "plus" ∨ z = "blank") | _ => false)
  else if s = "side" then (match v with | .str z => decide (z = "left" ∨ z = "right" ∨ z = "both" ∨ z = "inner") | _ => false)
  else if s = "base" then isBetw 2 16 v
  else if s = "group" then isBetw 0 4 v
  else isBetw (if s = "least" then 1 else 0) 12 v
/-- the first setting that does not do -/
def badS : List (Str × V) → Option Str
  | [] => none
  | (s, v) :: r => if okS s v then badS r else some s
theorem betw_nat {lo hi : Nat} {v : V} (h : isBetw lo hi v = true) : ∃ n : Nat, v = .int (n : Nat) ∧ lo ≤ n ∧ n ≤ hi := by
  cases v <;> first | (cases h; done) | skip
  rename_i i
  have z := Bool.and_eq_true_iff.mp h
  have z1 := of_decide_eq_true z.1
  have z2 := of_decide_eq_true z.2
  exact ⟨i.toNat, by rw [Int.toNat_of_nonneg (by omega)], by omega, by omega⟩
theorem sign_nat {v : V} (h : isSignV v = true) : ∃ c, v = .str (chS c) ∧ c ∈ printL := by
  cases v <;> first | (cases h; done) | skip
  rename_i z
  obtain ⟨⟨l⟩⟩ := z
  match l, h with
  | [c], h => exact ⟨c, rfl, of_decide_eq_true h⟩
theorem ok_fm {v : List V} (hl : v.length = 8) (h : badS (setNames.zip v) = none) : ∃ F : Fm, F.Ok ∧ v = F.vals := by
  match v, hl with
  | [v1, v2, v3, v4, v5, v6, v7, v8], _ =>
    have e : ∀ {b : Bool} {x : Option Str} {s : Str}, (if b = true then x else some s) = none → b = true ∧ x = none := fun {b x s} z => by
      cases b
      · cases z
      · exact ⟨rfl, z⟩
    obtain ⟨h1, h⟩ := e h
    obtain ⟨h2, h⟩ := e h
    obtain ⟨h3, h⟩ := e h
    obtain ⟨h4, h⟩ := e h
    obtain ⟨h5, h⟩ := e h
    obtain ⟨h6, h⟩ := e h
    obtain ⟨h7, h⟩ := e h
    obtain ⟨h8, h⟩ := e h
    obtain ⟨n1, rfl, a1, b1⟩ := betw_nat (lo := 2) (hi := 16) h1
    obtain ⟨n3, rfl, a3, b3⟩ := betw_nat (lo := 1) (hi := 12) h3
    obtain ⟨n4, rfl, a4, b4⟩ := betw_nat (lo := 0) (hi := 4) h4
    obtain ⟨n6, rfl, a6, b6⟩ := betw_nat (lo := 0) (hi := 12) h6
    obtain ⟨c5, rfl, a5⟩ := sign_nat h5
    obtain ⟨c7, rfl, a7⟩ := sign_nat h7
    have h2' : ∃ z, v2 = .str z ∧ (z = "minus" ∨ z = "plus" ∨ z = "blank") := by
      cases v2 <;> first | (cases h2; done) | skip
      exact ⟨_, rfl, of_decide_eq_true h2⟩
    have h8' : ∃ z, v8 = .str z ∧ (z = "left" ∨ z = "right" ∨ z = "both" ∨ z = "inner") := by
      cases v8 <;> first | (cases h8; done) | skip
      exact ⟨_, rfl, of_decide_eq_true h8⟩
    obtain ⟨z2, rfl, a2⟩ := h2'
    obtain ⟨z8, rfl, a8⟩ := h8'
    exact ⟨⟨n1, z2, n3, n4, c5, n6, c7, z8⟩, ⟨a1, b1, a2, a3, b3, b4, a5, b6, a7, a8⟩, rfl⟩
theorem fm_ok {F : Fm} (h : F.Ok) : badS (setNames.zip F.vals) = none := by
  obtain ⟨b1, b2, si, l1, l2, gr, ma, wi, fi, sd⟩ := h
  have bt : ∀ {lo hi n : Nat}, lo ≤ n → n ≤ hi → isBetw lo hi (.int (n : Nat)) = true := fun {lo hi n} a b => by
    show (decide _ && decide _) = true
    rw [decide_eq_true (by omega), decide_eq_true (by omega)]
    rfl
  have e : ∀ {b : Bool} {x : Option Str} {s : Str}, b = true → x = none → (if b = true then x else some s) = none := fun {b x s} z y => by rw [if_pos z, y]
  exact e (bt b1 b2) (e (decide_eq_true si) (e (bt l1 l2) (e (bt (Nat.zero_le _) gr) (e (decide_eq_true ma) (e (bt (Nat.zero_le _) wi) (e (decide_eq_true fi) (e (decide_eq_true sd) rfl)))))))
theorem digs_nil {b n : Nat} : digs b n ≠ [] := by
  unfold digs
  cases n <;> simp [rdigs]
theorem heads_in (z : Str) : (List.lookup z ([("minus", V.str ""), ("plus", V.str "+"), ("blank", V.str " ")] : List (Str × V))).isSome = decide (z = "minus" ∨ z = "plus" ∨ z = "blank") := by
  by_cases h1 : z = "minus"
  · subst h1; decide
  by_cases h2 : z = "plus"
  · subst h2; decide
  by_cases h3 : z = "blank"
  · subst h3; decide
  rw [decide_eq_false (by simp [h1, h2, h3])]
  simp [List.lookup, beq_eq_false_iff_ne.mpr h1, beq_eq_false_iff_ne.mpr h2, beq_eq_false_iff_ne.mpr h3]
theorem sides_in (z : Str) : inV (.str z) [.str "left", .str "right", .str "both", .str "inner"] = decide (z = "left" ∨ z = "right" ∨ z = "both" ∨ z = "inner") := by
  by_cases h1 : z = "left"
  · subst h1; decide
  by_cases h2 : z = "right"
  · subst h2; decide
  by_cases h3 : z = "both"
  · subst h3; decide
  by_cases h4 : z = "inner"
  · subst h4; decide
  rw [decide_eq_false (by simp [h1, h2, h3, h4])]
  have e : ∀ y : Str, ¬ z = y → eqV (.str y) (.str z) = false := fun y n => beq_eq_false_iff_ne.mpr fun e => n e.symm
  simp [inV, e _ h1, e _ h2, e _ h3, e _ h4]

end Fg
set_option Elab.async false
set_option linter.all false
set_option maxRecDepth 100000
set_option maxHeartbeats 4000000
namespace Fg
open PySem PySem.Spec PyProof.Rows L2
local macro_rules | `(tactic| walk_at "hp") => `(tactic| first | assumption | (refine Same.get (by assumption) ?_; walk_at "hp"))
local macro_rules | `(tactic| walk_at "sq") => `(tactic| first | assumption | (exact Or.inr (by assumption)) | (exact Or.inl (by assumption)) | (exact Or.inl (SqL.of (by walk_at "hp"))) | (exact Or.inr (SqT.of (by walk_at "hp"))) | (exact SqL.of (by walk_at "hp")) | (exact SqT.of (by walk_at "hp")))
local macro_rules | `(tactic| walk_at "cl") => `(tactic| first | ((first | show (_ : Int) < _ | show (_ : Int) ≤ _); first | omega | decide) | ((first | show (_ : Nat) < _ | show (_ : Nat) ≤ _); first | with_reducible assumption | (refine sz_le ?_; first | decide | omega | (simp <;> omega)) | (refine sz_lt ?_; first | decide | omega | (simp <;> omega)) | omega | decide | ((with_reducible show List.length _ < _); exact Nat.le_of_ble_eq_true rfl)) | rfl | walk_at "hp" | walk_at "sq" | (refine And.intro (by walk_at "cl") (by walk_at "cl")) | (exact Exists.intro _ (by walk_at "hp")) | (exact Exists.intro _ (Exists.intro _ (by walk_at "hp"))) | (exact Exists.intro _ (Exists.intro _ (And.intro (by walk_at "hp") rfl))) | decide | (exact Or.inl (by walk_at "cl")) | (exact Or.inr (by walk_at "cl")) | omega)
local macro_rules | `(tactic| walk_at "s1") => `(tactic| first | refine And.intro (by walk_at "cl") ?_ | apply Exists.intro)
local macro_rules | `(tactic| walk_at "sx") => `(tactic| repeat walk_at "s1")
local macro_rules | `(tactic| walk_at "si") => `(tactic| first | refine iteY rfl ?_ | refine iteN rfl ?_)
local macro_rules | `(tactic| walk_at "sy") => `(tactic| repeat first | walk_at "s1" | walk_at "si")
/-! ### the text of an integer -/
def toVO : Option Nat → V
  | none => .non
  | some c => .str (chS c)
/-- behind the first figure: k figures are left, marks between -/
def lays (g m : Nat) : Nat → List (Option Nat)
  | 0 => []
  | k + 1 => (if 0 < g ∧ (k + 1) % g = 0 then [some m] else []) ++ none :: lays g m k
def bodyL (F : Fm) (n : Nat) : List (Option Nat) := none :: lays F.group F.mark (n - 1)
def headC (s : Str) (neg : Bool) : List Nat := if neg = true then [45] else if s = "minus" then [] else if s = "plus" then [43] else [32]
def lackL (F : Fm) (neg : Bool) (n : Nat) : Nat := F.width - (headC F.sign neg).length - (bodyL F n).length
def fillL (F : Fm) (k : Nat) : List (Option Nat) := List.replicate k (some F.fill)
def layL (F : Fm) (neg : Bool) (n : Nat) : List (Option Nat) :=
  let h := (headC F.sign neg).map some
  let b := bodyL F n
  let k := lackL F neg n
  if F.side = "left" then fillL F k ++ (h ++ b)
  else if F.side = "right" then h ++ (b ++ fillL F k)
  else if F.side = "inner" then h ++ (fillL F k ++ b)
  else fillL F (k / 2) ++ (h ++ (b ++ fillL F (k - k / 2)))
def fillIn : List (Option Nat) → List Nat → List Nat
  | none :: r, d :: ds => d :: fillIn r ds
  | none :: _, [] => []
  | some c :: r, ds => c :: fillIn r ds
  | [], _ => []
/-- the figures with zeros ahead -/
def rowN (F : Fm) (n : Nat) : List Nat := List.replicate (F.least - (digs F.base n).length) 48 ++ (digs F.base n).map figC
def codesI (F : Fm) (i : Int) : List Nat := fillIn (layL F (decide (i < 0)) (rowN F i.natAbs).length) (rowN F i.natAbs)
def textI (F : Fm) (i : Int) : Str := ⟨(codesI F i).toArray⟩
def dn : Nat → List V
  | 0 => []
  | k + 1 => .int ((k + 1 : Nat) : Int) :: dn k
theorem rgC_dn : ∀ k : Nat, rgC (k : Int) (-1) k = dn k
  | 0 => rfl
  | k + 1 => by
    rw [dn, ← rgC_dn k]
    unfold rgC
    rw [List.range_succ_eq_map, List.map_cons, List.map_map]
    refine congr (congrArg _ (by simp)) (List.map_congr_left fun i _ => ?_)
    simp only [Function.comp]
    congr 1
    push_cast
    omega
theorem lays_len (g m : Nat) : ∀ k, (lays g m k).length ≤ 2 * k
  | 0 => Nat.le_refl _
  | k + 1 => by
    have := lays_len g m k
    rw [lays]
    split <;> simp <;> omega
theorem head_len (s : Str) (neg : Bool) : (headC s neg).length ≤ 1 := by
  unfold headC
  split
  · decide
  · split
    · decide
    · split <;> decide
theorem rep_flat {k : Int} {m : Nat} (v : V) (e : k.toNat = m) : (List.replicate k.toNat [v]).flatten = List.replicate m v := by
  rw [e]
  induction m generalizing k with
  | zero => rfl
  | succ m ih => rw [List.replicate_succ, List.flatten_cons, ih (k := (m : Int)) (by simp), List.replicate_succ]; rfl
theorem cut_take {xs : List V} {k : Int} {m : Nat} (h0 : k = (m : Nat)) : cutV xs none (some k) = xs.take m := by
  subst h0
  unfold cutV
  rw [HT.sIx_none, HT.sIx_nat, List.drop_zero, Nat.sub_zero]
  rcases Nat.le_total m xs.length with h | h
  · rw [Nat.min_eq_left h]
  · rw [Nat.min_eq_right h, List.take_of_length_le (Nat.le_refl _), List.take_of_length_le h]
theorem cut_drop {xs : List V} {k : Int} {m : Nat} (h0 : k = (m : Nat)) : cutV xs (some k) none = xs.drop m := by
  subst h0
  unfold cutV
  rw [HT.sIx_none, HT.sIx_nat]
  rcases Nat.le_total m xs.length with h | h
  · rw [Nat.min_eq_left h, List.take_of_length_le (by rw [List.length_drop]; exact Nat.le_refl _)]
  · rw [Nat.min_eq_right h, List.drop_of_length_le (Nat.le_refl _), List.drop_of_length_le h, List.take_nil]
theorem body_len (F : Fm) {n : Nat} (h : 1 ≤ n) : (bodyL F n).length ≤ 2 * n := by
  have := lays_len F.group F.mark (n - 1)
  unfold bodyL
  rw [List.length_cons]
  omega
abbrev headT : List (Str × V) := [("minus", V.str ""), ("plus", V.str "+"), ("blank", V.str " ")]
theorem log_dig {b k n : Nat} (hb : 2 ≤ b) (h : n < 2 ^ (k + 1)) : ∀ f, (rdigs b f n).length ≤ k + 1 := by
  induction k generalizing n with
  | zero =>
    intro f
    have : ¬ b ≤ n := by omega
    cases f <;> simp [rdigs, this]
  | succ k ih =>
    intro f
    cases f with
    | zero => simp [rdigs]
    | succ f =>
      rw [rdigs]
      split
      · have h2 : n / b < 2 ^ (k + 1) := by
          have : n / b ≤ n / 2 := Nat.div_le_div_left hb (by decide)
          have e : 2 ^ (k + 1 + 1) = 2 ^ (k + 1) * 2 := Nat.pow_succ ..
          omega
        have := ih h2 f
        rw [List.length_cons]
        omega
      · simp
theorem digs_len {b n : Nat} (hb : 2 ≤ b) (h : n < 10 ^ 100) : (digs b n).length ≤ 400 := by
  unfold digs
  rw [List.length_reverse]
  exact Nat.le_trans (log_dig hb (k := 399) (Nat.lt_trans h (by decide)) n) (Nat.le_refl _)

end Fg
set_option Elab.async false
set_option linter.all false
set_option maxRecDepth 100000
set_option maxHeartbeats 4000000
namespace Fg
open PySem PySem.Spec PyProof.Rows L2
local macro_rules | `(tactic| walk_at "hp") => `(tactic| first | assumption | (refine Same.get (by assumption) ?_; walk_at "hp"))
local macro_rules | `(tactic| walk_at "sq") => `(tactic| first | assumption | (exact Or.inr (by assumption)) | (exact Or.inl (by assumption)) | (exact Or.inl (SqL.of (by walk_at "hp"))) | (exact Or.inr (SqT.of (by walk_at "hp"))) | (exact SqL.of (by walk_at "hp")) | (exact SqT.of (by walk_at "hp")))
local macro_rules | `(tactic| walk_at "cl") => `(tactic| first | ((first | show (_ : Int) < _ | show (_ : Int) ≤ _); first | omega | decide) | ((first | show (_ : Nat) < _ | show (_ : Nat) ≤ _); first | with_reducible assumption | (refine sz_le ?_; first | decide | omega | (simp <;> omega)) | (refine sz_lt ?_; first | decide | omega | (simp <;> omega)) | omega | decide | ((with_reducible show List.length _ < _); exact Nat.le_of_ble_eq_true rfl)) | rfl | walk_at "hp" | walk_at "sq" | (refine And.intro (by walk_at "cl") (by walk_at "cl")) | (exact Exists.intro _ (by walk_at "hp")) | (exact Exists.intro _ (Exists.intro _ (by walk_at "hp"))) | (exact Exists.intro _ (Exists.intro _ (And.intro (by walk_at "hp") rfl))) | decide | (exact Or.inl (by walk_at "cl")) | (exact Or.inr (by walk_at "cl")) | omega)
local macro_rules | `(tactic| walk_at "s1") => `(tactic| first | refine And.intro (by walk_at "cl") ?_ | apply Exists.intro)
local macro_rules | `(tactic| walk_at "sx") => `(tactic| repeat walk_at "s1")
local macro_rules | `(tactic| walk_at "si") => `(tactic| first | refine iteY rfl ?_ | refine iteN rfl ?_)
local macro_rules | `(tactic| walk_at "sy") => `(tactic| repeat first | walk_at "s1" | walk_at "si")
section
variable {P : Program} {w : World} {K : PySem.W.Frag} {mg : Str → Option Value} {base : Heap} {A : Ad}
def sp_figures_of : Sp := s2 fun a b H Q _ => ∃ n m : Nat, a = .int (n : Nat) ∧ b = .int (m : Nat) ∧ 2 ≤ m ∧ m ≤ 16 ∧ n < 10 ^ 100 ∧ ∀ p H', H p = none → Same H H' → H' p = some (.lst ((digs m n).map fun (d : Nat) => .int d)) → Q (.ref p) H'
theorem ok_figures_of (T : Txt w K mg A) : Callee P w K mg base 1 "figures_of" ["size", "base"] sp_figures_of := by
  refine callee_of T.F_figures_of sc_figures_of (fun _ _ _ _ _ _ us hl => match us, hl with | [_, _], _ => rfl) (fun vs H Q E h => ?_) (fun f cdv Ar outer s H vs Q E hr tk po h => ?_)
  · obtain ⟨_, _, rfl, _⟩ := s2_len h
    rfl
  · obtain ⟨a, b, rfl, n, m, rfl, rfl, h1, h2, h3, q⟩ := s2_len h
    refine ⟨_, (pss_cons (ps_set (i := 2) sc_figures_of.nd rfl (Or.inl rfl) (fe_lst (pa_cons (pe_op f_mod (fv 0) (fv 1)) pa_nil)))
      (pss_cons (fs_while po (ft_cmp f_ge (fv 0) (fv 1) (nomark _)) (pss_cons (ps_set (i := 0) sc_figures_of.nd rfl (Or.inl rfl) (pe_op f_fdiv (fv 0) (fv 1)))
      (pss_one (ps_expr (fe_append (fv 2) (pe_op f_mod (fv 0) (fv 1)))))))
      (pss_one (ps_ret (fe_revL (fv 2)))))), ?_⟩
    walk_at "sx"
    intro p H1 np e1 h1'
    walk_at "sx"
    have hlen : (rdigs m n n).length ≤ 400 := by
      have := digs_len h1 h3
      unfold digs at this
      rwa [List.length_reverse] at this
    refine Wh.by (fun z σ H2 => ∃ (acc : List Nat) (k : Nat), z ≤ k + 1 ∧ σ = [some (.int (z : Nat)), some (.int m), some (.ref p)] ∧ H2 p = some (.lst (acc.map fun (d : Nat) => .int d)) ∧ Same H H2 ∧ acc ++ (if m ≤ z then rdigs m k (z / m) else []) = rdigs m n n) n ?_ ?_
    · refine ⟨[n % m], n - 1, by omega, rfl, h1', e1, ?_⟩
      cases n with
      | zero =>
        have : ¬ m ≤ 0 := by omega
        simp [rdigs, this]
      | succ n => rfl
    · rintro z σ H2 ⟨acc, k, hk, rfl, hp, e2, ha⟩
      walk_at "sx"
      refine iteD (fun c => ?_) (fun c => ?_)
      · have c' : m ≤ z := by omega
        rw [if_pos c'] at ha
        have hz : z / m ≤ z / 2 := Nat.div_le_div_left h1 (by decide)
        have hlt : z / m < z := by omega
        obtain ⟨k', rfl⟩ : ∃ k', k = k' + 1 := ⟨k - 1, by omega⟩
        rw [rdigs] at ha
        have hl2 : acc.length ≤ 400 := by
          rw [← ha, List.length_append] at hlen
          omega
        have m0 : CDv z m := ⟨by omega, by omega⟩
        walk_at "sx"
        intro H3 b3 h3'
        refine ⟨z / m, hlt, acc ++ [(z / m) % m], k', by omega, rfl, ?_, Same.but e2 np b3, ?_⟩
        · rw [h3', List.map_append]
          rfl
        · rw [List.append_assoc]
          exact ha
      · have c' : ¬ m ≤ z := by omega
        rw [if_neg c', List.append_nil] at ha
        walk_at "sx"
        intro p2 H3 np2 e3 h3'
        refine q p2 H3 ?_ (e2.trans e3) ?_
        · cases hh : H p2 with
          | none => rfl
          | some o => rw [e2 _ _ hh] at np2; cases np2
        · rw [h3', ← List.map_reverse, ha]
          rfl
def sp_is_setting (K : PySem.W.Frag) : Sp := s2 fun a b H Q _ => ∃ s, a = .str s ∧ s ∈ setNames ∧ AnyV K H b ∧ ∀ H', Same H H' → Q (.bl (okS s b)) H'
theorem ok_is_setting (T : Txt w K mg A) : Callee P w K mg base 3 "is_setting" ["setting", "value"] (sp_is_setting K) := by
  refine callee_of T.F_is_setting sc_is_setting (fun _ _ _ _ _ _ us hl => match us, hl with | [_, _], _ => rfl) (fun vs H Q E h => ?_) (fun f cdv Ar outer s H vs Q E hr tk po h => ?_)
  · obtain ⟨_, _, rfl, _⟩ := s2_len h
    rfl
  · obtain ⟨a, b, rfl, s, rfl, h1, h2, q⟩ := s2_len h
    refine ⟨_, (pss_cons (ps_if (ft_cmp f_inQ (fv 0) (fe_tup (pa_cons pe_str (pa_cons pe_str pa_nil))) (by rfl)) (pss_one (ps_ret (fc_call (ok_is_sign T) hr (by decide) (by rfl) tk (pa_cons (fv 1) pa_nil)))) pss_nil)
      (pss_cons (ps_if (ft_cmp f_eq (fv 0) pe_str (nomark _)) (pss_one (ps_ret (pe_and (pe_callB f_isstr (by rfl) T.b_isinstance (by decide +kernel) (pa_cons (fv 1) (pa_cons (pe_bltn (v := .ty "str") (by rfl) T.b_str (by decide +kernel) rfl) pa_nil))) (pe_one (pe_cmpR (f_inK T.d_HEADS) (fv 1) (fe_g (by rfl) T.g_HEADS) (by rfl)))))) pss_nil)
      (pss_cons (ps_if (ft_cmp f_eq (fv 0) pe_str (nomark _)) (pss_one (ps_ret (pe_and (pe_callB f_isstr (by rfl) T.b_isinstance (by decide +kernel) (pa_cons (fv 1) (pa_cons (pe_bltn (v := .ty "str") (by rfl) T.b_str (by decide +kernel) rfl) pa_nil))) (pe_one (pe_cmpR f_inQ (fv 1) (fe_g (by rfl) T.g_SIDES) (by rfl)))))) pss_nil)
      (pss_cons (ps_if (ft_cmp f_eq (fv 0) pe_str (nomark _)) (pss_one (ps_ret (fc_call (ok_is_between T) hr (by decide) (by rfl) tk (pa_cons (fv 1) (pa_cons pe_int (pa_cons (pe_callB f_len (by rfl) T.b_len (by decide +kernel) (pa_cons (fe_g (by rfl) T.g_FIGURES) pa_nil)) pa_nil)))))) pss_nil)
      (pss_cons (ps_if (ft_cmp f_eq (fv 0) pe_str (nomark _)) (pss_one (ps_ret (fc_call (ok_is_between T) hr (by decide) (by rfl) tk (pa_cons (fv 1) (pa_cons pe_int (pa_cons (fe_g (by rfl) T.g_MOST_GROUP) pa_nil)))))) pss_nil)
      (pss_one (ps_ret (fc_call (ok_is_between T) hr (by decide) (by rfl) tk (pa_cons (fv 1) (pa_cons (pe_ifExp (ft_cmp f_eq (fv 0) pe_str (nomark _)) pe_int pe_int) (pa_cons (fe_g (by rfl) T.g_MOST_WIDTH) pa_nil))))))))))), ?_⟩
    have same : ∀ {H1}, Same H H1 → AnyV K H1 b := fun s => AnyV.same s h2
    simp only [setNames, List.mem_cons, List.not_mem_nil, or_false] at h1
    rcases h1 with rfl | rfl | rfl | rfl | rfl | rfl | rfl | rfl
    all_goals
      walk_at "sx"
      intro p H1 np e1 h1'
      have a1 := same e1
      walk_at "sy"
    · exact q _ e1
    · cases b <;> first | exact h2.elim | skip
      case str z =>
        walk_at "sy"
        have q' := q _ e1
        rw [show okS "sign" (.str z) = decide (z = "minus" ∨ z = "plus" ∨ z = "blank") from rfl, ← heads_in] at q'
        exact q'
      case ref r =>
        have a2 := a1.2
        walk_at "sy"
        exact q _ e1
      all_goals
        walk_at "sy"
        exact q _ e1
    · exact q _ e1
    · exact q _ e1
    · exact q _ e1
    · exact q _ e1
    · exact q _ e1
    · cases b <;> first | exact h2.elim | skip
      case str z =>
        have ts := T.t_SIDES H1
        walk_at "sy"
        have q' := q _ e1
        rw [show okS "side" (.str z) = decide (z = "left" ∨ z = "right" ∨ z = "both" ∨ z = "inner") from rfl, ← sides_in] at q'
        exact q'
      case ref r =>
        have a2 := a1.2
        walk_at "sy"
        exact q _ e1
      all_goals
        walk_at "sy"
        exact q _ e1
end
section
variable {P : Program} {w : World} {K : PySem.W.Frag} {mg : Str → Option Value} {base : Heap} {A : Ad}
def sp_settings_text (K : PySem.W.Frag) : Sp := s1 fun a H Q _ => ∃ t F, a = .ref t ∧ SqT K H t (Fm.vals F) ∧ F.Ok ∧ ∀ H', Same H H' → Q (.str F.words) H'
/-- a pair of a setting and its value, told as words l -/
def PairS (p : V × V) (l : List Str) : Prop := ∃ s, p.1 = .str s ∧ s.length ≤ 10 ∧ ((inV (.str s) [.str "mark", .str "fill"] = true ∧ ∃ c, c ∈ printL ∧ p.2 = .str (chS c) ∧ l = [s, toString (c : Int)]) ∨
  (inV (.str s) [.str "mark", .str "fill"] = false ∧ ((∃ z, p.2 = .str z ∧ z.length ≤ 10 ∧ l = [s, z]) ∨ ∃ n : Nat, p.2 = .int (n : Nat) ∧ n ≤ 100 ∧ l = [s, toString (n : Int)])))
def PairsS : List (V × V) → List Str → Prop
  | [], l => l = []
  | p :: r, l => ∃ l1 l2, l = l1 ++ l2 ∧ PairS p l1 ∧ PairsS r l2
theorem pairs_fm {F : Fm} (h : F.Ok) : PairsS ((setNames.map V.str).zip F.vals) F.said := by
  obtain ⟨b1, b2, si, l1, l2, gr, ma, wi, fi, sd⟩ := h
  have n1 : F.sign.length ≤ 10 := by rcases si with e | e | e <;> rw [e] <;> decide
  have n2 : F.side.length ≤ 10 := by rcases sd with e | e | e | e <;> rw [e] <;> decide
  have mk : ∀ (s : Str) (c : Nat), inV (.str s) [.str "mark", .str "fill"] = true → s.length ≤ 10 → c ∈ printL → PairS (.str s, .str (chS c)) [s, toString (c : Int)] := fun s c a b d => ⟨s, rfl, b, .inl ⟨a, c, d, rfl, rfl⟩⟩
  have mi : ∀ (s : Str) (n : Nat), inV (.str s) [.str "mark", .str "fill"] = false → s.length ≤ 10 → n ≤ 100 → PairS (.str s, .int (n : Nat)) [s, toString (n : Int)] := fun s n a b d => ⟨s, rfl, b, .inr ⟨a, .inr ⟨n, rfl, d, rfl⟩⟩⟩
  have ms : ∀ (s z : Str), inV (.str s) [.str "mark", .str "fill"] = false → s.length ≤ 10 → z.length ≤ 10 → PairS (.str s, .str z) [s, z] := fun s z a b d => ⟨s, rfl, b, .inr ⟨a, .inl ⟨z, rfl, d, rfl⟩⟩⟩
  exact ⟨_, _, rfl, mi _ _ (by decide) (by decide) (by omega), _, _, rfl, ms _ _ (by decide) (by decide) n1, _, _, rfl, mi _ _ (by decide) (by decide) (by omega), _, _, rfl, mi _ _ (by decide) (by decide) (by omega),
    _, _, rfl, mk _ _ (by decide) (by decide) ma, _, _, rfl, mi _ _ (by decide) (by decide) (by omega), _, _, rfl, mk _ _ (by decide) (by decide) fi, _, _, rfl, ms _ _ (by decide) (by decide) n2, rfl⟩
theorem print_lt {c : Nat} (h : c ∈ printL) : c < 127 := List.mem_range.mp (List.mem_filter.mp h).1
theorem toS_len (n : Nat) (h : n < 1000) : ((toString (n : Int) : String) : Str).length ≤ 10 := by
  have : ∀ n : Fin 1000, ((toString ((n : Nat) : Int) : String) : Str).length ≤ 10 := by decide +kernel
  exact this ⟨n, h⟩
theorem sum_short : ∀ (l : List Str), (∀ z ∈ l, z.length ≤ 10) → (l.map (·.length)).sum ≤ 10 * l.length
  | [], _ => Nat.le_refl _
  | a :: r, h => by
    have h1 := h a (List.mem_cons_self ..)
    have h2 := sum_short r fun z hz => h z (List.mem_cons_of_mem _ hz)
    simp only [List.map_cons, List.sum_cons, List.length_cons]
    omega
theorem ok_settings_text (T : Txt w K mg A) : Callee P w K mg base 2 "settings_text" ["values"] (sp_settings_text K) := by
  refine callee_of T.F_settings_text sc_settings_text (fun _ _ _ _ _ _ us hl => match us, hl with | [_], _ => rfl) (fun vs H Q E h => ?_) (fun f cdv Ar outer s H vs Q E hr tk po h => ?_)
  · obtain ⟨_, rfl, _⟩ := s1_len h
    rfl
  · obtain ⟨a, rfl, t, F, rfl, ht, ok, q⟩ := s1_len h
    refine ⟨_, (pss_cons (ps_set (i := 1) sc_settings_text.nd rfl (Or.inl rfl) (fe_lst pa_nil))
      (pss_cons (fs_forZ po rfl (by rfl) T.b_zip (pa_cons (fe_g (by rfl) T.g_SETTINGS) (pa_cons (fv 0) pa_nil)) (pg_tup rfl (pgs_cons (pg_name (i := 2) sc_settings_text.nd rfl (Or.inl rfl)) (pgs_cons (pg_name (i := 3) sc_settings_text.nd rfl (Or.inl rfl)) pgs_nil))) (pss_cons (ps_expr (fe_append (fv 1) (fv 2)))
      (pss_one (ps_expr (fe_append (fv 1) (pe_ifExp (ft_cmp f_inQ (fv 2) (fe_tup (pa_cons pe_str (pa_cons pe_str pa_nil))) (by rfl)) (pe_joined1 (fe_fmt (fc_call (ok_code_of T) hr (by decide) (by rfl) tk (pa_cons (fv 3) pa_nil)))) (pe_joined1 (fe_fmt (fv 3)))))))))
      (pss_one (ps_ret (fe_sm1 PySem.F.slot_str_join PySem.F.type_str_join f_join pe_str (fv 1)))))), ?_⟩
    walk_at "sx"
    intro p H1 np e1 h1'
    have ts := T.t_SETTINGS H1
    have t1 := SqT.same e1 ht
    walk_at "sx"
    refine LoopZ.by (fun rest σ H2 => ∃ (acc l : List Str), ∃ a1 a2, σ = [some (.ref t), some (.ref p), a1, a2] ∧ H2 p = some (.lst (acc.map V.str)) ∧ Same H H2 ∧ (acc.length + 2 * rest.length ≤ 16 ∧ (∀ z ∈ acc, z.length ≤ 10)) ∧ PairsS rest l ∧
      acc ++ l = F.said) ?_ ?_ _ _ _ ?_
    · rintro ⟨x, y⟩ r σ H2 ⟨acc, l, a1, a2, rfl, hp, s2, ⟨len, short⟩, ⟨l1, l2, rfl, ⟨s, rfl, sl, hc⟩, hr⟩, hl⟩ N hN TT H3 nT s3 hT
      rw [List.length_cons] at len
      have hp3 := s3 _ _ hp
      have nTp : TT ≠ p := (ne_of_none hp nT).symm
      have sT := s2.trans s3
      walk_at "sx"
      intro H4 b4 h4
      have s4 : Same H H4 := Same.but sT np b4
      walk_at "sx"
      intro p2 H5 n5 s5 h5
      have s45 : Same H H5 := s4.trans s5
      have h5p := s5 _ _ h4
      walk_at "sx"
      have fin : ∀ (x : Str) H6, x.length ≤ 10 → But p H5 H6 → H6 p = some (.lst (acc.map V.str ++ [.str s] ++ [.str x])) → l1 = [s, x] → N [some (.ref t), some (.ref p), some (.str s), some y] H6 := fun x H6 lx b6 h6 el => by
        have s6 : Same H H6 := Same.but s45 np b6
        refine hN _ _ ⟨T.t_SETTINGS H6, SqT.same s6 ht⟩ ⟨acc ++ [s] ++ [x], l2, _, _, rfl, ?_, s6, ⟨?_, ?_⟩, hr, ?_⟩
        · rw [h6]; simp
        · simp only [List.length_append, List.length_singleton]; omega
        · intro z hz
          simp only [List.mem_append, List.mem_singleton] at hz
          rcases hz with (hz | rfl) | rfl
          · exact short z hz
          · exact sl
          · exact lx
        · rw [← hl, el]; simp
      rcases hc with ⟨em, c, cp, ey, el⟩ | ⟨em, hc⟩
      · cases ey
        refine iteY em ?_
        have lt := print_lt cp
        have lg : (c : Int).natAbs.log2 < 1920 := Nat.lt_of_le_of_lt (log_le (k := 8) (by omega)) (by decide)
        walk_at "sx"
        intro H6 b6 h6
        exact fin _ H6 (toS_len c (by omega)) b6 h6 el
      · refine iteN em ?_
        rcases hc with ⟨z, ey, lz, el⟩ | ⟨n, ey, ln, el⟩
        · cases ey
          have lz' : z.length ≤ sizeLine := Nat.le_trans lz (sz_le (by decide))
          walk_at "sx"
          intro H6 b6 h6
          exact fin _ H6 lz b6 h6 el
        · cases ey
          have lg : (n : Int).natAbs.log2 < 1920 := Nat.lt_of_le_of_lt (log_le (k := 8) (by omega)) (by decide)
          walk_at "sx"
          intro H6 b6 h6
          exact fin _ H6 (toS_len n (by omega)) b6 h6 el
    · rintro σ H2 ⟨acc, l, a1, a2, rfl, hp, s2, ⟨len, short⟩, rfl, hl⟩
      rw [List.append_nil] at hl
      have bound : (acc.map (·.length)).sum + acc.length * (" " : Str).length ≤ 16777216 := by
        rw [show (" " : Str).length = 1 by decide]
        have := sum_short acc short
        have : acc.length ≤ 16 := len
        omega
      have q' := q H2 s2
      rw [Fm.words, ← hl] at q'
      clear hl short len
      walk_at "sx"
      exact q'
    · exact ⟨[], F.said, none, none, rfl, h1', e1, ⟨by simp [setNames, Fm.vals], by simp⟩, pairs_fm ok, rfl⟩
end

end Fg
set_option Elab.async false
set_option linter.all false
set_option maxRecDepth 100000
set_option maxHeartbeats 4000000
namespace Fg
open PySem PySem.Spec PyProof.Rows L2
local macro_rules | `(tactic| walk_at "hp") => `(tactic| first | assumption | (refine Same.get (by assumption) ?_; walk_at "hp"))
local macro_rules | `(tactic| walk_at "sq") => `(tactic| first | assumption | (exact Or.inr (by assumption)) | (exact Or.inl (by assumption)) | (exact Or.inl (SqL.of (by walk_at "hp"))) | (exact Or.inr (SqT.of (by walk_at "hp"))) | (exact SqL.of (by walk_at "hp")) | (exact SqT.of (by walk_at "hp")))
local macro_rules | `(tactic| walk_at "cl") => `(tactic| first | ((first | show (_ : Int) < _ | show (_ : Int) ≤ _); first | omega | decide) | ((first | show (_ : Nat) < _ | show (_ : Nat) ≤ _); first | with_reducible assumption | (refine sz_le ?_; first | decide | omega | (simp <;> omega)) | (refine sz_lt ?_; first | decide | omega | (simp <;> omega)) | omega | decide | ((with_reducible show List.length _ < _); exact Nat.le_of_ble_eq_true rfl)) | rfl | walk_at "hp" | walk_at "sq" | (refine And.intro (by walk_at "cl") (by walk_at "cl")) | (exact Exists.intro _ (by walk_at "hp")) | (exact Exists.intro _ (Exists.intro _ (by walk_at "hp"))) | (exact Exists.intro _ (Exists.intro _ (And.intro (by walk_at "hp") rfl))) | decide | (exact Or.inl (by walk_at "cl")) | (exact Or.inr (by walk_at "cl")) | omega)
local macro_rules | `(tactic| walk_at "s1") => `(tactic| first | refine And.intro (by walk_at "cl") ?_ | apply Exists.intro)
local macro_rules | `(tactic| walk_at "sx") => `(tactic| repeat walk_at "s1")
local macro_rules | `(tactic| walk_at "si") => `(tactic| first | refine iteY rfl ?_ | refine iteN rfl ?_)
local macro_rules | `(tactic| walk_at "sy") => `(tactic| repeat first | walk_at "s1" | walk_at "si")
section
variable {P : Program} {w : World} {K : PySem.W.Frag} {mg : Str → Option Value} {base : Heap} {A : Ad}
theorem r_InvalidSetting (T : Txt w K mg A) : Raiser P w K mg base "InvalidSetting" A.cInvalidSetting "setting" :=
  raiser_of T.oe_InvalidSetting T.g_InvalidSetting T.I_InvalidSettingdd_initdd T.nf_InvalidSetting sc_InvalidSettingdd_initdd (fun _ _ _ _ _ _ us hl => match us, hl with | [_, _], _ => rfl) (fun X hs hN => pss_one (ps_ost (fv 0 (by rw [hN]; rfl) (by rw [hs]; exact Or.inl rfl)) (fv 1 (by rw [hN]; rfl) (by rw [hs]; exact Or.inl rfl))))
theorem r_InvalidNumber (T : Txt w K mg A) : Raiser P w K mg base "InvalidNumber" A.cInvalidNumber "value" :=
  raiser_of T.oe_InvalidNumber T.g_InvalidNumber T.I_InvalidNumberdd_initdd T.nf_InvalidNumber sc_InvalidNumberdd_initdd (fun _ _ _ _ _ _ us hl => match us, hl with | [_, _], _ => rfl) (fun X hs hN => pss_one (ps_ost (fv 0 (by rw [hN]; rfl) (by rw [hs]; exact Or.inl rfl)) (fv 1 (by rw [hN]; rfl) (by rw [hs]; exact Or.inl rfl))))
def Fm.fields (F : Fm) : List (Str × V) := [("base", .int F.base), ("sign", .str F.sign), ("least", .int F.least), ("group", .int F.group), ("mark", .str (chS F.mark)), ("width", .int F.width), ("fill", .str (chS F.fill)), ("side", .str F.side), ("words", .str F.words)]
/-- a format with these settings stands at p -/
def IsFmt (A : Ad) (H : Hp) (p : Addr) (F : Fm) : Prop := ∃ dx, H p = some (.ins A.cFormat dx F.fields)
def sp_init (K : PySem.W.Frag) (A : Ad) : Sp := fun vs H Q E => match vs with
  | .ref p :: l => l.length = 8 ∧ (∃ dx, H p = some (.ins A.cFormat dx [])) ∧ (∀ v ∈ l, AnyV K H v) ∧ match badS (setNames.zip l) with
    | none => ∀ F : Fm, l = F.vals → F.Ok → ∀ H', But p H H' → IsFmt A H' p F → Q .non H'
    | some s => ∀ d H', Same H H' → H' d = some (.xd [("setting", .str s)]) → E (.ref A.cInvalidSetting) (some d) H'
  | _ => False
theorem sp_init_len {K : PySem.W.Frag} {A : Ad} {vs : List V} {H : Hp} {Q : VK} {E : XK} (h : sp_init K A vs H Q E) : ∃ p v1 v2 v3 v4 v5 v6 v7 v8, vs = [.ref p, v1, v2, v3, v4, v5, v6, v7, v8] := by
  unfold sp_init at h
  split at h
  · rename_i p l
    match l, h.1 with
    | [v1, v2, v3, v4, v5, v6, v7, v8], _ => exact ⟨p, v1, v2, v3, v4, v5, v6, v7, v8, rfl⟩
  · exact h.elim
theorem mk_Format (T : Txt w K mg A) : KMaker P w K mg base 4 "Format" A.cFormat "Format.__init__" s_Formatdd_initdd [("base", .int 10), ("sign", .str "minus"), ("least", .int 1), ("group", .int 0), ("mark", .str ","), ("width", .int 0), ("fill", .str " "), ("side", .str "left")]
    ["self", "base", "sign", "least", "group", "mark", "width", "fill", "side"] (sp_init K A) := by
  refine kmaker_of T.g_Format T.K_Format sc_Formatdd_initdd (fun vs H Q E h => ?_) (fun f cdv Ar outer s H vs Q E hr tk po h => ?_)
  · obtain ⟨_, _, _, _, _, _, _, _, _, rfl⟩ := sp_init_len h
    rfl
  · obtain ⟨p, v1, v2, v3, v4, v5, v6, v7, v8, rfl⟩ := sp_init_len h
    obtain ⟨_, ⟨dx, h0⟩, hv, q⟩ := h
    refine ⟨_, (pss_cons (ps_set (i := 9) sc_Formatdd_initdd.nd rfl (Or.inl rfl) (fe_tup (pa_cons (fv 1) (pa_cons (fv 2) (pa_cons (fv 3) (pa_cons (fv 4) (pa_cons (fv 5) (pa_cons (fv 6) (pa_cons (fv 7) (pa_cons (fv 8) pa_nil))))))))))
      (pss_cons (fs_forZ po rfl (by rfl) T.b_zip (pa_cons (fe_g (by rfl) T.g_SETTINGS) (pa_cons (fv 9) pa_nil)) (pg_tup rfl (pgs_cons (pg_name (i := 10) sc_Formatdd_initdd.nd rfl (Or.inl rfl)) (pgs_cons (pg_name (i := 11) sc_Formatdd_initdd.nd rfl (Or.inl rfl)) pgs_nil))) (pss_one (ps_if (pt_not (ft_val (fc_call (ok_is_setting T) hr (by decide) (by rfl) tk (pa_cons (fv 10) (pa_cons (fv 11) pa_nil))))) (pss_one (fr_raise rfl (r_InvalidSetting T) hr (by decide) tk (by rfl) (fv 10))) pss_nil)))
      (pss_cons (fs_fld T.cl_Format T.n_Format_base (fv 0) (fv 1))
      (pss_cons (fs_fld T.cl_Format T.n_Format_sign (fv 0) (fv 2))
      (pss_cons (fs_fld T.cl_Format T.n_Format_least (fv 0) (fv 3))
      (pss_cons (fs_fld T.cl_Format T.n_Format_group (fv 0) (fv 4))
      (pss_cons (fs_fld T.cl_Format T.n_Format_mark (fv 0) (fv 5))
      (pss_cons (fs_fld T.cl_Format T.n_Format_width (fv 0) (fv 6))
      (pss_cons (fs_fld T.cl_Format T.n_Format_fill (fv 0) (fv 7))
      (pss_cons (fs_fld T.cl_Format T.n_Format_side (fv 0) (fv 8))
      (pss_one (fs_fld T.cl_Format T.n_Format_words (fv 0) (fc_call (ok_settings_text T) hr (by decide) (by rfl) tk (pa_cons (fv 9) pa_nil)))))))))))))), ?_⟩
    walk_at "sx"
    intro t H1 nt e1 h1
    have ts := T.t_SETTINGS H1
    walk_at "sx"
    have fresh_d : ∀ {H2 : Hp} {d : Addr}, Same H H2 → H2 d = none → H d = none := fun {H2 d} s n => by
      cases hh : H d with
      | none => rfl
      | some o => rw [s _ _ hh] at n; cases n
    refine LoopZ.by (fun rest σ H2 => ∃ l : List (Str × V), ∃ a1 a2, σ = [some (.ref p), some v1, some v2, some v3, some v4, some v5, some v6, some v7, some v8, some (.ref t), a1, a2] ∧ Same H1 H2 ∧ (∀ x ∈ l, x.1 ∈ setNames ∧ AnyV K H x.2) ∧
      rest = l.map (fun x => (V.str x.1, x.2)) ∧ badS l = badS (setNames.zip [v1, v2, v3, v4, v5, v6, v7, v8])) ?_ ?_ _ _ _ ?_
    · rintro x r σ H2 ⟨l, a1, a2, rfl, s2, ha, hl, hb⟩ N hN TT H3 nT s3 hT
      match l, hl with
      | (s, v) :: l, hl =>
        cases hl
        have s13 := s2.trans s3
        have s03 := e1.trans s13
        have a3 : AnyV K H3 v := AnyV.same s03 (ha _ (List.mem_cons_self ..)).2
        have hs : s ∈ setNames := (ha _ (List.mem_cons_self ..)).1
        walk_at "sx"
        intro H4 s4
        walk_at "sx"
        cases hk : okS s v with
        | false =>
          refine iteY rfl ?_
          have hq : badS (setNames.zip [v1, v2, v3, v4, v5, v6, v7, v8]) = some s := by
            rw [← hb, badS, hk]
            rfl
          rw [hq] at q
          walk_at "sx"
          intro d H5 nd s5 h5
          exact q d H5 ((s03.trans s4).trans s5) h5
        | true =>
          refine iteN rfl ?_
          have s14 := s13.trans s4
          refine hN _ _ ⟨T.t_SETTINGS H4, SqT.of (s14 _ _ h1)⟩ ⟨l, _, _, rfl, s14, fun x hx => ha x (List.mem_cons_of_mem _ hx), rfl, ?_⟩
          rw [← hb, badS, hk]
          rfl
    · rintro σ H2 ⟨l, a1, a2, rfl, s2, ha, hl, hb⟩
      have el : l = [] := by
        cases l with
        | nil => rfl
        | cons a r => cases hl
      subst el
      rw [← hb] at q
      obtain ⟨F, ok, eF⟩ := ok_fm (v := [v1, v2, v3, v4, v5, v6, v7, v8]) rfl hb.symm
      have s02 := e1.trans s2
      have hp2 := s02 _ _ h0
      have ht2 := s2 _ _ h1
      have q' := q F eF ok
      clear q ha hb
      cases eF
      walk_at "sx"
      intro H3 b3 h3
      walk_at "sx"
      intro H4 b4 h4
      walk_at "sx"
      intro H5 b5 h5
      walk_at "sx"
      intro H6 b6 h6
      walk_at "sx"
      intro H7 b7 h7
      walk_at "sx"
      intro H8 b8 h8
      walk_at "sx"
      intro H9 b9 h9
      walk_at "sx"
      intro H10 b10 h10
      have bb : But p H2 H10 := ((((((b3.trans b4).trans b5).trans b6).trans b7).trans b8).trans b9).trans b10
      have nt2 : t ≠ p := fun e => by
        rw [e] at ht2
        rw [ht2] at hp2
        cases hp2
      have t10 : SqT K H10 t F.vals := SqT.of (bb _ _ nt2 ht2)
      walk_at "sx"
      intro H11 s11
      have h11 := s11 _ _ h10
      walk_at "sx"
      intro H12 b12 h12
      refine q' H12 ?_ ⟨dx, h12⟩
      exact ((But.of s02).trans (bb.trans (But.of s11))).trans b12
    · refine ⟨setNames.zip [v1, v2, v3, v4, v5, v6, v7, v8], none, none, rfl, Same.refl _, ?_, rfl, rfl⟩
      have hn : ∀ {x : V}, x ∈ [v1, v2, v3, v4, v5, v6, v7, v8] → AnyV K H x := fun {x} m => hv x m
      intro x hx
      exact ⟨(List.of_mem_zip hx).1, hn (List.of_mem_zip hx).2⟩
end

end Fg
set_option Elab.async false
set_option linter.all false
set_option maxRecDepth 100000
set_option maxHeartbeats 4000000
namespace Fg
open PySem PySem.Spec PyProof.Rows L2
local macro_rules | `(tactic| walk_at "hp") => `(tactic| first | assumption | (refine Same.get (by assumption) ?_; walk_at "hp"))
local macro_rules | `(tactic| walk_at "sq") => `(tactic| first | assumption | (exact Or.inr (by assumption)) | (exact Or.inl (by assumption)) | (exact Or.inl (SqL.of (by walk_at "hp"))) | (exact Or.inr (SqT.of (by walk_at "hp"))) | (exact SqL.of (by walk_at "hp")) | (exact SqT.of (by walk_at "hp")))
local macro_rules | `(tactic| walk_at "cl") => `(tactic| first | ((first | show (_ : Int) < _ | show (_ : Int) ≤ _); first | omega | decide) | ((first | show (_ : Nat) < _ | show (_ : Nat) ≤ _); first | with_reducible assumption | (refine sz_le ?_; first | decide | omega | (simp <;> omega)) | (refine sz_lt ?_; first | decide | omega | (simp <;> omega)) | omega | decide | ((with_reducible show List.length _ < _); exact Nat.le_of_ble_eq_true rfl)) | rfl | walk_at "hp" | walk_at "sq" | (refine And.intro (by walk_at "cl") (by walk_at "cl")) | (exact Exists.intro _ (by walk_at "hp")) | (exact Exists.intro _ (Exists.intro _ (by walk_at "hp"))) | (exact Exists.intro _ (Exists.intro _ (And.intro (by walk_at "hp") rfl))) | decide | (exact Or.inl (by walk_at "cl")) | (exact Or.inr (by walk_at "cl")) | omega)
local macro_rules | `(tactic| walk_at "s1") => `(tactic| first | refine And.intro (by walk_at "cl") ?_ | apply Exists.intro)
local macro_rules | `(tactic| walk_at "sx") => `(tactic| repeat walk_at "s1")
local macro_rules | `(tactic| walk_at "si") => `(tactic| first | refine iteY rfl ?_ | refine iteN rfl ?_)
local macro_rules | `(tactic| walk_at "sy") => `(tactic| repeat first | walk_at "s1" | walk_at "si")
section
variable {P : Program} {w : World} {K : PySem.W.Frag} {mg : Str → Option Value} {base : Heap} {A : Ad}
def sp_layout (A : Ad) : Sp := s3 fun a b c H Q _ => ∃ p F neg n, a = .ref p ∧ IsFmt A H p F ∧ F.Ok ∧ b = .bl neg ∧ c = .int ((n : Nat) : Int) ∧ 1 ≤ n ∧ n ≤ 1000 ∧ ∀ t H', H t = none → Same H H' → H' t = some (.tup ((layL F neg n).map toVO)) → Q (.ref t) H'
theorem ok_Format_layout (T : Txt w K mg A) : MCallee P w K mg base 1 A.cFormat "layout" ["self", "negative", "count"] (sp_layout A) := by
  refine mcallee_of T.cl_Format T.M_Format_layout sc_Format_layout (fun _ _ _ _ _ _ us hl => match us, hl with | [_, _, _], _ => rfl) (fun vs H Q E h => ?_) (fun f cdv Ar outer s H vs Q E hr tk po h => ?_)
  · obtain ⟨_, _, _, rfl, _⟩ := s3_len h
    rfl
  · obtain ⟨a, b, c, rfl, p, F, neg, n, rfl, ⟨dx, h0⟩, ok, rfl, rfl, h1, h2, q⟩ := s3_len h
    refine ⟨_, (pss_cons (ps_set (i := 3) sc_Format_layout.nd rfl (Or.inl rfl) (fe_lst (pa_cons pe_non pa_nil)))
      (pss_cons (fs_for po rfl (fi_R3 (by rfl) T.b_range (pa_cons (pe_op f_sub (fv 2) pe_int) (pa_cons pe_int (pa_cons (pe_un un_neg pe_int) pa_nil)))) (pg_name (i := 4) sc_Format_layout.nd rfl (Or.inl rfl)) (pss_cons (ps_if (PW.pt (pw_and (ft_cmp f_gt (fe_fld T.cl_Format T.n_Format_group (fv 0)) pe_int (nomark _)) (pw_and1 (ft_cmp f_eq (pe_op f_mod (fv 4) (fe_fld T.cl_Format T.n_Format_group (fv 0))) pe_int (nomark _))))) (pss_one (ps_expr (fe_append (fv 3) (fe_fld T.cl_Format T.n_Format_mark (fv 0))))) pss_nil)
      (pss_one (ps_expr (fe_append (fv 3) pe_non)))))
      (pss_cons (ps_set (i := 5) sc_Format_layout.nd rfl (Or.inl rfl) (pe_ifExp (ft_val (fv 1)) (fe_lst (pa_cons pe_str pa_nil)) (pe_callTy (f_listS rfl) (by rfl) T.b_list (by decide +kernel) (pa_cons (pe_ix (f_ixK T.d_HEADS) (fe_g (by rfl) T.g_HEADS) (fe_fld T.cl_Format T.n_Format_sign (fv 0)) (fun _ _ => rfl)) pa_nil))))
      (pss_cons (ps_set (i := 6) sc_Format_layout.nd rfl (Or.inl rfl) (pe_callB (f_max rfl) (by rfl) T.b_max (by decide +kernel) (pa_cons pe_int (pa_cons (pe_op f_sub (pe_op f_sub (fe_fld T.cl_Format T.n_Format_width (fv 0)) (pe_callB f_len (by rfl) T.b_len (by decide +kernel) (pa_cons (fv 5) pa_nil))) (pe_callB f_len (by rfl) T.b_len (by decide +kernel) (pa_cons (fv 3) pa_nil))) pa_nil))))
      (pss_cons (ps_set (i := 7) sc_Format_layout.nd rfl (Or.inl rfl) (pe_op f_rep (fe_lst (pa_cons (fe_fld T.cl_Format T.n_Format_fill (fv 0)) pa_nil)) (fv 6)))
      (pss_cons (ps_if (ft_cmp f_eq (fe_fld T.cl_Format T.n_Format_side (fv 0)) pe_str (nomark _)) (pss_one (ps_ret (fe_tup (fa_star (fv 7) (fa_star (fv 5) (fa_star (fv 3) pa_nil)))))) pss_nil)
      (pss_cons (ps_if (ft_cmp f_eq (fe_fld T.cl_Format T.n_Format_side (fv 0)) pe_str (nomark _)) (pss_one (ps_ret (fe_tup (fa_star (fv 5) (fa_star (fv 3) (fa_star (fv 7) pa_nil)))))) pss_nil)
      (pss_cons (ps_if (ft_cmp f_eq (fe_fld T.cl_Format T.n_Format_side (fv 0)) pe_str (nomark _)) (pss_one (ps_ret (fe_tup (fa_star (fv 5) (fa_star (fv 7) (fa_star (fv 3) pa_nil)))))) pss_nil)
      (pss_one (ps_ret (fe_tup (fa_star (pe_slice f_slL (fv 7) po_none (po_some (pe_op f_fdiv (fv 6) pe_int))) (fa_star (fv 5) (fa_star (fv 3) (fa_star (pe_slice f_slL (fv 7) (po_some (pe_op f_fdiv (fv 6) pe_int)) po_none) pa_nil))))))))))))))), ?_⟩
    walk_at "sx"
    intro t H1 nt e1 h1'
    walk_at "sx"
    have rg : RgC ((n : Int) - 1) 0 (-1) (n - 1) := by
      have z := RgC.neg (i := (n : Int) - 1) (j := 0) (by omega) (by omega) (by decide) (by decide)
      rw [show ((n : Int) - 1 - 0).toNat = n - 1 by omega] at z
      exact z
    refine And.intro rg (And.intro trivial ?_)
    rw [show rgC ((n : Int) - 1) (-1) (n - 1) = dn (n - 1) by rw [← rgC_dn, show (((n - 1 : Nat)) : Int) = (n : Int) - 1 by omega]]
    refine Loop.by (fun rest σ H2 => ∃ (k : Nat) (acc : List (Option Nat)), ∃ a4, rest = dn k ∧ k < n ∧ acc.length + 2 * k ≤ 2 * n ∧ σ = [some (.ref p), some (.bl neg), some (.int n), some (.ref t), a4, none, none, none] ∧
      H2 t = some (.lst (acc.map toVO)) ∧ Same H H2 ∧ acc ++ lays F.group F.mark k = bodyL F n) ?_ ?_ _ _ _ ?_
    · rintro x r σ H2 ⟨k, acc, a4, hr, hk, hlen, rfl, ht, s2, hb⟩ N hN
      cases k with
      | zero => cases hr
      | succ k =>
        cases hr
        have h02 := s2 _ _ h0
        rw [lays] at hb
        walk_at "sx"
        have fin : ∀ (H3 : Hp) (pre : List (Option Nat)), pre.length ≤ 1 → But t H2 H3 → H3 t = some (.lst ((acc ++ pre).map toVO ++ [.non])) → (acc ++ pre) ++ none :: lays F.group F.mark k = bodyL F n →
            N [some (.ref p), some (.bl neg), some (.int n), some (.ref t), some (.int ((k + 1 : Nat) : Int)), none, none, none] H3 := fun H3 pre lp b3 h3 hb => by
          refine hN _ _ trivial ⟨k, acc ++ pre ++ [none], _, rfl, by omega, ?_, rfl, ?_, Same.but s2 nt b3, ?_⟩
          · simp only [List.length_append, List.length_singleton]; omega
          · rw [h3]; simp [toVO]
          · rw [← hb]; simp
        refine iteD (fun c => ?_) (fun c => ?_)
        · have g0 : 0 < F.group := by omega
          walk_at "sx"
          refine iteD (fun d => ?_) (fun d => ?_)
          · have e : (k + 1) % F.group = 0 := by
              have : (((k + 1) % F.group : Nat) : Int) = 0 := d
              omega
            rw [if_pos ⟨g0, e⟩] at hb
            have len2 : acc.length + 1 ≤ 16000000 := by omega
            walk_at "sx"
            intro H3 b3 h3
            have lz : (acc.map toVO).length ≤ 10000 := by rw [List.length_map]; omega
            walk_at "sx"
            intro H4 b4 h4
            refine fin H4 [some F.mark] (by simp) (b3.trans b4) ?_ ?_
            · rw [h4]; simp [toVO]
            · rw [← hb]; simp
          · have e : ¬ (k + 1) % F.group = 0 := by
              have : ¬ (((k + 1) % F.group : Nat) : Int) = 0 := d
              omega
            rw [if_neg (fun z => e z.2), List.nil_append] at hb
            have lz : (acc.map toVO).length ≤ 10000 := by rw [List.length_map]; omega
            walk_at "sx"
            intro H3 b3 h3
            exact fin H3 [] (by simp) b3 (by rw [h3]; simp) (by rw [← hb]; simp)
        · have g0 : ¬ 0 < F.group := by omega
          rw [if_neg (fun z => g0 z.1), List.nil_append] at hb
          have lz : (acc.map toVO).length ≤ 10000 := by rw [List.length_map]; omega
          refine iteN rfl ?_
          walk_at "sx"
          intro H3 b3 h3
          exact fin H3 [] (by simp) b3 (by rw [h3]; simp) (by rw [← hb]; simp)
    · rintro σ H2 ⟨k, acc, a4, hr, hk, hlen, rfl, ht, s2, hb⟩
      have ek : k = 0 := by
        cases k with
        | zero => rfl
        | succ k => cases hr
      subst ek
      rw [lays, List.append_nil] at hb
      subst hb
      have h02 := s2 _ _ h0
      have bl := body_len F h1
      apply meet (fun a5 H3 => Same H2 H3 ∧ H3 a5 = some (.lst (((headC F.sign neg).map some).map toVO)))
      · intro key
        walk_at "sx"
        refine iteB (fun e => ?_) (fun e => ?_)
        · walk_at "sx"
          intro a5 H3 n5 s3 h3
          exact key _ _ ⟨s3, by rw [e]; exact h3⟩
        · rcases ok.si with si | si | si
          · walk_at "sx"
            refine And.intro (show List.lookup F.sign headT = some (V.str "") by rw [si]; decide +kernel) ?_
            walk_at "sx"
            intro a5 H3 n5 s3 h3
            exact key _ _ ⟨s3, by rw [h3, si, e]; rfl⟩
          · walk_at "sx"
            refine And.intro (show List.lookup F.sign headT = some (V.str "+") by rw [si]; decide +kernel) ?_
            walk_at "sx"
            intro a5 H3 n5 s3 h3
            exact key _ _ ⟨s3, by rw [h3, si, e]; rfl⟩
          · walk_at "sx"
            refine And.intro (show List.lookup F.sign headT = some (V.str " ") by rw [si]; decide +kernel) ?_
            walk_at "sx"
            intro a5 H3 n5 s3 h3
            exact key _ _ ⟨s3, by rw [h3, si, e]; rfl⟩
      · rintro a5 H3 ⟨s3, h3⟩
        have h03 := s3 _ _ h02
        have t3 := s3 _ _ ht
        have hl := head_len F.sign neg
        have wi := ok.wi
        have ll : lackL F neg n ≤ 12 := by have := ok.wi; unfold lackL; omega
        walk_at "sx"
        intro a6 H4 n6 s4 h4
        have h04 := s4 _ _ h03
        walk_at "sx"
        intro a7 H5 n7 s5 h5
        have h05 := s5 _ _ h04
        have t5 := s5 _ _ (s4 _ _ t3)
        have d5 := s5 _ _ (s4 _ _ h3)
        have L0 : ∀ k : Int, k = (F.width : Int) - (((headC F.sign neg).map some).map toVO).length - ((bodyL F n).map toVO).length → max 0 k = ((lackL F neg n : Nat) : Int) := fun k e => by
          rw [List.length_map, List.length_map, List.length_map] at e
          unfold lackL
          omega
        have f5 : H5 a7 = some (.lst ((fillL F (lackL F neg n)).map toVO)) := h5.trans (by
          rw [rep_flat (m := lackL F neg n) _ (by rw [L0 _ rfl]; exact Int.toNat_natCast _)]
          simp [fillL, toVO])
        have fl : (fillL F (lackL F neg n)).length = lackL F neg n := by simp [fillL]
        have s15 : Same H H5 := ((s2.trans s3).trans s4).trans s5
        have sz : ∀ (x y z : List (Option Nat)), x.length ≤ 3000 → y.length ≤ 3000 → z.length ≤ 3000 → (x.map toVO ++ (y.map toVO ++ (z.map toVO ++ []))).length ≤ sizeLine := fun x y z a b c => by
          refine sz_le ?_
          simp only [List.length_append, List.length_map, List.length_nil]
          omega
        have hm : ((headC F.sign neg).map some).length ≤ 3000 := by rw [List.length_map]; omega
        clear h5 h4 h3 h03 h02 h04 ht t3
        rcases ok.sd with sd | sd | sd | sd
        · walk_at "sx"
          refine iteY (decide_eq_true sd) ?_
          walk_at "sx"
          intro a8 H6 n8 s6 h6
          refine q a8 H6 (Same.no s15 n8) (s15.trans s6) (h6.trans ?_)
          rw [layL, if_pos sd]
          simp
        · walk_at "sx"
          refine iteN (decide_eq_false (by rw [sd]; decide)) ?_
          walk_at "sx"
          refine iteY (decide_eq_true sd) ?_
          walk_at "sx"
          intro a8 H6 n8 s6 h6
          refine q a8 H6 (Same.no s15 n8) (s15.trans s6) (h6.trans ?_)
          rw [layL, if_neg (by rw [sd]; decide), if_pos sd]
          simp
        · walk_at "sx"
          refine iteN (decide_eq_false (by rw [sd]; decide)) ?_
          walk_at "sx"
          refine iteN (decide_eq_false (by rw [sd]; decide)) ?_
          walk_at "sx"
          refine iteN (decide_eq_false (by rw [sd]; decide)) ?_
          walk_at "sx"
          intro a8 H6 n8 s6 h6
          have f6 := s6 _ _ f5
          have d7 := s6 _ _ d5
          have t6 := s6 _ _ t5
          have z6 := h6.trans (congrArg (fun l => some (HO.lst l)) (cut_take (m := lackL F neg n / 2) ((congrArg (fun z : Int => z / 2) (L0 _ rfl)).trans (by omega))))
          clear h6
          walk_at "sx"
          intro a9 H7 n9 s7 h7
          have z6' := s7 _ _ z6
          have d8 := s7 _ _ d7
          have t7 := s7 _ _ t6
          have z7 := h7.trans (congrArg (fun l => some (HO.lst l)) (cut_drop (m := lackL F neg n / 2) ((congrArg (fun z : Int => z / 2) (L0 _ rfl)).trans (by omega))))
          clear h7 z6 t6 d7 t5 d5 f5 f6
          walk_at "sx"
          intro b1 H8 m1 s8 h8
          have s18 := (s15.trans s6).trans s7
          refine q b1 H8 (Same.no s18 m1) (s18.trans s8) (h8.trans ?_)
          rw [layL, if_neg (by rw [sd]; decide), if_neg (by rw [sd]; decide), if_neg (by rw [sd]; decide)]
          simp [fillL, ← List.map_take, ← List.map_drop, List.take_replicate, List.drop_replicate, show min (lackL F neg n / 2) (lackL F neg n) = lackL F neg n / 2 from Nat.min_eq_left (Nat.div_le_self _ _)]
        · walk_at "sx"
          refine iteN (decide_eq_false (by rw [sd]; decide)) ?_
          walk_at "sx"
          refine iteN (decide_eq_false (by rw [sd]; decide)) ?_
          walk_at "sx"
          refine iteY (decide_eq_true sd) ?_
          walk_at "sx"
          intro a8 H6 n8 s6 h6
          refine q a8 H6 (Same.no s15 n8) (s15.trans s6) (h6.trans ?_)
          rw [layL, if_neg (by rw [sd]; decide), if_neg (by rw [sd]; decide), if_pos sd]
          simp
    · exact ⟨n - 1, [none], none, rfl, by omega, by simp; omega, rfl, h1', e1, rfl⟩
end

end Fg
set_option Elab.async false
set_option linter.all false
set_option maxRecDepth 100000
set_option maxHeartbeats 4000000
namespace Fg
open PySem PySem.Spec PyProof.Rows L2
local macro_rules | `(tactic| walk_at "hp") => `(tactic| first | assumption | (refine Same.get (by assumption) ?_; walk_at "hp"))
local macro_rules | `(tactic| walk_at "sq") => `(tactic| first | assumption | (exact Or.inr (by assumption)) | (exact Or.inl (by assumption)) | (exact Or.inl (SqL.of (by walk_at "hp"))) | (exact Or.inr (SqT.of (by walk_at "hp"))) | (exact SqL.of (by walk_at "hp")) | (exact SqT.of (by walk_at "hp")))
local macro_rules | `(tactic| walk_at "cl") => `(tactic| first | ((first | show (_ : Int) < _ | show (_ : Int) ≤ _); first | omega | decide) | ((first | show (_ : Nat) < _ | show (_ : Nat) ≤ _); first | with_reducible assumption | (refine sz_le ?_; first | decide | omega | (simp <;> omega)) | (refine sz_lt ?_; first | decide | omega | (simp <;> omega)) | omega | decide | ((with_reducible show List.length _ < _); exact Nat.le_of_ble_eq_true rfl)) | rfl | walk_at "hp" | walk_at "sq" | (refine And.intro (by walk_at "cl") (by walk_at "cl")) | (exact Exists.intro _ (by walk_at "hp")) | (exact Exists.intro _ (Exists.intro _ (by walk_at "hp"))) | (exact Exists.intro _ (Exists.intro _ (And.intro (by walk_at "hp") rfl))) | decide | (exact Or.inl (by walk_at "cl")) | (exact Or.inr (by walk_at "cl")) | omega)
local macro_rules | `(tactic| walk_at "s1") => `(tactic| first | refine And.intro (by walk_at "cl") ?_ | apply Exists.intro)
local macro_rules | `(tactic| walk_at "sx") => `(tactic| repeat walk_at "s1")
local macro_rules | `(tactic| walk_at "si") => `(tactic| first | refine iteY rfl ?_ | refine iteN rfl ?_)
local macro_rules | `(tactic| walk_at "sy") => `(tactic| repeat first | walk_at "s1" | walk_at "si")
theorem figS_at : ∀ d : Fin 16, figS.cps.toList[d.val]? = some (figC d.val) := by decide +kernel
theorem figS_ix {d : Nat} (h : d < 16) : atI figS.cps.toList ((d : Nat) : Int) = some (figC d) := by
  have e : ∀ d : Fin 16, atI figS.cps.toList ((d.val : Nat) : Int) = some (figC d.val) := by decide +kernel
  exact e ⟨d, h⟩
theorem rdigs_lt {b : Nat} (hb : 0 < b) : ∀ (k n : Nat), ∀ d ∈ rdigs b k n, d < b
  | 0, n, d, h => by
    rw [rdigs, List.mem_singleton] at h
    rw [h]; exact Nat.mod_lt _ hb
  | k + 1, n, d, h => by
    rw [rdigs] at h
    rcases List.mem_cons.mp h with h | h
    · rw [h]; exact Nat.mod_lt _ hb
    · split at h
      · exact rdigs_lt hb k _ d h
      · cases h
theorem digs_lt {b n : Nat} (hb : 0 < b) {d : Nat} (h : d ∈ digs b n) : d < b := rdigs_lt hb n n d (List.mem_reverse.mp h)
def need : List (Option Nat) → Nat
  | [] => 0
  | none :: r => need r + 1
  | some _ :: r => need r
theorem need_app : ∀ x y : List (Option Nat), need (x ++ y) = need x + need y
  | [], y => by simp [need]
  | none :: r, y => by
    have := need_app r y
    simp only [List.cons_append, need]
    omega
  | some _ :: r, y => need_app r y
theorem need_lays (g m : Nat) : ∀ k, need (lays g m k) = k
  | 0 => rfl
  | k + 1 => by
    have := need_lays g m k
    rw [lays, need_app]
    have e : need (if 0 < g ∧ (k + 1) % g = 0 then [some m] else []) = 0 := by split <;> rfl
    rw [e]
    show 0 + (need (lays g m k) + 1) = k + 1
    omega
theorem need_some : ∀ l : List Nat, need (l.map some) = 0
  | [] => rfl
  | _ :: r => need_some r
theorem need_fill (F : Fm) : ∀ k, need (fillL F k) = 0 := fun k => by
  unfold fillL
  induction k with
  | zero => rfl
  | succ k ih => rw [List.replicate_succ]; exact ih
theorem need_body (F : Fm) {n : Nat} (h : 1 ≤ n) : need (bodyL F n) = n := by
  show need (lays _ _ _) + 1 = n
  rw [need_lays]; omega
theorem need_lay (F : Fm) (neg : Bool) {n : Nat} (h : 1 ≤ n) : need (layL F neg n) = n := by
  unfold layL
  dsimp only
  split
  · simp [need_app, need_fill, need_some, need_body F h]
  · split
    · simp [need_app, need_fill, need_some, need_body F h]
    · split <;> simp [need_app, need_fill, need_some, need_body F h]
theorem lay_len (F : Fm) (ok : F.Ok) (neg : Bool) {n : Nat} (h : 1 ≤ n) : (layL F neg n).length ≤ 2 * n + 13 := by
  have h1 := body_len F h
  have h2 := head_len F.sign neg
  have h3 : lackL F neg n ≤ 12 := by have := ok.wi; unfold lackL; omega
  have h4 : ∀ k, (fillL F k).length = k := fun k => by simp [fillL]
  unfold layL
  dsimp only
  split
  · simp only [List.length_append, h4, List.length_map]; omega
  · split
    · simp only [List.length_append, h4, List.length_map]; omega
    · split
      · simp only [List.length_append, h4, List.length_map]; omega
      · simp only [List.length_append, h4, List.length_map]; omega
theorem fillIn_len : ∀ (l : List (Option Nat)) (ds : List Nat), (fillIn l ds).length ≤ l.length
  | [], ds => by simp [fillIn]
  | none :: r, [] => by simp [fillIn]
  | none :: r, d :: ds => by
    have := fillIn_len r ds
    simp only [fillIn, List.length_cons]; omega
  | some c :: r, ds => by
    have := fillIn_len r ds
    simp only [fillIn, List.length_cons]; omega
/-- an integer that is not too great -/
def SmI (i : Int) : Prop := i.natAbs < 10 ^ 100
theorem row_len (F : Fm) (ok : F.Ok) {n : Nat} (h : n < 10 ^ 100) : (rowN F n).length ≤ 412 ∧ 1 ≤ (rowN F n).length := by
  have h1 := digs_len ok.b1 h
  have h2 : 1 ≤ (digs F.base n).length := List.length_pos_iff.mpr digs_nil
  have := ok.l2
  unfold rowN
  rw [List.length_append, List.length_replicate, List.length_map]
  omega
theorem str_app (a b : Str) : (a ++ b : Str) = ⟨a.cps ++ b.cps⟩ := rfl
theorem join_chS (l : List Nat) : Txt.join "" (l.map chS) = ⟨l.toArray⟩ := by
  unfold Txt.join
  rw [StrLaws.glued_eq_join]
  induction l with
  | nil => rfl
  | cons a r ih =>
    cases r with
    | nil => rfl
    | cons b r =>
      show chS a ++ "" ++ Str.join "" ((b :: r).map chS) = _
      rw [ih, str_app, str_app]
      congr 1
      apply Array.toList_inj.mp
      simp [chS, show ("" : Str).cps = #[] from rfl]
/-- the settings as a dict -/
def Fm.kvs (F : Fm) : List (Key × V) := [(Sum.inr "base", .int F.base), (Sum.inr "sign", .str F.sign), (Sum.inr "least", .int F.least), (Sum.inr "group", .int F.group), (Sum.inr "mark", .str (chS F.mark)), (Sum.inr "width", .int F.width), (Sum.inr "fill", .str (chS F.fill)), (Sum.inr "side", .str F.side)]

end Fg
set_option Elab.async false
set_option linter.all false
set_option maxRecDepth 100000
set_option maxHeartbeats 4000000
namespace Fg
open PySem PySem.Spec PyProof.Rows L2
local macro_rules | `(tactic| walk_at "hp") => `(tactic| first | assumption | (refine Same.get (by assumption) ?_; walk_at "hp"))
local macro_rules | `(tactic| walk_at "sq") => `(tactic| first | assumption | (exact Or.inr (by assumption)) | (exact Or.inl (by assumption)) | (exact Or.inl (SqL.of (by walk_at "hp"))) | (exact Or.inr (SqT.of (by walk_at "hp"))) | (exact SqL.of (by walk_at "hp")) | (exact SqT.of (by walk_at "hp")))
local macro_rules | `(tactic| walk_at "cl") => `(tactic| first | ((first | show (_ : Int) < _ | show (_ : Int) ≤ _); first | omega | decide) | ((first | show (_ : Nat) < _ | show (_ : Nat) ≤ _); first | with_reducible assumption | (refine sz_le ?_; first | decide | omega | (simp <;> omega)) | (refine sz_lt ?_; first | decide | omega | (simp <;> omega)) | omega | decide | ((with_reducible show List.length _ < _); exact Nat.le_of_ble_eq_true rfl)) | rfl | walk_at "hp" | walk_at "sq" | (refine And.intro (by walk_at "cl") (by walk_at "cl")) | (exact Exists.intro _ (by walk_at "hp")) | (exact Exists.intro _ (Exists.intro _ (by walk_at "hp"))) | (exact Exists.intro _ (Exists.intro _ (And.intro (by walk_at "hp") rfl))) | decide | (exact Or.inl (by walk_at "cl")) | (exact Or.inr (by walk_at "cl")) | omega)
local macro_rules | `(tactic| walk_at "s1") => `(tactic| first | refine And.intro (by walk_at "cl") ?_ | apply Exists.intro)
local macro_rules | `(tactic| walk_at "sx") => `(tactic| repeat walk_at "s1")
local macro_rules | `(tactic| walk_at "si") => `(tactic| first | refine iteY rfl ?_ | refine iteN rfl ?_)
local macro_rules | `(tactic| walk_at "sy") => `(tactic| repeat first | walk_at "s1" | walk_at "si")
section
variable {P : Program} {w : World} {K : PySem.W.Frag} {mg : Str → Option Value} {base : Heap} {A : Ad}
def sp_written (A : Ad) : Sp := s2 fun a b H Q _ => ∃ p F i, a = .ref p ∧ b = .int i ∧ IsFmt A H p F ∧ F.Ok ∧ SmI i ∧ ∀ H', Same H H' → Q (.str (textI F i)) H'
theorem IsFmt.same {A : Ad} {H H' : Hp} {p : Addr} {F : Fm} (s : Same H H') (h : IsFmt A H p F) : IsFmt A H' p F := h.elim fun dx e => ⟨dx, s _ _ e⟩
theorem ok_Format_written (T : Txt w K mg A) : MCallee P w K mg base 2 A.cFormat "written" ["self", "number"] (sp_written A) := by
  refine mcallee_of T.cl_Format T.M_Format_written sc_Format_written (fun _ _ _ _ _ _ us hl => match us, hl with | [_, _], _ => rfl) (fun vs H Q E h => ?_) (fun f cdv Ar outer s H vs Q E hr tk po h => ?_)
  · obtain ⟨_, _, rfl, _⟩ := s2_len h
    rfl
  · obtain ⟨a, b, rfl, p, F, i, rfl, rfl, ⟨dx, h0⟩, ok, hi, q⟩ := s2_len h
    refine ⟨_, (pss_cons (ps_set (i := 2) sc_Format_written.nd rfl (Or.inl rfl) (fc_call (ok_figures_of T) hr (by decide) (by rfl) tk (pa_cons (pe_callB f_abs (by rfl) T.b_abs (by decide +kernel) (pa_cons (fv 1) pa_nil)) (pa_cons (fe_fld T.cl_Format T.n_Format_base (fv 0)) pa_nil))))
      (pss_cons (ps_set (i := 2) sc_Format_written.nd rfl (Or.inl rfl) (pe_op f_cat (pe_op f_rep (fe_lst (pa_cons pe_int pa_nil)) (pe_op f_sub (fe_fld T.cl_Format T.n_Format_least (fv 0)) (pe_callB f_len (by rfl) T.b_len (by decide +kernel) (pa_cons (fv 2) pa_nil)))) (fv 2)))
      (pss_cons (fs_setLc (i := 3) (own := [("figure", 7)]) (tt := tYes) (by rfl) sc_Format_written.nd rfl rfl (sw_true rfl rfl rfl (by decide +kernel)) (fi_L (fv 2)) (blkOk_by (own := [("figure", 7)]) (N := ["self", "number", "figures", "signs", "found", "at", "spot", "figure"]) (sc := defScope s_Format_written) (by decide +kernel)) (fun _ _ _ _ _ => pg_name (i := 7) sc_Format_written.nd rfl (Or.inl rfl)) (fun _ _ _ _ _ => pts_nil) (fun _ _ _ _ _ => (pe_ix (f_ixB K) (fe_g (by rfl) T.g_FIGURES) (fv 7) (fun _ _ => rfl))))
      (pss_cons (ps_par (i := 4) (j := 5) (by rfl) sc_Format_written.nd rfl rfl (by decide) rfl rfl (pa_cons (fe_lst pa_nil) (pa_cons pe_int pa_nil)) (by rfl))
      (pss_cons (fs_for po rfl (fi_T (fc_meth (ok_Format_layout T) hr (by decide) tk (fv 0) (pa_cons (pe_cmpR f_lt (fv 1) pe_int (nomark _)) (pa_cons (pe_callB f_len (by rfl) T.b_len (by decide +kernel) (pa_cons (fv 3) pa_nil)) pa_nil)))) (pg_name (i := 6) sc_Format_written.nd rfl (Or.inl rfl)) (pss_one (ps_if (ft_cmp f_isN (fv 6) pe_non (nomark _)) (pss_cons (ps_expr (fe_append (fv 4) (pe_ix f_ix (fv 3) (fv 5) (fun _ _ => rfl))))
      (pss_one (ps_aug (i := 5) sc_Format_written.nd rfl (Or.inl rfl) pe_int ip_add))) (pss_one (ps_expr (fe_append (fv 4) (fv 6)))))))
      (pss_one (ps_ret (fe_sm1 PySem.F.slot_str_join PySem.F.type_str_join f_join pe_str (fv 4))))))))), ?_⟩
    have b1 := ok.b1
    have b2 := ok.b2
    have l2 := ok.l2
    have dl := digs_len (b := F.base) b1 hi
    have dl2 : ((digs F.base i.natAbs).map fun (d : Nat) => V.int d).length ≤ 400 := by rw [List.length_map]; exact dl
    walk_at "sx"
    intro a1 H1 n1 s1 h1
    have h01 := s1 _ _ h0
    walk_at "sx"
    intro a2 H2 n2 s2 h2
    have h12 := s2 _ _ h1
    walk_at "sx"
    intro a3 H3 n3 s3 h3
    have h13 := s3 _ _ h12
    walk_at "sx"
    intro a4 H4 n4 s4 h4
    have e4 : H4 a4 = some (.lst ((List.replicate (F.least - (digs F.base i.natAbs).length) 0 ++ digs F.base i.natAbs).map fun (d : Nat) => V.int d)) := h4.trans (by
      rw [rep_flat (m := F.least - (digs F.base i.natAbs).length) _ (by rw [List.length_map]; omega)]
      simp)
    clear h4 h3 h2 h1 h12 h13 h01
    walk_at "sx"
    intro a5 H5 n5 s5 h5
    refine And.intro (SqL.of (s5 _ _ e4)) ?_
    have s15 : Same H H5 := (((s1.trans s2).trans s3).trans s4).trans s5
    have h4n : H4 a5 = none := n5
    refine Comp.mapP (H0 := H4) (fun v => ∃ d : Nat, v = .int (d : Nat) ∧ d < 16) (fun v => match v with | .int d => .str (chS (figC d.toNat)) | v => v) h4n (fun H6 s6 => SqL.of (s6 _ _ e4)) ?_ _ [] _ ?_ ?_ s5 h5 ?_
    · rintro x H6 R ⟨d, rfl, hd⟩ s6 k
      have fx := figS_ix hd
      walk_at "sx"
      exact k H6 (Same.refl _)
    · intro x hx
      obtain ⟨d, hd, rfl⟩ := List.mem_map.mp hx
      refine ⟨d, rfl, ?_⟩
      rcases List.mem_append.mp hd with z | z
      · rw [(List.mem_replicate.mp z).2]; decide
      · exact Nat.lt_of_lt_of_le (digs_lt (by omega) z) b2
    · refine sz_le ?_
      simp only [List.length_nil, List.length_map, List.length_append, List.length_replicate]
      omega
    · intro H6 s6 h6
      have h6' : H6 a5 = some (.lst ((rowN F i.natAbs).map fun c => V.str (chS c))) := h6.trans (by
        unfold rowN
        rw [List.nil_append, List.map_map, List.map_append, List.map_append, List.map_map, List.map_replicate, List.map_replicate]
        rfl)
      clear h6 h5 e4
      have s16 : Same H H6 := (((s1.trans s2).trans s3).trans s4).trans s6
      have h06 := s16 _ _ h0
      obtain ⟨rl1, rl2⟩ := row_len F ok (show i.natAbs < 10 ^ 100 from hi)
      walk_at "sx"
      intro a7 H7 n7 s7 h7
      have h07 := s7 _ _ h06
      have h67 := s7 _ _ h6'
      have rlm : ((rowN F i.natAbs).map fun c => V.str (chS c)).length = (rowN F i.natAbs).length := List.length_map ..
      walk_at "sx"
      intro a8 H8 n8 s8 h8
      rw [rlm] at h8
      have h08 := s8 _ _ h07
      have h68 := s8 _ _ h67
      have h78 := s8 _ _ h7
      have s68 : Same H6 H8 := s7.trans s8
      have ll := lay_len F ok (decide (i < 0)) rl2
      have nl := need_lay F (decide (i < 0)) rl2
      have ne87 : a8 ≠ a7 := ne_of h8 h78 (fun z => by cases z)
      walk_at "sx"
      refine Loop.by (fun rest σ Hc => ∃ (l : List (Option Nat)) (k : Nat) (acc : List Nat), ∃ a6, rest = l.map toVO ∧ σ = [some (.ref p), some (.int i), some (.ref a4), some (.ref a5), some (.ref a7), some (.int (k : Nat)), a6, none] ∧
        Hc a7 = some (.lst (acc.map fun c => V.str (chS c))) ∧ Same H6 Hc ∧ Hc a8 = some (.tup ((layL F (decide (i < 0)) (rowN F i.natAbs).length).map toVO)) ∧ k + need l = (rowN F i.natAbs).length ∧ acc ++ fillIn l ((rowN F i.natAbs).drop k) = codesI F i ∧ acc.length + l.length ≤ 3000) ?_ ?_ _ _ _ ?_
      · rintro x r σ Hc ⟨l, k, acc, a6, hr, rfl, hf, sc, ht, hk, hac, hlen⟩ N hN
        have lz : (acc.map fun c => V.str (chS c)).length ≤ 10000 := by rw [List.length_map]; omega
        have fin : ∀ (c : Nat) (k' : Nat) (l' : List (Option Nat)) (v : V) (H' : Hp), But a7 Hc H' → H' a7 = some (.lst ((acc.map fun c => V.str (chS c)) ++ [.str (chS c)])) → r = l'.map toVO → k' + need l' = (rowN F i.natAbs).length → (acc ++ [c]) ++ fillIn l' ((rowN F i.natAbs).drop k') = codesI F i →
            l'.length + 1 = l.length → N [some (.ref p), some (.int i), some (.ref a4), some (.ref a5), some (.ref a7), some (.int (k' : Nat)), some v, none] H' := fun c k' l' v H' b' h' e1 e2 e3 e4 => by
          refine hN _ _ (SqT.of (b' _ _ ne87 ht)) ⟨l', k', acc ++ [c], _, e1, rfl, ?_, Same.but sc n7 b', b' _ _ ne87 ht, e2, e3, ?_⟩
          · rw [h']; simp
          · simp only [List.length_append, List.length_singleton]; omega
        cases l with
        | nil => cases hr
        | cons o l =>
        cases o with
        | none =>
          cases hr
          have hk' : k + (need l + 1) = (rowN F i.natAbs).length := hk
          have kl : k < (rowN F i.natAbs).length := by omega
          have h6c := sc _ _ h6'
          have atk : atI ((rowN F i.natAbs).map fun c => V.str (chS c)) ((k : Nat) : Int) = some (V.str (chS ((rowN F i.natAbs)[k]))) := atI_nat (by
            rw [List.getElem?_map, List.getElem?_eq_getElem kl]
            rfl)
          rw [List.drop_eq_getElem_cons kl] at hac
          walk_at "sy"
          intro H9 b9 h9
          walk_at "sx"
          refine fin _ (k + 1) l _ H9 b9 h9 rfl (by omega) ?_ (by simp)
          rw [List.append_assoc]
          exact hac
        | some c =>
          cases hr
          walk_at "sy"
          intro H9 b9 h9
          refine fin c k l _ H9 b9 h9 rfl hk ?_ (by simp)
          rw [List.append_assoc]
          exact hac
      · rintro σ Hc ⟨l, k, acc, a6, hr, rfl, hf, sc, ht, hk, hac, hlen⟩
        have el : l = [] := by
          cases l with
          | nil => rfl
          | cons a b => cases hr
        subst el
        have hac' : acc = codesI F i := by
          rw [← hac]
          simp [fillIn]
        have q' := q Hc (s16.trans sc)
        have jn : Txt.join "" (acc.map chS) = textI F i := by rw [join_chS, hac']; rfl
        have hf' : Hc a7 = some (.lst ((acc.map chS).map V.str)) := by rw [hf, List.map_map]; rfl
        have sm : ((acc.map chS).map (·.length)).sum + (acc.map chS).length * ("" : Str).length ≤ 16777216 := by
          have : ((acc.map chS).map (·.length)) = acc.map fun _ => 1 := by rw [List.map_map]; rfl
          rw [this]
          have e0 : ("" : Str).length = 0 := rfl
          have e1 : (acc.map fun _ => 1).sum = acc.length := by
            clear hac hlen hac' jn hf' hf q' this
            induction acc with
            | nil => rfl
            | cons a r ih => rw [List.map_cons, List.sum_cons, ih, List.length_cons]; omega
          rw [e0, e1]
          simp only [List.length_nil] at hlen
          omega
        rw [← jn] at q'
        clear hac hf
        walk_at "sx"
        exact q'
      · refine ⟨layL F (decide (i < 0)) (rowN F i.natAbs).length, 0, [], none, rfl, rfl, h78, s68, h8, by rw [nl]; omega, ?_, ?_⟩
        · rw [List.drop_zero, List.nil_append]; rfl
        · simp only [List.length_nil]; omega
end
section
variable {P : Program} {w : World} {K : PySem.W.Frag} {mg : Str → Option Value} {base : Heap} {A : Ad}
/-- made.text(x) of anything -/
def sp_text (K : PySem.W.Frag) (A : Ad) : Sp := s2 fun a v H Q E => ∃ p F, a = .ref p ∧ IsFmt A H p F ∧ F.Ok ∧ AnyV K H v ∧ (∀ i, v = .int i → SmI i ∧ ∀ H', Same H H' → Q (.str (textI F i)) H') ∧
  (isInt v = false → ∀ d H', Same H H' → H' d = some (.xd [("value", v)]) → E (.ref A.cInvalidNumber) (some d) H')
theorem okk_Format_text (T : Txt w K mg A) : MKCallee P w K mg base 3 A.cFormat "text" "Format.text" s_Format_text ["self", "number"] (sp_text K A) := by
  refine mkcallee_of T.cl_Format T.M_Format_text sc_Format_text (fun vs H Q E h => ?_) (fun f cdv Ar outer s H vs Q E hr tk po h => ?_)
  · obtain ⟨_, _, rfl, _⟩ := s2_len h
    rfl
  · obtain ⟨a, v, rfl, p, F, rfl, ⟨dx, h0⟩, ok, hv, q1, q2⟩ := s2_len h
    refine ⟨_, (pss_cons (ps_if (pt_not (ft_val (fc_call (ok_is_integer T) hr (by decide) (by rfl) tk (pa_cons (fv 1) pa_nil)))) (pss_one (fr_raise rfl (r_InvalidNumber T) hr (by decide) tk (by rfl) (fv 1))) pss_nil)
      (pss_one (ps_ret (fc_meth (ok_Format_written T) hr (by decide) tk (fv 0) (pa_cons (fv 1) pa_nil))))), ?_⟩
    walk_at "sx"
    cases e : isInt v with
    | true =>
      cases v <;> first | (cases e; done) | skip
      rename_i i
      obtain ⟨si, q⟩ := q1 i rfl
      walk_at "sy"
      exact q
    | false =>
      have q := q2 e
      walk_at "sy"
      exact fun d H' _ s' h' => q d H' s' h'
theorem ok_Format_text (T : Txt w K mg A) : MCallee P w K mg base 3 A.cFormat "text" ["self", "number"] (sp_text K A) := (okk_Format_text T).plain (fun _ _ _ _ _ _ us hl => match us, hl with | [_, _], _ => rfl)
theorem oc_Format (T : Txt w K mg A) : OCallee P w K mg base 4 A.cFormat ["self", "number"] (sp_text K A) := by
  refine ocallee_of T.C_Format sc_Formatdd_calldd (fun _ _ _ _ _ _ us hl => match us, hl with | [_, _], _ => rfl) (fun vs H Q E h => ?_) (fun f cdv Ar outer s H vs Q E hr tk po h => ?_)
  · obtain ⟨_, _, rfl, _⟩ := s2_len h
    rfl
  · obtain ⟨a, v, rfl, p, F, rfl, ⟨dx, h0⟩, ok, hv, q1, q2⟩ := s2_len h
    refine ⟨_, (pss_one (ps_ret (fc_meth (ok_Format_text T) hr (by decide) tk (fv 0) (pa_cons (fv 1) pa_nil)))), ?_⟩
    walk_at "sx"
    exact q2
end

end Fg
set_option Elab.async false
set_option linter.all false
set_option maxRecDepth 100000
set_option maxHeartbeats 4000000
namespace Fg
open PySem PySem.Spec PyProof.Rows L2
local macro_rules | `(tactic| walk_at "hp") => `(tactic| first | assumption | (refine Same.get (by assumption) ?_; walk_at "hp"))
local macro_rules | `(tactic| walk_at "sq") => `(tactic| first | assumption | (exact Or.inr (by assumption)) | (exact Or.inl (by assumption)) | (exact Or.inl (SqL.of (by walk_at "hp"))) | (exact Or.inr (SqT.of (by walk_at "hp"))) | (exact SqL.of (by walk_at "hp")) | (exact SqT.of (by walk_at "hp")))
local macro_rules | `(tactic| walk_at "cl") => `(tactic| first | ((first | show (_ : Int) < _ | show (_ : Int) ≤ _); first | omega | decide) | ((first | show (_ : Nat) < _ | show (_ : Nat) ≤ _); first | with_reducible assumption | (refine sz_le ?_; first | decide | omega | (simp <;> omega)) | (refine sz_lt ?_; first | decide | omega | (simp <;> omega)) | omega | decide | ((with_reducible show List.length _ < _); exact Nat.le_of_ble_eq_true rfl)) | rfl | walk_at "hp" | walk_at "sq" | (refine And.intro (by walk_at "cl") (by walk_at "cl")) | (exact Exists.intro _ (by walk_at "hp")) | (exact Exists.intro _ (Exists.intro _ (by walk_at "hp"))) | (exact Exists.intro _ (Exists.intro _ (And.intro (by walk_at "hp") rfl))) | decide | (exact Or.inl (by walk_at "cl")) | (exact Or.inr (by walk_at "cl")) | omega)
local macro_rules | `(tactic| walk_at "s1") => `(tactic| first | refine And.intro (by walk_at "cl") ?_ | apply Exists.intro)
local macro_rules | `(tactic| walk_at "sx") => `(tactic| repeat walk_at "s1")
local macro_rules | `(tactic| walk_at "si") => `(tactic| first | refine iteY rfl ?_ | refine iteN rfl ?_)
local macro_rules | `(tactic| walk_at "sy") => `(tactic| repeat first | walk_at "s1" | walk_at "si")
/-! ### == and != of lists whose items are equal or identical -/
def EqW (K : PySem.W.Frag) (H : Hp) : Nat → V → V → Prop
  | 0 => fun _ _ => False
  | n + 1 => fun x y => (x = y ∧ flatB x = true) ∨ (∃ a, x = .ref a ∧ y = .ref a) ∨ (∃ a b xs ys, x = .ref a ∧ y = .ref b ∧ SqL K H a xs ∧ SqL K H b ys ∧ Paired (EqW K H n) xs ys) ∨
    (∃ a b xs ys, x = .ref a ∧ y = .ref b ∧ SqT K H a xs ∧ SqT K H b ys ∧ Paired (EqW K H n) xs ys)
theorem paired_at {A : Around} {s : Shared} {F : V → V → Prop} (ih : ∀ x y v u, F x y → RelV x v → RelV y u → SeqAt.EqAt A s v u true) {xs ys : List V} (hp : Paired F xs ys) :
    ∀ {us ws : List Value}, L2.Vals xs us → L2.Vals ys ws → ∀ j (h1 : j < us.length) (h2 : j < ws.length), SeqAt.EqAt A s us[j] ws[j] true := by
  induction hp with
  | nil =>
    intro us ws r1 _ j h1
    cases r1
    exact absurd h1 (Nat.not_lt_zero j)
  | cons f _ rest =>
    intro us ws r1 r2 j h1 h2
    cases r1 with
    | cons p1 q1 =>
      cases r2 with
      | cons p2 q2 =>
        match j with
        | 0 => exact ih _ _ _ _ f p1 p2
        | j + 1 => exact rest q1 q2 j (Nat.lt_of_succ_lt_succ h1) (Nat.lt_of_succ_lt_succ h2)
theorem all_true (n : Nat) : ((List.range n).all fun _ => true) = true := List.all_eq_true.mpr fun _ _ => rfl
section
variable {X : Cx} {pins : List (Addr × Obj)} {σ : L2.St} {H : Hp} {s : Shared}
theorem eqW_at (J : Inv X pins σ H s) : ∀ (n : Nat) (A : Around), A.units + n < cLine → ∀ (x y : V) (v u : Value), EqW X.K H n x y → RelV x v → RelV y u → SeqAt.EqAt A s v u true
  | 0, _, _, _, _, _, _, h, _, _ => h.elim
  | n + 1, A, hu, x, y, v, u, h, rx, ry => by
    rcases h with ⟨rfl, f⟩ | ⟨a, rfl, rfl⟩ | ⟨a, b, xs, ys, rfl, rfl, ha, hb, hp⟩ | ⟨a, b, xs, ys, rfl, rfl, ha, hb, hp⟩
    · exact eqAt_same rx ry f
    · cases rx
      cases ry
      exact SeqAt.EqAt.same _
    · cases rx
      cases ry
      by_cases e : a = b
      · subst e
        exact SeqAt.EqAt.same _
      obtain ⟨us, r1, p1, _⟩ := J.list ha
      obtain ⟨ws, r2, p2, _⟩ := J.list hb
      have hsz : us.toArray.size = ws.toArray.size := by rw [List.size_toArray, List.size_toArray, ← r1.length, ← r2.length]; exact Paired.length hp
      have z := SeqAt.RcAt.lists (A := A) (e := fun _ => true) p1.isList p2.isList hsz (by omega) fun j h1 h2 => by
        have k := paired_at (eqW_at J n A.in1 (by show A.units + 1 + n < cLine; omega)) hp r1 r2 j (by simpa using h1) (by simpa using h2)
        simpa using k
      rw [all_true] at z
      exact SeqAt.EqAt.of_refs e z
    · cases rx
      cases ry
      by_cases e : a = b
      · subst e
        exact SeqAt.EqAt.same _
      obtain ⟨us, r1, p1, _⟩ := J.tuple ha
      obtain ⟨ws, r2, p2, _⟩ := J.tuple hb
      have hsz : us.toArray.size = ws.toArray.size := by rw [List.size_toArray, List.size_toArray, ← r1.length, ← r2.length]; exact Paired.length hp
      have z := SeqAt.RcAt.tuples (A := A) (e := fun _ => true) p1 p2 (by omega) fun j h1 h2 => by
        have k := paired_at (eqW_at J n A.in1 (by show A.units + 1 + n < cLine; omega)) hp r1 r2 j (by simpa using h1) (by simpa using h2)
        simpa using k
      rw [all_true, hsz] at z
      simp only [beq_self_eq_true, Bool.and_self] at z
      exact SeqAt.EqAt.of_refs e z
/-- a == b, a != b: two lists of equal items -/
def fEqL (K : PySem.W.Frag) (r : Bool) : R2 := fun x y H Q => match x, y with
  | .ref a, .ref b => ∃ xs ys, SqL K H a xs ∧ SqL K H b ys ∧ Paired (EqW K H 20) xs ys ∧ Q (.bl r) H
  | _, _ => False
theorem f_eqL (hu : X.A.units + 64 < cLine) : OpR X (compareOp .Eq) (fEqL X.K true) := by
  intro pins s σ H x y v u Q J rx ry h
  unfold fEqL at h
  split at h
  · obtain ⟨xs, ys, ha, hb, hp, q⟩ := h
    cases rx
    cases ry
    obtain ⟨us, r1, p1, _⟩ := J.list ha
    obtain ⟨ws, r2, p2, _⟩ := J.list hb
    have hsz : us.toArray.size = ws.toArray.size := by rw [List.size_toArray, List.size_toArray, ← r1.length, ← r2.length]; exact Paired.length hp
    refine SeqAt.eq_listAt (e := fun _ => true) p1.isList p2.isList hsz (by omega) (fun j h1 h2 => ?_) ?_
    · have k := paired_at (eqW_at J 20 X.A.in1 (by show X.A.units + 1 + 20 < cLine; omega)) hp r1 r2 j (by simpa using h1) (by simpa using h2)
      simpa using k
    · rw [all_true]
      exact ⟨.bl true, H, J, rfl, q⟩
  · exact h.elim
theorem f_neL (hu : X.A.units + 64 < cLine) : OpR X (compareOp .NotEq) (fEqL X.K false) := by
  intro pins s σ H x y v u Q J rx ry h
  unfold fEqL at h
  split at h
  · obtain ⟨xs, ys, ha, hb, hp, q⟩ := h
    cases rx
    cases ry
    obtain ⟨us, r1, p1, _⟩ := J.list ha
    obtain ⟨ws, r2, p2, _⟩ := J.list hb
    have hsz : us.toArray.size = ws.toArray.size := by rw [List.size_toArray, List.size_toArray, ← r1.length, ← r2.length]; exact Paired.length hp
    refine SeqAt.RcNeAt.lists (e := fun _ => true) p1.isList p2.isList hsz (by omega) (fun j h1 h2 => ?_) _ _ _ _ ?_
    · have k := paired_at (eqW_at J 20 X.A.in1 (by show X.A.units + 1 + 20 < cLine; omega)) hp r1 r2 j (by simpa using h1) (by simpa using h2)
      simpa using k
    · rw [all_true]
      exact ⟨.bl false, H, J, rfl, q⟩
  · exact h.elim
end
/-- the same items -/
theorem EqW.same {K : PySem.W.Frag} {H : Hp} {n : Nat} : ∀ {xs : List V}, (∀ x ∈ xs, flatB x = true ∨ ∃ a, x = .ref a) → Paired (EqW K H (n + 1)) xs xs
  | [], _ => .nil
  | x :: xs, h => .cons ((h x (List.mem_cons_self ..)).elim (fun f => .inl ⟨rfl, f⟩) fun ⟨a, e⟩ => .inr (.inl ⟨a, e, e⟩)) (EqW.same fun y hy => h y (List.mem_cons_of_mem _ hy))
/-! ### a lambda handed to a def -/
section
variable {P : Program} {w : World} {K : PySem.W.Frag} {mg : Str → Option Value} {base : Heap}
theorem calleeC_of {x : Str} {st : Stmt} {N ps : List Str} {k : Nat} {sp : Sp} {c : Addr} (F : FunC K mg x st c) (S : FnScope N ps (defScope st))
    (hb : ∀ (kV doc pm : Value) (an : Option Addr) (cdv ct : Value) (us : List Value), us.length = ps.length → bindArgs (PySem.W.fnOf x x (defArgs st) (defBody st) (defScope st) .none kV doc pm an cdv ct) ⟨us, []⟩ = pure (ps.zip us))
    (len : ∀ vs H Q E, sp vs H Q E → vs.length = ps.length)
    (hbody : ∀ (f : Addr) (A : Around) (outer : List Env) (s : Shared) (H : Hp) (vs : List V) (Q : VK) (E : XK), Room k (cxOf (L2.CX P w) P w K mg base N x (defScope st) f (.ref c) A outer s H E).A →
      Takes (cxOf (L2.CX P w) P w K mg base N x (defScope st) f (.ref c) A outer s H E) (fun cls d _ H => E cls d H) →
      PassesOwn (model P w) (cxOf (L2.CX P w) P w K mg base N x (defScope st) f (.ref c) A outer s H E).A (cxOf (L2.CX P w) P w K mg base N x (defScope st) f (.ref c) A outer s H E).env (cxOf (L2.CX P w) P w K mg base N x (defScope st) f (.ref c) A outer s H E).xe → sp vs H Q E →
      ∃ t, PSs (cxOf (L2.CX P w) P w K mg base N x (defScope st) f (.ref c) A outer s H E) (defBody st) t ∧ t { nx := fun _ H' => Q .non H', rt := Q } (start N vs) H) :
    Callee P w K mg base (k + 1) x ps sp := by
  obtain ⟨f, oc, od, kV, doc, pm, an, ct, osl, lk, hcd, kp, hm⟩ := F.ex
  have F' : Fun K x x st f (PySem.W.fnOf x x (defArgs st) (defBody st) (defScope st) .none kV doc pm an (.ref c) ct) := fun_mk lk hcd kp
  exact ⟨f, _, fn_of lk hcd S len fun A outer s H vs Q E hr h => hbody f A outer s H vs Q E hr (takes_of rfl rfl rfl rfl) (passes_of rfl) h, hm, kp, F'.binds hb⟩
end

end Fg
set_option Elab.async false
set_option linter.all false
set_option maxRecDepth 100000
set_option maxHeartbeats 4000000
namespace Fg
open PySem PySem.Spec PyProof.Rows L2
local macro_rules | `(tactic| walk_at "hp") => `(tactic| first | assumption | (refine Same.get (by assumption) ?_; walk_at "hp"))
local macro_rules | `(tactic| walk_at "sq") => `(tactic| first | assumption | (exact Or.inr (by assumption)) | (exact Or.inl (by assumption)) | (exact Or.inl (SqL.of (by walk_at "hp"))) | (exact Or.inr (SqT.of (by walk_at "hp"))) | (exact SqL.of (by walk_at "hp")) | (exact SqT.of (by walk_at "hp")))
local macro_rules | `(tactic| walk_at "cl") => `(tactic| first | ((first | show (_ : Int) < _ | show (_ : Int) ≤ _); first | omega | decide) | ((first | show (_ : Nat) < _ | show (_ : Nat) ≤ _); first | with_reducible assumption | (refine sz_le ?_; first | decide | omega | (simp <;> omega)) | (refine sz_lt ?_; first | decide | omega | (simp <;> omega)) | omega | decide | ((with_reducible show List.length _ < _); exact Nat.le_of_ble_eq_true rfl)) | rfl | walk_at "hp" | walk_at "sq" | (refine And.intro (by walk_at "cl") (by walk_at "cl")) | (exact Exists.intro _ (by walk_at "hp")) | (exact Exists.intro _ (Exists.intro _ (by walk_at "hp"))) | (exact Exists.intro _ (Exists.intro _ (And.intro (by walk_at "hp") rfl))) | decide | (exact Or.inl (by walk_at "cl")) | (exact Or.inr (by walk_at "cl")) | omega)
local macro_rules | `(tactic| walk_at "s1") => `(tactic| first | refine And.intro (by walk_at "cl") ?_ | apply Exists.intro)
local macro_rules | `(tactic| walk_at "sx") => `(tactic| repeat walk_at "s1")
local macro_rules | `(tactic| walk_at "si") => `(tactic| first | refine iteY rfl ?_ | refine iteN rfl ?_)
local macro_rules | `(tactic| walk_at "sy") => `(tactic| repeat first | walk_at "s1" | walk_at "si")
/-! ### isinstance of a caught error that has fields -/
end Fg
namespace PySem.W
open PySem PySem.Spec PySem.Calls PyProof.Rows
section
variable {P : Program} {w : World} {B : Around} {Ex : Value → Shared → Prop} {s : Shared} {K : Frag} {e D : Addr} {oe : Obj} {dct : Obj}
theorem fg_found (hdct : hasDictIn K D = true) (hc : findIn K (.ref D) "__class__" = some (some (.builtin "object.__class__"))) (hg : specialIn K (.builtin "object.__class__") "__get__" = some (some (.builtin "getset_descriptor.__get__")))
    (ht : takesIn K (.builtin "object.__class__") = some true) : findObj K D (some dct) "__class__" = some (.bind (.builtin "getset_descriptor.__get__") (.builtin "object.__class__")) := by
  obtain ⟨cd, hcd, _⟩ := any_some hdct
  unfold findObj
  rw [hcd, Option.bind_some, hc, Option.bind_some]; simp [hg, ht]
theorem fg_class {Q : Option Value → Shared → Prop} (C : L2.ExcC K D) (Kh : K.In s.heap) (J : InstAt s.heap e oe D (some dct)) (q : Q (some (.ref D)) { s with toks := s.toks + 1 }) : wpAny (model P w) B (getAttr? (.ref e) "__class__") Q Ex s := by
  have found := fg_found (dct := dct) C.hd C.ha C.hn C.ht
  obtain ⟨hp, gg, dd, tk, os⟩ := s
  have T0 := J.type (M := model P w); have T1 := looks_findIn (M := model P w) Kh C.hg; have T2 := looks_findIn (M := model P w) Kh C.hk; have T3 := looks_find (M := model P w) Kh J found
  have isB : Looks (model P w) hp (isInstance (.ref e) (.type "BaseException")) true := T0.andThen (looks_subIn Kh C.hs)
  have ne1 : (Value.builtin "BaseException.__getattribute__" == Value.builtin "object.__getattribute__") = false := by decide +kernel
  have ne2 : (onTheHeap (Value.ref D) && Value.builtin "BaseException.__getattribute__" == Value.builtin "object.__getattribute__") = false := by (rw [ne1]; rfl)
  have ne0 : (false && onTheHeap (Value.builtin "BaseException.__getattribute__")) = false := by first | rfl
  (unfold getAttr? getAttrBy? getAttrBy); refine wpAny_bind (wpAny_mkText (wpAny_bind (wpAny_attempt (wpAny_holding (wpAny_bind (T0.at (wpAny_bind (T1.at ?_))))))))
  show wpAny _ _ (if (onTheHeap (Value.ref D) && Value.builtin "BaseException.__getattribute__" == Value.builtin "object.__getattribute__") = true then _ else _) _ _ _; rw [ne2, if_neg Bool.false_ne_true]
  (unfold getAttrByItsOwn hookBefore); refine wpAny_bind ?_; rw [if_pos (show onTheHeap (Value.ref D) = true from rfl)]; refine T2.at (wpAny_bind (wpAny_attempt (wpAny_holding ?_)))
  (unfold callGetattribute); rw [ne0, if_neg Bool.false_ne_true]; (unfold boundAndCalled); rw [PySem.F.excAttr_ValueError.ga.bind (.ref e)]; refine wpAny_bind (wpAny_pure ?_)
  show wpAny _ _ (call (.builtin "BaseException.__getattribute__") [.ref e, .str "__class__" tk]) _ _ _; refine wpAny_call (codeAny_call_builtin PySem.F.excAttr_ValueError.ga.plain PySem.F.entry_bexc_ga ?_)
  refine @check_slot (model P w) _ _ ⟨hp, gg, dd, tk + 1, os⟩ "BaseException.__getattribute__" "BaseException" "__getattribute__" (.ref e) [.str "__class__" tk] [] _ (by decide +kernel) (by decide +kernel) isB (PySem.F.args_bexc_ga (.ref e) (.str "__class__" tk)) ?_
  (unfold Builtin.«object.__getattribute__»); refine wpAny_bind (wpAny_of_eq (a := ((Value.ref e : Value), [Value.str "__class__" tk])) (by first | rfl | (simp only [slotArgs]; rfl)) ?_)
  refine wpAny_bind (wpAny_pure (wpAny_bind (T0.at (wpAny_bind (T3.at ?_))))); show wpAny _ _ (holding [Value.builtin "object.__class__"] (call (.builtin "getset_descriptor.__get__") [.builtin "object.__class__", .ref e, .ref D]) >>= ret) _ _ _
  refine wpAny_bind (wpAny_holding (wpAny_call (class_get (s := ⟨hp, gg, dd, tk + 1, os⟩) (ox := oe) (od := some dct) Kh J C.hm ?_))); refine wpAny_pure ?_
  show wpAny _ _ (handedOut (.ref D)) _ _ _; rw [handedOut_of (v := .ref D) rfl]
  first | exact wpAny_pure (wpAny_pure q) | exact wpAny_pure q | exact wpAny_pure (wpAny_bind (wpAny_pure (wpAny_pure q)))
theorem fg_kit (C : L2.ExcC K D) : KitX K (.ref e) (.ref D) (fun h => ∃ dct, InstAt h e oe D (some dct)) := by
  obtain ⟨cd, hcd, _⟩ := any_some C.hd
  refine ⟨fun _ _ _ ⟨_, J⟩ => J.type, fun _ _ Kh _ => ?_, fun h tp _ _ _ _ Kh at_ => ?_, fun Kh ⟨_, J⟩ k => fg_class C Kh J k⟩
  · unfold clsIn at hcd
    split at hcd
    · rename_i looked
      intro _ _ _ _ keep q
      (unfold isType loadHead); exact wpAny_bind (wpAny_loadPart (keep _ _ (Kh _ _ looked)) (wpAny_pure q))
    · cases hcd
  · refine Bool.eq_false_iff.mpr fun same => ?_
    cases (Value.ref.inj (beq_iff_eq.mp same) : D = tp)
    unfold clsIn at hcd
    split at hcd
    · rename_i looked
      cases (Kh _ _ looked).symm.trans at_
    · cases hcd
end
end PySem.W
namespace Fg
open PySem PySem.Spec PyProof.Rows L2
/-- isinstance(e, c), e the error that the suite holds -/
def fIsE (K : PySem.W.Frag) (D a : Addr) : List V → Hp → VK → Prop := fun xs H Q => match xs with
  | [.ref b, .ref c] => b = a ∧ ∃ r, PySem.W.kitOne K (.ref D) (.ref c) = some r ∧ Q (.bl r) H
  | [.ref b, .ty c] => b = a ∧ ∃ r, PySem.W.kitOne K (.ref D) (.type c) = some r ∧ Q (.bl r) H
  | _ => False
theorem f_isE {X : Cx} {a D dx : Addr} {oe : Obj} {pn : List (Addr × Obj)} (C : ExcC X.K D) (hz : Zc (.ref D) (some dx) oe) (hf : ∃ vs, oe.data = .fields vs) {fs : List (Str × V)} :
    CallR (X.suite a ((a, oe) :: pn)) (.builtin "isinstance") (fun xs H Q => H dx = some (.xd fs) ∧ fIsE X.K D a xs H Q) := by
  intro pins s σ H xs us Q J r ⟨hd, q⟩
  have ans : ∀ (cv : Value) (k : Bool), PySem.W.kitOne X.K (.ref D) cv = some k → Q (.bl k) H → wpAny (model X.prog X.w) (X.suite a ((a, oe) :: pn)).A (call (.builtin "isinstance") [.ref a, cv]) (EP (X.suite a ((a, oe) :: pn)) pins σ Q) (X.suite a ((a, oe) :: pn)).xe s := fun cv k ek qk => by
    obtain ⟨hget, _⟩ := J.pin (a, oe) (List.mem_append.mpr (.inl List.mem_cons_self))
    obtain ⟨vs, hv⟩ := hf
    obtain ⟨mA, hns, _⟩ := (show ObjOk X.prog X.w H s.heap dx (.xd fs) from J.hok dx _ hd)
    obtain ⟨od, ho, _⟩ := lookIn_ns hns
    have I2 : PySem.W.InstAt s.heap a oe D (some od) := ⟨hget, hz.1, by unfold PySem.W.notCls; rw [hv] <;> rfl, by rw [hz.2]; exact ho⟩
    exact PySem.W.kia_one (PySem.W.fg_kit C) J.kIn ⟨od, I2⟩ ek (fun z => nomatch z) fun tk => ⟨.bl k, H, J.kept (t' := tk) fun _ _ z => z, rfl, qk⟩
  unfold fIsE at q
  split at q
  · obtain ⟨rfl, k, ek, qk⟩ := q
    cases r with
    | cons r1 rr =>
      cases rr with
      | cons r2 rr =>
        cases rr
        cases r1
        cases r2
        exact ans _ k ek qk
  · obtain ⟨rfl, k, ek, qk⟩ := q
    cases r with
    | cons r1 rr =>
      cases rr with
      | cons r2 rr =>
        cases rr
        cases r1
        cases r2
        exact ans _ k ek qk
  · exact q.elim
/-- x(lambda: body): the def x calls what it got; TT: what it makes of the lambda's reading -/
theorem fe_lam {X : Cx} {Tb : List (Addr × Str)} {TT : (XK → Hp → VK → Prop) → Hp → VK → Prop} {x a : Str} {st : Stmt} {c Pt : Addr} {k j : Nat} {Ng : List Str} {params : Arguments} {body : Expr} {scope : Scope} {t : XK → TE} {p lpos pos : Pos}
    (F : FunAt X.K X.mg x st) (Sg : FnScope Ng [a] (defScope st)) (hNg : Ng[0]? = some a)
    (hb : ∀ (kV doc pm : Value) (an : Option Addr) (cdv ct : Value) (us : List Value), us.length = ([a] : List Str).length → bindArgs (PySem.W.fnOf x x (defArgs st) (defBody st) (defScope st) .none kV doc pm an cdv ct) ⟨us, []⟩ = pure (([a] : List Str).zip us))
    (hG : ∀ g cdv, LamX.GivesTo X Ng x (defScope st) g cdv (defBody st) a (X.env.qual ++ "<lambda>") TT) (TB : LamX.TabB X.base X.mg c Pt) (hcode : X.env.code = .ref c) (hmT : Tb = [(Pt, X.env.qual ++ "<lambda>")])
    (hr : Room j X.A) (hj : k + 2 ≤ j) (hg : Gl X x) (L : LamX.LamS X.env.scope scope) (hva : Vis (defScope st) a) (hdef : defaultsOf params X.env = ([], []))
    (hbind : ∀ (q : Str) (cl : List (Str × Addr)) (pm cv ctv : Value), bindArgs (PySem.W.kla_fn "<lambda>" q params body scope cl pm cv ctv) ⟨[], []⟩ = pure [])
    (hbody : ∀ (A : Around) (outer : List Env) (s : Shared) (H : Hp) (E : XK) (f c' : Addr), Room k (LamX.lamCx X A outer s H E scope f c').A → Takes (LamX.lamCx X A outer s H E scope f c') (fun cls d _ H => E cls d H) → PE (LamX.lamCx X A outer s H E scope f c') body (t E))
    (hdb : (x == ("__debug__" : Str)) = false := by decide) (hd : (a == ("__debug__" : Str)) = false := by decide) (hcd : (a == ("__classdict__" : Str)) = false := by decide) :
    PE X (.Call (.Name x p) [.Lambda params body scope lpos] [] pos) (LamX.tLam Tb TT t) := by
  obtain ⟨f, fd, Fu, hm⟩ := F.ex
  have hbd := Fu.binds hb
  obtain ⟨oc, od, kV, doc, pm, an, cdv, ct, osl, rfl, lk, hcode2⟩ := Fu.ex
  exact LamX.pe_lamcall (k := k) hg hm Fu.kp lk hcode2 hbd Sg hNg hva (hG f cdv) TB hcode (by rw [hmT]; exact List.mem_singleton.mpr rfl) (fun q hq _ => by rw [hmT] at hq; rw [List.mem_singleton.mp hq]) (hr.mono hj) L hdef hbind
    (fun A outer s H E f' c' r => hbody A outer s H E f' c' r (takes_of rfl rfl rfl rfl)) hdb hd hcd

end Fg
set_option Elab.async false
set_option linter.all false
set_option maxRecDepth 100000
set_option maxHeartbeats 4000000
namespace Fg
open PySem PySem.Spec PyProof.Rows L2
local macro_rules | `(tactic| walk_at "hp") => `(tactic| first | assumption | (refine Same.get (by assumption) ?_; walk_at "hp"))
local macro_rules | `(tactic| walk_at "sq") => `(tactic| first | assumption | (exact Or.inr (by assumption)) | (exact Or.inl (by assumption)) | (exact Or.inl (SqL.of (by walk_at "hp"))) | (exact Or.inr (SqT.of (by walk_at "hp"))) | (exact SqL.of (by walk_at "hp")) | (exact SqT.of (by walk_at "hp")))
local macro_rules | `(tactic| walk_at "cl") => `(tactic| first | ((first | show (_ : Int) < _ | show (_ : Int) ≤ _); first | omega | decide) | ((first | show (_ : Nat) < _ | show (_ : Nat) ≤ _); first | with_reducible assumption | (refine sz_le ?_; first | decide | omega | (simp <;> omega)) | (refine sz_lt ?_; first | decide | omega | (simp <;> omega)) | omega | decide | ((with_reducible show List.length _ < _); exact Nat.le_of_ble_eq_true rfl)) | rfl | walk_at "hp" | walk_at "sq" | (refine And.intro (by walk_at "cl") (by walk_at "cl")) | (exact Exists.intro _ (by walk_at "hp")) | (exact Exists.intro _ (Exists.intro _ (by walk_at "hp"))) | (exact Exists.intro _ (Exists.intro _ (And.intro (by walk_at "hp") rfl))) | decide | (exact Or.inl (by walk_at "cl")) | (exact Or.inr (by walk_at "cl")) | omega)
local macro_rules | `(tactic| walk_at "s1") => `(tactic| first | refine And.intro (by walk_at "cl") ?_ | apply Exists.intro)
local macro_rules | `(tactic| walk_at "sx") => `(tactic| repeat walk_at "s1")
local macro_rules | `(tactic| walk_at "si") => `(tactic| first | refine iteY rfl ?_ | refine iteN rfl ?_)
local macro_rules | `(tactic| walk_at "sy") => `(tactic| repeat first | walk_at "s1" | walk_at "si")
section
variable {P : Program} {w : World} {K : PySem.W.Frag} {mg : Str → Option Value} {base : Heap} {A : Ad}
/-- the pot: two integers -/
def Pot (p : Addr) (H : Hp) : Prop := ∃ i j, H p = some (.lst [.int i, .int j])
theorem Pot.same {p : Addr} {H H' : Hp} (s : Same H H') (h : Pot p H) : Pot p H' := h.elim fun i ⟨j, e⟩ => ⟨i, j, s _ _ e⟩
/-- what stands beside a pot stays -/
theorem But.pot {p : Addr} {H H' : Hp} {b : Addr} {o : HO} (s : But p H H') (hp : Pot p H) (e : H b = some o) (n : ∀ i j, o ≠ .lst [.int i, .int j]) : H' b = some o := by
  obtain ⟨i, j, e2⟩ := hp
  exact But.get s e e2 (n i j)
theorem But.none_of {p : Addr} {H H' : Hp} {d : Addr} (s : But p H H') (q : Pot p H') (q0 : Pot p H) (n : H' d = none) : H d = none := by
  cases h : H d with
  | none => rfl
  | some o =>
    by_cases e : d = p
    · obtain ⟨i, j, z⟩ := q
      rw [e, z] at n
      cases n
    · rw [s d o e h] at n
      cases n
def Small (i : Int) : Prop := 0 < i ∧ i < 10 ^ 40
def sp_l_spoon : Sp := s2 fun a b H Q _ => ∃ p m, a = .ref p ∧ b = .int m ∧ Pot p H ∧ Small m ∧ ∀ r H', 0 ≤ r → r < m → But p H H' → Pot p H' → Q (.int r) H'
theorem ok_l_spoon (T : Txt w K mg A) : Callee P w K mg base 1 "_law_spoon" ["_law_pot_here", "_law_wide"] sp_l_spoon := by
  refine callee_of T.F_l_spoon sc_l_spoon (fun _ _ _ _ _ _ us hl => match us, hl with | [_, _], _ => rfl) (fun vs H Q E h => ?_) (fun f cdv Ar outer s H vs Q E hr tk po h => ?_)
  · obtain ⟨_, _, rfl, _⟩ := s2_len h
    rfl
  · obtain ⟨a, b, rfl, p, m, rfl, rfl, ⟨i, j, h0⟩, ⟨h1, h2⟩, q⟩ := s2_len h
    refine ⟨_, (pss_cons (ps_if (ft_cmp f_gt (pe_ix f_ix (fv 0) pe_int (fun _ _ => rfl)) pe_int (nomark _)) (pss_cons (ps_set (i := 2) sc_l_spoon.nd rfl (Or.inl rfl) (pe_op f_mod (pe_callTy f_int (by rfl) T.b_int (by decide +kernel) (pa_cons (pe_ix f_ix (fv 0) pe_int (fun _ _ => rfl)) pa_nil)) (fv 1)))
      (pss_cons (ps_asg (pe_op f_fdiv (pe_callTy f_int (by rfl) T.b_int (by decide +kernel) (pa_cons (pe_ix f_ix (fv 0) pe_int (fun _ _ => rfl)) pa_nil)) (fv 1)) (pg_sub (fv 0) pe_int g_setL))
      (pss_one (ps_ret (fv 2))))) pss_nil)
      (pss_cons (ps_asg (pe_op f_mod (pe_callTy f_int (by rfl) T.b_int (by decide +kernel) (pa_cons (pe_op f_add (pe_op f_add (pe_op f_mul (pe_ix f_ix (fv 0) pe_int (fun _ _ => rfl)) pe_int) (pe_op f_mul (pe_op f_fdiv (pe_ix f_ix (fv 0) pe_int (fun _ _ => rfl)) pe_int) pe_int)) pe_int) pa_nil)) pe_int) (pg_sub (fv 0) pe_int g_setL))
      (pss_one (ps_ret (pe_op f_mod (pe_callTy f_int (by rfl) T.b_int (by decide +kernel) (pa_cons (pe_op f_fdiv (pe_ix f_ix (fv 0) pe_int (fun _ _ => rfl)) pe_int) pa_nil)) (fv 1)))))), ?_⟩
    have d1 : CDv i m := ⟨h1, by omega⟩
    clear h2
    walk_at "sx"
    refine iteD (fun c => ?_) (fun c => ?_)
    · walk_at "sx"
      intro H1 b1 e1
      walk_at "sx"
      refine q _ H1 (Int.emod_nonneg _ (by omega)) (Int.emod_lt_of_pos _ h1) b1 ⟨_, _, e1⟩
    · walk_at "sx"
      intro H1 b1 e1
      walk_at "sx"
      refine q _ H1 (Int.emod_nonneg _ (by omega)) (Int.emod_lt_of_pos _ h1) b1 ⟨_, _, e1⟩
/-- one of some things -/
def sp_l_of : Sp := s2 fun a b H Q _ => ∃ p t xs, a = .ref p ∧ b = .ref t ∧ Pot p H ∧ H t = some (.lst xs) ∧ (notPot xs = true ∨ t ≠ p) ∧ 0 < xs.length ∧ xs.length < 1000 ∧ ∀ v H', v ∈ xs → But p H H' → Pot p H' → Q v H'
theorem ok_l_of (T : Txt w K mg A) : Callee P w K mg base 2 "_law_of" ["_law_pot_here", "_law_things"] sp_l_of := by
  refine callee_of T.F_l_of sc_l_of (fun _ _ _ _ _ _ us hl => match us, hl with | [_, _], _ => rfl) (fun vs H Q E h => ?_) (fun f cdv Ar outer s H vs Q E hr tk po h => ?_)
  · obtain ⟨_, _, rfl, _⟩ := s2_len h
    rfl
  · obtain ⟨a, b, rfl, p, t, xs, rfl, rfl, h0, h1, h2, h3, h4, q⟩ := s2_len h
    refine ⟨_, (pss_one (ps_ret (pe_ix f_ix (fv 1) (fc_call (ok_l_spoon T) hr (by decide) (by rfl) tk (pa_cons (fv 0) (pa_cons (pe_callB f_len (by rfl) T.b_len (by decide +kernel) (pa_cons (fv 1) pa_nil)) pa_nil))) (fun _ _ => rfl)))), ?_⟩
    have sm : Small (xs.length : Int) := ⟨by omega, by omega⟩
    walk_at "sx"
    intro r H1 r0 r1 b1 p1
    have h11 : H1 t = some (.lst xs) := by
      rcases h2 with h2 | h2
      · exact But.pot b1 h0 h1 fun i j e => by
          cases e
          cases h2
      · exact b1 _ _ h2 h1
    obtain ⟨n, rfl⟩ : ∃ n : Nat, r = n := ⟨r.toNat, by omega⟩
    have nl : n < xs.length := by omega
    have at1 : atI xs ((n : Nat) : Int) = some xs[n] := atI_nat (List.getElem?_eq_getElem nl)
    walk_at "sx"
    exact q _ H1 (List.getElem_mem nl) b1 p1
def sp_l_pot (K : PySem.W.Frag) : Sp := s2 fun a b H Q _ => ∃ (s : Addr) (ns : List Int) (k : Nat), a = .ref s ∧ SqL K H s (ns.map V.int) ∧ b = .int (k : Nat) ∧ k ≤ 5 ∧ ∀ p H', H p = none → Same H H' → Pot p H' → Q (.ref p) H'
theorem ok_l_pot (T : Txt w K mg A) : Callee P w K mg base 1 "_law_pot" ["_law_script", "_law_k"] (sp_l_pot K) := by
  refine callee_of T.F_l_pot sc_l_pot (fun _ _ _ _ _ _ us hl => match us, hl with | [_, _], _ => rfl) (fun vs H Q E h => ?_) (fun f cdv Ar outer s H vs Q E hr tk po h => ?_)
  · obtain ⟨_, _, rfl, _⟩ := s2_len h
    rfl
  · obtain ⟨a, b, rfl, s, ns, k, rfl, hs, rfl, hk, q⟩ := s2_len h
    refine ⟨_, (pss_cons (ps_set (i := 2) sc_l_pot.nd rfl (Or.inl rfl) (pe_op f_add pe_int (pe_op f_mul pe_int (fv 1))))
      (pss_cons (fs_for po rfl (fi_L (pe_slice f_slL (fv 0) po_none (po_some pe_int))) (pg_name (i := 3) sc_l_pot.nd rfl (Or.inl rfl)) (pss_one (ps_set (i := 2) sc_l_pot.nd rfl (Or.inl rfl) (pe_op f_mod (pe_callTy f_int (by rfl) T.b_int (by decide +kernel) (pa_cons (pe_op f_add (pe_op f_add (pe_op f_mul (fv 2) pe_int) (pe_op f_mod (pe_callTy f_int (by rfl) T.b_int (by decide +kernel) (pa_cons (fv 3) pa_nil)) pe_int)) pe_int) pa_nil)) pe_int))))
      (pss_cons (ps_set (i := 4) sc_l_pot.nd rfl (Or.inl rfl) (pe_ifExp (ft_cmp f_lt (fv 1) (pe_callB f_len (by rfl) T.b_len (by decide +kernel) (pa_cons (fv 0) pa_nil)) (nomark _)) (pe_callTy f_int (by rfl) T.b_int (by decide +kernel) (pa_cons (pe_ix f_ix (fv 0) (fv 1) (fun _ _ => rfl)) pa_nil)) (pe_op f_mul pe_int (fv 1))))
      (pss_one (ps_ret (fe_lst (pa_cons (pe_ifExp (ft_cmp f_ge (pe_callB f_abs (by rfl) T.b_abs (by decide +kernel) (pa_cons (fv 4) pa_nil)) (pe_op f_pow pe_int pe_int) (nomark _)) (pe_callB f_abs (by rfl) T.b_abs (by decide +kernel) (pa_cons (fv 4) pa_nil)) pe_int) (pa_cons (pe_op f_mod (pe_callTy f_int (by rfl) T.b_int (by decide +kernel) (pa_cons (pe_op f_add (fv 2) (pe_op f_mod (fv 4) pe_int)) pa_nil)) pe_int) pa_nil)))))))), ?_⟩
    walk_at "sx"
    intro a1 H1 n1 s1 h1
    have hs1 : SqL K H1 s (ns.map V.int) := s1.seq hs
    have intsOk : ∀ x ∈ cutV (ns.map V.int) none (some 11), ∃ i, x = V.int i := fun x hx => by
      have z := List.mem_of_mem_drop (List.mem_of_mem_take hx)
      obtain ⟨i, _, e⟩ := List.mem_map.mp z
      exact ⟨i, e.symm⟩
    walk_at "sx"
    refine Loop.by (fun rest σ Hc => ∃ z, ∃ a3, σ = [some (.ref s), some (.int (k : Nat)), some (.int z), a3, none] ∧ Same H1 Hc ∧ ∀ x ∈ rest, ∃ i, x = V.int i) ?_ ?_ _ _ _ ?_
    · rintro x r σ Hc ⟨z, a3, rfl, sc, hr⟩ N hN
      obtain ⟨i, rfl⟩ := hr _ (List.mem_cons_self ..)
      walk_at "sx"
      exact hN _ _ (SqL.of (sc _ _ h1)) ⟨_, _, rfl, sc, fun x hx => hr x (List.mem_cons_of_mem _ hx)⟩
    · rintro σ Hc ⟨z, a3, rfl, sc, _⟩
      have hsc : SqL K Hc s (ns.map V.int) := sc.seq hs1
      have fin : ∀ (e : Int) p H', Hc p = none → Same Hc H' → H' p = some (.lst [.int e, .int z]) → True := fun _ _ _ _ _ _ => trivial
      walk_at "sx"
      refine iteD (fun c => ?_) (fun c => ?_)
      · have kl : k < ns.length := by
          have : ((k : Nat) : Int) < ((ns.map V.int).length : Nat) := c
          rw [List.length_map] at this
          omega
        have at1 : atI (ns.map V.int) ((k : Nat) : Int) = some (V.int ns[k]) := atI_nat (by rw [List.getElem?_map, List.getElem?_eq_getElem kl]; rfl)
        walk_at "sx"
        refine iteD (fun d => ?_) (fun d => ?_)
        · walk_at "sx"
          intro p H2 n2 s2 h2
          exact q p H2 (Same.no (s1.trans sc) n2) ((s1.trans sc).trans s2) ⟨_, _, h2⟩
        · walk_at "sx"
          intro p H2 n2 s2 h2
          exact q p H2 (Same.no (s1.trans sc) n2) ((s1.trans sc).trans s2) ⟨_, _, h2⟩
      · walk_at "sx"
        refine iteD (fun d => ?_) (fun d => ?_)
        · walk_at "sx"
          intro p H2 n2 s2 h2
          exact q p H2 (Same.no (s1.trans sc) n2) ((s1.trans sc).trans s2) ⟨_, _, h2⟩
        · walk_at "sx"
          intro p H2 n2 s2 h2
          exact q p H2 (Same.no (s1.trans sc) n2) ((s1.trans sc).trans s2) ⟨_, _, h2⟩
    · exact ⟨_, none, rfl, Same.refl _, intsOk⟩
def sp_l_signs : Sp := s0 fun H Q _ => Q (.str printS) H
theorem ok_l_signs (T : Txt w K mg A) : Callee P w K mg base 1 "_law_signs" [] sp_l_signs := by
  refine callee_of T.F_l_signs sc_l_signs (fun _ _ _ _ _ _ us hl => match us, hl with | [], _ => rfl) (fun vs H Q E h => ?_) (fun f cdv Ar outer s H vs Q E hr tk po h => ?_)
  · obtain ⟨rfl, _⟩ := s0_len h
    rfl
  · obtain ⟨rfl, q⟩ := s0_len h
    refine ⟨_, (pss_one (ps_ret pe_str)), ?_⟩
    exact q
def sp_l_sign : Sp := s1 fun a H Q _ => ∃ p, a = .ref p ∧ Pot p H ∧ ∀ c H', c ∈ printL → But p H H' → Pot p H' → Q (.str (chS c)) H'
theorem ok_l_sign (T : Txt w K mg A) : Callee P w K mg base 3 "_law_sign" ["_law_pot_here"] sp_l_sign := by
  refine callee_of T.F_l_sign sc_l_sign (fun _ _ _ _ _ _ us hl => match us, hl with | [_], _ => rfl) (fun vs H Q E h => ?_) (fun f cdv Ar outer s H vs Q E hr tk po h => ?_)
  · obtain ⟨_, rfl, _⟩ := s1_len h
    rfl
  · obtain ⟨a, rfl, p, rfl, h0, q⟩ := s1_len h
    refine ⟨_, (pss_cons (ps_if (ft_cmp f_eq (fc_call (ok_l_spoon T) hr (by decide) (by rfl) tk (pa_cons (fv 0) (pa_cons pe_int pa_nil))) pe_int (nomark _)) (pss_one (ps_ret (pe_ix f_ix (fc_call0 (ok_l_signs T) hr (by decide) (by rfl) tk) (fc_call (ok_l_spoon T) hr (by decide) (by rfl) tk (pa_cons (fv 0) (pa_cons pe_int pa_nil))) (fun _ _ => rfl)))) pss_nil)
      (pss_one (ps_ret (fc_call (ok_l_of T) hr (by decide) (by rfl) tk (pa_cons (fv 0) (pa_cons (fe_lst (pa_cons pe_str (pa_cons pe_str (pa_cons pe_str (pa_cons pe_str (pa_cons pe_str (pa_cons pe_str (pa_cons pe_str (pa_cons pe_str (pa_cons pe_str (pa_cons pe_str (pa_cons pe_str (pa_cons pe_str (pa_cons pe_str (pa_cons pe_str pa_nil))))))))))))))) pa_nil)))))), ?_⟩
    have m2 : Small 2 := ⟨by decide, by decide⟩
    have m94 : Small 94 := ⟨by decide, by decide⟩
    walk_at "sx"
    intro r H1 r0 r1 b1 p1
    walk_at "sx"
    refine iteD (fun c => ?_) (fun c => ?_)
    · walk_at "sx"
      intro r2 H2 r20 r21 b2 p2
      obtain ⟨n, rfl⟩ : ∃ n : Nat, r2 = n := ⟨r2.toNat, by omega⟩
      have nl : n < printS.cps.toList.length := by
        have : printS.cps.toList.length = 94 := by decide
        omega
      have at1 : atI printS.cps.toList ((n : Nat) : Int) = some printS.cps.toList[n] := atI_nat (List.getElem?_eq_getElem nl)
      have mem : printS.cps.toList[n] ∈ printL := printS_eq ▸ List.getElem_mem nl
      walk_at "sx"
      exact q _ H2 mem (b1.trans b2) p2
    · walk_at "sx"
      intro t H2 nt s2 h2
      have p2 := Pot.same s2 p1
      walk_at "sx"
      intro v H3 mv b3 p3
      have fin : ∀ c ∈ [32, 48, 49, 45, 43, 44, 46, 57, 97, 42, 47, 53, 38, 126], c ∈ printL := by decide
      have ev : ∃ c, c ∈ printL ∧ v = .str (chS c) := by
        simp only [List.mem_cons, List.not_mem_nil, or_false] at mv
        rcases mv with rfl | rfl | rfl | rfl | rfl | rfl | rfl | rfl | rfl | rfl | rfl | rfl | rfl | rfl
        · exact ⟨32, fin _ (by decide), rfl⟩
        · exact ⟨48, fin _ (by decide), rfl⟩
        · exact ⟨49, fin _ (by decide), rfl⟩
        · exact ⟨45, fin _ (by decide), rfl⟩
        · exact ⟨43, fin _ (by decide), rfl⟩
        · exact ⟨44, fin _ (by decide), rfl⟩
        · exact ⟨46, fin _ (by decide), rfl⟩
        · exact ⟨57, fin _ (by decide), rfl⟩
        · exact ⟨97, fin _ (by decide), rfl⟩
        · exact ⟨42, fin _ (by decide), rfl⟩
        · exact ⟨47, fin _ (by decide), rfl⟩
        · exact ⟨53, fin _ (by decide), rfl⟩
        · exact ⟨38, fin _ (by decide), rfl⟩
        · exact ⟨126, fin _ (by decide), rfl⟩
      obtain ⟨c, hc, rfl⟩ := ev
      exact q c H3 hc ((b1.trans (But.of s2)).trans b3) p3
end

end Fg
set_option Elab.async false
set_option linter.all false
set_option maxRecDepth 100000
set_option maxHeartbeats 4000000
namespace Fg
open PySem PySem.Spec PyProof.Rows L2
local macro_rules | `(tactic| walk_at "hp") => `(tactic| first | assumption | (refine Same.get (by assumption) ?_; walk_at "hp"))
local macro_rules | `(tactic| walk_at "sq") => `(tactic| first | assumption | (exact Or.inr (by assumption)) | (exact Or.inl (by assumption)) | (exact Or.inl (SqL.of (by walk_at "hp"))) | (exact Or.inr (SqT.of (by walk_at "hp"))) | (exact SqL.of (by walk_at "hp")) | (exact SqT.of (by walk_at "hp")))
local macro_rules | `(tactic| walk_at "cl") => `(tactic| first | ((first | show (_ : Int) < _ | show (_ : Int) ≤ _); first | omega | decide) | ((first | show (_ : Nat) < _ | show (_ : Nat) ≤ _); first | with_reducible assumption | (refine sz_le ?_; first | decide | omega | (simp <;> omega)) | (refine sz_lt ?_; first | decide | omega | (simp <;> omega)) | omega | decide | ((with_reducible show List.length _ < _); exact Nat.le_of_ble_eq_true rfl)) | rfl | walk_at "hp" | walk_at "sq" | (refine And.intro (by walk_at "cl") (by walk_at "cl")) | (exact Exists.intro _ (by walk_at "hp")) | (exact Exists.intro _ (Exists.intro _ (by walk_at "hp"))) | (exact Exists.intro _ (Exists.intro _ (And.intro (by walk_at "hp") rfl))) | decide | (exact Or.inl (by walk_at "cl")) | (exact Or.inr (by walk_at "cl")) | omega)
local macro_rules | `(tactic| walk_at "s1") => `(tactic| first | refine And.intro (by walk_at "cl") ?_ | apply Exists.intro)
local macro_rules | `(tactic| walk_at "sx") => `(tactic| repeat walk_at "s1")
local macro_rules | `(tactic| walk_at "si") => `(tactic| first | refine iteY rfl ?_ | refine iteN rfl ?_)
local macro_rules | `(tactic| walk_at "sy") => `(tactic| repeat first | walk_at "s1" | walk_at "si")
theorem meetI {A : Prop} {G : Int → Hp → Prop} (Pc : Int → Hp → Prop) (h1 : (∀ a H, Pc a H → G a H) → A) (h2 : ∀ a H, Pc a H → G a H) : A := h1 h2
section
variable {P : Program} {w : World} {K : PySem.W.Frag} {mg : Str → Option Value} {base : Heap} {A : Ad}
def sp_l_shape : Sp := s1 fun a H Q _ => ∃ p, a = .ref p ∧ Pot p H ∧ ∀ d F H', Fm.Ok F → But p H H' → Pot p H' → H d = none → H' d = some (.dK F.kvs) → Q (.ref d) H'
/-- what a step with the pot leaves, beside a dict at d -/
structure Lft (p d : Addr) (H0 : Hp) (kvs : List (Key × V)) (H : Hp) : Prop where
  pot : Pot p H
  but : But p H0 H
  nd : H0 d = none
  dct : H d = some (.dK kvs)
theorem Lft.go {p d : Addr} {H0 H H' : Hp} {kvs : List (Key × V)} (l : Lft p d H0 kvs H) (b : But p H H') (q : Pot p H') : Lft p d H0 kvs H' := ⟨q, l.but.trans b, l.nd, But.pot b l.pot l.dct fun _ _ e => by cases e⟩
theorem Lft.new {p d : Addr} {H0 H H' : Hp} {kvs : List (Key × V)} (l : Lft p d H0 kvs H) (s : Same H H') : Lft p d H0 kvs H' := ⟨l.pot.same s, l.but.trans (But.of s), l.nd, s _ _ l.dct⟩
theorem Lft.put {p d : Addr} {H0 H H' : Hp} {kvs k2 : List (Key × V)} (l : Lft p d H0 kvs H) (b : But d H H') (e : H' d = some (.dK k2)) : Lft p d H0 k2 H' := by
  obtain ⟨i, j, hp⟩ := l.pot
  have n : p ≠ d := ne_of hp l.dct (fun z => by cases z)
  refine ⟨⟨i, j, b _ _ n hp⟩, fun c o h1 h2 => b c o ?_ (l.but c o h1 h2), l.nd, e⟩
  exact ne_of_none h2 l.nd
theorem ok_l_shape (T : Txt w K mg A) : Callee P w K mg base 4 "_law_shape" ["_law_pot_here"] sp_l_shape := by
  refine callee_of T.F_l_shape sc_l_shape (fun _ _ _ _ _ _ us hl => match us, hl with | [_], _ => rfl) (fun vs H Q E h => ?_) (fun f cdv Ar outer s H vs Q E hr tk po h => ?_)
  · obtain ⟨_, rfl, _⟩ := s1_len h
    rfl
  · obtain ⟨a, rfl, p, rfl, h0, q⟩ := s1_len h
    refine ⟨_, (pss_cons (ps_set (i := 1) sc_l_shape.nd rfl (Or.inl rfl) (fc_call (ok_l_spoon T) hr (by decide) (by rfl) tk (pa_cons (fv 0) (pa_cons pe_int pa_nil))))
      (pss_cons (ps_set (i := 2) sc_l_shape.nd rfl (Or.inl rfl) (fe_disp (fps_cons pe_str (pe_ifExp (ft_cmp f_eq (fv 1) pe_int (nomark _)) (pe_op f_add pe_int (fc_call (ok_l_spoon T) hr (by decide) (by rfl) tk (pa_cons (fv 0) (pa_cons pe_int pa_nil)))) (fc_call (ok_l_of T) hr (by decide) (by rfl) tk (pa_cons (fv 0) (pa_cons (fe_lst (pa_cons pe_int (pa_cons pe_int (pa_cons pe_int (pa_cons pe_int (pa_cons pe_int (pa_cons pe_int pa_nil))))))) pa_nil)))) fps_nil) rfl rfl (by decide) (by decide)))
      (pss_cons (fs_dput (hu_of hr) (fv 2) pe_str (fc_call (ok_l_of T) hr (by decide) (by rfl) tk (pa_cons (fv 0) (pa_cons (fe_lst (pa_cons pe_str (pa_cons pe_str (pa_cons pe_str (pa_cons pe_str pa_nil))))) pa_nil))))
      (pss_cons (fs_dput (hu_of hr) (fv 2) pe_str (pe_ifExp (ft_cmp f_eq (fv 1) pe_int (nomark _)) (pe_op f_add pe_int (fc_call (ok_l_spoon T) hr (by decide) (by rfl) tk (pa_cons (fv 0) (pa_cons pe_int pa_nil)))) (fc_call (ok_l_of T) hr (by decide) (by rfl) tk (pa_cons (fv 0) (pa_cons (fe_lst (pa_cons pe_int (pa_cons pe_int (pa_cons pe_int (pa_cons pe_int pa_nil))))) pa_nil)))))
      (pss_cons (ps_asg (fe_tup (pa_cons (fc_call (ok_l_of T) hr (by decide) (by rfl) tk (pa_cons (fv 0) (pa_cons (fe_lst (pa_cons pe_int (pa_cons pe_int (pa_cons pe_int (pa_cons pe_int (pa_cons pe_int (pa_cons pe_int pa_nil))))))) pa_nil))) (pa_cons (fc_call (ok_l_sign T) hr (by decide) (by rfl) tk (pa_cons (fv 0) pa_nil)) pa_nil))) (pg_tup rfl (pgs_cons (pg_sub (fv 2) pe_str (g_setD (hu_of hr))) (pgs_cons (pg_sub (fv 2) pe_str (g_setD (hu_of hr))) pgs_nil))))
      (pss_cons (fs_dput (hu_of hr) (fv 2) pe_str (pe_ifExp (ft_cmp f_eq (fv 1) pe_int (nomark _)) (fc_call (ok_l_spoon T) hr (by decide) (by rfl) tk (pa_cons (fv 0) (pa_cons pe_int pa_nil))) (fc_call (ok_l_of T) hr (by decide) (by rfl) tk (pa_cons (fv 0) (pa_cons (fe_lst (pa_cons pe_int (pa_cons pe_int (pa_cons pe_int (pa_cons pe_int (pa_cons pe_int (pa_cons pe_int pa_nil))))))) pa_nil)))))
      (pss_cons (ps_asg (fe_tup (pa_cons (fc_call (ok_l_sign T) hr (by decide) (by rfl) tk (pa_cons (fv 0) pa_nil)) (pa_cons (fc_call (ok_l_of T) hr (by decide) (by rfl) tk (pa_cons (fv 0) (pa_cons (fe_lst (pa_cons pe_str (pa_cons pe_str (pa_cons pe_str (pa_cons pe_str pa_nil))))) pa_nil))) pa_nil))) (pg_tup rfl (pgs_cons (pg_sub (fv 2) pe_str (g_setD (hu_of hr))) (pgs_cons (pg_sub (fv 2) pe_str (g_setD (hu_of hr))) pgs_nil))))
      (pss_one (ps_ret (fv 2)))))))))), ?_⟩
    have m3 : Small 3 := ⟨by decide, by decide⟩
    have m15 : Small 15 := ⟨by decide, by decide⟩
    have m12 : Small 12 := ⟨by decide, by decide⟩
    have m13 : Small 13 := ⟨by decide, by decide⟩
    walk_at "sx"
    intro far H1 r0 r1 b1 p1
    walk_at "sx"
    intro d H2 nd s2 h2
    have l2 : Lft p d H [] H2 := ⟨p1.same s2, b1.trans (But.of s2), b1.none_of p1 h0 nd, h2⟩
    apply meetI (fun n H3 => ∃ m : Nat, n = m ∧ 2 ≤ m ∧ m ≤ 16 ∧ Lft p d H [] H3)
    · intro key
      walk_at "sx"
      refine iteD (fun c => ?_) (fun c => ?_)
      rotate_left 1
      · walk_at "sx"
        intro t H3 nt s3 h3
        have p3 := (l2.new s3).pot
        walk_at "sx"
        intro v H4 mv b4 p4
        have l4 := (l2.new s3).go b4 p4
        obtain ⟨m, rfl, m1, m2⟩ : ∃ m : Int, v = .int m ∧ 2 ≤ m ∧ m ≤ 16 := by
          simp only [List.mem_cons, List.not_mem_nil, or_false] at mv
          rcases mv with rfl | rfl | rfl | rfl | rfl | rfl <;> exact ⟨_, rfl, by decide, by decide⟩
        exact key m H4 ⟨m.toNat, by omega, by omega, by omega, l4⟩
      · have p2 := l2.pot
        walk_at "sx"
        intro r H3 r0 r1 b3 p3
        exact key (2 + r) H3 ⟨(2 + r).toNat, by omega, by omega, by omega, l2.go b3 p3⟩
    · rintro n H3 ⟨base, rfl, b2, b16, l3⟩
      have h3 := l3.dct
      walk_at "sx"
      intro H4 b4 h4
      have l4 : Lft p d H [(Sum.inr "base", .int base)] H4 := l3.put b4 h4
      walk_at "sx"
      intro t5 H5 n5 s5 h5
      have l5 := l4.new s5
      have p5 := l5.pot
      walk_at "sx"
      intro v6 H6 m6 b6 p6
      obtain ⟨si, rfl, si2⟩ : ∃ z : Str, v6 = .str z ∧ (z = "minus" ∨ z = "plus" ∨ z = "blank") := by
        simp only [List.mem_cons, List.not_mem_nil, or_false] at m6
        rcases m6 with rfl | rfl | rfl | rfl
        · exact ⟨_, rfl, .inl rfl⟩
        · exact ⟨_, rfl, .inl rfl⟩
        · exact ⟨_, rfl, .inr (.inl rfl)⟩
        · exact ⟨_, rfl, .inr (.inr rfl)⟩
      have l6 := l5.go b6 p6
      have d6 := l6.dct
      walk_at "sx"
      intro H7 b7 h7
      have l7 : Lft p d H [(Sum.inr "base", .int base), (Sum.inr "sign", .str si)] H7 := l6.put b7 h7
      apply meetI (fun n H8 => ∃ m : Nat, n = m ∧ 1 ≤ m ∧ m ≤ 12 ∧ Lft p d H [(Sum.inr "base", .int base), (Sum.inr "sign", .str si)] H8)
      · intro key
        walk_at "sx"
        refine iteD (fun c => ?_) (fun c => ?_)
        rotate_left 1
        · walk_at "sx"
          intro t H8 nt s8 h8
          have p8 := (l7.new s8).pot
          walk_at "sx"
          intro v H9 mv b9 p9
          have l9 := (l7.new s8).go b9 p9
          obtain ⟨m, rfl, m1, m2⟩ : ∃ m : Int, v = .int m ∧ 1 ≤ m ∧ m ≤ 12 := by
            simp only [List.mem_cons, List.not_mem_nil, or_false] at mv
            rcases mv with rfl | rfl | rfl | rfl <;> exact ⟨_, rfl, by decide, by decide⟩
          exact key m H9 ⟨m.toNat, by omega, by omega, by omega, l9⟩
        · have p7 := l7.pot
          walk_at "sx"
          intro r H8 r0 r1 b8 p8
          exact key (1 + r) H8 ⟨(1 + r).toNat, by omega, by omega, by omega, l7.go b8 p8⟩
      · rintro n H8 ⟨least, rfl, lb1, lb2, l8⟩
        have d8 := l8.dct
        walk_at "sx"
        intro H9 b9 h9
        have l9 : Lft p d H [(Sum.inr "base", .int base), (Sum.inr "sign", .str si), (Sum.inr "least", .int least)] H9 := l8.put b9 h9
        walk_at "sx"
        intro t10 H10 n10 s10 h10
        have l10 := l9.new s10
        have p10 := l10.pot
        walk_at "sx"
        intro v11 H11 m11 b11 p11
        obtain ⟨group, rfl, g4⟩ : ∃ m : Nat, v11 = .int (m : Nat) ∧ m ≤ 4 := by
          simp only [List.mem_cons, List.not_mem_nil, or_false] at m11
          rcases m11 with rfl | rfl | rfl | rfl | rfl | rfl
          · exact ⟨0, rfl, by decide⟩
          · exact ⟨0, rfl, by decide⟩
          · exact ⟨1, rfl, by decide⟩
          · exact ⟨2, rfl, by decide⟩
          · exact ⟨3, rfl, by decide⟩
          · exact ⟨4, rfl, by decide⟩
        have l11 := l10.go b11 p11
        walk_at "sx"
        intro mark H12 mm b12 p12
        have l12 := l11.go b12 p12
        walk_at "sx"
        intro t13 H13 n13 s13 h13
        have l13 := l12.new s13
        have d13 := l13.dct
        walk_at "sx"
        intro H14 b14 h14
        have l14 : Lft p d H [(Sum.inr "base", .int base), (Sum.inr "sign", .str si), (Sum.inr "least", .int least), (Sum.inr "group", .int group)] H14 := l13.put b14 h14
        have d14 := l14.dct
        walk_at "sx"
        intro H15 b15 h15
        have l15 : Lft p d H [(Sum.inr "base", .int base), (Sum.inr "sign", .str si), (Sum.inr "least", .int least), (Sum.inr "group", .int group), (Sum.inr "mark", .str (chS mark))] H15 := l14.put b15 h15
        apply meetI (fun n H8 => ∃ m : Nat, n = m ∧ m ≤ 12 ∧ Lft p d H [(Sum.inr "base", .int base), (Sum.inr "sign", .str si), (Sum.inr "least", .int least), (Sum.inr "group", .int group), (Sum.inr "mark", .str (chS mark))] H8)
        · intro key
          walk_at "sx"
          refine iteD (fun c => ?_) (fun c => ?_)
          rotate_left 1
          · walk_at "sx"
            intro t H8 nt s8 h8
            have p8 := (l15.new s8).pot
            walk_at "sx"
            intro v H9 mv b9 p9
            have l9 := (l15.new s8).go b9 p9
            obtain ⟨m, rfl, m1, m2⟩ : ∃ m : Int, v = .int m ∧ 0 ≤ m ∧ m ≤ 12 := by
              simp only [List.mem_cons, List.not_mem_nil, or_false] at mv
              rcases mv with rfl | rfl | rfl | rfl | rfl | rfl <;> exact ⟨_, rfl, by decide, by decide⟩
            exact key m H9 ⟨m.toNat, by omega, by omega, l9⟩
          · have p7 := l15.pot
            walk_at "sx"
            intro r H8 r0 r1 b8 p8
            exact key r H8 ⟨r.toNat, by omega, by omega, l15.go b8 p8⟩
        · rintro n H16 ⟨width, rfl, w12, l16⟩
          have d16 := l16.dct
          walk_at "sx"
          intro H17 b17 h17
          have l17 : Lft p d H [(Sum.inr "base", .int base), (Sum.inr "sign", .str si), (Sum.inr "least", .int least), (Sum.inr "group", .int group), (Sum.inr "mark", .str (chS mark)), (Sum.inr "width", .int width)] H17 := l16.put b17 h17
          have p17 := l17.pot
          walk_at "sx"
          intro fill H18 mf b18 p18
          have l18 := l17.go b18 p18
          walk_at "sx"
          intro t19 H19 n19 s19 h19
          have l19 := l18.new s19
          have p19 := l19.pot
          walk_at "sx"
          intro v20 H20 m20 b20 p20
          obtain ⟨sd, rfl, sd2⟩ : ∃ z : Str, v20 = .str z ∧ (z = "left" ∨ z = "right" ∨ z = "both" ∨ z = "inner") := by
            simp only [List.mem_cons, List.not_mem_nil, or_false] at m20
            rcases m20 with rfl | rfl | rfl | rfl
            · exact ⟨_, rfl, .inl rfl⟩
            · exact ⟨_, rfl, .inr (.inl rfl)⟩
            · exact ⟨_, rfl, .inr (.inr (.inl rfl))⟩
            · exact ⟨_, rfl, .inr (.inr (.inr rfl))⟩
          have l20 := l19.go b20 p20
          walk_at "sx"
          intro t21 H21 n21 s21 h21
          have l21 := l20.new s21
          have d21 := l21.dct
          walk_at "sx"
          intro H22 b22 h22
          have l22 : Lft p d H [(Sum.inr "base", .int base), (Sum.inr "sign", .str si), (Sum.inr "least", .int least), (Sum.inr "group", .int group), (Sum.inr "mark", .str (chS mark)), (Sum.inr "width", .int width), (Sum.inr "fill", .str (chS fill))] H22 := l21.put b22 h22
          have d22 := l22.dct
          walk_at "sx"
          intro H23 b23 h23
          have l23 : Lft p d H [(Sum.inr "base", .int base), (Sum.inr "sign", .str si), (Sum.inr "least", .int least), (Sum.inr "group", .int group), (Sum.inr "mark", .str (chS mark)), (Sum.inr "width", .int width), (Sum.inr "fill", .str (chS fill)), (Sum.inr "side", .str sd)] H23 := l22.put b23 h23
          have e23 : H23 d = some (.dK (Fm.kvs ⟨base, si, least, group, mark, width, fill, sd⟩)) := l23.dct
          have q' := q d ⟨base, si, least, group, mark, width, fill, sd⟩ H23 ⟨b2, b16, si2, lb1, lb2, g4, mm, w12, mf, sd2⟩ l23.but l23.pot l23.nd e23
          walk_at "sx"
          exact q'
end

end Fg
set_option Elab.async false
set_option linter.all false
set_option maxRecDepth 100000
set_option maxHeartbeats 4000000
namespace Fg
open PySem PySem.Spec PyProof.Rows L2
local macro_rules | `(tactic| walk_at "hp") => `(tactic| first | assumption | (refine Same.get (by assumption) ?_; walk_at "hp"))
local macro_rules | `(tactic| walk_at "sq") => `(tactic| first | assumption | (exact Or.inr (by assumption)) | (exact Or.inl (by assumption)) | (exact Or.inl (SqL.of (by walk_at "hp"))) | (exact Or.inr (SqT.of (by walk_at "hp"))) | (exact SqL.of (by walk_at "hp")) | (exact SqT.of (by walk_at "hp")))
local macro_rules | `(tactic| walk_at "cl") => `(tactic| first | ((first | show (_ : Int) < _ | show (_ : Int) ≤ _); first | omega | decide) | ((first | show (_ : Nat) < _ | show (_ : Nat) ≤ _); first | with_reducible assumption | (refine sz_le ?_; first | decide | omega | (simp <;> omega)) | (refine sz_lt ?_; first | decide | omega | (simp <;> omega)) | omega | decide | ((with_reducible show List.length _ < _); exact Nat.le_of_ble_eq_true rfl)) | rfl | walk_at "hp" | walk_at "sq" | (refine And.intro (by walk_at "cl") (by walk_at "cl")) | (exact Exists.intro _ (by walk_at "hp")) | (exact Exists.intro _ (Exists.intro _ (by walk_at "hp"))) | (exact Exists.intro _ (Exists.intro _ (And.intro (by walk_at "hp") rfl))) | decide | (exact Or.inl (by walk_at "cl")) | (exact Or.inr (by walk_at "cl")) | omega)
local macro_rules | `(tactic| walk_at "s1") => `(tactic| first | refine And.intro (by walk_at "cl") ?_ | apply Exists.intro)
local macro_rules | `(tactic| walk_at "sx") => `(tactic| repeat walk_at "s1")
local macro_rules | `(tactic| walk_at "si") => `(tactic| first | refine iteY rfl ?_ | refine iteN rfl ?_)
local macro_rules | `(tactic| walk_at "sy") => `(tactic| repeat first | walk_at "s1" | walk_at "si")
section
variable {P : Program} {w : World} {K : PySem.W.Frag} {mg : Str → Option Value} {base : Heap} {A : Ad}
theorem any_vals {H : Hp} {F : Fm} (ok : F.Ok) : ∀ v ∈ F.vals, AnyV K H v := by
  have n1 : F.sign.length ≤ 100000 := by rcases ok.si with e | e | e <;> rw [e] <;> decide
  have n2 : F.side.length ≤ 100000 := by rcases ok.sd with e | e | e | e <;> rw [e] <;> decide
  have n3 : ∀ c, (chS c).length ≤ 100000 := fun c => by show 1 ≤ 100000; decide
  intro v hv
  simp only [Fm.vals, List.mem_cons, List.not_mem_nil, or_false] at hv
  rcases hv with rfl | rfl | rfl | rfl | rfl | rfl | rfl | rfl
  · trivial
  · exact n1
  · trivial
  · trivial
  · exact n3 _
  · trivial
  · exact n3 _
  · exact n2
theorem sp_init_ok {p dx : Addr} {F : Fm} {H : Hp} {Q : VK} {E : XK} (ok : F.Ok) (h : H p = some (.ins A.cFormat dx [])) (q : ∀ H', But p H H' → IsFmt A H' p F → Q .non H') : sp_init K A (.ref p :: F.vals) H Q E := by
  refine ⟨rfl, ⟨dx, h⟩, any_vals ok, ?_⟩
  rw [fm_ok ok]
  intro F' e _ H' b f
  have : F' = F := by
    obtain ⟨a1, a2, a3, a4, a5, a6, a7, a8⟩ := F
    obtain ⟨b1, b2, b3, b4, b5, b6, b7, b8⟩ := F'
    simp only [Fm.vals, chS, List.cons.injEq, V.int.injEq, V.str.injEq, Int.natCast_inj, Str.mk.injEq, Array.mk.injEq, and_true] at e
    obtain ⟨rfl, rfl, rfl, rfl, rfl, rfl, rfl, rfl⟩ := e
    rfl
  subst this
  exact q H' b f
/-- the program's format, with these settings -/
def sp_l_format (A : Ad) : Sp := s1 fun a H Q _ => ∃ d F, a = .ref d ∧ H d = some (.dK (Fm.kvs F)) ∧ F.Ok ∧ ∀ p H', H p = none → Same H H' → IsFmt A H' p F → Q (.ref p) H'
theorem ok_l_format (T : Txt w K mg A) : Callee P w K mg base 6 "_law_format" ["_law_shape_here"] (sp_l_format A) := by
  refine callee_of T.F_l_format sc_l_format (fun _ _ _ _ _ _ us hl => match us, hl with | [_], _ => rfl) (fun vs H Q E h => ?_) (fun f cdv Ar outer s H vs Q E hr tk po h => ?_)
  · obtain ⟨_, rfl, _⟩ := s1_len h
    rfl
  · obtain ⟨a, rfl, d, F, rfl, h0, ok, q⟩ := s1_len h
    refine ⟨_, (pss_one (ps_ret (fc_make (ks := ["base", "sign", "least", "group", "mark", "width", "fill", "side"]) (ms := []) (idx := [0, 1, 2, 3, 4, 5, 6, 7, 8]) (mk_Format T) hr (by decide) (by rfl) tk (pk_cons (fe_dget (hu_of hr) (fv 0) pe_str (fun _ _ => rfl)) (pk_cons (fe_dget (hu_of hr) (fv 0) pe_str (fun _ _ => rfl)) (pk_cons (fe_dget (hu_of hr) (fv 0) pe_str (fun _ _ => rfl)) (pk_cons (fe_dget (hu_of hr) (fv 0) pe_str (fun _ _ => rfl)) (pk_cons (fe_dget (hu_of hr) (fv 0) pe_str (fun _ _ => rfl)) (pk_cons (fe_dget (hu_of hr) (fv 0) pe_str (fun _ _ => rfl)) (pk_cons (fe_dget (hu_of hr) (fv 0) pe_str (fun _ _ => rfl)) (pk_cons (fe_dget (hu_of hr) (fv 0) pe_str (fun _ _ => rfl)) pk_nil)))))))) (by decide) (by decide) (fun _ _ _ _ _ _ us mv ws l1 l2 l3 => match us, mv, ws, l1, l2, l3 with | [_], [], [_, _, _, _, _, _, _, _], _, _, _ => rfl)))), ?_⟩
    walk_at "sx"
    intro p dx H3 np s3 h3
    exact sp_init_ok ok h3 fun H' b f => ⟨rfl, q p H' np (Same.but s3 np b) f⟩
end

end Fg
set_option Elab.async false
set_option linter.all false
set_option maxRecDepth 100000
set_option maxHeartbeats 4000000
namespace Fg
open PySem PySem.Spec PyProof.Rows L2
local macro_rules | `(tactic| walk_at "hp") => `(tactic| first | assumption | (refine Same.get (by assumption) ?_; walk_at "hp"))
local macro_rules | `(tactic| walk_at "sq") => `(tactic| first | assumption | (exact Or.inr (by assumption)) | (exact Or.inl (by assumption)) | (exact Or.inl (SqL.of (by walk_at "hp"))) | (exact Or.inr (SqT.of (by walk_at "hp"))) | (exact SqL.of (by walk_at "hp")) | (exact SqT.of (by walk_at "hp")))
local macro_rules | `(tactic| walk_at "cl") => `(tactic| first | ((first | show (_ : Int) < _ | show (_ : Int) ≤ _); first | omega | decide) | ((first | show (_ : Nat) < _ | show (_ : Nat) ≤ _); first | with_reducible assumption | (refine sz_le ?_; first | decide | omega | (simp <;> omega)) | (refine sz_lt ?_; first | decide | omega | (simp <;> omega)) | omega | decide | ((with_reducible show List.length _ < _); exact Nat.le_of_ble_eq_true rfl)) | rfl | walk_at "hp" | walk_at "sq" | (refine And.intro (by walk_at "cl") (by walk_at "cl")) | (exact Exists.intro _ (by walk_at "hp")) | (exact Exists.intro _ (Exists.intro _ (by walk_at "hp"))) | (exact Exists.intro _ (Exists.intro _ (And.intro (by walk_at "hp") rfl))) | decide | (exact Or.inl (by walk_at "cl")) | (exact Or.inr (by walk_at "cl")) | omega)
local macro_rules | `(tactic| walk_at "s1") => `(tactic| first | refine And.intro (by walk_at "cl") ?_ | apply Exists.intro)
local macro_rules | `(tactic| walk_at "sx") => `(tactic| repeat walk_at "s1")
local macro_rules | `(tactic| walk_at "si") => `(tactic| first | refine iteY rfl ?_ | refine iteN rfl ?_)
local macro_rules | `(tactic| walk_at "sy") => `(tactic| repeat first | walk_at "s1" | walk_at "si")
/-! ### the law's own text of an integer -/
def SL (l : List Nat) : Str := ⟨l.toArray⟩
theorem SL_app (a b : List Nat) : (SL a ++ SL b : Str) = SL (a ++ b) := by
  rw [str_app]
  unfold SL
  simp
theorem SL_len (l : List Nat) : (SL l).length = l.length := by simp [SL, Str.length]
theorem SL_cps (l : List Nat) : (SL l).cps.toList = l := by simp [SL]
theorem SL_nil {l : List Nat} : (SL l = "") ↔ l = [] := by
  constructor
  · intro h
    have := congrArg (fun z : Str => z.cps.toList) h
    rw [SL_cps] at this
    exact this
  · intro h
    rw [h]; rfl
theorem SL_cut (l : List Nat) : cutS (SL l) none (some 1) = SL (l.take 1) := by
  unfold cutS
  rw [SL_cps, SL_len, HT.sIx_none]
  have : HT.sIx l.length l.length (some (1 : Int)) = min 1 l.length := HT.sIx_nat l.length l.length 1
  rw [this, List.drop_zero, Nat.sub_zero]
  unfold SL
  congr 1
  congr 1
  cases l with
  | nil => rfl
  | cons a r => rfl
theorem repC_SL (c n : Nat) : repC c n = SL (List.replicate n c) := rfl
theorem fillIn_some : ∀ (x : List Nat) (y : List (Option Nat)) (ds : List Nat), fillIn (x.map some ++ y) ds = x ++ fillIn y ds
  | [], _, _ => rfl
  | a :: x, y, ds => by
    show a :: fillIn (x.map some ++ y) ds = _
    rw [fillIn_some x y ds]
    rfl
theorem fillIn_nil (ds : List Nat) : fillIn [] ds = [] := by cases ds <;> rfl
theorem fillIn_tail : ∀ (b : List (Option Nat)) (x : List Nat) (ds : List Nat), need b = ds.length → fillIn (b ++ x.map some) ds = fillIn b ds ++ x
  | [], x, ds, h => by
    have z := fillIn_some x [] ds
    rw [List.append_nil] at z
    rw [List.nil_append, z, fillIn_nil, List.append_nil, List.nil_append]
  | none :: r, x, [], h => by cases h
  | none :: r, x, d :: ds, h => by
    show d :: fillIn (r ++ x.map some) ds = _
    rw [fillIn_tail r x ds (Nat.succ.inj h)]
    rfl
  | some c :: r, x, ds, h => by
    show c :: fillIn (r ++ x.map some) ds = _
    rw [fillIn_tail r x ds h]
    rfl
theorem fillIn_full : ∀ (b : List (Option Nat)) (ds : List Nat), need b = ds.length → (fillIn b ds).length = b.length
  | [], ds, _ => by rw [fillIn_nil]; rfl
  | none :: r, [], h => by cases h
  | none :: r, d :: ds, h => by
    show (fillIn r ds).length + 1 = _
    rw [fillIn_full r ds (Nat.succ.inj h)]
    rfl
  | some c :: r, ds, h => by
    show (fillIn r ds).length + 1 = _
    rw [fillIn_full r ds h]
    rfl
theorem fillL_some (F : Fm) (k : Nat) : fillL F k = (List.replicate k F.fill).map some := by unfold fillL; rw [List.map_replicate]
/-- head, figures with marks -/
def bodyN (F : Fm) (row : List Nat) : List Nat := fillIn (bodyL F row.length) row
theorem bodyN_len (F : Fm) {row : List Nat} (h : 1 ≤ row.length) : (bodyN F row).length = (bodyL F row.length).length := fillIn_full _ _ (need_body F h)
theorem codes_at (F : Fm) (i : Int) (row : List Nat) (hr : row = rowN F i.natAbs) (h : 1 ≤ row.length) (L : Nat) (hL : L = F.width - (headC F.sign (decide (i < 0))).length - (bodyN F row).length) :
    codesI F i = (if F.side = "left" then List.replicate L F.fill ++ (headC F.sign (decide (i < 0)) ++ bodyN F row)
      else if F.side = "right" then headC F.sign (decide (i < 0)) ++ (bodyN F row ++ List.replicate L F.fill)
      else if F.side = "inner" then headC F.sign (decide (i < 0)) ++ (List.replicate L F.fill ++ bodyN F row)
      else List.replicate (L / 2) F.fill ++ (headC F.sign (decide (i < 0)) ++ (bodyN F row ++ List.replicate (L - L / 2) F.fill))) := by
  have nb := need_body F h
  have hL2 : lackL F (decide (i < 0)) row.length = L := by rw [hL, bodyN_len F h]; rfl
  unfold codesI layL
  rw [← hr]
  simp only [hL2, fillL_some]
  split
  · rw [fillIn_some, fillIn_some]; rfl
  · split
    · rw [fillIn_some, fillIn_tail _ _ _ nb]; rfl
    · split
      · rw [fillIn_some, fillIn_some]; rfl
      · rw [fillIn_some, fillIn_some, fillIn_tail _ _ _ nb]; rfl
theorem codes_no (F : Fm) (i : Int) (row : List Nat) (hr : row = rowN F i.natAbs) (h : 1 ≤ row.length) (hL : F.width - (headC F.sign (decide (i < 0))).length - (bodyN F row).length = 0) :
    codesI F i = headC F.sign (decide (i < 0)) ++ bodyN F row := by
  rw [codes_at F i row hr h 0 hL.symm]
  split
  · rfl
  · split
    · rw [List.replicate_zero, List.append_nil]
    · split
      · rfl
      · rw [show 0 - 0 / 2 = 0 from rfl, List.replicate_zero, List.append_nil]; rfl
def up : Nat → Nat → List V
  | _, 0 => []
  | k, n + 1 => .int ((k : Nat) : Int) :: up (k + 1) n
theorem rgI_up : ∀ (n k : Nat), rgI ((k : Nat) : Int) n = up k n
  | 0, _ => rfl
  | n + 1, k => by
    rw [up, ← rgI_up n (k + 1)]
    unfold rgI
    rw [List.range_succ_eq_map, List.map_cons, List.map_map]
    refine congr (congrArg _ (by simp)) (List.map_congr_left fun i _ => ?_)
    simp only [Function.comp]
    congr 1
    push_cast
    omega
theorem meetS {A : Prop} {G : Str → Hp → Prop} (Pc : Str → Hp → Prop) (h1 : (∀ a H, Pc a H → G a H) → A) (h2 : ∀ a H, Pc a H → G a H) : A := h1 h2
theorem heads_val (F : Fm) (ok : F.Ok) : valV (mergeK [] [((Sum.inr "minus" : Key), V.str ""), (Sum.inr "plus", V.str "+"), (Sum.inr "blank", V.str " ")]) (Sum.inr F.sign) = some (.str (SL (headC F.sign false))) := by
  rcases ok.si with e | e | e <;> rw [e] <;> decide +kernel
theorem sides_val (F : Fm) (ok : F.Ok) (n : F.side ≠ "inner") (a b c : V) : valV (mergeK [] [((Sum.inr "left" : Key), a), (Sum.inr "right", b), (Sum.inr "both", c)]) (Sum.inr F.side) = some (if F.side = "left" then a else if F.side = "right" then b else c) := by
  rcases ok.sd with e | e | e | e
  · rw [e]; rfl
  · rw [e]; rfl
  · rw [e]; rfl
  · exact absurd e n

end Fg
set_option Elab.async false
set_option linter.all false
set_option maxRecDepth 100000
set_option maxHeartbeats 4000000
namespace Fg
open PySem PySem.Spec PyProof.Rows L2
local macro_rules | `(tactic| walk_at "hp") => `(tactic| first | assumption | (refine Same.get (by assumption) ?_; walk_at "hp"))
local macro_rules | `(tactic| walk_at "sq") => `(tactic| first | assumption | (exact Or.inr (by assumption)) | (exact Or.inl (by assumption)) | (exact Or.inl (SqL.of (by walk_at "hp"))) | (exact Or.inr (SqT.of (by walk_at "hp"))) | (exact SqL.of (by walk_at "hp")) | (exact SqT.of (by walk_at "hp")))
local macro_rules | `(tactic| walk_at "cl") => `(tactic| first | ((first | show (_ : Int) < _ | show (_ : Int) ≤ _); first | omega | decide) | ((first | show (_ : Nat) < _ | show (_ : Nat) ≤ _); first | with_reducible assumption | (refine sz_le ?_; first | decide | omega | (simp <;> omega)) | (refine sz_lt ?_; first | decide | omega | (simp <;> omega)) | omega | decide | ((with_reducible show List.length _ < _); exact Nat.le_of_ble_eq_true rfl)) | rfl | walk_at "hp" | walk_at "sq" | (refine And.intro (by walk_at "cl") (by walk_at "cl")) | (exact Exists.intro _ (by walk_at "hp")) | (exact Exists.intro _ (Exists.intro _ (by walk_at "hp"))) | (exact Exists.intro _ (Exists.intro _ (And.intro (by walk_at "hp") rfl))) | decide | (exact Or.inl (by walk_at "cl")) | (exact Or.inr (by walk_at "cl")) | omega)
local macro_rules | `(tactic| walk_at "s1") => `(tactic| first | refine And.intro (by walk_at "cl") ?_ | apply Exists.intro)
local macro_rules | `(tactic| walk_at "sx") => `(tactic| repeat walk_at "s1")
local macro_rules | `(tactic| walk_at "si") => `(tactic| first | refine iteY rfl ?_ | refine iteN rfl ?_)
local macro_rules | `(tactic| walk_at "sy") => `(tactic| repeat first | walk_at "s1" | walk_at "si")
section
variable {P : Program} {w : World} {K : PySem.W.Frag} {mg : Str → Option Value} {base : Heap} {A : Ad}
def sp_l_said : Sp := s2 fun a b H Q _ => ∃ d F i, a = .ref d ∧ b = .int i ∧ H d = some (.dK (Fm.kvs F)) ∧ F.Ok ∧ SmI i ∧ ∀ H', Same H H' → Q (.str (textI F i)) H'
theorem ok_l_said (T : Txt w K mg A) : Callee P w K mg base 1 "_law_said" ["_law_shape_here", "_law_n"] sp_l_said := by
  refine callee_of T.F_l_said sc_l_said (fun _ _ _ _ _ _ us hl => match us, hl with | [_, _], _ => rfl) (fun vs H Q E h => ?_) (fun f cdv Ar outer s H vs Q E hr tk po h => ?_)
  · obtain ⟨_, _, rfl, _⟩ := s2_len h
    rfl
  · obtain ⟨a, b, rfl, d, F, i, rfl, rfl, h0, ok, si, q⟩ := s2_len h
    refine ⟨_, (pss_cons (ps_par (i := 2) (j := 3) (by rfl) sc_l_said.nd rfl rfl (by decide) rfl rfl (pa_cons (pe_callB f_abs (by rfl) T.b_abs (by decide +kernel) (pa_cons (fv 1) pa_nil)) (pa_cons pe_str pa_nil)) (by rfl))
      (pss_cons (fs_while po (PW.pt (pw_or (ft_cmp f_gt (fv 2) pe_int (nomark _)) (pw_or1 (ft_cmp f_eq (fv 3) pe_str (nomark _))))) (pss_cons (ps_set (i := 3) sc_l_said.nd rfl (Or.inl rfl) (pe_op f_add (pe_ix f_ix pe_str (pe_op f_mod (pe_callTy f_int (by rfl) T.b_int (by decide +kernel) (pa_cons (fv 2) pa_nil)) (fe_dget (hu_of hr) (fv 0) pe_str (fun _ _ => rfl))) (fun _ _ => rfl)) (fv 3)))
      (pss_one (ps_set (i := 2) sc_l_said.nd rfl (Or.inl rfl) (pe_op f_fdiv (pe_callTy f_int (by rfl) T.b_int (by decide +kernel) (pa_cons (fv 2) pa_nil)) (fe_dget (hu_of hr) (fv 0) pe_str (fun _ _ => rfl)))))))
      (pss_cons (fs_while po (ft_cmp f_lt (pe_callB f_len (by rfl) T.b_len (by decide +kernel) (pa_cons (fv 3) pa_nil)) (fe_dget (hu_of hr) (fv 0) pe_str (fun _ _ => rfl)) (nomark _)) (pss_one (ps_set (i := 3) sc_l_said.nd rfl (Or.inl rfl) (pe_op f_add pe_str (fv 3)))))
      (pss_cons (ps_set (i := 4) sc_l_said.nd rfl (Or.inl rfl) (pe_slice f_slS (fv 3) po_none (po_some pe_int)))
      (pss_cons (fs_for po rfl (fi_R2 (by rfl) T.b_range (pa_cons pe_int (pa_cons (pe_callB f_len (by rfl) T.b_len (by decide +kernel) (pa_cons (fv 3) pa_nil)) pa_nil))) (pg_name (i := 5) sc_l_said.nd rfl (Or.inl rfl)) (pss_cons (ps_if (PW.pt (pw_and (ft_cmp f_gt (fe_dget (hu_of hr) (fv 0) pe_str (fun _ _ => rfl)) pe_int (nomark _)) (pw_and1 (ft_cmp f_eq (pe_op f_mod (pe_op f_sub (pe_callB f_len (by rfl) T.b_len (by decide +kernel) (pa_cons (fv 3) pa_nil)) (fv 5)) (fe_dget (hu_of hr) (fv 0) pe_str (fun _ _ => rfl))) pe_int (nomark _))))) (pss_one (ps_set (i := 4) sc_l_said.nd rfl (Or.inl rfl) (pe_op f_add (fv 4) (fe_dget (hu_of hr) (fv 0) pe_str (fun _ _ => rfl))))) pss_nil)
      (pss_one (ps_set (i := 4) sc_l_said.nd rfl (Or.inl rfl) (pe_op f_add (fv 4) (pe_ix f_ix (fv 3) (fv 5) (fun _ _ => rfl)))))))
      (pss_cons (ps_set (i := 6) sc_l_said.nd rfl (Or.inl rfl) (pe_ifExp (ft_cmp f_lt (fv 1) pe_int (nomark _)) pe_str (fe_dget (hu_of hr) (fe_disp (fps_cons pe_str pe_str (fps_cons pe_str pe_str (fps_cons pe_str pe_str fps_nil))) rfl rfl (by decide) (by decide)) (fe_dget (hu_of hr) (fv 0) pe_str (fun _ _ => rfl)) (fun _ _ => rfl))))
      (pss_cons (ps_set (i := 7) sc_l_said.nd rfl (Or.inl rfl) (pe_op f_sub (pe_op f_sub (fe_dget (hu_of hr) (fv 0) pe_str (fun _ _ => rfl)) (pe_callB f_len (by rfl) T.b_len (by decide +kernel) (pa_cons (fv 6) pa_nil))) (pe_callB f_len (by rfl) T.b_len (by decide +kernel) (pa_cons (fv 4) pa_nil))))
      (pss_cons (ps_if (ft_cmp f_le (fv 7) pe_int (nomark _)) (pss_one (ps_ret (pe_op f_add (fv 6) (fv 4)))) pss_nil)
      (pss_cons (ps_if (ft_cmp f_eq (fe_dget (hu_of hr) (fv 0) pe_str (fun _ _ => rfl)) pe_str (nomark _)) (pss_one (ps_ret (pe_op f_add (pe_op f_add (fv 6) (pe_op f_mulS (fe_dget (hu_of hr) (fv 0) pe_str (fun _ _ => rfl)) (fv 7))) (fv 4)))) pss_nil)
      (pss_cons (ps_set (i := 8) sc_l_said.nd rfl (Or.inl rfl) (fe_dget (hu_of hr) (fe_disp (fps_cons pe_str (fv 7) (fps_cons pe_str pe_int (fps_cons pe_str (pe_op f_fdiv (fv 7) pe_int) fps_nil))) rfl rfl (by decide) (by decide)) (fe_dget (hu_of hr) (fv 0) pe_str (fun _ _ => rfl)) (fun _ _ => rfl)))
      (pss_cons (ps_set (i := 4) sc_l_said.nd rfl (Or.inl rfl) (pe_op f_add (pe_op f_add (fv 6) (fv 4)) (pe_op f_mulS (fe_dget (hu_of hr) (fv 0) pe_str (fun _ _ => rfl)) (pe_op f_sub (fv 7) (fv 8)))))
      (pss_one (ps_ret (pe_op f_add (pe_op f_mulS (fe_dget (hu_of hr) (fv 0) pe_str (fun _ _ => rfl)) (fv 8)) (fv 4))))))))))))))), ?_⟩
    have b1 := ok.b1
    have b2 := ok.b2
    have dl := digs_len (b := F.base) b1 (show i.natAbs < 10 ^ 100 from si)
    have dl2 : (rdigs F.base i.natAbs i.natAbs).length ≤ 400 := by
      unfold digs at dl
      rwa [List.length_reverse] at dl
    walk_at "sx"
    refine Wh.by (fun z σ H2 => ∃ (acc : List Nat) (size k : Nat), z = size + (if acc = [] then 1 else 0) ∧ size ≤ k + 1 ∧ σ = [some (.ref d), some (.int i), some (.int (size : Nat)), some (.str (SL (acc.map figC))), none, none, none, none, none] ∧ H2 = H ∧
      (if 0 < size ∨ acc = [] then rdigs F.base k size else []).reverse ++ acc = digs F.base i.natAbs ∧ acc.length ≤ 400) (i.natAbs + 1) ?_ ?_
    · refine ⟨[], i.natAbs, i.natAbs, rfl, by omega, rfl, rfl, ?_, by simp⟩
      rw [if_pos (.inr rfl), List.append_nil]
      rfl
    · rintro z σ H2 ⟨acc, size, k, rfl, hk, rfl, rfl, hd, hal⟩
      have at1 : atI (Str.ofString "0123456789abcdef").cps.toList ((size : Int) % (F.base : Int)) = some (figC (size % F.base)) := figS_ix (Nat.lt_of_lt_of_le (Nat.mod_lt _ (by omega)) b2)
      have hl : ∀ c, (⟨#[c]⟩ : Str).length + (SL (acc.map figC)).length ≤ sizeLine := fun c => by
        refine sz_le ?_
        rw [SL_len, List.length_map]
        show 1 + _ ≤ _
        omega
      have cd : CDv size F.base := ⟨by omega, by omega⟩
      have step : (0 < size ∨ acc = []) → ∃ k', size / F.base ≤ k' + 1 ∧ (if 0 < size / F.base ∨ (size % F.base :: acc) = [] then rdigs F.base k' (size / F.base) else []).reverse ++ (size % F.base :: acc) = digs F.base i.natAbs ∧ (size % F.base :: acc).length ≤ 400 ∧
          size / F.base + (if (size % F.base :: acc) = [] then 1 else 0) < size + (if acc = [] then 1 else 0) := fun hc => by
        rw [if_pos hc] at hd
        have hz : size / F.base ≤ size / 2 := Nat.div_le_div_left b1 (by decide)
        have e0 : (if (size % F.base :: acc) = [] then 1 else 0) = 0 := if_neg (by simp)
        have lt : size / F.base + (if (size % F.base :: acc) = [] then 1 else 0) < size + (if acc = [] then 1 else 0) := by
          rw [e0]
          rcases hc with hc | hc
          · split <;> omega
          · rw [if_pos hc]; omega
        have total : (digs F.base i.natAbs).length ≤ 400 := dl
        have len : (size % F.base :: acc).length ≤ 400 := by
          rw [← hd, List.length_append, List.length_reverse] at total
          have : 1 ≤ (rdigs F.base k size).length := by cases k <;> simp [rdigs]
          rw [List.length_cons]
          omega
        cases k with
        | zero =>
          have q0 : size / F.base = 0 := Nat.div_eq_of_lt (by omega)
          refine ⟨0, by omega, ?_, len, lt⟩
          rw [q0, if_neg (by simp)]
          rw [rdigs] at hd
          rw [← hd]
          simp
        | succ k =>
          refine ⟨k, by omega, ?_, len, lt⟩
          rw [rdigs] at hd
          rw [← hd, List.reverse_cons, List.append_assoc]
          have eq : (0 < size / F.base ∨ (size % F.base :: acc) = []) ↔ F.base ≤ size := by
            constructor
            · intro h
              rcases h with h | h
              · exact (Nat.div_pos_iff.mp h).2
              · cases h
            · intro h
              exact .inl (Nat.div_pos h (by omega))
          by_cases hb : F.base ≤ size
          · rw [if_pos (eq.mpr hb), if_pos hb]; rfl
          · rw [if_neg (fun z => hb (eq.mp z)), if_neg hb]; rfl
      have app : ∀ c, (⟨#[figC c]⟩ ++ SL (acc.map figC) : Str) = SL ((c :: acc).map figC) := fun c => by
        rw [show (⟨#[figC c]⟩ : Str) = SL [figC c] from rfl, SL_app]
        rfl
      by_cases hc : 0 < size ∨ acc = []
      · obtain ⟨k', hk', hd', hal', lt'⟩ := step hc
        have fin : ∃ m', m' < size + (if acc = [] then 1 else 0) ∧ ∃ (acc' : List Nat) (size' k : Nat), m' = size' + (if acc' = [] then 1 else 0) ∧ size' ≤ k + 1 ∧ [some (V.ref d), some (.int i), some (.int ((size / F.base : Nat) : Int)), some (.str (⟨#[figC (size % F.base)]⟩ ++ SL (acc.map figC))), none, none, none, none, none] = [some (V.ref d), some (.int i), some (.int (size' : Nat)), some (.str (SL (acc'.map figC))), none, none, none, none, none] ∧ H2 = H2 ∧
            (if 0 < size' ∨ acc' = [] then rdigs F.base k size' else []).reverse ++ acc' = digs F.base i.natAbs ∧ acc'.length ≤ 400 :=
          ⟨_, lt', size % F.base :: acc, size / F.base, k', rfl, hk', by rw [app], rfl, hd', hal'⟩
        obtain ⟨m', f1, f2⟩ := fin
        have hl' := hl (figC (size % F.base))
        clear step hd hd' dl dl2 hal hal' lt' hk hk' hl
        refine iteD (fun c => ?_) (fun c => ?_)
        · refine iteY rfl ?_
          walk_at "sx"
          exact ⟨m', f1, f2⟩
        · have ea : acc = [] := hc.resolve_left (by omega)
          walk_at "sx"
          refine iteY (decide_eq_true (SL_nil.mpr (by rw [ea]; rfl))) ?_
          walk_at "sx"
          exact ⟨m', f1, f2⟩
      · have c0 : ¬ (0 : Int) < (size : Int) := fun z => hc (.inl (by omega))
        have ne : acc ≠ [] := fun z => hc (.inr z)
        refine iteN (decide_eq_false c0) ?_
        walk_at "sx"
        refine iteN (decide_eq_false (fun z => ne (List.map_eq_nil_iff.mp (SL_nil.mp z)))) ?_
        rw [if_neg hc, List.reverse_nil, List.nil_append] at hd
        subst hd
        clear step app hl cd at1
        walk_at "sx"
        have dlen : ((digs F.base i.natAbs).map figC).length ≤ 400 := by rw [List.length_map]; exact dl
        have l2 := ok.l2
        refine Wh.by (fun z σ Hc => ∃ kz : Nat, z + kz = F.least - ((digs F.base i.natAbs).map figC).length ∧ σ = [some (.ref d), some (.int i), some (.int (size : Nat)), some (.str (SL (List.replicate kz 48 ++ (digs F.base i.natAbs).map figC))), none, none, none, none, none] ∧ Hc = H2)
          (F.least - ((digs F.base i.natAbs).map figC).length) ?_ ?_
        · exact ⟨0, rfl, rfl, rfl⟩
        · rintro z σ Hc ⟨kz, hz, rfl, rfl⟩
          have rl : (SL (List.replicate kz 48 ++ (digs F.base i.natAbs).map figC)).length = kz + ((digs F.base i.natAbs).map figC).length := by rw [SL_len, List.length_append, List.length_replicate]
          have rl2 : (SL (List.replicate kz 48 ++ (digs F.base i.natAbs).map figC)).length ≤ sizeLine := by refine sz_le ?_; rw [rl]; omega
          have rl3 : ("0" : Str).length + (SL (List.replicate kz 48 ++ (digs F.base i.natAbs).map figC)).length ≤ sizeLine := by
            refine sz_le ?_
            rw [rl, show ("0" : Str).length = 1 from rfl]; omega
          clear dl dl2
          walk_at "sx"
          refine iteD (fun c => ?_) (fun c => ?_)
          · have c' : kz + ((digs F.base i.natAbs).map figC).length < F.least := by
              have z : (((SL (List.replicate kz 48 ++ (digs F.base i.natAbs).map figC)).length : Nat) : Int) < (F.least : Nat) := c
              rw [rl] at z
              omega
            walk_at "sx"
            refine ⟨F.least - ((digs F.base i.natAbs).map figC).length - (kz + 1), by omega, kz + 1, by omega, ?_, rfl⟩
            rw [List.replicate_succ, List.cons_append, show SL (48 :: (List.replicate kz 48 ++ (digs F.base i.natAbs).map figC)) = ("0" : Str) ++ SL (List.replicate kz 48 ++ (digs F.base i.natAbs).map figC) from (SL_app [48] _).symm]
            rfl
          · have c' : ¬ kz + ((digs F.base i.natAbs).map figC).length < F.least := fun h => c (by
              show (((SL (List.replicate kz 48 ++ (digs F.base i.natAbs).map figC)).length : Nat) : Int) < (F.least : Nat)
              rw [rl]
              omega)
            have er : List.replicate kz 48 ++ (digs F.base i.natAbs).map figC = rowN F i.natAbs := by
              unfold rowN
              rw [List.length_map] at hz c'
              congr 2
              omega
            rw [er] at rl rl2 rl3
            rw [er]
            clear er c c' hz
            have row1 := (row_len F ok (show i.natAbs < 10 ^ 100 from si)).2
            have row2 := (row_len F ok (show i.natAbs < 10 ^ 100 from si)).1
            obtain ⟨row, hrow⟩ : ∃ row, row = rowN F i.natAbs := ⟨_, rfl⟩
            rw [← hrow] at rl2 row1 row2 ⊢
            clear rl rl3 rl2
            have rl2 : (SL row).length ≤ sizeLine := by refine sz_le ?_; rw [SL_len]; omega
            have rlen : (SL row).length = row.length := SL_len row
            walk_at "s1"
            walk_at "s1"
            walk_at "s1"
            walk_at "s1"
            have z1 : -(2 ^ 62) ≤ (((SL row).length : Nat) : Int) ∧ (((SL row).length : Nat) : Int) < 2 ^ 62 := by rw [rlen]; omega
            refine And.intro ⟨by decide, by decide, z1.1, z1.2⟩ (And.intro trivial ?_)
            clear z1
            have er : rgI 1 (((SL row).length : Int) - 1).toNat = up 1 (row.length - 1) := by
              rw [rlen, show (((row.length : Nat) : Int) - 1).toNat = row.length - 1 by omega]
              exact rgI_up _ 1
            rw [er]
            clear er
            have gr := ok.gr
            refine Loop.by (fun rest σ Hd => ∃ (k n : Nat) (acc : List Nat), ∃ a5, rest = up k n ∧ k + n = row.length ∧ 1 ≤ k ∧ σ = [some (.ref d), some (.int i), some (.int (size : Nat)), some (.str (SL row)), some (.str (SL acc)), a5, none, none, none] ∧ Hd = Hc ∧
              acc ++ fillIn (lays F.group F.mark n) (row.drop k) = bodyN F row ∧ acc.length ≤ 2 * k) ?_ ?_ _ _ _ ?_
            · rintro x r σ Hd ⟨k, n, acc, a5, hr, hkn, hk1, rfl, rfl, hac, hal⟩ N hN
              cases n with
              | zero => cases hr
              | succ n =>
                cases hr
                have kl : k < row.length := by omega
                have at1 : atI (SL row).cps.toList ((k : Nat) : Int) = some row[k] := by
                  rw [SL_cps]
                  exact atI_nat (List.getElem?_eq_getElem kl)
                have la : (SL acc).length ≤ 1000 := by rw [SL_len]; omega
                rw [List.drop_eq_getElem_cons kl, lays] at hac
                have fin : ∀ (pre : List Nat) (z : Str), pre.length ≤ 1 → z = SL (acc ++ pre ++ [row[k]]) → (acc ++ pre ++ [row[k]]) ++ fillIn (lays F.group F.mark n) (row.drop (k + 1)) = bodyN F row →
                    N [some (.ref d), some (.int i), some (.int (size : Nat)), some (.str (SL row)), some (.str z), some (.int ((k : Nat) : Int)), none, none, none] Hd := fun pre z lp ez e => by
                  refine hN _ _ trivial ⟨k + 1, n, acc ++ pre ++ [row[k]], _, rfl, by omega, by omega, by rw [ez], rfl, e, ?_⟩
                  simp only [List.length_append, List.length_singleton]
                  omega
                have l1 : ∀ c : Nat, (SL acc).length + (⟨#[c]⟩ : Str).length ≤ sizeLine := fun c => by
                  refine sz_le ?_
                  show _ + 1 ≤ _
                  omega
                have l2 : ∀ c c2 : Nat, (SL acc ++ (⟨#[c]⟩ : Str) : Str).length + (⟨#[c2]⟩ : Str).length ≤ sizeLine := fun c c2 => by
                  rw [show (⟨#[c]⟩ : Str) = SL [c] from rfl, SL_app, SL_len]
                  rw [SL_len] at la
                  refine sz_le ?_
                  rw [List.length_append]
                  show _ + 1 + 1 ≤ _
                  omega
                walk_at "sx"
                refine iteD (fun c => ?_) (fun c => ?_)
                · have g0 : 0 < F.group := by omega
                  have g1 : (0 : Int) < (F.group : Int) := by omega
                  walk_at "sx"
                  refine iteD (fun c2 => ?_) (fun c2 => ?_)
                  · have em : (n + 1) % F.group = 0 := by
                      have z : ((((SL row).length : Nat) : Int) - (k : Int)) % (F.group : Int) = 0 := c2
                      rw [rlen, show (((row.length : Nat) : Int) - (k : Int)) = ((n + 1 : Nat) : Int) by omega] at z
                      exact_mod_cast z
                    rw [if_pos ⟨g0, em⟩] at hac
                    walk_at "sx"
                    refine And.intro (l2 _ _) ?_
                    walk_at "sx"
                    refine fin [F.mark] _ (Nat.le_refl 1) ?_ ?_
                    · rw [show (⟨#[row[k]]⟩ : Str) = SL [row[k]] from rfl, show chS F.mark = SL [F.mark] from rfl, SL_app, SL_app]
                    · rw [← hac, List.append_assoc, List.append_assoc]
                      rfl
                  · have em : ¬ (n + 1) % F.group = 0 := fun em => c2 (by
                      show ((((SL row).length : Nat) : Int) - (k : Int)) % (F.group : Int) = 0
                      rw [rlen, show (((row.length : Nat) : Int) - (k : Int)) = ((n + 1 : Nat) : Int) by omega]
                      exact_mod_cast em)
                    rw [if_neg (fun z => em z.2), List.nil_append] at hac
                    walk_at "sx"
                    refine fin [] _ (by decide) ?_ ?_
                    · rw [show (⟨#[row[k]]⟩ : Str) = SL [row[k]] from rfl, SL_app, List.append_nil]
                    · rw [← hac, List.append_nil, List.append_assoc]
                      rfl
                · have g0 : ¬ 0 < F.group := by omega
                  rw [if_neg (fun z => g0 z.1), List.nil_append] at hac
                  refine iteN rfl ?_
                  walk_at "sx"
                  refine fin [] _ (by decide) ?_ ?_
                  · rw [show (⟨#[row[k]]⟩ : Str) = SL [row[k]] from rfl, SL_app, List.append_nil]
                  · rw [← hac, List.append_nil, List.append_assoc]
                    rfl
            · rintro σ Hd ⟨k, n, acc, a5, hr, hkn, hk1, rfl, rfl, hac, hal⟩
              have n0 : n = 0 := by
                cases n with
                | zero => rfl
                | succ n => cases hr
              subst n0
              have kl : k = row.length := by omega
              rw [kl, List.drop_of_length_le (Nat.le_refl _), lays, fillIn_nil, List.append_nil] at hac
              subst hac
              have hb1 : (bodyN F row).length ≤ 1000 := by omega
              apply meetS (fun z H3 => z = SL (headC F.sign (decide (i < 0))) ∧ Same Hd H3)
              · intro key
                refine iteD (fun c => ?_) (fun c => ?_)
                · obtain ⟨z, hz⟩ : ∃ z : Str, z = Str.ofString "-" := ⟨_, rfl⟩
                  rw [← hz]
                  refine key z Hd ⟨?_, Same.refl _⟩
                  rw [hz, headC, if_pos (decide_eq_true c)]
                  rfl
                · intro p H1 n1 s1 h1
                  walk_at "sx"
                  intro H3 b3 h3
                  have h03 := (Same.but s1 n1 b3) _ _ h0
                  walk_at "sx"
                  refine And.intro (heads_val F ok) ?_
                  generalize hz : SL (headC F.sign false) = z
                  refine key z H3 ⟨?_, Same.but s1 n1 b3⟩
                  rw [← hz, decide_eq_false c]
              · rintro z H3 ⟨rfl, s3⟩
                have hh1 := head_len F.sign (decide (i < 0))
                have h03 := s3 _ _ h0
                have lh : (SL (headC F.sign (decide (i < 0)))).length ≤ sizeLine := by refine sz_le ?_; rw [SL_len]; omega
                have lb : (SL (bodyN F row)).length ≤ sizeLine := by refine sz_le ?_; rw [SL_len]; omega
                have lsum : (SL (headC F.sign (decide (i < 0)))).length + (SL (bodyN F row)).length ≤ sizeLine := by refine sz_le ?_; rw [SL_len, SL_len]; omega
                obtain ⟨hd, hhd⟩ : ∃ hd, hd = headC F.sign (decide (i < 0)) := ⟨_, rfl⟩
                obtain ⟨bd, hbd⟩ : ∃ bd, bd = bodyN F row := ⟨_, rfl⟩
                have wi := ok.wi
                have eT : ∀ l : List Nat, l = codesI F i → ∀ H4, Same H3 H4 → Q (.str (SL l)) H4 := fun l e H4 s4 => by rw [e]; exact q H4 (s3.trans s4)
                rw [← hhd] at lh hh1 lsum ⊢
                rw [← hbd] at lb hb1 lsum ⊢
                clear hal hr
                walk_at "sx"
                refine iteD (fun c => ?_) (fun c => ?_)
                · have cl : F.width - hd.length - bd.length = 0 := by
                    have z : ((F.width : Nat) : Int) - (((SL hd).length : Nat) : Int) - (((SL bd).length : Nat) : Int) ≤ 0 := c
                    rw [SL_len, SL_len] at z
                    omega
                  walk_at "sx"
                  show Q (.str (SL hd ++ SL bd)) H3
                  rw [SL_app]
                  refine eT _ ?_ _ (Same.refl _)
                  rw [codes_no F i row hrow row1 (by rw [← hhd, ← hbd]; exact cl), ← hhd, ← hbd]
                · obtain ⟨L, hL⟩ : ∃ L, L = F.width - hd.length - bd.length := ⟨_, rfl⟩
                  have eL : ((F.width : Nat) : Int) - (((SL hd).length : Nat) : Int) - (((SL bd).length : Nat) : Int) = ((L : Nat) : Int) := by
                    have z : ¬ ((F.width : Nat) : Int) - (((SL hd).length : Nat) : Int) - (((SL bd).length : Nat) : Int) ≤ 0 := c
                    rw [SL_len, SL_len] at z ⊢
                    omega
                  have L12 : L ≤ 12 := by omega
                  have ca := codes_at F i row hrow row1 L (by rw [← hhd, ← hbd]; exact hL)
                  rw [← hhd, ← hbd] at ca
                  clear c hL
                  have fl : ∀ n : Nat, repC F.fill n = SL (List.replicate n F.fill) := fun n => repC_SL F.fill n
                  have fll : ∀ n : Nat, (SL (List.replicate n F.fill)).length = n := fun n => by rw [SL_len, List.length_replicate]
                  dsimp only
                  rw [eL]
                  clear eL
                  walk_at "sx"
                  refine iteD (fun c2 => ?_) (fun c2 => ?_)
                  · have l1 : (SL hd).length + (repC F.fill (Int.toNat ((L : Nat) : Int))).length ≤ sizeLine := by
                      refine sz_le ?_
                      rw [Int.toNat_natCast, fl, fll, SL_len]
                      omega
                    have l2 : (SL hd ++ repC F.fill (Int.toNat ((L : Nat) : Int)) : Str).length + (SL bd).length ≤ sizeLine := by
                      refine sz_le ?_
                      rw [Int.toNat_natCast, fl, SL_app, SL_len, SL_len, List.length_append, List.length_replicate]
                      omega
                    walk_at "sx"
                    show Q (.str (SL hd ++ repC F.fill (Int.toNat ((L : Nat) : Int)) ++ SL bd)) H3
                    rw [Int.toNat_natCast, fl, SL_app, SL_app]
                    refine eT _ ?_ _ (Same.refl _)
                    rw [ca, c2, if_neg (by decide), if_neg (by decide), if_pos rfl, List.append_assoc]
                  · obtain ⟨a, ha⟩ : ∃ a : Nat, a = if F.side = "left" then L else if F.side = "right" then 0 else L / 2 := ⟨_, rfl⟩
                    have aL : a ≤ L := by
                      rw [ha]
                      split
                      · omega
                      · split <;> omega
                    have sv : valV (mergeK [] [((Sum.inr "left" : Key), V.int ((L : Nat) : Int)), (Sum.inr "right", V.int 0), (Sum.inr "both", V.int (((L : Nat) : Int) / 2))]) (Sum.inr F.side) = some (.int ((a : Nat) : Int)) := by
                      rw [sides_val F ok c2, ha]
                      split
                      · rfl
                      · split <;> rfl
                    have cd2 : CDv ((L : Nat) : Int) 2 := ⟨by omega, by omega⟩
                    have l4 : (SL hd ++ SL bd : Str).length + (repC F.fill (Int.toNat (((L : Nat) : Int) - ((a : Nat) : Int)))).length ≤ sizeLine := by
                      refine sz_le ?_
                      rw [fl, SL_app, SL_len, SL_len, List.length_append, List.length_replicate]
                      omega
                    have l5 : (repC F.fill (Int.toNat ((a : Nat) : Int))).length + (SL hd ++ SL bd ++ repC F.fill (Int.toNat (((L : Nat) : Int) - ((a : Nat) : Int))) : Str).length ≤ sizeLine := by
                      refine sz_le ?_
                      rw [fl, fl, SL_app, SL_app, SL_len, SL_len, List.length_append, List.length_append, List.length_replicate, List.length_replicate]
                      omega
                    intro p H4 n4 s4 h4
                    walk_at "sx"
                    intro H5 b5 h5
                    have h05 := (Same.but s4 n4 b5) _ _ h03
                    walk_at "sx"
                    show Q (.str (repC F.fill (Int.toNat ((a : Nat) : Int)) ++ (SL hd ++ SL bd ++ repC F.fill (Int.toNat (((L : Nat) : Int) - ((a : Nat) : Int)))))) H5
                    rw [fl, fl, SL_app, SL_app, SL_app]
                    refine eT _ ?_ _ (Same.but s4 n4 b5)
                    rw [ca, show (Int.toNat (((L : Nat) : Int) - ((a : Nat) : Int))) = L - a by omega, Int.toNat_natCast, ha]
                    split
                    · rw [Nat.sub_self, List.replicate_zero, List.append_nil]
                    · split
                      · rw [Nat.sub_zero, List.replicate_zero, List.nil_append, List.append_assoc]
                      · rw [List.append_assoc]
            · refine ⟨1, row.length - 1, row.take 1, none, rfl, by omega, by omega, ?_, rfl, ?_, ?_⟩
              · rw [show cutS (SL row) none (some 1) = SL (row.take 1) from SL_cut row]
                rfl
              · unfold bodyN bodyL
                cases row with
                | nil => simp at row1
                | cons a r => rfl
              · rw [List.length_take]; omega
end

end Fg
set_option Elab.async false
set_option linter.all false
set_option maxRecDepth 100000
set_option maxHeartbeats 4000000
namespace Fg
open PySem PySem.Spec PyProof.Rows L2
local macro_rules | `(tactic| walk_at "hp") => `(tactic| first | assumption | (refine Same.get (by assumption) ?_; walk_at "hp"))
local macro_rules | `(tactic| walk_at "sq") => `(tactic| first | assumption | (exact Or.inr (by assumption)) | (exact Or.inl (by assumption)) | (exact Or.inl (SqL.of (by walk_at "hp"))) | (exact Or.inr (SqT.of (by walk_at "hp"))) | (exact SqL.of (by walk_at "hp")) | (exact SqT.of (by walk_at "hp")))
local macro_rules | `(tactic| walk_at "cl") => `(tactic| first | ((first | show (_ : Int) < _ | show (_ : Int) ≤ _); first | omega | decide) | ((first | show (_ : Nat) < _ | show (_ : Nat) ≤ _); first | with_reducible assumption | (refine sz_le ?_; first | decide | omega | (simp <;> omega)) | (refine sz_lt ?_; first | decide | omega | (simp <;> omega)) | omega | decide | ((with_reducible show List.length _ < _); exact Nat.le_of_ble_eq_true rfl)) | rfl | walk_at "hp" | walk_at "sq" | (refine And.intro (by walk_at "cl") (by walk_at "cl")) | (exact Exists.intro _ (by walk_at "hp")) | (exact Exists.intro _ (Exists.intro _ (by walk_at "hp"))) | (exact Exists.intro _ (Exists.intro _ (And.intro (by walk_at "hp") rfl))) | decide | (exact Or.inl (by walk_at "cl")) | (exact Or.inr (by walk_at "cl")) | omega)
local macro_rules | `(tactic| walk_at "s1") => `(tactic| first | refine And.intro (by walk_at "cl") ?_ | apply Exists.intro)
local macro_rules | `(tactic| walk_at "sx") => `(tactic| repeat walk_at "s1")
local macro_rules | `(tactic| walk_at "si") => `(tactic| first | refine iteY rfl ?_ | refine iteN rfl ?_)
local macro_rules | `(tactic| walk_at "sy") => `(tactic| repeat first | walk_at "s1" | walk_at "si")
/-- an invariant of a loop whose turns leave nothing -/
theorem Loop.byAny {st : Hp → Prop} {g : TG} {tb : TS} {D : Ends} (Pv : List V → L2.St → Hp → Prop)
    (hs : ∀ (D : Ends) x r σ H, Pv (x :: r) σ H → ∀ N : L2.St → Hp → Prop, (∀ σ' H', st H' → Pv r σ' H' → N σ' H') → g x σ H fun σ2 H2 => tb { D with nx := N, ct := N, bk := D.nx } σ2 H2)
    (hd : ∀ σ H, Pv [] σ H → D.nx σ H) (xs : List V) (σ : L2.St) (H : Hp) (h : Pv xs σ H) : Loop st g tb D xs σ H := Loop.by Pv (hs D) hd xs σ H h
theorem TyX.ext {K : PySem.W.Frag} {H H' : Hp} {v : V} {t : Value} (s : LamX.ExtN H H') (h : TyX K H v t) : TyX K H' v t := by
  cases h with
  | base b =>
    cases b with
    | non => exact .base .non
    | bl b => exact .base (.bl b)
    | int b => exact .base (.int b)
    | str b => exact .base (.str b)
    | flt b => exact .base (.flt b)
    | lst e => exact .base (.lst (s _ _ e fun _ z => by cases z))
    | frz e => exact .base (.frz (s _ _ e fun _ z => by cases z))
    | tup e => exact .base (.tup (s _ _ e fun _ z => by cases z))
    | dK e => exact .base (.dK (s _ _ e fun _ z => by cases z))
    | dT e => exact .base (.dT (s _ _ e fun _ z => by cases z))
    | ins e cl ha hn htk => exact .base (.ins (s _ _ e fun _ z => by cases z) cl ha hn htk (by assumption))
  | byt b => exact .byt b
  | set e => exact .set (s _ _ e fun _ z => by cases z)
  | kList e c => exact .kList e c
  | kTuple e c => exact .kTuple e c
  | kDict e c => exact .kDict e c
  | fTuple e => exact .fTuple (s _ _ e fun _ z => by cases z)
  | fDict e => exact .fDict (s _ _ e fun _ z => by cases z)
theorem RefTy.ext {K : PySem.W.Frag} {H H' : Hp} {a : Addr} {c : Value} {b : Bool} (s : LamX.ExtN H H') (h : RefTy K H a c b) : RefTy K H' a c b := by
  obtain ⟨t, x, k⟩ := h
  exact ⟨t, TyX.ext s x, k⟩
theorem AnyV.ext {K : PySem.W.Frag} {H H' : Hp} {v : V} (s : LamX.ExtN H H') (h : AnyV K H v) : AnyV K H' v := by
  cases v with
  | ref a => exact ⟨RefTy.ext s h.1, RefTy.ext s h.2⟩
  | _ => exact h
theorem any_of {K : PySem.W.Frag} {H : Hp} {a : Addr} {n : String} (t : TyX K H (.ref a) (.type n)) (h : n = "tuple" ∨ n = "list" ∨ n = "dict") : AnyV K H (.ref a) := by
  rcases h with rfl | rfl | rfl <;> exact ⟨⟨_, t, kit_ty (by decide +kernel)⟩, ⟨_, t, kit_ty (by decide +kernel)⟩⟩
/-- an invariant of a walk over pairs whose turns leave nothing but by the return's end -/
theorem LoopZ.byAny {st : Hp → Prop} {g : TG} {tb : TS} {D : Ends} (Pv : List (V × V) → L2.St → Hp → Prop)
    (hs : ∀ x r σ H, Pv (x :: r) σ H → ∀ N : L2.St → Hp → Prop, (∀ σ' H', st H' → Pv r σ' H' → N σ' H') → ∀ T H', H T = none → Same H H' → H' T = some (.tup [x.1, x.2]) → g (.ref T) σ H' fun σ2 H2 => tb { nx := N, ct := N, bk := D.nx, rt := D.rt } σ2 H2)
    (hd : ∀ σ H, Pv [] σ H → D.nx σ H) (xs : List (V × V)) (σ : L2.St) (H : Hp) (h : Pv xs σ H) : LoopZ st g tb D xs σ H := LoopZ.by Pv hs hd xs σ H h
/-- the same of a walk over a row, the return's end told -/
theorem Loop.byR {st : Hp → Prop} {g : TG} {tb : TS} {D : Ends} (R : VK) (hR : D.rt = R) (Pv : List V → L2.St → Hp → Prop)
    (hs : ∀ (Dn Db : L2.St → Hp → Prop) x r σ H, Pv (x :: r) σ H → ∀ N : L2.St → Hp → Prop, (∀ σ' H', st H' → Pv r σ' H' → N σ' H') → g x σ H fun σ2 H2 => tb { nx := N, ct := N, bk := Dn, rt := R } σ2 H2)
    (hd : ∀ σ H, Pv [] σ H → D.nx σ H) (xs : List V) (σ : L2.St) (H : Hp) (h : Pv xs σ H) : Loop st g tb D xs σ H := Loop.by Pv (fun x r σ H hp N hN => by
      have z := hs D.nx D.nx x r σ H hp N hN
      rw [← hR] at z
      exact z) hd xs σ H h

end Fg
set_option Elab.async false
set_option linter.all false
set_option maxRecDepth 100000
set_option maxHeartbeats 4000000
namespace Fg
open PySem PySem.Spec PyProof.Rows L2
local macro_rules | `(tactic| walk_at "hp") => `(tactic| first | assumption | (refine Same.get (by assumption) ?_; walk_at "hp"))
local macro_rules | `(tactic| walk_at "sq") => `(tactic| first | assumption | (exact Or.inr (by assumption)) | (exact Or.inl (by assumption)) | (exact Or.inl (SqL.of (by walk_at "hp"))) | (exact Or.inr (SqT.of (by walk_at "hp"))) | (exact SqL.of (by walk_at "hp")) | (exact SqT.of (by walk_at "hp")))
local macro_rules | `(tactic| walk_at "cl") => `(tactic| first | ((first | show (_ : Int) < _ | show (_ : Int) ≤ _); first | omega | decide) | ((first | show (_ : Nat) < _ | show (_ : Nat) ≤ _); first | with_reducible assumption | (refine sz_le ?_; first | decide | omega | (simp <;> omega)) | (refine sz_lt ?_; first | decide | omega | (simp <;> omega)) | omega | decide | ((with_reducible show List.length _ < _); exact Nat.le_of_ble_eq_true rfl)) | rfl | walk_at "hp" | walk_at "sq" | (refine And.intro (by walk_at "cl") (by walk_at "cl")) | (exact Exists.intro _ (by walk_at "hp")) | (exact Exists.intro _ (Exists.intro _ (by walk_at "hp"))) | (exact Exists.intro _ (Exists.intro _ (And.intro (by walk_at "hp") rfl))) | decide | (exact Or.inl (by walk_at "cl")) | (exact Or.inr (by walk_at "cl")) | omega)
local macro_rules | `(tactic| walk_at "s1") => `(tactic| first | refine And.intro (by walk_at "cl") ?_ | apply Exists.intro)
local macro_rules | `(tactic| walk_at "sx") => `(tactic| repeat walk_at "s1")
local macro_rules | `(tactic| walk_at "si") => `(tactic| first | refine iteY rfl ?_ | refine iteN rfl ?_)
local macro_rules | `(tactic| walk_at "sy") => `(tactic| repeat first | walk_at "s1" | walk_at "si")
/-! ### reading integers -/
def sizeN (b : Nat) (ds : List Nat) : Nat := ds.foldl (fun s d => s * b + d) 0
theorem size_go (b : Nat) : ∀ (ds : List Nat) (a : Nat), ds.foldl (fun s d => s * b + d) a = a * b ^ ds.length + sizeN b ds
  | [], a => by simp [sizeN]
  | d :: r, a => by
    show r.foldl _ (a * b + d) = _
    rw [size_go b r (a * b + d)]
    show _ = a * b ^ (r.length + 1) + r.foldl (fun s d => s * b + d) (0 * b + d)
    rw [size_go b r (0 * b + d), Nat.pow_succ, Nat.add_mul, Nat.add_mul, Nat.zero_mul, Nat.zero_mul, Nat.zero_add, Nat.mul_assoc, Nat.mul_comm b (b ^ r.length), Nat.add_assoc]
theorem size_app (b : Nat) (x y : List Nat) : sizeN b (x ++ y) = sizeN b x * b ^ y.length + sizeN b y := by
  unfold sizeN
  rw [List.foldl_append, size_go]
  rfl
theorem size_one (b d : Nat) : sizeN b [d] = d := by simp [sizeN]
theorem size_zeros (b : Nat) : ∀ k, sizeN b (List.replicate k 0) = 0
  | 0 => rfl
  | k + 1 => by
    rw [List.replicate_succ]
    show (List.replicate k 0).foldl _ (0 * b + 0) = 0
    rw [Nat.zero_mul]
    exact size_zeros b k
theorem size_lt {b : Nat} (hb : 1 ≤ b) : ∀ (ds : List Nat), (∀ d ∈ ds, d < b) → sizeN b ds < b ^ ds.length
  | [], _ => by simp [sizeN]
  | d :: r, h => by
    have ih := size_lt hb r fun x hx => h x (List.mem_cons_of_mem _ hx)
    have hd := h d (List.mem_cons_self ..)
    have e : sizeN b (d :: r) = d * b ^ r.length + sizeN b r := by
      have := size_app b [d] r
      rwa [size_one] at this
    rw [e, List.length_cons, Nat.pow_succ]
    have h2 : (d + 1) * b ^ r.length ≤ b * b ^ r.length := Nat.mul_le_mul_right _ hd
    rw [Nat.add_mul, Nat.one_mul] at h2
    rw [Nat.mul_comm (b ^ r.length) b]
    omega
/-- the figures of n, the last one first -/
theorem rdigs_eq {b : Nat} (hb : 2 ≤ b) : ∀ (k n : Nat), n ≤ k + 1 → rdigs b k n = if b ≤ n then n % b :: rdigs b (k - 1) (n / b) else [n % b]
  | 0, n, h => by
    have : ¬ b ≤ n := by omega
    rw [if_neg this, rdigs]
  | k + 1, n, h => by
    rw [rdigs]
    split <;> rfl
theorem rdigs_fuel {b : Nat} (hb : 2 ≤ b) : ∀ (n k j : Nat), n ≤ k + 1 → n ≤ j + 1 → rdigs b k n = rdigs b j n := by
  intro n
  induction n using Nat.strongRecOn with
  | _ n ih =>
    intro k j hk hj
    rw [rdigs_eq hb k n hk, rdigs_eq hb j n hj]
    split
    · rename_i hn
      have : n / b ≤ n / 2 := Nat.div_le_div_left hb (by decide)
      rw [ih (n / b) (by omega) (k - 1) (j - 1) (by omega) (by omega)]
    · rfl
theorem digs_rec {b n : Nat} (hb : 2 ≤ b) (h : b ≤ n) : digs b n = digs b (n / b) ++ [n % b] := by
  unfold digs
  have : n / b ≤ n / 2 := Nat.div_le_div_left hb (by decide)
  rw [rdigs_eq hb n n (by omega), if_pos h, List.reverse_cons, rdigs_fuel hb (n / b) (n - 1) (n / b) (by omega) (by omega)]
theorem digs_small {b n : Nat} (hb : 2 ≤ b) (h : n < b) : digs b n = [n] := by
  unfold digs
  rw [rdigs_eq hb n n (by omega), if_neg (by omega), Nat.mod_eq_of_lt h]
  rfl
theorem size_digs {b : Nat} (hb : 2 ≤ b) (n : Nat) : sizeN b (digs b n) = n := by
  induction n using Nat.strongRecOn with
  | _ n ih =>
    by_cases h : b ≤ n
    · rw [digs_rec hb h, size_app, size_one, List.length_singleton, Nat.pow_one, ih (n / b) (Nat.div_lt_self (by omega) (by omega)), Nat.mul_comm]
      exact Nat.div_add_mod n b
    · rw [digs_small hb (by omega), size_one]
/-- figures are zeros, then those of their size -/
theorem size_strip {b : Nat} (hb : 2 ≤ b) : ∀ (m : Nat) (ds : List Nat), ds.length = m → ds ≠ [] → (∀ d ∈ ds, d < b) → ∃ k, ds = List.replicate k 0 ++ digs b (sizeN b ds)
  | 0, ds, hl, hn, _ => absurd (List.length_eq_zero_iff.mp hl) hn
  | m + 1, ds, hl, hn, hd => by
    obtain ⟨r, x, rfl⟩ : ∃ r x, ds = r ++ [x] := ⟨ds.dropLast, ds.getLast hn, (List.dropLast_concat_getLast hn).symm⟩
    have hx : x < b := hd x (by simp)
    have es : sizeN b (r ++ [x]) = sizeN b r * b + x := by rw [size_app, size_one, List.length_singleton, Nat.pow_one]
    by_cases hr : r = []
    · subst hr
      refine ⟨0, ?_⟩
      rw [List.nil_append, size_one, digs_small hb hx]
      rfl
    · obtain ⟨k, hk⟩ := size_strip hb m r (by simp at hl; omega) hr fun d h => hd d (by simp [h])
      by_cases z : sizeN b r = 0
      · refine ⟨k + 1, ?_⟩
        rw [es, z, Nat.zero_mul, Nat.zero_add, digs_small hb hx, List.replicate_succ', List.append_assoc]
        rw [z, digs_small hb (by omega)] at hk
        rw [hk]
        simp
      · refine ⟨k, ?_⟩
        have hge : b ≤ sizeN b r * b + x := by
          have : 1 * b ≤ sizeN b r * b := Nat.mul_le_mul_right _ (by omega)
          omega
        have e1 : (sizeN b r * b + x) / b = sizeN b r := by
          rw [Nat.mul_comm, Nat.mul_add_div (by omega), Nat.div_eq_of_lt hx, Nat.add_zero]
        have e2 : (sizeN b r * b + x) % b = x := by rw [Nat.mul_comm, Nat.mul_add_mod, Nat.mod_eq_of_lt hx]
        rw [es, digs_rec hb hge, e1, e2, ← List.append_assoc, ← hk]
theorem figC_inj : ∀ d e : Fin 16, figC d.val = figC e.val → d = e := by decide +kernel
theorem figC_eq {d e : Nat} (h1 : d < 16) (h2 : e < 16) (h : figC d = figC e) : d = e := congrArg Fin.val (figC_inj ⟨d, h1⟩ ⟨e, h2⟩ h)
/-- the figure of a sign -/
def figIx (b s : Nat) : Option Nat := (List.range b).find? fun d => figC d == s
theorem figIx_some {b s d : Nat} (h : figIx b s = some d) : d < b ∧ figC d = s := by
  have h1 := List.find?_some h
  have h2 := List.mem_of_find?_eq_some h
  exact ⟨List.mem_range.mp h2, by simpa using h1⟩
theorem figIx_of {b d : Nat} (hb : b ≤ 16) (h : d < b) : figIx b (figC d) = some d := by
  cases e : figIx b (figC d) with
  | none =>
    have := List.find?_eq_none.mp e d (List.mem_range.mpr h)
    simp at this
  | some x =>
    obtain ⟨h1, h2⟩ := figIx_some e
    rw [figC_eq (by omega) (by omega) h2]
def takeF (b : Nat) : List (Option Nat) → List Nat → Option (List Nat)
  | [], [] => some []
  | some c :: r, s :: l => if c = s then takeF b r l else none
  | none :: r, s :: l => match figIx b s with
    | some d => (takeF b r l).map (d :: ·)
    | none => none
  | [], _ :: _ => none
  | _ :: _, [] => none
theorem takeF_iff {b : Nat} (hb : b ≤ 16) : ∀ (lay : List (Option Nat)) (l ds : List Nat), takeF b lay l = some ds ↔ ds.length = need lay ∧ (∀ d ∈ ds, d < b) ∧ fillIn lay (ds.map figC) = l ∧ l.length = lay.length
  | [], [], ds => by
    constructor
    · intro h
      cases h
      exact ⟨rfl, (fun _ z => by cases z), rfl, rfl⟩
    · rintro ⟨h, _⟩
      rw [List.length_eq_zero_iff.mp h]
      rfl
  | [], _ :: _, ds => by
    constructor
    · intro h; cases h
    · rintro ⟨_, _, _, h⟩; cases h
  | _ :: _, [], ds => by
    constructor
    · intro h; simp [takeF] at h
    · rintro ⟨_, _, _, h⟩; cases h
  | some c :: r, s :: l, ds => by
    rw [takeF]
    by_cases e : c = s
    · subst e
      rw [if_pos rfl, takeF_iff hb r l ds]
      constructor
      · rintro ⟨h1, h2, h3, h4⟩
        exact ⟨h1, h2, by show c :: fillIn r _ = _; rw [h3], by simp [h4]⟩
      · rintro ⟨h1, h2, h3, h4⟩
        exact ⟨h1, h2, (List.cons.inj h3).2, by simpa using h4⟩
    · rw [if_neg e]
      constructor
      · intro h; cases h
      · rintro ⟨_, _, h3, _⟩
        exact absurd (List.cons.inj h3).1 e
  | none :: r, s :: l, ds => by
    rw [takeF]
    constructor
    · intro h
      split at h
      · rename_i d hd
        obtain ⟨d1, d2⟩ := figIx_some hd
        cases e : takeF b r l with
        | none => rw [e] at h; cases h
        | some ds' =>
          rw [e] at h
          cases h
          obtain ⟨h1, h2, h3, h4⟩ := (takeF_iff hb r l ds').mp e
          refine ⟨by simp [need, h1], fun x hx => ?_, ?_, by simp [h4]⟩
          · rcases List.mem_cons.mp hx with rfl | hx
            · exact d1
            · exact h2 x hx
          · show figC d :: fillIn r _ = _
            rw [d2, h3]
      · cases h
    · rintro ⟨h1, h2, h3, h4⟩
      cases ds with
      | nil => cases h1
      | cons d ds =>
        have h3' : figC d :: fillIn r (ds.map figC) = s :: l := h3
        obtain ⟨e1, e2⟩ := List.cons.inj h3'
        have hd := h2 d (List.mem_cons_self ..)
        rw [← e1, figIx_of hb hd]
        have := (takeF_iff hb r l ds).mpr ⟨by simpa [need] using h1, fun x hx => h2 x (List.mem_cons_of_mem _ hx), e2, by simpa using h4⟩
        rw [this]
        rfl
/-- the integer of a sign and a number of figures with these codes -/
def readN (F : Fm) (l : List Nat) (neg : Bool) (n : Nat) : Option Int := match takeF F.base (layL F neg n) l with
  | none => none
  | some ds => if F.least < n ∧ ds.head? = some 0 then none else if neg = true then (if 0 < sizeN F.base ds then some (-((sizeN F.base ds : Nat) : Int)) else none) else some ((sizeN F.base ds : Nat) : Int)
/-- the figures that are written -/
def rowD (F : Fm) (n : Nat) : List Nat := List.replicate (F.least - (digs F.base n).length) 0 ++ digs F.base n
theorem rowD_map (F : Fm) (n : Nat) : (rowD F n).map figC = rowN F n := by
  unfold rowD rowN
  rw [List.map_append, List.map_replicate]
  rfl
theorem rowD_len (F : Fm) (n : Nat) : (rowD F n).length = (rowN F n).length := by rw [← rowD_map, List.length_map]
theorem rowD_lt (F : Fm) (ok : F.Ok) (n : Nat) : ∀ d ∈ rowD F n, d < F.base := fun d hd => by
  have := ok.b1
  rcases List.mem_append.mp hd with h | h
  · rw [(List.mem_replicate.mp h).2]; omega
  · exact digs_lt (by omega) h
theorem size_rowD (F : Fm) (ok : F.Ok) (n : Nat) : sizeN F.base (rowD F n) = n := by
  unfold rowD
  rw [size_app, size_zeros, Nat.zero_mul, Nat.zero_add, size_digs ok.b1]
theorem digs_head {b : Nat} (hb : 2 ≤ b) (n : Nat) : (digs b n).head? = some 0 → n = 0 := by
  induction n using Nat.strongRecOn with
  | _ n ih =>
    intro h
    by_cases c : b ≤ n
    · rw [digs_rec hb c] at h
      have h' : (digs b (n / b)).head? = some 0 := by
        cases e : digs b (n / b) with
        | nil => exact absurd e digs_nil
        | cons x r => rw [e] at h; exact h
      have z := ih (n / b) (Nat.div_lt_self (by omega) (by omega)) h'
      have := Nat.div_pos c (by omega)
      omega
    · rw [digs_small hb (by omega)] at h
      simpa using h
/-- which figures are a row -/
theorem row_iff (F : Fm) (ok : F.Ok) (ds : List Nat) (hd : ∀ d ∈ ds, d < F.base) (hl : F.least ≤ ds.length) : (¬ (F.least < ds.length ∧ ds.head? = some 0)) ↔ ds = rowD F (sizeN F.base ds) := by
  have l1 := ok.l1
  have hn : ds ≠ [] := fun z => by rw [z] at hl; simp at hl; omega
  obtain ⟨k, hk⟩ := size_strip ok.b1 _ ds rfl hn hd
  have len : ds.length = k + (digs F.base (sizeN F.base ds)).length := by
    have := congrArg List.length hk
    rwa [List.length_append, List.length_replicate] at this
  constructor
  · intro h
    unfold rowD
    by_cases c : F.least < ds.length
    · have h0 : ds.head? ≠ some 0 := fun z => h ⟨c, z⟩
      have k0 : k = 0 := by
        cases k with
        | zero => rfl
        | succ k => exact absurd (by rw [hk]; rfl) h0
      rw [k0] at hk len
      rw [show F.least - (digs F.base (sizeN F.base ds)).length = 0 by omega]
      exact hk
    · rw [show F.least - (digs F.base (sizeN F.base ds)).length = k by omega]
      exact hk
  · rintro h ⟨c, h0⟩
    have len2 : ds.length = (F.least - (digs F.base (sizeN F.base ds)).length) + (digs F.base (sizeN F.base ds)).length := by
      have := congrArg List.length h
      unfold rowD at this
      rwa [List.length_append, List.length_replicate] at this
    have k0 : k = 0 := by omega
    rw [k0, List.replicate_zero, List.nil_append] at hk
    have z := digs_head ok.b1 (sizeN F.base ds) (by rw [← hk]; exact h0)
    rw [z, digs_small ok.b1 (by have := ok.b1; omega)] at len2
    simp at len2
    omega
theorem read_iff (F : Fm) (ok : F.Ok) (l : List Nat) (neg : Bool) (n : Nat) (hn : F.least ≤ n) (i : Int) :
    readN F l neg n = some i ↔ decide (i < 0) = neg ∧ (rowN F i.natAbs).length = n ∧ codesI F i = l := by
  have l1 := ok.l1
  have nl := need_lay F neg (show 1 ≤ n by omega)
  unfold readN
  constructor
  · intro h
    cases e : takeF F.base (layL F neg n) l with
    | none => rw [e] at h; cases h
    | some ds =>
      rw [e] at h
      obtain ⟨h1, h2, h3, h4⟩ := (takeF_iff ok.b2 _ _ _).mp e
      rw [nl] at h1
      dsimp only at h
      split at h
      · cases h
      · rename_i hh
        rw [← h1] at hh
        have hr := (row_iff F ok ds h2 (by omega)).mp hh
        have key : ∀ j : Int, j.natAbs = sizeN F.base ds → decide (j < 0) = neg → decide (j < 0) = neg ∧ (rowN F j.natAbs).length = n ∧ codesI F j = l := fun j e1 e2 => by
          refine ⟨e2, ?_, ?_⟩
          · rw [e1, ← rowD_len, ← hr, h1]
          · unfold codesI
            rw [e1, e2, ← rowD_map, ← hr, List.length_map, h1]
            exact h3
        split at h
        · rename_i hneg
          split at h
          · rename_i hz
            cases h
            exact key _ (by rw [Int.natAbs_neg, Int.natAbs_natCast]) (by rw [hneg]; exact decide_eq_true (by omega))
          · cases h
        · rename_i hneg
          cases h
          refine key _ (Int.natAbs_natCast _) ?_
          cases neg with
          | true => exact absurd rfl hneg
          | false => exact decide_eq_false (by omega)
  · rintro ⟨h1, h2, h3⟩
    have e : takeF F.base (layL F neg n) l = some (rowD F i.natAbs) := by
      refine (takeF_iff ok.b2 _ _ _).mpr ⟨by rw [rowD_len, h2, nl], rowD_lt F ok _, ?_, ?_⟩
      · rw [rowD_map]
        unfold codesI at h3
        rw [h1, h2] at h3
        exact h3
      · rw [← h3]
        unfold codesI
        rw [h1, h2]
        have fl : ∀ (b : List (Option Nat)) (ds : List Nat), need b = ds.length → (fillIn b ds).length = b.length := fun b ds => fillIn_full b ds
        exact fl _ _ (by rw [nl, h2])
    rw [e]
    dsimp only
    have hr := (row_iff F ok (rowD F i.natAbs) (rowD_lt F ok _) (by rw [rowD_len, h2]; exact hn)).mpr (by rw [size_rowD F ok])
    rw [rowD_len, h2] at hr
    rw [if_neg hr, size_rowD F ok]
    cases neg with
    | true =>
      have := of_decide_eq_true h1
      rw [if_pos rfl, if_pos (by omega)]
      congr 1
      omega
    | false =>
      have := of_decide_eq_false h1
      rw [if_neg (by decide)]
      congr 1
      omega
/-- all integers with these codes -/
def allN (F : Fm) (l : List Nat) : List Int := (List.range' F.least (l.length + 1 - F.least)).flatMap fun n => (readN F l true n).toList ++ (readN F l false n).toList
theorem codes_ge (F : Fm) (ok : F.Ok) (i : Int) : (rowN F i.natAbs).length ≤ (codesI F i).length ∧ F.least ≤ (rowN F i.natAbs).length := by
  have l1 := ok.l1
  have h2 : F.least ≤ (rowN F i.natAbs).length := by unfold rowN; simp; omega
  refine ⟨?_, h2⟩
  have nl := need_lay F (decide (i < 0)) (show 1 ≤ (rowN F i.natAbs).length by omega)
  unfold codesI
  rw [fillIn_full _ _ nl]
  have : ∀ b : List (Option Nat), need b ≤ b.length := fun b => by
    induction b with
    | nil => exact Nat.le_refl _
    | cons o r ih => cases o <;> simp [need] <;> omega
  have z := this (layL F (decide (i < 0)) (rowN F i.natAbs).length)
  omega
theorem all_iff (F : Fm) (ok : F.Ok) (l : List Nat) (i : Int) : i ∈ allN F l ↔ codesI F i = l := by
  unfold allN
  rw [List.mem_flatMap]
  constructor
  · rintro ⟨n, hn, h⟩
    have hn2 := (List.mem_range'.mp hn)
    obtain ⟨j, _, rfl⟩ := hn2
    rcases List.mem_append.mp h with h | h
    · exact ((read_iff F ok l true _ (by omega) i).mp (Option.mem_toList.mp h)).2.2
    · exact ((read_iff F ok l false _ (by omega) i).mp (Option.mem_toList.mp h)).2.2
  · intro h
    obtain ⟨g1, g2⟩ := codes_ge F ok i
    rw [h] at g1
    refine ⟨(rowN F i.natAbs).length, List.mem_range'.mpr ⟨(rowN F i.natAbs).length - F.least, by omega, by omega⟩, List.mem_append.mpr ?_⟩
    by_cases c : i < 0
    · exact .inl (Option.mem_toList.mpr ((read_iff F ok l true _ g2 i).mpr ⟨decide_eq_true c, rfl, h⟩))
    · exact .inr (Option.mem_toList.mpr ((read_iff F ok l false _ g2 i).mpr ⟨decide_eq_false c, rfl, h⟩))
/-- two rising lists of the same integers are one -/
theorem rise_eq : ∀ {x y : List Int}, x.Pairwise (· < ·) → y.Pairwise (· < ·) → (∀ i, i ∈ x ↔ i ∈ y) → x = y
  | [], [], _, _, _ => rfl
  | [], b :: y, _, _, h => absurd ((h b).mpr (List.mem_cons_self ..)) List.not_mem_nil
  | a :: x, [], _, _, h => absurd ((h a).mp (List.mem_cons_self ..)) List.not_mem_nil
  | a :: x, b :: y, hx, hy, h => by
    obtain ⟨hx1, hx2⟩ := List.pairwise_cons.mp hx
    obtain ⟨hy1, hy2⟩ := List.pairwise_cons.mp hy
    have e : a = b := by
      rcases List.mem_cons.mp ((h a).mp (List.mem_cons_self ..)) with e | m
      · exact e
      · rcases List.mem_cons.mp ((h b).mpr (List.mem_cons_self ..)) with e | m2
        · exact e.symm
        · have := hy1 a m
          have := hx1 b m2
          omega
    subst e
    refine congrArg _ (rise_eq hx2 hy2 fun i => ?_)
    constructor
    · intro hi
      rcases List.mem_cons.mp ((h i).mp (List.mem_cons_of_mem _ hi)) with e | m
      · have := hx1 i hi
        omega
      · exact m
    · intro hi
      rcases List.mem_cons.mp ((h i).mpr (List.mem_cons_of_mem _ hi)) with e | m
      · have := hy1 i hi
        omega
      · exact m
theorem codes_small (F : Fm) (ok : F.Ok) (i : Int) (h : (codesI F i).length ≤ 80) : SmI i := by
  obtain ⟨g1, _⟩ := codes_ge F ok i
  have e : (digs F.base i.natAbs).length ≤ 80 := by
    have : (digs F.base i.natAbs).length ≤ (rowN F i.natAbs).length := by unfold rowN; simp
    omega
  have b1 := ok.b1
  have s := size_lt (b := F.base) (by omega) (digs F.base i.natAbs) fun d hd => digs_lt (by omega) hd
  rw [size_digs ok.b1] at s
  have p1 : F.base ^ (digs F.base i.natAbs).length ≤ 16 ^ 80 := Nat.le_trans (Nat.pow_le_pow_left ok.b2 _) (Nat.pow_le_pow_right (by decide) e)
  have p2 : (16 : Nat) ^ 80 < 10 ^ 100 := by decide +kernel
  unfold SmI
  omega

end Fg
set_option Elab.async false
set_option linter.all false
set_option maxRecDepth 100000
set_option maxHeartbeats 4000000
namespace Fg
open PySem PySem.Spec PyProof.Rows L2
local macro_rules | `(tactic| walk_at "hp") => `(tactic| first | assumption | (refine Same.get (by assumption) ?_; walk_at "hp"))
local macro_rules | `(tactic| walk_at "sq") => `(tactic| first | assumption | (exact Or.inr (by assumption)) | (exact Or.inl (by assumption)) | (exact Or.inl (SqL.of (by walk_at "hp"))) | (exact Or.inr (SqT.of (by walk_at "hp"))) | (exact SqL.of (by walk_at "hp")) | (exact SqT.of (by walk_at "hp")))
local macro_rules | `(tactic| walk_at "cl") => `(tactic| first | ((first | show (_ : Int) < _ | show (_ : Int) ≤ _); first | omega | decide) | ((first | show (_ : Nat) < _ | show (_ : Nat) ≤ _); first | with_reducible assumption | (refine sz_le ?_; first | decide | omega | (simp <;> omega)) | (refine sz_lt ?_; first | decide | omega | (simp <;> omega)) | omega | decide | ((with_reducible show List.length _ < _); exact Nat.le_of_ble_eq_true rfl)) | rfl | walk_at "hp" | walk_at "sq" | (refine And.intro (by walk_at "cl") (by walk_at "cl")) | (exact Exists.intro _ (by walk_at "hp")) | (exact Exists.intro _ (Exists.intro _ (by walk_at "hp"))) | (exact Exists.intro _ (Exists.intro _ (And.intro (by walk_at "hp") rfl))) | decide | (exact Or.inl (by walk_at "cl")) | (exact Or.inr (by walk_at "cl")) | omega)
local macro_rules | `(tactic| walk_at "s1") => `(tactic| first | refine And.intro (by walk_at "cl") ?_ | apply Exists.intro)
local macro_rules | `(tactic| walk_at "sx") => `(tactic| repeat walk_at "s1")
local macro_rules | `(tactic| walk_at "si") => `(tactic| first | refine iteY rfl ?_ | refine iteN rfl ?_)
local macro_rules | `(tactic| walk_at "sy") => `(tactic| repeat first | walk_at "s1" | walk_at "si")
/-- a != b: two tuples of equal items -/
def fEqT (K : PySem.W.Frag) (r : Bool) : R2 := fun x y H Q => match x, y with
  | .ref a, .ref b => ∃ xs ys, SqT K H a xs ∧ SqT K H b ys ∧ Paired (EqW K H 20) xs ys ∧ Q (.bl r) H
  | _, _ => False
theorem f_neT {X : Cx} (hu : X.A.units + 64 < cLine) : OpR X (compareOp .NotEq) (fEqT X.K false) := by
  intro pins s σ H x y v u Q J rx ry h
  unfold fEqT at h
  split at h
  · obtain ⟨xs, ys, ha, hb, hp, q⟩ := h
    cases rx
    cases ry
    obtain ⟨us, r1, p1, _⟩ := J.tuple ha
    obtain ⟨ws, r2, p2, _⟩ := J.tuple hb
    have hsz : us.toArray.size = ws.toArray.size := by rw [List.size_toArray, List.size_toArray, ← r1.length, ← r2.length]; exact Paired.length hp
    refine SeqAt.RcNeAt.tuples (e := fun _ => true) p1 p2 (by omega) (fun j h1 h2 => ?_) _ _ _ _ ?_
    · have k := paired_at (eqW_at J 20 X.A.in1 (by show X.A.units + 1 + 20 < cLine; omega)) hp r1 r2 j (by simpa using h1) (by simpa using h2)
      simpa using k
    · rw [all_true, hsz]
      simp only [beq_self_eq_true, Bool.and_self, Bool.not_true]
      exact ⟨.bl false, H, J, rfl, q⟩
  · exact h.elim
section
variable {P : Program} {w : World} {K : PySem.W.Frag} {mg : Str → Option Value} {base : Heap} {A : Ad}
def sp_size_of (K : PySem.W.Frag) : Sp := s2 fun a c H Q _ => ∃ p b, ∃ ds : List Nat, a = .ref p ∧ c = .int ((b : Nat) : Int) ∧ SqL K H p (ds.map fun (d : Nat) => V.int d) ∧ b ≤ 16 ∧ Q (.int ((sizeN b ds : Nat) : Int)) H
theorem ok_size_of (T : Txt w K mg A) : Callee P w K mg base 1 "size_of" ["figures", "base"] (sp_size_of K) := by
  refine callee_of T.F_size_of sc_size_of (fun _ _ _ _ _ _ us hl => match us, hl with | [_, _], _ => rfl) (fun vs H Q E h => ?_) (fun f cdv Ar outer s H vs Q E hr tk po h => ?_)
  · obtain ⟨_, _, rfl, _⟩ := s2_len h
    rfl
  · obtain ⟨a, c, rfl, p, b, ds, rfl, rfl, h0, hb, q⟩ := s2_len h
    refine ⟨_, (pss_cons (ps_set (i := 2) sc_size_of.nd rfl (Or.inl rfl) pe_int)
      (pss_cons (fs_for po rfl (fi_L (fv 0)) (pg_name (i := 3) sc_size_of.nd rfl (Or.inl rfl)) (pss_one (ps_set (i := 2) sc_size_of.nd rfl (Or.inl rfl) (pe_op f_add (pe_op f_mul (fv 2) (fv 1)) (fv 3)))))
      (pss_one (ps_ret (fv 2))))), ?_⟩
    walk_at "sx"
    refine Loop.byAny (fun rest σ Hc => ∃ (l : List Nat) (z : Nat) (a3 : Option V), rest = (l.map fun (d : Nat) => V.int d) ∧ σ = [some (.ref p), some (.int ((b : Nat) : Int)), some (.int ((z : Nat) : Int)), a3] ∧ l.foldl (fun s d => s * b + d) z = sizeN b ds ∧ Hc = H) ?_ ?_ _ _ _ ?_
    · rintro D x r σ Hc ⟨l, z, a3, hl, rfl, hz, rfl⟩ N hN
      cases l with
      | nil => cases hl
      | cons d l =>
        cases hl
        have cm : CM ((z : Nat) : Int) ((b : Nat) : Int) := .inr (.inl (by omega))
        walk_at "sx"
        exact hN _ _ h0 ⟨l, z * b + d, _, rfl, rfl, hz, rfl⟩
    · rintro σ Hc ⟨l, z, a3, hl, rfl, hz, rfl⟩
      have el : l = [] := by
        cases l with
        | nil => rfl
        | cons a b => cases hl
      subst el
      have ez : z = sizeN b ds := hz
      subst ez
      walk_at "sx"
      exact q
    · exact ⟨ds, 0, none, rfl, rfl, rfl, rfl⟩
end

end Fg
set_option Elab.async false
set_option linter.all false
set_option maxRecDepth 100000
set_option maxHeartbeats 4000000
namespace Fg
open PySem PySem.Spec PyProof.Rows L2
local macro_rules | `(tactic| walk_at "hp") => `(tactic| first | assumption | (refine Same.get (by assumption) ?_; walk_at "hp"))
local macro_rules | `(tactic| walk_at "sq") => `(tactic| first | assumption | (exact Or.inr (by assumption)) | (exact Or.inl (by assumption)) | (exact Or.inl (SqL.of (by walk_at "hp"))) | (exact Or.inr (SqT.of (by walk_at "hp"))) | (exact SqL.of (by walk_at "hp")) | (exact SqT.of (by walk_at "hp")))
local macro_rules | `(tactic| walk_at "cl") => `(tactic| first | ((first | show (_ : Int) < _ | show (_ : Int) ≤ _); first | omega | decide) | ((first | show (_ : Nat) < _ | show (_ : Nat) ≤ _); first | with_reducible assumption | (refine sz_le ?_; first | decide | omega | (simp <;> omega)) | (refine sz_lt ?_; first | decide | omega | (simp <;> omega)) | omega | decide | ((with_reducible show List.length _ < _); exact Nat.le_of_ble_eq_true rfl)) | rfl | walk_at "hp" | walk_at "sq" | (refine And.intro (by walk_at "cl") (by walk_at "cl")) | (exact Exists.intro _ (by walk_at "hp")) | (exact Exists.intro _ (Exists.intro _ (by walk_at "hp"))) | (exact Exists.intro _ (Exists.intro _ (And.intro (by walk_at "hp") rfl))) | decide | (exact Or.inl (by walk_at "cl")) | (exact Or.inr (by walk_at "cl")) | omega)
local macro_rules | `(tactic| walk_at "s1") => `(tactic| first | refine And.intro (by walk_at "cl") ?_ | apply Exists.intro)
local macro_rules | `(tactic| walk_at "sx") => `(tactic| repeat walk_at "s1")
local macro_rules | `(tactic| walk_at "si") => `(tactic| first | refine iteY rfl ?_ | refine iteN rfl ?_)
local macro_rules | `(tactic| walk_at "sy") => `(tactic| repeat first | walk_at "s1" | walk_at "si")
section
variable {P : Program} {w : World} {K : PySem.W.Frag} {mg : Str → Option Value} {base : Heap} {A : Ad}
def optV : Option Int → V
  | some i => .int i
  | none => .non
theorem figs_cut : ∀ b : Fin 17, (cutS figS none (some ((b.val : Nat) : Int))).cps.toList = (List.range b.val).map figC := by decide +kernel
theorem fig_index : ∀ d : Fin 16, Txt.index0 figS ⟨#[figC d.val]⟩ = some d.val := by decide +kernel
theorem figs_cut_at {b : Nat} (h : b ≤ 16) : (cutS figS none (some ((b : Nat) : Int))).cps.toList = (List.range b).map figC := figs_cut ⟨b, by omega⟩
theorem fig_index_at {d : Nat} (h : d < 16) : Txt.index0 figS ⟨#[figC d]⟩ = some d := fig_index ⟨d, h⟩
def sgV (l : List Nat) : List V := l.map fun c => V.str ⟨#[c]⟩
def sp_read_as (A : Ad) : Sp := fun vs H Q E => match vs with
  | [.ref p, .str z, .bl neg, .int n] => ∃ F k, n = ((k : Nat) : Int) ∧ IsFmt A H p F ∧ F.Ok ∧ F.least ≤ k ∧ k ≤ 1000 ∧ z.length ≤ 10000 ∧ ∀ H', Same H H' → Q (optV (readN F z.cps.toList neg k)) H'
  | _ => False
theorem sp_read_as_len {A : Ad} {vs : List V} {H : Hp} {Q : VK} {E : XK} (h : sp_read_as A vs H Q E) : ∃ p z neg F k, vs = [.ref p, .str z, .bl neg, .int ((k : Nat) : Int)] ∧ IsFmt A H p F ∧ F.Ok ∧ F.least ≤ k ∧ k ≤ 1000 ∧ z.length ≤ 10000 ∧ ∀ H', Same H H' → Q (optV (readN F z.cps.toList neg k)) H' := by
  unfold sp_read_as at h
  split at h
  · obtain ⟨F, k, rfl, h⟩ := h
    exact ⟨_, _, _, F, k, rfl, h⟩
  · exact h.elim
theorem ok_Format_read_as (T : Txt w K mg A) : MCallee P w K mg base 2 A.cFormat "read_as" ["self", "text", "negative", "count"] (sp_read_as A) := by
  refine mcallee_of T.cl_Format T.M_Format_read_as sc_Format_read_as (fun _ _ _ _ _ _ us hl => match us, hl with | [_, _, _, _], _ => rfl) (fun vs H Q E h => ?_) (fun f cdv Ar outer s H vs Q E hr tk po h => ?_)
  · obtain ⟨_, _, _, _, _, rfl, _⟩ := sp_read_as_len h
    rfl
  · obtain ⟨p, z, neg, F, k, rfl, ⟨dx, h0⟩, ok, hk, hk2, hz, q⟩ := sp_read_as_len h
    refine ⟨_, (pss_cons (ps_set (i := 4) sc_Format_read_as.nd rfl (Or.inl rfl) (fc_meth (ok_Format_layout T) hr (by decide) tk (fv 0) (pa_cons (fv 2) (pa_cons (fv 3) pa_nil))))
      (pss_cons (ps_if (ft_cmp f_ne (pe_callB f_len (by rfl) T.b_len (by decide +kernel) (pa_cons (fv 4) pa_nil)) (pe_callB f_len (by rfl) T.b_len (by decide +kernel) (pa_cons (fv 1) pa_nil)) (nomark _)) (pss_one (ps_ret pe_non)) pss_nil)
      (pss_cons (ps_set (i := 5) sc_Format_read_as.nd rfl (Or.inl rfl) (fe_lst pa_nil))
      (pss_cons (fs_forZTS po rfl (by rfl) T.b_zip (pa_cons (fv 4) (pa_cons (fv 1) pa_nil)) (pg_tup rfl (pgs_cons (pg_name (i := 6) sc_Format_read_as.nd rfl (Or.inl rfl)) (pgs_cons (pg_name (i := 7) sc_Format_read_as.nd rfl (Or.inl rfl)) pgs_nil))) (pss_cons (ps_if (PW.pt (pw_and (ft_cmp f_notN (fv 6) pe_non (nomark _)) (pw_and1 (ft_cmp f_ne (fv 6) (fv 7) (nomark _))))) (pss_one (ps_ret pe_non)) pss_nil)
      (pss_one (ps_if (ft_cmp f_isN (fv 6) pe_non (nomark _)) (pss_cons (ps_if (ft_cmp f_notInS (fv 7) (pe_slice f_slS (fe_g (by rfl) T.g_FIGURES) po_none (po_some (fe_fld T.cl_Format T.n_Format_base (fv 0)))) (by rfl)) (pss_one (ps_ret pe_non)) pss_nil)
      (pss_one (ps_expr (fe_append (fv 5) (fe_sm1 PySem.F.slot_str_index PySem.F.type_str_index f_sindex (fe_g (by rfl) T.g_FIGURES) (fv 7)))))) pss_nil))))
      (pss_cons (ps_if (PW.pt (pw_and (ft_cmp f_gt (fv 3) (fe_fld T.cl_Format T.n_Format_least (fv 0)) (nomark _)) (pw_and1 (ft_cmp f_eq (pe_ix f_ix (fv 5) pe_int (fun _ _ => rfl)) pe_int (nomark _))))) (pss_one (ps_ret pe_non)) pss_nil)
      (pss_cons (ps_set (i := 8) sc_Format_read_as.nd rfl (Or.inl rfl) (fc_call (ok_size_of T) hr (by decide) (by rfl) tk (pa_cons (fv 5) (pa_cons (fe_fld T.cl_Format T.n_Format_base (fv 0)) pa_nil))))
      (pss_cons (ps_if (ft_val (fv 2)) (pss_one (ps_ret (pe_ifExp (ft_cmp f_gt (fv 8) pe_int (nomark _)) (pe_un un_neg (fv 8)) pe_non))) pss_nil)
      (pss_one (ps_ret (fv 8)))))))))), ?_⟩
    have l1 := ok.l1
    have k1 : 1 ≤ k := by omega
    have b2 := ok.b2
    have zl : z.length ≤ sizeLine := sz_le (by omega)
    have zc : z.cps.toList.length = z.length := Array.length_toList ..
    walk_at "sx"
    intro t H1 nt s1 h1
    have h01 := s1 _ _ h0
    have nl := need_lay F neg k1
    walk_at "sx"
    have nil_of : ∀ Hc, Same H Hc → takeF F.base (layL F neg k) z.cps.toList = none → Q .non Hc := fun Hc sc e => by
      have q' := q Hc sc
      unfold readN at q'
      rw [e] at q'
      exact q'
    refine iteB (fun c => ?_) (fun c => ?_)
    · walk_at "sx"
      refine nil_of _ s1 ?_
      cases e : takeF F.base (layL F neg k) z.cps.toList with
      | none => rfl
      | some ds =>
        obtain ⟨_, _, _, h4⟩ := (takeF_iff b2 _ _ _).mp e
        rw [List.length_map] at c
        have : ¬ (((layL F neg k).length : Int) = z.length) := by simpa using c
        omega
    · have c' : (layL F neg k).length = z.length := by
        rw [List.length_map] at c
        have : (((layL F neg k).length : Int) = z.length) := by simpa using c
        omega
      have ll := lay_len F ok neg k1
      walk_at "sx"
      intro a H2 na s2 h2
      have t2 := s2 _ _ h1
      refine ⟨_, SqT.of t2, by rw [List.length_map, c', ← zc]; unfold signs; rw [List.length_map], ?_⟩
      refine LoopZ.byAny (fun rest σ Hc => ∃ (lay : List (Option Nat)) (l acc : List Nat), ∃ a6 a7, rest = (lay.map toVO).zip (sgV l) ∧ lay.length = l.length ∧ σ = [some (.ref p), some (.str z), some (.bl neg), some (.int ((k : Nat) : Int)), some (.ref t), some (.ref a), a6, a7, none] ∧
        Hc a = some (.lst (acc.map fun (d : Nat) => V.int d)) ∧ Same H1 Hc ∧ acc.length + lay.length ≤ 3000 ∧ takeF F.base (layL F neg k) z.cps.toList = (takeF F.base lay l).map (acc ++ ·)) ?_ ?_ _ _ _ ?_
      · rintro x r σ Hc ⟨lay, l, acc, a6, a7, hr, hll, rfl, ha, sc, hl, htk⟩ N hN T2 H3 nT s3 h3
        have h03 := s3 _ _ (sc _ _ h01)
        have a3 := s3 _ _ ha
        have t3 := s3 _ _ (sc _ _ h1)
        have s03 : Same H H3 := (s1.trans sc).trans s3
        have lz : (acc.map fun (d : Nat) => V.int d).length ≤ 10000 := by rw [List.length_map]; omega
        cases lay with
        | nil => cases hr
        | cons o lay =>
        cases l with
        | nil => cases hll
        | cons c l =>
        have hll' : lay.length = l.length := by simpa using hll
        cases hr
        cases o with
        | some m =>
          walk_at "sx"
          refine iteB (fun e => ?_) (fun e => ?_)
          · walk_at "sx"
            refine nil_of _ s03 ?_
            have ne : ¬ m = c := fun z => by
              rw [z] at e
              simp [chS] at e
            rw [htk, takeF, if_neg ne]
            rfl
          · have em : m = c := by
              have : chS m = (⟨#[c]⟩ : Str) := by simpa using e
              unfold chS at this
              injection this with this
              simpa using this
            subst em
            walk_at "sx"
            refine hN _ _ (SqT.of t3) ⟨lay, l, acc, _, _, rfl, hll', rfl, a3, sc.trans s3, by simp at hl; omega, ?_⟩
            rw [htk, takeF, if_pos rfl]
        | none =>
          walk_at "sx"
          refine iteB (fun e => ?_) (fun e => ?_)
          · have e' : c ∉ (List.range F.base).map figC := by
              have e0 : opp true (decide (c ∈ (cutS figS none (some ((F.base : Nat) : Int))).cps.toList)) = true := e
              rw [figs_cut_at b2] at e0
              simpa [opp] using e0
            walk_at "sx"
            refine nil_of _ s03 ?_
            have fx : figIx F.base c = none := by
              cases ef : figIx F.base c with
              | none => rfl
              | some d =>
                obtain ⟨d1, d2⟩ := figIx_some ef
                exact absurd (List.mem_map.mpr ⟨d, List.mem_range.mpr d1, d2⟩) e'
            rw [htk, takeF, fx]
            rfl
          · have e' : c ∈ (List.range F.base).map figC := by
              have e0 : opp true (decide (c ∈ (cutS figS none (some ((F.base : Nat) : Int))).cps.toList)) = false := e
              rw [figs_cut_at b2] at e0
              simpa [opp] using e0
            obtain ⟨d, d1, rfl⟩ := List.mem_map.mp e'
            have d2 := List.mem_range.mp d1
            have fi := fig_index_at (show d < 16 by omega)
            walk_at "sx"
            intro H4 b4 h4
            have nta : t ≠ a := ne_of_none (H := H1) h1 na
            have t4 := b4 _ _ nta t3
            refine hN _ _ (SqT.of t4) ⟨lay, l, acc ++ [d], _, _, rfl, hll', rfl, ?_, Same.but (sc.trans s3) na b4, by simp at hl ⊢; omega, ?_⟩
            · rw [h4]; simp
            · rw [htk, takeF, figIx_of b2 d2]
              cases takeF F.base lay l with
              | none => rfl
              | some y => simp
      · rintro σ Hc ⟨lay, l, acc, a6, a7, hr, hll, rfl, ha, sc, hl, htk⟩
        have el : lay = [] := by
          cases lay with
          | nil => rfl
          | cons x r =>
            cases l with
            | nil => cases hll
            | cons y r => cases hr
        subst el
        have el : l = [] := List.length_eq_zero_iff.mp hll.symm
        subst el
        have htk' : takeF F.base (layL F neg k) z.cps.toList = some acc := by
          rw [htk, takeF]
          simp
        obtain ⟨g1, g2, g3, g4⟩ := (takeF_iff b2 _ _ _).mp htk'
        rw [nl] at g1
        have h0c := sc _ _ h01
        have q' := q Hc (s1.trans sc)
        unfold readN at q'
        rw [htk'] at q'
        obtain ⟨d0, r0, rfl⟩ : ∃ d r, acc = d :: r := by
          cases acc with
          | nil => simp at g1; omega
          | cons d r => exact ⟨d, r, rfl⟩
        have at00 : atI ((d0 :: r0).map fun (d : Nat) => V.int d) ((0 : Nat) : Int) = some (V.int d0) := atI_nat rfl
        have at0 : atI ((d0 :: r0).map fun (d : Nat) => V.int d) (0 : Int) = some (V.int d0) := at00
        have qs : ¬ (F.least < k ∧ d0 = 0) → (Q (optV (if neg = true then (if 0 < sizeN F.base (d0 :: r0) then some (-((sizeN F.base (d0 :: r0) : Nat) : Int)) else none) else some ((sizeN F.base (d0 :: r0) : Nat) : Int))) Hc) := fun no => by
          dsimp only at q'
          rw [if_neg (fun z => no ⟨z.1, by simpa using z.2⟩)] at q'
          exact q'
        have qn : F.least < k ∧ d0 = 0 → Q .non Hc := fun yes => by
          dsimp only at q'
          rw [if_pos ⟨yes.1, by rw [yes.2]; rfl⟩] at q'
          exact q'
        clear q'
        walk_at "sx"
        refine iteD (fun c1 => ?_) (fun c1 => ?_)
        · walk_at "sx"
          refine iteD (fun c2 => ?_) (fun c2 => ?_)
          · have qn' := qn ⟨by omega, by omega⟩
            walk_at "sx"
            exact qn'
          · have qs' := qs (fun z => c2 (by rw [z.2]; rfl))
            walk_at "sx"
            refine iteB (fun en => ?_) (fun en => ?_)
            · rw [if_pos en] at qs'
              walk_at "sx"
              refine iteD (fun e1 => ?_) (fun e1 => ?_)
              · rw [if_pos (by omega)] at qs'
                walk_at "sx"
                exact qs'
              · rw [if_neg (by omega)] at qs'
                walk_at "sx"
                exact qs'
            · rw [if_neg (by rw [en]; decide)] at qs'
              walk_at "sx"
              exact qs'
        · have qs' := qs (fun z => c1 (by omega))
          refine iteN rfl ?_
          walk_at "sx"
          refine iteB (fun en => ?_) (fun en => ?_)
          · rw [if_pos en] at qs'
            walk_at "sx"
            refine iteD (fun e1 => ?_) (fun e1 => ?_)
            · rw [if_pos (by omega)] at qs'
              walk_at "sx"
              exact qs'
            · rw [if_neg (by omega)] at qs'
              walk_at "sx"
              exact qs'
          · rw [if_neg (by rw [en]; decide)] at qs'
            walk_at "sx"
            exact qs'
      · refine ⟨layL F neg k, z.cps.toList, [], _, _, rfl, by omega, rfl, h2, s2, by simp; omega, ?_⟩
        simp
end

end Fg
set_option Elab.async false
set_option linter.all false
set_option maxRecDepth 100000
set_option maxHeartbeats 4000000
namespace Fg
open PySem PySem.Spec PyProof.Rows L2
local macro_rules | `(tactic| walk_at "hp") => `(tactic| first | assumption | (refine Same.get (by assumption) ?_; walk_at "hp"))
local macro_rules | `(tactic| walk_at "sq") => `(tactic| first | assumption | (exact Or.inr (by assumption)) | (exact Or.inl (by assumption)) | (exact Or.inl (SqL.of (by walk_at "hp"))) | (exact Or.inr (SqT.of (by walk_at "hp"))) | (exact SqL.of (by walk_at "hp")) | (exact SqT.of (by walk_at "hp")))
local macro_rules | `(tactic| walk_at "cl") => `(tactic| first | ((first | show (_ : Int) < _ | show (_ : Int) ≤ _); first | omega | decide) | ((first | show (_ : Nat) < _ | show (_ : Nat) ≤ _); first | with_reducible assumption | (refine sz_le ?_; first | decide | omega | (simp <;> omega)) | (refine sz_lt ?_; first | decide | omega | (simp <;> omega)) | omega | decide | ((with_reducible show List.length _ < _); exact Nat.le_of_ble_eq_true rfl)) | rfl | walk_at "hp" | walk_at "sq" | (refine And.intro (by walk_at "cl") (by walk_at "cl")) | (exact Exists.intro _ (by walk_at "hp")) | (exact Exists.intro _ (Exists.intro _ (by walk_at "hp"))) | (exact Exists.intro _ (Exists.intro _ (And.intro (by walk_at "hp") rfl))) | decide | (exact Or.inl (by walk_at "cl")) | (exact Or.inr (by walk_at "cl")) | omega)
local macro_rules | `(tactic| walk_at "s1") => `(tactic| first | refine And.intro (by walk_at "cl") ?_ | apply Exists.intro)
local macro_rules | `(tactic| walk_at "sx") => `(tactic| repeat walk_at "s1")
local macro_rules | `(tactic| walk_at "si") => `(tactic| first | refine iteY rfl ?_ | refine iteN rfl ?_)
local macro_rules | `(tactic| walk_at "sy") => `(tactic| repeat first | walk_at "s1" | walk_at "si")
section
variable {P : Program} {w : World} {K : PySem.W.Frag} {mg : Str → Option Value} {base : Heap} {A : Ad}
theorem all_nodup (F : Fm) (ok : F.Ok) (l : List Nat) : (allN F l).Nodup := by
  unfold allN
  show List.Pairwise _ _
  rw [List.pairwise_flatMap]
  have key : ∀ n, F.least ≤ n → ∀ x ∈ (readN F l true n).toList ++ (readN F l false n).toList, (rowN F x.natAbs).length = n := fun n hn x hx => by
    rcases List.mem_append.mp hx with h | h
    · exact ((read_iff F ok l true n hn x).mp (Option.mem_toList.mp h)).2.1
    · exact ((read_iff F ok l false n hn x).mp (Option.mem_toList.mp h)).2.1
  constructor
  · intro n hn
    have hn2 : F.least ≤ n := (List.mem_range'_1.mp hn).1
    rw [List.pairwise_append]
    refine ⟨?_, ?_, fun x hx y hy e => ?_⟩
    · cases readN F l true n <;> simp
    · cases readN F l false n <;> simp
    · have h1 := ((read_iff F ok l true n hn2 x).mp (Option.mem_toList.mp hx)).1
      have h2 := ((read_iff F ok l false n hn2 y).mp (Option.mem_toList.mp hy)).1
      rw [e, h2] at h1
      cases h1
  · refine List.Pairwise.imp_of_mem ?_ (List.pairwise_lt_range' (s := F.least) (n := l.length + 1 - F.least) (step := 1) (by decide))
    intro n m hn hm lt x hx y hy e
    have h1 := key n (List.mem_range'_1.mp hn).1 x hx
    have h2 := key m (List.mem_range'_1.mp hm).1 y hy
    rw [e, h2] at h1
    omega
theorem opt_len {α : Type} (o : Option α) : o.toList.length ≤ 1 := by cases o <;> simp
theorem flat_len {α β : Type} (f : α → List β) (hf : ∀ a, (f a).length ≤ 2) : ∀ xs : List α, (xs.flatMap f).length ≤ 2 * xs.length
  | [] => by simp
  | a :: r => by
    rw [List.flatMap_cons, List.length_append, List.length_cons]
    have := flat_len f hf r
    have := hf a
    omega
theorem all_len (F : Fm) (l : List Nat) : (allN F l).length ≤ 2 * (l.length + 1 - F.least) := by
  have := flat_len (fun n => (readN F l true n).toList ++ (readN F l false n).toList) (fun n => by
    have := opt_len (readN F l true n)
    have := opt_len (readN F l false n)
    rw [List.length_append]
    omega) (List.range' F.least (l.length + 1 - F.least))
  rw [List.length_range'] at this
  exact this
def PNums (F : Fm) (z : Str) (H : Hp) (Q : VK) : Prop := z.length ≤ 900 ∧
  ∀ ns : List Int, ns.Pairwise (· < ·) → (∀ i, i ∈ ns ↔ codesI F i = z.cps.toList) → ns.length ≤ 2 * z.length → ∀ t H', H t = none → Same H H' → H' t = some (.tup (ns.map V.int)) → Q (.ref t) H'
def sp_all_numbers (A : Ad) : Sp := s2 fun a b H Q E => ∃ p z F, a = .ref p ∧ b = .str z ∧ IsFmt A H p F ∧ F.Ok ∧ PNums F z H Q
theorem ok_Format_all_numbers (T : Txt w K mg A) : MCallee P w K mg base 3 A.cFormat "all_numbers" ["self", "text"] (sp_all_numbers A) := by
  refine mcallee_of T.cl_Format T.M_Format_all_numbers sc_Format_all_numbers (fun _ _ _ _ _ _ us hl => match us, hl with | [_, _], _ => rfl) (fun vs H Q E h => ?_) (fun f cdv Ar outer s H vs Q E hr tk po h => ?_)
  · obtain ⟨_, _, rfl, _⟩ := s2_len h
    rfl
  · obtain ⟨a, b, rfl, p, z, F, rfl, rfl, ⟨dx, h0⟩, ok, hz, q⟩ := s2_len h
    refine ⟨_, (pss_cons (ps_set (i := 2) sc_Format_all_numbers.nd rfl (Or.inl rfl) (fe_lst pa_nil))
      (pss_cons (fs_for po rfl (fi_R2 (by rfl) T.b_range (pa_cons (fe_fld T.cl_Format T.n_Format_least (fv 0)) (pa_cons (pe_op f_add (pe_callB f_len (by rfl) T.b_len (by decide +kernel) (pa_cons (fv 1) pa_nil)) pe_int) pa_nil))) (pg_name (i := 3) sc_Format_all_numbers.nd rfl (Or.inl rfl)) (pss_one (fs_for po rfl (fi_T (fe_tup (pa_cons pe_bl (pa_cons pe_bl pa_nil)))) (pg_name (i := 4) sc_Format_all_numbers.nd rfl (Or.inl rfl)) (pss_cons (ps_set (i := 5) sc_Format_all_numbers.nd rfl (Or.inl rfl) (fc_meth (ok_Format_read_as T) hr (by decide) tk (fv 0) (pa_cons (fv 1) (pa_cons (fv 4) (pa_cons (fv 3) pa_nil)))))
      (pss_one (ps_if (ft_cmp f_notN (fv 5) pe_non (nomark _)) (pss_one (ps_expr (fe_append (fv 2) (pe_callTy f_int (by rfl) T.b_int (by decide +kernel) (pa_cons (fv 5) pa_nil))))) pss_nil))))))
      (pss_one (ps_ret (pe_callTy f_tuple (by rfl) T.b_tuple (by decide +kernel) (pa_cons (pe_callB f_sortedI (by rfl) T.b_sorted (by decide +kernel) (pa_cons (fv 2) pa_nil)) pa_nil)))))), ?_⟩
    have l1 := ok.l1
    have l2 := ok.l2
    have zl : z.length ≤ sizeLine := sz_le (by omega)
    walk_at "sx"
    intro a H1 na s1 h1
    have h01 := s1 _ _ h0
    have r1 : -(2 ^ 62) ≤ ((F.least : Nat) : Int) ∧ ((F.least : Nat) : Int) < 2 ^ 62 := by omega
    have r2 : -(2 ^ 62) ≤ ((z.length : Nat) : Int) + 1 ∧ ((z.length : Nat) : Int) + 1 < 2 ^ 62 := by omega
    walk_at "s1"
    walk_at "s1"
    walk_at "s1"
    walk_at "s1"
    walk_at "s1"
    refine And.intro zl (And.intro ⟨r1.1, r1.2, r2.1, r2.2⟩ (And.intro trivial ?_))
    clear r1 r2
    rw [show (((z.length : Nat) : Int) + 1 - ((F.least : Nat) : Int)).toNat = z.length + 1 - F.least by omega, rgI_up]
    have alls : ∀ b n, F.least ≤ n → n ≤ 1000 → ∀ Hc, Same H Hc → sp_read_as A [.ref p, .str z, .bl b, .int ((n : Nat) : Int)] Hc (fun v H' => v = optV (readN F z.cps.toList b n) ∧ Same Hc H') E := fun b n h1 h2 Hc s => ⟨F, n, rfl, ⟨dx, s _ _ h0⟩, ok, h1, h2, by omega, fun H' s' => ⟨rfl, s'⟩⟩
    clear alls
    refine Loop.by (fun rest σ Hc => ∃ (k n : Nat) (acc : List Int), ∃ a3 a4 a5, rest = up k n ∧ F.least ≤ k ∧ k + n ≤ 1000 ∧ acc.length + 2 * n ≤ 2000 ∧ σ = [some (.ref p), some (.str z), some (.ref a), a3, a4, a5] ∧
      Hc a = some (.lst (acc.map V.int)) ∧ Same H Hc ∧ acc ++ (List.range' k n).flatMap (fun n => (readN F z.cps.toList true n).toList ++ (readN F z.cps.toList false n).toList) = allN F z.cps.toList) ?_ ?_ _ _ _ ?_
    · rintro x r σ Hc ⟨k, n, acc, a3, a4, a5, hr, hk, hkn, hal, rfl, ha, sc, hac⟩ N hN
      cases n with
      | zero => cases hr
      | succ n =>
        cases hr
        walk_at "sx"
        intro t H3 nt s3 h3
        refine ⟨_, SqT.of h3, SqT.of h3, ?_⟩
        have ha3 := s3 _ _ ha
        refine Loop.byAny (fun rest σ Hd => ∃ (bs : List Bool) (acc2 : List Int), ∃ a4 a5, rest = bs.map V.bl ∧ acc2.length + bs.length ≤ 2002 ∧ σ = [some (.ref p), some (.str z), some (.ref a), some (.int ((k : Nat) : Int)), a4, a5] ∧
          Hd a = some (.lst (acc2.map V.int)) ∧ Same H Hd ∧ Hd t = some (.tup [.bl true, .bl false]) ∧ acc2 ++ bs.flatMap (fun b => (readN F z.cps.toList b k).toList) = acc ++ ((readN F z.cps.toList true k).toList ++ (readN F z.cps.toList false k).toList)) ?_ ?_ _ _ _ ?_
        · rintro D x r σ Hd ⟨bs, acc2, a4, a5, hr, hal2, rfl, ha4, sd, ht, hac2⟩ N2 hN2
          cases bs with
          | nil => cases hr
          | cons b bs =>
            cases hr
            have h0d := sd _ _ h0
            have nta : t ≠ a := ne_of_none (H := Hc) ha nt |>.symm
            have al2 : (acc2.map V.int).length ≤ 10000 := by rw [List.length_map]; simp only [List.length_cons] at hal2; omega
            walk_at "sx"
            intro H4 s4
            have ha5 := s4 _ _ ha4
            have ht4 := s4 _ _ ht
            cases e : readN F z.cps.toList b k with
            | none =>
              walk_at "sy"
              refine hN2 _ _ (SqT.of ht4) ⟨bs, acc2, _, _, rfl, by simp only [List.length_cons] at hal2; omega, rfl, ha5, sd.trans s4, ht4, ?_⟩
              rw [← hac2, List.flatMap_cons, e]
              rfl
            | some i =>
              walk_at "sy"
              intro H5 b5 h5
              have ht5 := b5 _ _ nta ht4
              refine hN2 _ _ (SqT.of ht5) ⟨bs, acc2 ++ [i], _, _, rfl, by simp only [List.length_cons, List.length_append, List.length_nil] at hal2 ⊢; omega, rfl, ?_, Same.but (sd.trans s4) na b5, ht5, ?_⟩
              · rw [h5]; simp
              · rw [← hac2, List.flatMap_cons, e]
                simp
        · rintro σ Hd ⟨bs, acc2, a4, a5, hr, hal2, rfl, ha4, sd, ht, hac2⟩
          have eb : bs = [] := by
            cases bs with
            | nil => rfl
            | cons b bs => cases hr
          subst eb
          refine hN _ _ trivial ⟨k + 1, n, acc2, _, _, _, rfl, by omega, by omega, ?_, rfl, ha4, sd, ?_⟩
          · have e := congrArg List.length hac2
            have := opt_len (readN F z.cps.toList true k)
            have := opt_len (readN F z.cps.toList false k)
            simp only [List.length_append, List.flatMap_nil, List.length_nil] at e
            omega
          · rw [← hac, List.range'_succ, List.flatMap_cons, ← List.append_assoc, ← hac2]
            simp
        · refine ⟨[true, false], acc, _, _, rfl, by simp; omega, rfl, ha3, sc.trans s3, h3, ?_⟩
          simp
    · rintro σ Hc ⟨k, n, acc, a3, a4, a5, hr, hk, hkn, hal, rfl, ha, sc, hac⟩
      have en : n = 0 := by
        cases n with
        | zero => rfl
        | succ n => cases hr
      subst en
      have hac' : acc = allN F z.cps.toList := by
        rw [← hac]
        simp
      have ha' : SqL K Hc a (acc.map V.int) := SqL.of ha
      walk_at "sx"
      intro ns pm rise a6 H6 n6 s6 h6
      have ha6 : SqL K H6 a6 (ns.map V.int) := SqL.of h6
      walk_at "sx"
      intro a7 H7 n7 s7 h7
      have nd : ns.Nodup := pm.nodup_iff.mpr (by rw [hac']; exact all_nodup F ok _)
      refine q ns ?_ (fun i => ?_) ?_ a7 H7 (Same.no sc (Same.no s6 n7)) ((sc.trans s6).trans s7) h7
      · refine List.Pairwise.imp ?_ (List.Pairwise.and rise nd)
        rintro x y ⟨h1, h2⟩
        omega
      · rw [pm.mem_iff, hac', all_iff F ok]
      · have := all_len F z.cps.toList
        rw [pm.length_eq, hac']
        rw [show z.cps.toList.length = z.length from Array.length_toList ..] at this
        omega
    · refine ⟨F.least, z.length + 1 - F.least, [], none, none, none, rfl, Nat.le_refl _, by omega, by simp; omega, rfl, h1, s1, ?_⟩
      rw [List.nil_append]
      unfold allN
      rw [show z.cps.toList.length = z.length from Array.length_toList ..]
theorem r_InvalidText (T : Txt w K mg A) : Raiser P w K mg base "InvalidText" A.cInvalidText "value" :=
  raiser_of T.oe_InvalidText T.g_InvalidText T.I_InvalidTextdd_initdd T.nf_InvalidText sc_InvalidTextdd_initdd (fun _ _ _ _ _ _ us hl => match us, hl with | [_, _], _ => rfl) (fun X hs hN => pss_one (ps_ost (fv 0 (by rw [hN]; rfl) (by rw [hs]; exact Or.inl rfl)) (fv 1 (by rw [hN]; rfl) (by rw [hs]; exact Or.inl rfl))))
def sp_numbers (K : PySem.W.Frag) (A : Ad) : Sp := s2 fun a v H Q E => ∃ p F, a = .ref p ∧ IsFmt A H p F ∧ F.Ok ∧ AnyV K H v ∧ (∀ z, v = .str z → PNums F z H Q) ∧
  ((∀ z, v ≠ .str z) → ∀ d H', Same H H' → H' d = some (.xd [("value", v)]) → E (.ref A.cInvalidText) (some d) H')
theorem okk_Format_numbers (T : Txt w K mg A) : MKCallee P w K mg base 4 A.cFormat "numbers" "Format.numbers" s_Format_numbers ["self", "text"] (sp_numbers K A) := by
  refine mkcallee_of T.cl_Format T.M_Format_numbers sc_Format_numbers (fun vs H Q E h => ?_) (fun f cdv Ar outer s H vs Q E hr tk po h => ?_)
  · obtain ⟨_, _, rfl, _⟩ := s2_len h
    rfl
  · obtain ⟨a, v, rfl, p, F, rfl, ⟨dx, h0⟩, ok, hv, q1, q2⟩ := s2_len h
    refine ⟨_, (pss_cons (ps_if (pt_not (ft_val (pe_callB f_isstr (by rfl) T.b_isinstance (by decide +kernel) (pa_cons (fv 1) (pa_cons (pe_bltn (v := .ty "str") (by rfl) T.b_str (by decide +kernel) rfl) pa_nil))))) (pss_one (fr_raise rfl (r_InvalidText T) hr (by decide) tk (by rfl) (fv 1))) pss_nil)
      (pss_one (ps_ret (fc_meth (ok_Format_all_numbers T) hr (by decide) tk (fv 0) (pa_cons (fv 1) pa_nil))))), ?_⟩
    walk_at "sx"
    cases v with
    | str z =>
      have q := q1 z rfl
      walk_at "sy"
      exact q
    | ref b =>
      have r := hv.2
      have q := q2 fun _ z => by cases z
      walk_at "sy"
      exact fun d H' _ s' h' => q d H' s' h'
    | byt b => exact hv.elim
    | flt b => exact hv.elim
    | ty b => exact hv.elim
    | _ =>
      have q := q2 fun _ z => by cases z
      walk_at "sy"
      exact fun d H' _ s' h' => q d H' s' h'
theorem ok_Format_numbers (T : Txt w K mg A) : MCallee P w K mg base 4 A.cFormat "numbers" ["self", "text"] (sp_numbers K A) := (okk_Format_numbers T).plain (fun _ _ _ _ _ _ us hl => match us, hl with | [_, _], _ => rfl)
end

end Fg
set_option Elab.async false
set_option linter.all false
set_option maxRecDepth 100000
set_option maxHeartbeats 4000000
namespace Fg
open PySem PySem.Spec PyProof.Rows L2
local macro_rules | `(tactic| walk_at "hp") => `(tactic| first | assumption | (refine Same.get (by assumption) ?_; walk_at "hp"))
local macro_rules | `(tactic| walk_at "sq") => `(tactic| first | assumption | (exact Or.inr (by assumption)) | (exact Or.inl (by assumption)) | (exact Or.inl (SqL.of (by walk_at "hp"))) | (exact Or.inr (SqT.of (by walk_at "hp"))) | (exact SqL.of (by walk_at "hp")) | (exact SqT.of (by walk_at "hp")))
local macro_rules | `(tactic| walk_at "cl") => `(tactic| first | ((first | show (_ : Int) < _ | show (_ : Int) ≤ _); first | omega | decide) | ((first | show (_ : Nat) < _ | show (_ : Nat) ≤ _); first | with_reducible assumption | (refine sz_le ?_; first | decide | omega | (simp <;> omega)) | (refine sz_lt ?_; first | decide | omega | (simp <;> omega)) | omega | decide | ((with_reducible show List.length _ < _); exact Nat.le_of_ble_eq_true rfl)) | rfl | walk_at "hp" | walk_at "sq" | (refine And.intro (by walk_at "cl") (by walk_at "cl")) | (exact Exists.intro _ (by walk_at "hp")) | (exact Exists.intro _ (Exists.intro _ (by walk_at "hp"))) | (exact Exists.intro _ (Exists.intro _ (And.intro (by walk_at "hp") rfl))) | decide | (exact Or.inl (by walk_at "cl")) | (exact Or.inr (by walk_at "cl")) | omega)
local macro_rules | `(tactic| walk_at "s1") => `(tactic| first | refine And.intro (by walk_at "cl") ?_ | apply Exists.intro)
local macro_rules | `(tactic| walk_at "sx") => `(tactic| repeat walk_at "s1")
local macro_rules | `(tactic| walk_at "si") => `(tactic| first | refine iteY rfl ?_ | refine iteN rfl ?_)
local macro_rules | `(tactic| walk_at "sy") => `(tactic| repeat first | walk_at "s1" | walk_at "si")
/-! ### counted walks, walks with new tables -/
/-- all but the pot at p and the tables stays -/
def ButN (p : Addr) (H H' : Hp) : Prop := ∀ b o, b ≠ p → H b = some o → (∀ ps, o ≠ .tbl ps) → H' b = some o
theorem ButN.refl (p : Addr) (H : Hp) : ButN p H H := fun _ _ _ e _ => e
theorem ButN.trans {p : Addr} {H H1 H2 : Hp} (x : ButN p H H1) (y : ButN p H1 H2) : ButN p H H2 := fun b o n e t => y b o n (x b o n e t) t
theorem ButN.of {p : Addr} {H H' : Hp} (h : But p H H') : ButN p H H' := fun b o n e _ => h b o n e
theorem ButN.ext {p : Addr} {H H' : Hp} (h : LamX.ExtN H H') : ButN p H H' := fun b o _ e t => h b o e t
theorem ButN.same {p : Addr} {H H' : Hp} (h : Same H H') : ButN p H H' := fun b o _ e _ => h b o e
theorem TabS.but {p : Addr} {H H' : Hp} {P : Addr} {q : Str} (b : But p H H') (hp : Pot p H) (t : LamX.TabS H P q) : LamX.TabS H' P q := by
  obtain ⟨i, j, e⟩ := hp
  obtain ⟨ps, h1, h2, h3⟩ := t
  have ne : ∀ {a : Addr} {o : HO}, H a = some o → (∀ i j, o ≠ .lst [.int i, .int j]) → a ≠ p := fun {a o} ea no z => by
    rw [z, e] at ea
    exact no i j (Option.some.inj ea).symm
  refine ⟨ps, b _ _ (ne h1 fun _ _ z => by cases z) h1, h2, fun pos cv hc => ?_⟩
  obtain ⟨c, e1, e2⟩ := h3 pos cv hc
  exact ⟨c, e1, b _ _ (ne e2 fun _ _ z => by unfold LamX.CodeO at z; cases z) e2⟩
theorem Tabs.but {p : Addr} {H H' : Hp} {T : List (Addr × Str)} (b : But p H H') (hp : Pot p H) (t : LamX.Tabs T H) : LamX.Tabs T H' := fun q hq => TabS.but b hp (t q hq)
theorem Tabs.same {H H' : Hp} {T : List (Addr × Str)} (b : Same H H') (t : LamX.Tabs T H) : LamX.Tabs T H' := t.ext b
theorem Pot.ext {p : Addr} {H H' : Hp} (s : LamX.ExtN H H') (h : Pot p H) : Pot p H' := h.elim fun i ⟨j, e⟩ => ⟨i, j, s _ _ e fun _ z => by cases z⟩
/-- isinstance of whatever the suite holds -/
theorem f_isEg {X : Cx} {a D : Addr} {cls : Value} {d : Option Addr} {oe : Obj} {pn : List (Addr × Obj)} (C : ExcC X.K D) (hz : Zc cls d oe) (hf : ∃ vs, oe.data = .fields vs) :
    CallR (X.suite a ((a, oe) :: pn)) (.builtin "isinstance") (fun xs H Q => cls = .ref D ∧ ∃ dx fs, d = some dx ∧ H dx = some (.xd fs) ∧ fIsE X.K D a xs H Q) := by
  intro pins s σ H xs us Q J r ⟨hc, dx, fs, hd, q⟩
  subst hc hd
  exact f_isE C hz hf pins s σ H xs us Q J r q
section
variable {P : Program} {w : World} {K : PySem.W.Frag} {mg : Str → Option Value} {base : Heap} {A : Ad}
/-- how a call ends -/
def TEnd (C : Addr) : (XK → Hp → VK → Prop) → Hp → VK → Prop := fun tl H Q =>
  tl (fun cls d H' => cls = .ref C ∧ ∃ dd v, d = some dd ∧ H' dd = some (.xd [("value", v)]) ∧ ∀ p H2, H' p = none → Same H' H2 → H2 p = some (.lst [.str "InvalidText", v, .bl true]) → Q (.ref p) H2) H
    (fun v H1 => ([.str "given", v] : List V).length ≤ sizeLine ∧ ∀ p H2, H1 p = none → Same H1 H2 → H2 p = some (.lst [.str "given", v]) → Q (.ref p) H2)
theorem pss_ex {X : Cx} {b : List Stmt} {α : Sort _} {Pp : α → Prop} {t : α → TS} (h : ∀ a, Pp a → PSs X b (t a)) : PSs X b (fun D σ H => ∃ a, Pp a ∧ t a D σ H) := ⟨fun pins s σ H D I ⟨a, p, q⟩ => (h a p).run pins s σ H D I q⟩
theorem takes_len {X : Cx} {W : WX} (t : Takes X W) : Takes X (fun c d σ H => σ.length = X.N.length → W c d σ H) :=
  fun u s' ⟨a, B, sI, pins, σ, H, cls, d, e, I, nb, up, sky, na, os, ag, w⟩ => t u s' ⟨a, B, sI, pins, σ, H, cls, d, e, I, nb, up, sky, na, os, ag, w I.len⟩
theorem gives_l_ended {X : Cx} (T : Txt X.w X.K X.mg A) {q : Str} : ∀ (g : Addr) (cdv : Value), LamX.GivesTo X ["_law_ask", "_law_given", "e"] "_law_ended" (defScope s_l_ended) g cdv (defBody s_l_ended) "_law_ask" q (TEnd A.cInvalidText) := by
  intro g cdv f c' s H Q tl act hc h
  have hgl : Gl (cxOf C8.CX0 X.prog X.w X.K X.mg X.base ["_law_ask", "_law_given", "e"] "_law_ended" (defScope s_l_ended) g cdv X.A X.stack s H C8.E0).nox "InvalidText" := by rfl
  refine ⟨_, pss_cons (ps_try_as (X := (cxOf C8.CX0 X.prog X.w X.K X.mg X.base ["_law_ask", "_law_given", "e"] "_law_ended" (defScope s_l_ended) g cdv X.A X.stack s H C8.E0).nox) (c := .ref A.cInvalidText) (i := 2)
      (tb := fun W D σ H => ∃ Ech : XK, (∀ cls d (σ' : L2.St) H', Ech cls d H' → σ'.length = 3 → W cls d σ' H') ∧ σ[0]? = some (some (.ref f)) ∧ H c' = some (LamX.CodeO c' q) ∧ tl Ech H (fun v H1 => D.nx (σ.set 1 (some v)) H1))
      rfl rfl sc_l_ended.nd rfl rfl ⟨hgl, by decide, .inl T.g_InvalidText⟩ takes0 (fun W pn xe tk _ => ?_)
      (fun a oe cls d pn hz hf => pss_one (ps_ret (fe_lst (pa_cons pe_str (pa_cons (pe_xf T.xf_InvalidText T.nf_InvalidText hz hf (fv 2)) (pa_cons (pe_and
        (pe_callB (f_isEg T.xc_InvalidText hz hf) (by rfl) T.b_isinstance (by decide +kernel) (pa_cons (fv 2) (pa_cons (fe_g (by rfl) T.v_Unfit) pa_nil)))
        (pe_one (pe_callB (f_isEg T.xc_InvalidText hz hf) (by rfl) T.b_isinstance (by decide +kernel) (pa_cons (fv 2) (pa_cons (pe_bltn (v := .ty "ValueError") (by rfl) T.b_ValueError (by decide +kernel) rfl) pa_nil))))) pa_nil)))))))
    (pss_one (ps_ret (fe_lst (pa_cons pe_str (pa_cons (fv 1) pa_nil))))), ?_⟩
  · exact pss_ex fun Ech hW => pss_one (ps_set (i := 1) sc_l_ended.nd rfl (.inl rfl) (act (fun c d σ H => σ.length = 3 → W c d σ H) pn xe Ech _ _ (takes_len tk) hW))
  · unfold TEnd at h
    refine ⟨_, fun cls d σ' H' hE hl => ?_, rfl, hc, h⟩
    obtain ⟨rfl, dd, v, rfl, hd, k⟩ := hE
    obtain ⟨x0, x1, x2, rfl⟩ : ∃ x0 x1 x2, σ' = [x0, x1, x2] := by
      match σ', hl with
      | [x0, x1, x2], _ => exact ⟨x0, x1, x2, rfl⟩
    refine ⟨true, T.ex_InvalidText_InvalidText, fun _ a na => ?_, fun z => nomatch z⟩
    have k1 := T.ki_InvalidText_Unfit
    have k2 := T.ki_InvalidText_ValueError
    walk_at "sx"
    exact k
end

end Fg
set_option Elab.async false
set_option linter.all false
set_option maxRecDepth 100000
set_option maxHeartbeats 4000000
namespace Fg
open PySem PySem.Spec PyProof.Rows L2
local macro_rules | `(tactic| walk_at "hp") => `(tactic| first | assumption | (refine Same.get (by assumption) ?_; walk_at "hp"))
local macro_rules | `(tactic| walk_at "sq") => `(tactic| first | assumption | (exact Or.inr (by assumption)) | (exact Or.inl (by assumption)) | (exact Or.inl (SqL.of (by walk_at "hp"))) | (exact Or.inr (SqT.of (by walk_at "hp"))) | (exact SqL.of (by walk_at "hp")) | (exact SqT.of (by walk_at "hp")))
local macro_rules | `(tactic| walk_at "cl") => `(tactic| first | ((first | show (_ : Int) < _ | show (_ : Int) ≤ _); first | omega | decide) | ((first | show (_ : Nat) < _ | show (_ : Nat) ≤ _); first | with_reducible assumption | (refine sz_le ?_; first | decide | omega | (simp <;> omega)) | (refine sz_lt ?_; first | decide | omega | (simp <;> omega)) | omega | decide | ((with_reducible show List.length _ < _); exact Nat.le_of_ble_eq_true rfl)) | rfl | walk_at "hp" | walk_at "sq" | (refine And.intro (by walk_at "cl") (by walk_at "cl")) | (exact Exists.intro _ (by walk_at "hp")) | (exact Exists.intro _ (Exists.intro _ (by walk_at "hp"))) | (exact Exists.intro _ (Exists.intro _ (And.intro (by walk_at "hp") rfl))) | decide | (exact Or.inl (by walk_at "cl")) | (exact Or.inr (by walk_at "cl")) | omega)
local macro_rules | `(tactic| walk_at "s1") => `(tactic| first | refine And.intro (by walk_at "cl") ?_ | apply Exists.intro)
local macro_rules | `(tactic| walk_at "sx") => `(tactic| repeat walk_at "s1")
local macro_rules | `(tactic| walk_at "si") => `(tactic| first | refine iteY rfl ?_ | refine iteN rfl ?_)
local macro_rules | `(tactic| walk_at "sy") => `(tactic| repeat first | walk_at "s1" | walk_at "si")
-- T.in_Format T.kn_Format_int T.kn_Format_str T.b_set T.b_sorted
section
variable {P : Program} {w : World} {K : PySem.W.Frag} {mg : Str → Option Value} {base : Heap} {A : Ad}
theorem cut_lo_len {z : Str} {k : Nat} (h : k ≤ z.length) : (cutS z none (some ((k : Nat) : Int))).length = k := by
  have e : z.cps.toList.length = z.length := Array.length_toList ..
  unfold cutS
  rw [HT.sIx_none, HT.sIx_nat]
  show (List.toArray _).size = k
  rw [List.size_toArray, List.drop_zero, List.length_take, e]
  omega
theorem cut_hi_len {z : Str} {k : Nat} : (cutS z (some ((k : Nat) : Int)) none).length = z.length - k := by
  have e : z.cps.toList.length = z.length := Array.length_toList ..
  unfold cutS
  rw [HT.sIx_none, HT.sIx_nat]
  show (List.toArray _).size = _
  rw [List.size_toArray, List.length_take, List.length_drop, e]
  omega
theorem add_len (a b : Str) : (a ++ b).length = a.length + b.length := by
  rw [str_app]
  exact Array.size_append
def sp_l_changed : Sp := s2 fun a b H Q _ => ∃ p z, a = .ref p ∧ b = .str z ∧ Pot p H ∧ 0 < z.length ∧ z.length ≤ 1000 ∧ ∀ z' H', z'.length ≤ z.length + 1 → But p H H' → Pot p H' → Q (.str z') H'
theorem ok_l_changed (T : Txt w K mg A) : Callee P w K mg base 3 "_law_changed" ["_law_pot_here", "_law_row"] sp_l_changed := by
  refine callee_of T.F_l_changed sc_l_changed (fun _ _ _ _ _ _ us hl => match us, hl with | [_, _], _ => rfl) (fun vs H Q E h => ?_) (fun f cdv Ar outer s H vs Q E hr tk po h => ?_)
  · obtain ⟨_, _, rfl, _⟩ := s2_len h
    rfl
  · obtain ⟨a, b, rfl, p, z, rfl, rfl, h0, h1, h2, q⟩ := s2_len h
    refine ⟨_, (pss_cons (ps_par (i := 2) (j := 3) (by rfl) sc_l_changed.nd rfl rfl (by decide) rfl rfl (pa_cons (fc_call (ok_l_spoon T) hr (by decide) (by rfl) tk (pa_cons (fv 0) (pa_cons (pe_callB f_len (by rfl) T.b_len (by decide +kernel) (pa_cons (fv 1) pa_nil)) pa_nil))) (pa_cons (fc_call (ok_l_of T) hr (by decide) (by rfl) tk (pa_cons (fv 0) (pa_cons (fe_lst (pa_cons pe_str (pa_cons pe_str (pa_cons pe_str (pa_cons pe_str (pa_cons pe_str (pa_cons pe_str (pa_cons pe_str (pa_cons pe_str (pa_cons pe_str (pa_cons pe_str pa_nil))))))))))) pa_nil))) pa_nil)) (by rfl))
      (pss_cons (ps_set (i := 4) sc_l_changed.nd rfl (Or.inl rfl) (fc_call (ok_l_spoon T) hr (by decide) (by rfl) tk (pa_cons (fv 0) (pa_cons pe_int pa_nil))))
      (pss_cons (ps_if (ft_cmp f_eq (fv 4) pe_int (nomark _)) (pss_one (ps_ret (pe_op f_add (pe_op f_add (pe_slice f_slS (fv 1) po_none (po_some (fv 2))) (fv 3)) (pe_slice f_slS (fv 1) (po_some (fv 2)) po_none)))) pss_nil)
      (pss_one (ps_ret (pe_ifExp (ft_cmp f_eq (fv 4) pe_int (nomark _)) (pe_op f_add (pe_slice f_slS (fv 1) po_none (po_some (fv 2))) (pe_slice f_slS (fv 1) (po_some (pe_op f_add (fv 2) pe_int)) po_none)) (pe_op f_add (pe_op f_add (pe_slice f_slS (fv 1) po_none (po_some (fv 2))) (fv 3)) (pe_slice f_slS (fv 1) (po_some (pe_op f_add (fv 2) pe_int)) po_none)))))))), ?_⟩
    have zl : z.length ≤ sizeLine := sz_le (by omega)
    have m1 : Small ((z.length : Nat) : Int) := ⟨by omega, by omega⟩
    have m3 : Small 3 := ⟨by decide, by decide⟩
    walk_at "sx"
    intro r H1 r0 r1 b1 p1
    obtain ⟨k, rfl⟩ : ∃ k : Nat, r = (k : Nat) := ⟨r.toNat, by omega⟩
    have kl : k < z.length := by omega
    walk_at "sx"
    intro t H2 nt s2 h2
    have p2 := Pot.same s2 p1
    walk_at "sx"
    intro v H3 hv b3 p3
    obtain ⟨c, rfl, cl⟩ : ∃ c : Str, v = .str c ∧ c.length = 1 := by
      simp only [List.mem_cons, List.not_mem_nil, or_false] at hv
      rcases hv with rfl | rfl | rfl | rfl | rfl | rfl | rfl | rfl | rfl | rfl <;> exact ⟨_, rfl, rfl⟩
    walk_at "sx"
    intro j H4 j0 j1 b4 p4
    have b14 : But p H H4 := ((b1.trans (But.of s2)).trans b3).trans b4
    have le := cut_lo_len (z := z) (k := k) (by omega)
    have h1 := cut_hi_len (z := z) (k := k)
    have h2 := cut_hi_len (z := z) (k := k + 1)
    have ek : (((k + 1 : Nat)) : Int) = ((k : Nat) : Int) + 1 := by omega
    rw [ek] at h2
    have la := add_len (cutS z none (some ((k : Nat) : Int))) c
    walk_at "sx"
    refine iteD (fun e => ?_) (fun e => ?_)
    · walk_at "sx"
      refine q _ H4 ?_ b14 p4
      rw [add_len, add_len, le, h1, cl]
      omega
    · walk_at "sx"
      refine iteD (fun e => ?_) (fun e => ?_)
      · walk_at "sx"
        refine q _ H4 ?_ b14 p4
        rw [add_len, le, h2]
        omega
      · walk_at "sx"
        refine q _ H4 ?_ b14 p4
        rw [add_len, add_len, le, h2, cl]
        omega
end

end Fg
set_option Elab.async false
set_option linter.all false
set_option maxRecDepth 100000
set_option maxHeartbeats 4000000
namespace Fg
open PySem PySem.Spec PyProof.Rows L2
local macro_rules | `(tactic| walk_at "hp") => `(tactic| first | assumption | (refine Same.get (by assumption) ?_; walk_at "hp"))
local macro_rules | `(tactic| walk_at "sq") => `(tactic| first | assumption | (exact Or.inr (by assumption)) | (exact Or.inl (by assumption)) | (exact Or.inl (SqL.of (by walk_at "hp"))) | (exact Or.inr (SqT.of (by walk_at "hp"))) | (exact SqL.of (by walk_at "hp")) | (exact SqT.of (by walk_at "hp")))
local macro_rules | `(tactic| walk_at "cl") => `(tactic| first | ((first | show (_ : Int) < _ | show (_ : Int) ≤ _); first | omega | decide) | ((first | show (_ : Nat) < _ | show (_ : Nat) ≤ _); first | with_reducible assumption | (refine sz_le ?_; first | decide | omega | (simp <;> omega)) | (refine sz_lt ?_; first | decide | omega | (simp <;> omega)) | omega | decide | ((with_reducible show List.length _ < _); exact Nat.le_of_ble_eq_true rfl)) | rfl | walk_at "hp" | walk_at "sq" | (refine And.intro (by walk_at "cl") (by walk_at "cl")) | (exact Exists.intro _ (by walk_at "hp")) | (exact Exists.intro _ (Exists.intro _ (by walk_at "hp"))) | (exact Exists.intro _ (Exists.intro _ (And.intro (by walk_at "hp") rfl))) | decide | (exact Or.inl (by walk_at "cl")) | (exact Or.inr (by walk_at "cl")) | omega)
local macro_rules | `(tactic| walk_at "s1") => `(tactic| first | refine And.intro (by walk_at "cl") ?_ | apply Exists.intro)
local macro_rules | `(tactic| walk_at "sx") => `(tactic| repeat walk_at "s1")
local macro_rules | `(tactic| walk_at "si") => `(tactic| first | refine iteY rfl ?_ | refine iteN rfl ?_)
local macro_rules | `(tactic| walk_at "sy") => `(tactic| repeat first | walk_at "s1" | walk_at "si")
theorem text_cl (F : Fm) (i : Int) : (textI F i).length = (codesI F i).length := by
  unfold textI
  simp [Str.length]
theorem lay_len2 (F : Fm) (ok : F.Ok) (neg : Bool) {n : Nat} (h : 1 ≤ n) (h2 : n ≤ 12) : (layL F neg n).length ≤ 25 := by
  have h1 := body_len F h
  have h2 := head_len F.sign neg
  have hw := ok.wi
  have h4 : ∀ k, (fillL F k).length = k := fun k => by simp [fillL]
  unfold layL
  dsimp only
  split
  · simp only [List.length_append, h4, List.length_map]; unfold lackL; omega
  · split
    · simp only [List.length_append, h4, List.length_map]; unfold lackL; omega
    · split
      · simp only [List.length_append, h4, List.length_map]; unfold lackL; omega
      · simp only [List.length_append, h4, List.length_map]; unfold lackL; omega
/-- the texts of the law's integers are short -/
theorem text_tight (F : Fm) (ok : F.Ok) (i : Int) (h : i.natAbs ≤ 1100) : 1 ≤ (textI F i).length ∧ (textI F i).length ≤ 25 := by
  have d := log_dig (b := F.base) (k := 10) (n := i.natAbs) ok.b1 (by omega) i.natAbs
  have d2 : (digs F.base i.natAbs).length ≤ 11 := by
    unfold digs
    rw [List.length_reverse]
    exact d
  have l2 := ok.l2
  have l1 := ok.l1
  have r : (rowN F i.natAbs).length ≤ 12 := by
    unfold rowN
    rw [List.length_append, List.length_replicate, List.length_map]
    omega
  obtain ⟨g1, g2⟩ := codes_ge F ok i
  have fl := fillIn_len (layL F (decide (i < 0)) (rowN F i.natAbs).length) (rowN F i.natAbs)
  have ll := lay_len2 F ok (decide (i < 0)) (show 1 ≤ (rowN F i.natAbs).length by omega) r
  rw [text_cl]
  refine ⟨by omega, ?_⟩
  unfold codesI
  omega
theorem text_len2 (F : Fm) (ok : F.Ok) (i : Int) (h : i.natAbs < 10 ^ 100) : (textI F i).length ≤ 840 := by
  have r1 := row_len F ok h
  have l1 := fillIn_len (layL F (decide (i < 0)) (rowN F i.natAbs).length) (rowN F i.natAbs)
  have l2 := lay_len F ok (decide (i < 0)) r1.2
  rw [text_cl]
  unfold codesI
  omega
theorem text_codes (F : Fm) (i : Int) (z : Str) : textI F i = z ↔ codesI F i = z.cps.toList := by
  obtain ⟨⟨l⟩⟩ := z
  unfold textI
  constructor
  · intro h
    injection h with h
    simpa using h
  · intro h
    have : codesI F i = l := h
    rw [this]
/-- those of a row that have this text -/
def fl (F : Fm) (done : List Int) (z : Str) : List Int := done.filter fun n => decide (textI F n = z)
def allI : List Int := (List.range 2201).map fun (i : Nat) => (-1100 : Int) + i
theorem allI_mem (i : Int) : i ∈ allI ↔ -1100 ≤ i ∧ i ≤ 1100 := by
  unfold allI
  rw [List.mem_map]
  constructor
  · rintro ⟨k, hk, rfl⟩
    have := List.mem_range.mp hk
    omega
  · rintro ⟨h1, h2⟩
    exact ⟨(i + 1100).toNat, List.mem_range.mpr (by omega), by omega⟩
theorem allI_rise : allI.Pairwise (· < ·) := by
  unfold allI
  rw [List.pairwise_map]
  refine List.Pairwise.imp ?_ (List.pairwise_lt_range (n := 2201))
  intro a b h
  omega
theorem allI_rg : rgI (-1100) 2201 = allI.map V.int := by
  unfold rgI allI
  rw [List.map_map]
  rfl
/-- just those between the bounds -/
theorem fl_eq (F : Fm) (z : Str) (ns : List Int) (hr : ns.Pairwise (· < ·)) (hm : ∀ i, i ∈ ns ↔ codesI F i = z.cps.toList) : (ns.filter fun n => decide (-1100 ≤ n) && decide (n ≤ 1100)) = fl F allI z := by
  refine rise_eq (List.Pairwise.filter _ hr) (List.Pairwise.filter _ allI_rise) fun i => ?_
  unfold fl
  rw [List.mem_filter, List.mem_filter, hm, allI_mem, decide_eq_true_iff, text_codes, Bool.and_eq_true, decide_eq_true_iff, decide_eq_true_iff]
  exact ⟨fun h => ⟨h.2, h.1⟩, fun h => ⟨h.2, h.1⟩⟩
/-- the law's table -/
def TabOk (p : Addr) (F : Fm) (done : List Int) (kvs : List (Key × V)) (H : Hp) : Prop := ∀ z : Str,
  match valV kvs (Sum.inr z : Key) with
  | none => fl F done z = []
  | some v => ∃ a, v = .ref a ∧ a ≠ p ∧ H a = some (.lst ((fl F done z).map V.int))
theorem TabOk.imp {p : Addr} {F : Fm} {done : List Int} {kvs : List (Key × V)} {H H' : Hp} (t : TabOk p F done kvs H) (k : ∀ a xs, a ≠ p → H a = some (.lst xs) → H' a = some (.lst xs)) : TabOk p F done kvs H' := fun z => by
  have tz := t z
  split
  · rename_i e; rw [e] at tz; exact tz
  · rename_i v e
    rw [e] at tz
    obtain ⟨a, rfl, np, h⟩ := tz
    exact ⟨a, rfl, np, k _ _ np h⟩
/-- what stands under a key, or a new list -/
theorem TabOk.get {p : Addr} {F : Fm} {done : List Int} {kvs : List (Key × V)} {H : Hp} {e : Addr} (t : TabOk p F done kvs H) (z : Str) (he : H e = some (.lst [])) : ∃ a, (valV kvs (Sum.inr z : Key)).getD (.ref e) = .ref a ∧ H a = some (.lst ((fl F done z).map V.int)) := by
  have tz := t z
  cases ev : valV kvs (Sum.inr z : Key) with
  | none =>
    rw [ev] at tz
    exact ⟨e, rfl, by rw [he, show fl F done z = [] from tz]; rfl⟩
  | some v =>
    rw [ev] at tz
    obtain ⟨a, rfl, np, h⟩ := tz
    exact ⟨a, rfl, h⟩
theorem TabOk.put {p : Addr} {F : Fm} {done : List Int} {kvs : List (Key × V)} {H : Hp} {n : Int} {a : Addr} (t : TabOk p F done kvs H) (np : a ≠ p) (ha : H a = some (.lst ((fl F done (textI F n)).map V.int ++ [.int n]))) :
    TabOk p F (done ++ [n]) (putK kvs (Sum.inr (textI F n) : Key) (.ref a)) H := fun z => by
  have tz := t z
  rw [valV_put]
  by_cases e : (Sum.inr z : Key) = Sum.inr (textI F n)
  · rw [if_pos e]
    obtain rfl : z = textI F n := Sum.inr.inj e
    refine ⟨a, rfl, np, ?_⟩
    rw [ha]
    unfold fl
    rw [List.filter_append]
    simp
  · rw [if_neg e]
    have ef : fl F (done ++ [n]) z = fl F done z := by
      unfold fl
      rw [List.filter_append]
      have : ¬ textI F n = z := fun y => e (by rw [y])
      simp [this]
    rw [ef]
    exact tz
theorem putK_len (kvs : List (Key × V)) (k : Key) (v : V) : (putK kvs k v).length ≤ kvs.length + 1 := by
  unfold putK
  split
  · rw [List.length_map]; omega
  · rw [List.length_append]; exact Nat.le_refl _
/-- each item gives some y; an invariant beside -/
theorem Comp.invP {st : Hp → Prop} {g : TG} {te : TE} {vs : List Nat} {σ : L2.St} {D : Addr} {Q : Hp → Prop} (Iv : Hp → Prop) (Px Py : V → Prop) (hst : ∀ H, Iv H → st H) (hI : ∀ H acc, Iv H → H D = some (.lst acc) → ∀ acc', Iv (upd H D (.lst acc')))
    (hx : ∀ (x : V) (H : Hp) (acc : List V) (R : VK), Px x → Iv H → H D = some (.lst acc) → (∀ y H', Py y → Iv H' → H' D = some (.lst acc) → R y H') → g x (wipe σ vs) H fun σ2 H2 => wipe σ2 vs = wipe σ vs ∧ te σ2 H2 R) :
    ∀ (xs : List V) (acc : List V) (H : Hp), (∀ x ∈ xs, Px x) → (∀ y ∈ acc, Py y) → acc.length + xs.length ≤ sizeLine → Iv H → H D = some (.lst acc) → (∀ ys H', (∀ y ∈ ys, Py y) → ys.length = acc.length + xs.length → Iv H' → H' D = some (.lst ys) → Q H') → Comp st g tYes te vs σ D Q xs H
  | [], acc, H, _, ha, _, s, hD, q => q acc H ha rfl s hD
  | x :: r, acc, H, hp, ha, hl, s, hD, q => by
    rw [List.length_cons] at hl
    have k := hx x H acc (fun y H4 => ∃ acc, H4 D = some (.lst acc) ∧ acc.length < sizeLine ∧ st (upd H4 D (.lst (acc ++ [y]))) ∧ Comp st g tYes te vs σ D Q r (upd H4 D (.lst (acc ++ [y])))) (hp x (List.mem_cons_self ..)) s hD fun y H' py s' hD' => by
      have s2 := hI H' acc s' hD' (acc ++ [y])
      refine ⟨acc, hD', by omega, hst _ s2, ?_⟩
      refine Comp.invP Iv Px Py hst hI hx r (acc ++ [y]) _ (fun z hz => hp z (List.mem_cons_of_mem _ hz)) (fun z hz => ?_) (by rw [List.length_append, List.length_singleton]; omega) s2 upd_same fun ys H2 h1 h2 s3 e => q ys H2 h1 ?_ s3 e
      · rcases List.mem_append.mp hz with hz | hz
        · exact ha z hz
        · rw [List.mem_singleton.mp hz]; exact py
      · rw [h2]
        simp only [List.length_append, List.length_cons, List.length_nil]
        omega
    exact k
/-- a walk that keeps some -/
theorem Comp.filtP {st : Hp → Prop} {g : TG} {tt : TT} {te : TE} {vs : List Nat} {σ : L2.St} {D : Addr} {Q : Hp → Prop} {H0 : Hp} (Px : V → Prop) (c : V → Bool) (f : V → V) (n0 : H0 D = none) (hst : ∀ H, Same H0 H → st H)
    (hx : ∀ (x : V) (H : Hp) (R : VK) (N : Hp → Prop), Px x → Same H0 H → (c x = true → ∀ H', Same H H' → R (f x) H') → (c x = false → ∀ H', Same H H' → N H') → g x (wipe σ vs) H fun σ2 H2 => wipe σ2 vs = wipe σ vs ∧ tt σ2 H2 fun b H3 => if b = true then te σ2 H3 R else N H3) :
    ∀ (xs : List V) (acc : List V) (H : Hp), (∀ x ∈ xs, Px x) → acc.length + xs.length ≤ sizeLine → Same H0 H → H D = some (.lst acc) → (∀ H', Same H0 H' → H' D = some (.lst (acc ++ (xs.filter c).map f)) → Q H') → Comp st g tt te vs σ D Q xs H
  | [], acc, H, _, _, s, hD, q => q H s (by rw [List.filter_nil, List.map_nil, List.append_nil]; exact hD)
  | x :: r, acc, H, hp, hl, s, hD, q => by
    rw [List.length_cons] at hl
    exact hx x H (fun y H4 => ∃ acc, H4 D = some (.lst acc) ∧ acc.length < sizeLine ∧ st (upd H4 D (.lst (acc ++ [y]))) ∧ Comp st g tt te vs σ D Q r (upd H4 D (.lst (acc ++ [y])))) (fun H3 => st H3 ∧ Comp st g tt te vs σ D Q r H3) (hp x (List.mem_cons_self ..)) s
      (fun ec H' s' => by
        have s2 : Same H0 (upd H' D (.lst (acc ++ [f x]))) := Same.but (s.trans s') n0 But.upd
        refine ⟨acc, s' _ _ hD, by omega, hst _ s2, ?_⟩
        refine Comp.filtP Px c f n0 hst hx r (acc ++ [f x]) _ (fun y hy => hp y (List.mem_cons_of_mem _ hy)) (by rw [List.length_append, List.length_singleton]; omega) s2 upd_same fun H2 s3 e => q H2 s3 ?_
        rw [e, List.filter_cons_of_pos ec, List.append_assoc]
        rfl)
      (fun ec H' s' => by
        refine ⟨hst _ (s.trans s'), ?_⟩
        refine Comp.filtP Px c f n0 hst hx r acc _ (fun y hy => hp y (List.mem_cons_of_mem _ hy)) (by omega) (s.trans s') (s' _ _ hD) fun H2 s3 e => q H2 s3 ?_
        rw [e, List.filter_cons_of_neg (by rw [ec]; decide)])
def onesF : Fm := ⟨10, "minus", 1, 0, 44, 12, 49, "left"⟩
def starF : Fm := ⟨10, "minus", 1, 0, 44, 3, 49, "left"⟩
def ones12 : List Int := [1, 11, 111, 1111, 11111, 111111, 1111111, 11111111, 111111111, 1111111111, 11111111111, 111111111111]
theorem onesF_ok : onesF.Ok := ⟨by decide, by decide, by decide, by decide, by decide, by decide, by decide, by decide, by decide, by decide⟩
theorem starF_ok : starF.Ok := ⟨by decide, by decide, by decide, by decide, by decide, by decide, by decide, by decide, by decide, by decide⟩
theorem all_ones : allN onesF (List.replicate 12 49) = ones12 := by decide +kernel
theorem all_star1 : allN starF [49, 49, 53] = [5, 15, 115] := by decide +kernel
theorem all_star2 : allN starF [49, 32, 53] = [] := by decide +kernel
/-- the integers of a text, known -/
theorem nums_eq {F : Fm} (ok : F.Ok) {l : List Nat} {ns all : List Int} (ha : allN F l = all) (hr : all.Pairwise (· < ·)) (hns : ns.Pairwise (· < ·)) (hm : ∀ i, i ∈ ns ↔ codesI F i = l) : ns = all :=
  rise_eq hns hr fun i => by rw [hm, ← all_iff F ok, ha]
def onesN (k : Nat) : Int := ((10 ^ k - 1) / 9 : Nat)
theorem ones_int : ∀ k : Fin 13, 1 ≤ k.val → PySem.intText? (repC 49 k.val) = some (onesN k.val) := by decide +kernel
theorem ones_len : ∀ k : Fin 13, (repC 49 k.val).length ≤ 640 := by decide +kernel
theorem ones_at {k : Nat} (h1 : 1 ≤ k) (h2 : k ≤ 12) : PySem.intText? (repC 49 k) = some (onesN k) ∧ (repC 49 k).length ≤ 640 := ⟨ones_int ⟨k, by omega⟩ h1, ones_len ⟨k, by omega⟩⟩
theorem ones_row : (rgI 1 12).map (fun v => match v with | .int k => V.int (onesN k.toNat) | v => v) = ones12.map V.int := by rfl
theorem ones_txt : (repC 49 12).cps.toList = List.replicate 12 49 := by decide +kernel

end Fg
set_option Elab.async false
set_option linter.all false
set_option maxRecDepth 100000
set_option maxHeartbeats 4000000
namespace Fg
open PySem PySem.Spec PyProof.Rows L2
local macro_rules | `(tactic| walk_at "hp") => `(tactic| first | assumption | (refine Same.get (by assumption) ?_; walk_at "hp"))
local macro_rules | `(tactic| walk_at "sq") => `(tactic| first | assumption | (exact Or.inr (by assumption)) | (exact Or.inl (by assumption)) | (exact Or.inl (SqL.of (by walk_at "hp"))) | (exact Or.inr (SqT.of (by walk_at "hp"))) | (exact SqL.of (by walk_at "hp")) | (exact SqT.of (by walk_at "hp")))
local macro_rules | `(tactic| walk_at "cl") => `(tactic| first | ((first | show (_ : Int) < _ | show (_ : Int) ≤ _); first | omega | decide) | ((first | show (_ : Nat) < _ | show (_ : Nat) ≤ _); first | with_reducible assumption | (refine sz_le ?_; first | decide | omega | (simp <;> omega)) | (refine sz_lt ?_; first | decide | omega | (simp <;> omega)) | omega | decide | ((with_reducible show List.length _ < _); exact Nat.le_of_ble_eq_true rfl)) | rfl | walk_at "hp" | walk_at "sq" | (refine And.intro (by walk_at "cl") (by walk_at "cl")) | (exact Exists.intro _ (by walk_at "hp")) | (exact Exists.intro _ (Exists.intro _ (by walk_at "hp"))) | (exact Exists.intro _ (Exists.intro _ (And.intro (by walk_at "hp") rfl))) | decide | (exact Or.inl (by walk_at "cl")) | (exact Or.inr (by walk_at "cl")) | omega)
local macro_rules | `(tactic| walk_at "s1") => `(tactic| first | refine And.intro (by walk_at "cl") ?_ | apply Exists.intro)
local macro_rules | `(tactic| walk_at "sx") => `(tactic| repeat walk_at "s1")
local macro_rules | `(tactic| walk_at "si") => `(tactic| first | refine iteY rfl ?_ | refine iteN rfl ?_)
local macro_rules | `(tactic| walk_at "sy") => `(tactic| repeat first | walk_at "s1" | walk_at "si")
-- T.in_Format T.kn_Format_int T.kn_Format_str T.b_set T.b_sorted
section
variable {P : Program} {w : World} {K : PySem.W.Frag} {mg : Str → Option Value} {base : Heap} {A : Ad}
def tabs_l_right (A : Ad) : List (Addr × Str) := [(A.tP_l_right, "_law_right.<locals>.<lambda>")]
/-- what stands while a turn goes on -/
structure Sh2 (A : Ad) (p d pm dx tb : Addr) (F : Fm) (kvs : List (Key × V)) (H0 H : Hp) : Prop where
  bn : ButN p H0 H
  pt : Pot p H
  tbs : LamX.Tabs (tabs_l_right A) H
  hd : H d = some (.dK F.kvs)
  hf : H pm = some (.ins A.cFormat dx F.fields)
  ht : H tb = some (.dK kvs)
  tk : TabOk p F allI kvs H
section
variable {p d pm dx tb : Addr} {F : Fm} {kvs : List (Key × V)} {H0 H H' : Hp}
theorem Sh2.same (e : Sh2 A p d pm dx tb F kvs H0 H) (s : Same H H') : Sh2 A p d pm dx tb F kvs H0 H' := ⟨e.bn.trans (ButN.same s), Pot.same s e.pt, Tabs.same s e.tbs, s _ _ e.hd, s _ _ e.hf, s _ _ e.ht, e.tk.imp fun _ _ _ h => s _ _ h⟩
theorem Sh2.but (e : Sh2 A p d pm dx tb F kvs H0 H) (b : But p H H') (pt : Pot p H') : Sh2 A p d pm dx tb F kvs H0 H' :=
  ⟨e.bn.trans (ButN.of b), pt, Tabs.but b e.pt e.tbs, But.pot b e.pt e.hd (fun _ _ z => by cases z), But.pot b e.pt e.hf (fun _ _ z => by cases z), But.pot b e.pt e.ht (fun _ _ z => by cases z), e.tk.imp fun _ _ n h => b _ _ n h⟩
theorem Sh2.ext (e : Sh2 A p d pm dx tb F kvs H0 H) (s : LamX.ExtN H H') (t : LamX.Tabs (tabs_l_right A) H') : Sh2 A p d pm dx tb F kvs H0 H' :=
  ⟨e.bn.trans (ButN.ext s), Pot.ext s e.pt, t, s _ _ e.hd (fun _ z => by cases z), s _ _ e.hf (fun _ z => by cases z), s _ _ e.ht (fun _ z => by cases z), e.tk.imp fun _ _ _ h => s _ _ h fun _ z => by cases z⟩
end
theorem but_upd {p D : Addr} {H Hd : Hp} {o : HO} (n : H D = none) (b : But p H Hd) : But p H (upd Hd D o) := fun c o2 n1 e => by
  rw [upd_ne (ne_of_none e n)]
  exact b c o2 n1 e
theorem pot_upd {p D : Addr} {Hd : Hp} {o : HO} (n : D ≠ p) (h : Pot p Hd) : Pot p (upd Hd D o) := by
  obtain ⟨i, j, e⟩ := h
  exact ⟨i, j, by rw [upd_ne (fun z => n z.symm)]; exact e⟩
theorem pot_ne {p D : Addr} {H : Hp} (h : Pot p H) (n : H D = none) : D ≠ p := by
  obtain ⟨i, j, e⟩ := h
  exact fun z => by
    rw [z, e] at n
    cases n
/-- a cut between two statements -/
theorem seqCut {t1 t2 : TS} {D : Ends} {σ : L2.St} {H : Hp} (Pc : L2.St → Hp → Prop) (h1 : ∀ N : L2.St → Hp → Prop, (∀ σ' H', Pc σ' H' → N σ' H') → t1 { D with nx := N } σ H) (h2 : ∀ σ' H', Pc σ' H' → t2 D σ' H') : tSeq t1 t2 D σ H := h1 _ h2
theorem flat_ints (ns : List Int) : (ns.map V.int).all flatV = true := by
  rw [List.all_map]
  induction ns with
  | nil => rfl
  | cons a r ih => rw [List.all_cons, ih]; rfl
theorem inV_int {far : Int} {ns : List Int} (h : far ∈ ns) : inV (.int far) (ns.map V.int) = true := by
  unfold inV
  rw [List.any_map, List.any_eq_true]
  exact ⟨far, h, by simp [eqV]⟩
/-- something odd: no text -/
structure OddT (K : PySem.W.Frag) (H : Hp) (v : V) : Prop where
  fl : flatB v = true ∨ ∃ a, v = .ref a
  ns : ∀ z, v ≠ .str z
  an : AnyV K H v
def sp_l_right (A : Ad) : Sp := s1 fun a H Q _ => ∃ p, a = .ref p ∧ Pot p H ∧ LamX.Tabs (tabs_l_right A) H ∧ ∀ H', ButN p H H' → LamX.Tabs (tabs_l_right A) H' → Q (.bl true) H'
theorem ok_l_right (T : Txt w K mg A) (TB : LamX.TabB base mg A.cC_l_right A.tP_l_right) : Callee P w K mg base 10 "_law_right" ["_law_pot_here"] (sp_l_right A) := by
  refine calleeC_of T.k_l_right sc_l_right (fun _ _ _ _ _ _ us hl => match us, hl with | [_], _ => rfl) (fun vs H Q E h => ?_) (fun f Ar outer s H vs Q E hr tk po h => ?_)
  · obtain ⟨_, rfl, _⟩ := s1_len h
    rfl
  · obtain ⟨a, rfl, p, rfl, h0, t0, q⟩ := s1_len h
    refine ⟨_, (pss_cons (ps_set (i := 1) sc_l_right.nd rfl (Or.inr rfl) (fc_call (ok_l_shape T) hr (by decide) (by rfl) tk (pa_cons (fv 0) pa_nil)))
      (pss_cons (ps_asg (fe_tup (pa_cons (fc_call (ok_l_format T) hr (by decide) (by rfl) tk (pa_cons (fv 1) pa_nil)) (pa_cons fe_d0 pa_nil))) (pg_tup rfl (pgs_cons (pg_name (i := 2) sc_l_right.nd rfl (Or.inr rfl)) (pgs_cons (pg_name (i := 3) sc_l_right.nd rfl (Or.inl rfl)) pgs_nil))))
      (pss_cons (fs_for po rfl (fi_R2 (by rfl) T.b_range (pa_cons (pe_un un_neg pe_int) (pa_cons pe_int pa_nil))) (pg_name (i := 4) sc_l_right.nd rfl (Or.inl rfl)) (pss_cons (ps_set (i := 5) sc_l_right.nd rfl (Or.inr rfl) (fc_call (ok_l_said T) hr (by decide) (by rfl) tk (pa_cons (fv 1) (pa_cons (fv 4) pa_nil))))
      (pss_one (fs_dput (hu_of hr) (fv 3) (fv 5) (pe_op f_cat (fe_dgetOr (hu_of hr) (fv 3) (fv 5) (fe_lst pa_nil)) (fe_lst (pa_cons (fv 4) pa_nil)))))))
      (pss_cons (fs_setLc (i := 6) (own := [("_law_turn", 8)]) (tt := tYes) (by rfl) sc_l_right.nd rfl rfl (sw_true rfl rfl rfl (by decide +kernel)) (fi_R1 (by rfl) T.b_range (pa_cons pe_int pa_nil)) (blkOk_by (own := [("_law_turn", 8)]) (N := ["_law_pot_here", "_law_shape_here", "_law_made", "_law_table", "_law_n", "_law_row", "_law_rows", "_law_given", "_law_turn", "_law_far", "_law_odd", "_law_ones", "_law_star", "_law_k"]) (sc := defScope s_l_right) (by decide +kernel)) (fun _ _ _ _ _ => pg_name (i := 8) sc_l_right.nd rfl (Or.inl rfl)) (fun _ _ _ _ _ => pts_nil) (fun _ _ _ _ _ => (fc_call (ok_l_said T) hr (by decide) (by rfl) takes0 (pa_cons (fv 1) (pa_cons (pe_op f_sub (fc_call (ok_l_spoon T) hr (by decide) (by rfl) takes0 (pa_cons (fv 0) (pa_cons pe_int pa_nil))) pe_int) pa_nil)))))
      (pss_cons (ps_set (i := 6) sc_l_right.nd rfl (Or.inl rfl) (pe_op f_cat (pe_op f_cat (fv 6) (fe_lc (own := [("_law_row", 5)]) (tt := tYes) (by rfl) sc_l_right.nd (fi_L (fv 6)) (blkOk_by (own := [("_law_row", 5)]) (N := ["_law_pot_here", "_law_shape_here", "_law_made", "_law_table", "_law_n", "_law_row", "_law_rows", "_law_given", "_law_turn", "_law_far", "_law_odd", "_law_ones", "_law_star", "_law_k"]) (sc := defScope s_l_right) (by decide +kernel)) (fun _ _ _ _ _ => pg_name (i := 5) sc_l_right.nd rfl (Or.inl rfl)) (fun _ _ _ _ _ => pts_nil) (fun _ _ _ _ _ => (fc_call (ok_l_changed T) hr (by decide) (by rfl) takes0 (pa_cons (fv 0) (pa_cons (fv 5) pa_nil)))))) (fe_lst (pa_cons pe_str (pa_cons pe_str (pa_cons pe_str (pa_cons pe_str (pa_cons pe_str (pa_cons pe_str (pa_cons pe_str (pa_cons pe_str (pa_cons pe_str (pa_cons pe_str pa_nil)))))))))))))
      (pss_cons (fs_for po rfl (fi_L (pe_op f_cat (fv 6) (fe_lc (own := [("_law_row", 5)]) (tt := tYes) (by rfl) sc_l_right.nd (fi_L (fv 6)) (blkOk_by (own := [("_law_row", 5)]) (N := ["_law_pot_here", "_law_shape_here", "_law_made", "_law_table", "_law_n", "_law_row", "_law_rows", "_law_given", "_law_turn", "_law_far", "_law_odd", "_law_ones", "_law_star", "_law_k"]) (sc := defScope s_l_right) (by decide +kernel)) (fun _ _ _ _ _ => pg_name (i := 5) sc_l_right.nd rfl (Or.inl rfl)) (fun _ _ _ _ _ => pts_nil) (fun _ _ _ _ _ => (fc_call (ok_l_changed T) hr (by decide) (by rfl) takes0 (pa_cons (fv 0) (pa_cons (pe_op f_add (fv 5) pe_str) pa_nil))))))) (pg_name (i := 5) sc_l_right.nd rfl (Or.inr rfl)) (pss_cons (ps_set (i := 7) sc_l_right.nd rfl (Or.inl rfl) (fc_meth (ok_Format_numbers T) hr (by decide) tk (fv 2) (pa_cons (fv 5) pa_nil)))
      (pss_cons (ps_if (PW.pt (pw_or (pt_not (ft_val (pe_callB f_istup (by rfl) T.b_isinstance (by decide +kernel) (pa_cons (fv 7) (pa_cons (pe_bltn (v := .ty "tuple") (by rfl) T.b_tuple (by decide +kernel) rfl) pa_nil))))) (pw_or1 (ft_cmp (f_neL hr.units) (pe_callTy f_list (by rfl) T.b_list (by decide +kernel) (pa_cons (fv 7) pa_nil)) (pe_callB (f_sortedSet rfl) (by rfl) T.b_sorted (by decide +kernel) (pa_cons (pe_callTy (f_setI rfl) (by rfl) T.b_set (by decide +kernel) (pa_cons (fe_lc (own := [("_law_n", 4)]) (tt := tYes) (by rfl) sc_l_right.nd (fi_T (fv 7)) (blkOk_by (own := [("_law_n", 4)]) (N := ["_law_pot_here", "_law_shape_here", "_law_made", "_law_table", "_law_n", "_law_row", "_law_rows", "_law_given", "_law_turn", "_law_far", "_law_odd", "_law_ones", "_law_star", "_law_k"]) (sc := defScope s_l_right) (by decide +kernel)) (fun _ _ _ _ _ => pg_name (i := 4) sc_l_right.nd rfl (Or.inl rfl)) (fun _ _ _ _ _ => pts_nil) (fun _ _ _ _ _ => (pe_callTy f_int (by rfl) T.b_int (by decide +kernel) (pa_cons (fv 4) pa_nil)))) pa_nil)) pa_nil)) (nomark _))))) (pss_one (ps_ret pe_bl)) pss_nil)
      (pss_cons (ps_if (ft_cmp (f_neL hr.units) (fe_lc (own := [("_law_n", 4)]) (by rfl) sc_l_right.nd (fi_T (fv 7)) (blkOk_by (own := [("_law_n", 4)]) (N := ["_law_pot_here", "_law_shape_here", "_law_made", "_law_table", "_law_n", "_law_row", "_law_rows", "_law_given", "_law_turn", "_law_far", "_law_odd", "_law_ones", "_law_star", "_law_k"]) (sc := defScope s_l_right) (by decide +kernel)) (fun _ _ _ _ _ => pg_name (i := 4) sc_l_right.nd rfl (Or.inl rfl)) (fun _ _ _ _ _ => (pts_one (pt_chain f_le f_le (pe_un un_neg pe_int) (fv 4) pe_int))) (fun _ _ _ _ _ => (fv 4))) (fe_dgetOr (hu_of hr) (fv 3) (fv 5) (fe_lst pa_nil)) (nomark _)) (pss_one (ps_ret pe_bl)) pss_nil)
      (pss_one (ps_if (ft_val (pe_callB (f_any rfl) (by rfl) T.b_any (by decide +kernel) (pa_cons (fe_lc (own := [("_law_n", 4)]) (tt := tYes) (by rfl) sc_l_right.nd (fi_T (fv 7)) (blkOk_by (own := [("_law_n", 4)]) (N := ["_law_pot_here", "_law_shape_here", "_law_made", "_law_table", "_law_n", "_law_row", "_law_rows", "_law_given", "_law_turn", "_law_far", "_law_odd", "_law_ones", "_law_star", "_law_k"]) (sc := defScope s_l_right) (by decide +kernel)) (fun _ _ _ _ _ => pg_name (i := 4) sc_l_right.nd rfl (Or.inl rfl)) (fun _ _ _ _ _ => pts_nil) (fun _ _ _ _ _ => (pe_cmpR f_ne (fc_call (ok_l_said T) hr (by decide) (by rfl) takes0 (pa_cons (fv 1) (pa_cons (fv 4) pa_nil))) (fv 5) (nomark _)))) pa_nil))) (pss_one (ps_ret pe_bl)) pss_nil))))))
      (pss_cons (fs_for po rfl (fi_R1 (by rfl) T.b_range (pa_cons pe_int pa_nil)) (pg_name (i := 8) sc_l_right.nd rfl (Or.inl rfl)) (pss_cons (ps_set (i := 9) sc_l_right.nd rfl (Or.inl rfl) (pe_op f_mul (pe_op f_add (pe_op f_mul (fc_call (ok_l_spoon T) hr (by decide) (by rfl) tk (pa_cons (fv 0) (pa_cons (pe_op f_pow pe_int pe_int) pa_nil))) (pe_op f_pow pe_int pe_int)) pe_int) (fc_call (ok_l_of T) hr (by decide) (by rfl) tk (pa_cons (fv 0) (pa_cons (fe_lst (pa_cons pe_int (pa_cons (pe_un un_neg pe_int) pa_nil))) pa_nil)))))
      (pss_one (ps_if (PW.pt (pw_or (ft_cmp f_notInQ (fv 9) (fc_meth (ok_Format_numbers T) hr (by decide) tk (fv 2) (pa_cons (fc_call (ok_l_said T) hr (by decide) (by rfl) tk (pa_cons (fv 1) (pa_cons (fv 9) pa_nil))) pa_nil)) (by rfl)) (pw_or1 (ft_cmp f_notInQ (fv 9) (fc_methK (ks := ["text"]) (idx := [0, 1]) (okk_Format_numbers T) hr (by decide) tk (fv 2) (pk_cons (fc_callO (oc_Format T) hr (by decide) tk (fv 2) (pa_cons (fv 9) pa_nil)) pk_nil) (fun _ _ _ _ _ _ us ws l1 l2 => match us, ws, l1, l2 with | [_], [_], _, _ => rfl)) (by rfl))))) (pss_one (ps_ret pe_bl)) pss_nil))))
      (pss_cons (ps_set (i := 10) sc_l_right.nd rfl (Or.inr rfl) (fc_call (ok_l_of T) hr (by decide) (by rfl) tk (pa_cons (fv 0) (pa_cons (fe_lst (pa_cons pe_non (pa_cons pe_int (pa_cons (fe_tup pa_nil) (pa_cons (fe_lst (pa_cons pe_str pa_nil)) (pa_cons pe_bl (pa_cons fe_d0 (pa_cons (fv 2) pa_nil)))))))) pa_nil))))
      (pss_cons (ps_set (i := 11) sc_l_right.nd rfl (Or.inl rfl) (fc_meth (ok_Format_numbers T) hr (by decide) tk (fc_make (ks := ["width", "fill"]) (ms := [("base", .int 10), ("sign", .str "minus"), ("least", .int 1), ("group", .int 0), ("mark", .str ","), ("side", .str "left")]) (idx := [0, 1, 2, 3, 4, 5, 7, 8, 6]) (mk_Format T) hr (by decide) (by rfl) tk (pk_cons pe_int (pk_cons pe_str pk_nil)) (by decide) (by decide) (fun _ _ _ _ _ _ us mv ws l1 l2 l3 => match us, mv, ws, l1, l2, l3 with | [_], [_, _, _, _, _, _], [_, _], _, _, _ => ⟨_, _, _, _, _, _, rfl, rfl, ⟨_, _, _, _, _, _, rfl, rfl, ⟨_, _, _, _, _, _, rfl, rfl, ⟨_, _, _, _, _, _, rfl, rfl, ⟨_, _, _, _, _, _, rfl, rfl, ⟨_, _, _, _, _, _, rfl, rfl, rfl⟩⟩⟩⟩⟩⟩)) (pa_cons (pe_op f_mulS pe_str pe_int) pa_nil)))
      (pss_cons (ps_if (ft_cmp (f_neT hr.units) (fv 11) (pe_callTy f_tuple (by rfl) T.b_tuple (by decide +kernel) (pa_cons (fe_lc (own := [("_law_k", 13)]) (tt := tYes) (by rfl) sc_l_right.nd (fi_R2 (by rfl) T.b_range (pa_cons pe_int (pa_cons pe_int pa_nil))) (blkOk_by (own := [("_law_k", 13)]) (N := ["_law_pot_here", "_law_shape_here", "_law_made", "_law_table", "_law_n", "_law_row", "_law_rows", "_law_given", "_law_turn", "_law_far", "_law_odd", "_law_ones", "_law_star", "_law_k"]) (sc := defScope s_l_right) (by decide +kernel)) (fun _ _ _ _ _ => pg_name (i := 13) sc_l_right.nd rfl (Or.inl rfl)) (fun _ _ _ _ _ => pts_nil) (fun _ _ _ _ _ => (pe_callTy f_intS (by rfl) T.b_int (by decide +kernel) (pa_cons (pe_op f_mulS pe_str (fv 13)) pa_nil)))) pa_nil)) (nomark _)) (pss_one (ps_ret pe_bl)) pss_nil)
      (pss_cons (ps_set (i := 12) sc_l_right.nd rfl (Or.inl rfl) (fc_make (ks := ["width", "fill"]) (ms := [("base", .int 10), ("sign", .str "minus"), ("least", .int 1), ("group", .int 0), ("mark", .str ","), ("side", .str "left")]) (idx := [0, 1, 2, 3, 4, 5, 7, 8, 6]) (mk_Format T) hr (by decide) (by rfl) tk (pk_cons pe_int (pk_cons pe_str pk_nil)) (by decide) (by decide) (fun _ _ _ _ _ _ us mv ws l1 l2 l3 => match us, mv, ws, l1, l2, l3 with | [_], [_, _, _, _, _, _], [_, _], _, _, _ => ⟨_, _, _, _, _, _, rfl, rfl, ⟨_, _, _, _, _, _, rfl, rfl, ⟨_, _, _, _, _, _, rfl, rfl, ⟨_, _, _, _, _, _, rfl, rfl, ⟨_, _, _, _, _, _, rfl, rfl, ⟨_, _, _, _, _, _, rfl, rfl, rfl⟩⟩⟩⟩⟩⟩)))
      (pss_cons (ps_if (PW.pt (pw_or (ft_cmp (f_neT hr.units) (fc_meth (ok_Format_numbers T) hr (by decide) tk (fv 12) (pa_cons pe_str pa_nil)) (fe_tup (pa_cons pe_int (pa_cons pe_int (pa_cons pe_int pa_nil)))) (nomark _)) (pw_or1 (ft_cmp (f_neT hr.units) (fc_meth (ok_Format_numbers T) hr (by decide) tk (fv 12) (pa_cons pe_str pa_nil)) (fe_tup pa_nil) (nomark _))))) (pss_one (ps_ret pe_bl)) pss_nil)
      (pss_one (ps_ret (pe_cmpR (f_eqL hr.units) (fe_lam (c := A.cC_l_right) (Pt := A.tP_l_right) (Tb := tabs_l_right A) (k := 6) T.F_l_ended sc_l_ended rfl (fun _ _ _ _ _ _ us hl => match us, hl with | [_], _ => rfl) (gives_l_ended T) TB rfl rfl hr (by decide) (by rfl) (LamX.lamS_by (by show LamX.lamSB (defScope s_l_right) _ = true; decide +kernel)) (Or.inl rfl) rfl (fun _ _ _ _ _ => rfl) (fun _ _ _ _ _ _ _ hrl tkl => (fc_meth (ok_Format_numbers T) hrl (by decide) tkl (fv 2) (pa_cons (fv 10) pa_nil)))) (fe_lst (pa_cons pe_str (pa_cons (fv 10) (pa_cons pe_bl pa_nil)))) (nomark _)))))))))))))))), ?_⟩
    clear hr tk po h
    -- A1
    refine seqCut (fun σ H' => ∃ d F, Fm.Ok F ∧ σ = [some (.ref p), some (.ref d), none, none, none, none, none, none, none, none, none, none, none, none] ∧ But p H H' ∧ Pot p H' ∧ H' d = some (.dK F.kvs)) (fun N hN => ?_) ?_
    · --{
      walk_at "sx"
      intro d F H1 ok b1 p1 nd h1
      exact hN _ _ ⟨d, F, ok, rfl, b1, p1, h1⟩
      --}
    rintro σ H1 ⟨d, F, ok, rfl, b1, p1, h1⟩
    have t1 := Tabs.but b1 h0 t0
    -- A2
    refine seqCut (fun σ H' => ∃ pm dx tb, σ = [some (.ref p), some (.ref d), some (.ref pm), some (.ref tb), none, none, none, none, none, none, none, none, none, none] ∧ Same H1 H' ∧ H' pm = some (.ins A.cFormat dx F.fields) ∧ H1 tb = none ∧ H' tb = some (.dK [])) (fun N hN => ?_) ?_
    · --{
      walk_at "sx"
      intro pm H2 npm s2 ⟨dx, fm⟩
      walk_at "sx"
      intro tb H3 ntb s3 h3
      walk_at "sx"
      intro a4 H4 n4 s4 h4
      walk_at "sx"
      exact hN _ _ ⟨pm, dx, tb, rfl, (s2.trans s3).trans s4, s4 _ _ (s3 _ _ fm), Same.no s2 ntb, s4 _ _ h3⟩
      --}
    rintro σ H2 ⟨pm, dx, tb, rfl, s12, fm, ntb, htb⟩
    have p2 := Pot.same s12 p1
    have E2b : ButN p H H2 := (ButN.of b1).trans (ButN.same s12)
    have t2 := Tabs.same s12 t1
    have hd2 := s12 _ _ h1
    -- A3
    refine seqCut (fun σ H' => ∃ kvs a4 a5, σ = [some (.ref p), some (.ref d), some (.ref pm), some (.ref tb), a4, a5, none, none, none, none, none, none, none, none] ∧ Sh2 A p d pm dx tb F kvs H H') (fun N hN => ?_) ?_
    · --{
      walk_at "sx"
      refine And.intro trivial ?_
      refine Loop.byAny (fun rest σ Hc => ∃ (done l : List Int) (kvs : List (Key × V)), ∃ a4 a5, rest = l.map V.int ∧ done ++ l = allI ∧ σ = [some (.ref p), some (.ref d), some (.ref pm), some (.ref tb), a4, a5, none, none, none, none, none, none, none, none] ∧
        Same H1 Hc ∧ Hc pm = some (.ins A.cFormat dx F.fields) ∧ Hc tb = some (.dK kvs) ∧ kvs.length ≤ done.length ∧ TabOk p F done kvs Hc) ?_ ?_ _ _ _ ?_
      · rintro D x r σ Hc ⟨done, l, kvs, a4, a5, hr, hdl, rfl, sc, fmc, ht, hk, tk⟩ N hN
        cases l with
        | nil => cases hr
        | cons n l =>
          cases hr
          have ni : n ∈ allI := by rw [← hdl]; simp
          have n1 := (allI_mem n).mp ni
          have sn : SmI n := by unfold SmI; omega
          have hdc := sc _ _ h1
          have dl : done.length ≤ 2201 := by
            have := congrArg List.length hdl
            rw [List.length_append] at this
            have e : allI.length = 2201 := by unfold allI; simp
            omega
          walk_at "sx"
          intro H5 s5
          have ht5 := s5 _ _ ht
          have tk5 : TabOk p F done kvs H5 := tk.imp fun _ _ _ h => s5 _ _ h
          walk_at "sx"
          intro e H6 n6 s6 h6
          have ht6 := s6 _ _ ht5
          have tk6 : TabOk p F done kvs H6 := tk5.imp fun _ _ _ h => s6 _ _ h
          obtain ⟨b, eb, hb⟩ := tk6.get (textI F n) h6
          walk_at "sx"
          rw [eb]
          intro e2 H7 n7 s7 h7
          have ht7 := s7 _ _ ht6
          have hb7 := s7 _ _ hb
          have fz : ((fl F done (textI F n)).map V.int).length ≤ 10000 := by
            rw [List.length_map]
            have : (fl F done (textI F n)).length ≤ done.length := List.length_filter_le ..
            omega
          walk_at "sx"
          intro a9 H9 n9 s9 h9
          have ht9 := s9 _ _ ht7
          have np9 : a9 ≠ p := pot_ne (Pot.same (((sc.trans s5).trans s6).trans s7) p1) n9
          have tk9 : TabOk p F done kvs H9 := tk6.imp fun _ _ _ h => s9 _ _ (s7 _ _ h)
          have tk9' := tk9.put np9 h9
          have kz : kvs.length < sizeLine := Nat.lt_of_lt_of_le (Nat.lt_succ_self _) (sz_le (by omega))
          walk_at "sx"
          intro H10 b10 h10
          have fm9 := s9 _ _ (s7 _ _ (s6 _ _ (s5 _ _ fmc)))
          refine hN _ _ trivial ⟨done ++ [n], l, _, _, _, rfl, by rw [List.append_assoc]; exact hdl, rfl, Same.but ((((sc.trans s5).trans s6).trans s7).trans s9) ntb b10, b10 _ _ (ne_of fm9 ht9 fun z => by cases z) fm9, h10, ?_, ?_⟩
          · have := putK_len kvs (Sum.inr (textI F n) : Key) (.ref a9)
            rw [List.length_append, List.length_singleton]
            omega
          · exact tk9'.imp fun a xs _ h => b10 _ _ (ne_of h ht9 fun z => by cases z) h
      · rintro σ Hc ⟨done, l, kvs, a4, a5, hr, hdl, rfl, sc, fmc, ht, hk, tk⟩
        have el : l = [] := by
          cases l with
          | nil => rfl
          | cons a b => cases hr
        subst el
        rw [List.append_nil] at hdl
        subst hdl
        exact hN _ _ ⟨kvs, a4, a5, rfl, (ButN.of b1).trans (ButN.same sc), Pot.same sc p1, Tabs.same sc t1, sc _ _ h1, fmc, ht, tk⟩
      · exact ⟨[], allI, [], none, none, allI_rg, rfl, rfl, s12, fm, htb, Nat.le_refl _, fun z => rfl⟩
      --}
    rintro σ Hc ⟨kvs, a4, a5, rfl, E⟩
    clear p2 E2b t2 hd2 htb ntb fm s12 t1 h1 p1 b1 h0 t0
    have m22 : Small 2201 := ⟨by decide, by decide⟩
    -- A4
    refine seqCut (fun σ H' => ∃ D5 ys, σ = [some (.ref p), some (.ref d), some (.ref pm), some (.ref tb), a4, a5, some (.ref D5), none, none, none, none, none, none, none] ∧ Sh2 A p d pm dx tb F kvs H H' ∧ D5 ≠ p ∧ H' D5 = some (.lst ys) ∧ ys.length = 12 ∧ ∀ y ∈ ys, ∃ z : Str, y = .str z ∧ 1 ≤ z.length ∧ z.length ≤ 25) (fun N hN => ?_) ?_
    · --{
      walk_at "sx"
      refine And.intro trivial ?_
      intro D5 H5 n5 s5 h5
      have E5 := E.same s5
      have np5 := pot_ne E.pt n5
      refine And.intro trivial ?_
      refine Comp.invP (fun Hd => But p Hc Hd ∧ Pot p Hd) (fun _ => True) (fun y => ∃ z, y = .str z ∧ 1 ≤ z.length ∧ z.length ≤ 25) (fun _ _ => trivial) ?_ ?_ _ [] _ (fun _ _ => trivial) (fun _ z => by cases z) ?_ ⟨But.of s5, E5.pt⟩ h5 ?_
      · rintro Hd acc ⟨b, pd⟩ hD acc'
        exact ⟨but_upd n5 b, pot_upd np5 pd⟩
      · rintro x Hd acc R _ ⟨b, pd⟩ hD kk
        have Ed := E.but b pd
        walk_at "sx"
        intro r H6 r0 r1 b6 p6
        have E6 := Ed.but b6 p6
        have hd6 := E6.hd
        have sr : SmI (r - 1100) := by unfold SmI; omega
        walk_at "sx"
        intro H7 s7
        exact kk _ _ ⟨_, rfl, text_tight F ok (r - 1100) (by omega)⟩ ⟨(b.trans b6).trans (But.of s7), Pot.same s7 p6⟩ (s7 _ _ (b6 _ _ np5 hD))
      · exact sz_le (by decide)
      · intro ys H6 hy ly ⟨b6, p6⟩ h6
        have ly : ys.length = 12 := by rw [ly, rgI_len]; decide
        walk_at "sx"
        exact hN _ _ ⟨D5, ys, rfl, E.but b6 p6, np5, h6, ly, hy⟩
      --}
    rintro σ H6 ⟨D5, ys, rfl, E6, np5, h6, ly, hy⟩
    clear E
    -- A5
    refine seqCut (fun σ H' => ∃ c3 L, σ = [some (.ref p), some (.ref d), some (.ref pm), some (.ref tb), a4, a5, some (.ref c3), none, none, none, none, none, none, none] ∧ Sh2 A p d pm dx tb F kvs H H' ∧ c3 ≠ p ∧ H' c3 = some (.lst L) ∧ L.length = 34 ∧ ∀ y ∈ L, ∃ z : Str, y = .str z ∧ z.length ≤ 26) (fun N hN => ?_) ?_
    · --{
      walk_at "sx"
      intro D7 H7 n7 s7 h7
      have E7 := E6.same s7
      have np7 := pot_ne E6.pt n7
      have hd57 := s7 _ _ h6
      refine And.intro (SqL.of hd57) ?_
      refine Comp.invP (fun Hd => But p H6 Hd ∧ Pot p Hd) (fun y => ∃ z, y = .str z ∧ 1 ≤ z.length ∧ z.length ≤ 25) (fun y => ∃ z, y = .str z ∧ z.length ≤ 26) ?_ ?_ ?_ _ [] _ hy (fun _ z => by cases z) ?_ ⟨But.of s7, E7.pt⟩ h7 ?_
      · rintro Hd ⟨b, _⟩
        exact SqL.of (b _ _ np5 h6)
      · rintro Hd acc ⟨b, pd⟩ hD acc'
        exact ⟨but_upd n7 b, pot_upd np7 pd⟩
      · rintro x Hd acc R ⟨z, rfl, z1, z2⟩ ⟨b, pd⟩ hD kk
        have z0 : 0 < z.length := z1
        have z3 : z.length ≤ 1000 := by omega
        walk_at "sx"
        intro z' H8 hz' b8 p8
        exact kk _ _ ⟨z', rfl, by omega⟩ ⟨b.trans b8, p8⟩ (b8 _ _ np7 hD)
      · refine sz_le ?_
        rw [ly]
        decide
      · intro ys2 H8 hy2 ly2 ⟨b8, p8⟩ h8
        have ly2 : ys2.length = 12 := by rw [ly2, ly]; rfl
        have E8 := E6.but b8 p8
        have h58 := b8 _ _ np5 h6
        have lz3 : ys.length + ys2.length ≤ sizeLine := sz_le (by omega)
        walk_at "sx"
        intro c1 H9 n9 s9 h9
        have lz4 : (ys ++ ys2).length = 24 := by rw [List.length_append]; omega
        walk_at "sx"
        intro c2 H10 n10 s10 h10
        have h9b := s10 _ _ h9
        walk_at "sx"
        intro c3 H11 n11 s11 h11
        have E10 := (E8.same s9).same s10
        have E11 := E10.same s11
        have np3 := pot_ne E10.pt n11
        refine hN _ _ ⟨c3, _, rfl, E11, np3, h11, ?_, ?_⟩
        · rw [List.length_append, lz4]
          rfl
        · intro y hy0
          rcases List.mem_append.mp hy0 with hy0 | hy0
          · rcases List.mem_append.mp hy0 with hy0 | hy0
            · obtain ⟨z, e, _, h⟩ := hy y hy0
              exact ⟨z, e, by omega⟩
            · exact hy2 y hy0
          · simp only [List.mem_cons, List.not_mem_nil, or_false] at hy0
            rcases hy0 with rfl | rfl | rfl | rfl | rfl | rfl | rfl | rfl | rfl | rfl <;> exact ⟨_, rfl, by decide +kernel⟩
      --}
    rintro σ H11 ⟨c3, L, rfl, E11, np3, h11, Ll, Lm⟩
    clear E6 h6 ly hy
    -- A6
    refine seqCut (fun σ H' => ∃ a5 a7, σ = [some (.ref p), some (.ref d), some (.ref pm), some (.ref tb), a4, a5, some (.ref c3), a7, none, none, none, none, none, none] ∧ Sh2 A p d pm dx tb F kvs H H') (fun N hN => ?_) ?_
    · --{
      have p11 := E11.pt
      walk_at "sx"
      intro D12 H12 n12 s12 h12
      have E12 := E11.same s12
      have np12 := pot_ne p11 n12
      have h1112 := s12 _ _ h11
      refine And.intro (SqL.of h1112) ?_
      have l7 : ("7" : Str).length = 1 := rfl
      refine Comp.invP (fun Hd => But p H11 Hd ∧ Pot p Hd) (fun y => ∃ z, y = .str z ∧ z.length ≤ 26) (fun y => ∃ z, y = .str z ∧ z.length ≤ 28) ?_ ?_ ?_ _ [] _ Lm (fun _ z => by cases z) ?_ ⟨But.of s12, E12.pt⟩ h12 ?_
      · rintro Hd ⟨b, _⟩
        exact SqL.of (b _ _ np3 h11)
      · rintro Hd acc ⟨b, pd⟩ hD acc'
        exact ⟨but_upd n12 b, pot_upd np12 pd⟩
      · rintro x Hd acc R ⟨z, rfl, z2⟩ ⟨b, pd⟩ hD kk
        have la := add_len z "7"
        have z0 : 0 < (z ++ "7" : Str).length := by omega
        have z3 : (z ++ "7" : Str).length ≤ 1000 := by omega
        have z4 : z.length + ("7" : Str).length ≤ sizeLine := sz_le (by omega)
        walk_at "sx"
        intro z' H8 hz' b8 p8
        exact kk _ _ ⟨z', rfl, by omega⟩ ⟨b.trans b8, p8⟩ (b8 _ _ np12 hD)
      · refine sz_le ?_
        rw [Ll]
        decide
      · intro ys3 H13 hy3 ly3 ⟨b13, p13⟩ h13
        have ly3 : ys3.length = 34 := by rw [ly3, Ll]; rfl
        have E13 := E11.but b13 p13
        have h1113 := b13 _ _ np3 h11
        have lz5 : L.length + ys3.length ≤ sizeLine := sz_le (by omega)
        walk_at "sx"
        intro c14 H14 n14 s14 h14
        have E14 := E13.same s14
        have hx : ∃ L2 : List V, (∀ y ∈ L2, ∃ z : Str, y = .str z ∧ z.length ≤ 28) ∧ H14 c14 = some (.lst L2) := by
          refine ⟨_, ?_, h14⟩
          intro y hy0
          rcases List.mem_append.mp hy0 with hy0 | hy0
          · obtain ⟨z, e, h⟩ := Lm y hy0
            exact ⟨z, e, by omega⟩
          · exact hy3 y hy0
        clear h14
        obtain ⟨L2, Lm2, h14⟩ := hx
        walk_at "sx"
        refine Loop.byAny (fun rest σ Hd => ∃ a5 a7, (∀ y ∈ rest, ∃ z : Str, y = .str z ∧ z.length ≤ 28) ∧ σ = [some (.ref p), some (.ref d), some (.ref pm), some (.ref tb), a4, a5, some (.ref c3), a7, none, none, none, none, none, none] ∧ Same H14 Hd) ?_ ?_ _ _ _ ?_
        · rintro D x r σ Hd ⟨a5, a7, hrest, rfl, sd⟩ N hN
          obtain ⟨z, rfl, hz⟩ := hrest x (List.mem_cons_self ..)
          have hr2 := fun y (hy : y ∈ r) => hrest y (List.mem_cons_of_mem _ hy)
          clear hrest
          have Ed := E14.same sd
          have hfd := Ed.hf
          -- B1
          refine seqCut (fun σ H' => ∃ (ns : List Int) (t : Addr), σ = [some (.ref p), some (.ref d), some (.ref pm), some (.ref tb), a4, some (.str z), some (.ref c3), some (.ref t), none, none, none, none, none, none] ∧ Same Hd H' ∧ H' t = some (.tup (ns.map V.int)) ∧ ns.Pairwise (· < ·) ∧ (∀ i, i ∈ ns ↔ codesI F i = z.cps.toList) ∧ ns.length ≤ 60) (fun N' hN' => ?_) ?_
          · --{
            walk_at "sx"
            refine And.intro (fun z' ez => ?_) (fun no => absurd rfl (no z))
            cases ez
            refine ⟨by omega, fun ns hns hm hl t H15 n15 s15 h15 => ?_⟩
            exact hN' _ _ ⟨ns, t, rfl, s15, h15, hns, hm, by omega⟩
            --}
          rintro σ H15 ⟨ns, t, rfl, s15, h15, hns, hm, nsl⟩
          have E15 := Ed.same s15
          clear hfd
          -- B2
          refine seqCut (fun σ H' => σ = [some (.ref p), some (.ref d), some (.ref pm), some (.ref tb), a4, some (.str z), some (.ref c3), some (.ref t), none, none, none, none, none, none] ∧ Same H15 H') (fun N' hN' => ?_) ?_
          · --{
            have rt : RefTy K H15 t (.type "tuple") true := ⟨_, .base (.tup h15), kit_ty (by decide +kernel)⟩
            walk_at "sx"
            intro l1 H16 n16 s16 h16
            have t16 := s16 _ _ h15
            walk_at "sx"
            intro D17 H17 n17 s17 h17
            refine And.intro (SqT.of (s17 _ _ t16)) ?_
            refine Comp.mapP (H0 := H16) (fun y => ∃ i : Int, y = .int i) (fun y => y) n17 (fun Hz sz => SqT.of (sz _ _ t16)) ?_ _ [] _ ?_ ?_ s17 h17 ?_
            · rintro y Hz R ⟨i, rfl⟩ sz kk
              walk_at "sx"
              exact kk Hz (Same.refl _)
            · intro y hy
              obtain ⟨i, _, rfl⟩ := List.mem_map.mp hy
              exact ⟨i, rfl⟩
            · refine sz_le ?_
              rw [List.length_map]
              simp only [List.length_nil]
              omega
            intro H18 s18 h18
            rw [List.nil_append, List.map_id'] at h18
            have q18 : SqL K H18 D17 (ns.map V.int) := SqL.of h18
            walk_at "sx"
            intro p19 H19 n19 s19 ⟨m, hm19, h19⟩
            have mz : m < 64 := by omega
            walk_at "sx"
            intro ns' r1 r2 a20 H20 n20 s20 h20
            have en : ns' = ns := rise_eq r1 hns fun i => by rw [r2]; simp
            subst en
            have h16b := s20 _ _ (s19 _ _ (s18 _ _ h16))
            have pq : Paired (EqW K H20 20) (ns'.map V.int) (ns'.map V.int) := EqW.same fun y hy => by
              obtain ⟨i, _, rfl⟩ := List.mem_map.mp hy
              exact .inl rfl
            walk_at "sx"
            exact hN' _ _ ⟨rfl, (((s16.trans s18).trans s19).trans s20)⟩
            --}
          rintro σ H20 ⟨rfl, s1520⟩
          have t20 := s1520 _ _ h15
          -- B3
          refine seqCut (fun σ H' => σ = [some (.ref p), some (.ref d), some (.ref pm), some (.ref tb), a4, some (.str z), some (.ref c3), some (.ref t), none, none, none, none, none, none] ∧ Same H15 H') (fun N' hN' => ?_) ?_
          · --{
            walk_at "sx"
            intro D21 H21 n21 s21 h21
            refine And.intro (SqT.of (s21 _ _ t20)) ?_
            refine Comp.filtP (H0 := H20) (fun y => ∃ i : Int, y = .int i) (fun y => match y with | .int n => decide (-1100 ≤ n) && decide (n ≤ 1100) | _ => false) (fun y => y) n21 (fun Hz sz => SqT.of (sz _ _ t20)) ?_ _ [] _ ?_ ?_ s21 h21 ?_
            · rintro y Hz R N2 ⟨i, rfl⟩ sz k1 k2
              walk_at "sx"
              refine iteD (fun g1 => ?_) (fun g1 => ?_)
              · walk_at "sx"
                refine iteD (fun g2 => ?_) (fun g2 => ?_)
                · walk_at "sx"
                  exact k1 (by show (decide (-1100 ≤ i) && decide (i ≤ 1100)) = true; rw [decide_eq_true g1, decide_eq_true g2]; rfl) Hz (Same.refl _)
                · exact k2 (by show (decide (-1100 ≤ i) && decide (i ≤ 1100)) = false; rw [decide_eq_false g2, Bool.and_false]) Hz (Same.refl _)
              · walk_at "sx"
                exact k2 (by show (decide (-1100 ≤ i) && decide (i ≤ 1100)) = false; rw [decide_eq_false g1, Bool.false_and]) Hz (Same.refl _)
            · intro y hy
              obtain ⟨i, _, rfl⟩ := List.mem_map.mp hy
              exact ⟨i, rfl⟩
            · refine sz_le ?_
              rw [List.length_map]
              simp only [List.length_nil]
              omega
            intro H22 s22 h22
            have E22 := (E15.same s1520).same s22
            have ht22 := E22.ht
            have h22b : H22 D21 = some (.lst ((fl F allI z).map V.int)) := by
              rw [h22, List.nil_append, List.map_id', ← fl_eq F z ns hns hm, List.filter_map]
              rfl
            walk_at "sx"
            intro e H23 n23 s23 h23
            have E23 := E22.same s23
            have ht23 := E23.ht
            obtain ⟨b, eb, hb⟩ := E23.tk.get z h23
            have h23b := s23 _ _ h22b
            refine ⟨_, ht23, ?_⟩
            rw [eb]
            have pq : Paired (EqW K H23 20) ((fl F allI z).map V.int) ((fl F allI z).map V.int) := EqW.same fun y hy => by
              obtain ⟨i, _, rfl⟩ := List.mem_map.mp hy
              exact .inl rfl
            walk_at "sx"
            exact hN' _ _ ⟨rfl, (s1520.trans s22).trans s23⟩
            --}
          rintro σ H24 ⟨rfl, s1524⟩
          have t24 := s1524 _ _ h15
          have E24 := E15.same s1524
          clear t20 s1520
          walk_at "sx"
          intro D25 H25 n25 s25 h25
          refine And.intro (SqT.of (s25 _ _ t24)) ?_
          refine Comp.mapP (H0 := H24) (fun y => ∃ i : Int, y = .int i ∧ codesI F i = z.cps.toList) (fun y => .bl false) n25 (fun Hz sz => SqT.of (sz _ _ t24)) ?_ _ [] _ ?_ ?_ s25 h25 ?_
          · rintro y Hz R ⟨i, rfl, hi⟩ sz kk
            have Ez := E24.same sz
            have hdz := Ez.hd
            have si : SmI i := codes_small F ok i (by rw [hi, show z.cps.toList.length = z.length from Array.length_toList ..]; omega)
            have ti : textI F i = z := (text_codes F i z).mpr hi
            walk_at "sx"
            intro H26 s26
            rw [ti]
            have e0 : (!decide (z = z)) = false := by simp
            have k := kk H26 s26
            show R (.bl (!decide (z = z))) H26
            rw [e0]
            exact k
          · intro y hy
            obtain ⟨i, hi, rfl⟩ := List.mem_map.mp hy
            exact ⟨i, rfl, (hm i).mp hi⟩
          · refine sz_le ?_
            rw [List.length_map]
            simp only [List.length_nil]
            omega
          intro H27 s27 h27
          have hb27 : ∃ bs : List Bool, H27 D25 = some (.lst (bs.map V.bl)) ∧ bs.any id = false := by
            refine ⟨ns.map fun _ => false, ?_, ?_⟩
            · rw [h27, List.nil_append, List.map_map, List.map_map]
              rfl
            · rw [List.any_map]
              simp
          obtain ⟨bs, h27b, ab⟩ := hb27
          have hq27 : SqL K H27 D25 (bs.map V.bl) := SqL.of h27b
          walk_at "sx"
          refine iteN ab ?_
          have s1427 : Same H14 H27 := ((sd.trans s15).trans s1524).trans s27
          exact hN _ _ (SqL.of (s1427 _ _ h14)) ⟨_, _, hr2, rfl, s1427⟩
        · rintro σ Hd ⟨a5, a7, hrest, rfl, sd⟩
          exact hN _ _ ⟨a5, a7, rfl, E14.same sd⟩
        · exact ⟨_, _, Lm2, rfl, Same.refl _⟩
      --}
    rintro σ H15 ⟨a5, a7, rfl, E15⟩
    clear E11 h11 Ll Lm np3 np5
    -- A7
    refine seqCut (fun σ H' => ∃ a5 a6 a7 a8 a9, σ = [some (.ref p), some (.ref d), some (.ref pm), some (.ref tb), a4, a5, a6, a7, a8, a9, none, none, none, none] ∧ Sh2 A p d pm dx tb F kvs H H') (fun N hN => ?_) ?_
    · --{
      walk_at "sx"
      refine And.intro trivial ?_
      refine Loop.byAny (fun rest σ Hd => ∃ a8 a9, σ = [some (.ref p), some (.ref d), some (.ref pm), some (.ref tb), a4, a5, some (.ref c3), a7, a8, a9, none, none, none, none] ∧ Sh2 A p d pm dx tb F kvs H Hd) ?_ ?_ _ _ _ ?_
      · rintro D x r σ Hd ⟨a8, a9, rfl, Ed⟩ N hN
        have ptd := Ed.pt
        have m15 : Small (10 ^ 15) := ⟨by decide, by decide⟩
        walk_at "sx"
        intro i H2 i0 i1 b2 p2
        have i2 : i < 10 ^ 15 := i1
        have E2 := Ed.but b2 p2
        have cm1 : CM i (10 ^ Int.toNat 8) := .inr (.inl (by decide))
        walk_at "sx"
        intro t H3 n3 s3 h3
        have E3 := E2.same s3
        have p3 := E3.pt
        have ntp : notPot [V.int 1, V.int (-1)] = true ∨ t ≠ p := .inr (pot_ne p2 n3)
        walk_at "sx"
        intro v H4 hv b4 p4
        obtain ⟨s0, rfl, hs0⟩ : ∃ s0 : Int, v = .int s0 ∧ (s0 = 1 ∨ s0 = -1) := by
          simp only [List.mem_cons, List.not_mem_nil, or_false] at hv
          rcases hv with rfl | rfl
          · exact ⟨1, rfl, .inl rfl⟩
          · exact ⟨-1, rfl, .inr rfl⟩
        have cm2 : CM (i * 10 ^ Int.toNat 8 + 5) s0 := .inr (.inl (by rcases hs0 with rfl | rfl <;> decide))
        have E4 := E3.but b4 p4
        have hd4 := E4.hd
        have sf : SmI ((i * 10 ^ Int.toNat 8 + 5) * s0) := by
          have e8 : (10 : Int) ^ Int.toNat 8 = 100000000 := by decide
          rw [e8]
          unfold SmI
          rcases hs0 with rfl | rfl <;> omega
        have hf4 := E4.hf
        refine And.intro cm2 ?_
        obtain ⟨far, ef⟩ : ∃ far : Int, far = (i * 10 ^ Int.toNat 8 + 5) * s0 := ⟨_, rfl⟩
        show gName 9 (.int ((i * 10 ^ Int.toNat 8 + 5) * s0)) _ _ _
        rw [← ef] at sf ⊢
        walk_at "sx"
        intro H5 s5
        have E5 := E4.same s5
        have hf5 := E5.hf
        have tl := text_len2 F ok far sf
        have tl2 : (textI F far).length ≤ 100000 := by omega
        have tc : codesI F far = (textI F far).cps.toList := (text_codes F far _).mp rfl
        walk_at "sx"
        refine And.intro (fun z' ez => ?_) (fun no => absurd rfl (no _))
        cases ez
        refine ⟨by omega, fun ns hns hm hl t6 H6 n6 s6 h6 => ?_⟩
        have E6 := E5.same s6
        have hf6 := E6.hf
        have iv : inV (.int far) (ns.map V.int) = true := inV_int ((hm far).mpr tc)
        have fa := flat_ints ns
        have sq6 : Sq K H6 t6 (ns.map V.int) := .inr (SqT.of h6)
        walk_at "sx"
        refine iteN (show opp true (inV (.int far) (ns.map V.int)) = false by rw [iv]; rfl) ?_
        walk_at "sx"
        refine And.intro trivial (And.intro (fun j ej => ?_) (fun z => by cases z))
        cases ej
        refine And.intro sf (fun H7 s7 => ?_)
        have E7 := E6.same s7
        have hf7 := E7.hf
        walk_at "sx"
        refine And.intro (fun z' ez => ?_) (fun no => absurd rfl (no _))
        cases ez
        refine ⟨by omega, fun ns hns hm hl t8 H8 n8 s8 h8 => ?_⟩
        have E8 := E7.same s8
        have iv8 : inV (.int far) (ns.map V.int) = true := inV_int ((hm far).mpr tc)
        have fa8 := flat_ints ns
        have sq8 : Sq K H8 t8 (ns.map V.int) := .inr (SqT.of h8)
        walk_at "sx"
        refine iteN (show opp true (inV (.int far) (ns.map V.int)) = false by rw [iv8]; rfl) ?_
        exact hN _ _ trivial ⟨_, _, rfl, E8⟩
      · rintro σ Hd ⟨a8, a9, rfl, Ed⟩
        exact hN _ _ ⟨a5, _, a7, a8, a9, rfl, Ed⟩
      · exact ⟨none, none, rfl, E15⟩
      --}
    rintro σ H16 ⟨a5, a6, a7, a8, a9, rfl, E16⟩
    clear E15
    -- A8
    refine seqCut (fun σ H' => ∃ v, σ = [some (.ref p), some (.ref d), some (.ref pm), some (.ref tb), a4, a5, a6, a7, a8, a9, some v, none, none, none] ∧ Sh2 A p d pm dx tb F kvs H H' ∧ OddT K H' v) (fun N hN => ?_) ?_
    · --{
      walk_at "sx"
      intro e1 H5 n5 s5 h5
      walk_at "sx"
      intro e2 H6 n6 s6 h6
      walk_at "sx"
      intro e3 H7 n7 s7 h7
      walk_at "sx"
      intro e4 H8 n8 s8 h8
      have s48 : Same H16 H8 := ((s5.trans s6).trans s7).trans s8
      have E8 := E16.same s48
      have pt8 := E8.pt
      walk_at "sx"
      refine And.intro (Nat.zero_lt_succ _) (And.intro (Nat.le_of_ble_eq_true rfl) ?_)
      intro v H10 hv b10 p10
      have E10 := E8.but b10 p10
      have odd : OddT K H10 v := by
        have k1 : H10 e1 = some (.tup []) := But.pot b10 pt8 (s8 _ _ (s7 _ _ (s6 _ _ h5))) fun _ _ z => by cases z
        have k2 : H10 e2 = some (.lst [.str "1"]) := But.pot b10 pt8 (s8 _ _ (s7 _ _ h6)) fun _ _ z => by cases z
        have k3 : H10 e3 = some (.dK []) := But.pot b10 pt8 (s8 _ _ h7) fun _ _ z => by cases z
        obtain ⟨i1, i2, i3, i4⟩ := T.in_Format
        have k5 : TyX K H10 (.ref pm) (.ref A.cFormat) := .base (.ins E10.hf T.cl_Format i1 i2 i3 i4)
        simp only [List.mem_cons, List.not_mem_nil, or_false] at hv
        rcases hv with rfl | rfl | rfl | rfl | rfl | rfl | rfl
        · exact ⟨.inl rfl, (fun _ z => by cases z), trivial⟩
        · exact ⟨.inl rfl, (fun _ z => by cases z), trivial⟩
        · exact ⟨.inr ⟨_, rfl⟩, (fun _ z => by cases z), any_of (.base (.tup k1)) (.inl rfl)⟩
        · exact ⟨.inr ⟨_, rfl⟩, (fun _ z => by cases z), any_of (.base (.lst k2)) (.inr (.inl rfl))⟩
        · exact ⟨.inl rfl, (fun _ z => by cases z), trivial⟩
        · exact ⟨.inr ⟨_, rfl⟩, (fun _ z => by cases z), any_of (.base (.dK k3)) (.inr (.inr rfl))⟩
        · exact ⟨.inr ⟨_, rfl⟩, (fun _ z => by cases z), ⟨⟨_, k5, T.kn_Format_int⟩, ⟨_, k5, T.kn_Format_str⟩⟩⟩
      exact hN _ _ ⟨v, rfl, E10, odd⟩
      --}
    rintro σ H17 ⟨v, rfl, E17, odd⟩
    clear E16
    -- A9
    have e1 : ("1" : Str) = ⟨#[49]⟩ := by decide +kernel
    refine seqCut (fun σ H' => ∃ t : Addr, σ = [some (.ref p), some (.ref d), some (.ref pm), some (.ref tb), a4, a5, a6, a7, a8, a9, some v, some (.ref t), none, none] ∧ Same H17 H' ∧ H' t = some (.tup (ones12.map V.int))) (fun N hN => ?_) ?_
    · --{
      walk_at "sx"
      intro pf dxf H1 npf s1 h1
      refine sp_init_ok (F := onesF) onesF_ok h1 fun H2 b2 ⟨dxm, f2⟩ => ⟨rfl, ?_⟩
      have sC2 := Same.but s1 npf b2
      have mok := onesF_ok
      have an : AnyV K H2 (.str (repC 49 (Int.toNat 12))) := by
        show (repC 49 12).length ≤ 100000
        decide +kernel
      walk_at "sx"
      refine And.intro (fun z' ez => ?_) (fun no => absurd rfl (no _))
      cases ez
      refine ⟨by decide +kernel, fun ns hns hm hl t H3 n3 s3 h3 => ?_⟩
      have hm' : ∀ i, i ∈ ns ↔ codesI onesF i = (repC 49 12).cps.toList := hm
      simp only [ones_txt] at hm'
      have en : ns = ones12 := nums_eq onesF_ok all_ones (by decide) hns hm'
      subst en
      exact hN _ _ ⟨t, rfl, sC2.trans s3, h3⟩
      --}
    rintro σ H18 ⟨t, rfl, s18, h18⟩
    -- A10
    refine seqCut (fun σ H' => ∃ a13 : Option V, σ = [some (.ref p), some (.ref d), some (.ref pm), some (.ref tb), a4, a5, a6, a7, a8, a9, some v, some (.ref t), none, a13] ∧ Same H17 H') (fun N hN => ?_) ?_
    · --{
      walk_at "sx"
      refine And.intro trivial ?_
      intro D5 H5 n5 s5 h5
      refine And.intro trivial ?_
      refine Comp.mapP (H0 := H18) (fun y => ∃ k : Nat, y = .int ((k : Nat) : Int) ∧ 1 ≤ k ∧ k ≤ 12) (fun v => match v with | .int k => V.int (onesN k.toNat) | v => v) n5 (fun _ _ => trivial) ?_ _ [] _ ?_ ?_ s5 h5 ?_
      · rintro y Hz R ⟨k, rfl, k1, k2⟩ sz kk
        have kb : (-1000000 : Int) ≤ ((k : Nat) : Int) ∧ ((k : Nat) : Int) ≤ 1000000 := by omega
        have o1 : PySem.intText? (repC 49 (Int.toNat ((k : Nat) : Int))) = some (onesN k) := (ones_at k1 k2).1
        have o2 : (repC 49 (Int.toNat ((k : Nat) : Int))).length ≤ 640 := (ones_at k1 k2).2
        walk_at "sx"
        exact kk Hz (Same.refl _)
      · intro y hy
        obtain ⟨i, hi, rfl⟩ := List.mem_map.mp hy
        have hi2 : i < 12 := List.mem_range.mp hi
        exact ⟨1 + i, by congr 1, by omega, by omega⟩
      · exact sz_le (by decide)
      intro H6 s6 h6
      have h6b : H6 D5 = some (.lst (ones12.map V.int)) := h6
      have q6 : SqL K H6 D5 (ones12.map V.int) := SqL.of h6b
      walk_at "sx"
      intro t7 H7 n7 s7 h7
      have h18b := s7 _ _ (s6 _ _ h18)
      have pq : Paired (EqW K H7 20) (ones12.map V.int) (ones12.map V.int) := EqW.same fun y hy => by
        obtain ⟨i, _, rfl⟩ := List.mem_map.mp hy
        exact .inl rfl
      walk_at "sx"
      exact hN _ _ ⟨_, rfl, (s18.trans s6).trans s7⟩
      --}
    rintro σ H19 ⟨a13, rfl, s19⟩
    clear s18 h18
    -- A11
    refine seqCut (fun σ H' => ∃ (ps dx : Addr), σ = [some (.ref p), some (.ref d), some (.ref pm), some (.ref tb), a4, a5, a6, a7, a8, a9, some v, some (.ref t), some (.ref ps), a13] ∧ Same H17 H' ∧ H' ps = some (.ins A.cFormat dx starF.fields)) (fun N hN => ?_) ?_
    · --{
      walk_at "sx"
      intro pf dxf H1 npf s1 h1
      refine sp_init_ok (F := starF) starF_ok h1 fun H2 b2 ⟨dxm, f2⟩ => ⟨rfl, ?_⟩
      exact hN _ _ ⟨pf, dxm, rfl, s19.trans (Same.but s1 npf b2), f2⟩
      --}
    rintro σ H20 ⟨ps, dxs, rfl, s20, hps⟩
    clear s19
    -- A12
    refine seqCut (fun σ H' => σ = [some (.ref p), some (.ref d), some (.ref pm), some (.ref tb), a4, a5, a6, a7, a8, a9, some v, some (.ref t), some (.ref ps), a13] ∧ Same H17 H') (fun N hN => ?_) ?_
    · --{
      have mok := starF_ok
      walk_at "sx"
      refine And.intro (fun z' ez => ?_) (fun no => absurd rfl (no _))
      cases ez
      refine ⟨by decide +kernel, fun ns hns hm hl t1 H3 n3 s3 h3 => ?_⟩
      have hm' : ∀ i, i ∈ ns ↔ codesI starF i = [49, 49, 53] := hm
      have en : ns = [5, 15, 115] := nums_eq starF_ok all_star1 (by decide) hns hm'
      subst en
      walk_at "sx"
      intro t2 H4 n4 s4 h4
      have h34 := s4 _ _ h3
      have pq : Paired (EqW K H4 20) [V.int 5, V.int 15, V.int 115] [V.int 5, V.int 15, V.int 115] := EqW.same fun y hy => by
        simp only [List.mem_cons, List.not_mem_nil, or_false] at hy
        rcases hy with rfl | rfl | rfl <;> exact .inl rfl
      have hps4 := s4 _ _ (s3 _ _ hps)
      walk_at "sx"
      refine And.intro (fun z' ez => ?_) (fun no => absurd rfl (no _))
      cases ez
      refine ⟨by decide +kernel, fun ns hns hm hl t3 H5 n5 s5 h5 => ?_⟩
      have hm' : ∀ i, i ∈ ns ↔ codesI starF i = [49, 32, 53] := hm
      have en : ns = [] := nums_eq starF_ok all_star2 (by decide) hns hm'
      subst en
      walk_at "sx"
      intro t6 H6 n6 s6 h6
      have h56 := s6 _ _ h5
      have pq2 : Paired (EqW K H6 20) ([] : List V) [] := .nil
      walk_at "sx"
      exact hN _ _ ⟨rfl, (((s20.trans s3).trans s4).trans s5).trans s6⟩
      --}
    rintro σ H21 ⟨rfl, s21⟩
    have E21 := E17.same s21
    have an21 := AnyV.same s21 odd.an
    walk_at "sx"
    refine And.intro E21.tbs ?_
    intro H22 x22 t22
    have E22 := E21.ext x22 t22
    have hf22 := E22.hf
    have an22 := AnyV.ext x22 an21
    unfold TEnd
    walk_at "sx"
    refine And.intro (fun z ez => absurd ez (odd.ns z)) (fun _ dd H23 s23 h23 => ?_)
    have E23 := E22.same s23
    refine ⟨rfl, dd, v, rfl, h23, fun p24 H24 n24 s24 h24 => ?_⟩
    have E24 := E23.same s24
    walk_at "sx"
    intro a25 H25 n25 s25 h25
    have E25 := E24.same s25
    have h24b := s25 _ _ h24
    have pq : Paired (EqW K H25 20) [V.str "InvalidText", v, .bl true] [V.str "InvalidText", v, .bl true] := EqW.same fun y hy => by
      simp only [List.mem_cons, List.not_mem_nil, or_false] at hy
      rcases hy with rfl | rfl | rfl
      · exact .inl rfl
      · exact odd.fl
      · exact .inl rfl
    walk_at "sx"
    exact q H25 E25.bn E25.tbs
end

end Fg
set_option Elab.async false
set_option linter.all false
set_option maxRecDepth 100000
set_option maxHeartbeats 4000000
namespace Fg
open PySem PySem.Spec PyProof.Rows L2
local macro_rules | `(tactic| walk_at "hp") => `(tactic| first | assumption | (refine Same.get (by assumption) ?_; walk_at "hp"))
local macro_rules | `(tactic| walk_at "sq") => `(tactic| first | assumption | (exact Or.inr (by assumption)) | (exact Or.inl (by assumption)) | (exact Or.inl (SqL.of (by walk_at "hp"))) | (exact Or.inr (SqT.of (by walk_at "hp"))) | (exact SqL.of (by walk_at "hp")) | (exact SqT.of (by walk_at "hp")))
local macro_rules | `(tactic| walk_at "cl") => `(tactic| first | ((first | show (_ : Int) < _ | show (_ : Int) ≤ _); first | omega | decide) | ((first | show (_ : Nat) < _ | show (_ : Nat) ≤ _); first | with_reducible assumption | (refine sz_le ?_; first | decide | omega | (simp <;> omega)) | (refine sz_lt ?_; first | decide | omega | (simp <;> omega)) | omega | decide | ((with_reducible show List.length _ < _); exact Nat.le_of_ble_eq_true rfl)) | rfl | walk_at "hp" | walk_at "sq" | (refine And.intro (by walk_at "cl") (by walk_at "cl")) | (exact Exists.intro _ (by walk_at "hp")) | (exact Exists.intro _ (Exists.intro _ (by walk_at "hp"))) | (exact Exists.intro _ (Exists.intro _ (And.intro (by walk_at "hp") rfl))) | decide | (exact Or.inl (by walk_at "cl")) | (exact Or.inr (by walk_at "cl")) | omega)
local macro_rules | `(tactic| walk_at "s1") => `(tactic| first | refine And.intro (by walk_at "cl") ?_ | apply Exists.intro)
local macro_rules | `(tactic| walk_at "sx") => `(tactic| repeat walk_at "s1")
local macro_rules | `(tactic| walk_at "si") => `(tactic| first | refine iteY rfl ?_ | refine iteN rfl ?_)
local macro_rules | `(tactic| walk_at "sy") => `(tactic| repeat first | walk_at "s1" | walk_at "si")
/-- a def that is known -/
theorem fnok_of {P : Program} {w : World} {K : PySem.W.Frag} {mg : Str → Option Value} {base : Heap} {x : Str} {st : Stmt} {f : Addr} {fd : FuncData} {N ps : List Str} {k : Nat} {sp : Sp} (F : Fun K x x st f fd) (S : FnScope N ps (defScope st))
    (len : ∀ vs H Q E, sp vs H Q E → vs.length = ps.length)
    (hbody : ∀ (f : Addr) (cdv : Value) (A : Around) (outer : List Env) (s : Shared) (H : Hp) (vs : List V) (Q : VK) (E : XK), Room k (cxOf (L2.CX P w) P w K mg base N x (defScope st) f cdv A outer s H E).A →
      Takes (cxOf (L2.CX P w) P w K mg base N x (defScope st) f cdv A outer s H E) (fun cls d _ H => E cls d H) →
      PassesOwn (model P w) (cxOf (L2.CX P w) P w K mg base N x (defScope st) f cdv A outer s H E).A (cxOf (L2.CX P w) P w K mg base N x (defScope st) f cdv A outer s H E).env (cxOf (L2.CX P w) P w K mg base N x (defScope st) f cdv A outer s H E).xe → sp vs H Q E →
      ∃ t, PSs (cxOf (L2.CX P w) P w K mg base N x (defScope st) f cdv A outer s H E) (defBody st) t ∧ t { nx := fun _ H' => Q .non H', rt := Q } (start N vs) H) :
    FnOk P w K mg base (L2.CX P w) (k + 1) f fd ps sp := F.okX S len fun cdv A outer s H vs Q E hr h => hbody f cdv A outer s H vs Q E hr (takes_of rfl rfl rfl rfl) (passes_of rfl) h
/-- each item gives y; an invariant beside -/
theorem Comp.inv {st : Hp → Prop} {g : TG} {te : TE} {vs : List Nat} {σ : L2.St} {D : Addr} {Q : Hp → Prop} (Iv : Hp → Prop) (Px : V → Prop) (y : V) (hst : ∀ H, Iv H → st H) (hI : ∀ H acc, Iv H → H D = some (.lst acc) → ∀ acc', Iv (upd H D (.lst acc')))
    (hx : ∀ (x : V) (H : Hp) (acc : List V) (R : VK), Px x → Iv H → H D = some (.lst acc) → (∀ H', Iv H' → H' D = some (.lst acc) → R y H') → g x (wipe σ vs) H fun σ2 H2 => wipe σ2 vs = wipe σ vs ∧ te σ2 H2 R) :
    ∀ (xs : List V) (acc : List V) (H : Hp), (∀ x ∈ xs, Px x) → acc.length + xs.length ≤ sizeLine → Iv H → H D = some (.lst acc) → (∀ H', Iv H' → H' D = some (.lst (acc ++ xs.map fun _ => y)) → Q H') → Comp st g tYes te vs σ D Q xs H
  | [], acc, H, _, _, s, hD, q => q H s (by rw [List.map_nil, List.append_nil]; exact hD)
  | x :: r, acc, H, hp, hl, s, hD, q => by
    rw [List.length_cons] at hl
    have k := hx x H acc (fun y H4 => ∃ acc, H4 D = some (.lst acc) ∧ acc.length < sizeLine ∧ st (upd H4 D (.lst (acc ++ [y]))) ∧ Comp st g tYes te vs σ D Q r (upd H4 D (.lst (acc ++ [y])))) (hp x (List.mem_cons_self ..)) s hD fun H' s' hD' => by
      have s2 := hI H' acc s' hD' (acc ++ [y])
      refine ⟨acc, hD', by omega, hst _ s2, ?_⟩
      refine Comp.inv Iv Px y hst hI hx r (acc ++ [y]) _ (fun z hz => hp z (List.mem_cons_of_mem _ hz)) (by rw [List.length_append, List.length_singleton]; omega) s2 upd_same fun H2 s3 e => q H2 s3 ?_
      rw [e, List.append_assoc]
      rfl
    exact k
theorem sqL_upd {K : PySem.W.Frag} {H Hc : Hp} {a D : Addr} {xs : List V} {o : HO} (h0 : SqL K H a xs) (n : H D = none) (h1 : SqL K Hc a xs) : SqL K (upd Hc D o) a xs := by
  rcases h0 with (h0 | ⟨u, h0⟩) | hk
  · have ne := ne_of_none h0 n
    rcases h1 with (h1 | ⟨u, h1⟩) | hk
    · exact .inl (.inl (by rw [upd_ne ne]; exact h1))
    · exact .inl (.inr ⟨u, by rw [upd_ne ne]; exact h1⟩)
    · exact .inr hk
  · have ne := ne_of_none h0 n
    rcases h1 with (h1 | ⟨u, h1⟩) | hk
    · exact .inl (.inl (by rw [upd_ne ne]; exact h1))
    · exact .inl (.inr ⟨u, by rw [upd_ne ne]; exact h1⟩)
    · exact .inr hk
  · exact .inr hk
theorem sqL_butN {K : PySem.W.Frag} {H0 H H' : Hp} {a p : Addr} {xs : List V} (h1 : SqL K H a xs) (h0 : SqL K H0 a xs) (s : Same H0 H) (n : H0 p = none) (b : ButN p H H') : SqL K H' a xs := by
  rcases h0 with (h0 | ⟨u, h0⟩) | hk
  · exact .inl (.inl (b _ _ (ne_of_none h0 n) (s _ _ h0) fun _ z => by cases z))
  · exact .inl (.inr ⟨u, b _ _ (ne_of_none h0 n) (s _ _ h0) fun _ z => by cases z⟩)
  · exact .inr hk
theorem tabS_upd {H : Hp} {D P : Addr} {q : Str} {acc acc' : List V} (hD : H D = some (.lst acc)) (t : LamX.TabS H P q) : LamX.TabS (upd H D (.lst acc')) P q := by
  obtain ⟨ps, h1, h2, h3⟩ := t
  have ne : ∀ {a : Addr} {o : HO}, H a = some o → (∀ xs, o ≠ .lst xs) → a ≠ D := fun {a o} ea no z => by
    rw [z, hD] at ea
    exact no acc (Option.some.inj ea).symm
  refine ⟨ps, by rw [upd_ne (ne h1 fun _ z => by cases z)]; exact h1, h2, fun pos cv hc => ?_⟩
  obtain ⟨c, e1, e2⟩ := h3 pos cv hc
  exact ⟨c, e1, by rw [upd_ne (ne e2 fun _ z => by unfold LamX.CodeO at z; cases z)]; exact e2⟩
theorem ButN.none_of {p : Addr} {H H' : Hp} {d : Addr} (s : ButN p H H') (n : H' d = none) (hp : d ≠ p) (nt : ∀ ps, H d ≠ some (.tbl ps)) : H d = none := by
  cases h : H d with
  | none => rfl
  | some o =>
    rw [s d o hp h (fun ps z => nt ps (by rw [h, z]))] at n
    cases n
section
variable {P : Program} {w : World} {K : PySem.W.Frag} {mg : Str → Option Value} {base : Heap} {A : Ad}
def sp_law (K : PySem.W.Frag) (A : Ad) : Sp := s1 fun a H Q _ => ∃ (s : Addr) (ns : List Int), a = .ref s ∧ SqL K H s (ns.map V.int) ∧ ns.length ≤ 63 ∧ LamX.Tabs (tabs_l_right A) H ∧ ∀ H', Q (.bl true) H'
theorem law_fun (T : Txt w K mg A) : FunAt K mg "law" s_law := T.F_law
theorem ok_law {f : Addr} {fd : FuncData} (F : Fun K "law" "law" s_law f fd) (T : Txt w K mg A) (TB : LamX.TabB base mg A.cC_l_right A.tP_l_right) : FnOk P w K mg base (L2.CX P w) 11 f fd ["_law_script"] (sp_law K A) := by
  refine fnok_of F sc_law (fun vs H Q E h => ?_) (fun f cdv Ar outer s H vs Q E hr tk po h => ?_)
  · obtain ⟨_, rfl, _⟩ := s1_len h
    rfl
  · obtain ⟨a, rfl, s0, ns, rfl, h0, hl, t0, q⟩ := s1_len h
    refine ⟨_, (pss_one (ps_ret (pe_callB (f_all rfl) (by rfl) T.b_all (by decide +kernel) (pa_cons (fe_lc (own := [("_law_k", 1)]) (tt := tYes) (by rfl) sc_law.nd (fi_R1 (by rfl) T.b_range (pa_cons (pe_callB (f_max rfl) (by rfl) T.b_max (by decide +kernel) (pa_cons pe_int (pa_cons (pe_callB (f_min rfl) (by rfl) T.b_min (by decide +kernel) (pa_cons (pe_callB f_len (by rfl) T.b_len (by decide +kernel) (pa_cons (fv 0) pa_nil)) (pa_cons pe_int pa_nil))) pa_nil))) pa_nil)) (blkOk_by (own := [("_law_k", 1)]) (N := ["_law_script", "_law_k"]) (sc := defScope s_law) (by decide +kernel)) (fun _ _ _ _ _ => pg_name (i := 1) sc_law.nd rfl (Or.inl rfl)) (fun _ _ _ _ _ => pts_nil) (fun _ _ _ _ _ => (fc_call (ok_l_right T TB) hr (by decide) (by rfl) takes0 (pa_cons (fc_call (ok_l_pot T) hr (by decide) (by rfl) takes0 (pa_cons (fv 0) (pa_cons (fv 1) pa_nil))) pa_nil)))) pa_nil)))), ?_⟩
    walk_at "sx"
    refine And.intro trivial ?_
    intro D H2 n2 s2 h2
    refine And.intro trivial ?_
    refine Comp.inv (fun Hc => SqL K Hc s0 (ns.map V.int) ∧ LamX.Tabs (tabs_l_right A) Hc) (fun x => ∃ k : Nat, x = .int (k : Nat) ∧ k ≤ 5) (.bl true) (fun _ _ => trivial) ?_ ?_ _ [] _ ?_ ?_ ?_ h2 ?_
    · rintro Hc acc ⟨h1, t1⟩ hD acc'
      exact ⟨sqL_upd h0 n2 h1, fun r hr => tabS_upd hD (t1 r hr)⟩
    · rintro x Hc acc R ⟨k, rfl, hk⟩ ⟨h1, t1⟩ hD kk
      walk_at "sx"
      intro p H3 np s3 p3
      have t3 := Tabs.same s3 t1
      walk_at "sx"
      intro H4 b4 t4
      exact kk H4 ⟨sqL_butN (s3.seq h1) h1 s3 np b4, t4⟩ (b4 _ _ (ne_of_none hD np) (s3 _ _ hD) fun _ z => by cases z)
    · intro x hx
      obtain ⟨i, hi, rfl⟩ := List.mem_map.mp hx
      have := List.mem_range.mp hi
      exact ⟨i, by rw [Int.zero_add], by omega⟩
    · rw [rgI_len]
      refine sz_le ?_
      simp only [List.length_nil]
      omega
    · exact ⟨s2.seq h0, Tabs.same s2 t0⟩
    · rintro Hc ⟨h1, t1⟩ hD
      have hD2 : ∀ n : Nat, ([] ++ List.map (fun _ => V.bl true) (rgI 0 n)) = (List.replicate n true).map V.bl := fun n => by
        rw [List.nil_append, List.map_replicate, List.map_const', rgI_len]
      rw [hD2] at hD
      have al : ∀ n : Nat, ((List.replicate n true).all id) = true := fun n => by
        induction n with
        | zero => rfl
        | succ n ih => rw [List.replicate_succ, List.all_cons, ih]; rfl
      have qq := q Hc
      rw [← al (max 2 (min (((List.map V.int ns).length : Nat) : Int) 5)).toNat] at qq
      refine ⟨_, _, SqL.of hD, rfl, qq⟩
end

end Fg
set_option Elab.async false
set_option linter.all false
set_option maxRecDepth 100000
set_option maxHeartbeats 4000000
namespace Fg
open PySem PySem.Spec PyProof.Rows L2
local macro_rules | `(tactic| walk_at "hp") => `(tactic| first | assumption | (refine Same.get (by assumption) ?_; walk_at "hp"))
local macro_rules | `(tactic| walk_at "sq") => `(tactic| first | assumption | (exact Or.inr (by assumption)) | (exact Or.inl (by assumption)) | (exact Or.inl (SqL.of (by walk_at "hp"))) | (exact Or.inr (SqT.of (by walk_at "hp"))) | (exact SqL.of (by walk_at "hp")) | (exact SqT.of (by walk_at "hp")))
local macro_rules | `(tactic| walk_at "cl") => `(tactic| first | ((first | show (_ : Int) < _ | show (_ : Int) ≤ _); first | omega | decide) | ((first | show (_ : Nat) < _ | show (_ : Nat) ≤ _); first | with_reducible assumption | (refine sz_le ?_; first | decide | omega | (simp <;> omega)) | (refine sz_lt ?_; first | decide | omega | (simp <;> omega)) | omega | decide | ((with_reducible show List.length _ < _); exact Nat.le_of_ble_eq_true rfl)) | rfl | walk_at "hp" | walk_at "sq" | (refine And.intro (by walk_at "cl") (by walk_at "cl")) | (exact Exists.intro _ (by walk_at "hp")) | (exact Exists.intro _ (Exists.intro _ (by walk_at "hp"))) | (exact Exists.intro _ (Exists.intro _ (And.intro (by walk_at "hp") rfl))) | decide | (exact Or.inl (by walk_at "cl")) | (exact Or.inr (by walk_at "cl")) | omega)
local macro_rules | `(tactic| walk_at "s1") => `(tactic| first | refine And.intro (by walk_at "cl") ?_ | apply Exists.intro)
local macro_rules | `(tactic| walk_at "sx") => `(tactic| repeat walk_at "s1")
local macro_rules | `(tactic| walk_at "si") => `(tactic| first | refine iteY rfl ?_ | refine iteN rfl ?_)
local macro_rules | `(tactic| walk_at "sy") => `(tactic| repeat first | walk_at "s1" | walk_at "si")
theorem law_facts {w : World} {mg : Str → Option Value} {fa : Addr} {h : Heap} (Y : headHk.says w h) (G : h.Ns mainGlobals mg) (hmg : mg "law" = some (.ref fa)) :
    ∃ K : PySem.W.Frag, K.In h ∧ LamX.LawAtS PySem.Challenge.rw_figurelines_k04_whole_integers_of_a_text w K (L2.CX (PySem.Challenge.rw_figurelines_k04_whole_integers_of_a_text).prog w) 11 63 "_law_script" mg fa h := by
  obtain ⟨K, X, c⟩ := Y
  have T := txt_of X G c
  obtain ⟨f, fd, F, g⟩ := (law_fun T).ex
  have ef := hmg.symm.trans g
  cases ef
  have F0 := F
  obtain ⟨oc, od, kV, doc, pm, an, cdv, ct, osl, rfl, lk, hcd⟩ := F.ex
  have hm : (("_law_right", none) : He.Defn) ∈ headTf := List.mem_cons_self ..
  have one : ∀ p ∈ [He.cT K ("_law_right", none)], p = He.cT K ("_law_right", none) := fun p hp => List.mem_singleton.mp hp
  refine ⟨K, X, PySem.W.fnOf "law" "law" (defArgs s_law) (defBody s_law) (defScope s_law) .none kV doc pm an cdv ct, [He.cT K ("_law_right", none)], sp_law K (adOf K), fun p hp => ?_, fun p hp => ?_, fun p hp => ?_, fun s u => .of_eq rfl, fun H a ns hl _ hT hS => ?_, fun base KB GB TB => ?_⟩
  · rw [one p hp]; exact c.empty _ hm
  · rw [one p hp]; exact c.out _ hm
  · rw [one p hp]; exact PySem.W.codeHd_of_K X (c.hd _ hm)
  · refine ⟨a, ns, rfl, hS, hl, fun p hp => ?_, fun _ => rfl⟩
    rw [List.mem_singleton.mp hp]
    exact LamX.TabS.nil (hT _ (List.mem_singleton.mpr rfl))
  · exact ok_law F0 T (TB _ (List.mem_singleton.mpr rfl))
end Fg
open PySem PySem.W PySem.Calls PyProof.Rows
set_option maxRecDepth 100000 in
set_option maxHeartbeats 0 in
theorem PySem.Challenge.cw_figurelines_k04_whole_integers_of_a_text_holds : PySem.Challenge.rw_figurelines_k04_whole_integers_of_a_text.Holds := by
  w_on; o_law
  refine HandSHeadRun.head_any (r := OpenLaw.row PySem.Challenge.rw_figurelines_k04_whole_integers_of_a_text) (q := view (OpenLaw.row PySem.Challenge.rw_figurelines_k04_whole_integers_of_a_text).prog [41]) (H := Fg.headHk) (ob := Fg.headOb) (M := 12000) (loose := Fg.headNames) (d := HandSHeadRun.topDef (OpenLaw.row PySem.Challenge.rw_figurelines_k04_whole_integers_of_a_text).prog 41) (kwd := []) Fg.headOb_eq
    (by kernel_rfl) (fun s => by kernel_rfl) Fg.headRun (by kernel_rfl) (by kernel_rfl) (by kernel_rfl) (by rfl) (by first | assumption | decide +kernel) (by decide +kernel) ⟨rfl, rfl, rfl, rfl, rfl, by decide +kernel⟩ ?hw ?hc
  case hw => w_witness2
  case hc =>
    refine LamX.walk_ofTsE (l := PySem.Challenge.rw_figurelines_k04_whole_integers_of_a_text) (n := 63) (k := 11) (x := "_law_script") (CX := fun w => L2.CX (PySem.Challenge.rw_figurelines_k04_whole_integers_of_a_text).prog w) rfl (by decide) (by kernel_rfl) ⟨rfl, by decide, by decide⟩ ?F ?X
    case F =>
      intro w mg fa h Y G hmg0
      have hmg : mg ("law" : PySem.Str) = some (.ref fa) := by
        have e : (HandSHeadRun.topDef (OpenLaw.row PySem.Challenge.rw_figurelines_k04_whole_integers_of_a_text).prog 41).name = ("law" : PySem.Str) := by kernel_rfl
        rw [← e]
        exact hmg0
      exact Fg.law_facts Y G hmg
    case X =>
      intro w H s e s' z
      obtain ⟨_, _, _, _, _, _, _, _, _, _, _, _, z⟩ := z
      exact z
#print axioms PySem.Challenge.cw_figurelines_k04_whole_integers_of_a_text_holds
