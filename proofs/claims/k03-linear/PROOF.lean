import PyProof.Rows.All
import HandS.ForMost
import HandS.Exc
import HandS.Wide
import HandS.IsInst
import HandS.Flow
import HandS.Defaults
import HandS.Lambda
import HandS.EndBits
import HandS.EndTab
import HandS.ExcInit
import HandS.ExcField
import HandS.ExcIs
import HandS.TryMany
import HandS.OwnEq
import KE.KOpsOwn
import PyProof.InstEq
import HandS.Style
import HandS.WordsExc
import HandS.Set
import HandS.SetBool
import HandS.SetTxt0
import HandS.SetFor
import HandS.More
import HandS.Strs
import PyProof.Rows.SetFrom
import HandS.Comp
import KE.IntTextLaws
import HandS.Text
import HandS.Steps
import PySem.Challenge.RW_solidnames_k03_linear_formulas
import PyProof.StrBlock2
import PyProof.SliceStr2
import KE.KExcInit
import PyProof.Rows.FactsExc_KeyError
import PyProof.Rows.FactsExc_ArithmeticError
import PyProof.RulesMatch
import KE.KIntText
import HandS.RaiseMore
import HandS.Dict
import PyProof.DictUpdate
import KE.KDictLaws
import HandS.NoneIn
import HandS.Iter
import HandS.Ends
import KE.KExcLine
set_option Elab.async false
set_option linter.all false
set_option maxRecDepth 100000
set_option maxHeartbeats 1000000
/-! CL: readings that compute: a step's reading reduces by itself where the values are told. Over HandS. -/
namespace CL
open PySem PySem.Spec PyProof.Rows L2

/-! ### weakening a reading -/
theorem PE_imp {X : Cx} {e : Expr} {t t' : TE} (h : PE X e t) (w : ∀ σ H Q, t' σ H Q → t σ H Q) : PE X e t' :=
  ⟨fun pins s σ H Q I q => h.run pins s σ H Q I (w σ H Q q)⟩
theorem PT_imp {X : Cx} {e : Expr} {t t' : TT} (h : PT X e t) (w : ∀ σ H Q, t' σ H Q → t σ H Q) : PT X e t' :=
  ⟨fun pins s σ H Q I q => h.run pins s σ H Q I (w σ H Q q)⟩
theorem PS_imp {X : Cx} {e : Stmt} {t t' : TS} (h : PS X e t) (w : ∀ D σ H, t' D σ H → t D σ H) : PS X e t' :=
  ⟨fun pins s σ H D I q => h.run pins s σ H D I (w D σ H q)⟩
theorem OpR_imp {X : Cx} {f : Value → Value → Sem Value} {r r' : R2} (h : OpR X f r) (w : ∀ x y H Q, r' x y H Q → r x y H Q) : OpR X f r' :=
  fun pins s σ H x y v u Q I rx ry q => h pins s σ H x y v u Q I rx ry (w x y H Q q)
theorem CallR_imp {X : Cx} {f : Value} {r r' : List V → Hp → VK → Prop} (h : CallR X f r) (w : ∀ xs H Q, r' xs H Q → r xs H Q) : CallR X f r' :=
  fun pins s σ H xs us Q I rx q => h pins s σ H xs us Q I rx (w xs H Q q)

/-! ### a reading closed upwards -/
def up (t : TE) : TE := fun σ H Q => ∃ R : VK, t σ H R ∧ ∀ x H1, R x H1 → Q x H1
theorem PE_up {X : Cx} {e : Expr} {t : TE} (h : PE X e t) : PE X e (up t) := ⟨fun pins s σ H Q I ⟨R, q, w⟩ =>
  thn (h.run pins s σ H R I q) fun u s1 ⟨x, H1, I1, r1, q1⟩ => ⟨x, H1, I1, r1, w x H1 q1⟩⟩
def upA (t : TA) : TA := fun σ H Q => ∃ R : List V → Hp → Prop, t σ H R ∧ ∀ x H1, R x H1 → Q x H1
theorem PA_up {X : Cx} {e : List Expr} {t : TA} (h : PA X e t) : PA X e (upA t) := ⟨fun pos pins s σ H Q I ⟨R, q, w⟩ =>
  thn (h.run pos pins s σ H R I q) fun u s1 ⟨x, H1, I1, r1, q1⟩ => ⟨x, H1, I1, r1, w x H1 q1⟩⟩

/-! ### names -/
def cVar (i : Nat) : TE := fun σ H Q => match σ[i]? with
  | some (some v) => Q v H
  | _ => False
section
variable {X : Cx}
theorem cv (i : Nat) {x : Str} {pos : Pos} (hN : X.N[i]? = some x := by rfl) (hv : Vis X.env.scope x := by first | exact Or.inl rfl | exact Or.inr (Or.inl rfl) | exact Or.inr (Or.inr rfl)) (hd : (x == ("__debug__" : Str)) = false := by decide)
    (hcd : (x == ("__classdict__" : Str)) = false := by decide) : PE X (.Name x pos) (cVar i) := PE_imp (pe_var hN hv hd hcd) fun σ H Q h => by
  unfold cVar at h
  split at h
  · rename_i v e
    exact ⟨v, e, h⟩
  · exact h.elim

/-! ### tests whose answer is open -/
end
theorem iteD {c A B : Prop} [Decidable c] (h1 : c → A) (h2 : ¬ c → B) : if decide c = true then A else B := by
  by_cases h : c
  · rw [if_pos (decide_eq_true h)]; exact h1 h
  · rw [if_neg (by rw [decide_eq_true_eq]; exact h)]; exact h2 h
theorem iteB {b : Bool} {A B : Prop} (h1 : b = true → A) (h2 : b = false → B) : if b = true then A else B := by
  cases b with
  | true => exact (if_pos rfl).mpr (h1 rfl)
  | false => rw [if_neg Bool.false_ne_true]; exact h2 rfl
section
variable {X : Cx}
/-! ### operators -/
def cI2 (g : Int → Int → V) : R2 := fun x y H Q => match x, y with
  | .int i, .int j => Q (g i j) H
  | _, _ => False
def cI2C (C : Int → Int → Prop) (g : Int → Int → V) : R2 := fun x y H Q => match x, y with
  | .int i, .int j => C i j ∧ Q (g i j) H
  | _, _ => False
theorem cI2_of {f : Value → Value → Sem Value} {g : Int → Int → V} (h : OpR X f (rI0 g)) : OpR X f (cI2 g) := OpR_imp h fun x y H Q q => by
  unfold cI2 at q
  split at q
  · exact ⟨_, _, rfl, rfl, q⟩
  · exact q.elim
theorem cI2C_of {f : Value → Value → Sem Value} {C : Int → Int → Prop} {g : Int → Int → V} (h : OpR X f (rI C g)) : OpR X f (cI2C C g) := OpR_imp h fun x y H Q q => by
  unfold cI2C at q
  split at q
  · exact ⟨_, _, rfl, rfl, q.1, q.2⟩
  · exact q.elim
theorem c_addI : OpR X (binaryOp .Add) (cI2 fun i j => .int (i + j)) := cI2_of op_add
theorem c_sub : OpR X (binaryOp .Sub) (cI2 fun i j => .int (i - j)) := cI2_of op_sub
/-- factors of at most two hundred figures -/
def FewF (i j : Int) : Prop := (-(10 ^ 200) ≤ i ∧ i ≤ 10 ^ 200) ∧ (-(10 ^ 200) ≤ j ∧ j ≤ 10 ^ 200)
theorem FewF.ok {i j : Int} (h : FewF i j) : CMulW i j := by
  obtain ⟨⟨a, b⟩, c, d⟩ := h
  have k : (10 : Nat) ^ 200 < 2 ^ 1000 := by decide +kernel
  have e : ((10 ^ 200 : Nat) : Int) = (10 : Int) ^ 200 := by norm_cast
  refine wide_mul (a := 1000) (b := 1000) (Nat.lt_of_le_of_lt ?_ k) (Nat.lt_of_le_of_lt ?_ k) (by decide) (by decide) (by decide)
  · rw [← e] at a b; omega
  · rw [← e] at c d; omega
theorem c_mul : OpR X (binaryOp .Mult) (cI2C FewF fun i j => .int (i * j)) := cI2C_of (OpR_imp op_mulW fun x y H Q ⟨i, j, e1, e2, h, q⟩ => ⟨i, j, e1, e2, h.ok, q⟩)
theorem c_mod : OpR X (binaryOp .Mod) (cI2C (fun _ j => 0 < j) fun i j => .int (i % j)) := cI2C_of op_mod
def FewD (_ j : Int) : Prop := 0 < j ∧ j ≤ 10 ^ 200
theorem FewD.ok {i j : Int} (h : FewD i j) : CDivW i j := by
  obtain ⟨a, b⟩ := h
  have k : (10 : Nat) ^ 200 < 2 ^ 1000 := by decide +kernel
  have e : ((10 ^ 200 : Nat) : Int) = (10 : Int) ^ 200 := by norm_cast
  refine wide_div a (b := 1000) (Nat.lt_of_le_of_lt ?_ k) (by decide) (by decide)
  rw [← e] at b; omega
theorem c_fdiv : OpR X (binaryOp .FloorDiv) (cI2C FewD fun i j => .int (i / j)) := cI2C_of (OpR_imp op_fdivW fun x y H Q ⟨i, j, e1, e2, h, q⟩ => ⟨i, j, e1, e2, h.ok, q⟩)
theorem c_lt : OpR X (compareOp .Lt) (cI2 fun i j => .bl (decide (i < j))) := cI2_of op_lt
theorem c_le : OpR X (compareOp .LtE) (cI2 fun i j => .bl (decide (i ≤ j))) := cI2_of op_le
theorem c_gt : OpR X (compareOp .Gt) (cI2 fun i j => .bl (decide (j < i))) := cI2_of op_gt
theorem c_ge : OpR X (compareOp .GtE) (cI2 fun i j => .bl (decide (j ≤ i))) := cI2_of op_ge
/-- a power that is written -/
theorem pe_pow {a n z : Int} {k1 k2 : Nat} {p1 p2 p3 : Pos} (h : CPow a n ∧ a ^ n.toNat = z) : PE X (.BinOp (.Constant (.int a) k1 p1) .Pow (.Constant (.int n) k2 p2) p3) (tC (.int z)) :=
  PE_imp (pe_op op_pow pe_int pe_int) fun σ H Q q => ⟨_, _, rfl, rfl, h.1, by show Q (.int (a ^ n.toNat)) H; rw [h.2]; exact q⟩
/-- a minus in front -/
def cNeg : V → Hp → VK → Prop := fun x H Q => match x with
  | .int i => Q (.int (-i)) H
  | _ => False
theorem c_neg : UnR X (unaryOp .USub) cNeg := fun pins s σ H x v Q I rx q => by
  unfold cNeg at q
  split at q
  · exact un_neg pins s σ H _ v Q I rx ⟨_, rfl, q⟩
  · exact q.elim

/-! ### tests -/
def cTest (t : TE) : TT := fun σ H Q => t σ H fun x H' => match x with
  | .bl k => Q k H'
  | _ => False
variable {a b : Expr} {ta tb : TE} {pos : Pos}
theorem bl_eq (Q : Bool → Hp → Prop) : (fun (x : V) (H' : Hp) => ∃ k, x = .bl k ∧ Q k H') = (fun x H' => match x with
  | .bl k => Q k H'
  | _ => False) := by
  funext x H'
  apply propext
  cases x <;> simp
theorem ct_cmp {op : CmpOp} {r : R2} (ho : OpR X (compareOp op) r) (ha : PE X a ta) (hb : PE X b tb) (hm : behindInMarks op b = false) : PT X (.Compare a [op] [b] pos) (cTest (tOp r ta tb)) :=
  PT_imp (pt_cmpR ho ha hb hm) fun σ H Q hw => by
    show tOp r ta tb σ H fun x H' => ∃ k, x = .bl k ∧ Q k H'
    rw [bl_eq]
    exact hw
/-- an expression whose value is a bool, as a test -/
theorem ct_val {e : Expr} {t : TE} (h : PE X e t) (he : ∀ whole, isTrue e X.env whole = (do let v ← whole; standAt e.pos; holding [v] (truthy v)) := by intro _; rfl) : PT X e (cTest t) :=
  PT_imp (pt_val h he) fun σ H Q hw => by
    show t σ H fun x H' => ∃ k, x = .bl k ∧ Q k H'
    rw [bl_eq]
    exact hw
/-- bools in a row, as values -/
def cAndV (ta tb : TE) : TE := fun σ H Q => ta σ H fun x H1 => match x with
  | .bl c => if c = true then tb σ H1 Q else Q (.bl false) H1
  | _ => False
def cOrV (ta tb : TE) : TE := fun σ H Q => ta σ H fun x H1 => match x with
  | .bl c => if c = true then Q (.bl true) H1 else tb σ H1 Q
  | _ => False
def cNotV (ta : TE) : TE := fun σ H Q => ta σ H fun x H1 => match x with
  | .bl c => Q (.bl (!c)) H1
  | _ => False
variable {rest : List Expr}
theorem c_and (ha : PE X a ta) (hb : PE X (.BoolOp .And (b :: rest) pos) tb) : PE X (.BoolOp .And (a :: b :: rest) pos) (cAndV ta tb) :=
  PE_imp (pe_and ha hb) fun σ H Q hw => by
    show ta σ H fun x H1 => ∃ c, x = .bl c ∧ (fun (c : Bool) (H1 : Hp) => if c = true then tb σ H1 Q else Q (.bl false) H1) c H1
    rw [bl_eq]
    exact hw
theorem c_or (ha : PE X a ta) (hb : PE X (.BoolOp .Or (b :: rest) pos) tb) : PE X (.BoolOp .Or (a :: b :: rest) pos) (cOrV ta tb) :=
  PE_imp (pe_or ha hb) fun σ H Q hw => by
    show ta σ H fun x H1 => ∃ c, x = .bl c ∧ (fun (c : Bool) (H1 : Hp) => if c = true then Q (.bl true) H1 else tb σ H1 Q) c H1
    rw [bl_eq]
    exact hw
theorem c_not (ha : PE X a ta) : PE X (.UnaryOp .Not a pos) (cNotV ta) :=
  PE_imp (pe_not ha) fun σ H Q hw => by
    show ta σ H fun x H1 => ∃ c, x = .bl c ∧ (fun (c : Bool) (H1 : Hp) => Q (.bl (!c)) H1) c H1
    rw [bl_eq]
    exact hw

/-! ### ways that join -/
/-- behind a statement whose ways meet: what holds there is said once -/
def tJoin (t u : TS) : TS := fun D σ H => ∃ W : L2.St → Hp → Prop, t { D with nx := W } σ H ∧ ∀ σ' H', W σ' H' → u D σ' H'
theorem pss_cut {st : Stmt} {rest : List Stmt} {t u : TS} (h1 : PS X st t) (h2 : PSs X rest u) : PSs X (st :: rest) (tJoin t u) := ⟨fun pins s σ H D I h => by
  obtain ⟨W, hm, hu⟩ := h
  refine wpAny_execs_cons (thn (h1.run pins s σ H { D with nx := W } I hm) fun f s1 q => ?_)
  cases f with
  | next =>
    obtain ⟨σ', H', I', q⟩ := q
    exact h2.run pins s1 σ' H' D I' (hu σ' H' q)
  | _ => exact q⟩

/-! ### built-in functions -/
def cInt1 : List V → Hp → VK → Prop := fun xs H Q => match xs with
  | [.int i] => Q (.int i) H
  | [.bl k] => Q (.int (if k then 1 else 0)) H
  | _ => False
theorem c_int : CallR X (.type "int") cInt1 := CallR_imp call_int1 fun xs H Q q => by
  unfold cInt1 at q
  split at q
  · exact .inl ⟨_, rfl, q⟩
  · exact .inr ⟨_, rfl, q⟩
  · exact q.elim
def cAbs : List V → Hp → VK → Prop := fun xs H Q => match xs with
  | [.int i] => Q (.int (i.natAbs : Int)) H
  | _ => False
theorem c_abs : CallR X (.builtin "abs") cAbs := CallR_imp call_abs fun xs H Q q => by
  unfold cAbs at q
  split at q
  · rename_i i
    refine ⟨_, rfl, ?_⟩
    have e : (if i < 0 then -i else i) = (i.natAbs : Int) := by split <;> omega
    rw [e]
    exact q
  · exact q.elim
def cI2L (g : Int → Int → Int) : List V → Hp → VK → Prop := fun xs H Q => match xs with
  | [.int i, .int j] => Q (.int (g i j)) H
  | _ => False
theorem c_max (hc : X.calm = true) : CallR X (.builtin "max") (cI2L fun i j => max i j) := CallR_imp (call_max2 hc) fun xs H Q q => by
  unfold cI2L at q
  split at q
  · rename_i i j
    refine ⟨_, _, rfl, ?_⟩
    have e : (if j > i then j else i) = max i j := by split <;> omega
    rw [e]
    exact q
  · exact q.elim
theorem c_min (hc : X.calm = true) : CallR X (.builtin "min") (cI2L fun i j => min i j) := CallR_imp (call_min2 hc) fun xs H Q q => by
  unfold cI2L at q
  split at q
  · rename_i i j
    refine ⟨_, _, rfl, ?_⟩
    have e : (if j < i then j else i) = min i j := by split <;> omega
    rw [e]
    exact q
  · exact q.elim
end

/-! ### a def of the text and its promise -/
structure FunAt (K : PySem.W.Frag) (mg : Str → Option Value) (x : Str) (st : Stmt) (ps : List Str) : Prop where
  ex : ∃ f fd, Fun K x x st f fd ∧ mg x = some (.ref f) ∧ Binds K fd ps []
structure DefOk (P : Program) (w : World) (K : PySem.W.Frag) (mg : Str → Option Value) (base : Heap) (CX : CXT) (k : Nat) (x : Str) (ps : List Str) (sp : Sp) : Prop where
  ex : ∃ f fd, FnOk P w K mg base CX k f fd ps sp ∧ mg x = some (.ref f) ∧ PySem.W.keepIn K (.ref f) = true ∧ Binds K fd ps []
section
variable {P : Program} {w : World} {K : PySem.W.Frag} {mg : Str → Option Value} {base : Heap} {x : Str} {st : Stmt} {N ps : List Str} {sp : Sp} {k j : Nat}
theorem FunAt.ok (A : FunAt K mg x st ps) (S : FnScope N ps (defScope st)) (len : ∀ vs H Q E, sp vs H Q E → vs.length = ps.length)
    (hbody : ∀ (f : Addr) (cdv : Value) (A : Around) (outer : List Env) (s : Shared) (H : Hp) (vs : List V) (Q : VK) (E : XK), Room k (A.deeper (envOfC x (defScope st) s.heap.objs.size f cdv)) → sp vs H Q E →
      ∃ t, PSs (cxOf CX0 P w K mg base N x (defScope st) f cdv A outer s H E).nox (defBody st) t ∧ t { nx := fun _ H' => Q .non H', rt := Q } (start N vs) H) : DefOk P w K mg base CX0 (k + 1) x ps sp := by
  obtain ⟨f, fd, F, g, b⟩ := A.ex
  exact ⟨f, fd, F.ok S len (hbody f), g, F.kp, b⟩
/-- a def that calls itself: by the depth -/
theorem FunAt.rec_ {sp : Nat → Sp} (A : FunAt K mg x st ps) (S : FnScope N ps (defScope st)) (h0 : ∀ vs H Q E, ¬ sp 0 vs H Q E) (len : ∀ n vs H Q E, sp n vs H Q E → vs.length = ps.length)
    (hbody : ∀ (n : Nat), DefOk P w K mg base CX0 (k + n) x ps (sp n) → ∀ (f : Addr) (cdv : Value) (A : Around) (outer : List Env) (s : Shared) (H : Hp) (vs : List V) (Q : VK) (E : XK), Room (k + n) (A.deeper (envOfC x (defScope st) s.heap.objs.size f cdv)) → sp (n + 1) vs H Q E →
      ∃ t, PSs (cxOf CX0 P w K mg base N x (defScope st) f cdv A outer s H E).nox (defBody st) t ∧ t { nx := fun _ H' => Q .non H', rt := Q } (start N vs) H) : ∀ n, DefOk P w K mg base CX0 (k + n) x ps (sp n) := by
  obtain ⟨f, fd, F, g, b⟩ := id A.ex
  intro n
  induction n with
  | zero => exact ⟨f, fd, ⟨fun _ _ _ _ h => (h0 _ _ _ _ h).elim, fun _ _ _ _ _ _ _ _ _ _ _ _ _ h => (h0 _ _ _ _ h).elim⟩, g, F.kp, b⟩
  | succ n ih => exact ⟨f, fd, F.ok S (len _) (hbody n ih f), g, F.kp, b⟩
theorem DefOk.imp {CX : CXT} {sp' : Sp} (D : DefOk P w K mg base CX k x ps sp) (h : ∀ vs H Q E, sp' vs H Q E → sp vs H Q E) : DefOk P w K mg base CX k x ps sp' := by
  obtain ⟨f, fd, F, r⟩ := D.ex
  exact ⟨f, fd, F.imp h, r⟩
theorem DefOk.mono {CX : CXT} (D : DefOk P w K mg base CX k x ps sp) (h : k ≤ j) : DefOk P w K mg base CX j x ps sp := by
  obtain ⟨f, fd, F, r⟩ := D.ex
  exact ⟨f, fd, F.mono h, r⟩
end
section
variable {X : Cx} {x : Str} {ps : List Str} {sp : Sp} {k j : Nat} {p pos : Pos} {e : Expr} {es : List Expr} {t : TA}
theorem pe_def (D : DefOk X.prog X.w X.K X.mg X.base CX0 k x ps sp) (hr : Room j X.A) (hj : k ≤ j) (ha : PA X (e :: es) t) (hg : Gl X x := by rfl) (hdb : (x == ("__debug__" : Str)) = false := by decide)
    (he : starEach (e :: es) X.env = (false, eval e X.env) :: starEach es X.env := by rfl) (hpl : (backTo pos (starEach es X.env)).any (·.1) = false := by rfl) :
    PE X (.Call (.Name x p) (e :: es) [] pos) (tCall sp [] E0 t) := by
  obtain ⟨f, fd, F, g, kp, b⟩ := D.ex
  exact pe_call F (hr.mono hj) hg g kp b .nil pass0 ha hdb he hpl
theorem pe_def0 (D : DefOk X.prog X.w X.K X.mg X.base CX0 k x ps sp) (hr : Room j X.A) (hj : k ≤ j) (hg : Gl X x := by rfl) (hdb : (x == ("__debug__" : Str)) = false := by decide) :
    PE X (.Call (.Name x p) [] [] pos) (tCall sp [] E0 tNil) := by
  obtain ⟨f, fd, F, g, kp, b⟩ := D.ex
  exact pe_call0 F (hr.mono hj) hg g kp b .nil pass0 hdb
end
end CL

set_option Elab.async false
set_option linter.all false
set_option maxRecDepth 100000
set_option maxHeartbeats 1000000
/-! Pen: the source of drawn numbers of the laws, its readings and promises. -/
namespace CL
open PySem PySem.Spec PyProof.Rows L2

abbrev kCells : Key := Sum.inr ("cells" : Str)
abbrev kBegun : Key := Sum.inr ("begun" : Str)
abbrev kRest : Key := Sum.inr ("rest" : Str)
abbrev penKvs (c : Addr) (b r : Int) : List (Key × V) := [(kCells, .ref c), (kBegun, .int b), (kRest, .int r)]
structure PenAt (H : Hp) (p c : Addr) (ns : List Int) (b r : Int) : Prop where
  dict : H p = some (.dK (penKvs c b r))
  cells : H c = some (.lst (ns.map V.int))
  len : ns.length ≤ 63
  b0 : 0 ≤ b
  r0 : 0 ≤ r
/-- all but p is as it was -/
structure But (p : Addr) (H H' : Hp) : Prop where
  keep : ∀ b o, b ≠ p → H b = some o → H' b = some o
  own : ∀ c b r, H p = some (.dK (penKvs c b r)) → ∃ b' r', H' p = some (.dK (penKvs c b' r'))
theorem But.refl {p : Addr} {H : Hp} : But p H H := ⟨fun _ _ _ h => h, fun _ b r h => ⟨b, r, h⟩⟩
theorem But.trans {p : Addr} {H H1 H2 : Hp} (a : But p H H1) (b : But p H1 H2) : But p H H2 := ⟨fun x o n h => b.keep x o n (a.keep x o n h), fun c x r h => by
  obtain ⟨x1, r1, h1⟩ := a.own c x r h
  exact b.own c x1 r1 h1⟩
theorem But.of {p : Addr} {H H' : Hp} (s : Same H H') : But p H H' := ⟨fun b o _ h => s b o h, fun _ b r h => ⟨b, r, s _ _ h⟩⟩
theorem penK1 : ¬ kCells = kBegun := by decide +kernel
theorem penK2 : ¬ kCells = kRest := by decide +kernel
theorem penK3 : ¬ kBegun = kRest := by decide +kernel
theorem pen_cells {c : Addr} {b r : Int} : valV (penKvs c b r) kCells = some (.ref c) := valV_pos rfl
theorem pen_begun {c : Addr} {b r : Int} : valV (penKvs c b r) kBegun = some (.int b) := by
  rw [valV_neg penK1]; exact valV_pos rfl
theorem pen_rest {c : Addr} {b r : Int} : valV (penKvs c b r) kRest = some (.int r) := by
  rw [valV_neg penK2, valV_neg penK3]; exact valV_pos rfl
theorem put_begun {c : Addr} {b r b' : Int} : putK (penKvs c b r) kBegun (.int b') = penKvs c b' r := by
  have h1 := penK1; have h3 : ¬ kRest = kBegun := fun e => penK3 e.symm
  unfold putK penKvs
  simp only [List.any_cons, List.map_cons, List.map_nil, decide_eq_false h1, decide_true, Bool.false_or, Bool.true_or, if_true, if_neg h1, if_neg h3]
theorem put_rest {c : Addr} {b r r' : Int} : putK (penKvs c b r) kRest (.int r') = penKvs c b r' := by
  have h2 := penK2; have h3 := penK3
  unfold putK penKvs
  simp only [List.any_cons, List.map_cons, List.map_nil, decide_eq_false h2, decide_eq_false h3, decide_true, Bool.false_or, Bool.true_or, if_true, if_neg h2, if_neg h3]
theorem PenAt.ne {H : Hp} {p c : Addr} {ns : List Int} {b r : Int} (h : PenAt H p c ns b r) : p ≠ c := ne_of h.dict h.cells (by intro z; cases z)
theorem PenAt.put {H : Hp} {p c : Addr} {ns : List Int} {b r b' r' : Int} (h : PenAt H p c ns b r) (h1 : 0 ≤ b') (h2 : 0 ≤ r') : PenAt (upd H p (.dK (penKvs c b' r'))) p c ns b' r' :=
  ⟨upd_same, by rw [upd_ne h.ne.symm]; exact h.cells, h.len, h1, h2⟩
theorem pen_inj {c c' : Addr} {b r b' r' : Int} (h : (HO.dK (penKvs c b r)) = .dK (penKvs c' b' r')) : c = c' := by
  injection h with h
  unfold penKvs at h
  injection h with h _
  injection h with _ h
  injection h
theorem But.put {H : Hp} {p c : Addr} {ns : List Int} {b r b' r' : Int} (P : PenAt H p c ns b r) : But p H (upd H p (.dK (penKvs c b' r'))) := ⟨fun b u n h => by rw [upd_ne n]; exact h, fun c' b1 r1 h => by
  have e := pen_inj (Option.some.inj (h.symm.trans P.dict))
  exact ⟨b', r', by rw [upd_same, e]⟩⟩
/-- the cells of the pen at p lie at c -/
def Cel (H : Hp) (p c : Addr) : Prop := ∃ b r, H p = some (.dK (penKvs c b r))
theorem Cel.but {H H' : Hp} {p c : Addr} (h : Cel H p c) (s : But p H H') : Cel H' p c := by
  obtain ⟨b, r, h⟩ := h
  exact s.own c b r h
theorem Cel.same {H H' : Hp} {p c : Addr} (h : Cel H p c) (s : Same H H') : Cel H' p c := by
  obtain ⟨b, r, h⟩ := h
  exact ⟨b, r, s _ _ h⟩
theorem Cel.at_ {H : Hp} {p c c' : Addr} {ns : List Int} {b r : Int} (h : Cel H p c) (P : PenAt H p c' ns b r) : c' = c := by
  obtain ⟨b1, r1, h⟩ := h
  exact pen_inj (Option.some.inj (P.dict.symm.trans h))
theorem PenAt.same {H H' : Hp} {p c : Addr} {ns : List Int} {b r : Int} (h : PenAt H p c ns b r) (s : Same H H') : PenAt H' p c ns b r := ⟨s _ _ h.dict, s _ _ h.cells, h.len, h.b0, h.r0⟩

section
variable {X : Cx} {o i value : Expr} {td tv : TE} {pos pos' : Pos}
/-- pen[..], by the key -/
def cPenGet (k : Nat) (td : TE) : TE := fun σ H Q => td σ H fun x H1 => match x with
  | .ref p => ∃ c ns b r, PenAt H1 p c ns b r ∧ Q (match k with | 0 => .ref c | 1 => .int b | _ => .int r) H1
  | _ => False
theorem pe_pget {z : Str} {k j : Nat} {kp : Pos} (hz : (z = "cells" ∧ k = 0) ∨ (z = "begun" ∧ k = 1) ∨ (z = "rest" ∧ k = 2)) (hu : X.A.units + 1 < cLine) (ho : PE X o td) : PE X (.Subscript o (.Constant (.str z) j kp) pos) (cPenGet k td) :=
  PE_imp (pe_dget hu (PE_up ho) pe_str (fun _ _ => rfl)) fun σ H Q h => ⟨_, h, fun x H1 q => by
    cases x with
    | ref p =>
      obtain ⟨c, ns, b, r, P, q⟩ := q
      show ∃ a v, V.ref p = .ref a ∧ DGet H1 a (.str z) (some v) ∧ Q v H1
      rcases hz with ⟨rfl, rfl⟩ | ⟨rfl, rfl⟩ | ⟨rfl, rfl⟩
      · exact ⟨p, _, rfl, by have := DGet.k (k := kCells) P.dict; rw [pen_cells] at this; exact this, q⟩
      · exact ⟨p, _, rfl, by have := DGet.k (k := kBegun) P.dict; rw [pen_begun] at this; exact this, q⟩
      · exact ⟨p, _, rfl, by have := DGet.k (k := kRest) P.dict; rw [pen_rest] at this; exact this, q⟩
    | _ => exact q.elim⟩
/-- pen["begun"] = .., pen["rest"] = .. -/
def cPenPut (k : Nat) (td tv : TE) : TS := fun D σ H => tv σ H fun v H1 => td σ H1 fun x H2 => match x, v with
  | .ref p, .int z => ∃ c ns b r, PenAt H2 p c ns b r ∧ 0 ≤ z ∧ ∀ H3, But p H2 H3 → PenAt H3 p c ns (if k = 1 then z else b) (if k = 1 then r else z) → D.nx σ H3
  | _, _ => False
theorem ps_pput {z : Str} {k j : Nat} {kp : Pos} (hz : (z = "begun" ∧ k = 1) ∨ (z = "rest" ∧ k = 2)) (hu : X.A.units + 1 < cLine) (ho : PE X o td) (hv : PE X value tv)
    (hs : swapsWith value (some (.Subscript o (.Constant (.str z) j kp) pos')) pos.line X.env = pure false := by rfl) : PS X (.Assign [.Subscript o (.Constant (.str z) j kp) pos'] value pos) (cPenPut k td tv) :=
  PS_imp (ps_dput hu (PE_up ho) pe_str (PE_up hv) hs) fun D σ H h => ⟨_, h, fun v H1 q => ⟨_, q, fun x H2 q => by
    show ∃ a H4, x = .ref a ∧ DPut H2 a (.str z) v H4 ∧ D.nx σ H4
    cases x with
    | ref p =>
      cases v with
      | int y =>
        obtain ⟨c, ns, b, r, P, h0, q⟩ := q
        have l3 : (penKvs c b r).length < sizeLine := by rw [sizeLine_eq]; exact (by decide : 3 < 16777216)
        rcases hz with ⟨rfl, rfl⟩ | ⟨rfl, rfl⟩
        · exact ⟨p, _, rfl, DPut.k (k := kBegun) P.dict l3, by rw [put_begun]; exact q _ (But.put P) (P.put h0 P.r0)⟩
        · exact ⟨p, _, rfl, DPut.k (k := kRest) P.dict l3, by rw [put_rest]; exact q _ (But.put P) (P.put P.b0 h0)⟩
      | _ => exact q.elim
    | _ => exact q.elim⟩⟩
/-- place, size = pen["begun"], len(pen["cells"]) goes by the list's length -/
def cLenL (K : PySem.W.Frag) : List V → Hp → VK → Prop := fun xs H Q => match xs with
  | [.ref p] => ∃ ys, (SqL K H p ys ∨ SqT K H p ys) ∧ Q (.int ys.length) H
  | _ => False
theorem c_lenL : CallR X (.builtin "len") (cLenL X.K) := CallR_imp call_len_seq fun xs H Q q => by
  unfold cLenL at q
  split at q
  · obtain ⟨ys, h, q⟩ := q
    exact ⟨_, ys, rfl, h, q⟩
  · exact q.elim
/-- xs[i], a list -/
def cIxL (K : PySem.W.Frag) : R2 := fun x y H Q => match x, y with
  | .ref p, .int i => ∃ xs v, SqL K H p xs ∧ atI xs i = some v ∧ Q v H
  | _, _ => False
theorem c_ixL : IxR X (cIxL X.K) := fun a b pins s σ H x y v u Q I rx ry q => by
  unfold cIxL at q
  split at q
  · obtain ⟨xs, z, h, e, q⟩ := q
    exact ix_list a b pins s σ H _ _ v u Q I rx ry ⟨_, xs, _, z, rfl, rfl, h, e, q⟩
  · exact q.elim
end

/-! ### what the drawing promises -/
/-- how great a number of choices may be, by the depth -/
def bigD : Nat → Int
  | 0 => 60000000
  | n + 1 => 60000000 * (bigD n - 1)
theorem bigD0 : ∀ n, 60000000 ≤ bigD n ∧ bigD n ≤ 60000000 ^ (n + 1)
  | 0 => ⟨by decide, by decide⟩
  | n + 1 => by
    have ⟨h, h'⟩ := bigD0 n
    refine ⟨by show (60000000 : Int) ≤ 60000000 * (bigD n - 1); omega, ?_⟩
    show 60000000 * (bigD n - 1) ≤ 60000000 ^ (n + 2)
    have : (60000000 : Int) ^ (n + 2) = 60000000 * 60000000 ^ (n + 1) := by rw [Int.pow_succ, Int.mul_comm]
    omega
theorem pyMod_small {x m : Int} (h : 0 < m) : 0 ≤ x % m ∧ x % m < m := ⟨Int.emod_nonneg _ (by omega), Int.emod_lt_of_pos _ h⟩
/-- the list's item at a place that is a remainder -/
theorem at_mod {ns : List Int} {x : Int} (h : 0 < ((ns.map V.int).length : Int)) : ∃ z, atI (ns.map V.int) (x % ((ns.map V.int).length : Int)) = some (.int z) := by
  have ⟨a, b⟩ := pyMod_small (x := x) h
  have hj : (x % ((ns.map V.int).length : Int)).toNat < ns.length := by rw [List.length_map] at a b ⊢; omega
  refine ⟨ns[(x % ((ns.map V.int).length : Int)).toNat], ?_⟩
  unfold atI ixN
  rw [if_pos a, if_pos b, Option.bind_some, List.getElem?_map, List.getElem?_eq_getElem hj]
  rfl
/-- the mixed number -/
def mix1 (t l : Int) : Int := (t % 4294967231 * 48271 + 30269 * l * l + 211) % 4294967279
def mix2 (m l : Int) : Int := (m * m + 69069 * m + 23 * l + 7) % 4294967291
def mix3 (m : Int) : Int := m * (m + 32771) % 4294967197 / 64
theorem mix1_b (t l : Int) : 0 ≤ mix1 t l ∧ mix1 t l < 4294967279 := pyMod_small (by decide)
theorem mix2_b (t l : Int) : 0 ≤ mix2 t l ∧ mix2 t l < 4294967291 := pyMod_small (by decide)
theorem mix3_b (t : Int) : 0 ≤ mix3 t ∧ mix3 t < 4294967197 := by
  have ⟨a, b⟩ := pyMod_small (x := t * (t + 32771)) (m := 4294967197) (by decide)
  unfold mix3
  omega
theorem lt0 {n : Int} (h : 0 < n := by decide) : 0 < n := h
theorem few_of {i j : Int} (a : -(10 ^ 100) ≤ i) (b : i ≤ 10 ^ 100) (c : -(10 ^ 100) ≤ j) (d : j ≤ 10 ^ 100) : FewF i j := ⟨⟨by omega, by omega⟩, by omega, by omega⟩
def spDraw : Nat → Sp
  | 0 => fun _ _ _ _ => False
  | n + 1 => fun vs H Q _ => match vs with
    | [.ref p, .int m] => ∃ c ns b r, PenAt H p c ns b r ∧ 0 < m ∧ m ≤ bigD n ∧ m ≤ 10 ^ 100 ∧ b + (n : Int) < 2 ^ 60 ∧
        ∀ v b' r' H', 0 ≤ v → v < m → b ≤ b' → b' ≤ b + n + 1 → PenAt H' p c ns b' r' → But p H H' → Q (.int v) H'
    | _ => False
/-- a pen that has room for k more cells -/
def PenB (H : Hp) (p : Addr) (k : Nat) : Prop := ∃ c ns b r, PenAt H p c ns b r ∧ b + (k : Int) < 2 ^ 60
theorem PenB.mono {H : Hp} {p : Addr} {j k : Nat} (h : PenB H p k) (l : j ≤ k) : PenB H p j := by
  obtain ⟨c, ns, b, r, P, q⟩ := h
  exact ⟨c, ns, b, r, P, by omega⟩
theorem PenB.same {H H' : Hp} {p : Addr} {k : Nat} (h : PenB H p k) (s : Same H H') : PenB H' p k := by
  obtain ⟨c, ns, b, r, P, q⟩ := h
  exact ⟨c, ns, b, r, P.same s, q⟩
theorem PenB.ne {H : Hp} {p a : Addr} {k : Nat} {o : HO} (h : PenB H p k) (e : H a = some o) (n : ∀ kvs, o ≠ .dK kvs) : a ≠ p := by
  obtain ⟨c, ns, b, r, P, q⟩ := h
  exact ne_of e P.dict (n _)
theorem same_new {H : Hp} {p : Addr} {o : HO} (h : H p = none) : Same H (upd H p o) := fun b u e => by rw [upd_ne (ne_of_none e h)]; exact e
theorem But.sq {K : PySem.W.Frag} {H H' : Hp} {p a : Addr} {k : Nat} {xs : List V} (s : But p H H') (P : PenB H p k) (h : SqL K H a xs) : SqL K H' a xs := by
  rcases h with (h | ⟨o, h⟩) | h
  · exact .inl (.inl (s.keep a _ (P.ne h (by intro _ z; cases z)) h))
  · exact .inl (.inr ⟨o, s.keep a _ (P.ne h (by intro _ z; cases z)) h⟩)
  · exact .inr h
theorem But.tq {K : PySem.W.Frag} {H H' : Hp} {p a : Addr} {k : Nat} {xs : List V} (s : But p H H') (P : PenB H p k) (h : SqT K H a xs) : SqT K H' a xs := by
  rcases h with (h | ⟨o, h⟩) | h
  · exact .inl (.inl (s.keep a _ (P.ne h (by intro _ z; cases z)) h))
  · exact .inl (.inr ⟨o, s.keep a _ (P.ne h (by intro _ z; cases z)) h⟩)
  · exact .inr h
theorem bigD4 : bigD 4 = 60000000 * (60000000 * (60000000 * (60000000 * (60000000 - 1) - 1) - 1) - 1) := rfl
/-- the drawing, from up to ten to the 38th choices -/
def spDr : Sp := fun vs H Q _ => match vs with
  | [.ref p, .int m] => ∃ k, PenB H p (k + 5) ∧ 0 < m ∧ m ≤ 10 ^ 38 ∧ ∀ v H', 0 ≤ v → v < m → PenB H' p k → But p H H' → Q (.int v) H'
  | _ => False
theorem spDr_of {vs : List V} {H : Hp} {Q : VK} {E : XK} (h : spDr vs H Q E) : spDraw 5 vs H Q E := by
  unfold spDr at h
  split at h
  · rename_i p m
    obtain ⟨k, ⟨c, ns, b, r, P, hb⟩, m0, mm, q⟩ := h
    refine ⟨c, ns, b, r, P, m0, by rw [bigD4]; omega, by omega, by show b + (4 : Int) < 2 ^ 60; omega, fun v b' r' H' v0 v1 b0 b1 P' s => q v H' v0 v1 ⟨c, ns, b', r', P', by have b2 : b' ≤ b + (4 : Int) + 1 := b1; omega⟩ s⟩
  · exact h.elim
/-- an item of a list -/
def spPick (K : PySem.W.Frag) : Sp := fun vs H Q _ => match vs with
  | [.ref p, .ref a] => ∃ k xs, PenB H p (k + 5) ∧ SqL K H a xs ∧ 0 < xs.length ∧ xs.length ≤ 10 ^ 20 ∧ ∀ v H', v ∈ xs → PenB H' p k → But p H H' → Q v H'
  | _ => False
/-- from -most to most -/
def spAround : Sp := fun vs H Q _ => match vs with
  | [.ref p, .int m] => ∃ k, PenB H p (k + 5) ∧ 0 ≤ m ∧ m ≤ 10 ^ 37 ∧ ∀ v H', -m ≤ v → v ≤ m → PenB H' p k → But p H H' → Q (.int v) H'
  | _ => False
def spGreat : Sp := fun vs H Q _ => match vs with
  | [.ref p, .int m] => ∃ k, PenB H p (k + 25) ∧ 0 ≤ m ∧ m ≤ 10 ^ 37 ∧ ∀ v H', -m ≤ v → v ≤ m → PenB H' p k → But p H H' → Q (.int v) H'
  | _ => False
theorem atI_mem {xs : List V} {x : Int} (h0 : 0 ≤ x) (h1 : x < (xs.length : Int)) : ∃ v, v ∈ xs ∧ atI xs x = some v := by
  have hj : x.toNat < xs.length := by omega
  refine ⟨xs[x.toNat], List.getElem_mem hj, ?_⟩
  unfold atI ixN
  rw [if_pos h0, if_pos h1, Option.bind_some, List.getElem?_eq_getElem hj]
end CL

set_option Elab.async false
set_option linter.all false
set_option maxRecDepth 100000
set_option maxHeartbeats 2000000
/-! G: promises of defs that are called where no text of a thing is being made (so that repr may be asked of lists, tuples, dicts within them). -/
namespace CL
open PySem PySem.Spec PyProof.Rows L2

/-- nothing is being shown around -/
abbrev Gd (A : Around) : Prop := A.guards = some []
structure FnG (P : Program) (w : World) (K : PySem.W.Frag) (mg : Str → Option Value) (base : Heap) (CX : CXT) (k : Nat) (f : Addr) (fd : FuncData) (ps : List Str) (sp : Sp) : Prop where
  len : ∀ vs H Q E, sp vs H Q E → vs.length = ps.length
  go : ∀ (A : Around) (outer : List Env) (s : Shared) (H : Hp) (args : Args) (us : List Value) (vs : List V) (Q : VK) (E : XK), Gd A → Room k A → Env0 P w K mg base A outer s H → BindsTo s fd args (ps.zip us) → Vals vs us → sp vs H Q E →
    codeAny (model P w) A (.call (.ref f) args) (CR CX outer P w H s Q E) s
section
variable {P : Program} {w : World} {K : PySem.W.Frag} {mg : Str → Option Value} {base : Heap} {CX : CXT} {j k : Nat} {f : Addr} {fd : FuncData} {ps : List Str} {sp sp' : Sp}
theorem FnG.of (F : FnOk P w K mg base CX k f fd ps sp) : FnG P w K mg base CX k f fd ps sp :=
  ⟨F.len, fun A outer s H args us vs Q E _ => F.run A outer s H args us vs Q E⟩
theorem FnG.mono (F : FnG P w K mg base CX j f fd ps sp) (h : j ≤ k) : FnG P w K mg base CX k f fd ps sp :=
  ⟨F.len, fun A outer s H args us vs Q E g hr => F.go A outer s H args us vs Q E g (hr.mono h)⟩
theorem FnG.imp (F : FnG P w K mg base CX k f fd ps sp) (h : ∀ vs H Q E, sp' vs H Q E → sp vs H Q E) : FnG P w K mg base CX k f fd ps sp' :=
  ⟨fun vs H Q E q => F.len vs H Q E (h _ _ _ _ q), fun A outer s H args us vs Q E g hr he hb hv hs => F.go A outer s H args us vs Q E g hr he hb hv (h _ _ _ _ hs)⟩
/-- the rule for a def's body, with what is around known -/
theorem fnG_of {name qual : Str} {params : Arguments} {body : List Stmt} {scope : Scope} {dV kV doc pm cdv ct oc : Value} {an od : Option Addr} {osl : Array (Option Value)} {N : List Str}
    (lk : K.lookup f = some ⟨oc, od, .func (PySem.W.fnOf name qual params body scope dV kV doc pm an cdv ct), osl⟩) (hcd : PySem.W.codeIn K cdv qual = true) (S : FnScope N ps scope) (len : ∀ vs H Q E, sp vs H Q E → vs.length = ps.length)
    (hbody : ∀ (A : Around) (outer : List Env) (s : Shared) (H : Hp) (vs : List V) (Q : VK) (E : XK), Gd A → Room k (A.deeper (envOfC qual scope s.heap.objs.size f cdv)) → sp vs H Q E →
      ∃ t, PSs (cxOf CX P w K mg base N qual scope f cdv A outer s H E) body t ∧ t { nx := fun _ H' => Q .non H', rt := Q } (start N vs) H) :
    FnG P w K mg base CX (k + 1) f (PySem.W.fnOf name qual params body scope dV kV doc pm an cdv ct) ps sp := by
  refine ⟨len, fun A outer s H args us vs Q E g hr e0 hb r hsp => ?_⟩
  have KX : K.In s.heap := e0.mod.kin.keeps fun b o e => (e0.bs b o e).1
  exact LamX.run_ofS lk hcd S hr e0 hb r (len _ _ _ _ hsp) fun hr' => hbody A outer s H vs Q E g hr' hsp
end
structure DefG (P : Program) (w : World) (K : PySem.W.Frag) (mg : Str → Option Value) (base : Heap) (CX : CXT) (k : Nat) (x : Str) (ps : List Str) (sp : Sp) : Prop where
  ex : ∃ f fd, FnG P w K mg base CX k f fd ps sp ∧ mg x = some (.ref f) ∧ PySem.W.keepIn K (.ref f) = true ∧ Binds K fd ps []
section
variable {P : Program} {w : World} {K : PySem.W.Frag} {mg : Str → Option Value} {base : Heap} {CX : CXT} {x : Str} {st : Stmt} {N ps : List Str} {sp : Sp} {k j : Nat}
theorem FunAt.okG (A : FunAt K mg x st ps) (S : FnScope N ps (defScope st)) (len : ∀ vs H Q E, sp vs H Q E → vs.length = ps.length)
    (hbody : ∀ (f : Addr) (cdv : Value) (A : Around) (outer : List Env) (s : Shared) (H : Hp) (vs : List V) (Q : VK) (E : XK), Gd A → Room k (A.deeper (envOfC x (defScope st) s.heap.objs.size f cdv)) → sp vs H Q E →
      ∃ t, PSs (cxOf CX0 P w K mg base N x (defScope st) f cdv A outer s H E).nox (defBody st) t ∧ t { nx := fun _ H' => Q .non H', rt := Q } (start N vs) H) : DefG P w K mg base CX0 (k + 1) x ps sp := by
  obtain ⟨f, fd, F, g, b⟩ := A.ex
  obtain ⟨oc, od, kV, doc, pm, an, cdv, ct, osl, rfl, lk, hcd⟩ := F.ex
  refine ⟨f, _, fnG_of lk hcd S len fun A outer s H vs Q E g hr hsp => ?_, g, F.kp, b⟩
  obtain ⟨t, h, q⟩ := hbody f cdv A outer s H vs Q E g hr hsp
  exact ⟨t, h.nox, q⟩
theorem DefG.of (D : DefOk P w K mg base CX k x ps sp) : DefG P w K mg base CX k x ps sp := by
  obtain ⟨f, fd, F, r⟩ := D.ex
  exact ⟨f, fd, .of F, r⟩
end
section
variable {X : Cx} {CX : CXT} {x : Str} {ps : List Str} {sp : Sp} {k j : Nat} {p pos : Pos} {e : Expr} {es : List Expr} {t : TA} {f : Addr} {fd : FuncData}
theorem run_fnG {E : XK} {pins : List (Addr × Obj)} {σ : L2.St} {H : Hp} {s : Shared} {Q : VK} {us : List Value} {vs : List V} (F : FnG X.prog X.w X.K X.mg X.base CX k f fd ps sp) (hg : Gd X.A) (hr : Room k X.A) (hb : Binds X.K fd ps []) (hx : Passes CX X E)
    (I : Inv X pins σ H s) (r : Vals vs us) (h : sp vs H Q E) : wpAny (model X.prog X.w) X.A (call (.ref f) us) (EP X pins σ Q) X.xe s := by
  have hl := F.len _ _ _ _ h
  have hb2 := hb s us I.kIn (by rw [List.append_nil, ← r.length]; exact hl)
  rw [List.append_nil] at hb2
  refine wpAny_call (codeAny_mono (F.go X.A X.stack s H ⟨us, []⟩ us vs Q E hg hr I.env0 hb2 r h) fun res s' hq => ?_)
  match res, hq with
  | .error e, hq => exact hx pins σ H s e s' I hq
  | .ok (.ret u), hq => exact I.after hq
  | .ok .next, hq => exact hq.elim
  | .ok .brk, hq => exact hq.elim
  | .ok .cont, hq => exact hq.elim
def tCallG (sp : Sp) (t : TA) : TE := fun σ H Q => t σ H fun vs H1 => sp vs H1 Q E0
theorem pe_defG (D : DefG X.prog X.w X.K X.mg X.base CX0 k x ps sp) (hG : Gd X.A) (hr : Room j X.A) (hj : k ≤ j) (ha : PA X (e :: es) t) (hg : Gl X x := by rfl) (hdb : (x == ("__debug__" : Str)) = false := by decide)
    (he : starEach (e :: es) X.env = (false, eval e X.env) :: starEach es X.env := by rfl) (hpl : (backTo pos (starEach es X.env)).any (·.1) = false := by rfl) :
    PE X (.Call (.Name x p) (e :: es) [] pos) (tCallG sp t) := by
  obtain ⟨f, fd, F, g, kp, b⟩ := D.ex
  refine ⟨fun pins s σ H Q I h => wpAny_Call_Name_kw (ld_glob I hg g ?_ hdb)⟩
  refine PySem.W.callWith_K (h₀ := X.base) I.ok.mod.kin kp (thn (ha.run pos pins s σ H _ I h) fun us s1 ⟨vs, H1, I1, r, q⟩ => ⟨I1.kIn, ?_⟩) he hpl
  exact run_fnG F hG (hr.mono hj) b pass0 I1 r q
end

/-! ### repr -/
mutual
/-- data as they stand in the abstract heap, dicts with them -/
inductive Dq (K : PySem.W.Frag) (H : Hp) : V → PyData → Prop
  | non : Dq K H .non .none
  | bl (b : Bool) : Dq K H (.bl b) (.bool b)
  | int (i : Int) : Dq K H (.int i) (.int i)
  | str (x : Str) : Dq K H (.str x) (.str x)
  | lst {a : Addr} {xs : List V} {ds : List PyData} : SqL K H a xs → DqA K H xs ds → Dq K H (.ref a) (.list ds)
  | tup {a : Addr} {xs : List V} {ds : List PyData} : SqT K H a xs → DqA K H xs ds → Dq K H (.ref a) (.tuple ds)
  | dic {a : Addr} {kvs : List (Key × V)} {ks vs : List PyData} : H a = some (.dK kvs) → DqA K H (kvs.map fun p => kV p.1) ks → DqA K H (kvs.map (·.2)) vs → Dq K H (.ref a) (.dict (ks.zip vs))
inductive DqA (K : PySem.W.Frag) (H : Hp) : List V → List PyData → Prop
  | nil : DqA K H [] []
  | cons {v : V} {vs : List V} {d : PyData} {ds : List PyData} : Dq K H v d → DqA K H vs ds → DqA K H (v :: vs) (d :: ds)
end
theorem DqA.length {K : PySem.W.Frag} {H : Hp} : ∀ {vs : List V} {ds : List PyData}, DqA K H vs ds → vs.length = ds.length
  | _, _, .nil => rfl
  | _, _, .cons _ t => by simp [DqA.length t]
mutual
/-- no list in it -/
def listFree : PyData → Bool
  | .list _ => false
  | .tuple xs => listFreeA xs
  | .dict kvs => listFreeD kvs
  | _ => true
def listFreeA : List PyData → Bool
  | [] => true
  | x :: r => listFree x && listFreeA r
def listFreeD : List (PyData × PyData) → Bool
  | [] => true
  | (k, v) :: r => listFree k && listFree v && listFreeD r
end
theorem listFreeD_zip : ∀ {ks vs : List PyData}, ks.length = vs.length → listFreeD (ks.zip vs) = true → listFreeA ks = true ∧ listFreeA vs = true
  | [], [], _, _ => ⟨rfl, rfl⟩
  | k :: ks, v :: vs, e, h => by
    have h' : (listFree k = true ∧ listFree v = true) ∧ listFreeD (ks.zip vs) = true := by simpa [listFreeD] using h
    have ⟨a, b⟩ := listFreeD_zip (ks := ks) (vs := vs) (by simpa using e) h'.2
    exact ⟨by simp [listFreeA, h'.1.1, a], by simp [listFreeA, h'.1.2, b]⟩
theorem pairs_vals {P : Program} {w : World} : ∀ {es : List DictEntry} {vs : List (Key × Value)} {kvs : List (Key × V)}, Pairs (mixKind P w) es vs → KV kvs vs →
    Vals (kvs.map fun p => kV p.1) (es.map (·.key)) ∧ Vals (kvs.map (·.2)) (es.map (·.val))
  | _, _, _, .nil, .nil => ⟨.nil, .nil⟩
  | _, _, _, .cons hk hv hp, .cons r t => by
    have ⟨a, b⟩ := pairs_vals hp t
    refine ⟨.cons ?_ a, .cons (by dsimp only; rw [hv]; exact r.2) b⟩
    rename_i e kv es kvs p ps
    rcases keyIs_shape (show keyIs kv.1 e.key = true from hk) with ⟨i, tk, e1, e2⟩ | ⟨x, tk, e1, e2⟩
    · show RelV (kV p.1) e.key
      rw [r.1, e1, e2]; exact ⟨tk, rfl⟩
    · show RelV (kV p.1) e.key
      rw [r.1, e1, e2]; exact ⟨tk, rfl⟩
section
variable {X : Cx} {pins : List (Addr × Obj)} {σ : L2.St} {H : Hp} {s : Shared}
mutual
theorem Dq.reads (I : Inv X pins σ H s) : ∀ {v : V} {d : PyData} {u : Value}, Dq X.K H v d → RelV v u → ∃ as, Reads s.heap u d as ∧ (listFree d = true → sysModules ∉ as)
  | _, _, _, .non, r => by cases r; exact ⟨_, .none, fun _ => by simp⟩
  | _, _, _, .bl b, r => by cases r; exact ⟨_, .bool b, fun _ => by simp⟩
  | _, _, _, .int i, r => by obtain ⟨t, rfl⟩ := r; exact ⟨_, .int i t, fun _ => by simp⟩
  | _, _, _, .str x, r => by obtain ⟨t, rfl⟩ := r; exact ⟨_, .str x t, fun _ => by simp⟩
  | _, _, _, .lst hs ha, r => by
    cases r
    obtain ⟨its, rv, ⟨o, n, ho, hc, _, hd⟩, _⟩ := I.list hs
    obtain ⟨as, hr, _⟩ := DqA.reads I ha rv
    exact ⟨_, .list ho hc hd hr, fun h => by simp [listFree] at h⟩
  | _, _, _, .tup hs ha, r => by
    cases r
    obtain ⟨its, rv, ⟨o, ho, hc, n, hd⟩, _⟩ := I.tuple hs
    obtain ⟨as, hr, hn⟩ := DqA.reads I ha rv
    exact ⟨_, .tuple ho hc hd hr, fun h => hn (by simpa [listFree] using h)⟩
  | _, _, _, @Dq.dic _ _ a kvs ks vs hs hk hv, r => by
    cases r
    obtain ⟨_, hsm, vs', rel, o, es, ep, ho, hx, hd, _, hp, _⟩ := I.hok a _ hs
    have ⟨r1, r2⟩ := pairs_vals hp rel
    obtain ⟨as, q1, n1⟩ := DqA.reads I hk r1
    obtain ⟨bs, q2, n2⟩ := DqA.reads I hv r2
    have el : ks.length = vs.length := by rw [← hk.length, ← hv.length, List.length_map, List.length_map]
    have e1 : (ks.zip vs).map (·.1) = ks := List.map_fst_zip (by omega)
    have e2 : (ks.zip vs).map (·.2) = vs := List.map_snd_zip (by omega)
    refine ⟨_, .dict ho hx.1 hd (by rw [e1]; exact q1) (by rw [e2]; exact q2), fun h => ?_⟩
    have ⟨f1, f2⟩ := listFreeD_zip el (by simpa [listFree] using h)
    have nm : sysModules ≠ a := fun z => by rw [z] at hsm; simp at hsm
    simp only [List.mem_append, List.mem_cons, not_or]
    exact ⟨⟨nm, n1 f1⟩, n2 f2⟩
theorem DqA.reads (I : Inv X pins σ H s) : ∀ {vs : List V} {ds : List PyData} {us : List Value}, DqA X.K H vs ds → Vals vs us → ∃ as, ReadsAll s.heap us ds as ∧ (listFreeA ds = true → sysModules ∉ as)
  | _, _, _, .nil, r => by cases r; exact ⟨_, .nil, fun _ => by simp⟩
  | _, _, _, .cons h1 h2, r => by
    cases r with
    | cons r1 r2 =>
      obtain ⟨as, q1, n1⟩ := Dq.reads I h1 r1
      obtain ⟨bs, q2, n2⟩ := DqA.reads I h2 r2
      refine ⟨_, .cons q1 q2, fun h => ?_⟩
      simp only [listFreeA, Bool.and_eq_true] at h
      simp only [List.mem_append, not_or]
      exact ⟨n1 h.1, n2 h.2⟩
end
/-- what may be shown -/
structure Fit (d : PyData) : Prop where
  sh : d.showable = true
  fr : d.hasDict = true → listFree d = true
  dp : d.depth ≤ 60
  lv : d.leavesShort 1930 = true
  wt : d.weight ≤ 8000
theorem Fit.sz {d : PyData} (h : Fit d) : d.shown.length ≤ sizeLine := by
  have := PyData.shown_le 1930 (by decide) d h.lv
  have w := h.wt
  rw [sizeLine_eq]
  have : (1930 + 2) * d.weight + 1930 ≤ 16777216 := by omega
  omega
def cRepr (K : PySem.W.Frag) : List V → Hp → VK → Prop := fun xs H Q => match xs with
  | [x] => ∃ d, Dq K H x d ∧ Fit d ∧ Q (.str d.shown) H
  | _ => False
theorem c_repr (hG : Gd X.A) (hu : X.A.units + 64 < cLine) : CallR X (.builtin "repr") (cRepr X.K) := by
  intro pins s σ H xs us Q I r q
  unfold cRepr at q
  split at q
  · rename_i x
    obtain ⟨d, hd, hf, q⟩ := q
    obtain ⟨u, rfl, rx⟩ := vals1 r
    cases hd with
    | non => cases rx; exact PySem.P.repr_of_none ⟨.str _, H, I.tok _, ⟨_, rfl⟩, q⟩
    | bl b => cases rx; exact PySem.P.repr_of_bool ⟨.str _, H, I.tok _, ⟨_, rfl⟩, q⟩
    | int i => obtain ⟨t, rfl⟩ := rx; exact PySem.P.repr_of_int (by simpa [PyData.showable] using hf.sh) ⟨.str _, H, I.tok _, ⟨_, rfl⟩, q⟩
    | str z => obtain ⟨t, rfl⟩ := rx; exact PySem.P.repr_of_str ⟨.str _, H, I.tok _, ⟨_, rfl⟩, q⟩ hf.sz
    | lst hs ha =>
      obtain ⟨as, hr, hn⟩ := Dq.reads I (.lst hs ha) rx
      cases rx
      exact repr_of_reads' hr hf.sh (fun h => hn (hf.fr h)) hG (by have := hf.dp; omega) (fun _ _ e => e) (fun h' u tk hk => ⟨.str _, H, I.kept (t' := tk) hk, ⟨_, rfl⟩, q⟩) hf.sz
    | tup hs ha =>
      obtain ⟨as, hr, hn⟩ := Dq.reads I (.tup hs ha) rx
      cases rx
      exact repr_of_reads' hr hf.sh (fun h => hn (hf.fr h)) hG (by have := hf.dp; omega) (fun _ _ e => e) (fun h' u tk hk => ⟨.str _, H, I.kept (t' := tk) hk, ⟨_, rfl⟩, q⟩) hf.sz
    | dic hs hk hv =>
      obtain ⟨as, hr, hn⟩ := Dq.reads I (.dic hs hk hv) rx
      cases rx
      exact repr_of_reads' hr hf.sh (fun h => hn (hf.fr h)) hG (by have := hf.dp; omega) (fun _ _ e => e) (fun h' u tk hk => ⟨.str _, H, I.kept (t' := tk) hk, ⟨_, rfl⟩, q⟩) hf.sz
  · exact q.elim
end
end CL

set_option Elab.async false
set_option linter.all false
set_option maxRecDepth 100000
set_option maxHeartbeats 2000000
/-! Top: from the run of a law's def at the caller's own place to the row's walk. -/
namespace CL
open PySem PySem.Spec PyProof.Rows L2 LamX

/-- what is handed to the law: the written part over the base, the tables empty, the script read -/
structure Start (P : Program) (w : World) (K : PySem.W.Frag) (mg : Str → Option Value) (cs : List (Addr × Addr)) (base : Heap) (s : Shared) (H : Hp) (a : Addr) (ns : List Int) : Prop where
  kin : K.In base
  glob : base.Ns mainGlobals mg
  tb : ∀ p ∈ cs, TabB base mg p.1 p.2
  tab : ∀ p ∈ cs, H p.2 = some (.tbl #[])
  script : SqL K H a (ns.map V.int)
  env : Env0 P w K mg base callerA [] s H
section
variable {P : Program} {w : World} {K : PySem.W.Frag} {mg mb : Str → Option Value} {fa a : Addr} {cs : List (Addr × Addr)} {s₁ : Shared} {vs : List Value} {ns : List Int}
/-- what is tracked at the start: the script (where it is no object of the module) and the tables -/
noncomputable def startH (K : PySem.W.Frag) (cs : List (Addr × Addr)) (a : Addr) (vs : List Value) (ns : List Int) : Hp := fun b =>
  if b = a ∧ K.lookup a = none then some (.frz { cls := .type "list", data := .seq vs.toArray } (.lst (ns.map V.int))) else if b ∈ cs.map (·.2) then some (.tbl #[]) else none
theorem top_run (KX : K.In s₁.heap) (hns : s₁.heap.Ns mainGlobals mg) (hb : s₁.heap.Ns builtinsNs mb) (hbb : ∀ x : Str, x ≠ "__name__" → mb x = bootBuiltins x) (hlim : s₁.heap.NoLimit) (hg : s₁.gens = #[])
    (hT : ∀ p ∈ cs, s₁.heap.get? p.2 = some { cls := .none, data := .fields #[] }) (nT : ∀ p ∈ cs, K.lookup p.2 = none) (C : ∀ p ∈ cs, PySem.W.CodeHd s₁.heap p.1 p.2)
    (hbm : ∃ (bm : Addr) (ob : Obj), mg "__builtins__" = some (.ref bm) ∧ bm ≠ builtinsNs ∧ s₁.heap.get? bm = some ob ∧ ob.cls = .type "module" ∧ ob.dict = some builtinsNs ∧ ob.data = .plain)
    (ha : s₁.heap.get? a = some { cls := .type "list", data := .seq vs.toArray }) (hi : IntsAre vs ns) (hl : ns.length ≤ sizeLine)
    (go : ∀ (base : Heap) (H : Hp), Start P w K mg cs base s₁ H a ns → codeAny (model P w) callerA (.call (.ref fa) ⟨[.ref a], []⟩) (CR CX0 [] P w H s₁ (fun v _ => v = .bl true) E0) s₁) :
    codeAny (model P w) callerA (.call (.ref fa) ⟨[.ref a], []⟩) (fun r s' => r = .ok (.ret (.bool true)) ∧ OldK s₁.heap s'.heap ∧ s'.os = s₁.os ∧ AllBare s'.gens) s₁ := by
  have rv := vals_ints hi
  have lv := hi.length
  have isT : ∀ b : Addr, b ∈ cs.map (·.2) → s₁.heap.get? b = some { cls := .none, data := .fields #[] } := fun b h => by
    obtain ⟨p, hp, e⟩ := List.mem_map.mp h
    exact e ▸ hT p hp
  have memT : ∀ p ∈ cs, p.2 ∈ cs.map (·.2) := fun p hp => List.mem_map.mpr ⟨p, hp, rfl⟩
  have aT : a ∉ cs.map (·.2) := fun z => by
    have q := congrArg Obj.data (Option.some.inj (ha.symm.trans (isT a z)))
    exact nomatch (show Data.seq vs.toArray _ = Data.fields #[] from q)
  -- the abstract heap, by cases
  have hH : ∀ b, (startH K cs a vs ns b = none) ∨ (b = a ∧ K.lookup a = none ∧ startH K cs a vs ns b = some (.frz { cls := .type "list", data := .seq vs.toArray } (.lst (ns.map V.int)))) ∨ (b ∈ cs.map (·.2) ∧ startH K cs a vs ns b = some (.tbl #[])) := fun b => by
    unfold startH
    by_cases h1 : b = a ∧ K.lookup a = none
    · exact .inr (.inl ⟨h1.1, h1.2, if_pos h1⟩)
    · by_cases h2 : b ∈ cs.map (·.2)
      · exact .inr (.inr ⟨h2, (if_neg h1).trans (if_pos h2)⟩)
      · exact .inl ((if_neg h1).trans (if_neg h2))
  have tabs : ∀ p ∈ cs, startH K cs a vs ns p.2 = some (.tbl #[]) := fun p hp => by
    have : ¬ (p.2 = a ∧ K.lookup a = none) := fun z => aT (z.1 ▸ memT p hp)
    unfold startH
    rw [if_neg this, if_pos (memT p hp)]
  have script : SqL K (startH K cs a vs ns) a (ns.map V.int) := by
    cases hk : K.lookup a with
    | none => exact .inl (.inr ⟨_, if_pos ⟨rfl, hk⟩⟩)
    | some o =>
      have e := KX a o hk
      rw [ha] at e
      cases e
      exact .inr ⟨_, vs.toArray, _, hk, rfl, rfl, rfl, by rw [List.size_toArray, lv]; exact hl, by simpa using rv⟩
  have hok : HOk P w (startH K cs a vs ns) s₁.heap := fun b u z => by
    rcases hH b with h | ⟨rfl, _, h⟩ | ⟨hm, h⟩
    · rw [h] at z; exact nomatch z
    · rw [h] at z
      cases z
      exact ⟨ha, by rw [List.length_map]; exact hl, vs, _, rv, ha⟩
    · rw [h] at z
      cases z
      exact isT b hm
  -- what is no list and no table is not tracked
  have free : ∀ {b : Addr} {o : Obj}, s₁.heap.get? b = some o → (∀ us n, o.data ≠ .seq us n) → o.data ≠ .fields #[] → startH K cs a vs ns b = none := fun {b o} e h1 h2 => by
    rcases hH b with h | ⟨rfl, _, _⟩ | ⟨hm, _⟩
    · exact h
    · rw [ha] at e
      cases e
      exact (h1 _ _ rfl).elim
    · rw [isT b hm] at e
      cases e
      exact (h2 rfl).elim
  have inB : ∀ {b : Addr} {o : Obj}, s₁.heap.get? b = some o → startH K cs a vs ns b = none → (hidT s₁.heap (startH K cs a vs ns)).get? b = some o := fun e n => hidT_get e n
  have nsB : ∀ {b : Addr} {m : Str → Option Value}, s₁.heap.Ns b m → (hidT s₁.heap (startH K cs a vs ns)).Ns b m := fun {b m} ⟨o, es, ep, e, d, r⟩ =>
    ⟨o, es, ep, inB e (free e (fun us n z => by rw [d] at z; exact nomatch z) fun z => by rw [d] at z; exact nomatch z), d, r⟩
  have kinB : K.In (hidT s₁.heap (startH K cs a vs ns)) := fun b o e => inB (KX b o e) (by
    rcases hH b with h | ⟨rfl, hn, _⟩ | ⟨hm, _⟩
    · exact h
    · rw [hn] at e; exact nomatch e
    · obtain ⟨p, hp, ep⟩ := List.mem_map.mp hm
      rw [← ep, nT p hp] at e
      exact nomatch e)
  have tbB : ∀ p ∈ cs, TabB (hidT s₁.heap (startH K cs a vs ns)) mg p.1 p.2 := fun p hp => by
    have hTp := hT p hp
    refine ⟨?_, ?_, fun z => ?_⟩
    · obtain ⟨o, us, file, tf, flags, tg, inF, text, tt, e1, r1, r2, r3, rr⟩ := C p hp
      refine ⟨o, us, file, tf, flags, tg, inF, text, tt, inB e1 (free e1 (fun _ _ z => ?_) fun z => ?_), r1, r2, r3, rr⟩
      · rw [r2] at z; exact nomatch z
      · rw [r2] at z
        cases z
        simp at r3
    · obtain ⟨bm, ob, b1, b2, b3, b4, b5, b6⟩ := hbm
      have n1 : bm ≠ mainGlobals := fun q => by
        obtain ⟨o, es, ep, e, hd, _⟩ := hns
        rw [q, e] at b3
        cases b3
        rw [hd] at b6
        exact nomatch b6
      have n2 : bm ≠ p.2 := fun q => by
        rw [q, hTp] at b3
        cases b3
        exact nomatch b6
      refine ⟨bm, ob, b1, b2, n1, n2, inB b3 (free b3 (fun _ _ z => ?_) fun z => ?_), b4, b5, b6⟩
      · rw [b6] at z; exact nomatch z
      · rw [b6] at z; exact nomatch z
    · obtain ⟨o, es, ep, e, hd, _⟩ := hns
      rw [z, hTp] at e
      cases e
      exact nomatch hd
  have env : Env0 P w K mg (hidT s₁.heap (startH K cs a vs ns)) callerA [] s₁ (startH K cs a vs ns) :=
    ⟨rfl, ⟨kinB, nsB hns, ⟨mb, nsB hb, hbb⟩, let ⟨mc, h1, h2⟩ := hlim; ⟨mc, nsB h1, h2⟩⟩, fun b o e => of_hidT e, Nat.le_of_eq (hidT_size _ _), trivial, fun b h => absurd (show b ∈ ([] : List Addr) from h) (by simp), hok, .of_eq hg⟩
  refine codeAny_mono (go _ _ ⟨kinB, nsB hns, tbB, tabs, script, env⟩) fun r s' h => ?_
  match r, h with
  | .error e, h => exact h.elim
  | .ok .next, h => exact h.elim
  | .ok .brk, h => exact h.elim
  | .ok .cont, h => exact h.elim
  | .ok (.ret u), ⟨v, H', os, bare, un, hok', r', (q : v = .bl true)⟩ =>
    subst q
    obtain rfl : u = Value.bool true := r'
    have key : ∀ b o, b ∉ cs.map (·.2) → s₁.heap.get? b = some o → s'.heap.get? b = some o := fun b o nb e => by
      rcases hH b with h | ⟨rfl, _, h⟩ | ⟨hm, _⟩
      · exact un.keep b o e h (by intro z; exact absurd (show b ∈ ([] : List Addr) from z) (by simp)) (by simp)
      · obtain ⟨e2, _⟩ := hok' b _ (un.frzs b _ _ h)
        rw [ha] at e
        cases e
        exact e2
      · exact absurd hm nb
    have grown : ∀ p ∈ cs, ∃ more : Array Value, s'.heap.get? p.2 = some { cls := .none, data := .fields more } := fun p hp => by
      obtain ⟨more, z⟩ := un.tbls p.2 #[] (tabs p hp)
      exact ⟨_, hok' p.2 _ z⟩
    refine ⟨rfl, ⟨fun b o e => ?_, fun b o e => ?_⟩, os, bare⟩
    · by_cases hm : b ∈ cs.map (·.2)
      · obtain ⟨p, hp, rfl⟩ := List.mem_map.mp hm
        obtain ⟨more, hmo⟩ := grown p hp
        rw [hT p hp] at e
        cases e
        exact .inr (.inl ⟨((C p hp).tab (hT p hp)).isCodeTable, rfl, #[], more, rfl, by rw [Array.empty_append]; exact hmo⟩)
      · exact .inl (key b o hm e)
    · by_cases hm : b ∈ cs.map (·.2)
      · obtain ⟨p, hp, rfl⟩ := List.mem_map.mp hm
        obtain ⟨more, hmo⟩ := grown p hp
        exact ⟨_, hmo⟩
      · exact ⟨o, key b o hm e⟩
end
/-- the row's walk, from the promise of its def -/
theorem top_walk {l : PySem.W.OpenLaw} {n k : Nat} {q : Program} {loose : List Str} {XP : (Str → Option Value) → Heap → Prop} {YP : World → Heap → Prop} {d : DefRec} {K : Params → PySem.W.Frag} {x : Str}
    (hn : l.most = some n) (hn2 : n ≤ sizeLine) (hdf : d.params.defaults = []) (hr : Room k callerA) (hY : ∀ (w : World) (h : Heap), YP w h → (K w.params).In h)
    (F : ∀ (w : World) (mg : Str → Option Value) (fa : Addr) (h : Heap), YP w h → XP mg h → (K w.params).In h → h.Ns mainGlobals mg → mg d.name = some (.ref fa) →
      ∃ (cs : List (Addr × Addr)) (fd : FuncData) (sp : Sp), (∀ p ∈ cs, h.get? p.2 = some { cls := .none, data := .fields #[] }) ∧ (∀ p ∈ cs, (K w.params).lookup p.2 = none) ∧ (∀ p ∈ cs, PySem.W.CodeHd h p.1 p.2) ∧ (∀ (s : Shared) (u : Value), BindsTo s fd ⟨[u], []⟩ [(x, u)]) ∧
        (∀ (H : Hp) (a : Addr) (ns : List Int), ns.length ≤ n → (∀ z ∈ ns, Builtin.Int.intBits z ≤ 1048576) → (∀ p ∈ cs, H p.2 = some (.tbl #[])) → SqL (K w.params) H a (ns.map V.int) → sp [.ref a] H (fun v _ => v = .bl true) E0) ∧
        ∀ base : Heap, (K w.params).In base → base.Ns mainGlobals mg → (∀ p ∈ cs, TabB base mg p.1 p.2) → FnG l.prog w (K w.params) mg base CX0 k fa fd [x] sp) :
    PySem.W.WalkO q loose XP YP l.row.toRowW d [] (fun f vs => PySem.call f vs) := by
  refine Att.attach_callB hn hdf fun w s₀ s₁ mg mb fa o pm cd doc a vs ns G Y ho hd hcd hmg hobj hints hlen hbits hg => ?_
  have KX := hY w _ Y
  obtain ⟨cs, fd, sp, hT, nT, C, hb, hsp, hF⟩ := F w mg fa _ Y G.X KX G.T.g hmg
  refine top_run KX G.T.g G.T.b G.T.builtins G.T.nolimit hg hT nT C G.T.bmain hobj hints (Nat.le_trans hlen hn2) fun base H S => ?_
  exact (hF base S.kin S.glob S.tb).go callerA [] s₁ H ⟨[.ref a], []⟩ [.ref a] [.ref a] _ _ rfl hr S.env (hb s₁ (.ref a)) (.cons rfl .nil) (hsp H a ns hlen hbits S.tab S.script)
end CL

set_option Elab.async false
set_option linter.all false
set_option maxRecDepth 100000
set_option maxHeartbeats 2000000
/-! Cls: isinstance, errors with a field, operators of instances: readings that compute. -/
namespace CL
open PySem PySem.Spec PyProof.Rows L2

/-! ### the kinds of built-in values -/
inductive BT | non | bool | int | str | list | tuple | dict
  deriving DecidableEq
def BT.nm : BT → String
  | .non => "NoneType" | .bool => "bool" | .int => "int" | .str => "str" | .list => "list" | .tuple => "tuple" | .dict => "dict"
def BT.sub : BT → BT → Bool
  | .non, .non => true | .bool, .bool => true | .bool, .int => true | .int, .int => true | .str, .str => true | .list, .list => true | .tuple, .tuple => true | .dict, .dict => true
  | _, _ => false
theorem BT.kit {K : PySem.W.Frag} : ∀ (a b : BT), PySem.W.kitOne K (.type a.nm) (.type b.nm) = some (a.sub b)
  | .non, b => by cases b <;> exact kit_ty (by decide +kernel)
  | .bool, b => by cases b <;> exact kit_ty (by decide +kernel)
  | .int, b => by cases b <;> exact kit_ty (by decide +kernel)
  | .str, b => by cases b <;> exact kit_ty (by decide +kernel)
  | .list, b => by cases b <;> exact kit_ty (by decide +kernel)
  | .tuple, b => by cases b <;> exact kit_ty (by decide +kernel)
  | .dict, b => by cases b <;> exact kit_ty (by decide +kernel)
/-- a value of a built-in kind -/
inductive BK (K : PySem.W.Frag) (H : Hp) : V → BT → Prop
  | non : BK K H .non .non
  | bl (b : Bool) : BK K H (.bl b) .bool
  | int (i : Int) : BK K H (.int i) .int
  | str (x : Str) : BK K H (.str x) .str
  | lst {a : Addr} {xs : List V} : SqL K H a xs → BK K H (.ref a) .list
  | tup {a : Addr} {xs : List V} : SqT K H a xs → BK K H (.ref a) .tuple
  | dic {a : Addr} {kvs : List (Key × V)} : H a = some (.dK kvs) → BK K H (.ref a) .dict
theorem BK.ty {K : PySem.W.Frag} {H : Hp} {x : V} {k : BT} (h : BK K H x k) : TyX K H x (.type k.nm) := by
  cases h with
  | non => exact .base .non
  | bl b => exact .base (.bl b)
  | int i => exact .base (.int i)
  | str z => exact .base (.str z)
  | lst h =>
    rcases h with (h | ⟨o, h⟩) | ⟨o, its, n, hk, hc, _⟩
    · exact .base (.lst h)
    · exact .base (.frz h)
    · exact .kList hk hc
  | tup h =>
    rcases h with (h | ⟨o, h⟩) | ⟨o, its, n, hk, hc, _⟩
    · exact .base (.tup h)
    · exact .fTuple h
    · exact .kTuple hk hc
  | dic h => exact .base (.dK h)
theorem Dq.bk {K : PySem.W.Frag} {H : Hp} {x : V} {d : PyData} (h : Dq K H x d) : ∃ k, BK K H x k := by
  cases h with
  | non => exact ⟨_, .non⟩
  | bl b => exact ⟨_, .bl b⟩
  | int i => exact ⟨_, .int i⟩
  | str z => exact ⟨_, .str z⟩
  | lst h _ => exact ⟨_, .lst h⟩
  | tup h _ => exact ⟨_, .tup h⟩
  | dic h _ _ => exact ⟨_, .dic h⟩
section
variable {X : Cx} {e : Expr} {te : TE} {p q pos : Pos}
/-- isinstance(e, T), T a built-in class -/
def cIsi (K : PySem.W.Frag) (m : BT) (te : TE) : TE := fun σ H Q => te σ H fun x H1 => match x with
  | .non => Q (.bl (BT.non.sub m)) H1
  | .bl _ => Q (.bl (BT.bool.sub m)) H1
  | .int _ => Q (.bl (BT.int.sub m)) H1
  | .str _ => Q (.bl (BT.str.sub m)) H1
  | x => ∃ k, BK K H1 x k ∧ Q (.bl (k.sub m)) H1
theorem pe_isi {m : BT} {T : Str} (hT : bootBuiltins T = some (.type m.nm)) (hmI : X.mg "isinstance" = none) (hmT : X.mg T = none) (hgI : Gl X "isinstance") (hgT : Gl X T) (he : PE X e te) (hn : T ≠ "__name__" := by decide) (hdb : (T == ("__debug__" : Str)) = false := by decide)
    (h1 : starEach [e, .Name T q] X.env = (false, eval e X.env) :: starEach [.Name T q] X.env := by rfl) (h2 : (backTo pos (starEach [.Name T q] X.env)).any (·.1) = false := by rfl)
    (h3 : starEach [.Name T q] X.env = (false, eval (.Name T q) X.env) :: starEach [] X.env := by rfl) :
    PE X (.Call (.Name "isinstance" p) [e, .Name T q] [] pos) (cIsi X.K m te) := by
  refine PE_imp (pe_callB call_isi hgI hmI (by decide +kernel) (pa_cons (PE_up he) (pa_cons (pe_bltn (v := .ty m.nm) hgT hmT hT rfl hn hdb) pa_nil h3) h1) (by decide) (by decide) h1 h2) fun σ H Q h => ⟨_, h, fun x H1 q => ?_⟩
  have go : ∀ k, BK X.K H1 x k → Q (.bl (k.sub m)) H1 → rIsi X.K [x, .ty m.nm] H1 Q := fun k hk hq => ⟨x, .ty m.nm, _, _, _, rfl, .ty _, hk.ty, BT.kit k m, hq⟩
  cases x with
  | non => exact go _ .non q
  | bl b => exact go _ (.bl b) q
  | int i => exact go _ (.int i) q
  | str z => exact go _ (.str z) q
  | _ => obtain ⟨k, hk, q⟩ := q; exact go k hk q
end

/-! ### instances of a class of the text -/
structure OwnC (K : PySem.W.Frag) (C : Addr) : Prop where
  cl : Cls K C
  ca : PySem.W.findIn K (.ref C) "__class__" = some (some (.builtin "object.__class__"))
  sp : PySem.W.specialIn K (.builtin "object.__class__") "__get__" = some (some (.builtin "getset_descriptor.__get__"))
  tk : PySem.W.takesIn K (.builtin "object.__class__") = some true
  mo : PySem.W.mroIn K C (.type "object") = some true
  ic : PySem.W.isClsIn K C = true
  ty : PySem.W.typeIn K (.ref C) = some (.type "type")
  nb : ∀ k : BT, PySem.W.subIn K (.type k.nm) (.ref C) = some false
theorem OwnC.kit {K : PySem.W.Frag} {C : Addr} (c : OwnC K C) (k : BT) : PySem.W.kitOne K (.type k.nm) (.ref C) = some false := by
  have h1 : ((PySem.W.clsIn K C).isSome && PySem.W.typeIn K (.ref C) == some (.type "type")) = true := by
    have := c.ic
    rw [c.ty, show (PySem.W.clsIn K C).isSome = true from c.ic]
    rfl
  show (if (Value.type k.nm == Value.ref C) = true then some true else if ((PySem.W.clsIn K C).isSome && PySem.W.typeIn K (.ref C) == some (.type "type")) = true then PySem.W.subIn K (.type k.nm) (.ref C) else none) = some false
  rw [if_neg (by intro z; cases beq_iff_eq.mp z), if_pos h1]
  exact c.nb k
theorem OwnC.self {K : PySem.W.Frag} {C : Addr} : PySem.W.kitOne K (.ref C) (.ref C) = some true := by
  unfold PySem.W.kitOne
  rw [if_pos (by simp)]
section
variable {X : Cx} {e : Expr} {te : TE} {p q pos : Pos} {C : Addr}
/-- isinstance(e, C), C of the text -/
def cIsO (K : PySem.W.Frag) (C : Addr) (te : TE) : TE := fun σ H Q => te σ H fun x H1 => match x with
  | .ref a => (∃ dx fs, H1 a = some (.ins C dx fs) ∧ Q (.bl true) H1) ∨ ∃ k, BK K H1 (.ref a) k ∧ Q (.bl false) H1
  | x => ∃ k, BK K H1 x k ∧ Q (.bl false) H1
theorem pe_isO {T : Str} (c : OwnC X.K C) (hmI : X.mg "isinstance" = none) (hmT : X.mg T = some (.ref C)) (hgI : Gl X "isinstance") (hgT : Gl X T) (he : PE X e te) (hdb : (T == ("__debug__" : Str)) = false := by decide)
    (h1 : starEach [e, .Name T q] X.env = (false, eval e X.env) :: starEach [.Name T q] X.env := by rfl) (h2 : (backTo pos (starEach [.Name T q] X.env)).any (·.1) = false := by rfl)
    (h3 : starEach [.Name T q] X.env = (false, eval (.Name T q) X.env) :: starEach [] X.env := by rfl) :
    PE X (.Call (.Name "isinstance" p) [e, .Name T q] [] pos) (cIsO X.K C te) := by
  refine PE_imp (pe_callB call_isi hgI hmI (by decide +kernel) (pa_cons (PE_up he) (pa_cons (pe_glob (v := .ref C) hgT hmT rfl hdb) pa_nil h3) h1) (by decide) (by decide) h1 h2) fun σ H Q h => ⟨_, h, fun x H1 q => ?_⟩
  have no : ∀ k, BK X.K H1 x k → Q (.bl false) H1 → rIsi X.K [x, .ref C] H1 Q := fun k hk hq => ⟨x, .ref C, _, _, _, rfl, .own _, hk.ty, c.kit k, hq⟩
  cases x with
  | ref a =>
    rcases q with ⟨dx, fs, ha, q⟩ | ⟨k, hk, q⟩
    · exact ⟨_, .ref C, _, _, _, rfl, .own _, .base (.ins ha c.cl c.ca c.sp c.tk c.mo), OwnC.self, q⟩
    · exact no k hk q
  | _ => obtain ⟨k, hk, q⟩ := q; exact no k hk q
end

/-! ### what a value's type is, for the model -/
theorem BK.looks {X : Cx} {pins : List (Addr × Obj)} {σ : L2.St} {H : Hp} {s : Shared} {M : Model} {x : V} {u : Value} {k : BT} (I : Inv X pins σ H s) (h : BK X.K H x k) (r : RelV x u) : PySem.W.Looks M s.heap (typeOf u) (.type k.nm) := by
  cases h with
  | non => cases r; exact .of_pure rfl
  | bl b => cases r; exact .of_pure rfl
  | int i => obtain ⟨t, rfl⟩ := r; exact .of_pure rfl
  | str z => obtain ⟨t, rfl⟩ := r; exact .of_pure rfl
  | lst h =>
    cases r
    obtain ⟨its, rv, ⟨o, n, ho, hc, _⟩, _⟩ := I.list h
    exact fun A Q E s k q => wpAny_typeOf_ref (k _ _ ho) (by rw [hc]; exact q)
  | tup h =>
    cases r
    obtain ⟨its, rv, ⟨o, ho, hc, _⟩, _⟩ := I.tuple h
    exact fun A Q E s k q => wpAny_typeOf_ref (k _ _ ho) (by rw [hc]; exact q)
  | dic h =>
    cases r
    obtain ⟨_, _, vs', rel, o, es, ep, ho, hx, _⟩ := I.hok _ _ h
    exact fun A Q E s k q => wpAny_typeOf_ref (k _ _ ho) (by rw [hx.1]; exact q)
/-- an operand beside an instance of the class at C: another one, or a built-in value -/
def Side (K : PySem.W.Frag) (C : Addr) (H : Hp) (y : V) : Prop := (∃ b dy gs, y = .ref b ∧ H b = some (.ins C dy gs)) ∨ ∃ k, BK K H y k
theorem Side.looks {X : Cx} {pins : List (Addr × Obj)} {σ : L2.St} {H : Hp} {s : Shared} {C : Addr} {y : V} {u : Value} (c : OwnC X.K C) (I : Inv X pins σ H s) (h : Side X.K C H y) (r : RelV y u) :
    ∃ tb, (∀ M : Model, PySem.W.Looks M s.heap (typeOf u) tb) ∧ PySem.W.notFirst X.K C tb = true := by
  rcases h with ⟨b, dy, gs, rfl, hb⟩ | ⟨k, hk⟩
  · cases r
    obtain ⟨mB, J, _⟩ := ins_get I.hok hb
    obtain ⟨od, J, _⟩ := J.look
    exact ⟨.ref C, fun M => J.type, by simp [PySem.W.notFirst]⟩
  · refine ⟨_, fun M => hk.looks I r, ?_⟩
    unfold PySem.W.notFirst
    rw [c.nb k]
    simp
theorem not_raised {P : Program} {w : World} {X : Cx} : Passes (L2.CX P w) X E0 := fun _ _ _ _ _ _ _ h => by
  obtain ⟨_, _, _, _, _, _, _, _, _, _, _, _, h⟩ := h
  exact h.elim
section
variable {X : Cx} {C f : Addr} {CX : CXT} {n : Nat} {fd : FuncData} {ps : List Str} {sp : Sp} {E : XK}
theorem run_at1 {pins : List (Addr × Obj)} {σ : L2.St} {H : Hp} {s : Shared} {Q : VK} {us : List Value} {vs : List V} (F : FnOk X.prog X.w X.K X.mg X.base CX n f fd ps sp) (hr : Room (n + 1) X.A) (hb : Binds X.K fd ps []) (hx : Passes CX X E)
    (I : Inv X pins σ H s) (r : Vals vs us) (h : sp vs H Q E) : wpAny (model X.prog X.w) X.A.in1 (call (.ref f) us) (EP X pins σ Q) X.xe s := by
  have hl := F.len _ _ _ _ h
  have hb2 := hb s us I.kIn (by rw [List.append_nil, ← r.length]; exact hl)
  rw [List.append_nil] at hb2
  refine wpAny_call (codeAny_mono (F.run X.A.in1 X.stack s H ⟨us, []⟩ us vs Q E hr.in1 I.env0.in1 hb2 r h) fun res s' hq => ?_)
  match res, hq with
  | .error e, hq => exact hx pins σ H s e s' I hq
  | .ok (.ret u), hq => exact I.after hq
  | .ok .next, hq => exact hq.elim
  | .ok .brk, hq => exact hq.elim
  | .ok .cont, hq => exact hq.elim
theorem cmp_back {Pq : Value → Shared → Prop} {z : V} {v : Value} {s' : Shared} (r : RelV z v) (h : Pq v s') : PySem.W.CmpBack Pq v s' := by
  cases z <;> first | (cases r; exact h) | (obtain ⟨t, rfl⟩ := r; exact h)
/-- x == y, x an instance: by its own __eq__ -/
def cEqO (K : PySem.W.Frag) (C : Addr) (sp : Sp) (E : XK) : R2 := fun x y H Q => match x with
  | .ref a => (∃ dx fs, H a = some (.ins C dx fs)) ∧ Side K C H y ∧ sp [.ref a, y] H Q E
  | _ => False
theorem c_eqO (c : OwnC X.K C) (hs : PySem.W.findIn X.K (.ref C) "__eq__" = some (some (.ref f))) (hf : PySem.W.isFn X.K (.ref f) = true) (F : FnOk X.prog X.w X.K X.mg X.base CX n f fd ps sp) (hr : Room n X.A) (hb : Binds X.K fd ps []) (hx : Passes CX X E) :
    OpR X (compareOp .Eq) (cEqO X.K C sp E) := by
  intro pins s σ H x y v u Q I rx ry h
  cases x with
  | ref a =>
    obtain ⟨⟨dx, fs, ha⟩, hy, q⟩ := h
    cases rx
    obtain ⟨mA, J, _⟩ := ins_get I.hok ha
    obtain ⟨od, J, _⟩ := J.look
    obtain ⟨m, hF⟩ := I.fr
    obtain ⟨tb, L, nf⟩ := hy.looks c I ry
    refine PySem.W.cmp_K (op := .Eq) (tb := tb) hr.units0 hF I.ok.mod.kin J (L _) nf hs hf ?_
    refine wpAny_mono (run_fn (us := [.ref a, u]) (vs := [.ref a, y]) (dvs := []) (ds := []) F hr hb .nil hx I (.cons rfl (.cons ry .nil)) q) (fun w s' z => ?_) fun _ _ z => z
    obtain ⟨z', H', I', rz, qz⟩ := z
    exact cmp_back rz ⟨z', H', I', rz, qz⟩
  | _ => exact h.elim
theorem ns_some {K : PySem.W.Frag} {h : Heap} {N : Addr} {mg : Str → Option Value} {n : Str} {v : Value} (X : K.In h) (G : h.Ns N mg) (e : PySem.W.nsIn K N n = some (some v)) : mg n = some v := by
  obtain ⟨o, es, ep, ho, hd, _, hf⟩ := G
  unfold PySem.W.nsIn at e
  split at e
  · rename_i l
    have := X _ _ l
    rw [ho] at this
    cases this
    cases hd
    split at e
    · rename_i en he
      have e' := Option.some.inj (Option.some.inj e)
      rw [← hf n, ← e']
      show (nsFind _ n) = _
      unfold nsFind findBy
      rw [← Array.find?_toList, he]
      rfl
    · split at e <;> cases e
  · cases e
/-- the class at C has an own __eq__ at f and no own __ne__ -/
structure NeC (K : PySem.W.Frag) (C f : Addr) : Prop where
  cls : ∃ nm q N bs hd sn sub ab col dd k0 k1 k2 k3 k5 nw, K.lookup C = some (excClassObj nm q C N bs [.type "object"] hd sn sub ab col dd k0 k1 k2 k3 k5 nw) ∧ PySem.W.nsOkIn K N = true ∧ PySem.W.nsIn K N "__eq__" = some (some (.ref f)) ∧ PySem.W.nsIn K N "__ne__" = some none
  fn : ∃ o, K.lookup f = some o ∧ o.cls = .type "function"
theorem NeC.own {K : PySem.W.Frag} {C f x : Addr} {h : Heap} {o : Obj} (c : NeC K C f) (X : K.In h) (hx : h.get? x = some o) (hc : o.cls = .ref C) : h.OwnEqNoNe x C f "object" [.type "object"] := by
  obtain ⟨nm, q, N, bs, hd, sn, sub, ab, col, dd, k0, k1, k2, k3, k5, nw, hC, hN, e1, e2⟩ := c.cls
  obtain ⟨of, hf, hfc⟩ := c.fn
  have G : h.Ns N (h.nsMap N) := .of_isNs (PySem.W.isNs_of_in X hN)
  exact ⟨o, of, nm, q, N, bs, hd, sn, sub, ab, col, dd, k0, k1, k2, k3, k5, nw, h.nsMap N, _, hx, hc, X _ _ hC, G, ns_some X G e1, X _ _ hf, hfc, PySem.F.cmp_object.mro, PySem.F.cmp_object.eq.lookup, PySem.W.ns_none_of X G e2⟩
/-- x != y, both instances of the class: not its own __eq__ -/
def cNeO (C : Addr) (sp : Sp) (E : XK) : R2 := fun x y H Q => match x, y with
  | .ref a, .ref b => (∃ dx fs, H a = some (.ins C dx fs)) ∧ (∃ dx fs, H b = some (.ins C dx fs)) ∧ sp [.ref a, .ref b] H (fun v H' => match v with
    | .bl k => Q (.bl (!k)) H'
    | _ => False) E
  | _, _ => False
theorem c_neO (c : NeC X.K C f) (F : FnOk X.prog X.w X.K X.mg X.base CX n f fd ps sp) (hr : Room (n + 1) X.A) (hb : Binds X.K fd ps []) (hx : Passes CX X E) : OpR X (compareOp .NotEq) (cNeO C sp E) := by
  intro pins s σ H x y v u Q I rx ry h
  unfold cNeO at h
  split at h
  · rename_i a b
    obtain ⟨⟨dx, fs, ha⟩, ⟨dy, gs, hb'⟩, q⟩ := h
    cases rx
    cases ry
    obtain ⟨mA, J, _⟩ := ins_get I.hok ha
    obtain ⟨od, J, _⟩ := J.look
    obtain ⟨mB, J', _⟩ := ins_get I.hok hb'
    obtain ⟨od', J', _⟩ := J'.look
    obtain ⟨hp, g, d, t, os⟩ := s
    refine compareOp_ne_ownEq PySem.F.cmp_object (c.own I.kIn J.at_ J.cls) J'.at_ J'.cls (by have := hr.units; omega) ?_
    refine wpAny_mono (run_at1 (us := [.ref a, .ref b]) (vs := [.ref a, .ref b]) F hr hb hx I (.cons rfl (.cons rfl .nil)) q) (fun w s' z => ?_) fun _ _ z => z
    obtain ⟨z', H', I', rz, qz⟩ := z
    split at qz
    · cases rz
      exact ⟨_, rfl, .bl _, H', I', rfl, qz⟩
    · exact qz.elim
  · exact h.elim
/-- -x, x an instance -/
def cNegO (C : Addr) (sp : Sp) (E : XK) : V → Hp → VK → Prop := fun x H Q => match x with
  | .ref a => (∃ dx fs, H a = some (.ins C dx fs)) ∧ sp [.ref a] H Q E
  | _ => False
theorem c_negO (hs : PySem.W.findIn X.K (.ref C) "__neg__" = some (some (.ref f))) (hf : PySem.W.isFn X.K (.ref f) = true) (F : FnOk X.prog X.w X.K X.mg X.base CX n f fd ps sp) (hr : Room n X.A) (hb : Binds X.K fd ps []) (hx : Passes CX X E) :
    UnR X (unaryOp .USub) (cNegO C sp E) := by
  intro pins s σ H x v Q I rx h
  cases x with
  | ref a =>
    obtain ⟨⟨dx, fs, ha⟩, q⟩ := h
    cases rx
    obtain ⟨mA, J, _⟩ := ins_get I.hok ha
    obtain ⟨od, J, _⟩ := J.look
    obtain ⟨m, hF⟩ := I.fr
    exact PySem.W.ksp_neg hF I.ok.mod.kin J hs hf (run_fn (us := [.ref a]) (vs := [.ref a]) (dvs := []) (ds := []) F hr hb .nil hx I (.cons rfl .nil) q)
  | _ => exact h.elim
end

/-! ### x op y, x an instance whose class defines the operator -/
section
open PySem.W
variable {prog : Program} {w : World} {A : Around} {E : Value → Shared → Prop} {s : Shared} {K : Frag} {x C L f : Addr} {ox : Obj} {od : Option Obj} {T : String}
theorem inst_bin {op : Operator} {b : Value} {fo ro rc : Option Value} {Q : Value → Shared → Prop} (X : K.In s.heap) (I : InstAt s.heap x ox C od) (hb : Looks (model prog w) s.heap (typeOf b) (.type T)) (hc : selfFirst K C = true)
    (hs : findIn K (.ref C) (PySem.dunder op.info.2) = some (some (.ref f))) (hf : isFn K (.ref f) = true) (hr : findIn K (.ref C) (dunderR op.info.2) = some rc) (hp : rc = none ∨ ∃ g : Addr, rc = some (.ref g))
    (h1 : findIn K (.type T) (PySem.dunder op.info.2) = some fo) (h2 : findIn K (.type T) (dunderR op.info.2) = some ro) (hsub : subIn K (.type T) (.ref C) = some false)
    (h : wpAny (model prog w) A (call (.ref f) [.ref x, b]) (PySem.W.CmpBack Q) E s) : wpAny (model prog w) A (binaryOp op (.ref x) b) Q E s := by
  obtain ⟨cd, rest, hcd, hm⟩ := ksp_first hc
  rcases hi : op.info with ⟨sym, nm'⟩
  simp only [hi] at hs hr h1 h2
  have one := ksp_try X I hs hf h
  obtain ⟨hh, g, d, tt, os⟩ := s
  have A1 : Looks (model prog w) hh (typeOf (.ref x)) (.ref C) := I.type
  have A2 : Looks (model prog w) hh (typeOf b) (.type T) := hb
  have A3 : Looks (model prog w) hh (fillsNumberSlot (.ref C) nm') true := fills_K X hcd hm hs
  have A4 : Looks (model prog w) hh (fillsNumberSlot (.type T) nm') ((fo.isSome && !isSeqSlot fo) || (ro.isSome && !isSeqSlot ro)) := ksp_fillsT X h1 h2
  have A5 : Looks (model prog w) hh (isSubtype (.type T) (.ref C)) false := looks_subIn X hsub
  have A6 : Looks (model prog w) hh (numberSlotInPython (.ref C) nm') true := ksp_inPy X hs hr hp
  have A7 : Looks (model prog w) hh (numberSlotInPython (.type T) nm') false := Looks.of_pure rfl
  have A8 : Looks (model prog w) hh (typeLookup (.type T) (dunderR nm')) ro := looks_findIn X h2
  generalize ((fo.isSome && !isSeqSlot fo) || (ro.isSome && !isSeqSlot ro)) = right at A4
  have hne : (Value.ref C == Value.type T) = false := Bool.eq_false_iff.mpr fun q => nomatch beq_iff_eq.mp q
  simp only [binaryOp, hi]
  refine wpAny_holding (wpAny_bind ?_)
  unfold binaryOp1
  refine wpAny_bind (A1.at (wpAny_bind (A2.at (wpAny_bind (A3.at ?_)))))
  simp only [hne, Bool.false_eq_true, if_false]
  cases right <;>
  · ksp_lk
    refine wpAny_mono one (fun r s' ⟨v, hv, hq⟩ => ?_) fun _ _ e => e
    subst hv
    ksp_lk
    exact hq
end
/-- what the class at C says of + -/
structure AddC (K : PySem.W.Frag) (C f : Addr) : Prop where
  fst : PySem.W.selfFirst K C = true
  add : PySem.W.findIn K (.ref C) "__add__" = some (some (.ref f))
  fn : PySem.W.isFn K (.ref f) = true
  radd : PySem.W.findIn K (.ref C) "__radd__" = some none
  bt : ∀ k : BT, ∃ fo ro, PySem.W.findIn K (.type k.nm) "__add__" = some fo ∧ PySem.W.findIn K (.type k.nm) "__radd__" = some ro
section
variable {X : Cx} {C f : Addr} {CX : CXT} {n : Nat} {fd : FuncData} {ps : List Str} {sp : Sp} {E : XK}
/-- x + y, x an instance, y a built-in value -/
def cAddO (K : PySem.W.Frag) (C : Addr) (sp : Sp) (E : XK) : R2 := fun x y H Q => match x with
  | .ref a => (∃ dx fs, H a = some (.ins C dx fs)) ∧ (∃ k, BK K H y k) ∧ sp [.ref a, y] H Q E
  | _ => False
theorem c_addO (c : OwnC X.K C) (ac : AddC X.K C f) (F : FnOk X.prog X.w X.K X.mg X.base CX n f fd ps sp) (hr : Room n X.A) (hb : Binds X.K fd ps []) (hx : Passes CX X E) : OpR X (binaryOp .Add) (cAddO X.K C sp E) := by
  intro pins s σ H x y v u Q I rx ry h
  cases x with
  | ref a =>
    obtain ⟨⟨dx, fs, ha⟩, ⟨k, hk⟩, q⟩ := h
    cases rx
    obtain ⟨mA, J, _⟩ := ins_get I.hok ha
    obtain ⟨od, J, _⟩ := J.look
    obtain ⟨fo, ro, h1, h2⟩ := ac.bt k
    refine inst_bin (op := .Add) I.kIn J (hk.looks I ry) ac.fst ac.add ac.fn ac.radd (.inl rfl) h1 h2 (c.nb k) ?_
    refine wpAny_mono (run_fn (us := [.ref a, u]) (vs := [.ref a, y]) (dvs := []) (ds := []) F hr hb .nil hx I (.cons rfl (.cons ry .nil)) q) (fun w s' z => ?_) fun _ _ z => z
    obtain ⟨z', H', I', rz, qz⟩ := z
    exact cmp_back rz ⟨z', H', I', rz, qz⟩
  | _ => exact h.elim
end
end CL

set_option Elab.async false
set_option linter.all false
set_option maxRecDepth 100000
set_option maxHeartbeats 2000000
/-! Err: own errors over ValueError, with one field or none. -/
namespace CL
open PySem PySem.Spec PyProof.Rows L2

/-! ### an error with one field -/
/-- C.__init__(self, v): ValueError.__init__(self, ..), self.f = v -/
def spErr (C : Addr) (f : Str) : Sp := fun vs H Q _ => match vs with
  | [.ref a, v] => H a = some (exo a C none) ∧ ∀ d, H d = none → d ≠ a → Q .non (upd (upd H d (exd d [(f, v)])) a (exo a C (some d)))
  | _ => False
/-- what is known of such a class -/
structure ErrC (P : Program) (w : World) (K : PySem.W.Frag) (mg : Str → Option Value) (base : Heap) (x : Str) (C : Addr) (f : Str) : Prop where
  ox : OexC K C
  g : mg x = some (.ref C)
  it : ∃ fI fd, PySem.W.findIn K (.ref C) "__init__" = some (some (.ref fI)) ∧ PySem.W.typeIn K (.ref fI) = some (.type "function") ∧ FnOk P w K mg base CX0 1 fI fd ["self", f] (spErr C f) ∧ Binds K fd ["self", f] []
section
variable {X : Cx} {C : Addr} {x f : Str} {e : Expr} {te : TE} {p pos pos2 : Pos} {W : WX}
def cRaise (C : Addr) (f : Str) (W : WX) (te : TE) : TS := fun _ σ H => te σ H fun v H1 => ∀ d H2, H1 d = none → Same H1 H2 → H2 d = some (.xd [(f, v)]) → W (.ref C) (some d) σ H2
theorem ps_raise1 (T : ErrC X.prog X.w X.K X.mg X.base x C f) (hc : X.calm = true) (hr : Room 2 X.A) (tk : Takes X W) (he : PE X e te) (hg : Gl X x := by rfl) (hdb : (x == ("__debug__" : Str)) = false := by decide)
    (h1 : starEach [e] X.env = (false, eval e X.env) :: starEach [] X.env := by rfl) (h2 : (backTo pos (starEach [] X.env)).any (·.1) = false := by rfl) :
    PS X (.Raise (some (.Call (.Name x p) [e] [] pos)) none pos2) (cRaise C f W te) := by
  obtain ⟨fI, fd, iC, tI, F, b⟩ := T.it
  refine PS_imp (ps_raise hc tk (pmk_oex T.ox iC tI F hr b .nil pass0 hg T.g (pa_cons (PE_up he) pa_nil h1) hdb h1 h2)) fun D σ H q => ⟨_, q, fun v H1 q => ⟨(by show (1 : Nat) ≤ 1000; decide), fun a na => ⟨upd_same, fun d nd da => ⟨rfl, d, [(f, v)], upd_same, ?_, ?_, ?_⟩⟩⟩⟩
  · rw [upd_ne da, upd_same]
  · rw [upd_ne da] at nd; exact nd
  · rw [upd_ne da] at nd
    refine q d _ nd (fun c o z => ?_) upd_same
    have c1 : c ≠ d := ne_of_none z nd
    have c2 : c ≠ a := ne_of_none z na
    rw [upd_ne c1, del_ne c2, upd_ne c2, upd_ne c1, upd_ne c2]
    exact z
end

/-! ### an error without a field -/
def spErr0 (C : Addr) : Sp := fun vs H Q _ => match vs with
  | [.ref a] => H a = some (exo a C none) ∧ Q .non H
  | _ => False
structure ErrC0 (P : Program) (w : World) (K : PySem.W.Frag) (mg : Str → Option Value) (base : Heap) (x : Str) (C : Addr) : Prop where
  ox : OexC K C
  g : mg x = some (.ref C)
  it : ∃ fI fd, PySem.W.findIn K (.ref C) "__init__" = some (some (.ref fI)) ∧ PySem.W.typeIn K (.ref fI) = some (.type "function") ∧ FnOk P w K mg base CX0 1 fI fd ["self"] (spErr0 C) ∧ Binds K fd ["self"] []
section
variable {X : Cx} {C : Addr} {x : Str} {p pos pos2 : Pos} {W : WX}
/-- the exception at a is let go: without a dict -/
theorem let_go {pins : List (Addr × Obj)} {σ : L2.St} {H1 H2 : Hp} {hp hp2 h2 : Heap} {g1 g2 : Array GenState} {d1 d2 : Drawn} {t1 t2 : Nat} {os1 os2 : OsState} {a : Addr} (I1 : Inv X pins σ H1 ⟨hp, g1, d1, t1, os1⟩)
    (ha : hp.objs.size ≤ a) (k : ∀ b o, hp.get? b = some o → hp2.get? b = some o) (un : Un (frs X.stack) [] (upd H1 a (exo a C none)) H2 hp2 h2) (hok : HOk X.prog X.w H2 h2) (ho : os2 = os1) (hb : AllBare g2) (ea : H2 a = some (exo a C none)) :
    ∃ (t0 : Addr) (G : Heap), Inv X pins σ (del H2 a) ⟨G, g2, d2, t2, os2⟩ ∧ (∀ b o, G.get? b = some o → h2.get? b = some o) ∧ G.get? a = none ∧ h2.get? a = some ({ cls := .ref C, dict := none, data := .fields #[.ref t0, .none, .none, .none, .bool false, .none] } : Obj) := by
  obtain ⟨t0, hoe⟩ := exo_at hok ea
  have hn : H1 a = none := I1.hok.fresh ha
  obtain ⟨G, gk', ge'⟩ := restrict h2 fun b => decide (b ≠ a)
  have gk : ∀ b, b ≠ a → G.get? b = h2.get? b := fun b h => gk' b (decide_eq_true h)
  have ge : G.get? a = none := ge' a (by simp)
  have na : ∀ {b : Addr} {o : Obj}, hp.get? b = some o → b ≠ a := fun {b o} z => Nat.ne_of_lt (Nat.lt_of_lt_of_le (Heap.lt_size z) ha)
  have up1 : ∀ {b : Addr}, b ≠ a → H1 b = none → upd H1 a (exo a C none) b = none := fun {b} h n => by rw [upd_ne h]; exact n
  have up2 : ∀ {b : Addr} {o : HO}, H1 b = some o → upd H1 a (exo a C none) b = some o := fun {b o} z => by rw [upd_ne (ne_of_none z hn)]; exact z
  have U : Un (frs X.stack) [] H1 (del H2 a) hp G := by
    refine ⟨fun b o z n hf hx => ?_, fun b o z n hf hx => ?_, fun b o z n hx => ?_, fun b o z hx => ?_, fun b xs z => ?_, fun b o v z => ?_, fun b ps z => ?_⟩
    · rw [gk b (na z)]; exact un.keep b o (k b o z) (up1 (na z) n) hf hx
    · rw [gk b (na z)]; exact un.slot b o (k b o z) (up1 (na z) n) hf hx
    · rw [del_ne (na z)]; exact un.free b o (k b o z) (up1 (na z) n) hx
    · rw [gk b (na z)]; exact un.there b o (k b o z) hx
    · rw [del_ne (ne_of_none z hn)]; exact un.tups b xs (up2 z)
    · rw [del_ne (ne_of_none z hn)]; exact un.frzs b o v (up2 z)
    · rw [del_ne (ne_of_none z hn)]; exact un.tbls b ps (up2 z)
  have hok3 : HOk X.prog X.w (del H2 a) G := fun b o z => by
    have hba : b ≠ a := fun e => by rw [e, del_same] at z; exact nomatch z
    rw [del_ne hba] at z
    have noa : ∀ {c : Addr}, H2 c = some (.own b) → c ≠ a := fun {c} hc => at_ne ea hc exo_own
    refine (hok b o z).stay (fun c v hc y => ?_) (fun c hc => by rw [del_ne (noa hc)]; exact hc) fun c xs hc => by rw [del_ne (at_ne ea hc exo_tup)]; exact hc
    have hca : c ≠ a := hc.elim (fun e => e ▸ hba) noa
    rw [gk c hca]
    exact y
  refine ⟨t0, G, I1.call' (ch := []) ho U hok3 hb (fun b z => absurd z (by simp)), fun b o z => ?_, ge, hoe⟩
  by_cases hba : b = a
  · rw [hba, ge] at z; exact nomatch z
  · exact (gk b hba).symm.trans z
theorem pmk_err0 (T : ErrC0 X.prog X.w X.K X.mg X.base x C) (hr : Room 2 X.A) (hg : Gl X x) (hdb : (x == ("__debug__" : Str)) = false := by decide) : PMk X (.Call (.Name x p) [] [] pos) (fun σ H Q => ∀ H2, Same H H2 → Q (.ref C) none H2) := by
  intro pins s σ H Q I h
  obtain ⟨fI, fd, iC, tI, F1, hb⟩ := T.it
  obtain ⟨nm, q, N, bs, bm, sn, sub, ab, col, dd, k0, k1, k2, k3, k5, hC, hbm⟩ := T.ox.cls
  refine wpAny_Call_Name_kw (ld_glob I hg T.g ?_ hdb)
  refine PySem.W.callWith_K0 I.kIn T.ox.kC ?_
  obtain ⟨hp, g, dr, tk, os⟩ := s
  have hsz : hp.objs.size ≤ hp.objs.size + 1 := Nat.le_succ _
  have kk : ∀ b o, hp.get? b = some o → ((hp.push (PySem.W.kdv_tup [])).push (PySem.HandSPX.excO C hp.objs.size)).get? b = some o := fun b o e => Heap.get?_push_of_some _ (Heap.get?_push_of_some _ e)
  have hget : ((hp.push (PySem.W.kdv_tup [])).push (PySem.HandSPX.excO C hp.objs.size)).get? (hp.objs.size + 1) = some (PySem.HandSPX.excO C hp.objs.size) := by heap_get
  have hn : H (hp.objs.size + 1) = none := I.hok.fresh hsz
  have I2 : Inv X pins σ (upd H (hp.objs.size + 1) (exo (hp.objs.size + 1) C none)) ⟨(hp.push (PySem.W.kdv_tup [])).push (PySem.HandSPX.excO C hp.objs.size), g, dr, tk, os⟩ :=
    I.laid (t' := tk) (a := hp.objs.size + 1) (o := exo (hp.objs.size + 1) C none) (h' := (hp.push (PySem.W.kdv_tup [])).push (PySem.HandSPX.excO C hp.objs.size)) kk hsz (exo_ok hget)
  have hsp : spErr0 C [.ref (hp.objs.size + 1)] (upd H (hp.objs.size + 1) (exo (hp.objs.size + 1) C none)) (fun v H2 => v = .non ∧ H2 = upd H (hp.objs.size + 1) (exo (hp.objs.size + 1) C none)) (fun _ _ _ => False) := ⟨upd_same, rfl, rfl⟩
  have hbt : BindsTo ⟨(hp.push (PySem.W.kdv_tup [])).push (PySem.HandSPX.excO C hp.objs.size), g, dr, tk, os⟩ fd ⟨[.ref (hp.objs.size + 1)], []⟩ ((["self"] : List Str).zip [.ref (hp.objs.size + 1)]) := hb _ [.ref (hp.objs.size + 1)] I2.kIn rfl
  show wpAny _ _ (call (.ref C) []) _ _ _
  refine wpAny_call (PySem.HandSPX.call_own F.excBase_ValueError (fun Y => PySem.HandSPX.refsVE_contains Y bm hbm) (I.kIn _ _ hC) (PySem.W.looks_findIn I.kIn iC) (fun self => PySem.W.bind_fn I.kIn self tI) (by rw [sizeLine_eq]; exact Nat.zero_le _)
    (codeAny_mono (F1.run _ X.stack _ _ ⟨[.ref (hp.objs.size + 1)], []⟩ [.ref (hp.objs.size + 1)] [.ref (hp.objs.size + 1)] _ (fun _ _ _ => False) (hr.make C [] []) (I2.env0.make C [] []) hbt (.cons rfl .nil) hsp) fun r s' hq => ?_))
  match r, hq with
  | .error er, hq => exact hq.elim
  | .ok .next, hq => exact hq.elim
  | .ok .brk, hq => exact hq.elim
  | .ok .cont, hq => exact hq.elim
  | .ok (.ret u), ⟨v, H2, os2, bare2, un2, hok2, rv, ev, eH⟩ =>
    subst ev
    subst eH
    obtain ⟨h2, g2, d2, t2, os'⟩ := s'
    obtain ⟨t0, G, J, kG, ge, hoe⟩ := let_go (d2 := d2) (t2 := t2) I hsz kk un2 hok2 os2 bare2 upd_same
    refine ⟨rv, hp.objs.size + 1, _, _, ⟨G, g2, d2, t2, os'⟩, _, .ref C, none, rfl, J, kG, ge, hoe, ⟨rfl, rfl⟩, rfl, rfl, del_same, rfl, bare2, raises_own T.ox.exC T.ox.tyC, h _ fun b o z => ?_⟩
    rw [del_ne (ne_of_none z hn), upd_ne (ne_of_none z hn)]
    exact z
def cRaise0 (C : Addr) (W : WX) : TS := fun _ σ H => ∀ H2, Same H H2 → W (.ref C) none σ H2
theorem ps_raise0 (T : ErrC0 X.prog X.w X.K X.mg X.base x C) (hc : X.calm = true) (hr : Room 2 X.A) (tk : Takes X W) (hg : Gl X x := by rfl) (hdb : (x == ("__debug__" : Str)) = false := by decide) :
    PS X (.Raise (some (.Call (.Name x p) [] [] pos)) none pos2) (cRaise0 C W) := ps_raise hc tk (pmk_err0 T hr hg hdb)
end
end CL

set_option Elab.async false
set_option linter.all false
set_option maxRecDepth 100000
set_option maxHeartbeats 2000000
/-! ExcV: a caught error of an own class: of which built-in class it is. -/
namespace CL
open PySem PySem.Spec PyProof.Rows L2
section
open PySem.W PySem.Calls
theorem exc_yes {K : Frag} {x D : Addr} {ox : Obj} {od : Option Obj} {T : String} (hs : subIn K (.ref D) (.type T) = some true) (hm : kitMeta T = true) : Answers (fun s => K.In s.heap ∧ InstAt s.heap x ox D od) (.ref x) (.type T) true := by
  intro dep tk prog w A R s hx
  obtain ⟨hp, gs, dr, n, os⟩ := s
  obtain ⟨⟨KX, J⟩, hq⟩ := hx
  have seen : Looks (model prog w) hp (typeOf (.ref x)) (.ref D) := J.type
  have kind : Looks (model prog w) hp (typeOf (.type T)) (.type "type") := Looks.of_pure (kitMeta_of hm)
  have ofT : Looks (model prog w) hp (isType (.type T)) true := Looks.of_pure rfl
  have inst : Looks (model prog w) hp (isInstance (.ref x) (.type T)) true := seen.andThen (looks_subIn KX hs)
  unfold Builtin.«isinstance.nested»
  refine wpAny_bind (seen.at ?_)
  rw [if_neg (show ¬ (Value.ref D == Value.type T) = true from fun z => nomatch beq_iff_eq.mp z)]
  refine wpAny_bind (kind.at ?_)
  rw [if_pos (by decide)]
  k_delta "plainIsInstance"
  refine wpAny_bind (wpAny_bind (ofT.at ?_))
  simp only [Bool.not_true, Bool.false_eq_true, if_false]
  refine wpAny_bind (inst.at ?_)
  simp only [if_true]
  first | exact wpAny_pure (wpAny_pure (hq n)) | exact wpAny_pure (hq n) | exact wpAny_bind (wpAny_pure (wpAny_pure (hq n)))
theorem exc_isi {K : Frag} {x D : Addr} {ox : Obj} {od : Option Obj} {T : String} {prog : Program} {w : World} {A : Around} {E : Value → Shared → Prop} {s : Shared} {Q : Value → Shared → Prop} (hs : subIn K (.ref D) (.type T) = some true) (hm : kitMeta T = true)
    (KX : K.In s.heap) (J : InstAt s.heap x ox D od) (h : ∀ tk, Q (.bool true) { s with toks := tk }) : wpAny (model prog w) A (call (.builtin "isinstance") [.ref x, .type T]) Q E s :=
  call_isinstance (S := fun _ R s => (K.In s.heap ∧ InstAt s.heap x ox D od) ∧ ∀ tk, R (.ok (.ret (.bool true))) { s with toks := tk })
    (fun prog w A R s z => isinstance_outer (exc_yes hs hm 0 _ prog w A R s z) (fun z => nomatch z)) ⟨⟨KX, J⟩, h⟩
end
section
variable {X : Cx} {a D : Addr} {oe : Obj} {cls : Value} {d : Option Addr} {pn : List (Addr × Obj)} {e : Expr} {te : TE} {p q pos : Pos}
/-- isinstance(e, T): the caught error at a is one -/
def cIsE (a : Addr) (cls : Value) (d : Option Addr) (K : PySem.W.Frag) (T : String) (te : TE) : TE := fun σ H Q => te σ H fun x H1 => x = .ref a ∧ (∃ D, cls = .ref D ∧ PySem.W.subIn K (.ref D) (.type T) = some true) ∧ (d = none ∨ ∃ dd fs, d = some dd ∧ H1 dd = some (.xd fs)) ∧ Q (.bl true) H1
theorem c_isE {T : String} (hm : PySem.W.kitMeta T = true) (hz : Zc cls d oe) (hf : ∃ vs, oe.data = .fields vs) : CallR (X.suite a ((a, oe) :: pn)) (.builtin "isinstance")
    (fun xs H Q => xs = [.ref a, .ty T] ∧ (∃ D, cls = .ref D ∧ PySem.W.subIn X.K (.ref D) (.type T) = some true) ∧ (d = none ∨ ∃ dd fs, d = some dd ∧ H dd = some (.xd fs)) ∧ Q (.bl true) H) := by
  intro pins s σ H xs us Q I r h
  obtain ⟨rfl, ⟨D, rfl, hs⟩, hd, k⟩ := h
  cases r with
  | cons rx rr =>
    cases rr with
    | cons rt rr =>
      cases rr
      cases rx
      cases rt
      obtain ⟨at_, _⟩ := I.pin (a, oe) (List.mem_append.mpr (.inl List.mem_cons_self))
      obtain ⟨vs, hv⟩ := hf
      have nc : PySem.W.notCls oe = true := by unfold PySem.W.notCls; rw [hv] <;> rfl
      have go : ∀ od, PySem.W.InstAt s.heap a oe D od → wpAny (model X.prog X.w) (X.suite a ((a, oe) :: pn)).A (call (.builtin "isinstance") [.ref a, .type T]) (EP (X.suite a ((a, oe) :: pn)) pins σ Q) (X.suite a ((a, oe) :: pn)).xe s := fun od J =>
        exc_isi hs hm I.kIn J fun tk => ⟨.bl true, H, I.kept (t' := tk) fun _ _ z => z, rfl, k⟩
      rcases hd with rfl | ⟨dd, fs, rfl, hx⟩
      · exact go none ⟨at_, hz.1, nc, by rw [hz.2]; trivial⟩
      · obtain ⟨mA, hns, _⟩ := (show ObjOk X.prog X.w H s.heap dd (.xd fs) from I.hok dd _ hx)
        obtain ⟨od, ho, _⟩ := lookIn_ns hns
        exact go (some od) ⟨at_, hz.1, nc, by rw [hz.2]; exact ho⟩
theorem pe_isE {T : Str} {T' : String} (hT : bootBuiltins T = some (.type T')) (hm : PySem.W.kitMeta T' = true) (hz : Zc cls d oe) (hf : ∃ vs, oe.data = .fields vs) (hmI : X.mg "isinstance" = none) (hmT : X.mg T = none) (hgI : Gl X "isinstance") (hgT : Gl X T)
    (he : PE (X.suite a ((a, oe) :: pn)) e te) (hn : T ≠ "__name__" := by decide) (hdb : (T == ("__debug__" : Str)) = false := by decide)
    (h1 : starEach [e, .Name T q] X.env = (false, eval e X.env) :: starEach [.Name T q] X.env := by rfl) (h2 : (backTo pos (starEach [.Name T q] X.env)).any (·.1) = false := by rfl)
    (h3 : starEach [.Name T q] X.env = (false, eval (.Name T q) X.env) :: starEach [] X.env := by rfl) :
    PE (X.suite a ((a, oe) :: pn)) (.Call (.Name "isinstance" p) [e, .Name T q] [] pos) (cIsE a cls d X.K T' te) := by
  refine PE_imp (pe_callB (X := X.suite a ((a, oe) :: pn)) (c_isE hm hz hf) hgI hmI (by decide +kernel) (pa_cons (PE_up he) (pa_cons (pe_bltn (v := .ty T') hgT hmT hT rfl hn hdb) pa_nil h3) h1) (by decide) (by decide) h1 h2) fun σ H Q h => ⟨_, h, fun x H1 q => ?_⟩
  obtain ⟨rfl, hc, hd, k⟩ := q
  exact ⟨rfl, hc, hd, k⟩
end
end CL

set_option Elab.async false
set_option linter.all false
set_option maxRecDepth 100000
set_option maxHeartbeats 2000000
/-! TryAs: several clauses, each «except C as n». -/
namespace CL
open PySem PySem.Spec PyProof.Rows L2

/-- the exception at a has come down in this frame -/
def Down (X : Cx) (pins : List (Addr × Obj)) (σ : L2.St) (H : Hp) (a : Addr) (cls : Value) (d : Option Addr) (s : Shared) : Prop :=
  ∃ (B : Heap) (sI : Shared), Inv X pins σ H sI ∧ (∀ b o, sI.heap.get? b = some o → b ∉ frs X.stack → B.get? b = some o) ∧ sI.heap.UpToSlots s.heap ∧
    HandSPX.FlyingZ B (X.env :: X.outer) a (Zc cls d) s.heap ∧ H a = none ∧ s.os = sI.os ∧ AllBare s.gens
section
variable {X : Cx} {pins : List (Addr × Obj)} {σ : L2.St} {H : Hp} {a : Addr} {cls : Value} {d : Option Addr} {s : Shared} {Wout : WX} {D : Ends}
theorem Down.inv (h : Down X pins σ H a cls d s) : Inv X pins σ H s := by
  obtain ⟨B, sI, I, nb, up, fl, _, os, ag⟩ := h
  exact I.landed nb fl.1 up os ag
theorem Down.again {Q : Unit → Shared → Prop} {A : Around} {E : Value → Shared → Prop} (h : Down X pins σ H a cls d s) (k : ∀ s', Down X pins σ H a cls d s' → Q () s') : wpAny (model X.prog X.w) A (setFlight (.ref a) none) Q E s := by
  obtain ⟨B, sI, I, nb, up, fl, na, os, ag⟩ := h
  exact HandSPX.lands_againZ fl fun h' fl' up' => k _ ⟨B, sI, I, nb, up.trans up', fl', na, os, ag⟩
/-- the exception's object, pinned while a clause's suite runs -/
theorem Down.pinned (h : Down X pins σ H a cls d s) (hf : X.env.frame = some X.env.locals) : ∃ oe, s.heap.get? a = some oe ∧ Zc cls d oe ∧ (∃ vs, oe.data = .fields vs) ∧ Inv (X.suite a ((a, oe) :: (X.pn ++ pins))) [] σ H s := by
  have J := h.inv
  obtain ⟨B, sI, I, nb, up, fl, na, os, ag⟩ := h
  obtain ⟨oe, vs, at_, zc, dv⟩ := fl.there
  have out : a ∉ frs (X.env :: X.outer) := fun hm => by
    obtain ⟨_, o2, e2, none2⟩ := Heap.FunFrames.mem fl.2.2.1 hm
    cases at_.symm.trans e2
    exact none2 _ dv
  refine ⟨oe, at_, zc, ⟨vs, dv⟩, J.suite at_ dv na (fun z => out (List.mem_filterMap.mpr ⟨X.env, List.mem_cons_self, hf.trans (congrArg some z.symm)⟩)) fun hm => ?_⟩
  obtain ⟨e, he, q⟩ := List.mem_filterMap.mp hm
  exact out (List.mem_filterMap.mpr ⟨e, List.mem_cons_of_mem _ he, q⟩)
/-- no clause is left: it flies on -/
theorem Down.out (h : Down X pins σ H a cls d s) (hs : X.stack = X.env :: X.outer) (hf : X.env.frame = some X.env.locals) (tk : Takes X Wout) (w : Wout cls d σ H) : wpAny (model X.prog X.w) X.A (handleBy (.ref a) X.env []) (SP X pins D) X.xe s := by
  obtain ⟨B, sI, I, nb, up, fl, na, os, ag⟩ := h
  have go : wpAny (model X.prog X.w) X.A (setFlight (.ref a) X.env.frame) (fun _ s4 => wpAny (model X.prog X.w) X.A (throw (.ref a) : Sem Flow) (SP X pins D) X.xe s4) X.xe s := by
    rw [hf]
    exact HandSPX.setFlight_upZ fl fun h4 held up4 => wpAny_throw (tk _ _ ⟨a, B, sI, pins, σ, H, cls, d, rfl, I, nb, up.trans up4, .inr (.inr (by rw [hs]; exact held)), na, os, ag, w⟩)
  obtain ⟨_, _, _, oe, vs, T, oT, ts, e1, _, e3, e4, _⟩ := fl
  refine wpAny_handleBy_nil ?_
  unfold PySem.passOn
  refine wpAny_bind (wpAny_field e1 e3 e4 ?_)
  rw [if_neg (show ¬ ((Value.ref T == Value.none) = true) by simp)]
  first | exact wpAny_bind (wpAny_pure (wpAny_bind go)) | exact wpAny_bind go
end
/-- what is wished of the ends of a clause: its name goes -/
abbrev offEnds (i : Nat) (D : Ends) : Ends := { nx := fun σ H => D.nx (σ.set i none) H, rt := D.rt, bk := fun σ H => D.bk (σ.set i none) H, ct := fun σ H => D.ct (σ.set i none) H }
/-- what the clauses wish of an exception, from the first on; i: the slot of a clause's name -/
def wAsMany (K : PySem.W.Frag) (i : Nat) (Wout : WX) (D : Ends) : List (Value × (Addr → Value → Option Addr → TS)) → WX
  | [] => Wout
  | (c, ts) :: r => fun cls d σ H => ∃ b, PySem.W.exmOne K cls c = some b ∧ (b = true → ∀ a, H a = none → ts a cls d (offEnds i D) (σ.set i (some (.ref a))) H) ∧ (b = false → wAsMany K i Wout D r cls d σ H)
inductive AsOk (X : Cx) (n : Str) : List ExceptHandler → List (Value × (Addr → Value → Option Addr → TS)) → Prop
  | nil : AsOk X n [] []
  | cons {x : Str} {c : Value} {ts : Addr → Value → Option Addr → TS} {st : Stmt} {suite : List Stmt} {np pos : Pos} {hds : List ExceptHandler} {l : List (Value × (Addr → Value → Option Addr → TS))} (hc : Names X x c)
      (hsu : ∀ (a : Addr) (oe : Obj) (cls : Value) (d : Option Addr) (pn : List (Addr × Obj)), Zc cls d oe → (∃ vs, oe.data = .fields vs) → PSs (X.suite a ((a, oe) :: pn)) (st :: suite) (ts a cls d)) (r : AsOk X n hds l) :
      AsOk X n (.ExceptHandler (some (.Name x np)) (some n) (st :: suite) pos :: hds) ((c, ts) :: l)
section
variable {X : Cx} {pins : List (Addr × Obj)} {σ : L2.St} {H : Hp} {a : Addr} {cls : Value} {d : Option Addr} {s : Shared} {Wout : WX} {D : Ends} {n : Str} {i : Nat}
theorem asks {x : Str} {c : Value} {np : Pos} {Q : Value → Shared → Prop} {E : Value → Shared → Prop} {a : Addr} {pn : List (Addr × Obj)} (hc : Names X x c) (S : Inv (X.suite a pn) [] σ H s) (q : Q c s) :
    wpAny (model X.prog X.w) (X.A.mark (some (.ref a))) (eval (.Name x np) X.env) Q E s := by
  obtain ⟨hg, hdb, hm | ⟨hm, hv, hn⟩⟩ := hc
  · exact ld_glob (X := X.suite a pn) S hg hm q hdb
  · exact ld_blt (X := X.suite a pn) S hg hm hv q hn hdb
theorem handled (hs : X.stack = X.env :: X.outer) (hf : X.env.frame = some X.env.locals) (hN : X.N.Nodup) (hi : X.N[i]? = some n) (hln : X.env.kindOf n = some .local) (tk : Takes X Wout) {hds : List ExceptHandler} {l : List (Value × (Addr → Value → Option Addr → TS))} (ok : AsOk X n hds l) :
    ∀ {s : Shared}, Down X pins σ H a cls d s → wAsMany X.K i Wout D l cls d σ H → wpAny (model X.prog X.w) X.A (handleBy (.ref a) X.env hds) (SP X pins D) X.xe s := by
  induction ok with
  | nil => exact fun L w => L.out hs hf tk w
  | @cons x c ts st suite np pos hds l hc hsu r ih =>
    intro s L w
    obtain ⟨b, hb, yes, no⟩ := w
    have J := L.inv
    obtain ⟨oe, at_, zc, dv, S⟩ := L.pinned hf
    have kind : PySem.W.Looks (model X.prog X.w) s.heap (typeOf (.ref a)) cls := fun A Q E s' k q => wpAny_typeOf_ref (k _ _ at_) (by rw [zc.1]; exact q)
    refine wpAny_handleBy_cons (codeAny_handlers_test (asks hc S ((PySem.W.exm_one (M := model X.prog X.w) J.kIn kind hb).here ?_))) (fun q => nomatch q)
    cases b with
    | false => exact ih L (no rfl)
    | true =>
      refine codeAny_handlers_suite_as (L.again fun s2 M => ?_)
      obtain ⟨oe2, at2, zc2, dv2, S2⟩ := M.pinned hf
      have na : H a = none := by obtain ⟨_, _, _, _, _, _, na, _⟩ := M; exact na
      refine store_ok (X := X.suite a ((a, oe2) :: (X.pn ++ pins))) (v := .ref a) S2 hN hi (.inl hln) rfl (fun s3 S3 => ?_) (.inr hln)
      have gone : ∀ {σ4 : L2.St} {H4 : Hp} {s4 : Shared} {R : Shared → Prop}, Inv (X.suite a ((a, oe2) :: (X.pn ++ pins))) [] σ4 H4 s4 → (∀ s5, Inv X pins (σ4.set i none) H4 s5 → R s5) →
          wpAny (model X.prog X.w) X.A (do bindName X.env n .none; unbindBehindTheSuite X.env n pos) (fun _ s5 => R s5) X.xe s4 := fun S4 k => gone_ok (S4.unsuite J.ok) hN hi hln k
      refine wpAny_mono ((hsu a oe2 cls d (X.pn ++ pins) zc2 dv2).run [] s3 _ H _ S3 (yes rfl a na)) (fun f s4 e => ?_) fun _ _ z => z.elim
      cases f with
      | ret u => obtain ⟨v, σ4, H4, S4, rv, q⟩ := e; exact gone S4 fun s5 J5 => ⟨v, _, _, J5, rv, q⟩
      | next => obtain ⟨σ4, H4, S4, q⟩ := e; exact gone S4 fun s5 J5 => ⟨_, _, J5, q⟩
      | brk => obtain ⟨σ4, H4, S4, q⟩ := e; exact gone S4 fun s5 J5 => ⟨_, _, J5, q⟩
      | cont => obtain ⟨σ4, H4, S4, q⟩ := e; exact gone S4 fun s5 J5 => ⟨_, _, J5, q⟩
/-- try: .. except C as n: .. except C' as n: .. -/
theorem ps_try_as_many {body : List Stmt} {h₀ : ExceptHandler} {hds : List ExceptHandler} {l : List (Value × (Addr → Value → Option Addr → TS))} {pos : Pos} {tb : WX → TS} (hs : X.stack = X.env :: X.outer) (hf : X.env.frame = some X.env.locals) (hN : X.N.Nodup) (hi : X.N[i]? = some n) (hln : X.env.kindOf n = some .local) (tk : Takes X Wout)
    (hb : ∀ (W : WX) (pn : List (Addr × Obj)) (xe : Value → Shared → Prop), Takes (X.tr pn xe) W → PassesOwn (model X.prog X.w) X.A X.env xe → PSs (X.tr pn xe) body (tb W)) (ok : AsOk X n (h₀ :: hds) l) :
    PS X (.Try body (h₀ :: hds) [] [] pos) (fun D σ H => tb (wAsMany X.K i Wout D l) D σ H) := by
  refine ⟨fun pins s σ H D I h => ?_⟩
  have xok := I.ok
  refine wpAny_Try_except ?_
  let xe : Value → Shared → Prop := fun e s₁ => wpAny (model X.prog X.w) X.A (noteFrame e X.env) (fun _ s₂ => wpAny (model X.prog X.w) X.A (setFlight e none) (fun _ s₃ => wpAny (model X.prog X.w) X.A (handleBy e X.env (h₀ :: hds)) (SP X pins D) X.xe s₃) X.xe s₂) X.xe s₁
  have tx : Takes (X.tr (X.pn ++ pins) xe) (wAsMany X.K i Wout D l) := fun u s2 x => by
    obtain ⟨a, B, sI, _, σ2, H2, cls, d, rfl, J, nb, up, sky, na, os, ag, w⟩ := x
    have sky2 : Sky B (X.env :: X.outer) a (Zc cls d) X.env.locals s2.heap := hs ▸ sky
    exact Sky.land Zc.steady (xok.frames.trans (congrArg some hs)) hf sky2 fun h3 fl up3 =>
      handled hs hf hN hi hln tk ok (s := { s2 with heap := h3 }) ⟨B, sI, J.ofTry xok, nb, up.trans up3, fl, na, os, ag⟩ w
  refine wpAny_mono ((hb _ (X.pn ++ pins) xe tx PassesOwn.looking).run [] s σ H D (I.toTry _) h) (fun f s1 e => ?_) fun _ _ z => z
  cases f with
  | next => obtain ⟨σ2, H2, J, q⟩ := e; exact wpAny_execs_nil ⟨σ2, H2, J.ofTry xok, q⟩
  | ret u => obtain ⟨v, σ2, H2, J, rv, q⟩ := e; exact ⟨v, σ2, H2, J.ofTry xok, rv, q⟩
  | brk => obtain ⟨σ2, H2, J, q⟩ := e; exact ⟨σ2, H2, J.ofTry xok, q⟩
  | cont => obtain ⟨σ2, H2, J, q⟩ := e; exact ⟨σ2, H2, J.ofTry xok, q⟩
end
end CL

set_option Elab.async false
set_option linter.all false
set_option maxRecDepth 100000
set_option maxHeartbeats 2000000
/-! Val: values of built-in kinds that stay what they are while numbers are drawn. -/
namespace CL
open PySem PySem.Spec PyProof.Rows L2

theorem strOk_text (s : String) : PyData.strOk (Str.ofString s) = true := by
  rw [Str.ofString_eq_toList]
  unfold PyData.strOk
  rw [Array.all_eq_true']
  intro n hn
  simp only [List.mem_toArray, List.mem_map] at hn
  obtain ⟨ch, _, rfl⟩ := hn
  have := ch.valid
  simp only [decide_eq_true_eq]
  unfold UInt32.isValidChar Nat.isValidChar at this
  show ch.val.toNat < _
  omega
theorem natAbs_log {i : Int} (h : i.natAbs ≤ 10 ^ 95) : i.natAbs.log2 < 1920 := by
  by_cases h0 : i.natAbs = 0
  · rw [h0]; decide
  · rw [Nat.log2_lt h0]
    exact Nat.lt_of_le_of_lt h (by decide +kernel)
theorem fit_int {i : Int} (h : i.natAbs ≤ 10 ^ 95) : Fit (.int i) := by
  have h1 := natAbs_log h
  refine ⟨by simp [PyData.showable, h1], fun z => by simp [PyData.hasDict] at z, by simp [PyData.depth], ?_, ?_⟩
  · have := int_text_len_1921 h1
    simp only [PyData.leavesShort, decide_eq_true_eq]
    show (Str.ofString (toString i)).length ≤ 1930
    omega
  · unfold PyData.weight
    split <;> omega
theorem Same.tq {K : PySem.W.Frag} {H H' : Hp} {a : Addr} {xs : List V} (s : Same H H') (h : SqT K H a xs) : SqT K H' a xs := by
  rcases h with (h | ⟨o, h⟩) | h
  · exact .inl (.inl (s a _ h))
  · exact .inl (.inr ⟨o, s a _ h⟩)
  · exact .inr h
mutual
theorem Dq.same {K : PySem.W.Frag} {H H' : Hp} (s : Same H H') : ∀ {v : V} {d : PyData}, Dq K H v d → Dq K H' v d
  | _, _, .non => .non
  | _, _, .bl b => .bl b
  | _, _, .int i => .int i
  | _, _, .str x => .str x
  | _, _, .lst h a => .lst (s.seq h) (DqA.same s a)
  | _, _, .tup h a => .tup (Same.tq s h) (DqA.same s a)
  | _, _, .dic h a b => .dic (s _ _ h) (DqA.same s a) (DqA.same s b)
theorem DqA.same {K : PySem.W.Frag} {H H' : Hp} (s : Same H H') : ∀ {v : List V} {d : List PyData}, DqA K H v d → DqA K H' v d
  | _, _, .nil => .nil
  | _, _, .cons a b => .cons (Dq.same s a) (DqA.same s b)
end
theorem BK.same {K : PySem.W.Frag} {H H' : Hp} {v : V} {k : BT} (s : Same H H') (h : BK K H v k) : BK K H' v k := by
  cases h with
  | non => exact .non
  | bl b => exact .bl b
  | int i => exact .int i
  | str x => exact .str x
  | lst h => exact .lst (s.seq h)
  | tup h => exact .tup (Same.tq s h)
  | dic h => exact .dic (s _ _ h)
/-- all but what M tells and the tables of code is as it was -/
def BN (M : Addr → Prop) (H H' : Hp) : Prop := ∀ b o, ¬ M b → H b = some o → (∀ ps, o ≠ .tbl ps) → H' b = some o
theorem BN.refl {M : Addr → Prop} {H : Hp} : BN M H H := fun _ _ _ h _ => h
theorem BN.trans {M : Addr → Prop} {H H1 H2 : Hp} (a : BN M H H1) (b : BN M H1 H2) : BN M H H2 := fun x o n h t => b x o n (a x o n h t) t
theorem BN.of {M : Addr → Prop} {H H' : Hp} (s : Same H H') : BN M H H' := fun b o _ h _ => s b o h
theorem BN.but {M : Addr → Prop} {p : Addr} {H H' : Hp} (m : M p) (s : But p H H') : BN M H H' := fun b o n h _ => s.keep b o (fun e => n (e ▸ m)) h
theorem BN.ext {M : Addr → Prop} {H H' : Hp} (s : LamX.ExtN H H') : BN M H H' := fun b o _ h t => s b o h t
theorem BN.upd {M : Addr → Prop} {p : Addr} {H : Hp} {o : HO} (m : M p) : BN M H (upd H p o) := fun b u n h _ => by
  have nb : b ≠ p := fun e => n (by rw [e]; exact m)
  rw [upd_ne nb]; exact h
/-- what may be altered stands already -/
def MOk (M : Addr → Prop) (H : Hp) : Prop := ∀ b, M b → H b ≠ none
theorem MOk.same {M : Addr → Prop} {H H' : Hp} (h : MOk M H) (s : Same H H') : MOk M H' := fun b m z => by
  cases e : H b with
  | none => exact h b m e
  | some o => rw [s b o e] at z; exact nomatch z
theorem MOk.new {M : Addr → Prop} {H : Hp} {a : Addr} (h : MOk M H) (n : H a = none) : ¬ M a := fun m => h a m n
theorem PenB.ext {p : Addr} {H H' : Hp} {k : Nat} (h : PenB H p k) (s : LamX.ExtN H H') : PenB H' p k := by
  obtain ⟨c, ns, b, r, P, q⟩ := h
  exact ⟨c, ns, b, r, ⟨s _ _ P.dict (fun _ z => nomatch z), s _ _ P.cells (fun _ z => nomatch z), P.len, P.b0, P.r0⟩, q⟩
theorem tabs_but {T : List (Addr × Str)} {p : Addr} {H H' : Hp} {k : Nat} (h : LamX.Tabs T H) (P : PenB H p k) (s : But p H H') : LamX.Tabs T H' := fun q hq => by
  obtain ⟨ps, h1, h2, h3⟩ := h q hq
  have np : ∀ {a : Addr} {o : HO}, H a = some o → (∀ kvs, o ≠ .dK kvs) → a ≠ p := fun {a o} e n => P.ne e n
  refine ⟨ps, s.keep _ _ (np h1 fun _ z => nomatch z) h1, h2, fun pos cv hc => ?_⟩
  obtain ⟨c, e1, e2⟩ := h3 pos cv hc
  exact ⟨c, e1, s.keep _ _ (np e2 fun _ z => nomatch z) e2⟩
theorem tabs_same {T : List (Addr × Str)} {H H' : Hp} (h : LamX.Tabs T H) (s : Same H H') : LamX.Tabs T H' := h.ext s
/-- v stands for the datum d, whatever the pen at p does -/
def Sv (K : PySem.W.Frag) (M : Addr → Prop) (H : Hp) (v : V) (d : PyData) : Prop := ∀ H', BN M H H' → Dq K H' v d
theorem Sv.bn {K : PySem.W.Frag} {M : Addr → Prop} {H H1 : Hp} {v : V} {d : PyData} (h : Sv K M H v d) (b : BN M H H1) : Sv K M H1 v d := fun H' c => h H' (b.trans c)
theorem Sv.but {K : PySem.W.Frag} {M : Addr → Prop} {p : Addr} {H H1 : Hp} {v : V} {d : PyData} (h : Sv K M H v d) (m : M p) (b : But p H H1) : Sv K M H1 v d := h.bn (.but m b)
theorem Sv.now {K : PySem.W.Frag} {M : Addr → Prop} {H : Hp} {v : V} {d : PyData} (h : Sv K M H v d) : Dq K H v d := h H BN.refl
def SvA (K : PySem.W.Frag) (M : Addr → Prop) (H : Hp) (vs : List V) (ds : List PyData) : Prop := ∀ H', BN M H H' → DqA K H' vs ds
theorem SvA.nil {K : PySem.W.Frag} {M : Addr → Prop} {H : Hp} : SvA K M H [] [] := fun _ _ => .nil
theorem SvA.cons {K : PySem.W.Frag} {M : Addr → Prop} {H : Hp} {v : V} {vs : List V} {d : PyData} {ds : List PyData} (a : Sv K M H v d) (b : SvA K M H vs ds) : SvA K M H (v :: vs) (d :: ds) := fun H' c => .cons (a H' c) (b H' c)
theorem SvA.bn {K : PySem.W.Frag} {M : Addr → Prop} {H H1 : Hp} {v : List V} {d : List PyData} (h : SvA K M H v d) (b : BN M H H1) : SvA K M H1 v d := fun H' c => h H' (b.trans c)
section
variable {K : PySem.W.Frag} {M : Addr → Prop} {a : Addr} {H : Hp} {vs : List V} {ds : List PyData}
theorem Sv.non : Sv K M H .non .none := fun _ _ => .non
theorem Sv.bl (b : Bool) : Sv K M H (.bl b) (.bool b) := fun _ _ => .bl b
theorem Sv.int (i : Int) : Sv K M H (.int i) (.int i) := fun _ _ => .int i
theorem Sv.str (x : Str) : Sv K M H (.str x) (.str x) := fun _ _ => .str x
theorem Sv.lst (P : MOk M H) (na : H a = none) (h : SvA K M H vs ds) : Sv K M (upd H a (.lst vs)) (.ref a) (.list ds) := fun H' b => by
  have np : ¬ M a := P.new na
  exact .lst (SqL.of (b a _ np upd_same (fun _ z => nomatch z))) (h H' ((BN.of (same_new na)).trans b))
theorem Sv.tup (P : MOk M H) (na : H a = none) (h : SvA K M H vs ds) : Sv K M (upd H a (.tup vs)) (.ref a) (.tuple ds) := fun H' b => by
  have np : ¬ M a := P.new na
  exact .tup (.inl (.inl (b a _ np upd_same (fun _ z => nomatch z)))) (h H' ((BN.of (same_new na)).trans b))
theorem Sv.dic {kvs : List (Key × V)} {ks : List PyData} (P : MOk M H) (na : H a = none) (h1 : SvA K M H (kvs.map fun p => kV p.1) ks) (h2 : SvA K M H (kvs.map (·.2)) ds) {H1 : Hp} (e : H1 a = some (.dK kvs)) (b1 : BN M H H1) : Sv K M H1 (.ref a) (.dict (ks.zip ds)) := fun H' b => by
  have np : ¬ M a := P.new na
  exact .dic (b a _ np e (fun _ z => nomatch z)) (h1 H' (b1.trans b)) (h2 H' (b1.trans b))
end
/-- a value that may be told -/
def OkV (K : PySem.W.Frag) (M : Addr → Prop) (H : Hp) (v : V) : Prop := ∃ d, Sv K M H v d ∧ Fit d ∧ PyData.strOk d.shown = true
theorem OkV.bn {K : PySem.W.Frag} {M : Addr → Prop} {H H1 : Hp} {v : V} (h : OkV K M H v) (b : BN M H H1) : OkV K M H1 v := by
  obtain ⟨d, s, r⟩ := h
  exact ⟨d, s.bn b, r⟩
theorem OkV.but {K : PySem.W.Frag} {M : Addr → Prop} {p : Addr} {H H1 : Hp} {v : V} (h : OkV K M H v) (m : M p) (b : But p H H1) : OkV K M H1 v := h.bn (.but m b)
theorem OkV.bk {K : PySem.W.Frag} {M : Addr → Prop} {H : Hp} {v : V} (h : OkV K M H v) : ∃ k, BK K H v k := by
  obtain ⟨d, s, r⟩ := h
  exact s.now.bk
theorem OkV.int {K : PySem.W.Frag} {M : Addr → Prop} {H : Hp} {i : Int} (h : i.natAbs ≤ 10 ^ 95) : OkV K M H (.int i) := ⟨_, .int i, fit_int h, strOk_text _⟩
/-- by a look at the datum -/
def fitB (d : PyData) : Bool := d.showable && ((!d.hasDict || listFree d) && (decide (d.depth ≤ 60) && (d.leavesShort 1930 && (decide (d.weight ≤ 8000) && PyData.strOk d.shown))))
theorem fitB_ok {d : PyData} (h : fitB d = true) : Fit d ∧ PyData.strOk d.shown = true := by
  simp only [fitB, Bool.and_eq_true, decide_eq_true_eq] at h
  obtain ⟨h1, h2, h3, h4, h5, h6⟩ := h
  refine ⟨⟨h1, fun z => ?_, h3, h4, h5⟩, h6⟩
  rw [z] at h2
  exact h2
theorem OkV.of {K : PySem.W.Frag} {M : Addr → Prop} {H : Hp} {v : V} {d : PyData} (s : Sv K M H v d) (h : fitB d = true := by decide +kernel) : OkV K M H v := ⟨d, s, fitB_ok h⟩
def AllV (K : PySem.W.Frag) (M : Addr → Prop) (H : Hp) (xs : List V) : Prop := ∀ v ∈ xs, OkV K M H v
section
variable {K : PySem.W.Frag} {M : Addr → Prop} {H H1 : Hp} {v : V} {xs ys : List V}
theorem AllV.nil : AllV K M H [] := fun _ h => nomatch h
theorem AllV.cons (a : OkV K M H v) (b : AllV K M H xs) : AllV K M H (v :: xs) := fun w h => by
  rcases List.mem_cons.mp h with rfl | h
  · exact a
  · exact b w h
theorem AllV.app (a : AllV K M H xs) (b : AllV K M H ys) : AllV K M H (xs ++ ys) := fun w h => (List.mem_append.mp h).elim (a w) (b w)
theorem AllV.bn (a : AllV K M H xs) (b : BN M H H1) : AllV K M H1 xs := fun w h => (a w h).bn b
theorem AllV.but {p : Addr} (a : AllV K M H xs) (m : M p) (b : But p H H1) : AllV K M H1 xs := fun w h => (a w h).but m b
end
end CL

set_option Elab.async false
set_option linter.all false
set_option maxRecDepth 100000
set_option maxHeartbeats 2000000
/-! LamC: defs that hand a lambda to another def: the def's code object is told. -/
namespace CL
open PySem PySem.Spec PyProof.Rows L2 LamX
structure FunC (K : PySem.W.Frag) (mg : Str → Option Value) (x : Str) (st : Stmt) (ps : List Str) (c : Addr) : Prop where
  ex : ∃ (f : Addr) (fd : FuncData) (oc : Value) (od : Option Addr) (kV doc pm : Value) (an : Option Addr) (ct : Value) (osl : Array (Option Value)),
    fd = PySem.W.fnOf x x (defArgs st) (defBody st) (defScope st) .none kV doc pm an (.ref c) ct ∧ K.lookup f = some ⟨oc, od, .func fd, osl⟩ ∧ PySem.W.codeIn K (.ref c) x = true ∧ mg x = some (.ref f) ∧ PySem.W.keepIn K (.ref f) = true ∧ Binds K fd ps []
/-- as DefG, the function object told -/
structure DefGL (P : Program) (w : World) (K : PySem.W.Frag) (mg : Str → Option Value) (base : Heap) (CX : CXT) (k : Nat) (x : Str) (ps : List Str) (sp : Sp) : Prop where
  ex : ∃ f fd, FnG P w K mg base CX k f fd ps sp ∧ mg x = some (.ref f) ∧ (∃ oc od osl, K.lookup f = some ⟨oc, od, .func fd, osl⟩) ∧ Binds K fd ps []
section
variable {P : Program} {w : World} {K : PySem.W.Frag} {mg : Str → Option Value} {base : Heap} {x : Str} {st : Stmt} {N ps : List Str} {sp : Sp} {k j : Nat} {c : Addr}
theorem FunC.okG (A : FunC K mg x st ps c) (S : FnScope N ps (defScope st)) (len : ∀ vs H Q E, sp vs H Q E → vs.length = ps.length)
    (hbody : ∀ (f : Addr) (A : Around) (outer : List Env) (s : Shared) (H : Hp) (vs : List V) (Q : VK) (E : XK), Gd A → Room k (A.deeper (envOfC x (defScope st) s.heap.objs.size f (.ref c))) → sp vs H Q E →
      ∃ t, PSs (cxOf CX0 P w K mg base N x (defScope st) f (.ref c) A outer s H E).nox (defBody st) t ∧ t { nx := fun _ H' => Q .non H', rt := Q } (start N vs) H) : DefG P w K mg base CX0 (k + 1) x ps sp := by
  obtain ⟨f, fd, oc, od, kV, doc, pm, an, ct, osl, rfl, lk, hcd, g, kp, b⟩ := A.ex
  refine ⟨f, _, fnG_of lk hcd S len fun A outer s H vs Q E hG hr hsp => ?_, g, kp, b⟩
  obtain ⟨t, h, q⟩ := hbody f A outer s H vs Q E hG hr hsp
  exact ⟨t, h.nox, q⟩
theorem FunC.okGL (A : FunC K mg x st ps c) (S : FnScope N ps (defScope st)) (len : ∀ vs H Q E, sp vs H Q E → vs.length = ps.length)
    (hbody : ∀ (f : Addr) (A : Around) (outer : List Env) (s : Shared) (H : Hp) (vs : List V) (Q : VK) (E : XK), Gd A → Room k (A.deeper (envOfC x (defScope st) s.heap.objs.size f (.ref c))) → sp vs H Q E →
      ∃ t, PSs (cxOf CX0 P w K mg base N x (defScope st) f (.ref c) A outer s H E).nox (defBody st) t ∧ t { nx := fun _ H' => Q .non H', rt := Q } (start N vs) H) : DefGL P w K mg base CX0 (k + 1) x ps sp := by
  obtain ⟨f, fd, oc, od, kV, doc, pm, an, ct, osl, rfl, lk, hcd, g, kp, b⟩ := A.ex
  refine ⟨f, _, fnG_of lk hcd S len fun A outer s H vs Q E hG hr hsp => ?_, g, ⟨_, _, _, lk⟩, b⟩
  obtain ⟨t, h, q⟩ := hbody f A outer s H vs Q E hG hr hsp
  exact ⟨t, h.nox, q⟩
end
section
variable {X : Cx}
/-- x(lambda: body), x a def of the text -/
theorem pe_lam {T : List (Addr × Str)} {TT : (XK → Hp → VK → Prop) → Hp → VK → Prop} {x a : Str} {st : Stmt} {c P : Addr} {k : Nat} {Ng : List Str} {params : Arguments} {body : Expr} {scope : Scope} {t : XK → TE} {p lpos pos : Pos}
    (F : FunAt X.K X.mg x st [a]) (hG : ∀ g cdg, GivesTo X Ng x (defScope st) g cdg (defBody st) a (X.env.qual ++ "<lambda>") TT) (Sg : FnScope Ng [a] (defScope st)) (TB : TabB X.base X.mg c P) (hcode : X.env.code = .ref c) (hr : Room (k + 2) X.A)
    (hmT : (P, X.env.qual ++ "<lambda>") ∈ T) (hu : ∀ p ∈ T, p.1 = P → p.2 = X.env.qual ++ "<lambda>") (L : LamS X.env.scope scope)
    (hbody : ∀ (A : Around) (outer : List Env) (s : Shared) (H : Hp) (E : XK) (f c' : Addr), Room k (A.deeper (lamEnv X scope s.heap.objs.size f c')) → PE (lamCx X A outer s H E scope f c') body (t E))
    (hNg : Ng[0]? = some a := by rfl) (hva : Vis (defScope st) a := by first | exact Or.inl rfl | exact Or.inr (Or.inl rfl) | exact Or.inr (Or.inr rfl)) (hg : Gl X x := by rfl) (hdef : defaultsOf params X.env = ([], []) := by rfl)
    (hbind : ∀ (q : Str) (cl : List (Str × Addr)) (pm cv ctv : Value), bindArgs (PySem.W.kla_fn "<lambda>" q params body scope cl pm cv ctv) ⟨[], []⟩ = pure [] := by intros; rfl)
    (hdb : (x == ("__debug__" : Str)) = false := by decide) (hd : (a == ("__debug__" : Str)) = false := by decide) (hcd : (a == ("__classdict__" : Str)) = false := by decide) :
    PE X (.Call (.Name x p) [.Lambda params body scope lpos] [] pos) (tLam T TT t) := by
  obtain ⟨f, fd, F, hm, hb⟩ := F.ex
  obtain ⟨oc, od, kV, doc, pm, an, cdv, ct, osl, rfl, lk, hcg⟩ := F.ex
  exact pe_lamcall hg hm F.kp lk hcg hb Sg hNg hva (hG f cdv) TB hcode hmT hu hr L hdef hbind hbody hdb hd hcd
/-- what the lambda's body calls may raise -/
theorem lam_passes {A : Around} {outer : List Env} {s : Shared} {H : Hp} {E : XK} {scope : Scope} {f c' : Addr} : Passes (L2.CX X.prog X.w) (lamCx X A outer s H E scope f c') E := passes_call (L2.takes_of (X := lamCx X A outer s H E scope f c') rfl rfl rfl rfl) (fun _ _ _ _ h => h)
end
end CL

set_option Elab.async false
set_option linter.all false
set_option maxRecDepth 100000
set_option maxHeartbeats 2000000
/-! Tx: sets of texts: add, sorted. -/
namespace TX
open PySem PySem.Spec PyProof.Rows L2 PySem.Froz

/-- one text more, if it is none of them -/
def tIns (k : Str) (l : List Str) : List Str := if k ∈ l then l else k :: l
theorem tIns_nodup {k : Str} {l : List Str} (h : l.Nodup) : (tIns k l).Nodup := by
  unfold tIns
  by_cases c : k ∈ l
  · rw [if_pos c]; exact h
  · rw [if_neg c]; exact List.nodup_cons.mpr ⟨c, h⟩
theorem tIns_mem {k x : Str} {l : List Str} : x ∈ tIns k l ↔ x = k ∨ x ∈ l := by
  unfold tIns
  by_cases c : k ∈ l
  · rw [if_pos c]; exact ⟨Or.inr, fun h => h.elim (fun e => e ▸ c) id⟩
  · rw [if_neg c]; exact List.mem_cons
theorem tIns_len (k : Str) (l : List Str) : (tIns k l).length ≤ l.length + 1 := by
  unfold tIns
  split
  · exact Nat.le_succ _
  · exact Nat.le_refl _
/-- all texts of a list, one behind another -/
def tAll : List Str → List Str → List Str
  | [], l => l
  | k :: r, l => tAll r (tIns k l)
theorem tAll_nodup : ∀ (xs : List Str) {l : List Str}, l.Nodup → (tAll xs l).Nodup
  | [], _, h => h
  | _ :: r, _, h => tAll_nodup r (tIns_nodup h)
theorem tAll_mem {x : Str} : ∀ (xs : List Str) {l : List Str}, x ∈ tAll xs l ↔ x ∈ xs ∨ x ∈ l
  | [], _ => by simp [tAll]
  | k :: r, l => by
    show x ∈ tAll r (tIns k l) ↔ _
    rw [tAll_mem r, tIns_mem, List.mem_cons]
    constructor
    · rintro (h | h | h)
      · exact .inl (.inr h)
      · exact .inl (.inl h)
      · exact .inr h
    · rintro ((h | h) | h)
      · exact .inr (.inl h)
      · exact .inl h
      · exact .inr (.inr h)
theorem tAll_len : ∀ (xs l : List Str), (tAll xs l).length ≤ l.length + xs.length
  | [], _ => Nat.le_refl _
  | k :: r, l => by
    have a := tAll_len r (tIns k l)
    have b := tIns_len k l
    show (tAll r (tIns k l)).length ≤ l.length + (r.length + 1)
    omega

theorem perm_by_mem {l m : List Str} (hd : l.Nodup) : (∀ x ∈ l, x ∈ m) → m.length = l.length → m.Perm l := by
  induction l generalizing m with
  | nil => intro _ e; rw [List.length_eq_zero_iff.mp e]
  | cons x r ih =>
    intro hm e
    obtain ⟨hx, hr⟩ := List.nodup_cons.mp hd
    have p := List.perm_cons_erase (hm x List.mem_cons_self)
    refine p.trans (List.Perm.cons x (ih hr (fun y hy => ?_) ?_))
    · refine (List.mem_erase_of_ne fun z => ?_).mpr (hm y (List.mem_cons_of_mem _ hy))
      exact hx (z ▸ hy)
    · have z := p.length_eq
      simp only [List.length_cons] at z e
      omega

section
variable {P : Program} {w : World}
theorem tail_ris {ep : Nat} {es : Array (Int × Value)} {t : SetTable} {b : Bool} (r : Ris t.place.toList) : Ris (tailTx ep es t b).2.2.place.toList := by
  unfold tailTx
  split
  · exact relayAll_ris ..
  · exact r
theorem tail_led {ep : Nat} {es : Array (Int × Value)} {t : SetTable} {b : Bool} : (tailTx ep es t b).2.2.led = t.led := by
  unfold tailTx
  split
  · exact relayAll_led ..
  · rfl
theorem grow_ris {i : Int} {v : Value} {D : SD} (r : Ris D.2.2.place.toList) : Ris (addTx i v D).2.2.place.toList := by
  have z := layNew_ris D.2.2 D.1 i v r
  refine tail_ris ?_
  split <;> exact z
theorem grow_led {i : Int} {v : Value} {D : SD} : (addTx i v D).2.2.led = D.2.2.led := by
  have z := layNew_led D.2.2 D.1 i v
  refine tail_led.trans ?_
  split <;> exact z

/-- the set of the texts l, each once, at a -/
def TxAt (P : Program) (w : World) (h : Heap) (a : Addr) (l : List Str) : Prop := ∃ D : SD, h.get? a = some (sObj "set" D) ∧ TxOk P w D l ∧ l.Nodup ∧
  Ris D.2.2.place.toList ∧ (w.params.followText "set-order" = true ∨ D.2.2.led = true) ∧ l.length < scanBound
theorem TxAt.keep {h h' : Heap} {a : Addr} {l : List Str} (R : TxAt P w h a l) (k : ∀ o, h.get? a = some o → h'.get? a = some o) : TxAt P w h' a l :=
  let ⟨D, e, r⟩ := R
  ⟨D, k _ e, r⟩
def noTx (w : World) : Obj := { cls := .type "set", dict := none, data := .set #[] 0 (.fresh 0 0 (!w.params.followText "set-order")) }
theorem TxAt.fresh {h : Heap} {a : Addr} (e : h.get? a = some (noTx w)) : TxAt P w h a [] := by
  refine ⟨(#[], 0, .fresh 0 0 (!w.params.followText "set-order")), e, TxOk.nil rfl, List.nodup_nil, List.Pairwise.nil, ?_, by decide⟩
  show _ ∨ (!w.params.followText "set-order") = true
  cases w.params.followText "set-order"
  · exact .inr rfl
  · exact .inl rfl

variable {A : Around} {E : Value → Shared → Prop} {s : Shared} {a : Addr} {l : List Str} {k : Str} {u : Tok}
theorem found_x {D : SD} {Q : Bool → Shared → Prop} (ho : s.heap.get? a = some (sObj "set" D)) (F : TxOk P w D l) (hk : k ∈ l) (hb : l.length < scanBound)
    (h : Q false s) : wpAny (model P w) A (setAddHashed a (.str k u) (hashStr w k)) Q E s := by
  obtain ⟨es, ep, t⟩ := D
  have hd : (sObj "set" (es, ep, t)).data = .set es ep t := rfl
  have fit : t.fits es.size = true := F.fit
  have els : ElemsOf (strKind P w) es.toList := F.el
  have sz : es.size = l.length := F.sz
  have own : (strKind P w).is k (.str k u) = true := is_str k u
  unfold setAddHashed setAddHashedIn
  refine wpAny_holding (wpAny_bind (wpAny_setState_of ho hd fit ?_))
  dsimp only
  rw [byScan_of rfl (by omega) els]
  simp only [↓reduceIte]
  unfold setAddByScan
  refine wpAny_bind (wpAny_bind (wpAny_rule (wpAny_bind (wpAny_setScan_of (knd := strKind P w) (k := k) own ho hd fit els ?_))))
  cases hr : List.findIdx? (fun e => (strKind P w).is k e.2) es.toList with
  | some j => exact wpAny_pure (wpAny_pure h)
  | none =>
    obtain ⟨e, he, q⟩ := (F.mem k).mp hk
    have c := List.findIdx?_eq_none_iff.mp hr e he
    rw [q] at c
    cases c
theorem put_x {Q : Bool → Shared → Prop} (R : TxAt P w s.heap a l) (room : l.length + 1 < scanBound)
    (h : ∀ b h', Heap.SameBut a s.heap h' → TxAt P w h' a (tIns k l) → Q b { s with heap := h' }) : wpAny (model P w) A (setAddHashed a (.str k u) (hashStr w k)) Q E s := by
  obtain ⟨D, ho, F, nd, ris, led, few⟩ := R
  by_cases c : k ∈ l
  · refine found_x ho F c few ?_
    refine h false s.heap (Heap.SameBut.refl a s.heap) ?_
    rw [tIns, if_pos c]
    exact ⟨D, ho, F, nd, ris, led, few⟩
  · refine add_x ho F c room (h true _ (Heap.SameBut.update s.heap a _) ?_)
    rw [tIns, if_neg c]
    exact ⟨_, get_upd _ ho rfl, add_ok u F, List.nodup_cons.mpr ⟨c, nd⟩, grow_ris ris, led.imp id fun z => grow_led.trans z, room⟩
/-- found.add(k) -/
theorem call_put {Q : Value → Shared → Prop} (R : TxAt P w s.heap a l) (room : l.length + 1 < scanBound)
    (h : ∀ h', Heap.SameBut a s.heap h' → TxAt P w h' a (tIns k l) → Q .none { s with heap := h', toks := s.toks + 1 }) :
    wpAny (model P w) A (call (.builtin "set.add") [.ref a, .str k u]) Q E s := by
  have R' := R
  obtain ⟨D, ho, _⟩ := R'
  have T : s.TypeIs (.ref a) "set" := ⟨_, ho, rfl⟩
  refine wpAny_call_entry F.slot_set_add T F.entry_set_add ?_ (F.args_set_add_2 _ _)
  unfold Builtin.«set.add» Builtin.Frozenset.oneOther
  simp only [List.isEmpty_nil, bind_assoc]
  unfold Builtin.Frozenset.addrOf setAdd
  refine wpAny_bind (wpAny_pure ?_)
  try dsimp only
  refine wpAny_bind (wpAny_pure ?_)
  try dsimp only
  refine wpAny_bind (wpAny_holding (wpAny_bind ((strKind P w).pyHash (k := k) (is_str k u) ?_)))
  refine put_x (s := { s with toks := s.toks + 1 }) R room fun b h' sb r => ?_
  show wpAny _ _ (ret Value.none) _ _ _
  exact wpAny_pure ⟨_, rfl, h h' sb r⟩

/-! ### sorted -/
def txOf : Value → Str
  | .str x _ => x
  | _ => Str.empty
theorem strs_by : ∀ (vs : List Value), (∀ v ∈ vs, ∃ x t, v = Value.str x t) → StrsAre vs (vs.map txOf)
  | [], _ => .nil
  | v :: r, h => by
    obtain ⟨x, t, e⟩ := h v List.mem_cons_self
    subst e
    exact .cons _ _ (strs_by r fun y hy => h y (List.mem_cons_of_mem _ hy))
theorem TxOk.strs {D : SD} (F : TxOk P w D l) : ∀ e ∈ D.1.toList, ∃ x t, e.2 = Value.str x t := fun e he => by
  obtain ⟨⟨x, q, _⟩, _⟩ := F.el e he
  obtain ⟨t, z⟩ := Value.isStrOf_shape (x := x) (v := e.2) q
  exact ⟨x, t, z⟩
theorem TxOk.keys {D : SD} (F : TxOk P w D l) (nd : l.Nodup) : ((D.1.toList.map (·.2)).map txOf).Perm l := by
  refine perm_by_mem nd (fun x hx => ?_) ?_
  · obtain ⟨e, he, q⟩ := (F.mem x).mp hx
    obtain ⟨t, z⟩ := Value.isStrOf_shape (x := x) (v := e.2) q
    refine List.mem_map.mpr ⟨e.2, List.mem_map.mpr ⟨e, he, rfl⟩, ?_⟩
    rw [z] <;> rfl
  · rw [List.length_map, List.length_map, Array.length_toList]
    exact F.sz
end

/-- the set of texts as a tracked thing -/
def TxO (P : Program) (w : World) (a : Addr) (l : List Str) : HO := .ext fun h => TxAt P w h a l
theorem txO_new {w : World} {P : Program} {H : Hp} {h : Heap} {a : Addr} {l : List Str} (R : TxAt P w h a l) : ObjOk P w H h a (TxO P w a l) := by
  have ⟨_, ho, _⟩ := R
  exact ⟨R, ⟨_, ho⟩, fun h1 h2 p k => TxAt.keep p k⟩
section
variable {X : Cx} {pins : List (Addr × Obj)} {σ : L2.St} {H : Hp} {s : Shared} {E : Value → Shared → Prop} {a : Addr} {l : List Str}
theorem txO_get (I : Inv X pins σ H s) (ha : H a = some (TxO X.prog X.w a l)) : TxAt X.prog X.w s.heap a l := (I.hok a _ ha).1
theorem addT_ok {k : Str} {u : Tok} {Q : Value → Shared → Prop} (I : Inv X pins σ H s) (ha : H a = some (TxO X.prog X.w a l)) (room : l.length + 1 < scanBound)
    (h : ∀ s', Inv X pins σ (upd H a (TxO X.prog X.w a (tIns k l))) s' → Q .none s') : wpAny (model X.prog X.w) X.A (call (.builtin "set.add") [.ref a, .str k u]) Q E s := by
  refine call_put (txO_get I ha) room fun h' sb new => ?_
  have he : ∃ o, h'.get? a = some o := by
    have ⟨_, ho, _⟩ := new
    exact ⟨_, ho⟩
  exact h _ (I.write (e := a) (t' := s.toks + 1) (by rw [ha]; trivial) (.inl rfl) (fun b o hb ho => (sb.2 b hb).trans ho) he (txO_new new))
/-- sorted(a set of texts), fewer than 64 -/
def rSortTx (P : Program) (w : World) : List V → Hp → VK → Prop := fun xs H Q => ∃ (a : Addr) (l : List Str), xs = [.ref a] ∧ H a = some (TxO P w a l) ∧ l.length < 64 ∧
  ∀ ys p, ys.Perm l → sortedS ys = true → H p = none → Q (.ref p) (upd H p (.lst (ys.map V.str)))
theorem cr_sortTx (hc : X.calm = true) : CallR X (.builtin "sorted") (rSortTx X.prog X.w) := by
  intro pins s σ H xs us Q I r h
  obtain ⟨a, l, rfl, ha, h64, q⟩ := h
  rw [Vals.ref1 r]
  obtain ⟨D, ho, F, nd, ris, led, few⟩ := txO_get I ha
  have sz : D.1.size = l.length := F.sz
  refine Calls.call_function_entry kind_sorted plain_sorted entry_sorted (args_sorted1 _) ?_
  unfold Builtin.«sorted»
  refine wpAny_bind (m := checkCount "sorted" 1 1 _) (wpAny_pure ?_)
  refine wpAny_bind (collect_set (A := X.A.in1) (I.ok.hd hc) (es := D.1) (ep := D.2.1) (t := D.2.2) ⟨_, ho, rfl, rfl⟩ F.fit (by omega) ris led fun s1 vs k1 hz g1 o1 pm => ?_)
  have all : ∀ v ∈ vs, ∃ x t, v = Value.str x t := fun v hv => by
    obtain ⟨e, he, z⟩ := List.mem_map.mp (pm.mem_iff.mp hv)
    rw [← z]
    exact TxOk.strs F e he
  have hS := strs_by vs all
  have pk : (vs.map txOf).Perm l := (pm.map txOf).trans (TxOk.keys F nd)
  have vl : vs.length < 64 := by
    have z := pk.length_eq
    rw [List.length_map] at z
    omega
  refine wpAny_bind (wpAny_newList ?_ (by rw [sizeLine_eq]; omega))
  have hoL : (s1.heap.push (seqObj "list" vs.toArray 0)).get? s1.heap.objs.size = some (seqObj "list" vs.toArray 0) := Heap.get?_push_size _ rfl
  refine wpAny_bind (wpAny_holding (wpAny_call_entry slot_list_sort ⟨_, hoL, rfl⟩ entry_list_sort
    (list_sort_treeK strKind_oneLt (s := { s1 with heap := s1.heap.push (seqObj "list" vs.toArray 0) }) hoL hS.keysOf (fun v₁ v₂ rest e => keyKind_strs (by rw [← e]; exact hS)) vl fun st' hp hs => ⟨_, rfl, ?_⟩)
    (args_list_sort _)))
  obtain ⟨ys, y1, y2, y3⟩ := sorted_out_str hS hp hs
  obtain ⟨c, hcell⟩ := sortedHeap_at (vs := vs) (out := (arrOf st').map (·.2)) hoL
  have yl : (ys.map V.str).length ≤ sizeLine := by
    rw [List.length_map, y2.length_eq, List.length_map]
    exact Nat.le_trans (Nat.le_of_lt vl) (by decide)
  have old : ∀ b o, s.heap.get? b = some o → (sortedHeap (s1.heap.push (seqObj "list" vs.toArray 0)) s1.heap.objs.size vs ((arrOf st').map (·.2))).get? b = some o := fun b o e => by
    have lt := Heap.lt_size (k1 b o e)
    rw [sortedHeap_old (Nat.ne_of_lt lt) (by rw [size_push']; exact Nat.lt_succ_of_lt lt)]
    exact Heap.get?_push_of_some _ (k1 b o e)
  have hn : H s1.heap.objs.size = none := I.hok.fresh hz
  have J : Inv X pins σ (upd H s1.heap.objs.size (.lst (ys.map V.str))) { s1 with heap := sortedHeap (s1.heap.push (seqObj "list" vs.toArray 0)) s1.heap.objs.size vs ((arrOf st').map (·.2)) } :=
    I.call' (ch := []) o1 (Un.laid old hz hn) (I.hok.laid old hz ⟨yl, ((arrOf st').map (·.2)).toList, c, vals_of_strs y1, by rw [Array.toArray_toList]; exact hcell⟩) (by rw [g1]; exact I.bare) (fun _ z => nomatch z)
  exact wpAny_pure ⟨_, rfl, .ref _, _, J, rfl, q ys _ (y2.trans pk) y3 hn⟩
end
end TX

set_option Elab.async false
set_option linter.all false
set_option maxRecDepth 100000
set_option maxHeartbeats 3200000
/-! Tx2: set(a list of texts). -/
namespace TX
open PySem PySem.Spec PyProof.Rows L2 PySem.Froz

theorem tAll_snoc {z : Str} : ∀ (xs : List Str) {l : List Str}, tAll (xs ++ [z]) l = tIns z (tAll xs l)
  | [], _ => rfl
  | _ :: r, _ => tAll_snoc r
theorem tAll_take {xs : List Str} {i : Nat} {z : Str} (e : xs[i]? = some z) : tAll (xs.take (i + 1)) [] = tIns z (tAll (xs.take i) []) := by
  rw [List.take_add_one, e]
  exact tAll_snoc _
section
variable {P : Program} {w : World} {A : Around} {E : Value → Shared → Prop} {s : Shared}
theorem fill_tx {I : Addr} {fp wr : List Addr} {G : Array GenState → Array GenState → Prop} {n : Nat} {Pv : Nat → Value → Prop} {St : Nat → Shared → Prop} {R : Result → Shared → Prop} (W : WalksS P w A.in1 I fp wr G n Pv St)
    (D : Addr) (hD : D ∉ fp) (xs : List Str) (hn : n = xs.length) (hb : xs.length + 1 < scanBound) (hv : ∀ i v, Pv i v → ∃ k t, xs[i]? = some k ∧ v = .str k t) :
    ∀ (m i : Nat) (s : Shared), n - i = m → i ≤ n → St i s → TxAt P w s.heap D (tAll (xs.take i) []) →
      (∀ s', Moved (D :: wr) G s s' → TxAt P w s'.heap D (tAll xs []) → R (.ok (.ret .none)) s') → codeAny (model P w) A (.builtin "set.update.loop" ⟨[.ref D, .ref I], []⟩) R s := by
  have nw : D ∉ wr := fun z => hD (W.sub _ z)
  have up : ∀ b ∈ wr, b ∈ D :: wr := fun b z => List.mem_cons_of_mem _ z
  intro m
  induction m with
  | zero =>
    intro i s e hi st R0 out
    have ei : i = n := by omega
    subst ei
    refine codeAny_builtin F.entry_set_update_loop ?_
    rw [Around.under_plainId F.plain_set_update_loop _]
    show wpAny _ A.in1 (pyNext (.ref I) >>= _) _ _ s
    refine wpAny_bind (W.done s _ _ st fun s' mv => ?_)
    show wpAny _ A.in1 (ret Value.none) _ _ s'
    rw [List.take_of_length_le (Nat.le_of_eq hn.symm)] at R0
    exact wpAny_pure (out s' (mv.mono up) (R0.keep fun o z => mv.heap D o nw z))
  | succ m ih =>
    intro i s e hi st R0 out
    have lt : i < n := by omega
    refine codeAny_builtin F.entry_set_update_loop ?_
    rw [Around.under_plainId F.plain_set_update_loop _]
    show wpAny _ A.in1 (pyNext (.ref I) >>= _) _ _ s
    refine wpAny_bind (W.item i s _ _ lt st fun v s' hp st' mv => ?_)
    obtain ⟨z, t, ez, rfl⟩ := hv i v hp
    have R1 : TxAt P w s'.heap D (tAll (xs.take i) []) := R0.keep fun o q => mv.heap D o nw q
    show wpAny _ A.in1 (holding [Value.str z t] (setAdd D (.str z t)) >>= _) _ _ s'
    refine wpAny_bind (wpAny_holding ?_)
    unfold setAdd
    refine wpAny_holding (wpAny_bind ((strKind P w).pyHash (k := z) (is_str z t) ?_))
    have few : (tAll (xs.take i) []).length + 1 < scanBound := by
      have q := tAll_len (xs.take i) []
      rw [List.length_take, List.length_nil] at q
      omega
    refine put_x (s := { s' with toks := s'.toks + 1 }) R1 few fun _ h' sb R2 => ?_
    rw [← tAll_take ez] at R2
    have other : ∀ b o, b ≠ D → s'.heap.get? b = some o → h'.get? b = some o := fun b o hb q => (sb.2 b hb).trans q
    refine wpAny_pure ⟨plainId_quiet F.plain_set_update_loop _, ih (i + 1) _ (by omega) lt (W.frame _ s' _ _ st' (Nat.le_succ _) fun b hb o q => other b o (fun c => hD (c ▸ hb)) q) R2 fun s'' mv2 R3 => ?_⟩
    refine out s'' (Moved.trans W.gtrans ((mv.mono up).then_heap (Nat.le_succ _) fun b o hb q => ?_) mv2) R3
    exact other b o (fun c => hb (c ▸ List.mem_cons_self)) q

theorem call_setTx {l : Addr} {items : Array Value} (xs : List Str) {Q : Value → Shared → Prop} (hh : A.handled = none) (hl : s.heap.IsList l items) (hi : StrsAre items.toList xs) (hb : xs.length + 1 < scanBound)
    (h : ∀ (h' : Heap) (tk : Nat), TxAt P w h' s.heap.objs.size (tAll xs []) → (∀ b o, s.heap.get? b = some o → h'.get? b = some o) → Q (.ref s.heap.objs.size) { s with heap := h', toks := tk }) :
    wpAny (model P w) A (call (.type "set") [.ref l]) Q E s := by
  have sz : items.size = xs.length := by
    rw [← Array.length_toList]
    exact StrsAre.len_eq hi
  obtain ⟨c, tl, hmro⟩ := F.called_set.mro
  have f1 := F.called_set.made
  have f2 := F.called_set.sub
  refine wpAny_call (codeAny_of_tree ?_)
  show wpAny _ _ (callAny (.type "set") _) _ _ _
  refine wpAny_pure ⟨Code.quiet_builtin _ (by decide +kernel), codeAny_builtin F.entry_type_call ?_⟩
  rw [Around.under_plain (weight_type_call_type "set" [.ref l] []) rfl]
  have f3 := F.called_set.notType
  have f4 := F.called_set.canCreate
  have f5 := F.typeCall_set_1 (.ref l)
  repeat (any_goals (first | assumption | wp_step))
  refine codeAny_mono (code_set_led1 (.ref l) (E := E) (Q₁ := fun o s₁ => o = .ref s.heap.objs.size ∧ s₁ = { s with heap := s.heap.push (noTx w) }) ⟨rfl, rfl⟩) fun r s₁ hr => ?_
  cases r with
  | error e => exact hr
  | ok fl =>
    cases fl with
    | ret obj =>
      obtain ⟨rfl, rfl⟩ := hr
      have own : (s.heap.push (noTx w)).get? s.heap.objs.size = some (noTx w) := Heap.get?_push_size _ rfl
      have T : Shared.TypeIs { s with heap := s.heap.push (noTx w) } (.ref s.heap.objs.size) "set" := ⟨_, own, rfl⟩
      have f6 := F.called_set.init.lookup
      have f7 := F.called_set.init.bind (.ref s.heap.objs.size)
      repeat (any_goals (first | assumption | wp_step))
      refine codeAny_mono (codeAny_call_builtin (R := wants (fun r s₂ => r = .none ∧ ∃ h' tk, s₂ = { s with heap := h', toks := tk } ∧ TxAt P w h' s.heap.objs.size (tAll xs []) ∧ (∀ b o, s.heap.get? b = some o → h'.get? b = some o)) E)
        F.called_set.init.plain F.entry_set_init (check_set_init_1 T ?_)) fun r₂ s₂ hr₂ => ?_
      · obtain ⟨ol, hol, hcl, nl, hdl⟩ := hl
        obtain ⟨cls, dd, data, sl⟩ := ol
        simp only at hcl hdl
        subst hcl; subst hdl
        have hol' : (s.heap.push (noTx w)).get? l = some { cls := .type "list", dict := dd, data := .seq items nl, slots := sl } := Heap.get?_push_of_some _ hol
        have g1 := F.sub_list_set
        have g2 := F.sub_list_frozenset
        have g3 : (Value.type "list" == Value.type "dict") = false := by decide
        have hl1 : (s.heap.push (noTx w)).IsList l items := ⟨_, hol', rfl, nl, rfl⟩
        unfold Builtin.«set.__init__» noKeywords Builtin.Frozenset.updateFrom
        generalize hPI : pyIter = PI
        wp_walk
        subst hPI
        refine wpAny_pyIter_list hl1 (wpAny_bind (wpAny_runValue ?_))
        have lt : l < s.heap.objs.size := Heap.lt_size hol
        have hh3 : A.in1.in1.in1.handled = none := by simp [hh]
        have sz1 : (s.heap.push (noTx w)).objs.size = s.heap.objs.size + 1 := size_push' _ _
        have nI : l ≠ (s.heap.push (noTx w)).objs.size := by rw [sz1]; exact Nat.ne_of_lt (Nat.lt_succ_of_lt lt)
        have nD : s.heap.objs.size ∉ [(s.heap.push (noTx w)).objs.size, l] := by
          rw [sz1]
          simp only [List.mem_cons, List.not_mem_nil, or_false, not_or]
          exact ⟨Nat.ne_of_lt (Nat.lt_succ_self _), Nat.ne_of_gt lt⟩
        have hv : ∀ (i : Nat) (v : Value), items[i]? = some v → ∃ k t, xs[i]? = some k ∧ v = .str k t := fun i v e => by
          have il : i < xs.length := by rw [← sz]; exact (Array.getElem?_eq_some_iff.mp e).1
          obtain ⟨t, q⟩ := SS.strs_at hi i v (by rw [Array.getElem?_toList]; exact e)
          refine ⟨xs[i], t, List.getElem?_eq_getElem il, ?_⟩
          rw [q, List.getD_eq_getElem?_getD, List.getElem?_eq_getElem il] <;> rfl
        refine fill_tx ((Walks.list hh3 _ l nI items).toS) s.heap.objs.size nD xs sz hb hv (items.size - 0) 0 _ (by omega) (Nat.zero_le _) ⟨⟨_, Heap.get?_push_size _ rfl, rfl, rfl⟩, (hl1.push _)⟩ ?start ?stop
        case start => exact TxAt.fresh (Heap.get?_push_of_some _ own)
        case stop =>
          intro s' mv R1
          obtain ⟨h', g', d', tk', os'⟩ := s'
          have eg : g' = s.gens := mv.gens
          have ed : d' = s.drawn := mv.drawn
          have eo : os' = s.os := mv.os
          subst eg; subst ed; subst eo
          show wpAny _ _ _ _ _ _
          refine wpAny_pure ?_
          show wpAny _ _ (ret Value.none) _ _ _
          refine wpAny_pure ⟨rfl, h', tk', rfl, R1, fun b o e => ?_⟩
          have lb : b < s.heap.objs.size := Heap.lt_size e
          refine mv.heap b o ?_ (Heap.get?_push_of_some _ (Heap.get?_push_of_some _ e))
          rw [sz1]
          simp only [List.mem_cons, List.not_mem_nil, or_false, not_or]
          exact ⟨Nat.ne_of_lt lb, Nat.ne_of_lt (Nat.lt_succ_of_lt lb)⟩
      · cases r₂ with
        | error e => exact hr₂
        | ok fl₂ =>
          cases fl₂ with
          | ret r =>
            obtain ⟨rfl, h', tk, rfl, R1, old⟩ := hr₂
            repeat (any_goals (first | assumption | wp_step))
            exact h _ _ R1 old
          | _ => exact hr₂.elim
    | _ => exact hr.elim
end
section
variable {X : Cx}
/-- set(texts) -/
def rSetTx (K : PySem.W.Frag) (P : Program) (w : World) : List V → Hp → VK → Prop := fun vs H Q => ∃ (a : Addr) (xs : List Str), vs = [.ref a] ∧ SqL K H a (xs.map V.str) ∧ xs.length + 1 < scanBound ∧
  ∀ p, H p = none → Q (.ref p) (upd H p (TxO P w p (tAll xs [])))
theorem cr_setTx (hc : X.calm = true) : CallR X (.type "set") (rSetTx X.K X.prog X.w) := by
  intro pins s σ H vs us Q I r h
  obtain ⟨a, xs, rfl, hs, hb, q⟩ := h
  rw [Vals.ref1 r]
  obtain ⟨its, rv, pl, _⟩ := I.list hs
  obtain ⟨o, n, ho, hk, hdn, hd⟩ := pl
  refine call_setTx xs (I.ok.hd hc) ⟨o, ho, hk, n, hd⟩ (strsAre_of rv) hb fun h' tk R1 old => ?_
  have lt : s.heap.objs.size < h'.objs.size := by
    obtain ⟨_, e, _⟩ := R1
    exact Heap.lt_size e
  exact ⟨.ref s.heap.objs.size, _, I.laid (t' := tk) old (Nat.le_refl _) (txO_new R1), rfl, q _ (I.hok.fresh (Nat.le_refl _))⟩
end
end TX

set_option Elab.async false
set_option linter.all false
set_option maxRecDepth 100000
set_option maxHeartbeats 2000000
/-! Tx3: {k for .. in ..}, a text each. -/
namespace TX
open PySem PySem.Spec PyProof.Rows L2 PpSet
section
variable {X : Cx}
/-- what a turn does with its text: D grows -/
def grows (P : Program) (w : World) (D : Addr) (Nx : Hp → Prop) : VK := fun y H => ∃ (k : Str) (l : List Str), y = .str k ∧ H D = some (TxO P w D l) ∧ l.length + 1 < scanBound ∧ Nx (upd H D (TxO P w D (tIns k l)))
/-- one turn -/
def turnT (P : Program) (w : World) (g : TG) (tt : TT) (te : TE) (vs : List Nat) (D : Addr) (Nx : Hp → Prop) : V → L2.St → Hp → Prop := fun x σ H =>
  g x (wipe σ vs) H fun σ2 H2 => wipe σ2 vs = wipe σ vs ∧ tt σ2 H2 fun b H3 => if b = true then te σ2 H3 (grows P w D Nx) else Nx H3
/-- {elt for target in iter if ..} -/
def tTc (P : Program) (w : World) (wi : TI) (g : TG) (tt : TT) (te : TE) (vs : List Nat) : TE := fun σ H Q => wi σ H fun J H1 => ∀ D, H1 D = none → ∃ W : Nat → Nat → Hp → Prop, (∃ m, W 0 m (upd H1 D (TxO P w D []))) ∧ ∀ i m H, W i m H →
  (J.stop i H ∧ Q (.ref D) H) ∨ (J.go i H ∧ ∃ Nx : Hp → Prop, (∀ H', Nx H' → ∃ m', m' < m ∧ W (i + 1) m' H') ∧ ∀ x H', J.yld i H x H' → turnT P w g tt te vs D Nx x σ H')

theorem tc_core {pins : List (Addr × Obj)} {s : Shared} {σ : L2.St} {H : Hp} {Q : VK} {elt tg iter : Expr} {ifs : List Expr} {scope : Scope} {own : List (PySem.Str × Nat)} {pos pos' : Pos} {wi : TI} {g : TG} {tt : TT} {te : TE} {use : Option (Value → Sem Unit)} {Qf : Value → Shared → Prop}
    (calm : X.calm = true) (once : X.N.Nodup) (I : Inv X pins σ H s) (hi : PI X tg iter wi) (ok : BlkOk X.N X.env.scope scope own)
    (hg : ∀ (s : Shared) (H : Hp) (C : Addr) (cl : List (PySem.Str × Addr)) (fp : List Addr), PG (X.blk s H scope (compEnvC scope cl C X.env) fp) tg g)
    (ht : ∀ (s : Shared) (H : Hp) (C : Addr) (cl : List (PySem.Str × Addr)) (fp : List Addr), PTs (X.blk s H scope (compEnvC scope cl C X.env) fp) ifs tt)
    (he : ∀ (s : Shared) (H : Hp) (C : Addr) (cl : List (PySem.Str × Addr)) (fp : List Addr), PE (X.blk s H scope (compEnvC scope cl C X.env) fp) elt te)
    (fold : ∀ x, foldedSetIterable iter X.env x = pure x) (h : tTc X.prog X.w wi g tt te (own.map (·.2)) σ H Q)
    (out : ∀ D C s' m H', Inv X pins σ H' s' → Q (.ref D) H' → s'.heap.Ns C m → FpOk X pins H' C → compPost (model X.prog X.w) X.A X.xe use Qf (.ref D) C (.ok .next) s') :
    wpAny (model X.prog X.w) X.A (comprehension (.SetComp elt [⟨tg, iter, ifs, 0⟩] scope pos) scope X.env pos' (newSet (.type "set")) false (eval iter X.env) use) Qf X.xe s := by
  have free : ∀ y ∈ scope.names, y.2 = .free → ∃ c, X.env.cells.lookup y.1 = some c := fun y hy e => (ok.free y hy e).elim (fun z => I.ok.has _ (.inl z)) (fun z => I.ok.has _ (.inr z))
  refine wpAny_comprehension_free (use := use) rfl fold (closure_ok free) ok.kind (fun y hy e => by rw [ok.uniq y hy, e])
    (thn (hi.run pins s σ H _ I h) fun xv s1 hx => thn hx fun itv s2 h2 => ?_)
  obtain ⟨it, fp, tn, J, H2, ei, I2, T, st2, f2, q⟩ := h2
  subst ei
  refine newSet_ok (newEnv_comp ?_)
  generalize eD : s2.heap.objs.size = D
  have vac : H2 D = none := I2.hok.fresh (Nat.le_of_eq eD)
  obtain ⟨W, ⟨m0, w0⟩, turn⟩ := q D vac
  generalize e3 : ({ s2 with heap := s2.heap.push { cls := .type "set", dict := none, data := .set #[] 0 (.fresh 0 0 (!X.w.params.followText "set-order")) } } : Shared) = s3
  have h3 : s3.heap = s2.heap.push (noTx X.w) := by rw [← e3] <;> rfl
  have grown : ∀ b o, s2.heap.get? b = some o → s3.heap.get? b = some o := fun b o e => by rw [h3]; exact Heap.get?_push_of_some _ e
  have I3 : Inv X pins σ (upd H2 D (TxO X.prog X.w D [])) s3 := by
    rw [← e3]
    refine I2.laid (t' := s2.toks) (fun b o e => Heap.get?_push_of_some _ e) (Nat.le_of_eq eD) (txO_new (TxAt.fresh ?_))
    rw [← eD]
    exact Heap.get?_push_size _ rfl
  have low : ∀ b ∈ fp, b < s2.heap.objs.size := fun b hb => let ⟨o, e, _⟩ := T.obj _ _ st2 b hb; Heap.lt_size e
  have f3 : ∀ b ∈ fp, FpOk X pins (upd H2 D (TxO X.prog X.w D [])) b ∧ b < s3.heap.objs.size := fun b hb => by
    have lt := low b hb
    refine ⟨⟨?_, (f2 b hb).2⟩, by rw [h3, Heap.size_push]; exact Nat.lt_succ_of_lt lt⟩
    rw [upd_ne (by rw [← eD]; exact Nat.ne_of_lt lt)]
    exact (f2 b hb).1
  have st3 : tn 0 s3.heap := T.keep _ _ _ st2 fun b _ o e => grown b o e
  have I4 := block_start I3 ok once f3
  have pg := hg s3 (upd H2 D (TxO X.prog X.w D [])) s3.heap.objs.size (cellsFrom (s3.heap.objs.size + 1) scope.names (cloFrom X.env.cells scope.names [])) fp
  have pt := ht s3 (upd H2 D (TxO X.prog X.w D [])) s3.heap.objs.size (cellsFrom (s3.heap.objs.size + 1) scope.names (cloFrom X.env.cells scope.names [])) fp
  have pe := he s3 (upd H2 D (TxO X.prog X.w D [])) s3.heap.objs.size (cellsFrom (s3.heap.objs.size + 1) scope.names (cloFrom X.env.cells scope.names [])) fp
  show codeAny _ _ (.compStart (.SetComp elt [⟨tg, iter, ifs, 0⟩] scope pos) 0 (.ref it) (.ref D) (compEnvC scope (cellsFrom (s3.heap.objs.size + 1) scope.names (cloFrom X.env.cells scope.names [])) s3.heap.objs.size X.env))
    (compPost (model X.prog X.w) X.A X.xe use Qf (.ref D) s3.heap.objs.size) { s3 with heap := pushCells (s3.heap.push { cls := .type "dict", data := .dict #[] }) scope.names }
  have bare : ∀ b ∈ fp, (upd H2 D (TxO X.prog X.w D [])) b = none := fun b hb => (f3 b hb).1.1
  generalize ece : compEnvC scope (cellsFrom (s3.heap.objs.size + 1) scope.names (cloFrom X.env.cells scope.names [])) s3.heap.objs.size X.env = ce at I4 pg pt pe ⊢
  have cl : ce.locals = s3.heap.objs.size := by rw [← ece] <;> rfl
  generalize eH3 : upd H2 D (TxO X.prog X.w D []) = H3 at I3 I4 pg pt pe w0 bare f3
  generalize e4 : ({ s3 with heap := pushCells (s3.heap.push { cls := .type "dict", data := .dict #[] }) scope.names } : Shared) = s4 at I4 ⊢
  have st4 : tn 0 s4.heap := T.keep _ _ _ st3 fun b _ o e => by rw [← e4]; exact pushCells_keeps _ _ _ _ (Heap.get?_push_of_some _ e)
  have own_fp : ∀ {σ' : L2.St} {H' : Hp} {s' : Shared}, Inv (X.blk s3 H3 scope ce fp) [] σ' H' s' → (∀ b ∈ fp, H' b = none) → ∀ b ∈ fp, FpOk (X.blk s3 H3 scope ce fp) [] H' b := fun {σ' H' s'} I' hn b hb =>
    ⟨hn b hb, (I'.ok.exf b hb).1, I'.ok.exfs b hb, .inl hb, fun x c e => (I'.ok.exf b hb).2 x c e, fun p hp => absurd (show p ∈ ([] : List (Addr × Obj)) ++ [] from hp) (by simp)⟩
  have loop : codeAny (model X.prog X.w) X.A (.compLoop (.SetComp elt [⟨tg, iter, ifs, 0⟩] scope pos) 0 (.ref it) (.ref D) ce) (compPost (model X.prog X.w) X.A X.xe use Qf (.ref D) s3.heap.objs.size) s4 := by
    refine compLoopS_any (fun n s' => ∃ i H', Inv (X.blk s3 H3 scope ce fp) [] (wipe σ (own.map (·.2))) H' s' ∧ tn i s'.heap ∧ (∀ b ∈ fp, H' b = none) ∧ W i n H') ?_ m0 ⟨0, H3, I4, st4, bare, w0⟩
    rintro n s5 ⟨i, H5, I5, st5, n5, w5⟩
    rcases turn i n H5 w5 with ⟨stop, qq⟩ | ⟨go, Nx, less, step⟩
    · refine thnF (T.done (X.blk s3 H3 scope ce fp) rfl rfl rfl calm i [] s5 _ H5 (fun _ _ => False) I5 (own_fp I5 n5) st5 stop) fun r s6 ⟨hr, I6⟩ => ?_
      subst hr
      have I7 : Inv X pins σ H5 s6 := I3.call' (ch := fp) I6.os I6.base I6.hok I6.bare fun b hb => ⟨(f3 b hb).1.2.2.2.1, (f3 b hb).1.2.1, (f3 b hb).1.2.2.2.2.1, (f3 b hb).1.2.2.2.2.2⟩
      have none5 : H5 s3.heap.objs.size = none := by
        have z : H5 ce.locals = none := I6.free
        rwa [cl] at z
      obtain ⟨m, hm, _⟩ := I6.loc
      have hm : s6.heap.Ns ce.locals m := hm
      rw [cl] at hm
      exact out D s3.heap.objs.size s6 m H5 I7 qq hm (I3.fpOk (Nat.le_refl _) none5)
    · refine thnF (T.item (X.blk s3 H3 scope ce fp) rfl rfl rfl calm i [] s5 _ H5 (fun _ _ => False) I5 (own_fp I5 n5) st5 go) fun r s6 ⟨u, hr, h6⟩ => ?_
      subst hr
      refine thnF h6 fun _ s7 ⟨x, H7, I7, r7, y7, st7, n7⟩ => ?_
      have I7p := I7.pinned (own_fp I7 n7) (T.obj _ _ st7)
      refine thnF (pg.run _ s7 _ H7 x u _ I7p r7 (step x H7 y7)) fun _ s8 ⟨σ8, H8, I8, hw8, q8⟩ => ?_
      refine thnF (pt.run _ s8 σ8 H8 _ I8 q8) fun b s9 ⟨H9, I9, q9⟩ => ?_
      have fin : ∀ {s' : Shared} {H' : Hp}, Inv (X.blk s3 H3 scope ce fp) ([] ++ pinsAt fp s7.heap) σ8 H' s' → Nx H' → ∃ m, m < n ∧ ∃ i H', Inv (X.blk s3 H3 scope ce fp) [] (wipe σ (own.map (·.2))) H' s' ∧ tn i s'.heap ∧ (∀ b ∈ fp, H' b = none) ∧ W i m H' := fun {s' H'} I' nx => by
        obtain ⟨m', hm, wm⟩ := less H' nx
        have stay : ∀ b ∈ fp, ∀ o, s7.heap.get? b = some o → s'.heap.get? b = some o ∧ H' b = none := fun b hb o e =>
          let z := I'.pin (b, o) (List.mem_append_right _ (List.mem_append_right _ (mem_pinsAt hb e)))
          ⟨z.1, z.2.1⟩
        have len : (wipe σ (own.map (·.2))).length = σ8.length := by rw [← hw8, wipe_length]
        refine ⟨m', hm, i + 1, H', (I'.unpinned (pins := [])).weak len (fun j v e => ?_), T.keep _ _ _ st7 fun b hb o e => (stay b hb o e).1, fun b hb => ?_, wm⟩
        · rw [← hw8] at e
          exact (wipe_some e).1
        · obtain ⟨o, e, _⟩ := T.obj _ _ st7 b hb
          exact (stay b hb o e).2
      cases b with
      | false =>
        simp only [Bool.false_eq_true, if_false] at q9 ⊢
        exact fin I9 q9
      | true =>
        simp only [if_true] at q9 ⊢
        refine thnF (pe.run _ s9 σ8 H9 _ I9 q9) fun z s10 ⟨yv, H10, I10, r10, k, l, ey, hD, few, nx⟩ => ?_
        subst ey
        obtain ⟨t, rfl⟩ := r10
        exact addT_ok (X := X.blk s3 H3 scope ce fp) I10 hD few fun s11 I11 => fin I11 nx
  exact codeAny_compStart_set loop (T.self X.A 0 _ _ _ st4 loop)
/-- as a value -/
theorem pe_tc {elt tg iter : Expr} {ifs : List Expr} {scope : Scope} {own : List (PySem.Str × Nat)} {pos : Pos} {wi : TI} {g : TG} {tt : TT} {te : TE} (calm : X.calm = true) (once : X.N.Nodup) (hi : PI X tg iter wi) (ok : BlkOk X.N X.env.scope scope own)
    (hg : ∀ (s : Shared) (H : Hp) (C : Addr) (cl : List (PySem.Str × Addr)) (fp : List Addr), PG (X.blk s H scope (compEnvC scope cl C X.env) fp) tg g)
    (ht : ∀ (s : Shared) (H : Hp) (C : Addr) (cl : List (PySem.Str × Addr)) (fp : List Addr), PTs (X.blk s H scope (compEnvC scope cl C X.env) fp) ifs tt)
    (he : ∀ (s : Shared) (H : Hp) (C : Addr) (cl : List (PySem.Str × Addr)) (fp : List Addr), PE (X.blk s H scope (compEnvC scope cl C X.env) fp) elt te)
    (fold : ∀ x, foldedSetIterable iter X.env x = pure x := by intro _; rfl) : PE X (.SetComp elt [⟨tg, iter, ifs, 0⟩] scope pos) (tTc X.prog X.w wi g tt te (own.map (·.2))) := by
  refine ⟨fun pins s σ H Q I h => ?_⟩
  rw [eval_SetComp]
  refine tc_core calm once I hi ok hg ht he fold h fun D C s' m H' I' q hn f => ⟨m, hn, fun h'' sb => ?_⟩
  obtain ⟨f0, f1, f2, f3, f4, f5⟩ := f
  exact ⟨.ref D, H', I'.turned (t' := s'.toks) (fun b o hb e => (sb.2 b hb).trans e) f0 f1 f3 f4 f5, rfl, q⟩
end
end TX

set_option Elab.async false
set_option linter.all false
set_option maxRecDepth 100000
set_option maxHeartbeats 2000000
/-! Tx4: {n for n in texts}. -/
namespace TX
open PySem PySem.Spec PyProof.Rows L2 CL
theorem tc_names {K : PySem.W.Frag} {P : Program} {w : World} {a D : Addr} {xs : List Str} {i : Nat} {σ : L2.St} {H1 : Hp} {Qd : Hp → Prop} (hs : H1 a = some (.lst (xs.map V.str))) (hD : H1 D = none) (hb : xs.length + 1 < scanBound)
    (hi : i < σ.length) (q : Qd (upd H1 D (TxO P w D (tAll xs [])))) :
    ∃ W : Nat → Nat → Hp → Prop, (∃ m, W 0 m (upd H1 D (TxO P w D []))) ∧ ∀ j m H, W j m H → ((Itl K a).stop j H ∧ Qd H) ∨
      ((Itl K a).go j H ∧ ∃ Nx : Hp → Prop, (∀ H', Nx H' → ∃ m', m' < m ∧ W (j + 1) m' H') ∧ ∀ x H', (Itl K a).yld j H x H' → turnT P w (gName i) tYes (cVar i) [i] D Nx x σ H') := by
  have na : a ≠ D := ne_of_none hs hD
  refine ⟨fun j m H => m = xs.length - j ∧ j ≤ xs.length ∧ H = upd H1 D (TxO P w D (tAll (xs.take j) [])), ⟨xs.length, rfl, Nat.zero_le _, rfl⟩, ?_⟩
  rintro j m H ⟨rfl, hj, rfl⟩
  have sq : SqL K (upd H1 D (TxO P w D (tAll (xs.take j) []))) a (xs.map V.str) := SqL.of (by rw [upd_ne na]; exact hs)
  by_cases c : j < xs.length
  · have e : (xs.map V.str)[j]? = some (.str xs[j]) := by rw [List.getElem?_map, List.getElem?_eq_getElem c] <;> rfl
    refine .inr ⟨⟨_, _, sq, e⟩, fun H' => H' = upd H1 D (TxO P w D (tAll (xs.take (j + 1)) [])), fun H' z => ⟨_, by omega, rfl, c, z⟩, fun x H' y => ?_⟩
    obtain ⟨rfl, y⟩ := y
    have ex := (y _ sq).symm.trans e
    cases ex
    refine ⟨?_, ?_⟩
    · show ((σ.set i none).set i (some _)).set i none = σ.set i none
      rw [List.set_set, List.set_set]
    · show cVar i ((σ.set i none).set i (some _)) _ _
      unfold cVar
      rw [List.set_set, List.getElem?_set_self hi]
      refine ⟨xs[j], tAll (xs.take j) [], rfl, upd_same, ?_, ?_⟩
      · have z := tAll_len (xs.take j) []
        rw [List.length_take, List.length_nil] at z
        omega
      · rw [tAll_take (List.getElem?_eq_getElem c), upd_upd]
  · have e : j = xs.length := by omega
    subst e
    rw [List.take_length] at sq ⊢
    refine .inl ⟨⟨_, sq, by rw [List.length_map]; exact Nat.le_refl _⟩, q⟩
end TX

set_option Elab.async false
set_option linter.all false
set_option maxRecDepth 100000
set_option maxHeartbeats 1000000
/-! Fm: reading a formula, in plain Lean: over the text's signs, by places. -/
namespace Fm
open PySem PySem.Spec L2
/-- the sign at a place -/
def cp (s : Str) (i : Nat) : Option Nat := s.cps[i]?
/-- one sign, or nothing behind the end -/
def one (s : Str) (i : Nat) : Str := match cp s i with
  | some c => ⟨#[c]⟩
  | none => ⟨#[]⟩
theorem cp_lt {s : Str} {i c : Nat} (h : cp s i = some c) : i < s.length := by
  unfold cp at h
  obtain ⟨h, _⟩ := Array.getElem?_eq_some_iff.mp h
  exact h
theorem cp_none {s : Str} {i : Nat} (h : s.length ≤ i) : cp s i = none := by
  unfold cp
  exact Array.getElem?_eq_none h
/-- the first place from i on that bears no blank -/
def skip (s : Str) (i : Nat) : Nat := if h : cp s i = some 32 then skip s (i + 1) else i
termination_by s.length - i
decreasing_by have := cp_lt h; omega
theorem skip_sp {s : Str} {i : Nat} (h : cp s i = some 32) : skip s i = skip s (i + 1) := by rw [skip, dif_pos h]
theorem skip_no {s : Str} {i : Nat} (h : ¬ cp s i = some 32) : skip s i = i := by rw [skip, dif_neg h]
theorem skip_le {s : Str} (i : Nat) : i ≤ skip s i := by
  rw [skip]
  split
  · rename_i h
    have := cp_lt h
    have := skip_le (s := s) (i + 1)
    omega
  · exact Nat.le_refl _
termination_by s.length - i
theorem skip_end {s : Str} (i : Nat) (hi : i ≤ s.length) : skip s i ≤ s.length := by
  rw [skip]
  split
  · rename_i h
    have := cp_lt h
    exact skip_end (s := s) (i + 1) (by omega)
  · exact hi
termination_by s.length - i
theorem skip_at {s : Str} (i : Nat) : ¬ cp s (skip s i) = some 32 := by
  rw [skip]
  split
  · rename_i h
    have := cp_lt h
    exact skip_at (s := s) (i + 1)
  · assumption
termination_by s.length - i
theorem skip_skip {s : Str} (i : Nat) : skip s (skip s i) = skip s i := skip_no (skip_at i)
def isD (c : Nat) : Bool := decide (48 ≤ c ∧ c ≤ 57)
def isL (c : Nat) : Bool := decide (97 ≤ c ∧ c ≤ 122)
/-- where the figures end that begin at b, or where they break the rules -/
def intEnd (s : Str) (b i : Nat) : Except Nat Nat :=
  if h : ∃ c, cp s i = some c ∧ isD c = true then (if i - b = 31 ∨ (cp s b = some 48 ∧ b < i) then .error i else intEnd s b (i + 1)) else .ok i
termination_by s.length - i
decreasing_by obtain ⟨c, h, _⟩ := h; have := cp_lt h; omega
def wordEnd (s : Str) (b i : Nat) : Except Nat Nat :=
  if h : ∃ c, cp s i = some c ∧ isL c = true then (if i - b = 8 then .error i else wordEnd s b (i + 1)) else .ok i
termination_by s.length - i
decreasing_by obtain ⟨c, h, _⟩ := h; have := cp_lt h; omega
/-- the text from b to i -/
def cut (s : Str) (b i : Nat) : Str := ⟨((s.cps.toList.drop b).take (i - b)).toArray⟩
inductive T where
  | num (n : Int)
  | nam (w : Str)
  | neg (t : T)
  | op (o : Str) (a b : T)
inductive R where
  | err (p : Nat)
  | ok (t : T) (i : Nat) (ns : List Str)
inductive Md where
  | sum
  | sl (t : T)
  | term
  | tl (t : T)
  | factor
  | word
  | pair (w : Str)
/-- the number that figures tell -/
def val (s : Str) : Int := ((NumText.digitsVal s.cps.toList : Nat) : Int)
def need (s : Str) (c : Nat) (i : Nat) (k : Nat → Option R) : Option R := if cp s (skip s i) = some c then k (skip s i + 1) else some (.err (skip s i))
/-- the reading, by a fuel that is the depth of calls as well -/
def parse (s : Str) : Nat → Md → Nat → List Str → Option R
  | 0, _, _, _ => none
  | f + 1, .sum, i, ns => match parse s f .term i ns with
    | some (.ok t j ms) => parse s f (.sl t) j ms
    | r => r
  | f + 1, .sl t, i, ns =>
    if cp s (skip s i) = some 43 ∨ cp s (skip s i) = some 45 then (match parse s f .term (skip s i + 1) ns with
      | some (.ok u j ms) => parse s f (.sl (.op (one s (skip s i)) t u)) j ms
      | r => r)
    else some (.ok t (skip s i) ns)
  | f + 1, .term, i, ns => match parse s f .factor i ns with
    | some (.ok t j ms) => parse s f (.tl t) j ms
    | r => r
  | f + 1, .tl t, i, ns =>
    if cp s (skip s i) = some 42 then (match parse s f .factor (skip s i + 1) ns with
      | some (.ok u j ms) => parse s f (.tl (.op "*" t u)) j ms
      | r => r)
    else if cp s (skip s i) = some 47 then (if cp s (skip s i + 1) = some 47 then (match parse s f .factor (skip s i + 2) ns with
        | some (.ok u j ms) => parse s f (.tl (.op "//" t u)) j ms
        | r => r)
      else some (.err (skip s i + 1)))
    else some (.ok t (skip s i) ns)
  | f + 1, .factor, i, ns =>
    match cp s (skip s i) with
    | none => some (.err (skip s i))
    | some c =>
      if c = 45 then (match parse s f .factor (skip s i + 1) ns with
        | some (.ok t j ms) => some (.ok (.neg t) j ms)
        | r => r)
      else if c = 40 then (match parse s f .sum (skip s i + 1) ns with
        | some (.ok t j ms) => need s 41 j fun k => some (.ok t k ms)
        | r => r)
      else if isD c = true then (match intEnd s (skip s i) (skip s i) with
        | .error p => some (.err p)
        | .ok e => some (.ok (.num (val (cut s (skip s i) e))) e ns))
      else if isL c = true then parse s f .word (skip s i) ns
      else some (.err (skip s i))
  | f + 1, .word, i, ns => match wordEnd s i i with
    | .error p => some (.err p)
    | .ok e =>
      if cut s i e = "min" ∨ cut s i e = "max" then parse s f (.pair (cut s i e)) e ns
      else if cut s i e = "self" then some (.err e)
      else some (.ok (.nam (cut s i e)) e (ns ++ [cut s i e]))
  | f + 1, .pair w, i, ns => need s 40 i fun i1 => match parse s f .sum i1 ns with
    | some (.ok a j ms) => need s 44 j fun i2 => (match parse s f .sum i2 ms with
      | some (.ok b k ls) => need s 41 k fun i3 => some (.ok (.op w a b) i3 ls)
      | r => r)
    | r => r
end Fm

set_option Elab.async false
set_option linter.all false
set_option maxRecDepth 100000
set_option maxHeartbeats 2000000
/-! Rd: tests that store a name and go on, methods that may raise, one-sign slices. -/
namespace CL
open PySem PySem.Spec PyProof.Rows L2
section
variable {X : Cx} {a b : Expr} {t : TTw} {u : TT} {pos : Pos}
/-- (x := e) .. and b -/
def wAnd (t : TTw) (u : TT) : TTw := fun σ H Q => t σ H fun c σ1 H1 => if c = true then u σ1 H1 fun d H2 => Q d σ1 H2 else Q false σ1 H1
theorem ptw_and2 (ha : PTw X a t) (hb : PT X b u) : PTw X (.BoolOp .And [a, b] pos) (wAnd t u) := ⟨fun pins s σ H Q I h => by
  refine isTrue_and (thn (ha.run pins s σ H _ I h) fun c s1 e => ?_)
  obtain ⟨σ1, H1, I1, q⟩ := e
  cases c with
  | false => exact ⟨σ1, H1, I1, q⟩
  | true => exact thn ((pw_and1 (pos := pos) hb).run _ pins s1 σ1 H1 (fun d H2 => Q d σ1 H2) I1 q) fun d s2 ⟨H2, I2, q2⟩ => ⟨σ1, H2, I2, q2⟩⟩
end
/-- room by the depth of calls, each counted once -/
structure Rm (n : Nat) (A : Around) : Prop where
  hd : A.handled = none
  dp : A.depth + n + 10 < recursionLimit
  un : A.units + 4 * n + 300 < cLine
theorem Rm.mono {j n : Nat} {A : Around} (r : Rm n A) (h : 3 * j ≤ n + 4) (h2 : j ≤ 20 := by omega) : Room j A := ⟨r.hd, by have := r.dp; omega, by have := r.un; omega⟩
theorem Rm.less {j n : Nat} {A : Around} (r : Rm n A) (h : j ≤ n) : Rm j A := ⟨r.hd, by have := r.dp; omega, by have := r.un; omega⟩
theorem Rm.deeper {n : Nat} {A : Around} (r : Rm (n + 1) A) (env : Env) : Rm n (A.deeper env) := ⟨r.hd, by have := r.dp; show A.depth + 1 + n + 10 < _; omega, by have := r.un; show A.units + 3 + 4 * n + 300 < _; omega⟩
theorem Rm.of {k n : Nat} {A : Around} (r : Room k A) (h : n + 5 ≤ 3 * k) (h2 : 4 * n + 100 ≤ 16 * k) : Rm n A := ⟨r.hd, by have := r.dp; omega, by have := r.un; omega⟩
/-- a def's promise, the room told by the depth -/
structure FnM (P : Program) (w : World) (K : PySem.W.Frag) (mg : Str → Option Value) (base : Heap) (CX : CXT) (n : Nat) (f : Addr) (fd : FuncData) (ps : List Str) (sp : Sp) : Prop where
  len : ∀ vs H Q E, sp vs H Q E → vs.length = ps.length
  go : ∀ (A : Around) (outer : List Env) (s : Shared) (H : Hp) (args : Args) (us : List Value) (vs : List V) (Q : VK) (E : XK), Rm n A → Env0 P w K mg base A outer s H → BindsTo s fd args (ps.zip us) → Vals vs us → sp vs H Q E →
    codeAny (model P w) A (.call (.ref f) args) (CR CX outer P w H s Q E) s
section
variable {P : Program} {w : World} {K : PySem.W.Frag} {mg : Str → Option Value} {base : Heap} {CX : CXT} {k n : Nat} {f : Addr} {fd : FuncData} {ps : List Str} {sp : Sp}
theorem FnM.of (F : FnOk P w K mg base CX k f fd ps sp) (h : 3 * k ≤ n + 4) (h2 : k ≤ 20 := by omega) : FnM P w K mg base CX n f fd ps sp :=
  ⟨F.len, fun A outer s H args us vs Q E r => F.run A outer s H args us vs Q E (r.mono h h2)⟩
theorem FnM.ok (F : FnM P w K mg base CX n f fd ps sp) (h : n + 5 ≤ 3 * k) (h2 : 4 * n + 100 ≤ 16 * k) : FnOk P w K mg base CX k f fd ps sp :=
  ⟨F.len, fun A outer s H args us vs Q E r => F.go A outer s H args us vs Q E (.of r h h2)⟩
theorem _root_.L2.Fun.okM {x qual : Str} {st : Stmt} {N : List Str} (F : Fun K x qual st f fd) (S : FnScope N ps (defScope st)) (len : ∀ vs H Q E, sp vs H Q E → vs.length = ps.length)
    (hbody : ∀ (cdv : Value) (A : Around) (outer : List Env) (s : Shared) (H : Hp) (vs : List V) (Q : VK) (E : XK), Rm n (A.deeper (envOfC qual (defScope st) s.heap.objs.size f cdv)) → sp vs H Q E →
      ∃ t, PSs (cxOf (L2.CX P w) P w K mg base N qual (defScope st) f cdv A outer s H E) (defBody st) t ∧ t { nx := fun _ H' => Q .non H', rt := Q } (start N vs) H) : FnM P w K mg base (L2.CX P w) (n + 1) f fd ps sp := by
  obtain ⟨oc, od, kV, doc, pm, an, cdv, ct, osl, rfl, lk, hcd⟩ := F.ex
  refine ⟨len, fun A outer s H args us vs Q E hr e0 hb r hsp => ?_⟩
  exact LamX.run_ofS (k := 0) lk hcd S (hr.mono (j := 1) (by omega)) e0 hb r (len _ _ _ _ hsp) fun _ => hbody cdv A outer s H vs Q E (hr.deeper _) hsp
end
/-- a method of the class at C, by its promise -/
structure MetG (P : Program) (w : World) (K : PySem.W.Frag) (mg : Str → Option Value) (base : Heap) (CX : CXT) (n : Nat) (C : Addr) (m : Str) (ps : List Str) (sp : Sp) : Prop where
  ex : ∃ f fd, Meth K C m f ∧ FnM P w K mg base CX n f fd ps sp ∧ Binds K fd ps []
section
variable {X : Cx} {CX : CXT} {k j n : Nat} {C f : Addr} {fd : FuncData} {m : Str} {ps : List Str} {sp : Sp} {o e : Expr} {es : List Expr} {ta : TE} {t : TA} {apos pos : Pos} {E : XK}
theorem run_fnM {pins : List (Addr × Obj)} {σ : L2.St} {H : Hp} {s : Shared} {Q : VK} {us : List Value} {vs : List V} (F : FnM X.prog X.w X.K X.mg X.base CX n f fd ps sp) (hr : Rm n X.A) (hb : Binds X.K fd ps []) (hx : Passes CX X E)
    (I : Inv X pins σ H s) (r : Vals vs us) (h : sp vs H Q E) : wpAny (model X.prog X.w) X.A (call (.ref f) us) (EP X pins σ Q) X.xe s := by
  have hl := F.len _ _ _ _ h
  have hb2 := hb s us I.kIn (by rw [List.append_nil, ← r.length]; exact hl)
  rw [List.append_nil] at hb2
  refine wpAny_call (codeAny_mono (F.go X.A X.stack s H ⟨us, []⟩ us vs Q E hr I.env0 hb2 r h) fun res s' hq => ?_)
  match res, hq with
  | .error e, hq => exact hx pins σ H s e s' I hq
  | .ok (.ret u), hq => exact I.after hq
  | .ok .next, hq => exact hq.elim
  | .ok .brk, hq => exact hq.elim
  | .ok .cont, hq => exact hq.elim
/-- o.m(..) -/
def tMethM (C : Addr) (m : Str) (sp : Sp) (E : XK) (ta : TE) (t : TA) : TE := fun σ H Q => ta σ H fun x H1 => ∃ a dx fs, x = .ref a ∧ H1 a = some (.ins C dx fs) ∧ fs.lookup m = none ∧ t σ H1 fun vs H2 => sp (x :: vs) H2 Q E
theorem pe_mg {pl : Sem Bool} (c : MetG X.prog X.w X.K X.mg X.base CX k C m ps sp) (cl : Cls X.K C) (hx : Passes CX X E) (hr : Rm j X.A) (hk : k ≤ j) (he : PE X o ta) (ha : PA X (e :: es) t)
    (hst : starEach (e :: es) X.env = (false, eval e X.env) :: starEach es X.env := by rfl) (hpl : (backTo pos (starEach es X.env)).any (·.1) = false := by rfl)
    (ht : eval (.Call (.Attribute o m apos) (e :: es) [] pos) X.env = (do
      let ov ← eval o X.env
      standAt apos.atName
      let (f, first) ← holding [ov] (getMethod ov m pl)
      callWith pos f first (backTo pos (starEach (e :: es) X.env)) (backToKw pos (keywordEach [] X.env))) := by rfl) :
    PE X (.Call (.Attribute o m apos) (e :: es) [] pos) (tMethM C m sp E ta t) := by
  obtain ⟨f, fd, M, F, b⟩ := c.ex
  refine ⟨fun pins s σ H Q I h => ?_⟩
  refine PySem.W.methodCall_KW (pl := pl) (thn (he.run pins s σ H _ I h) fun u s1 hh => ?_) ht
  obtain ⟨x, H1, I1, rx, a, dx, fs, ex, ea, l, q⟩ := hh
  subst ex
  obtain rfl : u = Value.ref a := rx
  refine getmeth_ok I1 ea cl M l ?_
  exact PySem.W.callWith_K (h₀ := X.base) (first := [.ref a]) I1.ok.mod.kin M.kp (thn (ha.run pos pins s1 σ H1 _ I1 q) fun us s2 ⟨vs, H2, I2, r2, q2⟩ => ⟨I2.kIn, run_fnM (us := .ref a :: us) (vs := .ref a :: vs) F (hr.less hk) b hx I2 (.cons rfl r2) q2⟩) hst hpl
theorem pe_mg0 {pl : Sem Bool} (c : MetG X.prog X.w X.K X.mg X.base CX k C m ps sp) (cl : Cls X.K C) (hx : Passes CX X E) (hr : Rm j X.A) (hk : k ≤ j) (he : PE X o ta)
    (ht : eval (.Call (.Attribute o m apos) [] [] pos) X.env = (do
      let ov ← eval o X.env
      standAt apos.atName
      let (f, first) ← holding [ov] (getMethod ov m pl)
      callWith pos f first (backTo pos (starEach [] X.env)) (backToKw pos (keywordEach [] X.env))) := by rfl) :
    PE X (.Call (.Attribute o m apos) [] [] pos) (tMethM C m sp E ta tNil) := by
  obtain ⟨f, fd, M, F, b⟩ := c.ex
  refine ⟨fun pins s σ H Q I h => ?_⟩
  refine PySem.W.methodCall_KW (pl := pl) (thn (he.run pins s σ H _ I h) fun u s1 hh => ?_) ht
  obtain ⟨x, H1, I1, rx, a, dx, fs, ex, ea, l, q⟩ := hh
  subst ex
  obtain rfl : u = Value.ref a := rx
  refine getmeth_ok I1 ea cl M l ?_
  exact PySem.W.callWith_K0 (first := [.ref a]) I1.kIn M.kp (run_fnM (us := [.ref a]) (vs := [.ref a]) F (hr.less hk) b hx I1 (.cons rfl .nil) q)
end
/-- t[i:i + 1] -/
theorem cut_one {s : Str} {i : Nat} : cutS s (some (i : Int)) (some ((i : Int) + 1)) = Fm.one s i := by
  unfold cutS Fm.one Fm.cp
  have e : ((i : Int) + 1) = ((i + 1 : Nat) : Int) := by omega
  rw [e, HT.sIx_nat, HT.sIx_nat]
  have hs : s.length = s.cps.size := rfl
  by_cases h : i < s.cps.size
  · rw [Array.getElem?_eq_getElem h]
    rw [Nat.min_eq_left (by omega), Nat.min_eq_left (by omega)]
    have : i + 1 - i = 1 := by omega
    rw [this, List.drop_eq_getElem_cons (by simpa using h)]
    simp
  · rw [Array.getElem?_eq_none (by omega)]
    rw [Nat.min_eq_right (by omega), Nat.min_eq_right (by omega)]
    simp
theorem cut_cut {s : Str} {b i : Nat} (h : i ≤ s.length) (hb : b ≤ i) : cutS s (some (b : Int)) (some (i : Int)) = Fm.cut s b i := by
  unfold cutS Fm.cut
  rw [HT.sIx_nat, HT.sIx_nat, Nat.min_eq_left (Nat.le_trans hb h), Nat.min_eq_left h]
end CL

set_option Elab.async false
set_option linter.all false
set_option maxRecDepth 100000
set_option maxHeartbeats 4000000
namespace Rk
open PySem PySem.Spec PyProof.Rows L2 CL Fm
def topS (i : Nat) : Stmt := PySem.Challenge.pw_solidnames_k03_linear_formulas.main.body.getD i (.Pass ⟨0, 0, 0, 0⟩)
/-! ### the reader in the heap -/
def rdF (s : Str) (i : Nat) (l : Addr) : List (Str × V) := [("chars", .str s), ("spot", .int (i : Int)), ("found_names", .ref l)]
theorem rdF_at (s : Str) (i : Nat) (l : Addr) : (rdF s i l).lookup ("chars" : Str) = some (.str s) ∧ (rdF s i l).lookup ("spot" : Str) = some (.int i) ∧ (rdF s i l).lookup ("found_names" : Str) = some (.ref l) := by
  unfold rdF
  refine ⟨?_, ?_, ?_⟩ <;> rfl
theorem rdF_put (s : Str) (i j : Nat) (l : Addr) : putF "spot" (.int (j : Int)) (rdF s i l) = rdF s j l := by rfl
theorem rdF_no (s : Str) (i : Nat) (l : Addr) : ∀ m ∈ (["skip", "need", "whole", "read_sum", "read_term", "read_factor", "read_integer", "read_word", "read_pair"] : List Str), (rdF s i l).lookup m = none := by
  intro m hm
  simp only [List.mem_cons, List.not_mem_nil, or_false] at hm
  rcases hm with rfl | rfl | rfl | rfl | rfl | rfl | rfl | rfl | rfl <;> rfl
structure RdAt (C : Addr) (H : Hp) (a l : Addr) (s : Str) (i : Nat) (ns : List Str) : Prop where
  ins : ∃ dx, H a = some (.ins C dx (rdF s i l))
  lst : H l = some (.lst (ns.map V.str))
  few : ns.length ≤ i
/-- all but the reader and its list is as it was -/
def MB (a l : Addr) (H H' : Hp) : Prop := ∀ b o, b ≠ a → b ≠ l → H b = some o → H' b = some o
theorem MB.refl {a l : Addr} {H : Hp} : MB a l H H := fun _ _ _ _ h => h
theorem MB.trans {a l : Addr} {H H1 H2 : Hp} (x : MB a l H H1) (y : MB a l H1 H2) : MB a l H H2 := fun b o n m h => y b o n m (x b o n m h)
theorem MB.of {a l : Addr} {H H' : Hp} (x : Same H H') : MB a l H H' := fun b o _ _ h => x b o h
theorem RdAt.ne {C : Addr} {H : Hp} {a l : Addr} {s : Str} {i : Nat} {ns : List Str} (R : RdAt C H a l s i ns) : l ≠ a := by
  obtain ⟨dx, h⟩ := R.ins
  exact ne_of R.lst h (fun z => nomatch z)
theorem RdAt.put {C dx : Addr} {H : Hp} {a l : Addr} {s : Str} {i : Nat} {ns : List Str} (R : RdAt C H a l s i ns) (j : Nat) (h : i ≤ j := by omega) : RdAt C (upd H a (.ins C dx (rdF s j l))) a l s j ns ∧ MB a l H (upd H a (.ins C dx (rdF s j l))) :=
  ⟨⟨⟨dx, upd_same⟩, by rw [upd_ne R.ne]; exact R.lst, Nat.le_trans R.few h⟩, fun b o n _ h => by rw [upd_ne n]; exact h⟩
theorem RdAt.same {C : Addr} {H H' : Hp} {a l : Addr} {s : Str} {i : Nat} {ns : List Str} (R : RdAt C H a l s i ns) (z : Same H H') : RdAt C H' a l s i ns := by
  obtain ⟨dx, h⟩ := R.ins
  exact ⟨⟨dx, z _ _ h⟩, z _ _ R.lst, R.few⟩
section
variable {P : Program} {w : World} {K : PySem.W.Frag} {mg : Str → Option Value} {base : Heap} {C : Addr}
/-- the blanks are passed by; the next sign -/
def spSkip (C : Addr) : Sp := fun vs H Q _ => match vs with
  | [.ref a] => ∃ l s i ns, RdAt C H a l s i ns ∧ i ≤ s.length ∧ s.length ≤ 100 ∧ ∀ H', RdAt C H' a l s (skip s i) ns → MB a l H H' → Q (.str (one s (skip s i))) H'
  | _ => False
abbrev sSkip : Stmt := inClass (topS 15) 1
abbrev nSkip : List Str := ["self"]
abbrev pSkip : List Str := ["self"]
theorem scSkip : FnScope nSkip pSkip (defScope sSkip) := ⟨rfl, rfl, rfl, by decide +kernel, rfl, by decide +kernel, by decide +kernel⟩
theorem one_sp {s : Str} {i : Nat} : (V.str (one s i) = V.str " ") ↔ cp s i = some 32 := by
  unfold one
  constructor
  · intro h
    split at h
    · rename_i c hc
      rw [hc]
      injection h with h
      have : (#[c] : Array Nat) = #[32] := congrArg Str.cps h
      simpa using this
    · injection h with h
      exact absurd (congrArg (fun z => z.cps.size) h) (by decide)
  · intro h
    rw [h]
    rfl
theorem ok_skip {f : Addr} {fd : FuncData} (cl : Cls K C) (n1 : NoAttr K C "chars") (n2 : NoAttr K C "spot") (F : Fun K "skip" "Reader.skip" sSkip f fd) : FnOk P w K mg base CX0 1 f fd pSkip (spSkip C) := by
  refine F.ok scSkip (fun vs H Q E h => ?_) (fun cdv A outer s H vs Q E hr h => ?_)
  · unfold spSkip at h
    split at h
    · rfl
    · exact h.elim
  · refine ⟨_, (pss_cons (ps_while PassesOwn.never (ct_cmp op_eq (pe_slice sl_str (pe_fld (cv 0) rfl) (po_some (pe_fld (cv 0) rfl)) (po_some (pe_op c_addI (pe_fld (cv 0) rfl) pe_int))) pe_str (nomark _))
  (pss_one (ps_fldaug (cv 0) pe_int ip_add)))
  (pss_one (ps_ret (pe_slice sl_str (pe_fld (cv 0) rfl) (po_some (pe_fld (cv 0) rfl)) (po_some (pe_op c_addI (pe_fld (cv 0) rfl) pe_int)))))), ?_⟩
    unfold spSkip at h
    split at h
    · rename_i a
      obtain ⟨l, s, i, ns, R, hi, hn, q⟩ := h
      have sz : s.length ≤ sizeLine := Nat.le_trans hn (by decide)
      refine ⟨fun m σ H' => ∃ j, m = s.length - j ∧ j ≤ s.length ∧ i ≤ j ∧ skip s j = skip s i ∧ RdAt C H' a l s j ns ∧ MB a l H H' ∧ σ = [some (.ref a)], ⟨_, i, rfl, hi, Nat.le_refl _, rfl, R, MB.refl, rfl⟩, ?_⟩
      rintro m σ H1 ⟨j, rfl, hj, hij, hs, R1, M1, rfl⟩
      obtain ⟨dx, ha⟩ := R1.ins
      obtain ⟨r1, r2, r3⟩ := rdF_at s j l
      refine ⟨a, C, dx, _, _, rfl, ha, cl, n1, r1, a, C, dx, _, _, rfl, ha, cl, n2, r2, _, rfl, a, C, dx, _, _, rfl, ha, cl, n2, r2, _, rfl, s, rfl, sz, ?_⟩
      rw [cut_one]
      refine ⟨rfl, iteD (fun hsp => ?_) (fun hsp => ?_)⟩
      · have hc := one_sp.mp hsp
        have lt := cp_lt hc
        refine ⟨fun σ' H' => ∃ j', j' = j + 1 ∧ RdAt C H' a l s j' ns ∧ MB a l H H' ∧ σ' = [some (.ref a)], ?_, ?_⟩
        · rintro σ' H' ⟨j', rfl, R', M', rfl⟩
          exact ⟨_, by omega, j + 1, rfl, lt, by omega, (skip_sp hc).symm.trans hs, R', M', rfl⟩
        · have P1 := R1.put (dx := dx) (j + 1)
          exact ⟨a, C, dx, _, _, rfl, ha, cl, n2, r2, _, _, rfl, rfl, dx, _, ha, by show 3 < 1000; decide, j + 1, rfl, P1.1, M1.trans P1.2, rfl⟩
      · have hc : ¬ cp s j = some 32 := fun z => hsp (one_sp.mpr z)
        have ej := skip_no hc
        refine ⟨a, C, dx, _, _, rfl, ha, cl, n1, r1, a, C, dx, _, _, rfl, ha, cl, n2, r2, _, rfl, a, C, dx, _, _, rfl, ha, cl, n2, r2, _, rfl, s, rfl, sz, ?_⟩
        rw [cut_one]
        have e : skip s i = j := by rw [← hs, ej]
        rw [e] at q
        exact q H1 R1 M1
    · exact h.elim
end
end Rk

set_option Elab.async false
set_option linter.all false
set_option maxRecDepth 100000
set_option maxHeartbeats 4000000
namespace Rk
open PySem PySem.Spec PyProof.Rows L2 CL Fm
/-- the error of the text -/
def perr (Cp : Addr) (a l : Addr) (p : Nat) (H : Hp) (E : XK) : Prop := ∀ d H2, MB a l H H2 → H2 d = some (.xd [("index", .int (p : Int))]) → E (.ref Cp) (some d) H2
theorem perr.mb {Cp a l : Addr} {p : Nat} {H H1 : Hp} {E : XK} (h : perr Cp a l p H E) (m : MB a l H H1) : perr Cp a l p H1 E := fun d H2 m2 e => h d H2 (m.trans m2) e
def spNeed (C Cp : Addr) : Sp := fun vs H Q E => match vs with
  | [.ref a, .str z] => ∃ l s i ns c, z = ⟨#[c]⟩ ∧ RdAt C H a l s i ns ∧ i ≤ s.length ∧ s.length ≤ 100 ∧
    (if cp s (skip s i) = some c then ∀ H', RdAt C H' a l s (skip s i + 1) ns → MB a l H H' → Q .non H' else perr Cp a l (skip s i) H E)
  | _ => False
/-- a tree in the heap -/
inductive Tr (H : Hp) : V → T → Prop
  | num {b : Addr} {n : Int} : H b = some (.tup [.str "number", .int n]) → Tr H (.ref b) (.num n)
  | nam {b : Addr} {w : Str} : H b = some (.tup [.str "name", .str w]) → Tr H (.ref b) (.nam w)
  | neg {b : Addr} {v : V} {t : T} : H b = some (.tup [.str "minus", v]) → Tr H v t → Tr H (.ref b) (.neg t)
  | op {b : Addr} {o : Str} {v u : V} {t r : T} : H b = some (.tup [.str o, v, u]) → Tr H v t → Tr H u r → Tr H (.ref b) (.op o t r)
theorem Tr.mb {C a l : Addr} {s : Str} {i : Nat} {ns : List Str} {H H' : Hp} (R : RdAt C H a l s i ns) (m : MB a l H H') : ∀ {v : V} {t : T}, Tr H v t → Tr H' v t := by
  obtain ⟨dx, ha⟩ := R.ins
  have k : ∀ {b : Addr} {xs : List V}, H b = some (.tup xs) → H' b = some (.tup xs) := fun {b xs} h => m b _ (ne_of h ha fun z => nomatch z) (ne_of h R.lst fun z => nomatch z) h
  intro v t h
  induction h with
  | num h => exact .num (k h)
  | nam h => exact .nam (k h)
  | neg h _ i1 => exact .neg (k h) i1
  | op h _ _ i1 i2 => exact .op (k h) i1 i2
def rdRes (C Cp a l : Addr) (s : Str) (H : Hp) (Q : VK) (E : XK) : Option R → Prop
  | none => False
  | some (.err p) => perr Cp a l p H E
  | some (.ok t j ns) => ∀ v H', RdAt C H' a l s j ns → MB a l H H' → Tr H' v t → Q v H'
/-- what is read by a method without arguments -/
def spR (C Cp : Addr) (f : Nat) (md : Md) : Sp := fun vs H Q E => match vs with
  | [.ref a] => ∃ l s i ns, RdAt C H a l s i ns ∧ i ≤ s.length ∧ s.length ≤ 100 ∧ rdRes C Cp a l s H Q E (parse s f md i ns)
  | _ => False
/-- a word, at its first letter -/
def spWd (C Cp : Addr) (f : Nat) : Sp := fun vs H Q E => match vs with
  | [.ref a] => ∃ l s i ns c, cp s i = some c ∧ isL c = true ∧ RdAt C H a l s i ns ∧ i ≤ s.length ∧ s.length ≤ 100 ∧ rdRes C Cp a l s H Q E (parse s f .word i ns)
  | _ => False
def spW (C Cp : Addr) (f : Nat) : Sp := fun vs H Q E => match vs with
  | [.ref a, .str w] => ∃ l s i ns, RdAt C H a l s i ns ∧ i ≤ s.length ∧ s.length ≤ 100 ∧ rdRes C Cp a l s H Q E (parse s f (.pair w) i ns)
  | _ => False
def spInt (C Cp : Addr) : Sp := fun vs H Q E => match vs with
  | [.ref a] => ∃ l s i ns c, RdAt C H a l s i ns ∧ cp s i = some c ∧ isD c = true ∧ s.length ≤ 100 ∧ (match intEnd s i i with
    | .error p => perr Cp a l p H E
    | .ok e => ∀ v H', RdAt C H' a l s e ns → MB a l H H' → Tr H' v (.num (val (cut s i e))) → Q v H')
  | _ => False
/-- facts of the class and of the constants -/
structure Tf (P : Program) (w : World) (K : PySem.W.Frag) (mg : Str → Option Value) (base : Heap) (C Cp aP aR : Addr) : Prop where
  cl : Cls K C
  n1 : NoAttr K C "chars"
  n2 : NoAttr K C "spot"
  n3 : NoAttr K C "found_names"
  pe : ErrC P w K mg base "ParseError" Cp "index"
  skip : MetG P w K mg base CX0 3 C "skip" ["self"] (spSkip C)
  int : mg "int" = none
  dig : ∃ t, mg "DIGITS" = some (.str "0123456789" t)
  let_ : ∃ t, mg "LETTERS" = some (.str "abcdefghijklmnopqrstuvwxyz" t)
  md : ∃ t, mg "MAX_DIGITS" = some (.int 31 t)
  ml : ∃ t, mg "MAX_LETTERS" = some (.int 8 t)
  gP : mg "PAIRS" = some (.ref aP)
  gR : mg "RESERVED" = some (.ref aR)
  tP : ∀ H, SqT K H aP [.str "min", .str "max"]
  tR : ∀ H, SqT K H aR [.str "min", .str "max", .str "self"]
theorem one_eq {s : Str} {i c : Nat} : (V.str (one s i) = V.str ⟨#[c]⟩) ↔ cp s i = some c := by
  unfold one
  constructor
  · intro h
    split at h
    · rename_i c' hc
      rw [hc]
      injection h with h
      have : (#[c'] : Array Nat) = #[c] := congrArg Str.cps h
      simpa using this
    · injection h with h
      have := congrArg (fun z => z.cps.size) h
      simp at this
  · intro h
    rw [h]
theorem one_nil {s : Str} {i : Nat} : (V.str (one s i) = V.str "") ↔ cp s i = none := by
  unfold one
  constructor
  · intro h
    split at h
    · injection h with h
      have := congrArg (fun z => z.cps.size) h
      exact absurd this (by simp; decide)
    · assumption
  · intro h
    rw [h]
    rfl
section
variable {P : Program} {w : World} {K : PySem.W.Frag} {mg : Str → Option Value} {base : Heap} {C Cp aP aR : Addr}
abbrev sNeed : Stmt := inClass (topS 15) 2
abbrev nNeed : List Str := ["self", "sign"]
abbrev pNeed : List Str := ["self", "sign"]
theorem scNeed : FnScope nNeed pNeed (defScope sNeed) := ⟨rfl, rfl, rfl, by decide +kernel, rfl, by decide +kernel, by decide +kernel⟩
abbrev sRInt : Stmt := inClass (topS 15) 7
abbrev nRInt : List Str := ["self", "begin", "sign"]
abbrev pRInt : List Str := ["self"]
theorem scRInt : FnScope nRInt pRInt (defScope sRInt) := ⟨rfl, rfl, rfl, by decide +kernel, rfl, by decide +kernel, by decide +kernel⟩
theorem raise_at {a l : Addr} {p : Nat} {H H1 : Hp} {E : XK} (h : perr Cp a l p H E) (m : MB a l H H1) : ∀ d H2, H1 d = none → Same H1 H2 → H2 d = some (.xd [("index", .int (p : Int))]) → E (.ref Cp) (some d) H2 := fun d H2 _ s e => h d H2 (m.trans (.of s)) e
theorem ok_need {f : Addr} {fd : FuncData} (T : Tf P w K mg base C Cp aP aR) (F : Fun K "need" "Reader.need" sNeed f fd) : FnM P w K mg base (L2.CX P w) 10 f fd pNeed (spNeed C Cp) := by
  refine F.okM scNeed (fun vs H Q E h => ?_) (fun cdv A outer s H vs Q E hr h => ?_)
  · unfold spNeed at h
    split at h
    · rfl
    · exact h.elim
  · refine ⟨_, (pss_cons (ps_if (ct_cmp op_ne (pe_mg0 T.skip T.cl pass0 hr (by omega) (cv 0)) (cv 1) (nomark _))
  (pss_one (ps_raise1 T.pe rfl (hr.mono (by omega)) (L2.takes_of rfl rfl rfl rfl) (pe_fld (cv 0) rfl)))
  pss_nil)
  (pss_one (ps_fldaug (cv 0) pe_int ip_add))), ?_⟩
    unfold spNeed at h
    split at h
    · rename_i a z
      obtain ⟨l, s, i, ns, c, rfl, R, hi, hn, q⟩ := h
      obtain ⟨dx, ha⟩ := R.ins
      refine ⟨a, dx, _, rfl, ha, rdF_no s i l _ (by simp), l, s, i, ns, R, hi, hn, fun H1 R1 M1 => ⟨rfl, ?_⟩⟩
      obtain ⟨dx, ha1⟩ := R1.ins
      obtain ⟨r1, r2, r3⟩ := rdF_at s (skip s i) l
      by_cases hc : cp s (skip s i) = some c
      · rw [if_pos hc] at q
        rw [decide_eq_true (one_eq.mpr hc)]
        have P1 := R1.put (dx := dx) (skip s i + 1)
        exact ⟨a, C, dx, _, _, rfl, ha1, T.cl, T.n2, r2, _, _, rfl, rfl, dx, _, ha1, by show 3 < 1000; decide, q _ P1.1 (M1.trans P1.2)⟩
      · rw [if_neg hc] at q
        rw [decide_eq_false (fun z => hc (one_eq.mp z))]
        exact ⟨a, C, dx, _, _, rfl, ha1, T.cl, T.n2, r2, raise_at q M1⟩
    · exact h.elim
theorem isD_mem {c : Nat} : decide (c ∈ ("0123456789" : Str).cps.toList) = isD c := by
  rw [show ("0123456789" : Str).cps.toList = [48, 49, 50, 51, 52, 53, 54, 55, 56, 57] by decide +kernel]
  unfold isD
  rw [Bool.eq_iff_iff]
  simp only [List.mem_cons, List.not_mem_nil, or_false, decide_eq_true_eq]
  omega
theorem isL_mem {c : Nat} : decide (c ∈ ("abcdefghijklmnopqrstuvwxyz" : Str).cps.toList) = isL c := by
  rw [show ("abcdefghijklmnopqrstuvwxyz" : Str).cps.toList = [97, 98, 99, 100, 101, 102, 103, 104, 105, 106, 107, 108, 109, 110, 111, 112, 113, 114, 115, 116, 117, 118, 119, 120, 121, 122] by decide +kernel]
  unfold isL
  rw [Bool.eq_iff_iff]
  simp only [List.mem_cons, List.not_mem_nil, or_false, decide_eq_true_eq]
  omega
theorem cut_digits {s : Str} {i j : Nat} (hj : j ≤ s.length) (h : ∀ k, i ≤ k → k < j → ∃ c, cp s k = some c ∧ isD c = true) : NumText.AllDigits (cut s i j).cps.toList := by
  intro c hc
  have hc : c ∈ (s.cps.toList.drop i).take (j - i) := by simpa [cut] using hc
  obtain ⟨k, hk, e⟩ := List.mem_iff_getElem.mp hc
  have hk' : k < j - i := by have := hk; rw [List.length_take] at this; omega
  obtain ⟨c', h1, h2⟩ := h (i + k) (by omega) (by omega)
  have : c' = c := by
    unfold cp at h1
    rw [List.getElem_take, List.getElem_drop] at e
    obtain ⟨hh, h3⟩ := Array.getElem?_eq_some_iff.mp h1
    rw [← h3, ← e]
    simp
  rw [← this]
  exact of_decide_eq_true h2
theorem cut_len {s : Str} {i j : Nat} (hj : j ≤ s.length) : (cut s i j).length = j - i := by
  show (((s.cps.toList.drop i).take (j - i)).toArray).size = j - i
  rw [List.size_toArray, List.length_take, List.length_drop]
  have : s.cps.toList.length = s.length := by simp; rfl
  omega
theorem ok_int {f : Addr} {fd : FuncData} (T : Tf P w K mg base C Cp aP aR) (F : Fun K "read_integer" "Reader.read_integer" sRInt f fd) : FnM P w K mg base (L2.CX P w) 10 f fd pRInt (spInt C Cp) := by
  have B := T
  obtain ⟨_, hD⟩ := T.dig
  obtain ⟨_, hMD⟩ := T.md
  refine F.okM scRInt (fun vs H Q E h => ?_) (fun cdv A outer s H vs Q E hr h => ?_)
  · unfold spInt at h
    split at h
    · rfl
    · exact h.elim
  · refine ⟨_, (pss_cons (ps_set (i := 1) scRInt.nd rfl (.inl rfl) (pe_fld (cv 0) rfl))
  (pss_cons (ps_whileW (L2.passes_of rfl) (ptw_and2 (ptw_cmp op_ne (pew_named (i := 2) scRInt.nd rfl (.inl rfl) (pew_of (pe_slice sl_str (pe_fld (cv 0) rfl) (po_some (pe_fld (cv 0) rfl)) (po_some (pe_op c_addI (pe_fld (cv 0) rfl) pe_int))))) pe_str (nomark _)) (ct_cmp op_inS (cv 2) (pe_glob (v := .str "0123456789") (by rfl) hD ⟨_, rfl⟩) (by rfl)))
  (pss_cons (ps_if (PW.pt (pw_or (ct_cmp op_eq (pe_op c_sub (pe_fld (cv 0) rfl) (cv 1)) (pe_glob (v := .int 31) (by rfl) hMD ⟨_, rfl⟩) (nomark _)) (pw_or1 (PW.pt (pw_and (ct_cmp op_eq (pe_ix ix_str (pe_fld (cv 0) rfl) (cv 1) (fun _ _ => rfl)) pe_str (nomark _)) (pw_and1 (ct_cmp c_gt (pe_fld (cv 0) rfl) (cv 1) (nomark _))))))))
  (pss_one (ps_raise1 T.pe rfl (hr.mono (by omega)) (L2.takes_of rfl rfl rfl rfl) (pe_fld (cv 0) rfl)))
  pss_nil)
  (pss_one (ps_fldaug (cv 0) pe_int ip_add))) pss_nil)
  (pss_one (ps_ret (pe_tup (pa_cons pe_str (pa_cons (pe_callTy call_int_str (by rfl) B.int (by decide +kernel) (pa_cons (pe_slice sl_str (pe_fld (cv 0) rfl) (po_some (cv 1)) (po_some (pe_fld (cv 0) rfl))) pa_nil)) pa_nil))))))), ?_⟩
    unfold spInt at h
    split at h
    · rename_i a
      obtain ⟨l, s, i, ns, c0, R, hc0, hd0, hn, q⟩ := h
      have sz : s.length ≤ sizeLine := Nat.le_trans hn (by decide)
      have hi := cp_lt hc0
      obtain ⟨dx, ha⟩ := R.ins
      obtain ⟨r1, r2, r3⟩ := rdF_at s i l
      refine ⟨a, C, dx, _, _, rfl, ha, T.cl, T.n2, r2, ?_⟩
      refine ⟨fun m σ H' => ∃ j sg, m = s.length - j ∧ i ≤ j ∧ j ≤ s.length ∧ (∀ k, i ≤ k → k < j → ∃ c, cp s k = some c ∧ isD c = true) ∧ intEnd s i j = intEnd s i i ∧ RdAt C H' a l s j ns ∧ MB a l H H' ∧ σ = [some (.ref a), some (.int (i : Int)), sg], ⟨_, i, _, rfl, Nat.le_refl _, by omega, fun k h1 h2 => by omega, rfl, R, MB.refl, rfl⟩, ?_⟩
      rintro m σ H1 ⟨j, sg, rfl, hij, hjn, hd, he, R1, M1, rfl⟩
      obtain ⟨dx, ha1⟩ := R1.ins
      obtain ⟨r1, r2, r3⟩ := rdF_at s j l
      refine ⟨a, C, dx, _, _, rfl, ha1, T.cl, T.n1, r1, a, C, dx, _, _, rfl, ha1, T.cl, T.n2, r2, _, rfl, a, C, dx, _, _, rfl, ha1, T.cl, T.n2, r2, _, rfl, s, rfl, sz, ?_⟩
      rw [cut_one]
      refine ⟨rfl, _, rfl, ?_⟩
      cases hc : cp s j with
      | none =>
        rw [decide_eq_true (one_nil.mpr hc)]
        have nx : ¬ ∃ c, cp s j = some c ∧ isD c = true := fun ⟨c, h1, _⟩ => by rw [hc] at h1; exact nomatch h1
        have e2 : intEnd s i i = .ok j := he.symm.trans (by rw [intEnd, dif_neg nx])
        rw [e2] at q
        have ij : i < j := Nat.lt_of_le_of_ne hij fun z => nx (z ▸ ⟨c0, hc0, hd0⟩)
        refine ⟨a, C, dx, _, _, rfl, ha1, T.cl, T.n1, r1, _, rfl, a, C, dx, _, _, rfl, ha1, T.cl, T.n2, r2, _, rfl, s, rfl, sz, ?_⟩
        rw [cut_cut hjn hij]
        have cl := cut_len (i := i) hjn
        refine ⟨_, val (cut s i j), rfl, PySem.intText_digits (cut_digits hjn hd) (fun z => ?_) (by omega), by omega, by show 2 ≤ sizeLine; decide, fun v nv => q (.ref v) _ (R1.same (same_new nv)) (M1.trans (.of (same_new nv))) (.num upd_same)⟩
        have : (cut s i j).length = 0 := by show (cut s i j).cps.size = 0; rw [← Array.length_toList, z]; rfl
        omega
      | some c =>
        rw [decide_eq_false (fun z => by have := one_nil.mp z; rw [hc] at this; exact nomatch this)]
        refine ⟨c, _, one_eq.mpr hc, rfl, ?_⟩
        rw [isD_mem]
        cases hdc : isD c with
        | false =>
          have nx : ¬ ∃ c, cp s j = some c ∧ isD c = true := fun ⟨c', h1, h2⟩ => by
            rw [hc] at h1
            cases h1
            rw [hdc] at h2
            exact nomatch h2
          have e2 : intEnd s i i = .ok j := he.symm.trans (by rw [intEnd, dif_neg nx])
          rw [e2] at q
          have ij : i < j := Nat.lt_of_le_of_ne hij fun z => nx (z ▸ ⟨c0, hc0, hd0⟩)
          refine ⟨a, C, dx, _, _, rfl, ha1, T.cl, T.n1, r1, _, rfl, a, C, dx, _, _, rfl, ha1, T.cl, T.n2, r2, _, rfl, s, rfl, sz, ?_⟩
          rw [cut_cut hjn hij]
          have cl := cut_len (i := i) hjn
          refine ⟨_, val (cut s i j), rfl, PySem.intText_digits (cut_digits hjn hd) (fun z => ?_) (by omega), by omega, by show 2 ≤ sizeLine; decide, fun v nv => q (.ref v) _ (R1.same (same_new nv)) (M1.trans (.of (same_new nv))) (.num upd_same)⟩
          have : (cut s i j).length = 0 := by show (cut s i j).cps.size = 0; rw [← Array.length_toList, z]; rfl
          omega
        | true =>
          have yes : ∃ c, cp s j = some c ∧ isD c = true := ⟨c, hc, hdc⟩
          have lt := cp_lt hc
          have step : intEnd s i j = if j - i = 31 ∨ (cp s i = some 48 ∧ i < j) then .error j else intEnd s i (j + 1) := by rw [intEnd, dif_pos yes]
          have bad : (j - i = 31 ∨ (cp s i = some 48 ∧ i < j)) → perr Cp a l j H E := fun z => by
            rw [if_pos z] at step
            rw [← he, step] at q
            exact q
          refine ⟨fun σ' H' => ∃ j', j' = j + 1 ∧ RdAt C H' a l s j' ns ∧ MB a l H H' ∧ σ' = [some (.ref a), some (.int (i : Int)), some (.str (one s j))] ∧ ¬ (j - i = 31 ∨ (cp s i = some 48 ∧ i < j)), ?_, ?_⟩
          · rintro σ' H' ⟨j', rfl, R', M', rfl, nb⟩
            refine ⟨_, by omega, j + 1, _, rfl, by omega, lt, fun k h1 h2 => ?_, ?_, R', M', rfl⟩
            · by_cases hk : k = j
              · exact hk ▸ yes
              · exact hd k h1 (by omega)
            · rw [if_neg nb] at step
              rw [← step]; exact he
          · have fin : ¬ (j - i = 31 ∨ (cp s i = some 48 ∧ i < j)) → ∃ H', H' = upd H1 a (.ins C dx (rdF s (j + 1) l)) ∧ RdAt C H' a l s (j + 1) ns ∧ MB a l H H' := fun _ => by
              have P1 := R1.put (dx := dx) (j + 1)
              exact ⟨_, rfl, P1.1, M1.trans P1.2⟩
            refine ⟨a, C, dx, _, _, rfl, ha1, T.cl, T.n2, r2, rfl, iteD (fun h31 => ?_) (fun h31 => ?_)⟩
            · refine ⟨a, C, dx, _, _, rfl, ha1, T.cl, T.n2, r2, raise_at (bad (.inl ?_)) M1⟩
              injection h31 with h31
              omega
            · have n31 : ¬ j - i = 31 := fun z => h31 (congrArg V.int (by omega : (j : Int) - (i : Int) = 31))
              refine ⟨a, C, dx, _, _, rfl, ha1, T.cl, T.n1, r1, s, _, c0, rfl, rfl, sz, ?_, rfl, iteD (fun h0 => ?_) (fun h0 => ?_)⟩
              · unfold atI ixN
                have hl : s.cps.toList.length = s.length := by simp; rfl
                rw [if_pos (by omega), if_pos (by omega), Option.bind_some, Int.toNat_natCast]
                unfold cp at hc0
                simpa using hc0
              · have e0 : cp s i = some 48 := by
                  rw [hc0]
                  injection h0 with h0
                  have : (#[c0] : Array Nat) = #[48] := congrArg Str.cps h0
                  simpa using this
                refine ⟨a, C, dx, _, _, rfl, ha1, T.cl, T.n2, r2, iteD (fun hlt => ?_) (fun hlt => ?_)⟩
                · exact ⟨a, C, dx, _, _, rfl, ha1, T.cl, T.n2, r2, raise_at (bad (.inr ⟨e0, by omega⟩)) M1⟩
                · have nb : ¬ (j - i = 31 ∨ (cp s i = some 48 ∧ i < j)) := fun z => z.elim n31 fun z => hlt (by omega)
                  have P1 := R1.put (dx := dx) (j + 1)
                  exact ⟨a, C, dx, _, _, rfl, ha1, T.cl, T.n2, r2, _, _, rfl, rfl, dx, _, ha1, by show 3 < 1000; decide, j + 1, rfl, P1.1, M1.trans P1.2, rfl, nb⟩
              · have nb : ¬ (j - i = 31 ∨ (cp s i = some 48 ∧ i < j)) := fun z => z.elim n31 fun z => h0 (by
                  have := z.1
                  rw [hc0] at this
                  injection this with this
                  rw [this]
                  rfl)
                have P1 := R1.put (dx := dx) (j + 1)
                exact ⟨a, C, dx, _, _, rfl, ha1, T.cl, T.n2, r2, _, _, rfl, rfl, dx, _, ha1, by show 3 < 1000; decide, j + 1, rfl, P1.1, M1.trans P1.2, rfl, nb⟩
    · exact h.elim
end
end Rk

set_option Elab.async false
set_option linter.all false
set_option maxRecDepth 100000
set_option maxHeartbeats 4000000
namespace Rk
open PySem PySem.Spec PyProof.Rows L2 CL Fm
structure Tg (P : Program) (w : World) (K : PySem.W.Frag) (mg : Str → Option Value) (base : Heap) (C Cp aP aR : Addr) : Prop extends Tf P w K mg base C Cp aP aR where
  need : MetG P w K mg base (L2.CX P w) 10 C "need" ["self", "sign"] (spNeed C Cp)
  rint : MetG P w K mg base (L2.CX P w) 10 C "read_integer" ["self"] (spInt C Cp)
/-- the methods that read, by the depth -/
structure Ih (P : Program) (w : World) (K : PySem.W.Frag) (mg : Str → Option Value) (base : Heap) (C Cp : Addr) (f : Nat) : Prop where
  sum : MetG P w K mg base (L2.CX P w) (f + 11) C "read_sum" ["self"] (spR C Cp f .sum)
  term : MetG P w K mg base (L2.CX P w) (f + 11) C "read_term" ["self"] (spR C Cp f .term)
  factor : MetG P w K mg base (L2.CX P w) (f + 11) C "read_factor" ["self"] (spR C Cp f .factor)
  word : MetG P w K mg base (L2.CX P w) (f + 11) C "read_word" ["self"] (spWd C Cp f)
  pair : MetG P w K mg base (L2.CX P w) (f + 11) C "read_pair" ["self", "word"] (spW C Cp f)
/-- what is read ends within the text -/
theorem need_le {s : Str} {c i : Nat} {k : Nat → Option R} {t : T} {j : Nat} {ms : List Str} (h : Fm.need s c i k = some (.ok t j ms)) : ∃ i', i' ≤ s.length ∧ i ≤ i' ∧ k i' = some (.ok t j ms) := by
  unfold Fm.need at h
  split at h
  · rename_i hc
    have := cp_lt hc
    have := skip_le (s := s) i
    exact ⟨_, by omega, by omega, h⟩
  · cases h
theorem intEnd_le {s : Str} {b : Nat} : ∀ (n i e : Nat), n = s.length - i → i ≤ s.length → intEnd s b i = .ok e → i ≤ e ∧ e ≤ s.length := by
  intro n
  induction n with
  | zero =>
    intro i e hn hi h
    rw [intEnd] at h
    split at h
    · rename_i hx
      obtain ⟨c, hc, _⟩ := hx
      have := cp_lt hc
      omega
    · cases h
      exact ⟨Nat.le_refl _, hi⟩
  | succ n ih =>
    intro i e hn hi h
    rw [intEnd] at h
    split at h
    · split at h
      · cases h
      · have := ih (i + 1) e (by omega) (by omega) h
        omega
    · cases h
      exact ⟨Nat.le_refl _, hi⟩
theorem wordEnd_le {s : Str} {b : Nat} : ∀ (n i e : Nat), n = s.length - i → i ≤ s.length → wordEnd s b i = .ok e → i ≤ e ∧ e ≤ s.length := by
  intro n
  induction n with
  | zero =>
    intro i e hn hi h
    rw [wordEnd] at h
    split at h
    · rename_i hx
      obtain ⟨c, hc, _⟩ := hx
      have := cp_lt hc
      omega
    · cases h
      exact ⟨Nat.le_refl _, hi⟩
  | succ n ih =>
    intro i e hn hi h
    rw [wordEnd] at h
    split at h
    · split at h
      · cases h
      · have := ih (i + 1) e (by omega) (by omega) h
        omega
    · cases h
      exact ⟨Nat.le_refl _, hi⟩
theorem parse_le {s : Str} : ∀ (f : Nat) (md : Md) (i : Nat) (ns : List Str) (t : T) (j : Nat) (ms : List Str), i ≤ s.length → parse s f md i ns = some (.ok t j ms) → j ≤ s.length := by
  intro f
  induction f with
  | zero => intro md i ns t j ms hi h; cases md <;> cases h
  | succ f ih =>
    intro md i ns t j ms hi h
    have hsk := skip_end (s := s) i hi
    cases md with
    | sum =>
      simp only [parse] at h
      split at h
      · rename_i t1 j1 m1 h1
        exact ih _ _ _ _ _ _ (ih _ _ _ _ _ _ hi h1) h
      · rename_i hx
        exact ih _ _ _ _ _ _ hi h
    | sl t0 =>
      simp only [parse] at h
      split at h
      · rename_i hc
        have lt : skip s i < s.length := hc.elim cp_lt cp_lt
        split at h
        · rename_i u j1 m1 h1
          exact ih _ _ _ _ _ _ (ih _ _ _ _ _ _ lt h1) h
        · exact ih _ _ _ _ _ _ lt h
      · cases h
        exact hsk
    | term =>
      simp only [parse] at h
      split at h
      · rename_i t1 j1 m1 h1
        exact ih _ _ _ _ _ _ (ih _ _ _ _ _ _ hi h1) h
      · exact ih _ _ _ _ _ _ hi h
    | tl t0 =>
      simp only [parse] at h
      split at h
      · rename_i hc
        have lt := cp_lt hc
        split at h
        · rename_i u j1 m1 h1
          exact ih _ _ _ _ _ _ (ih _ _ _ _ _ _ lt h1) h
        · exact ih _ _ _ _ _ _ lt h
      · split at h
        · split at h
          · rename_i hc
            have lt := cp_lt hc
            split at h
            · rename_i u j1 m1 h1
              exact ih _ _ _ _ _ _ (ih _ _ _ _ _ _ (by omega) h1) h
            · exact ih _ _ _ _ _ _ (by omega) h
          · cases h
        · cases h
          exact hsk
    | factor =>
      simp only [parse] at h
      split at h
      · cases h
      · rename_i c hc
        have lt := cp_lt hc
        split at h
        · split at h
          · rename_i t1 j1 m1 h1
            cases h
            exact ih _ _ _ _ _ _ lt h1
          · exact ih _ _ _ _ _ _ lt h
        · split at h
          · split at h
            · rename_i t1 j1 m1 h1
              obtain ⟨i', l1, _, l3⟩ := need_le h
              cases l3
              exact l1
            · exact ih _ _ _ _ _ _ lt h
          · split at h
            · split at h
              · cases h
              · rename_i e he
                cases h
                exact (intEnd_le _ _ _ rfl hsk he).2
            · split at h
              · exact ih _ _ _ _ _ _ hsk h
              · cases h
    | word =>
      simp only [parse] at h
      split at h
      · cases h
      · rename_i e he
        have le := (wordEnd_le _ _ _ rfl hi he).2
        split at h
        · exact ih _ _ _ _ _ _ le h
        · split at h
          · cases h
          · cases h
            exact le
    | pair w =>
      simp only [parse] at h
      obtain ⟨i1, a1, _, h⟩ := need_le h
      split at h
      · rename_i t1 j1 m1 h1
        obtain ⟨i2, a2, _, h⟩ := need_le h
        split at h
        · rename_i t2 j2 m2 h2
          obtain ⟨i3, a3, _, h⟩ := need_le h
          cases h
          exact a3
        · exact ih _ _ _ _ _ _ a2 h
      · exact ih _ _ _ _ _ _ a1 h
theorem parse_mono {s : Str} : ∀ (g : Nat) (md : Md) (i : Nat) (ns : List Str) (r : R), parse s g md i ns = some r → parse s (g + 1) md i ns = some r := by
  intro g
  induction g with
  | zero => intro md i ns r h; cases md <;> cases h
  | succ g ih =>
    intro md i ns r h
    cases md with
    | sum =>
      rw [parse] at h ⊢
      cases h1 : parse s g .term i ns with
      | none => rw [h1] at h; cases h
      | some r1 =>
        rw [h1] at h
        rw [ih _ _ _ _ h1]
        cases r1 with
        | err p => exact h
        | ok t j ms => exact ih _ _ _ _ h
    | sl t0 =>
      rw [parse] at h ⊢
      split
      · rename_i hc
        rw [if_pos hc] at h
        cases h1 : parse s g .term (skip s i + 1) ns with
        | none => rw [h1] at h; cases h
        | some r1 =>
          rw [h1] at h
          rw [ih _ _ _ _ h1]
          cases r1 with
          | err p => exact h
          | ok t j ms => exact ih _ _ _ _ h
      · rename_i hc
        rw [if_neg hc] at h
        exact h
    | term =>
      rw [parse] at h ⊢
      cases h1 : parse s g .factor i ns with
      | none => rw [h1] at h; cases h
      | some r1 =>
        rw [h1] at h
        rw [ih _ _ _ _ h1]
        cases r1 with
        | err p => exact h
        | ok t j ms => exact ih _ _ _ _ h
    | tl t0 =>
      rw [parse] at h ⊢
      split
      · rename_i hc
        rw [if_pos hc] at h
        cases h1 : parse s g .factor (skip s i + 1) ns with
        | none => rw [h1] at h; cases h
        | some r1 =>
          rw [h1] at h
          rw [ih _ _ _ _ h1]
          cases r1 with
          | err p => exact h
          | ok t j ms => exact ih _ _ _ _ h
      · rename_i hc
        rw [if_neg hc] at h
        split
        · rename_i hd
          rw [if_pos hd] at h
          split
          · rename_i he
            rw [if_pos he] at h
            cases h1 : parse s g .factor (skip s i + 2) ns with
            | none => rw [h1] at h; cases h
            | some r1 =>
              rw [h1] at h
              rw [ih _ _ _ _ h1]
              cases r1 with
              | err p => exact h
              | ok t j ms => exact ih _ _ _ _ h
          · rename_i he
            rw [if_neg he] at h
            exact h
        · rename_i hd
          rw [if_neg hd] at h
          exact h
    | factor =>
      rw [parse] at h ⊢
      cases hc : cp s (skip s i) with
      | none => rw [hc] at h; exact h
      | some c =>
        rw [hc] at h
        dsimp only at h ⊢
        split
        · rename_i h45
          rw [if_pos h45] at h
          cases h1 : parse s g .factor (skip s i + 1) ns with
          | none => rw [h1] at h; cases h
          | some r1 =>
            rw [h1] at h
            rw [ih _ _ _ _ h1]
            exact h
        · rename_i h45
          rw [if_neg h45] at h
          split
          · rename_i h40
            rw [if_pos h40] at h
            cases h1 : parse s g .sum (skip s i + 1) ns with
            | none => rw [h1] at h; cases h
            | some r1 =>
              rw [h1] at h
              rw [ih _ _ _ _ h1]
              exact h
          · rename_i h40
            rw [if_neg h40] at h
            split
            · rename_i hd
              rw [if_pos hd] at h
              exact h
            · rename_i hd
              rw [if_neg hd] at h
              split
              · rename_i hl
                rw [if_pos hl] at h
                exact ih _ _ _ _ h
              · rename_i hl
                rw [if_neg hl] at h
                exact h
    | word =>
      rw [parse] at h ⊢
      cases he : wordEnd s i i with
      | error p => rw [he] at h; exact h
      | ok e =>
        rw [he] at h
        dsimp only at h ⊢
        split
        · rename_i hp
          rw [if_pos hp] at h
          exact ih _ _ _ _ h
        · rename_i hp
          rw [if_neg hp] at h
          exact h
    | pair w =>
      rw [parse] at h ⊢
      unfold Fm.need at h ⊢
      split
      · rename_i h40
        rw [if_pos h40] at h
        dsimp only at h ⊢
        cases h1 : parse s g .sum (skip s i + 1) ns with
        | none => rw [h1] at h; cases h
        | some r1 =>
          rw [h1] at h
          rw [ih _ _ _ _ h1]
          cases r1 with
          | err p => exact h
          | ok t j ms =>
            dsimp only at h ⊢
            split
            · rename_i h44
              rw [if_pos h44] at h
              cases h2 : parse s g .sum (skip s j + 1) ms with
              | none => rw [h2] at h; cases h
              | some r2 =>
                rw [h2] at h
                rw [ih _ _ _ _ h2]
                exact h
            · rename_i h44
              rw [if_neg h44] at h
              exact h
      · rename_i h40
        rw [if_neg h40] at h
        exact h
theorem parse_up {s : Str} {g f : Nat} (h : g ≤ f) {md : Md} {i : Nat} {ns : List Str} {r : R} (e : parse s g md i ns = some r) : parse s f md i ns = some r := by
  induction h with
  | refl => exact e
  | step _ ih => exact parse_mono _ _ _ _ _ ih
section
variable {P : Program} {w : World} {K : PySem.W.Frag} {mg : Str → Option Value} {base : Heap} {C Cp aP aR : Addr} {f : Nat}
abbrev sRSum : Stmt := inClass (topS 15) 4
abbrev nRSum : List Str := ["self", "tree", "sign"]
abbrev pRSum : List Str := ["self"]
theorem scRSum : FnScope nRSum pRSum (defScope sRSum) := ⟨rfl, rfl, rfl, by decide +kernel, rfl, by decide +kernel, by decide +kernel⟩
abbrev sRTerm : Stmt := inClass (topS 15) 5
abbrev nRTerm : List Str := ["self", "tree", "sign"]
abbrev pRTerm : List Str := ["self"]
theorem scRTerm : FnScope nRTerm pRTerm (defScope sRTerm) := ⟨rfl, rfl, rfl, by decide +kernel, rfl, by decide +kernel, by decide +kernel⟩
abbrev sRFac : Stmt := inClass (topS 15) 6
abbrev nRFac : List Str := ["self", "sign", "tree"]
abbrev pRFac : List Str := ["self"]
theorem scRFac : FnScope nRFac pRFac (defScope sRFac) := ⟨rfl, rfl, rfl, by decide +kernel, rfl, by decide +kernel, by decide +kernel⟩
abbrev sRWord : Stmt := inClass (topS 15) 8
abbrev nRWord : List Str := ["self", "begin", "sign", "word"]
abbrev pRWord : List Str := ["self"]
theorem scRWord : FnScope nRWord pRWord (defScope sRWord) := ⟨rfl, rfl, rfl, by decide +kernel, rfl, by decide +kernel, by decide +kernel⟩
abbrev sRPair : Stmt := inClass (topS 15) 9
abbrev nRPair : List Str := ["self", "word", "one", "other"]
abbrev pRPair : List Str := ["self", "word"]
theorem scRPair : FnScope nRPair pRPair (defScope sRPair) := ⟨rfl, rfl, rfl, by decide +kernel, rfl, by decide +kernel, by decide +kernel⟩
end
end Rk

set_option Elab.async false
set_option linter.all false
set_option maxRecDepth 100000
set_option maxHeartbeats 4000000
namespace Rk
open PySem PySem.Spec PyProof.Rows L2 CL Fm
theorem inV2 {s : Str} {i c d : Nat} : inV (.str (one s i)) [.str ⟨#[c]⟩, .str ⟨#[d]⟩] = decide (cp s i = some c ∨ cp s i = some d) := by
  have e : ∀ x : Nat, (⟨#[x]⟩ : Str) == one s i ↔ cp s i = some x := fun x => by
    rw [beq_iff_eq, eq_comm]
    constructor
    · intro h; exact one_eq.mp (congrArg V.str h)
    · intro h; exact V.str.inj (one_eq.mpr h)
  rw [Bool.eq_iff_iff]
  simp only [inV, List.any_cons, List.any_nil, Bool.or_false, eqV, Bool.or_eq_true, decide_eq_true_eq, e]
section
variable {P : Program} {w : World} {K : PySem.W.Frag} {mg : Str → Option Value} {base : Heap} {C Cp aP aR : Addr} {f : Nat}
theorem ok_sum {fn : Addr} {fd : FuncData} (T : Tg P w K mg base C Cp aP aR) (IH : Ih P w K mg base C Cp f) (F : Fun K "read_sum" "Reader.read_sum" sRSum fn fd) : FnM P w K mg base (L2.CX P w) (f + 12) fn fd pRSum (spR C Cp (f + 1) .sum) := by
  refine F.okM scRSum (fun vs H Q E h => ?_) (fun cdv A outer s H vs Q E hr h => ?_)
  · unfold spR at h
    split at h
    · rfl
    · exact h.elim
  · refine ⟨_, (pss_cons (ps_set (i := 1) scRSum.nd rfl (.inl rfl) (pe_mg0 IH.term T.cl (passes_call (L2.takes_of rfl rfl rfl rfl) (fun _ _ _ _ h => h)) hr (by omega) (cv 0)))
  (pss_cons (ps_whileW (L2.passes_of rfl) (ptw_cmp op_in_seq (pew_named (i := 2) scRSum.nd rfl (.inl rfl) (pew_of (pe_mg0 T.skip T.cl pass0 hr (by omega) (cv 0)))) (pe_tup (pa_cons pe_str (pa_cons pe_str pa_nil))) (by rfl))
  (pss_cons (ps_fldaug (cv 0) pe_int ip_add)
  (pss_one (ps_set (i := 1) scRSum.nd rfl (.inl rfl) (pe_tup (pa_cons (cv 2) (pa_cons (cv 1) (pa_cons (pe_mg0 IH.term T.cl (passes_call (L2.takes_of rfl rfl rfl rfl) (fun _ _ _ _ h => h)) hr (by omega) (cv 0)) pa_nil))))))) pss_nil)
  (pss_one (ps_ret (cv 1))))), ?_⟩
    unfold spR at h
    split at h
    · rename_i a
      obtain ⟨l, s, i, ns, R, hi, hn, q⟩ := h
      obtain ⟨dx, ha⟩ := R.ins
      refine ⟨a, dx, _, rfl, ha, rdF_no s i l _ (by simp), l, s, i, ns, R, hi, hn, ?_⟩
      cases ht : parse s f .term i ns with
      | none =>
        have e : parse s (f + 1) .sum i ns = none := by rw [parse, ht]
        rw [e] at q
        exact q.elim
      | some r =>
        cases r with
        | err p =>
          have e : parse s (f + 1) .sum i ns = some (.err p) := by rw [parse, ht]
          rw [e] at q
          exact q
        | ok t j ms =>
          have e : parse s (f + 1) .sum i ns = parse s f (.sl t) j ms := by rw [parse, ht]
          rw [e] at q
          intro v H1 R1 M1 tr1
          have hj := parse_le _ _ _ _ _ _ _ hi ht
          refine ⟨fun m σ H' => ∃ t' j' ms' v' sg, m ≤ f ∧ parse s m (.sl t') j' ms' = parse s f (.sl t) j ms ∧ j' ≤ s.length ∧ RdAt C H' a l s j' ms' ∧ MB a l H H' ∧ Tr H' v' t' ∧ σ = [some (.ref a), some v', sg], ⟨f, t, j, ms, v, _, Nat.le_refl _, rfl, hj, R1, M1, tr1, rfl⟩, ?_⟩
          rintro m σ H2 ⟨t', j', ms', v', sg, hm, hp, hj', R2, M2, tr2, rfl⟩
          cases m with
          | zero =>
            rw [← hp] at q
            exact q.elim
          | succ g =>
            obtain ⟨dx, ha2⟩ := R2.ins
            refine ⟨a, dx, _, rfl, ha2, rdF_no s j' l _ (by simp), l, s, j', ms', R2, hj', hn, fun H3 R3 M3 => ?_⟩
            refine ⟨by show 2 ≤ sizeLine; decide, fun tp ntp => ⟨tp, _, rfl, .inr (.inl (.inl upd_same)), rfl, rfl, _, rfl, ?_⟩⟩
            have s4 := same_new (o := .tup [.str "+", .str "-"]) ntp
            have R4 := R3.same s4
            have M4 := (M2.trans M3).trans (.of s4)
            have tr4 := (tr2.mb R2 M3).mb R3 (.of s4)
            obtain ⟨dx, ha4⟩ := R4.ins
            obtain ⟨r1, r2, r3⟩ := rdF_at s (skip s j') l
            show if inV (.str (one s (skip s j'))) [.str ⟨#[43]⟩, .str ⟨#[45]⟩] = true then _ else _
            rw [inV2]
            refine iteD (fun hc => ?_) (fun hc => ?_)
            · have lt : skip s j' < s.length := hc.elim cp_lt cp_lt
              have P5 := R4.put (dx := dx) (skip s j' + 1)
              refine ⟨fun σ' H' => ∃ t2 j2 ms2 v2 sg2, parse s g (.sl t2) j2 ms2 = parse s f (.sl t) j ms ∧ j2 ≤ s.length ∧ RdAt C H' a l s j2 ms2 ∧ MB a l H H' ∧ Tr H' v2 t2 ∧ σ' = [some (.ref a), some v2, sg2], ?_, ?_⟩
              · rintro σ' H' ⟨t2, j2, ms2, v2, sg2, x1, x2, x3, x4, x5, rfl⟩
                exact ⟨g, Nat.lt_succ_self _, t2, j2, ms2, v2, sg2, by omega, x1, x2, x3, x4, x5, rfl⟩
              · refine ⟨a, C, dx, _, _, rfl, ha4, T.cl, T.n2, r2, _, _, rfl, rfl, dx, _, ha4, by show 3 < 1000; decide, ?_⟩
                refine ⟨a, dx, _, rfl, upd_same, rdF_no s (skip s j' + 1) l _ (by simp), l, s, skip s j' + 1, ms', P5.1, lt, hn, ?_⟩
                cases h2 : parse s g .term (skip s j' + 1) ms' with
                | none =>
                  have e2 : parse s (g + 1) (.sl t') j' ms' = none := by rw [parse, if_pos hc, h2]
                  rw [← hp, e2] at q
                  exact q.elim
                | some r =>
                  rw [parse_up (by omega) h2]
                  cases r with
                  | err p =>
                    have e2 : parse s (g + 1) (.sl t') j' ms' = some (.err p) := by rw [parse, if_pos hc, h2]
                    rw [← hp, e2] at q
                    exact perr.mb q (M4.trans P5.2)
                  | ok u k ls =>
                    have e2 : parse s (g + 1) (.sl t') j' ms' = parse s g (.sl (.op (one s (skip s j')) t' u)) k ls := by rw [parse, if_pos hc, h2]
                    intro v6 H6 R6 M6 tr6
                    refine ⟨by show 3 ≤ sizeLine; decide, fun b nb => ?_⟩
                    have s7 := same_new (o := .tup [.str (one s (skip s j')), v', v6]) nb
                    have tr7 := ((tr4.mb R4 P5.2).mb P5.1 M6).mb R6 (.of s7)
                    exact ⟨_, k, ls, _, _, e2.symm.trans hp, parse_le _ _ _ _ _ _ _ lt h2, R6.same s7, ((M4.trans P5.2).trans M6).trans (.of s7), .op upd_same tr7 (tr6.mb R6 (.of s7)), rfl⟩
            · have e2 : parse s (g + 1) (.sl t') j' ms' = some (.ok t' (skip s j') ms') := by rw [parse, if_neg hc]
              rw [← hp, e2] at q
              exact q v' _ R4 M4 tr4
    · exact h.elim
theorem ok_term {fn : Addr} {fd : FuncData} (T : Tg P w K mg base C Cp aP aR) (IH : Ih P w K mg base C Cp f) (F : Fun K "read_term" "Reader.read_term" sRTerm fn fd) : FnM P w K mg base (L2.CX P w) (f + 12) fn fd pRTerm (spR C Cp (f + 1) .term) := by
  refine F.okM scRTerm (fun vs H Q E h => ?_) (fun cdv A outer s H vs Q E hr h => ?_)
  · unfold spR at h
    split at h
    · rfl
    · exact h.elim
  · refine ⟨_, (pss_cons (ps_set (i := 1) scRTerm.nd rfl (.inl rfl) (pe_mg0 IH.factor T.cl (passes_call (L2.takes_of rfl rfl rfl rfl) (fun _ _ _ _ h => h)) hr (by omega) (cv 0)))
  (pss_cons (ps_whileW (L2.passes_of rfl) (ptw_cmp op_in_seq (pew_named (i := 2) scRTerm.nd rfl (.inl rfl) (pew_of (pe_mg0 T.skip T.cl pass0 hr (by omega) (cv 0)))) (pe_tup (pa_cons pe_str (pa_cons pe_str pa_nil))) (by rfl))
  (pss_cons (ps_fldaug (cv 0) pe_int ip_add)
  (pss_cut (ps_if (ct_cmp op_eq (cv 2) pe_str (nomark _))
  (pss_cons (ps_if (ct_cmp op_ne (pe_slice sl_str (pe_fld (cv 0) rfl) (po_some (pe_fld (cv 0) rfl)) (po_some (pe_op c_addI (pe_fld (cv 0) rfl) pe_int))) pe_str (nomark _))
  (pss_one (ps_raise1 T.pe rfl (hr.mono (by omega)) (L2.takes_of rfl rfl rfl rfl) (pe_fld (cv 0) rfl)))
  pss_nil)
  (pss_one (ps_fldaug (cv 0) pe_int ip_add)))
  pss_nil)
  (pss_one (ps_set (i := 1) scRTerm.nd rfl (.inl rfl) (pe_tup (pa_cons (pe_ifExp (ct_cmp op_eq (cv 2) pe_str (nomark _)) pe_str pe_str) (pa_cons (cv 1) (pa_cons (pe_mg0 IH.factor T.cl (passes_call (L2.takes_of rfl rfl rfl rfl) (fun _ _ _ _ h => h)) hr (by omega) (cv 0)) pa_nil)))))))) pss_nil)
  (pss_one (ps_ret (cv 1))))), ?_⟩
    unfold spR at h
    split at h
    · rename_i a
      obtain ⟨l, s, i, ns, R, hi, hn, q⟩ := h
      have sz : s.length ≤ sizeLine := Nat.le_trans hn (by decide)
      obtain ⟨dx, ha⟩ := R.ins
      refine ⟨a, dx, _, rfl, ha, rdF_no s i l _ (by simp), l, s, i, ns, R, hi, hn, ?_⟩
      cases ht : parse s f .factor i ns with
      | none =>
        have e : parse s (f + 1) .term i ns = none := by rw [parse, ht]
        rw [e] at q
        exact q.elim
      | some r =>
        cases r with
        | err p =>
          have e : parse s (f + 1) .term i ns = some (.err p) := by rw [parse, ht]
          rw [e] at q
          exact q
        | ok t j ms =>
          have e : parse s (f + 1) .term i ns = parse s f (.tl t) j ms := by rw [parse, ht]
          rw [e] at q
          intro v H1 R1 M1 tr1
          have hj := parse_le _ _ _ _ _ _ _ hi ht
          refine ⟨fun m σ H' => ∃ t' j' ms' v' sg, m ≤ f ∧ parse s m (.tl t') j' ms' = parse s f (.tl t) j ms ∧ j' ≤ s.length ∧ RdAt C H' a l s j' ms' ∧ MB a l H H' ∧ Tr H' v' t' ∧ σ = [some (.ref a), some v', sg], ⟨f, t, j, ms, v, _, Nat.le_refl _, rfl, hj, R1, M1, tr1, rfl⟩, ?_⟩
          rintro m σ H2 ⟨t', j', ms', v', sg, hm, hp, hj', R2, M2, tr2, rfl⟩
          cases m with
          | zero =>
            rw [← hp] at q
            exact q.elim
          | succ g =>
            obtain ⟨dx, ha2⟩ := R2.ins
            refine ⟨a, dx, _, rfl, ha2, rdF_no s j' l _ (by simp), l, s, j', ms', R2, hj', hn, fun H3 R3 M3 => ?_⟩
            refine ⟨by show 2 ≤ sizeLine; decide, fun tp ntp => ⟨tp, _, rfl, .inr (.inl (.inl upd_same)), rfl, rfl, _, rfl, ?_⟩⟩
            have s4 := same_new (o := .tup [.str "*", .str "/"]) ntp
            have R4 := R3.same s4
            have M4 := (M2.trans M3).trans (.of s4)
            have tr4 := (tr2.mb R2 M3).mb R3 (.of s4)
            obtain ⟨dx, ha4⟩ := R4.ins
            obtain ⟨r1, r2, r3⟩ := rdF_at s (skip s j') l
            show if inV (.str (one s (skip s j'))) [.str ⟨#[42]⟩, .str ⟨#[47]⟩] = true then _ else _
            rw [inV2]
            refine iteD (fun hc => ?_) (fun hc => ?_)
            · have lt : skip s j' < s.length := hc.elim cp_lt cp_lt
              have P5 := R4.put (dx := dx) (skip s j' + 1)
              -- from the place behind the sign on
              have call : ∀ (p : Nat) (on : Str) (H5 : Hp), p ≤ s.length → RdAt C H5 a l s p ms' → MB a l H H5 → Tr H5 v' t' →
                  (parse s (g + 1) (.tl t') j' ms' = match parse s g .factor p ms' with
                    | some (.ok u k ls) => parse s g (.tl (.op on t' u)) k ls
                    | r => r) → ∀ (QQ : V → Hp → Prop), (∀ v6 H6 u k ls, RdAt C H6 a l s k ls → MB a l H H6 → k ≤ s.length → Tr H6 v' t' → Tr H6 v6 u → parse s g (.tl (.op on t' u)) k ls = parse s f (.tl t) j ms → QQ v6 H6) → rdRes C Cp a l s H5 QQ E (parse s f .factor p ms') := by
                intro p on H5 hp5 R5 M5 tr5 e2 QQ hQ
                cases h2 : parse s g .factor p ms' with
                | none =>
                  rw [h2] at e2
                  rw [← hp, e2] at q
                  exact q.elim
                | some r =>
                  rw [h2] at e2
                  rw [parse_up (by omega) h2]
                  cases r with
                  | err p =>
                    rw [← hp, e2] at q
                    exact perr.mb q M5
                  | ok u k ls =>
                    intro v6 H6 R6 M6 tr6
                    exact hQ v6 H6 u k ls R6 (M5.trans M6) (parse_le _ _ _ _ _ _ _ hp5 h2) (tr5.mb R5 M6) tr6 (e2.symm.trans hp)
              refine ⟨fun σ' H' => ∃ t2 j2 ms2 v2 sg2, parse s g (.tl t2) j2 ms2 = parse s f (.tl t) j ms ∧ j2 ≤ s.length ∧ RdAt C H' a l s j2 ms2 ∧ MB a l H H' ∧ Tr H' v2 t2 ∧ σ' = [some (.ref a), some v2, sg2], ?_, ?_⟩
              · rintro σ' H' ⟨t2, j2, ms2, v2, sg2, x1, x2, x3, x4, x5, rfl⟩
                exact ⟨g, Nat.lt_succ_self _, t2, j2, ms2, v2, sg2, by omega, x1, x2, x3, x4, x5, rfl⟩
              · refine ⟨a, C, dx, _, _, rfl, ha4, T.cl, T.n2, r2, _, _, rfl, rfl, dx, _, ha4, by show 3 < 1000; decide, ?_⟩
                obtain ⟨q1, q2, q3⟩ := rdF_at s (skip s j' + 1) l
                refine ⟨fun σ' H' => σ' = [some (.ref a), some v', some (.str (one s (skip s j')))] ∧ ∃ p, RdAt C H' a l s p ms' ∧ MB a l H H' ∧ Tr H' v' t' ∧ p ≤ s.length ∧ (cp s (skip s j') = some 42 ∧ p = skip s j' + 1 ∨ cp s (skip s j') = some 47 ∧ cp s (skip s j' + 1) = some 47 ∧ p = skip s j' + 2), ?_, ?_⟩
                · refine ⟨rfl, iteD (fun hs => ?_) (fun hs => ?_)⟩
                  · have c47 : cp s (skip s j') = some 47 := one_eq.mp hs
                    refine ⟨a, C, dx, _, _, rfl, upd_same, T.cl, T.n1, q1, a, C, dx, _, _, rfl, upd_same, T.cl, T.n2, q2, _, rfl, a, C, dx, _, _, rfl, upd_same, T.cl, T.n2, q2, _, rfl, s, rfl, sz, ?_⟩
                    rw [cut_one]
                    refine ⟨rfl, ?_⟩
                    by_cases hx : cp s (skip s j' + 1) = some 47
                    · rw [decide_eq_true (show V.str (one s (skip s j' + 1)) = V.str "/" from one_eq.mpr hx)]
                      have P6 := P5.1.put (dx := dx) (skip s j' + 2)
                      exact ⟨a, C, dx, _, _, rfl, upd_same, T.cl, T.n2, q2, _, _, rfl, rfl, dx, _, upd_same, by show 3 < 1000; decide, rfl, skip s j' + 2, P6.1, (M4.trans P5.2).trans P6.2, (tr4.mb R4 P5.2).mb P5.1 P6.2, cp_lt hx, .inr ⟨c47, hx, rfl⟩⟩
                    · rw [decide_eq_false (show ¬ V.str (one s (skip s j' + 1)) = V.str "/" from fun z => hx (one_eq.mp z))]
                      have e2 : parse s (g + 1) (.tl t') j' ms' = some (.err (skip s j' + 1)) := by rw [parse, if_neg (by rw [c47]; simp), if_pos c47, if_neg hx]
                      rw [← hp, e2] at q
                      exact ⟨a, C, dx, _, _, rfl, upd_same, T.cl, T.n2, q2, raise_at q (M4.trans P5.2)⟩
                  · have c42 : cp s (skip s j') = some 42 := hc.resolve_right fun z => hs (one_eq.mpr z)
                    exact ⟨rfl, skip s j' + 1, P5.1, M4.trans P5.2, tr4.mb R4 P5.2, lt, .inl ⟨c42, rfl⟩⟩
                · rintro σ' H6 ⟨rfl, p, R6, M6, tr6, hp6, hw⟩
                  obtain ⟨dx, ha6⟩ := R6.ins
                  rcases hw with ⟨c42, rfl⟩ | ⟨c47, cx, rfl⟩
                  · refine ⟨rfl, ?_⟩
                    rw [decide_eq_true (show V.str (one s (skip s j')) = V.str "*" from one_eq.mpr c42)]
                    refine ⟨a, dx, _, rfl, ha6, rdF_no s _ l _ (by simp), l, s, _, ms', R6, hp6, hn, call _ "*" H6 hp6 R6 M6 tr6 (by rw [parse, if_pos c42] <;> (rcases parse s g .factor (skip s j' + 1) ms' with _ | (_ | _) <;> rfl)) _ fun v7 H7 u k ls R7 M7 hk7 tr7 tr8 e7 => ⟨by show 3 ≤ sizeLine; decide, fun b nb => ?_⟩⟩
                    have s8 := same_new (o := .tup [.str "*", v', v7]) nb
                    exact ⟨_, k, ls, _, _, e7, hk7, R7.same s8, M7.trans (.of s8), .op upd_same (tr7.mb R7 (.of s8)) (tr8.mb R7 (.of s8)), rfl⟩
                  · refine ⟨rfl, ?_⟩
                    rw [decide_eq_false (show ¬ V.str (one s (skip s j')) = V.str "*" from fun z => by have := one_eq.mp z; rw [c47] at this; exact absurd this (by simp))]
                    refine ⟨a, dx, _, rfl, ha6, rdF_no s _ l _ (by simp), l, s, _, ms', R6, hp6, hn, call _ "//" H6 hp6 R6 M6 tr6 (by rw [parse, if_neg (by rw [c47]; simp), if_pos c47, if_pos cx] <;> (rcases parse s g .factor (skip s j' + 2) ms' with _ | (_ | _) <;> rfl)) _ fun v7 H7 u k ls R7 M7 hk7 tr7 tr8 e7 => ⟨by show 3 ≤ sizeLine; decide, fun b nb => ?_⟩⟩
                    have s8 := same_new (o := .tup [.str "//", v', v7]) nb
                    exact ⟨_, k, ls, _, _, e7, hk7, R7.same s8, M7.trans (.of s8), .op upd_same (tr7.mb R7 (.of s8)) (tr8.mb R7 (.of s8)), rfl⟩
            · have e2 : parse s (g + 1) (.tl t') j' ms' = some (.ok t' (skip s j') ms') := by rw [parse, if_neg (fun z => hc (.inl z)), if_neg (fun z => hc (.inr z))]
              rw [← hp, e2] at q
              exact q v' _ R4 M4 tr4
    · exact h.elim
end
end Rk

set_option Elab.async false
set_option linter.all false
set_option maxRecDepth 100000
set_option maxHeartbeats 4000000
set_option pp.maxSteps 100
namespace Rk
open PySem PySem.Spec PyProof.Rows L2 CL Fm
section
variable {P : Program} {w : World} {K : PySem.W.Frag} {mg : Str → Option Value} {base : Heap} {C Cp aP aR : Addr} {f : Nat}
theorem ok_factor {fn : Addr} {fd : FuncData} (T : Tg P w K mg base C Cp aP aR) (IH : Ih P w K mg base C Cp f) (F : Fun K "read_factor" "Reader.read_factor" sRFac fn fd) : FnM P w K mg base (L2.CX P w) (f + 12) fn fd pRFac (spR C Cp (f + 1) .factor) := by
  obtain ⟨_, hD⟩ := T.dig
  obtain ⟨_, hLt⟩ := T.let_
  refine F.okM scRFac (fun vs H Q E h => ?_) (fun cdv A outer s H vs Q E hr h => ?_)
  · unfold spR at h
    split at h
    · rfl
    · exact h.elim
  · refine ⟨_, (pss_cons (ps_set (i := 1) scRFac.nd rfl (.inl rfl) (pe_mg0 T.skip T.cl pass0 hr (by omega) (cv 0)))
  (pss_cons (ps_if (ct_cmp op_eq (cv 1) pe_str (nomark _))
  (pss_cons (ps_fldaug (cv 0) pe_int ip_add)
  (pss_one (ps_ret (pe_tup (pa_cons pe_str (pa_cons (pe_mg0 IH.factor T.cl (passes_call (L2.takes_of rfl rfl rfl rfl) (fun _ _ _ _ h => h)) hr (by omega) (cv 0)) pa_nil))))))
  pss_nil)
  (pss_cons (ps_if (ct_cmp op_eq (cv 1) pe_str (nomark _))
  (pss_cons (ps_fldaug (cv 0) pe_int ip_add)
  (pss_cons (ps_set (i := 2) scRFac.nd rfl (.inl rfl) (pe_mg0 IH.sum T.cl (passes_call (L2.takes_of rfl rfl rfl rfl) (fun _ _ _ _ h => h)) hr (by omega) (cv 0)))
  (pss_cons (ps_expr (pe_mg T.need T.cl (passes_call (L2.takes_of rfl rfl rfl rfl) (fun _ _ _ _ h => h)) hr (by omega) (cv 0) (pa_cons pe_str pa_nil)))
  (pss_one (ps_ret (cv 2))))))
  pss_nil)
  (pss_cons (ps_if (PW.pt (pw_and (ct_cmp op_ne (cv 1) pe_str (nomark _)) (pw_and1 (ct_cmp op_inS (cv 1) (pe_glob (v := .str "0123456789") (by rfl) hD ⟨_, rfl⟩) (by rfl)))))
  (pss_one (ps_ret (pe_mg0 T.rint T.cl (passes_call (L2.takes_of rfl rfl rfl rfl) (fun _ _ _ _ h => h)) hr (by omega) (cv 0))))
  pss_nil)
  (pss_cons (ps_if (PW.pt (pw_and (ct_cmp op_ne (cv 1) pe_str (nomark _)) (pw_and1 (ct_cmp op_inS (cv 1) (pe_glob (v := .str "abcdefghijklmnopqrstuvwxyz") (by rfl) hLt ⟨_, rfl⟩) (by rfl)))))
  (pss_one (ps_ret (pe_mg0 IH.word T.cl (passes_call (L2.takes_of rfl rfl rfl rfl) (fun _ _ _ _ h => h)) hr (by omega) (cv 0))))
  pss_nil)
  (pss_one (ps_raise1 T.pe rfl (hr.mono (by omega)) (L2.takes_of rfl rfl rfl rfl) (pe_fld (cv 0) rfl)))))))), ?_⟩
    unfold spR at h
    split at h
    · rename_i a
      obtain ⟨l, s, i, ns, R, hi, hn, q⟩ := h
      obtain ⟨dx, ha⟩ := R.ins
      refine ⟨a, dx, _, rfl, ha, rdF_no s i l _ (by simp), l, s, i, ns, R, hi, hn, fun H1 R1 M1 => ?_⟩
      obtain ⟨dx, ha1⟩ := R1.ins
      obtain ⟨r1, r2, r3⟩ := rdF_at s (skip s i) l
      have hsk := skip_end (s := s) i hi
      rw [parse] at q
      have P2 := R1.put (dx := dx) (skip s i + 1)
      refine ⟨rfl, iteD (fun hm => ?_) (fun hm => ⟨rfl, iteD (fun hb => ?_) (fun hb => ?_)⟩)⟩
      · have hc : cp s (skip s i) = some 45 := one_eq.mp hm
        have lt := cp_lt hc
        rw [hc] at q
        dsimp only at q
        rw [if_pos rfl] at q
        refine ⟨a, C, dx, _, _, rfl, ha1, T.cl, T.n2, r2, _, _, rfl, rfl, dx, _, ha1, by show 3 < 1000; decide, ?_⟩
        refine ⟨a, dx, _, rfl, upd_same, rdF_no s (skip s i + 1) l _ (by simp), l, s, skip s i + 1, ns, P2.1, lt, hn, ?_⟩
        cases h2 : parse s f .factor (skip s i + 1) ns with
        | none => rw [h2] at q; exact q.elim
        | some r =>
          rw [h2] at q
          cases r with
          | err p => exact perr.mb q (M1.trans P2.2)
          | ok t j ms =>
            intro v H3 R3 M3 tr3
            refine ⟨by show 2 ≤ sizeLine; decide, fun b nb => ?_⟩
            have s4 := same_new (o := .tup [.str "minus", v]) nb
            exact q _ _ (R3.same s4) (((M1.trans P2.2).trans M3).trans (.of s4)) (.neg upd_same (tr3.mb R3 (.of s4)))
      · have hc : cp s (skip s i) = some 40 := one_eq.mp hb
        have lt := cp_lt hc
        rw [hc] at q
        dsimp only at q
        rw [if_neg (by decide), if_pos rfl] at q
        refine ⟨a, C, dx, _, _, rfl, ha1, T.cl, T.n2, r2, _, _, rfl, rfl, dx, _, ha1, by show 3 < 1000; decide, ?_⟩
        refine ⟨a, dx, _, rfl, upd_same, rdF_no s (skip s i + 1) l _ (by simp), l, s, skip s i + 1, ns, P2.1, lt, hn, ?_⟩
        cases h2 : parse s f .sum (skip s i + 1) ns with
        | none => rw [h2] at q; exact q.elim
        | some r =>
          rw [h2] at q
          cases r with
          | err p => exact perr.mb q (M1.trans P2.2)
          | ok t j ms =>
            intro v H3 R3 M3 tr3
            have hj := parse_le _ _ _ _ _ _ _ lt h2
            obtain ⟨dx, ha3⟩ := R3.ins
            have M13 := (M1.trans P2.2).trans M3
            refine ⟨a, dx, _, rfl, ha3, rdF_no s j l _ (by simp), l, s, j, ms, 41, rfl, R3, hj, hn, ?_⟩
            dsimp only at q
            unfold Fm.need at q
            split
            · rename_i h41
              rw [if_pos h41] at q
              exact fun H4 R4 M4 => q v H4 R4 (M13.trans M4) (tr3.mb R3 M4)
            · rename_i h41
              rw [if_neg h41] at q
              exact perr.mb q M13
      · have n45 : ¬ cp s (skip s i) = some 45 := fun z => hm (one_eq.mpr z)
        have n40 : ¬ cp s (skip s i) = some 40 := fun z => hb (one_eq.mpr z)
        refine ⟨rfl, ?_⟩
        cases hc : cp s (skip s i) with
        | none =>
          rw [hc] at q
          rw [decide_eq_true (one_nil.mpr hc)]
          refine ⟨rfl, ?_⟩
          rw [decide_eq_true (one_nil.mpr hc)]
          exact ⟨a, C, dx, _, _, rfl, ha1, T.cl, T.n2, r2, raise_at q M1⟩
        | some c =>
          have c45 : ¬ c = 45 := fun z => n45 (z ▸ hc)
          have c40 : ¬ c = 40 := fun z => n40 (z ▸ hc)
          have nn : ¬ V.str (one s (skip s i)) = V.str "" := fun z => by have := one_nil.mp z; rw [hc] at this; exact nomatch this
          rw [hc] at q
          dsimp only at q
          rw [if_neg c45, if_neg c40] at q
          rw [decide_eq_false nn]
          refine ⟨c, _, one_eq.mpr hc, rfl, ?_⟩
          rw [isD_mem]
          cases hd : isD c with
          | true =>
            rw [hd, if_pos rfl] at q
            refine ⟨a, dx, _, rfl, ha1, rdF_no s (skip s i) l _ (by simp), l, s, skip s i, ns, c, R1, hc, hd, hn, ?_⟩
            cases he : intEnd s (skip s i) (skip s i) with
            | error p =>
              rw [he] at q
              exact perr.mb q M1
            | ok e =>
              rw [he] at q
              exact fun v H2 R2 M2 tr2 => q v H2 R2 (M1.trans M2) tr2
          | false =>
            rw [hd, if_neg Bool.false_ne_true] at q
            refine ⟨rfl, ?_⟩
            rw [decide_eq_false nn]
            refine ⟨c, _, one_eq.mpr hc, rfl, ?_⟩
            rw [isL_mem]
            cases hl : isL c with
            | true =>
              rw [hl, if_pos rfl] at q
              refine ⟨a, dx, _, rfl, ha1, rdF_no s (skip s i) l _ (by simp), l, s, skip s i, ns, c, hc, hl, R1, hsk, hn, ?_⟩
              cases h2 : parse s f .word (skip s i) ns with
              | none => rw [h2] at q; exact q.elim
              | some r =>
                rw [h2] at q
                cases r with
                | err p => exact perr.mb q M1
                | ok t j ms => exact fun v H2 R2 M2 tr2 => q v H2 R2 (M1.trans M2) tr2
            | false =>
              rw [hl, if_neg Bool.false_ne_true] at q
              exact ⟨a, C, dx, _, _, rfl, ha1, T.cl, T.n2, r2, raise_at q M1⟩
    · exact h.elim
theorem ok_pair {fn : Addr} {fd : FuncData} (T : Tg P w K mg base C Cp aP aR) (IH : Ih P w K mg base C Cp f) (F : Fun K "read_pair" "Reader.read_pair" sRPair fn fd) : FnM P w K mg base (L2.CX P w) (f + 12) fn fd pRPair (spW C Cp (f + 1)) := by
  refine F.okM scRPair (fun vs H Q E h => ?_) (fun cdv A outer s H vs Q E hr h => ?_)
  · unfold spW at h
    split at h
    · rfl
    · exact h.elim
  · refine ⟨_, (pss_cons (ps_expr (pe_mg T.need T.cl (passes_call (L2.takes_of rfl rfl rfl rfl) (fun _ _ _ _ h => h)) hr (by omega) (cv 0) (pa_cons pe_str pa_nil)))
  (pss_cons (ps_set (i := 2) scRPair.nd rfl (.inl rfl) (pe_mg0 IH.sum T.cl (passes_call (L2.takes_of rfl rfl rfl rfl) (fun _ _ _ _ h => h)) hr (by omega) (cv 0)))
  (pss_cons (ps_expr (pe_mg T.need T.cl (passes_call (L2.takes_of rfl rfl rfl rfl) (fun _ _ _ _ h => h)) hr (by omega) (cv 0) (pa_cons pe_str pa_nil)))
  (pss_cons (ps_set (i := 3) scRPair.nd rfl (.inl rfl) (pe_mg0 IH.sum T.cl (passes_call (L2.takes_of rfl rfl rfl rfl) (fun _ _ _ _ h => h)) hr (by omega) (cv 0)))
  (pss_cons (ps_expr (pe_mg T.need T.cl (passes_call (L2.takes_of rfl rfl rfl rfl) (fun _ _ _ _ h => h)) hr (by omega) (cv 0) (pa_cons pe_str pa_nil)))
  (pss_one (ps_ret (pe_tup (pa_cons (cv 1) (pa_cons (cv 2) (pa_cons (cv 3) pa_nil))))))))))), ?_⟩
    unfold spW at h
    split at h
    · rename_i a wd
      obtain ⟨l, s, i, ns, R, hi, hn, q⟩ := h
      obtain ⟨dx, ha⟩ := R.ins
      rw [parse] at q
      unfold Fm.need at q
      refine ⟨a, dx, _, rfl, ha, rdF_no s i l _ (by simp), l, s, i, ns, 40, rfl, R, hi, hn, ?_⟩
      by_cases h40 : cp s (skip s i) = some 40
      · rw [if_pos h40] at q ⊢
        dsimp only at q
        have l1 := cp_lt h40
        intro H1 R1 M1
        obtain ⟨dx, ha1⟩ := R1.ins
        refine ⟨a, dx, _, rfl, ha1, rdF_no s _ l _ (by simp), l, s, _, ns, R1, l1, hn, ?_⟩
        cases h1 : parse s f .sum (skip s i + 1) ns with
        | none => rw [h1] at q; exact q.elim
        | some r1 =>
          rw [h1] at q
          cases r1 with
          | err p => exact perr.mb q M1
          | ok t1 j1 m1 =>
            dsimp only at q
            have lj := parse_le _ _ _ _ _ _ _ l1 h1
            intro v2 H2 R2 M2 tr2
            obtain ⟨dx, ha2⟩ := R2.ins
            refine ⟨a, dx, _, rfl, ha2, rdF_no s _ l _ (by simp), l, s, _, m1, 44, rfl, R2, lj, hn, ?_⟩
            by_cases h44 : cp s (skip s j1) = some 44
            · rw [if_pos h44] at q ⊢
              have l2 := cp_lt h44
              intro H3 R3 M3
              obtain ⟨dx, ha3⟩ := R3.ins
              refine ⟨a, dx, _, rfl, ha3, rdF_no s _ l _ (by simp), l, s, _, m1, R3, l2, hn, ?_⟩
              cases h2 : parse s f .sum (skip s j1 + 1) m1 with
              | none => rw [h2] at q; exact q.elim
              | some r2 =>
                rw [h2] at q
                cases r2 with
                | err p => exact perr.mb q ((M1.trans M2).trans M3)
                | ok t2 j2 m2 =>
                  dsimp only at q
                  have lk := parse_le _ _ _ _ _ _ _ l2 h2
                  intro v4 H4 R4 M4 tr4
                  obtain ⟨dx, ha4⟩ := R4.ins
                  have M14 := ((M1.trans M2).trans M3).trans M4
                  refine ⟨a, dx, _, rfl, ha4, rdF_no s _ l _ (by simp), l, s, _, m2, 41, rfl, R4, lk, hn, ?_⟩
                  by_cases h41 : cp s (skip s j2) = some 41
                  · rw [if_pos h41] at q ⊢
                    intro H5 R5 M5
                    refine ⟨by show 3 ≤ sizeLine; decide, fun b nb => ?_⟩
                    have s6 := same_new (o := .tup [.str wd, v2, v4]) nb
                    exact q _ _ (R5.same s6) ((M14.trans M5).trans (.of s6)) (.op upd_same ((((tr2.mb R2 M3).mb R3 M4).mb R4 M5).mb R5 (.of s6)) ((tr4.mb R4 M5).mb R5 (.of s6)))
                  · rw [if_neg h41] at q ⊢
                    exact perr.mb q M14
            · rw [if_neg h44] at q ⊢
              exact perr.mb q (M1.trans M2)
      · rw [if_neg h40] at q ⊢
        exact q
    · exact h.elim
end
end Rk

set_option Elab.async false
set_option linter.all false
set_option maxRecDepth 100000
set_option maxHeartbeats 4000000
set_option pp.maxSteps 100
namespace Rk
open PySem PySem.Spec PyProof.Rows L2 CL Fm
theorem inV_pairs {w : Str} : inV (.str w) [.str "min", .str "max"] = decide (w = "min" ∨ w = "max") := by
  rw [Bool.eq_iff_iff]
  simp only [inV, List.any_cons, List.any_nil, Bool.or_false, eqV, Bool.or_eq_true, beq_iff_eq, decide_eq_true_eq]
  constructor
  · rintro (h | h)
    · exact .inl h.symm
    · exact .inr h.symm
  · rintro (h | h)
    · exact .inl h.symm
    · exact .inr h.symm
theorem inV_res {w : Str} (n : ¬ (w = "min" ∨ w = "max")) : inV (.str w) [.str "min", .str "max", .str "self"] = decide (w = "self") := by
  rw [Bool.eq_iff_iff]
  simp only [inV, List.any_cons, List.any_nil, Bool.or_false, eqV, Bool.or_eq_true, beq_iff_eq, decide_eq_true_eq]
  constructor
  · rintro (h | h | h)
    · exact absurd (.inl h.symm) n
    · exact absurd (.inr h.symm) n
    · exact h.symm
  · exact fun h => .inr (.inr h.symm)
section
variable {P : Program} {w : World} {K : PySem.W.Frag} {mg : Str → Option Value} {base : Heap} {C Cp aP aR : Addr} {f : Nat}
theorem ok_word {fn : Addr} {fd : FuncData} (T : Tg P w K mg base C Cp aP aR) (IH : Ih P w K mg base C Cp f) (F : Fun K "read_word" "Reader.read_word" sRWord fn fd) : FnM P w K mg base (L2.CX P w) (f + 12) fn fd pRWord (spWd C Cp (f + 1)) := by
  obtain ⟨_, hLt⟩ := T.let_
  obtain ⟨_, hML⟩ := T.ml
  refine F.okM scRWord (fun vs H Q E h => ?_) (fun cdv A outer s H vs Q E hr h => ?_)
  · unfold spWd at h
    split at h
    · rfl
    · exact h.elim
  · refine ⟨_, (pss_cons (ps_set (i := 1) scRWord.nd rfl (.inl rfl) (pe_fld (cv 0) rfl))
  (pss_cons (ps_whileW (L2.passes_of rfl) (ptw_and2 (ptw_cmp op_ne (pew_named (i := 2) scRWord.nd rfl (.inl rfl) (pew_of (pe_slice sl_str (pe_fld (cv 0) rfl) (po_some (pe_fld (cv 0) rfl)) (po_some (pe_op c_addI (pe_fld (cv 0) rfl) pe_int))))) pe_str (nomark _)) (ct_cmp op_inS (cv 2) (pe_glob (v := .str "abcdefghijklmnopqrstuvwxyz") (by rfl) hLt ⟨_, rfl⟩) (by rfl)))
  (pss_cons (ps_if (ct_cmp op_eq (pe_op c_sub (pe_fld (cv 0) rfl) (cv 1)) (pe_glob (v := .int 8) (by rfl) hML ⟨_, rfl⟩) (nomark _))
  (pss_one (ps_raise1 T.pe rfl (hr.mono (by omega)) (L2.takes_of rfl rfl rfl rfl) (pe_fld (cv 0) rfl)))
  pss_nil)
  (pss_one (ps_fldaug (cv 0) pe_int ip_add))) pss_nil)
  (pss_cons (ps_set (i := 3) scRWord.nd rfl (.inl rfl) (pe_slice sl_str (pe_fld (cv 0) rfl) (po_some (cv 1)) (po_some (pe_fld (cv 0) rfl))))
  (pss_cons (ps_if (ct_cmp op_in_seq (cv 3) (pe_glob (v := .ref aP) (by rfl) T.gP rfl) (by rfl))
  (pss_one (ps_ret (pe_mg IH.pair T.cl (passes_call (L2.takes_of rfl rfl rfl rfl) (fun _ _ _ _ h => h)) hr (by omega) (cv 0) (pa_cons (cv 3) pa_nil))))
  pss_nil)
  (pss_cons (ps_if (ct_cmp op_in_seq (cv 3) (pe_glob (v := .ref aR) (by rfl) T.gR rfl) (by rfl))
  (pss_one (ps_raise1 T.pe rfl (hr.mono (by omega)) (L2.takes_of rfl rfl rfl rfl) (pe_fld (cv 0) rfl)))
  pss_nil)
  (pss_cons (ps_expr (pe_bm PySem.F.plainAttrs_list PySem.F.slot_list_append PySem.F.type_list_append mt_append (pe_fld (cv 0) rfl) (pa_cons (cv 3) pa_nil)))
  (pss_one (ps_ret (pe_tup (pa_cons pe_str (pa_cons (cv 3) pa_nil))))))))))), ?_⟩
    unfold spWd at h
    split at h
    · rename_i a
      obtain ⟨l, s, i, ns, c0, hc0, hl0, R, hi, hn, q⟩ := h
      have sz : s.length ≤ sizeLine := Nat.le_trans hn (by decide)
      obtain ⟨dx, ha⟩ := R.ins
      obtain ⟨r1, r2, r3⟩ := rdF_at s i l
      rw [parse] at q
      refine ⟨a, C, dx, _, _, rfl, ha, T.cl, T.n2, r2, ?_⟩
      refine ⟨fun m σ H' => ∃ j sg, m = s.length - j ∧ i ≤ j ∧ j ≤ s.length ∧ wordEnd s i j = wordEnd s i i ∧ RdAt C H' a l s j ns ∧ MB a l H H' ∧ σ = [some (.ref a), some (.int (i : Int)), sg, none], ⟨_, i, _, rfl, Nat.le_refl _, hi, rfl, R, MB.refl, rfl⟩, ?_⟩
      rintro m σ H1 ⟨j, sg, rfl, hij, hjn, he, R1, M1, rfl⟩
      obtain ⟨dx, ha1⟩ := R1.ins
      obtain ⟨r1, r2, r3⟩ := rdF_at s j l
      -- behind the loop
      have tail : wordEnd s i j = .ok j → ∃ e, wordEnd s i i = .ok e ∧ e = j := fun hx => ⟨j, he.symm.trans hx, rfl⟩
      refine ⟨a, C, dx, _, _, rfl, ha1, T.cl, T.n1, r1, a, C, dx, _, _, rfl, ha1, T.cl, T.n2, r2, _, rfl, a, C, dx, _, _, rfl, ha1, T.cl, T.n2, r2, _, rfl, s, rfl, sz, ?_⟩
      rw [cut_one]
      refine ⟨rfl, _, rfl, ?_⟩
      cases hc : cp s j with
      | none =>
        rw [decide_eq_true (one_nil.mpr hc)]
        have nx : ¬ ∃ c, cp s j = some c ∧ isL c = true := fun ⟨c, h1, _⟩ => by rw [hc] at h1; exact nomatch h1
        have ij : i < j := Nat.lt_of_le_of_ne hij fun z => nx (z ▸ ⟨c0, hc0, hl0⟩)
        have e2 : wordEnd s i i = .ok j := he.symm.trans (by rw [wordEnd, dif_neg nx])
        rw [e2] at q
        dsimp only at q
        refine ⟨a, C, dx, _, _, rfl, ha1, T.cl, T.n1, r1, _, rfl, a, C, dx, _, _, rfl, ha1, T.cl, T.n2, r2, _, rfl, s, rfl, sz, ?_⟩
        rw [cut_cut hjn hij]
        refine ⟨aP, _, rfl, .inr (T.tP _), rfl, rfl, ?_⟩
        show if inV (.str (cut s i j)) [.str "min", .str "max"] = true then _ else _
        rw [inV_pairs]
        refine iteD (fun hp => ?_) (fun hp => ?_)
        · rw [if_pos hp] at q
          refine ⟨a, dx, _, rfl, ha1, rdF_no s _ l _ (by simp), l, s, j, ns, R1, hjn, hn, ?_⟩
          cases h2 : parse s f (.pair (cut s i j)) j ns with
          | none => rw [h2] at q; exact q.elim
          | some r =>
            rw [h2] at q
            cases r with
            | err p => exact perr.mb q M1
            | ok t k ms => exact fun v H2 R2 M2 tr2 => q v H2 R2 (M1.trans M2) tr2
        · rw [if_neg hp] at q
          refine ⟨aR, _, rfl, .inr (T.tR _), rfl, rfl, ?_⟩
          show if inV (.str (cut s i j)) [.str "min", .str "max", .str "self"] = true then _ else _
          rw [inV_res hp]
          refine iteD (fun hx => ?_) (fun hx => ?_)
          · rw [if_pos hx] at q
            exact ⟨a, C, dx, _, _, rfl, ha1, T.cl, T.n2, r2, raise_at q M1⟩
          · rw [if_neg hx] at q
            refine ⟨a, C, dx, _, _, rfl, ha1, T.cl, T.n3, r3, .inl ⟨rfl, _, SqL.of R1.lst⟩, l, _, _, rfl, rfl, R1.lst, ?_, ?_⟩
            · rw [List.length_map]; have := R1.few; exact Nat.lt_of_le_of_lt this (Nat.lt_of_le_of_lt (Nat.le_trans hjn hn) (by decide))
            · refine ⟨by show 2 ≤ sizeLine; decide, fun b nb => ?_⟩
              have s3 := same_new (o := .tup [.str "name", .str (cut s i j)]) nb
              have R2 : RdAt C (upd H1 l (.lst (ns.map V.str ++ [.str (cut s i j)]))) a l s j (ns ++ [cut s i j]) := ⟨⟨dx, by rw [upd_ne R1.ne.symm]; exact ha1⟩, by rw [upd_same, List.map_append]; rfl, by have := R.few; rw [List.length_append]; show ns.length + 1 ≤ j; omega⟩
              have M2 : MB a l H1 (upd H1 l (.lst (ns.map V.str ++ [.str (cut s i j)]))) := fun b o _ n h => by rw [upd_ne n]; exact h
              exact q _ _ (R2.same s3) ((M1.trans M2).trans (.of s3)) (.nam upd_same)
      | some c =>
        rw [decide_eq_false (fun z => by have := one_nil.mp z; rw [hc] at this; exact nomatch this)]
        refine ⟨c, _, one_eq.mpr hc, rfl, ?_⟩
        rw [isL_mem]
        cases hdc : isL c with
        | false =>
          have nx : ¬ ∃ c, cp s j = some c ∧ isL c = true := fun ⟨c', h1, h2⟩ => by
            rw [hc] at h1
            cases h1
            rw [hdc] at h2
            exact nomatch h2
          have ij : i < j := Nat.lt_of_le_of_ne hij fun z => nx (z ▸ ⟨c0, hc0, hl0⟩)
          have e2 : wordEnd s i i = .ok j := he.symm.trans (by rw [wordEnd, dif_neg nx])
          rw [e2] at q
          dsimp only at q
          refine ⟨a, C, dx, _, _, rfl, ha1, T.cl, T.n1, r1, _, rfl, a, C, dx, _, _, rfl, ha1, T.cl, T.n2, r2, _, rfl, s, rfl, sz, ?_⟩
          rw [cut_cut hjn hij]
          refine ⟨aP, _, rfl, .inr (T.tP _), rfl, rfl, ?_⟩
          show if inV (.str (cut s i j)) [.str "min", .str "max"] = true then _ else _
          rw [inV_pairs]
          refine iteD (fun hp => ?_) (fun hp => ?_)
          · rw [if_pos hp] at q
            refine ⟨a, dx, _, rfl, ha1, rdF_no s _ l _ (by simp), l, s, j, ns, R1, hjn, hn, ?_⟩
            cases h2 : parse s f (.pair (cut s i j)) j ns with
            | none => rw [h2] at q; exact q.elim
            | some r =>
              rw [h2] at q
              cases r with
              | err p => exact perr.mb q M1
              | ok t k ms => exact fun v H2 R2 M2 tr2 => q v H2 R2 (M1.trans M2) tr2
          · rw [if_neg hp] at q
            refine ⟨aR, _, rfl, .inr (T.tR _), rfl, rfl, ?_⟩
            show if inV (.str (cut s i j)) [.str "min", .str "max", .str "self"] = true then _ else _
            rw [inV_res hp]
            refine iteD (fun hx => ?_) (fun hx => ?_)
            · rw [if_pos hx] at q
              exact ⟨a, C, dx, _, _, rfl, ha1, T.cl, T.n2, r2, raise_at q M1⟩
            · rw [if_neg hx] at q
              refine ⟨a, C, dx, _, _, rfl, ha1, T.cl, T.n3, r3, .inl ⟨rfl, _, SqL.of R1.lst⟩, l, _, _, rfl, rfl, R1.lst, ?_, ?_⟩
              · rw [List.length_map]; have := R1.few; exact Nat.lt_of_le_of_lt this (Nat.lt_of_le_of_lt (Nat.le_trans hjn hn) (by decide))
              · refine ⟨by show 2 ≤ sizeLine; decide, fun b nb => ?_⟩
                have s3 := same_new (o := .tup [.str "name", .str (cut s i j)]) nb
                have R2 : RdAt C (upd H1 l (.lst (ns.map V.str ++ [.str (cut s i j)]))) a l s j (ns ++ [cut s i j]) := ⟨⟨dx, by rw [upd_ne R1.ne.symm]; exact ha1⟩, by rw [upd_same, List.map_append]; rfl, by have := R.few; rw [List.length_append]; show ns.length + 1 ≤ j; omega⟩
                have M2 : MB a l H1 (upd H1 l (.lst (ns.map V.str ++ [.str (cut s i j)]))) := fun b o _ n h => by rw [upd_ne n]; exact h
                exact q _ _ (R2.same s3) ((M1.trans M2).trans (.of s3)) (.nam upd_same)
        | true =>
          have yes : ∃ c, cp s j = some c ∧ isL c = true := ⟨c, hc, hdc⟩
          have lt := cp_lt hc
          have step : wordEnd s i j = if j - i = 8 then .error j else wordEnd s i (j + 1) := by rw [wordEnd, dif_pos yes]
          refine ⟨fun σ' H' => ∃ j', j' = j + 1 ∧ RdAt C H' a l s j' ns ∧ MB a l H H' ∧ σ' = [some (.ref a), some (.int (i : Int)), some (.str (one s j)), none] ∧ ¬ j - i = 8, ?_, ?_⟩
          · rintro σ' H' ⟨j', rfl, R', M', rfl, nb⟩
            refine ⟨_, by omega, j + 1, _, rfl, by omega, lt, ?_, R', M', rfl⟩
            rw [if_neg nb] at step
            rw [← step]; exact he
          · refine ⟨a, C, dx, _, _, rfl, ha1, T.cl, T.n2, r2, rfl, iteD (fun h8 => ?_) (fun h8 => ?_)⟩
            · refine ⟨a, C, dx, _, _, rfl, ha1, T.cl, T.n2, r2, raise_at ?_ M1⟩
              injection h8 with h8
              rw [if_pos (by omega)] at step
              rw [← he, step] at q
              exact q
            · have P1 := R1.put (dx := dx) (j + 1)
              exact ⟨a, C, dx, _, _, rfl, ha1, T.cl, T.n2, r2, _, _, rfl, rfl, dx, _, ha1, by show 3 < 1000; decide, j + 1, rfl, P1.1, M1.trans P1.2, rfl, fun z => h8 (congrArg V.int (by omega : (j : Int) - (i : Int) = 8))⟩
    · exact h.elim
end
end Rk

set_option Elab.async false
set_option linter.all false
set_option maxRecDepth 100000
set_option maxHeartbeats 4000000
set_option pp.maxSteps 100
namespace Rk
open PySem PySem.Spec PyProof.Rows L2 CL Fm
theorem need_ge {s : Str} {c i : Nat} {k : Nat → Option R} {t : T} {j : Nat} {ms : List Str} (h : Fm.need s c i k = some (.ok t j ms)) : ∃ i', i < i' ∧ k i' = some (.ok t j ms) := by
  unfold Fm.need at h
  split at h
  · have := skip_le (s := s) i
    exact ⟨_, by omega, h⟩
  · cases h
theorem intEnd_ge {s : Str} {b : Nat} : ∀ (n i e : Nat), n = s.length - i → intEnd s b i = .ok e → i ≤ e := by
  intro n
  induction n with
  | zero =>
    intro i e hn h
    rw [intEnd] at h
    split at h
    · rename_i hx
      obtain ⟨c, hc, _⟩ := hx
      have := cp_lt hc
      omega
    · cases h
      exact Nat.le_refl _
  | succ n ih =>
    intro i e hn h
    rw [intEnd] at h
    split at h
    · split at h
      · cases h
      · have := ih (i + 1) e (by omega) h
        omega
    · cases h
      exact Nat.le_refl _
theorem wordEnd_ge {s : Str} {b : Nat} : ∀ (n i e : Nat), n = s.length - i → wordEnd s b i = .ok e → i ≤ e := by
  intro n
  induction n with
  | zero =>
    intro i e hn h
    rw [wordEnd] at h
    split at h
    · rename_i hx
      obtain ⟨c, hc, _⟩ := hx
      have := cp_lt hc
      omega
    · cases h
      exact Nat.le_refl _
  | succ n ih =>
    intro i e hn h
    rw [wordEnd] at h
    split at h
    · split at h
      · cases h
      · have := ih (i + 1) e (by omega) h
        omega
    · cases h
      exact Nat.le_refl _
/-- the reading goes on, never back -/
theorem parse_ge {s : Str} : ∀ (f : Nat) (md : Md) (i : Nat) (ns : List Str) (t : T) (j : Nat) (ms : List Str), parse s f md i ns = some (.ok t j ms) → i ≤ j := by
  intro f
  induction f with
  | zero => intro md i ns t j ms h; cases md <;> cases h
  | succ f ih =>
    intro md i ns t j ms h
    have hsk := skip_le (s := s) i
    cases md with
    | sum =>
      simp only [parse] at h
      split at h
      · rename_i t1 j1 m1 h1
        have := ih _ _ _ _ _ _ h1
        have := ih _ _ _ _ _ _ h
        omega
      · exact ih _ _ _ _ _ _ h
    | sl t0 =>
      simp only [parse] at h
      split at h
      · split at h
        · rename_i u j1 m1 h1
          have := ih _ _ _ _ _ _ h1
          have := ih _ _ _ _ _ _ h
          omega
        · have := ih _ _ _ _ _ _ h
          omega
      · cases h
        exact hsk
    | term =>
      simp only [parse] at h
      split at h
      · rename_i t1 j1 m1 h1
        have := ih _ _ _ _ _ _ h1
        have := ih _ _ _ _ _ _ h
        omega
      · exact ih _ _ _ _ _ _ h
    | tl t0 =>
      simp only [parse] at h
      split at h
      · split at h
        · rename_i u j1 m1 h1
          have := ih _ _ _ _ _ _ h1
          have := ih _ _ _ _ _ _ h
          omega
        · have := ih _ _ _ _ _ _ h
          omega
      · split at h
        · split at h
          · split at h
            · rename_i u j1 m1 h1
              have := ih _ _ _ _ _ _ h1
              have := ih _ _ _ _ _ _ h
              omega
            · have := ih _ _ _ _ _ _ h
              omega
          · cases h
        · cases h
          exact hsk
    | factor =>
      simp only [parse] at h
      split at h
      · cases h
      · split at h
        · split at h
          · rename_i t1 j1 m1 h1
            cases h
            have := ih _ _ _ _ _ _ h1
            omega
          · have := ih _ _ _ _ _ _ h
            omega
        · split at h
          · split at h
            · rename_i t1 j1 m1 h1
              obtain ⟨i', l1, l3⟩ := need_ge h
              cases l3
              have := ih _ _ _ _ _ _ h1
              omega
            · have := ih _ _ _ _ _ _ h
              omega
          · split at h
            · split at h
              · cases h
              · rename_i e he
                cases h
                have := intEnd_ge _ _ _ rfl he
                omega
            · split at h
              · have := ih _ _ _ _ _ _ h
                omega
              · cases h
    | word =>
      simp only [parse] at h
      split at h
      · cases h
      · rename_i e he
        have le := wordEnd_ge _ _ _ rfl he
        split at h
        · have := ih _ _ _ _ _ _ h
          omega
        · split at h
          · cases h
          · cases h
            exact le
    | pair w =>
      simp only [parse] at h
      obtain ⟨i1, a1, h⟩ := need_ge h
      split at h
      · rename_i t1 j1 m1 h1
        obtain ⟨i2, a2, h⟩ := need_ge h
        split at h
        · rename_i t2 j2 m2 h2
          obtain ⟨i3, a3, h⟩ := need_ge h
          cases h
          have := ih _ _ _ _ _ _ h1
          have := ih _ _ _ _ _ _ h2
          omega
        · have := ih _ _ _ _ _ _ h1
          have := ih _ _ _ _ _ _ h
          omega
      · have := ih _ _ _ _ _ _ h
        omega
def _root_.Fm.Md.c : Md → Nat
  | .sum => 6
  | .sl _ => 3
  | .term => 5
  | .tl _ => 3
  | .factor => 4
  | .word => 3
  | .pair _ => 4
theorem cut3 {s : Str} {i e : Nat} (h : cut s i e = "min" ∨ cut s i e = "max") : i + 3 ≤ e ∧ i + 3 ≤ s.length := by
  have : (cut s i e).length = 3 := by rcases h with h | h <;> rw [h] <;> decide +kernel
  have h2 : (cut s i e).length = min (e - i) (s.length - i) := by
    show (((s.cps.toList.drop i).take (e - i)).toArray).size = _
    rw [List.size_toArray, List.length_take, List.length_drop]
    have : s.cps.toList.length = s.length := by simp; rfl
    rw [this]
  omega
/-- the fuel suffices -/
theorem parse_some {s : Str} : ∀ (f : Nat) (md : Md) (i : Nat) (ns : List Str), 3 * (s.length - i) + md.c ≤ f → (∀ w, md = .pair w → True) → parse s f md i ns ≠ none := by
  intro f
  induction f with
  | zero =>
    intro md i ns h
    cases md <;> (simp only [Fm.Md.c] at h; omega)
  | succ f ih =>
    intro md i ns hf _ h
    have hsk := skip_le (s := s) i
    cases md with
    | sum =>
      simp only [Fm.Md.c] at hf
      rw [parse] at h
      split at h
      · rename_i t1 j1 m1 h1
        have := parse_ge _ _ _ _ _ _ _ h1
        exact ih _ _ _ (by simp only [Fm.Md.c]; omega) (fun _ _ => trivial) h
      · exact ih _ _ _ (by simp only [Fm.Md.c]; omega) (fun _ _ => trivial) h
    | sl t0 =>
      simp only [Fm.Md.c] at hf
      rw [parse] at h
      split at h
      · rename_i hc
        have lt : skip s i < s.length := hc.elim cp_lt cp_lt
        split at h
        · rename_i u j1 m1 h1
          have := parse_ge _ _ _ _ _ _ _ h1
          exact ih _ _ _ (by simp only [Fm.Md.c]; omega) (fun _ _ => trivial) h
        · exact ih _ _ _ (by simp only [Fm.Md.c]; omega) (fun _ _ => trivial) h
      · cases h
    | term =>
      simp only [Fm.Md.c] at hf
      rw [parse] at h
      split at h
      · rename_i t1 j1 m1 h1
        have := parse_ge _ _ _ _ _ _ _ h1
        exact ih _ _ _ (by simp only [Fm.Md.c]; omega) (fun _ _ => trivial) h
      · exact ih _ _ _ (by simp only [Fm.Md.c]; omega) (fun _ _ => trivial) h
    | tl t0 =>
      simp only [Fm.Md.c] at hf
      rw [parse] at h
      split at h
      · rename_i hc
        have lt := cp_lt hc
        split at h
        · rename_i u j1 m1 h1
          have := parse_ge _ _ _ _ _ _ _ h1
          exact ih _ _ _ (by simp only [Fm.Md.c]; omega) (fun _ _ => trivial) h
        · exact ih _ _ _ (by simp only [Fm.Md.c]; omega) (fun _ _ => trivial) h
      · split at h
        · split at h
          · rename_i hc
            have lt := cp_lt hc
            split at h
            · rename_i u j1 m1 h1
              have := parse_ge _ _ _ _ _ _ _ h1
              exact ih _ _ _ (by simp only [Fm.Md.c]; omega) (fun _ _ => trivial) h
            · exact ih _ _ _ (by simp only [Fm.Md.c]; omega) (fun _ _ => trivial) h
          · cases h
        · cases h
    | factor =>
      simp only [Fm.Md.c] at hf
      rw [parse] at h
      split at h
      · cases h
      · rename_i c hc
        have lt := cp_lt hc
        split at h
        · split at h
          · cases h
          · exact ih _ _ _ (by simp only [Fm.Md.c]; omega) (fun _ _ => trivial) h
        · split at h
          · split at h
            · unfold Fm.need at h
              split at h <;> cases h
            · exact ih _ _ _ (by simp only [Fm.Md.c]; omega) (fun _ _ => trivial) h
          · split at h
            · split at h <;> cases h
            · split at h
              · exact ih _ _ _ (by simp only [Fm.Md.c]; omega) (fun _ _ => trivial) h
              · cases h
    | word =>
      simp only [Fm.Md.c] at hf
      rw [parse] at h
      split at h
      · cases h
      · rename_i e he
        split at h
        · rename_i hp
          have := cut3 hp
          exact ih _ _ _ (by simp only [Fm.Md.c]; omega) (fun _ _ => trivial) h
        · split at h <;> cases h
    | pair w =>
      simp only [Fm.Md.c] at hf
      rw [parse] at h
      unfold Fm.need at h
      split at h
      · rename_i h40
        have lt := cp_lt h40
        dsimp only at h
        split at h
        · rename_i t1 j1 m1 h1
          have := parse_ge _ _ _ _ _ _ _ h1
          split at h
          · rename_i h44
            have lt2 := cp_lt h44
            have := skip_le (s := s) j1
            split at h
            · split at h <;> cases h
            · exact ih _ _ _ (by simp only [Fm.Md.c]; omega) (fun _ _ => trivial) h
          · cases h
        · exact ih _ _ _ (by simp only [Fm.Md.c]; omega) (fun _ _ => trivial) h
      · cases h
end Rk

set_option Elab.async false
set_option linter.all false
set_option maxRecDepth 100000
set_option maxHeartbeats 4000000
set_option pp.maxSteps 100
namespace Rk
open PySem PySem.Spec PyProof.Rows L2 CL Fm
theorem spR0 {C Cp : Addr} {md : Md} {vs : List V} {H : Hp} {Q : VK} {E : XK} (h : spR C Cp 0 md vs H Q E) : False := by
  unfold spR at h
  split at h
  · obtain ⟨l, s, i, ns, _, _, _, h⟩ := h
    cases md <;> exact h
  · exact h
theorem spWd0 {C Cp : Addr} {vs : List V} {H : Hp} {Q : VK} {E : XK} (h : spWd C Cp 0 vs H Q E) : False := by
  unfold spWd at h
  split at h
  · obtain ⟨l, s, i, ns, c, _, _, _, _, _, h⟩ := h
    exact h
  · exact h
theorem spW0 {C Cp : Addr} {vs : List V} {H : Hp} {Q : VK} {E : XK} (h : spW C Cp 0 vs H Q E) : False := by
  unfold spW at h
  split at h
  · obtain ⟨l, s, i, ns, _, _, _, h⟩ := h
    exact h
  · exact h
/-- the defs of the reading methods -/
structure Ms (K : PySem.W.Frag) (C : Addr) : Prop where
  sum : ∃ f fd, Meth K C "read_sum" f ∧ Fun K "read_sum" "Reader.read_sum" sRSum f fd ∧ Binds K fd pRSum []
  term : ∃ f fd, Meth K C "read_term" f ∧ Fun K "read_term" "Reader.read_term" sRTerm f fd ∧ Binds K fd pRTerm []
  factor : ∃ f fd, Meth K C "read_factor" f ∧ Fun K "read_factor" "Reader.read_factor" sRFac f fd ∧ Binds K fd pRFac []
  word : ∃ f fd, Meth K C "read_word" f ∧ Fun K "read_word" "Reader.read_word" sRWord f fd ∧ Binds K fd pRWord []
  pair : ∃ f fd, Meth K C "read_pair" f ∧ Fun K "read_pair" "Reader.read_pair" sRPair f fd ∧ Binds K fd pRPair []
section
variable {P : Program} {w : World} {K : PySem.W.Frag} {mg : Str → Option Value} {base : Heap} {C Cp aP aR : Addr}
theorem ih_all (T : Tg P w K mg base C Cp aP aR) (M : Ms K C) : ∀ f, Ih P w K mg base C Cp f := by
  obtain ⟨f1, d1, m1, F1, b1⟩ := M.sum
  obtain ⟨f2, d2, m2, F2, b2⟩ := M.term
  obtain ⟨f3, d3, m3, F3, b3⟩ := M.factor
  obtain ⟨f4, d4, m4, F4, b4⟩ := M.word
  obtain ⟨f5, d5, m5, F5, b5⟩ := M.pair
  intro f
  induction f with
  | zero =>
    exact ⟨⟨f1, d1, m1, ⟨fun _ _ _ _ h => (spR0 h).elim, fun _ _ _ _ _ _ _ _ _ _ _ _ _ h => (spR0 h).elim⟩, b1⟩, ⟨f2, d2, m2, ⟨fun _ _ _ _ h => (spR0 h).elim, fun _ _ _ _ _ _ _ _ _ _ _ _ _ h => (spR0 h).elim⟩, b2⟩,
      ⟨f3, d3, m3, ⟨fun _ _ _ _ h => (spR0 h).elim, fun _ _ _ _ _ _ _ _ _ _ _ _ _ h => (spR0 h).elim⟩, b3⟩, ⟨f4, d4, m4, ⟨fun _ _ _ _ h => (spWd0 h).elim, fun _ _ _ _ _ _ _ _ _ _ _ _ _ h => (spWd0 h).elim⟩, b4⟩,
      ⟨f5, d5, m5, ⟨fun _ _ _ _ h => (spW0 h).elim, fun _ _ _ _ _ _ _ _ _ _ _ _ _ h => (spW0 h).elim⟩, b5⟩⟩
  | succ f ih => exact ⟨⟨f1, d1, m1, ok_sum T ih F1, b1⟩, ⟨f2, d2, m2, ok_term T ih F2, b2⟩, ⟨f3, d3, m3, ok_factor T ih F3, b3⟩, ⟨f4, d4, m4, ok_word T ih F4, b4⟩, ⟨f5, d5, m5, ok_pair T ih F5, b5⟩⟩
/-- the whole text -/
def wholeR (s : Str) : R := match parse s 306 .sum 0 [] with
  | some (.ok t j ms) => if cp s (skip s j) = none then .ok t (skip s j) ms else .err (skip s j)
  | some r => r
  | none => .err 0
def spWhole (C Cp : Addr) : Sp := fun vs H Q E => match vs with
  | [.ref a] => ∃ l s, RdAt C H a l s 0 [] ∧ s.length ≤ 100 ∧ rdRes C Cp a l s H Q E (some (wholeR s))
  | _ => False
def spRInit (C : Addr) : Sp := fun vs H Q _ => match vs with
  | [.ref a, .str s] => ∃ dx, H a = some (.ins C dx []) ∧ ∀ H' l, (∀ b o, b ≠ a → H b = some o → H' b = some o) → H l = none → RdAt C H' a l s 0 [] → Q .non H'
  | _ => False
abbrev sWhole : Stmt := inClass (topS 15) 3
abbrev nWhole : List Str := ["self", "tree"]
abbrev pWhole : List Str := ["self"]
theorem scWhole : FnScope nWhole pWhole (defScope sWhole) := ⟨rfl, rfl, rfl, by decide +kernel, rfl, by decide +kernel, by decide +kernel⟩
abbrev sRInit : Stmt := inClass (topS 15) 0
abbrev nRInit : List Str := ["self", "text"]
abbrev pRInit : List Str := ["self", "text"]
theorem scRInit : FnScope nRInit pRInit (defScope sRInit) := ⟨rfl, rfl, rfl, by decide +kernel, rfl, by decide +kernel, by decide +kernel⟩
theorem ok_whole {fn : Addr} {fd : FuncData} (T : Tg P w K mg base C Cp aP aR) (IH : Ih P w K mg base C Cp 306) (F : Fun K "whole" "Reader.whole" sWhole fn fd) : FnM P w K mg base (L2.CX P w) 320 fn fd pWhole (spWhole C Cp) := by
  refine F.okM scWhole (fun vs H Q E h => ?_) (fun cdv A outer s H vs Q E hr h => ?_)
  · unfold spWhole at h
    split at h
    · rfl
    · exact h.elim
  · refine ⟨_, (pss_cons (ps_set (i := 1) scWhole.nd rfl (.inl rfl) (pe_mg0 IH.sum T.cl (passes_call (L2.takes_of rfl rfl rfl rfl) (fun _ _ _ _ h => h)) hr (by omega) (cv 0)))
  (pss_cons (ps_if (ct_cmp op_ne (pe_mg0 T.skip T.cl pass0 hr (by omega) (cv 0)) pe_str (nomark _))
  (pss_one (ps_raise1 T.pe rfl (hr.mono (by omega)) (L2.takes_of rfl rfl rfl rfl) (pe_fld (cv 0) rfl)))
  pss_nil)
  (pss_one (ps_ret (cv 1))))), ?_⟩
    unfold spWhole at h
    split at h
    · rename_i a
      obtain ⟨l, s, R, hn, q⟩ := h
      obtain ⟨dx, ha⟩ := R.ins
      unfold wholeR at q
      refine ⟨a, dx, _, rfl, ha, rdF_no s 0 l _ (by simp), l, s, 0, [], R, Nat.zero_le _, hn, ?_⟩
      cases h1 : parse s 306 .sum 0 [] with
      | none => exact (parse_some 306 .sum 0 [] (by simp only [Fm.Md.c]; omega) (fun _ _ => trivial) h1).elim
      | some r =>
        rw [h1] at q
        cases r with
        | err p => exact q
        | ok t j ms =>
          dsimp only at q
          have hj := parse_le _ _ _ _ _ _ _ (Nat.zero_le _) h1
          intro v H1 R1 M1 tr1
          obtain ⟨dx, ha1⟩ := R1.ins
          refine ⟨a, dx, _, rfl, ha1, rdF_no s j l _ (by simp), l, s, j, ms, R1, hj, hn, fun H2 R2 M2 => ⟨rfl, ?_⟩⟩
          obtain ⟨dx, ha2⟩ := R2.ins
          obtain ⟨r1, r2, r3⟩ := rdF_at s (skip s j) l
          by_cases hc : cp s (skip s j) = none
          · rw [if_pos hc] at q
            rw [decide_eq_true (one_nil.mpr hc)]
            exact q v H2 R2 (M1.trans M2) (tr1.mb R1 M2)
          · rw [if_neg hc] at q
            rw [decide_eq_false (fun z => hc (one_nil.mp z))]
            exact ⟨a, C, dx, _, _, rfl, ha2, T.cl, T.n2, r2, raise_at q (M1.trans M2)⟩
    · exact h.elim
theorem ok_rinit {fn : Addr} {fd : FuncData} (cl : Cls K C) (n1 : NoAttr K C "chars") (n2 : NoAttr K C "spot") (n3 : NoAttr K C "found_names") (F : Fun K "__init__" "Reader.__init__" sRInit fn fd) : FnOk P w K mg base CX0 1 fn fd pRInit (spRInit C) := by
  refine F.ok scRInit (fun vs H Q E h => ?_) (fun cdv A outer s H vs Q E hr h => ?_)
  · unfold spRInit at h
    split at h
    · rfl
    · exact h.elim
  · refine ⟨_, (pss_cons (ps_fld (cv 0) (cv 1) rfl)
  (pss_cons (ps_fld (cv 0) pe_int rfl)
  (pss_one (ps_fld (cv 0) (pe_lst pa_nil) rfl)))), ?_⟩
    unfold spRInit at h
    split at h
    · rename_i a s
      obtain ⟨dx, ha, q⟩ := h
      refine ⟨a, C, dx, _, rfl, ha, cl, n1, by show 0 < 1000; decide, a, C, dx, _, rfl, upd_same, cl, n2, by show 1 < 1000; decide, ?_⟩
      refine ⟨by show 0 ≤ sizeLine; decide, fun l nl => ?_⟩
      have la : a ≠ l := ne_of_none upd_same nl
      have hla : H l = none := by
        rw [upd_ne la.symm, upd_ne la.symm] at nl
        exact nl
      refine ⟨a, C, dx, _, rfl, by rw [upd_ne la]; exact upd_same, cl, n3, by show 2 < 1000; decide, ?_⟩
      refine q _ l (fun b o n h => ?_) hla ⟨⟨dx, upd_same⟩, by rw [upd_ne la.symm]; exact upd_same, Nat.zero_le _⟩
      have nb : b ≠ l := ne_of_none h hla
      rw [upd_ne n, upd_ne nb, upd_ne n, upd_ne n]
      exact h
    · exact h.elim
end
end Rk

set_option Elab.async false
set_option linter.all false
set_option maxRecDepth 100000
set_option maxHeartbeats 4000000
set_option pp.maxSteps 100
namespace Rk
open PySem PySem.Spec PyProof.Rows L2 CL Fm
/-- nothing but a is altered -/
def Onl (a : Addr) (H H' : Hp) : Prop := ∀ b o, b ≠ a → H b = some o → H' b = some o
theorem Onl.refl {a : Addr} {H : Hp} : Onl a H H := fun _ _ _ h => h
theorem Onl.upd {a : Addr} {H : Hp} {o : HO} : Onl a H (upd H a o) := fun b o h z => by rw [upd_ne h]; exact z
theorem Onl.trans {a : Addr} {H H1 H2 : Hp} (x : Onl a H H1) (y : Onl a H1 H2) : Onl a H H2 := fun b o h z => y b o h (x b o h z)
theorem Onl.of {a : Addr} {H H' : Hp} (x : Same H H') : Onl a H H' := fun b o _ z => x b o z
theorem Onl.new {a b : Addr} {H : Hp} {o : HO} (h : H b = none) : Onl a H (L2.upd H b o) := .of (same_new h)
theorem Tr.on {H H' : Hp} (k : ∀ b xs, H b = some (.tup xs) → H' b = some (.tup xs)) {v : V} {t : T} (h : Tr H v t) : Tr H' v t := by
  induction h with
  | num h => exact .num (k _ _ h)
  | nam h => exact .nam (k _ _ h)
  | neg h _ i1 => exact .neg (k _ _ h) i1
  | op h _ _ i1 i2 => exact .op (k _ _ h) i1 i2
/-- the error of the class Cp with index p -/
def ferr (Cp a : Addr) (p : Nat) (H : Hp) (E : XK) : Prop := ∀ d H2, Onl a H H2 → H2 d = some (.xd [("index", .int (p : Int))]) → E (.ref Cp) (some d) H2
def isS : V → Bool
  | .str _ => true
  | _ => false
def frF (v : V) (l : Addr) (s : Str) (p : Addr) : List (Str × V) := [("tree", v), ("own_reads", .ref l), ("text", .str s), ("names", .ref p)]
/-- what is made of a text -/
def fmRes (CF Cp a : Addr) (s : Str) (H : Hp) (Q : VK) (E : XK) : R → Prop
  | .err p => ferr Cp a p H E
  | .ok t _ ns => (TX.tAll ns []).length < 64 ∧ ns.length ≤ 100 ∧ ∀ v l p ys H', Onl a H H' → (∃ dx, H' a = some (.ins CF dx (frF v l s p))) → Tr H' v t → H' l = some (.lst (ns.map V.str)) → H' p = some (.tup (ys.map V.str)) →
      ys.Perm (TX.tAll ns []) → sortedS ys = true → Q .non H'
def spFInit (K : PySem.W.Frag) (CF Cp : Addr) : Sp := fun vs H Q E => match vs with
  | [.ref a, x] => (∃ dx, H a = some (.ins CF dx [])) ∧ (∃ k, BK K H x k) ∧ (match x with
    | .str s => s.length ≤ sizeLine ∧ (if 100 < s.length then ferr Cp a 100 H E else fmRes CF Cp a s H Q E (wholeR s))
    | _ => ferr Cp a 0 H E)
  | _ => False
structure BlF (mg : Str → Option Value) : Prop where
  isinstance : mg "isinstance" = none
  str : mg "str" = none
  len : mg "len" = none
  tuple : mg "tuple" = none
  sorted : mg "sorted" = none
structure Fi (P : Program) (w : World) (K : PySem.W.Frag) (mg : Str → Option Value) (base : Heap) (C Cp CF fR : Addr) : Prop where
  B : BlF mg
  pe : ErrC P w K mg base "ParseError" Cp "index"
  mlen : ∃ t, mg "MAX_LENGTH" = some (.int 100 t)
  rg : mg "Reader" = some (.ref C)
  rm : Mk K C fR
  ri : ∃ fd, FnOk P w K mg base CX0 1 fR fd pRInit (spRInit C) ∧ Binds K fd pRInit []
  wh : MetG P w K mg base (L2.CX P w) 320 C "whole" ["self"] (spWhole C Cp)
  cl : Cls K C
  clF : Cls K CF
  f1 : NoAttr K CF "tree"
  f2 : NoAttr K CF "own_reads"
  f3 : NoAttr K CF "text"
  f4 : NoAttr K CF "names"
  f5 : NoAttr K C "found_names"
abbrev sFInit : Stmt := inClass (topS 21) 0
abbrev nFInit : List Str := ["self", "text", "reader", "name"]
abbrev pFInit : List Str := ["self", "text"]
theorem scFInit : FnScope nFInit pFInit (defScope sFInit) := ⟨rfl, rfl, rfl, by decide +kernel, rfl, by decide +kernel, by decide +kernel⟩
section
variable {P : Program} {w : World} {K : PySem.W.Frag} {mg : Str → Option Value} {base : Heap} {C Cp CF fR : Addr}
theorem ok_finit {fn : Addr} {fd : FuncData} (T : Fi P w K mg base C Cp CF fR) (F : Fun K "__init__" "Formula.__init__" sFInit fn fd) : FnOk P w K mg base (L2.CX P w) 111 fn fd pFInit (spFInit K CF Cp) := by
  have B := T.B
  obtain ⟨tm, hML⟩ := T.mlen
  obtain ⟨fdR, oR, bR⟩ := T.ri
  refine F.okX scFInit (fun vs H Q E h => ?_) (fun cdv A outer s H vs Q E hr h => ?_)
  · unfold spFInit at h
    split at h
    · rfl
    · exact h.elim
  · refine ⟨_, (pss_cons (ps_if (pt_not (ct_val (pe_isi (m := .str) (by decide +kernel) B.isinstance B.str (by rfl) (by rfl) (cv 1))))
  (pss_one (ps_raise1 T.pe rfl (hr.mono (by omega)) (L2.takes_of rfl rfl rfl rfl) pe_int))
  pss_nil)
  (pss_cons (ps_if (ct_cmp c_gt (pe_callB call_len_str (by rfl) B.len (by decide +kernel) (pa_cons (cv 1) pa_nil)) (pe_glob (v := .int 100) (by rfl) hML ⟨tm, rfl⟩) (nomark _))
  (pss_one (ps_raise1 T.pe rfl (hr.mono (by omega)) (L2.takes_of rfl rfl rfl rfl) (pe_glob (v := .int 100) (by rfl) hML ⟨tm, rfl⟩)))
  pss_nil)
  (pss_cons (ps_set (i := 2) scFInit.nd rfl (.inl rfl) (pe_make T.rm oR (hr.mono (by decide)) (by rfl) T.rg bR .nil pass0 (pa_cons (cv 1) pa_nil)))
  (pss_cons (ps_fld (cv 0) (pe_mg0 T.wh T.cl (passes_call (L2.takes_of rfl rfl rfl rfl) (fun _ _ _ _ h => h)) (Rm.of (n := 320) hr (by decide) (by decide)) (by decide) (cv 2)) rfl)
  (pss_cons (ps_fld (cv 0) (pe_fld (cv 2) rfl) rfl)
  (pss_cons (ps_fld (cv 0) (cv 1) rfl)
  (pss_one (ps_fld (cv 0) (pe_callTy call_tuple_of (by rfl) B.tuple (by decide +kernel) (pa_cons (pe_callB (TX.cr_sortTx (by rfl)) (by rfl) B.sorted (by decide +kernel) (pa_cons (TX.pe_tc (own := [("name", 3)]) (g := gName 3) (by rfl) scFInit.nd (pi_list (pe_fld (cv 2) rfl)) (blkOk_by (N := nFInit) (sc := (defScope sFInit)) (own := [("name", 3)]) (by decide +kernel)) (fun _ _ _ _ _ => pg_name (i := 3) scFInit.nd rfl (Or.inl rfl)) (fun _ _ _ _ _ => pts_nil) (fun _ _ _ _ _ => (cv 3))) pa_nil)) pa_nil)) rfl)))))))), ?_⟩
    unfold spFInit at h
    split at h
    · rename_i a x
      obtain ⟨⟨dx, ha⟩, ⟨kx, hx⟩, q⟩ := h
      have bad : ferr Cp a 0 H E → ∀ d H2, H d = none → Same H H2 → H2 d = some (.xd [("index", .int 0)]) → E (.ref Cp) (some d) H2 := fun q d H2 _ sm e => q d H2 (.of sm) e
      cases hx with
      | non => exact bad q
      | bl b => exact bad q
      | int i => exact bad q
      | lst h => exact ⟨_, .lst h, bad q⟩
      | tup h => exact ⟨_, .tup h, bad q⟩
      | dic h => exact ⟨_, .dic h, bad q⟩
      | str s =>
        obtain ⟨hz, q⟩ := q
        refine ⟨s, rfl, hz, ?_⟩
        by_cases hc : 100 < s.length
        · rw [if_pos hc] at q
          have : decide ((100 : Int) < (s.length : Int)) = true := decide_eq_true (by omega)
          show if decide ((100 : Int) < (s.length : Int)) = true then _ else _
          rw [if_pos this]
          exact fun d H2 _ sm e => q d H2 (.of sm) e
        · rw [if_neg hc] at q
          have : ¬ decide ((100 : Int) < (s.length : Int)) = true := fun z => hc (by have := of_decide_eq_true z; omega)
          show if decide ((100 : Int) < (s.length : Int)) = true then _ else _
          rw [if_neg this]
          intro x dy nx ny ne
          have xa : x ≠ a := fun z => by rw [z, ha] at nx; cases nx
          have ya : dy ≠ a := fun z => by rw [z, ha] at ny; cases ny
          refine ⟨dy, upd_same, fun H1 l k1 nl R1 => ⟨rfl, ?_⟩⟩
          have la : l ≠ a := fun z => by
            rw [z, upd_ne xa.symm, upd_ne ya.symm, ha] at nl
            cases nl
          have O1 : Onl a H H1 := fun b o n h => by
            have bx : b ≠ x := fun z => by rw [z, nx] at h; cases h
            have by_ : b ≠ dy := fun z => by rw [z, ny] at h; cases h
            exact k1 b o bx (by rw [upd_ne bx, upd_ne by_]; exact h)
          have a1 : H1 a = some (.ins CF dx []) := k1 a _ xa.symm (by rw [upd_ne xa.symm, upd_ne ya.symm]; exact ha)
          obtain ⟨d1, x1⟩ := R1.ins
          refine ⟨x, d1, _, rfl, x1, rdF_no s 0 l _ (by simp), l, s, R1, by omega, ?_⟩
          have O2 : ∀ {H2 : Hp}, MB x l H1 H2 → Onl a H H2 := fun m b o n h => by
            have z := O1 b o n h
            have bx : b ≠ x := fun z => by rw [z, nx] at h; cases h
            have bl : b ≠ l := fun z2 => by
              have by_ : b ≠ dy := fun z => by rw [z, ny] at h; cases h
              rw [← z2, upd_ne bx, upd_ne by_] at nl
              rw [nl] at h
              cases h
            exact m b o bx bl z
          cases hw : wholeR s with
          | err p =>
            rw [hw] at q
            exact fun d H2 m e => q d H2 (O2 m) e
          | ok t j ns =>
            rw [hw] at q
            obtain ⟨q1, q2, q⟩ := q
            intro v H2 R2 M2 t2
            have a2 : H2 a = some (.ins CF dx []) := M2 a _ xa.symm la.symm a1
            obtain ⟨d2, x2⟩ := R2.ins
            refine ⟨a, CF, dx, _, rfl, a2, T.clF, T.f1, by show 0 < 1000; decide, ?_⟩
            have nd : (ns.map V.str).length ≤ 100 := by rw [List.length_map]; exact q2
            refine ⟨x, C, d2, _, _, rfl, by rw [upd_ne xa]; exact x2, T.cl, T.f5, (rdF_at s j l).2.2, a, CF, dx, _, rfl, upd_same, T.clF, T.f2, by show 1 < 1000; decide, ?_⟩
            refine ⟨a, CF, dx, _, rfl, upd_same, T.clF, T.f3, by show 2 < 1000; decide, ?_⟩
            refine ⟨x, C, d2, _, _, rfl, by rw [upd_ne xa, upd_ne xa, upd_ne xa]; exact x2, T.cl, T.f5, (rdF_at s j l).2.2, l, rfl, ⟨_, SqL.of (by rw [upd_ne la, upd_ne la, upd_ne la]; exact R2.lst)⟩, fun D hD => ?_⟩
            have sb : ns.length + 1 < scanBound := Nat.lt_of_le_of_lt (Nat.succ_le_succ q2) (by decide)
            refine TX.tc_names (xs := ns) (by rw [upd_ne la, upd_ne la, upd_ne la]; exact R2.lst) hD sb (by show 3 < 4; decide) ?_
            refine ⟨D, _, rfl, upd_same, q1, fun ys p yp yo np => ?_⟩
            refine ⟨p, ys.map V.str, rfl, .inl ⟨SqL.of upd_same, fun pt npt => ?_⟩⟩
            have aD : a ≠ D := ne_of_none upd_same hD
            have lD : l ≠ D := ne_of_none (show _ = some _ by rw [upd_ne la, upd_ne la, upd_ne la]; exact R2.lst) hD
            have ap : a ≠ p := ne_of_none (show _ = some _ by rw [upd_ne aD]; exact upd_same) np
            have lp : l ≠ p := ne_of_none (show _ = some _ by rw [upd_ne lD, upd_ne la, upd_ne la, upd_ne la]; exact R2.lst) np
            have apt : a ≠ pt := ne_of_none (show _ = some _ by rw [upd_ne ap, upd_ne aD]; exact upd_same) npt
            have lpt : l ≠ pt := ne_of_none (show _ = some _ by rw [upd_ne lp, upd_ne lD, upd_ne la, upd_ne la, upd_ne la]; exact R2.lst) npt
            refine ⟨a, CF, dx, _, rfl, by rw [upd_ne apt, upd_ne ap, upd_ne aD]; exact upd_same, T.clF, T.f4, by show 3 < 1000; decide, ?_⟩
            have O3 : Onl a H2 (upd (upd (upd (upd (upd (upd H2 a _) a _) a _) D _) p (.lst (ys.map V.str))) pt (.tup (ys.map V.str))) :=
              ((((Onl.upd.trans Onl.upd).trans Onl.upd).trans (.new hD)).trans (.new np)).trans (.new npt)
            refine q v l pt ys _ (((O2 M2).trans O3).trans .upd) ⟨dx, upd_same⟩ ?_ ?_ ?_ yp yo
            · exact t2.on (fun b xs h => (O3.trans .upd) b _ (ne_of h a2 fun z => nomatch z) h)
            · rw [upd_ne la, upd_ne lpt, upd_ne lp, upd_ne lD, upd_ne la, upd_ne la, upd_ne la]; exact R2.lst
            · rw [upd_ne apt.symm]; exact upd_same
    · exact h.elim
end
end Rk

set_option Elab.async false
set_option linter.all false
set_option maxRecDepth 100000
set_option maxHeartbeats 1000000
/-! Mc: a machine that reads from left to right, with a stack of brackets; it agrees with parse. -/
namespace Fm
open PySem PySem.Spec L2
inductive Br where
  | one
  | pair
  | last
  deriving DecidableEq
/-- what is expected next -/
structure Ms where
  i : Nat
  w : Bool
  bs : List Br
  ns : List Str
/-- behind an operand, at the sign c -/
def beh (s : Str) (p c : Nat) (bs : List Br) (ns : List Str) : Ms ⊕ Nat :=
  if c = 43 ∨ c = 45 ∨ c = 42 then .inl ⟨p + 1, false, bs, ns⟩
  else if c = 47 then (if cp s (p + 1) = some 47 then .inl ⟨p + 2, false, bs, ns⟩ else .inr (p + 1))
  else if c = 44 ∧ bs.head? = some .pair then .inl ⟨p + 1, false, .last :: bs.tail, ns⟩
  else if c = 41 ∧ (bs.head? = some .one ∨ bs.head? = some .last) then .inl ⟨p + 1, true, bs.tail, ns⟩
  else .inr p
def wrd (s : Str) (p : Nat) (bs : List Br) (ns : List Str) : Ms ⊕ Nat := match wordEnd s p p with
  | .error e => .inr e
  | .ok e => if cut s p e = "min" ∨ cut s p e = "max" then (if cp s (skip s e) = some 40 then .inl ⟨skip s e + 1, false, .pair :: bs, ns⟩ else .inr (skip s e))
    else if cut s p e = "self" then .inr e else .inl ⟨e, true, bs, ns ++ [cut s p e]⟩
/-- where an operand is expected, at the sign c -/
def opd (s : Str) (p c : Nat) (bs : List Br) (ns : List Str) : Ms ⊕ Nat :=
  if c = 45 then .inl ⟨p + 1, false, bs, ns⟩
  else if c = 40 then .inl ⟨p + 1, false, .one :: bs, ns⟩
  else if isD c = true then (match intEnd s p p with
    | .error e => .inr e
    | .ok e => .inl ⟨e, true, bs, ns⟩)
  else if isL c = true then wrd s p bs ns
  else .inr p
/-- how it ends: the wrong place or none, and the names; by steps -/
inductive Ev (s : Str) : Ms → Option Nat → List Str → Prop
  | stop {m : Ms} : cp s (skip s m.i) = none → Ev s m (if m.w = true ∧ m.bs = [] then none else some (skip s m.i)) m.ns
  | bad {m : Ms} {c p : Nat} : cp s (skip s m.i) = some c → (if m.w = true then beh s (skip s m.i) c m.bs m.ns else opd s (skip s m.i) c m.bs m.ns) = .inr p → Ev s m (some p) m.ns
  | go {m m' : Ms} {c : Nat} {o : Option Nat} {ls : List Str} : cp s (skip s m.i) = some c → (if m.w = true then beh s (skip s m.i) c m.bs m.ns else opd s (skip s m.i) c m.bs m.ns) = .inl m' → Ev s m' o ls → Ev s m o ls
section
variable {s : Str} {i p c : Nat} {bs : List Br} {ns ms ls : List Str} {o : Option Nat} {t : T} {r : R}
/-- behind j there is no such sign -/
def no2 (s : Str) (j : Nat) : Prop := cp s (skip s j) ≠ some 42 ∧ cp s (skip s j) ≠ some 47
def no4 (s : Str) (j : Nat) : Prop := no2 s j ∧ cp s (skip s j) ≠ some 43 ∧ cp s (skip s j) ≠ some 45
def Agr (s : Str) (i : Nat) (w : Bool) (bs : List Br) (ns : List Str) (G : Nat → Prop) : R → Prop
  | .err p => ∃ ls, Ev s ⟨i, w, bs, ns⟩ (some p) ls
  | .ok _ j ms => G j ∧ ∀ o ls, Ev s ⟨j, true, bs, ms⟩ o ls → Ev s ⟨i, w, bs, ns⟩ o ls
theorem Ev.sk {w : Bool} (h : Ev s ⟨skip s i, w, bs, ns⟩ o ls) : Ev s ⟨i, w, bs, ns⟩ o ls := by
  generalize hm : (⟨skip s i, w, bs, ns⟩ : Ms) = m at h
  cases h with
  | stop h =>
    subst hm
    have h : cp s (skip s (skip s i)) = none := h
    rw [skip_skip] at h
    have z := Ev.stop (s := s) (m := ⟨i, w, bs, ns⟩) h
    show Ev s _ (if w = true ∧ bs = [] then none else some (skip s (skip s i))) _
    rw [skip_skip]
    exact z
  | bad h e =>
    subst hm
    dsimp only at h e
    rw [skip_skip] at h e
    exact Ev.bad (m := ⟨i, w, bs, ns⟩) h e
  | go h e k =>
    subst hm
    dsimp only at h e
    rw [skip_skip] at h e
    exact Ev.go (m := ⟨i, w, bs, ns⟩) h e k
theorem ev_beh {m' : Ms} (h : cp s (skip s i) = some c) (e : beh s (skip s i) c bs ns = .inl m') (k : Ev s m' o ls) : Ev s ⟨i, true, bs, ns⟩ o ls := .go (m := ⟨i, true, bs, ns⟩) h (by rw [if_pos rfl]; exact e) k
theorem ev_opd {m' : Ms} (h : cp s (skip s i) = some c) (e : opd s (skip s i) c bs ns = .inl m') (k : Ev s m' o ls) : Ev s ⟨i, false, bs, ns⟩ o ls := .go (m := ⟨i, false, bs, ns⟩) h (by rw [if_neg Bool.false_ne_true]; exact e) k
theorem bad_beh (h : cp s (skip s i) = some c) (e : beh s (skip s i) c bs ns = .inr p) : Ev s ⟨i, true, bs, ns⟩ (some p) ns := .bad (m := ⟨i, true, bs, ns⟩) h (by rw [if_pos rfl]; exact e)
theorem bad_opd (h : cp s (skip s i) = some c) (e : opd s (skip s i) c bs ns = .inr p) : Ev s ⟨i, false, bs, ns⟩ (some p) ns := .bad (m := ⟨i, false, bs, ns⟩) h (by rw [if_neg Bool.false_ne_true]; exact e)
/-- a closing sign that is not there -/
theorem bad_close {q : Br} (h : no4 s i) (hc : ¬ cp s (skip s i) = some (if q = .pair then 44 else 41)) : Ev s ⟨i, true, q :: bs, ns⟩ (some (skip s i)) ns := by
  obtain ⟨⟨h1, h2⟩, h3, h4⟩ := h
  cases hs : cp s (skip s i) with
  | none =>
    have z := Ev.stop (s := s) (m := ⟨i, true, q :: bs, ns⟩) hs
    rw [if_neg (fun z => nomatch z.2)] at z
    exact z
  | some c =>
    rw [hs] at h1 h2 h3 h4 hc
    refine bad_beh hs ?_
    unfold beh
    have n1 : ¬ (c = 43 ∨ c = 45 ∨ c = 42) := by
      rintro (z | z | z)
      · exact h3 (congrArg some z)
      · exact h4 (congrArg some z)
      · exact h1 (congrArg some z)
    rw [if_neg n1, if_neg (fun z => h2 (congrArg some z))]
    cases q with
    | pair =>
      rw [if_neg (fun z => hc (congrArg some z.1)), if_neg (fun z => by rcases z.2 with z | z <;> cases z)]
    | one =>
      rw [if_neg (fun z => by cases z.2), if_neg (fun z => hc (congrArg some z.1))]
    | last =>
      rw [if_neg (fun z => by cases z.2), if_neg (fun z => hc (congrArg some z.1))]
/-- from a place and a stack to another stack -/
def Agp (s : Str) (i : Nat) (b0 bs : List Br) (ns : List Str) : R → Prop
  | .err p => ∃ ls, Ev s ⟨i, false, b0, ns⟩ (some p) ls
  | .ok _ j ms => ∀ o ls, Ev s ⟨j, true, bs, ms⟩ o ls → Ev s ⟨i, false, b0, ns⟩ o ls
/-- the claim for one mode -/
def Cl (s : Str) (md : Md) (i : Nat) (bs : List Br) (ns : List Str) (r : R) : Prop := match md with
  | .sum => Agr s i false bs ns (no4 s) r
  | .term => Agr s i false bs ns (no2 s) r
  | .factor => Agr s i false bs ns (fun _ => True) r
  | .sl _ => no2 s i → Agr s i true bs ns (no4 s) r
  | .tl _ => Agr s i true bs ns (no2 s) r
  | .word => ∀ c, cp s i = some c → isL c = true → Agr s i false bs ns (fun _ => True) r
  | .pair _ => if cp s (skip s i) = some 40 then Agp s (skip s i + 1) (.pair :: bs) bs ns r else r = .err (skip s i)
theorem isL_no {c : Nat} (h : isL c = true) : c ≠ 45 ∧ c ≠ 40 ∧ isD c = false ∧ c ≠ 32 := by
  unfold isL at h
  have := of_decide_eq_true h
  refine ⟨by omega, by omega, ?_, by omega⟩
  unfold isD
  exact decide_eq_false (by omega)
theorem agr_ok {G : Nat → Prop} {w : Bool} {j : Nat} (h : Agr s i w bs ns G (.ok t j ms)) : G j ∧ ∀ o ls, Ev s ⟨j, true, bs, ms⟩ o ls → Ev s ⟨i, w, bs, ns⟩ o ls := h
theorem agr_err {G : Nat → Prop} {w : Bool} (h : Agr s i w bs ns G (.err p)) : ∃ ls, Ev s ⟨i, w, bs, ns⟩ (some p) ls := h
theorem cl_sum {j : Nat} (h : Cl s .sum i bs ns (.ok t j ms)) : no4 s j ∧ ∀ o ls, Ev s ⟨j, true, bs, ms⟩ o ls → Ev s ⟨i, false, bs, ns⟩ o ls := h
theorem cl_term {j : Nat} (h : Cl s .term i bs ns (.ok t j ms)) : no2 s j ∧ ∀ o ls, Ev s ⟨j, true, bs, ms⟩ o ls → Ev s ⟨i, false, bs, ns⟩ o ls := h
theorem cl_fac {j : Nat} (h : Cl s .factor i bs ns (.ok t j ms)) : True ∧ ∀ o ls, Ev s ⟨j, true, bs, ms⟩ o ls → Ev s ⟨i, false, bs, ns⟩ o ls := h
theorem cl_word {j : Nat} (h : Agr s i false bs ns (fun _ => True) (.ok t j ms)) : True ∧ ∀ o ls, Ev s ⟨j, true, bs, ms⟩ o ls → Ev s ⟨i, false, bs, ns⟩ o ls := h
theorem cl_err (h : Cl s .sum i bs ns (.err p) ∨ Cl s .term i bs ns (.err p) ∨ Cl s .factor i bs ns (.err p)) : ∃ ls, Ev s ⟨i, false, bs, ns⟩ (some p) ls := by
  rcases h with h | h | h <;> exact h
/-- a chain: the second is asked where the first ends -/
theorem agr_then {G G' : Nat → Prop} {w : Bool} {j : Nat} (h : ∀ o ls, Ev s ⟨j, true, bs, ms⟩ o ls → Ev s ⟨i, w, bs, ns⟩ o ls) (k : Agr s j true bs ms G r) : Agr s i w bs ns G r := by
  cases r with
  | err p => exact let ⟨ls, z⟩ := k; ⟨ls, h _ _ z⟩
  | ok t j ms => exact ⟨k.1, fun o ls z => h _ _ (k.2 o ls z)⟩
theorem agr_pre {G G' : Nat → Prop} {w w' : Bool} {i' : Nat} {b' : List Br} {q : List Str} (h : ∀ o ls, Ev s ⟨i', w', bs, q⟩ o ls → Ev s ⟨i, w, bs, ns⟩ o ls) (k : Agr s i' w' bs q G r) : Agr s i w bs ns G r := by
  cases r with
  | err p => exact let ⟨ls, z⟩ := k; ⟨ls, h _ _ z⟩
  | ok t j ms => exact ⟨k.1, fun o ls z => h _ _ (k.2 o ls z)⟩
theorem agree : ∀ (f : Nat) (md : Md) (i : Nat) (ns : List Str) (r : R), parse s f md i ns = some r → ∀ bs, Cl s md i bs ns r := by
  intro f
  induction f with
  | zero => intro md i ns r h; cases h
  | succ f ih =>
    intro md i ns r h bs
    cases md with
    | sum =>
      rw [parse] at h
      split at h
      · rename_i t j ms h1
        have a := cl_term (ih _ _ _ _ h1 bs)
        exact agr_then (G' := no2 s) a.2 (ih _ _ _ _ h bs a.1)
      · rename_i hno
        have a := ih _ _ _ _ h bs
        cases r with
        | err p => exact a
        | ok t j ms => exact (hno _ _ _ h).elim
    | sl t =>
      intro g
      rw [parse] at h
      split at h
      · rename_i hc
        have step : ∀ o ls, Ev s ⟨skip s i + 1, false, bs, ns⟩ o ls → Ev s ⟨i, true, bs, ns⟩ o ls := fun o ls z => by
          rcases hc with hc | hc
          · exact ev_beh hc (by rfl) z
          · exact ev_beh hc (by rfl) z
        split at h
        · rename_i u j ms h1
          have a := cl_term (ih _ _ _ _ h1 bs)
          exact agr_then (G' := no2 s) (fun o ls z => step o ls (a.2 o ls z)) (ih _ _ _ _ h bs a.1)
        · rename_i hno
          have a := ih _ _ _ _ h bs
          cases r with
          | err p => exact let ⟨ls, z⟩ := cl_err (.inr (.inl a)); ⟨ls, step _ _ z⟩
          | ok t j ms => exact (hno _ _ _ h).elim
      · rename_i hc
        cases h
        refine ⟨⟨?_, ?_⟩, fun o ls z => z.sk⟩
        · unfold no2 at g ⊢
          rw [skip_skip]; exact g
        · rw [skip_skip]
          exact ⟨fun z => hc (.inl z), fun z => hc (.inr z)⟩
    | term =>
      rw [parse] at h
      split at h
      · rename_i t j ms h1
        have a := cl_fac (ih _ _ _ _ h1 bs)
        exact agr_then (G' := no2 s) a.2 (ih _ _ _ _ h bs)
      · rename_i hno
        have a := ih _ _ _ _ h bs
        cases r with
        | err p => exact a
        | ok t j ms => exact (hno _ _ _ h).elim
    | tl t =>
      rw [parse] at h
      split at h
      · rename_i hc
        have step : ∀ o ls, Ev s ⟨skip s i + 1, false, bs, ns⟩ o ls → Ev s ⟨i, true, bs, ns⟩ o ls := fun o ls z => ev_beh hc (by rfl) z
        split at h
        · rename_i u j ms h1
          have a := cl_fac (ih _ _ _ _ h1 bs)
          exact agr_then (G' := no2 s) (fun o ls z => step o ls (a.2 o ls z)) (ih _ _ _ _ h bs)
        · rename_i hno
          have a := ih _ _ _ _ h bs
          cases r with
          | err p => exact let ⟨ls, z⟩ := cl_err (.inr (.inr a)); ⟨ls, step _ _ z⟩
          | ok t j ms => exact (hno _ _ _ h).elim
      · rename_i hn2
        split at h
        · rename_i hc
          split at h
          · rename_i hc2
            have step : ∀ o ls, Ev s ⟨skip s i + 2, false, bs, ns⟩ o ls → Ev s ⟨i, true, bs, ns⟩ o ls := fun o ls z => ev_beh hc (by unfold beh; rw [if_neg (by omega), if_pos rfl, if_pos hc2]) z
            split at h
            · rename_i u j ms h1
              have a := cl_fac (ih _ _ _ _ h1 bs)
              exact agr_then (G' := no2 s) (fun o ls z => step o ls (a.2 o ls z)) (ih _ _ _ _ h bs)
            · rename_i hno
              have a := ih _ _ _ _ h bs
              cases r with
              | err p => exact let ⟨ls, z⟩ := cl_err (.inr (.inr a)); ⟨ls, step _ _ z⟩
              | ok t j ms => exact (hno _ _ _ h).elim
          · rename_i hc2
            cases h
            exact ⟨_, bad_beh hc (by unfold beh; rw [if_neg (by omega), if_pos rfl, if_neg hc2])⟩
        · rename_i hn
          cases h
          refine ⟨?_, fun o ls z => z.sk⟩
          unfold no2
          rw [skip_skip]
          exact ⟨hn2, hn⟩
    | factor =>
      rw [parse] at h
      split at h
      · rename_i hc
        cases h
        have z := Ev.stop (s := s) (m := ⟨i, false, bs, ns⟩) hc
        rw [if_neg (fun z => Bool.false_ne_true z.1)] at z
        exact ⟨_, z⟩
      · rename_i c hc
        split at h
        · rename_i h45
          subst h45
          have step : ∀ o ls, Ev s ⟨skip s i + 1, false, bs, ns⟩ o ls → Ev s ⟨i, false, bs, ns⟩ o ls := fun o ls z => ev_opd hc (by rfl) z
          split at h
          · rename_i u j ms h1
            cases h
            have a := cl_fac (ih _ _ _ _ h1 bs)
            exact ⟨trivial, fun o ls z => step o ls (a.2 o ls z)⟩
          · rename_i hno
            have a := ih _ _ _ _ h bs
            cases r with
            | err p => exact let ⟨ls, z⟩ := cl_err (.inr (.inr a)); ⟨ls, step _ _ z⟩
            | ok t j ms => exact (hno _ _ _ h).elim
        · rename_i n45
          split at h
          · rename_i h40
            subst h40
            have step : ∀ o ls, Ev s ⟨skip s i + 1, false, .one :: bs, ns⟩ o ls → Ev s ⟨i, false, bs, ns⟩ o ls := fun o ls z => ev_opd hc (by rfl) z
            split at h
            · rename_i u j ms h1
              have a := cl_sum (ih _ _ _ _ h1 (.one :: bs))
              unfold need at h
              split at h
              · rename_i h41
                cases h
                exact ⟨trivial, fun o ls z => step o ls (a.2 o ls (ev_beh h41 (by rfl) z))⟩
              · rename_i h41
                cases h
                exact ⟨_, step _ _ (a.2 _ _ (bad_close a.1 h41))⟩
            · rename_i hno
              have a := ih _ _ _ _ h (.one :: bs)
              cases r with
              | err p => exact let ⟨ls, z⟩ := cl_err (.inl a); ⟨ls, step _ _ z⟩
              | ok t j ms => exact (hno _ _ _ h).elim
          · rename_i n40
            split at h
            · rename_i hd
              have eo : opd s (skip s i) c bs ns = (match intEnd s (skip s i) (skip s i) with | .error e => .inr e | .ok e => .inl ⟨e, true, bs, ns⟩) := by
                unfold opd
                rw [if_neg n45, if_neg n40, if_pos hd]
              split at h
              · rename_i p he
                rw [he] at eo
                cases h
                exact ⟨_, bad_opd hc eo⟩
              · rename_i e he
                rw [he] at eo
                cases h
                exact ⟨trivial, fun o ls z => ev_opd hc eo z⟩
            · rename_i nd
              split at h
              · rename_i hl
                have a := ih _ _ _ _ h bs c hc hl
                cases r with
                | err p => exact let ⟨ls, z⟩ := cl_err (.inl a); ⟨ls, z.sk⟩
                | ok t j ms => exact ⟨trivial, fun o ls z => (a.2 o ls z).sk⟩
              · rename_i nl
                cases h
                exact ⟨_, bad_opd hc (by unfold opd; rw [if_neg n45, if_neg n40, if_neg nd, if_neg nl])⟩
    | word =>
      intro c hc hl
      obtain ⟨n45, n40, nd, n32⟩ := isL_no hl
      have hs : skip s i = i := skip_no (by rw [hc]; intro z; exact n32 (Option.some.inj z))
      have eo : opd s i c bs ns = wrd s i bs ns := by
        unfold opd
        rw [if_neg n45, if_neg n40, nd, if_neg Bool.false_ne_true, if_pos hl]
      have hc' : cp s (skip s i) = some c := by rw [hs]; exact hc
      rw [parse] at h
      unfold wrd at eo
      split at h
      · rename_i p he
        rw [he] at eo
        cases h
        exact ⟨_, bad_opd hc' (by rw [hs]; exact eo)⟩
      · rename_i e he
        rw [he] at eo
        dsimp only at eo
        split at h
        · rename_i hp
          rw [if_pos hp] at eo
          have a : (if cp s (skip s e) = some 40 then Agp s (skip s e + 1) (.pair :: bs) bs ns r else r = .err (skip s e)) := ih _ _ _ _ h bs
          split at a
          · rename_i h40
            rw [if_pos h40] at eo
            cases r with
            | err p => exact let ⟨ls, z⟩ := (show ∃ ls, _ from a); ⟨ls, ev_opd hc' (by rw [hs]; exact eo) z⟩
            | ok t j ms => exact ⟨trivial, fun o ls z => ev_opd hc' (by rw [hs]; exact eo) ((show ∀ o ls, _ from a) o ls z)⟩
          · rename_i h40
            rw [if_neg h40] at eo
            subst a
            exact ⟨_, bad_opd hc' (by rw [hs]; exact eo)⟩
        · rename_i hp
          rw [if_neg hp] at eo
          split at h
          · rename_i hself
            rw [if_pos hself] at eo
            cases h
            exact ⟨_, bad_opd hc' (by rw [hs]; exact eo)⟩
          · rename_i hself
            rw [if_neg hself] at eo
            cases h
            exact ⟨trivial, fun o ls z => ev_opd hc' (by rw [hs]; exact eo) z⟩
    | pair w =>
      rw [parse] at h
      unfold need at h
      unfold Cl
      split at h
      · rename_i h40
        rw [if_pos h40]
        dsimp only at h
        split at h
        · rename_i t1 j1 m1 h1
          have a := cl_sum (ih _ _ _ _ h1 (.pair :: bs))
          split at h
          · rename_i h44
            have step : ∀ o ls, Ev s ⟨skip s j1 + 1, false, .last :: bs, m1⟩ o ls → Ev s ⟨skip s i + 1, false, .pair :: bs, ns⟩ o ls := fun o ls z => a.2 o ls (ev_beh h44 (by rfl) z)
            split at h
            · rename_i t2 j2 m2 h2
              have b := cl_sum (ih _ _ _ _ h2 (.last :: bs))
              split at h
              · rename_i h41
                cases h
                exact fun o ls z => step o ls (b.2 o ls (ev_beh h41 (by rfl) z))
              · rename_i h41
                cases h
                exact ⟨_, step _ _ (b.2 _ _ (bad_close b.1 h41))⟩
            · rename_i hno
              have b := ih _ _ _ _ h (.last :: bs)
              cases r with
              | err p => exact let ⟨ls, z⟩ := cl_err (.inl b); ⟨ls, step _ _ z⟩
              | ok t j ms => exact (hno _ _ _ h).elim
          · rename_i h44
            cases h
            exact ⟨_, a.2 _ _ (bad_close a.1 h44)⟩
        · rename_i hno
          have a := ih _ _ _ _ h (.pair :: bs)
          cases r with
          | err p => exact cl_err (.inl a)
          | ok t j ms => exact (hno _ _ _ h).elim
      · rename_i h40
        rw [if_neg h40]
        cases h
        rfl
end
end Fm

set_option Elab.async false
set_option linter.all false
set_option maxRecDepth 100000
set_option maxHeartbeats 1000000
/-! Mc2: a step goes on; how many names there are; the whole text. -/
namespace Fm
open PySem PySem.Spec L2 Rk
variable {s : Str}
theorem intEnd_gt {p c e : Nat} (hc : cp s p = some c) (hd : isD c = true) (h : intEnd s p p = .ok e) : p < e := by
  rw [intEnd, dif_pos ⟨c, hc, hd⟩, if_neg (by omega)] at h
  exact intEnd_ge _ _ _ rfl h
theorem wordEnd_gt {p c e : Nat} (hc : cp s p = some c) (hl : isL c = true) (h : wordEnd s p p = .ok e) : p < e := by
  rw [wordEnd, dif_pos ⟨c, hc, hl⟩, if_neg (by omega)] at h
  exact wordEnd_ge _ _ _ rfl h
def Ms.fine (m : Ms) : Prop := 2 * m.ns.length ≤ m.i + (if m.w = true then 1 else 0)
theorem step_ok {m m' : Ms} {c : Nat} (hc : cp s (skip s m.i) = some c) (e : (if m.w = true then beh s (skip s m.i) c m.bs m.ns else opd s (skip s m.i) c m.bs m.ns) = .inl m') :
    m.i < m'.i ∧ m'.i ≤ s.length ∧ (m.fine → m'.fine) := by
  have lt := cp_lt hc
  have le := skip_le (s := s) m.i
  unfold Ms.fine
  split at e
  · rename_i hw
    rw [if_pos hw]
    unfold beh at e
    split at e
    · cases e
      exact ⟨by dsimp only; omega, lt, fun h => by dsimp only; omega⟩
    · split at e
      · split at e
        · rename_i h2
          have := cp_lt h2
          cases e
          exact ⟨by dsimp only; omega, by dsimp only; omega, fun h => by dsimp only; omega⟩
        · cases e
      · split at e
        · cases e
          exact ⟨by dsimp only; omega, lt, fun h => by dsimp only; omega⟩
        · split at e
          · cases e
            exact ⟨by dsimp only; omega, lt, fun h => by dsimp only; rw [if_pos rfl]; omega⟩
          · cases e
  · rename_i hw
    rw [if_neg hw]
    unfold opd at e
    split at e
    · cases e
      exact ⟨by dsimp only; omega, lt, fun h => by dsimp only; omega⟩
    · split at e
      · cases e
        exact ⟨by dsimp only; omega, lt, fun h => by dsimp only; omega⟩
      · split at e
        · rename_i hd
          split at e
          · cases e
          · rename_i x hx
            have gt := intEnd_gt hc hd hx
            have le2 := intEnd_le _ _ _ rfl (Nat.le_of_lt lt) hx
            cases e
            exact ⟨by dsimp only; omega, le2.2, fun h => by dsimp only; omega⟩
        · split at e
          · rename_i hl
            unfold wrd at e
            split at e
            · cases e
            · rename_i x hx
              have gt := wordEnd_gt hc hl hx
              have le2 := wordEnd_le _ _ _ rfl (Nat.le_of_lt lt) hx
              have le3 := skip_le (s := s) x
              split at e
              · split at e
                · rename_i h40
                  have := cp_lt h40
                  cases e
                  exact ⟨by dsimp only; omega, by dsimp only; omega, fun h => by dsimp only; omega⟩
                · cases e
              · split at e
                · cases e
                · cases e
                  refine ⟨by dsimp only; omega, le2.2, fun h => ?_⟩
                  dsimp only
                  rw [if_pos rfl, List.length_append, List.length_singleton]
                  omega
          · cases e
theorem Ev.few {m : Ms} {o : Option Nat} {ls : List Str} (h : Ev s m o ls) : m.i ≤ s.length → m.fine → 2 * ls.length ≤ s.length + 1 := by
  induction h with
  | stop h =>
    intro hi hf
    unfold Ms.fine at hf
    split at hf <;> omega
  | bad h e =>
    intro hi hf
    unfold Ms.fine at hf
    split at hf <;> omega
  | go h e k ih =>
    intro hi hf
    have z := step_ok h e
    exact ih z.2.1 (z.2.2 hf)
/-- the machine's answer to a whole text -/
def EvW (s : Str) : R → Prop
  | .err p => ∃ ls, Ev s ⟨0, false, [], []⟩ (some p) ls
  | .ok _ _ ms => Ev s ⟨0, false, [], []⟩ none ms
theorem whole_ev (hs : s.length ≤ 100) : EvW s (wholeR s) := by
  unfold wholeR
  cases h1 : parse s 306 .sum 0 [] with
  | none => exact (parse_some 306 .sum 0 [] (by simp only [Fm.Md.c]; omega) (fun _ _ => trivial) h1).elim
  | some r =>
    have a := agree _ _ _ _ _ h1 []
    cases r with
    | err p => exact a
    | ok t j ms =>
      obtain ⟨⟨⟨g1, g2⟩, g3, g4⟩, k⟩ := cl_sum a
      dsimp only
      by_cases hc : cp s (skip s j) = none
      · rw [if_pos hc]
        have z := Ev.stop (s := s) (m := ⟨j, true, [], ms⟩) hc
        rw [if_pos ⟨rfl, rfl⟩] at z
        exact k _ _ z
      · rw [if_neg hc]
        cases hs : cp s (skip s j) with
        | none => exact (hc hs).elim
        | some c =>
          rw [hs] at g1 g2 g3 g4
          refine ⟨_, k _ _ (bad_beh hs ?_)⟩
          unfold beh
          rw [if_neg, if_neg (fun z => g2 (congrArg some z)), if_neg (fun z => by cases z.2), if_neg (fun z => by rcases z.2 with z | z <;> cases z)]
          rintro (z | z | z)
          · exact g3 (congrArg some z)
          · exact g4 (congrArg some z)
          · exact g1 (congrArg some z)
theorem ev_one {m : Ms} {o o' : Option Nat} {ls ls' : List Str} (h : Ev s m o ls) (h' : Ev s m o' ls') : o = o' ∧ ls = ls' := by
  induction h with
  | stop h =>
    cases h' with
    | stop h2 => exact ⟨rfl, rfl⟩
    | bad h2 e => rw [h] at h2; cases h2
    | go h2 e k => rw [h] at h2; cases h2
  | bad h e =>
    cases h' with
    | stop h2 => rw [h] at h2; cases h2
    | bad h2 e2 =>
      rw [h] at h2
      cases h2
      rw [e] at e2
      cases e2
      exact ⟨rfl, rfl⟩
    | go h2 e2 k =>
      rw [h] at h2
      cases h2
      rw [e] at e2
      cases e2
  | go h e k ih =>
    cases h' with
    | stop h2 => rw [h] at h2; cases h2
    | bad h2 e2 =>
      rw [h] at h2
      cases h2
      rw [e] at e2
      cases e2
    | go h2 e2 k2 =>
      rw [h] at h2
      cases h2
      rw [e] at e2
      cases e2
      exact ih k2
theorem names_few {t : T} {j : Nat} {ms : List Str} (hs : s.length ≤ 100) (h : wholeR s = .ok t j ms) : ms.length ≤ 50 := by
  have z := whole_ev hs
  rw [h] at z
  have := Ev.few (show Ev s ⟨0, false, [], []⟩ none ms from z) (Nat.zero_le _) (by unfold Ms.fine; simp)
  omega
end Fm

set_option Elab.async false
set_option linter.all false
set_option maxRecDepth 100000
set_option maxHeartbeats 2000000
/-! TxtOp: a text times a number, the two signs of a text turned round. -/
namespace CL
open PySem PySem.Spec PyProof.Rows L2
/-- how often a text -/
def repT (z : Str) (n : Nat) : Str := ⟨(List.replicate n z.cps.toList).flatten.toArray⟩
theorem repT_len (z : Str) (n : Nat) : (repT z n).length = n * z.length := by
  unfold repT
  show ((List.replicate n z.cps.toList).flatten.toArray).size = _
  rw [List.size_toArray, List.length_flatten, List.map_replicate, List.sum_replicate_nat]
  rfl
theorem foldl_app (x : Array Nat) : ∀ (n : Nat) (a : Array Nat), (List.replicate n x).foldl (· ++ ·) a = a ++ (List.replicate n x.toList).flatten.toArray
  | 0, a => by simp
  | n + 1, a => by
    rw [List.replicate_succ, List.foldl_cons, foldl_app x n, List.replicate_succ, List.flatten_cons]
    apply Array.toList_inj.mp
    simp
theorem mul_rep (z : Str) (n : Int) : Txt.mul z n = repT z n.toNat := by
  unfold Txt.mul repT
  by_cases h : n < 1
  · rw [if_pos h]
    have : n.toNat = 0 := by omega
    rw [this]
    rfl
  · rw [if_neg h]
    by_cases h2 : (n == 1 || z.length == 0) = true
    · rw [if_pos h2]
      rw [Bool.or_eq_true] at h2
      rcases h2 with h2 | h2
      · have : n = 1 := eq_of_beq h2
        subst this
        show z = ⟨(List.replicate 1 z.cps.toList).flatten.toArray⟩
        simp
      · have h3 : z.cps = #[] := Array.size_eq_zero_iff.mp (eq_of_beq h2)
        show z = _
        cases z with
        | mk c =>
          dsimp only at h3
          subst h3
          congr 1
          apply Array.toList_inj.mp
          simp
    · rw [if_neg h2]
      congr 1
      rw [foldl_app]
      simp
def rRepS : R2 := fun x y H Q => ∃ (z : Str) (k : Int), x = .str z ∧ y = .int k ∧ k ≤ 100000 ∧ -100000 ≤ k ∧ z.length ≤ 100 ∧ Q (.str (repT z k.toNat)) H
theorem op_repS {X : Cx} : OpR X (binaryOp .Mult) rRepS := by
  intro pins s σ H x y v u Q I rx ry h
  obtain ⟨z, k, rfl, rfl, h1, h2, h3, q⟩ := h
  obtain ⟨t, rfl⟩ := rx
  obtain ⟨t', rfl⟩ := ry
  have hm : z.length * k.toNat ≤ 100 * 100000 := Nat.mul_le_mul h3 (by omega)
  refine SB.mul ⟨?_, fun n1 _ => ?_, fun n1 _ => ?_⟩ fun t' tk => ⟨.str (Txt.mul z k), H, I.tok _, ⟨_, rfl⟩, ?_⟩
  · rw [Bool.or_eq_false_iff]
    exact ⟨decide_eq_false (by omega), decide_eq_false (by omega)⟩
  · have : (100 : Int) ≤ (2 ^ 63 - 1) / k := by
      rw [Int.le_ediv_iff_mul_le (by omega)]
      omega
    omega
  · unfold Builtin.Str.tooLong
    exact decide_eq_false (by rw [sizeLine_eq]; omega)
  · rw [mul_rep]
    exact q
/-- t[::-1] of at most two signs -/
def tRevS (te : TE) : TE := fun σ H Q => te σ H fun x H1 => ∃ z, x = .str z ∧ z.length ≤ 2 ∧ ∀ y : Str, y.length ≤ 2 → (∀ c ∈ y.cps.toList, c ∈ z.cps.toList) → Q (.str y) H1
theorem rev2 {z : Str} (h : z.length ≤ 2) : ((PySem.slicePicked z none none (some (-1, t))).filterMap (z.cps[·]?)).length ≤ 2 := by
  refine Nat.le_trans (List.length_filterMap_le _ _) ?_
  unfold PySem.slicePicked
  show (Builtin.Str.strSliceIndices none none (-1) z.length).length ≤ 2
  have : z.length = 0 ∨ z.length = 1 ∨ z.length = 2 := by omega
  rcases this with e | e | e <;> rw [e] <;> decide
theorem pe_revS {X : Cx} {e : Expr} {te : TE} {k : Nat} {p1 p2 p3 pos : Pos} (he : PE X e te) : PE X (.Subscript e (.Slice none none (some (.UnaryOp .USub (.Constant (.int 1) k p1) p2)) p3) pos) (tRevS te) := by
  refine ⟨fun pins s σ H Q I h => ?_⟩
  refine Subscript_ (thn (he.run pins s σ H _ I h) fun v s1 ⟨x, H1, I1, r1, q1⟩ => ?_)
  obtain ⟨z, ex, hz, q⟩ := q1
  subst ex
  obtain ⟨t, rfl⟩ := r1
  have hst : PO X (some (.UnaryOp .USub (.Constant (.int 1) k p1) p2)) (tPart (tUn (rU fun i => .int (-i)) (tC (.int 1)))) := po_some (pe_un un_neg pe_int)
  refine wpAny_Slice (thn (po_none.run pins s1 σ H1 (fun o H2 => o = none ∧ H2 = H1) I1 ⟨rfl, rfl⟩) fun vl s2 ⟨l, H2, I2, pl, el, e2⟩ => ?_)
  subst el e2
  refine thn (po_none.run pins s2 σ H2 (fun o H3 => o = none ∧ H3 = H2) I2 ⟨rfl, rfl⟩) fun vu s3 ⟨u, H3, I3, pu, eu, e3⟩ => ?_
  subst eu e3
  refine thn (hst.run pins s3 σ H3 (fun o H4 => o = some (-1) ∧ H4 = H3) I3 ⟨1, rfl, -1, rfl, rfl, rfl⟩) fun vs s4 ⟨o, H4, I4, ps, eo, e4⟩ => ?_
  subst eo e4
  have I5 : Inv X pins σ H4 { s4 with heap := s4.heap.push { cls := .type "slice", data := .fields #[vl, vu, vs] } } := I4.kept (t' := s4.toks) fun b ob q => Heap.get?_push_of_some _ q
  show wpAny (model X.prog X.w) X.A (subscriptTail e (.Slice none none (some (.UnaryOp .USub (.Constant (.int 1) k p1) p2)) p3) (.str z t) (.ref s4.heap.objs.size)) (EP X pins σ Q) X.xe { s4 with heap := s4.heap.push { cls := .type "slice", data := .fields #[vl, vu, vs] } }
  refine tail_any (ops := [.ref s4.heap.objs.size, .str z t]) (typeIs_str _ _ _) (F.slot_str_getitem.lookup) ?_ (by with_unfolding_all rfl)
  obtain ⟨l', rfl, hl⟩ := IsPart.raw pl
  obtain ⟨u', rfl, hu⟩ := IsPart.raw pu
  obtain ⟨s', rfl, hs⟩ := IsPart.raw ps
  have l0 : l' = none := by cases l' with
    | none => rfl
    | some a => cases hl
  have u0 : u' = none := by cases u' with
    | none => rfl
    | some a => cases hu
  subst l0 u0
  obtain ⟨t2, rfl⟩ : ∃ t2, s' = some (-1, t2) := by
    cases s' with
    | none => cases hs
    | some a =>
      cases a with
      | mk a b =>
        have : a = -1 := by injection hs
        exact ⟨b, by rw [this]⟩
  refine wpAny_getItem_str_slice (l := none) (u := none) (st := some (-1, t2)) ⟨_, Heap.get?_push_size _ rfl, rfl, rfl⟩ rfl ?_
  unfold PySem.sliceMade
  show Made.post (if ((-1 : Int) == 1 && _) = true then _ else _) _ _
  rw [show ((-1 : Int) == 1) = false from rfl, Bool.false_and, if_neg Bool.false_ne_true]
  have hlen := rev2 (t := t2) hz
  have hy : (⟨((PySem.slicePicked z none none (some (-1, t2))).filterMap (z.cps[·]?)).toArray⟩ : Str).length ≤ 2 := by
    show (((PySem.slicePicked z none none (some (-1, t2))).filterMap (z.cps[·]?)).toArray).size ≤ 2
    rw [List.size_toArray]
    exact hlen
  refine ⟨Nat.le_trans hy (by decide), .str _, H4, I5.tok _, ⟨_, rfl⟩, q _ hy fun c hc => ?_⟩
  have hc : c ∈ ((PySem.slicePicked z none none (some (-1, t2))).filterMap (z.cps[·]?)) := hc
  obtain ⟨i, _, hi⟩ := List.mem_filterMap.mp hc
  obtain ⟨hlt, e⟩ := Array.getElem?_eq_some_iff.mp hi
  rw [← e]
  simp
end CL

set_option Elab.async false
set_option linter.all false
set_option maxRecDepth 100000
set_option maxHeartbeats 2000000
/-! Tex: trees and their texts; signs that are signs. -/
namespace Fm
open PySem PySem.Spec PyProof.Rows L2 CL
def gapS (g : Nat) : Str := repT " " g
def dep : T → Nat
  | .num _ => 0
  | .nam _ => 0
  | .neg t => dep t + 1
  | .op _ a b => max (dep a) (dep b) + 1
/-- a parameter's name -/
structure Wd (w : Str) : Prop where
  lets : ∀ c ∈ w.cps.toList, isL c = true
  ne : 1 ≤ w.length
  few : w.length ≤ 8
  n1 : w ≠ "min"
  n2 : w ≠ "max"
  n3 : w ≠ "self"
def ops : List Str := ["+", "-", "*", "//", "min", "max"]
def TOk (ws : List Str) : T → Prop
  | .num n => 0 ≤ n ∧ n ≤ 10 ^ 30 + 2
  | .nam w => w ∈ ws
  | .neg t => TOk ws t
  | .op o a b => o ∈ ops ∧ TOk ws a ∧ TOk ws b
/-- s is a text of t, of a level: 0 a sum, 1 a term, 2 a factor -/
inductive TexB (B : Nat) : T → Nat → Str → Prop
  | num {n : Int} : TexB B (.num n) 2 (toString n : String)
  | nam {w : Str} : TexB B (.nam w) 2 w
  | neg {t : T} {l g : Nat} {s : Str} : TexB B t l s → 2 ≤ l → g ≤ B → TexB B (.neg t) 2 ("-" ++ gapS g ++ s)
  | pair {o : Str} {a b : T} {la lb g0 g1 g2 g3 g4 : Nat} {sa sb : Str} : o = "min" ∨ o = "max" → TexB B a la sa → TexB B b lb sb → (g0 ≤ B ∧ g1 ≤ B ∧ g2 ≤ B ∧ g3 ≤ B ∧ g4 ≤ B) → TexB B (.op o a b) 2 (o ++ gapS g0 ++ "(" ++ (gapS g1 ++ sa ++ gapS g2 ++ "," ++ (gapS g3 ++ sb ++ gapS g4)) ++ ")")
  | sum {o : Str} {a b : T} {la lb g0 g1 : Nat} {sa sb : Str} : o = "+" ∨ o = "-" → TexB B a la sa → TexB B b lb sb → 1 ≤ lb → (g0 ≤ B ∧ g1 ≤ B) → TexB B (.op o a b) 0 (sa ++ (gapS g0 ++ o ++ gapS g1) ++ sb)
  | term {o : Str} {a b : T} {la lb g0 g1 : Nat} {sa sb : Str} : o = "*" ∨ o = "//" → TexB B a la sa → 1 ≤ la → TexB B b lb sb → 2 ≤ lb → (g0 ≤ B ∧ g1 ≤ B) → TexB B (.op o a b) 1 (sa ++ (gapS g0 ++ o ++ gapS g1) ++ sb)
  | br {t : T} {l g1 g2 : Nat} {s : Str} : TexB B t l s → (g1 ≤ B ∧ g2 ≤ B) → TexB B t 2 ("(" ++ gapS g1 ++ s ++ gapS g2 ++ ")")
abbrev Tex := TexB 2
def xB : Nat → Nat
  | 0 => 40
  | d + 1 => xB d + xB d + 40
theorem xB_mono : ∀ {a b : Nat}, a ≤ b → xB a ≤ xB b
  | a, 0, h => by rw [Nat.le_zero.mp h]; exact Nat.le_refl _
  | a, b + 1, h => by
    rcases Nat.lt_or_ge a (b + 1) with z | z
    · have := xB_mono (a := a) (b := b) (by omega)
      show xB a ≤ xB b + xB b + 40
      omega
    · have : a = b + 1 := by omega
      rw [this]; exact Nat.le_refl _
theorem gap_len (g : Nat) : (gapS g).length = g := by
  unfold gapS
  rw [repT_len]
  have : (" " : Str).length = 1 := by decide +kernel
  rw [this, Nat.mul_one]
theorem app_len (a b : Str) : (a ++ b).length = a.length + b.length := by
  rw [TL.len_tl, TL.len_tl, TL.len_tl, TL.tl_append, List.length_append]
/-- signs -/
def So (s : Str) : Prop := ∀ c ∈ s.cps.toList, c < 1114112
theorem So.ok {s : Str} (h : So s) : PyData.strOk s = true := by
  unfold PyData.strOk
  rw [Array.all_eq_true']
  intro c hc
  exact decide_eq_true (h c (by simpa using hc))
theorem So.of {s : Str} (h : PyData.strOk s = true) : So s := by
  unfold PyData.strOk at h
  rw [Array.all_eq_true'] at h
  intro c hc
  exact of_decide_eq_true (h c (by simpa using hc))
theorem So.lit (s : String) : So s := .of (strOk_text s)
theorem So.app {a b : Str} (h1 : So a) (h2 : So b) : So (a ++ b) := fun c hc => by
  have hc : c ∈ TL.tl (a ++ b) := hc
  rw [TL.tl_append] at hc
  rcases List.mem_append.mp hc with z | z
  · exact h1 c z
  · exact h2 c z
theorem So.rep {a : Str} (h : So a) (n : Nat) : So (repT a n) := fun c hc => by
  have hc : c ∈ (List.replicate n a.cps.toList).flatten := hc
  obtain ⟨l, hl, hc⟩ := List.mem_flatten.mp hc
  rw [(List.mem_replicate.mp hl).2] at hc
  exact h c hc
theorem So.cut {a : Str} (h : So a) (lo hi : Option Int) : So (cutS a lo hi) := fun c hc => by
  have hc : c ∈ (a.cps.toList.drop (HT.sIx a.length 0 lo)).take (HT.sIx a.length a.length hi - HT.sIx a.length 0 lo) := hc
  exact h c (List.mem_of_mem_drop (List.mem_of_mem_take hc))
theorem So.gap (g : Nat) : So (gapS g) := (So.lit " ").rep g
theorem So.wd {w : Str} (h : Wd w) : So w := fun c hc => by
  have := h.lets c hc
  unfold isL at this
  have := of_decide_eq_true this
  omega
theorem ops_so {o : Str} (h : o ∈ ops) : So o := by
  simp only [ops, List.mem_cons, List.not_mem_nil, or_false] at h
  rcases h with rfl | rfl | rfl | rfl | rfl | rfl <;> exact .lit _
theorem TexB.so {B : Nat} {ws : List Str} (hw : ∀ w ∈ ws, Wd w) {t : T} {l : Nat} {s : Str} (h : TexB B t l s) : TOk ws t → So s := by
  induction h with
  | num => intro _; exact .lit _
  | nam => intro k; exact .wd (hw _ k)
  | neg _ _ _ ih => intro k; exact ((So.lit _).app (.gap _)).app (ih k)
  | pair _ _ _ _ i1 i2 => intro k; exact ((((ops_so k.1).app (.gap _)).app (.lit _)).app (((((So.gap _).app (i1 k.2.1)).app (.gap _)).app (.lit _)).app (((So.gap _).app (i2 k.2.2)).app (.gap _)))).app (.lit _)
  | sum _ _ _ _ _ i1 i2 => intro k; exact ((i1 k.2.1).app (((So.gap _).app (ops_so k.1)).app (.gap _))).app (i2 k.2.2)
  | term _ _ _ _ _ _ i1 i2 => intro k; exact ((i1 k.2.1).app (((So.gap _).app (ops_so k.1)).app (.gap _))).app (i2 k.2.2)
  | br _ _ ih => intro k; exact ((((So.lit _).app (.gap _)).app (ih k)).app (.gap _)).app (.lit _)
/-- a tree of the law's in the heap -/
inductive LTr (H : Hp) : V → T → Prop
  | num {a : Addr} {n : Int} : H a = some (.tup [.str "number", .int n]) → LTr H (.ref a) (.num n)
  | nam {a : Addr} {w : Str} : H a = some (.tup [.str "name", .str w]) → LTr H (.ref a) (.nam w)
  | neg {a : Addr} {v : V} {t : T} : H a = some (.tup [.str "minus", v]) → LTr H v t → LTr H (.ref a) (.neg t)
  | op {a : Addr} {o : Str} {v u : V} {t r : T} : H a = some (.tup [.str o, v, u]) → LTr H v t → LTr H u r → LTr H (.ref a) (.op o t r)
theorem LTr.on {H H' : Hp} (k : ∀ b xs, H b = some (.tup xs) → H' b = some (.tup xs)) {v : V} {t : T} (h : LTr H v t) : LTr H' v t := by
  induction h with
  | num h => exact .num (k _ _ h)
  | nam h => exact .nam (k _ _ h)
  | neg h _ i1 => exact .neg (k _ _ h) i1
  | op h _ _ i1 i2 => exact .op (k _ _ h) i1 i2
theorem LTr.same {H H' : Hp} (k : Same H H') {v : V} {t : T} (h : LTr H v t) : LTr H' v t := h.on fun b xs e => k _ _ e
theorem LTr.but {H H' : Hp} {p : Addr} {k : Nat} (P : PenB H p k) (s : But p H H') {v : V} {t : T} (h : LTr H v t) : LTr H' v t := h.on fun b xs e => s.keep b _ (P.ne e fun _ z => nomatch z) e
/-- few figures -/
theorem num_len {n : Int} (h0 : 0 ≤ n) (h1 : n ≤ 10 ^ 30 + 2) : (Str.ofString (toString n)).length ≤ 32 := by
  have := int_text_length_le10 (a := n) (k := 31) (by decide) (by omega)
  rw [PySem.ofString_length]
  exact this
end Fm

set_option Elab.async false
set_option linter.all false
set_option maxRecDepth 100000
set_option maxHeartbeats 2000000
/-! Keep: a caught error that a name keeps behind the clause: except C as n: m = n, and what follows. -/
namespace CL
open PySem PySem.Spec PyProof.Rows L2
section
variable {X : Cx} {a C D : Addr} {oe : Obj} {cls : Value} {d : Option Addr} {pn : List (Addr × Obj)} {xe : Value → Shared → Prop} {e : Expr} {te : TE} {p q pos : Pos} {n : Str}
theorem pe_xfK (T : XfC X.K C) (hno : PySem.W.findIn X.K (.ref C) n = some none) (hz : Zc cls d oe) (hf : ∃ vs, oe.data = .fields vs) (he : PE (X.tr ((a, oe) :: pn) xe) e te) (hb : attributeBase e n X.env (eval e X.env) = eval e X.env := by rfl) :
    PE (X.tr ((a, oe) :: pn) xe) (.Attribute e n pos) (tXf a cls d C n te) := by
  refine ⟨fun pins s σ H Q I h => ?_⟩
  refine attr_of hb (thn (he.run pins s σ H _ I h) fun u s1 hh => ?_)
  obtain ⟨x, H1, I1, rx, ex, ec, dd, fs, v, ed, ea, l, q⟩ := hh
  subst ex
  obtain rfl : u = Value.ref a := rx
  subst ec
  subst ed
  obtain ⟨ha, _⟩ := I1.pin (a, oe) (List.mem_append_left _ List.mem_cons_self)
  obtain ⟨vs, hd⟩ := hf
  have hx : ObjOk X.prog X.w H1 s1.heap dd (.xd fs) := I1.hok dd _ ea
  obtain ⟨mA, hns, hr⟩ := hx
  obtain ⟨od, ho, hl⟩ := lookIn_ns hns
  obtain ⟨u, hu, ru⟩ := RelO.some_of (v := v) (o := mA n) (by rw [← l]; exact hr n)
  have J : PySem.W.InstAt s1.heap a oe C (some od) := ⟨ha, hz.1, by unfold PySem.W.notCls; rw [hd] <;> rfl, by rw [hz.2]; exact ho⟩
  exact HandSPX.exc_get I1.kIn J T.ga T.gg T.exC (PySem.W.findObj_own T.hdC hno rfl (by rw [hl, hu])) (handed_of ru) ⟨v, H1, I1.tok _, ru, q⟩
theorem c_isEK {T : String} (hm : PySem.W.kitMeta T = true) (hz : Zc cls d oe) (hf : ∃ vs, oe.data = .fields vs) : CallR (X.tr ((a, oe) :: pn) xe) (.builtin "isinstance")
    (fun xs H Q => xs = [.ref a, .ty T] ∧ (∃ D, cls = .ref D ∧ PySem.W.subIn X.K (.ref D) (.type T) = some true) ∧ (d = none ∨ ∃ dd fs, d = some dd ∧ H dd = some (.xd fs)) ∧ Q (.bl true) H) := by
  intro pins s σ H xs us Q I r h
  obtain ⟨rfl, ⟨D, rfl, hs⟩, hd, k⟩ := h
  cases r with
  | cons rx rr =>
    cases rr with
    | cons rt rr =>
      cases rr
      cases rx
      cases rt
      obtain ⟨at_, _⟩ := I.pin (a, oe) (List.mem_append.mpr (.inl List.mem_cons_self))
      obtain ⟨vs, hv⟩ := hf
      have nc : PySem.W.notCls oe = true := by unfold PySem.W.notCls; rw [hv] <;> rfl
      have go : ∀ od, PySem.W.InstAt s.heap a oe D od → wpAny (model X.prog X.w) (X.tr ((a, oe) :: pn) xe).A (call (.builtin "isinstance") [.ref a, .type T]) (EP (X.tr ((a, oe) :: pn) xe) pins σ Q) (X.tr ((a, oe) :: pn) xe).xe s := fun od J =>
        exc_isi hs hm I.kIn J fun tk => ⟨.bl true, H, I.kept (t' := tk) fun _ _ z => z, rfl, k⟩
      rcases hd with rfl | ⟨dd, fs, rfl, hx⟩
      · exact go none ⟨at_, hz.1, nc, by rw [hz.2]; trivial⟩
      · obtain ⟨mA, hns, _⟩ := (show ObjOk X.prog X.w H s.heap dd (.xd fs) from I.hok dd _ hx)
        obtain ⟨od, ho, _⟩ := lookIn_ns hns
        exact go (some od) ⟨at_, hz.1, nc, by rw [hz.2]; exact ho⟩
theorem pe_isEK {T : Str} {T' : String} (hT : bootBuiltins T = some (.type T')) (hm : PySem.W.kitMeta T' = true) (hz : Zc cls d oe) (hf : ∃ vs, oe.data = .fields vs) (hmI : X.mg "isinstance" = none) (hmT : X.mg T = none) (hgI : Gl X "isinstance") (hgT : Gl X T)
    (he : PE (X.tr ((a, oe) :: pn) xe) e te) (hn : T ≠ "__name__" := by decide) (hdb : (T == ("__debug__" : Str)) = false := by decide)
    (h1 : starEach [e, .Name T q] X.env = (false, eval e X.env) :: starEach [.Name T q] X.env := by rfl) (h2 : (backTo pos (starEach [.Name T q] X.env)).any (·.1) = false := by rfl)
    (h3 : starEach [.Name T q] X.env = (false, eval (.Name T q) X.env) :: starEach [] X.env := by rfl) :
    PE (X.tr ((a, oe) :: pn) xe) (.Call (.Name "isinstance" p) [e, .Name T q] [] pos) (cIsE a cls d X.K T' te) := by
  refine PE_imp (pe_callB (X := X.tr ((a, oe) :: pn) xe) (c_isEK hm hz hf) hgI hmI (by decide +kernel) (pa_cons (PE_up he) (pa_cons (pe_bltn (v := .ty T') hgT hmT hT rfl hn hdb) pa_nil h3) h1) (by decide) (by decide) h1 h2) fun σ H Q h => ⟨_, h, fun x H1 q => ?_⟩
  obtain ⟨rfl, hc, hd, k⟩ := q
  exact ⟨rfl, hc, hd, k⟩
end
/-- what is wished of an exception: the clause, then what follows -/
def wKeep (K : PySem.W.Frag) (c : Value) (i : Nat) (ts u1 : Addr → Value → Option Addr → TS) (Wout : WX) (D : Ends) : WX := fun cls d σ H => ∃ b, PySem.W.exmOne K cls c = some b ∧
  (b = true → ∀ a, H a = none → ts a cls d { nx := fun σ' H' => u1 a cls d D (σ'.set i none) H', rt := D.rt, bk := fun σ' H' => D.bk (σ'.set i none) H', ct := fun σ' H' => D.ct (σ'.set i none) H' } (σ.set i (some (.ref a))) H) ∧ (b = false → Wout cls d σ H)
section
variable {X : Cx} {pins : List (Addr × Obj)} {σ : L2.St} {H : Hp} {s : Shared} {Wout : WX} {n x : Str} {i : Nat} {c : Value}
theorem Inv.keepPin {a : Addr} {pn' : List (Addr × Obj)} (I : Inv (X.suite a pn') [] σ H s) (ok : X.Ok) : Inv (X.tr pn' X.xe) [] σ H s :=
  ⟨ok.toTry _ _, I.os, I.bare, I.base, I.loc, I.cell, I.free, I.freeC, fun p hp => I.pin p hp, I.hok, I.len⟩
theorem Inv.dropPin {q : Addr × Obj} {pn' : List (Addr × Obj)} {xe : Value → Shared → Prop} (I : Inv (X.tr (q :: (X.pn ++ pins)) xe) pn' σ H s) (ok : X.Ok) : Inv X pins σ H s :=
  ⟨ok, I.os, I.bare, I.base, I.loc, I.cell, I.free, I.freeC, fun p hp => I.pin p (List.mem_append_left _ (List.mem_cons_of_mem _ hp)), I.hok, I.len⟩
/-- try: body; except C as n: suite; and the rest -/
theorem pss_try_keep {body suite rest : List Stmt} {b₀ : Stmt} {np pos' pos : Pos} {tb : WX → TS} {ts u1 : Addr → Value → Option Addr → TS} {u0 : TS} (hs : X.stack = X.env :: X.outer) (hf : X.env.frame = some X.env.locals) (hN : X.N.Nodup) (hi : X.N[i]? = some n) (hln : X.env.kindOf n = some .local)
    (hc : Names X x c) (tk : Takes X Wout)
    (hb : ∀ (W : WX) (pn : List (Addr × Obj)) (xe : Value → Shared → Prop), Takes (X.tr pn xe) W → PassesOwn (model X.prog X.w) X.A X.env xe → PSs (X.tr pn xe) body (tb W))
    (hsu : ∀ (a : Addr) (oe : Obj) (cls : Value) (d : Option Addr) (pn : List (Addr × Obj)), Zc cls d oe → (∃ vs, oe.data = .fields vs) → PSs (X.suite a ((a, oe) :: pn)) (b₀ :: suite) (ts a cls d))
    (h0 : PSs X rest u0) (h1 : ∀ (a : Addr) (oe : Obj) (cls : Value) (d : Option Addr) (pn : List (Addr × Obj)), Zc cls d oe → (∃ vs, oe.data = .fields vs) → PSs (X.tr ((a, oe) :: pn) X.xe) rest (u1 a cls d)) :
    PSs X (.Try body [.ExceptHandler (some (.Name x np)) (some n) (b₀ :: suite) pos'] [] [] pos :: rest) (fun D σ H => tb (wKeep X.K c i ts u1 Wout D) { D with nx := u0 D } σ H) := by
  refine ⟨fun pins s σ H D I h => ?_⟩
  have xok := I.ok
  refine wpAny_execs_cons (wpAny_Try_except ?_)
  let R : Flow → Shared → Prop := fun f s' => match f with
    | .next => wpAny (model X.prog X.w) X.A (execs rest X.env) (SP X pins D) X.xe s'
    | f => SP X pins D f s'
  let xe : Value → Shared → Prop := fun e s₁ => wpAny (model X.prog X.w) X.A (noteFrame e X.env) (fun _ s₂ => wpAny (model X.prog X.w) X.A (setFlight e none) (fun _ s₃ => wpAny (model X.prog X.w) X.A (handleBy e X.env [.ExceptHandler (some (.Name x np)) (some n) (b₀ :: suite) pos']) R X.xe s₃) X.xe s₂) X.xe s₁
  have handled : ∀ {σ : L2.St} {H : Hp} {a : Addr} {cls : Value} {d : Option Addr} {s : Shared}, Down X pins σ H a cls d s → wKeep X.K c i ts u1 Wout D cls d σ H → wpAny (model X.prog X.w) X.A (handleBy (.ref a) X.env [.ExceptHandler (some (.Name x np)) (some n) (b₀ :: suite) pos']) R X.xe s := by
    intro σ H a cls d s L w
    obtain ⟨b, hb2, yes, no⟩ := w
    have J := L.inv
    obtain ⟨oe, at_, zc, dv, S⟩ := L.pinned hf
    have kind : PySem.W.Looks (model X.prog X.w) s.heap (typeOf (.ref a)) cls := fun A Q E s' k q => wpAny_typeOf_ref (k _ _ at_) (by rw [zc.1]; exact q)
    refine wpAny_handleBy_cons (codeAny_handlers_test (asks hc S ((PySem.W.exm_one (M := model X.prog X.w) J.kIn kind hb2).here ?_))) (fun q => nomatch q)
    cases b with
    | false =>
      refine wpAny_mono (L.out hs hf tk (no rfl) (D := { D with nx := fun _ _ => False })) (fun f s' e => ?_) fun _ _ z => z
      cases f with
      | next =>
        obtain ⟨σ2, H2, J2, q⟩ := e
        exact q.elim
      | _ => exact e
    | true =>
      refine codeAny_handlers_suite_as (L.again fun s2 M => ?_)
      obtain ⟨oe2, at2, zc2, dv2, S2⟩ := M.pinned hf
      have na : H a = none := by obtain ⟨_, _, _, _, _, _, na, _⟩ := M; exact na
      refine store_ok (X := X.suite a ((a, oe2) :: (X.pn ++ pins))) (v := .ref a) S2 hN hi (.inl hln) rfl (fun s3 S3 => ?_) (.inr hln)
      have gone : ∀ {σ4 : L2.St} {H4 : Hp} {s4 : Shared} {R : Shared → Prop}, Inv (X.suite a ((a, oe2) :: (X.pn ++ pins))) [] σ4 H4 s4 → (∀ s5, Inv X pins (σ4.set i none) H4 s5 → R s5) →
          wpAny (model X.prog X.w) X.A (do bindName X.env n .none; unbindBehindTheSuite X.env n pos') (fun _ s5 => R s5) X.xe s4 := fun S4 k => gone_ok (S4.unsuite J.ok) hN hi hln k
      have goneK : ∀ {σ4 : L2.St} {H4 : Hp} {s4 : Shared} {R : Shared → Prop}, Inv (X.suite a ((a, oe2) :: (X.pn ++ pins))) [] σ4 H4 s4 → (∀ s5, Inv (X.tr ((a, oe2) :: (X.pn ++ pins)) X.xe) [] (σ4.set i none) H4 s5 → R s5) →
          wpAny (model X.prog X.w) X.A (do bindName X.env n .none; unbindBehindTheSuite X.env n pos') (fun _ s5 => R s5) X.xe s4 := fun S4 k => gone_ok (X := X.tr ((a, oe2) :: (X.pn ++ pins)) X.xe) (Inv.keepPin S4 J.ok) hN hi hln k
      refine wpAny_mono ((hsu a oe2 cls d (X.pn ++ pins) zc2 dv2).run [] s3 _ H _ S3 (yes rfl a na)) (fun f s4 e => ?_) fun _ _ z => z.elim
      cases f with
      | ret u => obtain ⟨v, σ4, H4, S4, rv, q⟩ := e; exact gone S4 fun s5 J5 => ⟨v, _, _, J5, rv, q⟩
      | next =>
        obtain ⟨σ4, H4, S4, q⟩ := e
        refine goneK S4 fun s5 J5 => ?_
        refine wpAny_mono ((h1 a oe2 cls d (X.pn ++ pins) zc2 dv2).run [] s5 _ H4 D J5 q) (fun f s6 e => ?_) fun _ _ z => z
        cases f with
        | next => obtain ⟨σ6, H6, J6, q6⟩ := e; exact ⟨_, _, Inv.dropPin J6 J.ok, q6⟩
        | ret u => obtain ⟨v, σ6, H6, J6, rv, q6⟩ := e; exact ⟨v, _, _, Inv.dropPin J6 J.ok, rv, q6⟩
        | brk => obtain ⟨σ6, H6, J6, q6⟩ := e; exact ⟨_, _, Inv.dropPin J6 J.ok, q6⟩
        | cont => obtain ⟨σ6, H6, J6, q6⟩ := e; exact ⟨_, _, Inv.dropPin J6 J.ok, q6⟩
      | brk => obtain ⟨σ4, H4, S4, q⟩ := e; exact gone S4 fun s5 J5 => ⟨_, _, J5, q⟩
      | cont => obtain ⟨σ4, H4, S4, q⟩ := e; exact gone S4 fun s5 J5 => ⟨_, _, J5, q⟩
  have tx : Takes (X.tr (X.pn ++ pins) xe) (wKeep X.K c i ts u1 Wout D) := fun u s2 x => by
    obtain ⟨a, B, sI, _, σ2, H2, cls, d, rfl, J, nb, up, sky, na, os, ag, w⟩ := x
    have sky2 : Sky B (X.env :: X.outer) a (Zc cls d) X.env.locals s2.heap := hs ▸ sky
    exact Sky.land Zc.steady (xok.frames.trans (congrArg some hs)) hf sky2 fun h3 fl up3 =>
      handled (s := { s2 with heap := h3 }) ⟨B, sI, J.ofTry xok, nb, up.trans up3, fl, na, os, ag⟩ w
  refine wpAny_mono ((hb _ (X.pn ++ pins) xe tx PassesOwn.looking).run [] s σ H { D with nx := u0 D } (I.toTry _) h) (fun f s1 e => ?_) fun _ _ z => z
  cases f with
  | next => obtain ⟨σ2, H2, J, q⟩ := e; exact wpAny_execs_nil (h0.run pins s1 σ2 H2 D (J.ofTry xok) q)
  | ret u => obtain ⟨v, σ2, H2, J, rv, q⟩ := e; exact ⟨v, σ2, H2, J.ofTry xok, rv, q⟩
  | brk => obtain ⟨σ2, H2, J, q⟩ := e; exact ⟨σ2, H2, J.ofTry xok, q⟩
  | cont => obtain ⟨σ2, H2, J, q⟩ := e; exact ⟨σ2, H2, J.ofTry xok, q⟩
end
end CL

set_option Elab.async false
set_option linter.all false
set_option maxRecDepth 100000
set_option maxHeartbeats 4000000
/-! OwnEx: own error classes over KeyError, whose making is LookupError's: nothing in HandS speaks of them. -/
namespace CL
open PySem PySem.Spec PyProof.Rows L2
abbrev keTail : List Value := [.type "KeyError", .type "LookupError", .type "Exception", .type "BaseException", .type "object"]
theorem store_ke : StoreFacts "KeyError" keTail "object.__setattr__" "object" where
  mro := by kernel_rfl
  slot := .of (owner := "object") (n := "__setattr__") (by rw [typeLookup_type, builtinLookup_eq_fast]; kernel_rfl) (by decide +kernel) (by decide +kernel) (by decide +kernel) (by first | exact .inl (by decide +kernel) | exact .inr (by decide +kernel)) (by rw [isSubtype_type]; kernel_rfl)
  entry := PySem.F.store_LookupError.entry
  kind := PySem.F.store_LookupError.kind
  split := PySem.F.store_LookupError.split
  hasOwner := by decide +kernel
  args := PySem.F.store_LookupError.args
  passes := fun self => by kernel_rfl
/-- such a class in a heap -/
def KeCls (h : Heap) (C : Addr) : Prop := ∃ nm q N bs sn sub ab col dd k0 k1 k2 k3 k5, h.get? C = some (excClassObj nm q C N bs keTail true sn sub ab col dd k0 k1 k2 k3 k5 "LookupError.__new__")
abbrev keO (C t : Addr) : Obj := { cls := .ref C, data := .fields #[.ref t, .none, .none, .none, .bool false, .none] }
section
variable {M : Model} {A : Around} {E : Value → Shared → Prop} {h : Heap} {g : Array GenState} {d : Drawn} {t : Nat} {os : OsState} {C : Addr}
theorem ke_checkNew {rest : List Value} {Q : Unit → Shared → Prop} (hC : KeCls h C) (hq : Q () ⟨h, g, d, t, os⟩) : wpAny M A (checkBuiltinCall "LookupError.__new__" ⟨.ref C :: rest, []⟩) Q E ⟨h, g, d, t, os⟩ := by
  obtain ⟨nm, q, N, bs, sn, sub, ab, col, dd, k0, k1, k2, k3, k5, hC⟩ := hC
  have F := PySem.F.excBase_LookupError
  have z := F.noStar
  have o : (Value.ref C :: keTail).contains (.type "LookupError") = true := by simp [keTail]
  simp only [checkBuiltinCall, F.newKind, F.newSplit, F.newRow]
  repeat first
    | refine wpAny_loadPart_at hC ?_
    | (refine wpAny_isSubtype_exc hC ?_; rw [o])
    | refine wpAny_staticBase_exc hC ?_
    | refine wpAny_madeBy_exc hC ?_
    | simp only [bne_self_eq_false, Bool.false_eq_true, if_false]
    | wp_step
  exact hq
theorem ke_checkInit {e : Addr} {oe : Obj} {rest : List Value} {Q : Unit → Shared → Prop} (hC : KeCls h C) (he : h.get? e = some oe) (hcls : oe.cls = .ref C) (hq : Q () ⟨h, g, d, t, os⟩) :
    wpAny M A (checkBuiltinCall "KeyError.__init__" ⟨.ref e :: rest, []⟩) Q E ⟨h, g, d, t, os⟩ := by
  obtain ⟨nm, q, N, bs, sn, sub, ab, col, dd, k0, k1, k2, k3, k5, hC⟩ := hC
  have F := PyProof.Rows.excClass_KeyError
  have z := F.notStar
  have o : (Value.ref C :: keTail).contains (.type "KeyError") = true := by simp [keTail]
  simp only [checkBuiltinCall, F.initKind, F.initSplit, F.initSig]
  repeat first
    | (with_reducible refine wpAny_loadPart_at he ?_; rw [hcls])
    | with_reducible refine wpAny_loadPart_at hC ?_
    | (with_reducible refine wpAny_isSubtype_exc hC ?_; rw [o])
    | wp_step
  refine wpAny_onRaise ?_
  rw [show ∀ (a b : String) (n : Nat), Bind.check ⟨.positional, "*", "KeyError", .self, [⟨"args", .varPos, false⟩]⟩ a b n (List.map (fun x => x.fst) ({ pos := Value.ref e :: rest } : Args).kw) = pure () from fun a b n => check_star_args _ _ _ _ _ _]
  exact wpAny_pure hq
end
section
variable {prog : Program} {w : World} {A : Around} {E : Value → Shared → Prop} {R : Result → Shared → Prop} {h : Heap} {g : Array GenState} {d : Drawn} {t : Nat} {os : OsState} {C : Addr}
theorem ke_new {rest : List Value} (hC : KeCls h C) (hz : rest.length ≤ sizeLine)
    (hq : R (.ok (.ret (.ref (h.objs.size + 1)))) ⟨(h.push (PySem.W.kdv_tup rest)).push (keO C h.objs.size), g, d, t, os⟩) : codeAny (model prog w) A (.builtin "LookupError.__new__" ⟨.ref C :: rest, []⟩) R ⟨h, g, d, t, os⟩ := by
  obtain ⟨nm, q, N, bs, sn, sub, ab, col, dd, k0, k1, k2, k3, k5, hC⟩ := hC
  have F := PySem.F.excBase_LookupError
  have e1 := F.ends
  have o1 : (Value.ref C :: keTail).contains (.type "LookupError") = true := by simp [keTail]
  have o2 : (Value.ref C :: keTail).contains (.type "AttributeError") = false := by simp [keTail]
  have o3 : (Value.ref C :: keTail).contains (.type "NameError") = false := by simp [keTail]
  refine codeAny_builtinAt F.entry ?_
  unfold Builtin.«BaseException.__new__»
  refine PySem.wpAt_bind ?_
  show PySem.wpAt _ _ _ (stack >>= _) _ _ _
  refine PySem.wpAt_bind (PySem.wpAt_stack fun p below => PySem.wpAt_of_wpAny ?_)
  wp_walk
  refine PySem.wpAt_of_wpAny ?_
  rw [F.owner]
  repeat first
    | with_reducible refine wpAny_madeHere_exc F.canon hC ?_
    | with_reducible refine wpAny_loadPart_at hC ?_
    | (with_reducible refine wpAny_isSubtype_exc hC ?_; first | rw [o1] | rw [o2] | rw [o3])
    | wp_step
  show R _ _
  rw [Heap.size_push]
  exact hq
/-- KeyError.__init__(e, ..) -/
theorem ke_init {e t0 : Addr} {rest : List Value} (hC : KeCls h C) (he : h.get? e = some (keO C t0)) (hz : rest.length ≤ sizeLine)
    (hq : ∀ h' t1, (∀ b o, b ≠ e → h.get? b = some o → h'.get? b = some o) → h'.get? e = some (keO C t1) → R (.ok (.ret .none)) ⟨h', g, d, t, os⟩) : codeAny (model prog w) A (.call (.builtin "KeyError.__init__") ⟨.ref e :: rest, []⟩) R ⟨h, g, d, t, os⟩ := by
  have F := PyProof.Rows.excClass_KeyError
  refine codeAny_call_builtin F.init.plain F.initEntry (ke_checkInit hC he rfl ?_)
  wp_walk
  refine hq _ h.objs.size (fun b o hb ho => ?_) ?_
  · exact (Heap.get?_update_other _ _ (Ne.symm hb)).trans (Heap.get?_push_of_some _ ho)
  · exact (Heap.get?_update_self _ (Heap.get?_push_of_some _ he) rfl).trans rfl
/-- C(..): the new object, then the class's own __init__ -/
theorem ke_typeCall {rest : List Value} {fI : Addr} {Q : Fin → Shared → Prop} (hC : KeCls h C) (hi : PySem.W.Looks (model prog w) h (typeLookup (.ref C) "__init__") (some (.ref fI))) (hb : ∀ self, PySem.W.Looks (model prog w) h (bindSpecial (.ref fI) self) (.ref fI, [self])) (hz : rest.length ≤ sizeLine)
    (hq : codeAny (model prog w) A (.call (.ref fI) ⟨.ref (h.objs.size + 1) :: rest, []⟩) (fun r s' => match r with
      | .ok (.ret v) => v = .none ∧ Q (.done (.ret (.ref (h.objs.size + 1)))) s'
      | .ok _ => False
      | .error e => E e s') ⟨(h.push (PySem.W.kdv_tup rest)).push (keO C h.objs.size), g, d, t, os⟩) : wpAny (model prog w) A (Builtin.«type.__call__» ⟨.ref C :: rest, []⟩) Q E ⟨h, g, d, t, os⟩ := by
  have kC := hC
  obtain ⟨nm, q, N, bs, sn, sub, ab, col, dd, k0, k1, k2, k3, k5, hC⟩ := hC
  repeat first
    | with_reducible refine wpAny_loadPart_at hC ?_
    | with_reducible refine wpAny_madeBy_exc hC ?_
    | wp_step
  refine codeAny_call_builtin_code (Code.quiet_builtin _ PySem.F.excBase_LookupError.quiet) (ke_checkNew kC ?_)
  refine ke_new kC hz ?_
  show wpAny _ _ _ _ _ _
  have keep : ∀ b o, h.get? b = some o → ((h.push (PySem.W.kdv_tup rest)).push (keO C h.objs.size)).get? b = some o := fun b o e => Heap.get?_push_of_some _ (Heap.get?_push_of_some _ e)
  have there : ((h.push (PySem.W.kdv_tup rest)).push (keO C h.objs.size)).get? (h.objs.size + 1) = some (keO C h.objs.size) := by heap_get
  have o : (Value.ref C :: keTail).contains (.ref C) = true := by simp
  have hC2 := keep _ _ hC
  unfold isInstance
  repeat first
    | with_reducible refine wpAny_loadPart_at there ?_
    | (with_reducible refine wpAny_isSubtype_exc hC2 ?_; rw [o])
    | wp_step
  show wpAny _ _ (typeLookup (.ref C) _) _ _ _
  refine (hi.keeps keep).at ?_
  refine wpAny_holding (wpAny_bind (((hb _).keeps keep).at ?_))
  refine wpAny_bind (wpAny_call (codeAny_mono hq fun r s' z => ?_))
  rcases r with e | (v | _ | _ | _) <;> first | exact z | exact z.elim | skip
  obtain ⟨rfl, z⟩ := z
  first
    | exact wpAny_pure (wpAny_pure z)
    | (wp_walk; exact z)
theorem ke_call {rest : List Value} {fI : Addr} (hC : KeCls h C) (hi : PySem.W.Looks (model prog w) h (typeLookup (.ref C) "__init__") (some (.ref fI))) (hb : ∀ self, PySem.W.Looks (model prog w) h (bindSpecial (.ref fI) self) (.ref fI, [self])) (hz : rest.length ≤ sizeLine)
    (hq : codeAny (model prog w) (A.under (.builtin "type.__call__" ⟨.ref C :: rest, []⟩)) (.call (.ref fI) ⟨.ref (h.objs.size + 1) :: rest, []⟩) (PySem.W.InitBack (h.objs.size + 1) R) ⟨(h.push (PySem.W.kdv_tup rest)).push (keO C h.objs.size), g, d, t, os⟩) :
    codeAny (model prog w) A (.call (.ref C) ⟨rest, []⟩) R ⟨h, g, d, t, os⟩ := by
  have kC := hC
  obtain ⟨nm, q, N, bs, sn, sub, ab, col, dd, k0, k1, k2, k3, k5, hC⟩ := hC
  have f1 := tc_lookup
  have f2 := tc_bind (.ref C)
  have f3 : (⟨h, g, d, t, os⟩ : Shared).TypeIs (.ref C) "type" := ⟨_, hC, rfl⟩
  refine codeAny_of_tree ?_
  show wpAny _ _ (callAny (.ref C) _) _ _ _
  repeat any_goals first
    | assumption
    | with_reducible refine wpAny_loadPart_at hC ?_
    | wp_step
  refine ⟨rfl, ?_⟩
  refine codeAny_call_builtin_at (Code.quiet_builtin _ (by decide +kernel)) entry_typeCall (wpAny_check_type_call_sub hC (ke_typeCall kC hi hb hz ?_))
  refine codeAny_mono hq fun r s' z => ?_
  rcases r with e | (v | _ | _ | _) <;> exact z
/-- self.name = v, the first one -/
theorem ke_set {K : PySem.W.Frag} {name : Str} {tk : Tok} {v : Value} {x : Addr} {fv : Array Value} (X : K.In h) (hk : PySem.W.excOver K C keTail = true) (hd : PySem.W.hasDictIn K C = true) (hx : h.get? x = some { cls := .ref C, data := .fields fv }) (ha : PySem.W.findIn K (.ref C) name = some none)
    (hq : ∀ h' tk' dx, (∀ b o, b ≠ x → h.get? b = some o → h'.get? b = some o) → h.objs.size ≤ dx → dx ≠ x → h'.get? x = some { cls := .ref C, dict := some dx, data := .fields fv } → h'.Ns1 dx (fun y => if y = name then some v else none) → R (.ok (.ret .none)) ⟨h', g, d, tk', os⟩) :
    codeAny (model prog w) A (.call (.builtin "object.__setattr__") ⟨[.ref x, .str name tk, v], []⟩) R ⟨h, g, d, t, os⟩ := by
  have hxs : x ≠ h.objs.size := Nat.ne_of_lt (Heap.lt_size hx)
  refine PySem.W.osa_openX (r := none) store_ke (s := ⟨h, g, d, t, os⟩) (od := none) X ⟨hx, rfl, rfl, trivial⟩ hk ?_ fun b => ?_
  · unfold PySem.W.takerIn
    rw [ha]
    rfl
  · show wpAny _ _ (Builtin.ObjectAttr.storeInOwnDict (.ref x) (.ref C) (.str name tk) name v b) _ _ _
    obtain ⟨cd, hcd, hh⟩ := PySem.W.any_some hd
    have see : PySem.W.Looks (model prog w) h (classData C) cd := PySem.W.looks_clsIn X hcd
    obtain ⟨nm, bs, mro, ns, qn, hd, sn, sb, ab, col, del⟩ := cd
    dsimp only at hh
    subst hh
    unfold Builtin.ObjectAttr.storeInOwnDict Builtin.ObjectAttr.ownDictForStores
    repeat first
      | with_reducible refine PySem.HandSPX.store_in_new ?_ ?_
      | with_reducible refine wpAny_loadPart_at hx ?_
      | with_reducible refine see.at ?_
      | wp_step
    · exact ⟨_, #[], _, (Heap.get?_update_ne _ _ _ _ hxs.symm).trans (Heap.get?_push_at rfl rfl), rfl, fun e he => absurd he (by simp), fun _ => rfl⟩
    · intro h' tk' hn' hs
      have there : (h.push { cls := .type "dict", data := .dict #[] }).get? x = some { cls := .ref C, data := .fields fv } := Heap.get?_push_of_some _ hx
      exact hq h' tk' h.objs.size (fun b o n ho => (hs.2 b (Nat.ne_of_lt (Heap.lt_size ho))).trans ((Heap.get?_update_ne _ _ _ _ n).trans (Heap.get?_push_of_some _ ho))) (Nat.le_refl _) hxs.symm ((hs.2 x hxs).trans (Heap.get?_update_self _ there rfl)) hn'
end
end CL

set_option Elab.async false
set_option linter.all false
set_option maxRecDepth 100000
set_option maxHeartbeats 4000000
/-! OwnEx2: the rules for own errors over KeyError with one field. -/
namespace CL
open PySem PySem.Spec PyProof.Rows L2
structure OexK (K : PySem.W.Frag) (C : Addr) : Prop where
  cls : ∃ nm q N bs sn sub ab col dd k0 k1 k2 k3 k5, K.lookup C = some (excClassObj nm q C N bs keTail true sn sub ab col dd k0 k1 k2 k3 k5 "LookupError.__new__")
  over : PySem.W.excOver K C keTail = true
  hd : PySem.W.hasDictIn K C = true
  sa : PySem.W.findIn K (.ref C) "__setattr__" = some (some (.builtin "object.__setattr__"))
  exC : PySem.W.subIn K (.ref C) (.type "BaseException") = some true
  tyC : PySem.W.typeIn K (.ref C) = some (.type "type")
  kC : PySem.W.keepIn K (.ref C) = true
theorem OexK.at_ {K : PySem.W.Frag} {C : Addr} {h : Heap} (T : OexK K C) (X : K.In h) : KeCls h C := by
  obtain ⟨nm, q, N, bs, sn, sub, ab, col, dd, k0, k1, k2, k3, k5, e⟩ := T.cls
  exact ⟨nm, q, N, bs, sn, sub, ab, col, dd, k0, k1, k2, k3, k5, X _ _ e⟩
theorem typ_ke : typeOf (.type "KeyError") = pure (.type "type") := by kernel_rfl
section
variable {X : Cx} {pins : List (Addr × Obj)} {σ : L2.St} {H : Hp} {s : Shared} {a C : Addr} {f : Str} {y : V} {u : Value} {A : Around} {E : Value → Shared → Prop}
theorem ke_initI {us : List Value} {Q : Value → Shared → Prop} (T : OexK X.K C) (I : Inv X pins σ H s) (e : H a = some (exo a C none)) (hz : us.length ≤ sizeLine) (k : ∀ s', Inv X pins σ H s' → Q .none s') : wpAny (model X.prog X.w) A (call (.builtin "KeyError.__init__") (.ref a :: us)) Q E s := by
  obtain ⟨t1, ho⟩ := exo_at I.hok e
  obtain ⟨hp, g, d, t, os⟩ := s
  refine wpAny_call (ke_init (T.at_ I.kIn) ho hz fun h' t2 kp hx => k _ ?_)
  have same : upd H a (exo a C none) = H := funext fun b => if hb : b = a then by rw [hb, upd_same, e] else upd_ne hb
  exact same ▸ I.write (t' := t) (x := a) (e := a) (o := exo a C none) (by rw [e]; trivial) (.inl rfl) kp ⟨_, hx⟩ (exo_ok hx)
/-- the first field: the error's dict is made -/
theorem ke_setI {Q : Unit → Shared → Prop} (T : OexK X.K C) (I : Inv X pins σ H s) (e : H a = some (exo a C none)) (hno : PySem.W.findIn X.K (.ref C) f = some none) (ry : RelV y u)
    (k : ∀ dx s', H dx = none → dx ≠ a → Inv X pins σ (upd (upd H dx (exd dx [(f, y)])) a (exo a C (some dx))) s' → Q () s') : wpAny (model X.prog X.w) A (setAttr (.ref a) f u) Q E s := by
  obtain ⟨t1, ho⟩ := exo_at I.hok e
  obtain ⟨hp, g, d, t, os⟩ := s
  refine PySem.W.set_plain I.kIn (ox := { cls := .ref C, dict := none, data := .fields #[.ref t1, .none, .none, .none, .bool false, .none] }) (od := none) ⟨ho, rfl, rfl, trivial⟩ T.sa ?_
  refine ke_set I.kIn T.over T.hd ho hno fun h' tk' dx kp dn dne hx hn => ?_
  have nd : H dx = none := I.hok.fresh dn
  have old : ∀ {b : Addr} {o : Obj}, hp.get? b = some o → b ≠ dx := fun q => Nat.ne_of_lt (Nat.lt_of_lt_of_le (Heap.lt_size q) dn)
  have off : ∀ {b : Addr}, H b = none → b ≠ a := fun n z => by rw [z, e] at n; cases n
  -- what is told elsewhere stays
  have stay : ∀ {b : Addr} {o : HO}, H b = some o → b ≠ a → upd (upd H dx (exd dx [(f, y)])) a (exo a C (some dx)) b = some o := fun q n => by rw [upd_ne n, upd_ne (ne_of_none q nd)]; exact q
  refine k dx _ nd dne (I.un (t' := tk') {
    keep := fun b o q n _ _ => kp b o (off n) q
    slot := fun b o q n _ _ => ⟨o.slots, kp b o (off n) q⟩
    free := fun b o q n _ => by rw [upd_ne (off n), upd_ne (old q)]; exact n
    there := fun b o q _ => if hb : b = a then ⟨_, hb ▸ hx⟩ else ⟨o, kp b o hb q⟩
    tups := fun b xs q => stay q (at_ne e q exo_tup)
    frzs := fun b o v q => stay q (at_ne e q exo_frz)
    tbls := fun b ps q => ⟨#[], by rw [stay q (at_ne e q exo_tbl)]; simp⟩ } fun b o q => ?_)
  by_cases hb : b = a
  · subst hb
    rw [upd_same] at q
    cases q
    exact exo_ok hx
  · rw [upd_ne hb] at q
    by_cases hd : b = dx
    · subst hd
      rw [upd_same] at q
      cases q
      exact exd_ok hn (relO_put (fs := []) ry fun g => True.intro)
    · rw [upd_ne hd] at q
      refine (I.hok b o q).stay (fun c v hc z => kp c v ?_ z) (fun c hc => stay hc (at_ne e hc exo_own)) (fun c xs hc => stay hc (at_ne e hc exo_tup))
      rcases hc with hc | hc
      · rw [hc]; exact hb
      · exact at_ne e hc exo_own
end
def tKeI (K : PySem.W.Frag) (ta : TA) : TE := fun σ H Q => ta σ H fun vs H1 => ∃ (a C : Addr) (ws : List V), vs = .ref a :: ws ∧ ws.length ≤ 1000 ∧ OexK K C ∧ H1 a = some (exo a C none) ∧ Q .non H1
def tKeS (K : PySem.W.Frag) (f : Str) (to te : TE) : TS := fun D σ H => te σ H fun y H1 => to σ H1 fun x H2 => ∃ a C : Addr, x = .ref a ∧ OexK K C ∧ PySem.W.findIn K (.ref C) f = some none ∧ H2 a = some (exo a C none) ∧
  ∀ dx, H2 dx = none → dx ≠ a → D.nx σ (upd (upd H2 dx (exd dx [(f, y)])) a (exo a C (some dx)))
section
variable {X : Cx} {o e : Expr} {es : List Expr} {to te : TE} {ta : TA} {f : Str} {p p' p1 p2 pos : Pos}
theorem pe_keinit {pl : Sem Bool} (hg : Gl X "KeyError") (hm : X.mg "KeyError" = none) (vK : PySem.W.findCls X.K (.type "KeyError") (.type "type") "__init__" = some (.val (.builtin "KeyError.__init__"))) (ha : PA X (e :: es) ta)
    (hc : eval (.Call (.Attribute (.Name "KeyError" p1) "__init__" p2) (e :: es) [] pos) X.env = (do
      let ov ← eval (.Name "KeyError" p1) X.env
      standAt p2.atName
      let (f, first) ← holding [ov] (getMethod ov "__init__" pl)
      callWith pos f first (backTo pos (starEach (e :: es) X.env)) (backToKw pos (keywordEach [] X.env))) := by rfl)
    (he : starEach (e :: es) X.env = (false, eval e X.env) :: starEach es X.env := by rfl) (hpl : (backTo pos (starEach es X.env)).any (·.1) = false := by rfl) :
    PE X (.Call (.Attribute (.Name "KeyError" p1) "__init__" p2) (e :: es) [] pos) (tKeI X.K ta) := by
  refine ⟨fun pins s σ H Q I h => PySem.W.methodCall_KW (ld_blt I hg hm (show bootBuiltins ("KeyError" : Str) = some (.type "KeyError") by decide +kernel) ?_ (by decide) (by decide)) hc⟩
  obtain ⟨m, fr⟩ := I.fr
  refine PySem.W.method_type fr I.ok.mod.kin typ_ke (by decide +kernel) vK (by decide +kernel) ?_
  show wpAny _ _ (callWith pos (Value.builtin "KeyError.__init__") [] (backTo pos (starEach (e :: es) X.env)) []) _ _ _
  refine PyProof.Rows.callWith_method1 (thn (ha.run pos pins _ σ H _ (I.tok _) h) fun us s1 ⟨vs, H1, I1, r1, a, C, ws, ev, hl, T, ea, q⟩ => ?_) he hpl
  subst ev
  cases r1 with
  | @cons _ u0 _ ur ra rw' =>
    obtain rfl : u0 = Value.ref a := ra
    exact ke_initI T I1 ea (by rw [← Paired.length rw', sizeLine_eq]; omega) fun s' J => ⟨.non, H1, J, rfl, q⟩
theorem ps_keset (ho : PE X o to) (he : PE X e te) (hs : swapsWith e (some (.Attribute o f p')) pos.line X.env = pure false := by rfl) : PS X (.Assign [.Attribute o f p'] e pos) (tKeS X.K f to te) := by
  refine ⟨fun pins s σ H D I h => plainObj_wpAny_Assign_Attribute (thn (he.run pins s σ H _ I h) fun v s1 ⟨y, H1, I1, r1, q1⟩ => thn (ho.run pins s1 σ H1 _ I1 q1) fun u s2 ⟨x, H2, I2, r2, a, C, ex, T, hno, ea, q⟩ => ?_) hs⟩
  subst ex
  obtain rfl : u = Value.ref a := r2
  exact ke_setI T I2 ea hno r1 fun dx s' n ne J => ⟨σ, _, J, q dx n ne⟩
/-- C(e, ..) -/
theorem pmk_ke {CX : CXT} {x : Str} {C fI : Addr} {k : Nat} {fd : FuncData} {ps : List Str} {sp : Sp} (T : OexK X.K C) (iC : PySem.W.findIn X.K (.ref C) "__init__" = some (some (.ref fI))) (tI : PySem.W.typeIn X.K (.ref fI) = some (.type "function"))
    (F1 : FnOk X.prog X.w X.K X.mg X.base CX k fI fd ps sp) (hr : Room (k + 1) X.A) (hb : Binds X.K fd ps []) (hx : Passes CX X (fun _ _ _ => False)) (hg : Gl X x) (hm : X.mg x = some (.ref C)) (ha : PA X (e :: es) ta)
    (hdb : (x == ("__debug__" : Str)) = false := by decide) (he : starEach (e :: es) X.env = (false, eval e X.env) :: starEach es X.env := by rfl) (hpl : (backTo pos (starEach es X.env)).any (·.1) = false := by rfl) :
    PMk X (.Call (.Name x p) (e :: es) [] pos) (tMkO C sp [] ta) := by
  intro pins s σ H Q I h
  refine wpAny_Call_Name_kw (ld_glob I hg hm ?_ hdb)
  refine PySem.W.callWith_K (h₀ := X.base) I.ok.mod.kin T.kC (thn (ha.run pos pins s σ H _ I h) fun us s1 ⟨vs, H1, I1, r1, hz, q1⟩ => ⟨I1.kIn, ?_⟩) he hpl
  show wpAny _ _ (call (.ref C) us) _ _ _
  obtain ⟨hp, g, dr, tk, os⟩ := s1
  have up : hp.objs.size ≤ hp.objs.size + 1 := Nat.le_succ _
  have hq := q1 (hp.objs.size + 1) (I1.hok.fresh up)
  have there : ((hp.push (PySem.W.kdv_tup us)).push (keO C hp.objs.size)).get? (hp.objs.size + 1) = some (keO C hp.objs.size) := by heap_get
  have keep : ∀ b o, hp.get? b = some o → ((hp.push (PySem.W.kdv_tup us)).push (keO C hp.objs.size)).get? b = some o := fun b o e => Heap.get?_push_of_some _ (Heap.get?_push_of_some _ e)
  have I2 : Inv X pins σ (upd H1 (hp.objs.size + 1) (exo (hp.objs.size + 1) C none)) ⟨(hp.push (PySem.W.kdv_tup us)).push (keO C hp.objs.size), g, dr, tk, os⟩ := I1.laid (t' := tk) (a := hp.objs.size + 1) (o := exo (hp.objs.size + 1) C none) keep up (exo_ok there)
  have r2 : Vals (V.ref (hp.objs.size + 1) :: (vs ++ [])) (Value.ref (hp.objs.size + 1) :: us) := by rw [List.append_nil]; exact .cons rfl r1
  have hb2 := hb _ (Value.ref (hp.objs.size + 1) :: us) I2.kIn (by rw [List.append_nil]; exact r2.length.symm.trans (F1.len _ _ _ _ hq))
  rw [List.append_nil] at hb2
  have fit : us.length ≤ sizeLine := by rw [← Paired.length r1, sizeLine_eq]; omega
  refine wpAny_call (ke_call (T.at_ I1.kIn) (PySem.W.looks_findIn I1.kIn iC) (fun self => PySem.W.bind_fn I1.kIn self tI) fit (codeAny_mono (F1.run _ X.stack _ _ ⟨Value.ref (hp.objs.size + 1) :: us, []⟩ (Value.ref (hp.objs.size + 1) :: us) _ _ (fun _ _ _ => False) (hr.make C us []) (I2.env0.make C us []) hb2 r2 hq) fun r s' hq' => ?_))
  match r, hq' with
  | .error er, hq' => exact hx pins σ _ _ er s' I2 hq'
  | .ok (.ret u), hq' =>
    obtain ⟨v, H2, os2, bare2, un2, hok2, rv, ev, d, fs, ea, ed, hd1, q2⟩ := hq'
    subst ev
    obtain ⟨h2, g2, d2, t2, os'⟩ := s'
    exact ⟨rv, mk_end (raises_own T.exC T.tyC) I1 up keep un2 hok2 os2 bare2 ea ed hd1 q2⟩
  | .ok .next, hq' => exact hq'.elim
  | .ok .brk, hq' => exact hq'.elim
  | .ok .cont, hq' => exact hq'.elim
end
/-- what is known of such a class with one field -/
structure ErrK (P : Program) (w : World) (K : PySem.W.Frag) (mg : Str → Option Value) (base : Heap) (x : Str) (C : Addr) (f : Str) : Prop where
  ox : OexK K C
  g : mg x = some (.ref C)
  it : ∃ fI fd, PySem.W.findIn K (.ref C) "__init__" = some (some (.ref fI)) ∧ PySem.W.typeIn K (.ref fI) = some (.type "function") ∧ FnOk P w K mg base CX0 1 fI fd ["self", f] (spErr C f) ∧ Binds K fd ["self", f] []
section
variable {X : Cx} {C : Addr} {x f : Str} {e : Expr} {te : TE} {p pos pos2 : Pos} {W : WX}
theorem ps_raiseK (T : ErrK X.prog X.w X.K X.mg X.base x C f) (hc : X.calm = true) (hr : Room 2 X.A) (tk : Takes X W) (he : PE X e te) (hg : Gl X x := by rfl) (hdb : (x == ("__debug__" : Str)) = false := by decide)
    (h1 : starEach [e] X.env = (false, eval e X.env) :: starEach [] X.env := by rfl) (h2 : (backTo pos (starEach [] X.env)).any (·.1) = false := by rfl) :
    PS X (.Raise (some (.Call (.Name x p) [e] [] pos)) none pos2) (cRaise C f W te) := by
  obtain ⟨fI, fd, iC, tI, F, b⟩ := T.it
  refine PS_imp (ps_raise hc tk (pmk_ke T.ox iC tI F hr b pass0 hg T.g (pa_cons (PE_up he) pa_nil h1) hdb h1 h2)) fun D σ H q => ⟨_, q, fun v H1 q => ⟨(by show (1 : Nat) ≤ 1000; decide), fun a na => ⟨upd_same, fun d nd da => ⟨rfl, d, [(f, v)], upd_same, ?_, ?_, ?_⟩⟩⟩⟩
  · rw [upd_ne da, upd_same]
  · rw [upd_ne da] at nd; exact nd
  · rw [upd_ne da] at nd
    refine q d _ nd (fun c o z => ?_) upd_same
    have c1 : c ≠ d := ne_of_none z nd
    have c2 : c ≠ a := ne_of_none z na
    rw [upd_ne c1, del_ne c2, upd_ne c2, upd_ne c1, upd_ne c2]
    exact z
end
end CL

set_option Elab.async false
set_option linter.all false
set_option maxRecDepth 100000
set_option maxHeartbeats 4000000
/-! OwnAr: own error classes over ArithmeticError, whose making is ArithmeticError's: nothing in HandS speaks of them. -/
namespace CL
open PySem PySem.Spec PyProof.Rows L2
abbrev arTail : List Value := [.type "ArithmeticError", .type "Exception", .type "BaseException", .type "object"]
theorem store_ar : StoreFacts "ArithmeticError" arTail "object.__setattr__" "object" where
  mro := by kernel_rfl
  slot := .of (owner := "object") (n := "__setattr__") (by rw [typeLookup_type, builtinLookup_eq_fast]; kernel_rfl) (by decide +kernel) (by decide +kernel) (by decide +kernel) (by first | exact .inl (by decide +kernel) | exact .inr (by decide +kernel)) (by rw [isSubtype_type]; kernel_rfl)
  entry := PySem.F.store_ArithmeticError.entry
  kind := PySem.F.store_ArithmeticError.kind
  split := PySem.F.store_ArithmeticError.split
  hasOwner := by decide +kernel
  args := PySem.F.store_ArithmeticError.args
  passes := fun self => by kernel_rfl
/-- such a class in a heap -/
def ArCls (h : Heap) (C : Addr) : Prop := ∃ nm q N bs sn sub ab col dd k0 k1 k2 k3 k5, h.get? C = some (excClassObj nm q C N bs arTail true sn sub ab col dd k0 k1 k2 k3 k5 "ArithmeticError.__new__")
abbrev arO (C t : Addr) : Obj := { cls := .ref C, data := .fields #[.ref t, .none, .none, .none, .bool false, .none] }
section
variable {M : Model} {A : Around} {E : Value → Shared → Prop} {h : Heap} {g : Array GenState} {d : Drawn} {t : Nat} {os : OsState} {C : Addr}
theorem ar_checkNew {rest : List Value} {Q : Unit → Shared → Prop} (hC : ArCls h C) (hq : Q () ⟨h, g, d, t, os⟩) : wpAny M A (checkBuiltinCall "ArithmeticError.__new__" ⟨.ref C :: rest, []⟩) Q E ⟨h, g, d, t, os⟩ := by
  obtain ⟨nm, q, N, bs, sn, sub, ab, col, dd, k0, k1, k2, k3, k5, hC⟩ := hC
  have F := PySem.F.excBase_ArithmeticError
  have z := F.noStar
  have o : (Value.ref C :: arTail).contains (.type "ArithmeticError") = true := by simp [arTail]
  simp only [checkBuiltinCall, F.newKind, F.newSplit, F.newRow]
  repeat first
    | refine wpAny_loadPart_at hC ?_
    | (refine wpAny_isSubtype_exc hC ?_; rw [o])
    | refine wpAny_staticBase_exc hC ?_
    | refine wpAny_madeBy_exc hC ?_
    | simp only [bne_self_eq_false, Bool.false_eq_true, if_false]
    | wp_step
  exact hq
theorem ar_checkInit {e : Addr} {oe : Obj} {rest : List Value} {Q : Unit → Shared → Prop} (hC : ArCls h C) (he : h.get? e = some oe) (hcls : oe.cls = .ref C) (hq : Q () ⟨h, g, d, t, os⟩) :
    wpAny M A (checkBuiltinCall "ArithmeticError.__init__" ⟨.ref e :: rest, []⟩) Q E ⟨h, g, d, t, os⟩ := by
  obtain ⟨nm, q, N, bs, sn, sub, ab, col, dd, k0, k1, k2, k3, k5, hC⟩ := hC
  have F := PyProof.Rows.excClass_ArithmeticError
  have z := F.notStar
  have o : (Value.ref C :: arTail).contains (.type "ArithmeticError") = true := by simp [arTail]
  simp only [checkBuiltinCall, F.initKind, F.initSplit, F.initSig]
  repeat first
    | (with_reducible refine wpAny_loadPart_at he ?_; rw [hcls])
    | with_reducible refine wpAny_loadPart_at hC ?_
    | (with_reducible refine wpAny_isSubtype_exc hC ?_; rw [o])
    | wp_step
  refine wpAny_onRaise ?_
  rw [show ∀ (a b : String) (n : Nat), Bind.check ⟨.positional, "*", "ArithmeticError", .self, [⟨"args", .varPos, false⟩]⟩ a b n (List.map (fun x => x.fst) ({ pos := Value.ref e :: rest } : Args).kw) = pure () from fun a b n => check_star_args _ _ _ _ _ _]
  exact wpAny_pure hq
end
section
variable {prog : Program} {w : World} {A : Around} {E : Value → Shared → Prop} {R : Result → Shared → Prop} {h : Heap} {g : Array GenState} {d : Drawn} {t : Nat} {os : OsState} {C : Addr}
theorem ar_new {rest : List Value} (hC : ArCls h C) (hz : rest.length ≤ sizeLine)
    (hq : R (.ok (.ret (.ref (h.objs.size + 1)))) ⟨(h.push (PySem.W.kdv_tup rest)).push (arO C h.objs.size), g, d, t, os⟩) : codeAny (model prog w) A (.builtin "ArithmeticError.__new__" ⟨.ref C :: rest, []⟩) R ⟨h, g, d, t, os⟩ := by
  obtain ⟨nm, q, N, bs, sn, sub, ab, col, dd, k0, k1, k2, k3, k5, hC⟩ := hC
  have F := PySem.F.excBase_ArithmeticError
  have e1 := F.ends
  have o1 : (Value.ref C :: arTail).contains (.type "ArithmeticError") = true := by simp [arTail]
  have o2 : (Value.ref C :: arTail).contains (.type "AttributeError") = false := by simp [arTail]
  have o3 : (Value.ref C :: arTail).contains (.type "NameError") = false := by simp [arTail]
  refine codeAny_builtinAt F.entry ?_
  unfold Builtin.«BaseException.__new__»
  refine PySem.wpAt_bind ?_
  show PySem.wpAt _ _ _ (stack >>= _) _ _ _
  refine PySem.wpAt_bind (PySem.wpAt_stack fun p below => PySem.wpAt_of_wpAny ?_)
  wp_walk
  refine PySem.wpAt_of_wpAny ?_
  rw [F.owner]
  repeat first
    | with_reducible refine wpAny_madeHere_exc F.canon hC ?_
    | with_reducible refine wpAny_loadPart_at hC ?_
    | (with_reducible refine wpAny_isSubtype_exc hC ?_; first | rw [o1] | rw [o2] | rw [o3])
    | wp_step
  show R _ _
  rw [Heap.size_push]
  exact hq
/-- ArithmeticError.__init__(e, ..) -/
theorem ar_init {e t0 : Addr} {rest : List Value} (hC : ArCls h C) (he : h.get? e = some (arO C t0)) (hz : rest.length ≤ sizeLine)
    (hq : ∀ h' t1, (∀ b o, b ≠ e → h.get? b = some o → h'.get? b = some o) → h'.get? e = some (arO C t1) → R (.ok (.ret .none)) ⟨h', g, d, t, os⟩) : codeAny (model prog w) A (.call (.builtin "ArithmeticError.__init__") ⟨.ref e :: rest, []⟩) R ⟨h, g, d, t, os⟩ := by
  have F := PyProof.Rows.excClass_ArithmeticError
  refine codeAny_call_builtin F.init.plain F.initEntry (ar_checkInit hC he rfl ?_)
  wp_walk
  refine hq _ h.objs.size (fun b o hb ho => ?_) ?_
  · exact (Heap.get?_update_other _ _ (Ne.symm hb)).trans (Heap.get?_push_of_some _ ho)
  · exact (Heap.get?_update_self _ (Heap.get?_push_of_some _ he) rfl).trans rfl
/-- C(..): the new object, then the class's own __init__ -/
theorem ar_typeCall {rest : List Value} {fI : Addr} {Q : Fin → Shared → Prop} (hC : ArCls h C) (hi : PySem.W.Looks (model prog w) h (typeLookup (.ref C) "__init__") (some (.ref fI))) (hb : ∀ self, PySem.W.Looks (model prog w) h (bindSpecial (.ref fI) self) (.ref fI, [self])) (hz : rest.length ≤ sizeLine)
    (hq : codeAny (model prog w) A (.call (.ref fI) ⟨.ref (h.objs.size + 1) :: rest, []⟩) (fun r s' => match r with
      | .ok (.ret v) => v = .none ∧ Q (.done (.ret (.ref (h.objs.size + 1)))) s'
      | .ok _ => False
      | .error e => E e s') ⟨(h.push (PySem.W.kdv_tup rest)).push (arO C h.objs.size), g, d, t, os⟩) : wpAny (model prog w) A (Builtin.«type.__call__» ⟨.ref C :: rest, []⟩) Q E ⟨h, g, d, t, os⟩ := by
  have kC := hC
  obtain ⟨nm, q, N, bs, sn, sub, ab, col, dd, k0, k1, k2, k3, k5, hC⟩ := hC
  repeat first
    | with_reducible refine wpAny_loadPart_at hC ?_
    | with_reducible refine wpAny_madeBy_exc hC ?_
    | wp_step
  refine codeAny_call_builtin_code (Code.quiet_builtin _ PySem.F.excBase_ArithmeticError.quiet) (ar_checkNew kC ?_)
  refine ar_new kC hz ?_
  show wpAny _ _ _ _ _ _
  have keep : ∀ b o, h.get? b = some o → ((h.push (PySem.W.kdv_tup rest)).push (arO C h.objs.size)).get? b = some o := fun b o e => Heap.get?_push_of_some _ (Heap.get?_push_of_some _ e)
  have there : ((h.push (PySem.W.kdv_tup rest)).push (arO C h.objs.size)).get? (h.objs.size + 1) = some (arO C h.objs.size) := by heap_get
  have o : (Value.ref C :: arTail).contains (.ref C) = true := by simp
  have hC2 := keep _ _ hC
  unfold isInstance
  repeat first
    | with_reducible refine wpAny_loadPart_at there ?_
    | (with_reducible refine wpAny_isSubtype_exc hC2 ?_; rw [o])
    | wp_step
  show wpAny _ _ (typeLookup (.ref C) _) _ _ _
  refine (hi.keeps keep).at ?_
  refine wpAny_holding (wpAny_bind (((hb _).keeps keep).at ?_))
  refine wpAny_bind (wpAny_call (codeAny_mono hq fun r s' z => ?_))
  rcases r with e | (v | _ | _ | _) <;> first | exact z | exact z.elim | skip
  obtain ⟨rfl, z⟩ := z
  first
    | exact wpAny_pure (wpAny_pure z)
    | (wp_walk; exact z)
theorem ar_call {rest : List Value} {fI : Addr} (hC : ArCls h C) (hi : PySem.W.Looks (model prog w) h (typeLookup (.ref C) "__init__") (some (.ref fI))) (hb : ∀ self, PySem.W.Looks (model prog w) h (bindSpecial (.ref fI) self) (.ref fI, [self])) (hz : rest.length ≤ sizeLine)
    (hq : codeAny (model prog w) (A.under (.builtin "type.__call__" ⟨.ref C :: rest, []⟩)) (.call (.ref fI) ⟨.ref (h.objs.size + 1) :: rest, []⟩) (PySem.W.InitBack (h.objs.size + 1) R) ⟨(h.push (PySem.W.kdv_tup rest)).push (arO C h.objs.size), g, d, t, os⟩) :
    codeAny (model prog w) A (.call (.ref C) ⟨rest, []⟩) R ⟨h, g, d, t, os⟩ := by
  have kC := hC
  obtain ⟨nm, q, N, bs, sn, sub, ab, col, dd, k0, k1, k2, k3, k5, hC⟩ := hC
  have f1 := tc_lookup
  have f2 := tc_bind (.ref C)
  have f3 : (⟨h, g, d, t, os⟩ : Shared).TypeIs (.ref C) "type" := ⟨_, hC, rfl⟩
  refine codeAny_of_tree ?_
  show wpAny _ _ (callAny (.ref C) _) _ _ _
  repeat any_goals first
    | assumption
    | with_reducible refine wpAny_loadPart_at hC ?_
    | wp_step
  refine ⟨rfl, ?_⟩
  refine codeAny_call_builtin_at (Code.quiet_builtin _ (by decide +kernel)) entry_typeCall (wpAny_check_type_call_sub hC (ar_typeCall kC hi hb hz ?_))
  refine codeAny_mono hq fun r s' z => ?_
  rcases r with e | (v | _ | _ | _) <;> exact z
/-- self.name = v, the first one -/
theorem ar_set {K : PySem.W.Frag} {name : Str} {tk : Tok} {v : Value} {x : Addr} {fv : Array Value} (X : K.In h) (hk : PySem.W.excOver K C arTail = true) (hd : PySem.W.hasDictIn K C = true) (hx : h.get? x = some { cls := .ref C, data := .fields fv }) (ha : PySem.W.findIn K (.ref C) name = some none)
    (hq : ∀ h' tk' dx, (∀ b o, b ≠ x → h.get? b = some o → h'.get? b = some o) → h.objs.size ≤ dx → dx ≠ x → h'.get? x = some { cls := .ref C, dict := some dx, data := .fields fv } → h'.Ns1 dx (fun y => if y = name then some v else none) → R (.ok (.ret .none)) ⟨h', g, d, tk', os⟩) :
    codeAny (model prog w) A (.call (.builtin "object.__setattr__") ⟨[.ref x, .str name tk, v], []⟩) R ⟨h, g, d, t, os⟩ := by
  have hxs : x ≠ h.objs.size := Nat.ne_of_lt (Heap.lt_size hx)
  refine PySem.W.osa_openX (r := none) store_ar (s := ⟨h, g, d, t, os⟩) (od := none) X ⟨hx, rfl, rfl, trivial⟩ hk ?_ fun b => ?_
  · unfold PySem.W.takerIn
    rw [ha]
    rfl
  · show wpAny _ _ (Builtin.ObjectAttr.storeInOwnDict (.ref x) (.ref C) (.str name tk) name v b) _ _ _
    obtain ⟨cd, hcd, hh⟩ := PySem.W.any_some hd
    have see : PySem.W.Looks (model prog w) h (classData C) cd := PySem.W.looks_clsIn X hcd
    obtain ⟨nm, bs, mro, ns, qn, hd, sn, sb, ab, col, del⟩ := cd
    dsimp only at hh
    subst hh
    unfold Builtin.ObjectAttr.storeInOwnDict Builtin.ObjectAttr.ownDictForStores
    repeat first
      | with_reducible refine PySem.HandSPX.store_in_new ?_ ?_
      | with_reducible refine wpAny_loadPart_at hx ?_
      | with_reducible refine see.at ?_
      | wp_step
    · exact ⟨_, #[], _, (Heap.get?_update_ne _ _ _ _ hxs.symm).trans (Heap.get?_push_at rfl rfl), rfl, fun e he => absurd he (by simp), fun _ => rfl⟩
    · intro h' tk' hn' hs
      have there : (h.push { cls := .type "dict", data := .dict #[] }).get? x = some { cls := .ref C, data := .fields fv } := Heap.get?_push_of_some _ hx
      exact hq h' tk' h.objs.size (fun b o n ho => (hs.2 b (Nat.ne_of_lt (Heap.lt_size ho))).trans ((Heap.get?_update_ne _ _ _ _ n).trans (Heap.get?_push_of_some _ ho))) (Nat.le_refl _) hxs.symm ((hs.2 x hxs).trans (Heap.get?_update_self _ there rfl)) hn'
end
end CL

set_option Elab.async false
set_option linter.all false
set_option maxRecDepth 100000
set_option maxHeartbeats 4000000
/-! OwnAr2: the rules for own errors over ArithmeticError with one field. -/
namespace CL
open PySem PySem.Spec PyProof.Rows L2
structure OexA (K : PySem.W.Frag) (C : Addr) : Prop where
  cls : ∃ nm q N bs sn sub ab col dd k0 k1 k2 k3 k5, K.lookup C = some (excClassObj nm q C N bs arTail true sn sub ab col dd k0 k1 k2 k3 k5 "ArithmeticError.__new__")
  over : PySem.W.excOver K C arTail = true
  hd : PySem.W.hasDictIn K C = true
  sa : PySem.W.findIn K (.ref C) "__setattr__" = some (some (.builtin "object.__setattr__"))
  exC : PySem.W.subIn K (.ref C) (.type "BaseException") = some true
  tyC : PySem.W.typeIn K (.ref C) = some (.type "type")
  kC : PySem.W.keepIn K (.ref C) = true
theorem OexA.at_ {K : PySem.W.Frag} {C : Addr} {h : Heap} (T : OexA K C) (X : K.In h) : ArCls h C := by
  obtain ⟨nm, q, N, bs, sn, sub, ab, col, dd, k0, k1, k2, k3, k5, e⟩ := T.cls
  exact ⟨nm, q, N, bs, sn, sub, ab, col, dd, k0, k1, k2, k3, k5, X _ _ e⟩
theorem typ_ar : typeOf (.type "ArithmeticError") = pure (.type "type") := by kernel_rfl
section
variable {X : Cx} {pins : List (Addr × Obj)} {σ : L2.St} {H : Hp} {s : Shared} {a C : Addr} {f : Str} {y : V} {u : Value} {A : Around} {E : Value → Shared → Prop}
theorem ar_initI {us : List Value} {Q : Value → Shared → Prop} (T : OexA X.K C) (I : Inv X pins σ H s) (e : H a = some (exo a C none)) (hz : us.length ≤ sizeLine) (k : ∀ s', Inv X pins σ H s' → Q .none s') : wpAny (model X.prog X.w) A (call (.builtin "ArithmeticError.__init__") (.ref a :: us)) Q E s := by
  obtain ⟨t1, ho⟩ := exo_at I.hok e
  obtain ⟨hp, g, d, t, os⟩ := s
  refine wpAny_call (ar_init (T.at_ I.kIn) ho hz fun h' t2 kp hx => k _ ?_)
  have same : upd H a (exo a C none) = H := funext fun b => if hb : b = a then by rw [hb, upd_same, e] else upd_ne hb
  exact same ▸ I.write (t' := t) (x := a) (e := a) (o := exo a C none) (by rw [e]; trivial) (.inl rfl) kp ⟨_, hx⟩ (exo_ok hx)
/-- the first field: the error's dict is made -/
theorem ar_setI {Q : Unit → Shared → Prop} (T : OexA X.K C) (I : Inv X pins σ H s) (e : H a = some (exo a C none)) (hno : PySem.W.findIn X.K (.ref C) f = some none) (ry : RelV y u)
    (k : ∀ dx s', H dx = none → dx ≠ a → Inv X pins σ (upd (upd H dx (exd dx [(f, y)])) a (exo a C (some dx))) s' → Q () s') : wpAny (model X.prog X.w) A (setAttr (.ref a) f u) Q E s := by
  obtain ⟨t1, ho⟩ := exo_at I.hok e
  obtain ⟨hp, g, d, t, os⟩ := s
  refine PySem.W.set_plain I.kIn (ox := { cls := .ref C, dict := none, data := .fields #[.ref t1, .none, .none, .none, .bool false, .none] }) (od := none) ⟨ho, rfl, rfl, trivial⟩ T.sa ?_
  refine ar_set I.kIn T.over T.hd ho hno fun h' tk' dx kp dn dne hx hn => ?_
  have nd : H dx = none := I.hok.fresh dn
  have old : ∀ {b : Addr} {o : Obj}, hp.get? b = some o → b ≠ dx := fun q => Nat.ne_of_lt (Nat.lt_of_lt_of_le (Heap.lt_size q) dn)
  have off : ∀ {b : Addr}, H b = none → b ≠ a := fun n z => by rw [z, e] at n; cases n
  -- what is told elsewhere stays
  have stay : ∀ {b : Addr} {o : HO}, H b = some o → b ≠ a → upd (upd H dx (exd dx [(f, y)])) a (exo a C (some dx)) b = some o := fun q n => by rw [upd_ne n, upd_ne (ne_of_none q nd)]; exact q
  refine k dx _ nd dne (I.un (t' := tk') {
    keep := fun b o q n _ _ => kp b o (off n) q
    slot := fun b o q n _ _ => ⟨o.slots, kp b o (off n) q⟩
    free := fun b o q n _ => by rw [upd_ne (off n), upd_ne (old q)]; exact n
    there := fun b o q _ => if hb : b = a then ⟨_, hb ▸ hx⟩ else ⟨o, kp b o hb q⟩
    tups := fun b xs q => stay q (at_ne e q exo_tup)
    frzs := fun b o v q => stay q (at_ne e q exo_frz)
    tbls := fun b ps q => ⟨#[], by rw [stay q (at_ne e q exo_tbl)]; simp⟩ } fun b o q => ?_)
  by_cases hb : b = a
  · subst hb
    rw [upd_same] at q
    cases q
    exact exo_ok hx
  · rw [upd_ne hb] at q
    by_cases hd : b = dx
    · subst hd
      rw [upd_same] at q
      cases q
      exact exd_ok hn (relO_put (fs := []) ry fun g => True.intro)
    · rw [upd_ne hd] at q
      refine (I.hok b o q).stay (fun c v hc z => kp c v ?_ z) (fun c hc => stay hc (at_ne e hc exo_own)) (fun c xs hc => stay hc (at_ne e hc exo_tup))
      rcases hc with hc | hc
      · rw [hc]; exact hb
      · exact at_ne e hc exo_own
end
def tArI (K : PySem.W.Frag) (ta : TA) : TE := fun σ H Q => ta σ H fun vs H1 => ∃ (a C : Addr) (ws : List V), vs = .ref a :: ws ∧ ws.length ≤ 1000 ∧ OexA K C ∧ H1 a = some (exo a C none) ∧ Q .non H1
def tArS (K : PySem.W.Frag) (f : Str) (to te : TE) : TS := fun D σ H => te σ H fun y H1 => to σ H1 fun x H2 => ∃ a C : Addr, x = .ref a ∧ OexA K C ∧ PySem.W.findIn K (.ref C) f = some none ∧ H2 a = some (exo a C none) ∧
  ∀ dx, H2 dx = none → dx ≠ a → D.nx σ (upd (upd H2 dx (exd dx [(f, y)])) a (exo a C (some dx)))
section
variable {X : Cx} {o e : Expr} {es : List Expr} {to te : TE} {ta : TA} {f : Str} {p p' p1 p2 pos : Pos}
theorem pe_arinit {pl : Sem Bool} (hg : Gl X "ArithmeticError") (hm : X.mg "ArithmeticError" = none) (vK : PySem.W.findCls X.K (.type "ArithmeticError") (.type "type") "__init__" = some (.val (.builtin "ArithmeticError.__init__"))) (ha : PA X (e :: es) ta)
    (hc : eval (.Call (.Attribute (.Name "ArithmeticError" p1) "__init__" p2) (e :: es) [] pos) X.env = (do
      let ov ← eval (.Name "ArithmeticError" p1) X.env
      standAt p2.atName
      let (f, first) ← holding [ov] (getMethod ov "__init__" pl)
      callWith pos f first (backTo pos (starEach (e :: es) X.env)) (backToKw pos (keywordEach [] X.env))) := by rfl)
    (he : starEach (e :: es) X.env = (false, eval e X.env) :: starEach es X.env := by rfl) (hpl : (backTo pos (starEach es X.env)).any (·.1) = false := by rfl) :
    PE X (.Call (.Attribute (.Name "ArithmeticError" p1) "__init__" p2) (e :: es) [] pos) (tArI X.K ta) := by
  refine ⟨fun pins s σ H Q I h => PySem.W.methodCall_KW (ld_blt I hg hm (show bootBuiltins ("ArithmeticError" : Str) = some (.type "ArithmeticError") by decide +kernel) ?_ (by decide) (by decide)) hc⟩
  obtain ⟨m, fr⟩ := I.fr
  refine PySem.W.method_type fr I.ok.mod.kin typ_ar (by decide +kernel) vK (by decide +kernel) ?_
  show wpAny _ _ (callWith pos (Value.builtin "ArithmeticError.__init__") [] (backTo pos (starEach (e :: es) X.env)) []) _ _ _
  refine PyProof.Rows.callWith_method1 (thn (ha.run pos pins _ σ H _ (I.tok _) h) fun us s1 ⟨vs, H1, I1, r1, a, C, ws, ev, hl, T, ea, q⟩ => ?_) he hpl
  subst ev
  cases r1 with
  | @cons _ u0 _ ur ra rw' =>
    obtain rfl : u0 = Value.ref a := ra
    exact ar_initI T I1 ea (by rw [← Paired.length rw', sizeLine_eq]; omega) fun s' J => ⟨.non, H1, J, rfl, q⟩
theorem ps_arset (ho : PE X o to) (he : PE X e te) (hs : swapsWith e (some (.Attribute o f p')) pos.line X.env = pure false := by rfl) : PS X (.Assign [.Attribute o f p'] e pos) (tArS X.K f to te) := by
  refine ⟨fun pins s σ H D I h => plainObj_wpAny_Assign_Attribute (thn (he.run pins s σ H _ I h) fun v s1 ⟨y, H1, I1, r1, q1⟩ => thn (ho.run pins s1 σ H1 _ I1 q1) fun u s2 ⟨x, H2, I2, r2, a, C, ex, T, hno, ea, q⟩ => ?_) hs⟩
  subst ex
  obtain rfl : u = Value.ref a := r2
  exact ar_setI T I2 ea hno r1 fun dx s' n ne J => ⟨σ, _, J, q dx n ne⟩
/-- C(e, ..) -/
theorem pmk_ar {CX : CXT} {x : Str} {C fI : Addr} {k : Nat} {fd : FuncData} {ps : List Str} {sp : Sp} (T : OexA X.K C) (iC : PySem.W.findIn X.K (.ref C) "__init__" = some (some (.ref fI))) (tI : PySem.W.typeIn X.K (.ref fI) = some (.type "function"))
    (F1 : FnOk X.prog X.w X.K X.mg X.base CX k fI fd ps sp) (hr : Room (k + 1) X.A) (hb : Binds X.K fd ps []) (hx : Passes CX X (fun _ _ _ => False)) (hg : Gl X x) (hm : X.mg x = some (.ref C)) (ha : PA X (e :: es) ta)
    (hdb : (x == ("__debug__" : Str)) = false := by decide) (he : starEach (e :: es) X.env = (false, eval e X.env) :: starEach es X.env := by rfl) (hpl : (backTo pos (starEach es X.env)).any (·.1) = false := by rfl) :
    PMk X (.Call (.Name x p) (e :: es) [] pos) (tMkO C sp [] ta) := by
  intro pins s σ H Q I h
  refine wpAny_Call_Name_kw (ld_glob I hg hm ?_ hdb)
  refine PySem.W.callWith_K (h₀ := X.base) I.ok.mod.kin T.kC (thn (ha.run pos pins s σ H _ I h) fun us s1 ⟨vs, H1, I1, r1, hz, q1⟩ => ⟨I1.kIn, ?_⟩) he hpl
  show wpAny _ _ (call (.ref C) us) _ _ _
  obtain ⟨hp, g, dr, tk, os⟩ := s1
  have up : hp.objs.size ≤ hp.objs.size + 1 := Nat.le_succ _
  have hq := q1 (hp.objs.size + 1) (I1.hok.fresh up)
  have there : ((hp.push (PySem.W.kdv_tup us)).push (arO C hp.objs.size)).get? (hp.objs.size + 1) = some (arO C hp.objs.size) := by heap_get
  have keep : ∀ b o, hp.get? b = some o → ((hp.push (PySem.W.kdv_tup us)).push (arO C hp.objs.size)).get? b = some o := fun b o e => Heap.get?_push_of_some _ (Heap.get?_push_of_some _ e)
  have I2 : Inv X pins σ (upd H1 (hp.objs.size + 1) (exo (hp.objs.size + 1) C none)) ⟨(hp.push (PySem.W.kdv_tup us)).push (arO C hp.objs.size), g, dr, tk, os⟩ := I1.laid (t' := tk) (a := hp.objs.size + 1) (o := exo (hp.objs.size + 1) C none) keep up (exo_ok there)
  have r2 : Vals (V.ref (hp.objs.size + 1) :: (vs ++ [])) (Value.ref (hp.objs.size + 1) :: us) := by rw [List.append_nil]; exact .cons rfl r1
  have hb2 := hb _ (Value.ref (hp.objs.size + 1) :: us) I2.kIn (by rw [List.append_nil]; exact r2.length.symm.trans (F1.len _ _ _ _ hq))
  rw [List.append_nil] at hb2
  have fit : us.length ≤ sizeLine := by rw [← Paired.length r1, sizeLine_eq]; omega
  refine wpAny_call (ar_call (T.at_ I1.kIn) (PySem.W.looks_findIn I1.kIn iC) (fun self => PySem.W.bind_fn I1.kIn self tI) fit (codeAny_mono (F1.run _ X.stack _ _ ⟨Value.ref (hp.objs.size + 1) :: us, []⟩ (Value.ref (hp.objs.size + 1) :: us) _ _ (fun _ _ _ => False) (hr.make C us []) (I2.env0.make C us []) hb2 r2 hq) fun r s' hq' => ?_))
  match r, hq' with
  | .error er, hq' => exact hx pins σ _ _ er s' I2 hq'
  | .ok (.ret u), hq' =>
    obtain ⟨v, H2, os2, bare2, un2, hok2, rv, ev, d, fs, ea, ed, hd1, q2⟩ := hq'
    subst ev
    obtain ⟨h2, g2, d2, t2, os'⟩ := s'
    exact ⟨rv, mk_end (raises_own T.exC T.tyC) I1 up keep un2 hok2 os2 bare2 ea ed hd1 q2⟩
  | .ok .next, hq' => exact hq'.elim
  | .ok .brk, hq' => exact hq'.elim
  | .ok .cont, hq' => exact hq'.elim
end
/-- what is known of such a class with one field -/
structure ErrA (P : Program) (w : World) (K : PySem.W.Frag) (mg : Str → Option Value) (base : Heap) (x : Str) (C : Addr) (f : Str) : Prop where
  ox : OexA K C
  g : mg x = some (.ref C)
  it : ∃ fI fd, PySem.W.findIn K (.ref C) "__init__" = some (some (.ref fI)) ∧ PySem.W.typeIn K (.ref fI) = some (.type "function") ∧ FnOk P w K mg base CX0 1 fI fd ["self", f] (spErr C f) ∧ Binds K fd ["self", f] []
section
variable {X : Cx} {C : Addr} {x f : Str} {e : Expr} {te : TE} {p pos pos2 : Pos} {W : WX}
theorem ps_raiseA (T : ErrA X.prog X.w X.K X.mg X.base x C f) (hc : X.calm = true) (hr : Room 2 X.A) (tk : Takes X W) (he : PE X e te) (hg : Gl X x := by rfl) (hdb : (x == ("__debug__" : Str)) = false := by decide)
    (h1 : starEach [e] X.env = (false, eval e X.env) :: starEach [] X.env := by rfl) (h2 : (backTo pos (starEach [] X.env)).any (·.1) = false := by rfl) :
    PS X (.Raise (some (.Call (.Name x p) [e] [] pos)) none pos2) (cRaise C f W te) := by
  obtain ⟨fI, fd, iC, tI, F, b⟩ := T.it
  refine PS_imp (ps_raise hc tk (pmk_ar T.ox iC tI F hr b pass0 hg T.g (pa_cons (PE_up he) pa_nil h1) hdb h1 h2)) fun D σ H q => ⟨_, q, fun v H1 q => ⟨(by show (1 : Nat) ≤ 1000; decide), fun a na => ⟨upd_same, fun d nd da => ⟨rfl, d, [(f, v)], upd_same, ?_, ?_, ?_⟩⟩⟩⟩
  · rw [upd_ne da, upd_same]
  · rw [upd_ne da] at nd; exact nd
  · rw [upd_ne da] at nd
    refine q d _ nd (fun c o z => ?_) upd_same
    have c1 : c ≠ d := ne_of_none z nd
    have c2 : c ≠ a := ne_of_none z na
    rw [upd_ne c1, del_ne c2, upd_ne c2, upd_ne c1, upd_ne c2]
    exact z
end
end CL

set_option Elab.async false
set_option linter.all false
set_option maxRecDepth 100000
set_option maxHeartbeats 2000000
/-! MatchS: match x: case constant: .. -/
namespace CL
open PySem PySem.Spec PyProof.Rows L2
section
variable {X : Cx}
/-- the cases, by the subject's value -/
inductive CasesOk (X : Cx) : List MatchCase → (V → TS) → Prop
  | nil : CasesOk X [] (fun _ D σ H => D.nx σ H)
  | cons {e : Expr} {p : Pos} {body : List Stmt} {rest : List MatchCase} {te : TE} {r : R2} {t : TS} {u : V → TS} (he : PE X e te) (hr : OpR X (compareOp .Eq) r) (hb : PSs X body t) (hu : CasesOk X rest u) :
      CasesOk X (⟨.MatchValue e p, none, body⟩ :: rest) (fun v D σ H => te σ H fun x H1 => r v x H1 fun c H2 => match c with
        | .bl k => if k = true then t D σ H2 else u v D σ H2
        | _ => False)
theorem cases_run {cs : List MatchCase} {t : V → TS} (h : CasesOk X cs t) : ∀ (pins : List (Addr × Obj)) (s : Shared) (σ : L2.St) (H : Hp) (D : Ends) (v : V) (u : Value) (b : Bool), Inv X pins σ H s → RelV v u → t v D σ H →
    wpAny (model X.prog X.w) X.A (matchCases cs X.env u b) (SP X pins D) X.xe s := by
  induction h with
  | nil => exact fun pins s σ H D v u b I rv q => wpAny_matchCases_nil ⟨σ, H, I, q⟩
  | cons he hr hb hu ih =>
    intro pins s σ H D v u b I rv q
    refine wpAny_matchCases_cons (wpAny_matchPattern_Value (thn (he.run pins s σ H _ I q) fun x s1 ⟨y, H1, I1, r1, q1⟩ => thn (hr pins s1 σ H1 v y u x _ I1 rv r1 q1) fun c s2 ⟨z, H2, I2, r2, q2⟩ => ?_))
    cases z with
    | bl k =>
      obtain rfl : c = .bool k := r2
      cases k with
      | true => exact wpAny_pure (wpAny_assignInOrder_none (hb.run pins s2 σ H2 D I2 q2))
      | false => exact wpAny_pure (ih pins s2 σ H2 D v u false I2 rv q2)
    | _ => exact q2.elim
theorem ps_match {e : Expr} {te : TE} {cs : List MatchCase} {t : V → TS} {pos : Pos} (he : PE X e te) (h : CasesOk X cs t) : PS X (.Match e cs pos) (fun D σ H => te σ H fun v H1 => t v D σ H1) :=
  ⟨fun pins s σ H D I q => wpAny_Match (thn (he.run pins s σ H _ I q) fun u s1 ⟨v, H1, I1, rv, q1⟩ => cases_run h pins s1 σ H1 D v u true I1 rv q1)⟩
end
end CL

set_option Elab.async false
set_option linter.all false
set_option maxRecDepth 100000
set_option maxHeartbeats 2000000
/-! Ps: the reading of a tree's text is the tree. -/
namespace Fm
open PySem PySem.Spec PyProof.Rows L2 CL Rk
def nmsT : T → List Str
  | .num _ => []
  | .nam w => [w]
  | .neg t => nmsT t
  | .op _ a b => nmsT a ++ nmsT b
/-- these signs stand at i -/
def At (s : Str) (i : Nat) (l : List Nat) : Prop := ∀ k c, l[k]? = some c → cp s (i + k) = some c
theorem At.app {s : Str} {i : Nat} {a b : List Nat} (h : At s i (a ++ b)) : At s i a ∧ At s (i + a.length) b := by
  refine ⟨fun k c e => h k c ?_, fun k c e => ?_⟩
  · have := (List.getElem?_eq_some_iff.mp e).1
    rw [List.getElem?_append_left this]; exact e
  · have := h (a.length + k) c (by rw [List.getElem?_append_right (by omega), Nat.add_sub_cancel_left]; exact e)
    rw [Nat.add_assoc]; exact this
theorem At.hd {s : Str} {i c : Nat} {l : List Nat} (h : At s i (c :: l)) : cp s i = some c := h 0 c rfl
theorem At.cut {s : Str} {i : Nat} {l : List Nat} (h : At s i l) : Fm.cut s i (i + l.length) = ⟨l.toArray⟩ := by
  unfold Fm.cut
  congr 2
  apply List.ext_getElem?
  intro k
  rw [Nat.add_sub_cancel_left]
  by_cases hk : k < l.length
  · have e : l[k]? = some l[k] := List.getElem?_eq_getElem hk
    have := h k _ e
    rw [List.getElem?_take, if_pos hk, List.getElem?_drop, e]
    unfold cp at this
    simpa using this
  · rw [List.getElem?_take, if_neg hk, List.getElem?_eq_none (by omega)]
/-- neither a figure nor a letter -/
def En (s : Str) (j : Nat) : Prop := ∀ c, cp s j = some c → isD c = false ∧ isL c = false
/-- no sign of a product follows -/
def NoM (s : Str) (j : Nat) : Prop := cp s (skip s j) ≠ some 42 ∧ cp s (skip s j) ≠ some 47
theorem gap_tl (g : Nat) : (gapS g).cps.toList = List.replicate g 32 := by
  show (List.replicate g (" " : Str).cps.toList).flatten = _
  rw [show (" " : Str).cps.toList = [32] by decide +kernel]
  induction g with
  | zero => rfl
  | succ g ih => rw [List.replicate_succ, List.flatten_cons, ih]; rfl
theorem skip_gap {s : Str} : ∀ (g i c : Nat), At s i (List.replicate g 32) → cp s (i + g) = some c → c ≠ 32 → skip s i = i + g
  | 0, i, c, _, h, hc => skip_no (by
      have h : cp s i = some c := h
      rw [h]; intro z; exact hc (Option.some.inj z))
  | g + 1, i, c, ha, h, hc => by
    rw [skip_sp (show cp s i = some 32 from ha 0 32 rfl)]
    rw [skip_gap g (i + 1) c (fun k d e => by
      have := ha (k + 1) d (by rw [List.replicate_succ]; exact e)
      rw [show i + 1 + k = i + (k + 1) by omega]; exact this) (by rw [show i + 1 + g = i + (g + 1) by omega]; exact h) hc]
    omega
theorem skip_at_no {s : Str} {i c : Nat} (h : cp s i = some c) (hc : c ≠ 32) : skip s i = i := skip_no (by rw [h]; intro z; exact hc (Option.some.inj z))
/-! ### the steps of the reading -/
def Pa (s : Str) (md : Md) (i : Nat) (ns : List Str) (r : R) : Prop := ∃ f, parse s f md i ns = some r
theorem parse_up {s : Str} {md : Md} {i : Nat} {ns : List Str} {r : R} {f : Nat} (h : parse s f md i ns = some r) : ∀ g, f ≤ g → parse s g md i ns = some r := by
  intro g hg
  induction hg with
  | refl => exact h
  | step _ ih => exact parse_mono _ _ _ _ _ ih
section
variable {s : Str} {i j k : Nat} {ns ms ls : List Str} {t u : T} {r : R}
theorem Pa.sum (h1 : Pa s .term i ns (.ok t j ms)) (h2 : Pa s (.sl t) j ms r) : Pa s .sum i ns r := by
  obtain ⟨f, h1⟩ := h1
  obtain ⟨g, h2⟩ := h2
  exact ⟨max f g + 1, by rw [parse, parse_up h1 _ (Nat.le_max_left _ _)]; exact parse_up h2 _ (Nat.le_max_right _ _)⟩
theorem Pa.term (h1 : Pa s .factor i ns (.ok t j ms)) (h2 : Pa s (.tl t) j ms r) : Pa s .term i ns r := by
  obtain ⟨f, h1⟩ := h1
  obtain ⟨g, h2⟩ := h2
  exact ⟨max f g + 1, by rw [parse, parse_up h1 _ (Nat.le_max_left _ _)]; exact parse_up h2 _ (Nat.le_max_right _ _)⟩
theorem Pa.slGo (h : cp s (skip s i) = some 43 ∨ cp s (skip s i) = some 45) (h1 : Pa s .term (skip s i + 1) ns (.ok u j ms)) (h2 : Pa s (.sl (.op (one s (skip s i)) t u)) j ms r) : Pa s (.sl t) i ns r := by
  obtain ⟨f, h1⟩ := h1
  obtain ⟨g, h2⟩ := h2
  exact ⟨max f g + 1, by rw [parse, if_pos h, parse_up h1 _ (Nat.le_max_left _ _)]; exact parse_up h2 _ (Nat.le_max_right _ _)⟩
theorem Pa.slStop (h : ¬ (cp s (skip s i) = some 43 ∨ cp s (skip s i) = some 45)) : Pa s (.sl t) i ns (.ok t (skip s i) ns) := ⟨1, by rw [parse, if_neg h]⟩
theorem Pa.slSkip (h : Pa s (.sl t) i ns r) : Pa s (.sl t) (skip s i) ns r := by
  obtain ⟨f, h⟩ := h
  refine ⟨f, ?_⟩
  cases f with
  | zero => cases h
  | succ f => rw [parse, skip_skip, ← parse]; exact h
theorem Pa.tlMul (h : cp s (skip s i) = some 42) (h1 : Pa s .factor (skip s i + 1) ns (.ok u j ms)) (h2 : Pa s (.tl (.op "*" t u)) j ms r) : Pa s (.tl t) i ns r := by
  obtain ⟨f, h1⟩ := h1
  obtain ⟨g, h2⟩ := h2
  exact ⟨max f g + 1, by rw [parse, if_pos h, parse_up h1 _ (Nat.le_max_left _ _)]; exact parse_up h2 _ (Nat.le_max_right _ _)⟩
theorem Pa.tlDiv (h : cp s (skip s i) = some 47) (h' : cp s (skip s i + 1) = some 47) (h1 : Pa s .factor (skip s i + 2) ns (.ok u j ms)) (h2 : Pa s (.tl (.op "//" t u)) j ms r) : Pa s (.tl t) i ns r := by
  obtain ⟨f, h1⟩ := h1
  obtain ⟨g, h2⟩ := h2
  exact ⟨max f g + 1, by rw [parse, if_neg (by rw [h]; simp), if_pos h, if_pos h', parse_up h1 _ (Nat.le_max_left _ _)]; exact parse_up h2 _ (Nat.le_max_right _ _)⟩
theorem Pa.tlStop (h : NoM s i) : Pa s (.tl t) i ns (.ok t (skip s i) ns) := ⟨1, by rw [parse, if_neg h.1, if_neg h.2]⟩
theorem Pa.neg (h : cp s (skip s i) = some 45) (h1 : Pa s .factor (skip s i + 1) ns (.ok t j ms)) : Pa s .factor i ns (.ok (.neg t) j ms) := by
  obtain ⟨f, h1⟩ := h1
  exact ⟨f + 1, by rw [parse, h]; show (if 45 = 45 then _ else _) = _; rw [if_pos rfl, h1]⟩
theorem Pa.br (h : cp s (skip s i) = some 40) (h1 : Pa s .sum (skip s i + 1) ns (.ok t j ms)) (h2 : cp s (skip s j) = some 41) : Pa s .factor i ns (.ok t (skip s j + 1) ms) := by
  obtain ⟨f, h1⟩ := h1
  exact ⟨f + 1, by rw [parse, h]; show (if 40 = 45 then _ else if 40 = 40 then _ else _) = _; rw [if_neg (by decide), if_pos rfl, h1]; show need s 41 j _ = _; unfold need; rw [if_pos h2]⟩
theorem Pa.int {c e : Nat} (h : cp s (skip s i) = some c) (hd : isD c = true) (h1 : intEnd s (skip s i) (skip s i) = .ok e) : Pa s .factor i ns (.ok (.num (val (Fm.cut s (skip s i) e))) e ns) := by
  have n1 : c ≠ 45 := fun z => by rw [z] at hd; exact absurd hd (by decide)
  have n2 : c ≠ 40 := fun z => by rw [z] at hd; exact absurd hd (by decide)
  exact ⟨1, by rw [parse, h]; show (if c = 45 then _ else if c = 40 then _ else if isD c = true then _ else _) = _; rw [if_neg n1, if_neg n2, if_pos hd, h1]⟩
theorem Pa.word {c : Nat} (h : cp s (skip s i) = some c) (hl : isL c = true) (h1 : Pa s .word (skip s i) ns r) : Pa s .factor i ns r := by
  obtain ⟨n1, n2, n3, _⟩ : c ≠ 45 ∧ c ≠ 40 ∧ isD c = false ∧ c ≠ 32 := by
    have h2 := hl
    unfold isL at h2
    have := of_decide_eq_true h2
    refine ⟨by omega, by omega, ?_, by omega⟩
    unfold isD
    exact decide_eq_false (by omega)
  obtain ⟨f, h1⟩ := h1
  exact ⟨f + 1, by rw [parse, h]; show (if c = 45 then _ else if c = 40 then _ else if isD c = true then _ else if isL c = true then _ else _) = _; rw [if_neg n1, if_neg n2, n3, if_neg Bool.false_ne_true, if_pos hl, h1]⟩
theorem Pa.nam {e : Nat} (h : wordEnd s i i = .ok e) (n1 : ¬ (Fm.cut s i e = "min" ∨ Fm.cut s i e = "max")) (n2 : ¬ Fm.cut s i e = "self") : Pa s .word i ns (.ok (.nam (Fm.cut s i e)) e (ns ++ [Fm.cut s i e])) := ⟨1, by rw [parse, h]; show (if _ then _ else _) = _; rw [if_neg n1, if_neg n2]⟩
theorem Pa.pair {e j1 j2 : Nat} {a b : T} (h : wordEnd s i i = .ok e) (n1 : Fm.cut s i e = "min" ∨ Fm.cut s i e = "max") (c1 : cp s (skip s e) = some 40) (h1 : Pa s .sum (skip s e + 1) ns (.ok a j1 ms)) (c2 : cp s (skip s j1) = some 44) (h2 : Pa s .sum (skip s j1 + 1) ms (.ok b j2 ls)) (c3 : cp s (skip s j2) = some 41) :
    Pa s .word i ns (.ok (.op (Fm.cut s i e) a b) (skip s j2 + 1) ls) := by
  obtain ⟨f, h1⟩ := h1
  obtain ⟨g, h2⟩ := h2
  refine ⟨max f g + 2, ?_⟩
  rw [parse, h]
  show (if _ then _ else _) = _
  rw [if_pos n1, parse]
  unfold need
  rw [if_pos c1]
  dsimp only
  rw [parse_up h1 _ (Nat.le_max_left _ _)]
  dsimp only
  rw [if_pos c2, parse_up h2 _ (Nat.le_max_right _ _)]
  dsimp only
  rw [if_pos c3]
end
/-! ### runs of figures and of letters -/
theorem int_run {s : Str} {b : Nat} : ∀ (n i e : Nat), n = e - i → i ≤ e → e ≤ b + 31 → b ≤ i → (∀ j, i ≤ j → j < e → ∃ c, cp s j = some c ∧ isD c = true) → (∀ c, cp s e = some c → isD c = false) → (cp s b = some 48 → e ≤ b + 1) → intEnd s b i = .ok e
  | 0, i, e, hn, hi, h31, hb, hd, he, h0 => by
    have : i = e := by omega
    subst this
    rw [intEnd, dif_neg]
    rintro ⟨c, hc, hd⟩
    rw [he c hc] at hd
    cases hd
  | n + 1, i, e, hn, hi, h31, hb, hd, he, h0 => by
    rw [intEnd, dif_pos (hd i (Nat.le_refl _) (by omega)), if_neg (by rintro (z | ⟨z, z2⟩); omega; have := h0 z; omega)]
    exact int_run n (i + 1) e (by omega) (by omega) h31 (by omega) (fun j h1 h2 => hd j (by omega) h2) he h0
theorem word_run {s : Str} {b : Nat} : ∀ (n i e : Nat), n = e - i → i ≤ e → e ≤ b + 8 → b ≤ i → (∀ j, i ≤ j → j < e → ∃ c, cp s j = some c ∧ isL c = true) → (∀ c, cp s e = some c → isL c = false) → wordEnd s b i = .ok e
  | 0, i, e, hn, hi, h8, hb, hd, he => by
    have : i = e := by omega
    subst this
    rw [wordEnd, dif_neg]
    rintro ⟨c, hc, hd⟩
    rw [he c hc] at hd
    cases hd
  | n + 1, i, e, hn, hi, h8, hb, hd, he => by
    rw [wordEnd, dif_pos (hd i (Nat.le_refl _) (by omega)), if_neg (by omega)]
    exact word_run n (i + 1) e (by omega) (by omega) h8 (by omega) (fun j h1 h2 => hd j (by omega) h2) he
theorem At.all {s : Str} {i : Nat} {l : List Nat} {g : Nat → Bool} (h : At s i l) (hg : ∀ c ∈ l, g c = true) : ∀ j, i ≤ j → j < i + l.length → ∃ c, cp s j = some c ∧ g c = true := fun j h1 h2 => by
  have e : l[j - i]? = some l[j - i] := List.getElem?_eq_getElem (by omega)
  have := h (j - i) _ e
  rw [show i + (j - i) = j by omega] at this
  exact ⟨_, this, hg _ (List.getElem_mem _)⟩
/-- the figures of a number -/
theorem figs (m : Nat) : (∀ c ∈ (Nat.toDigits 10 m).map Char.toNat, isD c = true) ∧ 0 < ((Nat.toDigits 10 m).map Char.toNat).length ∧ (((Nat.toDigits 10 m).map Char.toNat)[0]? = some 48 → ((Nat.toDigits 10 m).map Char.toNat).length = 1) ∧ (0 < m → ((Nat.toDigits 10 m).map Char.toNat)[0]? ≠ some 48) ∧
    ∀ k, m < 10 ^ (k + 1) → ((Nat.toDigits 10 m).map Char.toNat).length ≤ k + 1 := by
  induction m using Nat.strongRecOn with
  | _ m ih =>
    by_cases h : m < 10
    · rw [Nat.toDigits_of_lt_base h]
      refine ⟨fun c hc => ?_, by simp, fun _ => rfl, fun h0 z => ?_, fun k _ => by simp⟩
      · have hc : c = (Nat.digitChar m).toNat := by simpa using hc
        rw [hc]
        have : ∀ d : Nat, d < 10 → isD (Nat.digitChar d).toNat = true := by decide
        exact this m h
      · have z : (Nat.digitChar m).toNat = 48 := by simpa using z
        have : ∀ d : Nat, d < 10 → (Nat.digitChar d).toNat = 48 → d = 0 := by decide
        have := this m h z
        omega
    · have hm : m % 10 < 10 := Nat.mod_lt m (by decide)
      have t : Nat.toDigits 10 (m / 10) ++ Nat.toDigits 10 (m % 10) = Nat.toDigits 10 (10 * (m / 10) + m % 10) := Nat.toDigits_append_toDigits (by decide) (by omega) hm
      rw [Nat.div_add_mod, Nat.toDigits_of_lt_base hm] at t
      obtain ⟨a1, a2, a3, a4, a5⟩ := ih (m / 10) (by omega)
      rw [← t, List.map_append]
      have hd : ((Nat.toDigits 10 (m / 10)).map Char.toNat ++ [Nat.digitChar (m % 10)].map Char.toNat)[0]? = ((Nat.toDigits 10 (m / 10)).map Char.toNat)[0]? := List.getElem?_append_left a2
      refine ⟨fun c hc => ?_, by rw [List.length_append]; omega, fun z => ?_, fun _ z => ?_, fun k hk => ?_⟩
      · rcases List.mem_append.mp hc with z | z
        · exact a1 c z
        · have hc : c = (Nat.digitChar (m % 10)).toNat := by simpa using z
          rw [hc]
          have : ∀ d : Nat, d < 10 → isD (Nat.digitChar d).toNat = true := by decide
          exact this _ hm
      · rw [hd] at z
        exact absurd z (a4 (by omega))
      · rw [hd] at z
        exact a4 (by omega) z
      · cases k with
        | zero => omega
        | succ k =>
          have := a5 k (by rw [Nat.pow_succ] at hk; omega)
          rw [List.length_append]
          have e1 : ([Nat.digitChar (m % 10)].map Char.toNat).length = 1 := rfl
          omega
/-! ### the text of a tree -/
/-- what a text of a level is read to -/
structure Reads (s : Str) (t : T) (l : Nat) (x : List Nat) : Prop where
  fac : 2 ≤ l → ∀ i0 i ns, skip s i0 = i → At s i x → En s (i + x.length) → Pa s .factor i0 ns (.ok t (i + x.length) (ns ++ nmsT t))
  ter : 1 ≤ l → ∀ i0 i ns r, skip s i0 = i → At s i x → En s (i + x.length) → Pa s (.tl t) (i + x.length) (ns ++ nmsT t) r → Pa s .term i0 ns r
  sum : ∀ i0 i ns r, skip s i0 = i → At s i x → En s (i + x.length) → NoM s (i + x.length) → Pa s (.sl t) (i + x.length) (ns ++ nmsT t) r → Pa s .sum i0 ns r
theorem Reads.ofTer {s : Str} {t : T} {l : Nat} {x : List Nat} (h0 : 2 ≤ l → ∀ i0 i ns, skip s i0 = i → At s i x → En s (i + x.length) → Pa s .factor i0 ns (.ok t (i + x.length) (ns ++ nmsT t)))
    (h1 : ∀ i0 i ns r, skip s i0 = i → At s i x → En s (i + x.length) → Pa s (.tl t) (i + x.length) (ns ++ nmsT t) r → Pa s .term i0 ns r) : Reads s t l x :=
  ⟨h0, fun _ => h1, fun i0 i ns r hs ha he hm h => .sum (h1 i0 i ns _ hs ha he (.tlStop hm)) h.slSkip⟩
theorem Reads.ofFac {s : Str} {t : T} {l : Nat} {x : List Nat} (h0 : ∀ i0 i ns, skip s i0 = i → At s i x → En s (i + x.length) → Pa s .factor i0 ns (.ok t (i + x.length) (ns ++ nmsT t))) : Reads s t l x :=
  .ofTer (fun _ => h0) fun i0 i ns r hs ha he h => .term (h0 i0 i ns hs ha he) h
/-- how a text begins -/
theorem TexB.first {B : Nat} {ws : List Str} (hw : ∀ w ∈ ws, Wd w) {t : T} {l : Nat} {x : Str} (h : TexB B t l x) : TOk ws t → ∃ c r, x.cps.toList = c :: r ∧ c ≠ 32 := by
  have lit : ∀ (o : Str) (y : List Nat), (∃ c r, o.cps.toList = c :: r ∧ c ≠ 32) → ∃ c r, o.cps.toList ++ y = c :: r ∧ c ≠ 32 := fun o y ⟨c, r, e, n⟩ => ⟨c, r ++ y, by rw [e]; rfl, n⟩
  have tl : ∀ a b : Str, (a ++ b).cps.toList = a.cps.toList ++ b.cps.toList := TL.tl_append
  induction h with
  | @num n =>
    intro k
    obtain ⟨m, rfl⟩ := Int.eq_ofNat_of_zero_le k.1
    have e : (Str.ofString (toString ((m : Nat) : Int))).cps.toList = (Nat.toDigits 10 m).map Char.toNat := PySem.W.KIN.signs_num m
    obtain ⟨a1, a2, _⟩ := figs m
    rw [← e] at a1 a2
    cases hx : (Str.ofString (toString ((m : Nat) : Int))).cps.toList with
    | nil => rw [hx] at a2; exact absurd a2 (by decide)
    | cons c r =>
      refine ⟨c, r, rfl, fun z => ?_⟩
      have := a1 c (by rw [hx]; simp)
      rw [z] at this
      exact absurd this (by decide)
  | @nam w =>
    intro k
    have hk := hw w k
    cases hx : w.cps.toList with
    | nil =>
      have := hk.ne
      have e : w.length = w.cps.toList.length := TL.len_tl w
      rw [hx] at e
      simp at e
      omega
    | cons c r =>
      refine ⟨c, r, rfl, fun z => ?_⟩
      have := hk.lets c (by rw [hx]; simp)
      rw [z] at this
      exact absurd this (by decide)
  | neg _ _ _ _ =>
    intro _
    rw [tl, tl, List.append_assoc]
    exact lit _ _ ⟨45, [], by decide +kernel, by decide⟩
  | pair ho _ _ _ _ _ =>
    intro _
    rw [tl, tl, tl, tl, List.append_assoc, List.append_assoc, List.append_assoc]
    rcases ho with rfl | rfl
    · exact lit _ _ ⟨109, [105, 110], by decide +kernel, by decide⟩
    · exact lit _ _ ⟨109, [97, 120], by decide +kernel, by decide⟩
  | sum _ _ _ _ _ i1 _ =>
    intro k
    rw [tl, tl, List.append_assoc]
    exact lit _ _ (i1 k.2.1)
  | term _ _ _ _ _ _ i1 _ =>
    intro k
    rw [tl, tl, List.append_assoc]
    exact lit _ _ (i1 k.2.1)
  | br _ _ =>
    intro _
    rw [tl, tl, tl, tl, List.append_assoc, List.append_assoc, List.append_assoc]
    exact lit _ _ ⟨40, [], by decide +kernel, by decide⟩
end Fm

set_option Elab.async false
set_option linter.all false
set_option maxRecDepth 100000
set_option maxHeartbeats 2000000
/-! Ps2: a tree's text is read to the tree. -/
namespace Fm
open PySem PySem.Spec PyProof.Rows L2 CL Rk
theorem tlA (a b : Str) : (a ++ b).cps.toList = a.cps.toList ++ b.cps.toList := TL.tl_append a b
theorem one_of {s : Str} {i c : Nat} {o : Str} (h : cp s i = some c) (e : o = ⟨#[c]⟩) : one s i = o := by
  unfold one
  rw [h, e]
theorem en_of {s : Str} {j c : Nat} (h : cp s j = some c) (h1 : isD c = false) (h2 : isL c = false) : En s j := fun d hd => by
  rw [h] at hd
  cases hd
  exact ⟨h1, h2⟩
/-- spaces, then a sign that ends a word -/
theorem en_gap {s : Str} {j g c : Nat} (h : At s j (List.replicate g 32)) (hc : cp s (j + g) = some c) (h1 : isD c = false) (h2 : isL c = false) : En s j := by
  cases g with
  | zero => exact en_of hc h1 h2
  | succ g => exact en_of (h 0 32 rfl) (by decide) (by decide)
theorem TexB.reads {B : Nat} {ws : List Str} (hw : ∀ w ∈ ws, Wd w) (s : Str) {t : T} {l : Nat} {x : Str} (h : TexB B t l x) : TOk ws t → Reads s t l x.cps.toList := by
  induction h with
  | @num n =>
    intro k
    obtain ⟨m, rfl⟩ := Int.eq_ofNat_of_zero_le k.1
    have e : (Str.ofString (toString ((m : Nat) : Int))).cps.toList = (Nat.toDigits 10 m).map Char.toNat := PySem.W.KIN.signs_num m
    obtain ⟨a1, a2, a3, _, a5⟩ := figs m
    have k2 := a5 30 (by have := k.2; omega)
    have vb := PySem.W.KIN.val_back m
    show Reads s (.num ((m : Nat) : Int)) 2 (Str.ofString (toString ((m : Nat) : Int))).cps.toList
    rw [e]
    generalize (Nat.toDigits 10 m).map Char.toNat = D at a1 a2 a3 k2 vb
    refine .ofFac fun i0 i ns hs ha he => ?_
    subst hs
    cases D with
    | nil => exact absurd a2 (by simp)
    | cons c r =>
      have z := Pa.int (s := s) (i := i0) (ns := ns) ha.hd (a1 c (by simp)) (int_run _ _ (skip s i0 + (c :: r).length) rfl (by omega) (by omega) (Nat.le_refl _) (ha.all a1) (fun d hd => (he d hd).1) (fun z => by
        have := ha.hd
        rw [this] at z
        have := a3 (by rw [Option.some.inj z]; rfl)
        omega))
      rw [ha.cut] at z
      have v : val ⟨(c :: r).toArray⟩ = ((m : Nat) : Int) := by
        unfold val
        exact congrArg (fun n : Nat => (n : Int)) vb
      rw [v] at z
      show Pa s .factor i0 ns (.ok _ _ (ns ++ []))
      rw [List.append_nil]
      exact z
  | @nam w =>
    intro k
    have hk := hw w k
    refine .ofFac fun i0 i ns hs ha he => ?_
    subst hs
    have hl : w.cps.toList.length = w.length := (TL.len_tl w).symm
    cases hD : w.cps.toList with
    | nil => rw [hD] at hl; have := hk.ne; simp at hl; omega
    | cons c r =>
      rw [hD] at ha he hl
      have lets : ∀ d ∈ c :: r, isL d = true := fun d hd => hk.lets d (by rw [hD]; exact hd)
      have we := word_run (s := s) (b := skip s i0) _ (skip s i0) (skip s i0 + (c :: r).length) rfl (by omega) (by have := hk.few; omega) (Nat.le_refl _) (ha.all lets) (fun d hd => (he d hd).2)
      have ec : Fm.cut s (skip s i0) (skip s i0 + (c :: r).length) = w := by
        rw [ha.cut, ← hD]
      have z := Pa.nam (s := s) (ns := ns) we (by rw [ec]; rintro (z | z); exact hk.n1 z; exact hk.n2 z) (by rw [ec]; exact hk.n3)
      rw [ec] at z
      exact Pa.word ha.hd (lets c (by simp)) z
  | @neg t l g x _ hl _ ih =>
    intro k
    have r := ih k
    obtain ⟨c, y, e1, n1⟩ := TexB.first hw ‹TexB B t l x› k
    have e : ("-" ++ gapS g ++ x : Str).cps.toList = [45] ++ (List.replicate g 32 ++ x.cps.toList) := by
      rw [tlA, tlA, gap_tl, List.append_assoc]
      rfl
    rw [e]
    refine .ofFac fun i0 i ns hs ha he => ?_
    subst hs
    obtain ⟨a1, a2⟩ := ha.app
    obtain ⟨a3, a4⟩ := a2.app
    simp only [List.length_append, List.length_replicate, List.length_cons, List.length_nil, Nat.zero_add] at a1 a2 a3 a4 he ⊢
    have p : skip s i0 + (1 + (g + x.cps.toList.length)) = skip s i0 + 1 + g + x.cps.toList.length := by omega
    rw [p] at he ⊢
    have c0 : cp s (skip s i0 + 1 + g) = some c := by rw [e1] at a4; exact a4.hd
    exact Pa.neg a1.hd (r.fac hl _ _ ns (skip_gap g _ c a3 c0 n1) a4 he)
  | @br t l g1 g2 x _ _ ih =>
    intro k
    have r := ih k
    obtain ⟨c, y, e1, n1⟩ := TexB.first hw ‹TexB B t l x› k
    have e : ("(" ++ gapS g1 ++ x ++ gapS g2 ++ ")" : Str).cps.toList = [40] ++ (List.replicate g1 32 ++ (x.cps.toList ++ (List.replicate g2 32 ++ [41]))) := by
      rw [tlA, tlA, tlA, tlA, gap_tl, gap_tl, List.append_assoc, List.append_assoc, List.append_assoc]
      rfl
    rw [e]
    refine .ofFac fun i0 i ns hs ha he => ?_
    subst hs
    obtain ⟨a1, a2⟩ := ha.app
    obtain ⟨a3, a4⟩ := a2.app
    obtain ⟨a5, a6⟩ := a4.app
    obtain ⟨a7, a8⟩ := a6.app
    simp only [List.length_append, List.length_replicate, List.length_cons, List.length_nil, Nat.zero_add] at a1 a2 a3 a4 a5 a6 a7 a8 he ⊢
    have c0 : cp s (skip s i0 + 1 + g1) = some c := by rw [e1] at a5; exact a5.hd
    have s1 := skip_gap g1 _ c a3 c0 n1
    have s2 := skip_gap g2 _ 41 a7 a8.hd (by decide)
    have nm : NoM s (skip s i0 + 1 + g1 + x.cps.toList.length) := by unfold NoM; rw [s2, a8.hd]; exact ⟨by simp, by simp⟩
    have z := r.sum _ _ ns _ s1 a5 (en_gap a7 a8.hd (by decide) (by decide)) nm (.slStop (by rw [s2, a8.hd]; simp))
    rw [s2] at z
    have sk := skip_at_no a8.hd (by decide)
    have z2 := Pa.br a1.hd z (by rw [sk]; exact a8.hd)
    rw [sk] at z2
    have p : skip s i0 + (1 + (g1 + (x.cps.toList.length + (g2 + 1)))) = skip s i0 + 1 + g1 + x.cps.toList.length + g2 + 1 := by omega
    rw [p]
    exact z2
  | @sum o a b la lb g0 g1 sa sb ho ha hb h1 _ i1 i2 =>
    intro k
    have r1 := i1 k.2.1
    have r2 := i2 k.2.2
    obtain ⟨ca, ya, ea, na⟩ := TexB.first hw ha k.2.1
    obtain ⟨cb, yb, eb, nb⟩ := TexB.first hw hb k.2.2
    obtain ⟨co, eo, hco⟩ : ∃ co, o = ⟨#[co]⟩ ∧ (co = 43 ∨ co = 45) := by
      rcases ho with rfl | rfl
      · exact ⟨43, by decide +kernel, .inl rfl⟩
      · exact ⟨45, by decide +kernel, .inr rfl⟩
    have e : (sa ++ (gapS g0 ++ o ++ gapS g1) ++ sb : Str).cps.toList = sa.cps.toList ++ (List.replicate g0 32 ++ ([co] ++ (List.replicate g1 32 ++ sb.cps.toList))) := by
      rw [tlA, tlA, tlA, tlA, gap_tl, gap_tl, List.append_assoc, List.append_assoc, List.append_assoc, eo]
    rw [e]
    refine ⟨fun z => absurd z (by decide), fun z => absurd z (by decide), fun i0 i ns r hs hx he hm h => ?_⟩
    subst hs
    obtain ⟨a1, a2⟩ := hx.app
    obtain ⟨a3, a4⟩ := a2.app
    obtain ⟨a5, a6⟩ := a4.app
    obtain ⟨a7, a8⟩ := a6.app
    simp only [List.length_append, List.length_replicate, List.length_cons, List.length_nil, Nat.zero_add] at a1 a2 a3 a4 a5 a6 a7 a8 he hm h
    have p : skip s i0 + (sa.cps.toList.length + (g0 + (1 + (g1 + sb.cps.toList.length)))) = skip s i0 + sa.cps.toList.length + g0 + 1 + g1 + sb.cps.toList.length := by omega
    rw [p] at he hm h
    have nco : co ≠ 32 := by rcases hco with rfl | rfl <;> decide
    have fin : isD co = false ∧ isL co = false := by rcases hco with rfl | rfl <;> decide
    have s1 := skip_gap g0 _ co a3 a5.hd nco
    have cb0 : cp s (skip s i0 + sa.cps.toList.length + g0 + 1 + g1) = some cb := by rw [eb] at a8; exact a8.hd
    have s2 := skip_gap g1 _ cb a7 cb0 nb
    have nm : NoM s (skip s i0 + sa.cps.toList.length) := by
      unfold NoM
      rw [s1, a5.hd]
      rcases hco with rfl | rfl <;> exact ⟨by simp, by simp⟩
    refine r1.sum _ _ ns r rfl a1 (en_gap a3 a5.hd fin.1 fin.2) nm ?_
    refine Pa.slGo (by rw [s1, a5.hd]; rcases hco with rfl | rfl; exact .inl rfl; exact .inr rfl) (j := skip s (skip s i0 + sa.cps.toList.length + g0 + 1 + g1 + sb.cps.toList.length)) (ms := ns ++ nmsT a ++ nmsT b) (u := b) ?_ ?_
    · refine r2.ter h1 _ _ _ _ ?_ a8 he (.tlStop hm)
      rw [s1]
      exact s2
    · rw [s1, one_of a5.hd eo]
      refine Pa.slSkip ?_
      have : ns ++ nmsT (.op o a b) = ns ++ nmsT a ++ nmsT b := by
        show ns ++ (nmsT a ++ nmsT b) = _
        rw [List.append_assoc]
      rw [this] at h
      exact h
  | @term o a b la lb g0 g1 sa sb ho ha hla hb hlb _ i1 i2 =>
    intro k
    have r1 := i1 k.2.1
    have r2 := i2 k.2.2
    obtain ⟨ca, ya, ea, na⟩ := TexB.first hw ha k.2.1
    obtain ⟨cb, yb, eb, nb⟩ := TexB.first hw hb k.2.2
    rcases ho with rfl | rfl
    · have e : (sa ++ (gapS g0 ++ "*" ++ gapS g1) ++ sb : Str).cps.toList = sa.cps.toList ++ (List.replicate g0 32 ++ ([42] ++ (List.replicate g1 32 ++ sb.cps.toList))) := by
        rw [tlA, tlA, tlA, tlA, gap_tl, gap_tl, List.append_assoc, List.append_assoc, List.append_assoc]
        rfl
      rw [e]
      refine .ofTer (fun z => absurd z (by decide)) fun i0 i ns r hs hx he h => ?_
      subst hs
      obtain ⟨a1, a2⟩ := hx.app
      obtain ⟨a3, a4⟩ := a2.app
      obtain ⟨a5, a6⟩ := a4.app
      obtain ⟨a7, a8⟩ := a6.app
      simp only [List.length_append, List.length_replicate, List.length_cons, List.length_nil, Nat.zero_add] at a1 a2 a3 a4 a5 a6 a7 a8 he h
      have p : skip s i0 + (sa.cps.toList.length + (g0 + (1 + (g1 + sb.cps.toList.length)))) = skip s i0 + sa.cps.toList.length + g0 + 1 + g1 + sb.cps.toList.length := by omega
      rw [p] at he h
      have s1 := skip_gap g0 _ 42 a3 a5.hd (by decide)
      have cb0 : cp s (skip s i0 + sa.cps.toList.length + g0 + 1 + g1) = some cb := by rw [eb] at a8; exact a8.hd
      have s2 := skip_gap g1 _ cb a7 cb0 nb
      refine r1.ter hla _ _ ns r rfl a1 (en_gap a3 a5.hd (by decide) (by decide)) ?_
      have : ns ++ nmsT (.op "*" a b) = ns ++ nmsT a ++ nmsT b := by
        show ns ++ (nmsT a ++ nmsT b) = _
        rw [List.append_assoc]
      rw [this] at h
      refine Pa.tlMul (by rw [s1]; exact a5.hd) (r2.fac hlb _ _ _ ?_ a8 he) h
      rw [s1]
      exact s2
    · have e : (sa ++ (gapS g0 ++ "//" ++ gapS g1) ++ sb : Str).cps.toList = sa.cps.toList ++ (List.replicate g0 32 ++ ([47, 47] ++ (List.replicate g1 32 ++ sb.cps.toList))) := by
        rw [tlA, tlA, tlA, tlA, gap_tl, gap_tl, List.append_assoc, List.append_assoc, List.append_assoc]
        rfl
      rw [e]
      refine .ofTer (fun z => absurd z (by decide)) fun i0 i ns r hs hx he h => ?_
      subst hs
      obtain ⟨a1, a2⟩ := hx.app
      obtain ⟨a3, a4⟩ := a2.app
      obtain ⟨a5, a6⟩ := a4.app
      obtain ⟨a7, a8⟩ := a6.app
      simp only [List.length_append, List.length_replicate, List.length_cons, List.length_nil, Nat.zero_add] at a1 a2 a3 a4 a5 a6 a7 a8 he h
      have p : skip s i0 + (sa.cps.toList.length + (g0 + (1 + 1 + (g1 + sb.cps.toList.length)))) = skip s i0 + sa.cps.toList.length + g0 + 2 + g1 + sb.cps.toList.length := by omega
      rw [p] at he h
      have s1 := skip_gap g0 _ 47 a3 a5.hd (by decide)
      have cb0 : cp s (skip s i0 + sa.cps.toList.length + g0 + 2 + g1) = some cb := by rw [eb] at a8; exact a8.hd
      have s2 := skip_gap g1 _ cb a7 cb0 nb
      refine r1.ter hla _ _ ns r rfl a1 (en_gap a3 a5.hd (by decide) (by decide)) ?_
      have : ns ++ nmsT (.op "//" a b) = ns ++ nmsT a ++ nmsT b := by
        show ns ++ (nmsT a ++ nmsT b) = _
        rw [List.append_assoc]
      rw [this] at h
      refine Pa.tlDiv (by rw [s1]; exact a5.hd) (by rw [s1]; exact a5 1 47 rfl) (r2.fac hlb _ _ _ ?_ a8 he) h
      rw [s1]
      exact s2
  | @pair o a b la lb g0 g1 g2 g3 g4 sa sb ho ha hb _ i1 i2 =>
    intro k
    have r1 := i1 k.2.1
    have r2 := i2 k.2.2
    obtain ⟨ca, ya, ea, na⟩ := TexB.first hw ha k.2.1
    obtain ⟨cb, yb, eb, nb⟩ := TexB.first hw hb k.2.2
    obtain ⟨lo, eo, hlo, hl3, hle⟩ : ∃ lo : List Nat, o.cps.toList = lo ∧ (∀ c ∈ lo, isL c = true) ∧ lo.length = 3 ∧ (⟨lo.toArray⟩ : Str) = o := by
      rcases ho with rfl | rfl
      · exact ⟨[109, 105, 110], by decide +kernel, by decide, rfl, by decide +kernel⟩
      · exact ⟨[109, 97, 120], by decide +kernel, by decide, rfl, by decide +kernel⟩
    have e : (o ++ gapS g0 ++ "(" ++ (gapS g1 ++ sa ++ gapS g2 ++ "," ++ (gapS g3 ++ sb ++ gapS g4)) ++ ")" : Str).cps.toList =
        lo ++ (List.replicate g0 32 ++ ([40] ++ (List.replicate g1 32 ++ (sa.cps.toList ++ (List.replicate g2 32 ++ ([44] ++ (List.replicate g3 32 ++ (sb.cps.toList ++ (List.replicate g4 32 ++ [41]))))))))) := by
      simp only [tlA, gap_tl, List.append_assoc, eo]
      rfl
    rw [e]
    refine .ofFac fun i0 i ns hs hx he => ?_
    subst hs
    obtain ⟨a1, hx⟩ := hx.app
    obtain ⟨a2, hx⟩ := hx.app
    obtain ⟨a3, hx⟩ := hx.app
    obtain ⟨a4, hx⟩ := hx.app
    obtain ⟨a5, hx⟩ := hx.app
    obtain ⟨a6, hx⟩ := hx.app
    obtain ⟨a7, hx⟩ := hx.app
    obtain ⟨a8, hx⟩ := hx.app
    obtain ⟨a9, hx⟩ := hx.app
    obtain ⟨b1, b2⟩ := hx.app
    simp only [List.length_append, List.length_replicate, List.length_cons, List.length_nil, Nat.zero_add, hl3] at a1 a2 a3 a4 a5 a6 a7 a8 a9 b1 b2 he ⊢
    have s0 := skip_gap g0 _ 40 a2 a3.hd (by decide)
    have ca0 : cp s (skip s i0 + 3 + g0 + 1 + g1) = some ca := by rw [ea] at a5; exact a5.hd
    have s1 := skip_gap g1 _ ca a4 ca0 na
    have s2 := skip_gap g2 _ 44 a6 a7.hd (by decide)
    have cb0 : cp s (skip s i0 + 3 + g0 + 1 + g1 + sa.cps.toList.length + g2 + 1 + g3) = some cb := by rw [eb] at a9; exact a9.hd
    have s3 := skip_gap g3 _ cb a8 cb0 nb
    have s4 := skip_gap g4 _ 41 b1 b2.hd (by decide)
    have z1 := r1.sum _ _ ns _ s1 a5 (en_gap a6 a7.hd (by decide) (by decide)) (by unfold NoM; rw [s2, a7.hd]; exact ⟨by simp, by simp⟩) (.slStop (by rw [s2, a7.hd]; simp))
    rw [s2] at z1
    have k1 := skip_at_no a7.hd (by decide)
    have z2 := r2.sum _ _ (ns ++ nmsT a) _ s3 a9 (en_gap b1 b2.hd (by decide) (by decide)) (by unfold NoM; rw [s4, b2.hd]; exact ⟨by simp, by simp⟩) (.slStop (by rw [s4, b2.hd]; simp))
    rw [s4] at z2
    have k2 := skip_at_no b2.hd (by decide)
    have we := word_run (s := s) (b := skip s i0) _ (skip s i0) (skip s i0 + 3) rfl (by omega) (by omega) (Nat.le_refl _) (by have := a1.all hlo; rw [hl3] at this; exact this) (fun d hd => (en_gap a2 a3.hd (by decide) (by decide) d hd).2)
    have ec : Fm.cut s (skip s i0) (skip s i0 + 3) = o := by
      have := a1.cut
      rw [hl3] at this
      rw [this, hle]
    have z := Pa.pair (s := s) (ns := ns) we (by rw [ec]; exact ho) (by rw [s0]; exact a3.hd) (by rw [s0]; exact z1) (by rw [k1]; exact a7.hd) (by rw [k1]; exact z2) (by rw [k2]; exact b2.hd)
    rw [ec, k2] at z
    have c1 : ∃ c, cp s (skip s i0) = some c ∧ isL c = true := a1.all hlo _ (Nat.le_refl _) (by omega)
    obtain ⟨c, hc, hl⟩ := c1
    have p : skip s i0 + (3 + (g0 + (1 + (g1 + (sa.cps.toList.length + (g2 + (1 + (g3 + (sb.cps.toList.length + (g4 + 1)))))))))) = skip s i0 + 3 + g0 + 1 + g1 + sa.cps.toList.length + g2 + 1 + g3 + sb.cps.toList.length + g4 + 1 := by omega
    rw [p]
    show Pa s .factor i0 ns (.ok _ _ (ns ++ (nmsT a ++ nmsT b)))
    rw [← List.append_assoc]
    exact Pa.word hc hl z
end Fm

set_option Elab.async false
set_option linter.all false
set_option maxRecDepth 100000
set_option maxHeartbeats 4000000
namespace Rk
open PySem PySem.Spec PyProof.Rows L2 CL
structure Blt (mg : Str → Option Value) : Prop where
  int : mg "int" = none
  len : mg "len" = none
  abs : mg "abs" = none
  max : mg "max" = none
  min : mg "min" = none
section
variable {P : Program} {w : World} {K : PySem.W.Frag} {mg : Str → Option Value} {base : Heap}
abbrev sDraw : Stmt := topS 24
abbrev nDraw : List Str := ["_law_pen_here", "_law_many", "_law_digit", "_law_place", "_law_size", "_law_told_here", "_law_mixed"]
abbrev pDraw : List Str := ["_law_pen_here", "_law_many"]
theorem scDraw : FnScope nDraw pDraw (defScope sDraw) := ⟨rfl, rfl, rfl, by decide +kernel, rfl, by decide +kernel, by decide +kernel⟩
theorem ok_draw (B : Blt mg) (F : FunAt K mg "_law_draw" sDraw pDraw) : ∀ n, DefOk P w K mg base CX0 (0 + n) "_law_draw" pDraw (spDraw n) := by
  refine F.rec_ scDraw (fun _ _ _ _ h => h) (fun n vs H Q E h => ?_) (fun n ih f cdv A outer s H vs Q E hr h => ?_)
  · cases n with
    | zero => exact h.elim
    | succ n =>
      unfold spDraw at h
      dsimp only at h
      split at h
      · rfl
      · exact h.elim
  · have hu := hu_of hr
    refine ⟨_, (pss_cons (ps_if (ct_cmp c_gt (pe_pget (k := 2) (.inr (.inr ⟨rfl, rfl⟩)) hu (cv 0)) pe_int (nomark _))
  (pss_cons (ps_set (i := 2) scDraw.nd rfl (.inl rfl) (pe_op c_mod (pe_callTy c_int (by rfl) B.int (by decide +kernel) (pa_cons (pe_pget (k := 2) (.inr (.inr ⟨rfl, rfl⟩)) hu (cv 0)) pa_nil)) (cv 1)))
  (pss_cons (ps_pput (k := 2) (.inr ⟨rfl, rfl⟩) hu (cv 0) (pe_op c_fdiv (pe_pget (k := 2) (.inr (.inr ⟨rfl, rfl⟩)) hu (cv 0)) (cv 1)))
  (pss_one (ps_ret (cv 2)))))
  pss_nil)
  (pss_cons (ps_par (i := 3) (j := 4) rfl scDraw.nd rfl rfl (by decide) rfl rfl (pa_cons (pe_pget (k := 1) (.inr (.inl ⟨rfl, rfl⟩)) hu (cv 0)) (pa_cons (pe_callB c_lenL (by rfl) B.len (by decide +kernel) (pa_cons (pe_pget (k := 0) (.inl ⟨rfl, rfl⟩) hu (cv 0)) pa_nil)) pa_nil)) (by rfl))
  (pss_cons (ps_pput (k := 1) (.inl ⟨rfl, rfl⟩) hu (cv 0) (pe_op c_addI (cv 3) pe_int))
  (pss_cut (ps_set (i := 5) scDraw.nd rfl (.inl rfl) (pe_ifExp (ct_cmp c_gt (cv 4) pe_int (nomark _)) (pe_ix c_ixL (pe_pget (k := 0) (.inl ⟨rfl, rfl⟩) hu (cv 0)) (pe_op c_mod (pe_callTy c_int (by rfl) B.int (by decide +kernel) (pa_cons (cv 3) pa_nil)) (cv 4)) (fun _ _ => rfl)) (pe_op c_addI (pe_op c_mul pe_int (cv 3)) pe_int)))
  (pss_cons (ps_if (PW.pt (pw_and (ct_cmp c_lt (cv 3) (cv 4) (nomark _)) (pw_and1 (ct_cmp c_ge (pe_callB c_abs (by rfl) B.abs (by decide +kernel) (pa_cons (cv 5) pa_nil)) (pe_pow (z := 1000000000000000000) ⟨⟨by decide, by decide, by decide⟩, by decide +kernel⟩) (nomark _)))))
  (pss_cons (ps_pput (k := 2) (.inr ⟨rfl, rfl⟩) hu (cv 0) (pe_op c_fdiv (pe_op c_sub (pe_callB c_abs (by rfl) B.abs (by decide +kernel) (pa_cons (cv 5) pa_nil)) (pe_pow (z := 1000000000000000000) ⟨⟨by decide, by decide, by decide⟩, by decide +kernel⟩)) (cv 1)))
  (pss_one (ps_ret (pe_op c_mod (pe_op c_sub (pe_callB c_abs (by rfl) B.abs (by decide +kernel) (pa_cons (cv 5) pa_nil)) (pe_pow (z := 1000000000000000000) ⟨⟨by decide, by decide, by decide⟩, by decide +kernel⟩)) (cv 1)))))
  pss_nil)
  (pss_cut (ps_set (i := 6) scDraw.nd rfl (.inl rfl) (pe_op c_mod (pe_callTy c_int (by rfl) B.int (by decide +kernel) (pa_cons (pe_op c_addI (pe_op c_addI (pe_op c_mul (pe_op c_mod (pe_callTy c_int (by rfl) B.int (by decide +kernel) (pa_cons (cv 5) pa_nil)) pe_int) pe_int) (pe_op c_mul (pe_op c_mul pe_int (cv 3)) (cv 3))) pe_int) pa_nil)) pe_int))
  (pss_cut (ps_set (i := 6) scDraw.nd rfl (.inl rfl) (pe_op c_mod (pe_callTy c_int (by rfl) B.int (by decide +kernel) (pa_cons (pe_op c_addI (pe_op c_addI (pe_op c_addI (pe_op c_mul (cv 6) (cv 6)) (pe_op c_mul pe_int (cv 6))) (pe_op c_mul pe_int (cv 3))) pe_int) pa_nil)) pe_int))
  (pss_cut (ps_set (i := 6) scDraw.nd rfl (.inl rfl) (pe_op c_fdiv (pe_op c_mod (pe_callTy c_int (by rfl) B.int (by decide +kernel) (pa_cons (pe_op c_mul (cv 6) (pe_op c_addI (cv 6) pe_int)) pa_nil)) pe_int) pe_int))
  (pss_cut (ps_if (ct_cmp c_gt (cv 1) pe_int (nomark _))
  (pss_one (ps_set (i := 6) scDraw.nd rfl (.inl rfl) (pe_op c_addI (pe_op c_mod (pe_callTy c_int (by rfl) B.int (by decide +kernel) (pa_cons (cv 6) pa_nil)) pe_int) (pe_op c_mul pe_int (pe_def ih hr (by omega) (pa_cons (cv 0) (pa_cons (pe_op c_addI (pe_op c_fdiv (cv 1) pe_int) pe_int) pa_nil)))))))
  pss_nil)
  (pss_one (ps_ret (pe_op c_mod (pe_callTy c_int (by rfl) B.int (by decide +kernel) (pa_cons (cv 6) pa_nil)) (cv 1))))))))))))), ?_⟩
    unfold spDraw at h
    dsimp only at h
    split at h
    · rename_i p m
      obtain ⟨c, ns, b, r, P, m0, mb, mm, hb, k⟩ := h
      have B0 := bigD0 n
      refine ⟨c, ns, b, r, P, iteD (fun h1 => ?_) (fun h1 => ?_)⟩
      · -- the rest's next figure
        have ⟨e1, e2⟩ := pyMod_small (x := r) m0
        refine ⟨c, ns, b, r, P, m0, c, ns, b, r, P, ⟨m0, by omega⟩, c, ns, b, r, P, Int.ediv_nonneg P.r0 (by omega), fun H3 s3 P3 => ?_⟩
        exact k _ _ _ _ e1 e2 (Int.le_refl _) (by omega) P3 s3
      · -- a new cell
        have hns : ((ns.map V.int).length : Int) ≤ 63 := by rw [List.length_map]; have := P.len; omega
        refine ⟨c, ns, b, r, P, c, ns, b, r, P, ns.map V.int, .inl (SqL.of P.cells), _, _, rfl, c, ns, b, r, P, (by have := P.b0; omega), fun H1 s1 P1 => ?_⟩
        have P1 : PenAt H1 p c ns (b + 1) r := P1
        -- what is told
        refine ⟨fun σ' H' => H1 = H' ∧ ∃ z : Int, σ' = [some (.ref p), some (.int m), none, some (.int b), some (.int ((ns.map V.int).length : Int)), some (.int z), none], iteD (fun h2 => ?_) (fun h2 => ?_), ?_⟩
        · obtain ⟨z, hz⟩ := at_mod (x := b) h2
          exact ⟨c, ns, b + 1, r, P1, h2, ns.map V.int, _, SqL.of P1.cells, hz, rfl, z, rfl⟩
        · exact ⟨few_of (by omega) (by omega) (by have := P.b0; omega) (by omega), rfl, _, rfl⟩
        · rintro σ' H' ⟨rfl, z, rfl⟩
          refine (fun hrest => iteD (fun h3 => iteD (fun h4 => ?A) (fun _ => hrest)) (fun _ => iteF hrest)) ?R
          case A =>
            -- a great one
            have ⟨e1, e2⟩ := pyMod_small (x := (z.natAbs : Int) - 1000000000000000000) m0
            refine ⟨⟨m0, by omega⟩, c, ns, b + 1, r, P1, Int.ediv_nonneg (by omega) (by omega), fun H2 s2 P2 => ⟨m0, ?_⟩⟩
            exact k _ _ _ _ e1 e2 (by omega) (by omega) P2 (s1.trans s2)
          case R =>
            have b0 := P.b0
            have sl : ∀ y : Int, [some (V.ref p), some (.int m), none, some (.int b), some (.int ((ns.map V.int).length : Int)), some (.int z), some (.int y)] = [some (V.ref p), some (.int m), none, some (.int b), some (.int ((ns.map V.int).length : Int)), some (.int z), some (.int y)] := fun _ => rfl
            refine ⟨fun σ' H' => H1 = H' ∧ ∃ y : Int, 0 ≤ y ∧ y < 4294967279 ∧ σ' = [some (.ref p), some (.int m), none, some (.int b), some (.int ((ns.map V.int).length : Int)), some (.int z), some (.int y)], ?_, ?_⟩
            · have ⟨i1, i2⟩ := mix1_b z b
              have ⟨a1, a2⟩ := pyMod_small (x := z) (m := 4294967231) (by decide)
              exact ⟨lt0, few_of (by omega) (by omega) (by decide) (by decide), few_of (by decide) (by decide) (by omega) (by omega), few_of (by omega) (by omega) (by omega) (by omega), lt0, rfl, _, i1, i2, rfl⟩
            rintro σ' H' ⟨rfl, y, y1, y2, rfl⟩
            refine ⟨fun σ' H' => H1 = H' ∧ ∃ y : Int, 0 ≤ y ∧ y < 4294967291 ∧ σ' = [some (.ref p), some (.int m), none, some (.int b), some (.int ((ns.map V.int).length : Int)), some (.int z), some (.int y)], ?_, ?_⟩
            · have ⟨i1, i2⟩ := mix2_b y b
              exact ⟨few_of (by omega) (by omega) (by omega) (by omega), few_of (by decide) (by decide) (by omega) (by omega), few_of (by decide) (by decide) (by omega) (by omega), lt0, rfl, _, i1, i2, rfl⟩
            rintro σ' H' ⟨rfl, u, u1, u2, rfl⟩
            refine ⟨fun σ' H' => H1 = H' ∧ ∃ y : Int, 0 ≤ y ∧ y < 4294967197 ∧ σ' = [some (.ref p), some (.int m), none, some (.int b), some (.int ((ns.map V.int).length : Int)), some (.int z), some (.int y)], ?_, ?_⟩
            · have ⟨i1, i2⟩ := mix3_b u
              exact ⟨few_of (by omega) (by omega) (by omega) (by omega), lt0, ⟨lt0, by decide⟩, rfl, _, i1, i2, rfl⟩
            rintro σ' H' ⟨rfl, x, x1, x2, rfl⟩
            -- the recursion
            refine ⟨fun σ' H' => But p H1 H' ∧ ∃ (y b' r' : Int), b + 1 ≤ b' ∧ b' ≤ b + n + 1 ∧ PenAt H' p c ns b' r' ∧ σ' = [some (.ref p), some (.int m), none, some (.int b), some (.int ((ns.map V.int).length : Int)), some (.int z), some (.int y)], iteD (fun h5 => ?_) (fun h5 => ⟨But.refl, x, b + 1, r, Int.le_refl _, by omega, P1, rfl⟩), ?_⟩
            · refine ⟨lt0, ⟨lt0, by decide⟩, ?_⟩
              cases n with
              | zero => exact absurd (show m ≤ 60000000 from mb) (by omega)
              | succ n =>
                have mb' : m ≤ 60000000 * (bigD n - 1) := mb
                refine ⟨c, ns, b + 1, r, P1, by omega, by omega, by omega, by omega, fun v b' r' H2 v0 v1 b1 b2 P2 s2 => ⟨few_of (by decide) (by decide) (by omega) (by omega), s2, _, b', r', b1, by omega, P2, rfl⟩⟩
            · rintro σ' H2 ⟨s2, y, b', r', b1, b2, P2, rfl⟩
              have ⟨e1, e2⟩ := pyMod_small (x := y) m0
              exact ⟨m0, k _ _ _ _ e1 e2 (by omega) (by omega) P2 (s1.trans s2)⟩
    · exact h.elim
abbrev sPick : Stmt := topS 25
abbrev nPick : List Str := ["_law_pen_here", "_law_options"]
abbrev pPick : List Str := ["_law_pen_here", "_law_options"]
theorem scPick : FnScope nPick pPick (defScope sPick) := ⟨rfl, rfl, rfl, by decide +kernel, rfl, by decide +kernel, by decide +kernel⟩
abbrev sAround : Stmt := topS 26
abbrev nAround : List Str := ["_law_pen_here", "_law_most"]
abbrev pAround : List Str := ["_law_pen_here", "_law_most"]
theorem scAround : FnScope nAround pAround (defScope sAround) := ⟨rfl, rfl, rfl, by decide +kernel, rfl, by decide +kernel, by decide +kernel⟩
abbrev sGreat : Stmt := topS 27
abbrev nGreat : List Str := ["_law_pen_here", "_law_most", "_law_some"]
abbrev pGreat : List Str := ["_law_pen_here", "_law_most"]
theorem scGreat : FnScope nGreat pGreat (defScope sGreat) := ⟨rfl, rfl, rfl, by decide +kernel, rfl, by decide +kernel, by decide +kernel⟩
theorem ok_dr (B : Blt mg) (F : FunAt K mg "_law_draw" sDraw pDraw) : DefOk P w K mg base CX0 5 "_law_draw" pDraw spDr := (ok_draw B F 5).imp fun _ _ _ _ => spDr_of
theorem ok_pick (B : Blt mg) (D : ∀ base, DefOk P w K mg base CX0 5 "_law_draw" pDraw spDr) (F : FunAt K mg "_law_pick" sPick pPick) : DefOk P w K mg base CX0 6 "_law_pick" pPick (spPick K) := by
  refine F.ok scPick (fun vs H Q E h => ?_) (fun f cdv A outer s H vs Q E hr h => ?_)
  · unfold spPick at h
    split at h
    · rfl
    · exact h.elim
  · have hu := hu_of hr
    refine ⟨_, (pss_one (ps_ret (pe_ix c_ixL (cv 1) (pe_def (D _) hr (by decide) (pa_cons (cv 0) (pa_cons (pe_callB c_lenL (by rfl) B.len (by decide +kernel) (pa_cons (cv 1) pa_nil)) pa_nil))) (fun _ _ => rfl)))), ?_⟩
    unfold spPick at h
    split at h
    · rename_i p a
      obtain ⟨k, xs, P, hx, l0, l1, q⟩ := h
      refine ⟨xs, .inl hx, k, P, by omega, by omega, fun v H' v0 v1 P' s' => ?_⟩
      obtain ⟨z, hz, e⟩ := atI_mem (xs := xs) v0 v1
      exact ⟨xs, z, s'.sq P hx, e, q z H' hz P' s'⟩
    · exact h.elim
theorem ok_around (B : Blt mg) (D : ∀ base, DefOk P w K mg base CX0 5 "_law_draw" pDraw spDr) (F : FunAt K mg "_law_around" sAround pAround) : DefOk P w K mg base CX0 6 "_law_around" pAround spAround := by
  refine F.ok scAround (fun vs H Q E h => ?_) (fun f cdv A outer s H vs Q E hr h => ?_)
  · unfold spAround at h
    split at h
    · rfl
    · exact h.elim
  · have hu := hu_of hr
    refine ⟨_, (pss_one (ps_ret (pe_op c_sub (pe_def (D _) hr (by decide) (pa_cons (cv 0) (pa_cons (pe_op c_addI (pe_op c_mul pe_int (cv 1)) pe_int) pa_nil))) (cv 1)))), ?_⟩
    unfold spAround at h
    split at h
    · rename_i p m
      obtain ⟨k, P, m0, m1, q⟩ := h
      refine ⟨few_of (by omega) (by omega) (by omega) (by omega), k, P, by omega, by omega, fun v H' v0 v1 P' s' => ?_⟩
      exact q _ H' (by omega) (by omega) P' s'
    · exact h.elim
theorem ok_great (B : Blt mg) (D : ∀ base, DefOk P w K mg base CX0 5 "_law_draw" pDraw spDr) (DA : ∀ base, DefOk P w K mg base CX0 6 "_law_around" pAround spAround) (DP : ∀ base, DefOk P w K mg base CX0 6 "_law_pick" pPick (spPick K))
    (F : FunAt K mg "_law_great" sGreat pGreat) : DefOk P w K mg base CX0 7 "_law_great" pGreat spGreat := by
  refine F.ok scGreat (fun vs H Q E h => ?_) (fun f cdv A outer s H vs Q E hr h => ?_)
  · unfold spGreat at h
    split at h
    · rfl
    · exact h.elim
  · have hu := hu_of hr
    refine ⟨_, (pss_cons (ps_set (i := 2) scGreat.nd rfl (.inl rfl) (pe_lst (pa_cons (pe_def (DA _) hr (by decide) (pa_cons (cv 0) (pa_cons pe_int pa_nil))) (pa_cons (pe_def (DA _) hr (by decide) (pa_cons (cv 0) (pa_cons (cv 1) pa_nil))) (pa_cons (pe_op c_sub (cv 1) (pe_def (D _) hr (by decide) (pa_cons (cv 0) (pa_cons pe_int pa_nil)))) (pa_cons (pe_op c_sub (pe_def (D _) hr (by decide) (pa_cons (cv 0) (pa_cons pe_int pa_nil))) (cv 1)) pa_nil))))))
  (pss_one (ps_ret (pe_callB (c_max rfl) (by rfl) B.max (by decide +kernel) (pa_cons (pe_op c_sub pe_int (cv 1)) (pa_cons (pe_callB (c_min rfl) (by rfl) B.min (by decide +kernel) (pa_cons (cv 1) (pa_cons (pe_def (DP _) hr (by decide) (pa_cons (cv 0) (pa_cons (cv 2) pa_nil))) pa_nil))) pa_nil)))))), ?_⟩
    unfold spGreat at h
    split at h
    · rename_i p m
      obtain ⟨k, P, m0, m1, q⟩ := h
      refine ⟨k + 20, P, by decide, by decide, fun v1 H1 a1 b1 P1 s1 => ⟨k + 15, P1, m0, m1, fun v2 H2 a2 b2 P2 s2 => ⟨k + 10, P2, by decide, by decide, fun v3 H3 a3 b3 P3 s3 => ⟨k + 5, P3, by decide, by decide, fun v4 H4 a4 b4 P4 s4 => ?_⟩⟩⟩⟩
      refine ⟨by show 4 ≤ sizeLine; decide, fun l hl => ?_⟩
      refine ⟨k, _, P4.same (same_new hl), SqL.of upd_same, by show 0 < 4; decide, by show 4 ≤ _; decide, fun v H5 hv P5 s5 => ?_⟩
      have hz : ∃ z : Int, v = .int z := by
        simp only [List.mem_cons, List.not_mem_nil, or_false] at hv
        rcases hv with rfl | rfl | rfl | rfl <;> exact ⟨_, rfl⟩
      obtain ⟨z, rfl⟩ := hz
      exact q _ H5 (by dsimp only; omega) (by dsimp only; omega) P5 ((((s1.trans s2).trans s3).trans s4).trans ((But.of (same_new hl)).trans s5))
    · exact h.elim
end
end Rk

set_option Elab.async false
set_option linter.all false
set_option maxRecDepth 100000
set_option maxHeartbeats 4000000
set_option pp.maxSteps 200
namespace Rk
open PySem PySem.Spec PyProof.Rows L2 CL Fm
/-- a sign of a text -/
def spPickS : Sp := fun vs H Q _ => match vs with
  | [.ref p, .str z] => ∃ k, PenB H p (k + 5) ∧ 0 < z.length ∧ z.length ≤ 1000 ∧ ∀ (c : Nat) H', c ∈ z.cps.toList → PenB H' p k → But p H H' → Q (.str ⟨#[c]⟩) H'
  | _ => False
theorem at_text {z : Str} {v : Int} (h0 : 0 ≤ v) (h1 : v < (z.length : Int)) : ∃ c, c ∈ z.cps.toList ∧ atI z.cps.toList v = some c := by
  have hl : z.cps.toList.length = z.length := by simp; rfl
  have hj : v.toNat < z.cps.toList.length := by omega
  refine ⟨z.cps.toList[v.toNat], List.getElem_mem hj, ?_⟩
  unfold atI ixN
  rw [if_pos h0, if_pos (by omega), Option.bind_some, List.getElem?_eq_getElem hj]
theorem _root_.CL.But.lst {p D : Addr} {k : Nat} {H H' : Hp} {o : HO} (P : PenB H p k) (b : But p H H') (n : H D = none) : But p H (upd H' D o) := by
  have np : p ≠ D := by
    obtain ⟨c, ns, b, r, P, _⟩ := P
    exact ne_of_none P.dict n
  exact ⟨fun x o hx h => by rw [upd_ne (ne_of_none h n)]; exact b.keep x o hx h, fun c x r h => by rw [upd_ne np]; exact b.2 c x r h⟩
theorem _root_.CL.PenB.lst {p D : Addr} {k : Nat} {H' : Hp} {xs : List V} {o : HO} (P : PenB H' p k) (e : H' D = some (.lst xs)) (n : ∀ c, Cel H' p c → c ≠ D) : PenB (upd H' D o) p k := by
  obtain ⟨c, ns, b, r, P, hb⟩ := P
  have np : p ≠ D := ne_of P.dict e fun z => nomatch z
  have nc : c ≠ D := n c ⟨b, r, P.dict⟩
  exact ⟨c, ns, b, r, ⟨by rw [upd_ne np]; exact P.dict, by rw [upd_ne nc]; exact P.cells, P.len, P.b0, P.r0⟩, hb⟩
/-- a list that was made behind the pen is none of its parts -/
theorem cel_ne {p D : Addr} {k : Nat} {H H' : Hp} (P : PenB H p k) (b : But p H H') (n : H D = none) : ∀ c, Cel H' p c → c ≠ D := fun c hc => by
  obtain ⟨c0, ns, b0, r, P, _⟩ := P
  have h0 : Cel H p c0 := ⟨b0, r, P.dict⟩
  obtain ⟨x, y, e1⟩ := h0.but b
  obtain ⟨x2, y2, e2⟩ := hc
  rw [e1] at e2
  have := pen_inj (Option.some.inj e2)
  rw [← this]
  exact ne_of_none P.cells n
theorem _root_.CL.But.none {p D : Addr} {k : Nat} {H H' : Hp} (P : PenB H p k) (b : But p H H') (n : H' D = none) : H D = none := by
  cases h : H D with
  | none => rfl
  | some o =>
    by_cases hp : D = p
    · obtain ⟨c, ns, bb, r, P, _⟩ := P
      obtain ⟨x, y, e⟩ := b.own c bb r P.dict
      rw [hp, e] at n
      cases n
    · rw [b.keep D o hp h] at n
      cases n
theorem joinL_mem {S : List Nat} {c : Nat} : ∀ {ps : List (List Nat)}, c ∈ TL.joinL S ps → c ∈ S ∨ ∃ p ∈ ps, c ∈ p
  | [], h => nomatch h
  | [p], h => .inr ⟨p, by simp, h⟩
  | p :: q :: r, h => by
    have h : c ∈ p ++ (S ++ TL.joinL S (q :: r)) := h
    rcases List.mem_append.mp h with z | z
    · exact .inr ⟨p, by simp, z⟩
    · rcases List.mem_append.mp z with z | z
      · exact .inl z
      · rcases joinL_mem z with z | ⟨x, hx, z⟩
        · exact .inl z
        · exact .inr ⟨x, List.mem_cons_of_mem _ hx, z⟩
theorem joinL_len {S : List Nat} : ∀ {ps : List (List Nat)}, (TL.joinL S ps).length ≤ (ps.map List.length).sum + ps.length * S.length
  | [] => Nat.zero_le _
  | [p] => by show p.length ≤ _; simp
  | p :: q :: r => by
    have := joinL_len (S := S) (ps := q :: r)
    show (p ++ (S ++ TL.joinL S (q :: r))).length ≤ _
    rw [List.length_append, List.length_append, List.map_cons, List.sum_cons, List.length_cons, Nat.succ_mul]
    omega
theorem inV_three {w : Str} : inV (.str w) [.str "min", .str "max", .str "self"] = decide (w = "min" ∨ w = "max" ∨ w = "self") := by
  rw [Bool.eq_iff_iff]
  simp only [inV, List.any_cons, List.any_nil, Bool.or_false, eqV, Bool.or_eq_true, beq_iff_eq, decide_eq_true_eq]
  constructor
  · rintro (h | h | h)
    · exact .inl h.symm
    · exact .inr (.inl h.symm)
    · exact .inr (.inr h.symm)
  · rintro (h | h | h)
    · exact .inl h.symm
    · exact .inr (.inl h.symm)
    · exact .inr (.inr h.symm)
/-- names -/
def spNames : Sp := fun vs H Q _ => match vs with
  | [.ref p, .int m] => ∃ k, PenB H p (k + 45) ∧ 0 ≤ m ∧ m ≤ 100 ∧ ∀ l (ws : List Str) H', H' l = some (.lst (ws.map V.str)) → H l = none → (∀ w ∈ ws, Wd w) → ws.length ≤ 26 → PenB H' p k → But p H H' → Q (.ref l) H'
  | _ => False
/-- some spaces -/
def spGap : Sp := fun vs H Q _ => match vs with
  | [.ref p, .int m] => ∃ k, PenB H p (k + 10) ∧ 1 ≤ m ∧ m ≤ 3 ∧ ∀ g H', g ≤ 2 → PenB H' p k → But p H H' → Q (.str (gapS g)) H'
  | _ => False
structure BltN (mg : Str → Option Value) : Prop extends Blt mg where
  range : mg "range" = none
abbrev sNames : Stmt := topS 28
abbrev nNames : List Str := ["_law_pen_here", "_law_many", "_law_letters", "_law_stem", "_law_k", "_law_front", "_law_step", "_law_found", "_law_own", "_law_name"]
abbrev pNames : List Str := ["_law_pen_here", "_law_many"]
theorem scNames : FnScope nNames pNames (defScope sNames) := ⟨rfl, rfl, rfl, by decide +kernel, rfl, by decide +kernel, by decide +kernel⟩
abbrev sGap : Stmt := topS 30
abbrev nGap : List Str := ["_law_pen_here", "_law_many"]
abbrev pGap : List Str := ["_law_pen_here", "_law_many"]
theorem scGap : FnScope nGap pGap (defScope sGap) := ⟨rfl, rfl, rfl, by decide +kernel, rfl, by decide +kernel, by decide +kernel⟩
section
variable {P : Program} {w : World} {K : PySem.W.Frag} {mg : Str → Option Value} {base : Heap}
theorem ok_pickS (B : Blt mg) (D : ∀ base, DefOk P w K mg base CX0 5 "_law_draw" pDraw spDr) (F : FunAt K mg "_law_pick" sPick pPick) : DefOk P w K mg base CX0 6 "_law_pick" pPick spPickS := by
  refine F.ok scPick (fun vs H Q E h => ?_) (fun f cdv A outer s H vs Q E hr h => ?_)
  · unfold spPickS at h
    split at h
    · rfl
    · exact h.elim
  · have hu := hu_of hr
    refine ⟨_, (pss_one (ps_ret (pe_ix ix_str (cv 1) (pe_def (D _) hr (by decide) (pa_cons (cv 0) (pa_cons (pe_callB call_len_str (by rfl) B.len (by decide +kernel) (pa_cons (cv 1) pa_nil)) pa_nil))) (fun _ _ => rfl)))), ?_⟩
    unfold spPickS at h
    split at h
    · rename_i p z
      obtain ⟨k, P, l0, l1, q⟩ := h
      have sz : z.length ≤ sizeLine := Nat.le_trans l1 (by decide)
      refine ⟨z, rfl, sz, k, P, by omega, by omega, fun v H' v0 v1 P' s' => ?_⟩
      obtain ⟨c, hc, e⟩ := at_text v0 v1
      exact ⟨z, v, c, rfl, rfl, sz, e, q c H' hc P' s'⟩
    · exact h.elim
theorem ok_gap (B : Blt mg) (D : ∀ base, DefOk P w K mg base CX0 5 "_law_draw" pDraw spDr) (DP : ∀ base, DefOk P w K mg base CX0 6 "_law_pick" pPick (spPick K)) (F : FunAt K mg "_law_gap" sGap pGap) : DefOk P w K mg base CX0 7 "_law_gap" pGap spGap := by
  refine F.ok scGap (fun vs H Q E h => ?_) (fun f cdv A outer s H vs Q E hr h => ?_)
  · unfold spGap at h
    split at h
    · rfl
    · exact h.elim
  · have hu := hu_of hr
    refine ⟨_, (pss_one (ps_ret (pe_op op_repS pe_str (pe_def (DP _) hr (by decide) (pa_cons (cv 0) (pa_cons (pe_lst (pa_cons pe_int (pa_cons pe_int (pa_cons (pe_def (D _) hr (by decide) (pa_cons (cv 0) (pa_cons (cv 1) pa_nil))) pa_nil)))) pa_nil)))))), ?_⟩
    unfold spGap at h
    split at h
    · rename_i p m
      obtain ⟨k, P, m0, m1, q⟩ := h
      refine ⟨k + 5, P, by omega, by omega, fun v H1 v0 v1 P1 s1 => ⟨by show 3 ≤ sizeLine; decide, fun l nl => ?_⟩⟩
      refine ⟨k, _, P1.same (same_new nl), SqL.of upd_same, by show 0 < 3; decide, by show 3 ≤ _; decide, fun x H2 hx P2 s2 => ?_⟩
      have hz : ∃ g : Nat, x = .int (g : Int) ∧ g ≤ 2 := by
        simp only [List.mem_cons, List.not_mem_nil, or_false] at hx
        rcases hx with rfl | rfl | rfl
        · exact ⟨0, rfl, by omega⟩
        · exact ⟨0, rfl, by omega⟩
        · exact ⟨v.toNat, by rw [Int.toNat_of_nonneg v0], by omega⟩
      obtain ⟨g, rfl, hg⟩ := hz
      refine ⟨_, _, rfl, rfl, by omega, by omega, by decide +kernel, ?_⟩
      rw [Int.toNat_natCast]
      exact q g H2 hg P2 ((s1.trans (But.of (same_new nl))).trans s2)
    · exact h.elim
theorem ok_names (B : BltN mg) (D : ∀ base, DefOk P w K mg base CX0 5 "_law_draw" pDraw spDr) (DP : ∀ base, DefOk P w K mg base CX0 6 "_law_pick" pPick (spPick K)) (DPS : ∀ base, DefOk P w K mg base CX0 6 "_law_pick" pPick spPickS) (F : FunAt K mg "_law_names" sNames pNames) : DefOk P w K mg base CX0 7 "_law_names" pNames spNames := by
  refine F.ok scNames (fun vs H Q E h => ?_) (fun f cdv A outer s H vs Q E hr h => ?_)
  · unfold spNames at h
    split at h
    · rfl
    · exact h.elim
  · have hu := hu_of hr
    refine ⟨_, (pss_cons (ps_set (i := 2) scNames.nd rfl (.inr rfl) pe_str)
  (pss_cons (ps_set (i := 3) scNames.nd rfl (.inl rfl) (pe_join pe_str (pe_lc (own := [("_law_k", 4)]) (g := gName 4) (by rfl) scNames.nd (pi_range1 (by rfl) B.range (pa_cons (pe_def (D _) hr (by decide) (pa_cons (cv 0) (pa_cons pe_int pa_nil))) pa_nil)) (blkOk_by (N := nNames) (sc := (defScope sNames)) (own := [("_law_k", 4)]) (by decide +kernel)) (fun _ _ _ _ _ => pg_name (i := 4) scNames.nd rfl (Or.inl rfl)) (fun _ _ _ _ _ => pts_nil) (fun _ _ _ _ _ => (pe_def (DPS _) hr (by decide) (pa_cons (cv 0) (pa_cons (cv 2) pa_nil)))))))
  (pss_cons (ps_par (i := 5) (j := 6) rfl scNames.nd rfl rfl (by decide) rfl rfl (pa_cons (pe_def (D _) hr (by decide) (pa_cons (cv 0) (pa_cons pe_int pa_nil))) (pa_cons (pe_def (DP _) hr (by decide) (pa_cons (cv 0) (pa_cons (pe_lst (pa_cons pe_int (pa_cons pe_int (pa_cons pe_int (pa_cons pe_int (pa_cons pe_int (pa_cons pe_int (pa_cons pe_int (pa_cons pe_int (pa_cons pe_int (pa_cons pe_int (pa_cons pe_int (pa_cons pe_int pa_nil))))))))))))) pa_nil))) pa_nil)) (by rfl))
  (pss_cons (ps_set (i := 7) scNames.nd rfl (.inl rfl) (pe_lst pa_nil))
  (pss_cons (ps_for PassesOwn.never rfl (pi_range1 (by rfl) B.range (pa_cons pe_int pa_nil)) (pg_name (i := 4) scNames.nd rfl (.inl rfl))
  (pss_cons (ps_set (i := 8) scNames.nd rfl (.inl rfl) (pe_ix ix_str (cv 2) (pe_op c_mod (pe_callTy c_int (by rfl) B.int (by decide +kernel) (pa_cons (pe_op c_addI (cv 5) (pe_op c_mul (cv 6) (cv 4))) pa_nil)) pe_int) (fun _ _ => rfl)))
  (pss_cons (ps_set (i := 9) scNames.nd rfl (.inl rfl) (pe_ix c_ixL (pe_lst (pa_cons (pe_op op_add_str (cv 3) (cv 8)) (pa_cons (pe_op op_add_str (cv 8) (cv 3)) pa_nil))) (pe_op c_mod (pe_callB call_len_str (by rfl) B.len (by decide +kernel) (pa_cons (cv 3) pa_nil)) pe_int) (fun _ _ => rfl)))
  (pss_one (ps_if (ct_cmp op_notIn_seq (cv 9) (pe_tup (pa_cons pe_str (pa_cons pe_str (pa_cons pe_str pa_nil)))) (by rfl))
  (pss_one (ps_expr (pe_bm PySem.F.plainAttrs_list PySem.F.slot_list_append PySem.F.type_list_append mt_append (cv 7) (pa_cons (cv 9) pa_nil))))
  pss_nil)))))
  (pss_one (ps_ret (pe_slice sl_list (cv 7) po_none (po_some (cv 1)))))))))), ?_⟩
    unfold spNames at h
    split at h
    · rename_i p m
      obtain ⟨k, P, m0, m1, q⟩ := h
      refine ⟨⟨_, rfl⟩, k + 40, P, by decide, by decide, fun n H1 n0 n1 P1 b1 => ⟨n, rfl, by omega, by omega, fun D1 nD => ?_⟩⟩
      refine lc_range (n := n.toNat) (fun i H' => ∃ ys : List Str, H' D1 = some (.lst (ys.map V.str)) ∧ ys.length = i ∧ (∀ y ∈ ys, y.length = 1 ∧ ∀ c ∈ y.cps.toList, isL c = true) ∧ PenB H' p (k + 10 + 5 * (6 - i)) ∧ But p H1 H') ⟨[], upd_same, rfl, (fun _ h => nomatch h), (P1.same (same_new nD)).mono (by omega), .of (same_new nD)⟩ ?turn ?rest
      case turn =>
        rintro i H2 hi ⟨ys, hD, hl, hy, P2, b2⟩
        refine ⟨rfl, ?_⟩
        refine ⟨k + 10 + 5 * (6 - (i + 1)), P2.mono (by omega), by decide +kernel, by decide +kernel, fun c H3 hc P3 b3 => ?_⟩
        have hD3 := b3.keep _ _ (P2.ne hD fun _ z => nomatch z) hD
        have hc : isL c = true := by rw [← isL_mem]; exact decide_eq_true hc
        refine ⟨_, hD3, by rw [List.length_map]; exact Nat.lt_of_le_of_lt (show ys.length ≤ 6 by omega) (by decide), ys ++ [⟨#[c]⟩], by rw [upd_same, List.map_append] <;> rfl, by simp [hl], fun y hy' => ?_, P3.lst hD3 (cel_ne P1 (b2.trans b3) nD), (b2.trans b3).lst P1 nD⟩
        rcases List.mem_append.mp hy' with z | z
        · exact hy y z
        · rw [List.mem_singleton.mp z]
          exact ⟨rfl, fun d hd => by rw [List.mem_singleton.mp (show d ∈ [c] from hd)]; exact hc⟩
      case rest =>
        rintro H2 ⟨ys, hD, hl, hy, P2, b2⟩
        have sum : (ys.map (·.length)).sum ≤ 6 := by
          have : (ys.map (·.length)).sum = ys.length := by
            clear hD hl
            induction ys with
            | nil => rfl
            | cons a r ih => rw [List.map_cons, List.sum_cons, List.length_cons, (hy a (by simp)).1, ih (fun y h => hy y (List.mem_cons_of_mem _ h))]; omega
          omega
        have e0 : ("" : Str).length = 0 := by decide +kernel
        refine ⟨_, D1, ys, rfl, rfl, .inl (SqL.of hD), by rw [e0]; omega, ?_⟩
        have hst : ∀ c ∈ (Txt.join "" ys).cps.toList, isL c = true := fun c hc => by
          rw [TL.join_eq] at hc
          have hc : c ∈ TL.tl (PySem.Str.join "" ys) := hc
          rw [TL.tl_join] at hc
          rcases joinL_mem hc with z | ⟨x, hx, z⟩
          · exact absurd z (by rw [show TL.tl ("" : Str) = [] by decide +kernel]; simp)
          · obtain ⟨y, hy2, rfl⟩ := List.mem_map.mp hx
            exact (hy y hy2).2 c z
        have hsl : (Txt.join "" ys).length ≤ 6 := by
          rw [TL.join_eq, TL.len_tl, TL.tl_join]
          refine Nat.le_trans joinL_len ?_
          rw [show TL.tl ("" : Str) = [] by decide +kernel, List.map_map]
          have : (List.map (List.length ∘ TL.tl) ys) = ys.map (·.length) := by
            apply List.map_congr_left
            intro y _
            exact (TL.len_tl y).symm
          rw [this]
          simp only [List.length_nil, Nat.mul_zero, Nat.add_zero]
          exact sum
        generalize Txt.join "" ys = stem at hst hsl
        refine ⟨k + 5, P2.mono (by omega), by decide, by decide, fun fr H3 f0 f1 P3 b3 => ⟨by show 12 ≤ sizeLine; decide, fun l2 nl2 => ⟨k, _, P3.same (same_new nl2), SqL.of upd_same, by show 0 < 12; decide, by show 12 ≤ 10 ^ 20; decide, fun x H4 hx P4 b4 => ?_⟩⟩⟩
        obtain ⟨st, rfl, s0, s1⟩ : ∃ st : Int, x = .int st ∧ 0 ≤ st ∧ st ≤ 25 := by
          simp only [List.mem_cons, List.not_mem_nil, or_false] at hx
          rcases hx with rfl | rfl | rfl | rfl | rfl | rfl | rfl | rfl | rfl | rfl | rfl | rfl <;> exact ⟨_, rfl, by decide, by decide⟩
        have bb := ((b1.trans b2).trans (b3.trans (But.of (same_new (o := .lst [V.int 1, .int 3, .int 5, .int 7, .int 9, .int 11, .int 15, .int 17, .int 19, .int 21, .int 23, .int 25]) nl2)))).trans b4
        refine ⟨_, _, rfl, ?_⟩
        refine ⟨by show 0 ≤ sizeLine; decide, fun l nl => ?_⟩
        have nlH := bb.none P nl
        have l26 : ("abcdefghijklmnopqrstuvwxyz" : Str).length = 26 := by decide +kernel
        refine ⟨26, rfl, by decide, by decide, for_range (n := 26) (fun i σ H' => ∃ e4 e8 e9, ∃ ws : List Str, σ = [some (.ref p), some (.int m), some (.str "abcdefghijklmnopqrstuvwxyz"), some (.str stem), e4, some (.int fr), some (.int st), some (.ref l), e8, e9] ∧ H' l = some (.lst (ws.map V.str)) ∧ ws.length ≤ i ∧ (∀ w ∈ ws, Wd w) ∧ PenB H' p k ∧ But p H H')
          ⟨_, _, _, [], rfl, upd_same, Nat.le_refl _, (fun _ h => nomatch h), P4.same (same_new nl), bb.lst P nlH⟩ ?turn2 ?rest2⟩
        case turn2 =>
          rintro i σ H5 hi ⟨e4, e8, e9, ws, rfl, hl, hn, hw, P5, b5⟩
          have sti : 0 ≤ st * (0 + (i : Int)) := Int.mul_nonneg s0 (by omega)
          obtain ⟨c, hc, ec⟩ := at_text (z := "abcdefghijklmnopqrstuvwxyz") (v := (fr + st * (0 + (i : Int))) % 26) (by omega) (by rw [l26]; omega)
          have hc : isL c = true := by rw [← isL_mem]; exact decide_eq_true hc
          refine ⟨few_of (by omega) (by omega) (by omega) (by omega), lt0, _, _, c, rfl, rfl, by decide +kernel, ec, ?_⟩
          have o1 : (⟨#[c]⟩ : Str).length = 1 := rfl
          have sz : stem.length ≤ sizeLine := Nat.le_trans hsl (by decide)
          have z7 : stem.length + (⟨#[c]⟩ : Str).length ≤ sizeLine := Nat.le_trans (show _ ≤ 7 by omega) (by decide)
          refine ⟨_, _, rfl, rfl, z7, _, _, rfl, rfl, by rw [Nat.add_comm]; exact z7, by show 2 ≤ sizeLine; decide, fun l3 nl3 => ?_⟩
          obtain ⟨v, hv, ev⟩ := atI_mem (xs := [V.str (stem ++ ⟨#[c]⟩), .str (⟨#[c]⟩ ++ stem)]) (x := (stem.length : Int) % 2) (by omega) (by show _ < ((2 : Nat) : Int); omega)
          refine ⟨stem, rfl, sz, lt0, _, v, SqL.of upd_same, ev, ?_⟩
          obtain ⟨nm, rfl, n1, n2, n3⟩ : ∃ nm : Str, v = .str nm ∧ (∀ d ∈ nm.cps.toList, isL d = true) ∧ 1 ≤ nm.length ∧ nm.length ≤ 8 := by
            have both : ∀ d, d ∈ TL.tl stem ∨ d ∈ TL.tl (⟨#[c]⟩ : Str) → isL d = true := fun d hd => by
              rcases hd with z | z
              · exact hst d z
              · rw [List.mem_singleton.mp (show d ∈ [c] from z)]; exact hc
            simp only [List.mem_cons, List.not_mem_nil, or_false] at hv
            rcases hv with rfl | rfl
            · refine ⟨_, rfl, fun d hd => ?_, by rw [app_len]; omega, by rw [app_len]; omega⟩
              have hd : d ∈ TL.tl (stem ++ ⟨#[c]⟩) := hd
              rw [TL.tl_append] at hd
              exact both d (List.mem_append.mp hd)
            · refine ⟨_, rfl, fun d hd => ?_, by rw [app_len]; omega, by rw [app_len]; omega⟩
              have hd : d ∈ TL.tl (⟨#[c]⟩ ++ stem) := hd
              rw [TL.tl_append] at hd
              exact both d (List.mem_append.mp hd).symm
          have b6 := b5.trans (But.of (same_new (o := .lst [V.str (stem ++ ⟨#[c]⟩), .str (⟨#[c]⟩ ++ stem)]) nl3))
          refine ⟨by show 3 ≤ sizeLine; decide, fun b nb => ⟨b, _, rfl, .inr (.inl (.inl upd_same)), rfl, rfl, ?_⟩⟩
          have b7 := b6.trans (But.of (same_new (o := .tup [V.str "min", .str "max", .str "self"]) nb))
          have P7 := (P5.same (same_new (o := .lst [V.str (stem ++ ⟨#[c]⟩), .str (⟨#[c]⟩ ++ stem)]) nl3)).same (same_new (o := .tup [V.str "min", .str "max", .str "self"]) nb)
          have hl7 := same_new (o := .tup [V.str "min", .str "max", .str "self"]) nb _ _ (same_new (o := .lst [V.str (stem ++ ⟨#[c]⟩), .str (⟨#[c]⟩ ++ stem)]) nl3 _ _ hl)
          show if (!inV (.str nm) [.str "min", .str "max", .str "self"]) = true then _ else _
          rw [inV_three]
          by_cases hp : nm = "min" ∨ nm = "max" ∨ nm = "self"
          · rw [decide_eq_true hp]
            show if false = true then _ else _
            rw [if_neg Bool.false_ne_true]
            exact ⟨_, _, _, ws, rfl, hl7, by omega, hw, P7, b7⟩
          · rw [decide_eq_false hp]
            show if true = true then _ else _
            rw [if_pos rfl]
            refine ⟨.inl ⟨rfl, _, SqL.of hl7⟩, l, _, _, rfl, rfl, hl7, by rw [List.length_map]; exact Nat.lt_of_le_of_lt (show ws.length ≤ 26 by omega) (by decide), ?_⟩
            refine ⟨_, _, _, ws ++ [nm], rfl, by rw [upd_same, List.map_append] <;> rfl, by simp; omega, fun w hw2 => ?_, P7.lst hl7 (cel_ne P b7 nlH), b7.lst P nlH⟩
            rcases List.mem_append.mp hw2 with z | z
            · exact hw w z
            · rw [List.mem_singleton.mp z]
              exact ⟨n1, n2, n3, fun z => hp (.inl z), fun z => hp (.inr (.inl z)), fun z => hp (.inr (.inr z))⟩
        case rest2 =>
          rintro σ H6 ⟨e4, e8, e9, ws, rfl, hl, hn, hw, P6, b6⟩
          refine ⟨m, rfl, l, ws.map V.str, rfl, SqL.of hl, fun l' nl' => ?_⟩
          refine q l' ((ws.drop (HT.sIx (ws.map V.str).length 0 none)).take (HT.sIx (ws.map V.str).length (ws.map V.str).length (some m) - HT.sIx (ws.map V.str).length 0 none)) _ ?_ (b6.none P nl') (fun w h => hw w (List.mem_of_mem_drop (List.mem_of_mem_take h))) ?_ (P6.same (same_new nl')) (b6.trans (.of (same_new nl')))
          · rw [upd_same, List.map_take, List.map_drop] <;> rfl
          · rw [List.length_take, List.length_drop]; omega
    · exact h.elim
end
end Rk

set_option Elab.async false
set_option linter.all false
set_option maxRecDepth 100000
set_option maxHeartbeats 4000000
set_option pp.maxSteps 200
namespace CL
open PySem PySem.Spec PyProof.Rows L2
/-- a test, what holds behind it said once -/
def tTest (t : TT) : TT := fun σ H Q => ∃ W : Bool → Hp → Prop, t σ H W ∧ ∀ b H1, W b H1 → Q b H1
theorem pt_cut {X : Cx} {e : Expr} {t : TT} (h : PT X e t) : PT X e (tTest t) := ⟨fun pins s σ H Q I ⟨W, q, w⟩ =>
  thn (h.run pins s σ H W I q) fun b s1 ⟨H1, I1, q1⟩ => ⟨H1, I1, w b H1 q1⟩⟩
end CL
namespace Rk
open PySem PySem.Spec PyProof.Rows L2 CL Fm
def tC : Nat → Nat
  | 0 => 0
  | n + 1 => 50 + (tC n + tC n)
/-- a drawn tree -/
def spTree (K : PySem.W.Frag) (n : Nat) : Sp := fun vs H Q _ => match vs with
  | [.ref p, .int d, .ref l] => ∃ k, ∃ ws : List Str, PenB H p (k + tC n) ∧ 0 ≤ d ∧ d < n ∧ SqL K H l (ws.map V.str) ∧ (∀ w ∈ ws, Wd w) ∧ ws.length ≤ 26 ∧ ∀ v t H', LTr H' v t → TOk ws t → (dep t : Int) ≤ d → PenB H' p k → But p H H' → Q v H'
  | _ => False
def stD (L : List Str) : List PyData := L.map fun b => .str b
theorem st_dp {K : PySem.W.Frag} {H : Hp} : ∀ L : List Str, DpAll K H (L.map V.str) (stD L)
  | [] => .nil
  | _ :: r => .cons (.str _) (st_dp r)
theorem st_sh {L : List Str} (h : ∀ w ∈ L, So w) : SeqAt.shaped (.list (stD L)) = true := by
  have a : PyData.canLayAll0 (stD L) = true ∧ PyData.depthAll (stD L) = 0 := by
    induction L with
    | nil => exact ⟨rfl, rfl⟩
    | cons w r ih =>
      obtain ⟨i1, i2⟩ := ih fun x hx => h x (List.mem_cons_of_mem _ hx)
      have hw := (h w (by simp)).ok
      unfold stD at i1 i2 ⊢
      refine ⟨?_, ?_⟩
      · rw [List.map_cons]
        simp only [PyData.canLayAll0, PyData.canLay0, hw, i1, Bool.and_self]
      · rw [List.map_cons]
        simp only [PyData.depthAll, PyData.depth, i2, Nat.max_self]
  simp only [SeqAt.shaped, PyData.canLay0, PyData.depth, a.1, a.2, Bool.true_and]
  decide
theorem st_nil {L : List Str} : PyData.eqv (.list (stD L)) (.list []) = decide (L = []) := by
  cases L with
  | nil => rfl
  | cons b r => rfl
abbrev sTree : Stmt := topS 29
abbrev nTree : List Str := ["_law_pen_here", "_law_deep", "_law_words", "_law_way", "_law_sign"]
abbrev pTree : List Str := ["_law_pen_here", "_law_deep", "_law_words"]
theorem scTree : FnScope nTree pTree (defScope sTree) := ⟨rfl, rfl, rfl, by decide +kernel, rfl, by decide +kernel, by decide +kernel⟩
section
variable {P : Program} {w : World} {K : PySem.W.Frag} {mg : Str → Option Value} {base : Heap}
theorem ok_tree (B : BltN mg) (D : ∀ base, DefOk P w K mg base CX0 5 "_law_draw" pDraw spDr) (DP : ∀ base, DefOk P w K mg base CX0 6 "_law_pick" pPick (spPick K)) (DG : ∀ base, DefOk P w K mg base CX0 7 "_law_great" pGreat spGreat) (F : FunAt K mg "_law_tree" sTree pTree) :
    ∀ n, DefOk P w K mg base CX0 (7 + n) "_law_tree" pTree (spTree K n) := by
  refine F.rec_ scTree (fun vs H Q E h => ?_) (fun n vs H Q E h => ?_) (fun n ih f cdv A outer s H vs Q E hr h => ?_)
  · unfold spTree at h
    split at h
    · obtain ⟨k, ws, _, h0, h1, _⟩ := h
      omega
    · exact h.elim
  · unfold spTree at h
    split at h
    · rfl
    · exact h.elim
  · have hu := hu_of hr
    refine ⟨_, (pss_cut (ps_set (i := 3) scTree.nd rfl (.inl rfl) (pe_ifExp (ct_cmp c_gt (cv 1) pe_int (nomark _)) (pe_def (D _) hr (by omega) (pa_cons (cv 0) (pa_cons pe_int pa_nil))) (pe_def (D _) hr (by omega) (pa_cons (cv 0) (pa_cons pe_int pa_nil)))))
  (pss_cons (ps_if (pt_cut (PW.pt (pw_or (ct_cmp c_lt (cv 3) pe_int (nomark _)) (pw_or1 (PW.pt (pw_and (ct_cmp c_lt (cv 3) pe_int (nomark _)) (pw_and1 (ct_cmp (op_eqD hr.units) (cv 2) (pe_lst pa_nil) (nomark _)))))))))
  (pss_one (ps_ret (pe_tup (pa_cons pe_str (pa_cons (pe_def (DP _) hr (by omega) (pa_cons (cv 0) (pa_cons (pe_lst (pa_cons (pe_def (D _) hr (by omega) (pa_cons (cv 0) (pa_cons pe_int pa_nil))) (pa_cons (pe_def (D _) hr (by omega) (pa_cons (cv 0) (pa_cons pe_int pa_nil))) (pa_cons (pe_callB c_abs (by rfl) B.abs (by decide +kernel) (pa_cons (pe_def (DG _) hr (by omega) (pa_cons (cv 0) (pa_cons (pe_op c_addI (pe_pow (z := 1000000000000000000000000000000) ⟨⟨by decide, by decide, by decide⟩, by decide +kernel⟩) pe_int) pa_nil))) pa_nil)) pa_nil)))) pa_nil))) pa_nil)))))
  pss_nil)
  (pss_cons (ps_if (ct_cmp c_lt (cv 3) pe_int (nomark _))
  (pss_one (ps_ret (pe_tup (pa_cons pe_str (pa_cons (pe_def (DP _) hr (by omega) (pa_cons (cv 0) (pa_cons (cv 2) pa_nil))) pa_nil)))))
  pss_nil)
  (pss_cons (ps_if (ct_cmp op_eq (cv 3) pe_int (nomark _))
  (pss_one (ps_ret (pe_tup (pa_cons pe_str (pa_cons (pe_def ih hr (by omega) (pa_cons (cv 0) (pa_cons (pe_op c_sub (cv 1) pe_int) (pa_cons (cv 2) pa_nil)))) pa_nil)))))
  pss_nil)
  (pss_cons (ps_set (i := 4) scTree.nd rfl (.inl rfl) (pe_ix c_ixL (pe_lst (pa_cons pe_str (pa_cons pe_str (pa_cons pe_str (pa_cons pe_str (pa_cons pe_str (pa_cons pe_str (pa_cons pe_str (pa_cons pe_str (pa_cons pe_str pa_nil)))))))))) (pe_op c_sub (cv 3) pe_int) (fun _ _ => rfl)))
  (pss_one (ps_ret (pe_tup (pa_cons (cv 4) (pa_cons (pe_def ih hr (by omega) (pa_cons (cv 0) (pa_cons (pe_op c_sub (cv 1) pe_int) (pa_cons (cv 2) pa_nil)))) (pa_cons (pe_def ih hr (by omega) (pa_cons (cv 0) (pa_cons (pe_op c_sub (cv 1) pe_int) (pa_cons (cv 2) pa_nil)))) pa_nil))))))))))), ?_⟩
    unfold spTree at h
    split at h
    · rename_i p d l
      obtain ⟨k, ws, P, d0, d1, hS, hw, hn, q⟩ := h
      have P : PenB H p (k + (tC n + tC n) + 45 + 5) := P.mono (by show _ ≤ k + (50 + (tC n + tC n)); omega)
      obtain ⟨kk, hkk⟩ : ∃ kk, kk = k + (tC n + tC n) := ⟨_, rfl⟩
      rw [← hkk] at P
      refine ⟨fun σ' H' => ∃ wy : Int, σ' = [some (.ref p), some (.int d), some (.ref l), some (.int wy), none] ∧ 0 ≤ wy ∧ wy < 14 ∧ (d = 0 → wy < 4) ∧ PenB H' p (kk + 45) ∧ But p H H', iteD (fun h1 => ?_) (fun h1 => ?_), ?_⟩
      · exact ⟨kk + 45, P, by decide, by decide, fun v H1 v0 v1 P1 b1 => ⟨v, rfl, v0, v1, fun z => absurd z (by omega), P1, b1⟩⟩
      · exact ⟨kk + 45, P, by decide, by decide, fun v H1 v0 v1 P1 b1 => ⟨v, rfl, v0, by omega, fun z => v1, P1, b1⟩⟩
      · rintro σ' H1 ⟨wy, rfl, w0, w1, wd, P1, b1⟩
        have S1 := b1.sq P hS
        refine ⟨fun b H' => (b = false → 2 ≤ wy ∧ (wy < 4 → ws ≠ [])) ∧ PenB H' p (kk + 45) ∧ But p H H', ?_, ?_⟩
        · refine iteD (fun h1 => ⟨fun z => absurd z (by decide), P1, b1⟩) (fun h1 => iteD (fun h2 => ?_) (fun h2 => ⟨fun _ => ⟨by omega, fun z => absurd z h2⟩, P1, b1⟩))
          refine ⟨by show 0 ≤ sizeLine; decide, fun a na => ⟨.list (stD ws), .list [], .lst ((But.of (same_new na)).sq P1 S1) (st_dp _), .lst (SqL.of upd_same) .nil, st_sh fun w h => .wd (hw w h), by rfl, ?_⟩⟩
          rw [st_nil]
          exact ⟨fun z => ⟨by omega, fun _ => of_decide_eq_false z⟩, P1.same (same_new na), b1.trans (.of (same_new na))⟩
        · rintro b H2 ⟨hb, P2, b2⟩
          have S2 := b2.sq P hS
          refine iteB (fun hb1 => ?_) (fun hb1 => ?_)
          · refine ⟨kk + 40, P2, by decide, by decide, fun a H3 a0 a1 P3 b3 => ⟨kk + 35, P3, by decide, by decide, fun c H4 c0 c1 P4 b4 => ⟨kk + 10, P4, by decide, by decide, fun g H5 g0 g1 P5 b5 => ?_⟩⟩⟩
            refine ⟨by show 3 ≤ sizeLine; decide, fun l2 nl2 => ⟨kk + 5, _, P5.same (same_new nl2), SqL.of upd_same, by show 0 < 3; decide, by show 3 ≤ _; decide, fun x H6 hx P6 b6 => ?_⟩⟩
            obtain ⟨m, rfl, m0, m1⟩ : ∃ m : Int, x = .int m ∧ 0 ≤ m ∧ m ≤ 10 ^ 30 + 2 := by
              simp only [List.mem_cons, List.not_mem_nil, or_false] at hx
              rcases hx with rfl | rfl | rfl
              · exact ⟨_, rfl, by omega, by omega⟩
              · exact ⟨_, rfl, by omega, by omega⟩
              · exact ⟨_, rfl, by omega, by omega⟩
            refine ⟨by show 2 ≤ sizeLine; decide, fun t nt => ?_⟩
            exact q _ (.num m) _ (.num upd_same) ⟨m0, m1⟩ (by show (0 : Int) ≤ d; omega) ((P6.same (same_new nt)).mono (by omega)) (((((b2.trans b3).trans b4).trans b5).trans ((But.of (same_new nl2)).trans b6)).trans (.of (same_new nt)))
          · obtain ⟨w2, wn⟩ := hb hb1
            refine iteD (fun h4 => ?_) (fun h4 => ?_)
            · have ne := wn h4
              refine ⟨kk + 40, _, P2, S2, by rw [List.length_map]; exact List.length_pos_iff.mpr ne, by rw [List.length_map]; exact Nat.le_trans hn (by decide), fun x H3 hx P3 b3 => ?_⟩
              obtain ⟨nm, hnm, rfl⟩ := List.mem_map.mp hx
              refine ⟨by show 2 ≤ sizeLine; decide, fun t nt => ?_⟩
              exact q _ (.nam nm) _ (.nam upd_same) hnm (by show (0 : Int) ≤ d; omega) ((P3.same (same_new nt)).mono (by omega)) ((b2.trans b3).trans (.of (same_new nt)))
            · have dn : d ≠ 0 := fun z => h4 (wd z)
              refine ⟨rfl, iteD (fun h5 => ?_) (fun h5 => ?_)⟩
              · refine ⟨k, ws, P2.mono (by omega), by omega, by omega, S2, hw, hn, fun v t H3 lt tk td P3 b3 => ⟨by show 2 ≤ sizeLine; decide, fun a na => ?_⟩⟩
                exact q _ (.neg t) _ (.neg upd_same (lt.same (same_new na))) tk (by show (((dep t + 1 : Nat)) : Int) ≤ d; omega) (P3.same (same_new na)) ((b2.trans b3).trans (.of (same_new na)))
              · have h5 : wy ≠ 4 := fun z => h5 (by rw [z])
                refine ⟨by show 9 ≤ sizeLine; decide, fun l2 nl2 => ?_⟩
                obtain ⟨v, hv, ev⟩ := atI_mem (xs := [V.str "+", .str "+", .str "-", .str "-", .str "*", .str "*", .str "//", .str "min", .str "max"]) (x := wy - 5) (by omega) (by show _ < ((9 : Nat) : Int); omega)
                refine ⟨_, v, SqL.of upd_same, ev, ?_⟩
                obtain ⟨o, rfl, ho⟩ : ∃ o, v = .str o ∧ o ∈ ops := by
                  simp only [List.mem_cons, List.not_mem_nil, or_false] at hv
                  rcases hv with rfl | rfl | rfl | rfl | rfl | rfl | rfl | rfl | rfl <;> exact ⟨_, rfl, by simp [ops]⟩
                have b3 := b2.trans (But.of (same_new (o := .lst [V.str "+", .str "+", .str "-", .str "-", .str "*", .str "*", .str "//", .str "min", .str "max"]) nl2))
                have P3 := P2.same (same_new (o := .lst [V.str "+", .str "+", .str "-", .str "-", .str "*", .str "*", .str "//", .str "min", .str "max"]) nl2)
                refine ⟨k + tC n, ws, P3.mono (by omega), by omega, by omega, b3.sq P hS, hw, hn, fun v t H4 lt tk td P4 b4 => ?_⟩
                refine ⟨k, ws, P4, by omega, by omega, (b3.trans b4).sq P hS, hw, hn, fun v' t' H5 lt' tk' td' P5 b5 => ⟨by show 3 ≤ sizeLine; decide, fun a na => ?_⟩⟩
                exact q _ (.op o t t') _ (.op upd_same ((lt.but P4 b5).same (same_new na)) (lt'.same (same_new na))) ⟨ho, tk, tk'⟩ (by show (((max (dep t) (dep t') + 1 : Nat)) : Int) ≤ d; omega) (P5.same (same_new na)) (((b3.trans b4).trans b5).trans (.of (same_new na)))
    · exact h.elim
end
end Rk

set_option Elab.async false
set_option linter.all false
set_option maxRecDepth 100000
set_option maxHeartbeats 4000000
set_option pp.maxSteps 200
namespace Rk
open PySem PySem.Spec PyProof.Rows L2 CL Fm
def cStr : List V → Hp → VK → Prop := fun xs H Q => match xs with
  | [.int i] => i.natAbs.log2 < 1920 ∧ Q (.str (toString i : String)) H
  | [.str a] => Q (.str a) H
  | _ => False
theorem c_str {X : Cx} : CallR X (.type "str") cStr := fun pins s σ H xs us Q I r q => by
  unfold cStr at q
  split at q
  · exact call_str_int pins s σ H _ us Q I r ⟨_, rfl, q.1, q.2⟩
  · exact SkE.call_str_str pins s σ H _ us Q I r ⟨_, rfl, q⟩
  · exact q.elim
theorem cInt_bl {k : Bool} {n : Int} {H : Hp} {Q : VK} (e : (if k = true then (1 : Int) else 0) = n) (q : Q (.int n) H) : cInt1 [.bl k] H Q := by
  show Q (.int (if k = true then 1 else 0)) H
  rw [e]
  exact q
def xC : Nat → Nat
  | 0 => 0
  | n + 1 => 80 + (xC n + xC n)
/-- a text of a tree -/
def spText (K : PySem.W.Frag) (n : Nat) : Sp := fun vs H Q _ => match vs with
  | [.ref p, v, .int lv, .int m] => ∃ k t, ∃ ws : List Str, PenB H p (k + xC n) ∧ LTr H v t ∧ dep t < n ∧ dep t ≤ 10 ∧ TOk ws t ∧ (∀ w ∈ ws, Wd w) ∧ 0 ≤ lv ∧ lv ≤ 2 ∧ 1 ≤ m ∧ m ≤ 3 ∧
      ∀ s (l : Nat) H', Tex t l s → lv ≤ (l : Int) → s.length ≤ xB (dep t) → PenB H' p k → But p H H' → Q (.str s) H'
  | _ => False
theorem ops_tests {o : Str} (h : o ∈ ops) : inV (.str o) [.str "number", .str "name"] = false ∧ (¬ V.str o = V.str "minus") ∧ inV (.str o) [.str "min", .str "max"] = decide (o = "min" ∨ o = "max") ∧ inV (.str o) [.str "*", .str "//"] = decide (o = "*" ∨ o = "//") ∧ o.length ≤ 3 := by
  simp only [ops, List.mem_cons, List.not_mem_nil, or_false] at h
  rcases h with rfl | rfl | rfl | rfl | rfl | rfl <;> decide +kernel
theorem ops_way {o : Str} (h : o ∈ ops) (n1 : ¬ (o = "min" ∨ o = "max")) (n2 : ¬ (o = "*" ∨ o = "//")) : o = "+" ∨ o = "-" := by
  simp only [ops, List.mem_cons, List.not_mem_nil, or_false] at h
  rcases h with h | h | h | h | h | h
  · exact .inl h
  · exact .inr h
  · exact absurd (.inl h) n2
  · exact absurd (.inr h) n2
  · exact absurd (.inl h) n1
  · exact absurd (.inr h) n1
/-- a part of a pair -/
def Pt (t : T) (y : Str) : Prop := ∃ g s g' l, (g ≤ 2 ∧ g' ≤ 2) ∧ y = gapS g ++ s ++ gapS g' ∧ Tex t l s ∧ y.length ≤ xB (dep t) + 4
def Pts (a b : T) (i : Nat) (ys : List Str) : Prop := (i = 0 ∧ ys = []) ∨ (∃ y, i = 1 ∧ ys = [y] ∧ Pt a y) ∨ (∃ y z, i = 2 ∧ ys = [y, z] ∧ Pt a y ∧ Pt b z)
structure BltT (mg : Str → Option Value) : Prop extends BltN mg where
  str : mg "str" = none
abbrev sTextOf : Stmt := topS 31
abbrev nTextOf : List Str := ["_law_pen_here", "_law_tree_here", "_law_level", "_law_many", "_law_text", "_law_own", "_law_parts", "_law_part", "_law_sign"]
abbrev pTextOf : List Str := ["_law_pen_here", "_law_tree_here", "_law_level", "_law_many"]
theorem scTextOf : FnScope nTextOf pTextOf (defScope sTextOf) := ⟨rfl, rfl, rfl, by decide +kernel, rfl, by decide +kernel, by decide +kernel⟩
section
variable {P : Program} {w : World} {K : PySem.W.Frag} {mg : Str → Option Value} {base : Heap}
theorem ok_text (B : BltT mg) (D : ∀ base, DefOk P w K mg base CX0 5 "_law_draw" pDraw spDr) (DGap : ∀ base, DefOk P w K mg base CX0 7 "_law_gap" pGap spGap) (F : FunAt K mg "_law_text_of" sTextOf pTextOf) :
    ∀ n, DefOk P w K mg base CX0 (7 + n) "_law_text_of" pTextOf (spText K n) := by
  refine F.rec_ scTextOf (fun vs H Q E h => ?_) (fun n vs H Q E h => ?_) (fun n ih f cdv A outer s H vs Q E hr h => ?_)
  · unfold spText at h
    split at h
    · obtain ⟨k, t, ws, _, _, h1, _⟩ := h
      omega
    · exact h.elim
  · unfold spText at h
    split at h
    · rfl
    · exact h.elim
  · have hu := hu_of hr
    refine ⟨_, (pss_cut (ps_if (ct_cmp op_in_seq (pe_ix ix_tup (cv 1) pe_int (fun _ _ => rfl)) (pe_tup (pa_cons pe_str (pa_cons pe_str pa_nil))) (by rfl))
  (pss_one (ps_par (i := 4) (j := 5) rfl scTextOf.nd rfl rfl (by decide) rfl rfl (pa_cons (pe_callTy c_str (by rfl) B.str (by decide +kernel) (pa_cons (pe_ix ix_tup (cv 1) pe_int (fun _ _ => rfl)) pa_nil)) (pa_cons pe_int pa_nil)) (by rfl)))
  (pss_one (ps_if (ct_cmp op_eq (pe_ix ix_tup (cv 1) pe_int (fun _ _ => rfl)) pe_str (nomark _))
  (pss_one (ps_par (i := 4) (j := 5) rfl scTextOf.nd rfl rfl (by decide) rfl rfl (pa_cons (pe_op op_add_str (pe_op op_add_str pe_str (pe_def (DGap _) hr (by omega) (pa_cons (cv 0) (pa_cons (cv 3) pa_nil)))) (pe_def ih hr (by omega) (pa_cons (cv 0) (pa_cons (pe_ix ix_tup (cv 1) pe_int (fun _ _ => rfl)) (pa_cons pe_int (pa_cons (cv 3) pa_nil)))))) (pa_cons pe_int pa_nil)) (by rfl)))
  (pss_one (ps_if (ct_cmp op_in_seq (pe_ix ix_tup (cv 1) pe_int (fun _ _ => rfl)) (pe_tup (pa_cons pe_str (pa_cons pe_str pa_nil))) (by rfl))
  (pss_cons (ps_setLc (i := 6) (own := [("_law_part", 7)]) (g := gName 7) (by rfl) scTextOf.nd rfl rfl (sw_true rfl rfl rfl (by decide +kernel)) (pi_tup (pe_slice sl_tup (cv 1) (po_some pe_int) po_none)) (blkOk_by (N := nTextOf) (sc := (defScope sTextOf)) (own := [("_law_part", 7)]) (by decide +kernel)) (fun _ _ _ _ _ => pg_name (i := 7) scTextOf.nd rfl (Or.inl rfl)) (fun _ _ _ _ _ => pts_nil) (fun _ _ _ _ _ => (pe_op op_add_str (pe_op op_add_str (pe_def (DGap _) hr (by omega) (pa_cons (cv 0) (pa_cons (cv 3) pa_nil))) (pe_def ih hr (by omega) (pa_cons (cv 0) (pa_cons (cv 7) (pa_cons pe_int (pa_cons (cv 3) pa_nil)))))) (pe_def (DGap _) hr (by omega) (pa_cons (cv 0) (pa_cons (cv 3) pa_nil))))))
  (pss_one (ps_par (i := 4) (j := 5) rfl scTextOf.nd rfl rfl (by decide) rfl rfl (pa_cons (pe_op op_add_str (pe_op op_add_str (pe_op op_add_str (pe_op op_add_str (pe_ix ix_tup (cv 1) pe_int (fun _ _ => rfl)) (pe_def (DGap _) hr (by omega) (pa_cons (cv 0) (pa_cons (cv 3) pa_nil)))) pe_str) (pe_join pe_str (cv 6))) pe_str) (pa_cons pe_int pa_nil)) (by rfl))))
  (pss_cons (ps_set (i := 5) scTextOf.nd rfl (.inl rfl) (PE_up (pe_callTy c_int (by rfl) B.int (by decide +kernel) (pa_cons (pe_cmpR op_in_seq (pe_ix ix_tup (cv 1) pe_int (fun _ _ => rfl)) (pe_tup (pa_cons pe_str (pa_cons pe_str pa_nil))) (by rfl)) pa_nil))))
  (pss_cons (ps_set (i := 8) scTextOf.nd rfl (.inl rfl) (pe_op op_add_str (pe_op op_add_str (pe_def (DGap _) hr (by omega) (pa_cons (cv 0) (pa_cons (cv 3) pa_nil))) (pe_ix ix_tup (cv 1) pe_int (fun _ _ => rfl))) (pe_def (DGap _) hr (by omega) (pa_cons (cv 0) (pa_cons (cv 3) pa_nil)))))
  (pss_one (ps_set (i := 4) scTextOf.nd rfl (.inl rfl) (pe_op op_add_str (pe_op op_add_str (pe_def ih hr (by omega) (pa_cons (cv 0) (pa_cons (pe_ix ix_tup (cv 1) pe_int (fun _ _ => rfl)) (pa_cons (cv 5) (pa_cons (cv 3) pa_nil))))) (cv 8)) (pe_def ih hr (by omega) (pa_cons (cv 0) (pa_cons (pe_ix ix_tup (cv 1) pe_int (fun _ _ => rfl)) (pa_cons (pe_op c_addI (cv 5) pe_int) (pa_cons (cv 3) pa_nil)))))))))))))))
  (pss_cons (ps_if (pt_cut (PW.pt (pw_or (ct_cmp c_lt (cv 5) (cv 2) (nomark _)) (pw_or1 (ct_cmp op_eq (pe_def (D _) hr (by omega) (pa_cons (cv 0) (pa_cons pe_int pa_nil))) pe_int (nomark _))))))
  (pss_one (ps_ret (pe_op op_add_str (pe_op op_add_str (pe_op op_add_str (pe_op op_add_str pe_str (pe_def (DGap _) hr (by omega) (pa_cons (cv 0) (pa_cons (cv 3) pa_nil)))) (cv 4)) (pe_def (DGap _) hr (by omega) (pa_cons (cv 0) (pa_cons (cv 3) pa_nil)))) pe_str)))
  pss_nil)
  (pss_one (ps_ret (cv 4))))), ?_⟩
    unfold spText at h
    split at h
    · rename_i p v lv m
      obtain ⟨k, t, ws, P, lt, hd, hd10, tk, hw, l0, l2, m0, m1, q⟩ := h
      have P : PenB H p (k + (xC n + xC n) + 80) := P.mono (by show _ ≤ k + (80 + (xC n + xC n)); omega)
      have hX : xB (dep t) ≤ 100000 := Nat.le_trans (xB_mono hd10) (by decide)
      have hY : ∀ a, a ≤ 200000 → a ≤ sizeLine := fun a h => Nat.le_trans h (by decide)
      have u1 : ("(" : Str).length = 1 := by decide +kernel
      have u2 : (")" : Str).length = 1 := by decide +kernel
      have u3 : ("-" : Str).length = 1 := by decide +kernel
      have u4 : ("," : Str).length = 1 := by decide +kernel
      refine ⟨fun σ' H' => ∃ s, ∃ l : Nat, ∃ e6 e7 e8, σ' = [some (.ref p), some v, some (.int lv), some (.int m), some (.str s), some (.int (l : Int)), e6, e7, e8] ∧ Tex t l s ∧ s.length + 6 ≤ xB (dep t) ∧ PenB H' p (k + 25) ∧ But p H H', ?first, ?second⟩
      case second =>
        rintro σ' H1 ⟨s, l, e6, e7, e8, rfl, tx, hs, P1, b1⟩
        refine ⟨fun b H' => (b = false → lv ≤ (l : Int)) ∧ PenB H' p (k + 20) ∧ But p H H', ?_, ?_⟩
        · refine iteD (fun h1 => ⟨fun z => absurd z (by decide), P1.mono (by omega), b1⟩) (fun h1 => ⟨k + 20, P1, by decide, by decide, fun v H2 v0 v1 P2 b2 => ⟨rfl, fun _ => by omega, P2, b1.trans b2⟩⟩)
        · rintro b H2 ⟨hb, P2, b2⟩
          refine iteB (fun hb1 => ?_) (fun hb1 => q s l H2 tx (hb hb1) (by omega) (P2.mono (by omega)) b2)
          refine ⟨k + 10, P2, m0, m1, fun g1 H3 hg1 P3 b3 => ⟨_, _, rfl, rfl, hY _ (by rw [u1, gap_len]; omega), _, _, rfl, rfl, hY _ (by rw [app_len, u1, gap_len]; omega), ?_⟩⟩
          refine ⟨k, P3, m0, m1, fun g2 H4 hg2 P4 b4 => ⟨_, _, rfl, rfl, hY _ (by rw [app_len, app_len, u1, gap_len, gap_len]; omega), _, _, rfl, rfl, hY _ (by rw [app_len, app_len, app_len, u1, u2, gap_len, gap_len]; omega), ?_⟩⟩
          exact q _ 2 H4 (.br tx ⟨hg1, hg2⟩) (by omega) (by rw [app_len, app_len, app_len, app_len, u1, u2, gap_len, gap_len]; omega) P4 ((b2.trans b3).trans b4)
      case first =>
        cases lt with
        | @num a n0 e =>
          refine ⟨a, _, 0, .str "number", rfl, rfl, SqT.of e, rfl, by show 2 ≤ sizeLine; decide, fun b nb => ⟨b, _, rfl, .inr (.inl (.inl upd_same)), rfl, rfl, ?_⟩⟩
          show if inV (.str "number") [.str "number", .str "name"] = true then _ else _
          rw [if_pos (by decide +kernel)]
          refine ⟨a, _, 1, .int n0, rfl, rfl, SqT.of (same_new nb _ _ e), rfl, natAbs_log (by have := tk.1; have := tk.2; omega), _, _, rfl, ?_⟩
          refine ⟨_, 2, _, _, _, rfl, .num, ?_, (P.same (same_new nb)).mono (by omega), .of (same_new nb)⟩
          have := num_len tk.1 tk.2
          show _ ≤ 40
          omega
        | @nam a w0 e =>
          refine ⟨a, _, 0, .str "name", rfl, rfl, SqT.of e, rfl, by show 2 ≤ sizeLine; decide, fun b nb => ⟨b, _, rfl, .inr (.inl (.inl upd_same)), rfl, rfl, ?_⟩⟩
          show if inV (.str "name") [.str "number", .str "name"] = true then _ else _
          rw [if_pos (by decide +kernel)]
          refine ⟨a, _, 1, .str w0, rfl, rfl, SqT.of (same_new nb _ _ e), rfl, _, _, rfl, ?_⟩
          refine ⟨_, 2, _, _, _, rfl, .nam, ?_, (P.same (same_new nb)).mono (by omega), .of (same_new nb)⟩
          have := (hw _ tk).few
          show _ ≤ 40
          omega
        | @neg a v' t' e lt' =>
          refine ⟨a, _, 0, .str "minus", rfl, rfl, SqT.of e, rfl, by show 2 ≤ sizeLine; decide, fun b nb => ⟨b, _, rfl, .inr (.inl (.inl upd_same)), rfl, rfl, ?_⟩⟩
          show if inV (.str "minus") [.str "number", .str "name"] = true then _ else _
          rw [if_neg (by decide +kernel)]
          have e1 := same_new (o := .tup [V.str "number", .str "name"]) nb _ _ e
          refine ⟨a, _, 0, .str "minus", rfl, rfl, SqT.of e1, rfl, rfl, ?_⟩
          show if decide (V.str "minus" = V.str "minus") = true then _ else _
          rw [if_pos (decide_eq_true rfl)]
          have hdt : dep t' < n := by have : dep t' + 1 < n + 1 := hd; omega
          have hdt10 : dep t' + 1 ≤ 10 := hd10
          have hXt : xB (dep t') + xB (dep t') + 40 ≤ 100000 := hX
          refine ⟨k + (xC n + xC n) + 70, P.same (same_new nb), m0, m1, fun g H2 hg P2 b2 => ⟨_, _, rfl, rfl, hY _ (by rw [u3, gap_len]; omega), ?_⟩⟩
          have bb := (But.of (same_new (o := .tup [V.str "number", .str "name"]) nb)).trans b2
          refine ⟨a, _, 1, v', rfl, rfl, SqT.of (bb.keep _ _ (P.ne e fun _ z => nomatch z) e), rfl, ?_⟩
          refine ⟨k + 25, t', ws, P2.mono (by omega), lt'.but P bb, hdt, by omega, tk, hw, by decide, by decide, m0, m1, fun s l H3 tx hl hs P3 b3 => ⟨_, _, rfl, rfl, hY _ (by rw [app_len, u3, gap_len]; omega), _, _, rfl, ?_⟩⟩
          refine ⟨_, 2, _, _, _, rfl, .neg tx (by omega) hg, ?_, P3, bb.trans b3⟩
          rw [app_len, app_len, u3, gap_len]
          show _ ≤ xB (dep t') + xB (dep t') + 40
          omega
        | @op a o v1 v2 t1 t2 e lt1 lt2 =>
          obtain ⟨x1, x2, x3, x4, ol⟩ := ops_tests tk.1
          have hd1 : dep t1 < n := by have : max (dep t1) (dep t2) + 1 < n + 1 := hd; omega
          have hd2 : dep t2 < n := by have : max (dep t1) (dep t2) + 1 < n + 1 := hd; omega
          have hdm : max (dep t1) (dep t2) + 1 ≤ 10 := hd10
          have xm1 := xB_mono (show dep t1 ≤ max (dep t1) (dep t2) by omega)
          have xm2 := xB_mono (show dep t2 ≤ max (dep t1) (dep t2) by omega)
          have hXt : xB (max (dep t1) (dep t2)) + xB (max (dep t1) (dep t2)) + 40 ≤ 100000 := hX
          refine ⟨a, _, 0, .str o, rfl, rfl, SqT.of e, rfl, by show 2 ≤ sizeLine; decide, fun b nb => ⟨b, _, rfl, .inr (.inl (.inl upd_same)), rfl, rfl, ?_⟩⟩
          show if inV (.str o) [.str "number", .str "name"] = true then _ else _
          rw [if_neg (by rw [x1]; exact Bool.false_ne_true)]
          have sb := same_new (o := .tup [V.str "number", .str "name"]) nb
          refine ⟨a, _, 0, .str o, rfl, rfl, SqT.of (sb _ _ e), rfl, rfl, ?_⟩
          show if decide (V.str o = V.str "minus") = true then _ else _
          rw [if_neg (fun z => x2 (of_decide_eq_true z))]
          refine ⟨a, _, 0, .str o, rfl, rfl, SqT.of (sb _ _ e), rfl, by show 2 ≤ sizeLine; decide, fun c nc => ⟨c, _, rfl, .inr (.inl (.inl upd_same)), rfl, rfl, ?_⟩⟩
          show if inV (.str o) [.str "min", .str "max"] = true then _ else _
          rw [x3]
          have sc := sb.trans (same_new (o := .tup [V.str "min", .str "max"]) nc)
          generalize upd (upd H b (.tup [V.str "number", .str "name"])) c (.tup [V.str "min", .str "max"]) = H1 at sc
          by_cases hp : o = "min" ∨ o = "max"
          · rw [if_pos (decide_eq_true hp)]
            have e1 := sc _ _ e
            have P1 := P.same sc
            refine ⟨1, rfl, a, _, rfl, SqT.of e1, by show ¬(HT.sIx 3 0 (some 1) = 0 ∧ HT.sIx 3 3 none = 3); decide, fun tp ntp => ⟨tp, rfl, ⟨_, SqT.of upd_same⟩, fun D1 nD => ?_⟩⟩
            have st := same_new (o := .tup (cutV [V.str o, v1, v2] (some 1) none)) ntp
            have htp : upd H1 tp (.tup (cutV [V.str o, v1, v2] (some 1) none)) tp = some (.tup [v1, v2]) := upd_same
            generalize upd H1 tp (.tup (cutV [V.str o, v1, v2] (some 1) none)) = H2 at st htp nD
            have S2 := sc.trans st
            have P2 := P1.same st
            refine lc_tup (a := tp) (xs := [v1, v2]) (fun i H' => ∃ ys : List Str, H' D1 = some (.lst (ys.map V.str)) ∧ Pts t1 t2 i ys ∧ PenB H' p (k + 35 + (2 - i) * (xC n + 20)) ∧ But p H2 H') ⟨[], upd_same, .inl ⟨rfl, rfl⟩, (P2.same (same_new nD)).mono (by show _ ≤ k + (xC n + xC n) + 80; omega), .of (same_new nD)⟩
              (fun i H' hi ⟨ys, g1, g2, g3, g4⟩ => SqT.of (g4.keep _ _ (P2.ne htp fun _ z => nomatch z) htp)) ?turn ?rest
            case turn =>
              rintro i x H3 hx ⟨ys, g1, g2, P3, b3⟩
              have hi : i < 2 := by
                have := (List.getElem?_eq_some_iff.mp hx).1
                exact this
              refine ⟨rfl, ?_⟩
              obtain ⟨kk, hkk⟩ : ∃ kk, kk = k + 35 + (2 - (i + 1)) * (xC n + 20) := ⟨_, rfl⟩
              rw [← hkk]
              have P3 : PenB H3 p (kk + (xC n + 20)) := P3.mono (by
                have : (2 - i) = (2 - (i + 1)) + 1 := by omega
                rw [hkk, this, Nat.succ_mul]
                omega)
              obtain ⟨tt, ltt, dtt, dt10, tkt, xtt, fin⟩ : ∃ tt, LTr H2 x tt ∧ dep tt < n ∧ dep tt ≤ 9 ∧ TOk ws tt ∧ xB (dep tt) ≤ xB (max (dep t1) (dep t2)) ∧ ∀ y, Pt tt y → Pts t1 t2 (i + 1) (ys ++ [y]) := by
                have : i = 0 ∨ i = 1 := by omega
                rcases this with rfl | rfl
                · have : x = v1 := (Option.some.inj hx).symm
                  subst this
                  refine ⟨t1, lt1.same S2, hd1, by omega, tk.2.1, xm1, fun y hy => ?_⟩
                  rcases g2 with ⟨_, rfl⟩ | ⟨y, z, _⟩ | ⟨y, z, w, _⟩
                  · exact .inr (.inl ⟨y, rfl, rfl, hy⟩)
                  · cases z
                  · cases w
                · have : x = v2 := (Option.some.inj hx).symm
                  subst this
                  refine ⟨t2, lt2.same S2, hd2, by omega, tk.2.2, xm2, fun z hz => ?_⟩
                  rcases g2 with ⟨w, _⟩ | ⟨y, _, rfl, hy⟩ | ⟨y, z, w, _⟩
                  · cases w
                  · exact .inr (.inr ⟨y, z, rfl, rfl, hy, hz⟩)
                  · cases w
              refine ⟨kk + xC n + 10, P3.mono (by omega), m0, m1, fun ga H4 ha P4 b4 => ?_⟩
              refine ⟨kk + 10, tt, ws, P4.mono (by omega), ltt.but P2 (b3.trans b4), dtt, by omega, tkt, hw, by decide, by decide, m0, m1, fun s l H5 tx hl hs P5 b5 => ⟨_, _, rfl, rfl, hY _ (by rw [gap_len]; omega), ?_⟩⟩
              refine ⟨kk, P5, m0, m1, fun gb H6 hb P6 b6 => ⟨_, _, rfl, rfl, hY _ (by rw [app_len, gap_len, gap_len]; omega), ?_⟩⟩
              have b36 := b3.trans ((b4.trans b5).trans b6)
              have g16 := ((b4.trans b5).trans b6).keep _ _ (P3.ne g1 fun _ z => nomatch z) g1
              refine ⟨_, g16, ?_, ys ++ [gapS ga ++ s ++ gapS gb], by rw [upd_same, List.map_append] <;> rfl, fin _ ⟨ga, s, gb, l, ⟨ha, hb⟩, rfl, tx, by rw [app_len, app_len, gap_len, gap_len]; omega⟩, P6.lst g16 (cel_ne P2 b36 nD), b36.lst P2 nD⟩
              rw [List.length_map]
              refine Nat.lt_of_le_of_lt (show ys.length ≤ 2 from ?_) (by decide)
              rcases g2 with ⟨_, rfl⟩ | ⟨y, _, rfl, _⟩ | ⟨y, z, _, rfl, _⟩ <;> simp
            case rest =>
              rintro H3 ⟨ys, g1, g2, P3, b3⟩
              obtain ⟨y1, y2, rfl, ⟨ga, sa, gb, la, ⟨hga, hgb⟩, rfl, ta, hla⟩, ⟨gc, sc', gd, lb, ⟨hgc, hgd⟩, rfl, tb, hlb⟩⟩ : ∃ y z, ys = [y, z] ∧ Pt t1 y ∧ Pt t2 z := by
                rcases g2 with ⟨w, _⟩ | ⟨y, w, _⟩ | ⟨y, z, _, e, r⟩
                · cases w
                · cases w
                · exact ⟨y, z, e, r⟩
              have S3 := S2
              have e3 := (st.trans (Same.refl _)) _ _ e1
              have e3 := b3.keep _ _ (P2.ne e3 fun _ z => nomatch z) e3
              refine ⟨a, _, 0, .str o, rfl, rfl, SqT.of e3, rfl, ?_⟩
              refine ⟨k + 25, P3.mono (by omega), m0, m1, fun g0 H4 hg P4 b4 => ⟨_, _, rfl, rfl, hY _ (by rw [gap_len]; omega), _, _, rfl, rfl, hY _ (by rw [app_len, gap_len, u1]; omega), ⟨_, rfl⟩, ?_⟩⟩
              have g14 := b4.keep _ _ (P3.ne g1 fun _ z => nomatch z) g1
              have jl : Txt.join "," [gapS ga ++ sa ++ gapS gb, gapS gc ++ sc' ++ gapS gd] = gapS ga ++ sa ++ gapS gb ++ "," ++ (gapS gc ++ sc' ++ gapS gd) := by rw [TL.join_eq] <;> rfl
              refine ⟨_, D1, [gapS ga ++ sa ++ gapS gb, gapS gc ++ sc' ++ gapS gd], rfl, rfl, .inl (SqL.of g14), ?_, ?_⟩
              · simp only [List.map_cons, List.map_nil, List.sum_cons, List.sum_nil, List.length_cons, List.length_nil]
                rw [u4]
                omega
              · rw [jl]
                have jn : (gapS ga ++ sa ++ gapS gb ++ "," ++ (gapS gc ++ sc' ++ gapS gd)).length ≤ xB (dep t1) + xB (dep t2) + 9 := by
                  rw [app_len, app_len, u4]
                  omega
                refine ⟨_, _, rfl, rfl, hY _ (by rw [app_len, app_len, gap_len, u1]; omega), _, _, rfl, rfl, hY _ (by rw [app_len, app_len, app_len, gap_len, u1, u2]; omega), _, _, rfl, ?_⟩
                refine ⟨_, 2, _, _, _, rfl, .pair hp ta tb ⟨hg, hga, hgb, hgc, hgd⟩, ?_, P4, (((But.of S2).trans b3).trans b4)⟩
                rw [app_len, app_len, app_len, app_len, gap_len, u1, u2]
                show _ ≤ xB (max (dep t1) (dep t2)) + xB (max (dep t1) (dep t2)) + 40
                omega
          · rw [if_neg (fun z => hp (of_decide_eq_true z))]
            have e1 := sc _ _ e
            have P1 := P.same sc
            obtain ⟨ow, how, how1, fin⟩ : ∃ ow : Nat, (if inV (.str o) [.str "*", .str "//"] = true then (1 : Int) else 0) = (ow : Int) ∧ ow ≤ 1 ∧ ∀ la lb g0 g1 sa sb, Tex t1 la sa → ow ≤ la → Tex t2 lb sb → ow + 1 ≤ lb → (g0 ≤ 2 ∧ g1 ≤ 2) → Tex (.op o t1 t2) ow (sa ++ (gapS g0 ++ o ++ gapS g1) ++ sb) := by
              rw [x4]
              by_cases ht : o = "*" ∨ o = "//"
              · refine ⟨1, by rw [if_pos (decide_eq_true ht)] <;> rfl, Nat.le_refl _, fun la lb g0 g1 sa sb h1 h2 h3 h4 h5 => .term ht h1 h2 h3 h4 h5⟩
              · refine ⟨0, by rw [if_neg (fun z => ht (of_decide_eq_true z))] <;> rfl, by omega, fun la lb g0 g1 sa sb h1 h2 h3 h4 h5 => .sum (ops_way tk.1 hp ht) h1 h3 h4 h5⟩
            refine ⟨fun x H' => x = .int (ow : Int) ∧ Same H H', ⟨a, _, 0, .str o, rfl, rfl, SqT.of e1, rfl, by show 2 ≤ sizeLine; decide, fun d nd => ⟨d, _, rfl, .inr (.inl (.inl upd_same)), rfl, rfl, congrArg V.int how, sc.trans (same_new nd)⟩⟩, ?_⟩
            rintro _ H2 ⟨rfl, sd⟩
            have P2 := P.same sd
            have e2 := sd _ _ e
            have sz3 : ∀ g0 g1, g0 ≤ 2 → g1 ≤ 2 → (gapS g0 ++ o ++ gapS g1).length ≤ 7 := fun g0 g1 h0 h1 => by rw [app_len, app_len, gap_len, gap_len]; omega
            refine ⟨k + (xC n + xC n) + 45, P2.mono (by omega), m0, m1, fun g0 H3 hg0 P3 b3 => ?_⟩
            have e3 := b3.keep _ _ (P2.ne e2 fun _ z => nomatch z) e2
            refine ⟨a, _, 0, .str o, rfl, rfl, SqT.of e3, rfl, _, _, rfl, rfl, hY _ (by rw [gap_len]; omega), ?_⟩
            refine ⟨k + (xC n + xC n) + 35, P3, m0, m1, fun g1 H4 hg1 P4 b4 => ⟨_, _, rfl, rfl, hY _ (by rw [app_len, gap_len, gap_len]; omega), ?_⟩⟩
            have e4 := b4.keep _ _ (P3.ne e3 fun _ z => nomatch z) e3
            have lsg := sz3 g0 g1 hg0 hg1
            have bb := b3.trans b4
            refine ⟨a, _, 1, v1, rfl, rfl, SqT.of e4, rfl, ?_⟩
            refine ⟨k + xC n + 35, t1, ws, P4.mono (by omega), (lt1.same sd).but P2 bb, hd1, by omega, tk.2.1, hw, by omega, by omega, m0, m1, fun sa la H5 txa hla hsa P5 b5 => ⟨_, _, rfl, rfl, hY _ (by omega), ?_⟩⟩
            have e5 := b5.keep _ _ (P4.ne e4 fun _ z => nomatch z) e4
            refine ⟨a, _, 2, v2, rfl, rfl, SqT.of e5, rfl, ?_⟩
            refine ⟨k + 25, t2, ws, P5.mono (by omega), (lt2.same sd).but P2 (bb.trans b5), hd2, by omega, tk.2.2, hw, by omega, by omega, m0, m1, fun sb lb H6 txb hlb hsb P6 b6 => ⟨_, _, rfl, rfl, hY _ (by rw [app_len]; omega), ?_⟩⟩
            refine ⟨_, ow, _, _, _, rfl, fin la lb g0 g1 sa sb txa (by omega) txb (by omega) ⟨hg0, hg1⟩, ?_, P6, (((But.of sd).trans bb).trans b5).trans b6⟩
            rw [app_len, app_len]
            show _ ≤ xB (max (dep t1) (dep t2)) + xB (max (dep t1) (dep t2)) + 40
            omega
    · exact h.elim
end
end Rk

set_option Elab.async false
set_option linter.all false
set_option maxRecDepth 100000
set_option maxHeartbeats 4000000
set_option pp.maxSteps 200
namespace Rk
open PySem PySem.Spec PyProof.Rows L2 CL Fm
/-- a whole text of a tree -/
def FTex (t : T) (s : Str) : Prop := ∃ s' l, Tex t l s' ∧ (s = s' ∨ ∃ g g', (g ≤ 2 ∧ g' ≤ 2) ∧ s = gapS g ++ s' ++ gapS g')
theorem FTex.so {ws : List Str} (hw : ∀ w ∈ ws, Wd w) {t : T} {s : Str} (h : FTex t s) (k : TOk ws t) : So s := by
  obtain ⟨s', l, h, rfl | ⟨g, g', _, rfl⟩⟩ := h
  · exact h.so hw k
  · exact ((So.gap _).app (h.so hw k)).app (.gap _)
/-- a tree and its text -/
def spForm (K : PySem.W.Frag) : Sp := fun vs H Q _ => match vs with
  | [.ref p, .int d, .ref l] => ∃ k, ∃ ws : List Str, PenB H p (k + 20000) ∧ 0 ≤ d ∧ d ≤ 4 ∧ SqL K H l (ws.map V.str) ∧ (∀ w ∈ ws, Wd w) ∧ ws.length ≤ 26 ∧
      ∀ a v t s H', H' a = some (.tup [v, .str s]) → LTr H' v t → TOk ws t → dep t ≤ 4 → FTex t s → s.length ≤ 100 → PenB H' p k → But p H H' → Q (.ref a) H'
  | _ => False
def FI (p l : Addr) (d : Int) (mn : Int) (k : Nat) (ws : List Str) (H : Hp) : Nat → L2.St → Hp → Prop := fun m σ H' => ∃ v t s, m = dep t ∧ σ = [some (.ref p), some (.int d), some (.ref l), some v, some (.int mn), some (.str s)] ∧ LTr H' v t ∧ TOk ws t ∧ dep t ≤ 4 ∧
  FTex t s ∧ s.length ≤ xB (dep t) + 4 ∧ PenB H' p (k + dep t * 3000) ∧ But p H H'
abbrev sForm : Stmt := topS 32
abbrev nForm : List Str := ["_law_pen_here", "_law_deep", "_law_words", "_law_tree_here", "_law_many", "_law_text"]
abbrev pForm : List Str := ["_law_pen_here", "_law_deep", "_law_words"]
theorem scForm : FnScope nForm pForm (defScope sForm) := ⟨rfl, rfl, rfl, by decide +kernel, rfl, by decide +kernel, by decide +kernel⟩
section
variable {P : Program} {w : World} {K : PySem.W.Frag} {mg : Str → Option Value} {base : Heap}
structure BltF (mg : Str → Option Value) : Prop extends BltT mg where
  isinstance : mg "isinstance" = none
  tuple : mg "tuple" = none
theorem ok_form (B : BltF mg) (DP : ∀ base, DefOk P w K mg base CX0 6 "_law_pick" pPick (spPick K)) (DGap : ∀ base, DefOk P w K mg base CX0 7 "_law_gap" pGap spGap) (DT : ∀ base, DefOk P w K mg base CX0 12 "_law_tree" pTree (spTree K 5))
    (DX : ∀ base, DefOk P w K mg base CX0 12 "_law_text_of" pTextOf (spText K 5)) (F : FunAt K mg "_law_formula" sForm pForm) : DefOk P w K mg base CX0 13 "_law_formula" pForm (spForm K) := by
  refine F.ok scForm (fun vs H Q E h => ?_) (fun f cdv A outer s H vs Q E hr h => ?_)
  · unfold spForm at h
    split at h
    · rfl
    · exact h.elim
  · have hu := hu_of hr
    refine ⟨_, (pss_cons (ps_par (i := 3) (j := 4) rfl scForm.nd rfl rfl (by decide) rfl rfl (pa_cons (pe_def (DT _) hr (by decide) (pa_cons (cv 0) (pa_cons (cv 1) (pa_cons (cv 2) pa_nil)))) (pa_cons (pe_def (DP _) hr (by decide) (pa_cons (cv 0) (pa_cons (pe_lst (pa_cons pe_int (pa_cons pe_int pa_nil))) pa_nil))) pa_nil)) (by rfl))
  (pss_cons (ps_set (i := 5) scForm.nd rfl (.inl rfl) (pe_op op_add_str (pe_op op_add_str (pe_def (DGap _) hr (by decide) (pa_cons (cv 0) (pa_cons (cv 4) pa_nil))) (pe_def (DX _) hr (by decide) (pa_cons (cv 0) (pa_cons (cv 3) (pa_cons pe_int (pa_cons (cv 4) pa_nil)))))) (pe_def (DGap _) hr (by decide) (pa_cons (cv 0) (pa_cons (cv 4) pa_nil)))))
  (pss_cons (ps_while PassesOwn.never (ct_cmp c_gt (pe_callB call_len_str (by rfl) B.len (by decide +kernel) (pa_cons (cv 5) pa_nil)) pe_int (nomark _))
  (pss_cons (ps_set (i := 3) scForm.nd rfl (.inl rfl) (pe_ifExp (ct_val (pe_isi (m := .tuple) (by decide +kernel) B.isinstance B.tuple (by rfl) (by rfl) (pe_ix ix_tup (cv 3) pe_int (fun _ _ => rfl)))) (pe_ix ix_tup (cv 3) pe_int (fun _ _ => rfl)) (pe_tup (pa_cons pe_str (pa_cons pe_int pa_nil)))))
  (pss_one (ps_set (i := 5) scForm.nd rfl (.inl rfl) (pe_def (DX _) hr (by decide) (pa_cons (cv 0) (pa_cons (cv 3) (pa_cons pe_int (pa_cons pe_int pa_nil)))))))))
  (pss_one (ps_ret (pe_tup (pa_cons (cv 3) (pa_cons (cv 5) pa_nil)))))))), ?_⟩
    unfold spForm at h
    split at h
    · rename_i p d l
      obtain ⟨k, ws, P, d0, d1, hS, hw, hn, q⟩ := h
      have t5 : tC 5 = 1550 := by decide
      have x5 : xC 5 = 2480 := by decide
      have hY : ∀ a, a ≤ 200000 → a ≤ sizeLine := fun a h => Nat.le_trans h (by decide)
      have hX4 : ∀ {a}, a ≤ 4 → xB a ≤ 2000 := fun h => Nat.le_trans (xB_mono h) (by decide)
      refine ⟨k + 18000, ws, P.mono (by omega), d0, by show d < ((5 : Nat) : Int); omega, hS, hw, hn, fun v t H1 lt tk td P1 b1 => ⟨by show 2 ≤ sizeLine; decide, fun l2 nl2 => ?_⟩⟩
      refine ⟨k + 17995, _, P1.same (same_new nl2), SqL.of upd_same, by show 0 < 2; decide, by show 2 ≤ _; decide, fun x H2 hx P2 b2 => ?_⟩
      have b12 := b1.trans ((But.of (same_new (o := .lst [V.int 1, .int 3]) nl2)).trans b2)
      have bt := (But.of (same_new (o := .lst [V.int 1, .int 3]) nl2)).trans b2
      obtain ⟨m, rfl, m0, m1⟩ : ∃ m : Int, x = .int m ∧ 1 ≤ m ∧ m ≤ 3 := by
        simp only [List.mem_cons, List.not_mem_nil, or_false] at hx
        rcases hx with rfl | rfl
        · exact ⟨_, rfl, by decide, by decide⟩
        · exact ⟨_, rfl, by decide, by decide⟩
      refine ⟨_, _, rfl, ?_⟩
      have td4 : dep t ≤ 4 := by omega
      have lt2 := lt.but P1 bt
      refine ⟨k + 17985, P2, m0, m1, fun g H3 hg P3 b3 => ?_⟩
      refine ⟨k + 15000, t, ws, P3.mono (by omega), lt2.but P2 b3, by omega, by omega, tk, hw, by decide, by decide, m0, m1, fun s ll H4 tx _ hs P4 b4 => ⟨_, _, rfl, rfl, hY _ (by rw [gap_len]; have := hX4 td4; omega), ?_⟩⟩
      refine ⟨k + 14990, P4, m0, m1, fun g' H5 hg' P5 b5 => ⟨_, _, rfl, rfl, hY _ (by rw [app_len, gap_len, gap_len]; have := hX4 td4; omega), ?_⟩⟩
      have b35 := (b3.trans b4).trans b5
      refine ⟨FI p l d m k ws H, ⟨_, v, t, _, rfl, rfl, lt2.but P2 b35, tk, td4, ⟨s, ll, tx, .inr ⟨g, g', ⟨hg, hg'⟩, rfl⟩⟩, by rw [app_len, app_len, gap_len, gap_len]; omega, P5.mono (by omega), b12.trans b35⟩, ?_⟩
      rintro _ σ Hx ⟨v, t, s, rfl, rfl, lt, tk, td, tx, hs, Px, bx⟩
      have h4 := hX4 td
      refine ⟨s, rfl, hY _ (by omega), ?_⟩
      show if decide ((100 : Int) < (s.length : Int)) = true then _ else _
      by_cases h : 100 < s.length
      · rw [if_pos (decide_eq_true (by omega))]
        refine ⟨fun σ' H' => ∃ d', d' < dep t ∧ FI p l d m k ws H d' σ' H', fun σ' H' h => h, ?_⟩
        obtain ⟨a, xs, v1, t1, rfl, e, a1, lt1, tk1, dt1⟩ : ∃ a xs v1 t1, v = .ref a ∧ Hx a = some (.tup xs) ∧ atI xs 1 = some v1 ∧ LTr Hx v1 t1 ∧ TOk ws t1 ∧ dep t1 < dep t := by
          cases lt with
          | num e => have : xB 0 = 40 := rfl; simp only [dep] at hs; omega
          | nam e => have : xB 0 = 40 := rfl; simp only [dep] at hs; omega
          | neg e lt' => exact ⟨_, _, _, _, rfl, e, rfl, lt', tk, by simp only [dep]; omega⟩
          | op e lt1 lt2 => exact ⟨_, _, _, _, rfl, e, rfl, lt1, tk.2.1, by simp only [dep]; omega⟩
        obtain ⟨b1, xs1, rfl, e1⟩ : ∃ b xs1, v1 = .ref b ∧ Hx b = some (.tup xs1) := by
          cases lt1 with
          | num e => exact ⟨_, _, rfl, e⟩
          | nam e => exact ⟨_, _, rfl, e⟩
          | neg e _ => exact ⟨_, _, rfl, e⟩
          | op e _ _ => exact ⟨_, _, rfl, e⟩
        refine ⟨a, _, 1, .ref b1, rfl, rfl, SqT.of e, a1, .tuple, .tup (SqT.of e1), ?_⟩
        refine ⟨a, _, 1, .ref b1, rfl, rfl, SqT.of e, a1, ?_⟩
        have mul : dep t * 3000 ≥ (dep t1 + 1) * 3000 := Nat.mul_le_mul_right _ (by omega)
        refine ⟨k + dep t1 * 3000, t1, ws, Px.mono (by omega), lt1, by omega, by omega, tk1, hw, by decide, by decide, by decide, by decide, fun s1 ll1 H6 tx1 _ hs1 P6 b6 => ?_⟩
        exact ⟨dep t1, dt1, _, t1, s1, rfl, rfl, lt1.but Px b6, tk1, by omega, ⟨s1, ll1, tx1, .inl rfl⟩, by omega, P6, bx.trans b6⟩
      · rw [if_neg (fun z => h (by have := of_decide_eq_true z; omega))]
        refine ⟨by show 2 ≤ sizeLine; decide, fun a na => ?_⟩
        exact q a v t s _ upd_same (lt.same (same_new na)) tk td tx (by omega) ((Px.same (same_new na)).mono (by omega)) (bx.trans (.of (same_new na)))
    · exact h.elim
end
end Rk

set_option Elab.async false
set_option linter.all false
set_option maxRecDepth 100000
set_option maxHeartbeats 1000000
/-! Ev: results of trees. -/
namespace Fm
open PySem PySem.Spec PyProof.Rows L2 CL
inductive Rs where
  | val (n : Int)
  | fail (w : Str)
def clampR (n : Int) : Rs := if -(10 ^ 30) ≤ n ∧ n ≤ 10 ^ 30 then .val n else .fail "range"
def opR (o : Str) (a b : Int) : Option Int := if o = "+" then some (a + b) else if o = "-" then some (a - b) else if o = "*" then some (a * b) else if o = "//" then (if b = 0 then none else some (a.fdiv b)) else if o = "min" then some (min a b) else some (max a b)
def failOf : List Rs → Option Str
  | [] => none
  | .fail w :: _ => some w
  | .val _ :: r => failOf r
def numsOf : List Rs → List Int
  | [] => []
  | .fail _ :: r => numsOf r
  | .val n :: r => n :: numsOf r
/-- the value, none for a division by 0 -/
def valOf (o : Str) : List Int → Option Int
  | [x] => some (-x)
  | [x, y] => opR o x y
  | _ => none
def endR : Option Int → Rs
  | none => .fail "zero"
  | some z => clampR z
def finT (o : Str) (rs : List Rs) : Rs := match failOf rs with
  | some w => .fail w
  | none => endR (valOf o (numsOf rs))
def resT (ρ : Str → Option Rs) : T → Rs
  | .num n => clampR n
  | .nam w => (ρ w).getD (.fail "zero")
  | .neg t => finT "minus" [resT ρ t]
  | .op o a b => finT o [resT ρ a, resT ρ b]
def Small (n : Int) : Prop := -(10 ^ 30) ≤ n ∧ n ≤ 10 ^ 30
def RB (ρ : Str → Option Rs) : Prop := ∀ w n, ρ w = some (.val n) → Small n
theorem clamp_small {z n : Int} (h : clampR z = .val n) : Small n := by
  unfold clampR at h
  split at h
  · rename_i k
    cases h
    exact k
  · cases h
theorem end_small {o : Option Int} {n : Int} (h : endR o = .val n) : Small n := by
  cases o with
  | none => cases h
  | some z => exact clamp_small h
theorem fin_small {o : Str} {rs : List Rs} {n : Int} (h : finT o rs = .val n) : Small n := by
  unfold finT at h
  split at h
  · cases h
  · exact end_small h
theorem res_small {ρ : Str → Option Rs} (hb : RB ρ) : ∀ {t : T} {n : Int}, resT ρ t = .val n → Small n
  | .num m, n, h => clamp_small h
  | .nam w, n, h => by
    unfold resT at h
    cases hr : ρ w with
    | none => rw [hr] at h; cases h
    | some r =>
      rw [hr] at h
      have h : r = .val n := h
      exact hb w n (by rw [hr, h])
  | .neg t, n, h => fin_small h
  | .op o a b, n, h => fin_small h
theorem nums_of {rs : List Rs} (h : failOf rs = none) : rs = (numsOf rs).map .val := by
  induction rs with
  | nil => rfl
  | cons r l ih =>
    cases r with
    | fail w => cases h
    | val n => rw [numsOf, List.map_cons, ← ih h]
/-- trees whose numbers and signs are such as are read -/
def NOk : T → Prop
  | .num n => 0 ≤ n ∧ n < 10 ^ 31
  | .nam _ => True
  | .neg t => NOk t
  | .op o a b => o ∈ ops ∧ NOk a ∧ NOk b
theorem TOk.nok {ws : List Str} : ∀ {t : T}, TOk ws t → NOk t
  | .num n, h => ⟨h.1, by have := h.2; omega⟩
  | .nam w, _ => trivial
  | .neg t, h => TOk.nok (t := t) h
  | .op o a b, h => ⟨h.1, TOk.nok h.2.1, TOk.nok h.2.2⟩
theorem TOk.names {ws : List Str} : ∀ {t : T}, TOk ws t → ∀ w ∈ nmsT t, w ∈ ws
  | .num n, _, w, hw => nomatch hw
  | .nam v, h, w, hw => by rw [List.mem_singleton.mp hw]; exact h
  | .neg t, h, w, hw => TOk.names (t := t) h w hw
  | .op o a b, h, w, hw => by
    rcases List.mem_append.mp hw with z | z
    · exact TOk.names h.2.1 w z
    · exact TOk.names h.2.2 w z
/-- a result in the heap -/
def RsAt (H : Hp) (v : V) : Rs → Prop
  | .val n => ∃ a, v = .ref a ∧ H a = some (.tup [.str "value", .int n])
  | .fail w => ∃ a, v = .ref a ∧ H a = some (.tup [.str "failed", .str w])
theorem RsAt.on {H H' : Hp} (k : ∀ b xs, H b = some (.tup xs) → H' b = some (.tup xs)) {v : V} {r : Rs} (h : RsAt H v r) : RsAt H' v r := by
  cases r with
  | val n => obtain ⟨a, e, z⟩ := h; exact ⟨a, e, k _ _ z⟩
  | fail w => obtain ⟨a, e, z⟩ := h; exact ⟨a, e, k _ _ z⟩
theorem RsAt.same {H H' : Hp} (s : Same H H') {v : V} {r : Rs} (h : RsAt H v r) : RsAt H' v r := h.on fun b xs e => s _ _ e
/-- results by names -/
def ResD (H : Hp) (d : Addr) (ρ : Str → Option Rs) : Prop := ∃ kvs, H d = some (.dK kvs) ∧ ∀ w, match ρ w with
  | none => valV kvs (.inr w) = none
  | some r => ∃ v, valV kvs (.inr w) = some v ∧ RsAt H v r
theorem ResD.same {H H' : Hp} {d : Addr} {ρ : Str → Option Rs} (h : ResD H d ρ) (s : Same H H') : ResD H' d ρ := by
  obtain ⟨kvs, e, k⟩ := h
  refine ⟨kvs, s _ _ e, fun w => ?_⟩
  have z := k w
  cases hr : ρ w with
  | none => rw [hr] at z; exact z
  | some r =>
    rw [hr] at z
    obtain ⟨v, e1, e2⟩ := z
    exact ⟨v, e1, e2.same s⟩
/-- several results -/
def RsAll (H : Hp) : List V → List Rs → Prop
  | [], [] => True
  | v :: vs, r :: rs => RsAt H v r ∧ RsAll H vs rs
  | _, _ => False
theorem RsAll.on {H H' : Hp} (k : ∀ b xs, H b = some (.tup xs) → H' b = some (.tup xs)) : ∀ {vs : List V} {rs : List Rs}, RsAll H vs rs → RsAll H' vs rs
  | [], [], _ => trivial
  | _ :: _, _ :: _, h => ⟨h.1.on k, h.2.on k⟩
theorem RsAll.len {H : Hp} : ∀ {vs : List V} {rs : List Rs}, RsAll H vs rs → vs.length = rs.length
  | [], [], _ => rfl
  | _ :: _, _ :: _, h => by rw [List.length_cons, List.length_cons, RsAll.len h.2]
theorem RsAll.at_ {H : Hp} : ∀ {vs : List V} {rs : List Rs} {i : Nat} {v : V}, RsAll H vs rs → vs[i]? = some v → ∃ r, rs[i]? = some r ∧ RsAt H v r
  | [], [], i, v, _, e => by cases i <;> cases e
  | x :: vs, r :: rs, 0, v, h, e => by cases e; exact ⟨r, rfl, h.1⟩
  | x :: vs, r :: rs, i + 1, v, h, e => RsAll.at_ (vs := vs) (rs := rs) (i := i) h.2 e
theorem RsAll.snoc {H : Hp} {v : V} {r : Rs} (hv : RsAt H v r) : ∀ {vs : List V} {rs : List Rs}, RsAll H vs rs → RsAll H (vs ++ [v]) (rs ++ [r])
  | [], [], _ => ⟨hv, trivial⟩
  | _ :: _, _ :: _, h => ⟨h.1, RsAll.snoc hv h.2⟩
/-- the first that failed -/
theorem failOf_at {rs : List Rs} {i : Nat} {w : Str} (h : ∀ j, j < i → ∃ n, rs[j]? = some (.val n)) (e : rs[i]? = some (.fail w)) : failOf rs = some w := by
  induction rs generalizing i with
  | nil => cases i <;> cases e
  | cons r l ih =>
    cases i with
    | zero => cases e; rfl
    | succ i =>
      obtain ⟨n, hn⟩ := h 0 (by omega)
      cases hn
      exact ih (i := i) (fun j hj => h (j + 1) (by omega)) e
theorem failOf_no {rs : List Rs} (h : ∀ j, j < rs.length → ∃ n, rs[j]? = some (.val n)) : failOf rs = none := by
  induction rs with
  | nil => rfl
  | cons r l ih =>
    obtain ⟨n, hn⟩ := h 0 (by simp)
    cases hn
    exact ih fun j hj => h (j + 1) (by simpa using hj)
end Fm

set_option Elab.async false
set_option linter.all false
set_option maxRecDepth 100000
set_option maxHeartbeats 2000000
/-! P01a: a tree's whole text is read to the tree. -/
namespace Rk
open PySem PySem.Spec PyProof.Rows L2 CL Fm
theorem At.self (s : Str) : At s 0 s.cps.toList := fun k c e => by
  unfold cp
  rw [Nat.zero_add, ← Array.getElem?_toList]
  exact e
theorem len_of (s : Str) : s.cps.toList.length = s.length := (TL.len_tl s).symm
theorem whole_of {s : Str} {t : T} {j : Nat} {ns : List Str} (h : Pa s .sum 0 [] (.ok t j ns)) (hn : s.length ≤ 100) (e : cp s (skip s j) = none) : wholeR s = .ok t (skip s j) ns := by
  unfold wholeR
  obtain ⟨f, h⟩ := h
  cases h1 : parse s 306 .sum 0 [] with
  | none => exact (parse_some 306 .sum 0 [] (by simp only [Fm.Md.c]; omega) (fun _ _ => trivial) h1).elim
  | some r =>
    have a := Fm.parse_up h (max f 306) (Nat.le_max_left _ _)
    have b := Fm.parse_up h1 (max f 306) (Nat.le_max_right _ _)
    have c := Option.some.inj (a.symm.trans b)
    subst c
    dsimp only
    rw [if_pos e]
theorem skip_endgap {s : Str} : ∀ (g i : Nat), At s i (List.replicate g 32) → s.length = i + g → skip s i = i + g
  | 0, i, _, h => skip_no (by rw [cp_none (by omega)]; exact fun z => nomatch z)
  | g + 1, i, ha, h => by
    rw [skip_sp (show cp s i = some 32 from ha 0 32 rfl)]
    rw [skip_endgap g (i + 1) (fun k d e => by
      have := ha (k + 1) d (by rw [List.replicate_succ]; exact e)
      rw [show i + 1 + k = i + (k + 1) by omega]; exact this) (by omega)]
    omega
theorem whole_texB {B : Nat} {ws : List Str} (hw : ∀ w ∈ ws, Wd w) {t : T} {s x : Str} {l : Nat} (tx : TexB B t l x) (hs : s = x ∨ ∃ g g', s = gapS g ++ x ++ gapS g') (k : TOk ws t) (hn : s.length ≤ 100) : ∃ j, wholeR s = .ok t j (nmsT t) := by
  obtain ⟨g, g', e⟩ : ∃ g g', s.cps.toList = List.replicate g 32 ++ (x.cps.toList ++ List.replicate g' 32) := by
    rcases hs with rfl | ⟨g, g', rfl⟩
    · exact ⟨0, 0, by simp⟩
    · exact ⟨g, g', by rw [tlA, tlA, gap_tl, gap_tl, List.append_assoc]⟩
  have A := At.self s
  have L := len_of s
  rw [e] at A L
  obtain ⟨a1, a2⟩ := A.app
  obtain ⟨a3, a4⟩ := a2.app
  simp only [List.length_append, List.length_replicate, Nat.zero_add] at a1 a2 a3 a4 L
  obtain ⟨c, y, e1, n1⟩ := TexB.first hw tx k
  have c0 : cp s (0 + g) = some c := by rw [Nat.zero_add]; rw [e1] at a3; exact a3.hd
  have s0 := skip_gap g 0 c a1 c0 n1
  rw [Nat.zero_add] at s0
  have s1 := skip_endgap g' _ a4 (by omega)
  have en : cp s (skip s (g + x.cps.toList.length)) = none := by rw [s1]; exact cp_none (by omega)
  have z := (tx.reads hw s k).sum 0 g [] _ s0 a3 (fun d hd => by
    cases g' with
    | zero => rw [cp_none (by omega)] at hd; cases hd
    | succ g' =>
      have hz := a4 0 32 rfl
      rw [Nat.add_zero] at hz
      rw [hz] at hd
      cases hd
      exact ⟨by decide, by decide⟩) (show _ ≠ _ ∧ _ ≠ _ by rw [en]; exact And.intro (fun z => nomatch z) (fun z => nomatch z)) (.slStop (by rw [en]; simp))
  exact ⟨_, whole_of z hn (by rw [skip_skip]; exact en)⟩
theorem whole_tex {ws : List Str} (hw : ∀ w ∈ ws, Wd w) {t : T} {s : Str} (h : FTex t s) (k : TOk ws t) (hn : s.length ≤ 100) : ∃ j, wholeR s = .ok t j (nmsT t) := by
  obtain ⟨x, l, tx, hs⟩ := h
  exact whole_texB hw tx (hs.elim .inl fun ⟨g, g', _, e⟩ => .inr ⟨g, g', e⟩) k hn
end Rk

set_option Elab.async false
set_option linter.all false
set_option maxRecDepth 100000
set_option maxHeartbeats 2000000
/-! EvOps: a floor of any sign; one dict laid into another. -/
namespace CL
open PySem PySem.Spec PyProof.Rows L2
section
variable {X : Cx}
def FewZ (_ j : Int) : Prop := j ≠ 0 ∧ -(10 ^ 200) ≤ j ∧ j ≤ 10 ^ 200
theorem c_fdivZ : OpR X (binaryOp .FloorDiv) (cI2C FewZ fun i j => .int (i.fdiv j)) := cI2C_of (opI fun i j _ _ _ _ _ hc q => by
  obtain ⟨h0, h1, h2⟩ := hc
  have k : (10 : Nat) ^ 200 < 2 ^ 1000 := by decide +kernel
  have e : ((10 ^ 200 : Nat) : Int) = (10 : Int) ^ 200 := by norm_cast
  rw [← e] at h1 h2
  have : j.natAbs < 2 ^ 1000 := Nat.lt_of_le_of_lt (by omega) k
  have l := PySem.Flt.log2_lt_of (by decide) this
  exact floordiv_int h0 q (.inl (PyProof.noPylong_of_log2 (by omega))))
def rUpdK : V → List V → Hp → VK → Prop := fun x vs H Q => ∃ a b ks ls, x = .ref a ∧ vs = [.ref b] ∧ H a = some (.dK ks) ∧ a ≠ b ∧ H b = some (.dK ls) ∧ ks.length + ls.length ≤ sizeLine ∧ Q .non (upd H a (.dK (mergeK ks ls)))
theorem mt_updK : MtR X "dict.update" rUpdK := by
  intro pins s σ H x vs v us Q I rx rv h
  obtain ⟨a, b, ks, ls, rfl, rfl, ha, hab, hb, hz, q⟩ := h
  cases rx
  obtain ⟨u, rfl, ru⟩ := rv.one
  cases ru
  obtain ⟨z, hd, vs, rel, dd⟩ := dk_of I.hok ha
  obtain ⟨z2, hd2, vs2, rel2, dd2⟩ := dk_of I.hok hb
  refine call_meetsIn PySem.F.slot_dict_update dd.typeIs PySem.F.entry_dict_update (PySem.F.args_dict_update_2 _ _) (meets_dict_update (mixKind X.prog X.w) a b hab hd2)
    ⟨vs, vs2, dd, dd2, (by rw [← rel.length, ← rel2.length]; exact hz), fun h' dd' _ hs => ?_⟩
  have hl : (mergeK ks ls).length ≤ sizeLine := Nat.le_trans (length_mergeK ls ks) hz
  have he : ∃ q, h'.get? a = some q := let ⟨q, _, _, hq, _⟩ := dd'; ⟨q, hq⟩
  exact ⟨.non, _, d_write I (by rw [ha]; exact True.intro) hs he (dk_new hl hd (rel2.merge rel) dd'), rfl, q⟩
end
end CL

set_option Elab.async false
set_option linter.all false
set_option maxRecDepth 100000
set_option maxHeartbeats 2000000
/-! VarArg: a method with *more, called without more. -/
namespace CL
open PySem PySem.Spec PyProof.Rows L2
/-- as FnM, the arguments bound from an earlier state on -/
structure FnV (P : Program) (w : World) (K : PySem.W.Frag) (mg : Str → Option Value) (base : Heap) (CX : CXT) (n : Nat) (f : Addr) (fd : FuncData) (ps : List Str) (sp : Sp) : Prop where
  len : ∀ vs H Q E, sp vs H Q E → vs.length = ps.length
  go : ∀ (A : Around) (outer : List Env) (s0 s : Shared) (H : Hp) (args : Args) (us : List Value) (vs : List V) (Q : VK) (E : XK), Rm n A → K.In s0.heap → Env0 P w K mg base A outer s H →
    (∀ (M : Model) (A' : Around) (E' : Value → Shared → Prop) (Q' : List (Str × Value) → Shared → Prop), Q' (ps.zip us) s → wpAny M A' (bindArgs fd args) Q' E' s0) → Vals vs us → sp vs H Q E →
    codeAny (model P w) A (.call (.ref f) args) (CR CX outer P w H s Q E) s0
section
variable {P : Program} {w : World} {K : PySem.W.Frag} {mg : Str → Option Value} {base : Heap} {n : Nat} {f : Addr} {fd : FuncData} {ps : List Str} {sp : Sp}
theorem _root_.L2.Fun.okV {x qual : Str} {st : Stmt} {N : List Str} (F : Fun K x qual st f fd) (S : FnScope N ps (defScope st)) (len : ∀ vs H Q E, sp vs H Q E → vs.length = ps.length)
    (hbody : ∀ (cdv : Value) (A : Around) (outer : List Env) (s : Shared) (H : Hp) (vs : List V) (Q : VK) (E : XK), Rm n (A.deeper (envOfC qual (defScope st) s.heap.objs.size f cdv)) → sp vs H Q E →
      ∃ t, PSs (cxOf (L2.CX P w) P w K mg base N qual (defScope st) f cdv A outer s H E) (defBody st) t ∧ t { nx := fun _ H' => Q .non H', rt := Q } (start N vs) H) : FnV P w K mg base (L2.CX P w) (n + 1) f fd ps sp := by
  obtain ⟨oc, od, kV, doc, pm, an, cdv, ct, osl, rfl, lk, hcd⟩ := F.ex
  refine ⟨len, fun A outer s0 s H args us vs Q E hr KX0 e0 hb r hsp => ?_⟩
  have hl := len _ _ _ _ hsp
  have lim : s.heap.NoLimit := e0.mod.nolimit.keeps fun b o e => (e0.bs b o e).1
  have hkind : ∀ y ∈ ps.zip us, (defScope st).names.lookup y.1 = some .local ∨ ((defScope st).names.lookup y.1 = some .cell ∧ ((cellsFrom (s.heap.objs.size + 1) (defScope st).names []).lookup y.1).isSome = true) := fun ⟨n, v⟩ hy => by
    rcases S.par n (List.of_mem_zip hy).1 with q | q
    · exact .inl q
    · exact .inr ⟨q, PySem.W.cellsFrom_some _ _ _ (.inl q)⟩
  refine codeAny_call_function (by have := hr.dp; omega) (KX0 _ _ lk) rfl S.co S.gen rfl (PySem.W.codeRec_of KX0 hcd) (hb _ _ _ _ ?_)
  refine wpAny_newFunctionEnv_cells S.kind hkind fun env he s1 x => ?_
  subst he
  refine ⟨lim.keeps x.toInCall.keep, codeAny_func ?_⟩
  obtain ⟨t, ht, hq⟩ := hbody cdv A outer s H vs Q E (hr.deeper _) hsp
  have I : Inv (cxOf (L2.CX P w) P w K mg base N qual (defScope st) f cdv A outer s H E) [] (L2.start N vs) H s1 := inv_start S hr.hd e0 hl r x
  refine wpAny_mono (ht.run [] s1 (L2.start N vs) H _ I hq) (fun fl s' hs => ?_) fun e s' hs => hs
  have fin : ∀ {σ' : L2.St} {H' : Hp} {v : V} {u : Value}, Inv (cxOf (L2.CX P w) P w K mg base N qual (defScope st) f cdv A outer s H E) [] σ' H' s' → L2.RelV v u → Q v H' → CE outer P w H s Q u s' :=
    fun {σ' H' v u} J rv q => ⟨v, H', J.os, J.bare, J.base, J.hok, rv, q⟩
  cases fl with
  | ret u =>
    obtain ⟨v, σ', H', J, rv, q⟩ := hs
    exact fin J rv q
  | next =>
    obtain ⟨σ', H', J, q⟩ := hs
    exact fin (v := V.non) (u := Value.none) J rfl q
  | brk =>
    obtain ⟨_, _, _, q⟩ := hs
    exact False.elim q
  | cont =>
    obtain ⟨_, _, _, q⟩ := hs
    exact False.elim q
end
/-- the arguments, then an empty tuple that is made for it -/
def BindsV (fd : FuncData) (ps : List Str) : Prop := ∀ (us : List Value), us.length + 1 = ps.length → bindArgs fd ⟨us, []⟩ = (newTuple [] >>= fun t => pure (ps.zip (us ++ [t])))
structure MetV (P : Program) (w : World) (K : PySem.W.Frag) (mg : Str → Option Value) (base : Heap) (CX : CXT) (n : Nat) (C : Addr) (m : Str) (ps : List Str) (sp : Sp) : Prop where
  ex : ∃ f fd, Meth K C m f ∧ FnV P w K mg base CX n f fd ps sp ∧ BindsV fd ps
section
variable {X : Cx} {CX : CXT} {k j n : Nat} {C f : Addr} {fd : FuncData} {m : Str} {ps : List Str} {sp : Sp} {o e : Expr} {es : List Expr} {ta : TE} {t : TA} {apos pos : Pos} {E : XK}
theorem run_fnV {pins : List (Addr × Obj)} {σ : L2.St} {H : Hp} {s : Shared} {Q : VK} {us : List Value} {vs : List V} (F : FnV X.prog X.w X.K X.mg X.base CX n f fd ps sp) (hr : Rm n X.A) (hb : BindsV fd ps) (hx : Passes CX X E)
    (I : Inv X pins σ H s) (r : Vals vs us) (h : ∀ p, H p = none → sp (vs ++ [.ref p]) (upd H p (.tup [])) Q E) : wpAny (model X.prog X.w) X.A (call (.ref f) us) (EP X pins σ Q) X.xe s := by
  have hf : H s.heap.objs.size = none := I.hok.fresh (Nat.le_refl _)
  have hq := h _ hf
  have hl := F.len _ _ _ _ hq
  rw [List.length_append, List.length_singleton] at hl
  have I1 : Inv X pins σ (upd H s.heap.objs.size (.tup [])) { s with heap := s.heap.push { cls := .type "tuple", data := .seq ([] : List Value).toArray }, toks := s.toks } := I.laid (t' := s.toks) (fun b u e => Heap.get?_push_of_some _ e) (Nat.le_refl _) ⟨by decide, [], .nil, ⟨_, Heap.get?_push_size _ rfl, rfl, _, rfl⟩⟩
  have r2 : Vals (vs ++ [V.ref s.heap.objs.size]) (us ++ [Value.ref s.heap.objs.size]) := r.append (.cons rfl .nil)
  refine wpAny_call (codeAny_mono (F.go X.A X.stack s _ _ ⟨us, []⟩ (us ++ [Value.ref s.heap.objs.size]) (vs ++ [V.ref s.heap.objs.size]) Q E hr I.kIn I1.env0 (fun M A' E' Q' q => ?_) r2 hq) fun res s' hq => ?_)
  · rw [hb us (by rw [← r.length]; exact hl)]
    exact wpAny_bind (wpAny_newTuple (wpAny_pure q) (by decide))
  · match res, hq with
    | .error e, hq => exact hx pins σ _ _ e s' I1 hq
    | .ok (.ret u), hq => exact I1.after hq
    | .ok .next, hq => exact hq.elim
    | .ok .brk, hq => exact hq.elim
    | .ok .cont, hq => exact hq.elim
/-- o.m(..) where no more is given -/
def tMethV (C : Addr) (m : Str) (sp : Sp) (E : XK) (ta : TE) (t : TA) : TE := fun σ H Q => ta σ H fun x H1 => ∃ a dx fs, x = .ref a ∧ H1 a = some (.ins C dx fs) ∧ fs.lookup m = none ∧ t σ H1 fun vs H2 => ∀ p, H2 p = none → sp (x :: (vs ++ [.ref p])) (upd H2 p (.tup [])) Q E
theorem pe_mgV {pl : Sem Bool} (c : MetV X.prog X.w X.K X.mg X.base CX k C m ps sp) (cl : Cls X.K C) (hx : Passes CX X E) (hr : Rm j X.A) (hk : k ≤ j) (he : PE X o ta) (ha : PA X (e :: es) t)
    (hst : starEach (e :: es) X.env = (false, eval e X.env) :: starEach es X.env := by rfl) (hpl : (backTo pos (starEach es X.env)).any (·.1) = false := by rfl)
    (ht : eval (.Call (.Attribute o m apos) (e :: es) [] pos) X.env = (do
      let ov ← eval o X.env
      standAt apos.atName
      let (f, first) ← holding [ov] (getMethod ov m pl)
      callWith pos f first (backTo pos (starEach (e :: es) X.env)) (backToKw pos (keywordEach [] X.env))) := by rfl) :
    PE X (.Call (.Attribute o m apos) (e :: es) [] pos) (tMethV C m sp E ta t) := by
  obtain ⟨f, fd, M, F, b⟩ := c.ex
  refine ⟨fun pins s σ H Q I h => ?_⟩
  refine PySem.W.methodCall_KW (pl := pl) (thn (he.run pins s σ H _ I h) fun u s1 hh => ?_) ht
  obtain ⟨x, H1, I1, rx, a, dx, fs, ex, ea, l, q⟩ := hh
  subst ex
  obtain rfl : u = Value.ref a := rx
  refine getmeth_ok I1 ea cl M l ?_
  exact PySem.W.callWith_K (h₀ := X.base) (first := [.ref a]) I1.ok.mod.kin M.kp (thn (ha.run pos pins s1 σ H1 _ I1 q) fun us s2 ⟨vs, H2, I2, r2, q2⟩ => ⟨I2.kIn, run_fnV (us := .ref a :: us) (vs := .ref a :: vs) F (hr.less hk) b hx I2 (.cons rfl r2) q2⟩) hst hpl
end
end CL

set_option Elab.async false
set_option linter.all false
set_option maxRecDepth 100000
set_option maxHeartbeats 4000000
set_option pp.maxSteps 200
namespace Rk
open PySem PySem.Spec PyProof.Rows L2 CL Fm
def outV : Option Int → V
  | some z => .int z
  | none => .non
def spOper : Sp := fun vs H Q _ => match vs with
  | [.str o, .int a, .int b] => o ∈ ops ∧ Small a ∧ Small b ∧ Q (outV (opR o a b)) H
  | _ => False
structure BltE (mg : Str → Option Value) : Prop where
  max : mg "max" = none
  min : mg "min" = none
theorem neO {a b : Str} (h : a ≠ b) : ¬ decide (V.str a = V.str b) = true := fun z => h (by have := of_decide_eq_true z; injection this)
theorem small_few {a b : Int} (h1 : Small a) (h2 : Small b) : FewF a b := by
  obtain ⟨a1, a2⟩ := h1
  obtain ⟨b1, b2⟩ := h2
  refine ⟨⟨?_, ?_⟩, ?_, ?_⟩ <;> omega
abbrev sOper : Stmt := topS 17
abbrev nOper : List Str := ["sign", "one", "other"]
abbrev pOper : List Str := ["sign", "one", "other"]
theorem scOper : FnScope nOper pOper (defScope sOper) := ⟨rfl, rfl, rfl, by decide +kernel, rfl, by decide +kernel, by decide +kernel⟩
section
variable {P : Program} {w : World} {K : PySem.W.Frag} {mg : Str → Option Value} {base : Heap}
theorem ok_oper (B : BltE mg) (F : FunAt K mg "operated" sOper pOper) : DefOk P w K mg base CX0 1 "operated" pOper spOper := by
  refine F.ok scOper (fun vs H Q E h => ?_) (fun f cdv A outer s H vs Q E hr h => ?_)
  · unfold spOper at h
    split at h
    · rfl
    · exact h.elim
  · have hu := hu_of hr
    refine ⟨_, (pss_cons (ps_match (cv 0) (CasesOk.cons pe_str op_eq (pss_one (ps_ret (pe_op c_addI (cv 1) (cv 2)))) (CasesOk.cons pe_str op_eq (pss_one (ps_ret (pe_op c_sub (cv 1) (cv 2)))) (CasesOk.cons pe_str op_eq (pss_one (ps_ret (pe_op c_mul (cv 1) (cv 2)))) (CasesOk.cons pe_str op_eq (pss_one (ps_ret (pe_ifExp (ct_cmp op_eq (cv 2) pe_int (nomark _)) pe_non (pe_op c_fdivZ (cv 1) (cv 2))))) (CasesOk.cons pe_str op_eq (pss_one (ps_ret (pe_callB (c_min rfl) (by rfl) B.min (by decide +kernel) (pa_cons (cv 1) (pa_cons (cv 2) pa_nil))))) CasesOk.nil))))))
  (pss_one (ps_ret (pe_callB (c_max rfl) (by rfl) B.max (by decide +kernel) (pa_cons (cv 1) (pa_cons (cv 2) pa_nil)))))), ?_⟩
    unfold spOper at h
    split at h
    · rename_i o a b
      obtain ⟨ho, ha, hb, q⟩ := h
      simp only [ops, List.mem_cons, List.not_mem_nil, or_false] at ho
      rcases ho with rfl | rfl | rfl | rfl | rfl | rfl
      · refine ⟨rfl, ?_⟩
        show if decide (V.str "+" = V.str "+") = true then _ else _
        rw [if_pos (by decide +kernel)]
        have e : opR "+" a b = some (a + b) := if_pos rfl
        rw [e] at q
        exact q
      · refine ⟨rfl, ?_⟩
        show if decide (V.str "-" = V.str "+") = true then _ else _
        rw [if_neg (neO (by decide +kernel))]
        refine ⟨rfl, ?_⟩
        show if decide (V.str "-" = V.str "-") = true then _ else _
        rw [if_pos (by decide +kernel)]
        have e : opR "-" a b = some (a - b) := by unfold opR; rw [if_neg (by decide +kernel), if_pos rfl]
        rw [e] at q
        exact q
      · refine ⟨rfl, ?_⟩
        show if decide (V.str "*" = V.str "+") = true then _ else _
        rw [if_neg (neO (by decide +kernel))]
        refine ⟨rfl, ?_⟩
        show if decide (V.str "*" = V.str "-") = true then _ else _
        rw [if_neg (neO (by decide +kernel))]
        refine ⟨rfl, ?_⟩
        show if decide (V.str "*" = V.str "*") = true then _ else _
        rw [if_pos (by decide +kernel)]
        have e : opR "*" a b = some (a * b) := by unfold opR; rw [if_neg (by decide +kernel), if_neg (by decide +kernel), if_pos rfl]
        rw [e] at q
        exact ⟨small_few ha hb, q⟩
      · refine ⟨rfl, ?_⟩
        show if decide (V.str "//" = V.str "+") = true then _ else _
        rw [if_neg (neO (by decide +kernel))]
        refine ⟨rfl, ?_⟩
        show if decide (V.str "//" = V.str "-") = true then _ else _
        rw [if_neg (neO (by decide +kernel))]
        refine ⟨rfl, ?_⟩
        show if decide (V.str "//" = V.str "*") = true then _ else _
        rw [if_neg (neO (by decide +kernel))]
        refine ⟨rfl, ?_⟩
        show if decide (V.str "//" = V.str "//") = true then _ else _
        rw [if_pos (by decide +kernel)]
        have e : opR "//" a b = if b = 0 then none else some (a.fdiv b) := by unfold opR; rw [if_neg (by decide +kernel), if_neg (by decide +kernel), if_neg (by decide +kernel), if_pos rfl]
        rw [e] at q
        refine ⟨rfl, ?_⟩
        show if decide (V.int b = V.int 0) = true then _ else _
        by_cases h0 : b = 0
        · rw [if_pos h0] at q
          rw [if_pos (by rw [h0] <;> decide +kernel)]
          exact q
        · rw [if_neg h0] at q
          rw [if_neg (fun z => h0 (by have := of_decide_eq_true z; injection this))]
          obtain ⟨b1, b2⟩ := hb
          exact ⟨⟨h0, by omega, by omega⟩, q⟩
      · refine ⟨rfl, ?_⟩
        show if decide (V.str "min" = V.str "+") = true then _ else _
        rw [if_neg (neO (by decide +kernel))]
        refine ⟨rfl, ?_⟩
        show if decide (V.str "min" = V.str "-") = true then _ else _
        rw [if_neg (neO (by decide +kernel))]
        refine ⟨rfl, ?_⟩
        show if decide (V.str "min" = V.str "*") = true then _ else _
        rw [if_neg (neO (by decide +kernel))]
        refine ⟨rfl, ?_⟩
        show if decide (V.str "min" = V.str "//") = true then _ else _
        rw [if_neg (neO (by decide +kernel))]
        refine ⟨rfl, ?_⟩
        show if decide (V.str "min" = V.str "min") = true then _ else _
        rw [if_pos (by decide +kernel)]
        have e : opR "min" a b = some (min a b) := by unfold opR; rw [if_neg (by decide +kernel), if_neg (by decide +kernel), if_neg (by decide +kernel), if_neg (by decide +kernel), if_pos rfl]
        rw [e] at q
        exact q
      · refine ⟨rfl, ?_⟩
        show if decide (V.str "max" = V.str "+") = true then _ else _
        rw [if_neg (neO (by decide +kernel))]
        refine ⟨rfl, ?_⟩
        show if decide (V.str "max" = V.str "-") = true then _ else _
        rw [if_neg (neO (by decide +kernel))]
        refine ⟨rfl, ?_⟩
        show if decide (V.str "max" = V.str "*") = true then _ else _
        rw [if_neg (neO (by decide +kernel))]
        refine ⟨rfl, ?_⟩
        show if decide (V.str "max" = V.str "//") = true then _ else _
        rw [if_neg (neO (by decide +kernel))]
        refine ⟨rfl, ?_⟩
        show if decide (V.str "max" = V.str "min") = true then _ else _
        rw [if_neg (neO (by decide +kernel))]
        have e : opR "max" a b = some (max a b) := by unfold opR; rw [if_neg (by decide +kernel), if_neg (by decide +kernel), if_neg (by decide +kernel), if_neg (by decide +kernel), if_neg (by decide +kernel)]
        rw [e] at q
        exact q
    · exact h.elim
end
end Rk

set_option Elab.async false
set_option linter.all false
set_option maxRecDepth 100000
set_option maxHeartbeats 4000000
set_option pp.maxSteps 200
namespace Rk
open PySem PySem.Spec PyProof.Rows L2 CL Fm
/-- the result of a tree -/
def spRsOf (n : Nat) : Sp := fun vs H Q _ => match vs with
  | [v, .ref d] => ∃ t, ∃ ρ : Str → Option Rs, Tr H v t ∧ dep t < n ∧ NOk t ∧ ResD H d ρ ∧ RB ρ ∧ (∀ w ∈ nmsT t, ∃ r, ρ w = some r) ∧ ∀ v' H', Same H H' → RsAt H' v' (Fm.resT ρ t) → Q v' H'
  | _ => False
theorem atI_hd {x : V} {xs : List V} : atI (x :: xs) 0 = some x := by
  unfold atI ixN
  rw [if_pos (Int.le_refl 0), if_pos (by rw [List.length_cons]; omega)] <;> rfl
theorem len_two {α : Type} {l : List α} (h : l.length = 2) : ∃ x y, l = [x, y] := by
  match l, h with
  | [x, y], _ => exact ⟨x, y, rfl⟩
theorem SqT_tup {K : PySem.W.Frag} {H : Hp} {a : Addr} {xs : List V} (h : H a = some (.tup xs)) : SqT K H a xs := .of h
theorem Tr.same {H H' : Hp} (s : Same H H') {v : V} {t : T} (h : Tr H v t) : Tr H' v t := h.on fun b xs e => s _ _ e
/-- all but D is as it was -/
def Off (D : Addr) (H H' : Hp) : Prop := ∀ b o, b ≠ D → H b = some o → H' b = some o
theorem Off.same {D : Addr} {H0 H H' : Hp} (h : Off D H H') (s : Same H0 H) (n : H0 D = none) : Same H0 H' := fun b o e => h b o (ne_of_none e n) (s b o e)
abbrev sRsOf : Stmt := topS 18
abbrev nRsOf : List Str := ["tree", "results", "value", "parts", "part", "numbers", "word", "number"]
abbrev pRsOf : List Str := ["tree", "results"]
theorem scRsOf : FnScope nRsOf pRsOf (defScope sRsOf) := ⟨rfl, rfl, rfl, by decide +kernel, rfl, by decide +kernel, by decide +kernel⟩
section
variable {P : Program} {w : World} {K : PySem.W.Frag} {mg : Str → Option Value} {base : Heap}
theorem ok_rsof {tl : Tok} (hLM : mg "LIMIT" = some (.int 1000000000000000000000000000000 tl)) (DO : ∀ base, DefOk P w K mg base CX0 1 "operated" pOper spOper) (F : FunAt K mg "result_of" sRsOf pRsOf) : ∀ n, DefOk P w K mg base CX0 (2 + n) "result_of" pRsOf (spRsOf n) := by
  refine F.rec_ scRsOf (fun vs H Q E h => ?_) (fun n vs H Q E h => ?_) (fun n ih f cdv A outer s H vs Q E hr h => ?_)
  · unfold spRsOf at h
    split at h
    · obtain ⟨t, ρ, _, h1, _⟩ := h
      omega
    · exact h.elim
  · unfold spRsOf at h
    split at h
    · rfl
    · exact h.elim
  · have hu := hu_of hr
    refine ⟨_, (pss_cons (ps_if (ct_cmp op_eq (pe_ix ix_tup (cv 0) pe_int (fun _ _ => rfl)) pe_str (nomark _))
  (pss_one (ps_ret (pe_dget hu (cv 1) (pe_ix ix_tup (cv 0) pe_int (fun _ _ => rfl)) (fun _ _ => rfl))))
  pss_nil)
  (pss_cut (ps_if (ct_cmp op_eq (pe_ix ix_tup (cv 0) pe_int (fun _ _ => rfl)) pe_str (nomark _))
  (pss_one (ps_set (i := 2) scRsOf.nd rfl (.inl rfl) (pe_ix ix_tup (cv 0) pe_int (fun _ _ => rfl))))
  (pss_cons (ps_setLc (i := 3) (own := [("part", 4)]) (g := gName 4) (by rfl) scRsOf.nd rfl rfl (sw_true rfl rfl rfl (by decide +kernel)) (pi_tup (pe_slice sl_tup (cv 0) (po_some pe_int) po_none)) (blkOk_by (N := nRsOf) (sc := (defScope sRsOf)) (own := [("part", 4)]) (by decide +kernel)) (fun _ _ _ _ _ => pg_name (i := 4) scRsOf.nd rfl (Or.inl rfl)) (fun _ _ _ _ _ => pts_nil) (fun _ _ _ _ _ => (pe_def ih hr (by omega) (pa_cons (cv 4) (pa_cons (cv 1) pa_nil)))))
  (pss_cons (ps_for PassesOwn.never rfl (pi_list (cv 3)) (pg_name (i := 4) scRsOf.nd rfl (.inl rfl))
  (pss_one (ps_if (ct_cmp op_eq (pe_ix ix_tup (cv 4) pe_int (fun _ _ => rfl)) pe_str (nomark _))
  (pss_one (ps_ret (cv 4)))
  pss_nil)))
  (pss_cons (ps_setLc (i := 5) (own := [("word", 6), ("number", 7)]) (g := gTup K 2 (gCons (gName 6) (gCons (gName 7) gNil))) (by rfl) scRsOf.nd rfl rfl (sw_true rfl rfl rfl (by decide +kernel)) (pi_list (cv 3)) (blkOk_by (N := nRsOf) (sc := (defScope sRsOf)) (own := [("word", 6), ("number", 7)]) (by decide +kernel)) (fun _ _ _ _ _ => pg_tup (by rfl) (pgs_cons (pg_name (i := 6) scRsOf.nd rfl (Or.inl rfl)) (pgs_cons (pg_name (i := 7) scRsOf.nd rfl (Or.inl rfl)) pgs_nil))) (fun _ _ _ _ _ => pts_nil) (fun _ _ _ _ _ => (cv 7)))
  (pss_one (ps_set (i := 2) scRsOf.nd rfl (.inl rfl) (pe_ifExp (ct_cmp op_eq (pe_ix ix_tup (cv 0) pe_int (fun _ _ => rfl)) pe_str (nomark _)) (pe_un c_neg (pe_ix c_ixL (cv 5) pe_int (fun _ _ => rfl))) (pe_def (DO _) hr (by omega) (pa_cons (pe_ix ix_tup (cv 0) pe_int (fun _ _ => rfl)) (pa_cons (pe_ix c_ixL (cv 5) pe_int (fun _ _ => rfl)) (pa_cons (pe_ix c_ixL (cv 5) pe_int (fun _ _ => rfl)) pa_nil)))))))))))
  (pss_cons (ps_if (ct_cmp op_isN (cv 2) pe_non (nomark _))
  (pss_one (ps_ret (pe_tup (pa_cons pe_str (pa_cons pe_str pa_nil)))))
  pss_nil)
  (pss_one (ps_ret (pe_ifExp (pt_chain c_le c_le (pe_un c_neg (pe_glob (v := .int 1000000000000000000000000000000) (by rfl) hLM ⟨tl, rfl⟩)) (cv 2) (pe_glob (v := .int 1000000000000000000000000000000) (by rfl) hLM ⟨tl, rfl⟩)) (pe_tup (pa_cons pe_str (pa_cons (cv 2) pa_nil))) (pe_tup (pa_cons pe_str (pa_cons pe_str pa_nil))))))))), ?_⟩
    unfold spRsOf at h
    split at h
    · rename_i v d
      obtain ⟨t, ρ, tr, hd, nk, hR, hB, hN, q⟩ := h
      by_cases isn : ∃ (b : Addr) (w0 : Str), v = .ref b ∧ t = .nam w0 ∧ H b = some (.tup [.str "name", .str w0])
      · obtain ⟨b, w0, rfl, rfl, e⟩ := isn
        refine ⟨b, _, 0, .str "name", rfl, rfl, SqT.of e, rfl, rfl, ?_⟩
        show if decide (V.str "name" = V.str "name") = true then _ else _
        rw [if_pos (by decide +kernel)]
        obtain ⟨kvs, hk, hv⟩ := hR
        obtain ⟨r, hr0⟩ := hN w0 (by simp [nmsT])
        have hv := hv w0
        rw [hr0] at hv
        obtain ⟨u, hu1, hu2⟩ := hv
        refine ⟨b, _, 1, .str w0, rfl, rfl, SqT.of e, rfl, d, u, rfl, ?_, ?_⟩
        · have := DGet.k (k := .inr w0) hk
          rw [hu1] at this
          exact this
        · refine q _ _ (Same.refl _) ?_
          unfold Fm.resT
          rw [hr0]
          exact hu2
      obtain ⟨b, o, xs, ev, e, no⟩ : ∃ (b : Addr) (o : Str) (xs : List V), v = .ref b ∧ H b = some (.tup (.str o :: xs)) ∧ o ≠ "name" := by
        cases tr with
        | nam e => exact (isn ⟨_, _, rfl, rfl, e⟩).elim
        | num e => exact ⟨_, _, _, rfl, e, by decide +kernel⟩
        | neg e _ => exact ⟨_, _, _, rfl, e, by decide +kernel⟩
        | op e _ _ => exact ⟨_, _, _, rfl, e, fun z => by
            have h1 := nk.1
            rw [z] at h1
            exact absurd h1 (by decide +kernel)⟩
      subst ev
      refine ⟨b, _, 0, .str o, rfl, rfl, SqT.of e, atI_hd, rfl, ?_⟩
      show if decide (V.str o = V.str "name") = true then _ else _
      rw [if_neg (neO no)]
      refine ⟨fun σ' H1 => ∃ (z : Option Int) (e3 e4 e5 e6 e7 : Option V), σ' = [some (.ref b), some (.ref d), some (outV z), e3, e4, e5, e6, e7] ∧ Same H H1 ∧ endR z = Fm.resT ρ t, ?first, ?second⟩
      case second =>
        rintro σ' H1 ⟨z, e3, e4, e5, e6, e7, rfl, sm, ez⟩
        refine ⟨rfl, ?_⟩
        show if decide (outV z = V.non) = true then _ else _
        cases z with
        | none =>
          rw [if_pos (by decide +kernel)]
          refine ⟨by show 2 ≤ sizeLine; decide, fun a na => q _ _ (sm.trans (same_new na)) ?_⟩
          rw [← ez]
          exact ⟨a, rfl, upd_same⟩
        | some z =>
          rw [if_neg (fun y => by have := of_decide_eq_true y; cases this)]
          have yes : Small z → Fm.resT ρ t = .val z := fun y => ez.symm.trans (if_pos y)
          have no2 : ¬ Small z → Fm.resT ρ t = .fail "range" := fun y => ez.symm.trans (if_neg y)
          have bad : ¬ Small z → ∀ a, H1 a = none → Q (.ref a) (upd H1 a (.tup [.str "failed", .str "range"])) := fun y a na => q _ _ (sm.trans (same_new na)) (by rw [no2 y]; exact ⟨a, rfl, upd_same⟩)
          refine ⟨_, rfl, ?_⟩
          show if decide (-1000000000000000000000000000000 ≤ z) = true then _ else _
          by_cases g1 : (-1000000000000000000000000000000 : Int) ≤ z
          · rw [if_pos (decide_eq_true g1)]
            refine ⟨_, rfl, ?_⟩
            show if decide (z ≤ 1000000000000000000000000000000) = true then _ else _
            by_cases g2 : z ≤ 1000000000000000000000000000000
            · rw [if_pos (decide_eq_true g2)]
              refine ⟨by show 2 ≤ sizeLine; decide, fun a na => q _ _ (sm.trans (same_new na)) ?_⟩
              rw [yes ⟨by omega, by omega⟩]
              exact ⟨a, rfl, upd_same⟩
            · rw [if_neg (fun y => g2 (of_decide_eq_true y))]
              exact ⟨by show 2 ≤ sizeLine; decide, bad (fun y => g2 (by have := y.2; omega))⟩
          · rw [if_neg (fun y => g1 (of_decide_eq_true y))]
            refine ⟨false, rfl, ?_⟩
            show if false = true then _ else _
            rw [if_neg Bool.false_ne_true]
            exact ⟨by show 2 ≤ sizeLine; decide, bad (fun y => g1 (by have := y.1; omega))⟩
      case first =>
        refine ⟨b, _, 0, .str o, rfl, rfl, SqT.of e, atI_hd, rfl, ?_⟩
        show if decide (V.str o = V.str "number") = true then _ else _
        by_cases isnum : ∃ n0 : Int, t = .num n0 ∧ H b = some (.tup [.str "number", .int n0])
        · obtain ⟨n0, rfl, e2⟩ := isnum
          have e3 := e.symm.trans e2
          injection e3 with e3
          injection e3 with e3
          injection e3 with e3 e4
          injection e3 with e3
          subst e3 e4
          rw [if_pos (by decide +kernel)]
          exact ⟨b, _, 1, .int n0, rfl, rfl, SqT.of e, rfl, some n0, _, _, _, _, _, rfl, Same.refl _, rfl⟩
        obtain ⟨ts, nu, hl, hx, hres, hway⟩ : ∃ ts : List T, o ≠ "number" ∧ xs.length = ts.length ∧ (∀ (i : Nat) (x : V), xs[i]? = some x → ∃ t', ts[i]? = some t' ∧ Tr H x t' ∧ dep t' < n ∧ NOk t' ∧ ∀ w ∈ nmsT t', ∃ r, ρ w = some r) ∧
            Fm.resT ρ t = finT o (ts.map (Fm.resT ρ)) ∧ ((o = "minus" ∧ ts.length = 1) ∨ (o ∈ ops ∧ ts.length = 2)) := by
          have inj : ∀ {p : Str} {ys : List V}, H b = some (.tup (.str p :: ys)) → p = o ∧ ys = xs := fun {p ys} e2 => by
            have e3 := e2.symm.trans e
            injection e3 with e3
            injection e3 with e3
            injection e3 with e3 e4
            injection e3 with e3
            exact ⟨e3, e4⟩
          cases tr with
          | nam e2 => exact (no (inj e2).1.symm).elim
          | num e2 => exact (isnum ⟨_, rfl, e2⟩).elim
          | @neg _ v1 t1 e2 tr1 =>
            obtain ⟨rfl, rfl⟩ := inj e2
            refine ⟨[t1], by decide +kernel, rfl, fun i x hi => ?_, rfl, .inl ⟨rfl, rfl⟩⟩
            match i, hi with
            | 0, hi =>
              cases hi
              exact ⟨t1, rfl, tr1, Nat.lt_of_succ_lt_succ hd, nk, hN⟩
          | @op _ o1 v1 v2 t1 t2 e2 tr1 tr2 =>
            obtain ⟨rfl, rfl⟩ := inj e2
            refine ⟨[t1, t2], fun z => ?_, rfl, fun i x hi => ?_, rfl, .inr ⟨nk.1, rfl⟩⟩
            · have h1 := nk.1
              rw [z] at h1
              exact absurd h1 (by decide +kernel)
            · have hd : max (dep t1) (dep t2) + 1 < n + 1 := hd
              match i, hi with
              | 0, hi =>
                cases hi
                exact ⟨t1, rfl, tr1, by omega, nk.2.1, fun w hw => hN w (List.mem_append_left _ hw)⟩
              | 1, hi =>
                cases hi
                exact ⟨t2, rfl, tr2, by omega, nk.2.2, fun w hw => hN w (List.mem_append_right _ hw)⟩
        rw [if_neg (neO nu)]
        have few : xs.length = 1 ∨ xs.length = 2 := by rcases hway with ⟨_, h⟩ | ⟨_, h⟩ <;> omega
        have cx : cutV (V.str o :: xs) (some 1) none = xs ∧ ¬ (HT.sIx (V.str o :: xs).length 0 (some 1) = 0 ∧ HT.sIx (V.str o :: xs).length (V.str o :: xs).length none = (V.str o :: xs).length) := by
          match xs, few with
          | [x], _ => exact ⟨rfl, by show ¬ (HT.sIx 2 0 (some 1) = 0 ∧ HT.sIx 2 2 none = 2); decide⟩
          | [x, y], _ => exact ⟨rfl, by show ¬ (HT.sIx 3 0 (some 1) = 0 ∧ HT.sIx 3 3 none = 3); decide⟩
        refine ⟨1, rfl, b, _, rfl, SqT.of e, cx.2, fun tp ntp => ⟨tp, rfl, ⟨_, SqT.of upd_same⟩, fun D1 nD => ?_⟩⟩
        rw [cx.1] at nD ⊢
        have st := same_new (o := .tup xs) ntp
        have htp : upd H tp (.tup xs) tp = some (.tup xs) := upd_same
        generalize upd H tp (.tup xs) = H2 at st htp nD
        generalize hrs : ts.map (Fm.resT ρ) = rs at hres
        have rl : rs.length = ts.length := by rw [← hrs, List.length_map]
        refine lc_tup (a := tp) (xs := xs) (fun i H' => ∃ vs, H' D1 = some (.lst vs) ∧ RsAll H' vs (rs.take i) ∧ Off D1 H2 H') ⟨[], upd_same, (by rw [List.take_zero]; trivial), fun b o n h => by rw [upd_ne n]; exact h⟩
          (fun i H' hi ⟨vs, g1, g2, g3⟩ => SqT.of (g3 _ _ (ne_of_none htp nD) htp)) ?turn ?rest
        case turn =>
          rintro i x H3 hi ⟨vs, g1, g2, g3⟩
          refine ⟨rfl, ?_⟩
          obtain ⟨t', et, tr', d', nk', hN'⟩ := hx i x hi
          have S3 := st.trans (g3.same (Same.refl _) nD)
          refine ⟨t', ρ, tr'.same S3, d', nk', hR.same S3, hB, hN', fun v' H4 s4 hv' => ?_⟩
          have k : ∀ c ys, H4 c = some (.tup ys) → upd H4 D1 (.lst (vs ++ [v'])) c = some (.tup ys) := fun c ys h => by
            rw [upd_ne (ne_of h (s4 _ _ g1) fun z => nomatch z)]; exact h
          refine ⟨vs, s4 _ _ g1, ?_, vs ++ [v'], upd_same, ?_, fun c o n h => by rw [upd_ne n]; exact s4 _ _ (g3 c o n h)⟩
          · rw [g2.len, List.length_take]
            exact Nat.lt_of_le_of_lt (show min i rs.length ≤ 2 by omega) (by decide)
          · rw [List.take_add_one]
            have : rs[i]? = some (Fm.resT ρ t') := by rw [← hrs, List.getElem?_map, et] <;> rfl
            rw [this]
            exact .snoc (hv'.on k) (g2.on fun c ys h => k c ys (s4 _ _ h))
        case rest =>
          rintro H3 ⟨vs, g1, g2, g3⟩
          have S3 := st.trans (g3.same (Same.refl _) nD)
          rw [List.take_of_length_le (by omega)] at g2
          have vl := g2.len
          refine ⟨D1, rfl, ⟨_, SqL.of g1⟩, for_list (xs := vs) (fun i σ H' => (∃ e4, σ = [some (.ref b), some (.ref d), none, some (.ref D1), e4, none, none, none]) ∧ H' = H3 ∧ ∀ j, j < i → ∃ n, rs[j]? = some (.val n))
            ⟨⟨_, rfl⟩, rfl, fun j hj => absurd hj (by omega)⟩ (fun i σ H' _ h => SqL.of (h.2.1 ▸ g1)) ?each ?done⟩
          case each =>
            rintro i x σ H' hi ⟨⟨e4, rfl⟩, rfl, hj⟩
            obtain ⟨r, er, ra⟩ := g2.at_ hi
            cases r with
            | val n0 =>
              obtain ⟨a, rfl, ea⟩ := ra
              refine ⟨a, _, 0, .str "value", rfl, rfl, SqT.of ea, rfl, rfl, ?_⟩
              show if decide (V.str "value" = V.str "failed") = true then _ else _
              rw [if_neg (neO (by decide +kernel))]
              refine ⟨⟨_, rfl⟩, rfl, fun j hj' => ?_⟩
              by_cases h : j < i
              · exact hj j h
              · have : j = i := by omega
                subst this
                exact ⟨n0, er⟩
            | fail w0 =>
              have ra' := ra
              obtain ⟨a, rfl, ea⟩ := ra
              refine ⟨a, _, 0, .str "failed", rfl, rfl, SqT.of ea, rfl, rfl, ?_⟩
              show if decide (V.str "failed" = V.str "failed") = true then _ else _
              rw [if_pos (by decide +kernel)]
              refine q _ _ S3 ?_
              have := failOf_at hj er
              rw [hres]
              unfold finT
              rw [this]
              exact ra'
          case done =>
            rintro σ G ⟨⟨e4, rfl⟩, rfl, hj⟩
            have fn := failOf_no (rs := rs) fun j hj' => hj j (by omega)
            have hn := nums_of fn
            have hres : Fm.resT ρ t = endR (valOf o (numsOf rs)) := by rw [hres]; unfold finT; rw [fn]
            generalize numsOf rs = ns at hn hres
            have nl : ns.length = ts.length := by rw [← rl, hn, List.length_map]
            refine ⟨D1, rfl, ⟨_, SqL.of g1⟩, fun D2 nD2 => ?_⟩
            refine lc_list (a := D1) (xs := vs) (fun i H' => H' D2 = some (.lst ((ns.take i).map V.int)) ∧ Off D2 G H') ⟨by rw [List.take_zero]; exact upd_same, fun b o n h => by rw [upd_ne n]; exact h⟩
              (fun i H' hi ⟨p1, p2⟩ => SqL.of (p2 _ _ (ne_of_none g1 nD2) g1)) ?turn2 ?rest2
            case turn2 =>
              rintro i x H4 hi ⟨p1, p2⟩
              obtain ⟨r, er, ra⟩ := g2.at_ hi
              rw [hn, List.getElem?_map] at er
              cases hni : ns[i]? with
              | none => rw [hni] at er; cases er
              | some n0 =>
                rw [hni] at er
                cases er
                obtain ⟨a, rfl, ea⟩ := ra
                have ea4 := p2 _ _ (ne_of_none ea nD2) ea
                refine ⟨a, _, rfl, SqT.of ea4, rfl, _, _, rfl, _, _, rfl, rfl, rfl, ?_⟩
                refine ⟨_, p1, ?_, ?_, fun c o n h => by rw [upd_ne n]; exact p2 c o n h⟩
                · rw [List.length_map, List.length_take]
                  exact Nat.lt_of_le_of_lt (show min i ns.length ≤ 2 by omega) (by decide)
                · rw [upd_same, List.take_add_one, hni, List.map_append] <;> rfl
            case rest2 =>
              rintro H4 ⟨p1, p2⟩
              have S4 := S3.trans (p2.same (Same.refl _) nD2)
              have nv : ns.length = vs.length := by omega
              rw [← nv, List.take_of_length_le (Nat.le_refl _)] at p1
              refine ⟨b, _, 0, .str o, rfl, rfl, SqT.of (S4 _ _ e), atI_hd, rfl, ?_⟩
              show if decide (V.str o = V.str "minus") = true then _ else _
              rcases hway with ⟨rfl, h1⟩ | ⟨ho, h2⟩
              · rw [if_pos (by decide +kernel)]
                obtain ⟨x0, rfl⟩ : ∃ x0, ns = [x0] := List.length_eq_one_iff.mp (by omega)
                exact ⟨_, .int x0, SqL.of p1, rfl, some (-x0), _, _, _, _, _, rfl, S4, hres.symm⟩
              · have om : o ≠ "minus" := fun z => absurd (z ▸ ho) (by decide +kernel)
                rw [if_neg (neO om)]
                obtain ⟨x0, x1, rfl⟩ : ∃ x0 x1, ns = [x0, x1] := len_two (by omega)
                obtain ⟨t1, t2, rfl⟩ := len_two h2
                rw [hn] at hrs
                have z1 : Fm.resT ρ t1 = .val x0 := (List.cons.inj hrs).1
                have z2 : Fm.resT ρ t2 = .val x1 := (List.cons.inj (List.cons.inj hrs).2).1
                refine ⟨b, _, 0, .str o, rfl, rfl, SqT.of (S4 _ _ e), atI_hd, _, .int x0, SqL.of p1, rfl, _, .int x1, SqL.of p1, rfl, ho, res_small hB z1, res_small hB z2, ?_⟩
                exact ⟨opR o x0 x1, _, _, _, _, _, rfl, S4, hres.symm⟩
    · exact h.elim
end
end Rk

set_option Elab.async false
set_option linter.all false
set_option maxRecDepth 100000
set_option maxHeartbeats 2000000
/-! LcR: list comprehensions whose items may raise: the exception leaves the block, then the def. -/
namespace LcR
open PySem PySem.Spec PyProof.Rows L2
/-- a block's end, with the error's way told for the block's own names -/
def endR (M : Model) (A : Around) (E : Value → Shared → Prop) (use : Option (Value → Sem Unit)) (Q : Value → Shared → Prop) (acc : Value) (ce : Env) (r : Result) (s' : Shared) : Prop := match r with
  | .ok _ => compPost M A E use Q acc ce.locals (.ok .next) s'
  | .error x => ∃ m, s'.heap.Ns ce.locals m ∧ ∀ h', Heap.SameBut ce.locals s'.heap h' → wpAny M A (passOn "comprehension.variables-let-go" x ce : Sem Value) (fun _ _ => False) E { s' with heap := h' }
section
variable {M : Model} {A : Around} {E : Value → Shared → Prop} {s : Shared} {env : Env}
theorem comp_err {e : Expr} {scope : Scope} {pos : Pos} {make head : Sem Value} {c : Comprehension} {cs : List Comprehension} {cl : List (PySem.Str × Addr)} {use : Option (Value → Sem Unit)} {Q : Value → Shared → Prop}
    (h1 : clausesOf e = c :: cs) (h2 : ∀ x, foldedSetIterable c.iter env x = pure x) (h3 : closureFor scope env = pure cl) (h4 : scope.kind = .function) (h5 : ∀ x ∈ scope.names, x.2 = .local → scope.names.lookup x.1 = some .local)
    (h : wpAny M A head (fun x s₁ => wpAny M A (pyIter x) (fun it s₂ => wpAny M A make (fun acc s₃ => wpAny M A (newFunctionEnv scope env.globals cl [] env.qual none .none (some env)) (fun ce s₄ =>
      codeAny M A (.compStart e 0 it acc { ce with scope := relabel scope env }) (endR M A E use Q acc { ce with scope := relabel scope env }) s₄) E s₃) E s₂) E s₁) E s) :
    wpAny M A (comprehension e scope env pos make false head use) Q E s := by
  have up : ∀ {x : Value} {s : Shared}, E x s → E x s := fun z => z
  unfold comprehension
  rw [h3, h1]
  refine wpAny_bind (wpAny_mono h (fun x s₁ k₁ => ?_) fun _ _ => up)
  refine wpAny_bind (wpAny_standAt (wpAny_bind (wpAny_of_eq (h2 x) (wpAny_bind (wpAny_holding (wpAny_mono k₁ (fun it s₂ k₂ => ?_) fun _ _ => up))))))
  refine wpAny_standIf (wpAny_bind (wpAny_mono k₂ (fun acc s₃ k₃ => ?_) fun _ _ => up))
  refine wpAny_bind (wpAny_pure (wpAny_bind (wpAny_mono k₃ (fun ce s₄ k₄ => ?_) fun _ _ => up)))
  dsimp only
  have named : ∀ x ∈ (scope.names.filter fun x => (x.2 == .local || x.2 == .cell) && x.1 != (".0" : PySem.Str)).reverse, x.2 = .local → Env.kindOf { ce with scope := relabel scope env } x.1 = some .local := fun x hx hl =>
    lookup_relabel_local (h5 x (List.mem_filter.mp (List.mem_reverse.mp hx)).1 hl)
  have named' : ∀ x ∈ (scope.names.filter fun x => (x.2 == .local || x.2 == .cell) && x.1 != (".0" : PySem.Str)).reverse.drop 1 ++ (scope.names.filter fun x => (x.2 == .local || x.2 == .cell) && x.1 != (".0" : PySem.Str)).reverse.take 1, x.2 = .local →
      Env.kindOf { ce with scope := relabel scope env } x.1 = some .local := fun x hx hl => (List.mem_append.mp hx).elim (fun z => named x (List.mem_of_mem_drop z) hl) (fun z => named x (List.mem_of_mem_take z) hl)
  refine wpAny_holding (wpAny_bind (wpAny_attempt (wpAny_holding (wpAny_run (codeAny_mono k₄ fun r s' z => ?_)))))
  cases r with
  | ok f =>
    have z : compPost M A E use Q acc ce.locals (.ok .next) s' := z
    cases use with
    | none =>
      obtain ⟨m, hn, z⟩ := z
      exact wpAny_bind (wpAny_holding (wpAny_comp_letGo (cenv := { ce with scope := relabel scope env }) h4 _ s' m named hn fun h' m' _ hs' => wpAny_pure (z h' hs')))
    | some u =>
      refine wpAny_bind (wpAny_rule (wpAny_bind (wpAny_holding (wpAny_mono z (fun _ s'' z' => ?_) fun _ _ => up))))
      obtain ⟨m, hn, z'⟩ := z'
      exact wpAny_bind (wpAny_comp_letGo (cenv := { ce with scope := relabel scope env }) h4 _ s'' m named' hn fun h' m' _ hs' => wpAny_pure (z' h' hs'))
  | error x =>
    obtain ⟨m, hn, z⟩ := z
    exact wpAny_bind (wpAny_holding (wpAny_comp_letGo (cenv := { ce with scope := relabel scope env }) h4 _ s' m named hn fun h' m' _ hs' => wpAny_mono (z h' hs') (fun _ _ f => f.elim) fun _ _ => up))
end
section
variable {X : Cx}
theorem note_same {x : Value} {e1 e2 : Env} (h : e1.frame = e2.frame) : noteFrame x e1 = noteFrame x e2 := by
  unfold noteFrame PySem.frameOf
  rw [h]
theorem pass_same {α : Type} {what : String} {x : Value} {e1 e2 : Env} (h : e1.frame = e2.frame) : (passOn what x e1 : Sem α) = passOn what x e2 := by
  unfold PySem.passOn
  rw [h]
/-- frames stay where only a dict changed that is none of them -/
theorem frames_but {h h' base : Heap} {C : Addr} {l : List Env} (k : ∀ b, b ≠ C → h'.get? b = h.get? b) (hC : C ∉ frs l) (x : h.FunFrames base l) : h'.FunFrames base l := by
  induction l with
  | nil => trivial
  | cons e r ih =>
    obtain ⟨hk, ⟨L, o, hf, hn, ho, hd⟩, hr⟩ := x
    have hm : ∀ b ∈ frs r, b ∈ frs (e :: r) := fun b hb => by
      obtain ⟨z, hz, q⟩ := List.mem_filterMap.mp hb
      exact List.mem_filterMap.mpr ⟨z, List.mem_cons_of_mem _ hz, q⟩
    have hL : L ≠ C := fun z => hC (z ▸ List.mem_filterMap.mpr ⟨e, List.mem_cons_self, hf⟩)
    exact ⟨hk, ⟨L, o, hf, hn, (k L hL).trans ho, hd⟩, ih (fun z => hC (hm _ z)) hr⟩
/-- an exception of the block, behind the block -/
theorem arrives {W : WX} {E : XK} {pins : List (Addr × Obj)} {σ : L2.St} {H : Hp} {s s' : Shared} {u : Value} {ce : Env} (I : Inv X pins σ H s) (hs : X.stack = X.env :: X.outer) (hf : X.env.frame = some X.env.locals) (tk : Takes X W)
    (hW : ∀ cls d H2, E cls d H2 → W cls d σ H2) (cf : ce.frame = X.env.frame) (fC : FpOk X pins H ce.locals) (ns : ∃ m, s.heap.Ns ce.locals m) (nst : ce.locals ∉ frs X.stack) {acc : Value} {use : Option (Value → Sem Unit)} {Qf : Value → Shared → Prop}
    (c : L2.CX X.prog X.w X.stack H s E u s') : notedBy (model X.prog X.w) X.A ce (fun e s1 => endR (model X.prog X.w) X.A X.xe use Qf acc ce (.error e) s1) u s' := by
  obtain ⟨a, B, H2, cls, d, rfl, fl, hok, ub, na, os, ag, hE⟩ := c
  have hfr : X.A.frames = some (X.env :: X.outer) := by rw [I.ok.frames, hs]
  obtain ⟨m, oC, es, ep, hoC, hdC, rC⟩ := ns
  have nC : H ce.locals = none := fC.1
  have nC2 : H2 ce.locals = none := ub.free _ _ hoC nC
  have BC : B.get? ce.locals = some oC := ub.keep _ _ hoC nC nst
  have dC : ∀ vs, oC.data ≠ .fields vs := fun vs z => by rw [hdC] at z; cases z
  have aC : a ≠ ce.locals := fun z => by
    have := fl.2.1
    rw [z, BC] at this
    cases this
  show wpAny _ _ (noteFrame (.ref a) ce) _ _ _
  rw [note_same cf]
  rw [hs] at fl
  refine HandSPX.looks_onZ Zc.steady hfr hf fl fun h1 held up1 => ?_
  refine ⟨m, ⟨oC, es, ep, held.1 _ _ BC, hdC, rC⟩, fun h2 sb => ?_⟩
  rw [pass_same cf]
  obtain ⟨G, g1, g2⟩ := restrict B fun b => decide (b ≠ ce.locals)
  have gB : ∀ b o, G.get? b = some o → B.get? b = some o ∧ b ≠ ce.locals := fun b o e => by
    by_cases z : b = ce.locals
    · rw [g2 b (by simp [z])] at e
      cases e
    · rw [g1 b (by simp [z])] at e
      exact ⟨e, z⟩
  have gn : ∀ b, b ≠ ce.locals → G.get? b = B.get? b := fun b z => g1 b (by simp [z])
  have noG : ∀ b, B.get? b = none → G.get? b = none := fun b z => by
    cases q : G.get? b with
    | none => rfl
    | some o => rw [(gB b o q).1] at z; cases z
  obtain ⟨st1, na1, fr1, tr1⟩ := held
  rw [← hs] at fr1
  have st2 : G.StaysIn h2 := fun b o e => (sb.2 b (gB b o e).2).trans (st1 b o (gB b o e).1)
  have fr2 : h2.FunFrames G X.stack := by
    have : h2.FunFrames B X.stack := frames_but (fun b z => sb.2 b z) nst fr1
    exact funFrames_none this fun L hL => noG L (by
      obtain ⟨hh, _⟩ := fr1.mem hL
      exact hh)
  obtain ⟨oe, vs, T, oT, ts, he, hz, hd, hv1, hnT, hTe, hT, hdT, h3⟩ := tr1
  have TC : T ≠ ce.locals := fun z => by rw [z, BC] at hnT; cases hnT
  have he2 : h2.get? a = some oe := (sb.2 a aC).trans he
  have tr2 : HandSPX.TracedZ h2 G a (Zc cls d) (rawInt X.env.locals) := ⟨oe, vs, T, oT, ts, he2, hz, hd, hv1, noG T hnT, hTe, (sb.2 T TC).trans hT, hdT, h3⟩
  unfold PySem.passOn
  refine wpAny_bind (wpAny_field he2 hd hv1 ?_)
  rw [if_neg (by simp)]
  rw [hf]
  refine wpAny_bind ?_
  refine HandSPX.setFlight_onZ (L := X.env.locals) ⟨st2, noG a na1, fr2, tr2⟩ fun h3' held3 up3 => ?_
  refine wpAny_throw (tk _ _ ?_)
  -- the state behind it
  have st3 : G.StaysIn h3' := held3.1
  obtain ⟨R, r1, r2⟩ := restrict h3' fun b => (G.get? b).isSome || decide (b ∈ frs X.stack)
  have gR : ∀ b o, G.get? b = some o → R.get? b = some o := fun b o e => by
    rw [r1 b (by simp [e])]
    exact st3 b o e
  have fR : ∀ b, b ∈ frs X.stack → R.get? b = h3'.get? b := fun b hb => r1 b (by simp [hb])
  have oR : ∀ b o, R.get? b = some o → h3'.get? b = some o ∧ ((G.get? b).isSome = true ∨ b ∈ frs X.stack) := fun b o e => by
    cases q : ((G.get? b).isSome || decide (b ∈ frs X.stack)) with
    | false => rw [r2 b q] at e; cases e
    | true =>
      rw [r1 b q] at e
      exact ⟨e, by simpa [Bool.or_eq_true] using q⟩
  have fs3 : ∀ b o, s.heap.get? b = some o → b ∈ frs X.stack → ∃ sl, h3'.get? b = some { o with slots := sl } := fun b o e hb => by
    obtain ⟨_, o0, e0, hnf⟩ := I.stack.mem hb
    rw [e] at e0
    cases e0
    obtain ⟨sl1, e1⟩ := ub.slot b o e hb
    obtain ⟨sl2, e2⟩ := up1 b _ e1 hnf
    have e2' : h2.get? b = _ := (sb.2 b (fun z => nst (z ▸ hb))).trans e2
    obtain ⟨sl3, e3⟩ := up3 b _ e2' hnf
    exact ⟨sl3, e3⟩
  have hokG : HOk X.prog X.w H2 G := fun b o q => (hok b o q).stay (fun c v hc r => by
    refine (gn c fun z => ?_).trans r
    rcases hc with hc | hc
    · rw [← hc, z, nC2] at q
      cases q
    · rw [z, nC2] at hc
      cases hc) (fun _ r => r) fun _ _ r => r
  refine ⟨a, G, { s with heap := R, gens := s'.gens, drawn := s'.drawn, toks := s'.toks }, pins, σ, H2, cls, d, rfl, ?_, fun b o e hb => ?_, Heap.UpToSlots.of_keeps fun b o e => (oR b o e).1, .inr (.inr (by rw [hs]; rw [hs] at held3; exact held3)), na, os, ag, hW _ _ _ hE⟩
  · refine I.call (ch := [ce.locals]) ⟨fun b o e n hb hc => gR b o ?_, fun b o e n hb _ => ?_, fun b o e n _ => ub.free b o e n, fun b o e hc => ?_, ub.tups, ub.frzs, ub.tbls⟩ (hokG.kept gR) ag (fun b hb => ?_)
    · rw [gn b (fun z => hc (by rw [z]; exact List.mem_cons_self))]
      exact ub.keep b o e n hb
    · obtain ⟨sl, q⟩ := fs3 b o e hb
      exact ⟨sl, by rw [fR b hb]; exact q⟩
    · by_cases hb : b ∈ frs X.stack
      · obtain ⟨sl, q⟩ := fs3 b o e hb
        exact ⟨_, by rw [fR b hb]; exact q⟩
      · obtain ⟨o', q⟩ := ub.there b o e hb
        exact ⟨o', gR b o' ((gn b (fun z => hc (by rw [z]; exact List.mem_cons_self))).trans q)⟩
    · rw [List.mem_singleton.mp hb]
      obtain ⟨_, f1, f2, f3, f4, f5⟩ := fC
      exact ⟨f3, f1, f4, f5⟩
  · obtain ⟨e', h⟩ := oR b o e
    rcases h with h | h
    · obtain ⟨o', q⟩ := Option.isSome_iff_exists.mp h
      have z := st3 b o' q
      rw [e'] at z
      cases z
      exact q
    · exact absurd h hb
/-- the block's context, its exceptions handed on -/
abbrev blkR (X : Cx) (s : Shared) (H : Hp) (scope : Scope) (ce : Env) (fp : List Addr) (xe : Value → Shared → Prop) : Cx := (X.blk s H scope ce fp).tr [] xe
theorem run_up {α : Type} {t : Sem α} {Q Q' : α → Shared → Prop} {M : Model} {A : Around} {E : Value → Shared → Prop} {s : Shared} (h : wpAny M A t Q E s) (hQ : ∀ a s, Q a s → Q' a s) : wpAny M A t Q' E s := wpAny_mono h hQ fun _ _ z => z
theorem err_core {pins : List (Addr × Obj)} {s : Shared} {σ : L2.St} {H : Hp} {Q : VK} {elt tg iter : Expr} {ifs : List Expr} {scope : Scope} {own : List (PySem.Str × Nat)} {pos pos' : Pos} {wi : TI} {g : TG} {tt : TT} {te : TE} {use : Option (Value → Sem Unit)} {Qf : Value → Shared → Prop} {Ed : XK}
    (calm : X.calm = true) (once : X.N.Nodup) (hs : X.stack = X.env :: X.outer) (hf : X.env.frame = some X.env.locals) (tk : Takes X fun cls d _ H => Ed cls d H) (I : Inv X pins σ H s) (hi : PI X tg iter wi) (ok : BlkOk X.N X.env.scope scope own)
    (hg : ∀ (s : Shared) (H : Hp) (C : Addr) (cl : List (PySem.Str × Addr)) (fp : List Addr) (xe : Value → Shared → Prop), PG (blkR X s H scope (compEnvC scope cl C X.env) fp xe) tg g)
    (ht : ∀ (s : Shared) (H : Hp) (C : Addr) (cl : List (PySem.Str × Addr)) (fp : List Addr) (xe : Value → Shared → Prop), PTs (blkR X s H scope (compEnvC scope cl C X.env) fp xe) ifs tt)
    (he : ∀ (s : Shared) (H : Hp) (C : Addr) (cl : List (PySem.Str × Addr)) (fp : List Addr) (xe : Value → Shared → Prop), Passes (L2.CX X.prog X.w) (blkR X s H scope (compEnvC scope cl C X.env) fp xe) Ed → PE (blkR X s H scope (compEnvC scope cl C X.env) fp xe) elt te)
    (fold : ∀ x, foldedSetIterable iter X.env x = pure x) (h : tLc wi g tt te (own.map (·.2)) σ H Q)
    (out : ∀ D C s' m H', Inv X pins σ H' s' → Q (.ref D) H' → s'.heap.Ns C m → FpOk X pins H' C → compPost (model X.prog X.w) X.A X.xe use Qf (.ref D) C (.ok .next) s') :
    wpAny (model X.prog X.w) X.A (comprehension (.ListComp elt [⟨tg, iter, ifs, 0⟩] scope pos) scope X.env pos' (newList []) false (eval iter X.env) use) Qf X.xe s := by
  have free : ∀ y ∈ scope.names, y.2 = .free → ∃ c, X.env.cells.lookup y.1 = some c := fun y hy e => (ok.free y hy e).elim (fun z => I.ok.has _ (.inl z)) (fun z => I.ok.has _ (.inr z))
  refine comp_err (use := use) rfl fold (closure_ok free) ok.kind (fun y hy e => by rw [ok.uniq y hy, e])
    (thn (hi.run pins s σ H _ I h) fun xv s1 hx => thn hx fun itv s2 h2 => ?_)
  obtain ⟨it, fp, tn, J, H2, ei, I2, T, st2, f2, q⟩ := h2
  subst ei
  refine wpAny_newObj_type (newEnv_comp ?_) (by show 0 ≤ sizeLine; decide)
  generalize eD : s2.heap.objs.size = D
  have vac : H2 D = none := I2.hok.fresh (Nat.le_of_eq eD)
  obtain ⟨W, ⟨m0, w0⟩, turn⟩ := q D vac
  generalize e3 : ({ s2 with heap := s2.heap.push { cls := .type "list", data := .seq ([] : List Value).toArray } } : Shared) = s3
  have h3 : s3.heap = s2.heap.push { cls := .type "list", data := .seq ([] : List Value).toArray } := by rw [← e3] <;> rfl
  have grown : ∀ b o, s2.heap.get? b = some o → s3.heap.get? b = some o := fun b o e => by rw [h3]; exact Heap.get?_push_of_some _ e
  have I3 : Inv X pins σ (upd H2 D (.lst [])) s3 := by
    rw [← e3]
    refine I2.laid (t' := s2.toks) (fun b o e => Heap.get?_push_of_some _ e) (Nat.le_of_eq eD) ⟨Nat.zero_le _, [], 0, .nil, ?_⟩
    rw [← eD]
    exact Heap.get?_push_size _ rfl
  have low : ∀ b ∈ fp, b < s2.heap.objs.size := fun b hb => let ⟨o, e, _⟩ := T.obj _ _ st2 b hb; Heap.lt_size e
  have f3 : ∀ b ∈ fp, FpOk X pins (upd H2 D (.lst [])) b ∧ b < s3.heap.objs.size := fun b hb => by
    have lt := low b hb
    refine ⟨⟨?_, (f2 b hb).2⟩, by rw [h3, Heap.size_push]; exact Nat.lt_succ_of_lt lt⟩
    rw [upd_ne (by rw [← eD]; exact Nat.ne_of_lt lt)]
    exact (f2 b hb).1
  have st3 : tn 0 s3.heap := T.keep _ _ _ st2 fun b _ o e => grown b o e
  have I4 := block_start I3 ok once f3
  have nst : s3.heap.objs.size ∉ frs X.stack := fun hm => by
    obtain ⟨_, o, e, _⟩ := I3.stack.mem hm
    exact absurd (Heap.lt_size e) (Nat.lt_irrefl _)
  have pg := hg s3 (upd H2 D (.lst [])) s3.heap.objs.size (cellsFrom (s3.heap.objs.size + 1) scope.names (cloFrom X.env.cells scope.names [])) fp
  have pt := ht s3 (upd H2 D (.lst [])) s3.heap.objs.size (cellsFrom (s3.heap.objs.size + 1) scope.names (cloFrom X.env.cells scope.names [])) fp
  have pe := he s3 (upd H2 D (.lst [])) s3.heap.objs.size (cellsFrom (s3.heap.objs.size + 1) scope.names (cloFrom X.env.cells scope.names [])) fp
  show codeAny _ _ (.compStart (.ListComp elt [⟨tg, iter, ifs, 0⟩] scope pos) 0 (.ref it) (.ref D) (compEnvC scope (cellsFrom (s3.heap.objs.size + 1) scope.names (cloFrom X.env.cells scope.names [])) s3.heap.objs.size X.env))
    (endR (model X.prog X.w) X.A X.xe use Qf (.ref D) (compEnvC scope (cellsFrom (s3.heap.objs.size + 1) scope.names (cloFrom X.env.cells scope.names [])) s3.heap.objs.size X.env)) { s3 with heap := pushCells (s3.heap.push { cls := .type "dict", data := .dict #[] }) scope.names }
  have bare : ∀ b ∈ fp, (upd H2 D (.lst [])) b = none := fun b hb => (f3 b hb).1.1
  have cf : (compEnvC scope (cellsFrom (s3.heap.objs.size + 1) scope.names (cloFrom X.env.cells scope.names [])) s3.heap.objs.size X.env).frame = X.env.frame := rfl
  generalize ece : compEnvC scope (cellsFrom (s3.heap.objs.size + 1) scope.names (cloFrom X.env.cells scope.names [])) s3.heap.objs.size X.env = ce at I4 pg pt pe cf ⊢
  have cl : ce.locals = s3.heap.objs.size := by rw [← ece] <;> rfl
  generalize eH3 : upd H2 D (.lst []) = H3 at I3 I4 pg pt pe w0 bare f3
  generalize e4 : ({ s3 with heap := pushCells (s3.heap.push { cls := .type "dict", data := .dict #[] }) scope.names } : Shared) = s4 at I4 ⊢
  obtain ⟨xe, exe⟩ : ∃ xe, xe = notedBy (model X.prog X.w) X.A ce (fun e s1 => endR (model X.prog X.w) X.A X.xe use Qf (.ref D) ce (.error e) s1) := ⟨_, rfl⟩
  have pg := pg xe
  have pt := pt xe
  have pe := pe xe
  have I4 : Inv (blkR X s3 H3 scope ce fp xe) [] (wipe σ (own.map (·.2))) H3 s4 := I4.toTry xe
  have st4 : tn 0 s4.heap := T.keep _ _ _ st3 fun b _ o e => by rw [← e4]; exact pushCells_keeps _ _ _ _ (Heap.get?_push_of_some _ e)
  have back : ∀ {pins' : List (Addr × Obj)} {σ' : L2.St} {H' : Hp} {s' : Shared}, Inv (blkR X s3 H3 scope ce fp xe) pins' σ' H' s' → Inv X pins σ H' s' ∧ H' s3.heap.objs.size = none ∧ (∃ m, s'.heap.Ns ce.locals m) := fun {pins' σ' H' s'} I' => by
    refine ⟨I3.call' (ch := fp) I'.os I'.base I'.hok I'.bare fun b hb => ⟨(f3 b hb).1.2.2.2.1, (f3 b hb).1.2.1, (f3 b hb).1.2.2.2.2.1, (f3 b hb).1.2.2.2.2.2⟩, ?_, ?_⟩
    · have z : H' ce.locals = none := I'.free
      rwa [cl] at z
    · obtain ⟨m, hm, _⟩ := I'.loc
      exact ⟨m, hm⟩
  have pass : Passes (L2.CX X.prog X.w) (blkR X s3 H3 scope ce fp xe) Ed := fun pins' σ' H' s' e s'' I' c => by
    obtain ⟨J1, n1, ns⟩ := back I'
    show xe e s''
    rw [exe]
    exact arrives J1 hs hf tk (fun _ _ _ z => z) cf (by rw [cl]; exact I3.fpOk (Nat.le_refl _) n1) ns (by rw [cl]; exact nst) c
  have pe := pe pass
  have own_fp : ∀ {σ' : L2.St} {H' : Hp} {s' : Shared}, Inv (blkR X s3 H3 scope ce fp xe) [] σ' H' s' → (∀ b ∈ fp, H' b = none) → ∀ b ∈ fp, FpOk (blkR X s3 H3 scope ce fp xe) [] H' b := fun {σ' H' s'} I' hn b hb =>
    ⟨hn b hb, (I'.ok.exf b hb).1, I'.ok.exfs b hb, .inl hb, fun x c e => (I'.ok.exf b hb).2 x c e, fun p hp => absurd (show p ∈ ([] : List (Addr × Obj)) ++ [] from hp) (by simp)⟩
  have loop : codeAny (model X.prog X.w) X.A (.compLoop (.ListComp elt [⟨tg, iter, ifs, 0⟩] scope pos) 0 (.ref it) (.ref D) ce) (endR (model X.prog X.w) X.A X.xe use Qf (.ref D) ce) s4 := by
    refine compLoop_any (fun n s' => ∃ i H', Inv (blkR X s3 H3 scope ce fp xe) [] (wipe σ (own.map (·.2))) H' s' ∧ tn i s'.heap ∧ (∀ b ∈ fp, H' b = none) ∧ W i n H') ?_ m0 ⟨0, H3, I4, st4, bare, w0⟩
    rintro n s5 ⟨i, H5, I5, st5, n5, w5⟩
    rw [← exe]
    rcases turn i n H5 w5 with ⟨stop, qq⟩ | ⟨go, Nx, less, step⟩
    · refine run_up (T.done (blkR X s3 H3 scope ce fp xe) rfl rfl rfl calm i [] s5 _ H5 xe I5 (own_fp I5 n5) st5 stop) fun r s6 ⟨hr, I6⟩ => ?_
      subst hr
      obtain ⟨I7, none5, m, hm⟩ := back I6
      rw [cl] at hm
      show compPost _ _ _ _ _ _ ce.locals _ _
      rw [cl]
      exact out D s3.heap.objs.size s6 m H5 I7 qq hm (I3.fpOk (Nat.le_refl _) none5)
    · refine run_up (T.item (blkR X s3 H3 scope ce fp xe) rfl rfl rfl calm i [] s5 _ H5 xe I5 (own_fp I5 n5) st5 go) fun r s6 ⟨u, hr, h6⟩ => ?_
      subst hr
      refine run_up h6 fun _ s7 ⟨x, H7, I7, r7, y7, st7, n7⟩ => ?_
      have I7p := I7.pinned (own_fp I7 n7) (T.obj _ _ st7)
      refine run_up (pg.run _ s7 _ H7 x u _ I7p r7 (step x H7 y7)) fun _ s8 ⟨σ8, H8, I8, hw8, q8⟩ => ?_
      refine run_up (pt.run _ s8 σ8 H8 _ I8 q8) fun b s9 ⟨H9, I9, q9⟩ => ?_
      have fin : ∀ {s' : Shared} {H' : Hp}, Inv (blkR X s3 H3 scope ce fp xe) ([] ++ pinsAt fp s7.heap) σ8 H' s' → Nx H' → ∃ m, m < n ∧ ∃ i H', Inv (blkR X s3 H3 scope ce fp xe) [] (wipe σ (own.map (·.2))) H' s' ∧ tn i s'.heap ∧ (∀ b ∈ fp, H' b = none) ∧ W i m H' := fun {s' H'} I' nx => by
        obtain ⟨m', hm, wm⟩ := less H' nx
        have stay : ∀ b ∈ fp, ∀ o, s7.heap.get? b = some o → s'.heap.get? b = some o ∧ H' b = none := fun b hb o e =>
          let z := I'.pin (b, o) (List.mem_append_right _ (List.mem_append_right _ (mem_pinsAt hb e)))
          ⟨z.1, z.2.1⟩
        have len : (wipe σ (own.map (·.2))).length = σ8.length := by rw [← hw8, wipe_length]
        refine ⟨m', hm, i + 1, H', (I'.unpinned (pins := [])).weak len (fun j v e => ?_), T.keep _ _ _ st7 fun b hb o e => (stay b hb o e).1, fun b hb => ?_, wm⟩
        · rw [← hw8] at e
          exact (wipe_some e).1
        · obtain ⟨o, e, _⟩ := T.obj _ _ st7 b hb
          exact (stay b hb o e).2
      cases b with
      | false =>
        simp only [Bool.false_eq_true, if_false] at q9 ⊢
        exact fin I9 q9
      | true =>
        simp only [if_true] at q9 ⊢
        refine run_up (pe.run _ s9 σ8 H9 _ I9 q9) fun z s10 ⟨yv, H10, I10, r10, acc, hD10, hz10, nx⟩ => ?_
        exact app_ok (X := blkR X s3 H3 scope ce fp xe) I10 hD10 hz10 r10 fun s11 I11 => fin I11 nx
  exact codeAny_compStart_list loop (T.self X.A 0 _ _ _ st4 loop)
section
variable {elt tg iter : Expr} {ifs : List Expr} {scope : Scope} {own : List (PySem.Str × Nat)} {pos : Pos} {wi : TI} {g : TG} {tt : TT} {te : TE} {Ed : XK}
/-- as a value -/
theorem pe_lcR (calm : X.calm = true) (once : X.N.Nodup) (hs : X.stack = X.env :: X.outer) (hf : X.env.frame = some X.env.locals) (tk : Takes X fun cls d _ H => Ed cls d H) (hi : PI X tg iter wi) (ok : BlkOk X.N X.env.scope scope own)
    (hg : ∀ (s : Shared) (H : Hp) (C : Addr) (cl : List (PySem.Str × Addr)) (fp : List Addr) (xe : Value → Shared → Prop), PG (blkR X s H scope (compEnvC scope cl C X.env) fp xe) tg g)
    (ht : ∀ (s : Shared) (H : Hp) (C : Addr) (cl : List (PySem.Str × Addr)) (fp : List Addr) (xe : Value → Shared → Prop), PTs (blkR X s H scope (compEnvC scope cl C X.env) fp xe) ifs tt)
    (he : ∀ (s : Shared) (H : Hp) (C : Addr) (cl : List (PySem.Str × Addr)) (fp : List Addr) (xe : Value → Shared → Prop), Passes (L2.CX X.prog X.w) (blkR X s H scope (compEnvC scope cl C X.env) fp xe) Ed → PE (blkR X s H scope (compEnvC scope cl C X.env) fp xe) elt te)
    (fold : ∀ x, foldedSetIterable iter X.env x = pure x := by intro _; rfl) : PE X (.ListComp elt [⟨tg, iter, ifs, 0⟩] scope pos) (tLc wi g tt te (own.map (·.2))) := by
  refine ⟨fun pins s σ H Q I h => ?_⟩
  rw [eval_ListComp]
  refine err_core calm once hs hf tk I hi ok hg ht he fold h fun D C s' m H' I' q hn f => ⟨m, hn, fun h'' sb => ?_⟩
  obtain ⟨f0, f1, f2, f3, f4, f5⟩ := f
  exact ⟨.ref D, H', I'.turned (t' := s'.toks) (fun b o hb e => (sb.2 b hb).trans e) f0 f1 f3 f4 f5, rfl, q⟩
/-- name = [..] on one line -/
theorem ps_setLcR {i : Nat} {y : PySem.Str} {py : Pos} {spos : Pos} (calm : X.calm = true) (once : X.N.Nodup) (hs : X.stack = X.env :: X.outer) (hf : X.env.frame = some X.env.locals) (tk : Takes X fun cls d _ H => Ed cls d H)
    (hy : X.N[i]? = some y) (hyl : X.env.scope.names.lookup y = some .local)
    (hsw : swapsWith (.ListComp elt [⟨tg, iter, ifs, 0⟩] scope pos) (some (.Name y py)) spos.line X.env = pure true) (hi : PI X tg iter wi) (ok : BlkOk X.N X.env.scope scope own)
    (hg : ∀ (s : Shared) (H : Hp) (C : Addr) (cl : List (PySem.Str × Addr)) (fp : List Addr) (xe : Value → Shared → Prop), PG (blkR X s H scope (compEnvC scope cl C X.env) fp xe) tg g)
    (ht : ∀ (s : Shared) (H : Hp) (C : Addr) (cl : List (PySem.Str × Addr)) (fp : List Addr) (xe : Value → Shared → Prop), PTs (blkR X s H scope (compEnvC scope cl C X.env) fp xe) ifs tt)
    (he : ∀ (s : Shared) (H : Hp) (C : Addr) (cl : List (PySem.Str × Addr)) (fp : List Addr) (xe : Value → Shared → Prop), Passes (L2.CX X.prog X.w) (blkR X s H scope (compEnvC scope cl C X.env) fp xe) Ed → PE (blkR X s H scope (compEnvC scope cl C X.env) fp xe) elt te)
    (fold : ∀ x, foldedSetIterable iter X.env x = pure x := by intro _; rfl) :
    PS X (.Assign [.Name y py] (.ListComp elt [⟨tg, iter, ifs, 0⟩] scope pos) spos) (tAsg (tLc wi g tt te (own.map (·.2))) (gName i)) := by
  refine ⟨fun pins s σ H D I h => ?_⟩
  rw [exec_Assign_Name_used _ _ _ _ hsw]
  refine wpAny_bind (wpAny_standAt (wpAny_bind ?_))
  show wpAny _ X.A (do let _ ← comprehension (.ListComp elt [⟨tg, iter, ifs, 0⟩] scope pos) scope X.env (firstIterPos [⟨tg, iter, ifs, 0⟩] pos) (newList []) false (eval iter X.env) (some (assign (.Name y py) X.env))) _ _ s
  have told : tLc wi g tt te (own.map (·.2)) σ H (fun x H1 => gName i x σ H1 D.nx) := h
  refine wpAny_bind (thn (err_core (Qf := fun _ s' => SP X pins D .next s') calm once hs hf tk I hi ok hg ht he fold told fun L C s' m H' I' q hn f => ?_) fun _ s' hq => wpAny_pure (wpAny_pure hq))
  show wpAny _ _ (assign (.Name y py) X.env (.ref L)) _ _ _
  refine wpAny_assign_Name (store_ok2 (v := V.ref L) I' once hy (.inl hyl) rfl (fun s2 I2 ⟨a, sb, ha⟩ => ?_) (.inr hyl))
  obtain ⟨f0, f1, f2, f3, f4, f5⟩ := f
  have far : C ≠ a := ha.elim (fun z => by rw [z]; exact f1) fun z e => f4 y a z e.symm
  exact ⟨m, hn.sameBut sb far, fun h3 sb3 => ⟨_, H', I2.turned (t' := s2.toks) (fun b o hb e => (sb3.2 b hb).trans e) f0 f1 f3 f4 f5, q⟩⟩
end
end
end LcR

set_option Elab.async false
set_option linter.all false
set_option maxRecDepth 100000
set_option maxHeartbeats 1000000
/-! Ln: formulas that are linear in a name; exact values. -/
namespace Fm
open PySem PySem.Spec PyProof.Rows L2 CL
def hasN (w : Str) (t : T) : Bool := decide (w ∈ nmsT t)
def lin3 (o : Str) : Bool := decide (o = "+" ∨ o = "-" ∨ o = "*")
/-- the form of point 13 -/
def linT (w : Str) : T → Bool
  | .num _ => true
  | .nam _ => true
  | .neg t => !hasN w t || linT w t
  | .op o a b => !(hasN w a || hasN w b) || (lin3 o && (linT w a && linT w b) && (decide (o ≠ "*") || !(hasN w a && hasN w b)))
theorem hasN_op {w o : Str} {a b : T} : hasN w (.op o a b) = (hasN w a || hasN w b) := by
  have e : nmsT (.op o a b) = nmsT a ++ nmsT b := rfl
  unfold hasN
  rw [e, Bool.eq_iff_iff]
  simp
theorem linT_free {w : Str} {t : T} (h : hasN w t = false) : linT w t = true := by
  cases t with
  | num n => rfl
  | nam v => rfl
  | neg t =>
    have h : hasN w t = false := h
    unfold linT
    rw [h] <;> rfl
  | op o a b =>
    rw [hasN_op] at h
    unfold linT
    rw [h] <;> rfl
def failR : Rs → List Str
  | .fail x => [x]
  | .val _ => []
def valR : Rs → Int
  | .val n => n
  | .fail _ => 0
/-- what failed, of the parts that do not read the name -/
def badT (w : Str) (ρ : Str → Option Rs) : T → List Str
  | .num n => failR (resT ρ (.num n))
  | .nam v => if v = w then [] else failR (resT ρ (.nam v))
  | .neg t => if hasN w t then badT w ρ t else failR (resT ρ (.neg t))
  | .op o a b => if hasN w a || hasN w b then badT w ρ a ++ badT w ρ b else failR (resT ρ (.op o a b))
theorem badT_free {w : Str} {ρ : Str → Option Rs} {t : T} (h : hasN w t = false) : badT w ρ t = failR (resT ρ t) := by
  cases t with
  | num n => rfl
  | nam v =>
    unfold badT
    rw [if_neg]
    rintro rfl
    simp [hasN, nmsT] at h
  | neg t =>
    have h : hasN w t = false := h
    unfold badT
    rw [h] <;> rfl
  | op o a b =>
    rw [hasN_op] at h
    unfold badT
    rw [h] <;> rfl
/-- slope and rest of a sum, difference, product -/
def join2 (o : Str) (p q : Int × Int) : Int × Int :=
  if o = "*" then (p.1 * q.2 + q.1 * p.2, p.2 * q.2) else (p.1 + (if o = "+" then 1 else -1) * q.1, p.2 + (if o = "+" then 1 else -1) * q.2)
def lineT (w : Str) (ρ : Str → Option Rs) : T → Int × Int
  | .num n => (0, valR (resT ρ (.num n)))
  | .nam v => if v = w then (1, 0) else (0, valR (resT ρ (.nam v)))
  | .neg t => if hasN w t then (-(lineT w ρ t).1, -(lineT w ρ t).2) else (0, valR (resT ρ (.neg t)))
  | .op o a b => if hasN w a || hasN w b then join2 o (lineT w ρ a) (lineT w ρ b) else (0, valR (resT ρ (.op o a b)))
theorem lineT_free {w : Str} {ρ : Str → Option Rs} {t : T} (h : hasN w t = false) : lineT w ρ t = (0, valR (resT ρ t)) := by
  cases t with
  | num n => rfl
  | nam v =>
    unfold lineT
    rw [if_neg]
    rintro rfl
    simp [hasN, nmsT] at h
  | neg t =>
    have h : hasN w t = false := h
    unfold lineT
    rw [h] <;> rfl
  | op o a b =>
    rw [hasN_op] at h
    unfold lineT
    rw [h] <;> rfl
/-- the exact value -/
def exO (o : Str) (a b : Int) : Int := (opR o a b).getD 0
def exT (ν : Str → Int) : T → Int
  | .num n => n
  | .nam w => ν w
  | .neg t => -exT ν t
  | .op o a b => exO o (exT ν a) (exT ν b)
/-- a result that did not fail is the exact value -/
theorem clamp_val {z n : Int} (h : clampR z = .val n) : n = z := by
  unfold clampR at h
  split at h
  · cases h; rfl
  · cases h
theorem res_exact {ρ : Str → Option Rs} {ν : Str → Int} : ∀ {t : T} {n : Int}, (∀ v ∈ nmsT t, ∀ m, ρ v = some (.val m) → ν v = m) → (∀ v ∈ nmsT t, ∃ r, ρ v = some r) → resT ρ t = .val n → exT ν t = n
  | .num m, n, _, _, h => (clamp_val h).symm
  | .nam v, n, hv, hk, h => by
    obtain ⟨r, hr⟩ := hk v (by simp [nmsT])
    have h : (ρ v).getD (.fail "zero") = .val n := h
    rw [hr] at h
    have h : r = .val n := h
    rw [h] at hr
    exact hv v (by simp [nmsT]) n hr
  | .neg t, n, hv, hk, h => by
    have h : finT "minus" [resT ρ t] = .val n := h
    cases ht : resT ρ t with
    | fail x => rw [ht] at h; cases h
    | val m =>
      rw [ht] at h
      have := clamp_val (show clampR (-m) = .val n from h)
      rw [this]
      show -exT ν t = -m
      rw [res_exact (t := t) hv hk ht]
  | .op o a b, n, hv, hk, h => by
    have h : finT o [resT ρ a, resT ρ b] = .val n := h
    cases ha : resT ρ a with
    | fail x => rw [ha] at h; cases h
    | val x =>
      cases hb : resT ρ b with
      | fail y => rw [ha, hb] at h; cases h
      | val y =>
        rw [ha, hb] at h
        have h : endR (opR o x y) = .val n := h
        have ea := res_exact (t := a) (n := x) (fun v z => hv v (List.mem_append_left _ z)) (fun v z => hk v (List.mem_append_left _ z)) ha
        have eb := res_exact (t := b) (n := y) (fun v z => hv v (List.mem_append_right _ z)) (fun v z => hk v (List.mem_append_right _ z)) hb
        show exO o (exT ν a) (exT ν b) = n
        rw [ea, eb]
        unfold exO
        cases hz : opR o x y with
        | none => rw [hz] at h; cases h
        | some z =>
          rw [hz] at h
          exact (clamp_val h).symm
theorem opR_add (a b : Int) : exO "+" a b = a + b := by unfold exO opR; rw [if_pos rfl] <;> rfl
theorem opR_sub (a b : Int) : exO "-" a b = a - b := by unfold exO opR; rw [if_neg (by decide +kernel), if_pos rfl] <;> rfl
theorem opR_mul (a b : Int) : exO "*" a b = a * b := by unfold exO opR; rw [if_neg (by decide +kernel), if_neg (by decide +kernel), if_pos rfl] <;> rfl
/-- slope and rest make the exact value -/
theorem line_exact {w : Str} {ρ : Str → Option Rs} {ν : Str → Int} : ∀ {t : T}, (∀ v ∈ nmsT t, v ≠ w → ∀ m, ρ v = some (.val m) → ν v = m) → (∀ v ∈ nmsT t, v ≠ w → ∃ r, ρ v = some r) → linT w t = true → badT w ρ t = [] →
    (lineT w ρ t).1 * ν w + (lineT w ρ t).2 = exT ν t := by
  have base : ∀ {t : T}, hasN w t = false → (∀ v ∈ nmsT t, v ≠ w → ∀ m, ρ v = some (.val m) → ν v = m) → (∀ v ∈ nmsT t, v ≠ w → ∃ r, ρ v = some r) → badT w ρ t = [] → (lineT w ρ t).1 * ν w + (lineT w ρ t).2 = exT ν t := by
    intro t h hv hk hb
    rw [badT_free h] at hb
    rw [lineT_free h]
    have ne : ∀ v ∈ nmsT t, v ≠ w := fun v hm z => by
      unfold hasN at h
      exact of_decide_eq_false h (z ▸ hm)
    cases hr : resT ρ t with
    | fail x => rw [hr] at hb; cases hb
    | val n =>
      have := res_exact (fun v z => hv v z (ne v z)) (fun v z => hk v z (ne v z)) hr
      rw [this]
      show 0 * ν w + n = n
      omega
  intro t
  induction t with
  | num n => intro hv hk _ hb; exact base rfl hv hk hb
  | nam v =>
    intro hv hk _ hb
    by_cases e : v = w
    · subst e
      unfold lineT
      rw [if_pos rfl]
      show 1 * ν v + 0 = ν v
      omega
    · exact base (by simp [hasN, nmsT, Ne.symm e]) hv hk hb
  | neg t ih =>
    intro hv hk hl hb
    cases hn : hasN w t with
    | false => exact base hn hv hk hb
    | true =>
      unfold linT at hl
      rw [hn] at hl
      have hl : linT w t = true := hl
      unfold badT at hb
      rw [if_pos hn] at hb
      have := ih hv hk hl hb
      unfold lineT
      rw [if_pos hn]
      show -(lineT w ρ t).1 * ν w + -(lineT w ρ t).2 = -exT ν t
      rw [← this, Int.neg_mul]
      omega
  | op o a b iha ihb =>
    intro hv hk hl hb
    cases hn : (hasN w a || hasN w b) with
    | false => exact base (by rw [hasN_op]; exact hn) hv hk hb
    | true =>
      unfold linT at hl
      rw [hn] at hl
      simp only [Bool.not_true, Bool.false_or, Bool.and_eq_true] at hl
      obtain ⟨⟨lo, la, lb⟩, lm⟩ := hl
      unfold badT at hb
      rw [if_pos hn] at hb
      obtain ⟨ba, bb⟩ := List.append_eq_nil_iff.mp hb
      have ea := iha (fun v z => hv v (List.mem_append_left _ z)) (fun v z => hk v (List.mem_append_left _ z)) la ba
      have eb := ihb (fun v z => hv v (List.mem_append_right _ z)) (fun v z => hk v (List.mem_append_right _ z)) lb bb
      unfold lineT
      rw [if_pos hn]
      show (join2 o (lineT w ρ a) (lineT w ρ b)).1 * ν w + (join2 o (lineT w ρ a) (lineT w ρ b)).2 = exO o (exT ν a) (exT ν b)
      unfold lin3 at lo
      have lo := of_decide_eq_true lo
      unfold join2
      rcases lo with rfl | rfl | rfl
      · rw [if_neg (by decide +kernel), opR_add, if_pos rfl, ← ea, ← eb]
        show (((lineT w ρ a).1 + 1 * (lineT w ρ b).1) * ν w + ((lineT w ρ a).2 + 1 * (lineT w ρ b).2)) = _
        rw [Int.one_mul, Int.one_mul, Int.add_mul]
        omega
      · rw [if_neg (by decide +kernel), opR_sub, if_neg (by decide +kernel), ← ea, ← eb]
        show (((lineT w ρ a).1 + -1 * (lineT w ρ b).1) * ν w + ((lineT w ρ a).2 + -1 * (lineT w ρ b).2)) = _
        rw [Int.neg_one_mul, Int.neg_one_mul, Int.add_mul, Int.neg_mul]
        omega
      · rw [if_pos rfl, opR_mul]
        have lm : hasN w a = false ∨ hasN w b = false := by
          have z : decide ((("*" : Str)) ≠ ("*" : Str)) = false := decide_eq_false (fun z => z rfl)
          rw [z] at lm
          cases h1 : hasN w a with
          | false => exact .inl rfl
          | true =>
            cases h2 : hasN w b with
            | false => exact .inr rfl
            | true => rw [h1, h2] at lm; cases lm
        show ((lineT w ρ a).1 * (lineT w ρ b).2 + (lineT w ρ b).1 * (lineT w ρ a).2) * ν w + (lineT w ρ a).2 * (lineT w ρ b).2 = exT ν a * exT ν b
        rw [← ea, ← eb]
        rcases lm with h | h
        · have z : (lineT w ρ a).1 = 0 := by rw [lineT_free h]
          rw [z]
          simp only [Int.zero_mul, Int.zero_add, Int.mul_add, Int.add_mul]
          rw [Int.mul_comm (lineT w ρ b).1, Int.mul_assoc]
        · have z : (lineT w ρ b).1 = 0 := by rw [lineT_free h]
          rw [z]
          simp only [Int.zero_mul, Int.zero_add, Int.add_zero, Int.mul_add, Int.add_mul]
          rw [Int.mul_assoc, Int.mul_comm (lineT w ρ b).2, ← Int.mul_assoc]
/-! ### how great they get -/
def Fits (d : Nat) (n : Int) : Prop := n.natAbs < 2 ^ (104 * 2 ^ d)
theorem fits_up {d e : Nat} {n : Int} (h : Fits d n) (k : d ≤ e) : Fits e n := Nat.lt_of_lt_of_le h (Nat.pow_le_pow_right (by decide) (Nat.mul_le_mul_left _ (Nat.pow_le_pow_right (by decide) k)))
theorem fits_sum {d : Nat} {m n k : Int} (hm : Fits d m) (hn : Fits d n) (h : k.natAbs ≤ m.natAbs + n.natAbs) : Fits (d + 1) k := by
  unfold Fits at *
  have e : 104 * 2 ^ (d + 1) = 104 * 2 ^ d + 104 * 2 ^ d := by rw [Nat.pow_succ]; omega
  rw [e, Nat.pow_add]
  have two : 2 ≤ 2 ^ (104 * 2 ^ d) := by
    have : 1 ≤ 104 * 2 ^ d := by have := Nat.pow_pos (n := d) (show 0 < 2 by decide); omega
    exact Nat.le_trans (by decide : 2 ≤ 2 ^ 1) (Nat.pow_le_pow_right (by decide) this)
  have := Nat.mul_le_mul_right (2 ^ (104 * 2 ^ d)) two
  omega
theorem fits_mul {d : Nat} {m n : Int} (hm : Fits d m) (hn : Fits d n) : Fits (d + 1) (m * n) := by
  unfold Fits at *
  have e : 104 * 2 ^ (d + 1) = 104 * 2 ^ d + 104 * 2 ^ d := by rw [Nat.pow_succ]; omega
  rw [e, Nat.pow_add, Int.natAbs_mul]
  exact Nat.mul_lt_mul'' hm hn
theorem fits_zero {n : Int} (h : -(10 ^ 31) ≤ n) (h2 : n ≤ 10 ^ 31) : Fits 0 n := by
  unfold Fits
  show n.natAbs < 2 ^ 104
  omega
end Fm

set_option Elab.async false
set_option linter.all false
set_option maxRecDepth 100000
set_option maxHeartbeats 2000000
/-! VarArg2: a method with *more, called with one more. -/
namespace CL
open PySem PySem.Spec PyProof.Rows L2
def BindsV1 (fd : FuncData) (ps : List Str) : Prop := ∀ (us : List Value) (u : Value), us.length + 1 = ps.length → bindArgs fd ⟨us ++ [u], []⟩ = (newTuple [u] >>= fun t => pure (ps.zip (us ++ [t])))
theorem vals_cut : ∀ {vs ws : List V} {us : List Value}, Vals (vs ++ ws) us → ∃ u1 u2, us = u1 ++ u2 ∧ Vals vs u1 ∧ Vals ws u2
  | [], _, us, h => ⟨[], us, rfl, .nil, h⟩
  | v :: vs, ws, _, .cons rv rr => by
    obtain ⟨a1, a2, e, b1, b2⟩ := vals_cut (vs := vs) rr
    exact ⟨_ :: a1, a2, by rw [e]; rfl, .cons rv b1, b2⟩
structure MetV1 (P : Program) (w : World) (K : PySem.W.Frag) (mg : Str → Option Value) (base : Heap) (CX : CXT) (n : Nat) (C : Addr) (m : Str) (ps : List Str) (sp : Sp) : Prop where
  ex : ∃ f fd, Meth K C m f ∧ FnV P w K mg base CX n f fd ps sp ∧ BindsV1 fd ps
section
variable {X : Cx} {CX : CXT} {k j n : Nat} {C f : Addr} {fd : FuncData} {m : Str} {ps : List Str} {sp : Sp} {o e : Expr} {es : List Expr} {ta : TE} {t : TA} {apos pos : Pos} {E : XK}
theorem run_fnV1 {pins : List (Addr × Obj)} {σ : L2.St} {H : Hp} {s : Shared} {Q : VK} {us : List Value} {u : Value} {vs : List V} {y : V} (F : FnV X.prog X.w X.K X.mg X.base CX n f fd ps sp) (hr : Rm n X.A) (hb : BindsV1 fd ps) (hx : Passes CX X E)
    (I : Inv X pins σ H s) (r : Vals vs us) (ry : L2.RelV y u) (h : ∀ p, H p = none → sp (vs ++ [.ref p]) (upd H p (.tup [y])) Q E) : wpAny (model X.prog X.w) X.A (call (.ref f) (us ++ [u])) (EP X pins σ Q) X.xe s := by
  have hf : H s.heap.objs.size = none := I.hok.fresh (Nat.le_refl _)
  have hq := h _ hf
  have hl := F.len _ _ _ _ hq
  rw [List.length_append, List.length_singleton] at hl
  have I1 : Inv X pins σ (upd H s.heap.objs.size (.tup [y])) { s with heap := s.heap.push { cls := .type "tuple", data := .seq ([u] : List Value).toArray }, toks := s.toks } :=
    I.laid (t' := s.toks) (fun b u e => Heap.get?_push_of_some _ e) (Nat.le_refl _) ⟨by show 1 ≤ sizeLine; decide, [u], .cons ry .nil, ⟨_, Heap.get?_push_size _ rfl, rfl, _, rfl⟩⟩
  have r2 : Vals (vs ++ [V.ref s.heap.objs.size]) (us ++ [Value.ref s.heap.objs.size]) := r.append (.cons rfl .nil)
  refine wpAny_call (codeAny_mono (F.go X.A X.stack s _ _ ⟨us ++ [u], []⟩ (us ++ [Value.ref s.heap.objs.size]) (vs ++ [V.ref s.heap.objs.size]) Q E hr I.kIn I1.env0 (fun M A' E' Q' q => ?_) r2 hq) fun res s' hq => ?_)
  · rw [hb us u (by rw [← r.length]; exact hl)]
    exact wpAny_bind (wpAny_newTuple (wpAny_pure q) (by show 1 ≤ sizeLine; decide))
  · match res, hq with
    | .error e, hq => exact hx pins σ _ _ e s' I1 hq
    | .ok (.ret u), hq => exact I1.after hq
    | .ok .next, hq => exact hq.elim
    | .ok .brk, hq => exact hq.elim
    | .ok .cont, hq => exact hq.elim
/-- o.m(.., y): y is what is more -/
def tMethV1 (C : Addr) (m : Str) (sp : Sp) (E : XK) (ta : TE) (t : TA) : TE := fun σ H Q => ta σ H fun x H1 => ∃ a dx fs, x = .ref a ∧ H1 a = some (.ins C dx fs) ∧ fs.lookup m = none ∧ t σ H1 fun ws H2 => ∃ vs y, ws = vs ++ [y] ∧
  ∀ p, H2 p = none → sp (x :: (vs ++ [.ref p])) (upd H2 p (.tup [y])) Q E
theorem pe_mgV1 {pl : Sem Bool} (c : MetV1 X.prog X.w X.K X.mg X.base CX k C m ps sp) (cl : Cls X.K C) (hx : Passes CX X E) (hr : Rm j X.A) (hk : k ≤ j) (he : PE X o ta) (ha : PA X (e :: es) t)
    (hst : starEach (e :: es) X.env = (false, eval e X.env) :: starEach es X.env := by rfl) (hpl : (backTo pos (starEach es X.env)).any (·.1) = false := by rfl)
    (ht : eval (.Call (.Attribute o m apos) (e :: es) [] pos) X.env = (do
      let ov ← eval o X.env
      standAt apos.atName
      let (f, first) ← holding [ov] (getMethod ov m pl)
      callWith pos f first (backTo pos (starEach (e :: es) X.env)) (backToKw pos (keywordEach [] X.env))) := by rfl) :
    PE X (.Call (.Attribute o m apos) (e :: es) [] pos) (tMethV1 C m sp E ta t) := by
  obtain ⟨f, fd, M, F, b⟩ := c.ex
  refine ⟨fun pins s σ H Q I h => ?_⟩
  refine PySem.W.methodCall_KW (pl := pl) (thn (he.run pins s σ H _ I h) fun u s1 hh => ?_) ht
  obtain ⟨x, H1, I1, rx, a, dx, fs, ex, ea, l, q⟩ := hh
  subst ex
  obtain rfl : u = Value.ref a := rx
  refine getmeth_ok I1 ea cl M l ?_
  refine PySem.W.callWith_K (h₀ := X.base) (first := [.ref a]) I1.ok.mod.kin M.kp (thn (ha.run pos pins s1 σ H1 _ I1 q) fun us s2 ⟨ws, H2, I2, r2, vs, y, ews, q2⟩ => ⟨I2.kIn, ?_⟩) hst hpl
  subst ews
  obtain ⟨us1, us2, rfl, ra, rb⟩ := vals_cut r2
  obtain ⟨u, rfl, ru⟩ := rb.one
  exact run_fnV1 (us := .ref a :: us1) (vs := .ref a :: vs) F (hr.less hk) b hx I2 (.cons rfl ra) ru q2
end
end CL

set_option Elab.async false
set_option linter.all false
set_option maxRecDepth 100000
set_option maxHeartbeats 4000000
set_option pp.maxSteps 200
namespace Rk
open PySem PySem.Spec PyProof.Rows L2 CL Fm
/-! ### UnknownName -/
abbrev sUnI : Stmt := inClass (topS 5) 0
abbrev nUnI : List Str := ["self", "name"]
abbrev pUnI : List Str := ["self", "name"]
theorem scUnI : FnScope nUnI pUnI (defScope sUnI) := ⟨rfl, rfl, rfl, by decide +kernel, rfl, by decide +kernel, by decide +kernel⟩
section
variable {P : Program} {w : World} {K : PySem.W.Frag} {mg : Str → Option Value} {base : Heap}
theorem ok_UnI {C fI : Addr} {fd : FuncData} (hKE : mg "KeyError" = none) (vK : PySem.W.findCls K (.type "KeyError") (.type "type") "__init__" = some (.val (.builtin "KeyError.__init__"))) (ox : OexK K C) (nv : PySem.W.findIn K (.ref C) "name" = some none)
    (F : Fun K "__init__" "UnknownName.__init__" sUnI fI fd) : FnOk P w K mg base CX0 1 fI fd ["self", "name"] (spErr C "name") := by
  refine F.ok scUnI (fun vs H Q E h => ?_) (fun cdv A outer s H vs Q E hr h => ?_)
  · unfold spErr at h
    split at h
    · rfl
    · exact h.elim
  · refine ⟨_, (pss_cons (ps_expr (pe_keinit (by rfl) hKE vK (pa_cons (cv 0) (pa_cons pe_str pa_nil))))
  (pss_one (ps_keset (cv 0) (cv 1)))), ?_⟩
    unfold spErr at h
    split at h
    · rename_i a v
      obtain ⟨ha, q⟩ := h
      exact ⟨a, C, _, rfl, by show (1 : Nat) ≤ 1000; decide, ox, ha, a, C, rfl, ox, nv, ha, q⟩
    · exact h.elim
end
/-! ### NotLinear, Failed -/
abbrev sNlI : Stmt := inClass (topS 3) 0
abbrev nNlI : List Str := ["self", "name"]
abbrev pNlI : List Str := ["self", "name"]
theorem scNlI : FnScope nNlI pNlI (defScope sNlI) := ⟨rfl, rfl, rfl, by decide +kernel, rfl, by decide +kernel, by decide +kernel⟩
abbrev sFaI : Stmt := inClass (topS 4) 0
abbrev nFaI : List Str := ["self", "word"]
abbrev pFaI : List Str := ["self", "word"]
theorem scFaI : FnScope nFaI pFaI (defScope sFaI) := ⟨rfl, rfl, rfl, by decide +kernel, rfl, by decide +kernel, by decide +kernel⟩
section
variable {P : Program} {w : World} {K : PySem.W.Frag} {mg : Str → Option Value} {base : Heap}
theorem ok_NlI {C fI : Addr} {fd : FuncData} (hV : mg "ValueError" = none) (vV : PySem.W.findCls K (.type "ValueError") (.type "type") "__init__" = some (.val (.builtin "ValueError.__init__"))) (ox : OexC K C) (nv : PySem.W.findIn K (.ref C) "name" = some none) (F : Fun K "__init__" "NotLinear.__init__" sNlI fI fd) :
    FnOk P w K mg base CX0 1 fI fd ["self", "name"] (spErr C "name") := by
  refine F.ok scNlI (fun vs H Q E h => ?_) (fun cdv A outer s H vs Q E hr h => ?_)
  · unfold spErr at h
    split at h
    · rfl
    · exact h.elim
  · refine ⟨_, (pss_cons (ps_expr (pe_veinit (by rfl) hV vV (pa_cons (cv 0) (pa_cons pe_str pa_nil))))
  (pss_one (ps_ost (cv 0) (cv 1)))), ?_⟩
    unfold spErr at h
    split at h
    · rename_i a v
      obtain ⟨ha, q⟩ := h
      exact ⟨a, C, _, rfl, by show (1 : Nat) ≤ 1000; decide, ox, ha, a, C, rfl, ox, nv, .inl ⟨ha, q⟩⟩
    · exact h.elim
theorem ok_FaI {C fI : Addr} {fd : FuncData} (hAE : mg "ArithmeticError" = none) (vA : PySem.W.findCls K (.type "ArithmeticError") (.type "type") "__init__" = some (.val (.builtin "ArithmeticError.__init__"))) (ox : OexA K C) (nv : PySem.W.findIn K (.ref C) "word" = some none)
    (F : Fun K "__init__" "Failed.__init__" sFaI fI fd) : FnOk P w K mg base CX0 1 fI fd ["self", "word"] (spErr C "word") := by
  refine F.ok scFaI (fun vs H Q E h => ?_) (fun cdv A outer s H vs Q E hr h => ?_)
  · unfold spErr at h
    split at h
    · rfl
    · exact h.elim
  · refine ⟨_, (pss_cons (ps_expr (pe_arinit (by rfl) hAE vA (pa_cons (cv 0) (pa_cons pe_str pa_nil))))
  (pss_one (ps_arset (cv 0) (cv 1)))), ?_⟩
    unfold spErr at h
    split at h
    · rename_i a v
      obtain ⟨ha, q⟩ := h
      exact ⟨a, C, _, rfl, by show (1 : Nat) ≤ 1000; decide, ox, ha, a, C, rfl, ox, nv, ha, q⟩
    · exact h.elim
end
theorem frF_at (v : V) (l : Addr) (s : Str) (p : Addr) : (frF v l s p).lookup ("tree" : Str) = some v ∧ (frF v l s p).lookup ("own_reads" : Str) = some (.ref l) ∧ (frF v l s p).lookup ("text" : Str) = some (.str s) ∧ (frF v l s p).lookup ("names" : Str) = some (.ref p) ∧
    (frF v l s p).lookup ("need_known" : Str) = none ∧ (frF v l s p).lookup ("evaluate" : Str) = none := by
  unfold frF
  refine ⟨rfl, ?_, ?_, ?_, ?_, ?_⟩
  · rw [List.lookup_cons, show (("own_reads" : Str) == ("tree" : Str)) = false by decide +kernel]; rfl
  · rw [List.lookup_cons, show (("text" : Str) == ("tree" : Str)) = false by decide +kernel, List.lookup_cons, show (("text" : Str) == ("own_reads" : Str)) = false by decide +kernel]; rfl
  · rw [List.lookup_cons, show (("names" : Str) == ("tree" : Str)) = false by decide +kernel, List.lookup_cons, show (("names" : Str) == ("own_reads" : Str)) = false by decide +kernel, List.lookup_cons, show (("names" : Str) == ("text" : Str)) = false by decide +kernel]; rfl
  · rw [List.lookup_cons, show (("need_known" : Str) == ("tree" : Str)) = false by decide +kernel, List.lookup_cons, show (("need_known" : Str) == ("own_reads" : Str)) = false by decide +kernel, List.lookup_cons, show (("need_known" : Str) == ("text" : Str)) = false by decide +kernel, List.lookup_cons, show (("need_known" : Str) == ("names" : Str)) = false by decide +kernel]; rfl
  · rw [List.lookup_cons, show (("evaluate" : Str) == ("tree" : Str)) = false by decide +kernel, List.lookup_cons, show (("evaluate" : Str) == ("own_reads" : Str)) = false by decide +kernel, List.lookup_cons, show (("evaluate" : Str) == ("text" : Str)) = false by decide +kernel, List.lookup_cons, show (("evaluate" : Str) == ("names" : Str)) = false by decide +kernel]; rfl
theorem rm_hu {n : Nat} {A : Around} (r : Rm n A) : A.units + 1 < cLine := by have := r.un; omega
theorem no_more {x : V} : inV x [] = false := rfl
/-! ### need_known, known by keys -/
def nerr (Cn : Addr) (w : Str) (H : Hp) (E : XK) : Prop := ∀ d H2, Same H H2 → H2 d = some (.xd [("name", .str w)]) → E (.ref Cn) (some d) H2
/-- the first name that is not known -/
def goneB (κ : Str → Bool) (ns : List Str) : Option Str := ns.find? fun w => !κ w
theorem goneB_at {κ : Str → Bool} {ns : List Str} {i : Nat} {w : Str} (h : ∀ j u, j < i → ns[j]? = some u → κ u = true) (e : ns[i]? = some w) (n : κ w = false) : goneB κ ns = some w := by
  induction ns generalizing i with
  | nil => cases i <;> cases e
  | cons x r ih =>
    unfold goneB
    rw [List.find?_cons]
    cases i with
    | zero => cases e; rw [n]; rfl
    | succ i =>
      rw [h 0 x (by omega) rfl]
      exact ih (i := i) (fun j u hj hu => h (j + 1) u (by omega) hu) e
theorem goneB_no {κ : Str → Bool} {ns : List Str} (h : ∀ (j : Nat) u, j < ns.length → ns[j]? = some u → κ u = true) : goneB κ ns = none := by
  unfold goneB
  rw [List.find?_eq_none]
  intro x hx
  obtain ⟨j, hj, e⟩ := List.mem_iff_getElem.mp hx
  rw [h j x hj (by rw [List.getElem?_eq_getElem hj, e])]
  exact Bool.false_ne_true
/-- a dict by its keys -/
def KnD (H : Hp) (d : Addr) (κ : Str → Bool) : Prop := ∃ kvs, H d = some (.dK kvs) ∧ ∀ w, (valV kvs (.inr w)).isSome = κ w
theorem KnD.same {H H' : Hp} {d : Addr} {κ : Str → Bool} (h : KnD H d κ) (s : Same H H') : KnD H' d κ := by
  obtain ⟨kvs, e, k⟩ := h
  exact ⟨kvs, s _ _ e, k⟩
theorem _root_.Fm.ResD.kn {H : Hp} {d : Addr} {ρ : Str → Option Rs} (h : ResD H d ρ) : KnD H d fun w => (ρ w).isSome := by
  obtain ⟨kvs, e, k⟩ := h
  refine ⟨kvs, e, fun w => ?_⟩
  have z := k w
  cases hr : ρ w with
  | none => rw [hr] at z; rw [z]; show _ = (ρ w).isSome; rw [hr] <;> rfl
  | some r =>
    rw [hr] at z
    obtain ⟨v, e1, _⟩ := z
    rw [e1]
    show _ = (ρ w).isSome
    rw [hr] <;> rfl
theorem inV_map {w : Str} : ∀ {les : List Str}, inV (.str w) (les.map V.str) = decide (w ∈ les)
  | [] => rfl
  | x :: r => by
    have ih := inV_map (w := w) (les := r)
    unfold inV at ih ⊢
    rw [List.map_cons, List.any_cons, ih]
    rw [Bool.eq_iff_iff]
    simp only [eqV, Bool.or_eq_true, beq_iff_eq, decide_eq_true_eq, List.mem_cons]
    constructor
    · rintro (h | h)
      · exact .inl h.symm
      · exact .inr h
    · rintro (h | h)
      · exact .inl h.symm
      · exact .inr h
theorem flat_strs : ∀ les : List Str, (les.map V.str).all flatV = true
  | [] => rfl
  | x :: r => by rw [List.map_cons, List.all_cons, flat_strs r] <;> rfl
def spNk (CF Cn : Addr) : Sp := fun vs H Q E => match vs with
  | [.ref a, .ref d, .ref m] => ∃ dx v l s p, ∃ ns more : List Str, ∃ κ : Str → Bool, H a = some (.ins CF dx (frF v l s p)) ∧ H l = some (.lst (ns.map V.str)) ∧ KnD H d κ ∧ H m = some (.tup (more.map V.str)) ∧
      (match goneB (fun w => κ w || decide (w ∈ more)) ns with
      | none => ∀ H', Same H H' → Q .non H'
      | some w => nerr Cn w H E)
  | _ => False
/-- facts of the class -/
structure Te (P : Program) (w : World) (K : PySem.W.Frag) (mg : Str → Option Value) (base : Heap) (CF Cn : Addr) : Prop where
  cl : Cls K CF
  f1 : NoAttr K CF "tree"
  f2 : NoAttr K CF "own_reads"
  f3 : NoAttr K CF "text"
  un : ErrK P w K mg base "UnknownName" Cn "name"
abbrev sNk : Stmt := inClass (topS 21) 2
abbrev nNk : List Str := ["self", "known", "more", "name"]
abbrev pNk : List Str := ["self", "known", "more"]
theorem scNk : FnScope nNk pNk (defScope sNk) := ⟨rfl, rfl, rfl, by decide +kernel, rfl, by decide +kernel, by decide +kernel⟩
section
variable {P : Program} {w : World} {K : PySem.W.Frag} {mg : Str → Option Value} {base : Heap} {CF Cn : Addr}
theorem ok_nk {fn : Addr} {fd : FuncData} (T : Te P w K mg base CF Cn) (F : Fun K "need_known" "Formula.need_known" sNk fn fd) : FnV P w K mg base (L2.CX P w) 5 fn fd pNk (spNk CF Cn) := by
  refine F.okV scNk (fun vs H Q E h => ?_) (fun cdv A outer s H vs Q E hr h => ?_)
  · unfold spNk at h
    split at h
    · rfl
    · exact h.elim
  · have hu := rm_hu hr
    refine ⟨_, (pss_one (ps_for (L2.passes_of rfl) rfl (pi_list (pe_fld (cv 0) rfl)) (pg_name (i := 3) scNk.nd rfl (.inl rfl))
  (pss_one (ps_if (pt_cut (PW.pt (pw_and (pt_cmp (pc_dnotin hu (cv 3) (cv 1)) (by rfl)) (pw_and1 (ct_cmp op_notIn_seq (cv 3) (cv 2) (by rfl))))))
  (pss_one (ps_raiseK T.un rfl (hr.mono (by omega)) (L2.takes_of rfl rfl rfl rfl) (cv 3)))
  pss_nil)))), ?_⟩
    unfold spNk at h
    split at h
    · rename_i a d m
      obtain ⟨dx, v, l, s0, p, ns, more, κ, ha, hl, hR, hm, q⟩ := h
      refine ⟨a, CF, dx, _, _, rfl, ha, T.cl, T.f2, (frF_at v l s0 p).2.1, l, rfl, ⟨_, SqL.of hl⟩, ?_⟩
      refine for_list (xs := ns.map V.str) (fun i σ H' => (∃ e3, σ = [some (.ref a), some (.ref d), some (.ref m), e3]) ∧ H' = H ∧ ∀ j u, j < i → ns[j]? = some u → (κ u || decide (u ∈ more)) = true)
        ⟨⟨_, rfl⟩, rfl, fun j u hj => absurd hj (by omega)⟩ (fun i σ H' _ h => SqL.of (h.2.1 ▸ hl)) ?each ?done
      case done =>
        rintro σ H' ⟨_, rfl, hj⟩
        rw [List.length_map] at hj
        rw [goneB_no hj] at q
        exact q _ (Same.refl _)
      case each =>
        rintro i x σ H' hi ⟨⟨e3, rfl⟩, hH, hj⟩
        subst hH
        rw [List.getElem?_map] at hi
        obtain ⟨w0, hw, rfl⟩ := Option.map_eq_some_iff.mp hi
        obtain ⟨kvs, hk, kk⟩ := hR
        have hg := DGet.k (k := .inr w0) hk
        have ho := kk w0
        refine ⟨fun b H2 => b = !(κ w0 || decide (w0 ∈ more)) ∧ H2 = H', ?_, ?_⟩
        · refine ⟨d, _, rfl, hg, _, rfl, ?_⟩
          rw [ho]
          cases hq : κ w0 with
          | true =>
            show if (!true) = true then _ else _
            rw [if_neg (by decide)]
            exact ⟨rfl, rfl⟩
          | false =>
            show if (!false) = true then _ else _
            rw [if_pos (by decide)]
            refine ⟨m, _, rfl, .inr (SqT.of hm), rfl, flat_strs _, ?_⟩
            rw [inV_map]
            exact ⟨rfl, rfl⟩
        · rintro b H2 ⟨rfl, rfl⟩
          refine iteB (fun h => ?_) (fun h => ⟨⟨_, rfl⟩, rfl, fun j u hj' hu' => ?_⟩)
          · have h : (κ w0 || decide (w0 ∈ more)) = false := by
              cases hz : (κ w0 || decide (w0 ∈ more)) with
              | true => rw [hz] at h; cases h
              | false => rfl
            rw [goneB_at (κ := fun w => κ w || decide (w ∈ more)) hj hw h] at q
            exact fun d' H3 _ sm e => q d' H3 sm e
          · by_cases hji : j < i
            · exact hj j u hji hu'
            · have : j = i := by omega
              subst this
              rw [hw] at hu'
              cases hu'
              cases hz : (κ w0 || decide (w0 ∈ more)) with
              | true => rfl
              | false => rw [hz] at h; cases h
    · exact h.elim
end
end Rk

set_option Elab.async false
set_option linter.all false
set_option maxRecDepth 100000
set_option maxHeartbeats 2000000
/-! EvOps2: products and floors of greater numbers. -/
namespace CL
open PySem PySem.Spec PyProof.Rows L2
section
variable {X : Cx}
theorem c_mulW : OpR X (binaryOp .Mult) (cI2C CMulW fun i j => .int (i * j)) := cI2C_of op_mulW
/-- any first one; the other not 0 and of at most 8,000 bits -/
def FewW (_ j : Int) : Prop := j ≠ 0 ∧ j.natAbs < 2 ^ 8000
theorem c_fdivW : OpR X (binaryOp .FloorDiv) (cI2C FewW fun i j => .int (i.fdiv j)) := cI2C_of (opI fun i j _ _ _ _ _ hc q => by
  obtain ⟨h0, h1⟩ := hc
  have l := PySem.Flt.log2_lt_of (by decide) h1
  exact floordiv_int h0 q (.inl (PyProof.noPylong_of_log2 (by omega))))
end
end CL
namespace Fm
open PySem PySem.Spec PyProof.Rows L2 CL
/-- trees whose signs are signs and whose leaves are not too great -/
def ExOk (ν : Str → Int) : T → Prop
  | .num n => Fits 0 n
  | .nam w => Fits 0 (ν w)
  | .neg t => ExOk ν t
  | .op o a b => o ∈ ops ∧ ExOk ν a ∧ ExOk ν b
theorem opR_le {o : Str} {a b : Int} (h : o ≠ "*") : (exO o a b).natAbs ≤ a.natAbs + b.natAbs := by
  unfold exO opR
  split
  · show (a + b).natAbs ≤ _; omega
  split
  · show (a - b).natAbs ≤ _; omega
  split
  · split
    · show (0 : Int).natAbs ≤ _; omega
    · show (a.fdiv b).natAbs ≤ _
      have := Int.natAbs_fdiv_le_natAbs a b
      omega
  split
  · show (min a b).natAbs ≤ _; omega
  · show (max a b).natAbs ≤ _; omega
theorem exT_fits {ν : Str → Int} : ∀ {t : T}, ExOk ν t → Fits (dep t) (exT ν t)
  | .num n, h => h
  | .nam w, h => h
  | .neg t, h => by
    have ih := exT_fits (t := t) h
    have : Fits (dep t) (-exT ν t) := by unfold Fits at *; rw [Int.natAbs_neg]; exact ih
    exact fits_up this (Nat.le_succ _)
  | .op o a b, h => by
    obtain ⟨_, ha, hb⟩ := h
    have ia := fits_up (exT_fits (t := a) ha) (Nat.le_max_left (dep a) (dep b))
    have ib := fits_up (exT_fits (t := b) hb) (Nat.le_max_right (dep a) (dep b))
    show Fits (max (dep a) (dep b) + 1) (exO o (exT ν a) (exT ν b))
    by_cases ho : o = "*"
    · rw [ho, opR_mul]; exact fits_mul ia ib
    · exact fits_sum ia ib (opR_le ho)
theorem fits_8000 {d : Nat} {n : Int} (h : Fits d n) (k : d ≤ 6) : n.natAbs < 2 ^ 8000 := Nat.lt_of_lt_of_le (fits_up h k) (Nat.pow_le_pow_right (by decide) (by decide))
theorem fits_mulW {d : Nat} {m n : Int} (hm : Fits d m) (hn : Fits d n) (k : d ≤ 6) : CMulW m n := wide_mul (fits_8000 hm k) (fits_8000 hn k) (by decide) (by decide) (by decide)
end Fm

set_option Elab.async false
set_option linter.all false
set_option maxRecDepth 100000
set_option maxHeartbeats 4000000
namespace Rk
open PySem PySem.Spec PyProof.Rows L2 CL Fm
/-! ### the law's exact value of a tree of numbers -/
def Ex1 : T → Prop
  | .num n => Small n
  | .neg (.num a) => Small a
  | .op o (.num a) (.num b) => o ∈ ops ∧ Small a ∧ Small b
  | _ => False
def exV : T → Int
  | .num n => n
  | .neg (.num a) => -a
  | .op o (.num a) (.num b) => (opR o a b).getD 0
  | _ => 0
def spEx (n : Nat) : Sp := fun vs H Q _ => match vs with
  | [v, .ref d] => ∃ t, LTr H v t ∧ dep t < n ∧ Ex1 t ∧ (∃ kvs, H d = some (.dK kvs)) ∧ ∀ H', Same H H' → Q (.int (exV t)) H'
  | _ => False
abbrev kS (s : Str) : Key := Sum.inr s
def kvE (a b c : Int) : List (Key × V) := [(kS "minus", .int (0 - a)), (kS "+", .int (a + b)), (kS "-", .int (a - b)), (kS "*", .int (a * b)), (kS "min", .int (min a b)), (kS "max", .int (max a b)), (kS "//", .int c)]
theorem kvE_made (a b c : Int) : mergeK (mergeK [] [(kS "minus", .int (0 - a)), (kS "+", .int (a + b)), (kS "-", .int (a - b)), (kS "*", .int (a * b))]) (mergeK [] [(kS "min", .int (min a b)), (kS "max", .int (max a b)), (kS "//", .int c)]) = kvE a b c := by kernel_rfl
theorem kvE_at (a b : Int) {o : Str} (h : o ∈ ops) : valV (kvE a b (if b = 0 then 0 else a.fdiv b)) (kS o) = some (.int ((opR o a b).getD 0)) := by
  simp only [ops, List.mem_cons, List.not_mem_nil, or_false] at h
  rcases h with rfl | rfl | rfl | rfl | rfl | rfl
  · kernel_rfl
  · kernel_rfl
  · kernel_rfl
  · have e : opR "//" a b = if b = 0 then none else some (a.fdiv b) := by unfold opR; rw [if_neg (by decide +kernel), if_neg (by decide +kernel), if_neg (by decide +kernel), if_pos rfl]
    have z : valV (kvE a b (if b = 0 then 0 else a.fdiv b)) (kS "//") = some (.int (if b = 0 then 0 else a.fdiv b)) := by kernel_rfl
    rw [z, e]
    by_cases h : b = 0
    · rw [if_pos h, if_pos h] <;> rfl
    · rw [if_neg h, if_neg h] <;> rfl
  · kernel_rfl
  · kernel_rfl
theorem kvE_minus (a c : Int) : valV (kvE a a c) (kS "minus") = some (.int (0 - a)) := by kernel_rfl
theorem atI_last {x y : V} : atI [x, y] (-1) = some y := rfl
end Rk

set_option Elab.async false
set_option linter.all false
set_option maxRecDepth 100000
set_option maxHeartbeats 4000000
set_option pp.maxSteps 200
namespace Rk
open PySem PySem.Spec PyProof.Rows L2 CL Fm
/-! ### the law's exact value of a tree -/
def spExG (n : Nat) : Sp := fun vs H Q _ => match vs with
  | [v, .ref d] => ∃ t, ∃ ν : Str → Int, ∃ kvs : List (Key × V), LTr H v t ∧ dep t < n ∧ dep t ≤ 5 ∧ ExOk ν t ∧ H d = some (.dK kvs) ∧ (∀ w ∈ nmsT t, valV kvs (kS w) = some (.int (ν w))) ∧ ∀ H', Same H H' → Q (.int (exT ν t)) H'
  | _ => False
theorem exV_is {ν : Str → Int} {t : T} (h : Ex1 t) : exV t = exT ν t := by
  cases t with
  | num n => rfl
  | nam w => exact h.elim
  | neg t =>
    cases t with
    | num a => rfl
    | _ => exact h.elim
  | op o a b =>
    cases a with
    | num x =>
      cases b with
      | num y => rfl
      | _ => exact h.elim
    | _ => exact h.elim
theorem ex1_ok {t : T} (h : Ex1 t) : ExOk (fun _ => 0) t ∧ nmsT t = [] ∧ dep t ≤ 1 := by
  have fz : ∀ {n : Int}, Small n → Fits 0 n := fun {n} h => by obtain ⟨a, b⟩ := h; exact fits_zero (by omega) (by omega)
  cases t with
  | num n => exact ⟨fz h, rfl, Nat.zero_le _⟩
  | nam w => exact h.elim
  | neg t =>
    cases t with
    | num a => exact ⟨fz h, rfl, Nat.le_refl _⟩
    | _ => exact h.elim
  | op o a b =>
    cases a with
    | num x =>
      cases b with
      | num y => exact ⟨⟨h.1, fz h.2.1, fz h.2.2⟩, rfl, by show max 0 0 + 1 ≤ 1; decide⟩
      | _ => exact h.elim
    | _ => exact h.elim
abbrev sEx : Stmt := topS 34
abbrev nEx : List Str := ["_law_tree_here", "_law_values_here", "_law_one", "_law_other", "_law_some"]
abbrev pEx : List Str := ["_law_tree_here", "_law_values_here"]
theorem scEx : FnScope nEx pEx (defScope sEx) := ⟨rfl, rfl, rfl, by decide +kernel, rfl, by decide +kernel, by decide +kernel⟩
section
variable {P : Program} {w : World} {K : PySem.W.Frag} {mg : Str → Option Value} {base : Heap}
theorem ok_exG (B : BltE mg) (F : FunAt K mg "_law_exact" sEx pEx) : ∀ n, DefOk P w K mg base CX0 (1 + n) "_law_exact" pEx (spExG n) := by
  refine F.rec_ scEx (fun vs H Q E h => ?_) (fun n vs H Q E h => ?_) (fun n ih f cdv A outer s H vs Q E hr h => ?_)
  · unfold spExG at h
    split at h
    · obtain ⟨t, ν, kvs, _, h1, _⟩ := h
      omega
    · exact h.elim
  · unfold spExG at h
    split at h
    · rfl
    · exact h.elim
  · have hu := hu_of hr
    refine ⟨_, (pss_cons (ps_if (ct_cmp op_eq (pe_ix ix_tup (cv 0) pe_int (fun _ _ => rfl)) pe_str (nomark _))
  (pss_one (ps_ret (pe_ix ix_tup (cv 0) pe_int (fun _ _ => rfl))))
  pss_nil)
  (pss_cons (ps_if (ct_cmp op_eq (pe_ix ix_tup (cv 0) pe_int (fun _ _ => rfl)) pe_str (nomark _))
  (pss_one (ps_ret (pe_dget hu (cv 1) (pe_ix ix_tup (cv 0) pe_int (fun _ _ => rfl)) (fun _ _ => rfl))))
  pss_nil)
  (pss_cons (ps_par (i := 2) (j := 3) rfl scEx.nd rfl rfl (by decide) rfl rfl (pa_cons (pe_def ih hr (by omega) (pa_cons (pe_ix ix_tup (cv 0) pe_int (fun _ _ => rfl)) (pa_cons (cv 1) pa_nil))) (pa_cons (pe_def ih hr (by omega) (pa_cons (pe_ix ix_tup (cv 0) (pe_un c_neg pe_int) (fun _ _ => rfl)) (pa_cons (cv 1) pa_nil))) pa_nil)) (by rfl))
  (pss_cons (ps_set (i := 4) scEx.nd rfl (.inl rfl) (pe_disp (pps_cons pe_str (pe_op c_sub pe_int (cv 2)) (pps_cons pe_str (pe_op c_addI (cv 2) (cv 3)) (pps_cons pe_str (pe_op c_sub (cv 2) (cv 3)) (pps_cons pe_str (pe_op c_mulW (cv 2) (cv 3)) pps_nil)))) (by rfl) (by rfl) (by simp) (by decide)))
  (pss_cons (ps_expr (pe_bm PySem.F.plainAttrs_dict PySem.F.slot_dict_update PySem.F.type_dict_update mt_updK (cv 4) (pa_cons (pe_disp (pps_cons pe_str (pe_callB (c_min rfl) (by rfl) B.min (by decide +kernel) (pa_cons (cv 2) (pa_cons (cv 3) pa_nil))) (pps_cons pe_str (pe_callB (c_max rfl) (by rfl) B.max (by decide +kernel) (pa_cons (cv 2) (pa_cons (cv 3) pa_nil))) (pps_cons pe_str (pe_ifExp (ct_cmp op_ne (cv 3) pe_int (nomark _)) (pe_op c_fdivW (cv 2) (cv 3)) pe_int) pps_nil))) (by rfl) (by rfl) (by simp) (by decide)) pa_nil)))
  (pss_one (ps_ret (pe_dget hu (cv 4) (pe_ix ix_tup (cv 0) pe_int (fun _ _ => rfl)) (fun _ _ => rfl))))))))), ?_⟩
    unfold spExG at h
    split at h
    · rename_i v d
      obtain ⟨t, ν, kvs, lt, hd, hd5, he, hK, hN, q⟩ := h
      by_cases isn : ∃ n0 : Int, ∃ b, v = .ref b ∧ t = .num n0 ∧ H b = some (.tup [.str "number", .int n0])
      · obtain ⟨n0, b, rfl, rfl, e⟩ := isn
        refine ⟨b, _, 0, .str "number", rfl, rfl, SqT.of e, rfl, rfl, ?_⟩
        show if decide (V.str "number" = V.str "number") = true then _ else _
        rw [if_pos (by decide +kernel)]
        exact ⟨b, _, 1, .int n0, rfl, rfl, SqT.of e, rfl, q H (Same.refl _)⟩
      by_cases isw : ∃ w0 : Str, ∃ b, v = .ref b ∧ t = .nam w0 ∧ H b = some (.tup [.str "name", .str w0])
      · obtain ⟨w0, b, rfl, rfl, e⟩ := isw
        refine ⟨b, _, 0, .str "name", rfl, rfl, SqT.of e, rfl, rfl, ?_⟩
        show if decide (V.str "name" = V.str "number") = true then _ else _
        rw [if_neg (neO (by decide +kernel))]
        refine ⟨b, _, 0, .str "name", rfl, rfl, SqT.of e, rfl, rfl, ?_⟩
        show if decide (V.str "name" = V.str "name") = true then _ else _
        rw [if_pos (by decide +kernel)]
        refine ⟨b, _, 1, .str w0, rfl, rfl, SqT.of e, rfl, d, .int (ν w0), rfl, ?_, q H (Same.refl _)⟩
        have g := DGet.k (k := kS w0) hK
        rw [hN w0 (by simp [nmsT])] at g
        exact g
      obtain ⟨b, o, xs, v1, v2, t1, t2, rfl, e, n1, n2, a1, a2, l1, l2, hn1, hn2, o1, o2, m1, m2, hv⟩ : ∃ (b : Addr) (o : Str) (xs : List V) (v1 v2 : V) (t1 t2 : T), v = .ref b ∧ H b = some (.tup (.str o :: xs)) ∧ o ≠ "number" ∧ o ≠ "name" ∧
          atI (V.str o :: xs) 1 = some v1 ∧ atI (V.str o :: xs) (-1) = some v2 ∧ LTr H v1 t1 ∧ LTr H v2 t2 ∧ dep t1 < dep t ∧ dep t2 < dep t ∧ ExOk ν t1 ∧ ExOk ν t2 ∧ (∀ w ∈ nmsT t1, w ∈ nmsT t) ∧ (∀ w ∈ nmsT t2, w ∈ nmsT t) ∧
          valV (kvE (exT ν t1) (exT ν t2) (if exT ν t2 = 0 then 0 else (exT ν t1).fdiv (exT ν t2))) (kS o) = some (.int (exT ν t)) := by
        cases lt with
        | num e => exact (isn ⟨_, _, rfl, rfl, e⟩).elim
        | nam e => exact (isw ⟨_, _, rfl, rfl, e⟩).elim
        | @neg b v1 t1 e l1 =>
          refine ⟨b, _, _, v1, v1, t1, t1, rfl, e, by decide +kernel, by decide +kernel, rfl, rfl, l1, l1, Nat.lt_succ_self _, Nat.lt_succ_self _, he, he, fun _ h => h, fun _ h => h, ?_⟩
          rw [kvE_minus]
          show some (V.int (0 - exT ν t1)) = some (V.int (-exT ν t1))
          rw [Int.zero_sub]
        | @op b o v1 v2 t1 t2 e l1 l2 =>
          have ho : o ∈ ops := he.1
          refine ⟨b, o, _, v1, v2, t1, t2, rfl, e, fun z => absurd (z ▸ ho) (by decide +kernel), fun z => absurd (z ▸ ho) (by decide +kernel), rfl, rfl, l1, l2, ?_, ?_, he.2.1, he.2.2, fun _ h => List.mem_append_left _ h, fun _ h => List.mem_append_right _ h, kvE_at _ _ ho⟩
          · show dep t1 < max (dep t1) (dep t2) + 1; omega
          · show dep t2 < max (dep t1) (dep t2) + 1; omega
      have f1 := exT_fits o1
      have f2 := exT_fits o2
      have fx : Fits 5 (exT ν t1) := fits_up f1 (by omega)
      have fy : Fits 5 (exT ν t2) := fits_up f2 (by omega)
      refine ⟨b, _, 0, .str o, rfl, rfl, SqT.of e, atI_hd, rfl, ?_⟩
      show if decide (V.str o = V.str "number") = true then _ else _
      rw [if_neg (neO n1)]
      refine ⟨b, _, 0, .str o, rfl, rfl, SqT.of e, atI_hd, rfl, ?_⟩
      show if decide (V.str o = V.str "name") = true then _ else _
      rw [if_neg (neO n2)]
      refine ⟨b, _, 1, v1, rfl, rfl, SqT.of e, a1, t1, ν, kvs, l1, by omega, by omega, o1, hK, fun w h => hN w (m1 w h), fun H1 s1 => ?_⟩
      refine ⟨b, _, -1, v2, rfl, rfl, SqT.of (s1 _ _ e), a2, t2, ν, kvs, l2.same s1, by omega, by omega, o2, s1 _ _ hK, fun w h => hN w (m2 w h), fun H2 s2 => ?_⟩
      generalize exT ν t1 = x at *
      generalize exT ν t2 = y at *
      have S2 := s1.trans s2
      refine ⟨_, _, rfl, fun D nD => ?_⟩
      refine ⟨fits_mulW fx fy (by decide), upd_same, [(kS "minus", .int (0 - x)), (kS "+", .int (x + y)), (kS "-", .int (x - y)), (kS "*", .int (x * y))], rfl, by show 4 ≤ 15; decide, ?_⟩
      have sG : Same H2 (upd (upd H2 D (.dK [])) D (.dK (mergeK [] [(kS "minus", .int (0 - x)), (kS "+", .int (x + y)), (kS "-", .int (x - y)), (kS "*", .int (x * y))]))) := fun c o h => by
        have := ne_of_none h nD
        rw [upd_ne this, upd_ne this]; exact h
      have hG : upd (upd H2 D (.dK [])) D (.dK (mergeK [] [(kS "minus", .int (0 - x)), (kS "+", .int (x + y)), (kS "-", .int (x - y)), (kS "*", .int (x * y))])) D = some (.dK (mergeK [] [(kS "minus", .int (0 - x)), (kS "+", .int (x + y)), (kS "-", .int (x - y)), (kS "*", .int (x * y))])) := upd_same
      generalize upd (upd H2 D (.dK [])) D (.dK (mergeK [] [(kS "minus", .int (0 - x)), (kS "+", .int (x + y)), (kS "-", .int (x - y)), (kS "*", .int (x * y))])) = G at sG hG
      refine ⟨.inr (.inr (.inl ⟨rfl, .inl ⟨_, hG⟩⟩)), fun D2 nD2 => ?_⟩
      have dd : D ≠ D2 := ne_of_none hG nD2
      refine ⟨rfl, ?_⟩
      show if (!decide (V.int y = V.int 0)) = true then _ else _
      have iz : y = 0 ↔ V.int y = V.int 0 := ⟨fun z => by rw [z], fun z => by injection z⟩
      by_cases h0 : y = 0
      · rw [if_pos h0] at hv
        rw [if_neg (by rw [decide_eq_true (iz.mp h0)]; exact Bool.false_ne_true)]
        refine ⟨upd_same, [(kS "min", .int (min x y)), (kS "max", .int (max x y)), (kS "//", .int 0)], rfl, by show 3 ≤ 15; decide, D, D2, _, _, rfl, rfl, (by rw [upd_ne dd, upd_ne dd]; exact hG), dd, upd_same, Nat.le_trans (Nat.add_le_add (length_mergeK _ _) (length_mergeK _ _)) (by show 0 + 4 + (0 + 3) ≤ sizeLine; decide), ?_⟩
        have S5 : Same H2 (upd (upd (upd G D2 (.dK [])) D2 (.dK (mergeK [] [(kS "min", .int (min x y)), (kS "max", .int (max x y)), (kS "//", .int 0)]))) D (.dK (mergeK (mergeK [] [(kS "minus", .int (0 - x)), (kS "+", .int (x + y)), (kS "-", .int (x - y)), (kS "*", .int (x * y))]) (mergeK [] [(kS "min", .int (min x y)), (kS "max", .int (max x y)), (kS "//", .int 0)])))) := fun c o h => by
          have g1 := ne_of_none h nD
          have g2 := ne_of_none (sG _ _ h) nD2
          rw [upd_ne g1, upd_ne g2, upd_ne g2]
          exact sG _ _ h
        refine ⟨b, _, 0, .str o, rfl, rfl, SqT.of (S5 _ _ (S2 _ _ e)), atI_hd, D, .int (exT ν t), rfl, ?_, q _ (S2.trans S5)⟩
        have g := DGet.k (k := kS o) (H := upd (upd (upd G D2 (.dK [])) D2 (.dK (mergeK [] [(kS "min", .int (min x y)), (kS "max", .int (max x y)), (kS "//", .int 0)]))) D (.dK (mergeK (mergeK [] [(kS "minus", .int (0 - x)), (kS "+", .int (x + y)), (kS "-", .int (x - y)), (kS "*", .int (x * y))]) (mergeK [] [(kS "min", .int (min x y)), (kS "max", .int (max x y)), (kS "//", .int 0)])))) upd_same
        rw [kvE_made, hv] at g
        rw [kvE_made]
        exact g
      · rw [if_neg h0] at hv
        rw [if_pos (by rw [decide_eq_false (fun z => h0 (iz.mpr z))] <;> rfl)]
        refine ⟨(show FewW x y from ⟨h0, fits_8000 fy (by decide)⟩), ?_⟩
        refine ⟨upd_same, [(kS "min", .int (min x y)), (kS "max", .int (max x y)), (kS "//", .int (x.fdiv y))], rfl, by show 3 ≤ 15; decide, D, D2, _, _, rfl, rfl, (by rw [upd_ne dd, upd_ne dd]; exact hG), dd, upd_same, Nat.le_trans (Nat.add_le_add (length_mergeK _ _) (length_mergeK _ _)) (by show 0 + 4 + (0 + 3) ≤ sizeLine; decide), ?_⟩
        have S5 : Same H2 (upd (upd (upd G D2 (.dK [])) D2 (.dK (mergeK [] [(kS "min", .int (min x y)), (kS "max", .int (max x y)), (kS "//", .int (x.fdiv y))]))) D (.dK (mergeK (mergeK [] [(kS "minus", .int (0 - x)), (kS "+", .int (x + y)), (kS "-", .int (x - y)), (kS "*", .int (x * y))]) (mergeK [] [(kS "min", .int (min x y)), (kS "max", .int (max x y)), (kS "//", .int (x.fdiv y))])))) := fun c o h => by
          have g1 := ne_of_none h nD
          have g2 := ne_of_none (sG _ _ h) nD2
          rw [upd_ne g1, upd_ne g2, upd_ne g2]
          exact sG _ _ h
        refine ⟨b, _, 0, .str o, rfl, rfl, SqT.of (S5 _ _ (S2 _ _ e)), atI_hd, D, .int (exT ν t), rfl, ?_, q _ (S2.trans S5)⟩
        have g := DGet.k (k := kS o) (H := upd (upd (upd G D2 (.dK [])) D2 (.dK (mergeK [] [(kS "min", .int (min x y)), (kS "max", .int (max x y)), (kS "//", .int (x.fdiv y))]))) D (.dK (mergeK (mergeK [] [(kS "minus", .int (0 - x)), (kS "+", .int (x + y)), (kS "-", .int (x - y)), (kS "*", .int (x * y))]) (mergeK [] [(kS "min", .int (min x y)), (kS "max", .int (max x y)), (kS "//", .int (x.fdiv y))])))) upd_same
        rw [kvE_made, hv] at g
        rw [kvE_made]
        exact g
    · exact h.elim
/-- as the law's own evaluation asks it -/
theorem ok_ex (D : DefOk P w K mg base CX0 3 "_law_exact" pEx (spExG 2)) : DefOk P w K mg base CX0 3 "_law_exact" pEx (spEx 2) := D.imp fun vs H Q E h => by
  unfold spEx at h
  split at h
  · rename_i v d
    obtain ⟨t, lt, hd, he, ⟨kvs, hK⟩, q⟩ := h
    obtain ⟨k1, k2, k3⟩ := ex1_ok he
    exact ⟨t, _, kvs, lt, hd, by omega, k1, hK, (fun w hw => by rw [k2] at hw; cases hw), fun H' s => by rw [← exV_is (ν := fun _ => 0) he]; exact q H' s⟩
  · exact h.elim
end
end Rk

set_option Elab.async false
set_option linter.all false
set_option maxRecDepth 100000
set_option maxHeartbeats 4000000
set_option pp.maxSteps 200
namespace Rk
open PySem PySem.Spec PyProof.Rows L2 CL Fm
def nO : Option T → List Str
  | none => []
  | some t => nmsT t
theorem nms_len : ∀ t : T, (nmsT t).length ≤ 2 ^ dep t
  | .num _ => Nat.zero_le _
  | .nam _ => by show 1 ≤ 2 ^ 0; decide
  | .neg t => by
    have := nms_len t
    show (nmsT t).length ≤ 2 ^ (dep t + 1)
    rw [Nat.pow_succ]
    omega
  | .op o a b => by
    have h1 := nms_len a
    have h2 := nms_len b
    show (nmsT a ++ nmsT b).length ≤ 2 ^ (max (dep a) (dep b) + 1)
    rw [List.length_append, Nat.pow_succ]
    have g1 : 2 ^ dep a ≤ 2 ^ max (dep a) (dep b) := Nat.pow_le_pow_right (by decide) (Nat.le_max_left _ _)
    have g2 : 2 ^ dep b ≤ 2 ^ max (dep a) (dep b) := Nat.pow_le_pow_right (by decide) (Nat.le_max_right _ _)
    omega
theorem _root_.Fm.LTr.tup {H : Hp} {v : V} {t : T} (h : LTr H v t) : ∃ a xs, v = .ref a ∧ H a = some (.tup xs) := by
  cases h with
  | num e => exact ⟨_, _, rfl, e⟩
  | nam e => exact ⟨_, _, rfl, e⟩
  | neg e _ => exact ⟨_, _, rfl, e⟩
  | op e _ _ => exact ⟨_, _, rfl, e⟩
/-- a tree's names, each as often as it is read -/
def spReads (n : Nat) : Sp := fun vs H Q _ => match vs with
  | [v] => ∃ t, LTr H v t ∧ dep t < n ∧ dep t ≤ 10 ∧ NOk t ∧ ∀ l H', H l = none → H' l = some (.lst ((nmsT t).map V.str)) → Same H H' → Q (.ref l) H'
  | _ => False
structure BltR (mg : Str → Option Value) : Prop extends BltE mg where
  isinstance : mg "isinstance" = none
  tuple : mg "tuple" = none
  abs : mg "abs" = none
theorem cut_tail {x : V} {xs : List V} (few : xs.length = 1 ∨ xs.length = 2) : cutV (x :: xs) (some 1) none = xs ∧ ¬ (HT.sIx (x :: xs).length 0 (some 1) = 0 ∧ HT.sIx (x :: xs).length (x :: xs).length none = (x :: xs).length) := by
  match xs, few with
  | [y], _ => exact ⟨rfl, by show ¬ (HT.sIx 2 0 (some 1) = 0 ∧ HT.sIx 2 2 none = 2); decide⟩
  | [y, z], _ => exact ⟨rfl, by show ¬ (HT.sIx 3 0 (some 1) = 0 ∧ HT.sIx 3 3 none = 3); decide⟩
theorem ops_ne {o p : Str} (h : o ∈ ops) (n : p ∉ ops) : o ≠ p := fun z => n (z ▸ h)
/-- a tree's parts -/
theorem _root_.Fm.LTr.parts {H : Hp} {v : V} {t : T} (h : LTr H v t) (k : NOk t) (nn : ∀ w, t ≠ .nam w) : ∃ (b : Addr) (o : Str) (xs : List V) (os : List (Option T)), v = .ref b ∧ H b = some (.tup (.str o :: xs)) ∧ o ≠ "name" ∧ (xs.length = 1 ∨ xs.length = 2) ∧ xs.length = os.length ∧
    nmsT t = os.flatMap nO ∧ ∀ (i : Nat) (x : V), xs[i]? = some x → (∃ t', os[i]? = some (some t') ∧ LTr H x t' ∧ dep t' < dep t ∧ NOk t') ∨ (os[i]? = some none ∧ ∃ m, x = .int m) := by
  cases h with
  | @num b n e =>
    refine ⟨b, _, _, [none], rfl, e, by decide +kernel, .inl rfl, rfl, rfl, fun i x hi => .inr ?_⟩
    match i, hi with
    | 0, hi => cases hi; exact ⟨rfl, _, rfl⟩
  | nam e => exact absurd rfl (nn _)
  | @neg b v1 t1 e l1 =>
    refine ⟨b, _, _, [some t1], rfl, e, by decide +kernel, .inl rfl, rfl, by simp [nmsT, nO], fun i x hi => .inl ?_⟩
    match i, hi with
    | 0, hi => cases hi; exact ⟨t1, rfl, l1, Nat.lt_succ_self _, k⟩
  | @op b o v1 v2 t1 t2 e l1 l2 =>
    refine ⟨b, o, _, [some t1, some t2], rfl, e, ops_ne k.1 (by decide +kernel), .inr rfl, rfl, by simp [nmsT, nO], fun i x hi => .inl ?_⟩
    have d1 : dep t1 < max (dep t1) (dep t2) + 1 := by omega
    have d2 : dep t2 < max (dep t1) (dep t2) + 1 := by omega
    match i, hi with
    | 0, hi => cases hi; exact ⟨t1, rfl, l1, d1, k.2.1⟩
    | 1, hi => cases hi; exact ⟨t2, rfl, l2, d2, k.2.2⟩
abbrev sReads : Stmt := topS 33
abbrev nReads : List Str := ["_law_tree_here", "_law_found", "_law_part"]
abbrev pReads : List Str := ["_law_tree_here"]
theorem scReads : FnScope nReads pReads (defScope sReads) := ⟨rfl, rfl, rfl, by decide +kernel, rfl, by decide +kernel, by decide +kernel⟩
section
variable {P : Program} {w : World} {K : PySem.W.Frag} {mg : Str → Option Value} {base : Heap}
theorem ok_reads (B : BltR mg) (F : FunAt K mg "_law_reads" sReads pReads) : ∀ n, DefOk P w K mg base CX0 (1 + n) "_law_reads" pReads (spReads n) := by
  refine F.rec_ scReads (fun vs H Q E h => ?_) (fun n vs H Q E h => ?_) (fun n ih f cdv A outer s H vs Q E hr h => ?_)
  · unfold spReads at h
    split at h
    · obtain ⟨t, _, h1, _⟩ := h
      omega
    · exact h.elim
  · unfold spReads at h
    split at h
    · rfl
    · exact h.elim
  · have hu := hu_of hr
    refine ⟨_, (pss_cons (ps_if (ct_cmp op_eq (pe_ix ix_tup (cv 0) pe_int (fun _ _ => rfl)) pe_str (nomark _))
  (pss_one (ps_ret (pe_lst (pa_cons (pe_ix ix_tup (cv 0) pe_int (fun _ _ => rfl)) pa_nil))))
  pss_nil)
  (pss_cons (ps_set (i := 1) scReads.nd rfl (.inl rfl) (pe_lst pa_nil))
  (pss_cons (ps_for PassesOwn.never rfl (pi_tup (pe_slice sl_tup (cv 0) (po_some pe_int) po_none)) (pg_name (i := 2) scReads.nd rfl (.inl rfl))
  (pss_one (ps_if (ct_val (pe_isi (m := .tuple) (by decide +kernel) B.isinstance B.tuple (by rfl) (by rfl) (cv 2)))
  (pss_one (ps_expr (pe_bm PySem.F.plainAttrs_list PySem.F.slot_list_extend PySem.F.type_list_extend mt_extend (cv 1) (pa_cons (pe_def ih hr (by omega) (pa_cons (cv 2) pa_nil)) pa_nil))))
  pss_nil)))
  (pss_one (ps_ret (cv 1)))))), ?_⟩
    unfold spReads at h
    split at h
    · rename_i v
      obtain ⟨t, lt, hd, hd10, nk, q⟩ := h
      by_cases isn : ∃ w, t = .nam w
      · obtain ⟨w0, rfl⟩ := isn
        cases lt with
        | @nam b _ e =>
          refine ⟨b, _, 0, .str "name", rfl, rfl, SqT.of e, rfl, rfl, ?_⟩
          show if decide (V.str "name" = V.str "name") = true then _ else _
          rw [if_pos (by decide +kernel)]
          exact ⟨b, _, 1, .str w0, rfl, rfl, SqT.of e, rfl, by show 1 ≤ sizeLine; decide, fun l nl => q l _ nl upd_same (same_new nl)⟩
      obtain ⟨b, o, xs, os, rfl, e, no, few, hl, hnm, hx⟩ := lt.parts nk (fun w z => isn ⟨w, z⟩)
      refine ⟨b, _, 0, .str o, rfl, rfl, SqT.of e, atI_hd, rfl, ?_⟩
      show if decide (V.str o = V.str "name") = true then _ else _
      rw [if_neg (neO no)]
      refine ⟨by show 0 ≤ sizeLine; decide, fun D nD => ?_⟩
      have sD := same_new (o := .lst []) nD
      obtain ⟨cx1, cx2⟩ := cut_tail (x := V.str o) few
      refine ⟨1, rfl, b, _, rfl, SqT.of (sD _ _ e), cx2, fun tp ntp => ⟨tp, rfl, ⟨_, SqT.of upd_same⟩, ?_⟩⟩
      rw [cx1]
      have st := same_new (o := .tup xs) ntp
      have htp : upd (upd H D (.lst [])) tp (.tup xs) tp = some (.tup xs) := upd_same
      have hDl : upd (upd H D (.lst [])) tp (.tup xs) D = some (.lst []) := st _ _ upd_same
      have S2 := sD.trans st
      generalize upd (upd H D (.lst [])) tp (.tup xs) = H2 at htp hDl S2
      have all : (os.flatMap nO).length ≤ 1024 := by
        rw [← hnm]
        exact Nat.le_trans (nms_len t) (Nat.pow_le_pow_right (by decide) hd10)
      have bnd : ∀ i, ((os.take i).flatMap nO).length ≤ 1024 := fun i => by
        refine Nat.le_trans ?_ all
        have : os.flatMap nO = (os.take i).flatMap nO ++ (os.drop i).flatMap nO := by rw [← List.flatMap_append, List.take_append_drop]
        rw [this, List.length_append]
        omega
      have tpD : tp ≠ D := ne_of htp hDl fun z => nomatch z
      refine for_tup (xs := xs) (fun i σ H' => (∃ e2, σ = [some (.ref b), some (.ref D), e2]) ∧ H' D = some (.lst (((os.take i).flatMap nO).map V.str)) ∧ Off D H2 H') ⟨⟨_, rfl⟩, hDl, fun _ _ _ h => h⟩
        (fun i σ H' _ h => SqT.of (h.2.2 _ _ tpD htp)) ?each ?done
      case done =>
        rintro σ H' ⟨⟨e2, rfl⟩, g1, g2⟩
        rw [List.take_of_length_le (by omega), ← hnm] at g1
        exact q D H' nD g1 (fun c o h => g2 c o (ne_of_none h nD) (S2 c o h))
      case each =>
        rintro i x σ H' hi ⟨⟨e2, rfl⟩, g1, g2⟩
        have S' : Same H H' := fun c o h => g2 c o (ne_of_none h nD) (S2 c o h)
        rcases hx i x hi with ⟨t', et, lt', dt', nk'⟩ | ⟨et, m, rfl⟩
        · obtain ⟨a, ys, rfl, ea⟩ := (lt'.same S').tup
          refine ⟨.tuple, .tup (SqT.of ea), ?_⟩
          show if true = true then _ else _
          rw [if_pos rfl]
          refine ⟨.inl ⟨rfl, _, SqL.of g1⟩, t', lt'.same S', by omega, by omega, nk', fun l H3 nl hl3 s3 => ?_⟩
          have lD : l ≠ D := (ne_of_none g1 nl).symm
          have bn := bnd (i + 1)
          rw [List.take_add_one, et] at bn
          have ap : (os.take i ++ (some (some t')).toList).flatMap nO = (os.take i).flatMap nO ++ nmsT t' := by
            rw [List.flatMap_append] <;> simp [nO]
          rw [ap, List.length_append] at bn
          refine ⟨D, l, _, _, rfl, rfl, s3 _ _ g1, hl3, ?_, ⟨_, rfl⟩, ?_, fun c o n h => by rw [upd_ne n]; exact s3 _ _ (g2 c o n h)⟩
          · rw [List.length_map, List.length_map]
            exact Nat.le_trans bn (by decide)
          · rw [upd_same, List.take_add_one, et, ap, List.map_append]
        · refine ⟨⟨_, rfl⟩, ?_, g2⟩
          rw [List.take_add_one, et, List.flatMap_append]
          rw [g1]
          simp [nO]
    · exact h.elim
end
end Rk

set_option Elab.async false
set_option linter.all false
set_option maxRecDepth 100000
set_option maxHeartbeats 4000000
set_option pp.maxSteps 200
namespace Rk
open PySem PySem.Spec PyProof.Rows L2 CL Fm
/-! ### the law's own evaluation -/
def failsOf : List Rs → List Str
  | [] => []
  | .fail w :: r => w :: failsOf r
  | .val _ :: r => failsOf r
theorem failsOf_app : ∀ a b : List Rs, failsOf (a ++ b) = failsOf a ++ failsOf b
  | [], b => rfl
  | .fail w :: r, b => by show w :: failsOf (r ++ b) = w :: (failsOf r ++ failsOf b); rw [failsOf_app r b]
  | .val _ :: r, b => failsOf_app r b
theorem failsOf_head : ∀ a : List Rs, failOf a = (failsOf a).head?
  | [] => rfl
  | .fail w :: r => rfl
  | .val _ :: r => failsOf_head r
theorem failsOf_mem : ∀ {a : List Rs} {w : Str}, w ∈ failsOf a → Rs.fail w ∈ a
  | [], _, h => nomatch h
  | .fail v :: r, w, h => by
    rcases List.mem_cons.mp h with z | z
    · rw [z]; exact List.mem_cons_self
    · exact List.mem_cons_of_mem _ (failsOf_mem z)
  | .val _ :: r, w, h => List.mem_cons_of_mem _ (failsOf_mem (a := r) h)
theorem failsOf_len : ∀ a : List Rs, (failsOf a).length ≤ a.length
  | [] => Nat.le_refl _
  | .fail w :: r => by have := failsOf_len r; simp only [failsOf, List.length_cons]; omega
  | .val _ :: r => by have := failsOf_len r; simp only [failsOf, List.length_cons]; omega
/-- words that may be told -/
def RW (ρ : Str → Option Rs) : Prop := ∀ w x, ρ w = some (.fail x) → So x
theorem fin_word {o : Str} {rs : List Rs} {x : Str} (h : finT o rs = .fail x) : .fail x ∈ rs ∨ So x := by
  unfold finT at h
  split at h
  · rename_i w hw
    cases h
    rw [failsOf_head] at hw
    exact .inl (failsOf_mem (List.mem_of_head? hw))
  · cases hv : valOf o (numsOf rs) with
    | none => rw [hv] at h; cases h; exact .inr (.lit _)
    | some z =>
      rw [hv] at h
      have h : clampR z = .fail x := h
      unfold clampR at h
      split at h
      · cases h
      · cases h; exact .inr (.lit _)
theorem res_word {ρ : Str → Option Rs} (hw : RW ρ) : ∀ {t : T} {x : Str}, Fm.resT ρ t = .fail x → So x
  | .num m, x, h => by
    have h : clampR m = .fail x := h
    unfold clampR at h
    split at h
    · cases h
    · cases h; exact .lit _
  | .nam w, x, h => by
    unfold Fm.resT at h
    cases hr : ρ w with
    | none => rw [hr] at h; cases h; exact .lit _
    | some r =>
      rw [hr] at h
      have h : r = .fail x := h
      exact hw w x (by rw [hr, h])
  | .neg t, x, h => by
    rcases fin_word h with z | z
    · exact res_word hw (t := t) (List.mem_singleton.mp z).symm
    · exact z
  | .op o a b, x, h => by
    rcases fin_word h with z | z
    · rcases List.mem_cons.mp z with z | z
      · exact res_word hw (t := a) z.symm
      · exact res_word hw (t := b) (List.mem_singleton.mp z).symm
    · exact z
def wD (ws : List Str) : List PyData := ws.map fun w => .tuple [.str "failed", .str w]
theorem w_dp {K : PySem.W.Frag} {H : Hp} : ∀ {vs : List V} {ws : List Str}, RsAll H vs (ws.map .fail) → DpAll K H vs (wD ws)
  | [], [], _ => .nil
  | v :: vs, w :: ws, h => by
    obtain ⟨⟨a, rfl, ea⟩, h2⟩ := h
    exact .cons (.tup (SqT.of ea) (.cons (.str _) (.cons (.str _) .nil))) (w_dp h2)
theorem w_sh {ws : List Str} (h : ∀ w ∈ ws, So w) : SeqAt.shaped (.list (wD ws)) = true := by
  have a : PyData.canLayAll0 (wD ws) = true ∧ PyData.depthAll (wD ws) ≤ 1 := by
    induction ws with
    | nil => exact ⟨rfl, Nat.zero_le _⟩
    | cons w r ih =>
      obtain ⟨i1, i2⟩ := ih fun x hx => h x (List.mem_cons_of_mem _ hx)
      have hw := (h w (by simp)).ok
      unfold wD at i1 i2 ⊢
      refine ⟨?_, ?_⟩
      · rw [List.map_cons]
        simp only [PyData.canLayAll0, PyData.canLay0, hw, i1, Bool.and_self, Bool.and_true, (So.lit "failed").ok]
      · rw [List.map_cons]
        simp only [PyData.depthAll, PyData.depth, Nat.max_self]
        omega
  simp only [SeqAt.shaped, PyData.canLay0, PyData.depth, a.1, Bool.true_and]
  exact decide_eq_true (by have := a.2; omega)
theorem w_nil {ws : List Str} : PyData.eqv (.list (wD ws)) (.list []) = decide (ws = []) := by
  cases ws with
  | nil => rfl
  | cons b r => rfl
/-- several numbers as trees -/
def NAll (H : Hp) : List V → List Int → Prop
  | [], [] => True
  | v :: vs, n :: ns => LTr H v (.num n) ∧ NAll H vs ns
  | _, _ => False
theorem NAll.on {H H' : Hp} (k : ∀ b xs, H b = some (.tup xs) → H' b = some (.tup xs)) : ∀ {vs : List V} {ns : List Int}, NAll H vs ns → NAll H' vs ns
  | [], [], _ => trivial
  | _ :: _, _ :: _, h => ⟨h.1.on k, NAll.on k h.2⟩
theorem NAll.snoc {H : Hp} {v : V} {n : Int} (hv : LTr H v (.num n)) : ∀ {vs : List V} {ns : List Int}, NAll H vs ns → NAll H (vs ++ [v]) (ns ++ [n])
  | [], [], _ => ⟨hv, trivial⟩
  | _ :: _, _ :: _, h => ⟨h.1, NAll.snoc hv h.2⟩
theorem NAll.len {H : Hp} : ∀ {vs : List V} {ns : List Int}, NAll H vs ns → vs.length = ns.length
  | [], [], _ => rfl
  | _ :: _, _ :: _, h => by rw [List.length_cons, List.length_cons, NAll.len h.2]
def spWorth (n : Nat) : Sp := fun vs H Q _ => match vs with
  | [v, .ref d] => ∃ t, ∃ ρ : Str → Option Rs, LTr H v t ∧ dep t < n ∧ NOk t ∧ ResD H d ρ ∧ RB ρ ∧ RW ρ ∧ (∀ w ∈ nmsT t, ∃ r, ρ w = some r) ∧ ∀ v' H', Same H H' → RsAt H' v' (Fm.resT ρ t) → Q v' H'
  | _ => False
/-- how the result is made of the parts' results -/
def Way (r : Rs) (o : Str) (rs : List Rs) : Prop := (∀ w, Rs.fail w ∈ rs → So w) ∧ ((o = "number" ∧ ∃ n, rs = [.val n] ∧ r = clampR n) ∨ (((o = "minus" ∧ rs.length = 1) ∨ (o ∈ ops ∧ rs.length = 2)) ∧ r = finT o rs ∧ ∀ n, Rs.val n ∈ rs → Small n))
theorem Way.len {r : Rs} {o : Str} {rs : List Rs} (h : Way r o rs) : rs.length = 1 ∨ rs.length = 2 := by
  obtain ⟨_, ⟨_, n, rfl, _⟩ | ⟨⟨_, h⟩ | ⟨_, h⟩, _⟩⟩ := h
  · exact .inl rfl
  · exact .inl h
  · exact .inr h
theorem Way.fail {r : Rs} {o : Str} {rs : List Rs} {w : Str} (h : Way r o rs) (f : failOf rs = some w) : r = .fail w := by
  obtain ⟨_, ⟨_, n, rfl, _⟩ | ⟨_, h, _⟩⟩ := h
  · cases f
  · rw [h]; unfold finT; rw [f]
theorem cut_head {x : V} {xs : List V} (few : xs.length = 1 ∨ xs.length = 2) : cutV (x :: xs) none (some 1) = [x] ∧ ¬ (HT.sIx (x :: xs).length 0 none = 0 ∧ HT.sIx (x :: xs).length (x :: xs).length (some 1) = (x :: xs).length) := by
  match xs, few with
  | [y], _ => exact ⟨rfl, by show ¬ (HT.sIx 2 0 none = 0 ∧ HT.sIx 2 2 (some 1) = 2); decide⟩
  | [y, z], _ => exact ⟨rfl, by show ¬ (HT.sIx 3 0 none = 0 ∧ HT.sIx 3 3 (some 1) = 3); decide⟩
theorem opR_some {o : Str} {x y : Int} (h : o = "//" → y ≠ 0) : ∃ z, opR o x y = some z := by
  unfold opR
  split
  · exact ⟨_, rfl⟩
  split
  · exact ⟨_, rfl⟩
  split
  · exact ⟨_, rfl⟩
  split
  · rename_i h4
    rw [if_neg (h h4)]
    exact ⟨_, rfl⟩
  split
  · exact ⟨_, rfl⟩
  · exact ⟨_, rfl⟩
abbrev sWorth : Stmt := topS 35
abbrev nWorth : List Str := ["_law_tree_here", "_law_results_here", "_law_parts", "_law_part", "_law_wrong", "_law_made", "_law_value"]
abbrev pWorth : List Str := ["_law_tree_here", "_law_results_here"]
theorem scWorth : FnScope nWorth pWorth (defScope sWorth) := ⟨rfl, rfl, rfl, by decide +kernel, rfl, by decide +kernel, by decide +kernel⟩
section
variable {P : Program} {w : World} {K : PySem.W.Frag} {mg : Str → Option Value} {base : Heap}
theorem ok_worth (B : BltR mg) (DE : ∀ base, DefOk P w K mg base CX0 3 "_law_exact" pEx (spEx 2)) (F : FunAt K mg "_law_worth" sWorth pWorth) : ∀ n, DefOk P w K mg base CX0 (4 + n) "_law_worth" pWorth (spWorth n) := by
  refine F.rec_ scWorth (fun vs H Q E h => ?_) (fun n vs H Q E h => ?_) (fun n ih f cdv A outer s H vs Q E hr h => ?_)
  · unfold spWorth at h
    split at h
    · obtain ⟨t, ρ, _, h1, _⟩ := h
      omega
    · exact h.elim
  · unfold spWorth at h
    split at h
    · rfl
    · exact h.elim
  · have hu := hu_of hr
    refine ⟨_, (pss_cons (ps_if (ct_cmp op_eq (pe_ix ix_tup (cv 0) pe_int (fun _ _ => rfl)) pe_str (nomark _))
  (pss_one (ps_ret (pe_dget hu (cv 1) (pe_ix ix_tup (cv 0) pe_int (fun _ _ => rfl)) (fun _ _ => rfl))))
  pss_nil)
  (pss_cons (ps_set (i := 2) scWorth.nd rfl (.inl rfl) (pe_lst (pa_cons (pe_tup (pa_cons pe_str (pa_cons (pe_ix ix_tup (cv 0) pe_int (fun _ _ => rfl)) pa_nil))) pa_nil)))
  (pss_cut (ps_if (ct_cmp op_ne (pe_ix ix_tup (cv 0) pe_int (fun _ _ => rfl)) pe_str (nomark _))
  (pss_one (ps_setLc (i := 2) (own := [("_law_part", 3)]) (g := gName 3) (by rfl) scWorth.nd rfl rfl (sw_true rfl rfl rfl (by decide +kernel)) (pi_tup (pe_slice sl_tup (cv 0) (po_some pe_int) po_none)) (blkOk_by (N := nWorth) (sc := (defScope sWorth)) (own := [("_law_part", 3)]) (by decide +kernel)) (fun _ _ _ _ _ => pg_name (i := 3) scWorth.nd rfl (Or.inl rfl)) (fun _ _ _ _ _ => pts_nil) (fun _ _ _ _ _ => (pe_def ih hr (by omega) (pa_cons (cv 3) (pa_cons (cv 1) pa_nil))))))
  pss_nil)
  (pss_cons (ps_setLc (i := 4) (own := [("_law_part", 3)]) (g := gName 3) (by rfl) scWorth.nd rfl rfl (sw_true rfl rfl rfl (by decide +kernel)) (pi_list (cv 2)) (blkOk_by (N := nWorth) (sc := (defScope sWorth)) (own := [("_law_part", 3)]) (by decide +kernel)) (fun _ _ _ _ _ => pg_name (i := 3) scWorth.nd rfl (Or.inl rfl)) (fun _ _ _ _ _ => (pts_one (ct_cmp op_eq (pe_ix (show IxR _ (rIxT K) from ix_tup) (cv 3) pe_int (fun _ _ => rfl)) pe_str (nomark _)))) (fun _ _ _ _ _ => (cv 3)))
  (pss_cons (ps_if (ct_cmp (op_neD hr.units) (cv 4) (pe_lst pa_nil) (nomark _))
  (pss_one (ps_ret (pe_ix c_ixL (cv 4) pe_int (fun _ _ => rfl))))
  pss_nil)
  (pss_cons (ps_if (pt_cut (PW.pt (pw_and (ct_cmp op_eq (pe_ix ix_tup (cv 0) pe_int (fun _ _ => rfl)) pe_str (nomark _)) (pw_and1 (ct_cmp op_eq (pe_ix ix_tup (pe_ix c_ixL (cv 2) pe_int (fun _ _ => rfl)) pe_int (fun _ _ => rfl)) pe_int (nomark _))))))
  (pss_one (ps_ret (pe_tup (pa_cons pe_str (pa_cons pe_str pa_nil)))))
  pss_nil)
  (pss_cons (ps_set (i := 5) scWorth.nd rfl (.inl rfl) (pe_callTy call_tuple_of (by rfl) B.tuple (by decide +kernel) (pa_cons (pe_lc (own := [("_law_part", 3)]) (g := gName 3) (by rfl) scWorth.nd (pi_list (cv 2)) (blkOk_by (N := nWorth) (sc := (defScope sWorth)) (own := [("_law_part", 3)]) (by decide +kernel)) (fun _ _ _ _ _ => pg_name (i := 3) scWorth.nd rfl (Or.inl rfl)) (fun _ _ _ _ _ => pts_nil) (fun _ _ _ _ _ => (pe_tup (pa_cons pe_str (pa_cons (pe_ix (show IxR _ (rIxT K) from ix_tup) (cv 3) pe_int (fun _ _ => rfl)) pa_nil))))) pa_nil)))
  (pss_cons (ps_set (i := 6) scWorth.nd rfl (.inl rfl) (PE_up (pe_ifExp (ct_cmp op_eq (pe_ix ix_tup (cv 0) pe_int (fun _ _ => rfl)) pe_str (nomark _)) (pe_ix ix_tup (pe_ix c_ixL (cv 2) pe_int (fun _ _ => rfl)) pe_int (fun _ _ => rfl)) (pe_def (DE _) hr (by omega) (pa_cons (pe_op op_catT (pe_slice sl_tup (cv 0) po_none (po_some pe_int)) (cv 5)) (pa_cons pe_dnewK pa_nil))))))
  (pss_one (ps_ret (pe_ifExp (ct_cmp c_le (pe_callB c_abs (by rfl) B.abs (by decide +kernel) (pa_cons (cv 6) pa_nil)) (pe_pow (z := 1000000000000000000000000000000) ⟨⟨by decide, by decide, by decide⟩, by decide +kernel⟩) (nomark _)) (pe_tup (pa_cons pe_str (pa_cons (cv 6) pa_nil))) (pe_tup (pa_cons pe_str (pa_cons pe_str pa_nil)))))))))))))), ?_⟩
    unfold spWorth at h
    split at h
    · rename_i v d
      obtain ⟨t, ρ, lt, hd, nk, hR, hB, hW, hN, q⟩ := h
      by_cases isn : ∃ w, t = .nam w
      · obtain ⟨w0, rfl⟩ := isn
        cases lt with
        | @nam b _ e =>
          refine ⟨b, _, 0, .str "name", rfl, rfl, SqT.of e, rfl, rfl, ?_⟩
          show if decide (V.str "name" = V.str "name") = true then _ else _
          rw [if_pos (by decide +kernel)]
          obtain ⟨kvs, hk, hv⟩ := hR
          obtain ⟨r, hr0⟩ := hN w0 (by simp [nmsT])
          have hv := hv w0
          rw [hr0] at hv
          obtain ⟨u, hu1, hu2⟩ := hv
          refine ⟨b, _, 1, .str w0, rfl, rfl, SqT.of e, rfl, d, u, rfl, ?_, ?_⟩
          · have := DGet.k (k := .inr w0) hk
            rw [hu1] at this
            exact this
          · refine q _ _ (Same.refl _) ?_
            unfold Fm.resT
            rw [hr0]
            exact hu2
      obtain ⟨b, o, xs, rfl, e, no, few0, v1, a1⟩ : ∃ (b : Addr) (o : Str) (xs : List V), v = .ref b ∧ H b = some (.tup (.str o :: xs)) ∧ o ≠ "name" ∧ (xs.length = 1 ∨ xs.length = 2) ∧ ∃ v1, atI (V.str o :: xs) 1 = some v1 := by
        cases lt with
        | nam e => exact (isn ⟨_, rfl⟩).elim
        | num e => exact ⟨_, _, _, rfl, e, by decide +kernel, .inl rfl, _, rfl⟩
        | neg e _ => exact ⟨_, _, _, rfl, e, by decide +kernel, .inl rfl, _, rfl⟩
        | op e _ _ => exact ⟨_, _, _, rfl, e, ops_ne nk.1 (by decide +kernel), .inr rfl, _, rfl⟩
      refine ⟨b, _, 0, .str o, rfl, rfl, SqT.of e, atI_hd, rfl, ?_⟩
      show if decide (V.str o = V.str "name") = true then _ else _
      rw [if_neg (neO no)]
      refine ⟨b, _, 1, v1, rfl, rfl, SqT.of e, a1, by show 2 ≤ sizeLine; decide, fun p0 np0 => ⟨by show 1 ≤ sizeLine; decide, fun D0 nD0 => ?_⟩⟩
      have s0 := (same_new (o := .tup [.str "value", v1]) np0).trans (same_new (o := .lst [.ref p0]) nD0)
      have hD0 : upd (upd H p0 (.tup [.str "value", v1])) D0 (.lst [.ref p0]) D0 = some (.lst [.ref p0]) := upd_same
      have hp0 : upd (upd H p0 (.tup [.str "value", v1])) D0 (.lst [.ref p0]) p0 = some (.tup [.str "value", v1]) := same_new nD0 _ _ upd_same
      generalize upd (upd H p0 (.tup [.str "value", v1])) D0 (.lst [.ref p0]) = H1 at s0 hD0 hp0
      refine ⟨fun σ' H' => ∃ (D : Addr) (vs : List V) (rs : List Rs), σ' = [some (.ref b), some (.ref d), some (.ref D), none, none, none, none] ∧ H' D = some (.lst vs) ∧ RsAll H' vs rs ∧ Same H H' ∧ Way (Fm.resT ρ t) o rs, ?first, ?second⟩
      case first =>
        refine ⟨b, _, 0, .str o, rfl, rfl, SqT.of (s0 _ _ e), atI_hd, rfl, ?_⟩
        show if (!decide (V.str o = V.str "number")) = true then _ else _
        have inj : ∀ {p : Str} {ys : List V}, H b = some (.tup (.str p :: ys)) → p = o ∧ ys = xs := fun {p ys} e2 => by
          have e3 := e2.symm.trans e
          injection e3 with e3
          injection e3 with e3
          injection e3 with e3 e4
          injection e3 with e3
          exact ⟨e3, e4⟩
        by_cases isnum : ∃ n0 : Int, t = .num n0
        · obtain ⟨n0, rfl⟩ := isnum
          cases lt with
          | num e2 =>
            obtain ⟨rfl, rfl⟩ := inj e2
            have : v1 = .int n0 := (Option.some.inj a1).symm
            subst this
            rw [if_neg (by rw [decide_eq_true rfl]; exact Bool.false_ne_true)]
            exact ⟨D0, _, [.val n0], rfl, hD0, ⟨⟨p0, rfl, hp0⟩, trivial⟩, s0, ⟨fun w h => (by have := List.mem_singleton.mp h; cases this), .inl ⟨rfl, n0, rfl, rfl⟩⟩⟩
        · obtain ⟨ts, nu, hl, hx, hres, hway⟩ : ∃ ts : List T, o ≠ "number" ∧ xs.length = ts.length ∧ (∀ (i : Nat) (x : V), xs[i]? = some x → ∃ t', ts[i]? = some t' ∧ LTr H x t' ∧ dep t' < n ∧ NOk t' ∧ ∀ w ∈ nmsT t', ∃ r, ρ w = some r) ∧
              Fm.resT ρ t = finT o (ts.map (Fm.resT ρ)) ∧ ((o = "minus" ∧ ts.length = 1) ∨ (o ∈ ops ∧ ts.length = 2)) := by
            cases lt with
            | nam e2 => exact (no (inj e2).1.symm).elim
            | num e2 => exact (isnum ⟨_, rfl⟩).elim
            | @neg _ v1 t1 e2 tr1 =>
              obtain ⟨rfl, rfl⟩ := inj e2
              refine ⟨[t1], by decide +kernel, rfl, fun i x hi => ?_, rfl, .inl ⟨rfl, rfl⟩⟩
              match i, hi with
              | 0, hi =>
                cases hi
                exact ⟨t1, rfl, tr1, Nat.lt_of_succ_lt_succ hd, nk, hN⟩
            | @op _ o1 v1 v2 t1 t2 e2 tr1 tr2 =>
              obtain ⟨rfl, rfl⟩ := inj e2
              refine ⟨[t1, t2], ops_ne nk.1 (by decide +kernel), rfl, fun i x hi => ?_, rfl, .inr ⟨nk.1, rfl⟩⟩
              have hd : max (dep t1) (dep t2) + 1 < n + 1 := hd
              match i, hi with
              | 0, hi =>
                cases hi
                exact ⟨t1, rfl, tr1, by omega, nk.2.1, fun w hw => hN w (List.mem_append_left _ hw)⟩
              | 1, hi =>
                cases hi
                exact ⟨t2, rfl, tr2, by omega, nk.2.2, fun w hw => hN w (List.mem_append_right _ hw)⟩
          rw [if_pos (by rw [decide_eq_false (fun z => nu (by injection z))] <;> rfl)]
          have few : xs.length = 1 ∨ xs.length = 2 := by rcases hway with ⟨_, h⟩ | ⟨_, h⟩ <;> omega
          obtain ⟨cx1, cx2⟩ := cut_tail (x := V.str o) few
          refine ⟨1, rfl, b, _, rfl, SqT.of (s0 _ _ e), cx2, fun tp ntp => ⟨tp, rfl, ⟨_, SqT.of upd_same⟩, fun D1 nD => ?_⟩⟩
          rw [cx1] at nD ⊢
          have st := s0.trans (same_new (o := .tup xs) ntp)
          have htp : upd H1 tp (.tup xs) tp = some (.tup xs) := upd_same
          generalize upd H1 tp (.tup xs) = H2 at st htp nD
          generalize hrs : ts.map (Fm.resT ρ) = rs at hres
          have rl : rs.length = ts.length := by rw [← hrs, List.length_map]
          refine lc_tup (a := tp) (xs := xs) (fun i H' => ∃ vs, H' D1 = some (.lst vs) ∧ RsAll H' vs (rs.take i) ∧ Off D1 H2 H') ⟨[], upd_same, (by rw [List.take_zero]; trivial), fun b o n h => by rw [upd_ne n]; exact h⟩
            (fun i H' hi ⟨vs, g1, g2, g3⟩ => SqT.of (g3 _ _ (ne_of_none htp nD) htp)) ?turn ?rest
          case turn =>
            rintro i x H3 hi ⟨vs, g1, g2, g3⟩
            refine ⟨rfl, ?_⟩
            obtain ⟨t', et, tr', d', nk', hN'⟩ := hx i x hi
            have S3 := st.trans (g3.same (Same.refl _) nD)
            refine ⟨t', ρ, tr'.same S3, d', nk', hR.same S3, hB, hW, hN', fun v' H4 s4 hv' => ?_⟩
            have k : ∀ c ys, H4 c = some (.tup ys) → upd H4 D1 (.lst (vs ++ [v'])) c = some (.tup ys) := fun c ys h => by
              rw [upd_ne (ne_of h (s4 _ _ g1) fun z => nomatch z)]; exact h
            refine ⟨vs, s4 _ _ g1, ?_, vs ++ [v'], upd_same, ?_, fun c o n h => by rw [upd_ne n]; exact s4 _ _ (g3 c o n h)⟩
            · rw [g2.len, List.length_take]
              exact Nat.lt_of_le_of_lt (show min i rs.length ≤ 2 by omega) (by decide)
            · rw [List.take_add_one]
              have : rs[i]? = some (Fm.resT ρ t') := by rw [← hrs, List.getElem?_map, et] <;> rfl
              rw [this]
              exact .snoc (hv'.on k) (g2.on fun c ys h => k c ys (s4 _ _ h))
          case rest =>
            rintro H3 ⟨vs, g1, g2, g3⟩
            have S3 := st.trans (g3.same (Same.refl _) nD)
            rw [List.take_of_length_le (by omega)] at g2
            refine ⟨D1, vs, rs, rfl, g1, g2, S3, ⟨fun w h => ?_, .inr ⟨?_, hres, fun n0 h => ?_⟩⟩⟩
            · rw [← hrs] at h
              obtain ⟨t', _, e'⟩ := List.mem_map.mp h
              exact res_word hW e'
            · rw [rl]; exact hway
            · rw [← hrs] at h
              obtain ⟨t', _, e'⟩ := List.mem_map.mp h
              exact res_small hB e'
      case second =>
        rintro σ' H2 ⟨D, vs, rs, rfl, hD, hv, s2, way⟩
        have vl := hv.len
        have wl : rs.length ≤ 2 := by rcases way.len with h | h <;> omega
        refine ⟨D, rfl, ⟨_, SqL.of hD⟩, fun E1 nE => ?_⟩
        refine lc_list (a := D) (xs := vs) (fun i H' => ∃ acc, H' E1 = some (.lst acc) ∧ RsAll H' acc ((failsOf (rs.take i)).map .fail) ∧ Off E1 H2 H') ⟨[], upd_same, (by rw [List.take_zero]; trivial), fun b o n h => by rw [upd_ne n]; exact h⟩
          (fun i H' hi ⟨acc, g1, g2, g3⟩ => SqL.of (g3 _ _ (ne_of_none hD nE) hD)) ?turn ?rest
        case turn =>
          rintro i x H3 hi ⟨acc, g1, g2, g3⟩
          refine ⟨rfl, ?_⟩
          obtain ⟨r, er, ra⟩ := hv.at_ hi
          have k3 : ∀ c ys, H2 c = some (.tup ys) → H3 c = some (.tup ys) := fun c ys h => g3 _ _ (ne_of_none h nE) h
          have ra3 := ra.on k3
          cases r with
          | val n0 =>
            obtain ⟨a, rfl, ea⟩ := ra3
            refine ⟨a, _, 0, .str "value", rfl, rfl, SqT.of ea, rfl, rfl, ?_⟩
            show if decide (V.str "value" = V.str "failed") = true then _ else _
            rw [if_neg (neO (by decide +kernel))]
            refine ⟨acc, g1, ?_, g3⟩
            rw [List.take_add_one, er, failsOf_app]
            simpa [failsOf] using g2
          | fail w0 =>
            have ra4 := ra3
            obtain ⟨a, rfl, ea⟩ := ra3
            refine ⟨a, _, 0, .str "failed", rfl, rfl, SqT.of ea, rfl, rfl, ?_⟩
            show if decide (V.str "failed" = V.str "failed") = true then _ else _
            rw [if_pos (by decide +kernel)]
            have kk : ∀ c ys, H3 c = some (.tup ys) → upd H3 E1 (.lst (acc ++ [.ref a])) c = some (.tup ys) := fun c ys h => by
              rw [upd_ne (ne_of h g1 fun z => nomatch z)]; exact h
            refine ⟨acc, g1, ?_, acc ++ [.ref a], upd_same, ?_, fun c o n h => by rw [upd_ne n]; exact g3 c o n h⟩
            · rw [g2.len, List.length_map]
              refine Nat.lt_of_le_of_lt (show _ ≤ 2 from ?_) (by decide)
              have := failsOf_len (rs.take i)
              rw [List.length_take] at this
              omega
            · rw [List.take_add_one, er, failsOf_app, List.map_append]
              exact .snoc (ra4.on kk) (g2.on kk)
        case rest =>
          rintro H3 ⟨acc, g1, g2, g3⟩
          rw [List.take_of_length_le (by omega)] at g2
          have S3 : Same H2 H3 := g3.same (Same.refl _) nE
          refine ⟨by show 0 ≤ sizeLine; decide, fun z nz => ?_⟩
          have sz := same_new (o := .lst []) nz
          refine ⟨.list (wD (failsOf rs)), .list [], .lst (SqL.of (sz _ _ g1)) (w_dp (g2.on fun c ys h => sz _ _ h)), .lst (SqL.of upd_same) .nil, w_sh (fun w h => way.1 w (failsOf_mem h)), by rfl, ?_⟩
          rw [w_nil]
          have S4 := (s2.trans S3).trans sz
          have hD4 := (S3.trans sz) _ _ hD
          have hv4 : RsAll (upd H3 z (.lst [])) vs rs := hv.on fun c ys h => (S3.trans sz) _ _ h
          have g14 := sz _ _ g1
          have g24 : RsAll (upd H3 z (.lst [])) acc ((failsOf rs).map .fail) := g2.on fun c ys h => sz _ _ h
          generalize upd H3 z (.lst []) = H4 at S4 hD4 hv4 g14 g24
          have hf := failsOf_head rs
          cases hfs : failsOf rs with
          | cons w0 ws =>
            show if (!decide (w0 :: ws = [])) = true then _ else _
            rw [if_pos (by rw [decide_eq_false (fun z => nomatch z)] <;> rfl)]
            rw [hfs] at hf g24
            cases acc with
            | nil => exact g24.elim
            | cons a0 acc =>
              refine ⟨_, a0, SqL.of g14, atI_hd, q _ _ S4 ?_⟩
              rw [way.fail hf]
              exact g24.1
          | nil =>
            show if (!decide (([] : List Str) = [])) = true then _ else _
            rw [if_neg (by rw [decide_eq_true rfl]; exact Bool.false_ne_true)]
            rw [hfs] at hf
            have hf : failOf rs = none := hf
            have hn := nums_of (rs := rs) hf
            obtain ⟨ns, hns⟩ : ∃ ns, ns = numsOf rs := ⟨_, rfl⟩
            rw [← hns] at hn
            have nl : ns.length = rs.length := by rw [hn, List.length_map]
            have hsum : (o = "number" ∧ ∃ n0, ns = [n0] ∧ Fm.resT ρ t = clampR n0) ∨ (o = "minus" ∧ ∃ x, ns = [x] ∧ Small x ∧ Fm.resT ρ t = clampR (-x)) ∨ (o ∈ ops ∧ ∃ x y, ns = [x, y] ∧ Small x ∧ Small y ∧ Fm.resT ρ t = endR (opR o x y)) := by
              rcases way.2 with ⟨ho, n0, hr, hc⟩ | ⟨hw, hfin, hs⟩
              · refine .inl ⟨ho, n0, ?_, hc⟩
                rw [hns, hr] <;> rfl
              · have hfin : Fm.resT ρ t = endR (valOf o ns) := by rw [hfin]; unfold finT; rw [hf, hns]
                rcases hw with ⟨ho, h1⟩ | ⟨ho, h2⟩
                · obtain ⟨x, rfl⟩ : ∃ x, ns = [x] := List.length_eq_one_iff.mp (by omega)
                  exact .inr (.inl ⟨ho, x, rfl, hs x (by rw [hn]; simp), hfin⟩)
                · obtain ⟨x, y, rfl⟩ := len_two (show ns.length = 2 by omega)
                  exact .inr (.inr ⟨ho, x, y, rfl, hs x (by rw [hn]; simp), hs y (by rw [hn]; simp), hfin⟩)
            have e4 := S4 _ _ e
            refine ⟨fun c H' => H' = H4 ∧ (c = true → Fm.resT ρ t = .fail "zero") ∧ (c = false → o = "//" → ∀ x y, ns = [x, y] → y ≠ 0), ?_, ?_⟩
            · refine ⟨b, _, 0, .str o, rfl, rfl, SqT.of e4, atI_hd, rfl, ?_⟩
              show if decide (V.str o = V.str "//") = true then _ else _
              by_cases ho : o = "//"
              · subst ho
                rw [if_pos (by decide +kernel)]
                rcases hsum with ⟨z, _⟩ | ⟨z, _⟩ | ⟨_, x, y, rfl, hx, hy, hr⟩
                · exact absurd z (by decide +kernel)
                · exact absurd z (by decide +kernel)
                · rw [hn] at hv4
                  obtain ⟨u0, u1, rfl⟩ := len_two (show vs.length = 2 by rw [hv4.len] <;> rfl)
                  obtain ⟨a1, rfl, ea1⟩ := hv4.2.1
                  refine ⟨_, .ref a1, SqL.of hD4, rfl, a1, _, 1, .int y, rfl, rfl, SqT.of ea1, rfl, rfl, rfl, fun hc => ?_, fun hc _ x' y' e' => ?_⟩
                  · have y0 : y = 0 := by have := of_decide_eq_true hc; injection this
                    rw [hr, y0]
                    have e : opR "//" x 0 = none := by unfold opR; rw [if_neg (by decide +kernel), if_neg (by decide +kernel), if_neg (by decide +kernel), if_pos rfl, if_pos rfl]
                    rw [e] <;> rfl
                  · have := List.cons.inj (List.cons.inj e').2
                    intro z
                    have := of_decide_eq_false hc
                    exact this (by rw [← z]; congr 1; exact (List.cons.inj (List.cons.inj e').2).1)
              · rw [if_neg (neO ho)]
                exact ⟨rfl, (fun z => nomatch z), fun _ z => absurd z ho⟩
            · rintro c H' ⟨rfl, c1, c2⟩
              refine iteB (fun hc => ?_) (fun hc => ?_)
              · refine ⟨by show 2 ≤ sizeLine; decide, fun a na => q _ _ (S4.trans (same_new na)) ?_⟩
                rw [c1 hc]
                exact ⟨a, rfl, upd_same⟩
              · have c2 := c2 hc
                refine ⟨D, rfl, ⟨_, SqL.of hD4⟩, fun E2 nE2 => ?_⟩
                refine lc_list (a := D) (xs := vs) (fun i H5 => ∃ acc, H5 E2 = some (.lst acc) ∧ NAll H5 acc (ns.take i) ∧ Off E2 H' H5) ⟨[], upd_same, (by rw [List.take_zero]; trivial), fun b o n h => by rw [upd_ne n]; exact h⟩
                  (fun i H5 hi ⟨acc, g1, g2, g3⟩ => SqL.of (g3 _ _ (ne_of_none hD4 nE2) hD4)) ?turn2 ?rest2
                case turn2 =>
                  rintro i x H5 hi ⟨acc, g1, g2, g3⟩
                  refine ⟨rfl, ?_⟩
                  obtain ⟨r, er, ra⟩ := hv4.at_ hi
                  rw [hn, List.getElem?_map] at er
                  cases hni : ns[i]? with
                  | none => rw [hni] at er; cases er
                  | some n0 =>
                    rw [hni] at er
                    cases er
                    obtain ⟨a, rfl, ea⟩ := ra
                    have ea5 := g3 _ _ (ne_of_none ea nE2) ea
                    refine ⟨a, _, 1, .int n0, rfl, rfl, SqT.of ea5, rfl, by show 2 ≤ sizeLine; decide, fun c nc => ?_⟩
                    have g15 := same_new (o := .tup [.str "number", .int n0]) nc _ _ g1
                    have cE : c ≠ E2 := (ne_of_none g1 nc).symm
                    have kk : ∀ z ys, H5 z = some (.tup ys) → upd (upd H5 c (.tup [.str "number", .int n0])) E2 (.lst (acc ++ [.ref c])) z = some (.tup ys) := fun z ys h => by
                      rw [upd_ne (ne_of h g1 fun z => nomatch z)]; exact same_new nc _ _ h
                    refine ⟨acc, g15, ?_, acc ++ [.ref c], upd_same, ?_, fun z o n h => by rw [upd_ne n]; exact same_new nc _ _ (g3 z o n h)⟩
                    · rw [g2.len, List.length_take]
                      exact Nat.lt_of_le_of_lt (show min i ns.length ≤ 2 by omega) (by decide)
                    · rw [List.take_add_one, hni]
                      exact NAll.snoc (.num (by rw [upd_ne cE]; exact upd_same)) (g2.on kk)
                case rest2 =>
                  rintro H5 ⟨acc, g1, g2, g3⟩
                  rw [List.take_of_length_le (by omega)] at g2
                  have S5 := g3.same (Same.refl _) nE2
                  refine ⟨E2, acc, rfl, .inl ⟨SqL.of g1, fun tp ntp => ?_⟩⟩
                  have stp := same_new (o := .tup acc) ntp
                  have S6 := (S4.trans S5).trans stp
                  have htp : upd H5 tp (.tup acc) tp = some (.tup acc) := upd_same
                  have hv6 : RsAll (upd H5 tp (.tup acc)) vs rs := hv4.on fun c ys h => (S5.trans stp) _ _ h
                  have hD6 := (S5.trans stp) _ _ hD4
                  have g26 : NAll (upd H5 tp (.tup acc)) acc ns := g2.on fun c ys h => stp _ _ h
                  generalize upd H5 tp (.tup acc) = H6 at S6 htp hv6 hD6 g26
                  refine ⟨fun x H7 => ∃ z : Int, x = .int z ∧ Same H H7 ∧ Fm.resT ρ t = clampR z, ?_, ?_⟩
                  · refine ⟨b, _, 0, .str o, rfl, rfl, SqT.of (S6 _ _ e), atI_hd, rfl, ?_⟩
                    show if decide (V.str o = V.str "number") = true then _ else _
                    by_cases on : o = "number"
                    · rcases hsum with ⟨_, n0, rfl, hr⟩ | ⟨z, _⟩ | ⟨z, _⟩
                      · rw [if_pos (by rw [on]; decide +kernel)]
                        rw [hn] at hv6
                        obtain ⟨u0, rfl⟩ : ∃ u0, vs = [u0] := List.length_eq_one_iff.mp (by rw [hv6.len] <;> rfl)
                        obtain ⟨a0, rfl, ea0⟩ := hv6.1
                        exact ⟨_, .ref a0, SqL.of hD6, rfl, a0, _, 1, .int n0, rfl, rfl, SqT.of ea0, rfl, n0, rfl, S6, hr⟩
                      · rw [on] at z
                        exact absurd z (by decide +kernel)
                      · rw [on] at z
                        exact absurd z (by decide +kernel)
                    · rw [if_neg (neO on)]
                      obtain ⟨cx1, cx2⟩ := cut_head (x := V.str o) few0
                      have al := g26.len
                      have nl2 : ns.length = 1 ∨ ns.length = 2 := by rcases way.len with h | h <;> omega
                      refine ⟨1, rfl, b, _, rfl, SqT.of (S6 _ _ e), cx2, fun p1 np1 => ?_⟩
                      rw [cx1]
                      have s61 := same_new (o := .tup [V.str o]) np1
                      refine ⟨p1, tp, [.str o], acc, rfl, rfl, SqT.of upd_same, SqT.of (s61 _ _ htp), (fun z => nomatch z), Nat.le_trans (show _ ≤ 3 by show 1 + acc.length ≤ 3; omega) (by decide), (fun z => by rw [z] at al; simp at al; omega), fun _ p2 np2 => ?_⟩
                      have s62 := s61.trans (same_new (o := .tup ([V.str o] ++ acc)) np2)
                      have hp2 : upd (upd H6 p1 (.tup [V.str o])) p2 (.tup ([V.str o] ++ acc)) p2 = some (.tup ([V.str o] ++ acc)) := upd_same
                      generalize upd (upd H6 p1 (.tup [V.str o])) p2 (.tup ([V.str o] ++ acc)) = H8 at s62 hp2
                      intro d2 nd2
                      have s63 := s62.trans (same_new (o := .dK []) nd2)
                      have hp3 := same_new (o := .dK []) nd2 _ _ hp2
                      have g27 : NAll (upd H8 d2 (.dK [])) acc ns := g26.on fun c ys h => s63 _ _ h
                      rcases hsum with ⟨z, _⟩ | ⟨rfl, x, rfl, hx, hr⟩ | ⟨ho, x, y, rfl, hx, hy, hr⟩
                      · exact absurd z on
                      · obtain ⟨w0, rfl⟩ : ∃ w0, acc = [w0] := List.length_eq_one_iff.mp al
                        exact ⟨.neg (.num x), .neg hp3 g27.1, by show 0 + 1 < 2; decide, hx, ⟨_, upd_same⟩, fun H9 s9 => ⟨-x, rfl, (S6.trans s63).trans s9, hr⟩⟩
                      · obtain ⟨w0, w1, rfl⟩ := len_two al
                        obtain ⟨z, hz⟩ := opR_some (o := o) (x := x) (y := y) (fun h => c2 h x y rfl)
                        refine ⟨.op o (.num x) (.num y), .op hp3 g27.1 g27.2.1, by show max 0 0 + 1 < 2; decide, ⟨ho, hx, hy⟩, ⟨_, upd_same⟩, fun H9 s9 => ⟨z, ?_, (S6.trans s63).trans s9, by rw [hr, hz] <;> rfl⟩⟩
                        show V.int ((opR o x y).getD 0) = V.int z
                        rw [hz] <;> rfl
                  · rintro _ H7 ⟨z, rfl, S7, hz⟩
                    have iff : ((z.natAbs : Int) ≤ 1000000000000000000000000000000) ↔ Small z := by
                      unfold Small
                      omega
                    show if decide ((z.natAbs : Int) ≤ 1000000000000000000000000000000) = true then _ else _
                    by_cases hs : Small z
                    · rw [if_pos (decide_eq_true (iff.mpr hs))]
                      refine ⟨by show 2 ≤ sizeLine; decide, fun a na => q _ _ (S7.trans (same_new na)) ?_⟩
                      rw [hz, show clampR z = .val z from if_pos hs]
                      exact ⟨a, rfl, upd_same⟩
                    · rw [if_neg (fun y => hs (iff.mp (of_decide_eq_true y)))]
                      refine ⟨by show 2 ≤ sizeLine; decide, fun a na => q _ _ (S7.trans (same_new na)) ?_⟩
                      rw [hz, show clampR z = .fail "range" from if_neg hs]
                      exact ⟨a, rfl, upd_same⟩
    · exact h.elim
end
end Rk

set_option Elab.async false
set_option linter.all false
set_option maxRecDepth 100000
set_option maxHeartbeats 2000000
/-! Rl: results by names, as rows of pairs; their data. -/
namespace Fm
open PySem PySem.Spec PyProof.Rows L2 CL
def ρOf (L : List (Str × Rs)) (w : Str) : Option Rs := (L.find? fun p => decide (p.1 = w)).map (·.2)
def putL (L : List (Str × Rs)) (w : Str) (r : Rs) : List (Str × Rs) := if (L.any fun p => decide (p.1 = w)) = true then L.map (fun p => if p.1 = w then (p.1, r) else p) else L ++ [(w, r)]
def RK (H : Hp) : List (Key × V) → List (Str × Rs) → Prop
  | [], [] => True
  | (k, v) :: r, (w, s) :: l => k = .inr w ∧ RsAt H v s ∧ RK H r l
  | _, _ => False
theorem RK.on {H H' : Hp} (k : ∀ b xs, H b = some (.tup xs) → H' b = some (.tup xs)) : ∀ {kvs : List (Key × V)} {L : List (Str × Rs)}, RK H kvs L → RK H' kvs L
  | [], [], _ => trivial
  | (_, _) :: _, (_, _) :: _, h => ⟨h.1, h.2.1.on k, RK.on k h.2.2⟩
theorem RK.len {H : Hp} : ∀ {kvs : List (Key × V)} {L : List (Str × Rs)}, RK H kvs L → kvs.length = L.length
  | [], [], _ => rfl
  | (_, _) :: _, (_, _) :: _, h => by rw [List.length_cons, List.length_cons, RK.len h.2.2]
theorem RK.any {H : Hp} (w : Str) : ∀ {kvs : List (Key × V)} {L : List (Str × Rs)}, RK H kvs L → (kvs.any fun kv => decide (kv.1 = .inr w)) = L.any fun p => decide (p.1 = w)
  | [], [], _ => rfl
  | (k, v) :: r, (u, s) :: l, h => by
    rw [List.any_cons, List.any_cons, RK.any w h.2.2, h.1]
    congr 1
    by_cases e : u = w
    · rw [decide_eq_true (show (Sum.inr u : Key) = .inr w by rw [e]), decide_eq_true e]
    · rw [decide_eq_false (show ¬ (Sum.inr u : Key) = .inr w from fun z => e (by injection z)), decide_eq_false e]
theorem RK.repl {H : Hp} {w : Str} {v : V} {r : Rs} (hv : RsAt H v r) : ∀ {kvs : List (Key × V)} {L : List (Str × Rs)}, RK H kvs L → RK H (kvs.map fun kv => if kv.1 = .inr w then (kv.1, v) else kv) (L.map fun p => if p.1 = w then (p.1, r) else p)
  | [], [], _ => trivial
  | (k, x) :: kr, (u, s) :: l, h => by
    obtain ⟨rfl, h1, h2⟩ := h
    rw [List.map_cons, List.map_cons]
    by_cases e : u = w
    · rw [if_pos (show (Sum.inr u : Key) = .inr w by rw [e]), if_pos e]
      exact ⟨rfl, hv, RK.repl hv h2⟩
    · rw [if_neg (show ¬ (Sum.inr u : Key) = .inr w from fun z => e (by injection z)), if_neg e]
      exact ⟨rfl, h1, RK.repl hv h2⟩
theorem RK.app {H : Hp} {w : Str} {v : V} {r : Rs} (hv : RsAt H v r) : ∀ {kvs : List (Key × V)} {L : List (Str × Rs)}, RK H kvs L → RK H (kvs ++ [(.inr w, v)]) (L ++ [(w, r)])
  | [], [], _ => ⟨rfl, hv, trivial⟩
  | (_, _) :: _, (_, _) :: _, h => ⟨h.1, h.2.1, RK.app hv h.2.2⟩
theorem RK.put {H : Hp} {w : Str} {v : V} {r : Rs} {kvs : List (Key × V)} {L : List (Str × Rs)} (h : RK H kvs L) (hv : RsAt H v r) : RK H (putK kvs (.inr w) v) (putL L w r) := by
  unfold putK putL
  rw [h.any w]
  split
  · exact h.repl hv
  · exact h.app hv
theorem RK.get {H : Hp} (w : Str) : ∀ {kvs : List (Key × V)} {L : List (Str × Rs)}, RK H kvs L → match ρOf L w with
    | none => valV kvs (.inr w) = none
    | some r => ∃ v, valV kvs (.inr w) = some v ∧ RsAt H v r
  | [], [], _ => rfl
  | (k, x) :: kr, (u, s) :: l, h => by
    obtain ⟨rfl, h1, h2⟩ := h
    by_cases e : u = w
    · subst e
      have z : ρOf ((u, s) :: l) u = some s := by unfold ρOf; rw [List.find?_cons, decide_eq_true rfl] <;> rfl
      rw [z]
      exact ⟨x, valV_pos rfl, h1⟩
    · have z : ρOf ((u, s) :: l) w = ρOf l w := by unfold ρOf; rw [List.find?_cons, decide_eq_false e]
      have y : valV ((Sum.inr u, x) :: kr) (.inr w) = valV kr (.inr w) := valV_neg fun z => e (by injection z)
      rw [z, y]
      exact RK.get w h2
def ResL (H : Hp) (d : Addr) (L : List (Str × Rs)) : Prop := ∃ kvs, H d = some (.dK kvs) ∧ RK H kvs L
theorem ResL.res {H : Hp} {d : Addr} {L : List (Str × Rs)} (h : ResL H d L) : ResD H d (ρOf L) := by
  obtain ⟨kvs, e, k⟩ := h
  exact ⟨kvs, e, fun w => k.get w⟩
theorem ResL.same {H H' : Hp} {d : Addr} {L : List (Str × Rs)} (h : ResL H d L) (s : Same H H') : ResL H' d L := by
  obtain ⟨kvs, e, k⟩ := h
  exact ⟨kvs, s _ _ e, k.on fun b xs z => s _ _ z⟩
/-- results such as the law makes them -/
def GoodR (r : Rs) : Prop := (∀ n, r = .val n → Small n) ∧ ∀ x, r = .fail x → x = "zero" ∨ x = "range"
def GoodL (L : List (Str × Rs)) : Prop := ∀ p ∈ L, GoodR p.2
theorem GoodL.put {L : List (Str × Rs)} {w : Str} {r : Rs} (h : GoodL L) (hr : GoodR r) : GoodL (putL L w r) := by
  intro p hp
  unfold putL at hp
  split at hp
  · obtain ⟨q, hq, rfl⟩ := List.mem_map.mp hp
    split
    · exact hr
    · exact h q hq
  · rcases List.mem_append.mp hp with z | z
    · exact h p z
    · rw [List.mem_singleton.mp z]; exact hr
theorem putL_len (L : List (Str × Rs)) (w : Str) (r : Rs) : (putL L w r).length ≤ L.length + 1 := by
  unfold putL
  split
  · rw [List.length_map]; omega
  · rw [List.length_append]; exact Nat.le_refl _
theorem putL_key {L : List (Str × Rs)} {w u : Str} {r : Rs} (h : u = w ∨ u ∈ L.map (·.1)) : u ∈ (putL L w r).map (·.1) := by
  unfold putL
  split
  · rename_i ha
    have hk : (L.map fun p => if p.1 = w then (p.1, r) else p).map (·.1) = L.map (·.1) := by
      rw [List.map_map]
      apply List.map_congr_left
      intro p _
      show (if p.1 = w then (p.1, r) else p).1 = p.1
      split <;> rfl
    rw [hk]
    rcases h with rfl | h
    · obtain ⟨p, hp, e⟩ := List.any_eq_true.mp ha
      exact List.mem_map.mpr ⟨p, hp, of_decide_eq_true e⟩
    · exact h
  · rw [List.map_append]
    rcases h with rfl | h
    · exact List.mem_append_right _ (by simp)
    · exact List.mem_append_left _ h
theorem putL_key' {L : List (Str × Rs)} {w u : Str} {r : Rs} (h : u ∈ (putL L w r).map (·.1)) : u = w ∨ u ∈ L.map (·.1) := by
  unfold putL at h
  split at h
  · have hk : (L.map fun p => if p.1 = w then (p.1, r) else p).map (·.1) = L.map (·.1) := by
      rw [List.map_map]
      apply List.map_congr_left
      intro p _
      show (if p.1 = w then (p.1, r) else p).1 = p.1
      split <;> rfl
    rw [hk] at h
    exact .inr h
  · rw [List.map_append] at h
    rcases List.mem_append.mp h with z | z
    · exact .inr z
    · exact .inl (by simpa using z)
theorem ρ_mem {L : List (Str × Rs)} {w : Str} {r : Rs} (h : ρOf L w = some r) : ∃ p ∈ L, p.1 = w ∧ p.2 = r := by
  unfold ρOf at h
  obtain ⟨p, hp, e⟩ := Option.map_eq_some_iff.mp h
  have h2 : decide (p.1 = w) = true := List.find?_some (p := fun q : Str × Rs => decide (q.1 = w)) hp
  exact ⟨p, List.mem_of_find?_eq_some hp, of_decide_eq_true h2, e⟩
theorem ρ_some {L : List (Str × Rs)} {w : Str} (h : w ∈ L.map (·.1)) : ∃ r, ρOf L w = some r := by
  obtain ⟨p, hp, rfl⟩ := List.mem_map.mp h
  unfold ρOf
  cases hf : L.find? fun q => decide (q.1 = p.1) with
  | some q => exact ⟨q.2, rfl⟩
  | none =>
    have := List.find?_eq_none.mp hf p hp
    rw [decide_eq_true rfl] at this
    exact absurd rfl this
theorem ρ_none {L : List (Str × Rs)} {w : Str} (h : w ∉ L.map (·.1)) : ρOf L w = none := by
  cases hf : ρOf L w with
  | none => rfl
  | some r =>
    obtain ⟨p, hp, rfl, _⟩ := ρ_mem hf
    exact absurd (List.mem_map_of_mem hp) h
theorem GoodL.rb {L : List (Str × Rs)} (h : GoodL L) : RB (ρOf L) := fun w n e => by
  obtain ⟨p, hp, _, e2⟩ := ρ_mem e
  exact (h p hp).1 n e2
/-! ### data -/
def rD : Rs → PyData
  | .val n => .tuple [.str "value", .int n]
  | .fail w => .tuple [.str "failed", .str w]
theorem RsAt.dq {K : PySem.W.Frag} {H : Hp} {v : V} {r : Rs} (h : RsAt H v r) : Dq K H v (rD r) := by
  cases r with
  | val n =>
    obtain ⟨a, rfl, e⟩ := h
    exact .tup (SqT.of e) (.cons (.str _) (.cons (.int _) .nil))
  | fail w =>
    obtain ⟨a, rfl, e⟩ := h
    exact .tup (SqT.of e) (.cons (.str _) (.cons (.str _) .nil))
def lD (L : List (Str × Rs)) : PyData := .dict ((L.map fun p => PyData.str p.1).zip (L.map fun p => rD p.2))
theorem RK.dq {K : PySem.W.Frag} {H : Hp} : ∀ {kvs : List (Key × V)} {L : List (Str × Rs)}, RK H kvs L → DqA K H (kvs.map fun p => kV p.1) (L.map fun p => PyData.str p.1) ∧ DqA K H (kvs.map (·.2)) (L.map fun p => rD p.2)
  | [], [], _ => ⟨.nil, .nil⟩
  | (k, v) :: r, (u, s) :: l, h => by
    obtain ⟨rfl, h1, h2⟩ := h
    obtain ⟨a, b⟩ := RK.dq (K := K) h2
    exact ⟨.cons (.str _) a, .cons h1.dq b⟩
theorem ResL.dq {K : PySem.W.Frag} {H : Hp} {d : Addr} {L : List (Str × Rs)} (h : ResL H d L) : Dq K H (.ref d) (lD L) := by
  obtain ⟨kvs, e, k⟩ := h
  exact .dic e k.dq.1 k.dq.2
theorem small_nat {n : Int} (h : Small n) : n.natAbs ≤ 10 ^ 95 := by
  obtain ⟨a, b⟩ := h
  have : (n.natAbs : Int) ≤ 10 ^ 30 := by omega
  have k : (10 : Nat) ^ 30 ≤ 10 ^ 95 := by decide +kernel
  have e : ((10 ^ 30 : Nat) : Int) = (10 : Int) ^ 30 := by norm_cast
  rw [← e] at this
  omega
theorem small_w {n : Int} (h : Small n) : (PyData.int n).weight ≤ 101 := by
  obtain ⟨a, b⟩ := h
  have e : ((10 ^ 30 : Nat) : Int) = (10 : Int) ^ 30 := by norm_cast
  have h1 : n.natAbs ≤ 10 ^ 30 := by rw [← e] at a b; omega
  have h2 : n.natAbs < 2 ^ 100 := Nat.lt_of_le_of_lt h1 (by decide +kernel)
  have := PySem.Flt.log2_lt_of (by decide : 0 < 100) h2
  unfold PyData.weight
  split <;> omega
theorem so_ls {s : Str} (h : So s) : (PyData.str s).leavesShort 1930 = true := by
  unfold PyData.leavesShort
  rw [List.all_eq_true]
  intro c hc
  exact decide_eq_true (Nat.lt_trans (h c hc) (by decide))
theorem rD_facts {r : Rs} (h : GoodR r) : (rD r).showable = true ∧ listFree (rD r) = true ∧ (rD r).depth = 1 ∧ (rD r).leavesShort 1930 = true ∧ (rD r).weight ≤ 110 := by
  cases r with
  | val n =>
    have hs := h.1 n rfl
    have f := fit_int (small_nat hs)
    have w := small_w hs
    refine ⟨?_, rfl, rfl, ?_, ?_⟩
    · show (PyData.showable (.str "value") && (PyData.showable (.int n) && true)) = true
      rw [f.sh] <;> rfl
    · show (PyData.leavesShort 1930 (.str "value") && (PyData.leavesShort 1930 (.int n) && true)) = true
      rw [f.lv, so_ls (So.lit _)] <;> rfl
    · show (PyData.str "value").weight + 1 + ((PyData.int n).weight + 1 + 0) ≤ 110
      have : (PyData.str "value").weight = 5 := by decide +kernel
      omega
  | fail w =>
    rcases h.2 w rfl with rfl | rfl
    · refine ⟨rfl, rfl, rfl, ?_, ?_⟩
      · show (PyData.leavesShort 1930 (.str "failed") && (PyData.leavesShort 1930 (.str "zero") && true)) = true
        rw [so_ls (So.lit _), so_ls (So.lit _)] <;> rfl
      · decide +kernel
    · refine ⟨rfl, rfl, rfl, ?_, ?_⟩
      · show (PyData.leavesShort 1930 (.str "failed") && (PyData.leavesShort 1930 (.str "range") && true)) = true
        rw [so_ls (So.lit _), so_ls (So.lit _)] <;> rfl
      · decide +kernel
theorem rD_fit {r : Rs} (h : GoodR r) : Fit (rD r) := by
  obtain ⟨a, b, c, d, e⟩ := rD_facts h
  exact ⟨a, fun _ => b, by omega, d, by omega⟩
theorem lD_fit {L : List (Str × Rs)} (h : GoodL L) (hk : ∀ p ∈ L, Wd p.1) (hn : L.length ≤ 30) : Fit (lD L) := by
  have a : PyData.showableKv ((L.map fun p => PyData.str p.1).zip (L.map fun p => rD p.2)) = true ∧ listFreeD ((L.map fun p => PyData.str p.1).zip (L.map fun p => rD p.2)) = true ∧
      PyData.depthKv ((L.map fun p => PyData.str p.1).zip (L.map fun p => rD p.2)) ≤ 1 ∧ PyData.leavesShortKv 1930 ((L.map fun p => PyData.str p.1).zip (L.map fun p => rD p.2)) = true ∧
      PyData.weightKv ((L.map fun p => PyData.str p.1).zip (L.map fun p => rD p.2)) ≤ 125 * L.length := by
    clear hn
    induction L with
    | nil => exact ⟨rfl, rfl, Nat.zero_le _, rfl, Nat.zero_le _⟩
    | cons p l ih =>
      obtain ⟨i1, i2, i3, i4, i5⟩ := ih (fun q hq => h q (List.mem_cons_of_mem _ hq)) (fun q hq => hk q (List.mem_cons_of_mem _ hq))
      obtain ⟨f1, f2, f3, f4, f5⟩ := rD_facts (h p List.mem_cons_self)
      have wd := hk p List.mem_cons_self
      have s4 := so_ls (So.wd wd)
      have s5 : (PyData.str p.1).weight ≤ 8 := wd.few
      rw [List.map_cons, List.map_cons, List.zip_cons_cons]
      refine ⟨?_, ?_, ?_, ?_, ?_⟩
      · show (PyData.showable (.str p.1) && PyData.showable (rD p.2) && PyData.showableKv _) = true
        rw [f1, i1] <;> rfl
      · show (listFree (.str p.1) && listFree (rD p.2) && listFreeD _) = true
        rw [f2, i2] <;> rfl
      · show max (max (PyData.depth (.str p.1)) (rD p.2).depth) (PyData.depthKv _) ≤ 1
        rw [f3]
        have : (PyData.str p.1).depth = 0 := rfl
        omega
      · show (PyData.leavesShort 1930 (.str p.1) && PyData.leavesShort 1930 (rD p.2) && PyData.leavesShortKv 1930 _) = true
        rw [s4, f4, i4] <;> rfl
      · show (PyData.str p.1).weight + (rD p.2).weight + 2 + PyData.weightKv _ ≤ _
        rw [List.length_cons]
        omega
  obtain ⟨a1, a2, a3, a4, a5⟩ := a
  refine ⟨a1, fun _ => a2, ?_, a4, ?_⟩
  · show PyData.depthKv _ + 1 ≤ 60
    omega
  · show PyData.weightKv _ ≤ 8000
    omega
end Fm

set_option Elab.async false
set_option linter.all false
set_option maxRecDepth 100000
set_option maxHeartbeats 4000000
set_option pp.maxSteps 200
namespace Rk
open PySem PySem.Spec PyProof.Rows L2 CL Fm
def spResults (K : PySem.W.Frag) : Sp := fun vs H Q _ => match vs with
  | [.ref p, .ref l] => ∃ k, ∃ ws : List Str, PenB H p (k + 2000) ∧ SqL K H l (ws.map V.str) ∧ (∀ w ∈ ws, Wd w) ∧ ws.length ≤ 30 ∧
      ∀ d L H', H d = none → ResL H' d L → GoodL L → L.length ≤ 30 → (∀ w, w ∈ L.map (·.1) ↔ w ∈ ws) → PenB H' p k → But p H H' → Q (.ref d) H'
  | _ => False
theorem _root_.Fm.RK.but {H H' : Hp} {p : Addr} {k : Nat} (P : PenB H p k) (s : But p H H') {kvs : List (Key × V)} {L : List (Str × Rs)} (h : RK H kvs L) : RK H' kvs L := h.on fun b xs e => s.keep b _ (P.ne e fun _ z => nomatch z) e
theorem _root_.CL.PenB.dic {p D : Addr} {k : Nat} {H' : Hp} {kvs : List (Key × V)} {o : HO} (P : PenB H' p k) (e : H' D = some (.dK kvs)) (np : p ≠ D) : PenB (upd H' D o) p k := by
  obtain ⟨c, ns, b, r, P, hb⟩ := P
  have nc : c ≠ D := ne_of P.cells e fun z => nomatch z
  exact ⟨c, ns, b, r, ⟨by rw [upd_ne np]; exact P.dict, by rw [upd_ne nc]; exact P.cells, P.len, P.b0, P.r0⟩, hb⟩
theorem good_val {n : Int} (h : Small n) : GoodR (.val n) := ⟨fun m e => by cases e; exact h, fun x e => nomatch e⟩
theorem good_fail {x : Str} (h : x = "zero" ∨ x = "range") : GoodR (.fail x) := ⟨fun m e => (nomatch e), fun y e => by cases e; exact h⟩
abbrev sResults : Stmt := topS 36
abbrev nResults : List Str := ["_law_pen_here", "_law_words", "_law_found", "_law_word", "_law_some"]
abbrev pResults : List Str := ["_law_pen_here", "_law_words"]
theorem scResults : FnScope nResults pResults (defScope sResults) := ⟨rfl, rfl, rfl, by decide +kernel, rfl, by decide +kernel, by decide +kernel⟩
section
variable {P : Program} {w : World} {K : PySem.W.Frag} {mg : Str → Option Value} {base : Heap}
theorem ok_results (DA : DefOk P w K mg base CX0 6 "_law_around" pAround spAround) (DP : DefOk P w K mg base CX0 6 "_law_pick" pPick (spPick K)) (DG : DefOk P w K mg base CX0 7 "_law_great" pGreat spGreat) (F : FunAt K mg "_law_results" sResults pResults) : DefOk P w K mg base CX0 8 "_law_results" pResults (spResults K) := by
  refine F.ok scResults (fun vs H Q E h => ?_) (fun f cdv A outer s H vs Q E hr h => ?_)
  · unfold spResults at h
    split at h
    · rfl
    · exact h.elim
  · have hu := hu_of hr
    refine ⟨_, (pss_cons (ps_set (i := 2) scResults.nd rfl (.inl rfl) pe_dnewK)
  (pss_cons (ps_for PassesOwn.never rfl (pi_list (cv 1)) (pg_name (i := 3) scResults.nd rfl (.inl rfl))
  (pss_cons (ps_set (i := 4) scResults.nd rfl (.inl rfl) (pe_lst (pa_cons (pe_tup (pa_cons pe_str (pa_cons (pe_def DA hr (by decide) (pa_cons (cv 0) (pa_cons pe_int pa_nil))) pa_nil))) (pa_cons (pe_tup (pa_cons pe_str (pa_cons (pe_def DA hr (by decide) (pa_cons (cv 0) (pa_cons pe_int pa_nil))) pa_nil))) (pa_cons (pe_tup (pa_cons pe_str (pa_cons (pe_def DG hr (by decide) (pa_cons (cv 0) (pa_cons (pe_pow (z := 1000000000000000000000000000000) ⟨⟨by decide, by decide, by decide⟩, by decide +kernel⟩) pa_nil))) pa_nil))) pa_nil)))))
  (pss_cons (ps_expr (pe_bm PySem.F.plainAttrs_list PySem.F.slot_list_append PySem.F.type_list_append mt_append (cv 4) (pa_cons (pe_tup (pa_cons pe_str (pa_cons (pe_def DP hr (by decide) (pa_cons (cv 0) (pa_cons (pe_lst (pa_cons pe_str (pa_cons pe_str pa_nil))) pa_nil))) pa_nil))) pa_nil)))
  (pss_one (ps_dput hu (PE_up (cv 2)) (cv 3) (PE_up (pe_ix c_ixL (cv 4) (pe_def DP hr (by decide) (pa_cons (cv 0) (pa_cons (pe_lst (pa_cons pe_int (pa_cons pe_int (pa_cons pe_int (pa_cons pe_int (pa_cons pe_int (pa_cons pe_int (pa_cons pe_int (pa_cons pe_int (pa_cons pe_int pa_nil)))))))))) pa_nil))) (fun _ _ => rfl))) (by rfl))))))
  (pss_one (ps_ret (cv 2))))), ?_⟩
    unfold spResults at h
    split at h
    · rename_i p l
      obtain ⟨k, ws, P, hS, hw, hn, q⟩ := h
      intro d nd
      have P0 := P.same (same_new (o := .dK []) nd)
      have b0 := But.of (p := p) (same_new (o := .dK []) nd)
      have dp : d ≠ p := fun z => by
        obtain ⟨c, ns, b, r, PP, _⟩ := P
        rw [z, PP.dict] at nd
        cases nd
      refine ⟨l, rfl, ⟨_, b0.sq P hS⟩, for_list (xs := ws.map V.str) (fun i σ H' => ∃ (L : List (Str × Rs)) (e3 e4 : Option V), σ = [some (.ref p), some (.ref l), some (.ref d), e3, e4] ∧ ResL H' d L ∧ GoodL L ∧ L.length ≤ i ∧ (∀ w, w ∈ L.map (·.1) ↔ w ∈ ws.take i) ∧ PenB H' p (k + (30 - i) * 60) ∧ But p H H')
        ⟨[], _, _, rfl, ⟨[], upd_same, trivial⟩, (fun p hp => nomatch hp), Nat.le_refl _, (fun w => by simp), P0.mono (by omega), b0⟩ (fun i σ H' _ h => by
          obtain ⟨_, _, _, _, _, _, _, _, _, b⟩ := h
          exact b.sq P hS) ?each ?done⟩
      case done =>
        rintro σ H' ⟨L, e3, e4, rfl, g1, g2, g3, g4, P1, b1⟩
        rw [List.length_map] at g3 g4
        rw [List.take_of_length_le (Nat.le_refl _)] at g4
        exact q d L H' nd g1 g2 (by omega) g4 (P1.mono (by omega)) b1
      case each =>
        rintro i x σ H1 hi ⟨L, e3, e4, rfl, ⟨kvs, hk, rk⟩, g2, g3, g4, P1, b1⟩
        have il : i < ws.length := by
          have := (List.getElem?_eq_some_iff.mp hi).1
          rw [List.length_map] at this
          exact this
        rw [List.getElem?_map] at hi
        obtain ⟨w0, hw0, rfl⟩ := Option.map_eq_some_iff.mp hi
        obtain ⟨kk, hkk⟩ : ∃ kk, kk = k + (30 - (i + 1)) * 60 := ⟨_, rfl⟩
        have P1 : PenB H1 p (kk + 55 + 5) := P1.mono (by
          have : 30 - i = (30 - (i + 1)) + 1 := by omega
          rw [hkk, this, Nat.succ_mul]
          omega)
        refine ⟨kk + 55, P1, by decide, by decide, fun a H2 a0 a1 P2 b2 => ⟨by show 2 ≤ sizeLine; decide, fun ta na => ?_⟩⟩
        have P3 := P2.same (same_new (o := .tup [.str "value", .int a]) na)
        have b3 := b2.trans (But.of (same_new (o := .tup [.str "value", .int a]) na))
        have ha : upd H2 ta (.tup [.str "value", .int a]) ta = some (.tup [.str "value", .int a]) := upd_same
        generalize upd H2 ta (.tup [.str "value", .int a]) = H3 at P3 b3 ha
        refine ⟨kk + 50, P3, by decide, by decide, fun c H4 c0 c1 P4 b4 => ⟨by show 2 ≤ sizeLine; decide, fun tc nc => ?_⟩⟩
        have ha := b4.keep _ _ (P3.ne ha fun _ z => nomatch z) ha
        have ha := same_new (o := .tup [.str "value", .int c]) nc _ _ ha
        have P5 := P4.same (same_new (o := .tup [.str "value", .int c]) nc)
        have b5 := b4.trans (But.of (same_new (o := .tup [.str "value", .int c]) nc))
        have hc : upd H4 tc (.tup [.str "value", .int c]) tc = some (.tup [.str "value", .int c]) := upd_same
        generalize upd H4 tc (.tup [.str "value", .int c]) = H5 at P5 b5 ha hc
        refine ⟨kk + 25, P5, by decide, by decide, fun g H6 h0 h1 P6 b6 => ⟨by show 2 ≤ sizeLine; decide, fun tg ng => ?_⟩⟩
        have ha := same_new (o := .tup [.str "value", .int g]) ng _ _ (b6.keep _ _ (P5.ne ha fun _ z => nomatch z) ha)
        have hc := same_new (o := .tup [.str "value", .int g]) ng _ _ (b6.keep _ _ (P5.ne hc fun _ z => nomatch z) hc)
        have P7 := P6.same (same_new (o := .tup [.str "value", .int g]) ng)
        have b7 := b6.trans (But.of (same_new (o := .tup [.str "value", .int g]) ng))
        have hg : upd H6 tg (.tup [.str "value", .int g]) tg = some (.tup [.str "value", .int g]) := upd_same
        generalize upd H6 tg (.tup [.str "value", .int g]) = H7 at P7 b7 ha hc hg
        refine ⟨by show 3 ≤ sizeLine; decide, fun sl nsl => ?_⟩
        have ha := same_new (o := .lst [.ref ta, .ref tc, .ref tg]) nsl _ _ ha
        have hc := same_new (o := .lst [.ref ta, .ref tc, .ref tg]) nsl _ _ hc
        have hg := same_new (o := .lst [.ref ta, .ref tc, .ref tg]) nsl _ _ hg
        have P8 := P7.same (same_new (o := .lst [.ref ta, .ref tc, .ref tg]) nsl)
        have b8 := b7.trans (But.of (same_new (o := .lst [.ref ta, .ref tc, .ref tg]) nsl))
        have hl : upd H7 sl (.lst [.ref ta, .ref tc, .ref tg]) sl = some (.lst [.ref ta, .ref tc, .ref tg]) := upd_same
        have b18 := ((b3.trans b5).trans b8)
        have b78 : But p H7 (upd H7 sl (.lst [.ref ta, .ref tc, .ref tg])) := .of (same_new nsl)
        have b17 := (b3.trans b5).trans b7
        generalize hH8 : upd H7 sl (.lst [.ref ta, .ref tc, .ref tg]) = H8 at P8 b8 ha hc hg hl b18 b78
        refine ⟨.inl ⟨rfl, _, SqL.of hl⟩, by show 2 ≤ sizeLine; decide, fun wl nwl => ?_⟩
        refine ⟨kk + 20, _, P8.same (same_new nwl), SqL.of upd_same, by show 0 < 2; decide, by show 2 ≤ _; decide, fun x H9 hx P9 b9 => ⟨by show 2 ≤ sizeLine; decide, fun tf nf => ?_⟩⟩
        obtain ⟨w1, rfl, hw1⟩ : ∃ w1 : Str, x = .str w1 ∧ (w1 = "zero" ∨ w1 = "range") := by
          simp only [List.mem_cons, List.not_mem_nil, or_false] at hx
          rcases hx with rfl | rfl
          · exact ⟨_, rfl, .inl rfl⟩
          · exact ⟨_, rfl, .inr rfl⟩
        have b89 := ((But.of (p := p) (same_new nwl)).trans b9).trans (.of (same_new (o := .tup [.str "failed", .str w1]) nf))
        have P10 := P9.same (same_new (o := .tup [.str "failed", .str w1]) nf)
        have hf : upd H9 tf (.tup [.str "failed", .str w1]) tf = some (.tup [.str "failed", .str w1]) := upd_same
        have ha := b89.keep _ _ (P8.ne ha fun _ z => nomatch z) ha
        have hc := b89.keep _ _ (P8.ne hc fun _ z => nomatch z) hc
        have hg := b89.keep _ _ (P8.ne hg fun _ z => nomatch z) hg
        have hl := b89.keep _ _ (P8.ne hl fun _ z => nomatch z) hl
        have b710 := b78.trans b89
        generalize upd H9 tf (.tup [.str "failed", .str w1]) = H10 at P10 hf ha hc hg hl b710
        refine ⟨sl, _, _, rfl, rfl, hl, by show 3 < sizeLine; decide, ?_⟩
        have P11 := P10.lst hl (cel_ne P7 b710 nsl) (o := .lst ([.ref ta, .ref tc, .ref tg] ++ [.ref tf]))
        have b711 := b710.lst P7 nsl (o := .lst ([.ref ta, .ref tc, .ref tg] ++ [.ref tf]))
        have kp : ∀ c ys, H10 c = some (.tup ys) → upd H10 sl (.lst ([.ref ta, .ref tc, .ref tg] ++ [.ref tf])) c = some (.tup ys) := fun c ys h => by
          rw [upd_ne (ne_of h hl fun z => nomatch z)]; exact h
        have ha := kp _ _ ha
        have hc := kp _ _ hc
        have hg := kp _ _ hg
        have hf := kp _ _ hf
        have hl : upd H10 sl (.lst ([.ref ta, .ref tc, .ref tg] ++ [.ref tf])) sl = some (.lst [.ref ta, .ref tc, .ref tg, .ref tf]) := upd_same
        have b111 := b17.trans b711
        generalize upd H10 sl (.lst ([.ref ta, .ref tc, .ref tg] ++ [.ref tf])) = H11 at P11 ha hc hg hf hl b111
        refine ⟨fun v Hv => ∃ r, RsAt Hv v r ∧ GoodR r ∧ PenB Hv p kk ∧ But p H1 Hv, ⟨by show 9 ≤ sizeLine; decide, fun il2 nil2 => ?_⟩, ?_⟩
        · refine ⟨kk, _, (P11.same (same_new nil2)).mono (by omega), SqL.of upd_same, by show 0 < 9; decide, by show 9 ≤ _; decide, fun y H12 hy P12 b12 => ?_⟩
          have b112 := (But.of (p := p) (same_new nil2)).trans b12
          have ha := b112.keep _ _ (P11.ne ha fun _ z => nomatch z) ha
          have hc := b112.keep _ _ (P11.ne hc fun _ z => nomatch z) hc
          have hg := b112.keep _ _ (P11.ne hg fun _ z => nomatch z) hg
          have hf := b112.keep _ _ (P11.ne hf fun _ z => nomatch z) hf
          have hl := b112.keep _ _ (P11.ne hl fun _ z => nomatch z) hl
          have bv := b111.trans b112
          have ga : GoodR (.val a) := good_val ⟨by omega, by omega⟩
          have gc : GoodR (.val c) := good_val ⟨by omega, by omega⟩
          have gg : GoodR (.val g) := good_val ⟨by omega, by omega⟩
          simp only [List.mem_cons, List.not_mem_nil, or_false] at hy
          have hy : y = .int 0 ∨ y = .int 1 ∨ y = .int 2 ∨ y = .int 3 := by
            rcases hy with h | h | h | h | h | h | h | h | h
            · exact .inl h
            · exact .inl h
            · exact .inl h
            · exact .inr (.inl h)
            · exact .inr (.inl h)
            · exact .inr (.inl h)
            · exact .inr (.inr (.inl h))
            · exact .inr (.inr (.inl h))
            · exact .inr (.inr (.inr h))
          rcases hy with rfl | rfl | rfl | rfl
          · exact ⟨_, .ref ta, SqL.of hl, rfl, .val a, ⟨ta, rfl, ha⟩, ga, P12, bv⟩
          · exact ⟨_, .ref tc, SqL.of hl, rfl, .val c, ⟨tc, rfl, hc⟩, gc, P12, bv⟩
          · exact ⟨_, .ref tg, SqL.of hl, rfl, .val g, ⟨tg, rfl, hg⟩, gg, P12, bv⟩
          · exact ⟨_, .ref tf, SqL.of hl, rfl, .fail w1, ⟨tf, rfl, hf⟩, good_fail hw1, P12, bv⟩
        · rintro v Hv ⟨r, hr0, gr, Pv, bv⟩
          refine ⟨fun x H' => x = .ref d ∧ H' = Hv, ⟨rfl, rfl⟩, ?_⟩
          intro x9 H9' hx9
          obtain ⟨hx9, hH9⟩ := hx9
          subst hx9
          rw [hH9]
          have hkv := bv.keep _ _ dp hk
          have rl := rk.len
          have hz : kvs.length < sizeLine := Nat.lt_of_le_of_lt (show kvs.length ≤ 30 by omega) (by decide)
          refine ⟨d, _, rfl, DPut.k (k := kS w0) hkv hz, putL L w0 r, _, _, rfl, ⟨_, upd_same, ?_⟩, g2.put gr, by have := putL_len L w0 r; omega, fun w => ?_, (hkk ▸ Pv.dic hkv dp.symm), (b1.trans bv).lst P nd⟩
          · have kk2 : ∀ c ys, Hv c = some (.tup ys) → upd Hv d (.dK (putK kvs (.inr w0) v)) c = some (.tup ys) := fun c ys h => by
              rw [upd_ne (ne_of h hkv fun z => nomatch z)]; exact h
            exact ((rk.but P1 bv).on kk2).put (hr0.on kk2)
          · rw [List.take_add_one, hw0]
            constructor
            · intro h
              rcases putL_key' h with rfl | h
              · exact List.mem_append_right _ (by simp)
              · exact List.mem_append_left _ ((g4 w).mp h)
            · intro h
              rcases List.mem_append.mp h with h | h
              · exact putL_key (.inr ((g4 w).mpr h))
              · exact putL_key (.inl (by simpa using h))
    · exact h.elim
end
end Rk

set_option Elab.async false
set_option linter.all false
set_option maxRecDepth 100000
set_option maxHeartbeats 4000000
set_option pp.maxSteps 200
namespace Rk
open PySem PySem.Spec PyProof.Rows L2 CL Fm
def spNames2 : Sp := fun vs H Q _ => match vs with
  | [.ref p, .int m] => ∃ k, PenB H p (k + 45) ∧ 0 ≤ m ∧ m ≤ 100 ∧ ∀ l (ws : List Str) H', H' l = some (.lst (ws.map V.str)) → H l = none → (∀ w ∈ ws, Wd w) → ws.length ≤ 26 → (1 ≤ m → 0 < ws.length) → PenB H' p k → But p H H' → Q (.ref l) H'
  | _ => False
/-- the name that a letter makes -/
def nameAt (stem : Str) (c : Nat) : Str := if stem.length % 2 = 0 then stem ++ ⟨#[c]⟩ else ⟨#[c]⟩ ++ stem
theorem name_two {stem : Str} {c : Nat} {v : V} (e : atI [V.str (stem ++ ⟨#[c]⟩), .str (⟨#[c]⟩ ++ stem)] ((stem.length : Int) % 2) = some v) : v = .str (nameAt stem c) := by
  have h : stem.length % 2 = 0 ∨ stem.length % 2 = 1 := by omega
  unfold nameAt
  rcases h with h | h
  · have z : ((stem.length : Int) % 2) = 0 := by omega
    rw [z] at e
    rw [if_pos h]
    exact (Option.some.inj e).symm
  · have z : ((stem.length : Int) % 2) = 1 := by omega
    rw [z] at e
    rw [if_neg (by omega)]
    exact (Option.some.inj e).symm
def Bad3 (x : Str) : Prop := x = "min" ∨ x = "max" ∨ x = "self"
theorem end_one {l : List Nat} {a b : List Nat} {c d x y : Nat} (h1 : l ++ [c] = a ++ [x]) (h2 : l ++ [d] = b ++ [y]) (k : a = b → x = y) : c = d := by
  obtain ⟨e1, e2⟩ := List.append_inj' h1 rfl
  obtain ⟨e3, e4⟩ := List.append_inj' h2 rfl
  have := k (e1.symm.trans e3)
  have u := List.cons.inj e2
  have v := List.cons.inj e4
  rw [u.1, v.1, this]
theorem bad_one {stem : Str} {c d : Nat} (h1 : Bad3 (nameAt stem c)) (h2 : Bad3 (nameAt stem d)) : c = d := by
  have tm : ("min" : Str).cps.toList = [109, 105] ++ [110] := by decide +kernel
  have tx : ("max" : Str).cps.toList = [109, 97] ++ [120] := by decide +kernel
  have ts : ("self" : Str).cps.toList = [115, 101, 108] ++ [102] := by decide +kernel
  have tc : ∀ c : Nat, (⟨#[c]⟩ : Str).cps.toList = [c] := fun _ => rfl
  have sl : stem.cps.toList.length = stem.length := by simp; rfl
  by_cases ev : stem.length % 2 = 0
  · have e : ∀ c, (nameAt stem c).cps.toList = stem.cps.toList ++ [c] := fun c => by
      unfold nameAt
      rw [if_pos ev]
      exact TL.tl_append ..
    have f : ∀ c, Bad3 (nameAt stem c) → stem.cps.toList ++ [c] = [109, 105] ++ [110] ∨ stem.cps.toList ++ [c] = [109, 97] ++ [120] := fun c h => by
      have ec := e c
      rcases h with h | h | h
      · rw [h, tm] at ec; exact .inl ec.symm
      · rw [h, tx] at ec; exact .inr ec.symm
      · rw [h, ts] at ec
        have := congrArg List.length ec
        simp only [List.length_append, List.length_cons, List.length_nil, sl] at this
        omega
    rcases f c h1 with a | a <;> rcases f d h2 with b | b
    · exact end_one a b fun _ => rfl
    · exact end_one a b fun z => absurd z (by decide)
    · exact end_one a b fun z => absurd z (by decide)
    · exact end_one a b fun _ => rfl
  · have e : ∀ c, (nameAt stem c).cps.toList = c :: stem.cps.toList := fun c => by
      unfold nameAt
      rw [if_neg ev]
      exact TL.tl_append ..
    have f : ∀ c, Bad3 (nameAt stem c) → c = 115 := fun c h => by
      have ec := e c
      rcases h with h | h | h
      · rw [h, tm] at ec
        have := congrArg List.length ec
        simp only [List.length_append, List.length_cons, List.length_nil, sl] at this
        omega
      · rw [h, tx] at ec
        have := congrArg List.length ec
        simp only [List.length_append, List.length_cons, List.length_nil, sl] at this
        omega
      · rw [h, ts] at ec
        exact (List.cons.inj ec).1.symm
    rw [f c h1, f d h2]
theorem letters_one {a b : Int} {c : Nat} (a0 : 0 ≤ a) (a1 : a < 26) (b0 : 0 ≤ b) (b1 : b < 26) (h1 : atI ("abcdefghijklmnopqrstuvwxyz" : Str).cps.toList a = some c) (h2 : atI ("abcdefghijklmnopqrstuvwxyz" : Str).cps.toList b = some c) : a = b := by
  have e : ("abcdefghijklmnopqrstuvwxyz" : Str).cps.toList = (List.range 26).map (· + 97) := by decide +kernel
  rw [e] at h1 h2
  have g : ∀ {x : Int}, 0 ≤ x → x < 26 → atI ((List.range 26).map (· + 97)) x = some (x.toNat + 97) := fun {x} h0 h1 => by
    unfold atI ixN
    rw [if_pos h0, if_pos (by simp; omega), Option.bind_some, List.getElem?_map, List.getElem?_range (by omega)] <;> rfl
  rw [g a0 a1] at h1
  rw [g b0 b1] at h2
  have := Option.some.inj h1
  have := Option.some.inj h2
  omega
def Some2 (stem : Str) (fr st : Int) (i : Nat) (ws : List Str) : Prop := ws ≠ [] ∨ i = 0 ∨ (i = 1 ∧ ∃ c0, atI ("abcdefghijklmnopqrstuvwxyz" : Str).cps.toList ((fr + st * (0 + ((0 : Nat) : Int))) % 26) = some c0 ∧ Bad3 (nameAt stem c0))
theorem some2_bad {stem : Str} {fr st : Int} {i : Nat} {ws : List Str} {c : Nat} (f0 : 0 ≤ fr) (f1 : fr < 26) (s0 : 1 ≤ st) (s1 : st ≤ 25) (ec : atI ("abcdefghijklmnopqrstuvwxyz" : Str).cps.toList ((fr + st * (0 + (i : Int))) % 26) = some c) (hb : Bad3 (nameAt stem c)) (so : Some2 stem fr st i ws) : Some2 stem fr st (i + 1) ws := by
  rcases so with z | rfl | ⟨rfl, c0, e0, hb0⟩
  · exact .inl z
  · exact .inr (.inr ⟨rfl, c, ec, hb⟩)
  · have : c0 = c := bad_one hb0 hb
    subst this
    have := letters_one (by omega) (by omega) (by omega) (by omega) e0 ec
    simp only [Int.zero_add] at this
    have z1 : st * ((0 : Nat) : Int) = 0 := by simp
    have z2 : st * ((1 : Nat) : Int) = st := by simp
    rw [z1, z2] at this
    omega
theorem cut_pos {n : Nat} {m : Int} (h : 0 < n) (hm : 1 ≤ m) : 0 < min (HT.sIx n n (some m) - HT.sIx n 0 none) (n - HT.sIx n 0 none) := by
  have e0 : HT.sIx n 0 none = 0 := rfl
  rw [e0]
  have : 0 < HT.sIx n n (some m) := by
    unfold HT.sIx
    dsimp only
    repeat (first | split | omega)
    all_goals omega
  omega
section
variable {P : Program} {w : World} {K : PySem.W.Frag} {mg : Str → Option Value} {base : Heap}
theorem ok_names2 (B : BltN mg) (D : ∀ base, DefOk P w K mg base CX0 5 "_law_draw" pDraw spDr) (DP : ∀ base, DefOk P w K mg base CX0 6 "_law_pick" pPick (spPick K)) (DPS : ∀ base, DefOk P w K mg base CX0 6 "_law_pick" pPick spPickS) (F : FunAt K mg "_law_names" sNames pNames) : DefOk P w K mg base CX0 7 "_law_names" pNames spNames2 := by
  refine F.ok scNames (fun vs H Q E h => ?_) (fun f cdv A outer s H vs Q E hr h => ?_)
  · unfold spNames2 at h
    split at h
    · rfl
    · exact h.elim
  · have hu := hu_of hr
    refine ⟨_, (pss_cons (ps_set (i := 2) scNames.nd rfl (.inr rfl) pe_str)
  (pss_cons (ps_set (i := 3) scNames.nd rfl (.inl rfl) (pe_join pe_str (pe_lc (own := [("_law_k", 4)]) (g := gName 4) (by rfl) scNames.nd (pi_range1 (by rfl) B.range (pa_cons (pe_def (D _) hr (by decide) (pa_cons (cv 0) (pa_cons pe_int pa_nil))) pa_nil)) (blkOk_by (N := nNames) (sc := (defScope sNames)) (own := [("_law_k", 4)]) (by decide +kernel)) (fun _ _ _ _ _ => pg_name (i := 4) scNames.nd rfl (Or.inl rfl)) (fun _ _ _ _ _ => pts_nil) (fun _ _ _ _ _ => (pe_def (DPS _) hr (by decide) (pa_cons (cv 0) (pa_cons (cv 2) pa_nil)))))))
  (pss_cons (ps_par (i := 5) (j := 6) rfl scNames.nd rfl rfl (by decide) rfl rfl (pa_cons (pe_def (D _) hr (by decide) (pa_cons (cv 0) (pa_cons pe_int pa_nil))) (pa_cons (pe_def (DP _) hr (by decide) (pa_cons (cv 0) (pa_cons (pe_lst (pa_cons pe_int (pa_cons pe_int (pa_cons pe_int (pa_cons pe_int (pa_cons pe_int (pa_cons pe_int (pa_cons pe_int (pa_cons pe_int (pa_cons pe_int (pa_cons pe_int (pa_cons pe_int (pa_cons pe_int pa_nil))))))))))))) pa_nil))) pa_nil)) (by rfl))
  (pss_cons (ps_set (i := 7) scNames.nd rfl (.inl rfl) (pe_lst pa_nil))
  (pss_cons (ps_for PassesOwn.never rfl (pi_range1 (by rfl) B.range (pa_cons pe_int pa_nil)) (pg_name (i := 4) scNames.nd rfl (.inl rfl))
  (pss_cons (ps_set (i := 8) scNames.nd rfl (.inl rfl) (pe_ix ix_str (cv 2) (pe_op c_mod (pe_callTy c_int (by rfl) B.int (by decide +kernel) (pa_cons (pe_op c_addI (cv 5) (pe_op c_mul (cv 6) (cv 4))) pa_nil)) pe_int) (fun _ _ => rfl)))
  (pss_cons (ps_set (i := 9) scNames.nd rfl (.inl rfl) (pe_ix c_ixL (pe_lst (pa_cons (pe_op op_add_str (cv 3) (cv 8)) (pa_cons (pe_op op_add_str (cv 8) (cv 3)) pa_nil))) (pe_op c_mod (pe_callB call_len_str (by rfl) B.len (by decide +kernel) (pa_cons (cv 3) pa_nil)) pe_int) (fun _ _ => rfl)))
  (pss_one (ps_if (ct_cmp op_notIn_seq (cv 9) (pe_tup (pa_cons pe_str (pa_cons pe_str (pa_cons pe_str pa_nil)))) (by rfl))
  (pss_one (ps_expr (pe_bm PySem.F.plainAttrs_list PySem.F.slot_list_append PySem.F.type_list_append mt_append (cv 7) (pa_cons (cv 9) pa_nil))))
  pss_nil)))))
  (pss_one (ps_ret (pe_slice sl_list (cv 7) po_none (po_some (cv 1)))))))))), ?_⟩
    unfold spNames2 at h
    split at h
    · rename_i p m
      obtain ⟨k, P, m0, m1, q⟩ := h
      refine ⟨⟨_, rfl⟩, k + 40, P, by decide, by decide, fun n H1 n0 n1 P1 b1 => ⟨n, rfl, by omega, by omega, fun D1 nD => ?_⟩⟩
      refine lc_range (n := n.toNat) (fun i H' => ∃ ys : List Str, H' D1 = some (.lst (ys.map V.str)) ∧ ys.length = i ∧ (∀ y ∈ ys, y.length = 1 ∧ ∀ c ∈ y.cps.toList, isL c = true) ∧ PenB H' p (k + 10 + 5 * (6 - i)) ∧ But p H1 H') ⟨[], upd_same, rfl, (fun _ h => nomatch h), (P1.same (same_new nD)).mono (by omega), .of (same_new nD)⟩ ?turn ?rest
      case turn =>
        rintro i H2 hi ⟨ys, hD, hl, hy, P2, b2⟩
        refine ⟨rfl, ?_⟩
        refine ⟨k + 10 + 5 * (6 - (i + 1)), P2.mono (by omega), by decide +kernel, by decide +kernel, fun c H3 hc P3 b3 => ?_⟩
        have hD3 := b3.keep _ _ (P2.ne hD fun _ z => nomatch z) hD
        have hc : isL c = true := by rw [← isL_mem]; exact decide_eq_true hc
        refine ⟨_, hD3, by rw [List.length_map]; exact Nat.lt_of_le_of_lt (show ys.length ≤ 6 by omega) (by decide), ys ++ [⟨#[c]⟩], by rw [upd_same, List.map_append] <;> rfl, by simp [hl], fun y hy' => ?_, P3.lst hD3 (cel_ne P1 (b2.trans b3) nD), (b2.trans b3).lst P1 nD⟩
        rcases List.mem_append.mp hy' with z | z
        · exact hy y z
        · rw [List.mem_singleton.mp z]
          exact ⟨rfl, fun d hd => by rw [List.mem_singleton.mp (show d ∈ [c] from hd)]; exact hc⟩
      case rest =>
        rintro H2 ⟨ys, hD, hl, hy, P2, b2⟩
        have sum : (ys.map (·.length)).sum ≤ 6 := by
          have : (ys.map (·.length)).sum = ys.length := by
            clear hD hl
            induction ys with
            | nil => rfl
            | cons a r ih => rw [List.map_cons, List.sum_cons, List.length_cons, (hy a (by simp)).1, ih (fun y h => hy y (List.mem_cons_of_mem _ h))]; omega
          omega
        have e0 : ("" : Str).length = 0 := by decide +kernel
        refine ⟨_, D1, ys, rfl, rfl, .inl (SqL.of hD), by rw [e0]; omega, ?_⟩
        have hst : ∀ c ∈ (Txt.join "" ys).cps.toList, isL c = true := fun c hc => by
          rw [TL.join_eq] at hc
          have hc : c ∈ TL.tl (PySem.Str.join "" ys) := hc
          rw [TL.tl_join] at hc
          rcases joinL_mem hc with z | ⟨x, hx, z⟩
          · exact absurd z (by rw [show TL.tl ("" : Str) = [] by decide +kernel]; simp)
          · obtain ⟨y, hy2, rfl⟩ := List.mem_map.mp hx
            exact (hy y hy2).2 c z
        have hsl : (Txt.join "" ys).length ≤ 6 := by
          rw [TL.join_eq, TL.len_tl, TL.tl_join]
          refine Nat.le_trans joinL_len ?_
          rw [show TL.tl ("" : Str) = [] by decide +kernel, List.map_map]
          have : (List.map (List.length ∘ TL.tl) ys) = ys.map (·.length) := by
            apply List.map_congr_left
            intro y _
            exact (TL.len_tl y).symm
          rw [this]
          simp only [List.length_nil, Nat.mul_zero, Nat.add_zero]
          exact sum
        generalize Txt.join "" ys = stem at hst hsl
        refine ⟨k + 5, P2.mono (by omega), by decide, by decide, fun fr H3 f0 f1 P3 b3 => ⟨by show 12 ≤ sizeLine; decide, fun l2 nl2 => ⟨k, _, P3.same (same_new nl2), SqL.of upd_same, by show 0 < 12; decide, by show 12 ≤ 10 ^ 20; decide, fun x H4 hx P4 b4 => ?_⟩⟩⟩
        obtain ⟨st, rfl, s0', s1⟩ : ∃ st : Int, x = .int st ∧ 1 ≤ st ∧ st ≤ 25 := by
          simp only [List.mem_cons, List.not_mem_nil, or_false] at hx
          rcases hx with rfl | rfl | rfl | rfl | rfl | rfl | rfl | rfl | rfl | rfl | rfl | rfl <;> exact ⟨_, rfl, by decide, by decide⟩
        have s0 : 0 ≤ st := by omega
        have bb := ((b1.trans b2).trans (b3.trans (But.of (same_new (o := .lst [V.int 1, .int 3, .int 5, .int 7, .int 9, .int 11, .int 15, .int 17, .int 19, .int 21, .int 23, .int 25]) nl2)))).trans b4
        refine ⟨_, _, rfl, ?_⟩
        refine ⟨by show 0 ≤ sizeLine; decide, fun l nl => ?_⟩
        have nlH := bb.none P nl
        have l26 : ("abcdefghijklmnopqrstuvwxyz" : Str).length = 26 := by decide +kernel
        refine ⟨26, rfl, by decide, by decide, for_range (n := 26) (fun i σ H' => ∃ e4 e8 e9, ∃ ws : List Str, Some2 stem fr st i ws ∧ σ = [some (.ref p), some (.int m), some (.str "abcdefghijklmnopqrstuvwxyz"), some (.str stem), e4, some (.int fr), some (.int st), some (.ref l), e8, e9] ∧ H' l = some (.lst (ws.map V.str)) ∧ ws.length ≤ i ∧ (∀ w ∈ ws, Wd w) ∧ PenB H' p k ∧ But p H H')
          ⟨_, _, _, [], .inr (.inl rfl), rfl, upd_same, Nat.le_refl _, (fun _ h => nomatch h), P4.same (same_new nl), bb.lst P nlH⟩ ?turn2 ?rest2⟩
        case turn2 =>
          rintro i σ H5 hi ⟨e4, e8, e9, ws, so, rfl, hl, hn, hw, P5, b5⟩
          have sti : 0 ≤ st * (0 + (i : Int)) := Int.mul_nonneg s0 (by omega)
          obtain ⟨c, hc, ec⟩ := at_text (z := "abcdefghijklmnopqrstuvwxyz") (v := (fr + st * (0 + (i : Int))) % 26) (by omega) (by rw [l26]; omega)
          have hc : isL c = true := by rw [← isL_mem]; exact decide_eq_true hc
          refine ⟨few_of (by omega) (by omega) (by omega) (by omega), lt0, _, _, c, rfl, rfl, by decide +kernel, ec, ?_⟩
          have o1 : (⟨#[c]⟩ : Str).length = 1 := rfl
          have sz : stem.length ≤ sizeLine := Nat.le_trans hsl (by decide)
          have z7 : stem.length + (⟨#[c]⟩ : Str).length ≤ sizeLine := Nat.le_trans (show _ ≤ 7 by omega) (by decide)
          refine ⟨_, _, rfl, rfl, z7, _, _, rfl, rfl, by rw [Nat.add_comm]; exact z7, by show 2 ≤ sizeLine; decide, fun l3 nl3 => ?_⟩
          obtain ⟨v, hv, ev⟩ := atI_mem (xs := [V.str (stem ++ ⟨#[c]⟩), .str (⟨#[c]⟩ ++ stem)]) (x := (stem.length : Int) % 2) (by omega) (by show _ < ((2 : Nat) : Int); omega)
          have vn : v = .str (nameAt stem c) := name_two ev
          refine ⟨stem, rfl, sz, lt0, _, v, SqL.of upd_same, ev, ?_⟩
          obtain ⟨nm, rfl, n1, n2, n3⟩ : ∃ nm : Str, v = .str nm ∧ (∀ d ∈ nm.cps.toList, isL d = true) ∧ 1 ≤ nm.length ∧ nm.length ≤ 8 := by
            have both : ∀ d, d ∈ TL.tl stem ∨ d ∈ TL.tl (⟨#[c]⟩ : Str) → isL d = true := fun d hd => by
              rcases hd with z | z
              · exact hst d z
              · rw [List.mem_singleton.mp (show d ∈ [c] from z)]; exact hc
            simp only [List.mem_cons, List.not_mem_nil, or_false] at hv
            rcases hv with rfl | rfl
            · refine ⟨_, rfl, fun d hd => ?_, by rw [app_len]; omega, by rw [app_len]; omega⟩
              have hd : d ∈ TL.tl (stem ++ ⟨#[c]⟩) := hd
              rw [TL.tl_append] at hd
              exact both d (List.mem_append.mp hd)
            · refine ⟨_, rfl, fun d hd => ?_, by rw [app_len]; omega, by rw [app_len]; omega⟩
              have hd : d ∈ TL.tl (⟨#[c]⟩ ++ stem) := hd
              rw [TL.tl_append] at hd
              exact both d (List.mem_append.mp hd).symm
          have b6 := b5.trans (But.of (same_new (o := .lst [V.str (stem ++ ⟨#[c]⟩), .str (⟨#[c]⟩ ++ stem)]) nl3))
          refine ⟨by show 3 ≤ sizeLine; decide, fun b nb => ⟨b, _, rfl, .inr (.inl (.inl upd_same)), rfl, rfl, ?_⟩⟩
          have b7 := b6.trans (But.of (same_new (o := .tup [V.str "min", .str "max", .str "self"]) nb))
          have P7 := (P5.same (same_new (o := .lst [V.str (stem ++ ⟨#[c]⟩), .str (⟨#[c]⟩ ++ stem)]) nl3)).same (same_new (o := .tup [V.str "min", .str "max", .str "self"]) nb)
          have hl7 := same_new (o := .tup [V.str "min", .str "max", .str "self"]) nb _ _ (same_new (o := .lst [V.str (stem ++ ⟨#[c]⟩), .str (⟨#[c]⟩ ++ stem)]) nl3 _ _ hl)
          show if (!inV (.str nm) [.str "min", .str "max", .str "self"]) = true then _ else _
          rw [inV_three]
          have vn : nm = nameAt stem c := V.str.inj vn
          by_cases hp : nm = "min" ∨ nm = "max" ∨ nm = "self"
          · rw [decide_eq_true hp]
            show if false = true then _ else _
            rw [if_neg Bool.false_ne_true]
            exact ⟨_, _, _, ws, some2_bad f0 f1 s0' s1 ec (vn ▸ hp) so, rfl, hl7, by omega, hw, P7, b7⟩
          · rw [decide_eq_false hp]
            show if true = true then _ else _
            rw [if_pos rfl]
            refine ⟨.inl ⟨rfl, _, SqL.of hl7⟩, l, _, _, rfl, rfl, hl7, by rw [List.length_map]; exact Nat.lt_of_le_of_lt (show ws.length ≤ 26 by omega) (by decide), ?_⟩
            refine ⟨_, _, _, ws ++ [nm], .inl (by simp), rfl, by rw [upd_same, List.map_append] <;> rfl, by simp; omega, fun w hw2 => ?_, P7.lst hl7 (cel_ne P b7 nlH), b7.lst P nlH⟩
            rcases List.mem_append.mp hw2 with z | z
            · exact hw w z
            · rw [List.mem_singleton.mp z]
              exact ⟨n1, n2, n3, fun z => hp (.inl z), fun z => hp (.inr (.inl z)), fun z => hp (.inr (.inr z))⟩
        case rest2 =>
          rintro σ H6 ⟨e4, e8, e9, ws, so, rfl, hl, hn, hw, P6, b6⟩
          refine ⟨m, rfl, l, ws.map V.str, rfl, SqL.of hl, fun l' nl' => ?_⟩
          refine q l' ((ws.drop (HT.sIx (ws.map V.str).length 0 none)).take (HT.sIx (ws.map V.str).length (ws.map V.str).length (some m) - HT.sIx (ws.map V.str).length 0 none)) _ ?_ (b6.none P nl') (fun w h => hw w (List.mem_of_mem_drop (List.mem_of_mem_take h))) ?_ (fun h1 => ?_) (P6.same (same_new nl')) (b6.trans (.of (same_new nl')))
          · rw [upd_same, List.map_take, List.map_drop] <;> rfl
          · rw [List.length_take, List.length_drop]; omega
          · have wp : 0 < ws.length := by
              rcases so with z | z | z
              · exact List.length_pos_iff.mpr z
              · omega
              · omega
            rw [List.length_take, List.length_drop, List.length_map]
            exact cut_pos wp h1
    · exact h.elim
end
end Rk

set_option Elab.async false
set_option linter.all false
set_option maxRecDepth 100000
set_option maxHeartbeats 4000000
set_option pp.maxSteps 200
/-! the walks of one clause, of two -/
namespace Rk
open PySem PySem.Spec PyProof.Rows L2 CL Fm LcR
theorem itc_tup {K : PySem.W.Frag} {a : Addr} {xs : List V} {C : (Hp → Prop) → V → Hp → Prop} {H0 : Hp} {Qd : Hp → Prop} (Pv : Nat → Hp → Prop) (h0 : Pv 0 H0) (hl : ∀ i H, i ≤ xs.length → Pv i H → SqT K H a xs)
    (hs : ∀ i x H, xs[i]? = some x → Pv i H → C (Pv (i + 1)) x H) (hd : ∀ H, Pv xs.length H → Qd H) :
    ∃ W : Nat → Nat → Hp → Prop, (∃ m, W 0 m H0) ∧ ∀ i m H, W i m H → ((Itt K a).stop i H ∧ Qd H) ∨ ((Itt K a).go i H ∧ ∃ Nx : Hp → Prop, (∀ H', Nx H' → ∃ m', m' < m ∧ W (i + 1) m' H') ∧ ∀ x H', (Itt K a).yld i H x H' → C Nx x H') := by
  refine ⟨fun i m H => m = xs.length - i ∧ i ≤ xs.length ∧ Pv i H, ⟨xs.length, by simp, Nat.zero_le _, h0⟩, ?_⟩
  rintro i m H ⟨rfl, hi, p⟩
  have q := hl i H hi p
  by_cases lt : i < xs.length
  · refine .inr ⟨⟨xs, xs[i], q, by simp [lt]⟩, Pv (i + 1), fun H' p' => ⟨xs.length - (i + 1), by omega, rfl, lt, p'⟩, fun x H' y => ?_⟩
    obtain ⟨e, y⟩ := y
    subst e
    exact hs i x _ (y xs q) p
  · have e : i = xs.length := by omega
    subst e
    exact .inl ⟨⟨xs, q, Nat.le_refl _⟩, hd H p⟩
theorem itc_list {K : PySem.W.Frag} {a : Addr} {xs : List V} {C : (Hp → Prop) → V → Hp → Prop} {H0 : Hp} {Qd : Hp → Prop} (Pv : Nat → Hp → Prop) (h0 : Pv 0 H0) (hl : ∀ i H, i ≤ xs.length → Pv i H → SqL K H a xs)
    (hs : ∀ i x H, xs[i]? = some x → Pv i H → C (Pv (i + 1)) x H) (hd : ∀ H, Pv xs.length H → Qd H) :
    ∃ W : Nat → Nat → Hp → Prop, (∃ m, W 0 m H0) ∧ ∀ i m H, W i m H → ((Itl K a).stop i H ∧ Qd H) ∨ ((Itl K a).go i H ∧ ∃ Nx : Hp → Prop, (∀ H', Nx H' → ∃ m', m' < m ∧ W (i + 1) m' H') ∧ ∀ x H', (Itl K a).yld i H x H' → C Nx x H') := by
  refine ⟨fun i m H => m = xs.length - i ∧ i ≤ xs.length ∧ Pv i H, ⟨xs.length, by simp, Nat.zero_le _, h0⟩, ?_⟩
  rintro i m H ⟨rfl, hi, p⟩
  have q := hl i H hi p
  by_cases lt : i < xs.length
  · refine .inr ⟨⟨xs, xs[i], q, by simp [lt]⟩, Pv (i + 1), fun H' p' => ⟨xs.length - (i + 1), by omega, rfl, lt, p'⟩, fun x H' y => ?_⟩
    obtain ⟨e, y⟩ := y
    subst e
    exact hs i x _ (y xs q) p
  · have e : i = xs.length := by omega
    subst e
    exact .inl ⟨⟨xs, q, Nat.le_refl _⟩, hd H p⟩
/-! defs that call themselves and may raise -/
section
variable {P : Program} {w : World} {K : PySem.W.Frag} {mg : Str → Option Value} {base : Heap} {x : Str} {st : Stmt} {N ps : List Str} {k j : Nat}
theorem _root_.CL.FunAt.recX {sp : Nat → Sp} (A : FunAt K mg x st ps) (S : FnScope N ps (defScope st)) (h0 : ∀ vs H Q E, ¬ sp 0 vs H Q E) (len : ∀ n vs H Q E, sp n vs H Q E → vs.length = ps.length)
    (hbody : ∀ (n : Nat), DefOk P w K mg base (L2.CX P w) (k + n) x ps (sp n) → ∀ (f : Addr) (cdv : Value) (A : Around) (outer : List Env) (s : Shared) (H : Hp) (vs : List V) (Q : VK) (E : XK), Room (k + n) (A.deeper (envOfC x (defScope st) s.heap.objs.size f cdv)) → sp (n + 1) vs H Q E →
      ∃ t, PSs (cxOf (L2.CX P w) P w K mg base N x (defScope st) f cdv A outer s H E) (defBody st) t ∧ t { nx := fun _ H' => Q .non H', rt := Q } (start N vs) H) : ∀ n, DefOk P w K mg base (L2.CX P w) (k + n) x ps (sp n) := by
  obtain ⟨f, fd, F, g, b⟩ := id A.ex
  intro n
  induction n with
  | zero => exact ⟨f, fd, ⟨fun _ _ _ _ h => (h0 _ _ _ _ h).elim, fun _ _ _ _ _ _ _ _ _ _ _ _ _ h => (h0 _ _ _ _ h).elim⟩, g, F.kp, b⟩
  | succ n ih => exact ⟨f, fd, F.okX S (len _) (hbody n ih f), g, F.kp, b⟩
end
section
variable {X : Cx} {x : Str} {ps : List Str} {sp : Sp} {k j : Nat} {p pos : Pos} {e : Expr} {es : List Expr} {t : TA} {E : XK}
theorem pe_defX (D : DefOk X.prog X.w X.K X.mg X.base (L2.CX X.prog X.w) k x ps sp) (hr : Room j X.A) (hj : k ≤ j) (hx : Passes (L2.CX X.prog X.w) X E) (ha : PA X (e :: es) t) (hg : Gl X x := by rfl) (hdb : (x == ("__debug__" : Str)) = false := by decide)
    (he : starEach (e :: es) X.env = (false, eval e X.env) :: starEach es X.env := by rfl) (hpl : (backTo pos (starEach es X.env)).any (·.1) = false := by rfl) :
    PE X (.Call (.Name x p) (e :: es) [] pos) (tCall sp [] E t) := by
  obtain ⟨f, fd, F, g, kp, b⟩ := D.ex
  exact pe_call F (hr.mono hj) hg g kp b .nil hx ha hdb he hpl
end
/-! trees -/
theorem tr_ltr {H : Hp} {v : V} {t : T} (h : Tr H v t) : LTr H v t := by
  induction h with
  | num e => exact .num e
  | nam e => exact .nam e
  | neg e _ i => exact .neg e i
  | op e _ _ i j => exact .op e i j
theorem ltr_tr {H : Hp} {v : V} {t : T} (h : LTr H v t) : Tr H v t := by
  induction h with
  | num e => exact .num e
  | nam e => exact .nam e
  | neg e _ i => exact .neg e i
  | op e _ _ i j => exact .op e i j
/-- a tree that is neither a number nor a name -/
theorem _root_.Fm.LTr.inner {H : Hp} {v : V} {t : T} (h : LTr H v t) (k : NOk t) (nn : ∀ w, t ≠ .nam w) (nu : ∀ n, t ≠ .num n) : ∃ (b : Addr) (o : Str) (xs : List V) (ts : List T), v = .ref b ∧ H b = some (.tup (.str o :: xs)) ∧ o ≠ "name" ∧ o ≠ "number" ∧ (xs.length = 1 ∨ xs.length = 2) ∧ xs.length = ts.length ∧
    nmsT t = ts.flatMap nmsT ∧ (∀ (i : Nat) (x : V), xs[i]? = some x → ∃ t', ts[i]? = some t' ∧ LTr H x t' ∧ dep t' < dep t ∧ NOk t' ∧ (nmsT t').length ≤ (nmsT t).length) ∧ ((∃ t1, t = .neg t1 ∧ o = "minus" ∧ ts = [t1]) ∨ (∃ t1 t2, t = .op o t1 t2 ∧ o ∈ ops ∧ ts = [t1, t2])) := by
  cases h with
  | num e => exact absurd rfl (nu _)
  | nam e => exact absurd rfl (nn _)
  | @neg b v1 t1 e l1 =>
    refine ⟨b, _, _, [t1], rfl, e, by decide +kernel, by decide +kernel, .inl rfl, rfl, by simp [nmsT], fun i x hi => ?_, .inl ⟨t1, rfl, rfl, rfl⟩⟩
    match i, hi with
    | 0, hi => cases hi; exact ⟨t1, rfl, l1, Nat.lt_succ_self _, k, Nat.le_refl _⟩
  | @op b o v1 v2 t1 t2 e l1 l2 =>
    have en : nmsT (.op o t1 t2) = nmsT t1 ++ nmsT t2 := rfl
    refine ⟨b, o, _, [t1, t2], rfl, e, ops_ne k.1 (by decide +kernel), ops_ne k.1 (by decide +kernel), .inr rfl, rfl, by rw [en]; simp, fun i x hi => ?_, .inr ⟨t1, t2, rfl, k.1, rfl⟩⟩
    have d1 : dep t1 < max (dep t1) (dep t2) + 1 := by omega
    have d2 : dep t2 < max (dep t1) (dep t2) + 1 := by omega
    rw [en, List.length_append]
    match i, hi with
    | 0, hi => cases hi; exact ⟨t1, rfl, l1, d1, k.2.1, by omega⟩
    | 1, hi => cases hi; exact ⟨t2, rfl, l2, d2, k.2.2, by omega⟩
theorem none_back {H H' : Hp} {D : Addr} (s : Same H H') (n : H' D = none) : H D = none := by
  cases hq : H D with
  | none => rfl
  | some o => exact absurd (s _ _ hq) (by rw [n]; exact fun z => nomatch z)
/-- the names of a tree, each as often as it is read -/
def spNms (n : Nat) : Sp := fun vs H Q _ => match vs with
  | [v] => ∃ t, LTr H v t ∧ dep t < n ∧ NOk t ∧ (nmsT t).length ≤ 100 ∧ ∀ l H', H l = none → H' l = some (.lst ((nmsT t).map V.str)) → Same H H' → Q (.ref l) H'
  | _ => False
abbrev sNin : Stmt := topS 16
abbrev nNin : List Str := ["tree", "part", "name"]
abbrev pNin : List Str := ["tree"]
theorem scNin : FnScope nNin pNin (defScope sNin) := ⟨rfl, rfl, rfl, by decide +kernel, rfl, by decide +kernel, by decide +kernel⟩
section
variable {P : Program} {w : World} {K : PySem.W.Frag} {mg : Str → Option Value} {base : Heap}
theorem ok_nin (F : FunAt K mg "names_in" sNin pNin) : ∀ n, DefOk P w K mg base CX0 (1 + n) "names_in" pNin (spNms n) := by
  refine F.rec_ scNin (fun vs H Q E h => ?_) (fun n vs H Q E h => ?_) (fun n ih f cdv A outer s H vs Q E hr h => ?_)
  · unfold spNms at h
    split at h
    · obtain ⟨t, _, h1, _⟩ := h
      omega
    · exact h.elim
  · unfold spNms at h
    split at h
    · rfl
    · exact h.elim
  · have hu := hu_of hr
    refine ⟨_, (pss_cons (ps_if (ct_cmp op_eq (pe_ix ix_tup (cv 0) pe_int (fun _ _ => rfl)) pe_str (nomark _))
  (pss_one (ps_ret (pe_lst (pa_cons (pe_ix ix_tup (cv 0) pe_int (fun _ _ => rfl)) pa_nil))))
  pss_nil)
  (pss_one (ps_ret (pe_ifExp (ct_cmp op_eq (pe_ix ix_tup (cv 0) pe_int (fun _ _ => rfl)) pe_str (nomark _)) (pe_lst pa_nil) (pe_lc2 (own := [("part", 1), ("name", 2)]) (vs1 := [2]) (g := gName 1) (g1 := gName 2) (by rfl) scNin.nd (pi_tup (pe_slice sl_tup (cv 0) (po_some pe_int) po_none)) (blkOk_by (N := nNin) (sc := (defScope sNin)) (own := [("part", 1), ("name", 2)]) (by decide +kernel)) (by decide) (fun _ _ _ _ _ => pg_name (i := 1) scNin.nd rfl (Or.inl rfl)) (fun _ _ _ _ _ => pts_nil) (fun _ _ _ _ _ => (show PI _ _ _ (iList K _) from (pi_list (pe_def ih hr (by omega) (pa_cons (cv 1) pa_nil))))) (fun _ _ _ _ _ => pg_name (i := 2) scNin.nd rfl (Or.inl rfl)) (fun _ _ _ _ _ => pts_nil) (fun _ _ _ _ _ => (cv 2))))))), ?_⟩
    unfold spNms at h
    split at h
    · rename_i v
      obtain ⟨t, lt, hd, nk, few, q⟩ := h
      by_cases isn : ∃ w, t = .nam w
      · obtain ⟨w0, rfl⟩ := isn
        cases lt with
        | @nam b _ e =>
          refine ⟨b, _, 0, .str "name", rfl, rfl, SqT.of e, rfl, rfl, ?_⟩
          show if decide (V.str "name" = V.str "name") = true then _ else _
          rw [if_pos (by decide +kernel)]
          exact ⟨b, _, 1, .str w0, rfl, rfl, SqT.of e, rfl, by show 1 ≤ sizeLine; decide, fun l nl => q l _ nl upd_same (same_new nl)⟩
      by_cases isu : ∃ n0, t = .num n0
      · obtain ⟨n0, rfl⟩ := isu
        cases lt with
        | @num b _ e =>
          refine ⟨b, _, 0, .str "number", rfl, rfl, SqT.of e, rfl, rfl, ?_⟩
          show if decide (V.str "number" = V.str "name") = true then _ else _
          rw [if_neg (neO (by decide +kernel))]
          refine ⟨b, _, 0, .str "number", rfl, rfl, SqT.of e, rfl, rfl, ?_⟩
          show if decide (V.str "number" = V.str "number") = true then _ else _
          rw [if_pos (by decide +kernel)]
          exact ⟨by show 0 ≤ sizeLine; decide, fun l nl => q l _ nl upd_same (same_new nl)⟩
      obtain ⟨b, o, xs, ts, rfl, e, no, nu, fewx, hl, hnm, hx, _⟩ := lt.inner nk (fun w z => isn ⟨w, z⟩) (fun n z => isu ⟨n, z⟩)
      refine ⟨b, _, 0, .str o, rfl, rfl, SqT.of e, atI_hd, rfl, ?_⟩
      show if decide (V.str o = V.str "name") = true then _ else _
      rw [if_neg (neO no)]
      refine ⟨b, _, 0, .str o, rfl, rfl, SqT.of e, atI_hd, rfl, ?_⟩
      show if decide (V.str o = V.str "number") = true then _ else _
      rw [if_neg (neO nu)]
      obtain ⟨cx1, cx2⟩ := cut_tail (x := V.str o) fewx
      refine ⟨1, rfl, b, _, rfl, SqT.of e, cx2, fun tp ntp => ⟨tp, rfl, ⟨_, SqT.of upd_same⟩, fun D nD => ?_⟩⟩
      rw [cx1] at nD ⊢
      have st := same_new (o := .tup xs) ntp
      have htp : upd H tp (.tup xs) tp = some (.tup xs) := upd_same
      generalize upd H tp (.tup xs) = H2 at st htp nD
      have nD0 := none_back st nD
      have all : ∀ i, ((ts.take i).flatMap nmsT).length ≤ 100 := fun i => by
        have e2 : ts.flatMap nmsT = (ts.take i).flatMap nmsT ++ (ts.drop i).flatMap nmsT := by rw [← List.flatMap_append, List.take_append_drop]
        rw [hnm, e2, List.length_append] at few
        omega
      refine itc_tup (a := tp) (xs := xs) (fun i H' => H' D = some (.lst (((ts.take i).flatMap nmsT).map V.str)) ∧ Off D H2 H') ⟨by rw [List.take_zero]; exact upd_same, fun b o n h => by rw [upd_ne n]; exact h⟩
        (fun i H' hi ⟨p1, p2⟩ => SqT.of (p2 _ _ (ne_of_none htp nD) htp)) ?turn ?rest
      case rest =>
        rintro H3 ⟨p1, p2⟩
        rw [List.take_of_length_le (by omega), ← hnm] at p1
        exact q D H3 nD0 p1 (p2.same st nD0)
      case turn =>
        rintro i x H3 hi ⟨p1, p2⟩
        refine ⟨rfl, ?_⟩
        obtain ⟨t', et, lt', d', nk', few'⟩ := hx i x hi
        have S3 := p2.same st nD0
        refine ⟨t', lt'.same S3, by omega, nk', by omega, fun l H4 nl hl4 s4 => ⟨l, rfl, ⟨_, SqL.of hl4⟩, ?_⟩⟩
        have lD : l ≠ D := (ne_of_none p1 nl).symm
        have bnd := all (i + 1)
        rw [List.take_add_one, et] at bnd
        have ap : (ts.take i ++ (some t').toList).flatMap nmsT = (ts.take i).flatMap nmsT ++ nmsT t' := by rw [List.flatMap_append] <;> simp
        rw [ap, List.length_append] at bnd
        refine itc_list (a := l) (xs := (nmsT t').map V.str) (fun j H' => H' D = some (.lst (((ts.take i).flatMap nmsT ++ (nmsT t').take j).map V.str)) ∧ H' l = some (.lst ((nmsT t').map V.str)) ∧ Off D H2 H')
          ⟨by rw [List.take_zero, List.append_nil]; exact s4 _ _ p1, hl4, fun c o n h => s4 _ _ (p2 c o n h)⟩ (fun j H' _ h => SqL.of h.2.1) ?turn1 ?rest1
        case rest1 =>
          rintro H5 ⟨r1, r2, r3⟩
          rw [List.length_map, List.take_of_length_le (Nat.le_refl _)] at r1
          refine ⟨?_, r3⟩
          rw [List.take_add_one, et, ap]
          exact r1
        case turn1 =>
          rintro j y H5 hj ⟨r1, r2, r3⟩
          rw [List.getElem?_map] at hj
          obtain ⟨u, hu2, rfl⟩ := Option.map_eq_some_iff.mp hj
          refine ⟨rfl, ?_⟩
          refine ⟨_, r1, ?_, ?_, by rw [upd_ne lD]; exact r2, fun c o n h => by rw [upd_ne n]; exact r3 c o n h⟩
          · rw [List.length_map, List.length_append, List.length_take]
            exact Nat.lt_of_le_of_lt (show _ ≤ 200 by omega) (by decide)
          · rw [upd_same, List.take_add_one, hu2]
            simp
    · exact h.elim
end
/-- whether the form of point 13 holds -/
def spLin (n : Nat) : Sp := fun vs H Q _ => match vs with
  | [v, .str w] => ∃ t, LTr H v t ∧ dep t < n ∧ dep t < 6 ∧ NOk t ∧ (nmsT t).length ≤ 100 ∧ ∀ H', Same H H' → Q (.bl (linT w t)) H'
  | _ => False
structure BltA (mg : Str → Option Value) : Prop where
  all : mg "all" = none
theorem inV_four {o : Str} : inV (.str o) [.str "minus", .str "+", .str "-", .str "*"] = decide (o = "minus" ∨ o = "+" ∨ o = "-" ∨ o = "*") := by
  have := inV_map (w := o) (les := [("minus" : Str), "+", "-", "*"])
  refine Eq.trans this ?_
  simp
theorem all_map {α : Type} {f : α → Bool} : ∀ {l : List α}, (l.map f).all id = l.all f
  | [] => rfl
  | x :: r => by rw [List.map_cons, List.all_cons, List.all_cons, all_map] <;> rfl
abbrev sLin : Stmt := topS 19
abbrev nLin : List Str := ["tree", "name", "part"]
abbrev pLin : List Str := ["tree", "name"]
theorem scLin : FnScope nLin pLin (defScope sLin) := ⟨rfl, rfl, rfl, by decide +kernel, rfl, by decide +kernel, by decide +kernel⟩
section
variable {P : Program} {w : World} {K : PySem.W.Frag} {mg : Str → Option Value} {base : Heap}
theorem ok_lin (B : BltA mg) (DN : DefOk P w K mg base CX0 7 "names_in" pNin (spNms 6)) (F : FunAt K mg "is_linear" sLin pLin) : ∀ n, DefOk P w K mg base CX0 (8 + n) "is_linear" pLin (spLin n) := by
  refine F.rec_ scLin (fun vs H Q E h => ?_) (fun n vs H Q E h => ?_) (fun n ih f cdv A outer s H vs Q E hr h => ?_)
  · unfold spLin at h
    split at h
    · obtain ⟨t, _, h1, _⟩ := h
      omega
    · exact h.elim
  · unfold spLin at h
    split at h
    · rfl
    · exact h.elim
  · have hu := hu_of hr
    refine ⟨_, (pss_cons (ps_if (pt_cut (PW.pt (pw_or (ct_cmp op_eq (pe_ix ix_tup (cv 0) pe_int (fun _ _ => rfl)) pe_str (nomark _)) (pw_or1 (ct_cmp op_notIn_seq (cv 1) (pe_def DN hr (by omega) (pa_cons (cv 0) pa_nil)) (by rfl))))))
  (pss_one (ps_ret pe_bl))
  pss_nil)
  (pss_cons (ps_if (pt_cut (PW.pt (pw_or (ct_cmp op_notIn_seq (pe_ix ix_tup (cv 0) pe_int (fun _ _ => rfl)) (pe_tup (pa_cons pe_str (pa_cons pe_str (pa_cons pe_str (pa_cons pe_str pa_nil))))) (by rfl)) (pw_or1 (pt_not (ct_val (pe_callB (cr_all (by rfl)) (by rfl) B.all (by decide +kernel) (pa_cons (pe_lc (own := [("part", 2)]) (g := gName 2) (by rfl) scLin.nd (pi_tup (pe_slice sl_tup (cv 0) (po_some pe_int) po_none)) (blkOk_by (N := nLin) (sc := (defScope sLin)) (own := [("part", 2)]) (by decide +kernel)) (fun _ _ _ _ _ => pg_name (i := 2) scLin.nd rfl (Or.inl rfl)) (fun _ _ _ _ _ => pts_nil) (fun _ _ _ _ _ => (pe_def ih hr (by omega) (pa_cons (cv 2) (pa_cons (cv 1) pa_nil))))) pa_nil))))))))
  (pss_one (ps_ret pe_bl))
  pss_nil)
  (pss_one (ps_ret (c_or (pe_cmpR op_ne (pe_ix ix_tup (cv 0) pe_int (fun _ _ => rfl)) pe_str (nomark _)) (pe_one (c_not (pe_callB (cr_all (by rfl)) (by rfl) B.all (by decide +kernel) (pa_cons (pe_lc (own := [("part", 2)]) (g := gName 2) (by rfl) scLin.nd (pi_tup (pe_slice sl_tup (cv 0) (po_some pe_int) po_none)) (blkOk_by (N := nLin) (sc := (defScope sLin)) (own := [("part", 2)]) (by decide +kernel)) (fun _ _ _ _ _ => pg_name (i := 2) scLin.nd rfl (Or.inl rfl)) (fun _ _ _ _ _ => pts_nil) (fun _ _ _ _ _ => (pe_cmpR (show OpR _ (compareOp .In) (rIn K false) from op_in_seq) (cv 1) (pe_def DN hr (by omega) (pa_cons (cv 2) pa_nil)) (by rfl)))) pa_nil))))))))), ?_⟩
    unfold spLin at h
    split at h
    · rename_i v w0
      obtain ⟨t, lt, hd, hd6, nk, few, q⟩ := h
      obtain ⟨b, o, xs, rfl, e⟩ : ∃ (b : Addr) (o : Str) (xs : List V), v = .ref b ∧ H b = some (.tup (.str o :: xs)) := by
        cases lt with
        | num e => exact ⟨_, _, _, rfl, e⟩
        | nam e => exact ⟨_, _, _, rfl, e⟩
        | neg e _ => exact ⟨_, _, _, rfl, e⟩
        | op e _ _ => exact ⟨_, _, _, rfl, e⟩
      have onam : o = "name" ↔ ∃ w, t = .nam w := by
        cases lt with
        | num e2 => rw [e] at e2; cases e2; exact ⟨fun z => absurd z (by decide +kernel), fun ⟨_, z⟩ => nomatch z⟩
        | nam e2 => rw [e] at e2; cases e2; exact ⟨fun _ => ⟨_, rfl⟩, fun _ => rfl⟩
        | neg e2 _ => rw [e] at e2; cases e2; exact ⟨fun z => absurd z (by decide +kernel), fun ⟨_, z⟩ => nomatch z⟩
        | op e2 _ _ => rw [e] at e2; cases e2; exact ⟨fun z => absurd (z ▸ nk.1) (by decide +kernel), fun ⟨_, z⟩ => nomatch z⟩
      refine ⟨fun c H1 => Same H H1 ∧ c = (decide (o = "name") || !hasN w0 t), ?first, ?second⟩
      case first =>
        refine ⟨b, _, 0, .str o, rfl, rfl, SqT.of e, atI_hd, rfl, ?_⟩
        show if decide (V.str o = V.str "name") = true then _ else _
        by_cases ho : o = "name"
        · rw [if_pos (by rw [ho]; decide +kernel)]
          exact ⟨Same.refl _, by rw [decide_eq_true ho] <;> rfl⟩
        · rw [if_neg (neO ho)]
          refine ⟨t, lt, by omega, nk, few, fun l H1 nl hl s1 => ⟨l, _, rfl, .inl (SqL.of hl), rfl, flat_strs _, ?_⟩⟩
          rw [inV_map]
          exact ⟨s1, by rw [decide_eq_false ho] <;> rfl⟩
      case second =>
        rintro c H1 ⟨s1, rfl⟩
        refine iteB (fun h => ?_) (fun h => ?_)
        · have : linT w0 t = true := by
            rcases Bool.or_eq_true _ _ ▸ h with h | h
            · obtain ⟨w1, rfl⟩ := onam.mp (of_decide_eq_true h)
              rfl
            · refine linT_free ?_
              cases hz : hasN w0 t with
              | false => rfl
              | true => rw [hz] at h; cases h
          rw [← this]
          exact q H1 s1
        · have hoN : o ≠ "name" := fun z => by rw [decide_eq_true z] at h; cases h
          have hN : hasN w0 t = true := by
            cases hz : hasN w0 t with
            | true => rfl
            | false => rw [hz, Bool.not_false, Bool.or_true] at h; cases h
          obtain ⟨b', o', xs', ts, eb, e', no, nu, fewx, hl, hnm, hx, hway⟩ := lt.inner nk (fun w z => hoN (onam.mpr ⟨w, z⟩)) (fun n z => by rw [z] at hN; cases hN)
          cases eb
          rw [e] at e'
          cases e'
          have e1 := s1 _ _ e
          obtain ⟨cx1, cx2⟩ := cut_tail (x := V.str o) fewx
          have hsum : linT w0 t = (decide (o = "minus" ∨ o = "+" ∨ o = "-" ∨ o = "*") && ts.all (linT w0) && (decide (o ≠ "*") || !ts.all (hasN w0))) := by
            rcases hway with ⟨t1, rfl, rfl, rfl⟩ | ⟨t1, t2, rfl, ho, rfl⟩
            · have hN : hasN w0 t1 = true := hN
              unfold linT
              rw [hN, decide_eq_true (p := ("minus" : Str) = "minus" ∨ _) (.inl rfl), decide_eq_true (p := ("minus" : Str) ≠ "*") (by decide +kernel)]
              simp
            · rw [hasN_op] at hN
              unfold linT
              rw [hN]
              have hm : decide (o = "minus" ∨ o = "+" ∨ o = "-" ∨ o = "*") = lin3 o := by
                unfold lin3
                rw [Bool.eq_iff_iff]
                simp only [decide_eq_true_eq]
                constructor
                · rintro (z | z)
                  · exact absurd (z ▸ ho) (by decide +kernel)
                  · exact z
                · exact .inr
              rw [hm]
              simp
          refine ⟨fun c H2 => Same H H2 ∧ c = !(decide (o = "minus" ∨ o = "+" ∨ o = "-" ∨ o = "*") && ts.all (linT w0)), ?test, ?rest⟩
          case test =>
            refine ⟨b, _, 0, .str o, rfl, rfl, SqT.of e1, atI_hd, by show 4 ≤ sizeLine; decide, fun tq ntq => ⟨tq, _, rfl, .inr (SqT.of upd_same), rfl, rfl, ?_⟩⟩
            have s2 := s1.trans (same_new (o := .tup [V.str "minus", .str "+", .str "-", .str "*"]) ntq)
            generalize upd H1 tq (.tup [V.str "minus", .str "+", .str "-", .str "*"]) = H2 at s2
            rw [inV_four]
            by_cases hm : o = "minus" ∨ o = "+" ∨ o = "-" ∨ o = "*"
            · rw [decide_eq_true hm]
              show if (!true) = true then _ else _
              rw [if_neg (by decide)]
              refine ⟨1, rfl, b, _, rfl, SqT.of (s2 _ _ e), cx2, fun tp ntp => ⟨tp, rfl, ⟨_, SqT.of upd_same⟩, fun D nD => ?_⟩⟩
              rw [cx1] at nD ⊢
              have s3 := s2.trans (same_new (o := .tup xs) ntp)
              have htp : upd H2 tp (.tup xs) tp = some (.tup xs) := upd_same
              generalize upd H2 tp (.tup xs) = H3 at s3 htp nD
              refine lc_tup (a := tp) (xs := xs) (fun i H' => H' D = some (.lst (((ts.take i).map (linT w0)).map V.bl)) ∧ Off D H3 H') ⟨by rw [List.take_zero]; exact upd_same, fun b o n h => by rw [upd_ne n]; exact h⟩
                (fun i H' hi ⟨p1, p2⟩ => SqT.of (p2 _ _ (ne_of_none htp nD) htp)) ?turn ?done
              case turn =>
                rintro i x H4 hi ⟨p1, p2⟩
                refine ⟨rfl, ?_⟩
                obtain ⟨t', et, lt', d', nk', few'⟩ := hx i x hi
                have S4 := p2.same s3 (none_back s3 nD)
                refine ⟨t', lt'.same S4, by omega, by omega, nk', by omega, fun H5 s5 => ⟨_, s5 _ _ p1, ?_, ?_, fun c o n h => by rw [upd_ne n]; exact s5 _ _ (p2 c o n h)⟩⟩
                · rw [List.length_map, List.length_map, List.length_take]
                  exact Nat.lt_of_le_of_lt (show _ ≤ 2 by omega) (by decide)
                · rw [upd_same, List.take_add_one, et, List.map_append, List.map_append] <;> rfl
              case done =>
                rintro H4 ⟨p1, p2⟩
                rw [List.take_of_length_le (by omega)] at p1
                refine ⟨D, _, rfl, SqL.of p1, ?_⟩
                rw [all_map]
                exact ⟨p2.same s3 (none_back s3 nD), by rw [Bool.true_and]⟩
            · rw [decide_eq_false hm]
              show if (!false) = true then _ else _
              rw [if_pos (by decide)]
              exact ⟨s2, by rw [Bool.false_and] <;> rfl⟩
          case rest =>
            rintro c H2 ⟨s2, rfl⟩
            refine iteB (fun h2 => ?_) (fun h2 => ?_)
            · have : linT w0 t = false := by
                rw [hsum]
                cases hz : (decide (o = "minus" ∨ o = "+" ∨ o = "-" ∨ o = "*") && ts.all (linT w0)) with
                | false => rfl
                | true => rw [hz] at h2; cases h2
              rw [← this]
              exact q H2 s2
            · have hz : (decide (o = "minus" ∨ o = "+" ∨ o = "-" ∨ o = "*") && ts.all (linT w0)) = true := by
                cases hz : (decide (o = "minus" ∨ o = "+" ∨ o = "-" ∨ o = "*") && ts.all (linT w0)) with
                | true => rfl
                | false => rw [hz] at h2; cases h2
              rw [hz, Bool.true_and] at hsum
              rw [hsum] at q
              refine ⟨b, _, 0, .str o, rfl, rfl, SqT.of (s2 _ _ e), atI_hd, rfl, ?_⟩
              show if (!decide (V.str o = V.str "*")) = true then _ else _
              by_cases ho : o = "*"
              · rw [if_neg (by rw [ho]; decide +kernel)]
                rw [show decide (o ≠ "*") = false from decide_eq_false fun z => z ho, Bool.false_or] at q
                refine ⟨1, rfl, b, _, rfl, SqT.of (s2 _ _ e), cx2, fun tp ntp => ⟨tp, rfl, ⟨_, SqT.of upd_same⟩, fun D nD => ?_⟩⟩
                rw [cx1] at nD ⊢
                have s3 := s2.trans (same_new (o := .tup xs) ntp)
                have htp : upd H2 tp (.tup xs) tp = some (.tup xs) := upd_same
                generalize upd H2 tp (.tup xs) = H3 at s3 htp nD
                refine lc_tup (a := tp) (xs := xs) (fun i H' => H' D = some (.lst (((ts.take i).map (hasN w0)).map V.bl)) ∧ Off D H3 H') ⟨by rw [List.take_zero]; exact upd_same, fun b o n h => by rw [upd_ne n]; exact h⟩
                  (fun i H' hi ⟨p1, p2⟩ => SqT.of (p2 _ _ (ne_of_none htp nD) htp)) ?turn2 ?done2
                case turn2 =>
                  rintro i x H4 hi ⟨p1, p2⟩
                  refine ⟨rfl, ?_⟩
                  obtain ⟨t', et, lt', d', nk', few'⟩ := hx i x hi
                  have S4 := p2.same s3 (none_back s3 nD)
                  refine ⟨t', lt'.same S4, by omega, nk', by omega, fun l H5 nl hl5 s5 => ⟨l, _, rfl, .inl (SqL.of hl5), rfl, flat_strs _, _, s5 _ _ p1, ?_, ?_, fun c o n h => by rw [upd_ne n]; exact s5 _ _ (p2 c o n h)⟩⟩
                  · rw [List.length_map, List.length_map, List.length_take]
                    exact Nat.lt_of_le_of_lt (show _ ≤ 2 by omega) (by decide)
                  · rw [upd_same, List.take_add_one, et, List.map_append, List.map_append]
                    rw [inV_map] <;> rfl
                case done2 =>
                  rintro H4 ⟨p1, p2⟩
                  rw [List.take_of_length_le (by omega)] at p1
                  refine ⟨D, _, rfl, SqL.of p1, ?_⟩
                  rw [all_map]
                  exact q H4 (p2.same s3 (none_back s3 nD))
              · rw [if_pos (by rw [decide_eq_false (fun z => ho (V.str.inj z))] <;> rfl)]
                rw [show decide (o ≠ "*") = true from decide_eq_true ho, Bool.true_or] at q
                exact q H2 s2
    · exact h.elim
end
end Rk

set_option Elab.async false
set_option linter.all false
set_option maxRecDepth 100000
set_option maxHeartbeats 4000000
set_option pp.maxSteps 200
namespace Fm
open PySem PySem.Spec PyProof.Rows L2 CL
/-! how great slope and rest get -/
def LF (d : Nat) (n : Int) : Prop := n.natAbs < 2 ^ (102 * 2 ^ d - 1)
theorem lf_pos (d : Nat) : 102 ≤ 102 * 2 ^ d := by have := Nat.pow_pos (n := d) (show 0 < 2 by decide); omega
theorem lf_up {d e : Nat} {n : Int} (h : LF d n) (k : d ≤ e) : LF e n := by
  have := Nat.mul_le_mul_left 102 (Nat.pow_le_pow_right (show 0 < 2 by decide) k)
  exact Nat.lt_of_lt_of_le h (Nat.pow_le_pow_right (by decide) (by omega))
theorem lf_next (d : Nat) : 102 * 2 ^ (d + 1) - 1 = (102 * 2 ^ d - 1) + (102 * 2 ^ d - 1) + 1 := by
  have := lf_pos d
  rw [Nat.pow_succ]
  omega
theorem lf_sum {d : Nat} {m n k : Int} (hm : LF d m) (hn : LF d n) (h : k.natAbs ≤ m.natAbs + n.natAbs) : LF (d + 1) k := by
  unfold LF at *
  rw [lf_next, Nat.pow_succ, Nat.pow_add]
  have one : 1 ≤ 2 ^ (102 * 2 ^ d - 1) := Nat.pow_pos (by decide)
  have := Nat.mul_le_mul_right (2 ^ (102 * 2 ^ d - 1)) one
  omega
theorem lf_cross {d : Nat} {a b c e : Int} (ha : LF d a) (hb : LF d b) (hc : LF d c) (he : LF d e) : LF (d + 1) (a * b + c * e) := by
  unfold LF at *
  rw [lf_next, Nat.pow_succ, Nat.pow_add]
  have h1 := Nat.mul_lt_mul'' ha hb
  have h2 := Nat.mul_lt_mul'' hc he
  have := Int.natAbs_add_le (a * b) (c * e)
  rw [Int.natAbs_mul, Int.natAbs_mul] at this
  omega
theorem lf_mul {d : Nat} {a b : Int} (ha : LF d a) (hb : LF d b) : LF (d + 1) (a * b) := by
  have := lf_cross (c := 0) (e := 0) ha hb (Nat.pow_pos (by decide)) (Nat.pow_pos (by decide))
  simpa using this
theorem lf_small {n : Int} (h : Small n) (d : Nat) : LF d n := by
  refine lf_up (d := 0) ?_ (Nat.zero_le _)
  obtain ⟨a, b⟩ := h
  unfold LF
  show n.natAbs < 2 ^ 101
  omega
theorem lf_8000 {d : Nat} {n : Int} (h : LF d n) (k : d ≤ 6) : n.natAbs < 2 ^ 8000 := Nat.lt_of_lt_of_le (lf_up h k) (Nat.pow_le_pow_right (by decide) (by decide))
theorem lf_mulW {d : Nat} {m n : Int} (hm : LF d m) (hn : LF d n) (k : d ≤ 6) : CMulW m n := wide_mul (lf_8000 hm k) (lf_8000 hn k) (by decide) (by decide) (by decide)
theorem line_lf {w : Str} {ρ : Str → Option Rs} (hb : RB ρ) : ∀ t : T, LF (dep t) (lineT w ρ t).1 ∧ LF (dep t) (lineT w ρ t).2 := by
  have val : ∀ t : T, Small (valR (resT ρ t)) := fun t => by
    cases h : resT ρ t with
    | val n => exact res_small hb h
    | fail x => exact ⟨by show _ ≤ (0 : Int); decide, by show (0 : Int) ≤ _; decide⟩
  have zero : ∀ d, LF d 0 := fun d => Nat.pow_pos (by decide)
  intro t
  induction t with
  | num n => exact ⟨zero _, lf_small (val _) _⟩
  | nam v =>
    unfold lineT
    split
    · exact ⟨lf_small ⟨by decide, by decide⟩ _, zero _⟩
    · exact ⟨zero _, lf_small (val _) _⟩
  | neg t ih =>
    unfold lineT
    split
    · have ng : ∀ {n : Int}, LF (dep t) n → LF (dep t + 1) (-n) := fun {n} h => lf_up (d := dep t) (by unfold LF at *; rw [Int.natAbs_neg]; exact h) (Nat.le_succ _)
      exact ⟨ng ih.1, ng ih.2⟩
    · exact ⟨zero _, lf_small (val _) _⟩
  | op o a b iha ihb =>
    unfold lineT
    split
    · have a1 := lf_up iha.1 (Nat.le_max_left (dep a) (dep b))
      have a2 := lf_up iha.2 (Nat.le_max_left (dep a) (dep b))
      have b1 := lf_up ihb.1 (Nat.le_max_right (dep a) (dep b))
      have b2 := lf_up ihb.2 (Nat.le_max_right (dep a) (dep b))
      show LF (max (dep a) (dep b) + 1) (join2 o (lineT w ρ a) (lineT w ρ b)).1 ∧ LF (max (dep a) (dep b) + 1) (join2 o (lineT w ρ a) (lineT w ρ b)).2
      unfold join2
      split
      · exact ⟨lf_cross a1 b2 b1 a2, lf_mul a2 b2⟩
      · have sg : ∀ z : Int, ((if o = "+" then (1 : Int) else -1) * z).natAbs = z.natAbs := fun z => by
          split
          · rw [Int.one_mul]
          · rw [Int.neg_one_mul, Int.natAbs_neg]
        have ad : ∀ x y : Int, (x + (if o = "+" then (1 : Int) else -1) * y).natAbs ≤ x.natAbs + y.natAbs := fun x y => by
          have := Int.natAbs_add_le x ((if o = "+" then (1 : Int) else -1) * y)
          rw [sg] at this
          exact this
        exact ⟨lf_sum a1 b1 (ad _ _), lf_sum a2 b2 (ad _ _)⟩
    · exact ⟨zero _, lf_small (val _) _⟩
end Fm
namespace Rk
open PySem PySem.Spec PyProof.Rows L2 CL Fm LcR
/-- the error of a failed part -/
def fwerr (Ca : Addr) (x : Str) (H : Hp) (E : XK) : Prop := ∀ d H2, Same H H2 → H2 d = some (.xd [("word", .str x)]) → E (.ref Ca) (some d) H2
def spLine (Ca : Addr) (n : Nat) : Sp := fun vs H Q E => match vs with
  | [v, .str w, .ref d] => ∃ t, ∃ ρ : Str → Option Rs, LTr H v t ∧ dep t < n ∧ dep t < 6 ∧ NOk t ∧ (nmsT t).length ≤ 100 ∧ ResD H d ρ ∧ RB ρ ∧ linT w t = true ∧ (∀ u ∈ nmsT t, u ≠ w → ∃ r, ρ u = some r) ∧
      (match badT w ρ t with
      | x :: _ => fwerr Ca x H E
      | [] => ∀ a H', Same H H' → H' a = some (.tup [.int (lineT w ρ t).1, .int (lineT w ρ t).2]) → Q (.ref a) H')
  | _ => False
/-- the lines of several trees -/
def LnAll (f : T → Int × Int) (H : Hp) : List Addr → List T → Prop
  | [], [] => True
  | a :: as, t :: ts => H a = some (.tup [.int (f t).1, .int (f t).2]) ∧ LnAll f H as ts
  | _, _ => False
theorem LnAll.on {f : T → Int × Int} {H H' : Hp} (k : ∀ b xs, H b = some (.tup xs) → H' b = some (.tup xs)) : ∀ {as : List Addr} {ts : List T}, LnAll f H as ts → LnAll f H' as ts
  | [], [], _ => trivial
  | _ :: _, _ :: _, h => ⟨k _ _ h.1, LnAll.on k h.2⟩
theorem LnAll.len {f : T → Int × Int} {H : Hp} : ∀ {as : List Addr} {ts : List T}, LnAll f H as ts → as.length = ts.length
  | [], [], _ => rfl
  | _ :: _, _ :: _, h => by rw [List.length_cons, List.length_cons, LnAll.len h.2]
theorem LnAll.snoc {f : T → Int × Int} {H : Hp} {a : Addr} {t : T} (ha : H a = some (.tup [.int (f t).1, .int (f t).2])) : ∀ {as : List Addr} {ts : List T}, LnAll f H as ts → LnAll f H (as ++ [a]) (ts ++ [t])
  | [], [], _ => ⟨ha, trivial⟩
  | _ :: _, _ :: _, h => ⟨h.1, LnAll.snoc ha h.2⟩
abbrev sLine : Stmt := topS 20
abbrev nLine : List Str := ["tree", "name", "results", "word", "value", "lines", "part", "slope", "rest", "more", "other", "sign"]
abbrev pLine : List Str := ["tree", "name", "results"]
theorem scLine : FnScope nLine pLine (defScope sLine) := ⟨rfl, rfl, rfl, by decide +kernel, rfl, by decide +kernel, by decide +kernel⟩
section
variable {P : Program} {w : World} {K : PySem.W.Frag} {mg : Str → Option Value} {base : Heap} {Ca : Addr}
theorem ok_line (TA : ErrA P w K mg base "Failed" Ca "word") (DN : DefOk P w K mg base CX0 7 "names_in" pNin (spNms 6)) (DRs : DefOk P w K mg base CX0 8 "result_of" pRsOf (spRsOf 6)) (F : FunAt K mg "line_of" sLine pLine) : ∀ n, DefOk P w K mg base (L2.CX P w) (9 + n) "line_of" pLine (spLine Ca n) := by
  refine F.recX scLine (fun vs H Q E h => ?_) (fun n vs H Q E h => ?_) (fun n ih f cdv A outer s H vs Q E hr h => ?_)
  · unfold spLine at h
    split at h
    · obtain ⟨t, ρ, _, h1, _⟩ := h
      omega
    · exact h.elim
  · unfold spLine at h
    split at h
    · rfl
    · exact h.elim
  · have hu := hu_of hr
    refine ⟨_, (pss_cons (ps_if (ct_cmp op_notIn_seq (cv 1) (pe_def DN hr (by omega) (pa_cons (cv 0) pa_nil)) (by rfl))
  (pss_cons (ps_asg (pe_def DRs hr (by omega) (pa_cons (cv 0) (pa_cons (cv 2) pa_nil))) (pg_tup (by rfl) (pgs_cons (pg_name (i := 3) scLine.nd rfl (.inl rfl)) (pgs_cons (pg_name (i := 4) scLine.nd rfl (.inl rfl)) pgs_nil))))
  (pss_cons (ps_if (ct_cmp op_eq (cv 3) pe_str (nomark _))
  (pss_one (ps_raiseA TA rfl (hr.mono (by omega)) (L2.takes_of rfl rfl rfl rfl) (cv 4)))
  pss_nil)
  (pss_one (ps_ret (pe_tup (pa_cons pe_int (pa_cons (cv 4) pa_nil)))))))
  pss_nil)
  (pss_cons (ps_if (ct_cmp op_eq (pe_ix ix_tup (cv 0) pe_int (fun _ _ => rfl)) pe_str (nomark _))
  (pss_one (ps_ret (pe_tup (pa_cons pe_int (pa_cons pe_int pa_nil)))))
  pss_nil)
  (pss_cons (ps_setLcR (i := 5) (own := [("part", 6)]) (g := gName 6) (by rfl) scLine.nd rfl rfl (L2.takes_of rfl rfl rfl rfl) rfl rfl (sw_true rfl rfl rfl (by decide +kernel)) (pi_tup (pe_slice sl_tup (cv 0) (po_some pe_int) po_none)) (blkOk_by (N := nLine) (sc := (defScope sLine)) (own := [("part", 6)]) (by decide +kernel)) (fun _ _ _ _ _ _ => pg_name (i := 6) scLine.nd rfl (Or.inl rfl)) (fun _ _ _ _ _ _ => pts_nil) (fun _ _ _ _ _ _ pas => pe_defX ih hr (by omega) pas (pa_cons (cv 6) (pa_cons (cv 1) (pa_cons (cv 2) pa_nil)))))
  (pss_cons (ps_if (ct_cmp op_eq (pe_ix ix_tup (cv 0) pe_int (fun _ _ => rfl)) pe_str (nomark _))
  (pss_one (ps_ret (pe_tup (pa_cons (pe_un c_neg (pe_ix ix_tup (pe_ix c_ixL (cv 5) pe_int (fun _ _ => rfl)) pe_int (fun _ _ => rfl))) (pa_cons (pe_un c_neg (pe_ix ix_tup (pe_ix c_ixL (cv 5) pe_int (fun _ _ => rfl)) pe_int (fun _ _ => rfl))) pa_nil)))))
  pss_nil)
  (pss_cons (ps_asg (cv 5) (pg_unl (by rfl) (pgs_cons (pg_tup (by rfl) (pgs_cons (pg_name (i := 7) scLine.nd rfl (.inl rfl)) (pgs_cons (pg_name (i := 8) scLine.nd rfl (.inl rfl)) pgs_nil))) (pgs_cons (pg_tup (by rfl) (pgs_cons (pg_name (i := 9) scLine.nd rfl (.inl rfl)) (pgs_cons (pg_name (i := 10) scLine.nd rfl (.inl rfl)) pgs_nil))) pgs_nil))))
  (pss_cons (ps_if (ct_cmp op_eq (pe_ix ix_tup (cv 0) pe_int (fun _ _ => rfl)) pe_str (nomark _))
  (pss_one (ps_ret (pe_tup (pa_cons (pe_op c_addI (pe_op c_mulW (cv 7) (cv 10)) (pe_op c_mulW (cv 9) (cv 8))) (pa_cons (pe_op c_mulW (cv 8) (cv 10)) pa_nil)))))
  pss_nil)
  (pss_cons (ps_set (i := 11) scLine.nd rfl (.inl rfl) (PE_up (pe_ifExp (ct_cmp op_eq (pe_ix ix_tup (cv 0) pe_int (fun _ _ => rfl)) pe_str (nomark _)) pe_int (pe_un c_neg pe_int))))
  (pss_one (ps_ret (pe_tup (pa_cons (pe_op c_addI (cv 7) (pe_op c_mulW (cv 11) (cv 9))) (pa_cons (pe_op c_addI (cv 8) (pe_op c_mulW (cv 11) (cv 10))) pa_nil)))))))))))), ?_⟩
    unfold spLine at h
    split at h
    · rename_i v w0 d
      obtain ⟨t, ρ, lt, hd, hd6, nk, few, hR, hB, hL, hK, q⟩ := h
      refine ⟨t, lt, by omega, nk, few, fun l H1 nl hl s1 => ⟨l, _, rfl, .inl (SqL.of hl), rfl, flat_strs _, ?_⟩⟩
      rw [inV_map]
      show if (!hasN w0 t) = true then _ else _
      cases hN : hasN w0 t with
      | false =>
        rw [if_pos (by decide)]
        have ne : ∀ u ∈ nmsT t, u ≠ w0 := fun u hm z => by
          unfold hasN at hN
          exact of_decide_eq_false hN (z ▸ hm)
        refine ⟨t, ρ, ltr_tr (lt.same s1), by omega, nk, hR.same s1, hB, fun u hu => hK u hu (ne u hu), fun v' H2 s2 hv => ?_⟩
        rw [badT_free hN, lineT_free hN] at q
        have S := s1.trans s2
        cases hr0 : Fm.resT ρ t with
        | val n0 =>
          rw [hr0] at hv q
          obtain ⟨a, rfl, ea⟩ := hv
          refine ⟨a, _, rfl, SqT.of ea, rfl, _, _, rfl, _, _, rfl, rfl, ?_⟩
          refine ⟨rfl, ?_⟩
          show if decide (V.str "value" = V.str "failed") = true then _ else _
          rw [if_neg (neO (by decide +kernel))]
          exact ⟨by show 2 ≤ sizeLine; decide, fun c nc => q c _ (S.trans (same_new nc)) upd_same⟩
        | fail x0 =>
          rw [hr0] at hv q
          obtain ⟨a, rfl, ea⟩ := hv
          refine ⟨a, _, rfl, SqT.of ea, rfl, _, _, rfl, _, _, rfl, rfl, ?_⟩
          refine ⟨rfl, ?_⟩
          show if decide (V.str "failed" = V.str "failed") = true then _ else _
          rw [if_pos (by decide +kernel)]
          exact fun d' H3 _ sm e => q d' H3 (S.trans sm) e
      | true =>
        rw [if_neg (by decide)]
        by_cases isn : ∃ w1, t = .nam w1
        · obtain ⟨w1, rfl⟩ := isn
          have ew : w0 = w1 := by
            unfold hasN at hN
            exact List.mem_singleton.mp (of_decide_eq_true hN)
          subst ew
          cases lt with
          | @nam b _ e =>
            refine ⟨b, _, 0, .str "name", rfl, rfl, SqT.of (s1 _ _ e), rfl, rfl, ?_⟩
            show if decide (V.str "name" = V.str "name") = true then _ else _
            rw [if_pos (by decide +kernel)]
            unfold badT lineT at q
            rw [if_pos rfl, if_pos rfl] at q
            exact ⟨by show 2 ≤ sizeLine; decide, fun c nc => q c _ (s1.trans (same_new nc)) upd_same⟩
        obtain ⟨b, o, xs, ts, rfl, e, no, nu, fewx, hl2, hnm, hx, hway⟩ := lt.inner nk (fun w z => isn ⟨w, z⟩) (fun n z => by rw [z] at hN; cases hN)
        have e1 := s1 _ _ e
        refine ⟨b, _, 0, .str o, rfl, rfl, SqT.of e1, atI_hd, rfl, ?_⟩
        show if decide (V.str o = V.str "name") = true then _ else _
        rw [if_neg (neO no)]
        have hbad : badT w0 ρ t = ts.flatMap (badT w0 ρ) := by
          rcases hway with ⟨t1, rfl, rfl, rfl⟩ | ⟨t1, t2, rfl, ho, rfl⟩
          · have hN : hasN w0 t1 = true := hN
            unfold badT
            rw [if_pos hN]
            simp
          · rw [hasN_op] at hN
            unfold badT
            rw [if_pos hN]
            simp
        have hlin : ∀ t' ∈ ts, linT w0 t' = true := by
          rcases hway with ⟨t1, rfl, rfl, rfl⟩ | ⟨t1, t2, rfl, ho, rfl⟩
          · have hN : hasN w0 t1 = true := hN
            unfold linT at hL
            rw [hN] at hL
            intro t' ht
            rw [List.mem_singleton.mp ht]
            exact hL
          · rw [hasN_op] at hN
            unfold linT at hL
            rw [hN] at hL
            simp only [Bool.not_true, Bool.false_or, Bool.and_eq_true] at hL
            intro t' ht
            rcases List.mem_cons.mp ht with z | z
            · rw [z]; exact hL.1.2.1
            · rw [List.mem_singleton.mp z]; exact hL.1.2.2
        have hnames : ∀ t' ∈ ts, ∀ u ∈ nmsT t', u ∈ nmsT t := fun t' ht u hu => by rw [hnm]; exact List.mem_flatMap.mpr ⟨t', ht, hu⟩
        obtain ⟨cx1, cx2⟩ := cut_tail (x := V.str o) fewx
        refine ⟨1, rfl, b, _, rfl, SqT.of e1, cx2, fun tp ntp => ⟨tp, rfl, ⟨_, SqT.of upd_same⟩, fun D nD => ?_⟩⟩
        rw [cx1] at nD ⊢
        have s2 := s1.trans (same_new (o := .tup xs) ntp)
        have htp : upd H1 tp (.tup xs) tp = some (.tup xs) := upd_same
        generalize upd H1 tp (.tup xs) = H2 at s2 htp nD
        have nD0 := none_back s2 nD
        refine lc_tup (a := tp) (xs := xs) (fun i H' => ∃ as : List Addr, H' D = some (.lst (as.map V.ref)) ∧ LnAll (lineT w0 ρ) H' as (ts.take i) ∧ (ts.take i).flatMap (badT w0 ρ) = [] ∧ Off D H2 H') ⟨[], upd_same, (by rw [List.take_zero]; trivial), (by rw [List.take_zero] <;> rfl), fun b o n h => by rw [upd_ne n]; exact h⟩
          (fun i H' hi ⟨as, p1, p2, p3, p4⟩ => SqT.of (p4 _ _ (ne_of_none htp nD) htp)) ?turn ?done
        case turn =>
          rintro i x H3 hi ⟨as, p1, p2, p3, p4⟩
          refine ⟨rfl, ?_⟩
          obtain ⟨t', et, lt', d', nk', few'⟩ := hx i x hi
          have hm : t' ∈ ts := List.mem_of_getElem? et
          have S3 := p4.same s2 nD0
          have cut : ts.flatMap (badT w0 ρ) = badT w0 ρ t' ++ (ts.drop (i + 1)).flatMap (badT w0 ρ) := by
            have e2 : ts.flatMap (badT w0 ρ) = (ts.take (i + 1)).flatMap (badT w0 ρ) ++ (ts.drop (i + 1)).flatMap (badT w0 ρ) := by rw [← List.flatMap_append, List.take_append_drop]
            rw [e2, List.take_add_one, et, List.flatMap_append, p3]
            simp
          refine ⟨t', ρ, lt'.same S3, by omega, by omega, nk', by omega, hR.same S3, hB, hlin t' hm, fun u hu hw => hK u (hnames t' hm u hu) hw, ?_⟩
          cases hb : badT w0 ρ t' with
          | cons x0 r0 =>
            rw [hbad, cut, hb] at q
            exact fun d2 H4 sm e => q d2 H4 (S3.trans sm) e
          | nil =>
            intro a H4 s4 ha
            have kk : ∀ z ys, H4 z = some (.tup ys) → upd H4 D (.lst (as.map V.ref ++ [.ref a])) z = some (.tup ys) := fun z ys h => by
              rw [upd_ne (ne_of h (s4 _ _ p1) fun z => nomatch z)]; exact h
            refine ⟨_, s4 _ _ p1, ?_, as ++ [a], by rw [upd_same, List.map_append] <;> rfl, ?_, ?_, fun c o n h => by rw [upd_ne n]; exact s4 _ _ (p4 c o n h)⟩
            · rw [List.length_map, p2.len, List.length_take]
              exact Nat.lt_of_le_of_lt (show _ ≤ 2 by omega) (by decide)
            · rw [List.take_add_one, et]
              exact LnAll.snoc (kk _ _ ha) (p2.on fun z ys h => kk z ys (s4 _ _ h))
            · rw [List.take_add_one, et, List.flatMap_append, p3]
              simp [hb]
        case done =>
          rintro H3 ⟨as, p1, p2, p3, p4⟩
          rw [List.take_of_length_le (by omega)] at p2 p3
          rw [hbad, p3] at q
          have S3 := p4.same s2 nD0
          have q : ∀ a H', Same H H' → H' a = some (.tup [.int (lineT w0 ρ t).1, .int (lineT w0 ρ t).2]) → Q (.ref a) H' := q
          refine ⟨b, _, 0, .str o, rfl, rfl, SqT.of (S3 _ _ e), atI_hd, rfl, ?_⟩
          show if decide (V.str o = V.str "minus") = true then _ else _
          rcases hway with ⟨t1, rfl, rfl, rfl⟩ | ⟨t1, t2, rfl, ho, rfl⟩
          · have hN : hasN w0 t1 = true := hN
            rw [if_pos (by decide +kernel)]
            obtain ⟨a0, rfl⟩ : ∃ a0, as = [a0] := List.length_eq_one_iff.mp p2.len
            have h0 := p2.1
            have el : lineT w0 ρ (.neg t1) = (-(lineT w0 ρ t1).1, -(lineT w0 ρ t1).2) := by
              show (if hasN w0 t1 then _ else _) = _
              rw [if_pos hN]
            rw [el] at q
            exact ⟨_, .ref a0, SqL.of p1, rfl, a0, _, 0, .int (lineT w0 ρ t1).1, rfl, rfl, SqT.of h0, rfl, _, .ref a0, SqL.of p1, rfl, a0, _, 1, .int (lineT w0 ρ t1).2, rfl, rfl, SqT.of h0, rfl, by show 2 ≤ sizeLine; decide, fun c nc => q c _ (S3.trans (same_new nc)) upd_same⟩
          · rw [hasN_op] at hN
            rw [if_neg (neO (ops_ne ho (by decide +kernel)))]
            obtain ⟨a0, a1, rfl⟩ := len_two (show as.length = 2 from p2.len)
            obtain ⟨h0, h1, _⟩ := p2
            have el : lineT w0 ρ (.op o t1 t2) = join2 o (lineT w0 ρ t1) (lineT w0 ρ t2) := by
              show (if hasN w0 t1 || hasN w0 t2 then _ else _) = _
              rw [if_pos hN]
            rw [el] at q
            have dd : max (dep t1) (dep t2) + 1 < 6 := hd6
            have l1 := line_lf (w := w0) hB t1
            have l2 := line_lf (w := w0) hB t2
            have l11 := lf_up l1.1 (show dep t1 ≤ 6 by omega)
            have l12 := lf_up l1.2 (show dep t1 ≤ 6 by omega)
            have l21 := lf_up l2.1 (show dep t2 ≤ 6 by omega)
            have l22 := lf_up l2.2 (show dep t2 ≤ 6 by omega)
            refine ⟨D, _, rfl, SqL.of p1, rfl, _, _, rfl, a0, _, rfl, SqT.of h0, rfl, _, _, rfl, _, _, rfl, rfl, _, _, rfl, a1, _, rfl, SqT.of h1, rfl, _, _, rfl, _, _, rfl, rfl, rfl, ?_⟩
            refine ⟨b, _, 0, .str o, rfl, rfl, SqT.of (S3 _ _ e), atI_hd, rfl, ?_⟩
            show if decide (V.str o = V.str "*") = true then _ else _
            by_cases hs : o = "*"
            · rw [if_pos (by rw [hs]; decide +kernel)]
              unfold join2 at q
              rw [if_pos hs] at q
              exact ⟨lf_mulW l11 l22 (by decide), lf_mulW l21 l12 (by decide), lf_mulW l12 l22 (by decide), by show 2 ≤ sizeLine; decide, fun c nc => q c _ (S3.trans (same_new nc)) upd_same⟩
            · rw [if_neg (neO hs)]
              unfold join2 at q
              rw [if_neg hs] at q
              refine ⟨fun x H' => x = .int (if o = "+" then 1 else -1) ∧ H' = H3, ?_, ?_⟩
              · refine ⟨b, _, 0, .str o, rfl, rfl, SqT.of (S3 _ _ e), atI_hd, rfl, ?_⟩
                show if decide (V.str o = V.str "+") = true then _ else _
                by_cases hp : o = "+"
                · rw [if_pos (by rw [hp]; decide +kernel), if_pos hp]
                  exact ⟨rfl, rfl⟩
                · rw [if_neg (neO hp), if_neg hp]
                  exact ⟨rfl, rfl⟩
              · rintro _ _ ⟨rfl, rfl⟩
                have sg : LF 6 (if o = "+" then (1 : Int) else -1) := by
                  split <;> exact lf_small ⟨by decide, by decide⟩ _
                exact ⟨lf_mulW sg l21 (by decide), lf_mulW sg l22 (by decide), by show 2 ≤ sizeLine; decide, fun c nc => q c _ (S3.trans (same_new nc)) upd_same⟩
    · exact h.elim
end
end Rk

set_option Elab.async false
set_option linter.all false
set_option maxRecDepth 100000
set_option maxHeartbeats 4000000
set_option pp.maxSteps 200
namespace Rk
open PySem PySem.Spec PyProof.Rows L2 CL Fm LcR
/-! Formula.linear -/
def spLinear (CF Cn Cl Ca : Addr) : Sp := fun vs H Q E => match vs with
  | [.ref a, .str w, .ref d] => ∃ dx v l s p t, ∃ ns : List Str, ∃ ρ : Str → Option Rs, H a = some (.ins CF dx (frF v l s p)) ∧ H l = some (.lst (ns.map V.str)) ∧ Tr H v t ∧ dep t < 6 ∧ NOk t ∧ (nmsT t).length ≤ 100 ∧ ResD H d ρ ∧ RB ρ ∧ (∀ u ∈ nmsT t, u ∈ ns) ∧
      (match goneB (fun u => (ρ u).isSome || decide (u ∈ [w])) ns with
      | some u => nerr Cn u H E
      | none => if linT w t = true then (match badT w ρ t with
          | x :: _ => fwerr Ca x H E
          | [] => ∀ a' H', Same H H' → H' a' = some (.tup [.int (lineT w ρ t).1, .int (lineT w ρ t).2]) → Q (.ref a') H') else nerr Cl w H E)
  | _ => False
theorem goneB_all {κ : Str → Bool} {ns : List Str} (h : goneB κ ns = none) : ∀ u ∈ ns, κ u = true := fun u hu => by
  have := List.find?_eq_none.mp h u hu
  cases hz : κ u with
  | true => rfl
  | false => rw [hz] at this; exact absurd rfl this
structure Tli (P : Program) (w : World) (K : PySem.W.Frag) (mg : Str → Option Value) (base : Heap) (CF Cn Cl Ca : Addr) : Prop extends Te P w K mg base CF Cn where
  nk : MetV1 P w K mg base (L2.CX P w) 5 CF "need_known" ["self", "known", "more"] (spNk CF Cn)
  li : ErrC P w K mg base "NotLinear" Cl "name"
abbrev sLinear : Stmt := inClass (topS 21) 4
abbrev nLinear : List Str := ["self", "name", "results"]
abbrev pLinear : List Str := ["self", "name", "results"]
theorem scLinear : FnScope nLinear pLinear (defScope sLinear) := ⟨rfl, rfl, rfl, by decide +kernel, rfl, by decide +kernel, by decide +kernel⟩
section
variable {P : Program} {w : World} {K : PySem.W.Frag} {mg : Str → Option Value} {base : Heap} {CF Cn Cl Ca : Addr}
theorem ok_linear {fn : Addr} {fd : FuncData} (T : Tli P w K mg base CF Cn Cl Ca) (DL : DefOk P w K mg base CX0 14 "is_linear" pLin (spLin 6)) (DLn : DefOk P w K mg base (L2.CX P w) 15 "line_of" pLine (spLine Ca 6)) (F : Fun K "linear" "Formula.linear" sLinear fn fd) : FnOk P w K mg base (L2.CX P w) 111 fn fd pLinear (spLinear CF Cn Cl Ca) := by
  have TL := T.li
  refine F.okX scLinear (fun vs H Q E h => ?_) (fun cdv A outer s H vs Q E hr h => ?_)
  · unfold spLinear at h
    split at h
    · rfl
    · exact h.elim
  · have hu := hu_of hr
    refine ⟨_, (pss_cons (ps_expr (pe_mgV1 T.nk T.cl (passes_call (L2.takes_of rfl rfl rfl rfl) (fun _ _ _ _ h => h)) (Rm.of (n := 5) hr (by decide) (by decide)) (by decide) (cv 0) (pa_cons (cv 2) (pa_cons (cv 1) pa_nil))))
  (pss_cons (ps_if (pt_not (ct_val (pe_def DL hr (by decide) (pa_cons (pe_fld (cv 0) rfl) (pa_cons (cv 1) pa_nil)))))
  (pss_one (ps_raise1 TL rfl (hr.mono (by omega)) (L2.takes_of rfl rfl rfl rfl) (cv 1)))
  pss_nil)
  (pss_one (ps_ret (pe_defX DLn hr (by decide) (passes_call (L2.takes_of rfl rfl rfl rfl) (fun _ _ _ _ h => h)) (pa_cons (pe_fld (cv 0) rfl) (pa_cons (cv 1) (pa_cons (cv 2) pa_nil)))))))), ?_⟩
    unfold spLinear at h
    split at h
    · rename_i a w0 d
      obtain ⟨dx, v, l, s0, p, t, ns, ρ, ha, hl, tr, hd, nk, few, hR, hB, hn, q⟩ := h
      have lk : (frF v l s0 p).lookup ("need_known" : Str) = none := (frF_at v l s0 p).2.2.2.2.1
      refine ⟨a, dx, _, rfl, ha, lk, [.ref d], .str w0, rfl, fun m nm => ?_⟩
      have sm := same_new (o := .tup [V.str w0]) nm
      refine ⟨dx, v, l, s0, p, ns, [w0], fun u => (ρ u).isSome, sm _ _ ha, sm _ _ hl, (hR.same sm).kn, upd_same, ?_⟩
      cases hg : goneB (fun u => (ρ u).isSome || decide (u ∈ [w0])) ns with
      | some u =>
        rw [hg] at q
        exact fun d' H2 s2 e => q d' H2 (sm.trans s2) e
      | none =>
        rw [hg] at q
        have q : if linT w0 t = true then (match badT w0 ρ t with
          | x :: _ => fwerr Ca x H E
          | [] => ∀ a' H', Same H H' → H' a' = some (.tup [.int (lineT w0 ρ t).1, .int (lineT w0 ρ t).2]) → Q (.ref a') H') else nerr Cl w0 H E := q
        intro H1 s1
        have S := sm.trans s1
        refine ⟨a, CF, dx, _, _, rfl, S _ _ ha, T.cl, T.f1, (frF_at v l s0 p).1, t, tr_ltr (tr.same S), hd, hd, nk, few, fun H2 s2 => ?_⟩
        have S2 := S.trans s2
        cases hL : linT w0 t with
        | false =>
          show if (!false) = true then _ else _
          rw [if_pos (by decide)]
          rw [hL, if_neg Bool.false_ne_true] at q
          exact fun d' H3 _ s3 e => q d' H3 (S2.trans s3) e
        | true =>
          show if (!true) = true then _ else _
          rw [if_neg (by decide)]
          rw [hL, if_pos rfl] at q
          refine ⟨a, CF, dx, _, _, rfl, S2 _ _ ha, T.cl, T.f1, (frF_at v l s0 p).1, t, ρ, tr_ltr (tr.same S2), hd, hd, nk, few, hR.same S2, hB, hL, fun u hu hw => ?_, ?_⟩
          · have z := goneB_all hg u (hn u hu)
            cases hz : ρ u with
            | some r => exact ⟨r, rfl⟩
            | none =>
              have z : ((ρ u).isSome || decide (u ∈ [w0])) = true := z
              rw [hz, decide_eq_false (fun k => hw (List.mem_singleton.mp k))] at z
              cases z
          · cases hb : badT w0 ρ t with
            | cons x r =>
              rw [hb] at q
              exact fun d' H3 s3 e => q d' H3 (S2.trans s3) e
            | nil =>
              rw [hb] at q
              exact fun a' H3 s3 e => q a' H3 (S2.trans s3) e
    · exact h.elim
end
end Rk

set_option Elab.async false
set_option linter.all false
set_option maxRecDepth 100000
set_option maxHeartbeats 4000000
set_option pp.maxSteps 200
namespace Rk
open PySem PySem.Spec PyProof.Rows L2 CL Fm LcR
/-! trees as data -/
def tD : T → PyData
  | .num n => .tuple [.str "number", .int n]
  | .nam w => .tuple [.str "name", .str w]
  | .neg t => .tuple [.str "minus", tD t]
  | .op o a b => .tuple [.str o, tD a, tD b]
theorem tD_dp {K : PySem.W.Frag} {H : Hp} {v : V} {t : T} (h : LTr H v t) : Dp K H v (tD t) := by
  induction h with
  | num e => exact .tup (SqT.of e) (.cons (.str _) (.cons (.int _) .nil))
  | nam e => exact .tup (SqT.of e) (.cons (.str _) (.cons (.str _) .nil))
  | neg e _ i => exact .tup (SqT.of e) (.cons (.str _) (.cons i .nil))
  | op e _ _ i j => exact .tup (SqT.of e) (.cons (.str _) (.cons i (.cons j .nil)))
theorem ops_so {o : Str} (h : o ∈ ops) : So o := by
  simp only [ops, List.mem_cons, List.not_mem_nil, or_false] at h
  rcases h with rfl | rfl | rfl | rfl | rfl | rfl <;> exact .lit _
theorem tD_ok : ∀ {t : T}, NOk t → (∀ u ∈ nmsT t, So u) → (tD t).canLay0 = true ∧ (tD t).depth ≤ dep t + 1
  | .num n, _, _ => by
    unfold tD
    simp only [PyData.canLay0, PyData.canLayAll0, PyData.depth, PyData.depthAll, (So.lit "number").ok]
    exact ⟨rfl, by show _ ≤ 0 + 1; decide⟩
  | .nam w, _, h => by
    unfold tD
    have := (h w (by simp [nmsT])).ok
    simp only [PyData.canLay0, PyData.canLayAll0, PyData.depth, PyData.depthAll, (So.lit "name").ok, this]
    exact ⟨rfl, by show _ ≤ 0 + 1; decide⟩
  | .neg t, k, h => by
    obtain ⟨i1, i2⟩ := tD_ok (t := t) k h
    unfold tD
    simp only [PyData.canLay0, PyData.canLayAll0, PyData.depth, PyData.depthAll, (So.lit "minus").ok, i1]
    refine ⟨rfl, ?_⟩
    show _ ≤ dep t + 1 + 1
    omega
  | .op o a b, k, h => by
    obtain ⟨i1, i2⟩ := tD_ok (t := a) k.2.1 fun u hu => h u (List.mem_append_left _ hu)
    obtain ⟨j1, j2⟩ := tD_ok (t := b) k.2.2 fun u hu => h u (List.mem_append_right _ hu)
    unfold tD
    simp only [PyData.canLay0, PyData.canLayAll0, PyData.depth, PyData.depthAll, (ops_so k.1).ok, i1, j1]
    refine ⟨rfl, ?_⟩
    show _ ≤ max (dep a) (dep b) + 1 + 1
    omega
theorem tDs_ok {n : Nat} : ∀ {ts : List T}, (∀ t ∈ ts, NOk t ∧ (∀ u ∈ nmsT t, So u) ∧ dep t ≤ n) → PyData.canLayAll0 (ts.map tD) = true ∧ PyData.depthAll (ts.map tD) ≤ n + 1
  | [], _ => ⟨rfl, Nat.zero_le _⟩
  | t :: r, h => by
    obtain ⟨i1, i2⟩ := tDs_ok (ts := r) fun x hx => h x (List.mem_cons_of_mem _ hx)
    obtain ⟨h1, h2, h3⟩ := h t List.mem_cons_self
    obtain ⟨j1, j2⟩ := tD_ok h1 h2
    rw [List.map_cons]
    simp only [PyData.canLayAll0, PyData.depthAll, i1, j1]
    refine ⟨rfl, ?_⟩
    omega
theorem tDs_sh {ts : List T} (h : ∀ t ∈ ts, NOk t ∧ (∀ u ∈ nmsT t, So u) ∧ dep t ≤ 10) : SeqAt.shaped (.list (ts.map tD)) = true := by
  obtain ⟨a, b⟩ := tDs_ok h
  simp only [SeqAt.shaped, PyData.canLay0, PyData.depth, a, Bool.true_and]
  exact decide_eq_true (by omega)
theorem tDs_nil {ts : List T} : PyData.eqv (.list (ts.map tD)) (.list []) = decide (ts = []) := by
  cases ts with
  | nil => rfl
  | cons b r => rfl
/-- several trees -/
def TAll (H : Hp) : List V → List T → Prop
  | [], [] => True
  | v :: vs, t :: ts => LTr H v t ∧ TAll H vs ts
  | _, _ => False
theorem TAll.on {H H' : Hp} (k : ∀ b xs, H b = some (.tup xs) → H' b = some (.tup xs)) : ∀ {vs : List V} {ts : List T}, TAll H vs ts → TAll H' vs ts
  | [], [], _ => trivial
  | _ :: _, _ :: _, h => ⟨h.1.on k, TAll.on k h.2⟩
theorem TAll.len {H : Hp} : ∀ {vs : List V} {ts : List T}, TAll H vs ts → vs.length = ts.length
  | [], [], _ => rfl
  | _ :: _, _ :: _, h => by rw [List.length_cons, List.length_cons, TAll.len h.2]
theorem TAll.snoc {H : Hp} {v : V} {t : T} (hv : LTr H v t) : ∀ {vs : List V} {ts : List T}, TAll H vs ts → TAll H (vs ++ [v]) (ts ++ [t])
  | [], [], _ => ⟨hv, trivial⟩
  | _ :: _, _ :: _, h => ⟨h.1, TAll.snoc hv h.2⟩
theorem TAll.dp {K : PySem.W.Frag} {H : Hp} : ∀ {vs : List V} {ts : List T}, TAll H vs ts → DpAll K H vs (ts.map tD)
  | [], [], _ => .nil
  | _ :: _, _ :: _, h => .cons (tD_dp h.1) (TAll.dp h.2)
theorem filter_nil {α : Type} {f : α → Bool} {l : List α} : decide (l.filter (fun x => !f x) = []) = l.all f := by
  rw [Bool.eq_iff_iff, decide_eq_true_eq, List.filter_eq_nil_iff, List.all_eq_true]
  constructor
  · intro h x hx
    have := h x hx
    cases hz : f x with
    | true => rfl
    | false => rw [hz] at this; exact absurd rfl this
  · intro h x hx
    rw [h x hx]
    decide
/-- whether it is a line, as the law has it -/
def spIsL (n : Nat) : Sp := fun vs H Q _ => match vs with
  | [v, .str w] => ∃ t, LTr H v t ∧ dep t < n ∧ dep t < 6 ∧ NOk t ∧ (∀ u ∈ nmsT t, So u) ∧ ∀ H', Same H H' → Q (.bl (linT w t)) H'
  | _ => False
theorem inV_great {o : Str} : inV (.str o) [.str "//", .str "min", .str "max"] = decide (o = "//" ∨ o = "min" ∨ o = "max") := by
  have := inV_map (w := o) (les := [("//" : Str), "min", "max"])
  refine Eq.trans this ?_
  simp
abbrev sIsL : Stmt := topS 37
abbrev nIsL : List Str := ["_law_tree_here", "_law_word", "_law_part"]
abbrev pIsL : List Str := ["_law_tree_here", "_law_word"]
theorem scIsL : FnScope nIsL pIsL (defScope sIsL) := ⟨rfl, rfl, rfl, by decide +kernel, rfl, by decide +kernel, by decide +kernel⟩
section
variable {P : Program} {w : World} {K : PySem.W.Frag} {mg : Str → Option Value} {base : Heap}
theorem ok_isl (DRe : DefOk P w K mg base CX0 7 "_law_reads" pReads (spReads 6)) (F : FunAt K mg "_law_is_line" sIsL pIsL) : ∀ n, DefOk P w K mg base CX0 (8 + n) "_law_is_line" pIsL (spIsL n) := by
  refine F.rec_ scIsL (fun vs H Q E h => ?_) (fun n vs H Q E h => ?_) (fun n ih f cdv A outer s H vs Q E hr h => ?_)
  · unfold spIsL at h
    split at h
    · obtain ⟨t, _, h1, _⟩ := h
      omega
    · exact h.elim
  · unfold spIsL at h
    split at h
    · rfl
    · exact h.elim
  · have hu := hu_of hr
    refine ⟨_, (pss_cons (ps_if (pt_cut (PW.pt (pw_or (ct_cmp op_notIn_seq (cv 1) (pe_def DRe hr (by omega) (pa_cons (cv 0) pa_nil)) (by rfl)) (pw_or1 (ct_cmp op_eq (pe_ix ix_tup (cv 0) pe_int (fun _ _ => rfl)) pe_str (nomark _))))))
  (pss_one (ps_ret pe_bl))
  pss_nil)
  (pss_cons (ps_if (pt_cut (PW.pt (pw_or (ct_cmp op_in_seq (pe_ix ix_tup (cv 0) pe_int (fun _ _ => rfl)) (pe_tup (pa_cons pe_str (pa_cons pe_str (pa_cons pe_str pa_nil)))) (by rfl)) (pw_or1 (ct_cmp (op_neD hr.units) (pe_lc (own := [("_law_part", 2)]) (g := gName 2) (by rfl) scIsL.nd (pi_tup (pe_slice sl_tup (cv 0) (po_some pe_int) po_none)) (blkOk_by (N := nIsL) (sc := (defScope sIsL)) (own := [("_law_part", 2)]) (by decide +kernel)) (fun _ _ _ _ _ => pg_name (i := 2) scIsL.nd rfl (Or.inl rfl)) (fun _ _ _ _ _ => (pts_one (pt_not (ct_val (pe_def ih hr (by omega) (pa_cons (cv 2) (pa_cons (cv 1) pa_nil))))))) (fun _ _ _ _ _ => (cv 2))) (pe_lst pa_nil) (nomark _))))))
  (pss_one (ps_ret pe_bl))
  pss_nil)
  (pss_one (ps_ret (c_or (pe_cmpR op_ne (pe_ix ix_tup (cv 0) pe_int (fun _ _ => rfl)) pe_str (nomark _)) (pe_one (pe_cmpR (op_neD hr.units) (pe_lc (own := [("_law_part", 2)]) (g := gName 2) (by rfl) scIsL.nd (pi_tup (pe_slice sl_tup (cv 0) (po_some pe_int) po_none)) (blkOk_by (N := nIsL) (sc := (defScope sIsL)) (own := [("_law_part", 2)]) (by decide +kernel)) (fun _ _ _ _ _ => pg_name (i := 2) scIsL.nd rfl (Or.inl rfl)) (fun _ _ _ _ _ => (pts_one (ct_cmp (show OpR _ (compareOp .NotIn) (rIn K true) from op_notIn_seq) (cv 1) (pe_def DRe hr (by omega) (pa_cons (cv 2) pa_nil)) (by rfl)))) (fun _ _ _ _ _ => (cv 2))) (pe_lst pa_nil) (nomark _)))))))), ?_⟩
    unfold spIsL at h
    split at h
    · rename_i v w0
      obtain ⟨t, lt, hd, hd6, nk, hso, q⟩ := h
      obtain ⟨b, o, xs, rfl, e⟩ : ∃ (b : Addr) (o : Str) (xs : List V), v = .ref b ∧ H b = some (.tup (.str o :: xs)) := by
        cases lt with
        | num e => exact ⟨_, _, _, rfl, e⟩
        | nam e => exact ⟨_, _, _, rfl, e⟩
        | neg e _ => exact ⟨_, _, _, rfl, e⟩
        | op e _ _ => exact ⟨_, _, _, rfl, e⟩
      have onam : o = "name" ↔ ∃ w, t = .nam w := by
        cases lt with
        | num e2 => rw [e] at e2; cases e2; exact ⟨fun z => absurd z (by decide +kernel), fun ⟨_, z⟩ => nomatch z⟩
        | nam e2 => rw [e] at e2; cases e2; exact ⟨fun _ => ⟨_, rfl⟩, fun _ => rfl⟩
        | neg e2 _ => rw [e] at e2; cases e2; exact ⟨fun z => absurd z (by decide +kernel), fun ⟨_, z⟩ => nomatch z⟩
        | op e2 _ _ => rw [e] at e2; cases e2; exact ⟨fun z => absurd (z ▸ nk.1) (by decide +kernel), fun ⟨_, z⟩ => nomatch z⟩
      refine ⟨fun c H1 => Same H H1 ∧ c = (!hasN w0 t || decide (o = "name")), ?first, ?second⟩
      case first =>
        refine ⟨t, lt, hd6, by omega, nk, fun l H1 nl hl s1 => ⟨l, _, rfl, .inl (SqL.of hl), rfl, flat_strs _, ?_⟩⟩
        rw [inV_map]
        show if (!hasN w0 t) = true then _ else _
        cases hN : hasN w0 t with
        | false =>
          rw [if_pos (by decide)]
          exact ⟨s1, rfl⟩
        | true =>
          rw [if_neg (by decide)]
          exact ⟨b, _, 0, .str o, rfl, rfl, SqT.of (s1 _ _ e), atI_hd, rfl, s1, by
            show decide (V.str o = V.str "name") = _
            rw [Bool.not_true, Bool.false_or, Bool.eq_iff_iff, decide_eq_true_eq, decide_eq_true_eq]
            exact ⟨fun z => V.str.inj z, fun z => by rw [z]⟩⟩
      case second =>
        rintro c H1 ⟨s1, rfl⟩
        refine iteB (fun h => ?_) (fun h => ?_)
        · have : linT w0 t = true := by
            rcases Bool.or_eq_true _ _ ▸ h with h | h
            · refine linT_free ?_
              cases hz : hasN w0 t with
              | false => rfl
              | true => rw [hz] at h; cases h
            · obtain ⟨w1, rfl⟩ := onam.mp (of_decide_eq_true h)
              rfl
          rw [← this]
          exact q H1 s1
        · have hoN : o ≠ "name" := fun z => by rw [decide_eq_true z, Bool.or_true] at h; cases h
          have hN : hasN w0 t = true := by
            cases hz : hasN w0 t with
            | true => rfl
            | false => rw [hz] at h; cases h
          obtain ⟨b', o', xs', ts, eb, e', no, nu, fewx, hl, hnm, hx, hway⟩ := lt.inner nk (fun w z => hoN (onam.mpr ⟨w, z⟩)) (fun n z => by rw [z] at hN; cases hN)
          cases eb
          rw [e] at e'
          cases e'
          have e1 := s1 _ _ e
          obtain ⟨cx1, cx2⟩ := cut_tail (x := V.str o) fewx
          have hnames : ∀ t' ∈ ts, ∀ u ∈ nmsT t', So u := fun t' ht u hu => hso u (by rw [hnm]; exact List.mem_flatMap.mpr ⟨t', ht, hu⟩)
          have htx : ∀ t' ∈ ts, NOk t' ∧ (∀ u ∈ nmsT t', So u) ∧ dep t' ≤ 10 := fun t' ht => by
            obtain ⟨i, hi, ei⟩ := List.mem_iff_getElem.mp ht
            obtain ⟨t2, et, _, d2, k2, _⟩ := hx i (xs[i]'(by omega)) (List.getElem?_eq_getElem _)
            rw [List.getElem?_eq_getElem hi, ei] at et
            cases et
            exact ⟨k2, hnames t' ht, by omega⟩
          have hsum : linT w0 t = (!(decide (o = "//" ∨ o = "min" ∨ o = "max") || !ts.all (linT w0)) && (decide (o ≠ "*") || !ts.all (hasN w0))) := by
            rcases hway with ⟨t1, rfl, rfl, rfl⟩ | ⟨t1, t2, rfl, ho, rfl⟩
            · have hN : hasN w0 t1 = true := hN
              unfold linT
              rw [hN, decide_eq_false (p := ("minus" : Str) = "//" ∨ _) (by decide +kernel), decide_eq_true (p := ("minus" : Str) ≠ "*") (by decide +kernel)]
              simp
            · rw [hasN_op] at hN
              unfold linT
              rw [hN]
              have hm : decide (o = "//" ∨ o = "min" ∨ o = "max") = !lin3 o := by
                unfold lin3
                simp only [ops, List.mem_cons, List.not_mem_nil, or_false] at ho
                rcases ho with rfl | rfl | rfl | rfl | rfl | rfl <;> decide +kernel
              rw [hm]
              simp
          refine ⟨fun c H2 => Same H H2 ∧ c = (decide (o = "//" ∨ o = "min" ∨ o = "max") || !ts.all (linT w0)), ?test, ?rest⟩
          case test =>
            refine ⟨b, _, 0, .str o, rfl, rfl, SqT.of e1, atI_hd, by show 3 ≤ sizeLine; decide, fun tq ntq => ⟨tq, _, rfl, .inr (SqT.of upd_same), rfl, rfl, ?_⟩⟩
            have s2 := s1.trans (same_new (o := .tup [V.str "//", .str "min", .str "max"]) ntq)
            generalize upd H1 tq (.tup [V.str "//", .str "min", .str "max"]) = H2 at s2
            rw [inV_great]
            by_cases hm : o = "//" ∨ o = "min" ∨ o = "max"
            · rw [decide_eq_true hm]
              show if true = true then _ else _
              rw [if_pos rfl]
              exact ⟨s2, by rw [Bool.true_or]⟩
            · rw [decide_eq_false hm]
              show if false = true then _ else _
              rw [if_neg Bool.false_ne_true]
              refine ⟨1, rfl, b, _, rfl, SqT.of (s2 _ _ e), cx2, fun tp ntp => ⟨tp, rfl, ⟨_, SqT.of upd_same⟩, fun D nD => ?_⟩⟩
              rw [cx1] at nD ⊢
              have s3 := s2.trans (same_new (o := .tup xs) ntp)
              have htp : upd H2 tp (.tup xs) tp = some (.tup xs) := upd_same
              generalize upd H2 tp (.tup xs) = H3 at s3 htp nD
              refine lc_tup (a := tp) (xs := xs) (fun i H' => ∃ vs, H' D = some (.lst vs) ∧ TAll H' vs ((ts.take i).filter fun t => !linT w0 t) ∧ Off D H3 H') ⟨[], upd_same, (by rw [List.take_zero]; trivial), fun b o n h => by rw [upd_ne n]; exact h⟩
                (fun i H' hi ⟨vs, p1, p2, p3⟩ => SqT.of (p3 _ _ (ne_of_none htp nD) htp)) ?turn ?done
              case turn =>
                rintro i x H4 hi ⟨vs, p1, p2, p3⟩
                refine ⟨rfl, ?_⟩
                obtain ⟨t', et, lt', d', nk', few'⟩ := hx i x hi
                have S4 := p3.same s3 (none_back s3 nD)
                refine ⟨t', lt'.same S4, by omega, by omega, nk', hnames t' (List.mem_of_getElem? et), fun H5 s5 => ?_⟩
                have ap : (ts.take (i + 1)).filter (fun t => !linT w0 t) = (ts.take i).filter (fun t => !linT w0 t) ++ if linT w0 t' then [] else [t'] := by
                  rw [List.take_add_one, et, List.filter_append]
                  cases hz : linT w0 t' <;> simp [hz]
                cases hL : linT w0 t' with
                | true =>
                  show if (!true) = true then _ else _
                  rw [if_neg (by decide)]
                  refine ⟨vs, s5 _ _ p1, ?_, fun c o n h => s5 _ _ (p3 c o n h)⟩
                  rw [ap, hL, if_pos rfl, List.append_nil]
                  exact p2.on fun c ys h => s5 _ _ h
                | false =>
                  show if (!false) = true then _ else _
                  rw [if_pos (by decide)]
                  have kk : ∀ z ys, H5 z = some (.tup ys) → upd H5 D (.lst (vs ++ [x])) z = some (.tup ys) := fun z ys h => by
                    rw [upd_ne (ne_of h (s5 _ _ p1) fun z => nomatch z)]; exact h
                  refine ⟨vs, s5 _ _ p1, ?_, vs ++ [x], upd_same, ?_, fun c o n h => by rw [upd_ne n]; exact s5 _ _ (p3 c o n h)⟩
                  · rw [p2.len]
                    refine Nat.lt_of_le_of_lt (show _ ≤ 2 from ?_) (by decide)
                    refine Nat.le_trans (List.length_filter_le _ _) ?_
                    rw [List.length_take]
                    omega
                  · rw [ap, hL, if_neg Bool.false_ne_true]
                    exact TAll.snoc ((lt'.same S4).on fun c ys h => kk c ys (s5 _ _ h)) (p2.on fun c ys h => kk c ys (s5 _ _ h))
              case done =>
                rintro H4 ⟨vs, p1, p2, p3⟩
                rw [List.take_of_length_le (by omega)] at p2
                have S4 := p3.same s3 (none_back s3 nD)
                refine ⟨by show 0 ≤ sizeLine; decide, fun z nz => ?_⟩
                have sz := same_new (o := .lst []) nz
                refine ⟨.list ((ts.filter fun t => !linT w0 t).map tD), .list [], .lst (SqL.of (sz _ _ p1)) (TAll.dp (p2.on fun c ys h => sz _ _ h)), .lst (SqL.of upd_same) .nil, tDs_sh (fun t' ht => htx t' (List.mem_filter.mp ht).1), by rfl, ?_⟩
                rw [tDs_nil, filter_nil]
                exact ⟨S4.trans sz, by rw [Bool.false_or]⟩
          case rest =>
            rintro c H2 ⟨s2, rfl⟩
            refine iteB (fun h2 => ?_) (fun h2 => ?_)
            · have : linT w0 t = false := by
                rw [hsum, h2] <;> rfl
              rw [← this]
              exact q H2 s2
            · rw [h2, Bool.not_false, Bool.true_and] at hsum
              rw [hsum] at q
              refine ⟨b, _, 0, .str o, rfl, rfl, SqT.of (s2 _ _ e), atI_hd, rfl, ?_⟩
              show if (!decide (V.str o = V.str "*")) = true then _ else _
              by_cases ho : o = "*"
              · rw [if_neg (by rw [ho]; decide +kernel)]
                rw [show decide (o ≠ "*") = false from decide_eq_false fun z => z ho, Bool.false_or] at q
                refine ⟨1, rfl, b, _, rfl, SqT.of (s2 _ _ e), cx2, fun tp ntp => ⟨tp, rfl, ⟨_, SqT.of upd_same⟩, fun D nD => ?_⟩⟩
                rw [cx1] at nD ⊢
                have s3 := s2.trans (same_new (o := .tup xs) ntp)
                have htp : upd H2 tp (.tup xs) tp = some (.tup xs) := upd_same
                generalize upd H2 tp (.tup xs) = H3 at s3 htp nD
                refine lc_tup (a := tp) (xs := xs) (fun i H' => ∃ vs, H' D = some (.lst vs) ∧ TAll H' vs ((ts.take i).filter fun t => !hasN w0 t) ∧ Off D H3 H') ⟨[], upd_same, (by rw [List.take_zero]; trivial), fun b o n h => by rw [upd_ne n]; exact h⟩
                  (fun i H' hi ⟨vs, p1, p2, p3⟩ => SqT.of (p3 _ _ (ne_of_none htp nD) htp)) ?turn2 ?done2
                case turn2 =>
                  rintro i x H4 hi ⟨vs, p1, p2, p3⟩
                  refine ⟨rfl, ?_⟩
                  obtain ⟨t', et, lt', d', nk', few'⟩ := hx i x hi
                  have S4 := p3.same s3 (none_back s3 nD)
                  refine ⟨t', lt'.same S4, by omega, by omega, nk', fun l H5 nl hl5 s5 => ⟨l, _, rfl, .inl (SqL.of hl5), rfl, flat_strs _, ?_⟩⟩
                  rw [inV_map]
                  have ap : (ts.take (i + 1)).filter (fun t => !hasN w0 t) = (ts.take i).filter (fun t => !hasN w0 t) ++ if hasN w0 t' then [] else [t'] := by
                    rw [List.take_add_one, et, List.filter_append]
                    cases hz : hasN w0 t' <;> simp [hz]
                  show if (!hasN w0 t') = true then _ else _
                  cases hL : hasN w0 t' with
                  | true =>
                    rw [if_neg (by decide)]
                    refine ⟨vs, s5 _ _ p1, ?_, fun c o n h => s5 _ _ (p3 c o n h)⟩
                    rw [ap, hL, if_pos rfl, List.append_nil]
                    exact p2.on fun c ys h => s5 _ _ h
                  | false =>
                    rw [if_pos (by decide)]
                    have kk : ∀ z ys, H5 z = some (.tup ys) → upd H5 D (.lst (vs ++ [x])) z = some (.tup ys) := fun z ys h => by
                      rw [upd_ne (ne_of h (s5 _ _ p1) fun z => nomatch z)]; exact h
                    refine ⟨vs, s5 _ _ p1, ?_, vs ++ [x], upd_same, ?_, fun c o n h => by rw [upd_ne n]; exact s5 _ _ (p3 c o n h)⟩
                    · rw [p2.len]
                      refine Nat.lt_of_le_of_lt (show _ ≤ 2 from ?_) (by decide)
                      refine Nat.le_trans (List.length_filter_le _ _) ?_
                      rw [List.length_take]
                      omega
                    · rw [ap, hL, if_neg Bool.false_ne_true]
                      exact TAll.snoc ((lt'.same S4).on fun c ys h => kk c ys (s5 _ _ h)) (p2.on fun c ys h => kk c ys (s5 _ _ h))
                case done2 =>
                  rintro H4 ⟨vs, p1, p2, p3⟩
                  rw [List.take_of_length_le (by omega)] at p2
                  have S4 := p3.same s3 (none_back s3 nD)
                  refine ⟨by show 0 ≤ sizeLine; decide, fun z nz => ?_⟩
                  have sz := same_new (o := .lst []) nz
                  refine ⟨.list ((ts.filter fun t => !hasN w0 t).map tD), .list [], .lst (SqL.of (sz _ _ p1)) (TAll.dp (p2.on fun c ys h => sz _ _ h)), .lst (SqL.of upd_same) .nil, tDs_sh (fun t' ht => htx t' (List.mem_filter.mp ht).1), by rfl, ?_⟩
                  rw [tDs_nil, filter_nil]
                  exact q _ (S4.trans sz)
              · rw [if_pos (by rw [decide_eq_false (fun z => ho (V.str.inj z))] <;> rfl)]
                rw [show decide (o ≠ "*") = true from decide_eq_true ho, Bool.true_or] at q
                exact q H2 s2
    · exact h.elim
end
end Rk

set_option Elab.async false
set_option linter.all false
set_option maxRecDepth 100000
set_option maxHeartbeats 4000000
set_option pp.maxSteps 200
namespace Rk
open PySem PySem.Spec PyProof.Rows L2 CL Fm LcR
theorem badT_len {w : Str} {ρ : Str → Option Rs} : ∀ t : T, (badT w ρ t).length ≤ 2 ^ dep t := by
  have one : ∀ r : Rs, (failR r).length ≤ 1 := fun r => by cases r <;> first | exact Nat.le_refl _ | exact Nat.zero_le _
  intro t
  induction t with
  | num n => exact one _
  | nam v =>
    unfold badT
    split
    · exact Nat.zero_le _
    · exact one _
  | neg t ih =>
    show _ ≤ 2 ^ (dep t + 1)
    unfold badT
    have := Nat.pow_pos (n := dep t) (show 0 < 2 by decide)
    rw [Nat.pow_succ]
    split
    · omega
    · have := one (Fm.resT ρ (.neg t)); omega
  | op o a b iha ihb =>
    show _ ≤ 2 ^ (max (dep a) (dep b) + 1)
    unfold badT
    have g1 : 2 ^ dep a ≤ 2 ^ max (dep a) (dep b) := Nat.pow_le_pow_right (by decide) (Nat.le_max_left _ _)
    have g2 : 2 ^ dep b ≤ 2 ^ max (dep a) (dep b) := Nat.pow_le_pow_right (by decide) (Nat.le_max_right _ _)
    have := Nat.pow_pos (n := dep a) (show 0 < 2 by decide)
    rw [Nat.pow_succ]
    split
    · rw [List.length_append]; omega
    · have := one (Fm.resT ρ (.op o a b)); omega
/-- what failed, as the law has it -/
def spFls (n : Nat) : Sp := fun vs H Q _ => match vs with
  | [v, .str w, .ref d] => ∃ t, ∃ ρ : Str → Option Rs, LTr H v t ∧ dep t < n ∧ dep t < 6 ∧ NOk t ∧ ResD H d ρ ∧ RB ρ ∧ RW ρ ∧ (∀ u ∈ nmsT t, ∃ r, ρ u = some r) ∧ ∀ l H', H l = none → H' l = some (.lst ((badT w ρ t).map V.str)) → Same H H' → Q (.ref l) H'
  | _ => False
abbrev sFls : Stmt := topS 38
abbrev nFls : List Str := ["_law_tree_here", "_law_word", "_law_results_here", "_law_found", "_law_failures_here", "_law_part"]
abbrev pFls : List Str := ["_law_tree_here", "_law_word", "_law_results_here"]
theorem scFls : FnScope nFls pFls (defScope sFls) := ⟨rfl, rfl, rfl, by decide +kernel, rfl, by decide +kernel, by decide +kernel⟩
section
variable {P : Program} {w : World} {K : PySem.W.Frag} {mg : Str → Option Value} {base : Heap}
theorem ok_fls (DRe : DefOk P w K mg base CX0 7 "_law_reads" pReads (spReads 6)) (DW : DefOk P w K mg base CX0 10 "_law_worth" pWorth (spWorth 6)) (F : FunAt K mg "_law_failures" sFls pFls) : ∀ n, DefOk P w K mg base CX0 (11 + n) "_law_failures" pFls (spFls n) := by
  refine F.rec_ scFls (fun vs H Q E h => ?_) (fun n vs H Q E h => ?_) (fun n ih f cdv A outer s H vs Q E hr h => ?_)
  · unfold spFls at h
    split at h
    · obtain ⟨t, ρ, _, h1, _⟩ := h
      omega
    · exact h.elim
  · unfold spFls at h
    split at h
    · rfl
    · exact h.elim
  · have hu := hu_of hr
    refine ⟨_, (pss_cons (ps_if (ct_cmp op_notIn_seq (cv 1) (pe_def DRe hr (by omega) (pa_cons (cv 0) pa_nil)) (by rfl))
  (pss_cons (ps_set (i := 3) scFls.nd rfl (.inl rfl) (pe_def DW hr (by omega) (pa_cons (cv 0) (pa_cons (cv 2) pa_nil))))
  (pss_one (ps_ret (pe_ifExp (ct_cmp op_eq (pe_ix ix_tup (cv 3) pe_int (fun _ _ => rfl)) pe_str (nomark _)) (pe_lst (pa_cons (pe_ix ix_tup (cv 3) pe_int (fun _ _ => rfl)) pa_nil)) (pe_lst pa_nil)))))
  pss_nil)
  (pss_cons (ps_if (ct_cmp op_eq (pe_ix ix_tup (cv 0) pe_int (fun _ _ => rfl)) pe_str (nomark _))
  (pss_one (ps_ret (pe_lst pa_nil)))
  pss_nil)
  (pss_cons (ps_set (i := 4) scFls.nd rfl (.inl rfl) (pe_lst pa_nil))
  (pss_cons (ps_for PassesOwn.never rfl (pi_tup (pe_slice sl_tup (cv 0) (po_some pe_int) po_none)) (pg_name (i := 5) scFls.nd rfl (.inl rfl))
  (pss_one (ps_expr (pe_bm PySem.F.plainAttrs_list PySem.F.slot_list_extend PySem.F.type_list_extend mt_extend (cv 4) (pa_cons (pe_def ih hr (by omega) (pa_cons (cv 5) (pa_cons (cv 1) (pa_cons (cv 2) pa_nil)))) pa_nil)))))
  (pss_one (ps_ret (cv 4))))))), ?_⟩
    unfold spFls at h
    split at h
    · rename_i v w0 d
      obtain ⟨t, ρ, lt, hd, hd6, nk, hR, hB, hW, hK, q⟩ := h
      refine ⟨t, lt, hd6, by omega, nk, fun l H1 nl hl s1 => ⟨l, _, rfl, .inl (SqL.of hl), rfl, flat_strs _, ?_⟩⟩
      rw [inV_map]
      show if (!hasN w0 t) = true then _ else _
      cases hN : hasN w0 t with
      | false =>
        rw [if_pos (by decide)]
        refine ⟨t, ρ, lt.same s1, hd6, nk, hR.same s1, hB, hW, hK, fun v' H2 s2 hv => ?_⟩
        rw [badT_free hN] at q
        have S := s1.trans s2
        cases hr0 : Fm.resT ρ t with
        | val n0 =>
          rw [hr0] at hv q
          obtain ⟨a, rfl, ea⟩ := hv
          refine ⟨a, _, 0, .str "value", rfl, rfl, SqT.of ea, rfl, rfl, ?_⟩
          show if decide (V.str "value" = V.str "failed") = true then _ else _
          rw [if_neg (neO (by decide +kernel))]
          exact ⟨by show 0 ≤ sizeLine; decide, fun c nc => q c _ (none_back S nc) upd_same (S.trans (same_new nc))⟩
        | fail x0 =>
          rw [hr0] at hv q
          obtain ⟨a, rfl, ea⟩ := hv
          refine ⟨a, _, 0, .str "failed", rfl, rfl, SqT.of ea, rfl, rfl, ?_⟩
          show if decide (V.str "failed" = V.str "failed") = true then _ else _
          rw [if_pos (by decide +kernel)]
          exact ⟨a, _, 1, .str x0, rfl, rfl, SqT.of ea, rfl, by show 1 ≤ sizeLine; decide, fun c nc => q c _ (none_back S nc) upd_same (S.trans (same_new nc))⟩
      | true =>
        rw [if_neg (by decide)]
        by_cases isn : ∃ w1, t = .nam w1
        · obtain ⟨w1, rfl⟩ := isn
          have ew : w0 = w1 := by
            unfold hasN at hN
            exact List.mem_singleton.mp (of_decide_eq_true hN)
          subst ew
          cases lt with
          | @nam b _ e =>
            refine ⟨b, _, 0, .str "name", rfl, rfl, SqT.of (s1 _ _ e), rfl, rfl, ?_⟩
            show if decide (V.str "name" = V.str "name") = true then _ else _
            rw [if_pos (by decide +kernel)]
            unfold badT at q
            rw [if_pos rfl] at q
            exact ⟨by show 0 ≤ sizeLine; decide, fun c nc => q c _ (none_back s1 nc) upd_same (s1.trans (same_new nc))⟩
        obtain ⟨b, o, xs, ts, rfl, e, no, nu, fewx, hl2, hnm, hx, hway⟩ := lt.inner nk (fun w z => isn ⟨w, z⟩) (fun n z => by rw [z] at hN; cases hN)
        have e1 := s1 _ _ e
        refine ⟨b, _, 0, .str o, rfl, rfl, SqT.of e1, atI_hd, rfl, ?_⟩
        show if decide (V.str o = V.str "name") = true then _ else _
        rw [if_neg (neO no)]
        have hbad : badT w0 ρ t = ts.flatMap (badT w0 ρ) := by
          rcases hway with ⟨t1, rfl, rfl, rfl⟩ | ⟨t1, t2, rfl, ho, rfl⟩
          · have hN : hasN w0 t1 = true := hN
            unfold badT
            rw [if_pos hN]
            simp
          · rw [hasN_op] at hN
            unfold badT
            rw [if_pos hN]
            simp
        have hnames : ∀ t' ∈ ts, ∀ u ∈ nmsT t', u ∈ nmsT t := fun t' ht u hu => by rw [hnm]; exact List.mem_flatMap.mpr ⟨t', ht, hu⟩
        refine ⟨by show 0 ≤ sizeLine; decide, fun D nD => ?_⟩
        have sD := same_new (o := .lst []) nD
        obtain ⟨cx1, cx2⟩ := cut_tail (x := V.str o) fewx
        refine ⟨1, rfl, b, _, rfl, SqT.of (sD _ _ e1), cx2, fun tp ntp => ⟨tp, rfl, ⟨_, SqT.of upd_same⟩, ?_⟩⟩
        rw [cx1]
        have st := same_new (o := .tup xs) ntp
        have htp : upd (upd H1 D (.lst [])) tp (.tup xs) tp = some (.tup xs) := upd_same
        have hDl : upd (upd H1 D (.lst [])) tp (.tup xs) D = some (.lst []) := st _ _ upd_same
        have nD0 := none_back s1 nD
        have S2 := (s1.trans sD).trans st
        generalize upd (upd H1 D (.lst [])) tp (.tup xs) = H2 at htp hDl S2
        have bnd : ∀ i, ((ts.take i).flatMap (badT w0 ρ)).length ≤ 64 := fun i => by
          have e2 : ts.flatMap (badT w0 ρ) = (ts.take i).flatMap (badT w0 ρ) ++ (ts.drop i).flatMap (badT w0 ρ) := by rw [← List.flatMap_append, List.take_append_drop]
          have := Nat.le_trans (badT_len (w := w0) (ρ := ρ) t) (Nat.pow_le_pow_right (show 0 < 2 by decide) (show dep t ≤ 6 by omega))
          rw [hbad, e2, List.length_append] at this
          have : (2 : Nat) ^ 6 = 64 := by decide
          omega
        have tpD : tp ≠ D := ne_of htp hDl fun z => nomatch z
        refine for_tup (xs := xs) (fun i σ H' => (∃ e4, σ = [some (.ref b), some (.str w0), some (.ref d), none, some (.ref D), e4]) ∧ H' D = some (.lst (((ts.take i).flatMap (badT w0 ρ)).map V.str)) ∧ Off D H2 H') ⟨⟨_, rfl⟩, hDl, fun _ _ _ h => h⟩
          (fun i σ H' _ h => SqT.of (h.2.2 _ _ tpD htp)) ?each ?done
        case done =>
          rintro σ H' ⟨⟨e4, rfl⟩, g1, g2⟩
          rw [List.take_of_length_le (by omega), ← hbad] at g1
          exact q D H' nD0 g1 (fun c o h => g2 c o (ne_of_none h nD0) (S2 c o h))
        case each =>
          rintro i x σ H' hi ⟨⟨e4, rfl⟩, g1, g2⟩
          have S' : Same H H' := fun c o h => g2 c o (ne_of_none h nD0) (S2 c o h)
          obtain ⟨t', et, lt', d', nk', few'⟩ := hx i x hi
          refine ⟨.inl ⟨rfl, _, SqL.of g1⟩, t', ρ, lt'.same S', by omega, by omega, nk', hR.same S', hB, hW, fun u hu => hK u (hnames t' (List.mem_of_getElem? et) u hu), fun l3 H3 nl3 hl3 s3 => ?_⟩
          have lD : l3 ≠ D := (ne_of_none g1 nl3).symm
          have bn := bnd (i + 1)
          have ap : (ts.take (i + 1)).flatMap (badT w0 ρ) = (ts.take i).flatMap (badT w0 ρ) ++ badT w0 ρ t' := by
            rw [List.take_add_one, et, List.flatMap_append] <;> simp
          rw [ap, List.length_append] at bn
          refine ⟨D, l3, _, _, rfl, rfl, s3 _ _ g1, hl3, ?_, ⟨_, rfl⟩, ?_, fun c o n h => by rw [upd_ne n]; exact s3 _ _ (g2 c o n h)⟩
          · rw [List.length_map, List.length_map]
            exact Nat.le_trans bn (by decide)
          · rw [upd_same, ap, List.map_append]
    · exact h.elim
end
end Rk

set_option Elab.async false
set_option linter.all false
set_option maxRecDepth 100000
set_option maxHeartbeats 4000000
set_option pp.maxSteps 200
namespace Rk
open PySem PySem.Spec PyProof.Rows L2 CL Fm LcR
/-- what linear tells -/
def toldT (w : Str) (ρ : Str → Option Rs) (ns : List Str) (t : T) : (Str × Str) ⊕ (Int × Int) :=
  match goneB (fun u => (ρ u).isSome || decide (u ∈ [w])) ns with
  | some u => .inl ("unknown", u)
  | none => if linT w t = true then (match badT w ρ t with
    | x :: _ => .inl ("failed", x)
    | [] => .inr (lineT w ρ t)) else .inl ("bent", w)
def TellV (H : Hp) (v : V) : (Str × Str) ⊕ (Int × Int) → Prop
  | .inl p => ∃ m, v = .ref m ∧ H m = some (.lst [.str p.1, .str p.2, .bl true])
  | .inr p => ∃ m, v = .ref m ∧ H m = some (.tup [.int p.1, .int p.2])
def spTell (CF : Addr) : Sp := fun vs H Q E => match vs with
  | [.ref a, .str w, .ref d] => ∃ dx v l s p t, ∃ ns : List Str, ∃ ρ : Str → Option Rs, H a = some (.ins CF dx (frF v l s p)) ∧ H l = some (.lst (ns.map V.str)) ∧ Tr H v t ∧ dep t < 6 ∧ NOk t ∧ (nmsT t).length ≤ 100 ∧ ResD H d ρ ∧ RB ρ ∧ (∀ u ∈ nmsT t, u ∈ ns) ∧
      ∀ v' H', Same H H' → TellV H' v' (toldT w ρ ns t) → Q v' H'
  | _ => False
structure Tt (P : Program) (w : World) (K : PySem.W.Frag) (mg : Str → Option Value) (base : Heap) (CF Cn Cl Ca fL : Addr) : Prop where
  gN : mg "UnknownName" = some (.ref Cn)
  gL : mg "NotLinear" = some (.ref Cl)
  gA : mg "Failed" = some (.ref Ca)
  me : Meth K CF "linear" fL
  li : ∃ fd, FnOk P w K mg base (L2.CX P w) 111 fL fd pLinear (spLinear CF Cn Cl Ca) ∧ Binds K fd pLinear []
  cl : Cls K CF
  xN : XfC K Cn
  xL : XfC K Cl
  xA : XfC K Ca
  nN : PySem.W.findIn K (.ref Cn) "name" = some none
  nL : PySem.W.findIn K (.ref Cl) "name" = some none
  nA : PySem.W.findIn K (.ref Ca) "word" = some none
  kN : PySem.W.subIn K (.ref Cn) (.type "KeyError") = some true
  kL : PySem.W.subIn K (.ref Cl) (.type "ValueError") = some true
  kA : PySem.W.subIn K (.ref Ca) (.type "ArithmeticError") = some true
  eLL : PySem.W.exmOne K (.ref Cl) (.ref Cl) = some true
  eAL : PySem.W.exmOne K (.ref Ca) (.ref Cl) = some false
  eAA : PySem.W.exmOne K (.ref Ca) (.ref Ca) = some true
  eNL : PySem.W.exmOne K (.ref Cn) (.ref Cl) = some false
  eNA : PySem.W.exmOne K (.ref Cn) (.ref Ca) = some false
  eNN : PySem.W.exmOne K (.ref Cn) (.ref Cn) = some true
  isinstance : mg "isinstance" = none
  KeyError : mg "KeyError" = none
  ValueError : mg "ValueError" = none
  ArithmeticError : mg "ArithmeticError" = none
abbrev sTold3 : Stmt := topS 39
abbrev nTold3 : List Str := ["_law_formula_here", "_law_word", "_law_results_here", "_law_caught", "e"]
abbrev pTold3 : List Str := ["_law_formula_here", "_law_word", "_law_results_here"]
theorem scTold3 : FnScope nTold3 pTold3 (defScope sTold3) := ⟨rfl, rfl, rfl, by decide +kernel, rfl, by decide +kernel, by decide +kernel⟩
section
variable {P : Program} {w : World} {K : PySem.W.Frag} {mg : Str → Option Value} {base : Heap}
/-- an error that linear lets out, with what is told of it -/
def outE (Cn Cl Ca : Addr) (H : Hp) (w : Str) (ρ : Str → Option Rs) (ns : List Str) (t : T) : XK := fun cls d H2 => Same H H2 ∧ ∃ dd u, d = some dd ∧
  ((cls = .ref Cl ∧ H2 dd = some (.xd [("name", .str u)]) ∧ toldT w ρ ns t = .inl ("bent", u)) ∨ (cls = .ref Ca ∧ H2 dd = some (.xd [("word", .str u)]) ∧ toldT w ρ ns t = .inl ("failed", u)) ∨ (cls = .ref Cn ∧ H2 dd = some (.xd [("name", .str u)]) ∧ toldT w ρ ns t = .inl ("unknown", u)))
theorem ok_told3 {CF Cn Cl Ca fL : Addr} (T : Tt P w K mg base CF Cn Cl Ca fL) (F : FunAt K mg "_law_told" sTold3 pTold3) : DefOk P w K mg base CX0 113 "_law_told" pTold3 (spTell CF) := by
  obtain ⟨fdL, oL, bL⟩ := T.li
  refine F.ok scTold3 (fun vs H Q E h => ?_) (fun f cdv A outer s H vs Q E hr h => ?_)
  · unfold spTell at h
    split at h
    · rfl
    · exact h.elim
  · refine ⟨_, pss_cons (ps_set (i := 3) scTold3.nd rfl (.inl rfl) pe_non) (pss_cons (ps_try_as_many (i := 4) (n := "e") (X := (cxOf CX0 P w K mg base nTold3 "_law_told" (defScope sTold3) f cdv A outer s H E).nox)
      (tb := fun W D σ H => ∃ Ech : XK, (∀ cls d σ' H', Ech cls d H' → σ'.length = 5 → W cls d σ' H') ∧ tRet (tMeth CF "linear" (spLinear CF Cn Cl Ca) [] Ech (cVar 0) (tCons (cVar 1) (tCons (cVar 2) tNil))) D σ H)
      (l := [(.ref Cl, _), (.ref Ca, _), (.ref Cn, _)])
      rfl rfl scTold3.nd rfl rfl LamX.takes0 (fun W pn xe tk _ => ?body)
      (.cons ⟨by rfl, by decide, .inl T.gL⟩ (fun a oe cls d pn hz hf => pss_one (ps_set (i := 3) scTold3.nd rfl (.inl rfl) (pe_lst (pa_cons pe_str (pa_cons (pe_xf T.xL T.nL hz hf (cv 4)) (pa_cons (pe_isE (T' := "ValueError") (by decide +kernel) (by decide +kernel) hz hf T.isinstance T.ValueError (by rfl) (by rfl) (cv 4)) pa_nil))))))
      (.cons ⟨by rfl, by decide, .inl T.gA⟩ (fun a oe cls d pn hz hf => pss_one (ps_set (i := 3) scTold3.nd rfl (.inl rfl) (pe_lst (pa_cons pe_str (pa_cons (pe_xf T.xA T.nA hz hf (cv 4)) (pa_cons (pe_isE (T' := "ArithmeticError") (by decide +kernel) (by decide +kernel) hz hf T.isinstance T.ArithmeticError (by rfl) (by rfl) (cv 4)) pa_nil))))))
      (.cons ⟨by rfl, by decide, .inl T.gN⟩ (fun a oe cls d pn hz hf => pss_one (ps_set (i := 3) scTold3.nd rfl (.inl rfl) (pe_lst (pa_cons pe_str (pa_cons (pe_xf T.xN T.nN hz hf (cv 4)) (pa_cons (pe_isE (T' := "KeyError") (by decide +kernel) (by decide +kernel) hz hf T.isinstance T.KeyError (by rfl) (by rfl) (cv 4)) pa_nil))))))
      .nil))))
      (pss_one (ps_ret (cv 3)))), ?rest⟩
    case body =>
      refine ⟨fun pins s' σ H' D I h' => ?_⟩
      obtain ⟨Ech, hW, h3⟩ := h'
      have tk2 : Takes ((cxOf CX0 P w K mg base nTold3 "_law_told" (defScope sTold3) f cdv A outer s H E).nox.tr pn xe) (fun cls d σ H => σ.length = 5 → W cls d σ H) := fun u s2 x => by
        obtain ⟨a, B, sI, p2, σ2, H2, cls, d, rfl, J, nb, up, sky, na, os, ag, w⟩ := x
        exact tk _ _ ⟨a, B, sI, p2, σ2, H2, cls, d, rfl, J, nb, up, sky, na, os, ag, w J.len⟩
      exact (pss_one (ps_ret (pe_meth (cv 0) T.cl T.me oL (hr.mono (by decide)) bL .nil (passes_call (E := Ech) tk2 (fun cls d σ H h l => hW cls d σ H h l)) (pa_cons (cv 1) (pa_cons (cv 2) pa_nil))))).run pins s' σ H' D I h3
    case rest =>
      unfold spTell at h
      split at h
      · rename_i a w0 d
        obtain ⟨dx, v, l, s0, p, t, ns, ρ, ha, hl, tr, hd, nk, few, hR, hB, hn, q⟩ := h
        have lk : (frF v l s0 p).lookup ("linear" : Str) = none := by
          unfold frF
          rw [List.lookup_cons, show (("linear" : Str) == ("tree" : Str)) = false by decide +kernel, List.lookup_cons, show (("linear" : Str) == ("own_reads" : Str)) = false by decide +kernel, List.lookup_cons, show (("linear" : Str) == ("text" : Str)) = false by decide +kernel, List.lookup_cons, show (("linear" : Str) == ("names" : Str)) = false by decide +kernel]
          rfl
        have no : ∀ {A : Prop}, false = true → A := fun z => nomatch z
        have nt : ∀ {A : Prop}, true = false → A := fun z => nomatch z
        have sz : 3 ≤ sizeLine := by decide
        refine ⟨outE Cn Cl Ca H w0 ρ ns t, ?_, ?_⟩
        · rintro cls d2 σ' H2 ⟨sm, dd, u, rfl, hh⟩ l3
          obtain ⟨s0, s1, s2, s3, s4, rfl⟩ : ∃ x y z u v, σ' = [x, y, z, u, v] := by
            match σ', l3 with
            | [x, y, z, u, v], _ => exact ⟨x, y, z, u, v, rfl⟩
          rcases hh with ⟨rfl, hdd, tl⟩ | ⟨rfl, hdd, tl⟩ | ⟨rfl, hdd, tl⟩
          · refine ⟨true, T.eLL, fun _ a na => ⟨rfl, rfl, dd, _, .str u, rfl, hdd, rfl, rfl, ⟨Cl, rfl, T.kL⟩, .inr ⟨dd, _, rfl, hdd⟩, sz, fun m nm => ?_⟩, nt⟩
            rw [tl] at q
            exact q _ _ (sm.trans (same_new nm)) ⟨m, rfl, upd_same⟩
          · refine ⟨false, T.eAL, no, fun _ => ⟨true, T.eAA, fun _ a na => ⟨rfl, rfl, dd, _, .str u, rfl, hdd, rfl, rfl, ⟨Ca, rfl, T.kA⟩, .inr ⟨dd, _, rfl, hdd⟩, sz, fun m nm => ?_⟩, nt⟩⟩
            rw [tl] at q
            exact q _ _ (sm.trans (same_new nm)) ⟨m, rfl, upd_same⟩
          · refine ⟨false, T.eNL, no, fun _ => ⟨false, T.eNA, no, fun _ => ⟨true, T.eNN, fun _ a na => ⟨rfl, rfl, dd, _, .str u, rfl, hdd, rfl, rfl, ⟨Cn, rfl, T.kN⟩, .inr ⟨dd, _, rfl, hdd⟩, sz, fun m nm => ?_⟩, nt⟩⟩⟩
            rw [tl] at q
            exact q _ _ (sm.trans (same_new nm)) ⟨m, rfl, upd_same⟩
        · refine ⟨a, dx, _, rfl, ha, lk, dx, v, l, s0, p, t, ns, ρ, ha, hl, tr, hd, nk, few, hR, hB, hn, ?_⟩
          have tt : toldT w0 ρ ns t = toldT w0 ρ ns t := rfl
          conv at tt => rhs; unfold toldT
          cases hg : goneB (fun u => (ρ u).isSome || decide (u ∈ [w0])) ns with
          | some u =>
            rw [hg] at tt
            exact fun d' H2 sm e => ⟨sm, d', u, rfl, .inr (.inr ⟨rfl, e, tt⟩)⟩
          | none =>
            rw [hg] at tt
            show if linT w0 t = true then _ else _
            have tt : toldT w0 ρ ns t = if linT w0 t = true then (match badT w0 ρ t with
              | x :: _ => .inl ("failed", x)
              | [] => .inr (lineT w0 ρ t)) else .inl ("bent", w0) := tt
            cases hL : linT w0 t with
            | false =>
              rw [hL, if_neg Bool.false_ne_true] at tt
              rw [if_neg Bool.false_ne_true]
              exact fun d' H2 sm e => ⟨sm, d', w0, rfl, .inl ⟨rfl, e, tt⟩⟩
            | true =>
              rw [hL, if_pos rfl] at tt
              rw [if_pos rfl]
              cases hb : badT w0 ρ t with
              | cons x r =>
                rw [hb] at tt
                exact fun d' H2 sm e => ⟨sm, d', x, rfl, .inr (.inl ⟨rfl, e, tt⟩)⟩
              | nil =>
                rw [hb] at tt
                rw [tt] at q
                exact fun a' H2 sm e => q _ _ sm ⟨a', rfl, e⟩
      · exact h.elim
end
end Rk

set_option Elab.async false
set_option linter.all false
set_option maxRecDepth 100000
set_option maxHeartbeats 4000000
set_option pp.maxSteps 200
namespace Rk
open PySem PySem.Spec PyProof.Rows L2 CL Fm LcR
/-- over a dict's keys -/
theorem itc_keys {d : Addr} {od : Obj} {kvs : List (Key × V)} {C : (Hp → Prop) → V → Hp → Prop} {H0 : Hp} {Qd : Hp → Prop} (Pv : Nat → Hp → Prop) (h0 : Pv 0 H0) (hl : ∀ i H, i ≤ kvs.length → Pv i H → H d = some (.frz od (.dK kvs)))
    (hs : ∀ i k v H, kvs[i]? = some (k, v) → Pv i H → C (Pv (i + 1)) (kV k) H) (hd : ∀ H, Pv kvs.length H → Qd H) :
    ∃ W : Nat → Nat → Hp → Prop, (∃ m, W 0 m H0) ∧ ∀ i m H, W i m H → ((Itk d od kvs).stop i H ∧ Qd H) ∨ ((Itk d od kvs).go i H ∧ ∃ Nx : Hp → Prop, (∀ H', Nx H' → ∃ m', m' < m ∧ W (i + 1) m' H') ∧ ∀ x H', (Itk d od kvs).yld i H x H' → C Nx x H') := by
  refine ⟨fun i m H => m = kvs.length - i ∧ i ≤ kvs.length ∧ Pv i H, ⟨kvs.length, by simp, Nat.zero_le _, h0⟩, ?_⟩
  rintro i m H ⟨rfl, hi, p⟩
  have q := hl i H hi p
  by_cases lt : i < kvs.length
  · refine .inr ⟨⟨q, lt⟩, Pv (i + 1), fun H' p' => ⟨kvs.length - (i + 1), by omega, rfl, lt, p'⟩, fun x H' y => ?_⟩
    obtain ⟨e, k, v, ek, ex⟩ := y
    subst e ex
    exact hs i k v _ ek p
  · have e : i = kvs.length := by omega
    subst e
    exact .inl ⟨⟨q, Nat.le_refl _⟩, hd H p⟩
/-- pairs laid one after the other, alike where they have one key -/
theorem merge_get {f : Str → V} {u : Str} : ∀ {ps acc : List (Key × V)}, (∀ q ∈ ps, ∃ x, q.1 = kS x ∧ q.2 = f x) → (kS u ∈ ps.map (·.1) → valV (mergeK acc ps) (kS u) = some (f u)) ∧ (¬ kS u ∈ ps.map (·.1) → valV (mergeK acc ps) (kS u) = valV acc (kS u))
  | [], acc, _ => ⟨fun h => absurd h (by simp), fun _ => rfl⟩
  | q :: r, acc, h => by
    obtain ⟨x, e1, e2⟩ := h q List.mem_cons_self
    obtain ⟨i1, i2⟩ := merge_get (f := f) (u := u) (ps := r) (acc := putK acc q.1 q.2) fun p hp => h p (List.mem_cons_of_mem _ hp)
    rw [List.map_cons, e1]
    constructor
    · intro hm
      show valV (mergeK (putK acc q.1 q.2) r) (kS u) = _
      by_cases hr : kS u ∈ r.map (·.1)
      · exact i1 hr
      · have hx : kS u = kS x := (List.mem_cons.mp hm).elim id fun z => absurd z hr
        have : u = x := by injection hx
        subst this
        rw [i2 hr, valV_put, e1, if_pos rfl, e2]
    · intro hm
      have hx : ¬ kS u = kS x := fun z => hm (z ▸ List.mem_cons_self)
      have hr : ¬ kS u ∈ r.map (·.1) := fun z => hm (List.mem_cons_of_mem _ z)
      show valV (mergeK (putK acc q.1 q.2) r) (kS u) = _
      rw [i2 hr, valV_put, e1, if_neg hx]
/-- the numbers among results -/
def numR : Option Rs → Option Int
  | some (.val m) => some m
  | _ => none
theorem rk_key {H : Hp} : ∀ {kvs : List (Key × V)} {L : List (Str × Rs)} {i : Nat} {k : Key} {v : V}, RK H kvs L → kvs[i]? = some (k, v) → ∃ w s, L[i]? = some (w, s) ∧ k = kS w
  | [], [], i, _, _, _, e => by cases i <;> cases e
  | (k0, v0) :: r, (w, s) :: l, 0, _, _, h, e => by cases e; exact ⟨w, s, rfl, h.1⟩
  | (k0, v0) :: r, (w, s) :: l, i + 1, _, _, h, e => rk_key (kvs := r) (L := l) (i := i) h.2.2 e
/-- pairs of name and number -/
def NK (H : Hp) : List Addr → List (Str × Int) → Prop
  | [], [] => True
  | a :: as, q :: r => H a = some (.tup [.str q.1, .int q.2]) ∧ NK H as r
  | _, _ => False
theorem NK.on {H H' : Hp} (k : ∀ b xs, H b = some (.tup xs) → H' b = some (.tup xs)) : ∀ {as : List Addr} {r : List (Str × Int)}, NK H as r → NK H' as r
  | [], [], _ => trivial
  | _ :: _, _ :: _, h => ⟨k _ _ h.1, NK.on k h.2⟩
theorem NK.snoc {H : Hp} {a : Addr} {q : Str × Int} (ha : H a = some (.tup [.str q.1, .int q.2])) : ∀ {as : List Addr} {r : List (Str × Int)}, NK H as r → NK H (as ++ [a]) (r ++ [q])
  | [], [], _ => ⟨ha, trivial⟩
  | _ :: _, _ :: _, h => ⟨h.1, NK.snoc ha h.2⟩
theorem NK.len {H : Hp} : ∀ {as : List Addr} {r : List (Str × Int)}, NK H as r → as.length = r.length
  | [], [], _ => rfl
  | _ :: _, _ :: _, h => by rw [List.length_cons, List.length_cons, NK.len h.2]
def nkv (r : List (Str × Int)) : List (Key × V) := r.map fun q => (kS q.1, .int q.2)
theorem NK.paired {K : PySem.W.Frag} {H : Hp} : ∀ {as : List Addr} {r : List (Str × Int)}, NK H as r → Paired (fun p kv => SqT K H p [kV kv.1, kv.2]) as (nkv r)
  | [], [], _ => .nil
  | _ :: _, _ :: _, h => .cons (SqT.of h.1) (NK.paired h.2)
def numL (ρ : Str → Option Rs) (L : List (Str × Rs)) : List (Str × Int) := L.filterMap fun p => (numR (ρ p.1)).map fun m => (p.1, m)
theorem numL_mem {ρ : Str → Option Rs} {L : List (Str × Rs)} {q : Str × Int} (h : q ∈ numL ρ L) : numR (ρ q.1) = some q.2 := by
  unfold numL at h
  obtain ⟨p, _, e⟩ := List.mem_filterMap.mp h
  obtain ⟨m, e1, e2⟩ := Option.map_eq_some_iff.mp e
  rw [← e2]
  exact e1
theorem numL_in {ρ : Str → Option Rs} {L : List (Str × Rs)} {u : Str} {m : Int} (hu : u ∈ L.map (·.1)) (h : numR (ρ u) = some m) : kS u ∈ (nkv (numL ρ L)).map (·.1) := by
  obtain ⟨p, hp, e⟩ := List.mem_map.mp hu
  subst e
  unfold nkv numL
  rw [List.map_map]
  refine List.mem_map.mpr ⟨(p.1, m), List.mem_filterMap.mpr ⟨p, hp, by rw [h] <;> rfl⟩, rfl⟩
/-- the values of the names, one of them given -/
def spVals : Sp := fun vs H Q _ => match vs with
  | [.ref d, .str w, .int n] => ∃ L, ResL H d L ∧ L.length ≤ 30 ∧ ∀ d' kvs H', Same H H' → H' d' = some (.dK kvs) → valV kvs (kS w) = some (.int n) → (∀ u m, u ≠ w → ρOf L u = some (.val m) → valV kvs (kS u) = some (.int m)) → Q (.ref d') H'
  | _ => False
structure BltDi (mg : Str → Option Value) : Prop where
  dict : mg "dict" = none
abbrev sVals3 : Stmt := topS 40
abbrev nVals3 : List Str := ["_law_results_here", "_law_word", "_law_value", "_law_found", "_law_other"]
abbrev pVals3 : List Str := ["_law_results_here", "_law_word", "_law_value"]
theorem scVals3 : FnScope nVals3 pVals3 (defScope sVals3) := ⟨rfl, rfl, rfl, by decide +kernel, rfl, by decide +kernel, by decide +kernel⟩
section
variable {P : Program} {w : World} {K : PySem.W.Frag} {mg : Str → Option Value} {base : Heap}
theorem ok_vals3 (B : BltDi mg) (F : FunAt K mg "_law_values" sVals3 pVals3) : DefOk P w K mg base CX0 1 "_law_values" pVals3 spVals := by
  refine F.ok scVals3 (fun vs H Q E h => ?_) (fun f cdv A outer s H vs Q E hr h => ?_)
  · unfold spVals at h
    split at h
    · rfl
    · exact h.elim
  · have hu := hu_of hr
    refine ⟨_, (pss_cons (ps_set (i := 3) scVals3.nd rfl (.inl rfl) (pe_callTy (call_dictP (by rfl)) (by rfl) B.dict (by decide +kernel) (pa_cons (pe_lock (pe_lc (own := [("_law_other", 4)]) (g := gName 4) (by rfl) scVals3.nd (pi_keys (cv 0)) (blkOk_by (N := nVals3) (sc := (defScope sVals3)) (own := [("_law_other", 4)]) (by decide +kernel)) (fun _ _ _ _ _ => pg_name (i := 4) scVals3.nd rfl (Or.inl rfl)) (fun _ _ _ _ _ => (pts_one (ct_cmp op_eq (pe_ix (show IxR _ (rIxT K) from ix_tup) (pe_dget hu (cv 0) (cv 4) (fun _ _ => rfl)) pe_int (fun _ _ => rfl)) pe_str (nomark _)))) (fun _ _ _ _ _ => (pe_tup (pa_cons (cv 4) (pa_cons (pe_ix (show IxR _ (rIxT K) from ix_tup) (pe_dget hu (cv 0) (cv 4) (fun _ _ => rfl)) pe_int (fun _ _ => rfl)) pa_nil)))))) pa_nil)))
  (pss_cons (ps_dput hu (cv 3) (cv 1) (cv 2) (by rfl))
  (pss_one (ps_ret (cv 3))))), ?_⟩
    unfold spVals at h
    split at h
    · rename_i d w0 n
      obtain ⟨L, ⟨kvs, hd, rk⟩, ln, q⟩ := h
      refine ⟨d, _, hd, trivial, fun od => ?_⟩
      have hd1 : upd H d (.frz od (.dK kvs)) d = some (.frz od (.dK kvs)) := upd_same
      have k1 : ∀ b o, b ≠ d → H b = some o → upd H d (.frz od (.dK kvs)) b = some o := fun b o n h => by rw [upd_ne n]; exact h
      have kt : ∀ b xs, H b = some (.tup xs) → b ≠ d := fun b xs h => ne_of h hd fun z => nomatch z
      generalize hH1 : upd H d (.frz od (.dK kvs)) = H1 at hd1 k1
      refine ⟨d, od, rfl, .inl ⟨kvs, hd1, fun D nD => ?_⟩⟩
      have dD : d ≠ D := ne_of_none hd1 nD
      refine itc_keys (fun i H' => ∃ as, H' D = some (.lst (as.map V.ref)) ∧ NK H' as (numL (ρOf L) (L.take i)) ∧ Off D H1 H') ⟨[], upd_same, (by rw [List.take_zero]; trivial), fun b o n h => by rw [upd_ne n]; exact h⟩
        (fun i H' hi ⟨as, p1, p2, p3⟩ => p3 _ _ dD hd1) ?turn ?done
      case turn =>
        rintro i k v H2 hk ⟨as, p1, p2, p3⟩
        obtain ⟨u, r0, hL, rfl⟩ := rk_key rk hk
        refine ⟨rfl, ?_⟩
        have hd2 := p3 _ _ dD hd1
        have gk := rk.get u
        have hmem : u ∈ L.map (·.1) := List.mem_map.mpr ⟨_, List.mem_of_getElem? hL, rfl⟩
        obtain ⟨r, hr0⟩ := ρ_some hmem
        rw [hr0] at gk
        obtain ⟨v0, e1, e2⟩ := gk
        have dg : DGet H2 d (kV (kS u)) (some v0) := .inl ⟨kvs, kS u, .inr ⟨od, hd2⟩, rfl, e1.symm⟩
        have e2' : RsAt H2 v0 r := e2.on fun b xs h => p3 _ _ (ne_of_none (k1 _ _ (kt _ _ h) h) nD) (k1 _ _ (kt _ _ h) h)
        have ap : numL (ρOf L) (L.take (i + 1)) = numL (ρOf L) (L.take i) ++ ((numR (some r)).map fun m => (u, m)).toList := by
          unfold numL
          rw [List.take_add_one, hL, List.filterMap_append]
          congr 1
          show List.filterMap _ [(u, r0)] = _
          rw [List.filterMap_cons]
          have : ρOf L (u, r0).1 = some r := hr0
          rw [this]
          cases numR (some r) <;> rfl
        cases r with
        | fail x0 =>
          obtain ⟨a, rfl, ea⟩ := e2'
          refine ⟨d, .ref a, rfl, dg, a, _, 0, .str "failed", rfl, rfl, SqT.of ea, rfl, rfl, ?_⟩
          show if decide (V.str "failed" = V.str "value") = true then _ else _
          rw [if_neg (neO (by decide +kernel))]
          refine ⟨as, p1, ?_, p3⟩
          rw [ap]
          simpa [numR] using p2
        | val m =>
          obtain ⟨a, rfl, ea⟩ := e2'
          refine ⟨d, .ref a, rfl, dg, a, _, 0, .str "value", rfl, rfl, SqT.of ea, rfl, rfl, ?_⟩
          show if decide (V.str "value" = V.str "value") = true then _ else _
          rw [if_pos (by decide +kernel)]
          refine ⟨d, .ref a, rfl, dg, a, _, 1, .int m, rfl, rfl, SqT.of ea, rfl, by show 2 ≤ sizeLine; decide, fun c nc => ?_⟩
          have p1c := same_new (o := .tup [.str u, .int m]) nc _ _ p1
          have cD : c ≠ D := (ne_of_none p1 nc).symm
          have kk : ∀ z ys, H2 z = some (.tup ys) → upd (upd H2 c (.tup [.str u, .int m])) D (.lst (as.map V.ref ++ [.ref c])) z = some (.tup ys) := fun z ys h => by
            rw [upd_ne (ne_of h p1 fun z => nomatch z)]; exact same_new nc _ _ h
          refine ⟨_, p1c, ?_, as ++ [c], by rw [upd_same, List.map_append] <;> rfl, ?_, fun z o n h => by rw [upd_ne n]; exact same_new nc _ _ (p3 z o n h)⟩
          · rw [List.length_map, p2.len]
            unfold numL
            refine Nat.lt_of_le_of_lt (Nat.le_trans (List.length_filterMap_le _ _) ?_) (show 30 < sizeLine by decide)
            rw [List.length_take]
            omega
          · rw [ap]
            exact NK.snoc (q := (u, m)) (by rw [upd_ne cD]; exact upd_same) (p2.on kk)
      case done =>
        rintro H2 ⟨as, p1, p2, p3⟩
        rw [List.take_of_length_le (by rw [rk.len]; exact Nat.le_refl _)] at p2
        refine ⟨p3 _ _ dD hd1, ?_⟩
        have S2 : Same H (upd H2 d (.dK kvs)) := fun b o h => by
          by_cases hb : b = d
          · subst hb
            rw [hd] at h
            cases h
            exact upd_same
          · rw [upd_ne hb]
            exact p3 _ _ (ne_of_none (k1 _ _ hb h) nD) (k1 _ _ hb h)
        have Dd : D ≠ d := dD.symm
        have p1' : upd H2 d (.dK kvs) D = some (.lst (as.map V.ref)) := by rw [upd_ne Dd]; exact p1
        have hd2 := p3 _ _ dD hd1
        have p2' : NK (upd H2 d (.dK kvs)) as (numL (ρOf L) L) := p2.on fun b xs h => by rw [upd_ne (ne_of h hd2 fun z => nomatch z)]; exact h
        generalize upd H2 d (.dK kvs) = H3 at S2 p1' p2'
        refine ⟨D, as, nkv (numL (ρOf L) L), rfl, SqL.of p1', p2'.paired, fun d2 nd2 => ?_⟩
        have sd := same_new (o := .dK (mergeK [] (nkv (numL (ρOf L) L)))) nd2
        have ml : (mergeK [] (nkv (numL (ρOf L) L))).length < sizeLine := by
          refine Nat.lt_of_le_of_lt (length_mergeK _ _) ?_
          unfold nkv numL
          rw [List.length_map]
          refine Nat.lt_of_le_of_lt (Nat.add_le_add_left (List.length_filterMap_le _ _) _) ?_
          exact Nat.lt_of_le_of_lt (show 0 + L.length ≤ 30 by omega) (by decide)
        refine ⟨d2, _, rfl, DPut.k (k := kS w0) upd_same ml, ?_⟩
        refine q d2 _ _ (fun b o h => ?_) upd_same ?_ ?_
        · rw [upd_ne (ne_of_none (S2 _ _ h) nd2)]
          exact sd _ _ (S2 _ _ h)
        · rw [valV_put, if_pos rfl]
        · intro u m hne hu2
          rw [valV_put, if_neg (fun z => hne (by injection z))]
          have hm : u ∈ L.map (·.1) := by
            obtain ⟨p, hp, e, _⟩ := ρ_mem hu2
            exact List.mem_map.mpr ⟨p, hp, e⟩
          have nr : numR (ρOf L u) = some m := by rw [hu2] <;> rfl
          rw [(merge_get (f := fun x => .int ((numR (ρOf L x)).getD 0)) (fun q hq => ?_)).1 (numL_in hm nr)]
          · show some (V.int ((numR (ρOf L u)).getD 0)) = _
            rw [nr] <;> rfl
          · obtain ⟨q0, hq0, rfl⟩ := List.mem_map.mp hq
            refine ⟨q0.1, rfl, ?_⟩
            show V.int q0.2 = V.int ((numR (ρOf L q0.1)).getD 0)
            rw [numL_mem hq0] <;> rfl
    · exact h.elim
end
end Rk

set_option Elab.async false
set_option linter.all false
set_option maxRecDepth 100000
set_option maxHeartbeats 8000000
set_option pp.maxSteps 200
namespace Rk
open PySem PySem.Spec PyProof.Rows L2 CL Fm LcR
theorem _root_.CL.PenB.neL' {H : Hp} {p a : Addr} {k : Nat} {xs : List V} (h : PenB H p k) (e : H a = some (.lst xs)) : a ≠ p := h.ne e fun _ z => nomatch z
theorem resL_but {H H' : Hp} {p d : Addr} {k : Nat} {L : List (Str × Rs)} (n : d ≠ p) (P : PenB H p k) (s : But p H H') (h : ResL H d L) : ResL H' d L := by
  obtain ⟨kvs, e, rk⟩ := h
  exact ⟨kvs, s.keep _ _ n e, rk.but P s⟩
theorem fin_zr {o : Str} {rs : List Rs} {x : Str} (h : finT o rs = .fail x) : .fail x ∈ rs ∨ x = "zero" ∨ x = "range" := by
  unfold finT at h
  split at h
  · rename_i w hw
    cases h
    rw [failsOf_head] at hw
    exact .inl (failsOf_mem (List.mem_of_head? hw))
  · cases hv : valOf o (numsOf rs) with
    | none => rw [hv] at h; cases h; exact .inr (.inl rfl)
    | some z =>
      rw [hv] at h
      have h : clampR z = .fail x := h
      unfold clampR at h
      split at h
      · cases h
      · cases h; exact .inr (.inr rfl)
theorem res_zr {ρ : Str → Option Rs} (hw : ∀ w x, ρ w = some (.fail x) → x = "zero" ∨ x = "range") : ∀ {t : T} {x : Str}, Fm.resT ρ t = .fail x → x = "zero" ∨ x = "range"
  | .num m, x, h => by
    have h : clampR m = .fail x := h
    unfold clampR at h
    split at h
    · cases h
    · cases h; exact .inr rfl
  | .nam w, x, h => by
    unfold Fm.resT at h
    cases hr : ρ w with
    | none => rw [hr] at h; cases h; exact .inl rfl
    | some r =>
      rw [hr] at h
      have h : r = .fail x := h
      exact hw w x (by rw [hr, h])
  | .neg t, x, h => by
    rcases fin_zr h with z | z
    · exact res_zr hw (t := t) (List.mem_singleton.mp z).symm
    · exact z
  | .op o a b, x, h => by
    rcases fin_zr h with z | z
    · rcases List.mem_cons.mp z with z | z
      · exact res_zr hw (t := a) z.symm
      · exact res_zr hw (t := b) (List.mem_singleton.mp z).symm
    · exact z
theorem good_zr {L : List (Str × Rs)} (h : GoodL L) : ∀ w x, ρOf L w = some (.fail x) → x = "zero" ∨ x = "range" := fun w x e => by
  obtain ⟨q, hq, _, e2⟩ := ρ_mem e
  exact (h q hq).2 x e2
theorem good_rw {L : List (Str × Rs)} (h : GoodL L) : RW (ρOf L) := fun w x e => by
  rcases good_zr h w x e with rfl | rfl <;> exact .lit _
/-- a formula in the heap -/
def FmAt (CF : Addr) (H : Hp) (a : Addr) (s : Str) (t : T) (ns : List Str) : Prop := ∃ dx v l p, ∃ ys : List Str, H a = some (.ins CF dx (frF v l s p)) ∧ Tr H v t ∧ H l = some (.lst (ns.map V.str)) ∧ H p = some (.tup (ys.map V.str)) ∧ ys.Perm (TX.tAll ns []) ∧ sortedS ys = true
theorem FmAt.same {CF : Addr} {H H' : Hp} {a : Addr} {s : Str} {t : T} {ns : List Str} (h : FmAt CF H a s t ns) (k : Same H H') : FmAt CF H' a s t ns := by
  obtain ⟨dx, v, l, p, ys, h1, h2, h3, h4, h5, h6⟩ := h
  exact ⟨dx, v, l, p, ys, k _ _ h1, h2.same k, k _ _ h3, k _ _ h4, h5, h6⟩
theorem make_at {K : PySem.W.Frag} {CF Cp : Addr} {H : Hp} {s : Str} {t : T} {j : Nat} {ns : List Str} {E : XK} {x dx : Addr} {R : Hp → Prop} (hw : wholeR s = .ok t j ns) (hs : s.length ≤ 100) (hn : ns.length ≤ 60) (nx : H x = none) (nd : H dx = none) (q : ∀ H2, Same H H2 → FmAt CF H2 x s t ns → R H2) :
    spFInit K CF Cp (.ref x :: ([.str s] ++ [])) (upd (upd H dx (.own x)) x (.ins CF dx [])) (fun v H2 => v = .non ∧ R H2) E := by
  have S1 : Same H (upd (upd H dx (.own x)) x (.ins CF dx [])) := fun b o h => by
    rw [upd_ne (ne_of_none h nx), upd_ne (ne_of_none h nd)]; exact h
  have sm : ∀ {H'}, Onl x (upd (upd H dx (.own x)) x (.ins CF dx [])) H' → Same H H' := fun on b o h => on b o (ne_of_none h nx) (S1 b o h)
  have tl := TX.tAll_len ns []
  refine ⟨⟨dx, upd_same⟩, ⟨_, .str s⟩, Nat.le_trans hs (by decide), ?_⟩
  rw [if_neg (by omega), hw]
  refine ⟨by simp only [List.length_nil] at tl; omega, by omega, fun v l p ys H2 on ⟨dx2, hi⟩ tr hl hp yp yo => ⟨rfl, q H2 (sm on) ⟨dx2, v, l, p, ys, hi, tr, hl, hp, yp, yo⟩⟩⟩
theorem fm_but {CF : Addr} {H H' : Hp} {p : Addr} {k : Nat} {a : Addr} {s : Str} {t : T} {ns : List Str} (P : PenB H p k) (b : But p H H') (h : FmAt CF H a s t ns) : FmAt CF H' a s t ns := by
  obtain ⟨dx, v, l, q, ys, h1, h2, h3, h4, h5, h6⟩ := h
  exact ⟨dx, v, l, q, ys, b.keep _ _ (P.ne h1 fun _ z => nomatch z) h1, h2.on fun c xs e => b.keep _ _ (P.ne e fun _ z => nomatch z) e, b.keep _ _ (P.ne h3 fun _ z => nomatch z) h3, b.keep _ _ (P.ne h4 fun _ z => nomatch z) h4, h5, h6⟩
def PK (H : Hp) : List Addr → List (Key × V) → Prop
  | [], [] => True
  | p :: ps, kv :: r => H p = some (.tup [kV kv.1, kv.2]) ∧ PK H ps r
  | _, _ => False
theorem PK.on {H H' : Hp} (k : ∀ b xs, H b = some (.tup xs) → H' b = some (.tup xs)) : ∀ {ps : List Addr} {r : List (Key × V)}, PK H ps r → PK H' ps r
  | [], [], _ => trivial
  | _ :: _, _ :: _, h => ⟨k _ _ h.1, PK.on k h.2⟩
theorem PK.snoc {H : Hp} {c : Addr} {kv : Key × V} (hc : H c = some (.tup [kV kv.1, kv.2])) : ∀ {ps : List Addr} {r : List (Key × V)}, PK H ps r → PK H (ps ++ [c]) (r ++ [kv])
  | [], [], _ => ⟨hc, trivial⟩
  | _ :: _, _ :: _, h => ⟨h.1, PK.snoc hc h.2⟩
theorem PK.len {H : Hp} : ∀ {ps : List Addr} {r : List (Key × V)}, PK H ps r → ps.length = r.length
  | [], [], _ => rfl
  | _ :: _, _ :: _, h => by rw [List.length_cons, List.length_cons, PK.len h.2]
theorem PK.paired {K : PySem.W.Frag} {H : Hp} : ∀ {ps : List Addr} {r : List (Key × V)}, PK H ps r → Paired (fun p kv => SqT K H p [kV kv.1, kv.2]) ps r
  | [], [], _ => .nil
  | _ :: _, _ :: _, h => .cons (SqT.of h.1) (PK.paired h.2)
/-! ### plain law: results that agree but for the name -/
theorem resT_congr {ρ ρ' : Str → Option Rs} : ∀ {t : T}, (∀ v ∈ nmsT t, ρ v = ρ' v) → Fm.resT ρ t = Fm.resT ρ' t
  | .num n, _ => rfl
  | .nam v, h => by
    show (ρ v).getD (.fail "zero") = (ρ' v).getD (.fail "zero")
    rw [h v (by simp [nmsT])]
  | .neg t, h => by
    show finT "minus" [Fm.resT ρ t] = finT "minus" [Fm.resT ρ' t]
    rw [resT_congr (t := t) h]
  | .op o a b, h => by
    show finT o [Fm.resT ρ a, Fm.resT ρ b] = finT o [Fm.resT ρ' a, Fm.resT ρ' b]
    rw [resT_congr (t := a) fun v hv => h v (List.mem_append_left _ hv), resT_congr (t := b) fun v hv => h v (List.mem_append_right _ hv)]
theorem free_ne {w : Str} {t : T} (h : hasN w t = false) : ∀ v ∈ nmsT t, v ≠ w := fun v hm z => by
  unfold hasN at h
  exact of_decide_eq_false h (z ▸ hm)
theorem bad_line_congr {w : Str} {ρ ρ' : Str → Option Rs} : ∀ t : T, (∀ v ∈ nmsT t, v ≠ w → ρ v = ρ' v) → badT w ρ t = badT w ρ' t ∧ lineT w ρ t = lineT w ρ' t := by
  have base : ∀ {t : T}, hasN w t = false → (∀ v ∈ nmsT t, v ≠ w → ρ v = ρ' v) → badT w ρ t = badT w ρ' t ∧ lineT w ρ t = lineT w ρ' t := fun {t} h k => by
    rw [badT_free h, badT_free h, lineT_free h, lineT_free h, resT_congr fun v hv => k v hv (free_ne h v hv)]
    exact ⟨rfl, rfl⟩
  intro t
  induction t with
  | num n => exact fun k => base rfl k
  | nam v =>
    intro k
    by_cases e : v = w
    · subst e
      unfold badT lineT
      simp
    · exact base (by simp [hasN, nmsT, Ne.symm e]) k
  | neg t ih =>
    intro k
    cases hn : hasN w t with
    | false => exact base hn k
    | true =>
      obtain ⟨a, b⟩ := ih k
      unfold badT lineT
      rw [if_pos hn, if_pos hn, if_pos hn, if_pos hn, a, b]
      exact ⟨rfl, rfl⟩
  | op o a b iha ihb =>
    intro k
    cases hn : (hasN w a || hasN w b) with
    | false => exact base (by rw [hasN_op]; exact hn) k
    | true =>
      obtain ⟨a1, a2⟩ := iha fun v hv => k v (List.mem_append_left _ hv)
      obtain ⟨b1, b2⟩ := ihb fun v hv => k v (List.mem_append_right _ hv)
      unfold badT lineT
      rw [if_pos hn, if_pos hn, if_pos hn, if_pos hn, a1, a2, b1, b2]
      exact ⟨rfl, rfl⟩
theorem res_vals {ρ : Str → Option Rs} : ∀ {t : T} {n : Int}, (∀ v ∈ nmsT t, ∃ r, ρ v = some r) → Fm.resT ρ t = .val n → ∀ v ∈ nmsT t, ∃ m, ρ v = some (.val m)
  | .num _, _, _, _, v, hv => nomatch hv
  | .nam u, n, hk, h, v, hv => by
    rw [List.mem_singleton.mp hv]
    obtain ⟨r, hr⟩ := hk u (by simp [nmsT])
    have h : (ρ u).getD (.fail "zero") = .val n := h
    rw [hr] at h
    have h : r = .val n := h
    exact ⟨n, by rw [hr, h]⟩
  | .neg t, n, hk, h, v, hv => by
    have h : finT "minus" [Fm.resT ρ t] = .val n := h
    cases ht : Fm.resT ρ t with
    | fail x => rw [ht] at h; cases h
    | val m => exact res_vals (t := t) hk ht v hv
  | .op o a b, n, hk, h, v, hv => by
    have h : finT o [Fm.resT ρ a, Fm.resT ρ b] = .val n := h
    cases ha : Fm.resT ρ a with
    | fail x => rw [ha] at h; cases h
    | val x =>
      cases hb : Fm.resT ρ b with
      | fail y => rw [ha, hb] at h; cases h
      | val y =>
        rcases List.mem_append.mp hv with z | z
        · exact res_vals (t := a) (fun v z => hk v (List.mem_append_left _ z)) ha v z
        · exact res_vals (t := b) (fun v z => hk v (List.mem_append_right _ z)) hb v z
theorem bad_vals {w : Str} {ρ : Str → Option Rs} : ∀ t : T, (∀ v ∈ nmsT t, v ≠ w → ∃ r, ρ v = some r) → badT w ρ t = [] → ∀ v ∈ nmsT t, v ≠ w → ∃ m, ρ v = some (.val m) := by
  have base : ∀ {t : T}, hasN w t = false → (∀ v ∈ nmsT t, v ≠ w → ∃ r, ρ v = some r) → badT w ρ t = [] → ∀ v ∈ nmsT t, v ≠ w → ∃ m, ρ v = some (.val m) := fun {t} h k hb v hv _ => by
    rw [badT_free h] at hb
    cases hr : Fm.resT ρ t with
    | fail x => rw [hr] at hb; cases hb
    | val n => exact res_vals (fun v hv => k v hv (free_ne h v hv)) hr v hv
  intro t
  induction t with
  | num n => exact fun _ _ v hv => nomatch hv
  | nam v =>
    intro k hb
    by_cases e : v = w
    · subst e
      intro u hu hne
      exact absurd (List.mem_singleton.mp hu) hne
    · exact base (by simp [hasN, nmsT, Ne.symm e]) k hb
  | neg t ih =>
    intro k hb
    cases hn : hasN w t with
    | false => exact base hn k hb
    | true =>
      unfold badT at hb
      rw [if_pos hn] at hb
      exact ih k hb
  | op o a b iha ihb =>
    intro k hb
    cases hn : (hasN w a || hasN w b) with
    | false => exact base (by rw [hasN_op]; exact hn) k hb
    | true =>
      unfold badT at hb
      rw [if_pos hn] at hb
      obtain ⟨ba, bb⟩ := List.append_eq_nil_iff.mp hb
      intro v hv hne
      rcases List.mem_append.mp hv with z | z
      · exact iha (fun v z => k v (List.mem_append_left _ z)) ba v z hne
      · exact ihb (fun v z => k v (List.mem_append_right _ z)) bb v z hne
theorem bad_zr {w : Str} {ρ : Str → Option Rs} (hw : ∀ v x, ρ v = some (.fail x) → x = "zero" ∨ x = "range") : ∀ (t : T) (x : Str), x ∈ badT w ρ t → x = "zero" ∨ x = "range" := by
  have base : ∀ {t : T} {x : Str}, x ∈ failR (Fm.resT ρ t) → x = "zero" ∨ x = "range" := fun {t x} h => by
    cases hr : Fm.resT ρ t with
    | val n => rw [hr] at h; cases h
    | fail y =>
      rw [hr] at h
      rw [List.mem_singleton.mp h]
      exact res_zr hw hr
  intro t
  induction t with
  | num n => exact fun x h => base h
  | nam v =>
    intro x h
    unfold badT at h
    split at h
    · cases h
    · exact base h
  | neg t ih =>
    intro x h
    unfold badT at h
    split at h
    · exact ih x h
    · exact base h
  | op o a b iha ihb =>
    intro x h
    unfold badT at h
    split at h
    · exact (List.mem_append.mp h).elim (iha x) (ihb x)
    · exact base h
theorem nok_ex {ν : Str → Int} : ∀ {t : T}, NOk t → (∀ v ∈ nmsT t, Fits 0 (ν v)) → ExOk ν t
  | .num n, h, _ => fits_zero (by have := h.1; omega) (by have := h.2; omega)
  | .nam w, _, h => h w (by simp [nmsT])
  | .neg t, h, k => nok_ex (t := t) h k
  | .op o a b, h, k => ⟨h.1, nok_ex h.2.1 fun v hv => k v (List.mem_append_left _ hv), nok_ex h.2.2 fun v hv => k v (List.mem_append_right _ hv)⟩
/-- a told list as data -/
theorem tell_data {K : PySem.W.Frag} {H : Hp} {m : Addr} {k u : Str} (sk : So k) (su : So u) (h : H m = some (.lst [.str k, .str u, .bl true])) : Dp K H (.ref m) (.list [.str k, .str u, .bool true]) ∧ SeqAt.shaped (.list [.str k, .str u, .bool true]) = true ∧
    PyData.eqv (.list [.str k, .str u, .bool true]) (.list [.str k, .str u, .bool true]) = true := by
  refine ⟨.lst (SqL.of h) (.cons (.str _) (.cons (.str _) (.cons (.bl _) .nil))), ?_, ?_⟩
  · simp only [SeqAt.shaped, PyData.canLay0, PyData.canLayAll0, sk.ok, su.ok, PyData.depth, PyData.depthAll]
    rfl
  · simp [PyData.eqv, PyData.eqvAll]
structure BltY3 (mg : Str → Option Value) : Prop where
  list : mg "list" = none
  range : mg "range" = none
  dict : mg "dict" = none
  len : mg "len" = none
  isinstance : mg "isinstance" = none
  tuple : mg "tuple" = none
def spPen1 (K : PySem.W.Frag) : Sp := fun vs H Q _ => match vs with
  | [.ref a] => ∃ ns : List Int, SqL K H a (ns.map V.int) ∧ ns.length ≤ 63 ∧ ∀ p H', Same H H' → PenB H' p (2 ^ 59) → Q (.ref p) H'
  | _ => False
abbrev sPen : Stmt := topS 23
abbrev nPen : List Str := ["_law_script"]
abbrev pPen : List Str := ["_law_script"]
theorem scPen : FnScope nPen pPen (defScope sPen) := ⟨rfl, rfl, rfl, by decide +kernel, rfl, by decide +kernel, by decide +kernel⟩
section
variable {P : Program} {w : World} {K : PySem.W.Frag} {mg : Str → Option Value} {base : Heap}
theorem ok_pen (B : BltY3 mg) (F : FunAt K mg "_law_pen" sPen pPen) : DefOk P w K mg base CX0 1 "_law_pen" pPen (spPen1 K) := by
  refine F.ok scPen (fun vs H Q E h => ?_) (fun f cdv A outer s H vs Q E hr h => ?_)
  · unfold spPen1 at h
    split at h
    · rfl
    · exact h.elim
  · refine ⟨_, (pss_one (ps_ret (pe_disp (pps_cons pe_str (pe_callTy call_list_of (by rfl) B.list (by decide +kernel) (pa_cons (pe_slice sl_list (cv 0) po_none (po_some pe_int)) pa_nil)) (pps_cons pe_str pe_int (pps_cons pe_str pe_int pps_nil))) (by rfl) (by rfl) (by simp) (by decide)))), ?_⟩
    unfold spPen1 at h
    split at h
    · rename_i a
      obtain ⟨ns, hs, hl, q⟩ := h
      intro p hp
      have s0 := same_new (o := .dK []) hp
      refine ⟨63, rfl, a, _, rfl, s0.seq hs, fun l hl => ⟨l, _, rfl, .inl (SqL.of upd_same), fun c hc => ?_⟩⟩
      have s1 := same_new (o := .lst (cutV (ns.map V.int) none (some 63))) hl
      have s2 := same_new (o := .lst (cutV (ns.map V.int) none (some 63))) hc
      refine ⟨s2 p _ (s1 p _ upd_same), [(kCells, .ref c), (kBegun, .int 0), (kRest, .int 0)], rfl, by show 3 ≤ 15; decide, ?_⟩
      have hb : ∀ b o, H b = some o → b ≠ p ∧ b ≠ l ∧ b ≠ c := fun b o z => ⟨ne_of_none z hp, ne_of_none (s0 b o z) hl, ne_of_none (s1 b o (s0 b o z)) hc⟩
      obtain ⟨ms, hm, hml⟩ : ∃ ms : List Int, cutV (ns.map V.int) none (some 63) = ms.map V.int ∧ ms.length ≤ 63 := by
        refine ⟨(ns.drop _).take _, by unfold cutV; rw [List.map_take, List.map_drop], ?_⟩
        rw [List.length_take, List.length_drop]
        omega
      have pc : p ≠ c := ne_of_none (s1 p _ upd_same) hc
      refine q p _ (fun b o z => ?_) ⟨c, ms, 0, 0, ⟨upd_same, ?_, hml, by decide, by decide⟩, by decide⟩
      · obtain ⟨n1, n2, n3⟩ := hb b o z
        rw [upd_ne n1]
        exact s2 b o (s1 b o (s0 b o z))
      · rw [upd_ne pc.symm, upd_same, hm]
    · exact h.elim
end
def spLaw (K : PySem.W.Frag) : Sp := fun vs H Q _ => match vs with
  | [.ref a] => ∃ ns : List Int, SqL K H a (ns.map V.int) ∧ ns.length ≤ 63 ∧ ∀ H', Q (.bl true) H'
  | _ => False
section
variable {P : Program} {w : World} {K : PySem.W.Frag} {mg : Str → Option Value} {base : Heap}
theorem fun_okG1 {x qual : Str} {st : Stmt} {N ps : List Str} {sp : Sp} {k : Nat} {f : Addr} {fd : FuncData} (F : Fun K x qual st f fd) (S : FnScope N ps (defScope st)) (len : ∀ vs H Q E, sp vs H Q E → vs.length = ps.length)
    (hbody : ∀ (cdv : Value) (A : Around) (outer : List Env) (s : Shared) (H : Hp) (vs : List V) (Q : VK) (E : XK), Gd A → Room k (A.deeper (envOfC qual (defScope st) s.heap.objs.size f cdv)) → sp vs H Q E →
      ∃ t, PSs (cxOf CX0 P w K mg base N qual (defScope st) f cdv A outer s H E).nox (defBody st) t ∧ t { nx := fun _ H' => Q .non H', rt := Q } (start N vs) H) : FnG P w K mg base CX0 (k + 1) f fd ps sp := by
  obtain ⟨oc, od, kV, doc, pm, an, cdv, ct, osl, rfl, lk, hcd⟩ := F.ex
  refine fnG_of lk hcd S len fun A outer s H vs Q E g hr hsp => ?_
  obtain ⟨t, h, q⟩ := hbody cdv A outer s H vs Q E g hr hsp
  exact ⟨t, h.nox, q⟩
end
end Rk

set_option Elab.async false
set_option linter.all false
set_option maxRecDepth 100000
set_option maxHeartbeats 8000000
set_option pp.maxSteps 200
namespace Rk
open PySem PySem.Spec PyProof.Rows L2 CL Fm LcR
abbrev sLaw : Stmt := topS 41
abbrev nLaw : List Str := ["_law_script", "_law_pen_here", "_law_bout", "_law_words", "_law_results_here", "_law_word", "_law_again", "_law_tree_here", "_law_text", "_law_formula_here", "_law_kept", "_law_other", "_law_told_here", "_law_failures_here", "_law_value", "_law_lacking"]
abbrev pLaw : List Str := ["_law_script"]
theorem scLaw : FnScope nLaw pLaw (defScope sLaw) := ⟨rfl, rfl, rfl, by decide +kernel, rfl, by decide +kernel, by decide +kernel⟩
structure Lf3 (P : Program) (w : World) (K : PySem.W.Frag) (mg : Str → Option Value) (base : Heap) (CF Cp fF : Addr) : Prop where
  gF : mg "Formula" = some (.ref CF)
  mkF : Mk K CF fF
  ini : ∃ fd, FnOk P w K mg base (L2.CX P w) 111 fF fd pFInit (spFInit K CF Cp) ∧ Binds K fd pFInit []
/-- ρ without the name -/
def offR (w : Str) (ρ : Str → Option Rs) : Str → Option Rs := fun u => if u = w then none else ρ u
section
variable {P : Program} {w : World} {K : PySem.W.Frag} {mg : Str → Option Value} {base : Heap}
theorem ok_law {CF Cp fF : Addr} {f : Addr} {fd : FuncData} (B : BltY3 mg) (T : Lf3 P w K mg base CF Cp fF) (DPen : DefOk P w K mg base CX0 1 "_law_pen" pPen (spPen1 K)) (D : DefOk P w K mg base CX0 5 "_law_draw" pDraw spDr) (DN : DefOk P w K mg base CX0 7 "_law_names" pNames spNames2) (DP : DefOk P w K mg base CX0 6 "_law_pick" pPick (spPick K))
    (DG : DefOk P w K mg base CX0 7 "_law_great" pGreat spGreat) (DA : DefOk P w K mg base CX0 6 "_law_around" pAround spAround) (DF : DefOk P w K mg base CX0 13 "_law_formula" pForm (spForm K)) (DR : DefOk P w K mg base CX0 8 "_law_results" pResults (spResults K)) (DRe : DefOk P w K mg base CX0 7 "_law_reads" pReads (spReads 6))
    (DTo : DefOk P w K mg base CX0 113 "_law_told" pTold3 (spTell CF)) (DFl : DefOk P w K mg base CX0 17 "_law_failures" pFls (spFls 6)) (DIs : DefOk P w K mg base CX0 14 "_law_is_line" pIsL (spIsL 6)) (DV : DefOk P w K mg base CX0 1 "_law_values" pVals3 spVals) (DE : DefOk P w K mg base CX0 7 "_law_exact" pEx (spExG 6))
    (F : Fun K "law" "law" sLaw f fd) : FnG P w K mg base CX0 115 f fd pLaw (spLaw K) := by
  obtain ⟨fdF, oF, bF⟩ := T.ini
  refine fun_okG1 F scLaw (fun vs H Q E h => ?_) (fun cdv A outer s H vs Q E hG hr h => ?_)
  · unfold spLaw at h
    split at h
    · rfl
    · exact h.elim
  · have hu := hu_of hr
    refine ⟨_, (pss_cons (ps_set (i := 1) scLaw.nd rfl (.inl rfl) (pe_def DPen hr (by decide) (pa_cons (cv 0) pa_nil)))
  (pss_cons (ps_for PassesOwn.never rfl (pi_range1 (by rfl) B.range (pa_cons pe_int pa_nil)) (pg_name (i := 2) scLaw.nd rfl (.inl rfl))
  (pss_cons (ps_set (i := 3) scLaw.nd rfl (.inl rfl) (pe_def DN hr (by decide) (pa_cons (cv 1) (pa_cons (pe_op c_addI pe_int (pe_def D hr (by decide) (pa_cons (cv 1) (pa_cons pe_int pa_nil)))) pa_nil))))
  (pss_cons (ps_asg (pe_tup (pa_cons (pe_def DR hr (by decide) (pa_cons (cv 1) (pa_cons (cv 3) pa_nil))) (pa_cons (pe_def DP hr (by decide) (pa_cons (cv 1) (pa_cons (cv 3) pa_nil))) pa_nil))) (pg_tup (by rfl) (pgs_cons (pg_name (i := 4) scLaw.nd rfl (.inr rfl)) (pgs_cons (pg_name (i := 5) scLaw.nd rfl (.inr rfl)) pgs_nil))))
  (pss_one (ps_for PassesOwn.never rfl (pi_range1 (by rfl) B.range (pa_cons pe_int pa_nil)) (pg_name (i := 6) scLaw.nd rfl (.inl rfl))
  (pss_cons (ps_asg (pe_def DF hr (by decide) (pa_cons (cv 1) (pa_cons (pe_def D hr (by decide) (pa_cons (cv 1) (pa_cons pe_int pa_nil))) (pa_cons (cv 3) pa_nil)))) (pg_tup (by rfl) (pgs_cons (pg_name (i := 7) scLaw.nd rfl (.inl rfl)) (pgs_cons (pg_name (i := 8) scLaw.nd rfl (.inl rfl)) pgs_nil))))
  (pss_cons (ps_par (i := 9) (j := 10) rfl scLaw.nd rfl rfl (by decide) rfl rfl (pa_cons (pe_make T.mkF oF (hr.mono (by decide)) (by rfl) T.gF bF .nil not_raised (pa_cons (cv 8) pa_nil)) (pa_cons (pe_callTy call_dictD (by rfl) B.dict (by decide +kernel) (pa_cons (cv 4) pa_nil)) pa_nil)) (by rfl))
  (pss_cut (ps_if (ct_cmp op_eq (pe_def D hr (by decide) (pa_cons (cv 1) (pa_cons pe_int pa_nil))) pe_int (nomark _))
  (pss_one (ps_set (i := 10) scLaw.nd rfl (.inl rfl) (pe_callTy (call_dictP (by rfl)) (by rfl) B.dict (by decide +kernel) (pa_cons (pe_lock (pe_lc (own := [("_law_other", 11)]) (g := gName 11) (by rfl) scLaw.nd (pi_keys (cv 4)) (blkOk_by (N := nLaw) (sc := (defScope sLaw)) (own := [("_law_other", 11)]) (by decide +kernel)) (fun _ _ _ _ _ => pg_name (i := 11) scLaw.nd rfl (Or.inl rfl)) (fun _ _ _ _ _ => (pts_one (ct_cmp op_ne (cv 11) (cv 5) (nomark _)))) (fun _ _ _ _ _ => (pe_tup (pa_cons (cv 11) (pa_cons (pe_dget hu (cv 4) (cv 11) (fun _ _ => rfl)) pa_nil)))))) pa_nil))))
  pss_nil)
  (pss_cons (ps_par (i := 12) (j := 13) rfl scLaw.nd rfl rfl (by decide) rfl rfl (pa_cons (pe_def DTo hr (by decide) (pa_cons (cv 9) (pa_cons (cv 5) (pa_cons (cv 10) pa_nil)))) (pa_cons (pe_def DFl hr (by decide) (pa_cons (cv 7) (pa_cons (cv 5) (pa_cons (cv 4) pa_nil)))) pa_nil)) (by rfl))
  (pss_cut (ps_if (pt_not (ct_val (pe_def DIs hr (by decide) (pa_cons (cv 7) (pa_cons (cv 5) pa_nil)))))
  (pss_one (ps_if (ct_cmp (op_neD hr.units) (cv 12) (pe_lst (pa_cons pe_str (pa_cons (cv 5) (pa_cons pe_bl pa_nil)))) (nomark _))
  (pss_one (ps_ret pe_bl))
  pss_nil))
  (pss_one (ps_if (ct_cmp (op_neD hr.units) (cv 13) (pe_lst pa_nil) (nomark _))
  (pss_one (ps_if (ct_cmp (op_neD hr.units) (cv 12) (pe_lst (pa_cons pe_str (pa_cons (pe_ix c_ixL (cv 13) pe_int (fun _ _ => rfl)) (pa_cons pe_bl pa_nil)))) (nomark _))
  (pss_one (ps_ret pe_bl))
  pss_nil))
  (pss_cons (ps_if (pt_cut (PW.pt (pw_or (pt_not (ct_val (pe_isi (m := .tuple) (by decide +kernel) B.isinstance B.tuple (by rfl) (by rfl) (cv 12)))) (pw_or1 (ct_cmp op_ne (pe_callB call_len_seq (by rfl) B.len (by decide +kernel) (pa_cons (cv 12) pa_nil)) pe_int (nomark _))))))
  (pss_one (ps_ret pe_bl))
  pss_nil)
  (pss_one (ps_for PassesOwn.never rfl (pi_list (pe_lst (pa_cons pe_int (pa_cons pe_int (pa_cons (pe_un c_neg pe_int) (pa_cons (pe_def DG hr (by decide) (pa_cons (cv 1) (pa_cons (pe_pow (z := 1000000000000000000000000000000) ⟨⟨by decide, by decide, by decide⟩, by decide +kernel⟩) pa_nil))) (pa_cons (pe_def DA hr (by decide) (pa_cons (cv 1) (pa_cons pe_int pa_nil))) pa_nil))))))) (pg_name (i := 14) scLaw.nd rfl (.inl rfl))
  (pss_one (ps_if (ct_cmp op_ne (pe_op c_addI (pe_op c_mulW (pe_ix ix_tup (cv 12) pe_int (fun _ _ => rfl)) (cv 14)) (pe_ix ix_tup (cv 12) pe_int (fun _ _ => rfl))) (pe_def DE hr (by decide) (pa_cons (cv 7) (pa_cons (pe_def DV hr (by decide) (pa_cons (cv 4) (pa_cons (cv 5) (pa_cons (cv 14) pa_nil)))) pa_nil))) (nomark _))
  (pss_one (ps_ret pe_bl))
  pss_nil))))))))
  (pss_cons (ps_setLc (i := 15) (own := [("_law_other", 11)]) (g := gName 11) (by rfl) scLaw.nd rfl rfl (sw_true rfl rfl rfl (by decide +kernel)) (pi_list (pe_def DRe hr (by decide) (pa_cons (cv 7) pa_nil))) (blkOk_by (N := nLaw) (sc := (defScope sLaw)) (own := [("_law_other", 11)]) (by decide +kernel)) (fun _ _ _ _ _ => pg_name (i := 11) scLaw.nd rfl (Or.inl rfl)) (fun _ _ _ _ _ => (pts_one (ct_cmp op_ne (cv 11) (cv 5) (nomark _)))) (fun _ _ _ _ _ => (cv 11)))
  (pss_cons (ps_set (i := 12) scLaw.nd rfl (.inl rfl) (pe_def DTo hr (by decide) (pa_cons (cv 9) (pa_cons (cv 5) (pa_cons (pe_disp (pps_cons (cv 5) (pe_dget hu (cv 4) (cv 5) (fun _ _ => rfl)) pps_nil) (by rfl) (by rfl) (by simp) (by decide)) pa_nil)))))
  (pss_one (ps_if (pt_cut (PW.pt (pw_and (ct_cmp (op_neD hr.units) (cv 15) (pe_lst pa_nil) (nomark _)) (pw_and1 (ct_cmp (op_neD hr.units) (cv 12) (pe_lst (pa_cons pe_str (pa_cons (pe_ix c_ixL (cv 15) pe_int (fun _ _ => rfl)) (pa_cons pe_bl pa_nil)))) (nomark _))))))
  (pss_one (ps_ret pe_bl))
  pss_nil))))))))))))))
  (pss_one (ps_ret pe_bl)))), ?_⟩
    unfold spLaw at h
    split at h
    · rename_i a
      obtain ⟨ns, hS, hl, q⟩ := h
      refine ⟨ns, hS, hl, fun p H1 s1 P1 => ?_⟩
      refine ⟨10, rfl, by decide, by decide, for_range (n := 10) (fun r σ H' => (∃ e2 e3 e4 e5 e6 e7 e8 e9 e10 e11 e12 e13 e14 e15, σ = [some (.ref a), some (.ref p), e2, e3, e4, e5, e6, e7, e8, e9, e10, e11, e12, e13, e14, e15]) ∧ PenB H' p ((10 - r) * 400000 + 10)) ⟨⟨_, _, _, _, _, _, _, _, _, _, _, _, _, _, rfl⟩, P1.mono (by decide)⟩ ?turn ?done⟩
      case done =>
        rintro σ H' ⟨⟨e2, e3, e4, e5, e6, e7, e8, e9, e10, e11, e12, e13, e14, e15, rfl⟩, PP⟩
        exact q H'
      case turn =>
        rintro r σ H2 hr10 ⟨⟨e2, e3, e4, e5, e6, e7, e8, e9, e10, e11, e12, e13, e14, e15, rfl⟩, P2⟩
        obtain ⟨kk, hkk⟩ : ∃ kk, kk = (10 - (r + 1)) * 400000 + 10 := ⟨_, rfl⟩
        rw [← hkk]
        have P2 : PenB H2 p (kk + 399995 + 5) := P2.mono (by omega)
        refine ⟨kk + 399995, P2, by decide, by decide, fun m H3 m0 m1 P3 b3 => ?_⟩
        refine ⟨kk + 399900, P3.mono (by omega), by omega, by omega, fun lw ws H4 hlw hnew hw hn hpos P4 b4 => ?_⟩
        have hpos := hpos (by omega)
        refine ⟨kk + 397800, ws, P4.mono (by omega), SqL.of hlw, hw, by omega, fun d L H5 hdn hRL hGL hLn hkeys P5 b5 => ?_⟩
        have dnp : d ≠ p := fun z => by
          obtain ⟨c, ns, b, r, PP, _⟩ := P4
          rw [z, PP.dict] at hdn
          cases hdn
        have hlw5 := b5.keep _ _ (P4.neL' hlw) hlw
        refine ⟨kk + 397700, ws.map V.str, P5.mono (by omega), SqL.of hlw5, by rw [List.length_map]; exact hpos, by rw [List.length_map]; omega, fun wv H6 hwv P6 b6 => ?_⟩
        obtain ⟨w0, hw0, rfl⟩ := List.mem_map.mp hwv
        have wd0 := hw w0 hw0
        have hR6 := resL_but dnp P5 b6 hRL
        have hlw6 := b6.keep _ _ (P5.neL' hlw5) hlw5
        refine ⟨by show 2 ≤ sizeLine; decide, fun c0 nc0 => ⟨c0, _, rfl, SqT.of upd_same, rfl, _, _, rfl, _, _, rfl, rfl, ?_⟩⟩
        have s7 := same_new (o := .tup [V.ref d, .str w0]) nc0
        have P7 := P6.same s7
        have hR7 := hR6.same s7
        have hlw7 := s7 _ _ hlw6
        generalize upd H6 c0 (.tup [V.ref d, .str w0]) = H7 at P7 hR7 hlw7
        refine ⟨5, rfl, by decide, by decide, for_range (n := 5) (fun i σ H' => (∃ e2 e6 e7 e8 e9 e10 e11 e12 e13 e14 e15, σ = [some (.ref a), some (.ref p), e2, some (.ref lw), some (.ref d), some (.str w0), e6, e7, e8, e9, e10, e11, e12, e13, e14, e15]) ∧ H' lw = some (.lst (ws.map V.str)) ∧ ResL H' d L ∧ PenB H' p (kk + (5 - i) * 60000)) ⟨⟨_, _, _, _, _, _, _, _, _, _, _, rfl⟩, hlw7, hR7, P7.mono (by omega)⟩ ?each ?fin⟩
        case fin =>
          rintro σ H' ⟨⟨e2, e6, e7, e8, e9, e10, e11, e12, e13, e14, e15, rfl⟩, _, _, PP⟩
          exact ⟨⟨_, _, _, _, _, _, _, _, _, _, _, _, _, _, rfl⟩, PP.mono (by omega)⟩
        case each =>
          rintro i σ H7 hi5 ⟨⟨e2, e6, e7, e8, e9, e10, e11, e12, e13, e14, e15, rfl⟩, hl7, hR7, P7⟩
          obtain ⟨k1, hk1⟩ : ∃ k1, k1 = kk + (5 - (i + 1)) * 60000 := ⟨_, rfl⟩
          rw [← hk1]
          have P7 : PenB H7 p (k1 + 59995 + 5) := P7.mono (by
            have : 5 - i = (5 - (i + 1)) + 1 := by omega
            rw [hk1, this, Nat.succ_mul]
            omega)
          refine ⟨k1 + 59995, P7, by decide, by decide, fun dd H8 d0 d1 P8 b8 => ?_⟩
          have hl8 := b8.keep _ _ (P7.neL' hl7) hl7
          refine ⟨k1 + 30000, ws, P8.mono (by omega), d0, by omega, SqL.of hl8, hw, hn, fun fa v t s H9 hfa lt tk td ft sl P9 b9 => ?_⟩
          have hl9 := b9.keep _ _ (P8.neL' hl8) hl8
          have hR9 : ResL H9 d L := resL_but dnp P8 b9 (resL_but dnp P7 b8 hR7)
          obtain ⟨j, hwh⟩ := whole_tex hw ft tk sl
          have n16 : (nmsT t).length ≤ 16 := Nat.le_trans (nms_len t) (Nat.pow_le_pow_right (by decide) td)
          have nok := tk.nok
          have hso : ∀ u ∈ nmsT t, So u := fun u hu => .wd (hw u (tk.names u hu))
          have keyed : ∀ u ∈ nmsT t, ∃ r, ρOf L u = some r := fun u hu => ρ_some ((hkeys u).mpr (tk.names u hu))
          refine ⟨fa, _, rfl, SqT.of hfa, rfl, _, _, rfl, _, _, rfl, rfl, ?_⟩
          intro x dx nx ndx _
          refine make_at hwh sl (by omega) nx ndx fun H10 sm10 fm => ?_
          obtain ⟨kvs, hd10, rk10⟩ := hR9.same sm10
          refine ⟨d, kvs, rfl, .inl hd10, fun c nc => ⟨_, _, rfl, ?_⟩⟩
          have s11 := same_new (o := .dK kvs) nc
          have S911 := sm10.trans s11
          have hc11 : ResL (upd H10 c (.dK kvs)) c L := ⟨kvs, upd_same, rk10.on fun b xs e => s11 _ _ e⟩
          have hR11 := hR9.same S911
          have P11 := P9.same S911
          have fm11 := fm.same s11
          have lt11 := lt.same S911
          have hl11 := S911 _ _ hl9
          generalize upd H10 c (.dK kvs) = H11 at hc11 hR11 P11 fm11 lt11 hl11
          refine ⟨fun σ' H' => ∃ (c' : Addr) (ρ' : Str → Option Rs), σ' = [some (.ref a), some (.ref p), e2, some (.ref lw), some (.ref d), some (.str w0), some (.int (0 + (i : Int))), some v, some (.str s), some (.ref x), some (.ref c'), e11, e12, e13, e14, e15] ∧ ResD H' c' ρ' ∧ (∀ u, u ≠ w0 → ρ' u = ρOf L u) ∧ RB ρ' ∧
            H' lw = some (.lst (ws.map V.str)) ∧ ResL H' d L ∧ FmAt CF H' x s t (nmsT t) ∧ LTr H' v t ∧ PenB H' p (k1 + 29000), ?first, ?second⟩
          case first =>
            refine ⟨k1 + 29990, P11.mono (by omega), by decide, by decide, fun b H12 b0 b1 P12 b12 => ⟨rfl, ?_⟩⟩
            have hl12 := b12.keep _ _ (P11.neL' hl11) hl11
            have hR12 := resL_but dnp P11 b12 hR11
            have fm12 := fm_but P11 b12 fm11
            have lt12 : LTr H12 v t := lt11.on fun b xs e => b12.keep _ _ (P11.ne e fun _ z => nomatch z) e
            have cnp : c ≠ p := fun z => by
              obtain ⟨c3, ns, b, r, PP, _⟩ := P9.same sm10
              rw [z, PP.dict] at nc
              cases nc
            have hc12 := resL_but cnp P11 b12 hc11
            show if decide (V.int b = V.int 0) = true then _ else _
            by_cases hb : decide (V.int b = V.int 0) = true
            · rw [if_pos hb]
              have hR12' := hR12
              obtain ⟨kv2, hd12, rk12⟩ := hR12
              refine ⟨d, _, hd12, trivial, fun od => ?_⟩
              have hd13 : upd H12 d (.frz od (.dK kv2)) d = some (.frz od (.dK kv2)) := upd_same
              have k13 : ∀ b o, b ≠ d → H12 b = some o → upd H12 d (.frz od (.dK kv2)) b = some o := fun b o n h => by rw [upd_ne n]; exact h
              have kt : ∀ b xs, H12 b = some (.tup xs) → b ≠ d := fun b xs h => ne_of h hd12 fun z => nomatch z
              generalize hH13 : upd H12 d (.frz od (.dK kv2)) = H13 at hd13 k13
              refine ⟨d, od, rfl, .inl ⟨kv2, hd13, fun E1 nE => ?_⟩⟩
              have dE : d ≠ E1 := ne_of_none hd13 nE
              refine itc_keys (fun j H' => ∃ (ps : List Addr) (prs : List (Key × V)), H' E1 = some (.lst (ps.map V.ref)) ∧ PK H' ps prs ∧ prs.length ≤ j ∧ (∀ q ∈ prs, ∃ u, q.1 = kS u ∧ u ≠ w0 ∧ valV kv2 (kS u) = some q.2) ∧ (∀ j' k v, j' < j → kv2[j']? = some (k, v) → k ≠ kS w0 → k ∈ prs.map (·.1)) ∧ Off E1 H13 H')
                ⟨[], [], upd_same, trivial, Nat.le_refl _, (fun q hq => nomatch hq), (fun j' k v hj => absurd hj (by omega)), fun b o n h => by rw [upd_ne n]; exact h⟩
                (fun j H' hj ⟨ps, prs, p1, p2, p3, p4, p5, p6⟩ => p6 _ _ dE hd13) ?turnD ?doneD
              case turnD =>
                rintro j k v3 H14 hk ⟨ps, prs, p1, p2, p3, p4, p5, p6⟩
                obtain ⟨u, r0, hLj, rfl⟩ := rk_key rk12 hk
                refine ⟨rfl, rfl, ?_⟩
                have hd14 := p6 _ _ dE hd13
                show if (!decide (V.str u = V.str w0)) = true then _ else _
                by_cases hu0 : u = w0
                · rw [if_neg (by rw [decide_eq_true (by rw [hu0])]; decide)]
                  refine ⟨ps, prs, p1, p2, by omega, p4, fun j' k v hj hk' hne => ?_, p6⟩
                  by_cases hjj : j' < j
                  · exact p5 j' k v hjj hk' hne
                  · have : j' = j := by omega
                    subst this
                    rw [hk] at hk'
                    cases hk'
                    exact absurd (by rw [hu0]) hne
                · rw [if_pos (by rw [decide_eq_false (fun z => hu0 (V.str.inj z))] <;> rfl)]
                  have gk := rk12.get u
                  obtain ⟨r, hr0⟩ := ρ_some (List.mem_map.mpr ⟨_, List.mem_of_getElem? hLj, rfl⟩ : u ∈ L.map (·.1))
                  rw [hr0] at gk
                  obtain ⟨v0, e1, e2v⟩ := gk
                  have dg : DGet H14 d (kV (kS u)) (some v0) := .inl ⟨kv2, kS u, .inr ⟨od, hd14⟩, rfl, e1.symm⟩
                  refine ⟨d, v0, rfl, dg, by show 2 ≤ sizeLine; decide, fun c3 nc3 => ?_⟩
                  have p1c := same_new (o := .tup [.str u, v0]) nc3 _ _ p1
                  have cE : c3 ≠ E1 := (ne_of_none p1 nc3).symm
                  have kk2 : ∀ z ys, H14 z = some (.tup ys) → upd (upd H14 c3 (.tup [.str u, v0])) E1 (.lst (ps.map V.ref ++ [.ref c3])) z = some (.tup ys) := fun z ys h => by
                    rw [upd_ne (ne_of h p1 fun z => nomatch z)]; exact same_new nc3 _ _ h
                  refine ⟨_, p1c, ?_, ps ++ [c3], prs ++ [(kS u, v0)], by rw [upd_same, List.map_append] <;> rfl, (p2.on kk2).snoc (by rw [upd_ne cE]; exact upd_same), by rw [List.length_append]; exact Nat.succ_le_succ p3, fun q hq => ?_, fun j' k v hj hk' hne => ?_, fun z o n h => by rw [upd_ne n]; exact same_new nc3 _ _ (p6 z o n h)⟩
                  · rw [List.length_map, p2.len]
                    have : j < kv2.length := (List.getElem?_eq_some_iff.mp hk).1
                    have := rk12.len
                    exact Nat.lt_of_le_of_lt (show prs.length ≤ 30 by omega) (by decide)
                  · rcases List.mem_append.mp hq with hq | hq
                    · exact p4 q hq
                    · rw [List.mem_singleton.mp hq]
                      exact ⟨u, rfl, hu0, e1⟩
                  · rw [List.map_append]
                    by_cases hjj : j' < j
                    · exact List.mem_append_left _ (p5 j' k v hjj hk' hne)
                    · have : j' = j := by omega
                      subst this
                      rw [hk] at hk'
                      cases hk'
                      exact List.mem_append_right _ (by simp)
              case doneD =>
                rintro H14 ⟨ps, prs, p1, p2, p3, p4, p5, p6⟩
                have hd14 := p6 _ _ dE hd13
                refine ⟨hd14, ?_⟩
                have S12 : Same H12 (upd H14 d (.dK kv2)) := fun b o h => by
                  by_cases hb : b = d
                  · subst hb
                    rw [hd12] at h
                    cases h
                    exact upd_same
                  · rw [upd_ne hb]
                    exact p6 _ _ (ne_of_none (k13 _ _ hb h) nE) (k13 _ _ hb h)
                have p1' : upd H14 d (.dK kv2) E1 = some (.lst (ps.map V.ref)) := by rw [upd_ne dE.symm]; exact p1
                have p2' : PK (upd H14 d (.dK kv2)) ps prs := p2.on fun b xs h => by rw [upd_ne (ne_of h hd14 fun z => nomatch z)]; exact h
                generalize upd H14 d (.dK kv2) = H15 at S12 p1' p2'
                refine ⟨E1, ps, prs, rfl, SqL.of p1', p2'.paired, fun d2 nd2 => ?_⟩
                have sd := same_new (o := .dK (mergeK [] prs)) nd2
                have S := S12.trans sd
                refine ⟨d2, offR w0 (ρOf L), rfl, ⟨mergeK [] prs, upd_same, fun u => ?_⟩, fun u hu0 => if_neg hu0, fun u n e => ?_, S _ _ hl12, hR12'.same S, fm12.same S, lt12.same S, (P12.same S).mono (by omega)⟩
                · have mg := merge_get (f := fun x => (valV kv2 (kS x)).getD .non) (u := u) (ps := prs) (acc := []) fun q hq => by
                    obtain ⟨x, e1, e2, e3⟩ := p4 q hq
                    exact ⟨x, e1, by rw [e3] <;> rfl⟩
                  unfold offR
                  by_cases hu0 : u = w0
                  · rw [if_pos hu0]
                    refine mg.2 fun hm => ?_
                    obtain ⟨q, hq, e⟩ := List.mem_map.mp hm
                    obtain ⟨x, e1, e2, _⟩ := p4 q hq
                    rw [e1] at e
                    have : x = u := by injection e
                    exact e2 (this.trans hu0)
                  · rw [if_neg hu0]
                    have gk := rk12.get u
                    cases hr : ρOf L u with
                    | none =>
                      rw [hr] at gk
                      refine mg.2 fun hm => ?_
                      obtain ⟨q, hq, e⟩ := List.mem_map.mp hm
                      obtain ⟨x, e1, _, e3⟩ := p4 q hq
                      rw [e1] at e
                      have : x = u := by injection e
                      rw [this, gk] at e3
                      cases e3
                    | some r =>
                      rw [hr] at gk
                      obtain ⟨v0, e1, e2⟩ := gk
                      have hin : kS u ∈ prs.map (·.1) := by
                        have : kS u ∈ kv2.map (·.1) := valV_in e1
                        obtain ⟨q, hq, e⟩ := List.mem_map.mp this
                        obtain ⟨j', hj', ej⟩ := List.mem_iff_getElem.mp hq
                        have := p5 j' q.1 q.2 hj' (by rw [List.getElem?_eq_getElem hj', ej]) (by rw [e]; exact fun z => hu0 (by injection z))
                        rw [e] at this
                        exact this
                      exact ⟨v0, by rw [mg.1 hin, e1] <;> rfl, e2.same S⟩
                · unfold offR at e
                  split at e
                  · cases e
                  · exact hGL.rb u n e
            · rw [if_neg hb]
              exact ⟨c, ρOf L, rfl, hc12.res, (fun _ _ => rfl), hGL.rb, hl12, hR12, fm12, lt12, P12.mono (by omega)⟩
          case second =>
            rintro σ' H12 ⟨c', ρ', rfl, hc, hρ, hB, hl12, hR12, fm12, lt12, P12⟩
            obtain ⟨dx1, fv, fl, fp, ys, h1, h2, h3, h4, h5, h6⟩ := id fm12
            refine ⟨dx1, fv, fl, s, fp, t, nmsT t, ρ', h1, h3, h2, by omega, nok, by omega, hc, hB, (fun u hu => hu), fun tv H13 s13 htv => ?_⟩
            refine ⟨t, ρOf L, lt12.same s13, by omega, by omega, nok, (hR12.same s13).res, hGL.rb, good_rw hGL, keyed, fun fls H14 nfl hfl s14 => ⟨_, _, rfl, ?_⟩⟩
            have htv14 : TellV H14 tv (toldT w0 ρ' (nmsT t) t) := by
              cases htt : toldT w0 ρ' (nmsT t) t with
              | inl pr => rw [htt] at htv; obtain ⟨m1, e, h⟩ := htv; exact ⟨m1, e, s14 _ _ h⟩
              | inr pr => rw [htt] at htv; obtain ⟨m1, e, h⟩ := htv; exact ⟨m1, e, s14 _ _ h⟩
            have S14 := s13.trans s14
            have hR14 := hR12.same S14
            have fm14 := fm12.same S14
            have lt14 := lt12.same S14
            have hl14 := S14 _ _ hl12
            have P14 := P12.same S14
            have cong := bad_line_congr (w := w0) (ρ := ρ') (ρ' := ρOf L) t fun u _ hne => hρ u hne
            have tt : toldT w0 ρ' (nmsT t) t = if linT w0 t = true then (match badT w0 (ρOf L) t with
                | x :: _ => .inl ("failed", x)
                | [] => .inr (lineT w0 (ρOf L) t)) else .inl ("bent", w0) := by
              have g : goneB (fun u => (ρ' u).isSome || decide (u ∈ [w0])) (nmsT t) = none := by
                unfold goneB
                rw [List.find?_eq_none]
                intro u hu
                show ¬ (!((ρ' u).isSome || decide (u ∈ [w0]))) = true
                by_cases hu0 : u = w0
                · rw [decide_eq_true (List.mem_singleton.mpr hu0), Bool.or_true]
                  exact Bool.false_ne_true
                · obtain ⟨r, e⟩ := keyed u hu
                  rw [hρ u hu0, e]
                  exact Bool.false_ne_true
              unfold toldT
              rw [g, cong.1, cong.2] <;> rfl
            rw [tt] at htv14
            clear hc
            refine ⟨fun σ' H' => (∃ e12 e13 e14, σ' = [some (.ref a), some (.ref p), e2, some (.ref lw), some (.ref d), some (.str w0), some (.int (0 + (i : Int))), some v, some (.str s), some (.ref x), some (.ref c'), e11, e12, e13, e14, e15]) ∧
              H' lw = some (.lst (ws.map V.str)) ∧ ResL H' d L ∧ FmAt CF H' x s t (nmsT t) ∧ LTr H' v t ∧ PenB H' p (k1 + 18000), ?tests, ?behind⟩
            case tests =>
              refine ⟨t, lt14, by omega, by omega, nok, hso, fun H15 s15 => ?_⟩
              have S15 := S14.trans s15
              have fin : ∀ k' H', k' ≤ 20000 → Same H15 H' → (H' lw = some (.lst (ws.map V.str)) ∧ ResL H' d L ∧ FmAt CF H' x s t (nmsT t) ∧ LTr H' v t ∧ PenB H' p (k1 + k')) := fun k' H' hk' sm => ⟨sm _ _ (s15 _ _ hl14), hR14.same (s15.trans sm), fm14.same (s15.trans sm), lt14.same (s15.trans sm), (P14.same (s15.trans sm)).mono (by omega)⟩
              cases hL : linT w0 t with
              | false =>
                rw [hL, if_neg Bool.false_ne_true] at htv14
                obtain ⟨m1, rfl, hm1⟩ := htv14
                show if (!false) = true then _ else _
                rw [if_pos (by decide)]
                refine ⟨by show 3 ≤ sizeLine; decide, fun m2 nm2 => ?_⟩
                have sm2 := same_new (o := .lst [V.str "bent", .str w0, .bl true]) nm2
                obtain ⟨q1, q2, q3⟩ := tell_data (K := K) (.lit "bent") (.wd wd0) (sm2 _ _ (s15 _ _ hm1))
                obtain ⟨q4, _, _⟩ := tell_data (K := K) (H := upd H15 m2 (.lst [V.str "bent", .str w0, .bl true])) (.lit "bent") (.wd wd0) upd_same
                refine ⟨_, _, q1, q4, q2, q2, ?_⟩
                rw [q3]
                show if false = true then _ else _
                rw [if_neg Bool.false_ne_true]
                exact ⟨⟨_, _, _, rfl⟩, fin 18000 _ (by decide) sm2⟩
              | true =>
                rw [hL, if_pos rfl] at htv14
                show if (!true) = true then _ else _
                rw [if_neg (by decide)]
                have fso : ∀ u ∈ badT w0 (ρOf L) t, So u := fun u hu => by
                  rcases bad_zr (good_zr hGL) t u hu with rfl | rfl <;> exact .lit _
                have hfl15 := s15 _ _ hfl
                refine ⟨by show 0 ≤ sizeLine; decide, fun z nz => ⟨.list (stD (badT w0 (ρOf L) t)), .list [], .lst (SqL.of (same_new nz _ _ hfl15)) (st_dp _), .lst (SqL.of upd_same) .nil, st_sh fso, by rfl, ?_⟩⟩
                rw [st_nil]
                have sz := same_new (o := .lst []) nz
                have hfl16 := sz _ _ hfl15
                cases hb : badT w0 (ρOf L) t with
                | cons x0 r0 =>
                  rw [hb] at htv14
                  obtain ⟨m1, rfl, hm1⟩ := htv14
                  rw [hb] at hfl16
                  have sx : So x0 := fso x0 (by rw [hb]; exact List.mem_cons_self)
                  show if (!decide (x0 :: r0 = [])) = true then _ else _
                  rw [if_pos (by rw [decide_eq_false (fun z => nomatch z)] <;> rfl)]
                  refine ⟨_, .str x0, SqL.of hfl16, atI_hd, by show 3 ≤ sizeLine; decide, fun m2 nm2 => ?_⟩
                  have sm2 := same_new (o := .lst [V.str "failed", .str x0, .bl true]) nm2
                  obtain ⟨q1, q2, q3⟩ := tell_data (K := K) (.lit "failed") sx (sm2 _ _ (sz _ _ (s15 _ _ hm1)))
                  obtain ⟨q4, _, _⟩ := tell_data (K := K) (H := upd (upd H15 z (.lst [])) m2 (.lst [V.str "failed", .str x0, .bl true])) (.lit "failed") sx upd_same
                  refine ⟨_, _, q1, q4, q2, q2, ?_⟩
                  rw [q3]
                  show if false = true then _ else _
                  rw [if_neg Bool.false_ne_true]
                  exact ⟨⟨_, _, _, rfl⟩, fin 18000 _ (by decide) (sz.trans sm2)⟩
                | nil =>
                  rw [hb] at htv14
                  obtain ⟨m1, rfl, hm1⟩ := htv14
                  show if (!decide (([] : List Str) = [])) = true then _ else _
                  rw [if_neg (by rw [decide_eq_true rfl]; exact Bool.false_ne_true)]
                  have hm16 := sz _ _ (s15 _ _ hm1)
                  have f16 := fin 20000 _ (by decide) sz
                  generalize upd H15 z (.lst []) = H16 at hm16 f16
                  refine ⟨fun c H' => c = false ∧ H' = H16, ?len, ?loop⟩
                  case len =>
                    refine ⟨.tuple, .tup (SqT.of hm16), ?_⟩
                    show if (!true) = true then _ else _
                    rw [if_neg (by decide)]
                    refine ⟨m1, _, rfl, .inr (SqT.of hm16), rfl, ?_, rfl⟩
                    show (!decide (V.int 2 = V.int 2)) = false
                    rw [decide_eq_true rfl] <;> rfl
                  case loop =>
                    rintro c H' ⟨rfl, rfl⟩
                    show if false = true then _ else _
                    rw [if_neg Bool.false_ne_true]
                    obtain ⟨g1, g2, g3, g4, g5⟩ := f16
                    refine ⟨k1 + 19900, g5.mono (by omega), by decide, by decide, fun gr H17 gr0 gr1 P17 b17 => ?_⟩
                    refine ⟨k1 + 19800, P17.mono (by omega), by decide, by decide, fun ar H18 ar0 ar1 P18 b18 => ?_⟩
                    refine ⟨by show 5 ≤ sizeLine; decide, fun LL nLL => ⟨LL, rfl, ⟨_, SqL.of upd_same⟩, ?_⟩⟩
                    have b1618 := b17.trans b18
                    have sL := same_new (o := .lst [V.int 0, .int 1, .int (-3), .int gr, .int ar]) nLL
                    have hm19 := sL _ _ (b1618.keep _ _ (g5.ne hm16 fun _ z => nomatch z) hm16)
                    have hl19 := sL _ _ (b1618.keep _ _ (g5.neL' g1) g1)
                    have hR19 := (resL_but dnp g5 b1618 g2).same sL
                    have fm19 := (fm_but g5 b1618 g3).same sL
                    have lt19 : LTr (upd H18 LL (.lst [V.int 0, .int 1, .int (-3), .int gr, .int ar])) v t := (g4.on fun b xs e => b1618.keep _ _ (g5.ne e fun _ z => nomatch z) e : LTr H18 v t).same sL
                    have P19 := P18.same sL
                    have hLL : upd H18 LL (.lst [V.int 0, .int 1, .int (-3), .int gr, .int ar]) LL = some (.lst [V.int 0, .int 1, .int (-3), .int gr, .int ar]) := upd_same
                    generalize upd H18 LL (.lst [V.int 0, .int 1, .int (-3), .int gr, .int ar]) = H19 at hm19 hl19 hR19 fm19 lt19 P19 hLL
                    refine for_list (xs := [V.int 0, .int 1, .int (-3), .int gr, .int ar]) (fun j σ H' => (∃ e14, σ = [some (.ref a), some (.ref p), e2, some (.ref lw), some (.ref d), some (.str w0), some (.int (0 + (i : Int))), some v, some (.str s), some (.ref x), some (.ref c'), e11, some (.ref m1), some (.ref fls), e14, e15]) ∧ Same H19 H')
                      ⟨⟨_, rfl⟩, Same.refl _⟩ (fun j σ H' _ h => SqL.of (h.2 _ _ hLL)) ?val ?out
                    case out =>
                      rintro σ H' ⟨⟨e14', rfl⟩, s20⟩
                      exact ⟨⟨_, _, _, rfl⟩, s20 _ _ hl19, hR19.same s20, fm19.same s20, lt19.same s20, (P19.same s20).mono (by omega)⟩
                    case val =>
                      rintro j y σ H20 hy ⟨⟨e14', rfl⟩, s20⟩
                      obtain ⟨n, rfl, sn⟩ : ∃ n, y = .int n ∧ Small n := by
                        have hm := List.mem_of_getElem? hy
                        simp only [List.mem_cons, List.not_mem_nil, or_false] at hm
                        rcases hm with rfl | rfl | rfl | rfl | rfl
                        · exact ⟨_, rfl, by decide, by decide⟩
                        · exact ⟨_, rfl, by decide, by decide⟩
                        · exact ⟨_, rfl, by decide, by decide⟩
                        · exact ⟨_, rfl, by omega, by omega⟩
                        · exact ⟨_, rfl, by omega, by omega⟩
                      have hm20 := s20 _ _ hm19
                      have lf := line_lf (w := w0) hGL.rb t
                      obtain ⟨ν, hν⟩ : ∃ ν : Str → Int, ν = fun u => if u = w0 then n else (numR (ρOf L u)).getD 0 := ⟨_, rfl⟩
                      have νw : ν w0 = n := by rw [hν]; exact if_pos rfl
                      have νu : ∀ u m, u ≠ w0 → ρOf L u = some (.val m) → ν u = m := fun u m hne e => by
                        rw [hν]
                        show (if u = w0 then n else (numR (ρOf L u)).getD 0) = m
                        rw [if_neg hne, e] <;> rfl
                      have vals := bad_vals (w := w0) t (fun u hu _ => keyed u hu) hb
                      have exok : ExOk ν t := nok_ex nok fun u hu => by
                        have fz : ∀ {z : Int}, Small z → Fits 0 z := fun {z} h => by obtain ⟨a, b⟩ := h; exact fits_zero (by omega) (by omega)
                        by_cases hu0 : u = w0
                        · rw [hu0, νw]; exact fz sn
                        · obtain ⟨m, e⟩ := vals u hu hu0
                          rw [νu u m hu0 e]
                          exact fz (hGL.rb u m e)
                      have eq := line_exact (w := w0) (ρ := ρOf L) (ν := ν) (t := t) (fun u _ hne m e => νu u m hne e) (fun u hu _ => keyed u hu) hL hb
                      rw [νw] at eq
                      refine ⟨m1, _, 0, .int (lineT w0 (ρOf L) t).1, rfl, rfl, SqT.of hm20, rfl, lf_mulW (lf_up lf.1 (show dep t ≤ 6 by omega)) (lf_small sn 6) (by decide), m1, _, 1, .int (lineT w0 (ρOf L) t).2, rfl, rfl, SqT.of hm20, rfl, ?_⟩
                      refine ⟨L, hR19.same s20, hLn, fun d' kv' H21 s21 hd' hk' hu' => ?_⟩
                      refine ⟨t, ν, kv', (lt19.same s20).same s21, by omega, by omega, exok, hd', fun u hu => ?_, fun H22 s22 => ⟨rfl, ?_⟩⟩
                      · by_cases hu0 : u = w0
                        · rw [hu0, νw]; exact hk'
                        · obtain ⟨m, e⟩ := vals u hu hu0
                          rw [νu u m hu0 e]
                          exact hu' u m hu0 e
                      · show if (!decide (V.int ((lineT w0 (ρOf L) t).1 * n + (lineT w0 (ρOf L) t).2) = V.int (exT ν t))) = true then _ else _
                        rw [if_neg (by rw [eq, decide_eq_true rfl]; decide)]
                        exact ⟨⟨_, rfl⟩, (s20.trans s21).trans s22⟩
            case behind =>
              rintro σ' H15 ⟨⟨e12', e13', e14', rfl⟩, hl15, hR15, fm15, lt15, P15⟩
              refine ⟨t, lt15, by omega, by omega, nok, fun rl H16 nrl hrl s16 => ⟨rl, rfl, ⟨_, SqL.of hrl⟩, fun E1 nE => ?_⟩⟩
              refine lc_list (a := rl) (xs := (nmsT t).map V.str) (fun j H' => H' E1 = some (.lst ((((nmsT t).take j).filter fun u => !decide (u = w0)).map V.str)) ∧ Off E1 H16 H') ⟨by rw [List.take_zero]; exact upd_same, fun b o n h => by rw [upd_ne n]; exact h⟩
                (fun j H' hj ⟨p1, p2⟩ => SqL.of (p2 _ _ (ne_of_none hrl nE) hrl)) ?turnL ?restL
              case turnL =>
                rintro j y H17 hy ⟨p1, p2⟩
                rw [List.getElem?_map] at hy
                obtain ⟨u, hu, rfl⟩ := Option.map_eq_some_iff.mp hy
                refine ⟨rfl, rfl, ?_⟩
                have ap : ((nmsT t).take (j + 1)).filter (fun u => !decide (u = w0)) = ((nmsT t).take j).filter (fun u => !decide (u = w0)) ++ if u = w0 then [] else [u] := by
                  rw [List.take_add_one, hu, List.filter_append]
                  by_cases hz : u = w0 <;> simp [hz]
                show if (!decide (V.str u = V.str w0)) = true then _ else _
                by_cases hu0 : u = w0
                · rw [if_neg (by rw [decide_eq_true (by rw [hu0])]; decide)]
                  refine ⟨?_, p2⟩
                  rw [ap, if_pos hu0, List.append_nil]
                  exact p1
                · rw [if_pos (by rw [decide_eq_false (fun z => hu0 (V.str.inj z))] <;> rfl)]
                  refine ⟨_, p1, ?_, ?_, fun c o n h => by rw [upd_ne n]; exact p2 c o n h⟩
                  · rw [List.length_map]
                    refine Nat.lt_of_le_of_lt (show _ ≤ 16 from ?_) (by decide)
                    refine Nat.le_trans (List.length_filter_le _ _) ?_
                    rw [List.length_take]
                    omega
                  · rw [upd_same, ap, if_neg hu0, List.map_append] <;> rfl
              case restL =>
                rintro H17 ⟨p1, p2⟩
                rw [List.length_map, List.take_of_length_le (Nat.le_refl _)] at p1
                have S17 := s16.trans (p2.same (Same.refl _) nE)
                obtain ⟨r0, hr0⟩ := ρ_some ((hkeys w0).mpr hw0)
                obtain ⟨kv3, hd17, rk17⟩ := hR15.same S17
                have gk := rk17.get w0
                rw [hr0] at gk
                obtain ⟨v0, ev0, rv0⟩ := gk
                intro D1 nD1
                have sD := same_new (o := .dK []) nD1
                have dg : DGet (upd H17 D1 (.dK [])) d (kV (kS w0)) (some v0) := .inl ⟨kv3, kS w0, .inl (sD _ _ hd17), rfl, ev0.symm⟩
                refine ⟨d, v0, rfl, dg, upd_same, [(kS w0, v0)], rfl, by show 1 ≤ 15; decide, ?_⟩
                have S18 : Same H17 (upd (upd H17 D1 (.dK [])) D1 (.dK (mergeK [] [(kS w0, v0)]))) := fun b o h => by
                  have := ne_of_none h nD1
                  rw [upd_ne this, upd_ne this]; exact h
                have hD18 : upd (upd H17 D1 (.dK [])) D1 (.dK (mergeK [] [(kS w0, v0)])) D1 = some (.dK (mergeK [] [(kS w0, v0)])) := upd_same
                generalize upd (upd H17 D1 (.dK [])) D1 (.dK (mergeK [] [(kS w0, v0)])) = H18 at S18 hD18
                have S1518 := S17.trans S18
                obtain ⟨dx1, fv, fl, fp, ys, h1, h2, h3, h4, h5, h6⟩ := fm15.same S1518
                obtain ⟨ρ3, hρ3⟩ : ∃ ρ3 : Str → Option Rs, ρ3 = fun u => if u = w0 then some r0 else none := ⟨_, rfl⟩
                have hc3 : ResD H18 D1 ρ3 := ⟨_, hD18, fun u => by
                  have mg := merge_get (f := fun _ => v0) (u := u) (ps := [(kS w0, v0)]) (acc := []) fun q hq => ⟨w0, by rw [List.mem_singleton.mp hq], by rw [List.mem_singleton.mp hq]⟩
                  rw [hρ3]
                  show match (if u = w0 then some r0 else none) with
                    | none => valV (mergeK [] [(kS w0, v0)]) (.inr u) = none
                    | some r => ∃ v, valV (mergeK [] [(kS w0, v0)]) (.inr u) = some v ∧ RsAt H18 v r
                  by_cases hu0 : u = w0
                  · rw [if_pos hu0]
                    exact ⟨v0, mg.1 (by rw [hu0]; simp), rv0.same S18⟩
                  · rw [if_neg hu0]
                    exact mg.2 fun z => hu0 (by
                      have := List.mem_singleton.mp z
                      injection this)⟩
                have hB3 : RB ρ3 := fun u n e => by
                  rw [hρ3] at e
                  have e : (if u = w0 then some r0 else none) = some (Rs.val n) := e
                  split at e
                  · exact hGL.rb w0 n (by rw [hr0]; exact e)
                  · cases e
                refine ⟨dx1, fv, fl, s, fp, t, nmsT t, ρ3, h1, h3, h2, by omega, nok, by omega, hc3, hB3, (fun u hu => hu), fun tv H19 s19 htv => ?_⟩
                have S1519 := S1518.trans s19
                have p19 := s19 _ _ (S18 _ _ p1)
                refine ⟨fun c H' => c = false ∧ Same H19 H', ?cmp, ?end_⟩
                case cmp =>
                  have lso : ∀ u ∈ ((nmsT t).filter fun u => !decide (u = w0)), So u := fun u hu => hso u (List.mem_filter.mp hu).1
                  refine ⟨by show 0 ≤ sizeLine; decide, fun z nz => ⟨.list (stD ((nmsT t).filter fun u => !decide (u = w0))), .list [], .lst (SqL.of (same_new nz _ _ p19)) (st_dp _), .lst (SqL.of upd_same) .nil, st_sh lso, by rfl, ?_⟩⟩
                  rw [st_nil]
                  have sz := same_new (o := .lst []) nz
                  have p20 := sz _ _ p19
                  cases hlk : (nmsT t).filter fun u => !decide (u = w0) with
                  | nil =>
                    show if (!decide (([] : List Str) = [])) = true then _ else _
                    rw [if_neg (by rw [decide_eq_true rfl]; exact Bool.false_ne_true)]
                    exact ⟨rfl, sz⟩
                  | cons u0 ur =>
                    rw [hlk] at p20 lso
                    show if (!decide (u0 :: ur = [])) = true then _ else _
                    rw [if_pos (by rw [decide_eq_false (fun z => nomatch z)] <;> rfl)]
                    have su := lso u0 List.mem_cons_self
                    have tt3 : toldT w0 ρ3 (nmsT t) t = .inl ("unknown", u0) := by
                      have g : goneB (fun u => (ρ3 u).isSome || decide (u ∈ [w0])) (nmsT t) = some u0 := by
                        unfold goneB
                        have hf : (fun u => !(fun u => (ρ3 u).isSome || decide (u ∈ [w0])) u) = fun u => !decide (u = w0) := by
                          funext u
                          show (!((ρ3 u).isSome || decide (u ∈ [w0]))) = !decide (u = w0)
                          rw [hρ3]
                          show (!((if u = w0 then some r0 else none : Option Rs).isSome || decide (u ∈ [w0]))) = !decide (u = w0)
                          by_cases hz : u = w0 <;> simp [hz]
                        rw [hf, ← List.head?_filter, hlk] <;> rfl
                      unfold toldT
                      rw [g]
                    rw [tt3] at htv
                    obtain ⟨m1, rfl, hm1⟩ := htv
                    refine ⟨_, .str u0, SqL.of p20, atI_hd, by show 3 ≤ sizeLine; decide, fun m2 nm2 => ?_⟩
                    have sm2 := same_new (o := .lst [V.str "unknown", .str u0, .bl true]) nm2
                    obtain ⟨q1, q2, q3⟩ := tell_data (K := K) (.lit "unknown") su (sm2 _ _ (sz _ _ hm1))
                    obtain ⟨q4, _, _⟩ := tell_data (K := K) (H := upd (upd H19 z (.lst [])) m2 (.lst [V.str "unknown", .str u0, .bl true])) (.lit "unknown") su upd_same
                    refine ⟨_, _, q1, q4, q2, q2, ?_⟩
                    rw [q3]
                    exact ⟨rfl, sz.trans sm2⟩
                case end_ =>
                  rintro c H' ⟨rfl, s20⟩
                  show if false = true then _ else _
                  rw [if_neg Bool.false_ne_true]
                  have S := S1519.trans s20
                  exact ⟨⟨_, _, _, _, _, _, _, _, _, _, _, rfl⟩, S _ _ hl15, hR15.same S, (P15.same S).mono (by omega)⟩
    · exact h.elim
end
end Rk

set_option Elab.async false
set_option linter.all false
set_option maxRecDepth 100000
set_option maxHeartbeats 4000000
namespace Rk
open PySem PySem.Spec PyProof.Rows L2 CL Fm
abbrev sPeI : Stmt := inClass (topS 2) 0
abbrev nPeI : List Str := ["self", "index"]
abbrev pPeI : List Str := ["self", "index"]
theorem scPeI : FnScope nPeI pPeI (defScope sPeI) := ⟨rfl, rfl, rfl, by decide +kernel, rfl, by decide +kernel, by decide +kernel⟩
section
variable {P : Program} {w : World} {K : PySem.W.Frag} {mg : Str → Option Value} {base : Heap}
abbrev VeInit (K : PySem.W.Frag) : Prop := PySem.W.findCls K (.type "ValueError") (.type "type") "__init__" = some (.val (.builtin "ValueError.__init__"))
theorem ok_PeI {C fI : Addr} {fd : FuncData} (hV : mg "ValueError" = none) (vV : VeInit K) (ox : OexC K C) (nv : PySem.W.findIn K (.ref C) "index" = some none) (F : Fun K "__init__" "ParseError.__init__" sPeI fI fd) :
    FnOk P w K mg base CX0 1 fI fd ["self", "index"] (spErr C "index") := by
  refine F.ok scPeI (fun vs H Q E h => ?_) (fun cdv A outer s H vs Q E hr h => ?_)
  · unfold spErr at h
    split at h
    · rfl
    · exact h.elim
  · refine ⟨_, (pss_cons (ps_expr (pe_veinit (by rfl) hV vV (pa_cons (cv 0) (pa_cons pe_str pa_nil))))
  (pss_one (ps_ost (cv 0) (cv 1)))), ?_⟩
    unfold spErr at h
    split at h
    · rename_i a v
      obtain ⟨ha, q⟩ := h
      exact ⟨a, C, _, rfl, by show (1 : Nat) ≤ 1000; decide, ox, ha, a, C, rfl, ox, nv, .inl ⟨ha, q⟩⟩
    · exact h.elim
end
end Rk

set_option Elab.async false
set_option linter.all false
set_option maxRecDepth 100000
set_option maxHeartbeats 8000000
namespace Rk
open PySem PySem.Spec PyProof.Rows L2 CL Fm
theorem limit_of {h : Heap} {v : Value} {i : Int} (r : PySem.W.ReadsLit h v (.int i) []) : ∃ t, v = .int i t := by
  cases r
  exact ⟨_, rfl⟩
theorem all_mk {P : Program} {w : World} {K : PySem.W.Frag} {h : Heap} {mg : Str → Option Value} {fa : Addr} {f1 : Addr}
    {od1 an1 : Option Addr}
    {sl1 : Array (Option Value)}
    {oc1 kV1 dc1 pm1 ct1 cd1 : Value}
    {f2 : Addr}
    {od2 an2 : Option Addr}
    {sl2 : Array (Option Value)}
    {oc2 kV2 dc2 pm2 ct2 cd2 : Value}
    {f3 : Addr}
    {od3 an3 : Option Addr}
    {sl3 : Array (Option Value)}
    {oc3 kV3 dc3 pm3 ct3 cd3 : Value}
    {f4 : Addr}
    {od4 an4 : Option Addr}
    {sl4 : Array (Option Value)}
    {oc4 kV4 dc4 pm4 ct4 cd4 : Value}
    {f5 : Addr}
    {od5 an5 : Option Addr}
    {sl5 : Array (Option Value)}
    {oc5 kV5 dc5 pm5 ct5 cd5 : Value}
    {f6 : Addr}
    {od6 an6 : Option Addr}
    {sl6 : Array (Option Value)}
    {oc6 kV6 dc6 pm6 ct6 cd6 : Value}
    {f7 : Addr}
    {od7 an7 : Option Addr}
    {sl7 : Array (Option Value)}
    {oc7 kV7 dc7 pm7 ct7 cd7 : Value}
    {f8 : Addr}
    {od8 an8 : Option Addr}
    {sl8 : Array (Option Value)}
    {oc8 kV8 dc8 pm8 ct8 cd8 : Value}
    {f9 : Addr}
    {od9 an9 : Option Addr}
    {sl9 : Array (Option Value)}
    {oc9 kV9 dc9 pm9 ct9 cd9 : Value}
    {f10 : Addr}
    {od10 an10 : Option Addr}
    {sl10 : Array (Option Value)}
    {oc10 kV10 dc10 pm10 ct10 cd10 : Value}
    {f11 : Addr}
    {od11 an11 : Option Addr}
    {sl11 : Array (Option Value)}
    {oc11 kV11 dc11 pm11 ct11 cd11 : Value}
    {f12 : Addr}
    {od12 an12 : Option Addr}
    {sl12 : Array (Option Value)}
    {oc12 kV12 dc12 pm12 ct12 cd12 : Value}
    {f13 : Addr}
    {od13 an13 : Option Addr}
    {sl13 : Array (Option Value)}
    {oc13 kV13 dc13 pm13 ct13 cd13 : Value}
    {f14 : Addr}
    {od14 an14 : Option Addr}
    {sl14 : Array (Option Value)}
    {oc14 kV14 dc14 pm14 ct14 cd14 : Value}
    {f15 : Addr}
    {od15 an15 : Option Addr}
    {sl15 : Array (Option Value)}
    {oc15 kV15 dc15 pm15 ct15 cd15 : Value}
    {f16 : Addr}
    {od16 an16 : Option Addr}
    {sl16 : Array (Option Value)}
    {oc16 kV16 dc16 pm16 ct16 cd16 : Value}
    {f17 : Addr}
    {od17 an17 : Option Addr}
    {sl17 : Array (Option Value)}
    {oc17 kV17 dc17 pm17 ct17 cd17 : Value}
    {f18 : Addr}
    {od18 an18 : Option Addr}
    {sl18 : Array (Option Value)}
    {oc18 kV18 dc18 pm18 ct18 cd18 : Value}
    {f19 : Addr}
    {od19 an19 : Option Addr}
    {sl19 : Array (Option Value)}
    {oc19 kV19 dc19 pm19 ct19 cd19 : Value}
    {f20 : Addr}
    {od20 an20 : Option Addr}
    {sl20 : Array (Option Value)}
    {oc20 kV20 dc20 pm20 ct20 cd20 : Value}
    {f21 : Addr}
    {od21 an21 : Option Addr}
    {sl21 : Array (Option Value)}
    {oc21 kV21 dc21 pm21 ct21 cd21 : Value}
    {f22 : Addr}
    {od22 an22 : Option Addr}
    {sl22 : Array (Option Value)}
    {oc22 kV22 dc22 pm22 ct22 cd22 : Value}
    {f23 : Addr}
    {od23 an23 : Option Addr}
    {sl23 : Array (Option Value)}
    {oc23 kV23 dc23 pm23 ct23 cd23 : Value}
    {f24 : Addr}
    {od24 an24 : Option Addr}
    {sl24 : Array (Option Value)}
    {oc24 kV24 dc24 pm24 ct24 cd24 : Value}
    {tkD : Tok}
    {tkL : Tok}
    {tkMD : Tok}
    {tkML : Tok}
    {tkM : Tok}
    {tP : Addr}
    {dtP : Option Addr}
    {itP : Array Value}
    {ntP : Nat}
    {stP : Array (Option Value)}
    {tR : Addr}
    {dtR : Option Addr}
    {itR : Array Value}
    {ntR : Nat}
    {stR : Array (Option Value)}
    {CeP NeP : Addr}
    {nmeP qeP : Str}
    {bseP bmeP sueP : List Value}
    {sneP : List Str}
    {abeP : Bool}
    {coeP : Option Bool}
    {ddeP : Option Addr}
    {kaeP kbeP kceP kdeP keeP : Option Value}
    {feP : Addr}
    {odeP aneP : Option Addr}
    {sleP : Array (Option Value)}
    {oceP kVeP dceP pmeP cteP cdeP : Value}
    {CeN NeN : Addr}
    {nmeN qeN : Str}
    {bseN sueN : List Value}
    {sneN : List Str}
    {abeN : Bool}
    {coeN : Option Bool}
    {ddeN : Option Addr}
    {kaeN kbeN kceN kdeN keeN : Option Value}
    {feN : Addr}
    {odeN aneN : Option Addr}
    {sleN : Array (Option Value)}
    {oceN kVeN dceN pmeN cteN cdeN : Value}
    {CeL NeL : Addr}
    {nmeL qeL : Str}
    {bseL bmeL sueL : List Value}
    {sneL : List Str}
    {abeL : Bool}
    {coeL : Option Bool}
    {ddeL : Option Addr}
    {kaeL kbeL kceL kdeL keeL : Option Value}
    {feL : Addr}
    {odeL aneL : Option Addr}
    {sleL : Array (Option Value)}
    {oceL kVeL dceL pmeL cteL cdeL : Value}
    {CeA NeA : Addr}
    {nmeA qeA : Str}
    {bseA sueA : List Value}
    {sneA : List Str}
    {abeA : Bool}
    {coeA : Option Bool}
    {ddeA : Option Addr}
    {kaeA kbeA kceA kdeA keeA : Option Value}
    {feA : Addr}
    {odeA aneA : Option Addr}
    {sleA : Array (Option Value)}
    {oceA kVeA dceA pmeA cteA cdeA : Value}
    {CQ : Addr}
    {fr0 : Addr}
    {odr0 anr0 : Option Addr}
    {slr0 : Array (Option Value)}
    {ocr0 kVr0 dcr0 pmr0 ctr0 cdr0 : Value}
    {fr1 : Addr}
    {odr1 anr1 : Option Addr}
    {slr1 : Array (Option Value)}
    {ocr1 kVr1 dcr1 pmr1 ctr1 cdr1 : Value}
    {fr2 : Addr}
    {odr2 anr2 : Option Addr}
    {slr2 : Array (Option Value)}
    {ocr2 kVr2 dcr2 pmr2 ctr2 cdr2 : Value}
    {fr3 : Addr}
    {odr3 anr3 : Option Addr}
    {slr3 : Array (Option Value)}
    {ocr3 kVr3 dcr3 pmr3 ctr3 cdr3 : Value}
    {fr4 : Addr}
    {odr4 anr4 : Option Addr}
    {slr4 : Array (Option Value)}
    {ocr4 kVr4 dcr4 pmr4 ctr4 cdr4 : Value}
    {fr5 : Addr}
    {odr5 anr5 : Option Addr}
    {slr5 : Array (Option Value)}
    {ocr5 kVr5 dcr5 pmr5 ctr5 cdr5 : Value}
    {fr6 : Addr}
    {odr6 anr6 : Option Addr}
    {slr6 : Array (Option Value)}
    {ocr6 kVr6 dcr6 pmr6 ctr6 cdr6 : Value}
    {fr7 : Addr}
    {odr7 anr7 : Option Addr}
    {slr7 : Array (Option Value)}
    {ocr7 kVr7 dcr7 pmr7 ctr7 cdr7 : Value}
    {fr8 : Addr}
    {odr8 anr8 : Option Addr}
    {slr8 : Array (Option Value)}
    {ocr8 kVr8 dcr8 pmr8 ctr8 cdr8 : Value}
    {fr9 : Addr}
    {odr9 anr9 : Option Addr}
    {slr9 : Array (Option Value)}
    {ocr9 kVr9 dcr9 pmr9 ctr9 cdr9 : Value}
    {CF : Addr}
    {fq0 : Addr}
    {odq0 anq0 : Option Addr}
    {slq0 : Array (Option Value)}
    {ocq0 kVq0 dcq0 pmq0 ctq0 cdq0 : Value}
    {fq1 : Addr}
    {odq1 anq1 : Option Addr}
    {slq1 : Array (Option Value)}
    {ocq1 kVq1 dcq1 pmq1 ctq1 cdq1 : Value}
    {fq3 : Addr}
    {odq3 anq3 : Option Addr}
    {slq3 : Array (Option Value)}
    {ocq3 kVq3 dcq3 pmq3 ctq3 cdq3 : Value} (X : K.In h) (G : h.Ns mainGlobals mg) (hfa : mg "law" = some (.ref fa)) (hL : ∃ tl, mg "LIMIT" = some (.int 1000000000000000000000000000000 tl))
    (n_isinstance : PySem.W.nsIn K mainGlobals "isinstance" = some none)
    (n_int : PySem.W.nsIn K mainGlobals "int" = some none)
    (n_str : PySem.W.nsIn K mainGlobals "str" = some none)
    (n_len : PySem.W.nsIn K mainGlobals "len" = some none)
    (n_tuple : PySem.W.nsIn K mainGlobals "tuple" = some none)
    (n_sorted : PySem.W.nsIn K mainGlobals "sorted" = some none)
    (n_set : PySem.W.nsIn K mainGlobals "set" = some none)
    (n_abs : PySem.W.nsIn K mainGlobals "abs" = some none)
    (n_max : PySem.W.nsIn K mainGlobals "max" = some none)
    (n_min : PySem.W.nsIn K mainGlobals "min" = some none)
    (n_range : PySem.W.nsIn K mainGlobals "range" = some none)
    (n_list : PySem.W.nsIn K mainGlobals "list" = some none)
    (n_repr : PySem.W.nsIn K mainGlobals "repr" = some none)
    (n_dict : PySem.W.nsIn K mainGlobals "dict" = some none)
    (n_all : PySem.W.nsIn K mainGlobals "all" = some none)
    (n_ValueError : PySem.W.nsIn K mainGlobals "ValueError" = some none)
    (n_KeyError : PySem.W.nsIn K mainGlobals "KeyError" = some none)
    (n_ArithmeticError : PySem.W.nsIn K mainGlobals "ArithmeticError" = some none)
    (a1 : PySem.W.nsIn K mainGlobals "operated" = some (some (.ref f1)))
    (l1 : K.lookup f1 = some ⟨oc1, od1, .func (PySem.W.fnOf "operated" "operated" (defArgs sOper) (defBody sOper) (defScope sOper) .none kV1 dc1 pm1 an1 cd1 ct1), sl1⟩)
    (c1 : PySem.W.codeIn K cd1 "operated" = true)
    (k1 : PySem.W.keepIn K (.ref f1) = true)
    (a2 : PySem.W.nsIn K mainGlobals "result_of" = some (some (.ref f2)))
    (l2 : K.lookup f2 = some ⟨oc2, od2, .func (PySem.W.fnOf "result_of" "result_of" (defArgs sRsOf) (defBody sRsOf) (defScope sRsOf) .none kV2 dc2 pm2 an2 cd2 ct2), sl2⟩)
    (c2 : PySem.W.codeIn K cd2 "result_of" = true)
    (k2 : PySem.W.keepIn K (.ref f2) = true)
    (a3 : PySem.W.nsIn K mainGlobals "_law_reads" = some (some (.ref f3)))
    (l3 : K.lookup f3 = some ⟨oc3, od3, .func (PySem.W.fnOf "_law_reads" "_law_reads" (defArgs sReads) (defBody sReads) (defScope sReads) .none kV3 dc3 pm3 an3 cd3 ct3), sl3⟩)
    (c3 : PySem.W.codeIn K cd3 "_law_reads" = true)
    (k3 : PySem.W.keepIn K (.ref f3) = true)
    (a4 : PySem.W.nsIn K mainGlobals "_law_exact" = some (some (.ref f4)))
    (l4 : K.lookup f4 = some ⟨oc4, od4, .func (PySem.W.fnOf "_law_exact" "_law_exact" (defArgs sEx) (defBody sEx) (defScope sEx) .none kV4 dc4 pm4 an4 cd4 ct4), sl4⟩)
    (c4 : PySem.W.codeIn K cd4 "_law_exact" = true)
    (k4 : PySem.W.keepIn K (.ref f4) = true)
    (a5 : PySem.W.nsIn K mainGlobals "_law_draw" = some (some (.ref f5)))
    (l5 : K.lookup f5 = some ⟨oc5, od5, .func (PySem.W.fnOf "_law_draw" "_law_draw" (defArgs sDraw) (defBody sDraw) (defScope sDraw) .none kV5 dc5 pm5 an5 cd5 ct5), sl5⟩)
    (c5 : PySem.W.codeIn K cd5 "_law_draw" = true)
    (k5 : PySem.W.keepIn K (.ref f5) = true)
    (a6 : PySem.W.nsIn K mainGlobals "_law_pick" = some (some (.ref f6)))
    (l6 : K.lookup f6 = some ⟨oc6, od6, .func (PySem.W.fnOf "_law_pick" "_law_pick" (defArgs sPick) (defBody sPick) (defScope sPick) .none kV6 dc6 pm6 an6 cd6 ct6), sl6⟩)
    (c6 : PySem.W.codeIn K cd6 "_law_pick" = true)
    (k6 : PySem.W.keepIn K (.ref f6) = true)
    (a7 : PySem.W.nsIn K mainGlobals "_law_around" = some (some (.ref f7)))
    (l7 : K.lookup f7 = some ⟨oc7, od7, .func (PySem.W.fnOf "_law_around" "_law_around" (defArgs sAround) (defBody sAround) (defScope sAround) .none kV7 dc7 pm7 an7 cd7 ct7), sl7⟩)
    (c7 : PySem.W.codeIn K cd7 "_law_around" = true)
    (k7 : PySem.W.keepIn K (.ref f7) = true)
    (a8 : PySem.W.nsIn K mainGlobals "_law_great" = some (some (.ref f8)))
    (l8 : K.lookup f8 = some ⟨oc8, od8, .func (PySem.W.fnOf "_law_great" "_law_great" (defArgs sGreat) (defBody sGreat) (defScope sGreat) .none kV8 dc8 pm8 an8 cd8 ct8), sl8⟩)
    (c8 : PySem.W.codeIn K cd8 "_law_great" = true)
    (k8 : PySem.W.keepIn K (.ref f8) = true)
    (a9 : PySem.W.nsIn K mainGlobals "_law_names" = some (some (.ref f9)))
    (l9 : K.lookup f9 = some ⟨oc9, od9, .func (PySem.W.fnOf "_law_names" "_law_names" (defArgs sNames) (defBody sNames) (defScope sNames) .none kV9 dc9 pm9 an9 cd9 ct9), sl9⟩)
    (c9 : PySem.W.codeIn K cd9 "_law_names" = true)
    (k9 : PySem.W.keepIn K (.ref f9) = true)
    (a10 : PySem.W.nsIn K mainGlobals "_law_gap" = some (some (.ref f10)))
    (l10 : K.lookup f10 = some ⟨oc10, od10, .func (PySem.W.fnOf "_law_gap" "_law_gap" (defArgs sGap) (defBody sGap) (defScope sGap) .none kV10 dc10 pm10 an10 cd10 ct10), sl10⟩)
    (c10 : PySem.W.codeIn K cd10 "_law_gap" = true)
    (k10 : PySem.W.keepIn K (.ref f10) = true)
    (a11 : PySem.W.nsIn K mainGlobals "_law_tree" = some (some (.ref f11)))
    (l11 : K.lookup f11 = some ⟨oc11, od11, .func (PySem.W.fnOf "_law_tree" "_law_tree" (defArgs sTree) (defBody sTree) (defScope sTree) .none kV11 dc11 pm11 an11 cd11 ct11), sl11⟩)
    (c11 : PySem.W.codeIn K cd11 "_law_tree" = true)
    (k11 : PySem.W.keepIn K (.ref f11) = true)
    (a12 : PySem.W.nsIn K mainGlobals "_law_text_of" = some (some (.ref f12)))
    (l12 : K.lookup f12 = some ⟨oc12, od12, .func (PySem.W.fnOf "_law_text_of" "_law_text_of" (defArgs sTextOf) (defBody sTextOf) (defScope sTextOf) .none kV12 dc12 pm12 an12 cd12 ct12), sl12⟩)
    (c12 : PySem.W.codeIn K cd12 "_law_text_of" = true)
    (k12 : PySem.W.keepIn K (.ref f12) = true)
    (a13 : PySem.W.nsIn K mainGlobals "_law_formula" = some (some (.ref f13)))
    (l13 : K.lookup f13 = some ⟨oc13, od13, .func (PySem.W.fnOf "_law_formula" "_law_formula" (defArgs sForm) (defBody sForm) (defScope sForm) .none kV13 dc13 pm13 an13 cd13 ct13), sl13⟩)
    (c13 : PySem.W.codeIn K cd13 "_law_formula" = true)
    (k13 : PySem.W.keepIn K (.ref f13) = true)
    (a14 : PySem.W.nsIn K mainGlobals "_law_worth" = some (some (.ref f14)))
    (l14 : K.lookup f14 = some ⟨oc14, od14, .func (PySem.W.fnOf "_law_worth" "_law_worth" (defArgs sWorth) (defBody sWorth) (defScope sWorth) .none kV14 dc14 pm14 an14 cd14 ct14), sl14⟩)
    (c14 : PySem.W.codeIn K cd14 "_law_worth" = true)
    (k14 : PySem.W.keepIn K (.ref f14) = true)
    (a15 : PySem.W.nsIn K mainGlobals "_law_results" = some (some (.ref f15)))
    (l15 : K.lookup f15 = some ⟨oc15, od15, .func (PySem.W.fnOf "_law_results" "_law_results" (defArgs sResults) (defBody sResults) (defScope sResults) .none kV15 dc15 pm15 an15 cd15 ct15), sl15⟩)
    (c15 : PySem.W.codeIn K cd15 "_law_results" = true)
    (k15 : PySem.W.keepIn K (.ref f15) = true)
    (a16 : PySem.W.nsIn K mainGlobals "_law_is_line" = some (some (.ref f16)))
    (l16 : K.lookup f16 = some ⟨oc16, od16, .func (PySem.W.fnOf "_law_is_line" "_law_is_line" (defArgs sIsL) (defBody sIsL) (defScope sIsL) .none kV16 dc16 pm16 an16 cd16 ct16), sl16⟩)
    (c16 : PySem.W.codeIn K cd16 "_law_is_line" = true)
    (k16 : PySem.W.keepIn K (.ref f16) = true)
    (a17 : PySem.W.nsIn K mainGlobals "_law_failures" = some (some (.ref f17)))
    (l17 : K.lookup f17 = some ⟨oc17, od17, .func (PySem.W.fnOf "_law_failures" "_law_failures" (defArgs sFls) (defBody sFls) (defScope sFls) .none kV17 dc17 pm17 an17 cd17 ct17), sl17⟩)
    (c17 : PySem.W.codeIn K cd17 "_law_failures" = true)
    (k17 : PySem.W.keepIn K (.ref f17) = true)
    (a18 : PySem.W.nsIn K mainGlobals "_law_told" = some (some (.ref f18)))
    (l18 : K.lookup f18 = some ⟨oc18, od18, .func (PySem.W.fnOf "_law_told" "_law_told" (defArgs sTold3) (defBody sTold3) (defScope sTold3) .none kV18 dc18 pm18 an18 cd18 ct18), sl18⟩)
    (c18 : PySem.W.codeIn K cd18 "_law_told" = true)
    (k18 : PySem.W.keepIn K (.ref f18) = true)
    (a19 : PySem.W.nsIn K mainGlobals "_law_pen" = some (some (.ref f19)))
    (l19 : K.lookup f19 = some ⟨oc19, od19, .func (PySem.W.fnOf "_law_pen" "_law_pen" (defArgs sPen) (defBody sPen) (defScope sPen) .none kV19 dc19 pm19 an19 cd19 ct19), sl19⟩)
    (c19 : PySem.W.codeIn K cd19 "_law_pen" = true)
    (k19 : PySem.W.keepIn K (.ref f19) = true)
    (a20 : PySem.W.nsIn K mainGlobals "law" = some (some (.ref f20)))
    (l20 : K.lookup f20 = some ⟨oc20, od20, .func (PySem.W.fnOf "law" "law" (defArgs sLaw) (defBody sLaw) (defScope sLaw) .none kV20 dc20 pm20 an20 cd20 ct20), sl20⟩)
    (c20 : PySem.W.codeIn K cd20 "law" = true)
    (k20 : PySem.W.keepIn K (.ref f20) = true)
    (a21 : PySem.W.nsIn K mainGlobals "names_in" = some (some (.ref f21)))
    (l21 : K.lookup f21 = some ⟨oc21, od21, .func (PySem.W.fnOf "names_in" "names_in" (defArgs sNin) (defBody sNin) (defScope sNin) .none kV21 dc21 pm21 an21 cd21 ct21), sl21⟩)
    (c21 : PySem.W.codeIn K cd21 "names_in" = true)
    (k21 : PySem.W.keepIn K (.ref f21) = true)
    (a22 : PySem.W.nsIn K mainGlobals "is_linear" = some (some (.ref f22)))
    (l22 : K.lookup f22 = some ⟨oc22, od22, .func (PySem.W.fnOf "is_linear" "is_linear" (defArgs sLin) (defBody sLin) (defScope sLin) .none kV22 dc22 pm22 an22 cd22 ct22), sl22⟩)
    (c22 : PySem.W.codeIn K cd22 "is_linear" = true)
    (k22 : PySem.W.keepIn K (.ref f22) = true)
    (a23 : PySem.W.nsIn K mainGlobals "line_of" = some (some (.ref f23)))
    (l23 : K.lookup f23 = some ⟨oc23, od23, .func (PySem.W.fnOf "line_of" "line_of" (defArgs sLine) (defBody sLine) (defScope sLine) .none kV23 dc23 pm23 an23 cd23 ct23), sl23⟩)
    (c23 : PySem.W.codeIn K cd23 "line_of" = true)
    (k23 : PySem.W.keepIn K (.ref f23) = true)
    (a24 : PySem.W.nsIn K mainGlobals "_law_values" = some (some (.ref f24)))
    (l24 : K.lookup f24 = some ⟨oc24, od24, .func (PySem.W.fnOf "_law_values" "_law_values" (defArgs sVals3) (defBody sVals3) (defScope sVals3) .none kV24 dc24 pm24 an24 cd24 ct24), sl24⟩)
    (c24 : PySem.W.codeIn K cd24 "_law_values" = true)
    (k24 : PySem.W.keepIn K (.ref f24) = true)
    (kD : PySem.W.nsIn K mainGlobals "DIGITS" = some (some (.str "0123456789" tkD)))
    (kL : PySem.W.nsIn K mainGlobals "LETTERS" = some (some (.str "abcdefghijklmnopqrstuvwxyz" tkL)))
    (kMD : PySem.W.nsIn K mainGlobals "MAX_DIGITS" = some (some (.int 31 tkMD)))
    (kML : PySem.W.nsIn K mainGlobals "MAX_LETTERS" = some (some (.int 8 tkML)))
    (kM : PySem.W.nsIn K mainGlobals "MAX_LENGTH" = some (some (.int 100 tkM)))
    (atP : PySem.W.nsIn K mainGlobals "PAIRS" = some (some (.ref tP)))
    (ltP : K.lookup tP = some ⟨.type "tuple", dtP, .seq itP ntP, stP⟩)
    (ztP : itP.size ≤ sizeLine)
    (vtP : Vals [V.str "min", V.str "max"] itP.toList)
    (atR : PySem.W.nsIn K mainGlobals "RESERVED" = some (some (.ref tR)))
    (ltR : K.lookup tR = some ⟨.type "tuple", dtR, .seq itR ntR, stR⟩)
    (ztR : itR.size ≤ sizeLine)
    (vtR : Vals [V.str "min", V.str "max", V.str "self"] itR.toList)
    (vV : PySem.W.findCls K (.type "ValueError") (.type "type") "__init__" = some (.val (.builtin "ValueError.__init__")))
    (geP : PySem.W.nsIn K mainGlobals "ParseError" = some (some (.ref CeP)))
    (lceP : K.lookup CeP = some (excClassObj nmeP qeP CeP NeP bseP bmeP true sneP sueP abeP coeP ddeP kaeP kbeP kceP kdeP keeP "ValueError.__new__"))
    (rveP : PySem.HandSPX.refsVE bmeP = true)
    (saeP : PySem.W.findIn K (.ref CeP) "__setattr__" = some (some (.builtin "object.__setattr__")))
    (beeP : PySem.W.subIn K (.ref CeP) (.type "BaseException") = some true)
    (veeP : PySem.W.subIn K (.ref CeP) (.type "ValueError") = some true)
    (tyeP : PySem.W.typeIn K (.ref CeP) = some (.type "type"))
    (ke_eP : PySem.W.keepIn K (.ref CeP) = true)
    (gaeP : PySem.W.findIn K (.ref CeP) "__getattribute__" = some (some (.builtin "BaseException.__getattribute__")))
    (ggeP : PySem.W.findIn K (.ref CeP) "__getattr__" = some none)
    (hdeP : PySem.W.hasDictIn K CeP = true)
    (nveP : PySem.W.findIn K (.ref CeP) "index" = some none)
    (sueP_ : PySem.W.subIn K (.ref CeP) (.ref CeP) = some true)
    (aeP : PySem.W.findIn K (.ref CeP) "__init__" = some (some (.ref feP)))
    (leP : K.lookup feP = some ⟨oceP, odeP, .func (PySem.W.fnOf "__init__" "ParseError.__init__" (defArgs sPeI) (defBody sPeI) (defScope sPeI) .none kVeP dceP pmeP aneP cdeP cteP), sleP⟩)
    (ceP : PySem.W.codeIn K cdeP "ParseError.__init__" = true)
    (keP : PySem.W.keepIn K (.ref feP) = true)
    (tfeP : PySem.W.typeIn K (.ref feP) = some (.type "function"))
    (vK : PySem.W.findCls K (.type "KeyError") (.type "type") "__init__" = some (.val (.builtin "KeyError.__init__")))
    (geN : PySem.W.nsIn K mainGlobals "UnknownName" = some (some (.ref CeN)))
    (lceN : K.lookup CeN = some (excClassObj nmeN qeN CeN NeN bseN keTail true sneN sueN abeN coeN ddeN kaeN kbeN kceN kdeN keeN "LookupError.__new__"))
    (oveN : PySem.W.excOver K CeN keTail = true)
    (saeN : PySem.W.findIn K (.ref CeN) "__setattr__" = some (some (.builtin "object.__setattr__")))
    (beeN : PySem.W.subIn K (.ref CeN) (.type "BaseException") = some true)
    (veeN : PySem.W.subIn K (.ref CeN) (.type "KeyError") = some true)
    (tyeN : PySem.W.typeIn K (.ref CeN) = some (.type "type"))
    (ke_eN : PySem.W.keepIn K (.ref CeN) = true)
    (gaeN : PySem.W.findIn K (.ref CeN) "__getattribute__" = some (some (.builtin "BaseException.__getattribute__")))
    (ggeN : PySem.W.findIn K (.ref CeN) "__getattr__" = some none)
    (hdeN : PySem.W.hasDictIn K CeN = true)
    (nveN : PySem.W.findIn K (.ref CeN) "name" = some none)
    (sueN_ : PySem.W.subIn K (.ref CeN) (.ref CeN) = some true)
    (aeN : PySem.W.findIn K (.ref CeN) "__init__" = some (some (.ref feN)))
    (leN : K.lookup feN = some ⟨oceN, odeN, .func (PySem.W.fnOf "__init__" "UnknownName.__init__" (defArgs sUnI) (defBody sUnI) (defScope sUnI) .none kVeN dceN pmeN aneN cdeN cteN), sleN⟩)
    (ceN : PySem.W.codeIn K cdeN "UnknownName.__init__" = true)
    (keN : PySem.W.keepIn K (.ref feN) = true)
    (tfeN : PySem.W.typeIn K (.ref feN) = some (.type "function"))
    (geL : PySem.W.nsIn K mainGlobals "NotLinear" = some (some (.ref CeL)))
    (lceL : K.lookup CeL = some (excClassObj nmeL qeL CeL NeL bseL bmeL true sneL sueL abeL coeL ddeL kaeL kbeL kceL kdeL keeL "ValueError.__new__"))
    (rveL : PySem.HandSPX.refsVE bmeL = true)
    (saeL : PySem.W.findIn K (.ref CeL) "__setattr__" = some (some (.builtin "object.__setattr__")))
    (beeL : PySem.W.subIn K (.ref CeL) (.type "BaseException") = some true)
    (veeL : PySem.W.subIn K (.ref CeL) (.type "ValueError") = some true)
    (tyeL : PySem.W.typeIn K (.ref CeL) = some (.type "type"))
    (ke_eL : PySem.W.keepIn K (.ref CeL) = true)
    (gaeL : PySem.W.findIn K (.ref CeL) "__getattribute__" = some (some (.builtin "BaseException.__getattribute__")))
    (ggeL : PySem.W.findIn K (.ref CeL) "__getattr__" = some none)
    (hdeL : PySem.W.hasDictIn K CeL = true)
    (nveL : PySem.W.findIn K (.ref CeL) "name" = some none)
    (sueL_ : PySem.W.subIn K (.ref CeL) (.ref CeL) = some true)
    (aeL : PySem.W.findIn K (.ref CeL) "__init__" = some (some (.ref feL)))
    (leL : K.lookup feL = some ⟨oceL, odeL, .func (PySem.W.fnOf "__init__" "NotLinear.__init__" (defArgs sNlI) (defBody sNlI) (defScope sNlI) .none kVeL dceL pmeL aneL cdeL cteL), sleL⟩)
    (ceL : PySem.W.codeIn K cdeL "NotLinear.__init__" = true)
    (keL : PySem.W.keepIn K (.ref feL) = true)
    (tfeL : PySem.W.typeIn K (.ref feL) = some (.type "function"))
    (vA : PySem.W.findCls K (.type "ArithmeticError") (.type "type") "__init__" = some (.val (.builtin "ArithmeticError.__init__")))
    (geA : PySem.W.nsIn K mainGlobals "Failed" = some (some (.ref CeA)))
    (lceA : K.lookup CeA = some (excClassObj nmeA qeA CeA NeA bseA arTail true sneA sueA abeA coeA ddeA kaeA kbeA kceA kdeA keeA "ArithmeticError.__new__"))
    (oveA : PySem.W.excOver K CeA arTail = true)
    (saeA : PySem.W.findIn K (.ref CeA) "__setattr__" = some (some (.builtin "object.__setattr__")))
    (beeA : PySem.W.subIn K (.ref CeA) (.type "BaseException") = some true)
    (veeA : PySem.W.subIn K (.ref CeA) (.type "ArithmeticError") = some true)
    (tyeA : PySem.W.typeIn K (.ref CeA) = some (.type "type"))
    (ke_eA : PySem.W.keepIn K (.ref CeA) = true)
    (gaeA : PySem.W.findIn K (.ref CeA) "__getattribute__" = some (some (.builtin "BaseException.__getattribute__")))
    (ggeA : PySem.W.findIn K (.ref CeA) "__getattr__" = some none)
    (hdeA : PySem.W.hasDictIn K CeA = true)
    (nveA : PySem.W.findIn K (.ref CeA) "word" = some none)
    (sueA_ : PySem.W.subIn K (.ref CeA) (.ref CeA) = some true)
    (aeA : PySem.W.findIn K (.ref CeA) "__init__" = some (some (.ref feA)))
    (leA : K.lookup feA = some ⟨oceA, odeA, .func (PySem.W.fnOf "__init__" "Failed.__init__" (defArgs sFaI) (defBody sFaI) (defScope sFaI) .none kVeA dceA pmeA aneA cdeA cteA), sleA⟩)
    (ceA : PySem.W.codeIn K cdeA "Failed.__init__" = true)
    (keA : PySem.W.keepIn K (.ref feA) = true)
    (tfeA : PySem.W.typeIn K (.ref feA) = some (.type "function"))
    (sxeAeL : PySem.W.subIn K (.ref CeA) (.ref CeL) = some false)
    (sxeNeL : PySem.W.subIn K (.ref CeN) (.ref CeL) = some false)
    (sxeNeA : PySem.W.subIn K (.ref CeN) (.ref CeA) = some false)
    (gCQ : PySem.W.nsIn K mainGlobals "Reader" = some (some (.ref CQ)))
    (pgQ : PySem.W.plainGet K CQ Str.empty = true)
    (hiQ : PySem.W.hasDictIn K CQ = true)
    (poQ : PySem.W.plainOver K CQ = true)
    (scQ : PySem.W.findIn K (.ref CQ) "__setattr__" = some (some (.builtin "object.__setattr__")))
    (mkQ : PySem.W.makesIn K CQ = true)
    (kpQ : PySem.W.keepIn K (.ref CQ) = true)
    (naQ_chars : PySem.W.findIn K (.ref CQ) "chars" = some none)
    (naQ_spot : PySem.W.findIn K (.ref CQ) "spot" = some none)
    (naQ_found_names : PySem.W.findIn K (.ref CQ) "found_names" = some none)
    (ar0 : PySem.W.findIn K (.ref CQ) "__init__" = some (some (.ref fr0)))
    (lr0 : K.lookup fr0 = some ⟨ocr0, odr0, .func (PySem.W.fnOf "__init__" "Reader.__init__" (defArgs sRInit) (defBody sRInit) (defScope sRInit) .none kVr0 dcr0 pmr0 anr0 cdr0 ctr0), slr0⟩)
    (cr0 : PySem.W.codeIn K cdr0 "Reader.__init__" = true)
    (kr0 : PySem.W.keepIn K (.ref fr0) = true)
    (ir0 : PySem.W.isFn K (.ref fr0) = true)
    (ar1 : PySem.W.findIn K (.ref CQ) "skip" = some (some (.ref fr1)))
    (lr1 : K.lookup fr1 = some ⟨ocr1, odr1, .func (PySem.W.fnOf "skip" "Reader.skip" (defArgs sSkip) (defBody sSkip) (defScope sSkip) .none kVr1 dcr1 pmr1 anr1 cdr1 ctr1), slr1⟩)
    (cr1 : PySem.W.codeIn K cdr1 "Reader.skip" = true)
    (kr1 : PySem.W.keepIn K (.ref fr1) = true)
    (ir1 : PySem.W.isFn K (.ref fr1) = true)
    (ar2 : PySem.W.findIn K (.ref CQ) "need" = some (some (.ref fr2)))
    (lr2 : K.lookup fr2 = some ⟨ocr2, odr2, .func (PySem.W.fnOf "need" "Reader.need" (defArgs sNeed) (defBody sNeed) (defScope sNeed) .none kVr2 dcr2 pmr2 anr2 cdr2 ctr2), slr2⟩)
    (cr2 : PySem.W.codeIn K cdr2 "Reader.need" = true)
    (kr2 : PySem.W.keepIn K (.ref fr2) = true)
    (ir2 : PySem.W.isFn K (.ref fr2) = true)
    (ar3 : PySem.W.findIn K (.ref CQ) "whole" = some (some (.ref fr3)))
    (lr3 : K.lookup fr3 = some ⟨ocr3, odr3, .func (PySem.W.fnOf "whole" "Reader.whole" (defArgs sWhole) (defBody sWhole) (defScope sWhole) .none kVr3 dcr3 pmr3 anr3 cdr3 ctr3), slr3⟩)
    (cr3 : PySem.W.codeIn K cdr3 "Reader.whole" = true)
    (kr3 : PySem.W.keepIn K (.ref fr3) = true)
    (ir3 : PySem.W.isFn K (.ref fr3) = true)
    (ar4 : PySem.W.findIn K (.ref CQ) "read_sum" = some (some (.ref fr4)))
    (lr4 : K.lookup fr4 = some ⟨ocr4, odr4, .func (PySem.W.fnOf "read_sum" "Reader.read_sum" (defArgs sRSum) (defBody sRSum) (defScope sRSum) .none kVr4 dcr4 pmr4 anr4 cdr4 ctr4), slr4⟩)
    (cr4 : PySem.W.codeIn K cdr4 "Reader.read_sum" = true)
    (kr4 : PySem.W.keepIn K (.ref fr4) = true)
    (ir4 : PySem.W.isFn K (.ref fr4) = true)
    (ar5 : PySem.W.findIn K (.ref CQ) "read_term" = some (some (.ref fr5)))
    (lr5 : K.lookup fr5 = some ⟨ocr5, odr5, .func (PySem.W.fnOf "read_term" "Reader.read_term" (defArgs sRTerm) (defBody sRTerm) (defScope sRTerm) .none kVr5 dcr5 pmr5 anr5 cdr5 ctr5), slr5⟩)
    (cr5 : PySem.W.codeIn K cdr5 "Reader.read_term" = true)
    (kr5 : PySem.W.keepIn K (.ref fr5) = true)
    (ir5 : PySem.W.isFn K (.ref fr5) = true)
    (ar6 : PySem.W.findIn K (.ref CQ) "read_factor" = some (some (.ref fr6)))
    (lr6 : K.lookup fr6 = some ⟨ocr6, odr6, .func (PySem.W.fnOf "read_factor" "Reader.read_factor" (defArgs sRFac) (defBody sRFac) (defScope sRFac) .none kVr6 dcr6 pmr6 anr6 cdr6 ctr6), slr6⟩)
    (cr6 : PySem.W.codeIn K cdr6 "Reader.read_factor" = true)
    (kr6 : PySem.W.keepIn K (.ref fr6) = true)
    (ir6 : PySem.W.isFn K (.ref fr6) = true)
    (ar7 : PySem.W.findIn K (.ref CQ) "read_integer" = some (some (.ref fr7)))
    (lr7 : K.lookup fr7 = some ⟨ocr7, odr7, .func (PySem.W.fnOf "read_integer" "Reader.read_integer" (defArgs sRInt) (defBody sRInt) (defScope sRInt) .none kVr7 dcr7 pmr7 anr7 cdr7 ctr7), slr7⟩)
    (cr7 : PySem.W.codeIn K cdr7 "Reader.read_integer" = true)
    (kr7 : PySem.W.keepIn K (.ref fr7) = true)
    (ir7 : PySem.W.isFn K (.ref fr7) = true)
    (ar8 : PySem.W.findIn K (.ref CQ) "read_word" = some (some (.ref fr8)))
    (lr8 : K.lookup fr8 = some ⟨ocr8, odr8, .func (PySem.W.fnOf "read_word" "Reader.read_word" (defArgs sRWord) (defBody sRWord) (defScope sRWord) .none kVr8 dcr8 pmr8 anr8 cdr8 ctr8), slr8⟩)
    (cr8 : PySem.W.codeIn K cdr8 "Reader.read_word" = true)
    (kr8 : PySem.W.keepIn K (.ref fr8) = true)
    (ir8 : PySem.W.isFn K (.ref fr8) = true)
    (ar9 : PySem.W.findIn K (.ref CQ) "read_pair" = some (some (.ref fr9)))
    (lr9 : K.lookup fr9 = some ⟨ocr9, odr9, .func (PySem.W.fnOf "read_pair" "Reader.read_pair" (defArgs sRPair) (defBody sRPair) (defScope sRPair) .none kVr9 dcr9 pmr9 anr9 cdr9 ctr9), slr9⟩)
    (cr9 : PySem.W.codeIn K cdr9 "Reader.read_pair" = true)
    (kr9 : PySem.W.keepIn K (.ref fr9) = true)
    (ir9 : PySem.W.isFn K (.ref fr9) = true)
    (gCF : PySem.W.nsIn K mainGlobals "Formula" = some (some (.ref CF)))
    (pgF : PySem.W.plainGet K CF Str.empty = true)
    (hiF : PySem.W.hasDictIn K CF = true)
    (poF : PySem.W.plainOver K CF = true)
    (scF : PySem.W.findIn K (.ref CF) "__setattr__" = some (some (.builtin "object.__setattr__")))
    (mkF : PySem.W.makesIn K CF = true)
    (kpF : PySem.W.keepIn K (.ref CF) = true)
    (naF_tree : PySem.W.findIn K (.ref CF) "tree" = some none)
    (naF_own_reads : PySem.W.findIn K (.ref CF) "own_reads" = some none)
    (naF_text : PySem.W.findIn K (.ref CF) "text" = some none)
    (naF_names : PySem.W.findIn K (.ref CF) "names" = some none)
    (aq0 : PySem.W.findIn K (.ref CF) "__init__" = some (some (.ref fq0)))
    (lq0 : K.lookup fq0 = some ⟨ocq0, odq0, .func (PySem.W.fnOf "__init__" "Formula.__init__" (defArgs sFInit) (defBody sFInit) (defScope sFInit) .none kVq0 dcq0 pmq0 anq0 cdq0 ctq0), slq0⟩)
    (cq0 : PySem.W.codeIn K cdq0 "Formula.__init__" = true)
    (kq0 : PySem.W.keepIn K (.ref fq0) = true)
    (iq0 : PySem.W.isFn K (.ref fq0) = true)
    (aq1 : PySem.W.findIn K (.ref CF) "linear" = some (some (.ref fq1)))
    (lq1 : K.lookup fq1 = some ⟨ocq1, odq1, .func (PySem.W.fnOf "linear" "Formula.linear" (defArgs sLinear) (defBody sLinear) (defScope sLinear) .none kVq1 dcq1 pmq1 anq1 cdq1 ctq1), slq1⟩)
    (cq1 : PySem.W.codeIn K cdq1 "Formula.linear" = true)
    (kq1 : PySem.W.keepIn K (.ref fq1) = true)
    (iq1 : PySem.W.isFn K (.ref fq1) = true)
    (aq3 : PySem.W.findIn K (.ref CF) "need_known" = some (some (.ref fq3)))
    (lq3 : K.lookup fq3 = some ⟨ocq3, odq3, .func (PySem.W.fnOf "need_known" "Formula.need_known" (defArgs sNk) (defBody sNk) (defScope sNk) .none kVq3 dcq3 pmq3 anq3 cdq3 ctq3), slq3⟩)
    (cq3 : PySem.W.codeIn K cdq3 "Formula.need_known" = true)
    (kq3 : PySem.W.keepIn K (.ref fq3) = true)
    (iq3 : PySem.W.isFn K (.ref fq3) = true)
    : ∃ (cs : List (Addr × Addr)) (fd : FuncData) (sp : Sp), (∀ p ∈ cs, h.get? p.2 = some { cls := .none, data := .fields #[] }) ∧ (∀ p ∈ cs, K.lookup p.2 = none) ∧ (∀ p ∈ cs, PySem.W.CodeHd h p.1 p.2) ∧ (∀ (s : Shared) (u : Value), BindsTo s fd ⟨[u], []⟩ [("_law_script", u)]) ∧
      (∀ (H : Hp) (a : Addr) (ns : List Int), ns.length ≤ 63 → (∀ z ∈ ns, Builtin.Int.intBits z ≤ 1048576) → (∀ p ∈ cs, H p.2 = some (.tbl #[])) → SqL K H a (ns.map V.int) → sp [.ref a] H (fun v _ => v = .bl true) E0) ∧
      ∀ base : Heap, K.In base → base.Ns mainGlobals mg → (∀ p ∈ cs, LamX.TabB base mg p.1 p.2) → FnG P w K mg base CX0 115 fa fd ["_law_script"] sp := by
  have F1 : Fun K "operated" "operated" sOper f1 _ := fun_mk l1 c1 k1
  have b1 : Binds K _ pOper [] := F1.binds (ps := pOper) fun _ _ _ _ _ _ us hl => match us, hl with | [_, _, _], _ => rfl
  have A1 : FunAt K mg "operated" sOper pOper := ⟨_, _, F1, PySem.W.mg_of X G a1, b1⟩
  have F2 : Fun K "result_of" "result_of" sRsOf f2 _ := fun_mk l2 c2 k2
  have b2 : Binds K _ pRsOf [] := F2.binds (ps := pRsOf) fun _ _ _ _ _ _ us hl => match us, hl with | [_, _], _ => rfl
  have A2 : FunAt K mg "result_of" sRsOf pRsOf := ⟨_, _, F2, PySem.W.mg_of X G a2, b2⟩
  have F3 : Fun K "_law_reads" "_law_reads" sReads f3 _ := fun_mk l3 c3 k3
  have b3 : Binds K _ pReads [] := F3.binds (ps := pReads) fun _ _ _ _ _ _ us hl => match us, hl with | [_], _ => rfl
  have A3 : FunAt K mg "_law_reads" sReads pReads := ⟨_, _, F3, PySem.W.mg_of X G a3, b3⟩
  have F4 : Fun K "_law_exact" "_law_exact" sEx f4 _ := fun_mk l4 c4 k4
  have b4 : Binds K _ pEx [] := F4.binds (ps := pEx) fun _ _ _ _ _ _ us hl => match us, hl with | [_, _], _ => rfl
  have A4 : FunAt K mg "_law_exact" sEx pEx := ⟨_, _, F4, PySem.W.mg_of X G a4, b4⟩
  have F5 : Fun K "_law_draw" "_law_draw" sDraw f5 _ := fun_mk l5 c5 k5
  have b5 : Binds K _ pDraw [] := F5.binds (ps := pDraw) fun _ _ _ _ _ _ us hl => match us, hl with | [_, _], _ => rfl
  have A5 : FunAt K mg "_law_draw" sDraw pDraw := ⟨_, _, F5, PySem.W.mg_of X G a5, b5⟩
  have F6 : Fun K "_law_pick" "_law_pick" sPick f6 _ := fun_mk l6 c6 k6
  have b6 : Binds K _ pPick [] := F6.binds (ps := pPick) fun _ _ _ _ _ _ us hl => match us, hl with | [_, _], _ => rfl
  have A6 : FunAt K mg "_law_pick" sPick pPick := ⟨_, _, F6, PySem.W.mg_of X G a6, b6⟩
  have F7 : Fun K "_law_around" "_law_around" sAround f7 _ := fun_mk l7 c7 k7
  have b7 : Binds K _ pAround [] := F7.binds (ps := pAround) fun _ _ _ _ _ _ us hl => match us, hl with | [_, _], _ => rfl
  have A7 : FunAt K mg "_law_around" sAround pAround := ⟨_, _, F7, PySem.W.mg_of X G a7, b7⟩
  have F8 : Fun K "_law_great" "_law_great" sGreat f8 _ := fun_mk l8 c8 k8
  have b8 : Binds K _ pGreat [] := F8.binds (ps := pGreat) fun _ _ _ _ _ _ us hl => match us, hl with | [_, _], _ => rfl
  have A8 : FunAt K mg "_law_great" sGreat pGreat := ⟨_, _, F8, PySem.W.mg_of X G a8, b8⟩
  have F9 : Fun K "_law_names" "_law_names" sNames f9 _ := fun_mk l9 c9 k9
  have b9 : Binds K _ pNames [] := F9.binds (ps := pNames) fun _ _ _ _ _ _ us hl => match us, hl with | [_, _], _ => rfl
  have A9 : FunAt K mg "_law_names" sNames pNames := ⟨_, _, F9, PySem.W.mg_of X G a9, b9⟩
  have F10 : Fun K "_law_gap" "_law_gap" sGap f10 _ := fun_mk l10 c10 k10
  have b10 : Binds K _ pGap [] := F10.binds (ps := pGap) fun _ _ _ _ _ _ us hl => match us, hl with | [_, _], _ => rfl
  have A10 : FunAt K mg "_law_gap" sGap pGap := ⟨_, _, F10, PySem.W.mg_of X G a10, b10⟩
  have F11 : Fun K "_law_tree" "_law_tree" sTree f11 _ := fun_mk l11 c11 k11
  have b11 : Binds K _ pTree [] := F11.binds (ps := pTree) fun _ _ _ _ _ _ us hl => match us, hl with | [_, _, _], _ => rfl
  have A11 : FunAt K mg "_law_tree" sTree pTree := ⟨_, _, F11, PySem.W.mg_of X G a11, b11⟩
  have F12 : Fun K "_law_text_of" "_law_text_of" sTextOf f12 _ := fun_mk l12 c12 k12
  have b12 : Binds K _ pTextOf [] := F12.binds (ps := pTextOf) fun _ _ _ _ _ _ us hl => match us, hl with | [_, _, _, _], _ => rfl
  have A12 : FunAt K mg "_law_text_of" sTextOf pTextOf := ⟨_, _, F12, PySem.W.mg_of X G a12, b12⟩
  have F13 : Fun K "_law_formula" "_law_formula" sForm f13 _ := fun_mk l13 c13 k13
  have b13 : Binds K _ pForm [] := F13.binds (ps := pForm) fun _ _ _ _ _ _ us hl => match us, hl with | [_, _, _], _ => rfl
  have A13 : FunAt K mg "_law_formula" sForm pForm := ⟨_, _, F13, PySem.W.mg_of X G a13, b13⟩
  have F14 : Fun K "_law_worth" "_law_worth" sWorth f14 _ := fun_mk l14 c14 k14
  have b14 : Binds K _ pWorth [] := F14.binds (ps := pWorth) fun _ _ _ _ _ _ us hl => match us, hl with | [_, _], _ => rfl
  have A14 : FunAt K mg "_law_worth" sWorth pWorth := ⟨_, _, F14, PySem.W.mg_of X G a14, b14⟩
  have F15 : Fun K "_law_results" "_law_results" sResults f15 _ := fun_mk l15 c15 k15
  have b15 : Binds K _ pResults [] := F15.binds (ps := pResults) fun _ _ _ _ _ _ us hl => match us, hl with | [_, _], _ => rfl
  have A15 : FunAt K mg "_law_results" sResults pResults := ⟨_, _, F15, PySem.W.mg_of X G a15, b15⟩
  have F16 : Fun K "_law_is_line" "_law_is_line" sIsL f16 _ := fun_mk l16 c16 k16
  have b16 : Binds K _ pIsL [] := F16.binds (ps := pIsL) fun _ _ _ _ _ _ us hl => match us, hl with | [_, _], _ => rfl
  have A16 : FunAt K mg "_law_is_line" sIsL pIsL := ⟨_, _, F16, PySem.W.mg_of X G a16, b16⟩
  have F17 : Fun K "_law_failures" "_law_failures" sFls f17 _ := fun_mk l17 c17 k17
  have b17 : Binds K _ pFls [] := F17.binds (ps := pFls) fun _ _ _ _ _ _ us hl => match us, hl with | [_, _, _], _ => rfl
  have A17 : FunAt K mg "_law_failures" sFls pFls := ⟨_, _, F17, PySem.W.mg_of X G a17, b17⟩
  have F18 : Fun K "_law_told" "_law_told" sTold3 f18 _ := fun_mk l18 c18 k18
  have b18 : Binds K _ pTold3 [] := F18.binds (ps := pTold3) fun _ _ _ _ _ _ us hl => match us, hl with | [_, _, _], _ => rfl
  have A18 : FunAt K mg "_law_told" sTold3 pTold3 := ⟨_, _, F18, PySem.W.mg_of X G a18, b18⟩
  have F19 : Fun K "_law_pen" "_law_pen" sPen f19 _ := fun_mk l19 c19 k19
  have b19 : Binds K _ pPen [] := F19.binds (ps := pPen) fun _ _ _ _ _ _ us hl => match us, hl with | [_], _ => rfl
  have A19 : FunAt K mg "_law_pen" sPen pPen := ⟨_, _, F19, PySem.W.mg_of X G a19, b19⟩
  have F20 : Fun K "law" "law" sLaw f20 _ := fun_mk l20 c20 k20
  have b20 : Binds K _ pLaw [] := F20.binds (ps := pLaw) fun _ _ _ _ _ _ us hl => match us, hl with | [_], _ => rfl
  have A20 : FunAt K mg "law" sLaw pLaw := ⟨_, _, F20, PySem.W.mg_of X G a20, b20⟩
  have F21 : Fun K "names_in" "names_in" sNin f21 _ := fun_mk l21 c21 k21
  have b21 : Binds K _ pNin [] := F21.binds (ps := pNin) fun _ _ _ _ _ _ us hl => match us, hl with | [_], _ => rfl
  have A21 : FunAt K mg "names_in" sNin pNin := ⟨_, _, F21, PySem.W.mg_of X G a21, b21⟩
  have F22 : Fun K "is_linear" "is_linear" sLin f22 _ := fun_mk l22 c22 k22
  have b22 : Binds K _ pLin [] := F22.binds (ps := pLin) fun _ _ _ _ _ _ us hl => match us, hl with | [_, _], _ => rfl
  have A22 : FunAt K mg "is_linear" sLin pLin := ⟨_, _, F22, PySem.W.mg_of X G a22, b22⟩
  have F23 : Fun K "line_of" "line_of" sLine f23 _ := fun_mk l23 c23 k23
  have b23 : Binds K _ pLine [] := F23.binds (ps := pLine) fun _ _ _ _ _ _ us hl => match us, hl with | [_, _, _], _ => rfl
  have A23 : FunAt K mg "line_of" sLine pLine := ⟨_, _, F23, PySem.W.mg_of X G a23, b23⟩
  have F24 : Fun K "_law_values" "_law_values" sVals3 f24 _ := fun_mk l24 c24 k24
  have b24 : Binds K _ pVals3 [] := F24.binds (ps := pVals3) fun _ _ _ _ _ _ us hl => match us, hl with | [_, _, _], _ => rfl
  have A24 : FunAt K mg "_law_values" sVals3 pVals3 := ⟨_, _, F24, PySem.W.mg_of X G a24, b24⟩
  have TP : ∀ Hx, SqT K Hx tP [V.str "min", V.str "max"] := fun _ => .inr ⟨_, itP, _, ltP, rfl, rfl, ztP, vtP⟩
  have TR : ∀ Hx, SqT K Hx tR [V.str "min", V.str "max", V.str "self"] := fun _ => .inr ⟨_, itR, _, ltR, rfl, rfl, ztR, vtR⟩
  have FeP : Fun K "__init__" "ParseError.__init__" sPeI feP _ := fun_mk leP ceP keP
  have beP : Binds K _ pPeI [] := FeP.binds (ps := pPeI) fun _ _ _ _ _ _ us hl => match us, hl with | [_, _], _ => rfl
  have oxeP : OexC K CeP := ⟨⟨_, _, _, _, _, _, _, _, _, _, _, _, _, _, _, lceP, rveP⟩, saeP, beeP, tyeP, ke_eP⟩
  have emeP := PySem.W.exm_ref beeP hdeP tyeP sueP_
  have FeN : Fun K "__init__" "UnknownName.__init__" sUnI feN _ := fun_mk leN ceN keN
  have beN : Binds K _ pUnI [] := FeN.binds (ps := pUnI) fun _ _ _ _ _ _ us hl => match us, hl with | [_, _], _ => rfl
  have oxeN : OexK K CeN := ⟨⟨_, _, _, _, _, _, _, _, _, _, _, _, _, _, lceN⟩, oveN, hdeN, saeN, beeN, tyeN, ke_eN⟩
  have emeN := PySem.W.exm_ref beeN hdeN tyeN sueN_
  have FeL : Fun K "__init__" "NotLinear.__init__" sNlI feL _ := fun_mk leL ceL keL
  have beL : Binds K _ pNlI [] := FeL.binds (ps := pNlI) fun _ _ _ _ _ _ us hl => match us, hl with | [_, _], _ => rfl
  have oxeL : OexC K CeL := ⟨⟨_, _, _, _, _, _, _, _, _, _, _, _, _, _, _, lceL, rveL⟩, saeL, beeL, tyeL, ke_eL⟩
  have emeL := PySem.W.exm_ref beeL hdeL tyeL sueL_
  have FeA : Fun K "__init__" "Failed.__init__" sFaI feA _ := fun_mk leA ceA keA
  have beA : Binds K _ pFaI [] := FeA.binds (ps := pFaI) fun _ _ _ _ _ _ us hl => match us, hl with | [_, _], _ => rfl
  have oxeA : OexA K CeA := ⟨⟨_, _, _, _, _, _, _, _, _, _, _, _, _, _, lceA⟩, oveA, hdeA, saeA, beeA, tyeA, ke_eA⟩
  have emeA := PySem.W.exm_ref beeA hdeA tyeA sueA_
  have emeAeL := PySem.W.exm_ref beeL hdeL tyeL sxeAeL
  have emeNeL := PySem.W.exm_ref beeL hdeL tyeL sxeNeL
  have emeNeA := PySem.W.exm_ref beeA hdeA tyeA sxeNeA
  have Fr0 : Fun K "__init__" "Reader.__init__" sRInit fr0 _ := fun_mk lr0 cr0 kr0
  have br0 : Binds K _ pRInit [] := Fr0.binds (ps := pRInit) fun _ _ _ _ _ _ us hl => match us, hl with | [_, _], _ => rfl
  have Fr1 : Fun K "skip" "Reader.skip" sSkip fr1 _ := fun_mk lr1 cr1 kr1
  have br1 : Binds K _ pSkip [] := Fr1.binds (ps := pSkip) fun _ _ _ _ _ _ us hl => match us, hl with | [_], _ => rfl
  have Fr2 : Fun K "need" "Reader.need" sNeed fr2 _ := fun_mk lr2 cr2 kr2
  have br2 : Binds K _ pNeed [] := Fr2.binds (ps := pNeed) fun _ _ _ _ _ _ us hl => match us, hl with | [_, _], _ => rfl
  have Fr3 : Fun K "whole" "Reader.whole" sWhole fr3 _ := fun_mk lr3 cr3 kr3
  have br3 : Binds K _ pWhole [] := Fr3.binds (ps := pWhole) fun _ _ _ _ _ _ us hl => match us, hl with | [_], _ => rfl
  have Fr4 : Fun K "read_sum" "Reader.read_sum" sRSum fr4 _ := fun_mk lr4 cr4 kr4
  have br4 : Binds K _ pRSum [] := Fr4.binds (ps := pRSum) fun _ _ _ _ _ _ us hl => match us, hl with | [_], _ => rfl
  have Fr5 : Fun K "read_term" "Reader.read_term" sRTerm fr5 _ := fun_mk lr5 cr5 kr5
  have br5 : Binds K _ pRTerm [] := Fr5.binds (ps := pRTerm) fun _ _ _ _ _ _ us hl => match us, hl with | [_], _ => rfl
  have Fr6 : Fun K "read_factor" "Reader.read_factor" sRFac fr6 _ := fun_mk lr6 cr6 kr6
  have br6 : Binds K _ pRFac [] := Fr6.binds (ps := pRFac) fun _ _ _ _ _ _ us hl => match us, hl with | [_], _ => rfl
  have Fr7 : Fun K "read_integer" "Reader.read_integer" sRInt fr7 _ := fun_mk lr7 cr7 kr7
  have br7 : Binds K _ pRInt [] := Fr7.binds (ps := pRInt) fun _ _ _ _ _ _ us hl => match us, hl with | [_], _ => rfl
  have Fr8 : Fun K "read_word" "Reader.read_word" sRWord fr8 _ := fun_mk lr8 cr8 kr8
  have br8 : Binds K _ pRWord [] := Fr8.binds (ps := pRWord) fun _ _ _ _ _ _ us hl => match us, hl with | [_], _ => rfl
  have Fr9 : Fun K "read_pair" "Reader.read_pair" sRPair fr9 _ := fun_mk lr9 cr9 kr9
  have br9 : Binds K _ pRPair [] := Fr9.binds (ps := pRPair) fun _ _ _ _ _ _ us hl => match us, hl with | [_, _], _ => rfl
  have clQ : Cls K CQ := ⟨pgQ, hiQ, poQ, scQ⟩
  have Fq0 : Fun K "__init__" "Formula.__init__" sFInit fq0 _ := fun_mk lq0 cq0 kq0
  have bq0 : Binds K _ pFInit [] := Fq0.binds (ps := pFInit) fun _ _ _ _ _ _ us hl => match us, hl with | [_, _], _ => rfl
  have Fq1 : Fun K "linear" "Formula.linear" sLinear fq1 _ := fun_mk lq1 cq1 kq1
  have bq1 : Binds K _ pLinear [] := Fq1.binds (ps := pLinear) fun _ _ _ _ _ _ us hl => match us, hl with | [_, _, _], _ => rfl
  have clF : Cls K CF := ⟨pgF, hiF, poF, scF⟩
  have Fq3 : Fun K "need_known" "Formula.need_known" sNk fq3 _ := fun_mk lq3 cq3 kq3
  have bq3 : BindsV1 (PySem.W.fnOf "need_known" "Formula.need_known" (defArgs sNk) (defBody sNk) (defScope sNk) .none kVq3 dcq3 pmq3 anq3 cdq3 ctq3) ["self", "known", "more"] := fun us u hl => match us, hl with | [_, _], _ => rfl
  have nL : mg "len" = none := PySem.W.mg_none_of X G n_len
  obtain ⟨tl, hL'⟩ := hL
  have nI : mg "isinstance" = none := PySem.W.mg_none_of X G n_isinstance
  have BA : Blt mg := ⟨PySem.W.mg_none_of X G n_int, nL, PySem.W.mg_none_of X G n_abs, PySem.W.mg_none_of X G n_max, PySem.W.mg_none_of X G n_min⟩
  have BN : BltN mg := ⟨BA, PySem.W.mg_none_of X G n_range⟩
  have BT : BltT mg := ⟨BN, PySem.W.mg_none_of X G n_str⟩
  have BF : BltF mg := ⟨BT, nI, PySem.W.mg_none_of X G n_tuple⟩
  have BY : BltY3 mg := ⟨PySem.W.mg_none_of X G n_list, PySem.W.mg_none_of X G n_range, PySem.W.mg_none_of X G n_dict, nL, nI, PySem.W.mg_none_of X G n_tuple⟩
  have BE : BltE mg := ⟨PySem.W.mg_none_of X G n_max, PySem.W.mg_none_of X G n_min⟩
  have BR : BltR mg := ⟨BE, nI, PySem.W.mg_none_of X G n_tuple, PySem.W.mg_none_of X G n_abs⟩
  have BAl : BltA mg := ⟨PySem.W.mg_none_of X G n_all⟩
  have BDi : BltDi mg := ⟨PySem.W.mg_none_of X G n_dict⟩
  have BFi : BlF mg := ⟨nI, PySem.W.mg_none_of X G n_str, nL, PySem.W.mg_none_of X G n_tuple, PySem.W.mg_none_of X G n_sorted⟩
  have ef := hfa.symm.trans (PySem.W.mg_of X G a20)
  cases ef
  refine ⟨[], _, spLaw K, (fun p hp => nomatch hp), (fun p hp => nomatch hp), (fun p hp => nomatch hp), (fun s u => .of_eq (fd := PySem.W.fnOf "law" "law" (defArgs sLaw) (defBody sLaw) (defScope sLaw) .none kV20 dc20 pm20 an20 cd20 ct20) rfl), fun H a ns hn _ _ hS => ⟨ns, hS, hn, fun _ => rfl⟩, fun base KB GB _ => ?_⟩
  have vI0 := PySem.W.mg_none_of X G n_ValueError
  have hKE := PySem.W.mg_none_of X G n_KeyError
  have hAE := PySem.W.mg_none_of X G n_ArithmeticError
  have EP : ErrC P w K mg base "ParseError" CeP "index" := ⟨oxeP, PySem.W.mg_of X G geP, feP, _, aeP, tfeP, ok_PeI vI0 vV oxeP nveP FeP, beP⟩
  have EL : ErrC P w K mg base "NotLinear" CeL "name" := ⟨oxeL, PySem.W.mg_of X G geL, feL, _, aeL, tfeL, ok_NlI vI0 vV oxeL nveL FeL, beL⟩
  have EN : ErrK P w K mg base "UnknownName" CeN "name" := ⟨oxeN, PySem.W.mg_of X G geN, feN, _, aeN, tfeN, ok_UnI hKE vK oxeN nveN FeN, beN⟩
  have EA : ErrA P w K mg base "Failed" CeA "word" := ⟨oxeA, PySem.W.mg_of X G geA, feA, _, aeA, tfeA, ok_FaI hAE vA oxeA nveA FeA, beA⟩
  have mSk : MetG P w K mg base CX0 3 CQ "skip" ["self"] (spSkip CQ) := ⟨_, _, ⟨ar1, ir1, kr1⟩, .of (ok_skip clQ naQ_chars naQ_spot Fr1) (by decide), br1⟩
  have T : Tf P w K mg base CQ CeP tP tR := ⟨clQ, naQ_chars, naQ_spot, naQ_found_names, EP, mSk, PySem.W.mg_none_of X G n_int, ⟨_, PySem.W.mg_of X G kD⟩, ⟨_, PySem.W.mg_of X G kL⟩, ⟨_, PySem.W.mg_of X G kMD⟩, ⟨_, PySem.W.mg_of X G kML⟩, PySem.W.mg_of X G atP, PySem.W.mg_of X G atR, TP, TR⟩
  have TG : Tg P w K mg base CQ CeP tP tR := { T with need := ⟨_, _, ⟨ar2, ir2, kr2⟩, ok_need T Fr2, br2⟩, rint := ⟨_, _, ⟨ar7, ir7, kr7⟩, ok_int T Fr7, br7⟩ }
  have M : Rk.Ms K CQ := ⟨⟨_, _, ⟨ar4, ir4, kr4⟩, Fr4, br4⟩, ⟨_, _, ⟨ar5, ir5, kr5⟩, Fr5, br5⟩, ⟨_, _, ⟨ar6, ir6, kr6⟩, Fr6, br6⟩, ⟨_, _, ⟨ar8, ir8, kr8⟩, Fr8, br8⟩, ⟨_, _, ⟨ar9, ir9, kr9⟩, Fr9, br9⟩⟩
  have mW : MetG P w K mg base (L2.CX P w) 320 CQ "whole" ["self"] (spWhole CQ CeP) := ⟨_, _, ⟨ar3, ir3, kr3⟩, ok_whole TG (ih_all TG M 306) Fr3, br3⟩
  have FI : Fi P w K mg base CQ CeP CF fr0 := ⟨BFi, EP, ⟨_, PySem.W.mg_of X G kM⟩, PySem.W.mg_of X G gCQ, ⟨mkQ, ar0, ir0, kpQ⟩, ⟨_, ok_rinit clQ naQ_chars naQ_spot naQ_found_names Fr0, br0⟩, mW, clQ, clF, naF_tree, naF_own_reads, naF_text, naF_names, naQ_found_names⟩
  have TE : Te P w K mg base CF CeN := ⟨clF, naF_tree, naF_own_reads, naF_text, EN⟩
  have TLi : Tli P w K mg base CF CeN CeL CeA := { TE with nk := ⟨_, _, ⟨aq3, iq3, kq3⟩, ok_nk TE Fq3, bq3⟩, li := EL }
  have DOp := fun base => ok_oper (P := P) (w := w) (base := base) BE A1
  have DRs := fun base => ok_rsof (P := P) (w := w) (base := base) hL' DOp A2 6
  have DNi := fun base => ok_nin (P := P) (w := w) (base := base) A21 6
  have DLi := ok_lin (P := P) (w := w) (base := base) BAl (DNi base) A22 6
  have DLn := ok_line (P := P) (w := w) (base := base) EA (DNi base) (DRs base) A23 6
  have gF : mg "Formula" = some (.ref CF) := PySem.W.mg_of X G gCF
  have TT : Tt P w K mg base CF CeN CeL CeA fq1 := ⟨PySem.W.mg_of X G geN, PySem.W.mg_of X G geL, PySem.W.mg_of X G geA, ⟨aq1, iq1, kq1⟩, ⟨_, ok_linear TLi DLi DLn Fq1, bq1⟩, clF, ⟨gaeN, ggeN, beeN, hdeN⟩, ⟨gaeL, ggeL, beeL, hdeL⟩, ⟨gaeA, ggeA, beeA, hdeA⟩, nveN, nveL, nveA, veeN, veeL, veeA, emeL, emeAeL, emeA, emeNeL, emeNeA, emeN, nI, hKE, vI0, hAE⟩
  have LF : Lf3 P w K mg base CF CeP fq0 := ⟨gF, ⟨mkF, aq0, iq0, kpF⟩, ⟨_, ok_finit FI Fq0, bq0⟩⟩
  have DD := fun base => ok_dr (P := P) (w := w) (base := base) BA A5
  have DP := fun base => ok_pick (P := P) (w := w) (base := base) BA DD A6
  have DPS := fun base => ok_pickS (P := P) (w := w) (base := base) BA DD A6
  have DA := fun base => ok_around (P := P) (w := w) (base := base) BA DD A7
  have DG := fun base => ok_great (P := P) (w := w) (base := base) BA DD DA DP A8
  have DN := ok_names2 (P := P) (w := w) (base := base) BN DD DP DPS A9
  have DGap := fun base => ok_gap (P := P) (w := w) (base := base) BA DD DP A10
  have DT := fun base => ok_tree (P := P) (w := w) (base := base) BN DD DP DG A11 5
  have DX := fun base => ok_text (P := P) (w := w) (base := base) BT DD DGap A12 5
  have DF := ok_form (P := P) (w := w) (base := base) BF DP DGap DT DX A13
  have DRes := ok_results (P := P) (w := w) (base := base) (DA base) (DP base) (DG base) A15
  have DRe := ok_reads (P := P) (w := w) (base := base) BR A3 6
  have DEx := fun base => ok_exG (P := P) (w := w) (base := base) BE A4
  have DW := ok_worth (P := P) (w := w) (base := base) BR (fun base => ok_ex (DEx base 2)) A14 6
  have DIs := ok_isl (P := P) (w := w) (base := base) DRe A16 6
  have DFl := ok_fls (P := P) (w := w) (base := base) DRe DW A17 6
  have DTo := ok_told3 (P := P) (w := w) (base := base) TT A18
  have DV := ok_vals3 (P := P) (w := w) (base := base) BDi A24
  exact ok_law BY LF (ok_pen BY A19) (DD base) DN (DP base) (DG base) (DA base) DF DRes DRe DTo DFl DIs DV (DEx base 6) F20
end Rk

set_option Elab.async false
set_option linter.all false
open PySem PySem.W PySem.Calls PyProof.Rows
set_option maxRecDepth 100000 in
set_option maxHeartbeats 16000000 in
theorem PySem.Challenge.cw_solidnames_k03_linear_formulas_holds : PySem.Challenge.rw_solidnames_k03_linear_formulas.Holds := by
  w_on; o_law; k_head; (case hw => w_witness2)
  k_fill
  refine CL.top_walk (l := PySem.Challenge.rw_solidnames_k03_linear_formulas) (n := 63) (k := 115) (x := "_law_script") rfl (by decide) rfl ⟨rfl, by decide, by decide⟩ (fun w h Y => PySem.W.kIn_of Y) ?F
  case F =>
    intro w mg fa h Y XP KX G hmg
    have hL : ∃ tl, mg "LIMIT" = some (.int 1000000000000000000000000000000 tl) := by
      obtain ⟨v, e, r⟩ := XP.2.val ("LIMIT", .int 1000000000000000000000000000000) List.mem_cons_self
      obtain ⟨tl, rfl⟩ := Rk.limit_of r
      exact ⟨tl, e⟩
    refine' Rk.all_mk KX G hmg hL ?n_isinstance ?n_int ?n_str ?n_len ?n_tuple ?n_sorted ?n_set ?n_abs ?n_max ?n_min ?n_range ?n_list ?n_repr ?n_dict ?n_all ?n_ValueError ?n_KeyError ?n_ArithmeticError ?a1 ?l1 ?c1 ?k1 ?a2 ?l2 ?c2 ?k2 ?a3 ?l3 ?c3 ?k3 ?a4 ?l4 ?c4 ?k4 ?a5 ?l5 ?c5 ?k5 ?a6 ?l6 ?c6 ?k6 ?a7 ?l7 ?c7 ?k7 ?a8 ?l8 ?c8 ?k8 ?a9 ?l9 ?c9 ?k9 ?a10 ?l10 ?c10 ?k10 ?a11 ?l11 ?c11 ?k11 ?a12 ?l12 ?c12 ?k12 ?a13 ?l13 ?c13 ?k13 ?a14 ?l14 ?c14 ?k14 ?a15 ?l15 ?c15 ?k15 ?a16 ?l16 ?c16 ?k16 ?a17 ?l17 ?c17 ?k17 ?a18 ?l18 ?c18 ?k18 ?a19 ?l19 ?c19 ?k19 ?a20 ?l20 ?c20 ?k20 ?a21 ?l21 ?c21 ?k21 ?a22 ?l22 ?c22 ?k22 ?a23 ?l23 ?c23 ?k23 ?a24 ?l24 ?c24 ?k24 ?kD ?kL ?kMD ?kML ?kM ?atP ?ltP ?ztP ?vtP ?atR ?ltR ?ztR ?vtR ?vV ?geP ?lceP ?rveP ?saeP ?beeP ?veeP ?tyeP ?ke_eP ?gaeP ?ggeP ?hdeP ?nveP ?sueP_ ?aeP ?leP ?ceP ?keP ?tfeP ?vK ?geN ?lceN ?oveN ?saeN ?beeN ?veeN ?tyeN ?ke_eN ?gaeN ?ggeN ?hdeN ?nveN ?sueN_ ?aeN ?leN ?ceN ?keN ?tfeN ?geL ?lceL ?rveL ?saeL ?beeL ?veeL ?tyeL ?ke_eL ?gaeL ?ggeL ?hdeL ?nveL ?sueL_ ?aeL ?leL ?ceL ?keL ?tfeL ?vA ?geA ?lceA ?oveA ?saeA ?beeA ?veeA ?tyeA ?ke_eA ?gaeA ?ggeA ?hdeA ?nveA ?sueA_ ?aeA ?leA ?ceA ?keA ?tfeA ?sxeAeL ?sxeNeL ?sxeNeA ?gCQ ?pgQ ?hiQ ?poQ ?scQ ?mkQ ?kpQ ?naQ_chars ?naQ_spot ?naQ_found_names ?ar0 ?lr0 ?cr0 ?kr0 ?ir0 ?ar1 ?lr1 ?cr1 ?kr1 ?ir1 ?ar2 ?lr2 ?cr2 ?kr2 ?ir2 ?ar3 ?lr3 ?cr3 ?kr3 ?ir3 ?ar4 ?lr4 ?cr4 ?kr4 ?ir4 ?ar5 ?lr5 ?cr5 ?kr5 ?ir5 ?ar6 ?lr6 ?cr6 ?kr6 ?ir6 ?ar7 ?lr7 ?cr7 ?kr7 ?ir7 ?ar8 ?lr8 ?cr8 ?kr8 ?ir8 ?ar9 ?lr9 ?cr9 ?kr9 ?ir9 ?gCF ?pgF ?hiF ?poF ?scF ?mkF ?kpF ?naF_tree ?naF_own_reads ?naF_text ?naF_names ?aq0 ?lq0 ?cq0 ?kq0 ?iq0 ?aq1 ?lq1 ?cq1 ?kq1 ?iq1 ?aq3 ?lq3 ?cq3 ?kq3 ?iq3
    (case n_isinstance => k_is)
    (case n_int => k_is)
    (case n_str => k_is)
    (case n_len => k_is)
    (case n_tuple => k_is)
    (case n_sorted => k_is)
    (case n_set => k_is)
    (case n_abs => k_is)
    (case n_max => k_is)
    (case n_min => k_is)
    (case n_range => k_is)
    (case n_list => k_is)
    (case n_repr => k_is)
    (case n_dict => k_is)
    (case n_all => k_is)
    (case n_ValueError => k_is)
    (case n_KeyError => k_is)
    (case n_ArithmeticError => k_is)
    (case a1 => k_is)
    (case l1 => k_is)
    (case c1 => k_is)
    (case k1 => k_is)
    (case a2 => k_is)
    (case l2 => k_is)
    (case c2 => k_is)
    (case k2 => k_is)
    (case a3 => k_is)
    (case l3 => k_is)
    (case c3 => k_is)
    (case k3 => k_is)
    (case a4 => k_is)
    (case l4 => k_is)
    (case c4 => k_is)
    (case k4 => k_is)
    (case a5 => k_is)
    (case l5 => k_is)
    (case c5 => k_is)
    (case k5 => k_is)
    (case a6 => k_is)
    (case l6 => k_is)
    (case c6 => k_is)
    (case k6 => k_is)
    (case a7 => k_is)
    (case l7 => k_is)
    (case c7 => k_is)
    (case k7 => k_is)
    (case a8 => k_is)
    (case l8 => k_is)
    (case c8 => k_is)
    (case k8 => k_is)
    (case a9 => k_is)
    (case l9 => k_is)
    (case c9 => k_is)
    (case k9 => k_is)
    (case a10 => k_is)
    (case l10 => k_is)
    (case c10 => k_is)
    (case k10 => k_is)
    (case a11 => k_is)
    (case l11 => k_is)
    (case c11 => k_is)
    (case k11 => k_is)
    (case a12 => k_is)
    (case l12 => k_is)
    (case c12 => k_is)
    (case k12 => k_is)
    (case a13 => k_is)
    (case l13 => k_is)
    (case c13 => k_is)
    (case k13 => k_is)
    (case a14 => k_is)
    (case l14 => k_is)
    (case c14 => k_is)
    (case k14 => k_is)
    (case a15 => k_is)
    (case l15 => k_is)
    (case c15 => k_is)
    (case k15 => k_is)
    (case a16 => k_is)
    (case l16 => k_is)
    (case c16 => k_is)
    (case k16 => k_is)
    (case a17 => k_is)
    (case l17 => k_is)
    (case c17 => k_is)
    (case k17 => k_is)
    (case a18 => k_is)
    (case l18 => k_is)
    (case c18 => k_is)
    (case k18 => k_is)
    (case a19 => k_is)
    (case l19 => k_is)
    (case c19 => k_is)
    (case k19 => k_is)
    (case a20 => k_is)
    (case l20 => k_is)
    (case c20 => k_is)
    (case k20 => k_is)
    (case a21 => k_is)
    (case l21 => k_is)
    (case c21 => k_is)
    (case k21 => k_is)
    (case a22 => k_is)
    (case l22 => k_is)
    (case c22 => k_is)
    (case k22 => k_is)
    (case a23 => k_is)
    (case l23 => k_is)
    (case c23 => k_is)
    (case k23 => k_is)
    (case a24 => k_is)
    (case l24 => k_is)
    (case c24 => k_is)
    (case k24 => k_is)
    (case kD => k_is)
    (case kL => k_is)
    (case kMD => k_is)
    (case kML => k_is)
    (case kM => k_is)
    (case atP => k_is)
    (case ltP => k_is)
    (case ztP => decide)
    (case vtP => exact (.cons ⟨_, rfl⟩ (.cons ⟨_, rfl⟩ .nil)))
    (case atR => k_is)
    (case ltR => k_is)
    (case ztR => decide)
    (case vtR => exact (.cons ⟨_, rfl⟩ (.cons ⟨_, rfl⟩ (.cons ⟨_, rfl⟩ .nil))))
    (case vV => k_is)
    (case geP => k_is)
    (case lceP => k_is)
    (case rveP => rfl)
    (case saeP => k_is)
    (case beeP => k_is)
    (case veeP => k_is)
    (case tyeP => k_is)
    (case ke_eP => k_is)
    (case gaeP => k_is)
    (case ggeP => k_is)
    (case hdeP => k_is)
    (case nveP => k_is)
    (case sueP_ => first | rfl | k_is)
    (case aeP => k_is)
    (case leP => k_is)
    (case ceP => k_is)
    (case keP => k_is)
    (case tfeP => k_is)
    (case vK => k_is)
    (case geN => k_is)
    (case lceN => k_is)
    (case oveN => first | kx_is | rfl | kernel_rfl | (show PySem.W.excOver _ _ _ = true; unfold PySem.W.excOver; rfl))
    (case saeN => k_is)
    (case beeN => k_is)
    (case veeN => k_is)
    (case tyeN => k_is)
    (case ke_eN => k_is)
    (case gaeN => k_is)
    (case ggeN => k_is)
    (case hdeN => k_is)
    (case nveN => k_is)
    (case sueN_ => first | rfl | k_is)
    (case aeN => k_is)
    (case leN => k_is)
    (case ceN => k_is)
    (case keN => k_is)
    (case tfeN => k_is)
    (case geL => k_is)
    (case lceL => k_is)
    (case rveL => rfl)
    (case saeL => k_is)
    (case beeL => k_is)
    (case veeL => k_is)
    (case tyeL => k_is)
    (case ke_eL => k_is)
    (case gaeL => k_is)
    (case ggeL => k_is)
    (case hdeL => k_is)
    (case nveL => k_is)
    (case sueL_ => first | rfl | k_is)
    (case aeL => k_is)
    (case leL => k_is)
    (case ceL => k_is)
    (case keL => k_is)
    (case tfeL => k_is)
    (case vA => k_is)
    (case geA => k_is)
    (case lceA => k_is)
    (case oveA => first | kx_is | rfl | kernel_rfl | (show PySem.W.excOver _ _ _ = true; unfold PySem.W.excOver; rfl))
    (case saeA => k_is)
    (case beeA => k_is)
    (case veeA => k_is)
    (case tyeA => k_is)
    (case ke_eA => k_is)
    (case gaeA => k_is)
    (case ggeA => k_is)
    (case hdeA => k_is)
    (case nveA => k_is)
    (case sueA_ => first | rfl | k_is)
    (case aeA => k_is)
    (case leA => k_is)
    (case ceA => k_is)
    (case keA => k_is)
    (case tfeA => k_is)
    (case sxeAeL => k_is)
    (case sxeNeL => k_is)
    (case sxeNeA => k_is)
    (case gCQ => k_is)
    (case pgQ => k_is)
    (case hiQ => k_is)
    (case poQ => k_is)
    (case scQ => k_is)
    (case mkQ => k_is)
    (case kpQ => k_is)
    (case naQ_chars => k_is)
    (case naQ_spot => k_is)
    (case naQ_found_names => k_is)
    (case ar0 => k_is)
    (case lr0 => k_is)
    (case cr0 => k_is)
    (case kr0 => k_is)
    (case ir0 => k_is)
    (case ar1 => k_is)
    (case lr1 => k_is)
    (case cr1 => k_is)
    (case kr1 => k_is)
    (case ir1 => k_is)
    (case ar2 => k_is)
    (case lr2 => k_is)
    (case cr2 => k_is)
    (case kr2 => k_is)
    (case ir2 => k_is)
    (case ar3 => k_is)
    (case lr3 => k_is)
    (case cr3 => k_is)
    (case kr3 => k_is)
    (case ir3 => k_is)
    (case ar4 => k_is)
    (case lr4 => k_is)
    (case cr4 => k_is)
    (case kr4 => k_is)
    (case ir4 => k_is)
    (case ar5 => k_is)
    (case lr5 => k_is)
    (case cr5 => k_is)
    (case kr5 => k_is)
    (case ir5 => k_is)
    (case ar6 => k_is)
    (case lr6 => k_is)
    (case cr6 => k_is)
    (case kr6 => k_is)
    (case ir6 => k_is)
    (case ar7 => k_is)
    (case lr7 => k_is)
    (case cr7 => k_is)
    (case kr7 => k_is)
    (case ir7 => k_is)
    (case ar8 => k_is)
    (case lr8 => k_is)
    (case cr8 => k_is)
    (case kr8 => k_is)
    (case ir8 => k_is)
    (case ar9 => k_is)
    (case lr9 => k_is)
    (case cr9 => k_is)
    (case kr9 => k_is)
    (case ir9 => k_is)
    (case gCF => k_is)
    (case pgF => k_is)
    (case hiF => k_is)
    (case poF => k_is)
    (case scF => k_is)
    (case mkF => k_is)
    (case kpF => k_is)
    (case naF_tree => k_is)
    (case naF_own_reads => k_is)
    (case naF_text => k_is)
    (case naF_names => k_is)
    (case aq0 => k_is)
    (case lq0 => k_is)
    (case cq0 => k_is)
    (case kq0 => k_is)
    (case iq0 => k_is)
    (case aq1 => k_is)
    (case lq1 => k_is)
    (case cq1 => k_is)
    (case kq1 => k_is)
    (case iq1 => k_is)
    (case aq3 => k_is)
    (case lq3 => k_is)
    (case cq3 => k_is)
    (case kq3 => k_is)
    (case iq3 => k_is)
